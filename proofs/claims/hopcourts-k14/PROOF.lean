import PyProof.Rows.All
import Wide.All
import OpenK.AllK
import Wide.FinOn
import HandS.ForMost
import HandS.Walk
import HandS.IsInst
import HandS.ForExc
import HandS.CallSlots
import KE.KeyNested
import KE.KDictKeyed
import KE.DataEq
import KE.DataCmp
import KE.DataIsa
import KE.DataFind
import KE.DataMinMax
import KE.SortData
import HandS.TupSets
import HandS.TupAny
import HandS.TupMul
import HandS.Wide
import HandS.WideMore
import HandS.StrMore
import HandS.Text
import HandS.Style
import HandS.Replace
import PyProof.StrOps2
import HandS.TryOnly
import HandS.Deep
import PySem.Challenge.RW_hopcourts_k14_texts_of_books_and_courts
set_option Elab.async false
set_option linter.all false
set_option maxRecDepth 100000
set_option maxHeartbeats 1000000
section
namespace MP
open PySem PySem.Spec PyProof.Rows L2

abbrev D := PyData

/-- an object of the def's own, by its contents -/
inductive OB where
  | lst (xs : List D)
  | dct (kvs : List (D × D))
  | ins (C : Addr) (fs : List (Str × D))

/-- what is known of a slot -/
inductive S where
  | un
  | val (d : D)
  | ow (o : OB)
  | io (o : OB)

abbrev Mem := List S

/-- a result -/
inductive R where
  | val (d : D)
  | ow (o : OB)

mutual
/-- the key that a datum is, up to == -/
def keyOf : D → Option NestedKey
  | .none => some .none
  | .bool b => some (.num (if b = true then 1 else 0))
  | .int i => some (.num i)
  | .str x => some (.text x)
  | .tuple xs => (keysOf xs).map .tup
  | .list _ => none
  | .dict _ => none
def keysOf : List D → Option (List NestedKey)
  | [] => some []
  | x :: xs => (keyOf x).bind fun k => (keysOf xs).map fun ks => k :: ks
end

section
variable (P : Program) (w : World) (K : PySem.W.Frag)
def RawD (a : Addr) (xs : List (NestedKey × Addr × Value)) : HO := .ext fun h => ∃ o es ep, h.get? a = some o ∧ o.ExactDict ∧ o.data = .dict es ep ∧ es.toList = xs.map (entryOfKey (nestedKind P w))

/-- one entry of an own dict -/
def EntOk (F : Hp) (p : D × D) (q : NestedKey × Addr × Value) : Prop := keyOf p.1 = some q.1 ∧ q.1.depth ≤ 8 ∧ Dp K F (.ref q.2.1) p.1 ∧ ∃ v, RelV v q.2.2 ∧ Dp K F v p.2
def FldOk (F : Hp) (p : Str × V) (q : Str × D) : Prop := p.1 = q.1 ∧ Dp K F p.2 q.2

def ObOk (F H : Hp) (a : Addr) : OB → Prop
  | .lst xs => ∃ vs, H a = some (.lst vs) ∧ DpAll K F vs xs
  | .dct kvs => ∃ xs, H a = some (RawD P w a xs) ∧ (a == sysModules) = false ∧ Paired (EntOk K F) kvs xs ∧ (xs.map (·.1)).Nodup
  | .ins C fs => ∃ dx vs, H a = some (.ins C dx vs) ∧ Paired (FldOk K F) vs fs

/-- F2 goes on from F: what is new was not outside -/
structure Stp (G F F2 : Hp) : Prop where
  ex : Same F F2
  grow : ∀ b o, F2 b = some o → F b = some o ∨ G b = none
theorem Stp.refl (G F : Hp) : Stp G F F := ⟨Same.refl F, fun _ _ h => .inl h⟩
theorem Stp.trans {G F F1 F2 : Hp} (a : Stp G F F1) (b : Stp G F1 F2) : Stp G F F2 :=
  ⟨a.ex.trans b.ex, fun c o h => (b.grow c o h).elim (fun z => a.grow c o z) fun z => .inr z⟩
/-- .. and nothing at all is changed -/
structure Grw (F H F2 H2 : Hp) : Prop where
  ex : Same F F2
  al : Same H H2
  sF : Same F2 H2
  grow : ∀ b o, F2 b = some o → F b = some o ∨ H b = none
theorem Grw.refl {F H : Hp} (h : Same F H) : Grw F H F H := ⟨Same.refl F, Same.refl H, h, fun _ _ h => .inl h⟩
theorem Grw.trans {F H F1 H1 F2 H2 : Hp} (a : Grw F H F1 H1) (b : Grw F1 H1 F2 H2) : Grw F H F2 H2 :=
  ⟨a.ex.trans b.ex, a.al.trans b.al, b.sF, fun c o h => (b.grow c o h).elim (fun z => a.grow c o z) fun z => .inr (a.al.free z)⟩
theorem Grw.stp {G F H F2 H2 : Hp} (g : Grw F H F2 H2) (s : Same G H) : Stp G F F2 := ⟨g.ex, fun b o h => (g.grow b o h).imp id fun z => s.free z⟩
/-- a new frozen object -/
theorem Grw.new {F H : Hp} {p : Addr} {o : HO} (h : Same F H) (n : H p = none) : Grw F H (upd F p o) (upd H p o) := by
  have nf : F p = none := h.free n
  refine ⟨fun b x e => ?_, fun b x e => ?_, fun b x e => ?_, fun b x e => ?_⟩
  · rw [upd_ne (ne_of_none e nf)]; exact e
  · rw [upd_ne (ne_of_none e n)]; exact e
  · by_cases hb : b = p
    · subst hb; rw [upd_same] at e ⊢; exact e
    · rw [upd_ne hb] at e ⊢; exact h b x e
  · by_cases hb : b = p
    · subst hb; exact .inr n
    · rw [upd_ne hb] at e; exact .inl e
/-- a new object, not frozen -/
theorem Grw.fresh {F H : Hp} {p : Addr} {o : HO} (h : Same F H) (n : H p = none) : Grw F H F (upd H p o) := by
  refine ⟨Same.refl F, fun b x e => ?_, fun b x e => ?_, fun b x e => .inl e⟩
  · rw [upd_ne (ne_of_none e n)]; exact e
  · rw [upd_ne (ne_of_none (h b x e) n)]; exact h b x e

section
variable {K}
theorem same_rd {F F2 : Hp} (e : Same F F2) {a : Addr} {u : HO} (h : Rd F a u) : Rd F2 a u := by
  rcases h with h | ⟨o, h⟩
  · exact .inl (e _ _ h)
  · exact .inr ⟨o, e _ _ h⟩
theorem same_l {F F2 : Hp} (e : Same F F2) {a : Addr} {xs : List V} (h : SqL K F a xs) : SqL K F2 a xs := by
  rcases h with h | h
  · exact .inl (same_rd e h)
  · exact .inr h
theorem same_t {F F2 : Hp} (e : Same F F2) {a : Addr} {xs : List V} (h : SqT K F a xs) : SqT K F2 a xs := by
  rcases h with h | h
  · exact .inl (same_rd e h)
  · exact .inr h
mutual
theorem dp_mono {F F2 : Hp} (e : Same F F2) : ∀ (d : D) (v : V), Dp K F v d → Dp K F2 v d
  | .none, _, h => by cases h; exact .non
  | .bool b, _, h => by cases h; exact .bl b
  | .int i, _, h => by cases h; exact .int i
  | .str x, _, h => by cases h; exact .str x
  | .list ds, _, h => by
    cases h with
    | lst h1 h2 => exact .lst (same_l e h1) (dps_mono e ds _ h2)
  | .tuple ds, _, h => by
    cases h with
    | tup h1 h2 => exact .tup (same_t e h1) (dps_mono e ds _ h2)
  | .dict _, _, h => nomatch h
theorem dps_mono {F F2 : Hp} (e : Same F F2) : ∀ (ds : List D) (vs : List V), DpAll K F vs ds → DpAll K F2 vs ds
  | [], _, h => by cases h; exact .nil
  | d :: ds, _, h => by
    cases h with
    | cons h1 h2 => exact .cons (dp_mono e d _ h1) (dps_mono e ds _ h2)
end
theorem dps_len {F : Hp} : ∀ {ds : List D} {vs : List V}, DpAll K F vs ds → vs.length = ds.length
  | [], _, h => by cases h; rfl
  | d :: ds, _, h => by
    cases h with
    | cons h1 h2 => simp [dps_len h2]
theorem dps_get {F : Hp} : ∀ {ds : List D} {vs : List V} {i : Nat} {d : D}, DpAll K F vs ds → ds[i]? = some d → ∃ v, vs[i]? = some v ∧ Dp K F v d
  | [], _, _, _, h, e => by simp at e
  | x :: ds, _, 0, d, h, e => by
    cases h with
    | cons h1 h2 => simp at e; subst e; exact ⟨_, rfl, h1⟩
  | x :: ds, _, i + 1, d, h, e => by
    cases h with
    | cons h1 h2 =>
      obtain ⟨v, q1, q2⟩ := dps_get (i := i) (d := d) h2 (by simpa using e)
      exact ⟨v, by simpa using q1, q2⟩
theorem dps_app {F : Hp} : ∀ {ds es : List D} {vs us : List V}, DpAll K F vs ds → DpAll K F us es → DpAll K F (vs ++ us) (ds ++ es)
  | [], _, _, _, h, h' => by cases h; exact h'
  | d :: ds, _, _, _, h, h' => by
    cases h with
    | cons h1 h2 => exact .cons h1 (dps_app h2 h')
theorem dps_take {F : Hp} : ∀ (n : Nat) {ds : List D} {vs : List V}, DpAll K F vs ds → DpAll K F (vs.take n) (ds.take n)
  | 0, _, _, _ => by simp; exact .nil
  | n + 1, [], _, h => by cases h; exact .nil
  | n + 1, d :: ds, _, h => by
    cases h with
    | cons h1 h2 => exact .cons h1 (dps_take n h2)
theorem dps_drop {F : Hp} : ∀ (n : Nat) {ds : List D} {vs : List V}, DpAll K F vs ds → DpAll K F (vs.drop n) (ds.drop n)
  | 0, _, _, h => by simpa using h
  | n + 1, [], _, h => by cases h; exact .nil
  | n + 1, d :: ds, _, h => by
    cases h with
    | cons h1 h2 => exact dps_drop n h2
theorem dps_set {F : Hp} {x : V} {y : D} (q : Dp K F x y) : ∀ (n : Nat) {ds : List D} {vs : List V}, DpAll K F vs ds → DpAll K F (vs.set n x) (ds.set n y)
  | _, [], _, h => by cases h; exact .nil
  | 0, d :: ds, _, h => by
    cases h with
    | cons h1 h2 => exact .cons q h2
  | n + 1, d :: ds, _, h => by
    cases h with
    | cons h1 h2 => exact .cons h1 (dps_set q n h2)
end

section
variable {P w K}
theorem EntOk.mono {F F2 : Hp} (e : Same F F2) {p : D × D} {q : NestedKey × Addr × Value} (h : EntOk K F p q) : EntOk K F2 p q := by
  obtain ⟨h1, h2, h3, v, h4, h5⟩ := h
  exact ⟨h1, h2, dp_mono e _ _ h3, v, h4, dp_mono e _ _ h5⟩
theorem FldOk.mono {F F2 : Hp} (e : Same F F2) {p : Str × V} {q : Str × D} (h : FldOk K F p q) : FldOk K F2 p q := ⟨h.1, dp_mono e _ _ h.2⟩
theorem ObOk.mono {F F2 H H2 : Hp} {a : Addr} {o : OB} (e : Same F F2) (k : ∀ u, H a = some u → H2 a = some u) (h : ObOk P w K F H a o) : ObOk P w K F2 H2 a o := by
  cases o with
  | lst xs => obtain ⟨vs, h1, h2⟩ := h; exact ⟨vs, k _ h1, dps_mono e _ _ h2⟩
  | dct kvs => obtain ⟨xs, h1, h2, h3, h4⟩ := h; exact ⟨xs, k _ h1, h2, Paired.mapP h3 fun _ _ z => z.mono e, h4⟩
  | ins C fs => obtain ⟨dx, vs, h1, h2⟩ := h; exact ⟨dx, vs, k _ h1, Paired.mapP h2 fun _ _ z => z.mono e⟩
theorem ObOk.some {F H : Hp} {a : Addr} {o : OB} (h : ObOk P w K F H a o) : ∃ u, H a = some u := by
  cases o with
  | lst xs => obtain ⟨vs, h1, h2⟩ := h; exact ⟨_, h1⟩
  | dct kvs => obtain ⟨xs, h1, _⟩ := h; exact ⟨_, h1⟩
  | ins C fs => obtain ⟨dx, vs, h1, h2⟩ := h; exact ⟨_, h1⟩
end

/-- G: what stood outside and is to stay; a0: where the object handed in stands -/
def SlotOk (G : Hp) (a0 : Addr) (F H : Hp) (s : S) (o : Option V) : Prop := match s with
  | .un => True
  | .val d => ∃ v, o = some v ∧ Dp K F v d
  | .ow ob => ∃ a, o = some (.ref a) ∧ G a = none ∧ F a = none ∧ ObOk P w K F H a ob
  | .io ob => o = some (.ref a0) ∧ G a0 = none ∧ F a0 = none ∧ ObOk P w K F H a0 ob
def isOwn : S → Bool
  | .ow _ => true
  | .io _ => true
  | _ => false
structure Rep (G : Hp) (a0 : Addr) (F : Hp) (m : Mem) (σ : L2.St) (H : Hp) : Prop where
  sF : Same F H
  sG : Same G H
  len : m.length = σ.length
  at_ : ∀ (i : Nat) s, m[i]? = some s → SlotOk P w K G a0 F H s (σ[i]?.join)
  apart : ∀ (i j : Nat) s t a, m[i]? = some s → m[j]? = some t → isOwn s = true → isOwn t = true → σ[i]? = some (some (.ref a)) → σ[j]? = some (some (.ref a)) → i = j
end

section
variable {P : Program} {w : World} {K : PySem.W.Frag} {G F F2 H H2 : Hp} {a0 : Addr} {m : Mem} {σ : L2.St}
theorem join_some {o : Option (Option V)} {v : V} (h : o.join = some v) : o = some (some v) := by
  cases o with
  | none => cases h
  | some o => cases h; rfl
theorem Rep.grw (r : Rep P w K G a0 F m σ H) (g : Grw F H F2 H2) : Rep P w K G a0 F2 m σ H2 := by
  refine ⟨g.sF, r.sG.trans g.al, r.len, fun i s hs => ?_, r.apart⟩
  have q := r.at_ i s hs
  have keep : ∀ a, F a = none → (∃ u, H a = some u) → F2 a = none := fun a n ⟨u, hu⟩ => by
    cases e : F2 a with
    | none => rfl
    | some o =>
      rcases g.grow a o e with z | z
      · rw [n] at z; cases z
      · rw [hu] at z; cases z
  cases s with
  | un => trivial
  | val d => obtain ⟨v, h1, h2⟩ := q; exact ⟨v, h1, dp_mono g.ex _ _ h2⟩
  | ow ob => obtain ⟨a, h1, h2, h3, h4⟩ := q; exact ⟨a, h1, h2, keep a h3 h4.some, h4.mono g.ex fun u => g.al a u⟩
  | io ob => obtain ⟨h1, h2, h3, h4⟩ := q; exact ⟨h1, h2, keep a0 h3 h4.some, h4.mono g.ex fun u => g.al a0 u⟩
end
end MP

end
section
namespace MP
open PySem PySem.Spec L2

abbrev PF := Mem → Option D
abbrev PB := Mem → Option Bool
abbrev PL := Mem → Option (List D)

/-- the datum in a slot -/
def getV (m : Mem) (i : Nat) : Option D := match m[i]? with
  | some (.val d) => some d
  | _ => none
theorem getV_eq {m : Mem} {i : Nat} {d : D} (e : getV m i = some d) : m[i]? = some (.val d) := by
  unfold getV at e
  split at e
  · rename_i d' he
    cases e
    exact he
  · cases e
def asB : D → Option Bool
  | .bool b => some b
  | _ => none
def asI : D → Option Int
  | .int i => some i
  | _ => none

section
variable (P : Program) (w : World) (K : PySem.W.Frag)
def tP (f : PF) : TE := fun σ H Q => ∃ G a0 F m d, Rep P w K G a0 F m σ H ∧ f m = some d ∧ ∀ v F2 H2, Grw F H F2 H2 → Dp K F2 v d → Q v H2
def tQ (f : PB) : TT := fun σ H Q => ∃ G a0 F m b, Rep P w K G a0 F m σ H ∧ f m = some b ∧ ∀ F2 H2, Grw F H F2 H2 → Q b H2
def tAl (f : PL) : TA := fun σ H Q => ∃ G a0 F m ds, Rep P w K G a0 F m σ H ∧ f m = some ds ∧ ∀ vs F2 H2, Grw F H F2 H2 → DpAll K F2 vs ds → Q vs H2
end
abbrev GE (X : Cx) (e : Expr) (f : PF) : Prop := PE X e (tP X.prog X.w X.K f)
abbrev GT (X : Cx) (e : Expr) (f : PB) : Prop := PT X e (tQ X.prog X.w X.K f)
abbrev GW (X : Cx) (e : Expr) (f : PB) : Prop := PW X e (tQ X.prog X.w X.K f)
abbrev GA (X : Cx) (es : List Expr) (f : PL) : Prop := PA X es (tAl X.prog X.w X.K f)

theorem PE.of {X : Cx} {e : Expr} {t t' : TE} (h : PE X e t) (k : ∀ σ H Q, t' σ H Q → t σ H Q) : PE X e t' := ⟨fun pins s σ H Q I q => h.run pins s σ H Q I (k _ _ _ q)⟩
theorem PT.of {X : Cx} {e : Expr} {t t' : TT} (h : PT X e t) (k : ∀ σ H Q, t' σ H Q → t σ H Q) : PT X e t' := ⟨fun pins s σ H Q I q => h.run pins s σ H Q I (k _ _ _ q)⟩
theorem PW.of {X : Cx} {e : Expr} {t t' : TT} (h : PW X e t) (k : ∀ σ H Q, t' σ H Q → t σ H Q) : PW X e t' := ⟨fun wh pins s σ H Q I q => h.run wh pins s σ H Q I (k _ _ _ q)⟩
theorem PA.of {X : Cx} {es : List Expr} {t t' : TA} (h : PA X es t) (k : ∀ σ H Q, t' σ H Q → t σ H Q) : PA X es t' := ⟨fun pos pins s σ H Q I q => h.run pos pins s σ H Q I (k _ _ _ q)⟩
theorem PS.of {X : Cx} {e : Stmt} {t t' : TS} (h : PS X e t) (k : ∀ D σ H, t' D σ H → t D σ H) : PS X e t' := ⟨fun pins s σ H D I q => h.run pins s σ H D I (k _ _ _ q)⟩
theorem PSs.of {X : Cx} {e : List Stmt} {t t' : TS} (h : PSs X e t) (k : ∀ D σ H, t' D σ H → t D σ H) : PSs X e t' := ⟨fun pins s σ H D I q => h.run pins s σ H D I (k _ _ _ q)⟩

/-! ### by values -/
section
variable (K : PySem.W.Frag)
def rG1 (g : D → Option D) : V → Hp → VK → Prop := fun x H Q => ∃ F d e, Same F H ∧ Dp K F x d ∧ g d = some e ∧ ∀ v F2 H2, Grw F H F2 H2 → Dp K F2 v e → Q v H2
def rG2 (g : D → D → Option D) : R2 := fun x y H Q => ∃ F d1 d2 e, Same F H ∧ Dp K F x d1 ∧ Dp K F y d2 ∧ g d1 d2 = some e ∧ ∀ v F2 H2, Grw F H F2 H2 → Dp K F2 v e → Q v H2
def rGL (g : List D → Option D) : List V → Hp → VK → Prop := fun xs H Q => ∃ F ds e, Same F H ∧ DpAll K F xs ds ∧ g ds = some e ∧ ∀ v F2 H2, Grw F H F2 H2 → Dp K F2 v e → Q v H2
def rGM (g : D → List D → Option D) : V → List V → Hp → VK → Prop := fun x xs H Q => ∃ F d ds e, Same F H ∧ Dp K F x d ∧ DpAll K F xs ds ∧ g d ds = some e ∧ ∀ v F2 H2, Grw F H F2 H2 → Dp K F2 v e → Q v H2
def rGS (g : D → Option Int → Option Int → Option D) : V → Option Int → Option Int → Hp → VK → Prop := fun x lo hi H Q => ∃ F d e, Same F H ∧ Dp K F x d ∧ g d lo hi = some e ∧ ∀ v F2 H2, Grw F H F2 H2 → Dp K F2 v e → Q v H2
end

section
variable {X : Cx} {a b c e : Expr} {es : List Expr} {fa fb fc fe : PF} {ta tb : PB} {fs : PL} {pos : Pos}

/-! ### names, constants -/
theorem ge_var (i : Nat) {x : Str} (hN : X.N[i]? = some x := by rfl) (hv : Vis X.env.scope x := by first | exact Or.inl rfl | exact Or.inr (Or.inl rfl) | exact Or.inr (Or.inr rfl)) (hd : (x == ("__debug__" : Str)) = false := by decide)
    (hcd : (x == ("__classdict__" : Str)) = false := by decide) : GE X (.Name x pos) (fun m => getV m i) := by
  refine PE.of (pe_var (i := i) hN hv hd hcd) fun σ H Q h => ?_
  obtain ⟨G, a0, F, m, d, r, e, q⟩ := h
  obtain ⟨v, h1, h2⟩ := r.at_ i _ (getV_eq e)
  exact ⟨v, join_some h1, q v F H (Grw.refl r.sF) h2⟩
def lit (d : D) : PF := fun _ => some d
theorem ge_int {i : Int} {j : Nat} : GE X (.Constant (.int i) j pos) (lit (.int i)) := PE.of pe_int fun σ H Q h => by
  obtain ⟨G, a0, F, m, d, r, e, q⟩ := h
  cases e
  exact q _ F H (Grw.refl r.sF) (.int i)
theorem ge_bl {i : Bool} {j : Nat} : GE X (.Constant (.bool i) j pos) (lit (.bool i)) := PE.of pe_bl fun σ H Q h => by
  obtain ⟨G, a0, F, m, d, r, e, q⟩ := h
  cases e
  exact q _ F H (Grw.refl r.sF) (.bl i)
theorem ge_non {j : Nat} : GE X (.Constant .none j pos) (lit .none) := PE.of pe_non fun σ H Q h => by
  obtain ⟨G, a0, F, m, d, r, e, q⟩ := h
  cases e
  exact q _ F H (Grw.refl r.sF) .non
theorem ge_str {x : Str} {j : Nat} : GE X (.Constant (.str x) j pos) (lit (.str x)) := PE.of pe_str fun σ H Q h => by
  obtain ⟨G, a0, F, m, d, r, e, q⟩ := h
  cases e
  exact q _ F H (Grw.refl r.sF) (.str x)
/-- a constant of the module that is an int or a text -/
theorem ge_glob {x : Str} {v : V} {u : Value} {d : D} (hg : Gl X x) (hm : X.mg x = some u) (hr : RelV v u) (hdp : ∀ F, Dp X.K F v d) (hd : (x == ("__debug__" : Str)) = false := by decide) : GE X (.Name x pos) (lit d) := PE.of (pe_glob hg hm hr hd) fun σ H Q h => by
  obtain ⟨G, a0, F, m, d, r, e, q⟩ := h
  cases e
  exact q _ F H (Grw.refl r.sF) (hdp F)

/-! ### operators -/
def pOp (g : D → D → Option D) (fa fb : PF) : PF := fun m => (fa m).bind fun x => (fb m).bind fun y => g x y
def pUn (g : D → Option D) (fa : PF) : PF := fun m => (fa m).bind g
theorem op_red {g : D → D → Option D} {P : Program} {w : World} {K : PySem.W.Frag} {σ : L2.St} {H : Hp} {Q : VK} (h : tP P w K (pOp g fa fb) σ H Q) : tOp (rG2 K g) (tP P w K fa) (tP P w K fb) σ H Q := by
  obtain ⟨G, a0, F, m, d, r, e, q⟩ := h
  obtain ⟨x, h1, e2⟩ := Option.bind_eq_some_iff.mp e
  obtain ⟨y, h2, e3⟩ := Option.bind_eq_some_iff.mp e2
  refine ⟨G, a0, F, m, x, r, h1, fun v F1 H1 g1 p1 => ⟨G, a0, F1, m, y, r.grw g1, h2, fun u F2 H2 g2 p2 => ?_⟩⟩
  exact ⟨F2, x, y, d, g2.sF, dp_mono g2.ex _ _ p1, p2, e3, fun v' F3 H3 g3 p3 => q v' F3 H3 ((g1.trans g2).trans g3) p3⟩
theorem ge_op {op : Operator} {g : D → D → Option D} (ho : OpR X (binaryOp op) (rG2 X.K g)) (ha : GE X a fa) (hb : GE X b fb) : GE X (.BinOp a op b pos) (pOp g fa fb) := PE.of (pe_op ho ha hb) fun _ _ _ => op_red
theorem ge_un {op : UnaryOp} {g : D → Option D} (ho : UnR X (unaryOp op) (rG1 X.K g)) (ha : GE X a fa) : GE X (.UnaryOp op a pos) (pUn g fa) := PE.of (pe_un ho ha) fun σ H Q h => by
  obtain ⟨G, a0, F, m, d, r, e, q⟩ := h
  obtain ⟨x, h1, e2⟩ := Option.bind_eq_some_iff.mp e
  exact ⟨G, a0, F, m, x, r, h1, fun v F1 H1 g1 p1 => ⟨F1, x, d, g1.sF, p1, e2, fun v' F3 H3 g3 p3 => q v' F3 H3 (g1.trans g3) p3⟩⟩
theorem ge_cmp {op : CmpOp} {g : D → D → Option D} (ho : OpR X (compareOp op) (rG2 X.K g)) (ha : GE X a fa) (hb : GE X b fb) (hm : behindInMarks op b = false) : GE X (.Compare a [op] [b] pos) (pOp g fa fb) := PE.of (pe_cmpR ho ha hb hm) fun _ _ _ => op_red
/-- a value as a test -/
def qB (f : PF) : PB := fun m => (f m).bind asB
theorem asB_eq {d : D} {k : Bool} (h : asB d = some k) : d = .bool k := by
  cases d <;> first | (cases h; rfl) | cases h
theorem dp_bl {K : PySem.W.Frag} {F : Hp} {v : V} {k : Bool} (h : Dp K F v (.bool k)) : v = .bl k := by cases h; rfl
theorem dp_int {K : PySem.W.Frag} {F : Hp} {v : V} {k : Int} (h : Dp K F v (.int k)) : v = .int k := by cases h; rfl
theorem dp_str {K : PySem.W.Frag} {F : Hp} {v : V} {k : Str} (h : Dp K F v (.str k)) : v = .str k := by cases h; rfl
theorem dp_non {K : PySem.W.Frag} {F : Hp} {v : V} (h : Dp K F v .none) : v = .non := by cases h; rfl
theorem tup_inv {K : PySem.W.Frag} {F : Hp} {v : V} {ds : List D} (h : Dp K F v (.tuple ds)) : ∃ a xs, v = .ref a ∧ SqT K F a xs ∧ DpAll K F xs ds := by cases h with | tup h1 h2 => exact ⟨_, _, rfl, h1, h2⟩
theorem lst_inv {K : PySem.W.Frag} {F : Hp} {v : V} {ds : List D} (h : Dp K F v (.list ds)) : ∃ a xs, v = .ref a ∧ SqL K F a xs ∧ DpAll K F xs ds := by cases h with | lst h1 h2 => exact ⟨_, _, rfl, h1, h2⟩
theorem tst_red {P : Program} {w : World} {K : PySem.W.Frag} {f : PF} {t : TE} (k : ∀ σ H Q, tP P w K f σ H Q → t σ H Q) {σ : L2.St} {H : Hp} {Q : Bool → Hp → Prop} (h : tQ P w K (qB f) σ H Q) : tTest t σ H Q := by
  obtain ⟨G, a0, F, m, d, r, e, q⟩ := h
  obtain ⟨x, h1, e2⟩ := Option.bind_eq_some_iff.mp e
  have ee := asB_eq e2
  subst ee
  exact k σ H _ ⟨G, a0, F, m, _, r, h1, fun v F1 H1 g1 p1 => ⟨d, dp_bl p1, q F1 H1 g1⟩⟩
theorem gt_cmp {op : CmpOp} {g : D → D → Option D} (ho : OpR X (compareOp op) (rG2 X.K g)) (ha : GE X a fa) (hb : GE X b fb) (hm : behindInMarks op b = false) : GT X (.Compare a [op] [b] pos) (qB (pOp g fa fb)) :=
  PT.of (pt_cmpR ho ha hb hm) fun _ _ _ => tst_red fun _ _ _ => op_red
/-- a op1 b op2 c -/
def pCh (g g' : D → D → Option D) (fa fb fc : PF) : PF := fun m => (fa m).bind fun x => (fb m).bind fun y => (g x y).bind fun z => (asB z).bind fun k => if k = true then (fc m).bind fun u => g' y u else some (.bool false)
theorem ch_red {g g' : D → D → Option D} {P : Program} {w : World} {K : PySem.W.Frag} {σ : L2.St} {H : Hp} {Q : VK} (h : tP P w K (pCh g g' fa fb fc) σ H Q) : tChain (rG2 K g) (rG2 K g') (tP P w K fa) (tP P w K fb) (tP P w K fc) σ H Q := by
  obtain ⟨G, a0, F, m, d, r, e, q⟩ := h
  obtain ⟨x, h1, e2⟩ := Option.bind_eq_some_iff.mp e
  obtain ⟨y, h2, e3⟩ := Option.bind_eq_some_iff.mp e2
  obtain ⟨z, h3, e4⟩ := Option.bind_eq_some_iff.mp e3
  obtain ⟨k, h4, e5⟩ := Option.bind_eq_some_iff.mp e4
  have h4 := asB_eq h4
  subst h4
  refine ⟨G, a0, F, m, x, r, h1, fun v F1 H1 g1 p1 => ⟨G, a0, F1, m, y, r.grw g1, h2, fun u F2 H2 g2 p2 => ?_⟩⟩
  refine ⟨F2, x, y, _, g2.sF, dp_mono g2.ex _ _ p1, p2, h3, fun v' F3 H3 g3 p3 => ⟨k, dp_bl p3, ?_⟩⟩
  cases k with
  | false =>
    rw [if_neg Bool.false_ne_true] at e5
    cases e5
    exact q _ F3 H3 ((g1.trans g2).trans g3) (.bl false)
  | true =>
    rw [if_pos rfl] at e5
    obtain ⟨u', h5, e6⟩ := Option.bind_eq_some_iff.mp e5
    refine ⟨G, a0, F3, m, u', ((r.grw g1).grw g2).grw g3, h5, fun v4 F4 H4 g4 p4 => ?_⟩
    exact ⟨F4, y, u', d, g4.sF, dp_mono (g3.ex.trans g4.ex) _ _ p2, p4, e6, fun v5 F5 H5 g5 p5 => q v5 F5 H5 ((((g1.trans g2).trans g3).trans g4).trans g5) p5⟩
theorem ge_chain {op op' : CmpOp} {g g' : D → D → Option D} (ho : OpR X (compareOp op) (rG2 X.K g)) (ho' : OpR X (compareOp op') (rG2 X.K g')) (ha : GE X a fa) (hb : GE X b fb) (hc : GE X c fc)
    (hm : lastMarks [op, op'] [b, c] = false := by with_unfolding_all rfl) : GE X (.Compare a [op, op'] [b, c] pos) (pCh g g' fa fb fc) := PE.of (pe_chain ho ho' ha hb hc hm) fun _ _ _ => ch_red
theorem gt_chain {op op' : CmpOp} {g g' : D → D → Option D} (ho : OpR X (compareOp op) (rG2 X.K g)) (ho' : OpR X (compareOp op') (rG2 X.K g')) (ha : GE X a fa) (hb : GE X b fb) (hc : GE X c fc)
    (hm : lastMarks [op, op'] [b, c] = false := by with_unfolding_all rfl) : GT X (.Compare a [op, op'] [b, c] pos) (qB (pCh g g' fa fb fc)) := PT.of (pt_chain ho ho' ha hb hc hm) fun _ _ _ => tst_red fun _ _ _ => ch_red
theorem gt_val (h : GE X e fe) (he : ∀ whole, isTrue e X.env whole = (do let v ← whole; standAt e.pos; holding [v] (truthy v)) := by intro _; rfl) : GT X e (qB fe) := PT.of (pt_val h he) fun σ H Q q => by
  have q2 := tst_red (t := tP X.prog X.w X.K fe) (fun _ _ _ z => z) q
  exact q2

/-! ### and, or, not -/
def qAnd (ta tb : PB) : PB := fun m => (ta m).bind fun k => if k = true then tb m else some false
def qOr (ta tb : PB) : PB := fun m => (ta m).bind fun k => if k = true then some true else tb m
def qNot (ta : PB) : PB := fun m => (ta m).map (!·)
variable {rest : List Expr}
theorem gw_and1 (ha : GT X a ta) : GW X (.BoolOp .And [a] pos) ta := pw_and1 ha
theorem gw_or1 (ha : GT X a ta) : GW X (.BoolOp .Or [a] pos) ta := pw_or1 ha
theorem gw_and (ha : GT X a ta) (hb : GW X (.BoolOp .And (b :: rest) pos) tb) : GW X (.BoolOp .And (a :: b :: rest) pos) (qAnd ta tb) := PW.of (pw_and ha hb) fun σ H Q h => by
  obtain ⟨G, a0, F, m, d, r, e, q⟩ := h
  obtain ⟨k, h1, e2⟩ := Option.bind_eq_some_iff.mp e
  refine ⟨G, a0, F, m, k, r, h1, fun F1 H1 g1 => ?_⟩
  cases k with
  | true => exact ⟨G, a0, F1, m, d, r.grw g1, (by rw [if_pos rfl] at e2; exact e2), fun F2 H2 g2 => q F2 H2 (g1.trans g2)⟩
  | false =>
    rw [if_neg Bool.false_ne_true] at e2 ⊢
    cases e2
    exact q F1 H1 g1
theorem gw_or (ha : GT X a ta) (hb : GW X (.BoolOp .Or (b :: rest) pos) tb) : GW X (.BoolOp .Or (a :: b :: rest) pos) (qOr ta tb) := PW.of (pw_or ha hb) fun σ H Q h => by
  obtain ⟨G, a0, F, m, d, r, e, q⟩ := h
  obtain ⟨k, h1, e2⟩ := Option.bind_eq_some_iff.mp e
  refine ⟨G, a0, F, m, k, r, h1, fun F1 H1 g1 => ?_⟩
  cases k with
  | false => exact ⟨G, a0, F1, m, d, r.grw g1, (by rw [if_neg Bool.false_ne_true] at e2; exact e2), fun F2 H2 g2 => q F2 H2 (g1.trans g2)⟩
  | true =>
    rw [if_pos rfl] at e2 ⊢
    cases e2
    exact q F1 H1 g1
theorem gt_w (h : GW X e ta) : GT X e ta := PW.pt h
theorem gt_not (ha : GT X a ta) : GT X (.UnaryOp .Not a pos) (qNot ta) := PT.of (pt_not ha) fun σ H Q h => by
  obtain ⟨G, a0, F, m, d, r, e, q⟩ := h
  obtain ⟨k, h1, rfl⟩ := Option.map_eq_some_iff.mp e
  exact ⟨G, a0, F, m, k, r, h1, fun F1 H1 g1 => q F1 H1 g1⟩
/-- as values, of bools -/
def pAnd (fa fb : PF) : PF := fun m => (fa m).bind fun x => (asB x).bind fun k => if k = true then fb m else some (.bool false)
def pOr (fa fb : PF) : PF := fun m => (fa m).bind fun x => (asB x).bind fun k => if k = true then some (.bool true) else fb m
def pNot (fa : PF) : PF := fun m => (fa m).bind fun x => (asB x).map fun k => .bool !k
theorem ge_one {op} (h : GE X a fa) : GE X (.BoolOp op [a] pos) fa := pe_one h
theorem ge_and (ha : GE X a fa) (hb : GE X (.BoolOp .And (b :: rest) pos) fb) : GE X (.BoolOp .And (a :: b :: rest) pos) (pAnd fa fb) := PE.of (pe_and ha hb) fun σ H Q h => by
  obtain ⟨G, a0, F, m, d, r, e, q⟩ := h
  obtain ⟨x, h1, e2⟩ := Option.bind_eq_some_iff.mp e
  obtain ⟨k, h2, e3⟩ := Option.bind_eq_some_iff.mp e2
  have h2 := asB_eq h2
  subst h2
  refine ⟨G, a0, F, m, _, r, h1, fun v F1 H1 g1 p1 => ⟨k, dp_bl p1, ?_⟩⟩
  cases k with
  | true => exact ⟨G, a0, F1, m, d, r.grw g1, (by rw [if_pos rfl] at e3; exact e3), fun v2 F2 H2 g2 p2 => q v2 F2 H2 (g1.trans g2) p2⟩
  | false =>
    rw [if_neg Bool.false_ne_true] at e3 ⊢
    cases e3
    exact q _ F1 H1 g1 (.bl false)
theorem ge_or (ha : GE X a fa) (hb : GE X (.BoolOp .Or (b :: rest) pos) fb) : GE X (.BoolOp .Or (a :: b :: rest) pos) (pOr fa fb) := PE.of (pe_or ha hb) fun σ H Q h => by
  obtain ⟨G, a0, F, m, d, r, e, q⟩ := h
  obtain ⟨x, h1, e2⟩ := Option.bind_eq_some_iff.mp e
  obtain ⟨k, h2, e3⟩ := Option.bind_eq_some_iff.mp e2
  have h2 := asB_eq h2
  subst h2
  refine ⟨G, a0, F, m, _, r, h1, fun v F1 H1 g1 p1 => ⟨k, dp_bl p1, ?_⟩⟩
  cases k with
  | false => exact ⟨G, a0, F1, m, d, r.grw g1, (by rw [if_neg Bool.false_ne_true] at e3; exact e3), fun v2 F2 H2 g2 p2 => q v2 F2 H2 (g1.trans g2) p2⟩
  | true =>
    rw [if_pos rfl] at e3 ⊢
    cases e3
    exact q _ F1 H1 g1 (.bl true)
theorem ge_not (ha : GE X a fa) : GE X (.UnaryOp .Not a pos) (pNot fa) := PE.of (pe_not ha) fun σ H Q h => by
  obtain ⟨G, a0, F, m, d, r, e, q⟩ := h
  obtain ⟨x, h1, e2⟩ := Option.bind_eq_some_iff.mp e
  obtain ⟨k, h2, e3⟩ := Option.map_eq_some_iff.mp e2
  have h2 := asB_eq h2
  subst h2 e3
  exact ⟨G, a0, F, m, _, r, h1, fun v F1 H1 g1 p1 => ⟨k, dp_bl p1, q _ F1 H1 g1 (.bl _)⟩⟩
def pIf (t : PB) (fa fb : PF) : PF := fun m => (t m).bind fun k => if k = true then fa m else fb m
theorem ge_if (hc : GT X c ta) (ha : GE X a fa) (hb : GE X b fb) : GE X (.IfExp c a b pos) (pIf ta fa fb) := PE.of (pe_ifExp hc ha hb) fun σ H Q h => by
  obtain ⟨G, a0, F, m, d, r, e, q⟩ := h
  obtain ⟨k, h1, e2⟩ := Option.bind_eq_some_iff.mp e
  refine ⟨G, a0, F, m, k, r, h1, fun F1 H1 g1 => ?_⟩
  cases k with
  | true => exact ⟨G, a0, F1, m, d, r.grw g1, (by rw [if_pos rfl] at e2; exact e2), fun v2 F2 H2 g2 p2 => q v2 F2 H2 (g1.trans g2) p2⟩
  | false => exact ⟨G, a0, F1, m, d, r.grw g1, (by rw [if_neg Bool.false_ne_true] at e2; exact e2), fun v2 F2 H2 g2 p2 => q v2 F2 H2 (g1.trans g2) p2⟩

/-! ### argument lists, displays -/
def aNil : PL := fun _ => some []
def aCons (f : PF) (fs : PL) : PL := fun m => (f m).bind fun x => (fs m).map fun xs => x :: xs
theorem ga_nil : GA X [] aNil := PA.of pa_nil fun σ H Q h => by
  obtain ⟨G, a0, F, m, d, r, e, q⟩ := h
  cases e
  exact q _ F H (Grw.refl r.sF) .nil
theorem ga_cons (h1 : GE X e fe) (h2 : GA X es fs) (hs : starEach (e :: es) X.env = (false, eval e X.env) :: starEach es X.env := by rfl) : GA X (e :: es) (aCons fe fs) := PA.of (pa_cons h1 h2 hs) fun σ H Q h => by
  obtain ⟨G, a0, F, m, d, r, e, q⟩ := h
  obtain ⟨x, h1, e2⟩ := Option.bind_eq_some_iff.mp e
  obtain ⟨xs, h2, rfl⟩ := Option.map_eq_some_iff.mp e2
  exact ⟨G, a0, F, m, x, r, h1, fun v F1 H1 g1 p1 => ⟨G, a0, F1, m, xs, r.grw g1, h2, fun vs F2 H2 g2 p2 => q _ F2 H2 (g1.trans g2) (.cons (dp_mono g2.ex _ _ p1) p2)⟩⟩
def lenOk {α : Type} (n : Nat) (x : α) : Option α := if n ≤ 16777216 then some x else none
theorem lenOk_eq {α : Type} {n : Nat} {x y : α} (h : lenOk n x = some y) : n ≤ sizeLine ∧ x = y := by
  unfold lenOk at h
  rw [sizeLine_eq]
  split at h
  · exact ⟨by assumption, Option.some.inj h⟩
  · cases h
def pTup (fs : PL) : PF := fun m => (fs m).bind fun xs => lenOk xs.length (.tuple xs)
def pLst (fs : PL) : PF := fun m => (fs m).bind fun xs => lenOk xs.length (.list xs)
theorem dp_newT {K : PySem.W.Frag} {F : Hp} {p : Addr} {vs : List V} {ds : List D} (n : F p = none) (h : DpAll K F vs ds) : Dp K (upd F p (.tup vs)) (.ref p) (.tuple ds) := by
  refine .tup (SqT.of upd_same) (dps_mono ?_ _ _ h)
  intro b x e
  rw [upd_ne (ne_of_none e n)]; exact e
theorem dp_newL {K : PySem.W.Frag} {F : Hp} {p : Addr} {vs : List V} {ds : List D} (n : F p = none) (h : DpAll K F vs ds) : Dp K (upd F p (.lst vs)) (.ref p) (.list ds) := by
  refine .lst (SqL.of upd_same) (dps_mono ?_ _ _ h)
  intro b x e
  rw [upd_ne (ne_of_none e n)]; exact e
theorem ge_tup {x1} (ha : GA X es fs) : GE X (.Tuple es x1 pos) (pTup fs) := PE.of (pe_tup ha) fun σ H Q h => by
  obtain ⟨G, a0, F, m, d, r, e, q⟩ := h
  obtain ⟨xs, h1, e2⟩ := Option.bind_eq_some_iff.mp e
  obtain ⟨hl, rfl⟩ := lenOk_eq e2
  refine ⟨G, a0, F, m, xs, r, h1, fun vs F1 H1 g1 p1 => ⟨by rw [dps_len p1]; exact hl, fun p hp => ?_⟩⟩
  exact q _ _ _ (g1.trans (Grw.new g1.sF hp)) (dp_newT (g1.sF.free hp) p1)
theorem ge_lst (ha : GA X es fs) : GE X (.List es pos) (pLst fs) := PE.of (pe_lst ha) fun σ H Q h => by
  obtain ⟨G, a0, F, m, d, r, e, q⟩ := h
  obtain ⟨xs, h1, e2⟩ := Option.bind_eq_some_iff.mp e
  obtain ⟨hl, rfl⟩ := lenOk_eq e2
  refine ⟨G, a0, F, m, xs, r, h1, fun vs F1 H1 g1 p1 => ⟨by rw [dps_len p1]; exact hl, fun p hp => ?_⟩⟩
  exact q _ _ _ (g1.trans (Grw.new g1.sF hp)) (dp_newL (g1.sF.free hp) p1)

/-! ### subscripts, slices -/
theorem ge_sub {g : D → D → Option D} (hr : IxR X (rG2 X.K g)) (ha : GE X a fa) (hb : GE X b fb) (hs : PlainIx b) : GE X (.Subscript a b pos) (pOp g fa fb) := PE.of (pe_ix hr ha hb hs) fun _ _ _ => op_red
abbrev PO' := Mem → Option (Option Int)
def tO (P : Program) (w : World) (K : PySem.W.Frag) (f : PO') : TO := fun σ H Q => ∃ G a0 F m o, Rep P w K G a0 F m σ H ∧ f m = some o ∧ ∀ F2 H2, Grw F H F2 H2 → Q o H2
abbrev GO (X : Cx) (e : Option Expr) (f : PO') : Prop := PO X e (tO X.prog X.w X.K f)
def oNone : PO' := fun _ => some none
def oSome (f : PF) : PO' := fun m => (f m).bind fun d => (asI d).map some
theorem asI_eq {d : D} {k : Int} (h : asI d = some k) : d = .int k := by
  cases d <;> first | (cases h; rfl) | cases h
theorem PO.of {X : Cx} {e : Option Expr} {t t' : TO} (h : PO X e t) (k : ∀ σ H Q, t' σ H Q → t σ H Q) : PO X e t' := by
  constructor
  intro pins s σ H Q I q
  exact h.run pins s σ H Q I (k _ _ _ q)
theorem go_none : GO X none oNone := PO.of po_none fun σ H Q h => by
  obtain ⟨G, a0, F, m, d, r, e, q⟩ := h
  cases e
  exact q F H (Grw.refl r.sF)
theorem go_some (ha : GE X a fa) : GO X (some a) (oSome fa) := PO.of (po_some ha) fun σ H Q h => by
  obtain ⟨G, a0, F, m, d, r, e, q⟩ := h
  obtain ⟨x, h1, e2⟩ := Option.bind_eq_some_iff.mp e
  obtain ⟨k, h2, rfl⟩ := Option.map_eq_some_iff.mp e2
  have h2 := asI_eq h2
  subst h2
  exact ⟨G, a0, F, m, _, r, h1, fun v F1 H1 g1 p1 => ⟨k, dp_int p1, q F1 H1 g1⟩⟩
def pSl (g : D → Option Int → Option Int → Option D) (fa : PF) (lo hi : PO') : PF := fun m => (fa m).bind fun x => (lo m).bind fun l => (hi m).bind fun h => g x l h
theorem ge_slice {g : D → Option Int → Option Int → Option D} {lo hi : Option Expr} {fl fh : PO'} {p2 : Pos} (hr : SlR X (rGS X.K g)) (ha : GE X a fa) (hl : GO X lo fl) (hu : GO X hi fh) : GE X (.Subscript a (.Slice lo hi none p2) pos) (pSl g fa fl fh) := PE.of (pe_slice hr ha hl hu) fun σ H Q h => by
  obtain ⟨G, a0, F, m, d, r, e, q⟩ := h
  obtain ⟨x, h1, e2⟩ := Option.bind_eq_some_iff.mp e
  obtain ⟨l, h2, e3⟩ := Option.bind_eq_some_iff.mp e2
  obtain ⟨u, h3, e4⟩ := Option.bind_eq_some_iff.mp e3
  exact ⟨G, a0, F, m, x, r, h1, fun v F1 H1 g1 p1 => ⟨G, a0, F1, m, l, r.grw g1, h2, fun F2 H2 g2 => ⟨G, a0, F2, m, u, (r.grw g1).grw g2, h3, fun F3 H3 g3 =>
    ⟨F3, x, d, g3.sF, dp_mono (g2.ex.trans g3.ex) _ _ p1, e4, fun v4 F4 H4 g4 p4 => q v4 F4 H4 (((g1.trans g2).trans g3).trans g4) p4⟩⟩⟩⟩

/-! ### built-ins -/
def pCall (g : List D → Option D) (fs : PL) : PF := fun m => (fs m).bind g
theorem call_red {g : List D → Option D} {P : Program} {w : World} {K : PySem.W.Frag} {σ : L2.St} {H : Hp} {Q : VK} (h : tP P w K (pCall g fs) σ H Q) : tCB (rGL K g) (tAl P w K fs) σ H Q := by
  obtain ⟨G, a0, F, m, d, r, e, q⟩ := h
  obtain ⟨x, h1, e2⟩ := Option.bind_eq_some_iff.mp e
  exact ⟨G, a0, F, m, x, r, h1, fun v F1 H1 g1 p1 => ⟨F1, x, d, g1.sF, p1, e2, fun v' F3 H3 g3 p3 => q v' F3 H3 (g1.trans g3) p3⟩⟩
theorem ge_callB {id : String} {g : List D → Option D} {x : Str} {p : Pos} (hc : CallR X (.builtin id) (rGL X.K g)) (hg : Gl X x) (hm : X.mg x = none) (hv : bootBuiltins x = some (.builtin id)) (ha : GA X (e :: es) fs) (hn : x ≠ "__name__" := by decide) (hdb : (x == ("__debug__" : Str)) = false := by decide)
    (he : starEach (e :: es) X.env = (false, eval e X.env) :: starEach es X.env := by rfl) (hpl : (backTo pos (starEach es X.env)).any (·.1) = false := by rfl) :
    GE X (.Call (.Name x p) (e :: es) [] pos) (pCall g fs) := PE.of (pe_callB hc hg hm hv ha hn hdb he hpl) fun _ _ _ => call_red
theorem ge_callTy {T : String} {g : List D → Option D} {x : Str} {p : Pos} (hc : CallR X (.type T) (rGL X.K g)) (hg : Gl X x) (hm : X.mg x = none) (hv : bootBuiltins x = some (.type T)) (ha : GA X (e :: es) fs) (hn : x ≠ "__name__" := by decide) (hdb : (x == ("__debug__" : Str)) = false := by decide)
    (he : starEach (e :: es) X.env = (false, eval e X.env) :: starEach es X.env := by rfl) (hpl : (backTo pos (starEach es X.env)).any (·.1) = false := by rfl) :
    GE X (.Call (.Name x p) (e :: es) [] pos) (pCall g fs) := PE.of (pe_callTy hc hg hm hv ha hn hdb he hpl) fun _ _ _ => call_red
end
end MP

end
section
namespace MP
open PySem PySem.Spec L2

/-- an error: its class; for one with a field its name and value -/
inductive Exn where
  | plain (C : Value)
  | with1 (C : Value) (f : Str) (d : D)
structure PX where
  ok : R → Mem → Prop
  ex : Exn → Mem → Prop
abbrev CP := PX → Mem → Prop
structure EM where
  nx : Mem → Prop
  rt : R → Mem → Prop
  bk : Mem → Prop
  ct : Mem → Prop
  ex : Exn → Mem → Prop
abbrev WS := EM → Mem → Prop
/-- the wish about errors, with the slots -/
abbrev WXs := Value → Option Addr → L2.St → Hp → Prop

def vwS : S → S
  | .ow (.lst xs) => .val (.list xs)
  | .io (.lst xs) => .val (.list xs)
  | s => s
def vw (m : Mem) : Mem := m.map vwS
/-- a datum without a place in the heap -/
def scal : D → Bool
  | .none => true
  | .bool _ => true
  | .int _ => true
  | .str _ => true
  | _ => false

section
variable (P : Program) (w : World) (K : PySem.W.Frag)
def ResOk (G F H : Hp) (m : Mem) (σ : L2.St) : R → V → Prop
  | .val d, v => Dp K F v d
  | .ow ob, v => ∃ p, v = .ref p ∧ G p = none ∧ F p = none ∧ ObOk P w K F H p ob ∧ ∀ (i : Nat) s, m[i]? = some s → isOwn s = true → σ[i]? ≠ some (some (.ref p))
def ExOk (F H : Hp) : Exn → Value → Option Addr → Prop
  | .plain C, cls, dd => cls = C ∧ dd = none
  | .with1 C f d, cls, dd => cls = C ∧ ∃ p v, dd = some p ∧ H p = some (.xd [(f, v)]) ∧ Dp K F v d
variable (W : WXs)
def tR (g : CP) : TE := fun σ H Q => ∃ G a0 F m X, Rep P w K G a0 F m σ H ∧ g X m ∧ ∀ m' F2 H2, Stp G F F2 → Rep P w K G a0 F2 m' σ H2 →
  (∀ r v, ResOk P w K G F2 H2 m' σ r v → X.ok r m' → Q v H2) ∧ (∀ e cls dd, ExOk K F2 H2 e cls dd → X.ex e m' → W cls dd σ H2)
def tS (g : WS) : TS := fun D σ H => ∃ G a0 F m E, Rep P w K G a0 F m σ H ∧ g E m ∧ ∀ m' σ' F2 H2, Stp G F F2 → Rep P w K G a0 F2 m' σ' H2 →
  (E.nx m' → D.nx σ' H2) ∧ (E.bk m' → D.bk σ' H2) ∧ (E.ct m' → D.ct σ' H2) ∧ (∀ r v, ResOk P w K G F2 H2 m' σ' r v → E.rt r m' → D.rt v H2) ∧ (∀ e cls dd, ExOk K F2 H2 e cls dd → E.ex e m' → W cls dd σ' H2)
end
abbrev GR (X : Cx) (W : WXs) (e : Expr) (g : CP) : Prop := PE X e (tR X.prog X.w X.K W g)
abbrev GS (X : Cx) (W : WXs) (st : Stmt) (g : WS) : Prop := PS X st (tS X.prog X.w X.K W g)
abbrev GSs (X : Cx) (W : WXs) (st : List Stmt) (g : WS) : Prop := PSs X st (tS X.prog X.w X.K W g)

/-! ### the view: own lists read -/
section
variable {P : Program} {w : World} {K : PySem.W.Frag} {G F F2 H H2 : Hp} {a0 : Addr} {m : Mem} {σ : L2.St}
theorem dp_scal {d : D} {v : V} (h : Dp K F v d) (s : scal d = true) (F' : Hp) : Dp K F' v d := by
  cases h with
  | non => exact .non
  | bl b => exact .bl b
  | int i => exact .int i
  | str x => exact .str x
  | lst _ _ => cases s
  | tup _ _ => cases s
theorem vw_get (m : Mem) (i : Nat) : (vw m)[i]? = (m[i]?).map vwS := by unfold vw; rw [List.getElem?_map]
open Classical in
theorem Rep.vw (r : Rep P w K G a0 F m σ H) : ∃ F2, Same F F2 ∧ Rep P w K G a0 F2 (vw m) σ H := by
  let own : Addr → Prop := fun b => ∃ (i : Nat) (xs : List D), (m[i]? = some (.ow (.lst xs)) ∨ m[i]? = some (.io (.lst xs))) ∧ σ[i]? = some (some (.ref b))
  let F2 : Hp := fun b => if own b then H b else F b
  have f1 : ∀ b, own b → F2 b = H b := fun b h => if_pos h
  have f2 : ∀ b, ¬ own b → F2 b = F b := fun b h => if_neg h
  have sm : Same F F2 := fun b o e => by
    by_cases h : own b
    · rw [f1 b h]; exact r.sF b o e
    · rw [f2 b h]; exact e
  refine ⟨F2, sm, ⟨fun b o e => ?_, r.sG, by simpa [MP.vw] using r.len, fun i s hs => ?_, fun i j s t a h1 h2 o1 o2 e1 e2 => ?_⟩⟩
  · by_cases h : own b
    · rw [f1 b h] at e; exact e
    · rw [f2 b h] at e; exact r.sF b o e
  · rw [vw_get] at hs
    obtain ⟨s', h', rfl⟩ := Option.map_eq_some_iff.mp hs
    have q := r.at_ i s' h'
    cases s' with
    | un => trivial
    | val d => obtain ⟨v, h1, h2⟩ := q; exact ⟨v, h1, dp_mono sm _ _ h2⟩
    | ow ob =>
      obtain ⟨a, h1, h2, h3, h4⟩ := q
      have hj := join_some h1
      cases ob with
      | lst xs =>
        obtain ⟨vs, h5, h6⟩ := h4
        have ow : own a := ⟨i, xs, .inl h', hj⟩
        exact ⟨_, h1, .lst (SqL.of (by rw [f1 a ow]; exact h5)) (dps_mono sm _ _ h6)⟩
      | dct kvs =>
        have no : ¬ own a := fun ⟨j, xs, hx, he⟩ => by
          rcases hx with hx | hx
          · have := r.apart i j _ _ a h' hx rfl rfl hj he
            subst this; rw [h'] at hx; cases hx
          · have := r.apart i j _ _ a h' hx rfl rfl hj he
            subst this; rw [h'] at hx; cases hx
        exact ⟨a, h1, h2, by rw [f2 a no]; exact h3, h4.mono sm fun _ z => z⟩
      | ins C fs =>
        have no : ¬ own a := fun ⟨j, xs, hx, he⟩ => by
          rcases hx with hx | hx
          · have := r.apart i j _ _ a h' hx rfl rfl hj he
            subst this; rw [h'] at hx; cases hx
          · have := r.apart i j _ _ a h' hx rfl rfl hj he
            subst this; rw [h'] at hx; cases hx
        exact ⟨a, h1, h2, by rw [f2 a no]; exact h3, h4.mono sm fun _ z => z⟩
    | io ob =>
      obtain ⟨h1, h2, h3, h4⟩ := q
      have hj := join_some h1
      cases ob with
      | lst xs =>
        obtain ⟨vs, h5, h6⟩ := h4
        have ow : own a0 := ⟨i, xs, .inr h', hj⟩
        exact ⟨_, h1, .lst (SqL.of (by rw [f1 a0 ow]; exact h5)) (dps_mono sm _ _ h6)⟩
      | dct kvs =>
        have no : ¬ own a0 := fun ⟨j, xs, hx, he⟩ => by
          rcases hx with hx | hx
          · have := r.apart i j _ _ a0 h' hx rfl rfl hj he
            subst this; rw [h'] at hx; cases hx
          · have := r.apart i j _ _ a0 h' hx rfl rfl hj he
            subst this; rw [h'] at hx; cases hx
        exact ⟨h1, h2, by rw [f2 a0 no]; exact h3, h4.mono sm fun _ z => z⟩
      | ins C fs =>
        have no : ¬ own a0 := fun ⟨j, xs, hx, he⟩ => by
          rcases hx with hx | hx
          · have := r.apart i j _ _ a0 h' hx rfl rfl hj he
            subst this; rw [h'] at hx; cases hx
          · have := r.apart i j _ _ a0 h' hx rfl rfl hj he
            subst this; rw [h'] at hx; cases hx
        exact ⟨h1, h2, by rw [f2 a0 no]; exact h3, h4.mono sm fun _ z => z⟩
  · rw [vw_get] at h1 h2
    obtain ⟨s', g1, rfl⟩ := Option.map_eq_some_iff.mp h1
    obtain ⟨t', g2, rfl⟩ := Option.map_eq_some_iff.mp h2
    have back : ∀ s : S, isOwn (vwS s) = true → isOwn s = true := fun s h => by
      cases s with
      | un => cases h
      | val d => cases h
      | ow ob => rfl
      | io ob => rfl
    exact r.apart i j _ _ a g1 g2 (back _ o1) (back _ o2) e1 e2
/-- what grows beside -/
theorem Grw.beside {F' : Hp} (g : Grw F' H F2 H2) (s : Same F H) : Grw F H F H2 := ⟨Same.refl F, g.al, s.trans g.al, fun _ _ h => .inl h⟩

/-- a slot takes a datum -/
theorem Rep.setVal {i : Nat} {d : D} {v : V} (r : Rep P w K G a0 F m σ H) (h : Dp K F v d) : Rep P w K G a0 F (m.set i (.val d)) (σ.set i (some v)) H := by
  refine ⟨r.sF, r.sG, by simp [r.len], fun j s hs => ?_, fun j k s t a h1 h2 o1 o2 e1 e2 => ?_⟩
  · by_cases hj : j = i
    · subst hj
      by_cases hl : j < m.length
      · rw [List.getElem?_set_self hl] at hs
        cases hs
        rw [List.getElem?_set_self (by rw [← r.len]; exact hl)]
        exact ⟨v, rfl, h⟩
      · rw [List.getElem?_eq_none (by simp; omega)] at hs; cases hs
    · rw [List.getElem?_set_ne (Ne.symm hj)] at hs ⊢
      exact r.at_ j s hs
  · have ne : ∀ (j : Nat) s, (m.set i (.val d))[j]? = some s → isOwn s = true → j ≠ i := fun j s hs o e => by
      subst e
      by_cases hl : j < m.length
      · rw [List.getElem?_set_self hl] at hs; cases hs; cases o
      · rw [List.getElem?_eq_none (by simp; omega)] at hs; cases hs
    have n1 := ne j s h1 o1
    have n2 := ne k t h2 o2
    rw [List.getElem?_set_ne (Ne.symm n1)] at h1 e1
    rw [List.getElem?_set_ne (Ne.symm n2)] at h2 e2
    exact r.apart j k s t a h1 h2 o1 o2 e1 e2
/-- a slot takes a new object -/
theorem Rep.setOwn {i : Nat} {ob : OB} {p : Addr} (r : Rep P w K G a0 F m σ H) (hG : G p = none) (hF : F p = none) (h : ObOk P w K F H p ob) (ap : ∀ (i : Nat) s, m[i]? = some s → isOwn s = true → σ[i]? ≠ some (some (.ref p))) :
    Rep P w K G a0 F (m.set i (.ow ob)) (σ.set i (some (.ref p))) H := by
  refine ⟨r.sF, r.sG, by simp [r.len], fun j s hs => ?_, fun j k s t a h1 h2 o1 o2 e1 e2 => ?_⟩
  · by_cases hj : j = i
    · subst hj
      by_cases hl : j < m.length
      · rw [List.getElem?_set_self hl] at hs
        cases hs
        rw [List.getElem?_set_self (by rw [← r.len]; exact hl)]
        exact ⟨p, rfl, hG, hF, h⟩
      · rw [List.getElem?_eq_none (by simp; omega)] at hs; cases hs
    · rw [List.getElem?_set_ne (Ne.symm hj)] at hs ⊢
      exact r.at_ j s hs
  · by_cases hj : j = i
    · by_cases hk : k = i
      · rw [hj, hk]
      · exfalso
        rw [List.getElem?_set_ne (Ne.symm hk)] at h2 e2
        subst hj
        have hl : j < σ.length := by
          by_cases hl : j < σ.length
          · exact hl
          · rw [List.getElem?_eq_none (by simp; omega)] at e1; cases e1
        rw [List.getElem?_set_self hl] at e1
        cases e1
        exact ap k t h2 o2 e2
    · by_cases hk : k = i
      · exfalso
        rw [List.getElem?_set_ne (Ne.symm hj)] at h1 e1
        subst hk
        have hl : k < σ.length := by
          by_cases hl : k < σ.length
          · exact hl
          · rw [List.getElem?_eq_none (by simp; omega)] at e2; cases e2
        rw [List.getElem?_set_self hl] at e2
        cases e2
        exact ap j s h1 o1 e1
      · rw [List.getElem?_set_ne (Ne.symm hj)] at h1 e1
        rw [List.getElem?_set_ne (Ne.symm hk)] at h2 e2
        exact r.apart j k s t a h1 h2 o1 o2 e1 e2
def resS : R → S
  | .val d => .val d
  | .ow ob => .ow ob
theorem Rep.setRes {i : Nat} {q : R} {v : V} (r : Rep P w K G a0 F m σ H) (h : ResOk P w K G F H m σ q v) : Rep P w K G a0 F (m.set i (resS q)) (σ.set i (some v)) H := by
  cases q with
  | val d => exact r.setVal h
  | ow ob => obtain ⟨p, rfl, h1, h2, h3, h4⟩ := h; exact r.setOwn h1 h2 h3 h4
/-- forgetting slots -/
theorem Rep.forget {m' : Mem} (r : Rep P w K G a0 F m σ H) (hl : m'.length = m.length) (h : ∀ (i : Nat) s, m'[i]? = some s → s = .un ∨ m[i]? = some s) : Rep P w K G a0 F m' σ H := by
  refine ⟨r.sF, r.sG, hl.trans r.len, fun i s hs => ?_, fun i j s t a h1 h2 o1 o2 e1 e2 => ?_⟩
  · rcases h i s hs with rfl | q
    · trivial
    · exact r.at_ i s q
  · rcases h i s h1 with rfl | q1
    · cases o1
    · rcases h j t h2 with rfl | q2
      · cases o2
      · exact r.apart i j s t a q1 q2 o1 o2 e1 e2
/-- an own object is changed -/
theorem Rep.write {i : Nat} {ob ob' : OB} {p : Addr} {u : HO} (r : Rep P w K G a0 F m σ H) (hs : m[i]? = some (.ow ob)) (hσ : σ[i]? = some (some (.ref p))) (h : ObOk P w K F (upd H p u) p ob') : Rep P w K G a0 F (m.set i (.ow ob')) σ (upd H p u) := by
  obtain ⟨p', h1, h2, h3, h4⟩ := r.at_ i _ hs
  have := join_some h1
  rw [hσ] at this
  cases this
  have hl : i < m.length := (List.getElem?_eq_some_iff.mp hs).1
  refine ⟨fun b o e => ?_, fun b o e => ?_, by simp [r.len], fun j s hj => ?_, fun j k s t a h1 h2 o1 o2 e1 e2 => ?_⟩
  · rw [upd_ne (ne_of_none e h3)]; exact r.sF b o e
  · rw [upd_ne (ne_of_none e h2)]; exact r.sG b o e
  · by_cases hji : j = i
    · subst hji
      rw [List.getElem?_set_self hl] at hj
      cases hj
      exact ⟨p, by rw [hσ] <;> rfl, h2, h3, h⟩
    · rw [List.getElem?_set_ne (Ne.symm hji)] at hj
      have q := r.at_ j s hj
      cases s with
      | un => trivial
      | val d => exact q
      | ow o2 =>
        obtain ⟨a, k1, k2, k3, k4⟩ := q
        have ne : a ≠ p := fun e => by
          subst e
          exact hji (r.apart j i _ _ a hj hs rfl rfl (join_some k1) hσ)
        exact ⟨a, k1, k2, k3, k4.mono (Same.refl F) fun z e => by rw [upd_ne ne]; exact e⟩
      | io o2 =>
        obtain ⟨k1, k2, k3, k4⟩ := q
        have ne : a0 ≠ p := fun e => by
          subst e
          exact hji (r.apart j i _ _ a0 hj hs rfl rfl (join_some k1) hσ)
        exact ⟨k1, k2, k3, k4.mono (Same.refl F) fun z e => by rw [upd_ne ne]; exact e⟩
  · have look : ∀ (j : Nat) s, (m.set i (.ow ob'))[j]? = some s → isOwn s = true → ∃ s', m[j]? = some s' ∧ isOwn s' = true := fun j s hj o => by
      by_cases hji : j = i
      · exact ⟨.ow ob, by rw [hji]; exact hs, rfl⟩
      · rw [List.getElem?_set_ne (Ne.symm hji)] at hj; exact ⟨s, hj, o⟩
    obtain ⟨s', g1, g2⟩ := look j s h1 o1
    obtain ⟨t', g3, g4⟩ := look k t h2 o2
    exact r.apart j k s' t' a g1 g3 g2 g4 e1 e2
/-- the object handed in is changed -/
theorem Rep.writeIo {i : Nat} {ob ob' : OB} {u : HO} (r : Rep P w K G a0 F m σ H) (hs : m[i]? = some (.io ob)) (h : ObOk P w K F (upd H a0 u) a0 ob') : Rep P w K G a0 F (m.set i (.io ob')) σ (upd H a0 u) := by
  obtain ⟨h1, h2, h3, h4⟩ := r.at_ i _ hs
  have hσ := join_some h1
  have hl : i < m.length := (List.getElem?_eq_some_iff.mp hs).1
  refine ⟨fun b o e => ?_, fun b o e => ?_, by simp [r.len], fun j s hj => ?_, fun j k s t a h1 h2 o1 o2 e1 e2 => ?_⟩
  · rw [upd_ne (ne_of_none e h3)]; exact r.sF b o e
  · rw [upd_ne (ne_of_none e h2)]; exact r.sG b o e
  · by_cases hji : j = i
    · subst hji
      rw [List.getElem?_set_self hl] at hj
      cases hj
      exact ⟨by rw [hσ] <;> rfl, h2, h3, h⟩
    · rw [List.getElem?_set_ne (Ne.symm hji)] at hj
      have q := r.at_ j s hj
      cases s with
      | un => trivial
      | val d => exact q
      | ow o2 =>
        obtain ⟨a, k1, k2, k3, k4⟩ := q
        have ne : a ≠ a0 := fun e => by
          subst e
          exact hji (r.apart j i _ _ a hj hs rfl rfl (join_some k1) hσ)
        exact ⟨a, k1, k2, k3, k4.mono (Same.refl F) fun z e => by rw [upd_ne ne]; exact e⟩
      | io o2 =>
        obtain ⟨k1, k2, k3, k4⟩ := q
        exact absurd (r.apart j i _ _ a0 hj hs rfl rfl (join_some k1) hσ) hji
  · have look : ∀ (j : Nat) s, (m.set i (.io ob'))[j]? = some s → isOwn s = true → ∃ s', m[j]? = some s' ∧ isOwn s' = true := fun j s hj o => by
      by_cases hji : j = i
      · exact ⟨.io ob, by rw [hji]; exact hs, rfl⟩
      · rw [List.getElem?_set_ne (Ne.symm hji)] at hj; exact ⟨s, hj, o⟩
    obtain ⟨s', g1, g2⟩ := look j s h1 o1
    obtain ⟨t', g3, g4⟩ := look k t h2 o2
    exact r.apart j k s' t' a g1 g3 g2 g4 e1 e2

/-! ### a result is frozen -/
def frzR : R → Option D
  | .val d => some d
  | .ow (.lst xs) => some (.list xs)
  | _ => none
theorem ResOk.freeze {q : R} {v : V} {d : D} (r : Rep P w K G a0 F m σ H) (h : ResOk P w K G F H m σ q v) (e : frzR q = some d) : ∃ F2, Stp G F F2 ∧ Rep P w K G a0 F2 m σ H ∧ Dp K F2 v d := by
  cases q with
  | val d' => cases e; exact ⟨F, Stp.refl G F, r, h⟩
  | ow ob =>
    cases ob with
    | dct _ => cases e
    | ins _ _ => cases e
    | lst xs =>
      cases e
      obtain ⟨p, rfl, hG, hF, ⟨vs, h1, h2⟩, ap⟩ := h
      have sm : Same F (upd F p (.lst vs)) := fun b o e => by rw [upd_ne (ne_of_none e hF)]; exact e
      refine ⟨upd F p (.lst vs), ⟨sm, fun b o e => ?_⟩, ⟨fun b o e => ?_, r.sG, r.len, fun i s hs => ?_, r.apart⟩, dp_newL hF h2⟩
      · by_cases hb : b = p
        · subst hb; exact .inr hG
        · rw [upd_ne hb] at e; exact .inl e
      · by_cases hb : b = p
        · subst hb; rw [upd_same] at e; cases e; exact h1
        · rw [upd_ne hb] at e; exact r.sF b o e
      · have q := r.at_ i s hs
        cases s with
        | un => trivial
        | val d => obtain ⟨v, k1, k2⟩ := q; exact ⟨v, k1, dp_mono sm _ _ k2⟩
        | ow ob =>
          obtain ⟨a, k1, k2, k3, k4⟩ := q
          have ne : a ≠ p := fun e => ap i _ hs rfl (by rw [join_some k1, e])
          exact ⟨a, k1, k2, by rw [upd_ne ne]; exact k3, k4.mono sm fun _ z => z⟩
        | io ob =>
          obtain ⟨k1, k2, k3, k4⟩ := q
          have ne : a0 ≠ p := fun e => ap i _ hs rfl (by rw [join_some k1, e])
          exact ⟨k1, k2, by rw [upd_ne ne]; exact k3, k4.mono sm fun _ z => z⟩
end
end MP

end
section
namespace MP
open PySem PySem.Spec L2

/-- with a test's answer, with a list of data, with an optional int -/
abbrev CB := (Bool → Mem → Prop) → (Exn → Mem → Prop) → Mem → Prop
abbrev CL := (List D → Mem → Prop) → (Exn → Mem → Prop) → Mem → Prop
abbrev CO := (Option Int → Mem → Prop) → (Exn → Mem → Prop) → Mem → Prop
section
variable (P : Program) (w : World) (K : PySem.W.Frag) (W : WXs)
def tRB (g : CB) : TT := fun σ H Q => ∃ G a0 F m ok ex, Rep P w K G a0 F m σ H ∧ g ok ex m ∧ ∀ m' F2 H2, Stp G F F2 → Rep P w K G a0 F2 m' σ H2 →
  (∀ b, ok b m' → Q b H2) ∧ (∀ e cls dd, ExOk K F2 H2 e cls dd → ex e m' → W cls dd σ H2)
def tRA (g : CL) : TA := fun σ H Q => ∃ G a0 F m ok ex, Rep P w K G a0 F m σ H ∧ g ok ex m ∧ ∀ m' F2 H2, Stp G F F2 → Rep P w K G a0 F2 m' σ H2 →
  (∀ ds vs, DpAll K F2 vs ds → ok ds m' → Q vs H2) ∧ (∀ e cls dd, ExOk K F2 H2 e cls dd → ex e m' → W cls dd σ H2)
def tRO (g : CO) : TO := fun σ H Q => ∃ G a0 F m ok ex, Rep P w K G a0 F m σ H ∧ g ok ex m ∧ ∀ m' F2 H2, Stp G F F2 → Rep P w K G a0 F2 m' σ H2 →
  (∀ o, ok o m' → Q o H2) ∧ (∀ e cls dd, ExOk K F2 H2 e cls dd → ex e m' → W cls dd σ H2)
end
abbrev GRB (X : Cx) (W : WXs) (e : Expr) (g : CB) : Prop := PT X e (tRB X.prog X.w X.K W g)
abbrev GRW (X : Cx) (W : WXs) (e : Expr) (g : CB) : Prop := PW X e (tRB X.prog X.w X.K W g)
abbrev GRA (X : Cx) (W : WXs) (es : List Expr) (g : CL) : Prop := PA X es (tRA X.prog X.w X.K W g)
abbrev GRO (X : Cx) (W : WXs) (e : Option Expr) (g : CO) : Prop := PO X e (tRO X.prog X.w X.K W g)

/-- a datum is handed on -/
def cBind (g : CP) (k : D → CP) : CP := fun X m => g ⟨fun r m1 => ∃ d, frzR r = some d ∧ k d X m1, X.ex⟩ m

section
variable {P : Program} {w : World} {K : PySem.W.Frag} {W : WXs}
/-- how a reading of an effect is used: the datum v of the first, then on -/
theorem tR.use {g : CP} {k : D → Mem → Prop} {ex : Exn → Mem → Prop} {σ : L2.St} {H : Hp} {Q : VK} {G F : Hp} {a0 : Addr} {m : Mem} (r : Rep P w K G a0 F m σ H) (h : g ⟨fun r m1 => ∃ d, frzR r = some d ∧ k d m1, ex⟩ m)
    (q : ∀ d v m' F2 H2, Stp G F F2 → Rep P w K G a0 F2 m' σ H2 → Dp K F2 v d → k d m' → Q v H2) (qx : ∀ m' F2 H2, Stp G F F2 → Rep P w K G a0 F2 m' σ H2 → ∀ e cls dd, ExOk K F2 H2 e cls dd → ex e m' → W cls dd σ H2) : tR P w K W g σ H Q := by
  refine ⟨G, a0, F, m, _, r, h, fun m' F2 H2 st r2 => ⟨fun rr v ro ok => ?_, fun e cls dd eo ok => qx m' F2 H2 st r2 e cls dd eo ok⟩⟩
  obtain ⟨d, hd, ok⟩ := ok
  obtain ⟨F3, st3, r3, p3⟩ := ro.freeze r2 hd
  exact q d v m' F3 H2 (st.trans st3) r3 p3 ok
/-- .. of a pure one -/
theorem tP.use {f : PF} {σ : L2.St} {H : Hp} {Q : VK} {G F : Hp} {a0 : Addr} {m : Mem} {d : D} (r : Rep P w K G a0 F m σ H) (h : f m = some d)
    (q : ∀ v F2 H2, Stp G F F2 → Rep P w K G a0 F2 m σ H2 → Dp K F2 v d → Q v H2) : tP P w K f σ H Q :=
  ⟨G, a0, F, m, d, r, h, fun v F2 H2 g p => q v F2 H2 (g.stp r.sG) (r.grw g) p⟩
theorem ResOk.val {G F H : Hp} {m : Mem} {σ : L2.St} {v : V} {d : D} (h : Dp K F v d) : ResOk P w K G F H m σ (.val d) v := h
end

section
variable {X : Cx} {W : WXs} {a b c e : Expr} {es : List Expr} {ga gb gc ge : CP} {ta tb : CB} {gs : CL} {f : PF} {pos : Pos}

/-! ### from the pure ones -/
def cP (f : PF) : CP := fun Y m => ∃ d, f m = some d ∧ Y.ok (.val d) m
/-- own lists read; the outcome has no place -/
def cV (f : PF) : CP := fun Y m => ∃ d, f (vw m) = some d ∧ scal d = true ∧ Y.ok (.val d) m
def bP (f : PB) : CB := fun ok _ m => ∃ k, f (vw m) = some k ∧ ok k m
def lP (f : PL) : CL := fun ok _ m => ∃ ds, f m = some ds ∧ ok ds m
def oP (f : PO') : CO := fun ok _ m => ∃ o, f (vw m) = some o ∧ ok o m
theorem gr_p (h : GE X e f) : GR X W e (cP f) := PE.of h fun σ H Q q => by
  obtain ⟨G, a0, F, m, Y, r, ⟨d, h1, h2⟩, q⟩ := q
  exact tP.use r h1 fun v F2 H2 st r2 p => (q m F2 H2 st r2).1 _ v (ResOk.val p) h2
theorem gr_v (h : GE X e f) : GR X W e (cV f) := PE.of h fun σ H Q q => by
  obtain ⟨G, a0, F, m, Y, r, ⟨d, h1, h2, h3⟩, q⟩ := q
  obtain ⟨F', sm, rv⟩ := r.vw
  refine ⟨G, a0, F', _, d, rv, h1, fun v F2 H2 g p => ?_⟩
  exact (q m F H2 (Stp.refl G F) (r.grw (g.beside r.sF))).1 _ v (ResOk.val (dp_scal p h2 F)) h3
theorem grb_p {t : PB} (h : GT X e t) : GRB X W e (bP t) := PT.of h fun σ H Q q => by
  obtain ⟨G, a0, F, m, ok, ex, r, ⟨k, h1, h2⟩, q⟩ := q
  obtain ⟨F', sm, rv⟩ := r.vw
  exact ⟨G, a0, F', _, k, rv, h1, fun F2 H2 g => (q m F H2 (Stp.refl G F) (r.grw (g.beside r.sF))).1 _ h2⟩
theorem gro_p {o : Option Expr} {t : PO'} (h : GO X o t) : GRO X W o (oP t) := PO.of h fun σ H Q q => by
  obtain ⟨G, a0, F, m, ok, ex, r, ⟨k, h1, h2⟩, q⟩ := q
  obtain ⟨F', sm, rv⟩ := r.vw
  exact ⟨G, a0, F', _, k, rv, h1, fun F2 H2 g => (q m F H2 (Stp.refl G F) (r.grw (g.beside r.sF))).1 _ h2⟩
theorem gra_p {t : PL} (h : GA X es t) : GRA X W es (lP t) := PA.of h fun σ H Q q => by
  obtain ⟨G, a0, F, m, ok, ex, r, ⟨ds, h1, h2⟩, q⟩ := q
  exact ⟨G, a0, F, m, ds, r, h1, fun vs F2 H2 g p => (q m F2 H2 (g.stp r.sG) (r.grw g)).1 _ vs p h2⟩

/-! ### operators -/
def cOp (g : D → D → Option D) (ga gb : CP) : CP := cBind ga fun x => cBind gb fun y => fun Y m => ∃ d, g x y = some d ∧ Y.ok (.val d) m
theorem cop_red {g : D → D → Option D} {P : Program} {w : World} {K : PySem.W.Frag} {σ : L2.St} {H : Hp} {Q : VK} (h : tR P w K W (cOp g ga gb) σ H Q) : tOp (rG2 K g) (tR P w K W ga) (tR P w K W gb) σ H Q := by
  obtain ⟨G, a0, F, m, Y, r, h, q⟩ := h
  refine tR.use r h (fun d1 v1 m1 F1 H1 s1 r1 p1 k1 => ?_) fun m' F2 H2 st r2 => (q m' F2 H2 st r2).2
  refine tR.use r1 k1 (fun d2 v2 m2 F2 H2 s2 r2 p2 k2 => ?_) fun m' F2 H2 st r2 => (q m' F2 H2 (s1.trans st) r2).2
  obtain ⟨d, k2, k3⟩ := k2
  refine ⟨F2, d1, d2, d, r2.sF, dp_mono s2.ex _ _ p1, p2, k2, fun v3 F3 H3 g3 p3 => ?_⟩
  exact (q m2 F3 H3 ((s1.trans s2).trans (g3.stp r2.sG)) (r2.grw g3)).1 _ v3 (ResOk.val p3) k3
theorem gr_op {op : Operator} {g : D → D → Option D} (ho : OpR X (binaryOp op) (rG2 X.K g)) (ha : GR X W a ga) (hb : GR X W b gb) : GR X W (.BinOp a op b pos) (cOp g ga gb) := PE.of (pe_op ho ha hb) fun _ _ _ => cop_red
theorem gr_cmp {op : CmpOp} {g : D → D → Option D} (ho : OpR X (compareOp op) (rG2 X.K g)) (ha : GR X W a ga) (hb : GR X W b gb) (hm : behindInMarks op b = false) : GR X W (.Compare a [op] [b] pos) (cOp g ga gb) := PE.of (pe_cmpR ho ha hb hm) fun _ _ _ => cop_red
theorem gr_sub {g : D → D → Option D} (hr : IxR X (rG2 X.K g)) (ha : GR X W a ga) (hb : GR X W b gb) (hs : PlainIx b) : GR X W (.Subscript a b pos) (cOp g ga gb) := PE.of (pe_ix hr ha hb hs) fun _ _ _ => cop_red
/-- a value as a test -/
def bR (g : CP) : CB := fun ok ex m => g ⟨fun r m1 => ∃ k, r = .val (.bool k) ∧ ok k m1, ex⟩ m
theorem ctst_red {P : Program} {w : World} {K : PySem.W.Frag} {g : CP} {t : TE} (k : ∀ σ H Q, tR P w K W g σ H Q → t σ H Q) {σ : L2.St} {H : Hp} {Q : Bool → Hp → Prop} (h : tRB P w K W (bR g) σ H Q) : tTest t σ H Q := by
  obtain ⟨G, a0, F, m, ok, ex, r, h, q⟩ := h
  refine k σ H _ ⟨G, a0, F, m, _, r, h, fun m' F2 H2 st r2 => ⟨fun rr v ro o => ?_, (q m' F2 H2 st r2).2⟩⟩
  obtain ⟨k, rfl, o⟩ := o
  exact ⟨k, dp_bl ro, (q m' F2 H2 st r2).1 k o⟩
theorem grb_cmp {op : CmpOp} {g : D → D → Option D} (ho : OpR X (compareOp op) (rG2 X.K g)) (ha : GR X W a ga) (hb : GR X W b gb) (hm : behindInMarks op b = false) : GRB X W (.Compare a [op] [b] pos) (bR (cOp g ga gb)) :=
  PT.of (pt_cmpR ho ha hb hm) fun _ _ _ => ctst_red fun _ _ _ => cop_red
theorem grb_val (h : GR X W e ge) (he : ∀ whole, isTrue e X.env whole = (do let v ← whole; standAt e.pos; holding [v] (truthy v)) := by intro _; rfl) : GRB X W e (bR ge) := PT.of (pt_val h he) fun σ H Q q => by
  have q2 := ctst_red (t := tR X.prog X.w X.K W ge) (fun _ _ _ z => z) q
  exact q2
def bAnd (ta tb : CB) : CB := fun ok ex m => ta (fun k m1 => (k = true → tb ok ex m1) ∧ (k = false → ok false m1)) ex m
def bOr (ta tb : CB) : CB := fun ok ex m => ta (fun k m1 => (k = true → ok true m1) ∧ (k = false → tb ok ex m1)) ex m
def bNot (ta : CB) : CB := fun ok ex m => ta (fun k m1 => ok (!k) m1) ex m
variable {rest : List Expr}
theorem grw_and1 (ha : GRB X W a ta) : GRW X W (.BoolOp .And [a] pos) ta := pw_and1 ha
theorem grw_or1 (ha : GRB X W a ta) : GRW X W (.BoolOp .Or [a] pos) ta := pw_or1 ha
theorem grw_and (ha : GRB X W a ta) (hb : GRW X W (.BoolOp .And (b :: rest) pos) tb) : GRW X W (.BoolOp .And (a :: b :: rest) pos) (bAnd ta tb) := PW.of (pw_and ha hb) fun σ H Q h => by
  obtain ⟨G, a0, F, m, ok, ex, r, h, q⟩ := h
  refine ⟨G, a0, F, m, _, _, r, h, fun m1 F1 H1 s1 r1 => ⟨fun k o => ?_, (q m1 F1 H1 s1 r1).2⟩⟩
  cases k with
  | true =>
    rw [if_pos rfl]
    exact ⟨G, a0, F1, m1, ok, ex, r1, o.1 rfl, fun m2 F2 H2 s2 r2 => q m2 F2 H2 (s1.trans s2) r2⟩
  | false =>
    rw [if_neg Bool.false_ne_true]
    exact (q m1 F1 H1 s1 r1).1 _ (o.2 rfl)
theorem grw_or (ha : GRB X W a ta) (hb : GRW X W (.BoolOp .Or (b :: rest) pos) tb) : GRW X W (.BoolOp .Or (a :: b :: rest) pos) (bOr ta tb) := PW.of (pw_or ha hb) fun σ H Q h => by
  obtain ⟨G, a0, F, m, ok, ex, r, h, q⟩ := h
  refine ⟨G, a0, F, m, _, _, r, h, fun m1 F1 H1 s1 r1 => ⟨fun k o => ?_, (q m1 F1 H1 s1 r1).2⟩⟩
  cases k with
  | false =>
    rw [if_neg Bool.false_ne_true]
    exact ⟨G, a0, F1, m1, ok, ex, r1, o.2 rfl, fun m2 F2 H2 s2 r2 => q m2 F2 H2 (s1.trans s2) r2⟩
  | true =>
    rw [if_pos rfl]
    exact (q m1 F1 H1 s1 r1).1 _ (o.1 rfl)
theorem grb_w (h : GRW X W e ta) : GRB X W e ta := PW.pt h
theorem grb_not (ha : GRB X W a ta) : GRB X W (.UnaryOp .Not a pos) (bNot ta) := PT.of (pt_not ha) fun σ H Q h => by
  obtain ⟨G, a0, F, m, ok, ex, r, h, q⟩ := h
  exact ⟨G, a0, F, m, _, _, r, h, fun m1 F1 H1 s1 r1 => ⟨fun k o => (q m1 F1 H1 s1 r1).1 _ o, (q m1 F1 H1 s1 r1).2⟩⟩
def cIf (t : CB) (ga gb : CP) : CP := fun Y m => t (fun k m1 => (k = true → ga Y m1) ∧ (k = false → gb Y m1)) Y.ex m
theorem gr_if (hc : GRB X W c ta) (ha : GR X W a ga) (hb : GR X W b gb) : GR X W (.IfExp c a b pos) (cIf ta ga gb) := PE.of (pe_ifExp hc ha hb) fun σ H Q h => by
  obtain ⟨G, a0, F, m, Y, r, h, q⟩ := h
  refine ⟨G, a0, F, m, _, _, r, h, fun m1 F1 H1 s1 r1 => ⟨fun k o => ?_, (q m1 F1 H1 s1 r1).2⟩⟩
  cases k with
  | true =>
    rw [if_pos rfl]
    exact ⟨G, a0, F1, m1, Y, r1, o.1 rfl, fun m2 F2 H2 s2 r2 => q m2 F2 H2 (s1.trans s2) r2⟩
  | false =>
    rw [if_neg Bool.false_ne_true]
    exact ⟨G, a0, F1, m1, Y, r1, o.2 rfl, fun m2 F2 H2 s2 r2 => q m2 F2 H2 (s1.trans s2) r2⟩

/-! ### argument lists, displays, slices, built-ins -/
def lNil : CL := fun ok _ m => ok [] m
def lCons (g : CP) (gs : CL) : CL := fun ok ex m => g ⟨fun r m1 => ∃ d, frzR r = some d ∧ gs (fun ds m2 => ok (d :: ds) m2) ex m1, ex⟩ m
theorem gra_nil : GRA X W [] lNil := PA.of pa_nil fun σ H Q h => by
  obtain ⟨G, a0, F, m, ok, ex, r, h, q⟩ := h
  exact (q m F H (Stp.refl G F) r).1 _ _ .nil h
theorem gra_cons (h1 : GR X W e ge) (h2 : GRA X W es gs) (hs : starEach (e :: es) X.env = (false, eval e X.env) :: starEach es X.env := by rfl) : GRA X W (e :: es) (lCons ge gs) := PA.of (pa_cons h1 h2 hs) fun σ H Q h => by
  obtain ⟨G, a0, F, m, ok, ex, r, h, q⟩ := h
  refine tR.use r h (fun d1 v1 m1 F1 H1 s1 r1 p1 k1 => ?_) fun m' F2 H2 st r2 => (q m' F2 H2 st r2).2
  refine ⟨G, a0, F1, m1, _, _, r1, k1, fun m2 F2 H2 s2 r2 => ⟨fun ds vs p2 o => ?_, (q m2 F2 H2 (s1.trans s2) r2).2⟩⟩
  exact (q m2 F2 H2 (s1.trans s2) r2).1 _ _ (.cons (dp_mono s2.ex _ _ p1) p2) o
def cTup (gs : CL) : CP := fun Y m => gs (fun ds m1 => ds.length ≤ 16777216 ∧ Y.ok (.val (.tuple ds)) m1) Y.ex m
/-- a new list -/
def cLst (gs : CL) : CP := fun Y m => gs (fun ds m1 => ds.length ≤ 16777216 ∧ Y.ok (.ow (.lst ds)) m1) Y.ex m
theorem le_line {n : Nat} (h : n ≤ 16777216) : n ≤ sizeLine := by rw [sizeLine_eq]; exact h
theorem gr_tup {x1} (ha : GRA X W es gs) : GR X W (.Tuple es x1 pos) (cTup gs) := PE.of (pe_tup ha) fun σ H Q h => by
  obtain ⟨G, a0, F, m, Y, r, h, q⟩ := h
  refine ⟨G, a0, F, m, _, _, r, h, fun m1 F1 H1 s1 r1 => ⟨fun ds vs p1 o => ⟨by rw [dps_len p1]; exact le_line o.1, fun p hp => ?_⟩, (q m1 F1 H1 s1 r1).2⟩⟩
  have g := Grw.new (o := .tup vs) r1.sF hp
  exact (q m1 _ _ (s1.trans (g.stp r1.sG)) (r1.grw g)).1 _ _ (ResOk.val (dp_newT (r1.sF.free hp) p1)) o.2
/-- a new own list -/
theorem newOwn {P : Program} {w : World} {K : PySem.W.Frag} {G F H : Hp} {a0 p : Addr} {m : Mem} {σ : L2.St} {vs : List V} {ds : List D} (r : Rep P w K G a0 F m σ H) (hp : H p = none) (h : DpAll K F vs ds) :
    Rep P w K G a0 F m σ (upd H p (.lst vs)) ∧ ResOk P w K G F (upd H p (.lst vs)) m σ (.ow (.lst ds)) (.ref p) := by
  refine ⟨r.grw (Grw.fresh r.sF hp), p, rfl, r.sG.free hp, r.sF.free hp, ⟨vs, upd_same, h⟩, fun i s hs o e => ?_⟩
  have q := r.at_ i s hs
  cases s with
  | un => cases o
  | val d => cases o
  | ow ob =>
    obtain ⟨a, k1, k2, k3, k4⟩ := q
    rw [e] at k1
    cases k1
    obtain ⟨u, hu⟩ := k4.some
    rw [hp] at hu; cases hu
  | io ob =>
    obtain ⟨k1, k2, k3, k4⟩ := q
    rw [e] at k1
    cases k1
    obtain ⟨u, hu⟩ := k4.some
    rw [hp] at hu; cases hu
theorem gr_lst (ha : GRA X W es gs) : GR X W (.List es pos) (cLst gs) := PE.of (pe_lst ha) fun σ H Q h => by
  obtain ⟨G, a0, F, m, Y, r, h, q⟩ := h
  refine ⟨G, a0, F, m, _, _, r, h, fun m1 F1 H1 s1 r1 => ⟨fun ds vs p1 o => ⟨by rw [dps_len p1]; exact le_line o.1, fun p hp => ?_⟩, (q m1 F1 H1 s1 r1).2⟩⟩
  obtain ⟨r2, ro⟩ := newOwn r1 hp p1
  exact (q m1 _ _ s1 r2).1 _ _ ro o.2
def oR (g : CP) : CO := fun ok ex m => g ⟨fun r m1 => ∃ i, r = .val (.int i) ∧ ok (some i) m1, ex⟩ m
theorem gro_none : GRO X W none (fun ok _ m => ok none m) := PO.of po_none fun σ H Q h => by
  obtain ⟨G, a0, F, m, ok, ex, r, h, q⟩ := h
  exact (q m F H (Stp.refl G F) r).1 _ h
theorem gro_some (ha : GR X W a ga) : GRO X W (some a) (oR ga) := PO.of (po_some ha) fun σ H Q h => by
  obtain ⟨G, a0, F, m, ok, ex, r, h, q⟩ := h
  refine ⟨G, a0, F, m, _, r, h, fun m1 F1 H1 s1 r1 => ⟨fun rr v ro o => ?_, (q m1 F1 H1 s1 r1).2⟩⟩
  obtain ⟨i, rfl, o⟩ := o
  exact ⟨i, dp_int ro, (q m1 F1 H1 s1 r1).1 _ o⟩
def cSl (g : D → Option Int → Option Int → Option D) (ga : CP) (lo hi : CO) : CP := cBind ga fun x => fun Y m => lo (fun l m1 => hi (fun h m2 => ∃ d, g x l h = some d ∧ Y.ok (.val d) m2) Y.ex m1) Y.ex m
theorem gr_slice {g : D → Option Int → Option Int → Option D} {lo hi : Option Expr} {gl gh : CO} {p2 : Pos} (hr : SlR X (rGS X.K g)) (ha : GR X W a ga) (hl : GRO X W lo gl) (hu : GRO X W hi gh) : GR X W (.Subscript a (.Slice lo hi none p2) pos) (cSl g ga gl gh) := PE.of (pe_slice hr ha hl hu) fun σ H Q h => by
  obtain ⟨G, a0, F, m, Y, r, h, q⟩ := h
  refine tR.use r h (fun d1 v1 m1 F1 H1 s1 r1 p1 k1 => ?_) fun m' F2 H2 st r2 => (q m' F2 H2 st r2).2
  refine ⟨G, a0, F1, m1, _, _, r1, k1, fun m2 F2 H2 s2 r2 => ⟨fun l k2 => ?_, (q m2 F2 H2 (s1.trans s2) r2).2⟩⟩
  refine ⟨G, a0, F2, m2, _, _, r2, k2, fun m3 F3 H3 s3 r3 => ⟨fun u k3 => ?_, (q m3 F3 H3 ((s1.trans s2).trans s3) r3).2⟩⟩
  obtain ⟨d, k3, k4⟩ := k3
  refine ⟨F3, d1, d, r3.sF, dp_mono (s2.ex.trans s3.ex) _ _ p1, k3, fun v4 F4 H4 g4 p4 => ?_⟩
  exact (q m3 F4 H4 (((s1.trans s2).trans s3).trans (g4.stp r3.sG)) (r3.grw g4)).1 _ v4 (ResOk.val p4) k4
def cCall (g : List D → Option D) (gs : CL) : CP := fun Y m => gs (fun ds m1 => ∃ d, g ds = some d ∧ Y.ok (.val d) m1) Y.ex m
theorem ccall_red {g : List D → Option D} {P : Program} {w : World} {K : PySem.W.Frag} {σ : L2.St} {H : Hp} {Q : VK} (h : tR P w K W (cCall g gs) σ H Q) : tCB (rGL K g) (tRA P w K W gs) σ H Q := by
  obtain ⟨G, a0, F, m, Y, r, h, q⟩ := h
  refine ⟨G, a0, F, m, _, _, r, h, fun m1 F1 H1 s1 r1 => ⟨fun ds vs p1 o => ?_, (q m1 F1 H1 s1 r1).2⟩⟩
  obtain ⟨d, o1, o2⟩ := o
  refine ⟨F1, ds, d, r1.sF, p1, o1, fun v2 F2 H2 g2 p2 => ?_⟩
  exact (q m1 F2 H2 (s1.trans (g2.stp r1.sG)) (r1.grw g2)).1 _ v2 (ResOk.val p2) o2
theorem gr_callB {id : String} {g : List D → Option D} {x : Str} {p : Pos} (hc : CallR X (.builtin id) (rGL X.K g)) (hg : Gl X x) (hm : X.mg x = none) (hv : bootBuiltins x = some (.builtin id)) (ha : GRA X W (e :: es) gs) (hn : x ≠ "__name__" := by decide) (hdb : (x == ("__debug__" : Str)) = false := by decide)
    (he : starEach (e :: es) X.env = (false, eval e X.env) :: starEach es X.env := by rfl) (hpl : (backTo pos (starEach es X.env)).any (·.1) = false := by rfl) :
    GR X W (.Call (.Name x p) (e :: es) [] pos) (cCall g gs) := PE.of (pe_callB hc hg hm hv ha hn hdb he hpl) fun _ _ _ => ccall_red
theorem gr_callTy {T : String} {g : List D → Option D} {x : Str} {p : Pos} (hc : CallR X (.type T) (rGL X.K g)) (hg : Gl X x) (hm : X.mg x = none) (hv : bootBuiltins x = some (.type T)) (ha : GRA X W (e :: es) gs) (hn : x ≠ "__name__" := by decide) (hdb : (x == ("__debug__" : Str)) = false := by decide)
    (he : starEach (e :: es) X.env = (false, eval e X.env) :: starEach es X.env := by rfl) (hpl : (backTo pos (starEach es X.env)).any (·.1) = false := by rfl) :
    GR X W (.Call (.Name x p) (e :: es) [] pos) (cCall g gs) := PE.of (pe_callTy hc hg hm hv ha hn hdb he hpl) fun _ _ _ => ccall_red
end
end MP

end
section
namespace MP
open PySem PySem.Spec L2

/-! ### what a def promises -/
structure CF where
  ok : R → Prop
  ex : Exn → Prop
structure CI where
  ok : R → OB → Prop
  ex : Exn → OB → Prop
abbrev FM := List D → CF → Prop
abbrev IM := OB → List D → CI → Prop
/-- a plain function -/
def det (g : List D → Option D) : FM := fun ds Y => ∃ d, g ds = some d ∧ Y.ok (.val d)

section
variable (P : Program) (w : World) (K : PySem.W.Frag)
/-- a result over the heaps F2, H2, new against H, not at a -/
def ResI (H F2 H2 : Hp) (a : Option Addr) : R → V → Prop
  | .val d, v => Dp K F2 v d
  | .ow ob, v => ∃ p, v = .ref p ∧ H p = none ∧ F2 p = none ∧ a ≠ some p ∧ ObOk P w K F2 H2 p ob
/-- a def that is handed data -/
def SpF (n : Nat) (g : FM) : Sp := fun vs H Q E => ∃ F ds Y, vs.length = n ∧ Same F H ∧ DpAll K F vs ds ∧ g ds Y ∧ ∀ F2 H2, Grw F H F2 H2 →
  (∀ r v, ResI P w K H F2 H2 none r v → Y.ok r → Q v H2) ∧ (∀ e cls dd, ExOk K F2 H2 e cls dd → Y.ex e → E cls dd H2)
/-- a def that is handed an object to be changed, and data -/
def SpI (n : Nat) (g : IM) : Sp := fun vs H Q E => ∃ F a us ob ds Y, vs = .ref a :: us ∧ us.length = n ∧ Same F H ∧ F a = none ∧ ObOk P w K F H a ob ∧ DpAll K F us ds ∧ g ob ds Y ∧
  ∀ ob' F2 H2, Same F F2 → (∀ b o, F2 b = some o → F b = some o ∨ H b = none) → Same F2 H2 → (∀ b o, b ≠ a → H b = some o → H2 b = some o) → F2 a = none → ObOk P w K F2 H2 a ob' →
  (∀ r v, ResI P w K H F2 H2 (some a) r v → Y.ok r ob' → Q v H2) ∧ (∀ e cls dd, ExOk K F2 H2 e cls dd → Y.ex e ob' → E cls dd H2)
end
/-- the name x of the module holds a def with this promise -/
def Has (P : Program) (w : World) (K : PySem.W.Frag) (mg : Str → Option Value) (base : Heap) (CX : CXT) (k : Nat) (x : Str) (ps : List Str) (sp : Sp) : Prop :=
  ∃ f fd, FnOk P w K mg base CX k f fd ps sp ∧ mg x = some (.ref f) ∧ PySem.W.keepIn K (.ref f) = true ∧ Binds K fd ps []
theorem pass0At {X : Cx} {σ : L2.St} {E : XK} : PassesAt CX0 X σ E := fun _ _ _ _ _ _ h => h.elim

section
variable {X : Cx} {W : WXs} {a b c e : Expr} {es : List Expr} {gs : CL} {fs : PL} {pos p : Pos} {x : Str} {ps : List Str} {k n : Nat} {CXc : CXT}

/-! ### calls -/
/-- a plain def, as a pure expression -/
theorem ge_call {g : List D → Option D} (h : Has X.prog X.w X.K X.mg X.base CXc k x ps (SpF X.prog X.w X.K n (det g))) (hr : Room k X.A) (hp : CXc = CX0 := by rfl) (hn : ∀ ds d, g ds = some d → ds.length = n) (ha : GA X (e :: es) fs) (hg : Gl X x := by rfl) (hdb : (x == ("__debug__" : Str)) = false := by decide)
    (he : starEach (e :: es) X.env = (false, eval e X.env) :: starEach es X.env := by rfl) (hpl : (backTo pos (starEach es X.env)).any (·.1) = false := by rfl) : GE X (.Call (.Name x p) (e :: es) [] pos) (pCall g fs) := by
  obtain ⟨f, fd, F, hm, hk, hb⟩ := h
  subst hp
  refine PE.of (pe_callS (E := fun _ _ _ _ => False) F hr hg hm hk hb (fun _ => pass0At) ha hdb he hpl) fun σ H Q h => ?_
  obtain ⟨G, a0, Fz, m, d, r, q, qk⟩ := h
  obtain ⟨ds, h1, h2⟩ := Option.bind_eq_some_iff.mp q
  refine ⟨G, a0, Fz, m, ds, r, h1, fun vs F1 H1 g1 p1 => ?_⟩
  refine ⟨F1, ds, ⟨fun r => r = .val d, fun _ => False⟩, by rw [dps_len p1]; exact hn _ _ h2, g1.sF, p1, ⟨d, h2, rfl⟩, fun F2 H2 g2 => ⟨fun r v ro e => ?_, fun _ _ _ _ z => z.elim⟩⟩
  subst e
  exact qk v F2 H2 (g1.trans g2) ro
def cF (g : FM) (gs : CL) : CP := fun Y m => gs (fun ds m1 => g ds ⟨fun r => Y.ok r m1, fun e => Y.ex e m1⟩) Y.ex m
theorem ResI.ok {P : Program} {w : World} {K : PySem.W.Frag} {G F H F2 H2 : Hp} {a0 : Addr} {m : Mem} {σ : L2.St} {r : R} {v : V} {a : Option Addr} (rp : Rep P w K G a0 F m σ H) (h : ResI P w K H F2 H2 a r v) : ResOk P w K G F2 H2 m σ r v := by
  cases r with
  | val d => exact h
  | ow ob =>
    obtain ⟨p, rfl, h1, h2, _, h3⟩ := h
    refine ⟨p, rfl, rp.sG.free h1, h2, h3, fun i s hs o e => ?_⟩
    have q := rp.at_ i s hs
    cases s with
    | un => cases o
    | val d => cases o
    | ow ob =>
      obtain ⟨a, k1, k2, k3, k4⟩ := q
      rw [e] at k1
      cases k1
      obtain ⟨u, hu⟩ := k4.some
      rw [h1] at hu; cases hu
    | io ob =>
      obtain ⟨k1, k2, k3, k4⟩ := q
      rw [e] at k1
      cases k1
      obtain ⟨u, hu⟩ := k4.some
      rw [h1] at hu; cases hu
theorem callF_red {P : Program} {w : World} {K : PySem.W.Frag} {g : FM} {σ : L2.St} {H : Hp} {Q : VK} (hn : ∀ ds Y, g ds Y → ds.length = n) (h : tR P w K W (cF g gs) σ H Q) : tCallS (SpF P w K n g) (WE W) (tRA P w K W gs) σ H Q := by
  obtain ⟨G, a0, F, m, Y, r, h, q⟩ := h
  refine ⟨G, a0, F, m, _, _, r, h, fun m1 F1 H1 s1 r1 => ⟨fun ds vs p1 o => ?_, (q m1 F1 H1 s1 r1).2⟩⟩
  refine ⟨F1, ds, _, by rw [dps_len p1]; exact hn _ _ o, r1.sF, p1, o, fun F2 H2 g2 => ?_⟩
  have r2 := r1.grw g2
  have st := s1.trans (g2.stp r1.sG)
  exact ⟨fun rr v ro ok => (q m1 F2 H2 st r2).1 rr v (ro.ok r1) ok, fun e cls dd eo ok => (q m1 F2 H2 st r2).2 e cls dd eo ok⟩
theorem gr_callF {g : FM} (h : Has X.prog X.w X.K X.mg X.base CXc k x ps (SpF X.prog X.w X.K n g)) (hr : Room k X.A) (hx : ∀ σ, PassesAt CXc X σ (WE W σ)) (hn : ∀ ds Y, g ds Y → ds.length = n) (ha : GRA X W (e :: es) gs) (hg : Gl X x := by rfl) (hdb : (x == ("__debug__" : Str)) = false := by decide)
    (he : starEach (e :: es) X.env = (false, eval e X.env) :: starEach es X.env := by rfl) (hpl : (backTo pos (starEach es X.env)).any (·.1) = false := by rfl) : GR X W (.Call (.Name x p) (e :: es) [] pos) (cF g gs) := by
  obtain ⟨f, fd, F, hm, hk, hb⟩ := h
  exact PE.of (pe_callS F hr hg hm hk hb hx ha hdb he hpl) fun σ H Q q => callF_red hn q
/-- f() -/
def cF0 (g : FM) : CP := fun Y m => g [] ⟨fun r => Y.ok r m, fun _ => False⟩
theorem gr_callF0 {g : FM} (h : Has X.prog X.w X.K X.mg X.base CX0 k x ps (SpF X.prog X.w X.K 0 g)) (hr : Room k X.A) (hg : Gl X x := by rfl) (hdb : (x == ("__debug__" : Str)) = false := by decide) : GR X W (.Call (.Name x p) [] [] pos) (cF0 g) := by
  obtain ⟨f, fd, F, hm, hk, hb⟩ := h
  refine PE.of (pe_call0 (dvs := []) (ds := []) (E := E0) F hr hg hm hk hb .nil pass0 hdb) fun σ H Q q => ?_
  obtain ⟨G, a0, Fz, m, Y, r, h, q⟩ := q
  refine ⟨Fz, [], ⟨fun r => Y.ok r m, fun _ => False⟩, rfl, r.sF, .nil, h, fun F2 H2 g2 => ⟨fun rr v ro ok => ?_, fun e cls dd eo ok => ok.elim⟩⟩
  exact (q m F2 H2 (g2.stp r.sG) (r.grw g2)).1 rr v (ro.ok r) ok

/-! ### calls that are handed an object -/
def ownAt (m : Mem) (i : Nat) : Option OB := match m[i]? with
  | some (.ow ob) => some ob
  | some (.io ob) => some ob
  | _ => none
def putOwn (m : Mem) (i : Nat) (ob : OB) : Mem := match m[i]? with
  | some (.ow _) => m.set i (.ow ob)
  | some (.io _) => m.set i (.io ob)
  | _ => m
theorem ownAt_eq {m : Mem} {i : Nat} {ob : OB} (h : ownAt m i = some ob) : (m[i]? = some (.ow ob) ∧ ∀ o, putOwn m i o = m.set i (.ow o)) ∨ (m[i]? = some (.io ob) ∧ ∀ o, putOwn m i o = m.set i (.io o)) := by
  unfold ownAt at h
  unfold putOwn
  split at h
  · rename_i o e
    cases h
    exact .inl ⟨e, fun o => rfl⟩
  · rename_i o e
    cases h
    exact .inr ⟨e, fun o => rfl⟩
  · cases h
section
variable {P : Program} {w : World} {K : PySem.W.Frag} {G F H F2 H2 : Hp} {a0 : Addr} {m : Mem} {σ : L2.St}
theorem Rep.own {i : Nat} {ob : OB} (r : Rep P w K G a0 F m σ H) (h : ownAt m i = some ob) : ∃ a, σ[i]? = some (some (.ref a)) ∧ G a = none ∧ F a = none ∧ ObOk P w K F H a ob := by
  rcases ownAt_eq h with ⟨e, _⟩ | ⟨e, _⟩
  · obtain ⟨a, h1, h2, h3, h4⟩ := r.at_ i _ e
    exact ⟨a, join_some h1, h2, h3, h4⟩
  · obtain ⟨h1, h2, h3, h4⟩ := r.at_ i _ e
    exact ⟨a0, join_some h1, h2, h3, h4⟩
/-- behind something that changed the object at a alone -/
theorem Rep.changed {i : Nat} {ob ob' : OB} {a : Addr} (r : Rep P w K G a0 F m σ H) (h : ownAt m i = some ob) (hσ : σ[i]? = some (some (.ref a))) (sF : Same F F2) (gr : ∀ b o, F2 b = some o → F b = some o ∨ H b = none) (s2 : Same F2 H2)
    (fr : ∀ b o, b ≠ a → H b = some o → H2 b = some o) (na : F2 a = none) (ho : ObOk P w K F2 H2 a ob') : Stp G F F2 ∧ Rep P w K G a0 F2 (putOwn m i ob') σ H2 := by
  have hG : G a = none := by
    obtain ⟨a', h1, h2, h3, h4⟩ := r.own h
    rw [hσ] at h1; cases h1; exact h2
  have sG : Same G H2 := fun b o e => fr b o (ne_of_none e hG) (r.sG b o e)
  have keep : ∀ b, F b = none → (∃ u, H b = some u) → F2 b = none := fun b n ⟨u, hu⟩ => by
    cases e : F2 b with
    | none => rfl
    | some o =>
      rcases gr b o e with z | z
      · rw [n] at z; cases z
      · rw [hu] at z; cases z
  refine ⟨⟨sF, fun b o e => (gr b o e).imp id fun z => r.sG.free z⟩, ?_⟩
  have others : ∀ (j : Nat) s, j ≠ i → m[j]? = some s → SlotOk P w K G a0 F2 H2 s (σ[j]?.join) := fun j s hj hs => by
    have q := r.at_ j s hs
    cases s with
    | un => trivial
    | val d => obtain ⟨v, k1, k2⟩ := q; exact ⟨v, k1, dp_mono sF _ _ k2⟩
    | ow o2 =>
      obtain ⟨c, k1, k2, k3, k4⟩ := q
      have ne : c ≠ a := fun e => by
        subst e
        rcases ownAt_eq h with ⟨z, _⟩ | ⟨z, _⟩
        · exact hj (r.apart j i _ _ c hs z rfl rfl (join_some k1) hσ)
        · exact hj (r.apart j i _ _ c hs z rfl rfl (join_some k1) hσ)
      exact ⟨c, k1, k2, keep c k3 k4.some, k4.mono sF fun u => fr c u ne⟩
    | io o2 =>
      obtain ⟨k1, k2, k3, k4⟩ := q
      have ne : a0 ≠ a := fun e => by
        subst e
        rcases ownAt_eq h with ⟨z, _⟩ | ⟨z, _⟩
        · exact hj (r.apart j i _ _ a0 hs z rfl rfl (join_some k1) hσ)
        · exact hj (r.apart j i _ _ a0 hs z rfl rfl (join_some k1) hσ)
      exact ⟨k1, k2, keep a0 k3 k4.some, k4.mono sF fun u => fr a0 u ne⟩
  have apart : ∀ (m' : Mem), (∀ (j : Nat) s, m'[j]? = some s → isOwn s = true → ∃ s', m[j]? = some s' ∧ isOwn s' = true) → ∀ (i j : Nat) s t b, m'[i]? = some s → m'[j]? = some t → isOwn s = true → isOwn t = true → σ[i]? = some (some (.ref b)) → σ[j]? = some (some (.ref b)) → i = j :=
    fun m' back i j s t b h1 h2 o1 o2 e1 e2 => by
      obtain ⟨s', g1, g2⟩ := back i s h1 o1
      obtain ⟨t', g3, g4⟩ := back j t h2 o2
      exact r.apart i j s' t' b g1 g3 g2 g4 e1 e2
  rcases ownAt_eq h with ⟨hs, hp⟩ | ⟨hs, hp⟩
  · rw [hp]
    have hl : i < m.length := (List.getElem?_eq_some_iff.mp hs).1
    refine ⟨s2, sG, by simp [r.len], fun j s hj => ?_, apart _ fun j s hj o => ?_⟩
    · by_cases hji : j = i
      · subst hji
        rw [List.getElem?_set_self hl] at hj
        cases hj
        exact ⟨a, by rw [hσ] <;> rfl, hG, na, ho⟩
      · rw [List.getElem?_set_ne (Ne.symm hji)] at hj
        exact others j s hji hj
    · by_cases hji : j = i
      · exact ⟨_, by rw [hji]; exact hs, rfl⟩
      · rw [List.getElem?_set_ne (Ne.symm hji)] at hj; exact ⟨s, hj, o⟩
  · rw [hp]
    have hl : i < m.length := (List.getElem?_eq_some_iff.mp hs).1
    have ea : a = a0 := by
      obtain ⟨k1, _⟩ := r.at_ i _ hs
      have := join_some k1
      rw [hσ] at this; cases this; rfl
    subst ea
    refine ⟨s2, sG, by simp [r.len], fun j s hj => ?_, apart _ fun j s hj o => ?_⟩
    · by_cases hji : j = i
      · subst hji
        rw [List.getElem?_set_self hl] at hj
        cases hj
        exact ⟨by rw [hσ] <;> rfl, hG, na, ho⟩
      · rw [List.getElem?_set_ne (Ne.symm hji)] at hj
        exact others j s hji hj
    · by_cases hji : j = i
      · exact ⟨_, by rw [hji]; exact hs, rfl⟩
      · rw [List.getElem?_set_ne (Ne.symm hji)] at hj; exact ⟨s, hj, o⟩
/-- the answer of such a call is apart from the slots -/
theorem ResI.okI {i : Nat} {ob ob' : OB} {a : Addr} {q : R} {v : V} (r : Rep P w K G a0 F m σ H) (h : ownAt m i = some ob) (hσ : σ[i]? = some (some (.ref a))) (ro : ResI P w K H F2 H2 (some a) q v) : ResOk P w K G F2 H2 (putOwn m i ob') σ q v := by
  have z := ro.ok r (G := G)
  cases q with
  | val d => exact z
  | ow o2 =>
    obtain ⟨p, rfl, h1, h2, h3, h4⟩ := z
    refine ⟨p, rfl, h1, h2, h3, fun j s hj o e => ?_⟩
    rcases ownAt_eq h with ⟨hs, hp⟩ | ⟨hs, hp⟩
    all_goals
      rw [hp] at hj
      by_cases hji : j = i
      · subst hji; exact h4 j _ hs rfl e
      · rw [List.getElem?_set_ne (Ne.symm hji)] at hj; exact h4 j s hj o e
end
def cI (g : IM) (i : Nat) (gs : CL) : CP := fun Y m => (ownAt m i).isSome = true ∧ gs (fun ds m1 => ∃ ob, ownAt m1 i = some ob ∧ g ob ds ⟨fun r ob' => Y.ok r (putOwn m1 i ob'), fun e ob' => Y.ex e (putOwn m1 i ob')⟩) Y.ex m
theorem callI_run {P : Program} {w : World} {K : PySem.W.Frag} {g : IM} {i : Nat} {σ : L2.St} {Q : VK} {G F H : Hp} {a0 : Addr} {m : Mem} {ds : List D} {us : List V} {Y : PX} {ob : OB} (hn : ∀ ob ds Y, g ob ds Y → ds.length = n) (r : Rep P w K G a0 F m σ H) (p : DpAll K F us ds)
    (hob : ownAt m i = some ob) (o : g ob ds ⟨fun r ob' => Y.ok r (putOwn m i ob'), fun e ob' => Y.ex e (putOwn m i ob')⟩) (q : ∀ m' F2 H2, Stp G F F2 → Rep P w K G a0 F2 m' σ H2 →
  (∀ r v, ResOk P w K G F2 H2 m' σ r v → Y.ok r m' → Q v H2) ∧ (∀ e cls dd, ExOk K F2 H2 e cls dd → Y.ex e m' → W cls dd σ H2)) :
    ∃ v, σ[i]? = some (some v) ∧ SpI P w K n g (v :: us) H Q (WE W σ) := by
  obtain ⟨a, h1, h2, h3, h4⟩ := r.own hob
  refine ⟨.ref a, h1, F, a, us, ob, ds, _, rfl, by rw [dps_len p]; exact hn _ _ _ o, r.sF, h3, h4, p, o, fun ob' F2 H2 sF gr s2 fr na ho => ?_⟩
  obtain ⟨st, r2⟩ := r.changed hob h1 sF gr s2 fr na ho
  exact ⟨fun rr v ro ok => (q _ F2 H2 st r2).1 rr v (ro.okI r hob h1) ok, fun e cls dd eo ok => (q _ F2 H2 st r2).2 e cls dd eo ok⟩
theorem gr_callI {g : IM} {y : Str} {p2 : Pos} (i : Nat) (h : Has X.prog X.w X.K X.mg X.base CXc k x ps (SpI X.prog X.w X.K n g)) (hr : Room k X.A) (hx : ∀ σ, PassesAt CXc X σ (WE W σ)) (hn : ∀ ob ds Y, g ob ds Y → ds.length = n) (hy : PE X (.Name y p2) (tVar i)) (ha : GRA X W es gs) (hg : Gl X x := by rfl) (hdb : (x == ("__debug__" : Str)) = false := by decide)
    (he : starEach (.Name y p2 :: es) X.env = (false, eval (.Name y p2) X.env) :: starEach es X.env := by rfl) (hpl : (backTo pos (starEach es X.env)).any (·.1) = false := by rfl) : GR X W (.Call (.Name x p) (.Name y p2 :: es) [] pos) (cI g i gs) := by
  obtain ⟨f, fd, F, hm, hk, hb⟩ := h
  refine PE.of (pe_callS F hr hg hm hk hb hx (pa_cons hy ha he) hdb he hpl) fun σ H Q q => ?_
  obtain ⟨G, a0, Fz, m, Y, r, ⟨h0, h⟩, q⟩ := q
  -- the slot's address does not change while the other arguments are reckoned
  obtain ⟨o0, h0⟩ := Option.isSome_iff_exists.mp h0
  obtain ⟨a, hv, _⟩ := r.own h0
  refine ⟨.ref a, hv, G, a0, Fz, m, _, _, r, h, fun m1 F1 H1 s1 r1 => ⟨fun ds vs p1 o => ?_, (q m1 F1 H1 s1 r1).2⟩⟩
  obtain ⟨ob, hob, o⟩ := o
  obtain ⟨v', e, sp⟩ := callI_run (Q := Q) hn r1 p1 hob o fun m' F2 H2 st r2 => q m' F2 H2 (s1.trans st) r2
  rw [hv] at e
  cases e
  exact sp
end
end MP

end
section
namespace MP
open PySem PySem.Spec L2

/-! ### what is walked -/
/-- J gives the data ds, one a turn, whatever the heap has grown to -/
def WkD (K : PySem.W.Frag) (F : Hp) (J : It) (ds : List D) : Prop :=
  ∀ (i : Nat) (F2 H : Hp), Same F F2 → Same F2 H → (i < ds.length → J.go i H) ∧ (ds.length ≤ i → J.stop i H) ∧ ∀ x H' d, ds[i]? = some d → J.yld i H x H' → ∃ F3, Grw F2 H F3 H' ∧ Dp K F3 x d
section
variable (P : Program) (w : World) (K : PySem.W.Frag) (W : WXs)
def tRI (g : CL) : TI := fun σ H R => ∃ G a0 F m ok ex, Rep P w K G a0 F m σ H ∧ g ok ex m ∧ ∀ m' F2 H2, Stp G F F2 → Rep P w K G a0 F2 m' σ H2 →
  (∀ ds J, WkD K F2 J ds → ok ds m' → R J H2) ∧ (∀ e cls dd, ExOk K F2 H2 e cls dd → ex e m' → W cls dd σ H2)
end
abbrev GRI (X : Cx) (W : WXs) (tg e : Expr) (g : CL) : Prop := PI X tg e (tRI X.prog X.w X.K W g)
theorem PI.of {X : Cx} {tg e : Expr} {t t' : TI} (h : PI X tg e t) (k : ∀ σ H Q, t' σ H Q → t σ H Q) : PI X tg e t' := ⟨fun pins s σ H Q I q => h.run pins s σ H Q I (k _ _ _ q)⟩
section
variable {K : PySem.W.Frag} {F : Hp}
theorem WkD.mono {F2 : Hp} {J : It} {ds : List D} (h : WkD K F J ds) (s : Same F F2) : WkD K F2 J ds := fun i F3 H e1 e2 => h i F3 H (s.trans e1) e2
theorem wk_list {a : Addr} {xs : List V} {ds : List D} (h : SqL K F a xs) (p : DpAll K F xs ds) : WkD K F (Itl K a) ds := fun i F2 H e1 e2 => by
  have q : SqL K H a xs := same_l e2 (same_l e1 h)
  refine ⟨fun hi => ?_, fun hi => ⟨xs, q, by rw [dps_len p]; exact hi⟩, fun x H' d hd y => ?_⟩
  · obtain ⟨v, hv, _⟩ := dps_get p (List.getElem?_eq_getElem hi)
    exact ⟨xs, v, q, hv⟩
  · obtain ⟨rfl, y⟩ := y
    obtain ⟨v, hv, pv⟩ := dps_get p hd
    have := y xs q
    rw [hv] at this
    cases this
    exact ⟨F2, Grw.refl e2, dp_mono e1 _ _ pv⟩
theorem wk_tup {a : Addr} {xs : List V} {ds : List D} (h : SqT K F a xs) (p : DpAll K F xs ds) : WkD K F (Itt K a) ds := fun i F2 H e1 e2 => by
  have q : SqT K H a xs := same_t e2 (same_t e1 h)
  refine ⟨fun hi => ?_, fun hi => ⟨xs, q, by rw [dps_len p]; exact hi⟩, fun x H' d hd y => ?_⟩
  · obtain ⟨v, hv, _⟩ := dps_get p (List.getElem?_eq_getElem hi)
    exact ⟨xs, v, q, hv⟩
  · obtain ⟨rfl, y⟩ := y
    obtain ⟨v, hv, pv⟩ := dps_get p hd
    have := y xs q
    rw [hv] at this
    cases this
    exact ⟨F2, Grw.refl e2, dp_mono e1 _ _ pv⟩
end
/-- the signs of a text -/
def signs (z : Str) : List D := z.cps.toList.map fun c => .str ⟨#[c]⟩
theorem wk_str {K : PySem.W.Frag} {F : Hp} (z : Str) : WkD K F (Its z) (signs z) := fun i F2 H e1 e2 => by
  have hl : (signs z).length = z.cps.size := by simp [signs]
  refine ⟨fun hi => by rw [hl] at hi; exact hi, fun hi => by rw [hl] at hi; exact hi, fun x H' d hd y => ?_⟩
  obtain ⟨rfl, c, hc, rfl⟩ := y
  refine ⟨F2, Grw.refl e2, ?_⟩
  have : (signs z)[i]? = some (.str ⟨#[c]⟩) := by simp [signs, hc]
  rw [this] at hd
  cases hd
  exact .str _
/-- lo, lo + 1, .. -/
def rng (lo : Int) (n : Nat) : List D := (List.range n).map fun (i : Nat) => .int (lo + (i : Int))
theorem rng_get {lo : Int} {n i : Nat} {d : D} (h : (rng lo n)[i]? = some d) : i < n ∧ d = .int (lo + (i : Int)) := by
  unfold rng at h
  rw [List.getElem?_map] at h
  obtain ⟨j, hj, rfl⟩ := Option.map_eq_some_iff.mp h
  obtain ⟨h1, h2⟩ := List.getElem?_eq_some_iff.mp hj
  rw [List.getElem_range] at h2
  subst h2
  rw [List.length_range] at h1
  exact ⟨h1, rfl⟩
theorem wk_range {K : PySem.W.Frag} {F : Hp} (lo : Int) (n : Nat) : WkD K F (Itr lo n) (rng lo n) := fun i F2 H e1 e2 => by
  have hl : (rng lo n).length = n := by simp [rng]
  refine ⟨fun hi => by rw [hl] at hi; exact hi, fun hi => by rw [hl] at hi; exact hi, fun x H' d hd y => ?_⟩
  obtain ⟨rfl, rfl⟩ := y
  obtain ⟨_, rfl⟩ := rng_get hd
  exact ⟨F2, Grw.refl e2, .int _⟩
/-- lo, lo + c, .. -/
def rngC (lo c : Int) (n : Nat) : List D := (List.range n).map fun (i : Nat) => .int (lo + (i : Int) * c)
theorem wk_rangeC {K : PySem.W.Frag} {F : Hp} (lo c : Int) (n : Nat) : WkD K F (Itc lo c n) (rngC lo c n) := fun i F2 H e1 e2 => by
  have hl : (rngC lo c n).length = n := by simp [rngC]
  refine ⟨fun hi => by rw [hl] at hi; exact hi, fun hi => by rw [hl] at hi; exact hi, fun x H' d hd y => ?_⟩
  obtain ⟨rfl, rfl⟩ := y
  unfold rngC at hd
  rw [List.getElem?_map] at hd
  obtain ⟨j, hj, rfl⟩ := Option.map_eq_some_iff.mp hd
  obtain ⟨h1, h2⟩ := List.getElem?_eq_some_iff.mp hj
  rw [List.getElem_range] at h2
  subst h2
  exact ⟨F2, Grw.refl e2, .int _⟩

section
variable {X : Cx} {W : WXs} {tg e a b c : Expr} {g ga gb gc : CP} {gs : CL} {f : PF} {fs : PL} {p pos : Pos}
def iL (g : CP) : CL := fun ok ex m => g ⟨fun r m1 => ∃ ds, frzR r = some (.list ds) ∧ ok ds m1, ex⟩ m
def iT (g : CP) : CL := fun ok ex m => g ⟨fun r m1 => ∃ ds, r = .val (.tuple ds) ∧ ok ds m1, ex⟩ m
def iS (g : CP) : CL := fun ok ex m => g ⟨fun r m1 => ∃ z, r = .val (.str z) ∧ ok (signs z) m1, ex⟩ m
theorem gri_list (h : GR X W e g) : GRI X W tg e (iL g) := PI.of (pi_list h) fun σ H R q => by
  obtain ⟨G, a0, F, m, ok, ex, r, h, q⟩ := q
  refine ⟨G, a0, F, m, _, r, h, fun m1 F1 H1 s1 r1 => ⟨fun rr v ro o => ?_, (q m1 F1 H1 s1 r1).2⟩⟩
  obtain ⟨ds, hf, o⟩ := o
  obtain ⟨F2, s2, r2, p2⟩ := ro.freeze r1 hf
  obtain ⟨a, xs, rfl, hl, hp⟩ := lst_inv p2
  exact ⟨a, rfl, ⟨xs, same_l r2.sF hl⟩, (q m1 F2 H1 (s1.trans s2) r2).1 ds _ (wk_list hl hp) o⟩
theorem gri_tup (h : GR X W e g) : GRI X W tg e (iT g) := PI.of (pi_tup h) fun σ H R q => by
  obtain ⟨G, a0, F, m, ok, ex, r, h, q⟩ := q
  refine ⟨G, a0, F, m, _, r, h, fun m1 F1 H1 s1 r1 => ⟨fun rr v ro o => ?_, (q m1 F1 H1 s1 r1).2⟩⟩
  obtain ⟨ds, rfl, o⟩ := o
  obtain ⟨a, xs, rfl, hl, hp⟩ := tup_inv ro
  exact ⟨a, rfl, ⟨xs, same_t r1.sF hl⟩, (q m1 F1 H1 s1 r1).1 ds _ (wk_tup hl hp) o⟩
theorem gri_str (h : GR X W e g) : GRI X W tg e (iS g) := PI.of (pi_str h) fun σ H R q => by
  obtain ⟨G, a0, F, m, ok, ex, r, h, q⟩ := q
  refine ⟨G, a0, F, m, _, r, h, fun m1 F1 H1 s1 r1 => ⟨fun rr v ro o => ?_, (q m1 F1 H1 s1 r1).2⟩⟩
  obtain ⟨z, rfl, o⟩ := o
  exact ⟨z, dp_str ro, (q m1 F1 H1 s1 r1).1 _ _ (wk_str z) o⟩
def big (i : Int) : Prop := -4611686018427387904 ≤ i ∧ i < 4611686018427387904
def iR1 (gs : CL) : CL := fun ok ex m => gs (fun ds m1 => ∃ j : Int, ds = [.int j] ∧ big j ∧ ok (rng 0 j.toNat) m1) ex m
def iR2 (gs : CL) : CL := fun ok ex m => gs (fun ds m1 => ∃ i j : Int, ds = [.int i, .int j] ∧ (big i ∧ big j) ∧ ok (rng i (j - i).toNat) m1) ex m
/-- downwards by ones -/
def iR3 (gs : CL) : CL := fun ok ex m => gs (fun ds m1 => ∃ i j : Int, ds = [.int i, .int j, .int (-1)] ∧ (big i ∧ big j) ∧ ok (rngC i (-1) (i - j).toNat) m1) ex m
theorem dps1 {K : PySem.W.Frag} {F : Hp} {vs : List V} {i : Int} (h : DpAll K F vs [.int i]) : vs = [.int i] := by
  cases h with | cons h1 h2 => cases h1; cases h2; rfl
theorem dps2 {K : PySem.W.Frag} {F : Hp} {vs : List V} {i j : Int} (h : DpAll K F vs [.int i, .int j]) : vs = [.int i, .int j] := by
  cases h with | cons h1 h2 => cases h1; rw [dps1 h2]
theorem dps3 {K : PySem.W.Frag} {F : Hp} {vs : List V} {i j k : Int} (h : DpAll K F vs [.int i, .int j, .int k]) : vs = [.int i, .int j, .int k] := by
  cases h with | cons h1 h2 => cases h1; rw [dps2 h2]
theorem gri_range1 (hm : X.mg "range" = none) (h : GRA X W [a] gs) (hg : Gl X "range" := by rfl) (hs : starEach [a] X.env = [(false, eval a X.env)] := by rfl) : GRI X W tg (.Call (.Name "range" p) [a] [] pos) (iR1 gs) := PI.of (pi_range1 hg hm h hs) fun σ H R q => by
  obtain ⟨G, a0, F, m, ok, ex, r, h, q⟩ := q
  refine ⟨G, a0, F, m, _, _, r, h, fun m1 F1 H1 s1 r1 => ⟨fun ds vs p1 o => ?_, (q m1 F1 H1 s1 r1).2⟩⟩
  obtain ⟨j, rfl, ⟨b1, b2⟩, o⟩ := o
  exact ⟨j, dps1 p1, by omega, by omega, (q m1 F1 H1 s1 r1).1 _ _ (wk_range 0 j.toNat) o⟩
theorem gri_range2 (hm : X.mg "range" = none) (h : GRA X W [a, b] gs) (hg : Gl X "range" := by rfl) (hs : starEach [a, b] X.env = [(false, eval a X.env), (false, eval b X.env)] := by rfl) (hs2 : starEach [b] X.env = [(false, eval b X.env)] := by rfl) : GRI X W tg (.Call (.Name "range" p) [a, b] [] pos) (iR2 gs) := PI.of (pi_range2 hg hm h hs hs2) fun σ H R q => by
  obtain ⟨G, a0, F, m, ok, ex, r, h, q⟩ := q
  refine ⟨G, a0, F, m, _, _, r, h, fun m1 F1 H1 s1 r1 => ⟨fun ds vs p1 o => ?_, (q m1 F1 H1 s1 r1).2⟩⟩
  obtain ⟨i, j, rfl, ⟨⟨b1, b2⟩, b3, b4⟩, o⟩ := o
  exact ⟨i, j, dps2 p1, by omega, (q m1 F1 H1 s1 r1).1 _ _ (wk_range i _) o⟩
theorem gri_range3 (hm : X.mg "range" = none) (h : GRA X W [a, b, c] gs) (hg : Gl X "range" := by rfl) (hs : starEach [a, b, c] X.env = (false, eval a X.env) :: starEach [b, c] X.env := by rfl) (hs2 : (backTo pos (starEach [b, c] X.env)).any (·.1) = false := by rfl) : GRI X W tg (.Call (.Name "range" p) [a, b, c] [] pos) (iR3 gs) := PI.of (pi_range3 hg hm h hs hs2) fun σ H R q => by
  obtain ⟨G, a0, F, m, ok, ex, r, h, q⟩ := q
  refine ⟨G, a0, F, m, _, _, r, h, fun m1 F1 H1 s1 r1 => ⟨fun ds vs p1 o => ?_, (q m1 F1 H1 s1 r1).2⟩⟩
  obtain ⟨i, j, rfl, ⟨⟨b1, b2⟩, b3, b4⟩, o⟩ := o
  exact ⟨i, j, -1, (i - j).toNat, dps3 p1, RgC.neg (by omega) (by omega) (by omega) (by omega), (q m1 F1 H1 s1 r1).1 _ _ (wk_rangeC i (-1) _) o⟩
end

/-! ### targets -/
abbrev TD := D → Mem → Option Mem
def noIo (m : Mem) (i : Nat) : Bool := match m[i]? with
  | some (.io _) => false
  | _ => true
def tgN (i : Nat) : TD := fun d m => if noIo m i = true then some (m.set i (.val d)) else none
abbrev TDs := List D → Mem → Option Mem
def tgsNil : TDs := fun ds m => if ds.isEmpty = true then some m else none
def tgsCons (t : TD) (u : TDs) : TDs := fun ds m => match ds with
  | [] => none
  | d :: r => (t d m).bind fun m1 => u r m1
def tgT (n : Nat) (u : TDs) : TD := fun d m => match d with
  | .tuple ds => if ds.length = n then u ds m else none
  | _ => none
section
variable (P : Program) (w : World) (K : PySem.W.Frag)
/-- but for the slots js -/
def Alk (js : List Nat) (σ' σ : L2.St) : Prop := σ'.length = σ.length ∧ ∀ j, j ∉ js → σ'[j]? = σ[j]?
def tTg (js : List Nat) (t : TD) : TG := fun v σ H Q => ∃ G a0 F m d m', Rep P w K G a0 F m σ H ∧ Dp K F v d ∧ t d m = some m' ∧ ∀ σ', Rep P w K G a0 F m' σ' H → Alk js σ' σ → Q σ' H
def tTgs (js : List Nat) (t : TDs) : TGs := fun vs σ H Q => ∃ G a0 F m ds m', Rep P w K G a0 F m σ H ∧ DpAll K F vs ds ∧ t ds m = some m' ∧ ∀ σ', Rep P w K G a0 F m' σ' H → Alk js σ' σ → Q σ' H
end
abbrev GG (X : Cx) (tg : Expr) (js : List Nat) (t : TD) : Prop := PG X tg (tTg X.prog X.w X.K js t)
abbrev GGs (X : Cx) (ts : List Expr) (js : List Nat) (t : TDs) : Prop := PGs X ts (tTgs X.prog X.w X.K js t)
theorem PG.of {X : Cx} {tg : Expr} {t t' : TG} (h : PG X tg t) (k : ∀ v σ H Q, t' v σ H Q → t v σ H Q) : PG X tg t' := ⟨fun pins s σ H v u Q I r q => h.run pins s σ H v u Q I r (k _ _ _ _ q)⟩
theorem PGs.of {X : Cx} {tg : List Expr} {t t' : TGs} (h : PGs X tg t) (k : ∀ v σ H Q, t' v σ H Q → t v σ H Q) : PGs X tg t' := ⟨fun pins s σ H v u Q I r q => h.run pins s σ H v u Q I r (k _ _ _ _ q)⟩
section
variable {X : Cx} {e : Expr} {es : List Expr} {t : TD} {ts : TDs} {pos : Pos} {x : Str}
theorem gg_name (i : Nat) (hN : X.N.Nodup) (hi : X.N[i]? = some x := by rfl) (hx : Loc X.env.scope x := by first | exact .inl rfl | exact .inr rfl) (hf : X.fn x = true ∨ X.env.scope.names.lookup x = some .local := by first | exact .inl rfl | exact .inr rfl) : GG X (.Name x pos) [i] (tgN i) :=
  PG.of (pg_name hN hi hx hf) fun v σ H Q q => by
    obtain ⟨G, a0, F, m, d, m', r, p, e, k⟩ := q
    unfold tgN at e
    split at e
    · cases e; exact k _ (r.setVal p) ⟨by simp, fun j hj => by rw [List.getElem?_set_ne (by intro h; exact hj (by simp [h]))]⟩
    · cases e
theorem ggs_nil : GGs X [] [] tgsNil := PGs.of pgs_nil fun v σ H Q q => by
  obtain ⟨G, a0, F, m, ds, m', r, p, e, k⟩ := q
  cases p with
  | nil => cases e; exact ⟨rfl, k _ r ⟨rfl, fun _ _ => rfl⟩⟩
  | cons _ _ => cases e
theorem ggs_cons {js ks : List Nat} (h1 : GG X e js t) (h2 : GGs X es ks ts) (hs : (assignEach (e :: es) X.env).map (·.2) = assign e X.env :: (assignEach es X.env).map (·.2) := by rfl) : GGs X (e :: es) (js ++ ks) (tgsCons t ts) := PGs.of (pgs_cons h1 h2 hs) fun v σ H Q q => by
  obtain ⟨G, a0, F, m, ds, m', r, p, e, k⟩ := q
  cases p with
  | nil => cases e
  | cons p1 p2 =>
    obtain ⟨m1, e1, e2⟩ := Option.bind_eq_some_iff.mp e
    refine ⟨_, _, rfl, G, a0, F, m, _, m1, r, p1, e1, fun σ1 r1 k1 => ?_⟩
    exact ⟨G, a0, F, m1, _, m', r1, p2, e2, fun σ2 r2 k2 => k σ2 r2 ⟨k2.1.trans k1.1, fun j hj => (k2.2 j fun z => hj (List.mem_append_right _ z)).trans (k1.2 j fun z => hj (List.mem_append_left _ z))⟩⟩
theorem gg_tup {k n : Nat} {js : List Nat} (hc : X.calm = true) (h : GGs X es js ts) (hn : (assignEach es X.env).length = n := by rfl) (hst : (assignEach es X.env).findIdx? (·.1) = none := by rfl) : GG X (.Tuple es k pos) js (tgT n ts) := PG.of (pg_tup hc h hn hst) fun v σ H Q q => by
  obtain ⟨G, a0, F, m, d, m', r, p, e, k⟩ := q
  cases d with
  | tuple ds =>
    obtain ⟨a, xs, rfl, h1, h2⟩ := tup_inv p
    unfold tgT at e
    simp only at e
    split at e
    · rename_i hl
      exact ⟨a, xs, rfl, same_t r.sF h1, by rw [dps_len h2]; exact hl, G, a0, F, m, ds, m', r, h2, e, k⟩
    · cases e
  | _ => cases e
end

/-! ### statements -/
section
variable {X : Cx} {W : WXs} {st : Stmt} {rest body alt : List Stmt} {e c tg it : Expr} {g : CP} {t : CB} {u v : WS} {td : TD} {gs : CL} {pos pos' : Pos} {x : Str}
def wSkip : WS := fun E m => E.nx m
def wSeq (u v : WS) : WS := fun E m => u { E with nx := fun m1 => v E m1 } m
theorem gss_nil : GSs X W [] wSkip := PSs.of pss_nil fun D σ H q => by
  obtain ⟨G, a0, F, m, E, r, h, q⟩ := q
  exact (q m σ F H (Stp.refl G F) r).1 h
theorem gss_cons (h1 : GS X W st u) (h2 : GSs X W rest v) : GSs X W (st :: rest) (wSeq u v) := PSs.of (pss_cons h1 h2) fun D σ H q => by
  obtain ⟨G, a0, F, m, E, r, h, q⟩ := q
  refine ⟨G, a0, F, m, _, r, h, fun m1 σ1 F1 H1 s1 r1 => ⟨fun o => ?_, (q m1 σ1 F1 H1 s1 r1).2⟩⟩
  exact ⟨G, a0, F1, m1, E, r1, o, fun m2 σ2 F2 H2 s2 r2 => q m2 σ2 F2 H2 (s1.trans s2) r2⟩
theorem gss_one (h1 : GS X W st u) : GSs X W [st] u := pss_one h1
def wBrk : WS := fun E m => E.bk m
def wCont : WS := fun E m => E.ct m
theorem gs_pass : GS X W (.Pass pos) wSkip := PS.of ps_pass fun D σ H q => by
  obtain ⟨G, a0, F, m, E, r, h, q⟩ := q
  exact (q m σ F H (Stp.refl G F) r).1 h
theorem gs_break : GS X W (.Break pos) wBrk := PS.of ps_break fun D σ H q => by
  obtain ⟨G, a0, F, m, E, r, h, q⟩ := q
  exact (q m σ F H (Stp.refl G F) r).2.1 h
theorem gs_continue : GS X W (.Continue pos) wCont := PS.of ps_continue fun D σ H q => by
  obtain ⟨G, a0, F, m, E, r, h, q⟩ := q
  exact (q m σ F H (Stp.refl G F) r).2.2.1 h
def wExpr (g : CP) : WS := fun E m => g ⟨fun _ m1 => E.nx m1, E.ex⟩ m
theorem gs_expr (h : GR X W e g) (hs : swapsWith e none pos.line X.env = pure false := by rfl) : GS X W (.Expr e pos) (wExpr g) := PS.of (ps_expr h hs) fun D σ H q => by
  obtain ⟨G, a0, F, m, E, r, h, q⟩ := q
  refine ⟨G, a0, F, m, _, r, h, fun m1 F1 H1 s1 r1 => ⟨fun rr v ro o => (q m1 σ F1 H1 s1 r1).1 o, (q m1 σ F1 H1 s1 r1).2.2.2.2⟩⟩
def wRet (g : CP) : WS := fun E m => g ⟨fun r m1 => E.rt r m1, E.ex⟩ m
theorem gs_ret (h : GR X W e g) : GS X W (.Return (some e) pos) (wRet g) := PS.of (ps_ret h) fun D σ H q => by
  obtain ⟨G, a0, F, m, E, r, h, q⟩ := q
  refine ⟨G, a0, F, m, _, r, h, fun m1 F1 H1 s1 r1 => ⟨fun rr v ro o => (q m1 σ F1 H1 s1 r1).2.2.2.1 rr v ro o, (q m1 σ F1 H1 s1 r1).2.2.2.2⟩⟩
/-- return x, x an own object -/
def wRetO (i : Nat) : WS := fun E m => ∃ ob, m[i]? = some (.ow ob) ∧ E.rt (.ow ob) (m.set i .un)
theorem gs_retO (i : Nat) (h : PE X (.Name x pos) (tVar i)) : GS X W (.Return (some (.Name x pos)) pos') (wRetO i) := PS.of (ps_ret h) fun D σ H q => by
  obtain ⟨G, a0, F, m, E, r, ⟨ob, h1, h2⟩, q⟩ := q
  obtain ⟨a, k1, k2, k3, k4⟩ := r.at_ i _ h1
  have hl : i < m.length := (List.getElem?_eq_some_iff.mp h1).1
  have r2 : Rep _ _ _ G a0 F (m.set i .un) σ H := r.forget (by simp) fun j s hs => by
    by_cases hj : j = i
    · subst hj; rw [List.getElem?_set_self hl] at hs; cases hs; exact .inl rfl
    · rw [List.getElem?_set_ne (Ne.symm hj)] at hs; exact .inr hs
  refine ⟨.ref a, join_some k1, (q _ σ F H (Stp.refl G F) r2).2.2.2.1 (.ow ob) _ ⟨a, rfl, k2, k3, k4, fun j s hs o e => ?_⟩ h2⟩
  by_cases hj : j = i
  · subst hj; rw [List.getElem?_set_self hl] at hs; cases hs; cases o
  · rw [List.getElem?_set_ne (Ne.symm hj)] at hs
    exact hj (r.apart j i s _ a hs h1 o rfl e (join_some k1))
def wRetN : WS := fun E m => E.rt (.val .none) m
theorem gs_retN : GS X W (.Return none pos) wRetN := PS.of ps_retN fun D σ H q => by
  obtain ⟨G, a0, F, m, E, r, h, q⟩ := q
  exact (q m σ F H (Stp.refl G F) r).2.2.2.1 _ _ (ResOk.val .non) h
def wIf (t : CB) (u v : WS) : WS := fun E m => t (fun k m1 => (k = true → u E m1) ∧ (k = false → v E m1)) E.ex m
theorem gs_if (hc : GRB X W c t) (ha : GSs X W body u) (hb : GSs X W alt v) : GS X W (.If c body alt pos) (wIf t u v) := PS.of (ps_if hc ha hb) fun D σ H q => by
  obtain ⟨G, a0, F, m, E, r, h, q⟩ := q
  refine ⟨G, a0, F, m, _, _, r, h, fun m1 F1 H1 s1 r1 => ⟨fun k o => ?_, (q m1 σ F1 H1 s1 r1).2.2.2.2⟩⟩
  cases k with
  | true =>
    rw [if_pos rfl]
    exact ⟨G, a0, F1, m1, E, r1, o.1 rfl, fun m2 σ2 F2 H2 s2 r2 => q m2 σ2 F2 H2 (s1.trans s2) r2⟩
  | false =>
    rw [if_neg Bool.false_ne_true]
    exact ⟨G, a0, F1, m1, E, r1, o.2 rfl, fun m2 σ2 F2 H2 s2 r2 => q m2 σ2 F2 H2 (s1.trans s2) r2⟩
/-- x = e -/
def wSet (i : Nat) (g : CP) : WS := fun E m => g ⟨fun r m1 => noIo m1 i = true ∧ E.nx (m1.set i (resS r)), E.ex⟩ m
theorem gs_set (i : Nat) (h : GR X W e g) (hN : X.N.Nodup) (hi : X.N[i]? = some x := by rfl) (hx : Loc X.env.scope x := by first | exact .inl rfl | exact .inr rfl) (hs : swapsWith e (some (.Name x pos')) pos.line X.env = pure false := by rfl)
    (hf : X.fn x = true ∨ X.env.scope.names.lookup x = some .local := by first | exact .inl rfl | exact .inr rfl) : GS X W (.Assign [.Name x pos'] e pos) (wSet i g) := PS.of (ps_set hN hi hx h hs hf) fun D σ H q => by
  obtain ⟨G, a0, F, m, E, r, h, q⟩ := q
  refine ⟨G, a0, F, m, _, r, h, fun m1 F1 H1 s1 r1 => ⟨fun rr v ro o => (q _ _ F1 H1 s1 (r1.setRes ro)).1 o.2, (q m1 σ F1 H1 s1 r1).2.2.2.2⟩⟩
/-- a target = e -/
def wAsg (td : TD) (g : CP) : WS := fun E m => g ⟨fun r m1 => ∃ d m2, frzR r = some d ∧ td d m1 = some m2 ∧ E.nx m2, E.ex⟩ m
theorem gs_asg {js : List Nat} (h : GR X W e g) (hg : GG X tg js td) (hs : swapsWithSole [tg] e pos.line X.env = pure false := by rfl) (hw : swappedStores [tg] e X.env = pure none := by rfl)
    (h1 : (assignEach [tg] X.env).map (·.2) = [assign tg X.env] := by rfl) : GS X W (.Assign [tg] e pos) (wAsg td g) := PS.of (ps_asg h hg hs hw h1) fun D σ H q => by
  obtain ⟨G, a0, F, m, E, r, h, q⟩ := q
  refine ⟨G, a0, F, m, _, r, h, fun m1 F1 H1 s1 r1 => ⟨fun rr v ro o => ?_, (q m1 σ F1 H1 s1 r1).2.2.2.2⟩⟩
  obtain ⟨d, m2, hd, ht, o⟩ := o
  obtain ⟨F2, s2, r2, p2⟩ := ro.freeze r1 hd
  exact ⟨G, a0, F2, m1, d, m2, r2, p2, ht, fun σ' r3 _ => (q m2 σ' F2 H1 (s1.trans s2) r3).1 o⟩
/-- a, b = x, y -/
def wPar (i j : Nat) (gs : CL) : WS := fun E m => gs (fun ds m1 => ∃ x y, ds = [x, y] ∧ (noIo m1 i = true ∧ noIo m1 j = true) ∧ E.nx ((m1.set i (.val x)).set j (.val y))) E.ex m
theorem gs_par {y : Str} {a b : Expr} {px py pt : Pos} {kt k2 pt2} (i j : Nat) (ha : GRA X W [a, b] gs) (hc : X.calm = true) (hN : X.N.Nodup) (hi : X.N[i]? = some x := by rfl) (hj : X.N[j]? = some y := by rfl) (hij : i ≠ j := by decide)
    (hx : X.env.scope.names.lookup x = some .local := by rfl) (hy : X.env.scope.names.lookup y = some .local := by rfl)
    (hw : swappedStores [.Tuple [.Name x px, .Name y py] kt pt] (.Tuple [a, b] k2 pt2) X.env = pure (some [x, y]) := by rfl)
    (hs : swapsWithSole [.Tuple [.Name x px, .Name y py] kt pt] (.Tuple [a, b] k2 pt2) pos.line X.env = pure false := by rfl) :
    GS X W (.Assign [.Tuple [.Name x px, .Name y py] kt pt] (.Tuple [a, b] k2 pt2) pos) (wPar i j gs) := PS.of (ps_par hc hN hi hj hij hx hy ha hw hs) fun D σ H q => by
  obtain ⟨G, a0, F, m, E, r, h, q⟩ := q
  refine ⟨G, a0, F, m, _, _, r, h, fun m1 F1 H1 s1 r1 => ⟨fun ds vs p1 o => ?_, (q m1 σ F1 H1 s1 r1).2.2.2.2⟩⟩
  obtain ⟨d1, d2, rfl, _, o⟩ := o
  cases p1 with
  | cons p1 p2 =>
    cases p2 with
    | cons p2 p3 =>
      cases p3
      exact ⟨_, _, rfl, (q _ _ F1 H1 s1 ((r1.setVal p1).setVal p2)).1 o⟩
/-- while -/
def wWhile (t : CB) (u : WS) : WS := fun E m => ∃ I : Nat → Mem → Prop, (∃ k, I k m) ∧ ∀ k m, I k m → t (fun b m1 => (b = true → u { E with nx := fun m' => ∃ k', k' < k ∧ I k' m', ct := fun m' => ∃ k', k' < k ∧ I k' m', bk := E.nx } m1) ∧ (b = false → E.nx m1)) E.ex m
theorem gs_while (hp : PassesOwn (model X.prog X.w) X.A X.env X.xe) (hc : GRB X W c t) (hb : GSs X W body u) : GS X W (.While c body [] pos) (wWhile t u) := PS.of (ps_while hp hc hb) fun D σ H q => by
  obtain ⟨G, a0, F, m, E, r, ⟨I, ⟨k, i0⟩, turn⟩, q⟩ := q
  refine ⟨fun k σ H => ∃ F1 m, Stp G F F1 ∧ Rep _ _ _ G a0 F1 m σ H ∧ I k m, ⟨k, F, m, Stp.refl G F, r, i0⟩, ?_⟩
  rintro k σ H ⟨F1, m, s1, r1, i1⟩
  refine ⟨G, a0, F1, m, _, _, r1, turn k m i1, fun m2 F2 H2 s2 r2 => ⟨fun b o => ?_, (q m2 σ F2 H2 (s1.trans s2) r2).2.2.2.2⟩⟩
  cases b with
  | true =>
    rw [if_pos rfl]
    refine ⟨fun σ' H' => ∃ k', k' < k ∧ ∃ F1 m, Stp G F F1 ∧ Rep _ _ _ G a0 F1 m σ' H' ∧ I k' m, fun σ' H' z => z, ?_⟩
    refine ⟨G, a0, F2, m2, _, r2, o.1 rfl, fun m3 σ3 F3 H3 s3 r3 => ?_⟩
    have st := (s1.trans s2).trans s3
    refine ⟨fun ⟨k', l, i3⟩ => ⟨k', l, F3, m3, st, r3, i3⟩, fun o => (q m3 σ3 F3 H3 st r3).1 o, fun ⟨k', l, i3⟩ => ⟨k', l, F3, m3, st, r3, i3⟩, (q m3 σ3 F3 H3 st r3).2.2.2⟩
  | false =>
    rw [if_neg Bool.false_ne_true]
    exact (q m2 σ F2 H2 (s1.trans s2) r2).1 (o.2 rfl)
/-- for: one item after another -/
def wForL (td : TD) (u : WS) (E : EM) : List D → Mem → Prop
  | [], m => E.nx m
  | d :: ds, m => ∃ m1, td d m = some m1 ∧ u { E with nx := wForL td u E ds, ct := wForL td u E ds, bk := E.nx } m1
def wFor (gs : CL) (td : TD) (u : WS) : WS := fun E m => gs (fun ds m1 => wForL td u E ds m1) E.ex m
theorem gs_for {js : List Nat} (hp : PassesOwn (model X.prog X.w) X.A X.env X.xe) (hc : X.calm = true) (hi : GRI X W tg it gs) (hg : GG X tg js td) (hb : GSs X W body u)
    (hs : ∀ x, foldedSetIterable it X.env x = pure x := by intro _; rfl) : GS X W (.For tg it body [] pos) (wFor gs td u) := PS.of (ps_for hp hc hi hg hb hs) fun D σ H q => by
  obtain ⟨G, a0, F, m, E, r, h, q⟩ := q
  refine ⟨G, a0, F, m, _, _, r, h, fun m1 F1 H1 s1 r1 => ⟨fun ds J wk o => ?_, (q m1 σ F1 H1 s1 r1).2.2.2.2⟩⟩
  refine ⟨fun i k σ H => k = ds.length - i ∧ i ≤ ds.length ∧ ∃ F2 m, Same F1 F2 ∧ Stp G F F2 ∧ Rep _ _ _ G a0 F2 m σ H ∧ wForL td u E (ds.drop i) m, ⟨_, rfl, Nat.zero_le _, F1, m1, Same.refl F1, s1, r1, o⟩, ?_⟩
  rintro i k σ2 H2 ⟨rfl, hi, F2, m2, e2, s2, r2, o⟩
  obtain ⟨w1, w2, w3⟩ := wk i F2 H2 e2 r2.sF
  by_cases hlt : i < ds.length
  · refine .inr ⟨w1 hlt, fun σ' H' => ∃ k', k' < ds.length - i ∧ (k' = ds.length - (i + 1) ∧ i + 1 ≤ ds.length ∧ ∃ F2 m, Same F1 F2 ∧ Stp G F F2 ∧ Rep _ _ _ G a0 F2 m σ' H' ∧ wForL td u E (ds.drop (i + 1)) m), fun σ' H' z => z, fun x H' y => ?_⟩
    have hd : ds[i]? = some ds[i] := List.getElem?_eq_getElem hlt
    obtain ⟨F3, g3, p3⟩ := w3 x H' _ hd y
    rw [List.drop_eq_getElem_cons hlt] at o
    obtain ⟨m4, ht, o⟩ := o
    have r3 := r2.grw g3
    have s3 := s2.trans (g3.stp r2.sG)
    refine ⟨G, a0, F3, m2, _, m4, r3, p3, ht, fun σ4 r4 _ => ?_⟩
    refine ⟨G, a0, F3, m4, _, r4, o, fun m5 σ5 F5 H5 s5 r5 => ?_⟩
    have st := s3.trans s5
    have go : wForL td u E (ds.drop (i + 1)) m5 → ∃ k', k' < ds.length - i ∧ (k' = ds.length - (i + 1) ∧ i + 1 ≤ ds.length ∧ ∃ F2 m, Same F1 F2 ∧ Stp G F F2 ∧ Rep _ _ _ G a0 F2 m σ5 H5 ∧ wForL td u E (ds.drop (i + 1)) m) :=
      fun o => ⟨_, by omega, rfl, hlt, F5, m5, (e2.trans g3.ex).trans s5.ex, st, r5, o⟩
    exact ⟨go, fun o => (q m5 σ5 F5 H5 st r5).1 o, go, (q m5 σ5 F5 H5 st r5).2.2.2⟩
  · have e : i = ds.length := by omega
    subst e
    rw [List.drop_length] at o
    exact .inl ⟨w2 (Nat.le_refl _), (q m2 σ2 F2 H2 s2 r2).1 o⟩
/-- code that is never come to -/
def wNever : WS := fun _ _ => False
theorem gs_never : GS X W st wNever := PS.of ps_never fun D σ H q => by
  obtain ⟨G, a0, F, m, E, r, h, q⟩ := q
  exact h.elim
end
end MP

end
section
namespace MP
open PySem PySem.Spec L2

/-! ### pure walks -/
section
variable (P : Program) (w : World) (K : PySem.W.Frag)
def tI (it : PL) : TI := fun σ H R => ∃ G a0 F m ds, Rep P w K G a0 F m σ H ∧ it m = some ds ∧ ∀ J F2 H2, Grw F H F2 H2 → WkD K F2 J ds → R J H2
end
abbrev GI (X : Cx) (tg e : Expr) (it : PL) : Prop := PI X tg e (tI X.prog X.w X.K it)
section
variable {X : Cx} {tg e a b : Expr} {f : PF} {fs : PL} {p pos : Pos}
def asL : D → Option (List D)
  | .list xs => some xs
  | _ => none
def asT : D → Option (List D)
  | .tuple xs => some xs
  | _ => none
def asS : D → Option (List D)
  | .str z => some (signs z)
  | _ => none
def jL (f : PF) : PL := fun m => (f m).bind asL
def jT (f : PF) : PL := fun m => (f m).bind asT
def jS (f : PF) : PL := fun m => (f m).bind asS
instance (i : Int) : Decidable (big i) := inferInstanceAs (Decidable (_ ∧ _))
def jR1 (fs : PL) : PL := fun m => (fs m).bind fun ds => match ds with
  | [.int j] => if big j then some (rng 0 j.toNat) else none
  | _ => none
def jR2 (fs : PL) : PL := fun m => (fs m).bind fun ds => match ds with
  | [.int i, .int j] => if big i ∧ big j then some (rng i (j - i).toNat) else none
  | _ => none
theorem gi_list (h : GE X e f) : GI X tg e (jL f) := PI.of (pi_list h) fun σ H R q => by
  obtain ⟨G, a0, F, m, ds, r, e, q⟩ := q
  obtain ⟨d, h1, h2⟩ := Option.bind_eq_some_iff.mp e
  cases d <;> cases h2
  refine ⟨G, a0, F, m, _, r, h1, fun v F1 H1 g1 p1 => ?_⟩
  obtain ⟨a, xs, rfl, hl, hp⟩ := lst_inv p1
  exact ⟨a, rfl, ⟨xs, same_l g1.sF hl⟩, q _ F1 H1 g1 (wk_list hl hp)⟩
theorem gi_tup (h : GE X e f) : GI X tg e (jT f) := PI.of (pi_tup h) fun σ H R q => by
  obtain ⟨G, a0, F, m, ds, r, e, q⟩ := q
  obtain ⟨d, h1, h2⟩ := Option.bind_eq_some_iff.mp e
  cases d <;> cases h2
  refine ⟨G, a0, F, m, _, r, h1, fun v F1 H1 g1 p1 => ?_⟩
  obtain ⟨a, xs, rfl, hl, hp⟩ := tup_inv p1
  exact ⟨a, rfl, ⟨xs, same_t g1.sF hl⟩, q _ F1 H1 g1 (wk_tup hl hp)⟩
theorem gi_str (h : GE X e f) : GI X tg e (jS f) := PI.of (pi_str h) fun σ H R q => by
  obtain ⟨G, a0, F, m, ds, r, e, q⟩ := q
  obtain ⟨d, h1, h2⟩ := Option.bind_eq_some_iff.mp e
  cases d <;> cases h2
  exact ⟨G, a0, F, m, _, r, h1, fun v F1 H1 g1 p1 => ⟨_, dp_str p1, q _ F1 H1 g1 (wk_str _)⟩⟩
theorem gi_range1 (hm : X.mg "range" = none) (h : GA X [a] fs) (hg : Gl X "range" := by rfl) (hs : starEach [a] X.env = [(false, eval a X.env)] := by rfl) : GI X tg (.Call (.Name "range" p) [a] [] pos) (jR1 fs) := PI.of (pi_range1 hg hm h hs) fun σ H R q => by
  obtain ⟨G, a0, F, m, ds, r, e, q⟩ := q
  obtain ⟨ds', h1, h2⟩ := Option.bind_eq_some_iff.mp e
  refine ⟨G, a0, F, m, _, r, h1, fun vs F1 H1 g1 p1 => ?_⟩
  match ds', h2, p1 with
  | [.int j], h2, p1 =>
    simp only at h2
    split at h2
    · rename_i hb
      cases h2
      exact ⟨j, dps1 p1, by have := hb.1; omega, by have := hb.2; omega, q _ F1 H1 g1 (wk_range 0 j.toNat)⟩
    · cases h2
theorem gi_range2 (hm : X.mg "range" = none) (h : GA X [a, b] fs) (hg : Gl X "range" := by rfl) (hs : starEach [a, b] X.env = [(false, eval a X.env), (false, eval b X.env)] := by rfl) (hs2 : starEach [b] X.env = [(false, eval b X.env)] := by rfl) : GI X tg (.Call (.Name "range" p) [a, b] [] pos) (jR2 fs) := PI.of (pi_range2 hg hm h hs hs2) fun σ H R q => by
  obtain ⟨G, a0, F, m, ds, r, e, q⟩ := q
  obtain ⟨ds', h1, h2⟩ := Option.bind_eq_some_iff.mp e
  refine ⟨G, a0, F, m, _, r, h1, fun vs F1 H1 g1 p1 => ?_⟩
  match ds', h2, p1 with
  | [.int i, .int j], h2, p1 =>
    simp only at h2
    split at h2
    · rename_i hb
      cases h2
      exact ⟨i, j, dps2 p1, by have h1 := hb.1.1; have h2 := hb.1.2; have h3 := hb.2.1; have h4 := hb.2.2; omega, q _ F1 H1 g1 (wk_range i _)⟩
    · cases h2
/-- a pure walk where effects may be -/
theorem gri_p {W : WXs} {it : PL} (h : GI X tg e it) : GRI X W tg e (lP it) := PI.of h fun σ H R q => by
  obtain ⟨G, a0, F, m, ok, ex, r, ⟨ds, h1, h2⟩, q⟩ := q
  exact ⟨G, a0, F, m, ds, r, h1, fun J F2 H2 g wk => (q m F2 H2 (g.stp r.sG) (r.grw g)).1 ds J wk h2⟩
end

/-! ### the block's memory -/
def wipeM (m : Mem) : List Nat → Mem
  | [] => m
  | v :: vs => (wipeM m vs).set v .un
theorem wipeM_len (m : Mem) : ∀ vs : List Nat, (wipeM m vs).length = m.length
  | [] => rfl
  | v :: vs => by unfold wipeM; rw [List.length_set, wipeM_len m vs]
theorem wipeM_get {m : Mem} {i : Nat} {s : S} : ∀ {vs : List Nat}, (wipeM m vs)[i]? = some s → s = .un ∨ (m[i]? = some s ∧ i ∉ vs)
  | [], h => .inr ⟨h, by simp⟩
  | v :: vs, h => by
    unfold wipeM at h
    by_cases hv : i = v
    · subst hv
      by_cases hl : i < (wipeM m vs).length
      · rw [List.getElem?_set_self hl] at h; cases h; exact .inl rfl
      · rw [List.getElem?_eq_none (by rw [List.length_set]; omega)] at h; cases h
    · rw [List.getElem?_set_ne (Ne.symm hv)] at h
      rcases wipeM_get h with h | ⟨h1, h2⟩
      · exact .inl h
      · exact .inr ⟨h1, by simp [hv, h2]⟩
theorem wipe_get {σ : L2.St} {i : Nat} : ∀ {vs : List Nat}, i ∉ vs → (wipe σ vs)[i]? = σ[i]?
  | [], _ => rfl
  | v :: vs, h => by
    simp only [List.mem_cons, not_or] at h
    unfold wipe
    rw [List.getElem?_set_ne (Ne.symm h.1)]
    exact wipe_get h.2
theorem wipe_ext : ∀ {vs : List Nat} {σ τ : L2.St}, σ.length = τ.length → (∀ j, j ∉ vs → σ[j]? = τ[j]?) → wipe σ vs = wipe τ vs := fun {vs σ τ} hl h => by
  refine List.ext_getElem? fun j => ?_
  by_cases hj : j ∈ vs
  · have none : ∀ {ρ : L2.St}, j < ρ.length → (wipe ρ vs)[j]? = some none := fun {ρ} hlt => by
      clear h hl
      induction vs with
      | nil => cases hj
      | cons v vs ih =>
        unfold wipe
        by_cases e : j = v
        · subst e
          rw [List.getElem?_set_self (by rw [wipe_length]; exact hlt)]
        · rw [List.getElem?_set_ne (Ne.symm e)]
          exact ih (by simpa [e] using hj)
    by_cases hlt : j < σ.length
    · rw [none hlt, none (by rw [← hl]; exact hlt)]
    · rw [List.getElem?_eq_none (by rw [wipe_length]; omega), List.getElem?_eq_none (by rw [wipe_length]; omega)]
  · rw [wipe_get hj, wipe_get hj, h j hj]
section
variable {P : Program} {w : World} {K : PySem.W.Frag} {G F H : Hp} {a0 : Addr} {m : Mem} {σ : L2.St}
theorem Rep.wipe (r : Rep P w K G a0 F m σ H) (vs : List Nat) : Rep P w K G a0 F (wipeM m vs) (wipe σ vs) H := by
  refine ⟨r.sF, r.sG, by rw [wipeM_len, wipe_length]; exact r.len, fun i s hs => ?_, fun i j s t a h1 h2 o1 o2 e1 e2 => ?_⟩
  · rcases wipeM_get hs with rfl | ⟨h1, h2⟩
    · trivial
    · rw [wipe_get h2]; exact r.at_ i s h1
  · rcases wipeM_get h1 with rfl | ⟨k1, n1⟩
    · cases o1
    · rcases wipeM_get h2 with rfl | ⟨k2, n2⟩
      · cases o2
      · rw [wipe_get n1] at e1
        rw [wipe_get n2] at e2
        exact r.apart i j s t a k1 k2 o1 o2 e1 e2
end

/-! ### comprehensions, pure -/
def lcGo (f : D → Option (Option D)) : List D → Option (List D)
  | [] => some []
  | x :: xs => (f x).bind fun o => (lcGo f xs).map fun ys => match o with
    | some y => y :: ys
    | none => ys
/-- a turn: the target, the test, the element -/
def lcTurn (m0 : Mem) (td : TD) (c : PB) (e : PF) : D → Option (Option D) := fun x => (td x m0).bind fun m1 => (c m1).bind fun k => if k = true then (e m1).map some else some none
def pLc (vs : List Nat) (it : PL) (td : TD) (c : PB) (e : PF) : PF := fun m => (it m).bind fun xs => (lcGo (lcTurn (wipeM m vs) td c e) xs).bind fun ys => lenOk ys.length (.list ys)
abbrev GTs (X : Cx) (ifs : List Expr) (t : PB) : Prop := PTs X ifs (tQ X.prog X.w X.K t)
def qYes : PB := fun _ => some true
theorem PTs.of {X : Cx} {e : List Expr} {t t' : TT} (h : PTs X e t) (k : ∀ σ H Q, t' σ H Q → t σ H Q) : PTs X e t' := ⟨fun pins s σ H Q I q => h.run pins s σ H Q I (k _ _ _ q)⟩
theorem gts_nil {X : Cx} : GTs X [] qYes := PTs.of pts_nil fun σ H Q h => by
  obtain ⟨G, a0, F, m, b, r, e, q⟩ := h
  cases e
  exact q F H (Grw.refl r.sF)
theorem gts_one {X : Cx} {c : Expr} {t : PB} (h : GT X c t) : GTs X [c] t := pts_one h
theorem lcGo_len {f : D → Option (Option D)} : ∀ {xs ys : List D}, lcGo f xs = some ys → ys.length ≤ xs.length
  | [], _, h => by cases h; exact Nat.le_refl _
  | x :: xs, ys, h => by
    obtain ⟨o, h1, h⟩ := Option.bind_eq_some_iff.mp h
    obtain ⟨zs, h2, rfl⟩ := Option.map_eq_some_iff.mp h
    have := lcGo_len h2
    cases o with
    | none => simp; omega
    | some y => simp; exact this
section
variable {X : Cx} {elt tg iter : Expr} {ifs : List Expr} {scope : Scope} {own : List (Str × Nat)} {pos spos : Pos} {it : PL} {td : TD} {t : PB} {fe : PF} {js : List Nat}
theorem lc_red {P : Program} {w : World} {K : PySem.W.Frag} {vs : List Nat} {σ : L2.St} {H : Hp} {Q : VK} (hj : ∀ j ∈ js, j ∈ vs) (h : tP P w K (pLc vs it td t fe) σ H Q) :
    tLc (tI P w K it) (tTg P w K js td) (tQ P w K t) (tP P w K fe) vs σ H Q := by
  obtain ⟨G, a0, F, m, d, r, ee, q⟩ := h
  obtain ⟨xs, h1, ee2⟩ := Option.bind_eq_some_iff.mp ee
  obtain ⟨ys, h2, ee3⟩ := Option.bind_eq_some_iff.mp ee2
  obtain ⟨hz, rfl⟩ := lenOk_eq ee3
  refine ⟨G, a0, F, m, xs, r, h1, fun J F1 H1 g1 wk D hD => ?_⟩
  have r1 := r.grw g1
  refine ⟨fun i k H' => k = xs.length - i ∧ i ≤ xs.length ∧ ∃ F2 acc zs rest, Same F1 F2 ∧ Same H1 H' ∧ Same F2 H' ∧ (∀ b o, F2 b = some o → F1 b = some o ∨ H1 b = none) ∧ F2 D = none ∧ H' D = some (.lst acc) ∧ DpAll K F2 acc zs ∧
    lcGo (lcTurn (wipeM m vs) td t fe) (xs.drop i) = some rest ∧ zs ++ rest = ys, ⟨_, rfl, Nat.zero_le _, F1, [], [], ys, Same.refl F1, fun b o e => by rw [upd_ne (ne_of_none e hD)]; exact e, fun b o e => by rw [upd_ne (ne_of_none (g1.sF b o e) hD)]; exact g1.sF b o e, fun _ _ z => .inl z, g1.sF.free hD, upd_same, .nil, h2, rfl⟩, ?_⟩
  rintro i k H' ⟨rfl, hi, F2, acc, zs, rest, e1, e2, e3, gr, nD, hacc, pz, hgo, hsum⟩
  obtain ⟨w1, w2, w3⟩ := wk i F2 H' e1 e3
  by_cases hlt : i < xs.length
  · refine .inr ⟨w1 hlt, fun H'' => ∃ k', k' < xs.length - i ∧ (k' = xs.length - (i + 1) ∧ i + 1 ≤ xs.length ∧ ∃ F2 acc zs rest, Same F1 F2 ∧ Same H1 H'' ∧ Same F2 H'' ∧ (∀ b o, F2 b = some o → F1 b = some o ∨ H1 b = none) ∧ F2 D = none ∧ H'' D = some (.lst acc) ∧ DpAll K F2 acc zs ∧
      lcGo (lcTurn (wipeM m vs) td t fe) (xs.drop (i + 1)) = some rest ∧ zs ++ rest = ys), fun H'' z => z, fun x H3 y => ?_⟩
    have hd : xs[i]? = some xs[i] := List.getElem?_eq_getElem hlt
    obtain ⟨F3, g3, p3⟩ := w3 x H3 _ hd y
    rw [List.drop_eq_getElem_cons hlt] at hgo
    obtain ⟨o, ho', hgo'⟩ := Option.bind_eq_some_iff.mp hgo
    clear hgo
    obtain ⟨rest', hgo, hr⟩ := Option.map_eq_some_iff.mp hgo'
    clear hgo'
    obtain ⟨m1, ht, ho2⟩ := Option.bind_eq_some_iff.mp ho'
    clear ho'
    obtain ⟨kb, hk, ho⟩ := Option.bind_eq_some_iff.mp ho2
    clear ho2
    -- all that stands in H1 and the new list stay
    have gA : Grw F1 H1 F2 H' := ⟨e1, e2, e3, gr⟩
    have g13 : Grw F1 H1 F3 H3 := gA.trans g3
    have rW : Rep P w K G a0 F3 (wipeM m vs) (wipe σ vs) H3 := (r1.grw g13).wipe vs
    have hD3 : H3 D = some (.lst acc) := g3.al _ _ hacc
    have nD3 : F3 D = none := by
      cases z : F3 D with
      | none => rfl
      | some o =>
        rcases g3.grow D o z with q | q
        · rw [nD] at q; cases q
        · rw [hacc] at q; cases q
    refine ⟨G, a0, F3, _, _, m1, rW, p3, ht, fun σ4 r4 ag => ⟨?_, ?_⟩⟩
    · have e : wipe (wipe σ vs) vs = wipe σ vs := wipe_ext (by rw [wipe_length]) fun j hjv => wipe_get hjv
      rw [← e]
      exact wipe_ext ag.1 fun j hjv => ag.2 j fun z => hjv (hj j z)
    · refine ⟨G, a0, F3, m1, kb, r4, hk, fun F5 H5 g5 => ?_⟩
      have nD5 : F5 D = none := by
        cases z : F5 D with
        | none => rfl
        | some o =>
          rcases g5.grow D o z with q | q
          · rw [nD3] at q; cases q
          · rw [hD3] at q; cases q
      cases kb with
      | true =>
        rw [if_pos rfl] at ho
        obtain ⟨y', hy, rfl⟩ := Option.map_eq_some_iff.mp ho
        have hr : y' :: rest' = rest := hr
        refine iteT ?_
        refine ⟨G, a0, F5, m1, y', r4.grw g5, hy, fun v6 F6 H6 g6 p6 => ?_⟩
        have gg := (g13.trans g5).trans g6
        have hD6 : H6 D = some (.lst acc) := g6.al _ _ (g5.al _ _ hD3)
        have nD6 : F6 D = none := by
          cases z : F6 D with
          | none => rfl
          | some o =>
            rcases g6.grow D o z with q | q
            · rw [nD5] at q; cases q
            · rw [g5.al _ _ hD3] at q; cases q
        have hlen : acc.length = zs.length := dps_len pz
        have hl2 : zs.length + rest.length ≤ ys.length := by rw [← hsum]; simp
        have hl3 : rest.length = rest'.length + 1 := by rw [← hr]; simp
        refine ⟨acc, hD6, by omega, _, by omega, rfl, hlt, F6, acc ++ [v6], zs ++ [y'], rest', gg.ex, fun b o z => ?_, fun b o z => ?_, gg.grow, nD6, upd_same, dps_app (dps_mono ((g3.ex.trans g5.ex).trans g6.ex) _ _ pz) (.cons p6 .nil), hgo, ?_⟩
        · rw [upd_ne (ne_of_none z hD)]; exact gg.al b o z
        · rw [upd_ne (ne_of_none z nD6)]; exact gg.sF b o z
        · rw [← hsum, ← hr]; simp
      | false =>
        rw [if_neg Bool.false_ne_true] at ho
        cases ho
        have hr : rest' = rest := hr
        have gg := g13.trans g5
        refine iteF ?_
        exact ⟨_, by omega, rfl, hlt, F5, acc, zs, rest, gg.ex, gg.al, gg.sF, gg.grow, nD5, g5.al _ _ hD3, dps_mono (g3.ex.trans g5.ex) _ _ pz, by rw [hgo, hr], hsum⟩
  · have e : i = xs.length := by omega
    subst e
    rw [List.drop_length] at hgo
    cases hgo
    rw [List.append_nil] at hsum
    subst hsum
    refine .inl ⟨w2 (Nat.le_refl _), ?_⟩
    have sm : Same F2 (upd F2 D (.lst acc)) := fun b o z => by rw [upd_ne (ne_of_none z nD)]; exact z
    refine q (.ref D) (upd F2 D (.lst acc)) H' (g1.trans ⟨e1.trans sm, e2, fun b o z => ?_, fun b o z => ?_⟩) (dp_newL nD pz)
    · by_cases hb : b = D
      · subst hb; rw [upd_same] at z; cases z; exact hacc
      · rw [upd_ne hb] at z; exact e3 b o z
    · by_cases hb : b = D
      · subst hb; exact .inr hD
      · rw [upd_ne hb] at z; exact gr b o z
theorem ge_lc (hc : X.calm = true) (hN : X.N.Nodup) (hi : GI X tg iter it) (ok : BlkOk X.N X.env.scope scope own) (hj : ∀ j ∈ js, j ∈ own.map (·.2))
    (hg : ∀ (s : Shared) (H : Hp) (C : Addr) (cl : List (Str × Addr)) (fp : List Addr), GG (X.blk s H scope (compEnvC scope cl C X.env) fp) tg js td) (ht : ∀ (s : Shared) (H : Hp) (C : Addr) (cl : List (Str × Addr)) (fp : List Addr), GTs (X.blk s H scope (compEnvC scope cl C X.env) fp) ifs t)
    (he : ∀ (s : Shared) (H : Hp) (C : Addr) (cl : List (Str × Addr)) (fp : List Addr), GE (X.blk s H scope (compEnvC scope cl C X.env) fp) elt fe) (hs : ∀ x, foldedSetIterable iter X.env x = pure x := by intro _; rfl) :
    GE X (.ListComp elt [⟨tg, iter, ifs, 0⟩] scope pos) (pLc (own.map (·.2)) it td t fe) := PE.of (pe_lc hc hN hi ok hg ht he hs) fun σ H Q q => lc_red hj q
/-- x = [..] on one line -/
theorem gs_setLc {W : WXs} {y : Str} {py : Pos} (i : Nat) (hc : X.calm = true) (hN : X.N.Nodup) (hy : X.N[i]? = some y) (hyl : X.env.scope.names.lookup y = some .local)
    (hsw : swapsWith (.ListComp elt [⟨tg, iter, ifs, 0⟩] scope pos) (some (.Name y py)) spos.line X.env = pure true) (hi : GI X tg iter it) (ok : BlkOk X.N X.env.scope scope own) (hj : ∀ j ∈ js, j ∈ own.map (·.2))
    (hg : ∀ (s : Shared) (H : Hp) (C : Addr) (cl : List (Str × Addr)) (fp : List Addr), GG (X.blk s H scope (compEnvC scope cl C X.env) fp) tg js td) (ht : ∀ (s : Shared) (H : Hp) (C : Addr) (cl : List (Str × Addr)) (fp : List Addr), GTs (X.blk s H scope (compEnvC scope cl C X.env) fp) ifs t)
    (he : ∀ (s : Shared) (H : Hp) (C : Addr) (cl : List (Str × Addr)) (fp : List Addr), GE (X.blk s H scope (compEnvC scope cl C X.env) fp) elt fe) (hs : ∀ x, foldedSetIterable iter X.env x = pure x := by intro _; rfl) :
    GS X W (.Assign [.Name y py] (.ListComp elt [⟨tg, iter, ifs, 0⟩] scope pos) spos) (wSet i (cP (pLc (own.map (·.2)) it td t fe))) := PS.of (ps_setLc hc hN hy hyl hsw hi ok hg ht he hs) fun Dn σ H q => by
  obtain ⟨G, a0, F, m, E, r, ⟨d, h1, h2, h3⟩, q⟩ := q
  refine lc_red hj ⟨G, a0, F, m, d, r, h1, fun v F2 H2 g p => ?_⟩
  exact (q _ _ F2 H2 (g.stp r.sG) ((r.grw g).setVal p)).1 h3
end
end MP

end
section
namespace MP
open PySem PySem.Spec L2

def W0 : WXs := fun _ _ _ _ => False

/-! ### comprehensions with effects -/
def cLcGo (vs : List Nat) (td : TD) (c : CB) (e : CP) (ok : List D → Mem → Prop) : List D → List D → Mem → Prop
  | [], acc, m => ok acc m
  | x :: xs, acc, m => ∃ m1, td x (wipeM m vs) = some m1 ∧ c (fun k m2 =>
      (k = true → e ⟨fun r m3 => ∃ d, frzR r = some d ∧ acc.length < 16777216 ∧ cLcGo vs td c e ok xs (acc ++ [d]) (wipeM m3 vs), fun _ _ => False⟩ m2) ∧
      (k = false → cLcGo vs td c e ok xs acc (wipeM m2 vs))) (fun _ _ => False) m1
def cLc (vs : List Nat) (it : CL) (td : TD) (c : CB) (e : CP) : CP := fun Y m => it (fun xs m1 => cLcGo vs td c e (fun ys m2 => Y.ok (.ow (.lst ys)) m2) xs [] m1) Y.ex m
abbrev GRTs (X : Cx) (W : WXs) (ifs : List Expr) (t : CB) : Prop := PTs X ifs (tRB X.prog X.w X.K W t)
def bYes : CB := fun ok _ m => ok true m
theorem grts_nil {X : Cx} {W : WXs} : GRTs X W [] bYes := PTs.of pts_nil fun σ H Q h => by
  obtain ⟨G, a0, F, m, ok, ex, r, h, q⟩ := h
  exact (q m F H (Stp.refl G F) r).1 _ h
theorem grts_one {X : Cx} {W : WXs} {c : Expr} {t : CB} (h : GRB X W c t) : GRTs X W [c] t := pts_one h
section
variable {P : Program} {w : World} {K : PySem.W.Frag} {G F H : Hp} {a0 : Addr} {m : Mem} {σ : L2.St}
theorem Rep.guard {p : Addr} {u : HO} (r : Rep P w K G a0 F m σ H) (hp : H p = some u) (hG : G p = none) (ap : ∀ (i : Nat) s, m[i]? = some s → isOwn s = true → σ[i]? ≠ some (some (.ref p))) : Rep P w K (upd G p u) a0 F m σ H := by
  refine ⟨r.sF, fun b o e => ?_, r.len, fun i s hs => ?_, r.apart⟩
  · by_cases hb : b = p
    · subst hb; rw [upd_same] at e; cases e; exact hp
    · rw [upd_ne hb] at e; exact r.sG b o e
  · have q := r.at_ i s hs
    cases s with
    | un => trivial
    | val d => exact q
    | ow ob =>
      obtain ⟨a, k1, k2, k3, k4⟩ := q
      have ne : a ≠ p := fun e => ap i _ hs rfl (by rw [join_some k1, e])
      exact ⟨a, k1, by rw [upd_ne ne]; exact k2, k3, k4⟩
    | io ob =>
      obtain ⟨k1, k2, k3, k4⟩ := q
      have ne : a0 ≠ p := fun e => ap i _ hs rfl (by rw [join_some k1, e])
      exact ⟨k1, by rw [upd_ne ne]; exact k2, k3, k4⟩
theorem Rep.unguard {p : Addr} {u : HO} (r : Rep P w K (upd G p u) a0 F m σ H) (hG : G p = none) : Rep P w K G a0 F m σ H := by
  have sm : ∀ b, upd G p u b = none → G b = none := fun b e => by
    by_cases hb : b = p
    · subst hb; exact hG
    · rw [upd_ne hb] at e; exact e
  refine ⟨r.sF, fun b o e => r.sG b o (by rw [upd_ne (ne_of_none e hG)]; exact e), r.len, fun i s hs => ?_, r.apart⟩
  have q := r.at_ i s hs
  cases s with
  | un => trivial
  | val d => exact q
  | ow ob => obtain ⟨a, k1, k2, k3, k4⟩ := q; exact ⟨a, k1, sm a k2, k3, k4⟩
  | io ob => obtain ⟨k1, k2, k3, k4⟩ := q; exact ⟨k1, sm _ k2, k3, k4⟩
theorem Stp.unguard {p : Addr} {u : HO} {F2 : Hp} (s : Stp (upd G p u) F F2) (hG : G p = none) : Stp G F F2 := ⟨s.ex, fun b o e => (s.grow b o e).imp id fun z => by
  by_cases hb : b = p
  · subst hb; exact hG
  · rw [upd_ne hb] at z; exact z⟩
/-- back from the block -/
theorem Rep.unwipe {m3 : Mem} {τ : L2.St} {vs js : List Nat} (r : Rep P w K G a0 F m3 τ H) (ag : Alk js τ (L2.wipe σ vs)) (hj : ∀ j ∈ js, j ∈ vs) : Rep P w K G a0 F (wipeM m3 vs) σ H := by
  have hl : τ.length = σ.length := by rw [ag.1, wipe_length]
  have at' : ∀ j, j ∉ vs → τ[j]? = σ[j]? := fun j h => by rw [ag.2 j fun z => h (hj j z), wipe_get h]
  refine ⟨r.sF, r.sG, by rw [wipeM_len, r.len, hl], fun i s hs => ?_, fun i j s t a h1 h2 o1 o2 e1 e2 => ?_⟩
  · rcases wipeM_get hs with rfl | ⟨h1, h2⟩
    · trivial
    · rw [← at' i h2]; exact r.at_ i s h1
  · rcases wipeM_get h1 with rfl | ⟨k1, n1⟩
    · cases o1
    · rcases wipeM_get h2 with rfl | ⟨k2, n2⟩
      · cases o2
      · exact r.apart i j s t a k1 k2 o1 o2 (by rw [at' i n1]; exact e1) (by rw [at' j n2]; exact e2)
end
section
variable {X : Cx} {W : WXs} {elt tg iter : Expr} {ifs : List Expr} {scope : Scope} {own : List (Str × Nat)} {pos spos : Pos} {it : CL} {td : TD} {t : CB} {e : CP} {js : List Nat}
theorem clc_red {P : Program} {w : World} {K : PySem.W.Frag} {vs : List Nat} {σ : L2.St} {H : Hp} {Q : VK} (hj : ∀ j ∈ js, j ∈ vs) (h : tR P w K W (cLc vs it td t e) σ H Q) :
    tLc (tRI P w K W it) (tTg P w K js td) (tRB P w K W0 t) (tR P w K W0 e) vs σ H Q := by
  obtain ⟨G, a0, F, m, Y, r, h, q⟩ := h
  refine ⟨G, a0, F, m, _, _, r, h, fun m1 F1 H1 s1 r1 => ⟨fun xs J wk o => ?_, (q m1 F1 H1 s1 r1).2⟩⟩
  intro D hD
  have hGD : G D = none := r1.sG.free hD
  let Tn : Nat → Hp → Prop := fun i H' => ∃ F2 m2 acc zs, Same F1 F2 ∧ Stp G F F2 ∧ Rep P w K G a0 F2 m2 σ H' ∧ F2 D = none ∧ H' D = some (.lst acc) ∧ DpAll K F2 acc zs ∧ (∀ (i : Nat) s, m2[i]? = some s → isOwn s = true → σ[i]? ≠ some (some (.ref D))) ∧
    cLcGo vs td t e (fun ys m2 => Y.ok (.ow (.lst ys)) m2) (xs.drop i) zs m2
  refine ⟨fun i k H' => k = xs.length - i ∧ i ≤ xs.length ∧ Tn i H', ⟨_, rfl, Nat.zero_le _, ?_⟩, ?_⟩
  · obtain ⟨r2, _, he, _, _, _, ap⟩ := newOwn (p := D) (ds := []) (vs := []) r1 hD .nil
    cases he
    exact ⟨F1, m1, [], [], Same.refl F1, s1, r2, r1.sF.free hD, upd_same, .nil, ap, o⟩
  rintro i k H2 ⟨rfl, hi, F2, m2, acc, zs, e2, s2, r2, nD, hD2, pz, ap, o⟩
  obtain ⟨w1, w2, w3⟩ := wk i F2 H2 e2 r2.sF
  by_cases hlt : i < xs.length
  · refine .inr ⟨w1 hlt, fun H' => ∃ k', k' < xs.length - i ∧ (k' = xs.length - (i + 1) ∧ i + 1 ≤ xs.length ∧ Tn (i + 1) H'), fun H' z => z, fun x H3 y => ?_⟩
    have hd : xs[i]? = some xs[i] := List.getElem?_eq_getElem hlt
    obtain ⟨F3, g3, p3⟩ := w3 x H3 _ hd y
    rw [List.drop_eq_getElem_cons hlt] at o
    obtain ⟨m4, ht, o⟩ := o
    have r3 := r2.grw g3
    have s3 := s2.trans (g3.stp r2.sG)
    have hD3 : H3 D = some (.lst acc) := g3.al _ _ hD2
    have nD3 : F3 D = none := by
      cases z : F3 D with
      | none => rfl
      | some o =>
        rcases g3.grow D o z with q | q
        · rw [nD] at q; cases q
        · rw [hD2] at q; cases q
    have rW := ((r3.guard hD3 hGD ap).wipe vs)
    refine ⟨upd G D (.lst acc), a0, F3, _, _, m4, rW, p3, ht, fun σ4 r4 ag => ⟨?_, ?_⟩⟩
    · have e : wipe (wipe σ vs) vs = wipe σ vs := wipe_ext (by rw [wipe_length]) fun j hjv => wipe_get hjv
      rw [← e]
      exact wipe_ext ag.1 fun j hjv => ag.2 j fun z => hjv (hj j z)
    -- what any later state of the block says
    have D_of : ∀ {F' H' : Hp} {m' : Mem}, Rep P w K (upd G D (.lst acc)) a0 F' m' σ4 H' → Stp (upd G D (.lst acc)) F3 F' → F' D = none ∧ H' D = some (.lst acc) ∧ (∀ (i : Nat) s, m'[i]? = some s → isOwn s = true → σ4[i]? ≠ some (some (.ref D))) := fun {F' H' m'} r' s' => by
      refine ⟨?_, r'.sG _ _ upd_same, fun i s hs o e => ?_⟩
      · cases z : F' D with
        | none => rfl
        | some o =>
          rcases s'.grow D o z with q | q
          · rw [nD3] at q; cases q
          · rw [upd_same] at q; cases q
      · have q := r'.at_ i s hs
        cases s with
        | un => cases o
        | val d => cases o
        | ow ob => obtain ⟨a, k1, k2, k3, k4⟩ := q; rw [e] at k1; cases k1; rw [upd_same] at k2; cases k2
        | io ob => obtain ⟨k1, k2, k3, k4⟩ := q; rw [e] at k1; cases k1; rw [upd_same] at k2; cases k2
    have ap_of : ∀ {m' : Mem}, (∀ (i : Nat) s, m'[i]? = some s → isOwn s = true → σ4[i]? ≠ some (some (.ref D))) → ∀ (i : Nat) s, (wipeM m' vs)[i]? = some s → isOwn s = true → σ[i]? ≠ some (some (.ref D)) := fun {m'} ap i s hs o e => by
      rcases wipeM_get hs with rfl | ⟨h1, h2⟩
      · cases o
      · refine ap i s h1 o ?_
        rw [ag.2 i fun z => h2 (hj i z), wipe_get h2]
        exact e
    refine ⟨upd G D (.lst acc), a0, F3, m4, _, _, r4, o, fun m5 F5 H5 s5 r5 => ⟨fun kb o => ?_, fun _ _ _ _ z => z.elim⟩⟩
    cases kb with
    | true =>
      refine iteT ?_
      refine ⟨upd G D (.lst acc), a0, F5, m5, _, r5, o.1 rfl, fun m6 F6 H6 s6 r6 => ⟨fun rr v ro o => ?_, fun _ _ _ _ z => z.elim⟩⟩
      obtain ⟨d, hf, hl, o⟩ := o
      obtain ⟨F7, s7, r7, p7⟩ := ro.freeze r6 hf
      have st := (s5.trans s6).trans s7
      obtain ⟨nD7, hD7, ap7⟩ := D_of r7 st
      have sG := st.unguard hGD
      have r8 : Rep P w K G a0 F7 (wipeM m6 vs) σ H6 := (r7.unguard hGD).unwipe ag hj
      refine ⟨acc, hD7, by rw [dps_len pz, sizeLine_eq]; exact hl, _, by omega, rfl, hlt, F7, wipeM m6 vs, acc ++ [v], zs ++ [d], (e2.trans g3.ex).trans st.ex, s3.trans sG, ?_, nD7, upd_same, dps_app (dps_mono (g3.ex.trans st.ex) _ _ pz) (.cons p7 .nil), ap_of ap7, o⟩
      -- the new list takes the element
      refine ⟨fun b o z => ?_, fun b o z => ?_, r8.len, fun i s hs => ?_, r8.apart⟩
      · rw [upd_ne (ne_of_none z nD7)]; exact r8.sF b o z
      · rw [upd_ne (ne_of_none z hGD)]; exact r8.sG b o z
      · have q := r8.at_ i s hs
        cases s with
        | un => trivial
        | val d => exact q
        | ow ob =>
          obtain ⟨a, k1, k2, k3, k4⟩ := q
          have ne : a ≠ D := fun e => ap_of ap7 i _ hs rfl (by rw [join_some k1, e])
          exact ⟨a, k1, k2, k3, k4.mono (Same.refl F7) fun u z => by rw [upd_ne ne]; exact z⟩
        | io ob =>
          obtain ⟨k1, k2, k3, k4⟩ := q
          have ne : a0 ≠ D := fun e => ap_of ap7 i _ hs rfl (by rw [join_some k1, e])
          exact ⟨k1, k2, k3, k4.mono (Same.refl F7) fun u z => by rw [upd_ne ne]; exact z⟩
    | false =>
      refine iteF ?_
      obtain ⟨nD5, hD5, ap5⟩ := D_of r5 s5
      exact ⟨_, by omega, rfl, hlt, F5, wipeM m5 vs, acc, zs, (e2.trans g3.ex).trans s5.ex, s3.trans (s5.unguard hGD), (r5.unguard hGD).unwipe ag hj, nD5, hD5, dps_mono (g3.ex.trans s5.ex) _ _ pz, ap_of ap5, o.2 rfl⟩
  · have e : i = xs.length := by omega
    subst e
    rw [List.drop_length] at o
    refine .inl ⟨w2 (Nat.le_refl _), ?_⟩
    exact (q m2 F2 H2 s2 r2).1 (.ow (.lst zs)) _ ⟨D, rfl, hGD, nD, ⟨acc, hD2, pz⟩, ap⟩ o
theorem gr_lc (hc : X.calm = true) (hN : X.N.Nodup) (hi : GRI X W tg iter it) (ok : BlkOk X.N X.env.scope scope own) (hj : ∀ j ∈ js, j ∈ own.map (·.2))
    (hg : ∀ (s : Shared) (H : Hp) (C : Addr) (cl : List (Str × Addr)) (fp : List Addr), GG (X.blk s H scope (compEnvC scope cl C X.env) fp) tg js td) (ht : ∀ (s : Shared) (H : Hp) (C : Addr) (cl : List (Str × Addr)) (fp : List Addr), GRTs (X.blk s H scope (compEnvC scope cl C X.env) fp) W0 ifs t)
    (he : ∀ (s : Shared) (H : Hp) (C : Addr) (cl : List (Str × Addr)) (fp : List Addr), GR (X.blk s H scope (compEnvC scope cl C X.env) fp) W0 elt e) (hs : ∀ x, foldedSetIterable iter X.env x = pure x := by intro _; rfl) :
    GR X W (.ListComp elt [⟨tg, iter, ifs, 0⟩] scope pos) (cLc (own.map (·.2)) it td t e) := PE.of (pe_lc hc hN hi ok hg ht he hs) fun σ H Q q => clc_red hj q
theorem gs_setLcX {y : Str} {py : Pos} (i : Nat) (hc : X.calm = true) (hN : X.N.Nodup) (hy : X.N[i]? = some y) (hyl : X.env.scope.names.lookup y = some .local)
    (hsw : swapsWith (.ListComp elt [⟨tg, iter, ifs, 0⟩] scope pos) (some (.Name y py)) spos.line X.env = pure true) (hi : GRI X W tg iter it) (ok : BlkOk X.N X.env.scope scope own) (hj : ∀ j ∈ js, j ∈ own.map (·.2))
    (hg : ∀ (s : Shared) (H : Hp) (C : Addr) (cl : List (Str × Addr)) (fp : List Addr), GG (X.blk s H scope (compEnvC scope cl C X.env) fp) tg js td) (ht : ∀ (s : Shared) (H : Hp) (C : Addr) (cl : List (Str × Addr)) (fp : List Addr), GRTs (X.blk s H scope (compEnvC scope cl C X.env) fp) W0 ifs t)
    (he : ∀ (s : Shared) (H : Hp) (C : Addr) (cl : List (Str × Addr)) (fp : List Addr), GR (X.blk s H scope (compEnvC scope cl C X.env) fp) W0 elt e) (hs : ∀ x, foldedSetIterable iter X.env x = pure x := by intro _; rfl) :
    GS X W (.Assign [.Name y py] (.ListComp elt [⟨tg, iter, ifs, 0⟩] scope pos) spos) (wSet i (cLc (own.map (·.2)) it td t e)) := PS.of (ps_setLc hc hN hy hyl hsw hi ok hg ht he hs) fun Dn σ H q => by
  obtain ⟨G, a0, F, m, E, r, h, q⟩ := q
  refine clc_red hj ⟨G, a0, F, m, _, r, h, fun m1 F1 H1 s1 r1 => ⟨fun rr v ro o => (q _ _ F1 H1 s1 (r1.setRes ro)).1 o.2, (q m1 σ F1 H1 s1 r1).2.2.2.2⟩⟩
end
end MP

end
section
namespace MP
open PySem PySem.Spec L2

/-! ### own lists changed -/
section
variable {P : Program} {w : World} {K : PySem.W.Frag} {G F H : Hp} {a0 : Addr} {m : Mem} {σ : L2.St}
/-- the own object in slot i is written -/
theorem Rep.put {i : Nat} {ob ob' : OB} {a : Addr} {u : HO} (r : Rep P w K G a0 F m σ H) (h : ownAt m i = some ob) (hσ : σ[i]? = some (some (.ref a))) (ho : ObOk P w K F (upd H a u) a ob') : Rep P w K G a0 F (putOwn m i ob') σ (upd H a u) := by
  obtain ⟨a', h1, h2, h3, h4⟩ := r.own h
  rw [hσ] at h1
  cases h1
  exact (r.changed h hσ (Same.refl F) (fun b o z => .inl z) (fun b o z => by rw [upd_ne (ne_of_none z h3)]; exact r.sF b o z) (fun b o ne z => by rw [upd_ne ne]; exact z) h3 ho).2
end
theorem Rep.putL {P : Program} {w : World} {K : PySem.W.Frag} {G F H : Hp} {a0 : Addr} {m : Mem} {σ : L2.St} {i : Nat} {ob : OB} {a : Addr} {vs : List V} {xs : List D} (r : Rep P w K G a0 F m σ H) (h : ownAt m i = some ob) (hσ : σ[i]? = some (some (.ref a))) (p : DpAll K F vs xs) :
    Rep P w K G a0 F (putOwn m i (.lst xs)) σ (upd H a (.lst vs)) := r.put (ob' := .lst xs) h hσ ⟨vs, upd_same, p⟩
section
variable {X : Cx} {W : WXs} {e j : Expr} {g gj : CP} {pos apos npos cpos : Pos} {x : Str}
def cApp (i : Nat) (g : CP) : CP := fun Y m => (∃ xs, ownAt m i = some (.lst xs)) ∧ g ⟨fun r m1 => ∃ d, frzR r = some d ∧ ∃ xs, ownAt m1 i = some (.lst xs) ∧ xs.length < 16777216 ∧ Y.ok (.val .none) (putOwn m1 i (.lst (xs ++ [d]))), Y.ex⟩ m
theorem gr_append (k : Nat) (hx : PE X (.Name x npos) (tVar k)) (he : GR X W e g)
    (hbase : attributeBase (.Name x npos) "append" X.env (eval (.Name x npos) X.env) = eval (.Name x npos) X.env := by rfl)
    (hfew : ((backTo cpos (starEach (e :: []) X.env)).all (fun x => !x.1) && (backToKw cpos (keywordEach [] X.env)).all (fun x => x.1.isSome)
      && decide ((e :: []).length + ([] : List Keyword).length + (if ([] : List Keyword).isEmpty then 0 else 1) < 30)) = true := by rfl)
    (hline : (apos.endLine == cpos.line) = true := by rfl) (hs : starEach (e :: []) X.env = (false, eval e X.env) :: starEach [] X.env := by rfl) (hplain : (backTo cpos (starEach [] X.env)).any (·.1) = false := by rfl) :
    GR X W (.Call (.Attribute (.Name x npos) "append" apos) [e] [] cpos) (cApp k g) := by
  refine PE.of (pe_bm PySem.F.plainAttrs_list PySem.F.slot_list_append PySem.F.type_list_append mt_append hx (pa_cons he pa_nil hs) hbase hfew hline hs hplain) fun σ H Q q => ?_
  obtain ⟨G, a0, F, m, Y, r, ⟨⟨xs0, h0⟩, h⟩, q⟩ := q
  obtain ⟨a, hv, _, _, vs0, hob, _⟩ := r.own h0
  refine ⟨.ref a, hv, .inl ⟨rfl, _, .inl (.inl hob)⟩, ?_⟩
  refine tR.use r h (fun d v m1 F1 H1 s1 r1 p1 k1 => ?_) fun m' F2 H2 st r2 => (q m' F2 H2 st r2).2
  obtain ⟨xs, hx1, hl, k1⟩ := k1
  obtain ⟨a', hv', _, na, vs, hob', pv⟩ := r1.own hx1
  rw [hv] at hv'
  cases hv'
  refine ⟨a, vs, v, rfl, rfl, hob', by rw [dps_len pv, sizeLine_eq]; exact hl, ?_⟩
  exact (q _ F1 _ s1 (r1.putL hx1 hv (dps_app pv (.cons p1 .nil)))).1 _ _ (ResOk.val .non) k1
def cPop (i : Nat) : CP := fun Y m => ∃ xs y, ownAt m i = some (.lst (xs ++ [y])) ∧ Y.ok (.val y) (putOwn m i (.lst xs))
theorem dps_snoc {K : PySem.W.Frag} {F : Hp} {y : D} : ∀ {xs : List D} {vs : List V}, DpAll K F vs (xs ++ [y]) → ∃ us u, vs = us ++ [u] ∧ DpAll K F us xs ∧ Dp K F u y
  | [], _, h => by
    cases h with
    | cons h1 h2 => cases h2; exact ⟨[], _, rfl, .nil, h1⟩
  | x :: xs, _, h => by
    cases h with
    | cons h1 h2 =>
      obtain ⟨us, u, rfl, k1, k2⟩ := dps_snoc h2
      exact ⟨_ :: us, u, rfl, .cons h1 k1, k2⟩
theorem gr_pop (k : Nat) (hx : PE X (.Name x npos) (tVar k)) (hbase : attributeBase (.Name x npos) "pop" X.env (eval (.Name x npos) X.env) = eval (.Name x npos) X.env := by rfl) (hline : (apos.endLine == cpos.line) = true := by rfl) :
    GR X W (.Call (.Attribute (.Name x npos) "pop" apos) [] [] cpos) (cPop k) := by
  refine PE.of (pe_bm0 PySem.F.plainAttrs_list PySem.F.slot_list_pop PySem.F.type_list_pop mt_pop hx hbase hline) fun σ H Q q => ?_
  obtain ⟨G, a0, F, m, Y, r, ⟨xs, y, h0, h⟩, q⟩ := q
  obtain ⟨a, hv, _, _, vs, hob, pv⟩ := r.own h0
  obtain ⟨us, u, rfl, p1, p2⟩ := dps_snoc pv
  refine ⟨.ref a, hv, .inl ⟨rfl, _, .inl (.inl hob)⟩, a, us ++ [u], u, rfl, rfl, hob, by simp, ?_⟩
  refine (q _ F _ (Stp.refl G F) (r.putL h0 hv (by rw [List.dropLast_concat]; exact p1))).1 _ _ (ResOk.val p2) h
/-- x[j] = e, x an own list, j a pure place -/
def wSetIx (i : Nat) (fj : PF) (g : CP) : WS := fun E m => g ⟨fun r m1 => ∃ d, frzR r = some d ∧ ∃ xs k n, ownAt m1 i = some (.lst xs) ∧ fj m1 = some (.int k) ∧ ixN xs.length k = some n ∧ E.nx (putOwn m1 i (.lst (xs.set n d))), E.ex⟩ m
theorem gs_setIx {fj : PF} (k : Nat) (hx : PE X (.Name x npos) (tVar k)) (hj : GE X j fj) (he : GR X W e g)
    (hs : swapsWithSole [.Subscript (.Name x npos) j apos] e pos.line X.env = pure false := by rfl) (hw : swappedStores [.Subscript (.Name x npos) j apos] e X.env = pure none := by rfl)
    (h1 : (assignEach [.Subscript (.Name x npos) j apos] X.env).map (·.2) = [assign (.Subscript (.Name x npos) j apos) X.env] := by rfl)
    (ha : ∀ v, assign (.Subscript (.Name x npos) j apos) X.env v = (do
      let ov ← holding [v] (eval (.Name x npos) X.env)
      let iv ← holding [v, ov] (eval j X.env)
      standAt apos
      holding [v, ov, iv] (setItem ov iv v)
      release [v, ov, iv] []) := by intro _; rfl) : GS X W (.Assign [.Subscript (.Name x npos) j apos] e pos) (wSetIx k fj g) := by
  refine PS.of (ps_asg he (pg_sub hx hj set_list ha) hs hw h1) fun D σ H q => ?_
  obtain ⟨G, a0, F, m, E, r, h, q⟩ := q
  refine tR.use r h (fun d v m1 F1 H1 s1 r1 p1 k1 => ?_) fun m' F2 H2 st r2 => (q m' σ F2 H2 st r2).2.2.2.2
  obtain ⟨xs, kk, n, hx1, hj1, hn, k1⟩ := k1
  obtain ⟨a, hv, _, na, vs, hob, pv⟩ := r1.own hx1
  refine ⟨.ref a, hv, ?_⟩
  refine tP.use r1 hj1 fun jv F2 H2 s2 r2 p2 => ?_
  obtain ⟨a', hv', _, na', vs', hob', pv'⟩ := r2.own hx1
  rw [hv] at hv'
  cases hv'
  refine ⟨a, vs', kk, n, rfl, dp_int p2, hob', by rw [dps_len pv']; exact hn, ?_⟩
  exact (q _ σ F2 _ (s1.trans s2) (r2.putL hx1 hv (dps_set (dp_mono s2.ex _ _ p1) n pv'))).1 k1
end

/-! ### defs -/
def emF (Y : CF) : EM := { nx := fun _ => Y.ok (.val .none), rt := fun r _ => Y.ok r, bk := fun _ => False, ct := fun _ => False, ex := fun e _ => Y.ex e }
def em0 (ok : R → Prop) : EM := { nx := fun _ => ok (.val .none), rt := fun r _ => ok r, bk := fun _ => False, ct := fun _ => False, ex := fun _ _ => False }
def emI (Y : CI) : EM := { nx := fun m => ∃ ob, m[0]? = some (.io ob) ∧ Y.ok (.val .none) ob, rt := fun r m => ∃ ob, m[0]? = some (.io ob) ∧ Y.ok r ob, bk := fun _ => False, ct := fun _ => False, ex := fun e m => ∃ ob, m[0]? = some (.io ob) ∧ Y.ex e ob }
def emI0 (ok : R → OB → Prop) : EM := { nx := fun m => ∃ ob, m[0]? = some (.io ob) ∧ ok (.val .none) ob, rt := fun r m => ∃ ob, m[0]? = some (.io ob) ∧ ok r ob, bk := fun _ => False, ct := fun _ => False, ex := fun _ _ => False }
/-- the memory at a def's beginning -/
def memF (n : Nat) (ds : List D) : Mem := ds.map .val ++ List.replicate (n - ds.length) .un
def memI (n : Nat) (ob : OB) (ds : List D) : Mem := .io ob :: memF (n - 1) ds
section
variable {P : Program} {w : World} {K : PySem.W.Frag} {mg : Str → Option Value} {base : Heap} {F H : Hp}
theorem memF_get {n : Nat} {ds : List D} {i : Nat} {s : S} (h : (memF n ds)[i]? = some s) : s = .un ∨ ∃ d, ds[i]? = some d ∧ s = .val d := by
  unfold memF at h
  by_cases hi : i < ds.length
  · rw [List.getElem?_append_left (by simpa using hi), List.getElem?_map] at h
    obtain ⟨d, h1, rfl⟩ := Option.map_eq_some_iff.mp h
    exact .inr ⟨d, h1, rfl⟩
  · rw [List.getElem?_append_right (by simpa using hi)] at h
    have := List.mem_of_getElem? h
    exact .inl (List.mem_replicate.mp this).2
theorem start_get {N : List Str} {vs : List V} {i : Nat} {v : V} (h : vs[i]? = some v) : (L2.start N vs)[i]?.join = some v := by
  unfold L2.start
  have hl : i < vs.length := (List.getElem?_eq_some_iff.mp h).1
  rw [List.getElem?_append_left (by simpa using hl), List.getElem?_map, h]
  rfl
theorem rep_start {N : List Str} {vs : List V} {ds : List D} (h : DpAll K F vs ds) (s : Same F H) : Rep P w K H 0 F (memF N.length ds) (L2.start N vs) H := by
  refine ⟨s, Same.refl H, by simp [memF, L2.start, dps_len h], fun i st hs => ?_, fun i j s t a h1 _ o1 _ _ _ => ?_⟩
  · rcases memF_get hs with rfl | ⟨d, h1, rfl⟩
    · trivial
    · obtain ⟨v, h2, h3⟩ := dps_get h h1
      exact ⟨v, start_get h2, h3⟩
  · rcases memF_get h1 with rfl | ⟨d, _, rfl⟩ <;> cases o1
theorem rep_startI {N : List Str} {vs : List V} {ds : List D} {a : Addr} {ob : OB} (hN : 0 < N.length) (h : DpAll K F vs ds) (s : Same F H) (ha : F a = none) (ho : ObOk P w K F H a ob) :
    Rep P w K (fun b => if b = a then none else H b) a F (memI N.length ob ds) (L2.start N (.ref a :: vs)) H := by
  have hG : ∀ b, b ≠ a → (fun b => if b = a then none else H b) b = H b := fun b hb => if_neg hb
  refine ⟨s, fun b o e => ?_, by simp [memI, memF, L2.start, dps_len h]; omega, fun i st hs => ?_, fun i j s t b h1 h2 o1 o2 _ _ => ?_⟩
  · have e : (if b = a then none else H b) = some o := e
    by_cases hb : b = a
    · rw [if_pos hb] at e; cases e
    · rw [if_neg hb] at e; exact e
  · cases i with
    | zero =>
      have : st = .io ob := by simpa [memI] using hs.symm
      subst this
      exact ⟨start_get rfl, if_pos rfl, ha, ho⟩
    | succ i =>
      have hs : (memF (N.length - 1) ds)[i]? = some st := by simpa [memI] using hs
      rcases memF_get hs with rfl | ⟨d, h1, rfl⟩
      · trivial
      · obtain ⟨v, h2, h3⟩ := dps_get h h1
        exact ⟨v, start_get (by simpa using h2), h3⟩
  · have z : ∀ (i : Nat) s, (memI N.length ob ds)[i]? = some s → isOwn s = true → i = 0 := fun i s h o => by
      cases i with
      | zero => rfl
      | succ i =>
        have h : (memF (N.length - 1) ds)[i]? = some s := by simpa [memI] using h
        rcases memF_get h with rfl | ⟨d, _, rfl⟩ <;> cases o
    rw [z i s h1 o1, z j t h2 o2]
/-- what a body's end says -/
theorem ResOk.resF {F2 H2 : Hp} {m : Mem} {σ : L2.St} {r : R} {v : V} {a0 : Addr} (ro : ResOk P w K H F2 H2 m σ r v) : ResI P w K H F2 H2 none r v := by
  cases r with
  | val d => exact ro
  | ow ob => obtain ⟨p, rfl, h1, h2, h3, h4⟩ := ro; exact ⟨p, rfl, h1, h2, by simp, h3⟩
/-- a def that raises nothing -/
theorem has_F {x qual : Str} {st : Stmt} {f : Addr} {fd : FuncData} {N ps : List Str} {k n : Nat} {g : FM} {wb : WS} (Fn : Fun K x qual st f fd) (S : FnScope N ps (defScope st)) (hn : n = ps.length)
    (body : ∀ (cdv : Value) (A : Around) (outer : List Env) (s : Shared) (H : Hp) (E : XK), Room k (A.deeper (PyProof.Rows.envOfC qual (defScope st) s.heap.objs.size f cdv)) → GSs (cxOf CX0 P w K mg base N qual (defScope st) f cdv A outer s H E).nox W0 (defBody st) wb)
    (sem : ∀ ds Y, g ds Y → wb (em0 Y.ok) (memF N.length ds)) : FnOk P w K mg base CX0 (k + 1) f fd ps (SpF P w K n g) := by
  refine Fn.ok S (fun vs H Q E h => ?_) fun cdv A outer s H vs Q E hr h => ?_
  · obtain ⟨_, _, _, h, _⟩ := h
    exact h.trans hn
  · obtain ⟨F, ds, Y, hl, sF, p, hg, q⟩ := h
    refine ⟨_, body cdv A outer s H E hr, H, 0, F, _, em0 Y.ok, rep_start p sF, sem ds Y hg, fun m' σ' F2 H2 st r2 => ?_⟩
    have g2 : Grw F H F2 H2 := ⟨st.ex, r2.sG, r2.sF, st.grow⟩
    exact ⟨fun o => (q F2 H2 g2).1 _ _ (show ResI P w K H F2 H2 none (.val .none) .non from Dp.non) o, fun o => o.elim, fun o => o.elim, fun r v ro o => (q F2 H2 g2).1 r v (ResOk.resF (a0 := 0) ro) o, fun _ _ _ _ o => o.elim⟩
theorem has_I {x qual : Str} {st : Stmt} {f : Addr} {fd : FuncData} {N ps : List Str} {k n : Nat} {g : IM} {wb : WS} (Fn : Fun K x qual st f fd) (S : FnScope N ps (defScope st)) (hn : n + 1 = ps.length) (hN : 0 < N.length)
    (body : ∀ (cdv : Value) (A : Around) (outer : List Env) (s : Shared) (H : Hp) (E : XK), Room k (A.deeper (PyProof.Rows.envOfC qual (defScope st) s.heap.objs.size f cdv)) → GSs (cxOf CX0 P w K mg base N qual (defScope st) f cdv A outer s H E).nox W0 (defBody st) wb)
    (sem : ∀ ob ds Y, g ob ds Y → wb (emI0 Y.ok) (memI N.length ob ds)) : FnOk P w K mg base CX0 (k + 1) f fd ps (SpI P w K n g) := by
  refine Fn.ok S (fun vs H Q E h => ?_) fun cdv A outer s H vs Q E hr h => ?_
  · obtain ⟨_, _, us, _, _, _, rfl, h, _⟩ := h
    rw [List.length_cons, h]; exact hn
  · obtain ⟨F, a, us, ob, ds, Y, rfl, hl, sF, na, ho, p, hg, q⟩ := h
    refine ⟨_, body cdv A outer s H E hr, _, a, F, _, emI0 Y.ok, rep_startI hN p sF na ho, sem ob ds Y hg, fun m' σ' F2 H2 st r2 => ?_⟩
    have fr : ∀ b o, b ≠ a → H b = some o → H2 b = some o := fun b o ne e => r2.sG b o (by show (if b = a then none else H b) = some o; rw [if_neg ne]; exact e)
    have fin : ∀ ob', m'[0]? = some (.io ob') → (∀ b o, F2 b = some o → F b = some o ∨ H b = none) ∧ F2 a = none ∧ ObOk P w K F2 H2 a ob' ∧ σ'[0]? = some (some (.ref a)) := fun ob' h0 => by
      obtain ⟨k1, k2, k3, k4⟩ := r2.at_ 0 _ h0
      refine ⟨fun b o e => ?_, k3, k4, join_some k1⟩
      rcases st.grow b o e with z | z
      · exact .inl z
      · have z : (if b = a then none else H b) = none := z
        by_cases hb : b = a
        · rw [hb, k3] at e; cases e
        · rw [if_neg hb] at z; exact .inr z
    refine ⟨fun ⟨ob', h0, o⟩ => ?_, fun o => o.elim, fun o => o.elim, fun r v ro ⟨ob', h0, o⟩ => ?_, fun _ _ _ _ o => o.elim⟩
    · obtain ⟨k1, k2, k3, k4⟩ := fin ob' h0
      exact (q ob' F2 H2 st.ex k1 r2.sF fr k2 k3).1 _ _ (show ResI P w K H F2 H2 (some a) (.val .none) .non from Dp.non) o
    · obtain ⟨k1, k2, k3, k4⟩ := fin ob' h0
      refine (q ob' F2 H2 st.ex k1 r2.sF fr k2 k3).1 r v ?_ o
      cases r with
      | val d => exact ro
      | ow o2 =>
        obtain ⟨p, rfl, h1, h2, h3, h4⟩ := ro
        have ne : p ≠ a := fun e => h4 0 _ h0 rfl (by rw [e]; exact k4)
        have h1 : (if p = a then none else H p) = none := h1
        rw [if_neg ne] at h1
        exact ⟨p, rfl, h1, h2, fun e => ne (Option.some.inj e).symm, h3⟩
end
end MP

end
section
namespace MP
open PySem PySem.Spec L2

/-- a guard -/
def grd {α : Type} (b : Bool) (x : α) : Option α := if b = true then some x else none
theorem grd_eq {α : Type} {b : Bool} {x y : α} (h : grd b x = some y) : b = true ∧ x = y := by
  unfold grd at h
  split at h
  · exact ⟨by assumption, Option.some.inj h⟩
  · cases h
theorem grd_ok {α : Type} {b : Bool} {x : α} (h : b = true) : grd b x = some x := if_pos h
def sz (n : Nat) : Bool := decide (n ≤ 16777216)
theorem sz_ok {n : Nat} (h : sz n = true) : n ≤ sizeLine := le_line (of_decide_eq_true h)

mutual
theorem dp_plain {K : PySem.W.Frag} {F : Hp} : ∀ (d : D) (v : V), Dp K F v d → d.plain = true
  | .none, _, _ => rfl
  | .bool _, _, _ => rfl
  | .int _, _, _ => rfl
  | .str _, _, _ => rfl
  | .list ds, _, h => by
    cases h with
    | lst h1 h2 => simp only [PyData.plain]; exact dps_plain ds _ h2
  | .tuple ds, _, h => by
    cases h with
    | tup h1 h2 => simp only [PyData.plain]; exact dps_plain ds _ h2
  | .dict _, _, h => nomatch h
theorem dps_plain {K : PySem.W.Frag} {F : Hp} : ∀ (ds : List D) (vs : List V), DpAll K F vs ds → PyData.plainAll ds = true
  | [], _, _ => rfl
  | d :: ds, _, h => by
    cases h with
    | cons h1 h2 => simp only [PyData.plainAll, dp_plain d _ h1, dps_plain ds _ h2, Bool.and_self]
end

section
variable {X : Cx} {pins : List (Addr × Obj)} {σ : L2.St} {H F : Hp} {s : Shared}
theorem fin_d {Q : VK} {v : V} {u : Value} {d : D} (I : Inv X pins σ H s) (r : RelV v u) (sF : Same F H) (p : Dp X.K F v d) (q : ∀ v F2 H2, Grw F H F2 H2 → Dp X.K F2 v d → Q v H2) : EP X pins σ Q u s := ⟨v, H, I, r, q v F H (Grw.refl sF) p⟩
theorem fin_b {Q : VK} {k : Bool} (I : Inv X pins σ H s) (sF : Same F H) (q : ∀ v F2 H2, Grw F H F2 H2 → Dp X.K F2 v (.bool k) → Q v H2) : EP X pins σ Q (.bool k) s := fin_d (v := .bl k) I rfl sF (.bl k) q
theorem Dp.rd (I : Inv X pins σ H s) (sF : Same F H) {d : D} {v : V} {u : Value} (p : Dp X.K F v d) (r : RelV v u) : ∃ as, Reads s.heap u d as := L2.Dp.reads I d v u (dp_mono sF _ _ p) r
end

/-! ### operators by values -/
def repStr (z : Str) (k : Int) : Str := ⟨(List.replicate k.toNat z.cps.toList).flatten.toArray⟩
def addD : D → D → Option D
  | .int i, .int j => some (.int (i + j))
  | .str x, .str y => grd (sz (x.length + y.length)) (.str (x ++ y))
  | .list xs, .list ys => grd (sz (xs.length + ys.length)) (.list (xs ++ ys))
  | .tuple xs, .tuple ys => grd (sz (xs.length + ys.length)) (.tuple (xs ++ ys))
  | _, _ => none
def subD : D → D → Option D
  | .int i, .int j => some (.int (i - j))
  | _, _ => none
def mulOk (i j : Int) : Bool := decide (i.natAbs.log2 + j.natAbs.log2 < 1000000)
def mulD : D → D → Option D
  | .int i, .int j => grd (mulOk i j) (.int (i * j))
  | .str z, .int k => grd (decide (0 ≤ k ∧ k ≤ 1000 ∧ z.length ≤ 1000)) (.str (repStr z k))
  | .tuple xs, .int k => grd (!xs.isEmpty && decide (2 ≤ k ∧ k ≤ 1000 ∧ xs.length ≤ 1000)) (.tuple (List.replicate k.toNat xs).flatten)
  | _, _ => none
def modD : D → D → Option D
  | .int i, .int j => grd (decide (0 < j)) (.int (i % j))
  | _, _ => none
def fdivD : D → D → Option D
  | .int i, .int j => grd (decide (0 < j ∧ j < 1073741824)) (.int (i / j))
  | _, _ => none
def powD : D → D → Option D
  | .int i, .int j => grd (decide (0 ≤ j ∧ j ≤ 1000000 ∧ i.natAbs < 18446744073709551616)) (.int (i ^ j.toNat))
  | _, _ => none
def negD : D → Option D
  | .int i => some (.int (-i))
  | _ => none
def andD : D → D → Option D
  | .int i, .int j => some (.int (Builtin.bitAnd i j))
  | _, _ => none
def orD : D → D → Option D
  | .int i, .int j => some (.int (Builtin.bitOr i j))
  | _, _ => none
section
variable {X : Cx} {pins : List (Addr × Obj)} {σ : L2.St} {H F : Hp} {s : Shared}
/-- list + list, whatever they are (an object of the module, the script, one made here) -/
theorem cat_any (I : Inv X pins σ H s) {l b : Addr} {xs ys : List V} (hl : SqL X.K H l xs) (hb : SqL X.K H b ys) (hz : xs.length + ys.length ≤ sizeLine) {Q : VK} (q : ∀ p, H p = none → Q (.ref p) (upd H p (.lst (xs ++ ys)))) :
    wpAny (model X.prog X.w) X.A (binaryOp .Add (.ref l) (.ref b)) (EP X pins σ Q) X.xe s := by
  obtain ⟨its, r, ⟨o, n, e, hc, hd, hdt⟩, z⟩ := I.list hl
  obtain ⟨its2, r2, ⟨o2, n2, e2, hc2, hd2, hdt2⟩, z2⟩ := I.list hb
  obtain ⟨cls, dd, data, sl⟩ := o
  obtain ⟨cls2, dd2, data2, sl2⟩ := o2
  simp only at hc hd hdt hc2 hd2 hdt2
  subst hc hd hdt hc2 hd2 hdt2
  have h1 := r.length
  have h2 := r2.length
  refine concat_meets ⟨_, e, rfl⟩ ⟨_, e2, rfl⟩ noFill_list_add seq_list_add PySem.F.slot_list_add PySem.F.entry_list_add (PySem.F.args_list_add_2 _ _) (PyProof.Rows.list_addW l b its.toArray its2.toArray n n2 none none sl sl2 (by rw [List.size_toArray, List.size_toArray]; omega)) ⟨e, e2, ?_⟩
  have ea : its.toArray ++ its2.toArray = (its ++ its2).toArray := by simp
  rw [ea]
  exact ⟨.ref _, _, I.lnew (t' := s.toks) (r.append r2) (by rw [List.length_append]; omega), rfl, q _ I.fresh⟩
theorem d_add : OpR X (binaryOp .Add) (rG2 X.K addD) := by
  intro pins s σ H x y v u Q I rx ry h
  obtain ⟨F, d1, d2, e, sF, p1, p2, hg, q⟩ := h
  cases d1 with
  | int i =>
    cases d2 <;> cases hg
    rename_i j
    cases dp_int p1; cases dp_int p2
    exact op_add pins s σ H _ _ v u Q I rx ry ⟨i, j, rfl, rfl, q _ F H (Grw.refl sF) (.int _)⟩
  | str z =>
    cases d2 with
    | str z2 =>
      obtain ⟨hz, rfl⟩ := grd_eq hg
      cases dp_str p1; cases dp_str p2
      exact op_add_str pins s σ H _ _ v u Q I rx ry ⟨z, z2, rfl, rfl, sz_ok hz, q _ F H (Grw.refl sF) (.str _)⟩
    | _ => cases hg
  | list xs =>
    cases d2 with
    | list ys =>
      obtain ⟨hz, rfl⟩ := grd_eq hg
      obtain ⟨a, vs, rfl, h1, h2⟩ := lst_inv p1
      obtain ⟨b, us, rfl, k1, k2⟩ := lst_inv p2
      cases rx; cases ry
      refine cat_any I (same_l sF h1) (same_l sF k1) (by rw [dps_len h2, dps_len k2]; exact sz_ok hz) fun p hp => ?_
      exact q _ _ _ (Grw.new sF hp) (dp_newL (sF.free hp) (dps_app h2 k2))
    | _ => cases hg
  | tuple xs =>
    cases d2 with
    | tuple ys =>
      obtain ⟨hz, rfl⟩ := grd_eq hg
      obtain ⟨a, vs, rfl, h1, h2⟩ := tup_inv p1
      obtain ⟨b, us, rfl, k1, k2⟩ := tup_inv p2
      have l1 := dps_len h2
      have l2 := dps_len k2
      have z0 : ∀ {ds : List D} {vs : List V}, DpAll X.K F vs ds → vs = [] → ds = [] := fun h e => by subst e; cases h; rfl
      refine op_catA pins s σ H _ _ v u Q I rx ry ⟨a, b, vs, us, rfl, rfl, same_t sF h1, same_t sF k1, by rw [l1, l2]; exact sz_ok hz, fun e => ?_, fun _ e => ?_, fun _ _ p hp => ?_⟩
      · rw [z0 h2 e] at q
        exact q _ F H (Grw.refl sF) p2
      · rw [z0 k2 e, List.append_nil] at q
        exact q _ F H (Grw.refl sF) p1
      · exact q _ _ _ (Grw.new sF hp) (dp_newT (sF.free hp) (dps_app h2 k2))
    | _ => cases hg
  | _ => cases hg
theorem d_sub : OpR X (binaryOp .Sub) (rG2 X.K subD) := by
  intro pins s σ H x y v u Q I rx ry h
  obtain ⟨F, d1, d2, e, sF, p1, p2, hg, q⟩ := h
  cases d1 <;> cases d2 <;> cases hg
  rename_i i j
  cases dp_int p1; cases dp_int p2
  exact op_sub pins s σ H _ _ v u Q I rx ry ⟨i, j, rfl, rfl, q _ F H (Grw.refl sF) (.int _)⟩
theorem d_and : OpR X (binaryOp .BitAnd) (rG2 X.K andD) := by
  intro pins s σ H x y v u Q I rx ry h
  obtain ⟨F, d1, d2, e, sF, p1, p2, hg, q⟩ := h
  cases d1 <;> cases d2 <;> cases hg
  rename_i i j
  cases dp_int p1; cases dp_int p2
  exact op_and pins s σ H _ _ v u Q I rx ry ⟨i, j, rfl, rfl, q _ F H (Grw.refl sF) (.int _)⟩
theorem d_or : OpR X (binaryOp .BitOr) (rG2 X.K orD) := by
  intro pins s σ H x y v u Q I rx ry h
  obtain ⟨F, d1, d2, e, sF, p1, p2, hg, q⟩ := h
  cases d1 <;> cases d2 <;> cases hg
  rename_i i j
  cases dp_int p1; cases dp_int p2
  exact op_or pins s σ H _ _ v u Q I rx ry ⟨i, j, rfl, rfl, q _ F H (Grw.refl sF) (.int _)⟩
theorem d_mod : OpR X (binaryOp .Mod) (rG2 X.K modD) := by
  intro pins s σ H x y v u Q I rx ry h
  obtain ⟨F, d1, d2, e, sF, p1, p2, hg, q⟩ := h
  cases d1 with
  | int i =>
    cases d2 with
    | int j =>
      obtain ⟨hz, rfl⟩ := grd_eq hg
      cases dp_int p1; cases dp_int p2
      exact op_mod pins s σ H _ _ v u Q I rx ry ⟨i, j, rfl, rfl, of_decide_eq_true hz, q _ F H (Grw.refl sF) (.int _)⟩
    | _ => cases hg
  | _ => cases hg
theorem d_fdiv : OpR X (binaryOp .FloorDiv) (rG2 X.K fdivD) := by
  intro pins s σ H x y v u Q I rx ry h
  obtain ⟨F, d1, d2, e, sF, p1, p2, hg, q⟩ := h
  cases d1 with
  | int i =>
    cases d2 with
    | int j =>
      obtain ⟨hz, rfl⟩ := grd_eq hg
      cases dp_int p1; cases dp_int p2
      have hz := of_decide_eq_true hz
      exact op_fdiv pins s σ H _ _ v u Q I rx ry ⟨i, j, rfl, rfl, hz, q _ F H (Grw.refl sF) (.int _)⟩
    | _ => cases hg
  | _ => cases hg
theorem d_pow : OpR X (binaryOp .Pow) (rG2 X.K powD) := by
  intro pins s σ H x y v u Q I rx ry h
  obtain ⟨F, d1, d2, e, sF, p1, p2, hg, q⟩ := h
  cases d1 with
  | int i =>
    cases d2 with
    | int j =>
      obtain ⟨hz, rfl⟩ := grd_eq hg
      cases dp_int p1; cases dp_int p2
      have hz := of_decide_eq_true hz
      exact op_pow pins s σ H _ _ v u Q I rx ry ⟨i, j, rfl, rfl, ⟨hz.1, hz.2.1, by have := hz.2.2; omega⟩, q _ F H (Grw.refl sF) (.int _)⟩
    | _ => cases hg
  | _ => cases hg
theorem d_neg : UnR X (unaryOp .USub) (rG1 X.K negD) := by
  intro pins s σ H x v Q I rx h
  obtain ⟨F, d1, e, sF, p1, hg, q⟩ := h
  cases d1 <;> cases hg
  rename_i i
  cases dp_int p1
  exact un_neg pins s σ H _ v Q I rx ⟨i, rfl, q _ F H (Grw.refl sF) (.int _)⟩
theorem rep_fold (x : List Nat) : ∀ k : Nat, (List.replicate k x.toArray).foldl (· ++ ·) #[] = (List.replicate k x).flatten.toArray := fun k => by
  have : ∀ (k : Nat) (acc : List Nat), (List.replicate k x.toArray).foldl (· ++ ·) acc.toArray = (acc ++ (List.replicate k x).flatten).toArray := fun k => by
    induction k with
    | zero => intro acc; simp
    | succ k ih => intro acc; rw [List.replicate_succ, List.foldl_cons, List.replicate_succ, List.flatten_cons, show acc.toArray ++ x.toArray = (acc ++ x).toArray by simp, ih, List.append_assoc]
  simpa using this k []
theorem d_mul : OpR X (binaryOp .Mult) (rG2 X.K mulD) := by
  intro pins s σ H x y v u Q I rx ry h
  obtain ⟨F, d1, d2, e, sF, p1, p2, hg, q⟩ := h
  cases d1 with
  | int i =>
    cases d2 with
    | int j =>
      obtain ⟨hz, rfl⟩ := grd_eq hg
      cases dp_int p1; cases dp_int p2
      have hz : i.natAbs.log2 + j.natAbs.log2 < 1000000 := of_decide_eq_true hz
      exact op_mulW pins s σ H _ _ v u Q I rx ry ⟨i, j, rfl, rfl, hz, q _ F H (Grw.refl sF) (.int _)⟩
    | _ => cases hg
  | str z =>
    cases d2 with
    | int k =>
      obtain ⟨hz, rfl⟩ := grd_eq hg
      obtain ⟨hk, hk2, hl⟩ := of_decide_eq_true hz
      cases dp_str p1; cases dp_int p2
      obtain ⟨t, rfl⟩ := rx
      obtain ⟨t2, rfl⟩ := ry
      obtain ⟨⟨cs⟩⟩ := z
      have fin : ∀ t' : Tok, EP X pins σ Q (.str (repStr ⟨⟨cs⟩⟩ k) t') { s with toks := s.toks + 1 } := fun t' => fin_d (v := .str _) (I.tok _) ⟨t', rfl⟩ sF (.str _) q
      refine P.mul_str ?_ (fun h1 _ => ?_) (fun h1 _ => ?_) ?_
      · rw [decide_eq_false (by omega), decide_eq_false (by omega)] <;> rfl
      · have h3 : ((Str.length ⟨⟨cs⟩⟩ : Nat) : Int) ≤ 1000 := by omega
        have h4 : 1000 ≤ (2 ^ 63 - 1 : Int) / k := (Int.le_ediv_iff_mul_le (by omega)).mpr (by omega)
        omega
      · have h3 : (Str.length ⟨⟨cs⟩⟩) * k.toNat ≤ 1000 * 1000 := Nat.mul_le_mul hl (by omega)
        unfold Builtin.Str.tooLong
        exact decide_eq_false (by rw [sizeLine_eq]; omega)
      · by_cases h1 : k < 1
        · rw [if_pos h1]
          have e : repStr ⟨⟨cs⟩⟩ k = Str.empty := by
            have : k.toNat = 0 := by omega
            unfold repStr
            rw [this]
            rfl
          have := fin s.toks
          rw [e] at this
          exact ⟨by decide, this⟩
        · rw [if_neg h1]
          by_cases h2 : (k == 1 || Str.length ⟨⟨cs⟩⟩ == 0) = true
          · rw [if_pos h2]
            have e : repStr ⟨⟨cs⟩⟩ k = ⟨⟨cs⟩⟩ := by
              unfold repStr
              rcases Bool.or_eq_true_iff.mp h2 with z | z
              · have : k = 1 := by simpa using z
                subst this
                simp
              · have : cs = [] := by simpa [Str.length] using z
                subst this
                simp
            refine fin_d (v := .str ⟨⟨cs⟩⟩) I ⟨t, rfl⟩ sF ?_ (by rw [e] at q; exact q)
            exact .str _
          · rw [if_neg h2, rep_fold]
            have hle : (List.replicate k.toNat cs).flatten.length ≤ 1000000 := by
              rw [PyProof.Rows.lm_len_rep_flat]
              have : k.toNat * cs.length ≤ 1000 * 1000 := Nat.mul_le_mul (by omega) (by simpa [Str.length] using hl)
              omega
            exact ⟨by simp only [Str.length, List.size_toArray]; first | omega | (rw [sizeLine_eq]; omega), fin s.toks⟩
    | _ => cases hg
  | tuple xs =>
    cases d2 with
    | int k =>
      obtain ⟨hz, rfl⟩ := grd_eq hg
      rw [Bool.and_eq_true] at hz
      obtain ⟨h1, h2, h3⟩ := of_decide_eq_true hz.2
      cases dp_int p2
      obtain ⟨a, vs, rfl, k1, k2⟩ := tup_inv p1
      have hl := dps_len k2
      have hne : vs ≠ [] := fun e => by
        subst e
        cases k2
        simp at hz
      have rep : ∀ n : Nat, DpAll X.K F (List.replicate n vs).flatten (List.replicate n xs).flatten := fun n => by
        induction n with
        | zero => simp; exact .nil
        | succ n ih => rw [List.replicate_succ, List.replicate_succ, List.flatten_cons, List.flatten_cons]; exact dps_app k2 ih
      exact op_repT pins s σ H _ _ v u Q I rx ry ⟨a, k, vs, rfl, rfl, same_t sF k1, hne, h1, h2, by omega, fun p hp => q _ _ _ (Grw.new sF hp) (dp_newT (sF.free hp) (rep k.toNat))⟩
    | _ => cases hg
  | _ => cases hg
end
end MP

end
section
namespace MP
open PySem PySem.Spec L2

/-! ### comparisons -/
def dok (x y : D) : Bool := decide (min x.depth y.depth ≤ 60)
def eqD (x y : D) : Option D := grd (dok x y) (.bool (PyData.eqv x y))
def neD (x y : D) : Option D := grd (dok x y) (.bool (!PyData.eqv x y))
/-- an order by the library's rule -/
def cmpD (o : D → D → Bool) (x y : D) : Option D := grd (dok x y && (PySem.W.alike x y && !(match x with | .none => true | _ => false))) (.bool (o x y))
def ltD : D → D → Option D
  | .int i, .int j => some (.bool (decide (i < j)))
  | .str x, .str y => some (.bool (decide (x.cps.toList < y.cps.toList)))
  | x, y => cmpD PySem.W.dataLt x y
def leD : D → D → Option D
  | .int i, .int j => some (.bool (decide (i ≤ j)))
  | x, y => cmpD (fun x y => !PySem.W.dataLt y x) x y
def gtD : D → D → Option D
  | .int i, .int j => some (.bool (decide (j < i)))
  | x, y => cmpD (fun x y => PySem.W.dataLt y x) x y
def geD : D → D → Option D
  | .int i, .int j => some (.bool (decide (j ≤ i)))
  | x, y => cmpD (fun x y => !PySem.W.dataLt x y) x y
/-- is it in a text -/
def inStr (x y : Str) : Bool := !(Builtin.Str.occurrences y x 0 y.length 1).isEmpty
def inD : D → D → Option D
  | .str x, .str y => some (.bool (inStr x y))
  | x, .list ys => grd (decide (min (PyData.depthAll ys) x.depth ≤ 60)) (.bool (ys.any fun y => PyData.eqv y x))
  | x, .tuple ys => grd (decide (min (PyData.depthAll ys) x.depth ≤ 60)) (.bool (ys.any fun y => PyData.eqv y x))
  | _, _ => none
def ninD (x y : D) : Option D := (inD x y).bind fun
  | .bool b => some (.bool !b)
  | _ => none
def isNoneD : D → Bool
  | .none => true
  | _ => false
/-- x is None, True, False -/
def isD : D → D → Option D
  | x, .none => some (.bool (isNoneD x))
  | .bool a, .bool b => some (.bool (decide (a = b)))
  | _, _ => none
def isnD : D → D → Option D
  | x, .none => some (.bool (!isNoneD x))
  | .bool a, .bool b => some (.bool (!decide (a = b)))
  | _, _ => none
section
variable {X : Cx} {pins : List (Addr × Obj)} {σ : L2.St} {H F : Hp} {s : Shared}
theorem d_eq (hu : X.A.units + 64 < cLine) : OpR X (compareOp .Eq) (rG2 X.K eqD) := by
  intro pins s σ H x y v u Q I rx ry h
  obtain ⟨F, d1, d2, e, sF, p1, p2, hg, q⟩ := h
  obtain ⟨hz, rfl⟩ := grd_eq hg
  have hz : min d1.depth d2.depth ≤ 60 := of_decide_eq_true hz
  obtain ⟨as, r1⟩ := Dp.rd I sF p1 rx
  obtain ⟨bs, r2⟩ := Dp.rd I sF p2 ry
  exact SeqAt.eq_plain r1 r2 (dp_plain _ _ p1) (dp_plain _ _ p2) (by omega) (fin_b I sF q)
theorem d_ne (hu : X.A.units + 64 < cLine) : OpR X (compareOp .NotEq) (rG2 X.K neD) := by
  intro pins s σ H x y v u Q I rx ry h
  obtain ⟨F, d1, d2, e, sF, p1, p2, hg, q⟩ := h
  obtain ⟨hz, rfl⟩ := grd_eq hg
  have hz : min d1.depth d2.depth ≤ 60 := of_decide_eq_true hz
  obtain ⟨as, r1⟩ := Dp.rd I sF p1 rx
  obtain ⟨bs, r2⟩ := Dp.rd I sF p2 ry
  exact SeqAt.ne_plain r1 r2 (dp_plain _ _ p1) (dp_plain _ _ p2) (by omega) (fin_b I sF q)
theorem cmp_run {o : D → D → Bool} {d1 d2 e : D} {x y : V} {v u : Value} {Q : VK} {op : CmpOp} (hu : X.A.units + 64 < cLine) (I : Inv X pins σ H s) (rx : RelV x v) (ry : RelV y u) (sF : Same F H) (p1 : Dp X.K F x d1) (p2 : Dp X.K F y d2)
    (hg : cmpD o d1 d2 = some e) (q : ∀ v F2 H2, Grw F H F2 H2 → Dp X.K F2 v e → Q v H2)
    (k : ∀ {as bs : List Addr}, Reads s.heap v d1 as → Reads s.heap u d2 bs → PySem.W.alike d1 d2 = true → d1 ≠ .none → X.A.units + min d1.depth d2.depth < cLine → EP X pins σ Q (.bool (o d1 d2)) s → wpAny (model X.prog X.w) X.A (compareOp op v u) (EP X pins σ Q) X.xe s) :
    wpAny (model X.prog X.w) X.A (compareOp op v u) (EP X pins σ Q) X.xe s := by
  obtain ⟨hz, rfl⟩ := grd_eq hg
  rw [Bool.and_eq_true, Bool.and_eq_true] at hz
  obtain ⟨hz, ha, hn⟩ := hz
  have hz : min d1.depth d2.depth ≤ 60 := of_decide_eq_true hz
  obtain ⟨as, r1⟩ := Dp.rd I sF p1 rx
  obtain ⟨bs, r2⟩ := Dp.rd I sF p2 ry
  exact k r1 r2 ha (fun e => by subst e; simp at hn) (by omega) (fin_b I sF q)
theorem d_lt (hu : X.A.units + 64 < cLine) : OpR X (compareOp .Lt) (rG2 X.K ltD) := by
  intro pins s σ H x y v u Q I rx ry h
  obtain ⟨F, d1, d2, e, sF, p1, p2, hg, q⟩ := h
  unfold ltD at hg
  split at hg
  · cases hg
    cases dp_int p1; cases dp_int p2
    exact op_lt pins s σ H _ _ v u Q I rx ry ⟨_, _, rfl, rfl, q _ F H (Grw.refl sF) (.bl _)⟩
  · cases hg
    cases dp_str p1; cases dp_str p2
    exact op_lt_str pins s σ H _ _ v u Q I rx ry ⟨_, _, rfl, rfl, q _ F H (Grw.refl sF) (.bl _)⟩
  · exact cmp_run hu I rx ry sF p1 p2 hg q fun r1 r2 ha hn hd h => PySem.W.lt_data r1 r2 ha hn hd h
theorem d_le (hu : X.A.units + 64 < cLine) : OpR X (compareOp .LtE) (rG2 X.K leD) := by
  intro pins s σ H x y v u Q I rx ry h
  obtain ⟨F, d1, d2, e, sF, p1, p2, hg, q⟩ := h
  unfold leD at hg
  split at hg
  · cases hg
    cases dp_int p1; cases dp_int p2
    exact op_le pins s σ H _ _ v u Q I rx ry ⟨_, _, rfl, rfl, q _ F H (Grw.refl sF) (.bl _)⟩
  · exact cmp_run hu I rx ry sF p1 p2 hg q fun r1 r2 ha hn hd h => PySem.W.le_data r1 r2 ha hn hd h
theorem d_gt (hu : X.A.units + 64 < cLine) : OpR X (compareOp .Gt) (rG2 X.K gtD) := by
  intro pins s σ H x y v u Q I rx ry h
  obtain ⟨F, d1, d2, e, sF, p1, p2, hg, q⟩ := h
  unfold gtD at hg
  split at hg
  · cases hg
    cases dp_int p1; cases dp_int p2
    exact op_gt pins s σ H _ _ v u Q I rx ry ⟨_, _, rfl, rfl, q _ F H (Grw.refl sF) (.bl _)⟩
  · exact cmp_run hu I rx ry sF p1 p2 hg q fun r1 r2 ha hn hd h => PySem.W.gt_data r1 r2 ha hn hd h
theorem d_ge (hu : X.A.units + 64 < cLine) : OpR X (compareOp .GtE) (rG2 X.K geD) := by
  intro pins s σ H x y v u Q I rx ry h
  obtain ⟨F, d1, d2, e, sF, p1, p2, hg, q⟩ := h
  unfold geD at hg
  split at hg
  · cases hg
    cases dp_int p1; cases dp_int p2
    exact op_ge pins s σ H _ _ v u Q I rx ry ⟨_, _, rfl, rfl, q _ F H (Grw.refl sF) (.bl _)⟩
  · exact cmp_run hu I rx ry sF p1 p2 hg q fun r1 r2 ha hn hd h => PySem.W.ge_data r1 r2 ha hn hd h
theorem d_in (hu : X.A.units + 64 < cLine) : OpR X (compareOp .In) (rG2 X.K inD) := by
  intro pins s σ H x y v u Q I rx ry h
  obtain ⟨F, d1, d2, e, sF, p1, p2, hg, q⟩ := h
  obtain ⟨as, r1⟩ := Dp.rd I sF p1 rx
  obtain ⟨bs, r2⟩ := Dp.rd I sF p2 ry
  have hp1 := dp_plain _ _ p1
  have hp2 := dp_plain _ _ p2
  cases d2 with
  | str z =>
    cases d1 <;> cases hg
    cases dp_str p1; cases dp_str p2
    exact op_in_str pins s σ H _ _ v u Q I rx ry ⟨_, _, rfl, rfl, q _ F H (Grw.refl sF) (.bl _)⟩
  | list ys =>
    have hg : grd (decide (min (PyData.depthAll ys) d1.depth ≤ 60)) (.bool (ys.any fun y => PyData.eqv y d1)) = some e := by cases d1 <;> exact hg
    obtain ⟨hz, rfl⟩ := grd_eq hg
    have hz := of_decide_eq_true hz
    exact SeqAt.in_list_data r2 r1 (by simpa [PyData.plain] using hp2) hp1 (by omega) (fin_b I sF q)
  | tuple ys =>
    have hg : grd (decide (min (PyData.depthAll ys) d1.depth ≤ 60)) (.bool (ys.any fun y => PyData.eqv y d1)) = some e := by cases d1 <;> exact hg
    obtain ⟨hz, rfl⟩ := grd_eq hg
    have hz := of_decide_eq_true hz
    exact SeqAt.in_tuple_data r2 r1 (by simpa [PyData.plain] using hp2) hp1 (by omega) (fin_b I sF q)
  | _ => cases d1 <;> cases hg
theorem d_nin (hu : X.A.units + 64 < cLine) : OpR X (compareOp .NotIn) (rG2 X.K ninD) := by
  intro pins s σ H x y v u Q I rx ry h
  obtain ⟨F, d1, d2, e, sF, p1, p2, hg, q⟩ := h
  obtain ⟨as, r1⟩ := Dp.rd I sF p1 rx
  obtain ⟨bs, r2⟩ := Dp.rd I sF p2 ry
  have hp1 := dp_plain _ _ p1
  have hp2 := dp_plain _ _ p2
  obtain ⟨z, hg, he⟩ := Option.bind_eq_some_iff.mp hg
  cases d2 with
  | str z =>
    cases d1 <;> cases hg
    cases he
    cases dp_str p1; cases dp_str p2
    exact op_notin_str pins s σ H _ _ v u Q I rx ry ⟨_, _, rfl, rfl, q _ F H (Grw.refl sF) (.bl _)⟩
  | list ys =>
    have hg : grd (decide (min (PyData.depthAll ys) d1.depth ≤ 60)) (.bool (ys.any fun y => PyData.eqv y d1)) = some z := by cases d1 <;> exact hg
    obtain ⟨hz, rfl⟩ := grd_eq hg
    cases he
    have hz := of_decide_eq_true hz
    exact SeqAt.notIn_list_data r2 r1 (by simpa [PyData.plain] using hp2) hp1 (by omega) (fin_b I sF q)
  | tuple ys =>
    have hg : grd (decide (min (PyData.depthAll ys) d1.depth ≤ 60)) (.bool (ys.any fun y => PyData.eqv y d1)) = some z := by cases d1 <;> exact hg
    obtain ⟨hz, rfl⟩ := grd_eq hg
    cases he
    have hz := of_decide_eq_true hz
    exact SeqAt.notIn_tuple_data r2 r1 (by simpa [PyData.plain] using hp2) hp1 (by omega) (fin_b I sF q)
  | _ => cases d1 <;> cases hg
theorem isN_of {K : PySem.W.Frag} {d : D} {v : V} (p : Dp K F v d) : decide (v = .non) = isNoneD d := by
  cases p <;> first | rfl | simp [isNoneD]
theorem d_is : OpR X (compareOp .Is) (rG2 X.K isD) := by
  intro pins s σ H x y v u Q I rx ry h
  obtain ⟨F, d1, d2, e, sF, p1, p2, hg, q⟩ := h
  cases d2 with
  | none =>
    have hg : some (.bool (isNoneD d1)) = some e := by cases d1 <;> exact hg
    cases hg
    cases dp_non p2
    refine op_isN pins s σ H _ _ v u Q I rx ry ⟨rfl, ?_⟩
    rw [isN_of p1]
    exact q _ F H (Grw.refl sF) (.bl _)
  | bool b =>
    cases d1 <;> cases hg
    cases dp_bl p1; cases dp_bl p2
    exact op_isBl pins s σ H _ _ v u Q I rx ry ⟨_, _, rfl, rfl, q _ F H (Grw.refl sF) (.bl _)⟩
  | _ => cases d1 <;> cases hg
theorem d_isn : OpR X (compareOp .IsNot) (rG2 X.K isnD) := by
  intro pins s σ H x y v u Q I rx ry h
  obtain ⟨F, d1, d2, e, sF, p1, p2, hg, q⟩ := h
  cases d2 with
  | none =>
    have hg : some (.bool (!isNoneD d1)) = some e := by cases d1 <;> exact hg
    cases hg
    cases dp_non p2
    refine op_notN pins s σ H _ _ v u Q I rx ry ⟨rfl, ?_⟩
    rw [isN_of p1]
    exact q _ F H (Grw.refl sF) (.bl _)
  | bool b =>
    cases d1 <;> cases hg
    cases dp_bl p1; cases dp_bl p2
    exact op_notBl pins s σ H _ _ v u Q I rx ry ⟨_, _, rfl, rfl, q _ F H (Grw.refl sF) (.bl _)⟩
  | _ => cases d1 <;> cases hg

/-! ### subscripts, slices -/
def sign (c : Nat) : D := .str ⟨#[c]⟩
def ixD : D → D → Option D
  | .list xs, .int i => atI xs i
  | .tuple xs, .int i => atI xs i
  | .str z, .int i => (grd (sz z.length) ()).bind fun _ => (atI z.cps.toList i).map sign
  | _, _ => none
theorem dps_atI {K : PySem.W.Frag} {ds : List D} {vs : List V} {i : Int} {d : D} (p : DpAll K F vs ds) (h : atI ds i = some d) : ∃ v, atI vs i = some v ∧ Dp K F v d := by
  unfold atI at h ⊢
  rw [dps_len p]
  obtain ⟨j, h1, h2⟩ := Option.bind_eq_some_iff.mp h
  obtain ⟨v, h3, h4⟩ := dps_get p h2
  exact ⟨v, by rw [h1]; exact h3, h4⟩
theorem d_ix : IxR X (rG2 X.K ixD) := by
  intro value slice pins s σ H x y v u Q I rx ry h hsub
  obtain ⟨F, d1, d2, e, sF, p1, p2, hg, q⟩ := h
  cases d1 with
  | list xs =>
    cases d2 with
    | int i =>
      cases dp_int p2
      obtain ⟨a, vs, rfl, h1, h2⟩ := lst_inv p1
      obtain ⟨w', h3, h4⟩ := dps_atI h2 hg
      exact ix_list value slice pins s σ H _ _ v u Q I rx ry ⟨a, vs, i, w', rfl, rfl, same_l sF h1, h3, q _ F H (Grw.refl sF) h4⟩ hsub
    | _ => cases hg
  | tuple xs =>
    cases d2 with
    | int i =>
      cases dp_int p2
      obtain ⟨a, vs, rfl, h1, h2⟩ := tup_inv p1
      obtain ⟨w', h3, h4⟩ := dps_atI h2 hg
      exact ix_tup value slice pins s σ H _ _ v u Q I rx ry ⟨a, vs, i, w', rfl, rfl, same_t sF h1, h3, q _ F H (Grw.refl sF) h4⟩ hsub
    | _ => cases hg
  | str z =>
    cases d2 with
    | int i =>
      obtain ⟨_, hz, hg⟩ := Option.bind_eq_some_iff.mp hg
      obtain ⟨hz, _⟩ := grd_eq hz
      obtain ⟨c, hc, rfl⟩ := Option.map_eq_some_iff.mp hg
      cases dp_str p1; cases dp_int p2
      exact ix_str value slice pins s σ H _ _ v u Q I rx ry ⟨z, i, c, rfl, rfl, sz_ok hz, hc, q _ F H (Grw.refl sF) (.str _)⟩ hsub
    | _ => cases hg
  | _ => cases hg
def cutD (xs : List D) (lo hi : Option Int) : List D := (xs.drop (HT.sIx xs.length 0 lo)).take (HT.sIx xs.length xs.length hi - HT.sIx xs.length 0 lo)
theorem dps_cut {K : PySem.W.Frag} {ds : List D} {vs : List V} {lo hi : Option Int} (p : DpAll K F vs ds) : DpAll K F (cutV vs lo hi) (cutD ds lo hi) := by
  unfold cutV cutD
  rw [dps_len p]
  exact dps_take _ (dps_drop _ p)
def slD (d : D) (lo hi : Option Int) : Option D := match d with
  | .list xs => some (.list (cutD xs lo hi))
  | .tuple xs => some (.tuple (cutD xs lo hi))
  | .str z => grd (sz z.length) (.str (cutS z lo hi))
  | _ => none
theorem d_sl : SlR X (rGS X.K slD) := by
  intro pins s σ H x v vl vu lo hi sl Q I rx hs pl pu h
  obtain ⟨F, d, e, sF, p, hg, q⟩ := h
  cases d with
  | list xs =>
    cases hg
    obtain ⟨a, vs, rfl, h1, h2⟩ := lst_inv p
    exact sl_list pins s σ H _ v vl vu lo hi sl Q I rx hs pl pu ⟨a, vs, rfl, same_l sF h1, fun p' hp => q _ _ _ (Grw.new sF hp) (dp_newL (sF.free hp) (dps_cut h2))⟩
  | tuple xs =>
    cases hg
    obtain ⟨a, vs, rfl, h1, h2⟩ := tup_inv p
    refine sl_tupA pins s σ H _ v vl vu lo hi sl Q I rx hs pl pu ⟨a, vs, rfl, same_t sF h1, fun hw => ?_, fun _ p' hp => q _ _ _ (Grw.new sF hp) (dp_newT (sF.free hp) (dps_cut h2))⟩
    have e : cutD xs lo hi = xs := by
      have hl := dps_len h2
      unfold cutD
      rw [← hl, hw.1, hw.2]
      simp [hl]
    rw [e] at q
    exact q _ F H (Grw.refl sF) p
  | str z =>
    obtain ⟨hz, rfl⟩ := grd_eq hg
    cases dp_str p
    exact sl_str pins s σ H _ v vl vu lo hi sl Q I rx hs pl pu ⟨z, rfl, sz_ok hz, q _ F H (Grw.refl sF) (.str _)⟩
  | _ => cases hg

/-! ### built-ins -/
def lenD : List D → Option D
  | [.str z] => grd (sz z.length) (.int z.length)
  | [.list xs] => some (.int xs.length)
  | [.tuple xs] => some (.int xs.length)
  | _ => none
theorem dpsOne {K : PySem.W.Frag} {vs : List V} {d : D} (p : DpAll K F vs [d]) : ∃ v, vs = [v] ∧ Dp K F v d := by
  cases p with | cons h1 h2 => cases h2; exact ⟨_, rfl, h1⟩
theorem dpsTwo {K : PySem.W.Frag} {vs : List V} {d e : D} (p : DpAll K F vs [d, e]) : ∃ v u, vs = [v, u] ∧ Dp K F v d ∧ Dp K F u e := by
  cases p with | cons h1 h2 => obtain ⟨u, rfl, h3⟩ := dpsOne h2; exact ⟨_, u, rfl, h1, h3⟩
theorem d_len : CallR X (.builtin "len") (rGL X.K lenD) := by
  intro pins s σ H xs us Q I r h
  obtain ⟨F, ds, e, sF, p, hg, q⟩ := h
  match ds, hg, p with
  | [.str z], hg, p =>
    obtain ⟨hz, rfl⟩ := grd_eq hg
    obtain ⟨v, rfl, pp⟩ := dpsOne p
    cases dp_str pp
    exact call_len_str pins s σ H _ us Q I r ⟨z, rfl, sz_ok hz, q _ F H (Grw.refl sF) (.int _)⟩
  | [.list xs], hg, p =>
    cases hg
    obtain ⟨v, rfl, pp⟩ := dpsOne p
    obtain ⟨a, vs, rfl, h1, h2⟩ := lst_inv pp
    refine call_len_seq pins s σ H _ us Q I r ⟨a, vs, rfl, .inl (same_l sF h1), ?_⟩
    rw [dps_len h2]
    exact q _ F H (Grw.refl sF) (.int _)
  | [.tuple xs], hg, p =>
    cases hg
    obtain ⟨v, rfl, pp⟩ := dpsOne p
    obtain ⟨a, vs, rfl, h1, h2⟩ := tup_inv pp
    refine call_len_seq pins s σ H _ us Q I r ⟨a, vs, rfl, .inr (same_t sF h1), ?_⟩
    rw [dps_len h2]
    exact q _ F H (Grw.refl sF) (.int _)
def intD : List D → Option D
  | [.int i] => some (.int i)
  | [.bool b] => some (.int (if b then 1 else 0))
  | _ => none
theorem d_int : CallR X (.type "int") (rGL X.K intD) := by
  intro pins s σ H xs us Q I r h
  obtain ⟨F, ds, e, sF, p, hg, q⟩ := h
  match ds, hg, p with
  | [.int z], hg, p =>
    cases hg
    obtain ⟨v, rfl, pp⟩ := dpsOne p
    cases dp_int pp
    exact call_int1 pins s σ H _ us Q I r (.inl ⟨z, rfl, q _ F H (Grw.refl sF) (.int _)⟩)
  | [.bool z], hg, p =>
    cases hg
    obtain ⟨v, rfl, pp⟩ := dpsOne p
    cases dp_bl pp
    exact call_int1 pins s σ H _ us Q I r (.inr ⟨z, rfl, q _ F H (Grw.refl sF) (.int _)⟩)
def absD : List D → Option D
  | [.int i] => some (.int (if i < 0 then -i else i))
  | _ => none
theorem d_abs : CallR X (.builtin "abs") (rGL X.K absD) := by
  intro pins s σ H xs us Q I r h
  obtain ⟨F, ds, e, sF, p, hg, q⟩ := h
  match ds, hg, p with
  | [.int z], hg, p =>
    cases hg
    obtain ⟨v, rfl, pp⟩ := dpsOne p
    cases dp_int pp
    exact call_abs pins s σ H _ us Q I r ⟨z, rfl, q _ F H (Grw.refl sF) (.int _)⟩
def max2D : List D → Option D
  | [.int i, .int j] => some (.int (if j > i then j else i))
  | _ => none
def min2D : List D → Option D
  | [.int i, .int j] => some (.int (if j < i then j else i))
  | _ => none
theorem d_max2 (hc : X.calm = true) : CallR X (.builtin "max") (rGL X.K max2D) := by
  intro pins s σ H xs us Q I r h
  obtain ⟨F, ds, e, sF, p, hg, q⟩ := h
  match ds, hg, p with
  | [.int i, .int j], hg, p =>
    cases hg
    obtain ⟨v, u, rfl, p1, p2⟩ := dpsTwo p
    cases dp_int p1; cases dp_int p2
    exact call_max2 hc pins s σ H _ us Q I r ⟨i, j, rfl, q _ F H (Grw.refl sF) (.int _)⟩
theorem d_min2 (hc : X.calm = true) : CallR X (.builtin "min") (rGL X.K min2D) := by
  intro pins s σ H xs us Q I r h
  obtain ⟨F, ds, e, sF, p, hg, q⟩ := h
  match ds, hg, p with
  | [.int i, .int j], hg, p =>
    cases hg
    obtain ⟨v, u, rfl, p1, p2⟩ := dpsTwo p
    cases dp_int p1; cases dp_int p2
    exact call_min2 hc pins s σ H _ us Q I r ⟨i, j, rfl, q _ F H (Grw.refl sF) (.int _)⟩
def strI (i : Int) : Str := Str.ofString (toString i)
def strD : List D → Option D
  | [.int i] => grd (decide (i.natAbs ≤ 1000000000)) (.str (strI i))
  | _ => none
theorem d_str : CallR X (.type "str") (rGL X.K strD) := by
  intro pins s σ H xs us Q I r h
  obtain ⟨F, ds, e, sF, p, hg, q⟩ := h
  match ds, hg, p with
  | [.int z], hg, p =>
    obtain ⟨hz, rfl⟩ := grd_eq hg
    obtain ⟨v, rfl, pp⟩ := dpsOne p
    cases dp_int pp
    have hz := of_decide_eq_true hz
    refine call_str_int pins s σ H _ us Q I r ⟨z, rfl, ?_, q _ F H (Grw.refl sF) (.str _)⟩
    by_cases h0 : z.natAbs = 0
    · rw [h0]; decide
    · have : z.natAbs.log2 < 30 := (Nat.log2_lt h0).mpr (by omega)
      omega
def listD : List D → Option D
  | [.list xs] => some (.list xs)
  | [.tuple xs] => some (.list xs)
  | _ => none
theorem d_list : CallR X (.type "list") (rGL X.K listD) := by
  intro pins s σ H xs us Q I r h
  obtain ⟨F, ds, e, sF, p, hg, q⟩ := h
  match ds, hg, p with
  | [.list xs], hg, p =>
    cases hg
    obtain ⟨v, rfl, pp⟩ := dpsOne p
    obtain ⟨a, vs, rfl, h1, h2⟩ := lst_inv pp
    exact call_list_of pins s σ H _ us Q I r ⟨a, vs, rfl, .inl (same_l sF h1), fun l hl => q _ _ _ (Grw.new sF hl) (dp_newL (sF.free hl) h2)⟩
  | [.tuple xs], hg, p =>
    cases hg
    obtain ⟨v, rfl, pp⟩ := dpsOne p
    obtain ⟨a, vs, rfl, h1, h2⟩ := tup_inv pp
    exact call_list_of pins s σ H _ us Q I r ⟨a, vs, rfl, .inr (same_t sF h1), fun l hl => q _ _ _ (Grw.new sF hl) (dp_newL (sF.free hl) h2)⟩
def tupleD : List D → Option D
  | [.list xs] => some (.tuple xs)
  | [.tuple xs] => some (.tuple xs)
  | _ => none
theorem d_tuple : CallR X (.type "tuple") (rGL X.K tupleD) := by
  intro pins s σ H xs us Q I r h
  obtain ⟨F, ds, e, sF, p, hg, q⟩ := h
  match ds, hg, p with
  | [.list xs], hg, p =>
    cases hg
    obtain ⟨v, rfl, pp⟩ := dpsOne p
    obtain ⟨a, vs, rfl, h1, h2⟩ := lst_inv pp
    exact call_tuple_of pins s σ H _ us Q I r ⟨a, vs, rfl, .inl ⟨same_l sF h1, fun l hl => q _ _ _ (Grw.new sF hl) (dp_newT (sF.free hl) h2)⟩⟩
  | [.tuple xs], hg, p =>
    cases hg
    obtain ⟨v, rfl, pp⟩ := dpsOne p
    obtain ⟨a, vs, rfl, h1, h2⟩ := tup_inv pp
    exact call_tuple_of pins s σ H _ us Q I r ⟨a, vs, rfl, .inr ⟨same_t sF h1, q _ F H (Grw.refl sF) (.tup h1 h2)⟩⟩
def sumI : List D → Option (List Int)
  | [] => some []
  | .int i :: ds => (sumI ds).map (i :: ·)
  | _ => none
def sumD : List D → Option D
  | [.list xs] => (sumI xs).map fun ns => .int ns.sum
  | _ => none
theorem dps_ints {K : PySem.W.Frag} : ∀ {ds : List D} {vs : List V} {ns : List Int}, DpAll K F vs ds → sumI ds = some ns → vs = ns.map V.int
  | [], _, _, p, h => by cases p; cases h; rfl
  | d :: ds, _, ns, p, h => by
    cases p with
    | cons p1 p2 =>
      cases d <;> try cases h
      obtain ⟨ms, h1, rfl⟩ := Option.map_eq_some_iff.mp h
      rw [dps_ints p2 h1, dp_int p1]; rfl
theorem d_sum (hc : X.calm = true) : CallR X (.builtin "sum") (rGL X.K sumD) := by
  intro pins s σ H xs us Q I r h
  obtain ⟨F, ds, e, sF, p, hg, q⟩ := h
  match ds, hg, p with
  | [.list xs], hg, p =>
    obtain ⟨ns, h0, rfl⟩ := Option.map_eq_some_iff.mp hg
    obtain ⟨v, rfl, pp⟩ := dpsOne p
    obtain ⟨a, vs, rfl, h1, h2⟩ := lst_inv pp
    have e := dps_ints h2 h0
    subst e
    exact cr_sum hc pins s σ H _ us Q I r ⟨a, ns, rfl, same_l sF h1, q _ F H (Grw.refl sF) (.int _)⟩
/-- isinstance(x, T) -/
def isaD (T : String) (d : D) : Bool := match T, d with
  | "int", .int _ => true
  | "int", .bool _ => true
  | "bool", .bool _ => true
  | "str", .str _ => true
  | "tuple", .tuple _ => true
  | "list", .list _ => true
  | _, _ => false
end
end MP

end
section
namespace MP
open PySem PySem.Spec L2

/-! ### isinstance -/
def rIsa (K : PySem.W.Frag) (T : String) (g : D → Bool) : List V → Hp → VK → Prop := fun xs H Q => ∃ F x d, xs = [x, .ty T] ∧ Same F H ∧ Dp K F x d ∧ Q (.bl (g d)) H
section
variable {X : Cx}
theorem isa_bool : CallR X (.builtin "isinstance") (rIsa X.K "bool" PyData.isBool) := by
  intro pins s σ H xs us Q I r h
  obtain ⟨F, x, d, rfl, sF, p, q⟩ := h
  obtain ⟨u1, u2, rfl, r1, r2⟩ := vals2 r
  cases (show u2 = Value.type "bool" from r2)
  obtain ⟨as, rd⟩ := Dp.rd I sF p r1
  exact PySem.W.isinstance_bool_data rd fun tk _ => ⟨.bl _, H, I.tok tk, rfl, q⟩
theorem isa_int : CallR X (.builtin "isinstance") (rIsa X.K "int" PyData.isInt) := by
  intro pins s σ H xs us Q I r h
  obtain ⟨F, x, d, rfl, sF, p, q⟩ := h
  obtain ⟨u1, u2, rfl, r1, r2⟩ := vals2 r
  cases (show u2 = Value.type "int" from r2)
  obtain ⟨as, rd⟩ := Dp.rd I sF p r1
  exact PySem.W.isinstance_int_data rd fun tk _ => ⟨.bl _, H, I.tok tk, rfl, q⟩
theorem isa_str : CallR X (.builtin "isinstance") (rIsa X.K "str" PyData.isStr) := by
  intro pins s σ H xs us Q I r h
  obtain ⟨F, x, d, rfl, sF, p, q⟩ := h
  obtain ⟨u1, u2, rfl, r1, r2⟩ := vals2 r
  cases (show u2 = Value.type "str" from r2)
  obtain ⟨as, rd⟩ := Dp.rd I sF p r1
  exact PySem.W.isinstance_str_data rd fun tk _ => ⟨.bl _, H, I.tok tk, rfl, q⟩
theorem isa_list : CallR X (.builtin "isinstance") (rIsa X.K "list" PyData.isList) := by
  intro pins s σ H xs us Q I r h
  obtain ⟨F, x, d, rfl, sF, p, q⟩ := h
  obtain ⟨u1, u2, rfl, r1, r2⟩ := vals2 r
  cases (show u2 = Value.type "list" from r2)
  obtain ⟨as, rd⟩ := Dp.rd I sF p r1
  exact PySem.W.isinstance_list_data rd fun tk _ => ⟨.bl _, H, I.tok tk, rfl, q⟩
theorem isa_tuple : CallR X (.builtin "isinstance") (rIsa X.K "tuple" PyData.isTuple) := by
  intro pins s σ H xs us Q I r h
  obtain ⟨F, x, d, rfl, sF, p, q⟩ := h
  obtain ⟨u1, u2, rfl, r1, r2⟩ := vals2 r
  cases (show u2 = Value.type "tuple" from r2)
  obtain ⟨as, rd⟩ := Dp.rd I sF p r1
  exact PySem.W.isinstance_tuple_data rd fun tk _ => ⟨.bl _, H, I.tok tk, rfl, q⟩
end
def pI (g : D → Bool) (f : PF) : PF := fun m => (f m).map fun d => .bool (g d)
section
variable {X : Cx} {e o i : Expr} {es : List Expr} {fe fo fi : PF} {fs : PL} {pos p p2 pos2 apos cpos : Pos}
theorem ge_isa {T : String} {Ts : Str} {g : D → Bool} (hc : CallR X (.builtin "isinstance") (rIsa X.K T g)) (hm : X.mg "isinstance" = none) (hmT : X.mg Ts = none) (he : GE X e fe) (hv : bootBuiltins Ts = some (.type T)) (hg : Gl X "isinstance" := by rfl) (hgT : Gl X Ts := by rfl)
    (hn : Ts ≠ "__name__" := by decide) (hd : (Ts == ("__debug__" : Str)) = false := by decide)
    (h1 : starEach [e, .Name Ts p2] X.env = (false, eval e X.env) :: starEach [.Name Ts p2] X.env := by rfl) (h2 : starEach [.Name Ts p2] X.env = (false, eval (.Name Ts p2) X.env) :: starEach [] X.env := by rfl) (h3 : (backTo pos (starEach [.Name Ts p2] X.env)).any (·.1) = false := by rfl) :
    GE X (.Call (.Name "isinstance" p) [e, .Name Ts p2] [] pos) (pI g fe) := by
  refine PE.of (pe_callB hc hg hm (by decide +kernel) (pa_cons he (pa_cons (pe_bltn (v := .ty T) hgT hmT hv rfl hn hd) pa_nil h2) h1) (by decide) (by decide) h1 h3) fun σ H Q h => ?_
  obtain ⟨G, a0, F, m, d, r, e, q⟩ := h
  obtain ⟨x, hx, rfl⟩ := Option.map_eq_some_iff.mp e
  exact ⟨G, a0, F, m, x, r, hx, fun v F1 H1 g1 p1 => ⟨F1, v, x, rfl, g1.sF, p1, q _ F1 H1 g1 (.bl _)⟩⟩

/-! ### methods -/
def tyD (T : String) : D → Bool
  | .str _ => decide (T = "str")
  | .list _ => decide (T = "list")
  | _ => false
theorem tyV_of {K : PySem.W.Frag} {F H : Hp} {T : String} {d : D} {v : V} (sF : Same F H) (p : Dp K F v d) (h : tyD T d = true) : tyV K T v H := by
  cases d with
  | str z => cases dp_str p; exact of_decide_eq_true (p := T = "str") h
  | list xs =>
    obtain ⟨a, vs, rfl, h1, h2⟩ := lst_inv p
    exact .inl ⟨of_decide_eq_true h, vs, same_l sF h1⟩
  | _ => cases h
def pM (T : String) (g : D → List D → Option D) (fo : PF) (fs : PL) : PF := fun m => (fo m).bind fun d => if tyD T d = true then (fs m).bind fun ds => g d ds else none
theorem ge_mt {T id : String} {name : Str} {g : D → List D → Option D} (pa : PlainAttrs T) (slot : Slot T name id) (hty : typeOf (.builtin id) = pure (.type "method_descriptor")) (hm : MtR X id (rGM X.K g)) (ho : GE X o fo) (ha : GA X (e :: es) fs)
    (hbase : attributeBase o name X.env (eval o X.env) = eval o X.env := by rfl)
    (hfew : ((backTo cpos (starEach (e :: es) X.env)).all (fun x => !x.1) && (backToKw cpos (keywordEach [] X.env)).all (fun x => x.1.isSome)
      && decide ((e :: es).length + ([] : List Keyword).length + (if ([] : List Keyword).isEmpty then 0 else 1) < 30)) = true := by rfl)
    (hline : (apos.endLine == cpos.line) = true := by rfl) (hs : starEach (e :: es) X.env = (false, eval e X.env) :: starEach es X.env := by rfl) (hplain : (backTo cpos (starEach es X.env)).any (·.1) = false := by rfl) :
    GE X (.Call (.Attribute o name apos) (e :: es) [] cpos) (pM T g fo fs) := by
  refine PE.of (pe_bm pa slot hty hm ho ha hbase hfew hline hs hplain) fun σ H Q h => ?_
  obtain ⟨G, a0, F, m, d, r, e, q⟩ := h
  obtain ⟨x, hx, e2⟩ := Option.bind_eq_some_iff.mp e
  split at e2
  · rename_i ht
    obtain ⟨ds, hds, e3⟩ := Option.bind_eq_some_iff.mp e2
    refine ⟨G, a0, F, m, x, r, hx, fun v F1 H1 g1 p1 => ⟨tyV_of g1.sF p1 ht, G, a0, F1, m, ds, r.grw g1, hds, fun vs F2 H2 g2 p2 => ?_⟩⟩
    exact ⟨F2, x, ds, d, g2.sF, dp_mono g2.ex _ _ p1, p2, e3, fun v3 F3 H3 g3 p3 => q v3 F3 H3 ((g1.trans g2).trans g3) p3⟩
  · cases e2
def cM (T : String) (g : D → List D → Option D) (fo : PF) (gs : CL) : CP := fun Y m => ∃ d, fo m = some d ∧ tyD T d = true ∧ gs (fun ds m1 => ∃ r, g d ds = some r ∧ Y.ok (.val r) m1) Y.ex m
theorem gr_mt {W : WXs} {gs : CL} {T id : String} {name : Str} {g : D → List D → Option D} (pa : PlainAttrs T) (slot : Slot T name id) (hty : typeOf (.builtin id) = pure (.type "method_descriptor")) (hm : MtR X id (rGM X.K g)) (ho : GE X o fo) (ha : GRA X W (e :: es) gs)
    (hbase : attributeBase o name X.env (eval o X.env) = eval o X.env := by rfl)
    (hfew : ((backTo cpos (starEach (e :: es) X.env)).all (fun x => !x.1) && (backToKw cpos (keywordEach [] X.env)).all (fun x => x.1.isSome)
      && decide ((e :: es).length + ([] : List Keyword).length + (if ([] : List Keyword).isEmpty then 0 else 1) < 30)) = true := by rfl)
    (hline : (apos.endLine == cpos.line) = true := by rfl) (hs : starEach (e :: es) X.env = (false, eval e X.env) :: starEach es X.env := by rfl) (hplain : (backTo cpos (starEach es X.env)).any (·.1) = false := by rfl) :
    GR X W (.Call (.Attribute o name apos) (e :: es) [] cpos) (cM T g fo gs) := by
  refine PE.of (pe_bm pa slot hty hm ho ha hbase hfew hline hs hplain) fun σ H Q h => ?_
  obtain ⟨G, a0, F, m, Y, r, ⟨d, hd, ht, h⟩, q⟩ := h
  refine ⟨G, a0, F, m, d, r, hd, fun v F1 H1 g1 p1 => ⟨tyV_of g1.sF p1 ht, G, a0, F1, m, _, _, r.grw g1, h, fun m' F2 H2 s2 r2 => ⟨fun ds vs p2 o => ?_, (q m' F2 H2 ((g1.stp r.sG).trans s2) r2).2⟩⟩⟩
  obtain ⟨z, hz, k⟩ := o
  refine ⟨F2, d, ds, z, r2.sF, dp_mono s2.ex _ _ p1, p2, hz, fun v3 F3 H3 g3 p3 => ?_⟩
  exact (q m' F3 H3 (((g1.stp r.sG).trans s2).trans (g3.stp r2.sG)) (r2.grw g3)).1 _ _ (ResOk.val p3) k
end
/-- texts -/
def strsD : List D → Option (List Str)
  | [] => some []
  | .str z :: r => (strsD r).map (z :: ·)
  | _ => none
theorem strsD_dp {K : PySem.W.Frag} {F : Hp} : ∀ {ds : List D} {vs : List V} {zs : List Str}, DpAll K F vs ds → strsD ds = some zs → vs = zs.map V.str
  | [], _, _, p, h => by cases p; cases h; rfl
  | d :: ds, _, zs, p, h => by
    cases p with
    | cons p1 p2 =>
      cases d <;> try cases h
      obtain ⟨ms, h1, rfl⟩ := Option.map_eq_some_iff.mp h
      rw [strsD_dp p2 h1, dp_str p1]; rfl
theorem dps_strs {K : PySem.W.Frag} {F : Hp} : ∀ (zs : List Str), DpAll K F (zs.map V.str) (zs.map PyData.str)
  | [] => .nil
  | z :: zs => .cons (.str z) (dps_strs zs)
def joinD : D → List D → Option D
  | .str a, [.list ys] => (strsD ys).bind fun zs => grd (decide ((zs.map (·.length)).sum + zs.length * a.length ≤ 16777216)) (.str (Txt.join a zs))
  | .str a, [.tuple ys] => (strsD ys).bind fun zs => grd (decide ((zs.map (·.length)).sum + zs.length * a.length ≤ 16777216)) (.str (Txt.join a zs))
  | _, _ => none
def splitD : D → List D → Option D
  | .str a, [.str b] => grd ((b.length != 0) && decide (a.length + 2 ≤ 16777216)) (.list ((Txt.split a b).map PyData.str))
  | _, _ => none
def countS : D → List D → Option D
  | .str a, [.str b] => some (.int (Txt.count a b))
  | _, _ => none
def indexS : D → List D → Option D
  | .str a, [.str b] => match Builtin.Str.occurrences a b 0 a.length 1 with
    | i :: _ => some (.int (i : Nat))
    | [] => none
  | _, _ => none
section
variable {X : Cx}
theorem mt_joinD : MtR X "str.join" (rGM X.K joinD) := by
  intro pins s σ H x xs v us Q I rx rxs h
  obtain ⟨F, d, ds, e, sF, p, ps, hg, q⟩ := h
  match d, ds, hg, p, ps with
  | .str a, [.list ys], hg, p, ps =>
    obtain ⟨zs, hz, hg⟩ := Option.bind_eq_some_iff.mp hg
    obtain ⟨hs, rfl⟩ := grd_eq hg
    obtain ⟨y, rfl, py⟩ := dpsOne ps
    cases dp_str p
    obtain ⟨l, vs, rfl, h1, h2⟩ := lst_inv py
    cases strsD_dp h2 hz
    exact mt_join pins s σ H _ _ v us Q I rx rxs ⟨a, l, zs, rfl, rfl, .inl (same_l sF h1), of_decide_eq_true hs, q _ F H (Grw.refl sF) (.str _)⟩
  | .str a, [.tuple ys], hg, p, ps =>
    obtain ⟨zs, hz, hg⟩ := Option.bind_eq_some_iff.mp hg
    obtain ⟨hs, rfl⟩ := grd_eq hg
    obtain ⟨y, rfl, py⟩ := dpsOne ps
    cases dp_str p
    obtain ⟨l, vs, rfl, h1, h2⟩ := tup_inv py
    cases strsD_dp h2 hz
    exact mt_join pins s σ H _ _ v us Q I rx rxs ⟨a, l, zs, rfl, rfl, .inr (same_t sF h1), of_decide_eq_true hs, q _ F H (Grw.refl sF) (.str _)⟩
theorem mt_splitD : MtR X "str.split" (rGM X.K splitD) := by
  intro pins s σ H x xs v us Q I rx rxs h
  obtain ⟨F, d, ds, e, sF, p, ps, hg, q⟩ := h
  match d, ds, hg, p, ps with
  | .str a, [.str b], hg, p, ps =>
    obtain ⟨hs, rfl⟩ := grd_eq hg
    rw [Bool.and_eq_true] at hs
    obtain ⟨y, rfl, py⟩ := dpsOne ps
    cases dp_str p
    cases dp_str py
    have h0 : (b.length == 0) = false := by have := hs.1; simp at this ⊢; exact this
    refine mt_split pins s σ H _ _ v us Q I rx rxs ⟨a, b, rfl, rfl, h0, by rw [sizeLine_eq]; exact of_decide_eq_true hs.2, fun l hl => ?_⟩
    exact q _ _ _ (Grw.new sF hl) (dp_newL (sF.free hl) (dps_strs _))
theorem mt_countS : MtR X "str.count" (rGM X.K countS) := by
  intro pins s σ H x xs v us Q I rx rxs h
  obtain ⟨F, d, ds, e, sF, p, ps, hg, q⟩ := h
  match d, ds, hg, p, ps with
  | .str a, [.str b], hg, p, ps =>
    cases hg
    obtain ⟨y, rfl, py⟩ := dpsOne ps
    cases dp_str p
    cases dp_str py
    exact mt_count pins s σ H _ _ v us Q I rx rxs ⟨a, b, rfl, rfl, q _ F H (Grw.refl sF) (.int _)⟩
theorem mt_indexS : MtR X "str.index" (rGM X.K indexS) := by
  intro pins s σ H x xs v us Q I rx rxs h
  obtain ⟨F, d, ds, e, sF, p, ps, hg, q⟩ := h
  match d, ds, hg, p, ps with
  | .str a, [.str b], hg, p, ps =>
    obtain ⟨y, rfl, py⟩ := dpsOne ps
    cases dp_str p
    cases dp_str py
    unfold indexS at hg
    simp only at hg
    split at hg
    · rename_i i rest ho
      cases hg
      exact mt_sindex pins s σ H _ _ v us Q I rx rxs ⟨a, b, i, rest, rfl, rfl, ho, q _ F H (Grw.refl sF) (.int _)⟩
    · cases hg
end
end MP

end
section
set_option maxHeartbeats 4000000
namespace MP
open PySem PySem.Spec PyProof.Rows L2
/-- an empty set, as set(..) begins -/
abbrev emptySet (w : World) : Obj := { cls := .type "set", dict := none, data := .set #[] 0 (.fresh 0 0 (!w.params.followText "set-order")) }
/-- the set of the tuples ks of ints stands at a -/
structure Filled (P : Program) (w : World) (h0 h' : Heap) (a : Addr) (ks : List (Addr × List Int)) : Prop where
  made : ∃ L es ep t, SetTR P w h' a L es ep t ∧ Got ks ks.length L
  kept : ∀ b o, h0.get? b = some o → h'.get? b = some o
section
variable {P : Program} {w : World} {A : Around} {E : Value → Shared → Prop} {s : Shared} {l : Addr} {items : Array Value} {ks : List (Addr × List Int)}
theorem none_past {h : Heap} {b : Addr} (hb : h.objs.size ≤ b) : h.get? b = none := by
  cases e : h.get? b with
  | none => rfl
  | some o => exact absurd (Heap.lt_size e) (Nat.not_lt.mpr hb)
/-- the tuple walked into the new set -/
theorem fill_run (hA : A.in1.handled = none) (hu : A.in1.units < cLine) (hl : s.heap.IsTuple l items) (hit : items.toList = ks.map fun p => Value.ref p.1) (hk : ∀ p ∈ ks, IsT P w s.heap p.2 p.1) (hfew : ks.length < 64)
    {R : Result → Shared → Prop} (h : ∀ h' tk, Filled P w s.heap h' s.heap.objs.size ks → R (.ok (.ret .none)) { s with heap := h', toks := tk }) :
    codeAny (model P w) A (.builtin "set.update.loop" ⟨[.ref s.heap.objs.size, .ref (s.heap.push (emptySet w)).objs.size], []⟩) R
      { s with heap := (s.heap.push (emptySet w)).push { cls := .type "tuple_iterator", data := .fields #[.ref l, .int 0 0] } } := by
  have n1 : (s.heap.push (emptySet w)).objs.size = s.heap.objs.size + 1 := Heap.size_push ..
  have ll : l < s.heap.objs.size := by obtain ⟨o, e, _⟩ := hl; exact Heap.lt_size e
  have hs : items.size = ks.length := by simpa using congrArg List.length hit
  have lne : l ≠ (s.heap.push (emptySet w)).objs.size := by rw [n1]; exact Nat.ne_of_lt (Nat.lt_succ_of_lt ll)
  have sne : s.heap.objs.size ∉ [(s.heap.push (emptySet w)).objs.size, l] := by
    rw [n1]
    simp only [List.mem_cons, List.not_mem_nil, or_false, not_or]
    exact ⟨Nat.ne_of_lt (Nat.lt_succ_self _), Nat.ne_of_gt ll⟩
  have val : ∀ (i : Nat) (v : Value), items[i]? = some v → ∃ p, ks[i]? = some p ∧ v = .ref p.1 := by
    intro i v hv
    rw [← Array.getElem?_toList, hit, List.getElem?_map, Option.map_eq_some_iff] at hv
    obtain ⟨p, e, rfl⟩ := hv
    exact ⟨p, e, rfl⟩
  have old : ∀ b o, s.heap.get? b = some o → ((s.heap.push (emptySet w)).push { cls := .type "tuple_iterator", data := .fields #[.ref l, .int 0 0] }).get? b = some o := fun b o e => Heap.get?_push_of_some _ (Heap.get?_push_of_some _ e)
  have walk := Walks.tuple (prog := P) (w := w) hA (s.heap.push (emptySet w)).objs.size l lne items
  apply set_update_tups walk.toS s.heap.objs.size sne ks hs hfew val s.heap hk (none_past (Nat.le_refl _)) ?wr hu (items.size - 0) 0 _ rfl (Nat.zero_le _) ⟨⟨_, Heap.get?_push_size _ rfl, rfl, rfl⟩, (hl.push _).push _⟩ old ?st ?fin
  case wr =>
    intro b hb
    rw [List.mem_singleton] at hb
    exact none_past (by rw [hb, n1]; exact Nat.le_succ _)
  case st => exact ⟨[], #[], 0, _, setTR_fresh (Heap.get?_push_of_some _ (Heap.get?_push_size _ rfl)), Got.zero ks⟩
  case fin =>
    rintro ⟨h', g', d', k', o'⟩ L es ep t mv st got kp
    obtain rfl : g' = s.gens := mv.gens
    obtain rfl : d' = s.drawn := mv.drawn
    obtain rfl : o' = s.os := mv.os
    rw [hs] at got
    exact h h' k' ⟨⟨L, es, ep, t, st, got⟩, kp⟩
/-- set(xs), xs a tuple -/
theorem call_set_tupsT (ks : List (Addr × List Int)) {Q : Value → Shared → Prop} (hh : A.handled = none) (hl : s.heap.IsTuple l items) (hit : items.toList = ks.map fun p => Value.ref p.1) (hk : ∀ p ∈ ks, IsT P w s.heap p.2 p.1) (hfew : ks.length < 64) (hu : A.units + 3 < cLine)
    (h : ∀ (h' : Heap) (tk : Nat) L es ep t, SetTR P w h' s.heap.objs.size L es ep t → Got ks ks.length L → (∀ b o, s.heap.get? b = some o → h'.get? b = some o) → Q (.ref s.heap.objs.size) { s with heap := h', toks := tk }) : wpAny (model P w) A (call (.type "set") [.ref l]) Q E s := by
  have FS := F.called_set
  obtain ⟨_, _, mro⟩ := FS.mro
  have f1 := FS.made
  have f2 := FS.sub
  have f3 := FS.notType
  have f4 := FS.canCreate
  have f5 := F.typeCall_set_1 (.ref l)
  apply wpAny_call
  apply codeAny_of_tree
  show wpAny _ _ (callAny (.type "set") _) _ _ _
  apply wpAny_pure
  refine ⟨Code.quiet_builtin _ (by decide +kernel), ?_⟩
  apply codeAny_builtin F.entry_type_call
  rw [Around.under_plain (weight_type_call_type "set" [.ref l] []) rfl]
  repeat (any_goals (first | assumption | wp_step))
  -- the empty set
  apply codeAny_mono (code_set_led1 (E := E) (.ref l) (Q₁ := fun v z => v = .ref s.heap.objs.size ∧ z = { s with heap := s.heap.push (emptySet w) }) ⟨rfl, rfl⟩)
  rintro (e | fl) z hz
  · exact hz
  cases fl with
  | ret v =>
    obtain ⟨rfl, rfl⟩ := hz
    have hS : (s.heap.push (emptySet w)).get? s.heap.objs.size = some (emptySet w) := Heap.get?_push_size _ rfl
    have ty : Shared.TypeIs { s with heap := s.heap.push (emptySet w) } (.ref s.heap.objs.size) "set" := ⟨_, hS, rfl⟩
    have i1 := FS.init.lookup
    have i2 := FS.init.bind (.ref s.heap.objs.size)
    repeat (any_goals (first | assumption | wp_step))
    -- its filling
    apply codeAny_mono (codeAny_call_builtin (R := wants (fun v z => v = .none ∧ ∃ h' tk, z = { s with heap := h', toks := tk } ∧ Filled P w s.heap h' s.heap.objs.size ks) E) FS.init.plain F.entry_set_init (check_set_init_1 ty ?_))
    · rintro (e | fl) z hz
      · exact hz
      cases fl with
      | ret v =>
        obtain ⟨rfl, h', tk, rfl, ⟨L, es, ep, t, st, got⟩, kp⟩ := hz
        repeat (any_goals (first | assumption | wp_step))
        exact h _ _ _ _ _ _ st got kp
      | _ => exact hz.elim
    · have hl0 := hl
      obtain ⟨⟨c, dd, dt, sl⟩, ho, hc, n, hd⟩ := hl
      simp only at hc hd
      subst hc hd
      have ho' : (s.heap.push (emptySet w)).get? l = some { cls := .type "tuple", dict := dd, data := .seq items n, slots := sl } := Heap.get?_push_of_some _ ho
      have n1 := F.sub_tuple_set
      have n2 := F.sub_tuple_frozenset
      have n3 : (Value.type "tuple" == Value.type "dict") = false := by decide
      unfold Builtin.«set.__init__» noKeywords Builtin.Frozenset.updateFrom
      generalize it : pyIter = PI
      wp_walk
      subst it
      apply wpAny_pyIter_tuple (items := items) ⟨_, ho', rfl, n, rfl⟩
      apply wpAny_bind
      apply wpAny_runValue
      refine fill_run (by simp [hh]) hu hl0 hit hk hfew fun h' tk fl => ?_
      show wpAny _ _ _ _ _ _
      apply wpAny_pure
      show wpAny _ _ (ret Value.none) _ _ _
      exact wpAny_pure ⟨rfl, h', tk, rfl, fl⟩
  | _ => exact hz.elim
end
end MP

end
section
namespace MP
open PySem PySem.Spec L2

/-! ### sorted(set(of triples)) -/
theorem cr_setOfTT {X : Cx} (hc : X.calm = true) (hu : X.A.units + 64 < cLine) : CallR X (.type "set") (fun xs H Q => ∃ (l : Addr) (ks : List (Addr × List Int)), xs = [V.ref l] ∧ SqT X.K H l (ks.map fun p => V.ref p.1) ∧ (∀ p ∈ ks, SqT X.K H p.1 (p.2.map V.int)) ∧ ks.length < 64 ∧
  ∀ a L, H a = none → (∀ p ∈ L, p ∈ ks) → (∀ p ∈ ks, p.2 ∈ L.map (·.2)) → Q (.ref a) (upd H a (SetTO X.prog X.w a L))) := by
  intro pins s σ H xs us Q I r h
  obtain ⟨l, ks, rfl, hl, hk, hf, q⟩ := h
  rw [Vals.ref1 r]
  obtain ⟨its, rv, pl, hz⟩ := I.tuple hl
  have hn : H s.heap.objs.size = none := I.hok.fresh (Nat.le_refl _)
  refine call_set_tupsT (P := X.prog) (w := X.w) ks (I.ok.hd hc) pl (by simpa using refs_of_vals rv) (fun p hp => I.isT (hk p hp)) hf (by omega) fun h' tk L es ep t R g k => ?_
  refine ⟨.ref s.heap.objs.size, upd H s.heap.objs.size (SetTO X.prog X.w s.heap.objs.size L), I.laid (t' := tk) k (Nat.le_refl _) (setTO_new R.t0), rfl, q _ L hn (fun p hp => ?_) fun p hp => ?_⟩
  · exact List.mem_of_mem_take (g.sub p hp)
  · exact g.all p (by rw [List.take_length]; exact hp)
def cd (k : List Int) : Int := TS.code 64 k
def sm (i : Int) : Bool := decide (0 ≤ i ∧ i < 64)
def tripI : D → Option (List Int)
  | .tuple [.int a, .int b, .int c] => grd (sm a && sm b && sm c) [a, b, c]
  | _ => none
def trips : List D → Option (List (List Int))
  | [] => some []
  | d :: ds => (tripI d).bind fun k => (trips ds).map (k :: ·)
def tripD (k : List Int) : D := .tuple (k.map PyData.int)
def insU (x : List Int) : List (List Int) → List (List Int)
  | [] => [x]
  | y :: ys => if cd x < cd y then x :: y :: ys else if cd x = cd y then y :: ys else y :: insU x ys
def sortU (ks : List (List Int)) : List (List Int) := ks.foldr insU []
/-- a triple -/
def Tr (k : List Int) : Prop := ∃ a b c : Int, k = [a, b, c] ∧ (0 ≤ a ∧ a < 64) ∧ (0 ≤ b ∧ b < 64) ∧ (0 ≤ c ∧ c < 64)
theorem cd3 (a b c : Int) : cd [a, b, c] = a * 4096 + b * 64 + c := by
  show a * 64 ^ 2 + (b * 64 ^ 1 + (c * 64 ^ 0 + 0)) = _
  have e2 : (64 : Int) ^ 2 = 4096 := by decide
  have e1 : (64 : Int) ^ 1 = 64 := by decide
  have e0 : (64 : Int) ^ 0 = 1 := by decide
  rw [e2, e1, e0]; omega
theorem Tr.inj {x y : List Int} (hx : Tr x) (hy : Tr y) (e : cd x = cd y) : x = y := by
  obtain ⟨a, b, c, rfl, h1, h2, h3⟩ := hx
  obtain ⟨a', b', c', rfl, k1, k2, k3⟩ := hy
  rw [cd3, cd3] at e
  have : a = a' := by omega
  have : b = b' := by omega
  have : c = c' := by omega
  subst_vars; rfl
theorem tripI_eq {d : D} {k : List Int} (h : tripI d = some k) : d = tripD k ∧ Tr k := by
  unfold tripI at h
  split at h
  · rename_i a b c
    obtain ⟨hg, rfl⟩ := grd_eq h
    rw [Bool.and_eq_true, Bool.and_eq_true] at hg
    exact ⟨rfl, a, b, c, rfl, of_decide_eq_true hg.1.1, of_decide_eq_true hg.1.2, of_decide_eq_true hg.2⟩
  · cases h
theorem insU_mem {x z : List Int} (hx : Tr x) : ∀ {l : List (List Int)}, (∀ y ∈ l, Tr y) → (z ∈ insU x l ↔ z = x ∨ z ∈ l)
  | [], _ => by simp [insU]
  | y :: ys, hl => by
    unfold insU
    split
    · simp
    · split
      · rename_i e
        have : x = y := Tr.inj hx (hl y (by simp)) e
        subst this
        simp
      · rw [List.mem_cons, insU_mem hx fun y hy => hl y (by simp [hy])]
        simp only [List.mem_cons]
        constructor
        · rintro (h | h | h) <;> simp [h]
        · rintro (h | h | h) <;> simp [h]
theorem insU_sorted {x : List Int} (hx : Tr x) : ∀ {l : List (List Int)}, (∀ y ∈ l, Tr y) → l.Pairwise (fun a b => cd a < cd b) → (insU x l).Pairwise (fun a b => cd a < cd b)
  | [], _, _ => by simp [insU]
  | y :: ys, hl, h => by
    rw [List.pairwise_cons] at h
    unfold insU
    split
    · rename_i lt
      rw [List.pairwise_cons]
      refine ⟨fun z hz => ?_, List.pairwise_cons.mpr h⟩
      rcases List.mem_cons.mp hz with rfl | hz
      · exact lt
      · have := h.1 z hz; omega
    · split
      · exact List.pairwise_cons.mpr h
      · rename_i h1 h2
        rw [List.pairwise_cons]
        refine ⟨fun z hz => ?_, insU_sorted hx (fun y hy => hl y (by simp [hy])) h.2⟩
        rcases (insU_mem hx fun y hy => hl y (by simp [hy])).mp hz with rfl | hz
        · omega
        · exact h.1 z hz
theorem sortU_mem : ∀ {l : List (List Int)}, (∀ y ∈ l, Tr y) → ∀ z, z ∈ sortU l ↔ z ∈ l
  | [], _, z => by simp [sortU]
  | x :: l, hl, z => by
    have hl' : ∀ y ∈ l, Tr y := fun y hy => hl y (by simp [hy])
    show z ∈ insU x (sortU l) ↔ _
    rw [insU_mem (hl x (by simp)) fun y hy => hl' y ((sortU_mem hl' y).mp hy), sortU_mem hl' z, List.mem_cons]
theorem sortU_sorted : ∀ {l : List (List Int)}, (∀ y ∈ l, Tr y) → (sortU l).Pairwise (fun a b => cd a < cd b)
  | [], _ => by simp [sortU]
  | x :: l, hl => by
    have hl' : ∀ y ∈ l, Tr y := fun y hy => hl y (by simp [hy])
    exact insU_sorted (hl x (by simp)) (fun y hy => hl' y ((sortU_mem hl' y).mp hy)) (sortU_sorted hl')
theorem sorted_uniq : ∀ {l m : List (List Int)}, l.Pairwise (fun a b => cd a < cd b) → m.Pairwise (fun a b => cd a < cd b) → (∀ z, z ∈ l ↔ z ∈ m) → l = m
  | [], [], _, _, _ => rfl
  | [], y :: ys, _, _, h => by have := (h y).mpr (by simp); simp at this
  | x :: xs, [], _, _, h => by have := (h x).mp (by simp); simp at this
  | x :: xs, y :: ys, h1, h2, h => by
    rw [List.pairwise_cons] at h1 h2
    have e : x = y := by
      rcases List.mem_cons.mp ((h x).mp (by simp)) with e | k1
      · exact e
      · rcases List.mem_cons.mp ((h y).mpr (by simp)) with e | k2
        · exact e.symm
        · have := h1.1 y k2; have := h2.1 x k1; omega
    subst e
    congr 1
    refine sorted_uniq h1.2 h2.2 fun z => ⟨fun hz => ?_, fun hz => ?_⟩
    · rcases List.mem_cons.mp ((h z).mp (by simp [hz])) with e | k
      · subst e; have := h1.1 z hz; omega
      · exact k
    · rcases List.mem_cons.mp ((h z).mpr (by simp [hz])) with e | k
      · subst e; have := h2.1 z hz; omega
      · exact k
/-- what strictly rises stands so -/
theorem sortU_id {l : List (List Int)} (hl : ∀ y ∈ l, Tr y) (h : l.Pairwise (fun a b => cd a < cd b)) : sortU l = l := sorted_uniq (sortU_sorted hl) h (sortU_mem hl)
def sortSetD : D → Option D
  | .list ds => (trips ds).bind fun ks => grd (decide (ks.length < 64)) (.list ((sortU ks).map tripD))
  | .tuple ds => (trips ds).bind fun ks => grd (decide (ks.length < 64)) (.list ((sortU ks).map tripD))
  | _ => none
theorem trips_dp {K : PySem.W.Frag} {F : Hp} : ∀ {ds : List D} {vs : List V} {ks : List (List Int)}, DpAll K F vs ds → trips ds = some ks → (∀ k ∈ ks, Tr k) ∧ ∃ ps : List (Addr × List Int), vs = ps.map (fun p => V.ref p.1) ∧ ps.map (·.2) = ks ∧ ∀ p ∈ ps, SqT K F p.1 (p.2.map V.int)
  | [], _, ks, p, h => by cases p; cases h; exact ⟨by simp, [], rfl, rfl, by simp⟩
  | d :: ds, _, ks, p, h => by
    cases p with
    | cons p1 p2 =>
      obtain ⟨k, h1, h2⟩ := Option.bind_eq_some_iff.mp h
      obtain ⟨ms, h3, rfl⟩ := Option.map_eq_some_iff.mp h2
      obtain ⟨ht, ps, e1, e2, h4⟩ := trips_dp p2 h3
      obtain ⟨rfl, t⟩ := tripI_eq h1
      obtain ⟨a, ws, rfl, h5, h6⟩ := tup_inv p1
      have ew : ws = k.map V.int := by
        obtain ⟨x, y, z, rfl, _⟩ := t
        exact dps3 h6
      subst ew
      refine ⟨fun k' hk => ?_, (a, k) :: ps, by rw [e1]; rfl, by simp [e2], fun p hp => ?_⟩
      · rcases List.mem_cons.mp hk with rfl | hk
        · exact t
        · exact ht k' hk
      · rcases List.mem_cons.mp hp with rfl | hp
        · exact h5
        · exact h4 p hp
theorem dps_tripD {K : PySem.W.Frag} {F : Hp} : ∀ {ps : List (Addr × List Int)}, (∀ p ∈ ps, SqT K F p.1 (p.2.map V.int)) → DpAll K F (ps.map fun p => V.ref p.1) ((ps.map (·.2)).map tripD)
  | [], _ => .nil
  | p :: ps, h => by
    refine .cons (.tup (h p (by simp)) ?_) (dps_tripD fun q hq => h q (by simp [hq]))
    have : ∀ l : List Int, DpAll K F (l.map V.int) (l.map PyData.int) := fun l => by
      induction l with
      | nil => exact .nil
      | cons i l ih => exact .cons (.int i) ih
    exact this p.2
section
variable {X : Cx} {e : Expr} {fe : PF} {pos p p2 pos2 : Pos}
def tSetOf (X : Cx) (fe : PF) : TE := fun σ H Q => (tCB (rSetOfT X.K X.prog X.w) (tCons (tP X.prog X.w X.K fe) tNil)) σ H Q ∨ (tCB (fun xs H Q => ∃ (l : Addr) (ks : List (Addr × List Int)), xs = [V.ref l] ∧ SqT X.K H l (ks.map fun p => V.ref p.1) ∧ (∀ p ∈ ks, SqT X.K H p.1 (p.2.map V.int)) ∧ ks.length < 64 ∧
      ∀ a L, H a = none → (∀ p ∈ L, p ∈ ks) → (∀ p ∈ ks, p.2 ∈ L.map (·.2)) → Q (.ref a) (upd H a (SetTO X.prog X.w a L))) (tCons (tP X.prog X.w X.K fe) tNil)) σ H Q
def pSS (f : PF) : PF := fun m => (f m).bind sortSetD
theorem ge_sortset (hc : X.calm = true) (hu : X.A.units + 64 < cLine) (hm : X.mg "sorted" = none) (hmT : X.mg "set" = none) (he : GE X e fe) (hg : Gl X "sorted" := by rfl) (hgT : Gl X "set" := by rfl)
    (h1 : starEach [e] X.env = (false, eval e X.env) :: starEach [] X.env := by rfl) (h3 : (backTo pos2 (starEach [] X.env)).any (·.1) = false := by rfl) (h4 : starEach [.Call (.Name "set" p2) [e] [] pos2] X.env = (false, eval (.Call (.Name "set" p2) [e] [] pos2) X.env) :: starEach [] X.env := by rfl) (h5 : (backTo pos (starEach [] X.env)).any (·.1) = false := by rfl) :
    GE X (.Call (.Name "sorted" p) [.Call (.Name "set" p2) [e] [] pos2] [] pos) (pSS fe) := by
  have hset : PE X (.Call (.Name "set" p2) [e] [] pos2) (tSetOf X fe) := by
    refine ⟨fun pins s σ H Q I h => ?_⟩
    rcases h with h | h
    · exact (pe_callTy (cr_setOfT hc hu) hgT hmT (by decide +kernel) (pa_cons he pa_nil h1) (by decide) (by decide) h1 h3).run pins s σ H Q I h
    · exact (pe_callTy (cr_setOfTT hc hu) hgT hmT (by decide +kernel) (pa_cons he pa_nil h1) (by decide) (by decide) h1 h3).run pins s σ H Q I h
  refine PE.of (pe_callB (cr_sortedT hc) hg hm (by decide +kernel) (pa_cons hset pa_nil h4) (by decide) (by decide) h4 h5) fun σ H Q h => ?_
  obtain ⟨G, a0, F, m, d, r, e, q⟩ := h
  obtain ⟨x, hx, e2⟩ := Option.bind_eq_some_iff.mp e
  -- what is behind set(..)
  have fin : ∀ (F1 H1 : Hp) (g1 : Grw F H F1 H1) (ps : List (Addr × List Int)) (ks : List (List Int)), ps.map (·.2) = ks → (∀ k ∈ ks, Tr k) → (∀ p ∈ ps, SqT X.K F1 p.1 (p.2.map V.int)) → d = .list ((sortU ks).map tripD) →
      ∀ a L, H1 a = none → (∀ p ∈ L, p ∈ ps) → (∀ p ∈ ps, p.2 ∈ L.map (·.2)) → rSortedT X.K X.prog X.w [V.ref a] (upd H1 a (SetTO X.prog X.w a L)) Q := by
    intro F1 H1 g1 ps ks ek ht hs ed a L ha hL hall
    have gn : Grw F1 H1 F1 (upd H1 a (SetTO X.prog X.w a L)) := Grw.fresh g1.sF ha
    have hT : ∀ p ∈ L, Tr p.2 := fun p hp => ht _ (by rw [← ek]; exact List.mem_map.mpr ⟨p, hL p hp, rfl⟩)
    refine ⟨a, L, 3, 64, rfl, upd_same, fun p hp => same_t gn.sF (hs p (hL p hp)), by omega, fun p hp => ?_, fun L' b pm nd _ pw hb => ?_⟩
    · obtain ⟨x, y, z, e, b1, b2, b3⟩ := hT p hp
      rw [e]
      refine ⟨rfl, fun m hm => ?_⟩
      simp only [List.mem_cons, List.not_mem_nil, or_false] at hm
      rcases hm with rfl | rfl | rfl
      · exact b1
      · exact b2
      · exact b3
    · have hT' : ∀ p ∈ L', Tr p.2 := fun p hp => hT p (pm.mem_iff.mp hp)
      have hs' : ∀ p ∈ L', SqT X.K F1 p.1 (p.2.map V.int) := fun p hp => hs p (hL p (pm.mem_iff.mp hp))
      have eq : L'.map (·.2) = sortU ks := by
        refine sorted_uniq ?_ (sortU_sorted ht) fun z => ?_
        · have h1 : (L'.map (·.2)).Pairwise (fun a b => cd a ≤ cd b) := by
            rw [List.pairwise_map]; exact pw
          have h2 : ∀ k ∈ L'.map (·.2), Tr k := fun k hk => by
            obtain ⟨p, hp, rfl⟩ := List.mem_map.mp hk
            exact hT' p hp
          have h3 := List.Pairwise.and h1 nd
          refine (List.Pairwise.and_mem.mp h3).imp fun {a b} h => ?_
          obtain ⟨ma, mb, le, ne⟩ := h
          rcases Int.lt_or_eq_of_le le with l | e
          · exact l
          · exact absurd (Tr.inj (h2 a ma) (h2 b mb) e) ne
        · rw [sortU_mem ht z, ← ek]
          constructor
          · intro hz
            obtain ⟨p, hp, rfl⟩ := List.mem_map.mp hz
            exact List.mem_map.mpr ⟨p, hL p (pm.mem_iff.mp hp), rfl⟩
          · intro hz
            obtain ⟨p, hp, rfl⟩ := List.mem_map.mp hz
            obtain ⟨p', hp', e'⟩ := List.mem_map.mp (hall p hp)
            exact List.mem_map.mpr ⟨p', pm.mem_iff.mpr hp', e'⟩
      have g3 : Grw F1 (upd H1 a (SetTO X.prog X.w a L)) (upd F1 b (.lst (L'.map fun q => V.ref q.1))) (upd (upd H1 a (SetTO X.prog X.w a L)) b (.lst (L'.map fun q => V.ref q.1))) := Grw.new gn.sF hb
      refine q _ _ _ ((g1.trans gn).trans g3) ?_
      rw [ed, ← eq]
      exact dp_newL (gn.sF.free hb) (dps_tripD hs')
  have run : ∀ (ds : List D), (x = .list ds ∨ x = .tuple ds) → ((trips ds).bind fun ks => grd (decide (ks.length < 64)) (.list ((sortU ks).map tripD))) = some d → tCB (rSortedT X.K X.prog X.w) (tCons (tSetOf X fe) tNil) σ H Q := fun ds hxs e3 => by
    obtain ⟨ks, hk, e4⟩ := Option.bind_eq_some_iff.mp e3
    obtain ⟨hf, ed⟩ := grd_eq e4
    have hf := of_decide_eq_true hf
    rcases hxs with rfl | rfl
    · refine .inl ⟨G, a0, F, m, _, r, hx, fun v F1 H1 g1 p1 => ?_⟩
      obtain ⟨l, vs, rfl, h1, h2⟩ := lst_inv p1
      obtain ⟨ht, ps, rfl, ek, hs⟩ := trips_dp h2 hk
      refine ⟨l, ps, rfl, same_l g1.sF h1, fun p hp => same_t g1.sF (hs p hp), by rw [← ek, List.length_map] at hf; exact hf, fun a L ha hL hall => ?_⟩
      exact fin F1 H1 g1 ps ks ek ht hs ed.symm a L ha hL hall
    · refine .inr ⟨G, a0, F, m, _, r, hx, fun v F1 H1 g1 p1 => ?_⟩
      obtain ⟨l, vs, rfl, h1, h2⟩ := tup_inv p1
      obtain ⟨ht, ps, rfl, ek, hs⟩ := trips_dp h2 hk
      refine ⟨l, ps, rfl, same_t g1.sF h1, fun p hp => same_t g1.sF (hs p hp), by rw [← ek, List.length_map] at hf; exact hf, fun a L ha hL hall => ?_⟩
      exact fin F1 H1 g1 ps ks ek ht hs ed.symm a L ha hL hall
  cases x with
  | list ds => exact run ds (.inl rfl) e2
  | tuple ds => exact run ds (.inr rfl) e2
  | _ => cases e2
end
end MP

end
section
namespace MP
open PySem PySem.Spec L2

/-! ### a display of two texts, looked into -/
def scV : D → V
  | .bool b => .bl b
  | .int i => .int i
  | .str x => .str x
  | _ => .non
theorem scV_dp {K : PySem.W.Frag} {F : Hp} {d : D} (h : scal d = true) : Dp K F (scV d) d := by
  cases d with
  | none => exact .non
  | bool b => exact .bl b
  | int i => exact .int i
  | str x => exact .str x
  | _ => cases h
def dd2 (a b : Str) (x y : D) : D → Option D
  | .str z => if z = a then some x else if z = b then some y else none
  | _ => none
def isStrD : D → Bool
  | .str _ => true
  | _ => false
section
variable {X : Cx} {c1 c2 i f : Expr} {x y : D} {a b : Str} {fi ff : PF} {j1 j2 : Nat} {p1 p2 pos pos2 apos : Pos}
theorem disp2 {H2 : Hp} {p : Addr} {v1 v2 : V} (hab : a ≠ b) (z : Str) (h : H2 p = some (.dK (mergeK [] [(.inr a, v1), (.inr b, v2)]))) : DGet H2 p (.str z) (if z = a then some v1 else if z = b then some v2 else none) := by
  refine .inl ⟨_, .inr z, .inl h, rfl, ?_⟩
  have e : mergeK [] [((.inr a : Key), v1), ((.inr b : Key), v2)] = [(.inr a, v1), (.inr b, v2)] := by
    simp [mergeK, putK, hab]
  rw [e]
  by_cases h1 : z = a
  · subst h1; simp [valV]
  · by_cases h2 : z = b
    · subst h2; simp [valV, h1, Ne.symm h1]
    · simp [valV, h1, h2, Ne.symm h1, Ne.symm h2]
def pDD (a b : Str) (x y : D) (fi : PF) : PF := fun m => (fi m).bind (dd2 a b x y)
theorem ge_dd2 (x y : D) (hu : X.A.units + 1 < cLine) (h1 : PE X c1 (tC (scV x))) (h2 : PE X c2 (tC (scV y))) (sx : scal x = true) (sy : scal y = true) (hi : GE X i fi) (hab : a ≠ b := by decide) (hs : NoSl i := by intro _ _; rfl) :
    GE X (.Subscript (.Dict [some (.Constant (.str a) j1 p1), some (.Constant (.str b) j2 p2)] [c1, c2] pos) i pos2) (pDD a b x y fi) := by
  refine PE.of (pe_dget hu (pe_disp (pps_cons pe_str h1 (pps_cons pe_str h2 pps_nil)) rfl rfl (by simp) (by simp)) hi hs) fun σ H Q h => ?_
  obtain ⟨G, a0, F, m, d, r, e, q⟩ := h
  obtain ⟨k, hk, e2⟩ := Option.bind_eq_some_iff.mp e
  intro p hp
  refine ⟨upd_same, [(.inr a, scV x), (.inr b, scV y)], rfl, by simp, ?_⟩
  have g0 : Grw F H F (upd (upd H p (.dK [])) p (.dK (mergeK [] [(.inr a, scV x), (.inr b, scV y)]))) := by
    rw [upd_upd]; exact Grw.fresh r.sF hp
  refine ⟨G, a0, F, m, k, r.grw g0, hk, fun v F2 H2 g2 p2 => ?_⟩
  cases k with
  | str z =>
    cases dp_str p2
    have hd : H2 p = some (.dK (mergeK [] [(.inr a, scV x), (.inr b, scV y)])) := g2.al _ _ upd_same
    have w := disp2 hab z hd
    unfold dd2 at e2
    simp only at e2
    by_cases h1 : z = a
    · rw [if_pos h1] at e2 w
      cases e2
      exact ⟨p, _, rfl, w, q _ F2 H2 (g0.trans g2) (scV_dp sx)⟩
    · rw [if_neg h1] at e2 w
      by_cases h2 : z = b
      · rw [if_pos h2] at e2 w
        cases e2
        exact ⟨p, _, rfl, w, q _ F2 H2 (g0.trans g2) (scV_dp sy)⟩
      · rw [if_neg h2] at e2; cases e2
  | _ => cases e2
def pDG (a b : Str) (x y : D) (fi ff : PF) : PF := fun m => (fi m).bind fun k => (ff m).bind fun z => grd (isStrD k) ((dd2 a b x y k).getD z)
theorem ge_dg2 (x y : D) (hu : X.A.units + 1 < cLine) (h1 : PE X c1 (tC (scV x))) (h2 : PE X c2 (tC (scV y))) (sx : scal x = true) (sy : scal y = true) (hi : GE X i fi) (hf : GE X f ff) (hab : a ≠ b := by decide)
    (hm : M2 X (.Dict [some (.Constant (.str a) j1 p1), some (.Constant (.str b) j2 p2)] [c1, c2] pos) "get" apos i f pos2 := by exact ⟨rfl, rfl, rfl, rfl⟩) :
    GE X (.Call (.Attribute (.Dict [some (.Constant (.str a) j1 p1), some (.Constant (.str b) j2 p2)] [c1, c2] pos) "get" apos) [i, f] [] pos2) (pDG a b x y fi ff) := by
  refine PE.of (pe_dget2 hu (pe_disp (pps_cons pe_str h1 (pps_cons pe_str h2 pps_nil)) rfl rfl (by simp) (by simp)) hi hf hm) fun σ H Q h => ?_
  obtain ⟨G, a0, F, m, d, r, e, q⟩ := h
  obtain ⟨k, hk, e2⟩ := Option.bind_eq_some_iff.mp e
  obtain ⟨z0, hz, e3⟩ := Option.bind_eq_some_iff.mp e2
  obtain ⟨hs, ed⟩ := grd_eq e3
  intro p hp
  refine ⟨upd_same, [(.inr a, scV x), (.inr b, scV y)], rfl, by simp, ?_⟩
  have g0 : Grw F H F (upd (upd H p (.dK [])) p (.dK (mergeK [] [(.inr a, scV x), (.inr b, scV y)]))) := by
    rw [upd_upd]; exact Grw.fresh r.sF hp
  refine ⟨p, rfl, .inl ⟨_, .inl upd_same⟩, G, a0, F, m, k, r.grw g0, hk, fun v F2 H2 g2 p2 => ⟨G, a0, F2, m, z0, (r.grw g0).grw g2, hz, fun v3 F3 H3 g3 p3 => ?_⟩⟩
  cases k with
  | str z =>
    cases dp_str p2
    have hd : H3 p = some (.dK (mergeK [] [(.inr a, scV x), (.inr b, scV y)])) := g3.al _ _ (g2.al _ _ upd_same)
    have w := disp2 hab z hd
    refine ⟨_, w, q _ F3 H3 ((g0.trans g2).trans g3) ?_⟩
    rw [← ed]
    unfold dd2
    simp only
    by_cases h1 : z = a
    · rw [if_pos h1, if_pos h1]; exact scV_dp sx
    · rw [if_neg h1, if_neg h1]
      by_cases h2 : z = b
      · rw [if_pos h2, if_pos h2]; exact scV_dp sy
      · rw [if_neg h2, if_neg h2]; exact p3
  | _ => cases hs
end

/-! ### a list unpacked -/
def tgL (n : Nat) (u : TDs) : TD := fun d m => match d with
  | .list ds => if ds.length = n then u ds m else none
  | _ => none
theorem gg_lst {X : Cx} {es : List Expr} {ts : TDs} {pos : Pos} {k n : Nat} {js : List Nat} (hc : X.calm = true) (h : GGs X es js ts) (hn : (assignEach es X.env).length = n := by rfl) (hst : (assignEach es X.env).findIdx? (·.1) = none := by rfl) : GG X (.Tuple es k pos) js (tgL n ts) := PG.of (pg_lst hc h hn hst) fun v σ H Q q => by
  obtain ⟨G, a0, F, m, d, m', r, p, e, k⟩ := q
  cases d with
  | list ds =>
    obtain ⟨a, xs, rfl, h1, h2⟩ := lst_inv p
    unfold tgL at e
    simp only at e
    split at e
    · rename_i hl
      exact ⟨a, xs, rfl, same_l r.sF h1, by rw [dps_len h2]; exact hl, G, a0, F, m, ds, m', r, h2, e, k⟩
    · cases e
  | _ => cases e

/-! ### an own list is frozen -/
def wFrz (i : Nat) (u : WS) : WS := fun E m => ∃ xs, m[i]? = some (.ow (.lst xs)) ∧ u E (m.set i (.val (.list xs)))
theorem Rep.frz {P : Program} {w : World} {K : PySem.W.Frag} {G F H : Hp} {a0 : Addr} {m : Mem} {σ : L2.St} {i : Nat} {xs : List D} (r : Rep P w K G a0 F m σ H) (h1 : m[i]? = some (.ow (.lst xs))) : ∃ F2, Stp G F F2 ∧ Rep P w K G a0 F2 (m.set i (.val (.list xs))) σ H := by
  obtain ⟨a, k1, k2, k3, k4⟩ := r.at_ i _ h1
  have hl : i < m.length := (List.getElem?_eq_some_iff.mp h1).1
  have r2 : Rep _ _ _ G a0 F (m.set i .un) σ H := r.forget (by simp) fun j s hs => by
    by_cases hj : j = i
    · subst hj; rw [List.getElem?_set_self hl] at hs; cases hs; exact .inl rfl
    · rw [List.getElem?_set_ne (Ne.symm hj)] at hs; exact .inr hs
  have ro : ResOk P w K G F H (m.set i .un) σ (.ow (.lst xs)) (.ref a) := ⟨a, rfl, k2, k3, k4, fun j s hs o e => by
    by_cases hj : j = i
    · subst hj; rw [List.getElem?_set_self hl] at hs; cases hs; cases o
    · rw [List.getElem?_set_ne (Ne.symm hj)] at hs
      exact hj (r.apart j i s _ a hs h1 o rfl e (join_some k1))⟩
  obtain ⟨F2, st, r3, p⟩ := ro.freeze r2 rfl
  refine ⟨F2, st, ?_⟩
  have r4 := r3.setVal (i := i) p
  have e1 : (m.set i .un).set i (.val (.list xs)) = m.set i (.val (.list xs)) := by simp
  have e2 : σ.set i (some (.ref a)) = σ := by
    have hσ := join_some k1
    apply List.ext_getElem?
    intro j
    by_cases hj : i = j
    · subst hj; rw [List.getElem?_set_self (by rw [← r.len]; exact hl), hσ]
    · rw [List.getElem?_set_ne hj]
  rw [e1, e2] at r4
  exact r4
theorem gs_frz {X : Cx} {W : WXs} {st : Stmt} {u : WS} (i : Nat) (h : GS X W st u) : GS X W st (wFrz i u) := PS.of h fun D σ H q => by
  obtain ⟨G, a0, F, m, E, r, ⟨xs, h1, h2⟩, q⟩ := q
  obtain ⟨F2, s2, r2⟩ := r.frz h1
  exact ⟨G, a0, F2, _, E, r2, h2, fun m' σ' F3 H3 s3 r3 => q m' σ' F3 H3 (s2.trans s3) r3⟩
/-- an item of an own list -/
def cIxO (i : Nat) (fj : PF) : CP := fun Y m => ∃ xs k d, ownAt m i = some (.lst xs) ∧ fj (vw m) = some (.int k) ∧ atI xs k = some d ∧ Y.ok (.val d) m
theorem gr_ixO {X : Cx} {W : WXs} {x : Str} {j : Expr} {fj : PF} {npos pos : Pos} (k : Nat) (hx : PE X (.Name x npos) (tVar k)) (hj : GE X j fj) (hs : PlainIx j := by intro _ _; rfl) : GR X W (.Subscript (.Name x npos) j pos) (cIxO k fj) := by
  refine PE.of (pe_ix ix_list hx hj hs) fun σ H Q q => ?_
  obtain ⟨G, a0, F, m, Y, r, ⟨xs, n, d, h0, h1, h2, h3⟩, q⟩ := q
  obtain ⟨a, hv, _, _, vs, hob, pv⟩ := r.own h0
  obtain ⟨F2, s2, r2⟩ := r.vw
  refine ⟨.ref a, hv, G, a0, F2, _, _, r2, h1, fun v F3 H3 g3 p3 => ?_⟩
  cases dp_int p3
  obtain ⟨u, h4, h5⟩ := dps_atI pv h2
  have g4 : Grw F H F H3 := g3.beside r.sF
  exact ⟨a, vs, n, u, rfl, rfl, .inl (.inl (g3.al _ _ hob)), h4, (q m F H3 (Stp.refl G F) (r.grw g4)).1 _ _ (ResOk.val h5) h3⟩

/-! ### the place of an item -/
def indexL : D → List D → Option D
  | .list xs, [y] => (grd (SeqAt.shaped (.list xs) && SeqAt.shaped y) ()).bind fun _ => (xs.findIdx? fun z => PyData.eqv z y).map fun n => .int (n : Nat)
  | _, _ => none
theorem mt_indexL {X : Cx} (hu : X.A.units + 65 < cLine) : MtR X "list.index" (rGM X.K indexL) := by
  intro pins s σ H x xs v us Q I rx rxs h
  obtain ⟨F, d, ds, e, sF, p, ps, hg, q⟩ := h
  match d, ds, hg, p, ps with
  | .list zs, [y], hg, p, ps =>
    obtain ⟨_, hz, hg⟩ := Option.bind_eq_some_iff.mp hg
    obtain ⟨hz, _⟩ := grd_eq hz
    rw [Bool.and_eq_true] at hz
    obtain ⟨n, hn, rfl⟩ := Option.map_eq_some_iff.mp hg
    obtain ⟨y', rfl, py⟩ := dpsOne ps
    obtain ⟨a, vs, rfl, _, _⟩ := lst_inv p
    obtain ⟨hl, h1, h2⟩ := List.findIdx?_eq_some_iff_getElem.mp hn
    refine mt_indexD hu pins s σ H _ _ v us Q I rx rxs ⟨a, y', y, zs, n, zs[n], rfl, rfl, dp_mono sF _ _ p, dp_mono sF _ _ py, hz.1, hz.2, List.getElem?_eq_getElem hl, h1, fun m z' hm hz' => ?_, q _ F H (Grw.refl sF) (.int _)⟩
    obtain ⟨hl', rfl⟩ := List.getElem?_eq_some_iff.mp hz'
    have := h2 m hm
    simpa using this
end MP

end
section
namespace MP
open PySem PySem.Spec L2

/-! ### what is walked, of whichever kind -/
def asQ : D → Option (List D)
  | .list xs => some xs
  | .tuple xs => some xs
  | .str z => some (signs z)
  | _ => none
def jQ (f : PF) : PL := fun m => (f m).bind asQ
section
variable {X : Cx} {W : WXs} {tg e : Expr} {f : PF} {g : CP}
theorem gi_seq (h : GE X e f) : GI X tg e (jQ f) := ⟨fun pins s σ H R I q => by
  obtain ⟨G, a0, F, m, ds, r, h1, k⟩ := q
  obtain ⟨d, hd, h2⟩ := Option.bind_eq_some_iff.mp h1
  cases d with
  | list xs => cases h2; exact (gi_list (tg := tg) h).run pins s σ H R I ⟨G, a0, F, m, _, r, (by unfold jL; rw [hd]; rfl), k⟩
  | tuple xs => cases h2; exact (gi_tup (tg := tg) h).run pins s σ H R I ⟨G, a0, F, m, _, r, (by unfold jT; rw [hd]; rfl), k⟩
  | str z => cases h2; exact (gi_str (tg := tg) h).run pins s σ H R I ⟨G, a0, F, m, _, r, (by unfold jS; rw [hd]; rfl), k⟩
  | _ => cases h2⟩
end

/-! ### constants of the module -/
def HasC (K : PySem.W.Frag) (mg : Str → Option Value) (x : Str) (d : D) : Prop := ∃ (v : V) (u : Value), mg x = some u ∧ RelV v u ∧ ∀ F, Dp K F v d
theorem ge_const {X : Cx} {x : Str} {d : D} {pos : Pos} (h : HasC X.K X.mg x d) (hg : Gl X x := by rfl) (hd : (x == ("__debug__" : Str)) = false := by decide) : GE X (.Name x pos) (lit d) := by
  obtain ⟨v, u, h1, h2, h3⟩ := h
  exact ge_glob hg h1 h2 h3 hd

/-! ### bodies -/
section
variable (P : Program) (w : World) (K : PySem.W.Frag) (mg : Str → Option Value) (base : Heap)
abbrev bodyX (N : List Str) (qual : Str) (st : Stmt) (f : Addr) (cdv : Value) (A : Around) (outer : List Env) (s : Shared) (H : Hp) (E : XK) : Cx := (cxOf CX0 P w K mg base N qual (defScope st) f cdv A outer s H E).nox
def BodyOk (N : List Str) (qual : Str) (st : Stmt) (k : Nat) (wb : WS) : Prop := ∀ (f : Addr) (cdv : Value) (A : Around) (outer : List Env) (s : Shared) (H : Hp) (E : XK), Room k (A.deeper (PyProof.Rows.envOfC qual (defScope st) s.heap.objs.size f cdv)) →
  GSs (bodyX P w K mg base N qual st f cdv A outer s H E) W0 (defBody st) wb
/-- a def stands in the module -/
def Stands (x : Str) (st : Stmt) (ps : List Str) : Prop := ∃ (f : Addr) (fd : FuncData), Fun K x x st f fd ∧ mg x = some (.ref f) ∧ Binds K fd ps []
end
section
variable {P : Program} {w : World} {K : PySem.W.Frag} {mg : Str → Option Value} {base : Heap} {x : Str} {st : Stmt} {N ps : List Str} {k n : Nat} {wb : WS}
theorem mk_F {g : FM} (S : Stands K mg x st ps) (sc : FnScope N ps (defScope st)) (b : BodyOk P w K mg base N x st k wb) (sem : ∀ ds Y, g ds Y → wb (em0 Y.ok) (memF N.length ds)) (hn : n = ps.length := by rfl) : Has P w K mg base CX0 (k + 1) x ps (SpF P w K n g) := by
  obtain ⟨f, fd, F, hm, hb⟩ := S
  exact ⟨f, fd, has_F F sc hn (fun cdv A outer s H E hr => b f cdv A outer s H E hr) sem, hm, F.kp, hb⟩
theorem mk_I {g : IM} (S : Stands K mg x st ps) (sc : FnScope N ps (defScope st)) (b : BodyOk P w K mg base N x st k wb) (sem : ∀ ob ds Y, g ob ds Y → wb (emI0 Y.ok) (memI N.length ob ds)) (hn : n + 1 = ps.length := by rfl) (hN : 0 < N.length := by decide) : Has P w K mg base CX0 (k + 1) x ps (SpI P w K n g) := by
  obtain ⟨f, fd, F, hm, hb⟩ := S
  exact ⟨f, fd, has_I F sc hn hN (fun cdv A outer s H E hr => b f cdv A outer s H E hr) sem, hm, F.kp, hb⟩
theorem det_len {g : List D → Option D} (h : ∀ ds d, g ds = some d → ds.length = n) : ∀ ds Y, det g ds Y → ds.length = n := fun ds Y ⟨d, h1, _⟩ => h ds d h1
end
abbrev var (i : Nat) : PF := fun m => getV m i
theorem hu65 {k : Nat} {A : Around} (hr : Room k A) : A.units + 65 < cLine := by have := hr.un; omega
theorem bb_len : bootBuiltins "len" = some (.builtin "len") := by decide +kernel
theorem bb_abs : bootBuiltins "abs" = some (.builtin "abs") := by decide +kernel
theorem bb_max : bootBuiltins "max" = some (.builtin "max") := by decide +kernel
theorem bb_min : bootBuiltins "min" = some (.builtin "min") := by decide +kernel
theorem bb_sum : bootBuiltins "sum" = some (.builtin "sum") := by decide +kernel
theorem bb_sorted : bootBuiltins "sorted" = some (.builtin "sorted") := by decide +kernel
theorem bb_int : bootBuiltins "int" = some (.type "int") := by decide +kernel
theorem bb_bool : bootBuiltins "bool" = some (.type "bool") := by decide +kernel
theorem bb_str : bootBuiltins "str" = some (.type "str") := by decide +kernel
theorem bb_list : bootBuiltins "list" = some (.type "list") := by decide +kernel
theorem bb_tuple : bootBuiltins "tuple" = some (.type "tuple") := by decide +kernel
theorem bb_set : bootBuiltins "set" = some (.type "set") := by decide +kernel
end MP

end
section
set_option maxHeartbeats 4000000
namespace MP
open PySem PySem.Spec L2
/-! ### what the defs of books promise -/
def isI (lo hi : Int) : D → Bool
  | .int i => decide (lo ≤ i ∧ i ≤ hi)
  | _ => false
def isHop (many : Int) : D → Bool
  | .tuple [a, b, l] => isI 0 (many - 1) a && isI 0 (many - 1) b && isI 1 3 l
  | _ => false
def isKind : D → Bool
  | .str z => decide (z = "both" ∨ z = "one")
  | _ => false
def isKinds : D → Bool
  | .tuple ks => decide (1 ≤ ks.length ∧ ks.length ≤ 3) && ks.all isKind
  | _ => false
def kindsLen : D → Nat
  | .tuple ks => ks.length
  | _ => 0
def risen (hs : List D) : Bool := match trips hs with
  | some ks => decide (sortU ks = ks)
  | none => false
def isHops (n : Nat) : D → Bool
  | .tuple hs => decide (1 ≤ hs.length ∧ hs.length ≤ 12) && hs.all (isHop n) && risen hs
  | _ => false
def isBook : D → Bool
  | .tuple [kinds, hops, arm] => isI 1 2 arm && isKinds kinds && isHops (kindsLen kinds) hops
  | _ => false
def isCell (c : Nat) : Bool := decide (c = 100 ∨ c = 115)
def isStretch (least : Int) : D → Bool
  | .str z => decide (least ≤ z.length ∧ z.length ≤ 3) && z.cps.toList.all isCell
  | _ => false
def isCourt : D → Bool
  | .tuple [a, b, c] => isStretch 0 a && isStretch 1 b && isStretch 0 c
  | _ => false
def c_KINDS : D := .tuple [.str "both", .str "one"]
def c_LONGEST : D := .int 3
def c_MOST_STANDS : D := .int 3
def c_MOST_HOPS : D := .int 12
def c_MOST_CELLS : D := .int 3
def c_NEAR : D := .int 40
def p_is_int : List D → Option D
  | [v, .int lo, .int hi] => some (.bool (isI lo hi v))
  | _ => none
def p_is_hop : List D → Option D
  | [.int m, v] => some (.bool (isHop m v))
  | _ => none
def p_fits : List D → Option D
  | [v] => some (.bool (isBook v))
  | _ => none
def okS : D → Bool
  | .str z => decide (z.length ≤ 16777216)
  | _ => true
def okC : D → Bool
  | .tuple [a, b, c] => okS a && okS b && okS c
  | _ => true
def p_is_stretch : List D → Option D
  | [v, .int least] => if okS v = true then some (.bool (isStretch least v)) else none
  | _ => none
def p_is_laid : List D → Option D
  | [v] => if okC v = true then some (.bool (isCourt v)) else none
  | _ => none
def p_need_book : List D → Option D
  | [v] => if isBook v = true then some .none else none
  | _ => none
def p_need_court : List D → Option D
  | [v] => if isCourt v = true then some .none else none
  | _ => none
theorem p_is_int_len : ∀ ds d, p_is_int ds = some d → ds.length = 3 := by
  intro ds d h; unfold p_is_int at h; split at h <;> first | rfl | cases h
theorem p_is_hop_len : ∀ ds d, p_is_hop ds = some d → ds.length = 2 := by
  intro ds d h; unfold p_is_hop at h; split at h <;> first | rfl | cases h
theorem p_fits_len : ∀ ds d, p_fits ds = some d → ds.length = 1 := by
  intro ds d h; unfold p_fits at h; split at h <;> first | rfl | cases h
theorem p_is_stretch_len : ∀ ds d, p_is_stretch ds = some d → ds.length = 2 := by
  intro ds d h; unfold p_is_stretch at h; split at h <;> first | rfl | cases h
theorem p_is_laid_len : ∀ ds d, p_is_laid ds = some d → ds.length = 1 := by
  intro ds d h; unfold p_is_laid at h; split at h <;> first | rfl | cases h
theorem p_need_book_len : ∀ ds d, p_need_book ds = some d → ds.length = 1 := by
  intro ds d h; unfold p_need_book at h; split at h <;> first | rfl | cases h
theorem p_need_court_len : ∀ ds d, p_need_court ds = some d → ds.length = 1 := by
  intro ds d h; unfold p_need_court at h; split at h <;> first | rfl | cases h
/-! ### what the law's own helpers promise -/
def ChOk : OB → Prop
  | .lst [.int a, .int b] => 0 ≤ a ∧ 0 ≤ b ∧ b ≤ 2147482801
  | _ => False
def q__law_chest_of : FM := fun ds Y => ∃ (ns : List Int) (k : Int), ds = [.list (ns.map PyData.int), .int k] ∧ (0 ≤ k ∧ k ≤ 1000) ∧ ∀ ob, ChOk ob → Y.ok (.ow ob)
def q__law_lot : IM := fun ob ds Y => ChOk ob ∧ ∃ m : Int, ds = [.int m] ∧ (0 < m ∧ m < 1073741824) ∧ ∀ (r : Int) ob', (0 ≤ r ∧ r < m) → ChOk ob' → Y.ok (.val (.int r)) ob'
def q__law_one : IM := fun ob ds Y => ChOk ob ∧ ∃ d xs, ds = [d] ∧ asQ d = some xs ∧ (xs ≠ [] ∧ xs.length ≤ 100000) ∧ ∀ x ∈ xs, ∀ ob', ChOk ob' → Y.ok (.val x) ob'
def q__law_shuffled : IM := fun ob ds Y => ChOk ob ∧ ∃ xs, ds = [.list xs] ∧ xs.length ≤ 1000 ∧ ∀ ys, ys.Perm xs → ∀ ob', ChOk ob' → Y.ok (.val (.list ys)) ob'
def allHops (n : Nat) : List (List Int) := (List.range n).flatMap fun (i : Nat) => (List.range n).flatMap fun (j : Nat) => [[(i : Int), (j : Int), 1], [(i : Int), (j : Int), 2], [(i : Int), (j : Int), 3]]
def p__law_all_hops : List D → Option D
  | [.int m] => if 0 ≤ m ∧ m ≤ 3 then some (.list ((allHops m.toNat).map tripD)) else none
  | _ => none
/-- a book -/
structure Bk where
  ks : List Str
  hs : List (List Int)
  arm : Int
def bkD (b : Bk) : D := .tuple [.tuple (b.ks.map PyData.str), .tuple (b.hs.map tripD), .int b.arm]
def HopOk (n : Nat) (h : List Int) : Prop := ∃ x y l : Int, h = [x, y, l] ∧ (0 ≤ x ∧ x < n) ∧ (0 ≤ y ∧ y < n) ∧ (1 ≤ l ∧ l ≤ 3)
structure BkOk (b : Bk) : Prop where
  kl : 1 ≤ b.ks.length ∧ b.ks.length ≤ 3
  kk : ∀ k ∈ b.ks, k = "both" ∨ k = "one"
  hl : 1 ≤ b.hs.length ∧ b.hs.length ≤ 12
  hk : ∀ h ∈ b.hs, HopOk b.ks.length h
  up : sortU b.hs = b.hs
  ar : b.arm = 1 ∨ b.arm = 2
def q__law_rules : IM := fun ob ds Y => ChOk ob ∧ ds = [] ∧ ∀ b, BkOk b → ∀ ob', ChOk ob' → Y.ok (.val (bkD b)) ob'
/-- a court -/
structure Ct where
  a : Str
  b : Str
  c : Str
def ctD (c : Ct) : D := .tuple [.str c.a, .str c.b, .str c.c]
def Row (z : Str) : Prop := ∀ c ∈ z.cps.toList, c = 100 ∨ c = 115
structure CtOk (c : Ct) : Prop where
  la : c.a.length ≤ 3
  lb : 1 ≤ c.b.length ∧ c.b.length ≤ 3
  lc : c.c.length ≤ 3
  ra : Row c.a
  rb : Row c.b
  rc : Row c.c
def q__law_ground : IM := fun ob ds Y => ChOk ob ∧ ds = [] ∧ ∀ c, CtOk c → ∀ ob', ChOk ob' → Y.ok (.val (ctD c)) ob'
theorem q__law_chest_of_len : ∀ ds Y, q__law_chest_of ds Y → ds.length = 2 := by rintro ds Y ⟨ns, k, rfl, _⟩; rfl
theorem q__law_lot_len : ∀ ob ds Y, q__law_lot ob ds Y → ds.length = 1 := by rintro ob ds Y ⟨_, m, rfl, _⟩; rfl
theorem q__law_one_len : ∀ ob ds Y, q__law_one ob ds Y → ds.length = 1 := by rintro ob ds Y ⟨_, d, xs, rfl, _⟩; rfl
theorem q__law_shuffled_len : ∀ ob ds Y, q__law_shuffled ob ds Y → ds.length = 1 := by rintro ob ds Y ⟨_, xs, rfl, _⟩; rfl
theorem q__law_rules_len : ∀ ob ds Y, q__law_rules ob ds Y → ds.length = 0 := by rintro ob ds Y ⟨_, rfl, _⟩; rfl
theorem q__law_ground_len : ∀ ob ds Y, q__law_ground ob ds Y → ds.length = 0 := by rintro ob ds Y ⟨_, rfl, _⟩; rfl
theorem p__law_all_hops_len : ∀ ds d, p__law_all_hops ds = some d → ds.length = 1 := by
  intro ds d h; unfold p__law_all_hops at h; split at h <;> first | rfl | cases h
def q_law : FM := fun ds Y => ∃ ns : List Int, ds = [.list (ns.map PyData.int)] ∧ ns.length ≤ 63 ∧ Y.ok (.val (.bool true))
/-! ### what the defs of texts promise -/
def c_FIGURES : D := .str "0123"
def hopT (h : List Int) : Str := Txt.join "-" (h.map strI)
def textOf (b : Bk) : Str := Txt.join "\n" [Txt.join " " ("stands" :: b.ks), Txt.join " " ("hops" :: b.hs.map hopT), "arm " ++ strI b.arm]
def courtT (c : Ct) : Str := Txt.join " " ([c.a, c.b, c.c].map fun (z : Str) => if z = ("" : Str) then ("-" : Str) else z)
def bkOf : D → Option Bk
  | .tuple [.tuple ks, .tuple hs, .int arm] => if isBook (.tuple [.tuple ks, .tuple hs, .int arm]) = true then (strsD ks).bind fun ks => (trips hs).map fun hs => ⟨ks, hs, arm⟩ else none
  | _ => none
def ctOf : D → Option Ct
  | .tuple [.str a, .str b, .str c] => if isCourt (.tuple [.str a, .str b, .str c]) = true then some ⟨a, b, c⟩ else none
  | _ => none
def p_text_of : List D → Option D
  | [v] => (bkOf v).map fun b => .str (textOf b)
  | _ => none
def figI (z : Str) : Option Int := match z.cps.toList with
  | [c] => if 48 ≤ c ∧ c ≤ 51 then some ((c : Int) - 48) else none
  | _ => none
def figs : List Str → Option (List Int)
  | [] => some []
  | z :: r => (figI z).bind fun k => (figs r).map (k :: ·)
def hopIn (z : Str) : Option (List Int) := match figs (Txt.split z "-") with
  | some [a, b, l] => if a < 3 ∧ b < 3 ∧ 1 ≤ l ∧ l ≤ 3 then some [a, b, l] else none
  | _ => none
def optD : Option D → D
  | some d => d
  | none => .none
def p_hop_in : List D → Option D
  | [.str z] => if z.length ≤ 10000000 then some (optD ((hopIn z).map tripD)) else none
  | _ => none
def kindsIn (ws : List Str) : Option D := if (1 ≤ ws.length ∧ ws.length ≤ 3) ∧ (∀ x ∈ ws, x = "both" ∨ x = "one") then some (.tuple (ws.map PyData.str)) else none
def short (ws : List Str) : Bool := decide (ws.length ≤ 10000000) && ws.all fun z => decide (z.length ≤ 10000000)
def p_kinds_in : List D → Option D
  | [.list ws] => (strsD ws).bind fun ws => if short ws = true then some (optD (kindsIn ws)) else none
  | _ => none
def hopsIn1 : List Str → Option (List (List Int))
  | [] => some []
  | z :: r => (hopIn z).bind fun k => (hopsIn1 r).map (k :: ·)
def hopsIn (ws : List Str) : Option D := if 1 ≤ ws.length ∧ ws.length ≤ 12 then (hopsIn1 ws).bind fun hs => if sortU hs = hs then some (.tuple (hs.map tripD)) else none else none
def p_hops_in : List D → Option D
  | [.list ws] => (strsD ws).bind fun ws => if short ws = true then some (optD (hopsIn ws)) else none
  | _ => none
def lineIn (z : Str) : Option D := match Txt.split z " " with
  | [] => none
  | h :: r => (if h = "stands" then kindsIn r else if h = "hops" then hopsIn r else if z = "arm 1" then some (.int 1) else if z = "arm 2" then some (.int 2) else none).map fun d => .tuple [.str h, d]
def p_line_in : List D → Option D
  | [.str z] => if z.length ≤ 5000000 then some (optD (lineIn z)) else none
  | _ => none
def linesIn : List Str → Option (List D)
  | [] => some []
  | z :: r => (lineIn z).bind fun k => (linesIn r).map (k :: ·)
/-- the book that is read, if it is one -/
def bookIn (z : Str) : Option D := (linesIn (Txt.split z "\n")).bind fun rows => match rows with
  | [.tuple [.str a, x], .tuple [.str b, y], .tuple [.str c, k]] => if (a = "stands" ∧ b = "hops" ∧ c = "arm") ∧ isBook (.tuple [x, y, k]) = true then some (.tuple [x, y, k]) else none
  | _ => none
def p_book_in : List D → Option D
  | [.str z] => if z.length ≤ 1000000 then bookIn z else none
  | _ => none
def p_court_of : List D → Option D
  | [v] => (ctOf v).map fun c => .str (courtT c)
  | _ => none
def p_book_text : List D → Option D
  | [v] => (bkOf v).map fun b => .str (textOf b)
  | _ => none
def p_read_book : List D → Option D
  | [.str z] => if z.length ≤ 1000000 then bookIn z else none
  | _ => none
def p_court_text : List D → Option D
  | [v] => (ctOf v).map fun c => .str (courtT c)
  | _ => none
/-- the court that is read, if it is one -/
def courtIn (z : Str) : Option D := match (Txt.split z " ").map (fun (w : Str) => if w = ("-" : Str) then ("" : Str) else w) with
  | [a, b, c] => if isCourt (ctD ⟨a, b, c⟩) = true ∧ courtT ⟨a, b, c⟩ = z then some (ctD ⟨a, b, c⟩) else none
  | _ => none
def p_read_court : List D → Option D
  | [.str z] => if z.length ≤ 1000000 then courtIn z else none
  | _ => none
def p__law_written : List D → Option D
  | [v] => (bkOf v).map fun b => .str (textOf b)
  | _ => none
theorem p_text_of_len : ∀ ds d, p_text_of ds = some d → ds.length = 1 := by
  intro ds d h; unfold p_text_of at h; split at h <;> first | rfl | cases h
theorem p_hop_in_len : ∀ ds d, p_hop_in ds = some d → ds.length = 1 := by
  intro ds d h; unfold p_hop_in at h; split at h <;> first | rfl | cases h
theorem p_kinds_in_len : ∀ ds d, p_kinds_in ds = some d → ds.length = 1 := by
  intro ds d h; unfold p_kinds_in at h; split at h <;> first | rfl | cases h
theorem p_hops_in_len : ∀ ds d, p_hops_in ds = some d → ds.length = 1 := by
  intro ds d h; unfold p_hops_in at h; split at h <;> first | rfl | cases h
theorem p_line_in_len : ∀ ds d, p_line_in ds = some d → ds.length = 1 := by
  intro ds d h; unfold p_line_in at h; split at h <;> first | rfl | cases h
theorem p_book_in_len : ∀ ds d, p_book_in ds = some d → ds.length = 1 := by
  intro ds d h; unfold p_book_in at h; split at h <;> first | rfl | cases h
theorem p_court_of_len : ∀ ds d, p_court_of ds = some d → ds.length = 1 := by
  intro ds d h; unfold p_court_of at h; split at h <;> first | rfl | cases h
theorem p_book_text_len : ∀ ds d, p_book_text ds = some d → ds.length = 1 := by
  intro ds d h; unfold p_book_text at h; split at h <;> first | rfl | cases h
theorem p_read_book_len : ∀ ds d, p_read_book ds = some d → ds.length = 1 := by
  intro ds d h; unfold p_read_book at h; split at h <;> first | rfl | cases h
theorem p_court_text_len : ∀ ds d, p_court_text ds = some d → ds.length = 1 := by
  intro ds d h; unfold p_court_text at h; split at h <;> first | rfl | cases h
theorem p_read_court_len : ∀ ds d, p_read_court ds = some d → ds.length = 1 := by
  intro ds d h; unfold p_read_court at h; split at h <;> first | rfl | cases h
theorem p__law_written_len : ∀ ds d, p__law_written ds = some d → ds.length = 1 := by
  intro ds d h; unfold p__law_written at h; split at h <;> first | rfl | cases h
def topS (i : Nat) : Stmt := PySem.Challenge.pw_hopcourts_k14_texts_of_books_and_courts.main.body.getD i (.Pass ⟨0, 0, 0, 0⟩)
def bl : List Str := ["abs", "bool", "int", "isinstance", "len", "list", "max", "min", "range", "set", "sorted", "str", "tuple"]
abbrev H_is_int (P : Program) (w : World) (K : PySem.W.Frag) (mg : Str → Option Value) (base : Heap) : Prop := Has P w K mg base CX0 1 "is_int" ["value", "low", "high"] (SpF P w K 3 (det p_is_int))
abbrev H_is_stretch (P : Program) (w : World) (K : PySem.W.Frag) (mg : Str → Option Value) (base : Heap) : Prop := Has P w K mg base CX0 1 "is_stretch" ["value", "least"] (SpF P w K 2 (det p_is_stretch))
abbrev H_text_of (P : Program) (w : World) (K : PySem.W.Frag) (mg : Str → Option Value) (base : Heap) : Prop := Has P w K mg base CX0 1 "text_of" ["book"] (SpF P w K 1 (det p_text_of))
abbrev H_hop_in (P : Program) (w : World) (K : PySem.W.Frag) (mg : Str → Option Value) (base : Heap) : Prop := Has P w K mg base CX0 1 "hop_in" ["word"] (SpF P w K 1 (det p_hop_in))
abbrev H_kinds_in (P : Program) (w : World) (K : PySem.W.Frag) (mg : Str → Option Value) (base : Heap) : Prop := Has P w K mg base CX0 1 "kinds_in" ["words"] (SpF P w K 1 (det p_kinds_in))
abbrev H_court_of (P : Program) (w : World) (K : PySem.W.Frag) (mg : Str → Option Value) (base : Heap) : Prop := Has P w K mg base CX0 1 "court_of" ["court"] (SpF P w K 1 (det p_court_of))
abbrev H__law_chest_of (P : Program) (w : World) (K : PySem.W.Frag) (mg : Str → Option Value) (base : Heap) : Prop := Has P w K mg base CX0 1 "_law_chest_of" ["script", "k"] (SpF P w K 2 q__law_chest_of)
abbrev H__law_lot (P : Program) (w : World) (K : PySem.W.Frag) (mg : Str → Option Value) (base : Heap) : Prop := Has P w K mg base CX0 1 "_law_lot" ["chest", "many"] (SpI P w K 1 q__law_lot)
abbrev H__law_all_hops (P : Program) (w : World) (K : PySem.W.Frag) (mg : Str → Option Value) (base : Heap) : Prop := Has P w K mg base CX0 1 "_law_all_hops" ["many"] (SpF P w K 1 (det p__law_all_hops))
abbrev H__law_written (P : Program) (w : World) (K : PySem.W.Frag) (mg : Str → Option Value) (base : Heap) : Prop := Has P w K mg base CX0 1 "_law_written" ["rules"] (SpF P w K 1 (det p__law_written))
abbrev H_is_hop (P : Program) (w : World) (K : PySem.W.Frag) (mg : Str → Option Value) (base : Heap) : Prop := Has P w K mg base CX0 2 "is_hop" ["many", "value"] (SpF P w K 2 (det p_is_hop))
abbrev H_is_laid (P : Program) (w : World) (K : PySem.W.Frag) (mg : Str → Option Value) (base : Heap) : Prop := Has P w K mg base CX0 2 "is_laid" ["value"] (SpF P w K 1 (det p_is_laid))
abbrev H_hops_in (P : Program) (w : World) (K : PySem.W.Frag) (mg : Str → Option Value) (base : Heap) : Prop := Has P w K mg base CX0 2 "hops_in" ["words"] (SpF P w K 1 (det p_hops_in))
abbrev H__law_one (P : Program) (w : World) (K : PySem.W.Frag) (mg : Str → Option Value) (base : Heap) : Prop := Has P w K mg base CX0 2 "_law_one" ["chest", "things"] (SpI P w K 1 q__law_one)
abbrev H__law_shuffled (P : Program) (w : World) (K : PySem.W.Frag) (mg : Str → Option Value) (base : Heap) : Prop := Has P w K mg base CX0 2 "_law_shuffled" ["chest", "things"] (SpI P w K 1 q__law_shuffled)
abbrev H_fits (P : Program) (w : World) (K : PySem.W.Frag) (mg : Str → Option Value) (base : Heap) : Prop := Has P w K mg base CX0 3 "fits" ["value"] (SpF P w K 1 (det p_fits))
abbrev H_need_court (P : Program) (w : World) (K : PySem.W.Frag) (mg : Str → Option Value) (base : Heap) : Prop := Has P w K mg base CX0 3 "need_court" ["value"] (SpF P w K 1 (det p_need_court))
abbrev H_line_in (P : Program) (w : World) (K : PySem.W.Frag) (mg : Str → Option Value) (base : Heap) : Prop := Has P w K mg base CX0 3 "line_in" ["line"] (SpF P w K 1 (det p_line_in))
abbrev H_read_court (P : Program) (w : World) (K : PySem.W.Frag) (mg : Str → Option Value) (base : Heap) : Prop := Has P w K mg base CX0 3 "read_court" ["value"] (SpF P w K 1 (det p_read_court))
abbrev H__law_rules (P : Program) (w : World) (K : PySem.W.Frag) (mg : Str → Option Value) (base : Heap) : Prop := Has P w K mg base CX0 3 "_law_rules" ["chest"] (SpI P w K 0 q__law_rules)
abbrev H__law_ground (P : Program) (w : World) (K : PySem.W.Frag) (mg : Str → Option Value) (base : Heap) : Prop := Has P w K mg base CX0 3 "_law_ground" ["chest"] (SpI P w K 0 q__law_ground)
abbrev H_need_book (P : Program) (w : World) (K : PySem.W.Frag) (mg : Str → Option Value) (base : Heap) : Prop := Has P w K mg base CX0 4 "need_book" ["value"] (SpF P w K 1 (det p_need_book))
abbrev H_book_in (P : Program) (w : World) (K : PySem.W.Frag) (mg : Str → Option Value) (base : Heap) : Prop := Has P w K mg base CX0 4 "book_in" ["value"] (SpF P w K 1 (det p_book_in))
abbrev H_court_text (P : Program) (w : World) (K : PySem.W.Frag) (mg : Str → Option Value) (base : Heap) : Prop := Has P w K mg base CX0 4 "court_text" ["court"] (SpF P w K 1 (det p_court_text))
abbrev H_book_text (P : Program) (w : World) (K : PySem.W.Frag) (mg : Str → Option Value) (base : Heap) : Prop := Has P w K mg base CX0 5 "book_text" ["book"] (SpF P w K 1 (det p_book_text))
abbrev H_read_book (P : Program) (w : World) (K : PySem.W.Frag) (mg : Str → Option Value) (base : Heap) : Prop := Has P w K mg base CX0 5 "read_book" ["value"] (SpF P w K 1 (det p_read_book))
abbrev H_law (P : Program) (w : World) (K : PySem.W.Frag) (mg : Str → Option Value) (base : Heap) : Prop := Has P w K mg base CX0 6 "law" ["script"] (SpF P w K 1 q_law)
abbrev s_is_int : Stmt := topS 11
abbrev n_is_int : List Str := ["value", "low", "high"]
theorem sc_is_int : FnScope n_is_int ["value", "low", "high"] (defScope s_is_int) := ⟨rfl, rfl, rfl, by decide +kernel, rfl, by decide +kernel, by decide +kernel⟩
def w_is_int : WS := wRet (cP (pAnd (pI PyData.isInt (var 0)) (pAnd (pNot (pI PyData.isBool (var 0))) (pCh leD leD (var 1) (var 0) (var 2)))))
theorem b_is_int {P : Program} {w : World} {K : PySem.W.Frag} {mg : Str → Option Value} {base : Heap} (hb : ∀ x ∈ bl, mg x = none)   : BodyOk P w K mg base n_is_int "is_int" s_is_int 0 w_is_int := by
  intro f cdv A outer s H E hr
  have sc := sc_is_int
  exact (gss_one (gs_ret (gr_p (ge_and (ge_isa isa_int (hb "isinstance" (by decide)) (hb "int" (by decide)) (ge_var 0) bb_int) (ge_and (ge_not (ge_isa isa_bool (hb "isinstance" (by decide)) (hb "bool" (by decide)) (ge_var 0) bb_bool)) (ge_one (ge_chain (d_le hr.units) (d_le hr.units) (ge_var 1) (ge_var 0) (ge_var 2))))))))
abbrev s_is_stretch : Stmt := topS 14
abbrev n_is_stretch : List Str := ["value", "least", "sign"]
theorem sc_is_stretch : FnScope n_is_stretch ["value", "least"] (defScope s_is_stretch) := ⟨rfl, rfl, rfl, by decide +kernel, rfl, by decide +kernel, by decide +kernel⟩
def w_is_stretch : WS := wSeq (wIf (bP (qOr (qNot (qB (pI PyData.isStr (var 0)))) (qNot (qB (pCh leD leD (var 1) (pCall lenD (aCons (var 0) (aNil))) (lit c_MOST_CELLS)))))) (wRet (cP (lit (.bool false)))) (wSkip)) (wRet (cP (pOp eqD (pLc [2] (jQ (var 0)) (tgN 2) (qB (pOp ninD (var 2) (lit (.str "ds")))) (var 2)) (pLst (aNil)))))
theorem b_is_stretch {P : Program} {w : World} {K : PySem.W.Frag} {mg : Str → Option Value} {base : Heap} (hb : ∀ x ∈ bl, mg x = none) (hc_MOST_CELLS : HasC K mg "MOST_CELLS" c_MOST_CELLS)  : BodyOk P w K mg base n_is_stretch "is_stretch" s_is_stretch 0 w_is_stretch := by
  intro f cdv A outer s H E hr
  have sc := sc_is_stretch
  exact (gss_cons (gs_if (grb_p (gt_w (gw_or (gt_not (gt_val (ge_isa isa_str (hb "isinstance" (by decide)) (hb "str" (by decide)) (ge_var 0) bb_str))) (gw_or1 (gt_not (gt_chain (d_le hr.units) (d_le hr.units) (ge_var 1) (ge_callB d_len (by rfl) (hb "len" (by decide)) bb_len (ga_cons (ge_var 0) ga_nil)) (ge_const hc_MOST_CELLS)))))))
    (gss_one (gs_ret (gr_p ge_bl)))
    gss_nil)
    (gss_one (gs_ret (gr_p (ge_cmp (d_eq hr.units) (ge_lc rfl sc.nd (gi_seq (ge_var 0)) (blkOk_by (own := [("sign", 2)]) (by rfl)) (by decide) (fun _ _ _ _ _ => (gg_name 2 sc.nd)) (fun _ _ _ _ _ => (gts_one (gt_cmp (d_nin hr.units) (ge_var 2) ge_str rfl))) (fun _ _ _ _ _ => (ge_var 2))) (ge_lst ga_nil) rfl)))))
abbrev s_text_of : Stmt := topS 20
abbrev n_text_of : List Str := ["book", "hops", "part", "hop"]
theorem sc_text_of : FnScope n_text_of ["book"] (defScope s_text_of) := ⟨rfl, rfl, rfl, by decide +kernel, rfl, by decide +kernel, by decide +kernel⟩
def w_text_of : WS := wSeq (wSet 1 (cP (pLc [3] (jQ (pOp ixD (var 0) (lit (.int 1)))) (tgN 3) (qYes) (pM "str" joinD (lit (.str "-")) (aCons (pLc [2] (jQ (var 3)) (tgN 2) (qYes) (pCall strD (aCons (var 2) (aNil)))) (aNil)))))) (wRet (cP (pM "str" joinD (lit (.str "\n")) (aCons (pLst (aCons (pM "str" joinD (lit (.str " ")) (aCons (pOp addD (pLst (aCons (lit (.str "stands")) (aNil))) (pCall listD (aCons (pOp ixD (var 0) (lit (.int 0))) (aNil)))) (aNil))) (aCons (pM "str" joinD (lit (.str " ")) (aCons (pOp addD (pLst (aCons (lit (.str "hops")) (aNil))) (var 1)) (aNil))) (aCons (pOp addD (lit (.str "arm ")) (pCall strD (aCons (pOp ixD (var 0) (lit (.int 2))) (aNil)))) (aNil))))) (aNil)))))
theorem b_text_of {P : Program} {w : World} {K : PySem.W.Frag} {mg : Str → Option Value} {base : Heap} (hb : ∀ x ∈ bl, mg x = none)   : BodyOk P w K mg base n_text_of "text_of" s_text_of 0 w_text_of := by
  intro f cdv A outer s H E hr
  have sc := sc_text_of
  exact (gss_cons (gs_setLc 1 rfl sc.nd rfl rfl (sw_true rfl rfl rfl (by decide +kernel)) (gi_seq (ge_sub d_ix (ge_var 0) ge_int (fun _ _ => rfl))) (blkOk_by (own := [("hop", 3)]) (by rfl)) (by decide) (fun _ _ _ _ _ => (gg_name 3 sc.nd)) (fun _ _ _ _ _ => gts_nil) (fun _ _ _ _ _ => (ge_mt PySem.F.plainAttrs_str PySem.F.slot_str_join PySem.F.type_str_join mt_joinD ge_str (ga_cons (ge_lc rfl sc.nd (gi_seq (ge_var 3)) (blkOk_by (own := [("part", 2)]) (by rfl)) (by decide) (fun _ _ _ _ _ => (gg_name 2 sc.nd)) (fun _ _ _ _ _ => gts_nil) (fun _ _ _ _ _ => (ge_callTy d_str (by rfl) (hb "str" (by decide)) bb_str (ga_cons (ge_var 2) ga_nil)))) ga_nil))))
    (gss_one (gs_ret (gr_p (ge_mt PySem.F.plainAttrs_str PySem.F.slot_str_join PySem.F.type_str_join mt_joinD ge_str (ga_cons (ge_lst (ga_cons (ge_mt PySem.F.plainAttrs_str PySem.F.slot_str_join PySem.F.type_str_join mt_joinD ge_str (ga_cons (ge_op d_add (ge_lst (ga_cons ge_str ga_nil)) (ge_callTy d_list (by rfl) (hb "list" (by decide)) bb_list (ga_cons (ge_sub d_ix (ge_var 0) ge_int (fun _ _ => rfl)) ga_nil))) ga_nil)) (ga_cons (ge_mt PySem.F.plainAttrs_str PySem.F.slot_str_join PySem.F.type_str_join mt_joinD ge_str (ga_cons (ge_op d_add (ge_lst (ga_cons ge_str ga_nil)) (ge_var 1)) ga_nil)) (ga_cons (ge_op d_add ge_str (ge_callTy d_str (by rfl) (hb "str" (by decide)) bb_str (ga_cons (ge_sub d_ix (ge_var 0) ge_int (fun _ _ => rfl)) ga_nil))) ga_nil)))) ga_nil))))))
abbrev s_hop_in : Stmt := topS 21
abbrev n_hop_in : List Str := ["word", "parts", "before", "behind", "length", "part"]
theorem sc_hop_in : FnScope n_hop_in ["word"] (defScope s_hop_in) := ⟨rfl, rfl, rfl, by decide +kernel, rfl, by decide +kernel, by decide +kernel⟩
def w_hop_in : WS := wSeq (wSet 1 (cP (pM "str" splitD (var 0) (aCons (lit (.str "-")) (aNil))))) (wSeq (wIf (bP (qOr (qB (pOp neD (pCall lenD (aCons (var 1) (aNil))) (lit (.int 3)))) (qB (pOp neD (pLc [5] (jQ (var 1)) (tgN 5) (qOr (qB (pOp neD (pCall lenD (aCons (var 5) (aNil))) (lit (.int 1)))) (qB (pOp ninD (var 5) (lit c_FIGURES)))) (var 5)) (pLst (aNil)))))) (wRet (cP (lit .none))) (wSkip)) (wSeq (wAsg (tgL 3 (tgsCons (tgN 2) (tgsCons (tgN 3) (tgsCons (tgN 4) (tgsNil))))) (cP (pLc [5] (jQ (var 1)) (tgN 5) (qYes) (pM "str" indexS (lit c_FIGURES) (aCons (var 5) (aNil)))))) (wRet (cP (pIf (qAnd (qB (pOp ltD (pCall max2D (aCons (var 2) (aCons (var 3) (aNil)))) (lit c_MOST_STANDS))) (qB (pCh leD leD (lit (.int 1)) (var 4) (lit c_LONGEST)))) (pTup (aCons (var 2) (aCons (var 3) (aCons (var 4) (aNil))))) (lit .none))))))
theorem b_hop_in {P : Program} {w : World} {K : PySem.W.Frag} {mg : Str → Option Value} {base : Heap} (hb : ∀ x ∈ bl, mg x = none) (hc_FIGURES : HasC K mg "FIGURES" c_FIGURES) (hc_MOST_STANDS : HasC K mg "MOST_STANDS" c_MOST_STANDS) (hc_LONGEST : HasC K mg "LONGEST" c_LONGEST)  : BodyOk P w K mg base n_hop_in "hop_in" s_hop_in 0 w_hop_in := by
  intro f cdv A outer s H E hr
  have sc := sc_hop_in
  exact (gss_cons (gs_set 1 (gr_p (ge_mt PySem.F.plainAttrs_str PySem.F.slot_str_split PySem.F.type_str_split mt_splitD (ge_var 0) (ga_cons ge_str ga_nil))) sc.nd)
    (gss_cons (gs_if (grb_p (gt_w (gw_or (gt_cmp (d_ne hr.units) (ge_callB d_len (by rfl) (hb "len" (by decide)) bb_len (ga_cons (ge_var 1) ga_nil)) ge_int rfl) (gw_or1 (gt_cmp (d_ne hr.units) (ge_lc rfl sc.nd (gi_seq (ge_var 1)) (blkOk_by (own := [("part", 5)]) (by rfl)) (by decide) (fun _ _ _ _ _ => (gg_name 5 sc.nd)) (fun _ _ _ _ _ => (gts_one (gt_w (gw_or (gt_cmp (d_ne hr.units) (ge_callB d_len (by rfl) (hb "len" (by decide)) bb_len (ga_cons (ge_var 5) ga_nil)) ge_int rfl) (gw_or1 (gt_cmp (d_nin hr.units) (ge_var 5) (ge_const hc_FIGURES) rfl)))))) (fun _ _ _ _ _ => (ge_var 5))) (ge_lst ga_nil) rfl)))))
    (gss_one (gs_ret (gr_p ge_non)))
    gss_nil)
    (gss_cons (gs_asg (gr_p (ge_lc rfl sc.nd (gi_seq (ge_var 1)) (blkOk_by (own := [("part", 5)]) (by rfl)) (by decide) (fun _ _ _ _ _ => (gg_name 5 sc.nd)) (fun _ _ _ _ _ => gts_nil) (fun _ _ _ _ _ => (ge_mt PySem.F.plainAttrs_str PySem.F.slot_str_index PySem.F.type_str_index mt_indexS (ge_const hc_FIGURES) (ga_cons (ge_var 5) ga_nil))))) (gg_lst rfl (ggs_cons (gg_name 2 sc.nd) (ggs_cons (gg_name 3 sc.nd) (ggs_cons (gg_name 4 sc.nd) ggs_nil)))))
    (gss_one (gs_ret (gr_p (ge_if (gt_w (gw_and (gt_cmp (d_lt hr.units) (ge_callB (d_max2 rfl) (by rfl) (hb "max" (by decide)) bb_max (ga_cons (ge_var 2) (ga_cons (ge_var 3) ga_nil))) (ge_const hc_MOST_STANDS) rfl) (gw_and1 (gt_chain (d_le hr.units) (d_le hr.units) ge_int (ge_var 4) (ge_const hc_LONGEST))))) (ge_tup (ga_cons (ge_var 2) (ga_cons (ge_var 3) (ga_cons (ge_var 4) ga_nil)))) ge_non)))))))
abbrev s_kinds_in : Stmt := topS 22
abbrev n_kinds_in : List Str := ["words", "word"]
theorem sc_kinds_in : FnScope n_kinds_in ["words"] (defScope s_kinds_in) := ⟨rfl, rfl, rfl, by decide +kernel, rfl, by decide +kernel, by decide +kernel⟩
def w_kinds_in : WS := wSeq (wIf (bP (qOr (qNot (qB (pCh leD leD (lit (.int 1)) (pCall lenD (aCons (var 0) (aNil))) (lit c_MOST_STANDS)))) (qB (pOp neD (pLc [1] (jQ (var 0)) (tgN 1) (qB (pOp ninD (var 1) (lit c_KINDS))) (var 1)) (pLst (aNil)))))) (wRet (cP (lit .none))) (wSkip)) (wRet (cP (pCall tupleD (aCons (var 0) (aNil)))))
theorem b_kinds_in {P : Program} {w : World} {K : PySem.W.Frag} {mg : Str → Option Value} {base : Heap} (hb : ∀ x ∈ bl, mg x = none) (hc_MOST_STANDS : HasC K mg "MOST_STANDS" c_MOST_STANDS) (hc_KINDS : HasC K mg "KINDS" c_KINDS)  : BodyOk P w K mg base n_kinds_in "kinds_in" s_kinds_in 0 w_kinds_in := by
  intro f cdv A outer s H E hr
  have sc := sc_kinds_in
  exact (gss_cons (gs_if (grb_p (gt_w (gw_or (gt_not (gt_chain (d_le hr.units) (d_le hr.units) ge_int (ge_callB d_len (by rfl) (hb "len" (by decide)) bb_len (ga_cons (ge_var 0) ga_nil)) (ge_const hc_MOST_STANDS))) (gw_or1 (gt_cmp (d_ne hr.units) (ge_lc rfl sc.nd (gi_seq (ge_var 0)) (blkOk_by (own := [("word", 1)]) (by rfl)) (by decide) (fun _ _ _ _ _ => (gg_name 1 sc.nd)) (fun _ _ _ _ _ => (gts_one (gt_cmp (d_nin hr.units) (ge_var 1) (ge_const hc_KINDS) rfl))) (fun _ _ _ _ _ => (ge_var 1))) (ge_lst ga_nil) rfl)))))
    (gss_one (gs_ret (gr_p ge_non)))
    gss_nil)
    (gss_one (gs_ret (gr_p (ge_callTy d_tuple (by rfl) (hb "tuple" (by decide)) bb_tuple (ga_cons (ge_var 0) ga_nil))))))
abbrev s_court_of : Stmt := topS 26
abbrev n_court_of : List Str := ["court", "stretch"]
theorem sc_court_of : FnScope n_court_of ["court"] (defScope s_court_of) := ⟨rfl, rfl, rfl, by decide +kernel, rfl, by decide +kernel, by decide +kernel⟩
def w_court_of : WS := wRet (cP (pM "str" joinD (lit (.str " ")) (aCons (pLc [1] (jQ (var 0)) (tgN 1) (qYes) (pIf (qB (pOp neD (var 1) (lit (.str "")))) (var 1) (lit (.str "-")))) (aNil))))
theorem b_court_of {P : Program} {w : World} {K : PySem.W.Frag} {mg : Str → Option Value} {base : Heap}    : BodyOk P w K mg base n_court_of "court_of" s_court_of 0 w_court_of := by
  intro f cdv A outer s H E hr
  have sc := sc_court_of
  exact (gss_one (gs_ret (gr_p (ge_mt PySem.F.plainAttrs_str PySem.F.slot_str_join PySem.F.type_str_join mt_joinD ge_str (ga_cons (ge_lc rfl sc.nd (gi_seq (ge_var 0)) (blkOk_by (own := [("stretch", 1)]) (by rfl)) (by decide) (fun _ _ _ _ _ => (gg_name 1 sc.nd)) (fun _ _ _ _ _ => gts_nil) (fun _ _ _ _ _ => (ge_if (gt_cmp (d_ne hr.units) (ge_var 1) ge_str rfl) (ge_var 1) ge_str))) ga_nil)))))
abbrev s__law_chest_of : Stmt := topS 32
abbrev n__law_chest_of : List Str := ["script", "k", "cell"]
theorem sc__law_chest_of : FnScope n__law_chest_of ["script", "k"] (defScope s__law_chest_of) := ⟨rfl, rfl, rfl, by decide +kernel, rfl, by decide +kernel, by decide +kernel⟩
def w__law_chest_of : WS := wSeq (wSet 2 (cP (pOp addD (pOp mulD (lit (.int 28013)) (var 1)) (lit (.int 89))))) (wSeq (wIf (bP (qB (pOp ltD (var 1) (pCall lenD (aCons (var 0) (aNil)))))) (wSet 2 (cP (pOp modD (pCall absD (aCons (pCall intD (aCons (pOp ixD (var 0) (var 1)) (aNil))) (aNil))) (pOp mulD (pOp mulD (pOp mulD (pOp powD (lit (.int 10)) (lit (.int 60))) (pOp powD (lit (.int 10)) (lit (.int 60)))) (pOp powD (lit (.int 10)) (lit (.int 60)))) (pOp powD (lit (.int 10)) (lit (.int 60))))))) (wIf (bP (qB (pOp gtD (pCall lenD (aCons (var 0) (aNil))) (lit (.int 0))))) (wSet 2 (cP (pOp addD (var 2) (pOp modD (pCall absD (aCons (pCall intD (aCons (pOp ixD (var 0) (lit (.int 0))) (aNil))) (aNil))) (lit (.int 1000403)))))) (wSkip))) (wRet (cLst (lCons (cP (pIf (qB (pOp geD (var 2) (pOp powD (lit (.int 10)) (lit (.int 18))))) (var 2) (lit (.int 0)))) (lCons (cP (pOp addD (pOp modD (pCall intD (aCons (pOp addD (pOp addD (pOp mulD (pOp modD (var 2) (lit (.int 2147482801))) (lit (.int 29))) (pOp mulD (lit (.int 109)) (var 1))) (lit (.int 67))) (aNil))) (lit (.int 2147482801))) (lit (.int 1)))) (lNil))))))
theorem b__law_chest_of {P : Program} {w : World} {K : PySem.W.Frag} {mg : Str → Option Value} {base : Heap} (hb : ∀ x ∈ bl, mg x = none)   : BodyOk P w K mg base n__law_chest_of "_law_chest_of" s__law_chest_of 0 w__law_chest_of := by
  intro f cdv A outer s H E hr
  have sc := sc__law_chest_of
  exact (gss_cons (gs_set 2 (gr_p (ge_op d_add (ge_op d_mul ge_int (ge_var 1)) ge_int)) sc.nd)
    (gss_cons (gs_if (grb_p (gt_cmp (d_lt hr.units) (ge_var 1) (ge_callB d_len (by rfl) (hb "len" (by decide)) bb_len (ga_cons (ge_var 0) ga_nil)) rfl))
    (gss_one (gs_set 2 (gr_p (ge_op d_mod (ge_callB d_abs (by rfl) (hb "abs" (by decide)) bb_abs (ga_cons (ge_callTy d_int (by rfl) (hb "int" (by decide)) bb_int (ga_cons (ge_sub d_ix (ge_var 0) (ge_var 1) (fun _ _ => rfl)) ga_nil)) ga_nil)) (ge_op d_mul (ge_op d_mul (ge_op d_mul (ge_op d_pow ge_int ge_int) (ge_op d_pow ge_int ge_int)) (ge_op d_pow ge_int ge_int)) (ge_op d_pow ge_int ge_int)))) sc.nd))
    (gss_one (gs_if (grb_p (gt_cmp (d_gt hr.units) (ge_callB d_len (by rfl) (hb "len" (by decide)) bb_len (ga_cons (ge_var 0) ga_nil)) ge_int rfl))
    (gss_one (gs_set 2 (gr_p (ge_op d_add (ge_var 2) (ge_op d_mod (ge_callB d_abs (by rfl) (hb "abs" (by decide)) bb_abs (ga_cons (ge_callTy d_int (by rfl) (hb "int" (by decide)) bb_int (ga_cons (ge_sub d_ix (ge_var 0) ge_int (fun _ _ => rfl)) ga_nil)) ga_nil)) ge_int))) sc.nd))
    gss_nil)))
    (gss_one (gs_ret (gr_lst (gra_cons (gr_p (ge_if (gt_cmp (d_ge hr.units) (ge_var 2) (ge_op d_pow ge_int ge_int) rfl) (ge_var 2) ge_int)) (gra_cons (gr_p (ge_op d_add (ge_op d_mod (ge_callTy d_int (by rfl) (hb "int" (by decide)) bb_int (ga_cons (ge_op d_add (ge_op d_add (ge_op d_mul (ge_op d_mod (ge_var 2) ge_int) ge_int) (ge_op d_mul ge_int (ge_var 1))) ge_int) ga_nil)) ge_int) ge_int)) gra_nil)))))))
abbrev s__law_lot : Stmt := topS 33
abbrev n__law_lot : List Str := ["chest", "many", "found", "wide"]
theorem sc__law_lot : FnScope n__law_lot ["chest", "many"] (defScope s__law_lot) := ⟨rfl, rfl, rfl, by decide +kernel, rfl, by decide +kernel, by decide +kernel⟩
def w__law_lot_l1 : WS := wSeq (wSetIx 0 (lit (.int 1)) (cV (pOp modD (pCall intD (aCons (pOp addD (pOp mulD (pOp ixD (var 0) (lit (.int 1))) (lit (.int 16903))) (lit (.int 127))) (aNil))) (lit (.int 2147482801))))) (wSeq (wSet 2 (cV (pOp addD (pOp mulD (var 2) (lit (.int 8192))) (pOp modD (pCall intD (aCons (pOp fdivD (pOp ixD (var 0) (lit (.int 1))) (lit (.int 65713))) (aNil))) (lit (.int 8192)))))) (wSet 3 (cP (pOp mulD (var 3) (lit (.int 8192))))))
def w__law_lot : WS := wSeq (wIf (bP (qB (pOp gtD (pOp ixD (var 0) (lit (.int 0))) (lit (.int 0))))) (wSeq (wSet 2 (cV (pOp modD (pCall intD (aCons (pOp ixD (var 0) (lit (.int 0))) (aNil))) (var 1)))) (wSeq (wSetIx 0 (lit (.int 0)) (cV (pOp fdivD (pOp ixD (var 0) (lit (.int 0))) (var 1)))) (wRet (cP (var 2))))) (wSkip)) (wSeq (wAsg (tgT 2 (tgsCons (tgN 2) (tgsCons (tgN 3) (tgsNil)))) (cP (pTup (aCons (lit (.int 0)) (aCons (lit (.int 1)) (aNil)))))) (wSeq (wWhile (bP (qOr (qB (pOp ltD (var 3) (var 1))) (qB (pOp eqD (var 3) (lit (.int 1)))))) (w__law_lot_l1)) (wRet (cP (pOp modD (pCall intD (aCons (var 2) (aNil))) (var 1))))))
theorem b__law_lot {P : Program} {w : World} {K : PySem.W.Frag} {mg : Str → Option Value} {base : Heap} (hb : ∀ x ∈ bl, mg x = none)   : BodyOk P w K mg base n__law_lot "_law_lot" s__law_lot 0 w__law_lot := by
  intro f cdv A outer s H E hr
  have sc := sc__law_lot
  exact (gss_cons (gs_if (grb_p (gt_cmp (d_gt hr.units) (ge_sub d_ix (ge_var 0) ge_int (fun _ _ => rfl)) ge_int rfl))
    (gss_cons (gs_set 2 (gr_v (ge_op d_mod (ge_callTy d_int (by rfl) (hb "int" (by decide)) bb_int (ga_cons (ge_sub d_ix (ge_var 0) ge_int (fun _ _ => rfl)) ga_nil)) (ge_var 1))) sc.nd)
    (gss_cons (gs_setIx 0 (pv 0) ge_int (gr_v (ge_op d_fdiv (ge_sub d_ix (ge_var 0) ge_int (fun _ _ => rfl)) (ge_var 1))))
    (gss_one (gs_ret (gr_p (ge_var 2))))))
    gss_nil)
    (gss_cons (gs_asg (gr_p (ge_tup (ga_cons ge_int (ga_cons ge_int ga_nil)))) (gg_tup rfl (ggs_cons (gg_name 2 sc.nd) (ggs_cons (gg_name 3 sc.nd) ggs_nil))))
    (gss_cons (gs_while PassesOwn.never (grb_p (gt_w (gw_or (gt_cmp (d_lt hr.units) (ge_var 3) (ge_var 1) rfl) (gw_or1 (gt_cmp (d_eq hr.units) (ge_var 3) ge_int rfl)))))
    (gss_cons (gs_setIx 0 (pv 0) ge_int (gr_v (ge_op d_mod (ge_callTy d_int (by rfl) (hb "int" (by decide)) bb_int (ga_cons (ge_op d_add (ge_op d_mul (ge_sub d_ix (ge_var 0) ge_int (fun _ _ => rfl)) ge_int) ge_int) ga_nil)) ge_int)))
    (gss_cons (gs_set 2 (gr_v (ge_op d_add (ge_op d_mul (ge_var 2) ge_int) (ge_op d_mod (ge_callTy d_int (by rfl) (hb "int" (by decide)) bb_int (ga_cons (ge_op d_fdiv (ge_sub d_ix (ge_var 0) ge_int (fun _ _ => rfl)) ge_int) ga_nil)) ge_int))) sc.nd)
    (gss_one (gs_set 3 (gr_p (ge_op d_mul (ge_var 3) ge_int)) sc.nd)))))
    (gss_one (gs_ret (gr_p (ge_op d_mod (ge_callTy d_int (by rfl) (hb "int" (by decide)) bb_int (ga_cons (ge_var 2) ga_nil)) (ge_var 1))))))))
abbrev s__law_all_hops : Stmt := topS 36
abbrev n__law_all_hops : List Str := ["many", "found", "before", "behind", "length"]
theorem sc__law_all_hops : FnScope n__law_all_hops ["many"] (defScope s__law_all_hops) := ⟨rfl, rfl, rfl, by decide +kernel, rfl, by decide +kernel, by decide +kernel⟩
def w__law_all_hops_l1 : WS := wSet 1 (cP (pOp addD (var 1) (pLc [4] (jQ (pLst (aCons (lit (.int 1)) (aCons (lit (.int 2)) (aCons (lit (.int 3)) (aNil)))))) (tgN 4) (qYes) (pTup (aCons (var 2) (aCons (var 3) (aCons (var 4) (aNil))))))))
def w__law_all_hops_l2 : WS := wFor (lP (jR1 (aCons (var 0) (aNil)))) (tgN 3) (w__law_all_hops_l1)
def w__law_all_hops : WS := wSeq (wSet 1 (cP (pLst (aNil)))) (wSeq (wFor (lP (jR1 (aCons (var 0) (aNil)))) (tgN 2) (w__law_all_hops_l2)) (wRet (cP (var 1))))
theorem b__law_all_hops {P : Program} {w : World} {K : PySem.W.Frag} {mg : Str → Option Value} {base : Heap} (hb : ∀ x ∈ bl, mg x = none)   : BodyOk P w K mg base n__law_all_hops "_law_all_hops" s__law_all_hops 0 w__law_all_hops := by
  intro f cdv A outer s H E hr
  have sc := sc__law_all_hops
  exact (gss_cons (gs_set 1 (gr_p (ge_lst ga_nil)) sc.nd)
    (gss_cons (gs_for PassesOwn.never rfl (gri_p (gi_range1 (hb "range" (by decide)) (ga_cons (ge_var 0) ga_nil))) (gg_name 2 sc.nd)
    (gss_one (gs_for PassesOwn.never rfl (gri_p (gi_range1 (hb "range" (by decide)) (ga_cons (ge_var 0) ga_nil))) (gg_name 3 sc.nd)
    (gss_one (gs_set 1 (gr_p (ge_op d_add (ge_var 1) (ge_lc rfl sc.nd (gi_seq (ge_lst (ga_cons ge_int (ga_cons ge_int (ga_cons ge_int ga_nil))))) (blkOk_by (own := [("length", 4)]) (by rfl)) (by decide) (fun _ _ _ _ _ => (gg_name 4 sc.nd)) (fun _ _ _ _ _ => gts_nil) (fun _ _ _ _ _ => (ge_tup (ga_cons (ge_var 2) (ga_cons (ge_var 3) (ga_cons (ge_var 4) ga_nil)))))))) sc.nd)))))
    (gss_one (gs_ret (gr_p (ge_var 1))))))
abbrev s__law_written : Stmt := topS 39
abbrev n__law_written : List Str := ["rules", "hops", "lines", "number", "hop"]
theorem sc__law_written : FnScope n__law_written ["rules"] (defScope s__law_written) := ⟨rfl, rfl, rfl, by decide +kernel, rfl, by decide +kernel, by decide +kernel⟩
def w__law_written : WS := wSeq (wSet 1 (cP (pLc [4] (jQ (pOp ixD (var 0) (lit (.int 1)))) (tgN 4) (qYes) (pM "str" joinD (lit (.str "-")) (aCons (pLc [3] (jQ (var 4)) (tgN 3) (qYes) (pCall strD (aCons (var 3) (aNil)))) (aNil)))))) (wSeq (wSet 2 (cP (pLst (aCons (pOp addD (lit (.str "stands ")) (pM "str" joinD (lit (.str " ")) (aCons (pOp ixD (var 0) (lit (.int 0))) (aNil)))) (aCons (pOp addD (lit (.str "hops ")) (pM "str" joinD (lit (.str " ")) (aCons (var 1) (aNil)))) (aNil)))))) (wRet (cP (pM "str" joinD (lit (.str "\n")) (aCons (pOp addD (var 2) (pLst (aCons (pOp addD (lit (.str "arm ")) (pCall strD (aCons (pOp ixD (var 0) (lit (.int 2))) (aNil)))) (aNil)))) (aNil))))))
theorem b__law_written {P : Program} {w : World} {K : PySem.W.Frag} {mg : Str → Option Value} {base : Heap} (hb : ∀ x ∈ bl, mg x = none)   : BodyOk P w K mg base n__law_written "_law_written" s__law_written 0 w__law_written := by
  intro f cdv A outer s H E hr
  have sc := sc__law_written
  exact (gss_cons (gs_setLc 1 rfl sc.nd rfl rfl (sw_true rfl rfl rfl (by decide +kernel)) (gi_seq (ge_sub d_ix (ge_var 0) ge_int (fun _ _ => rfl))) (blkOk_by (own := [("hop", 4)]) (by rfl)) (by decide) (fun _ _ _ _ _ => (gg_name 4 sc.nd)) (fun _ _ _ _ _ => gts_nil) (fun _ _ _ _ _ => (ge_mt PySem.F.plainAttrs_str PySem.F.slot_str_join PySem.F.type_str_join mt_joinD ge_str (ga_cons (ge_lc rfl sc.nd (gi_seq (ge_var 4)) (blkOk_by (own := [("number", 3)]) (by rfl)) (by decide) (fun _ _ _ _ _ => (gg_name 3 sc.nd)) (fun _ _ _ _ _ => gts_nil) (fun _ _ _ _ _ => (ge_callTy d_str (by rfl) (hb "str" (by decide)) bb_str (ga_cons (ge_var 3) ga_nil)))) ga_nil))))
    (gss_cons (gs_set 2 (gr_p (ge_lst (ga_cons (ge_op d_add ge_str (ge_mt PySem.F.plainAttrs_str PySem.F.slot_str_join PySem.F.type_str_join mt_joinD ge_str (ga_cons (ge_sub d_ix (ge_var 0) ge_int (fun _ _ => rfl)) ga_nil))) (ga_cons (ge_op d_add ge_str (ge_mt PySem.F.plainAttrs_str PySem.F.slot_str_join PySem.F.type_str_join mt_joinD ge_str (ga_cons (ge_var 1) ga_nil))) ga_nil)))) sc.nd)
    (gss_one (gs_ret (gr_p (ge_mt PySem.F.plainAttrs_str PySem.F.slot_str_join PySem.F.type_str_join mt_joinD ge_str (ga_cons (ge_op d_add (ge_var 2) (ge_lst (ga_cons (ge_op d_add ge_str (ge_callTy d_str (by rfl) (hb "str" (by decide)) bb_str (ga_cons (ge_sub d_ix (ge_var 0) ge_int (fun _ _ => rfl)) ga_nil))) ga_nil))) ga_nil)))))))
abbrev s_is_hop : Stmt := topS 12
abbrev n_is_hop : List Str := ["many", "value"]
theorem sc_is_hop : FnScope n_is_hop ["many", "value"] (defScope s_is_hop) := ⟨rfl, rfl, rfl, by decide +kernel, rfl, by decide +kernel, by decide +kernel⟩
def w_is_hop : WS := wSeq (wIf (bP (qOr (qNot (qB (pI PyData.isTuple (var 1)))) (qB (pOp neD (pCall lenD (aCons (var 1) (aNil))) (lit (.int 3)))))) (wRet (cP (lit (.bool false)))) (wSkip)) (wRet (cP (pAnd (pCall p_is_int (aCons (pOp ixD (var 1) (lit (.int 0))) (aCons (lit (.int 0)) (aCons (pOp subD (var 0) (lit (.int 1))) (aNil))))) (pAnd (pCall p_is_int (aCons (pOp ixD (var 1) (lit (.int 1))) (aCons (lit (.int 0)) (aCons (pOp subD (var 0) (lit (.int 1))) (aNil))))) (pCall p_is_int (aCons (pOp ixD (var 1) (lit (.int 2))) (aCons (lit (.int 1)) (aCons (lit c_LONGEST) (aNil)))))))))
theorem b_is_hop {P : Program} {w : World} {K : PySem.W.Frag} {mg : Str → Option Value} {base : Heap} (hb : ∀ x ∈ bl, mg x = none) (hc_LONGEST : HasC K mg "LONGEST" c_LONGEST) (h_is_int : H_is_int P w K mg base) : BodyOk P w K mg base n_is_hop "is_hop" s_is_hop 1 w_is_hop := by
  intro f cdv A outer s H E hr
  have sc := sc_is_hop
  exact (gss_cons (gs_if (grb_p (gt_w (gw_or (gt_not (gt_val (ge_isa isa_tuple (hb "isinstance" (by decide)) (hb "tuple" (by decide)) (ge_var 1) bb_tuple))) (gw_or1 (gt_cmp (d_ne hr.units) (ge_callB d_len (by rfl) (hb "len" (by decide)) bb_len (ga_cons (ge_var 1) ga_nil)) ge_int rfl)))))
    (gss_one (gs_ret (gr_p ge_bl)))
    gss_nil)
    (gss_one (gs_ret (gr_p (ge_and (ge_call h_is_int (hr.mono (by decide)) rfl p_is_int_len (ga_cons (ge_sub d_ix (ge_var 1) ge_int (fun _ _ => rfl)) (ga_cons ge_int (ga_cons (ge_op d_sub (ge_var 0) ge_int) ga_nil)))) (ge_and (ge_call h_is_int (hr.mono (by decide)) rfl p_is_int_len (ga_cons (ge_sub d_ix (ge_var 1) ge_int (fun _ _ => rfl)) (ga_cons ge_int (ga_cons (ge_op d_sub (ge_var 0) ge_int) ga_nil)))) (ge_one (ge_call h_is_int (hr.mono (by decide)) rfl p_is_int_len (ga_cons (ge_sub d_ix (ge_var 1) ge_int (fun _ _ => rfl)) (ga_cons ge_int (ga_cons (ge_const hc_LONGEST) ga_nil)))))))))))
abbrev s_is_laid : Stmt := topS 15
abbrev n_is_laid : List Str := ["value"]
theorem sc_is_laid : FnScope n_is_laid ["value"] (defScope s_is_laid) := ⟨rfl, rfl, rfl, by decide +kernel, rfl, by decide +kernel, by decide +kernel⟩
def w_is_laid : WS := wSeq (wIf (bP (qOr (qNot (qB (pI PyData.isTuple (var 0)))) (qB (pOp neD (pCall lenD (aCons (var 0) (aNil))) (lit (.int 3)))))) (wRet (cP (lit (.bool false)))) (wSkip)) (wRet (cP (pAnd (pCall p_is_stretch (aCons (pOp ixD (var 0) (lit (.int 0))) (aCons (lit (.int 0)) (aNil)))) (pAnd (pCall p_is_stretch (aCons (pOp ixD (var 0) (lit (.int 1))) (aCons (lit (.int 1)) (aNil)))) (pCall p_is_stretch (aCons (pOp ixD (var 0) (lit (.int 2))) (aCons (lit (.int 0)) (aNil))))))))
theorem b_is_laid {P : Program} {w : World} {K : PySem.W.Frag} {mg : Str → Option Value} {base : Heap} (hb : ∀ x ∈ bl, mg x = none)  (h_is_stretch : H_is_stretch P w K mg base) : BodyOk P w K mg base n_is_laid "is_laid" s_is_laid 1 w_is_laid := by
  intro f cdv A outer s H E hr
  have sc := sc_is_laid
  exact (gss_cons (gs_if (grb_p (gt_w (gw_or (gt_not (gt_val (ge_isa isa_tuple (hb "isinstance" (by decide)) (hb "tuple" (by decide)) (ge_var 0) bb_tuple))) (gw_or1 (gt_cmp (d_ne hr.units) (ge_callB d_len (by rfl) (hb "len" (by decide)) bb_len (ga_cons (ge_var 0) ga_nil)) ge_int rfl)))))
    (gss_one (gs_ret (gr_p ge_bl)))
    gss_nil)
    (gss_one (gs_ret (gr_p (ge_and (ge_call h_is_stretch (hr.mono (by decide)) rfl p_is_stretch_len (ga_cons (ge_sub d_ix (ge_var 0) ge_int (fun _ _ => rfl)) (ga_cons ge_int ga_nil))) (ge_and (ge_call h_is_stretch (hr.mono (by decide)) rfl p_is_stretch_len (ga_cons (ge_sub d_ix (ge_var 0) ge_int (fun _ _ => rfl)) (ga_cons ge_int ga_nil))) (ge_one (ge_call h_is_stretch (hr.mono (by decide)) rfl p_is_stretch_len (ga_cons (ge_sub d_ix (ge_var 0) ge_int (fun _ _ => rfl)) (ga_cons ge_int ga_nil))))))))))
abbrev s_hops_in : Stmt := topS 23
abbrev n_hops_in : List Str := ["words", "hops", "word"]
theorem sc_hops_in : FnScope n_hops_in ["words"] (defScope s_hops_in) := ⟨rfl, rfl, rfl, by decide +kernel, rfl, by decide +kernel, by decide +kernel⟩
def w_hops_in : WS := wSeq (wSet 1 (cP (pLc [2] (jQ (var 0)) (tgN 2) (qYes) (pCall p_hop_in (aCons (var 2) (aNil)))))) (wSeq (wIf (bP (qOr (qNot (qB (pCh leD leD (lit (.int 1)) (pCall lenD (aCons (var 1) (aNil))) (lit c_MOST_HOPS)))) (qOr (qB (pOp inD (lit .none) (var 1))) (qB (pOp neD (var 1) (pSS (var 1))))))) (wRet (cP (lit .none))) (wSkip)) (wRet (cP (pCall tupleD (aCons (var 1) (aNil))))))
theorem b_hops_in {P : Program} {w : World} {K : PySem.W.Frag} {mg : Str → Option Value} {base : Heap} (hb : ∀ x ∈ bl, mg x = none) (hc_MOST_HOPS : HasC K mg "MOST_HOPS" c_MOST_HOPS) (h_hop_in : H_hop_in P w K mg base) : BodyOk P w K mg base n_hops_in "hops_in" s_hops_in 1 w_hops_in := by
  intro f cdv A outer s H E hr
  have sc := sc_hops_in
  exact (gss_cons (gs_setLc 1 rfl sc.nd rfl rfl (sw_true rfl rfl rfl (by decide +kernel)) (gi_seq (ge_var 0)) (blkOk_by (own := [("word", 2)]) (by rfl)) (by decide) (fun _ _ _ _ _ => (gg_name 2 sc.nd)) (fun _ _ _ _ _ => gts_nil) (fun _ _ _ _ _ => (ge_call h_hop_in (hr.mono (by decide)) rfl p_hop_in_len (ga_cons (ge_var 2) ga_nil))))
    (gss_cons (gs_if (grb_p (gt_w (gw_or (gt_not (gt_chain (d_le hr.units) (d_le hr.units) ge_int (ge_callB d_len (by rfl) (hb "len" (by decide)) bb_len (ga_cons (ge_var 1) ga_nil)) (ge_const hc_MOST_HOPS))) (gw_or (gt_cmp (d_in hr.units) ge_non (ge_var 1) rfl) (gw_or1 (gt_cmp (d_ne hr.units) (ge_var 1) (ge_sortset rfl hr.units (hb "sorted" (by decide)) (hb "set" (by decide)) (ge_var 1)) rfl))))))
    (gss_one (gs_ret (gr_p ge_non)))
    gss_nil)
    (gss_one (gs_ret (gr_p (ge_callTy d_tuple (by rfl) (hb "tuple" (by decide)) bb_tuple (ga_cons (ge_var 1) ga_nil)))))))
abbrev s__law_one : Stmt := topS 34
abbrev n__law_one : List Str := ["chest", "things"]
theorem sc__law_one : FnScope n__law_one ["chest", "things"] (defScope s__law_one) := ⟨rfl, rfl, rfl, by decide +kernel, rfl, by decide +kernel, by decide +kernel⟩
def w__law_one : WS := wRet (cOp ixD (cP (var 1)) (cI q__law_lot 0 (lCons (cP (pCall lenD (aCons (var 1) (aNil)))) (lNil))))
theorem b__law_one {P : Program} {w : World} {K : PySem.W.Frag} {mg : Str → Option Value} {base : Heap} (hb : ∀ x ∈ bl, mg x = none)  (h__law_lot : H__law_lot P w K mg base) : BodyOk P w K mg base n__law_one "_law_one" s__law_one 1 w__law_one := by
  intro f cdv A outer s H E hr
  have sc := sc__law_one
  exact (gss_one (gs_ret (gr_sub d_ix (gr_p (ge_var 1)) (gr_callI 0 h__law_lot (hr.mono (by decide)) (fun _ => pass0At) q__law_lot_len (pv 0) (gra_cons (gr_p (ge_callB d_len (by rfl) (hb "len" (by decide)) bb_len (ga_cons (ge_var 1) ga_nil))) gra_nil)) (fun _ _ => rfl))))
abbrev s__law_shuffled : Stmt := topS 35
abbrev n__law_shuffled : List Str := ["chest", "things", "left", "found", "at"]
theorem sc__law_shuffled : FnScope n__law_shuffled ["chest", "things"] (defScope s__law_shuffled) := ⟨rfl, rfl, rfl, by decide +kernel, rfl, by decide +kernel, by decide +kernel⟩
def w__law_shuffled_l1 : WS := wSeq (wSet 4 (cI q__law_lot 0 (lCons (cP (pCall lenD (aCons (var 2) (aNil)))) (lNil)))) (wSeq (wSet 3 (cP (pOp addD (var 3) (pLst (aCons (pOp ixD (var 2) (var 4)) (aNil)))))) (wSet 2 (cP (pOp addD (pSl slD (var 2) (oNone) (oSome (var 4))) (pSl slD (var 2) (oSome (pOp addD (var 4) (lit (.int 1)))) (oNone))))))
def w__law_shuffled : WS := wSeq (wPar 2 3 (lCons (cP (pCall listD (aCons (var 1) (aNil)))) (lCons (cP (pLst (aNil))) (lNil)))) (wSeq (wWhile (bP (qB (pOp neD (var 2) (pLst (aNil))))) (w__law_shuffled_l1)) (wRet (cP (var 3))))
theorem b__law_shuffled {P : Program} {w : World} {K : PySem.W.Frag} {mg : Str → Option Value} {base : Heap} (hb : ∀ x ∈ bl, mg x = none)  (h__law_lot : H__law_lot P w K mg base) : BodyOk P w K mg base n__law_shuffled "_law_shuffled" s__law_shuffled 1 w__law_shuffled := by
  intro f cdv A outer s H E hr
  have sc := sc__law_shuffled
  exact (gss_cons (gs_par 2 3 (gra_cons (gr_p (ge_callTy d_list (by rfl) (hb "list" (by decide)) bb_list (ga_cons (ge_var 1) ga_nil))) (gra_cons (gr_p (ge_lst ga_nil)) gra_nil)) rfl sc.nd)
    (gss_cons (gs_while PassesOwn.never (grb_p (gt_cmp (d_ne hr.units) (ge_var 2) (ge_lst ga_nil) rfl))
    (gss_cons (gs_set 4 (gr_callI 0 h__law_lot (hr.mono (by decide)) (fun _ => pass0At) q__law_lot_len (pv 0) (gra_cons (gr_p (ge_callB d_len (by rfl) (hb "len" (by decide)) bb_len (ga_cons (ge_var 2) ga_nil))) gra_nil)) sc.nd)
    (gss_cons (gs_set 3 (gr_p (ge_op d_add (ge_var 3) (ge_lst (ga_cons (ge_sub d_ix (ge_var 2) (ge_var 4) (fun _ _ => rfl)) ga_nil)))) sc.nd)
    (gss_one (gs_set 2 (gr_p (ge_op d_add (ge_slice d_sl (ge_var 2) go_none (go_some (ge_var 4))) (ge_slice d_sl (ge_var 2) (go_some (ge_op d_add (ge_var 4) ge_int)) go_none))) sc.nd)))))
    (gss_one (gs_ret (gr_p (ge_var 3))))))
abbrev s_fits : Stmt := topS 13
abbrev n_fits : List Str := ["value", "kinds", "hops", "kind", "hop"]
theorem sc_fits : FnScope n_fits ["value"] (defScope s_fits) := ⟨rfl, rfl, rfl, by decide +kernel, rfl, by decide +kernel, by decide +kernel⟩
def w_fits : WS := wSeq (wIf (bP (qOr (qNot (qB (pI PyData.isTuple (var 0)))) (qOr (qB (pOp neD (pCall lenD (aCons (var 0) (aNil))) (lit (.int 3)))) (qNot (qB (pCall p_is_int (aCons (pOp ixD (var 0) (lit (.int 2))) (aCons (lit (.int 1)) (aCons (lit (.int 2)) (aNil)))))))))) (wRet (cP (lit (.bool false)))) (wSkip)) (wSeq (wAsg (tgT 2 (tgsCons (tgN 1) (tgsCons (tgN 2) (tgsNil)))) (cP (pSl slD (var 0) (oNone) (oSome (lit (.int 2)))))) (wSeq (wIf (bP (qOr (qNot (qB (pI PyData.isTuple (var 1)))) (qNot (qB (pCh leD leD (lit (.int 1)) (pCall lenD (aCons (var 1) (aNil))) (lit c_MOST_STANDS)))))) (wRet (cP (lit (.bool false)))) (wSkip)) (wSeq (wIf (bP (qB (pOp neD (pLc [3] (jQ (var 1)) (tgN 3) (qOr (qNot (qB (pI PyData.isStr (var 3)))) (qB (pOp ninD (var 3) (lit c_KINDS)))) (var 3)) (pLst (aNil))))) (wRet (cP (lit (.bool false)))) (wSkip)) (wSeq (wIf (bP (qOr (qNot (qB (pI PyData.isTuple (var 2)))) (qNot (qB (pCh leD leD (lit (.int 1)) (pCall lenD (aCons (var 2) (aNil))) (lit c_MOST_HOPS)))))) (wRet (cP (lit (.bool false)))) (wSkip)) (wSeq (wIf (bP (qB (pOp neD (pLc [4] (jQ (var 2)) (tgN 4) (qNot (qB (pCall p_is_hop (aCons (pCall lenD (aCons (var 1) (aNil))) (aCons (var 4) (aNil)))))) (var 4)) (pLst (aNil))))) (wRet (cP (lit (.bool false)))) (wSkip)) (wRet (cP (pOp eqD (pCall listD (aCons (var 2) (aNil))) (pSS (var 2))))))))))
theorem b_fits {P : Program} {w : World} {K : PySem.W.Frag} {mg : Str → Option Value} {base : Heap} (hb : ∀ x ∈ bl, mg x = none) (hc_MOST_STANDS : HasC K mg "MOST_STANDS" c_MOST_STANDS) (hc_KINDS : HasC K mg "KINDS" c_KINDS) (hc_MOST_HOPS : HasC K mg "MOST_HOPS" c_MOST_HOPS) (h_is_int : H_is_int P w K mg base) (h_is_hop : H_is_hop P w K mg base) : BodyOk P w K mg base n_fits "fits" s_fits 2 w_fits := by
  intro f cdv A outer s H E hr
  have sc := sc_fits
  exact (gss_cons (gs_if (grb_p (gt_w (gw_or (gt_not (gt_val (ge_isa isa_tuple (hb "isinstance" (by decide)) (hb "tuple" (by decide)) (ge_var 0) bb_tuple))) (gw_or (gt_cmp (d_ne hr.units) (ge_callB d_len (by rfl) (hb "len" (by decide)) bb_len (ga_cons (ge_var 0) ga_nil)) ge_int rfl) (gw_or1 (gt_not (gt_val (ge_call h_is_int (hr.mono (by decide)) rfl p_is_int_len (ga_cons (ge_sub d_ix (ge_var 0) ge_int (fun _ _ => rfl)) (ga_cons ge_int (ga_cons ge_int ga_nil)))))))))))
    (gss_one (gs_ret (gr_p ge_bl)))
    gss_nil)
    (gss_cons (gs_asg (gr_p (ge_slice d_sl (ge_var 0) go_none (go_some ge_int))) (gg_tup rfl (ggs_cons (gg_name 1 sc.nd) (ggs_cons (gg_name 2 sc.nd) ggs_nil))))
    (gss_cons (gs_if (grb_p (gt_w (gw_or (gt_not (gt_val (ge_isa isa_tuple (hb "isinstance" (by decide)) (hb "tuple" (by decide)) (ge_var 1) bb_tuple))) (gw_or1 (gt_not (gt_chain (d_le hr.units) (d_le hr.units) ge_int (ge_callB d_len (by rfl) (hb "len" (by decide)) bb_len (ga_cons (ge_var 1) ga_nil)) (ge_const hc_MOST_STANDS)))))))
    (gss_one (gs_ret (gr_p ge_bl)))
    gss_nil)
    (gss_cons (gs_if (grb_p (gt_cmp (d_ne hr.units) (ge_lc rfl sc.nd (gi_seq (ge_var 1)) (blkOk_by (own := [("kind", 3)]) (by rfl)) (by decide) (fun _ _ _ _ _ => (gg_name 3 sc.nd)) (fun _ _ _ _ _ => (gts_one (gt_w (gw_or (gt_not (gt_val (ge_isa isa_str (hb "isinstance" (by decide)) (hb "str" (by decide)) (ge_var 3) bb_str))) (gw_or1 (gt_cmp (d_nin hr.units) (ge_var 3) (ge_const hc_KINDS) rfl)))))) (fun _ _ _ _ _ => (ge_var 3))) (ge_lst ga_nil) rfl))
    (gss_one (gs_ret (gr_p ge_bl)))
    gss_nil)
    (gss_cons (gs_if (grb_p (gt_w (gw_or (gt_not (gt_val (ge_isa isa_tuple (hb "isinstance" (by decide)) (hb "tuple" (by decide)) (ge_var 2) bb_tuple))) (gw_or1 (gt_not (gt_chain (d_le hr.units) (d_le hr.units) ge_int (ge_callB d_len (by rfl) (hb "len" (by decide)) bb_len (ga_cons (ge_var 2) ga_nil)) (ge_const hc_MOST_HOPS)))))))
    (gss_one (gs_ret (gr_p ge_bl)))
    gss_nil)
    (gss_cons (gs_if (grb_p (gt_cmp (d_ne hr.units) (ge_lc rfl sc.nd (gi_seq (ge_var 2)) (blkOk_by (own := [("hop", 4)]) (by rfl)) (by decide) (fun _ _ _ _ _ => (gg_name 4 sc.nd)) (fun _ _ _ _ _ => (gts_one (gt_not (gt_val (ge_call h_is_hop (hr.mono (by decide)) rfl p_is_hop_len (ga_cons (ge_callB d_len (by rfl) (hb "len" (by decide)) bb_len (ga_cons (ge_var 1) ga_nil)) (ga_cons (ge_var 4) ga_nil))))))) (fun _ _ _ _ _ => (ge_var 4))) (ge_lst ga_nil) rfl))
    (gss_one (gs_ret (gr_p ge_bl)))
    gss_nil)
    (gss_one (gs_ret (gr_p (ge_cmp (d_eq hr.units) (ge_callTy d_list (by rfl) (hb "list" (by decide)) bb_list (ga_cons (ge_var 2) ga_nil)) (ge_sortset rfl hr.units (hb "sorted" (by decide)) (hb "set" (by decide)) (ge_var 2)) rfl))))))))))
abbrev s_need_court : Stmt := topS 17
abbrev n_need_court : List Str := ["value"]
theorem sc_need_court : FnScope n_need_court ["value"] (defScope s_need_court) := ⟨rfl, rfl, rfl, by decide +kernel, rfl, by decide +kernel, by decide +kernel⟩
def w_need_court : WS := wIf (bP (qNot (qB (pCall p_is_laid (aCons (var 0) (aNil)))))) (wNever) (wSkip)
theorem b_need_court {P : Program} {w : World} {K : PySem.W.Frag} {mg : Str → Option Value} {base : Heap}   (h_is_laid : H_is_laid P w K mg base) : BodyOk P w K mg base n_need_court "need_court" s_need_court 2 w_need_court := by
  intro f cdv A outer s H E hr
  have sc := sc_need_court
  exact (gss_one (gs_if (grb_p (gt_not (gt_val (ge_call h_is_laid (hr.mono (by decide)) rfl p_is_laid_len (ga_cons (ge_var 0) ga_nil)))))
    (gss_one gs_never)
    gss_nil))
abbrev s_line_in : Stmt := topS 24
abbrev n_line_in : List Str := ["line", "words", "found"]
theorem sc_line_in : FnScope n_line_in ["line"] (defScope s_line_in) := ⟨rfl, rfl, rfl, by decide +kernel, rfl, by decide +kernel, by decide +kernel⟩
def w_line_in : WS := wSeq (wSet 1 (cP (pM "str" splitD (var 0) (aCons (lit (.str " ")) (aNil))))) (wSeq (wIf (bP (qB (pOp eqD (pOp ixD (var 1) (lit (.int 0))) (lit (.str "stands"))))) (wSet 2 (cP (pCall p_kinds_in (aCons (pSl slD (var 1) (oSome (lit (.int 1))) (oNone)) (aNil))))) (wIf (bP (qB (pOp eqD (pOp ixD (var 1) (lit (.int 0))) (lit (.str "hops"))))) (wSet 2 (cP (pCall p_hops_in (aCons (pSl slD (var 1) (oSome (lit (.int 1))) (oNone)) (aNil))))) (wSet 2 (cP (pDG "arm 1" "arm 2" (.int 1) (.int 2) (var 0) (lit .none)))))) (wRet (cP (pIf (qB (pOp isD (var 2) (lit .none))) (lit .none) (pTup (aCons (pOp ixD (var 1) (lit (.int 0))) (aCons (var 2) (aNil))))))))
theorem b_line_in {P : Program} {w : World} {K : PySem.W.Frag} {mg : Str → Option Value} {base : Heap}   (h_kinds_in : H_kinds_in P w K mg base) (h_hops_in : H_hops_in P w K mg base) : BodyOk P w K mg base n_line_in "line_in" s_line_in 2 w_line_in := by
  intro f cdv A outer s H E hr
  have sc := sc_line_in
  exact (gss_cons (gs_set 1 (gr_p (ge_mt PySem.F.plainAttrs_str PySem.F.slot_str_split PySem.F.type_str_split mt_splitD (ge_var 0) (ga_cons ge_str ga_nil))) sc.nd)
    (gss_cons (gs_if (grb_p (gt_cmp (d_eq hr.units) (ge_sub d_ix (ge_var 1) ge_int (fun _ _ => rfl)) ge_str rfl))
    (gss_one (gs_set 2 (gr_p (ge_call h_kinds_in (hr.mono (by decide)) rfl p_kinds_in_len (ga_cons (ge_slice d_sl (ge_var 1) (go_some ge_int) go_none) ga_nil))) sc.nd))
    (gss_one (gs_if (grb_p (gt_cmp (d_eq hr.units) (ge_sub d_ix (ge_var 1) ge_int (fun _ _ => rfl)) ge_str rfl))
    (gss_one (gs_set 2 (gr_p (ge_call h_hops_in (hr.mono (by decide)) rfl p_hops_in_len (ga_cons (ge_slice d_sl (ge_var 1) (go_some ge_int) go_none) ga_nil))) sc.nd))
    (gss_one (gs_set 2 (gr_p (ge_dg2 (.int 1) (.int 2) (hu_of hr) pe_int pe_int rfl rfl (ge_var 0) ge_non)) sc.nd)))))
    (gss_one (gs_ret (gr_p (ge_if (gt_cmp d_is (ge_var 2) ge_non rfl) ge_non (ge_tup (ga_cons (ge_sub d_ix (ge_var 1) ge_int (fun _ _ => rfl)) (ga_cons (ge_var 2) ga_nil)))))))))
abbrev s_read_court : Stmt := topS 30
abbrev n_read_court : List Str := ["value", "found", "word"]
theorem sc_read_court : FnScope n_read_court ["value"] (defScope s_read_court) := ⟨rfl, rfl, rfl, by decide +kernel, rfl, by decide +kernel, by decide +kernel⟩
def w_read_court : WS := wSeq (wIf (bP (qNot (qB (pI PyData.isStr (var 0))))) (wNever) (wSkip)) (wSeq (wSet 1 (cP (pCall tupleD (aCons (pLc [2] (jQ (pM "str" splitD (var 0) (aCons (lit (.str " ")) (aNil)))) (tgN 2) (qYes) (pIf (qB (pOp eqD (var 2) (lit (.str "-")))) (lit (.str "")) (var 2))) (aNil))))) (wSeq (wIf (bP (qOr (qNot (qB (pCall p_is_laid (aCons (var 1) (aNil))))) (qB (pOp neD (pCall p_court_of (aCons (var 1) (aNil))) (var 0))))) (wNever) (wSkip)) (wRet (cP (var 1)))))
theorem b_read_court {P : Program} {w : World} {K : PySem.W.Frag} {mg : Str → Option Value} {base : Heap} (hb : ∀ x ∈ bl, mg x = none)  (h_is_laid : H_is_laid P w K mg base) (h_court_of : H_court_of P w K mg base) : BodyOk P w K mg base n_read_court "read_court" s_read_court 2 w_read_court := by
  intro f cdv A outer s H E hr
  have sc := sc_read_court
  exact (gss_cons (gs_if (grb_p (gt_not (gt_val (ge_isa isa_str (hb "isinstance" (by decide)) (hb "str" (by decide)) (ge_var 0) bb_str))))
    (gss_one gs_never)
    gss_nil)
    (gss_cons (gs_set 1 (gr_p (ge_callTy d_tuple (by rfl) (hb "tuple" (by decide)) bb_tuple (ga_cons (ge_lc rfl sc.nd (gi_seq (ge_mt PySem.F.plainAttrs_str PySem.F.slot_str_split PySem.F.type_str_split mt_splitD (ge_var 0) (ga_cons ge_str ga_nil))) (blkOk_by (own := [("word", 2)]) (by rfl)) (by decide) (fun _ _ _ _ _ => (gg_name 2 sc.nd)) (fun _ _ _ _ _ => gts_nil) (fun _ _ _ _ _ => (ge_if (gt_cmp (d_eq hr.units) (ge_var 2) ge_str rfl) ge_str (ge_var 2)))) ga_nil))) sc.nd)
    (gss_cons (gs_if (grb_p (gt_w (gw_or (gt_not (gt_val (ge_call h_is_laid (hr.mono (by decide)) rfl p_is_laid_len (ga_cons (ge_var 1) ga_nil)))) (gw_or1 (gt_cmp (d_ne hr.units) (ge_call h_court_of (hr.mono (by decide)) rfl p_court_of_len (ga_cons (ge_var 1) ga_nil)) (ge_var 0) rfl)))))
    (gss_one gs_never)
    gss_nil)
    (gss_one (gs_ret (gr_p (ge_var 1)))))))
abbrev s__law_rules : Stmt := topS 37
abbrev n__law_rules : List Str := ["chest", "kinds", "many", "some"]
theorem sc__law_rules : FnScope n__law_rules ["chest"] (defScope s__law_rules) := ⟨rfl, rfl, rfl, by decide +kernel, rfl, by decide +kernel, by decide +kernel⟩
def w__law_rules : WS := wSeq (wSet 1 (cI q__law_one 0 (lCons (cP (pLst (aCons (pTup (aCons (lit (.str "one")) (aNil))) (aCons (pTup (aCons (lit (.str "one")) (aNil))) (aCons (pTup (aCons (lit (.str "one")) (aCons (lit (.str "both")) (aNil)))) (aCons (pTup (aCons (lit (.str "one")) (aCons (lit (.str "both")) (aNil)))) (aCons (pTup (aCons (lit (.str "both")) (aCons (lit (.str "one")) (aNil)))) (aCons (pTup (aCons (lit (.str "one")) (aCons (lit (.str "one")) (aNil)))) (aNil))))))))) (lNil)))) (wSeq (wIf (bR (cOp eqD (cI q__law_lot 0 (lCons (cP (lit (.int 5))) (lNil))) (cP (lit (.int 0))))) (wSet 1 (cI q__law_one 0 (lCons (cP (pLst (aCons (pTup (aCons (lit (.str "one")) (aCons (lit (.str "one")) (aCons (lit (.str "both")) (aNil))))) (aCons (pTup (aCons (lit (.str "both")) (aNil))) (aCons (pTup (aCons (lit (.str "one")) (aCons (lit (.str "both")) (aCons (lit (.str "one")) (aNil))))) (aNil)))))) (lNil)))) (wSkip)) (wSeq (wSet 2 (cI q__law_one 0 (lCons (cP (pLst (aCons (lit (.int 2)) (aCons (lit (.int 3)) (aCons (lit (.int 4)) (aCons (lit (.int 6)) (aCons (lit (.int 9)) (aCons (lit (.int 12)) (aNil))))))))) (lNil)))) (wSeq (wSet 3 (cSl slD (cI q__law_shuffled 0 (lCons (cP (pCall p__law_all_hops (aCons (pCall lenD (aCons (var 1) (aNil))) (aNil)))) (lNil))) ((fun ok _ m => ok none m)) (oP (oSome (var 2))))) (wSeq (wIf (bR (cOp gtD (cI q__law_lot 0 (lCons (cP (lit (.int 3))) (lNil))) (cP (lit (.int 0))))) (wSet 3 (cP (pSl slD (pOp addD (pLst (aCons (pTup (aCons (lit (.int 0)) (aCons (lit (.int 0)) (aCons (lit (.int 1)) (aNil))))) (aCons (pTup (aCons (lit (.int 0)) (aCons (lit (.int 0)) (aCons (lit (.int 2)) (aNil))))) (aCons (pTup (aCons (lit (.int 0)) (aCons (lit (.int 0)) (aCons (lit (.int 3)) (aNil))))) (aNil))))) (var 3)) (oNone) (oSome (pCall max2D (aCons (lit (.int 3)) (aCons (var 2) (aNil)))))))) (wSkip)) (wRet (cTup (lCons (cP (var 1)) (lCons (cP (pCall tupleD (aCons (pSS (var 3)) (aNil)))) (lCons (cOp addD (cP (lit (.int 1))) (cI q__law_lot 0 (lCons (cP (lit (.int 2))) (lNil)))) (lNil))))))))))
theorem b__law_rules {P : Program} {w : World} {K : PySem.W.Frag} {mg : Str → Option Value} {base : Heap} (hb : ∀ x ∈ bl, mg x = none)  (h__law_one : H__law_one P w K mg base) (h__law_lot : H__law_lot P w K mg base) (h__law_shuffled : H__law_shuffled P w K mg base) (h__law_all_hops : H__law_all_hops P w K mg base) : BodyOk P w K mg base n__law_rules "_law_rules" s__law_rules 2 w__law_rules := by
  intro f cdv A outer s H E hr
  have sc := sc__law_rules
  exact (gss_cons (gs_set 1 (gr_callI 0 h__law_one (hr.mono (by decide)) (fun _ => pass0At) q__law_one_len (pv 0) (gra_cons (gr_p (ge_lst (ga_cons (ge_tup (ga_cons ge_str ga_nil)) (ga_cons (ge_tup (ga_cons ge_str ga_nil)) (ga_cons (ge_tup (ga_cons ge_str (ga_cons ge_str ga_nil))) (ga_cons (ge_tup (ga_cons ge_str (ga_cons ge_str ga_nil))) (ga_cons (ge_tup (ga_cons ge_str (ga_cons ge_str ga_nil))) (ga_cons (ge_tup (ga_cons ge_str (ga_cons ge_str ga_nil))) ga_nil)))))))) gra_nil)) sc.nd)
    (gss_cons (gs_if (grb_cmp (d_eq hr.units) (gr_callI 0 h__law_lot (hr.mono (by decide)) (fun _ => pass0At) q__law_lot_len (pv 0) (gra_cons (gr_p ge_int) gra_nil)) (gr_p ge_int) rfl)
    (gss_one (gs_set 1 (gr_callI 0 h__law_one (hr.mono (by decide)) (fun _ => pass0At) q__law_one_len (pv 0) (gra_cons (gr_p (ge_lst (ga_cons (ge_tup (ga_cons ge_str (ga_cons ge_str (ga_cons ge_str ga_nil)))) (ga_cons (ge_tup (ga_cons ge_str ga_nil)) (ga_cons (ge_tup (ga_cons ge_str (ga_cons ge_str (ga_cons ge_str ga_nil)))) ga_nil))))) gra_nil)) sc.nd))
    gss_nil)
    (gss_cons (gs_set 2 (gr_callI 0 h__law_one (hr.mono (by decide)) (fun _ => pass0At) q__law_one_len (pv 0) (gra_cons (gr_p (ge_lst (ga_cons ge_int (ga_cons ge_int (ga_cons ge_int (ga_cons ge_int (ga_cons ge_int (ga_cons ge_int ga_nil)))))))) gra_nil)) sc.nd)
    (gss_cons (gs_set 3 (gr_slice d_sl (gr_callI 0 h__law_shuffled (hr.mono (by decide)) (fun _ => pass0At) q__law_shuffled_len (pv 0) (gra_cons (gr_p (ge_call h__law_all_hops (hr.mono (by decide)) rfl p__law_all_hops_len (ga_cons (ge_callB d_len (by rfl) (hb "len" (by decide)) bb_len (ga_cons (ge_var 1) ga_nil)) ga_nil))) gra_nil)) gro_none (gro_p (go_some (ge_var 2)))) sc.nd)
    (gss_cons (gs_if (grb_cmp (d_gt hr.units) (gr_callI 0 h__law_lot (hr.mono (by decide)) (fun _ => pass0At) q__law_lot_len (pv 0) (gra_cons (gr_p ge_int) gra_nil)) (gr_p ge_int) rfl)
    (gss_one (gs_set 3 (gr_p (ge_slice d_sl (ge_op d_add (ge_lst (ga_cons (ge_tup (ga_cons ge_int (ga_cons ge_int (ga_cons ge_int ga_nil)))) (ga_cons (ge_tup (ga_cons ge_int (ga_cons ge_int (ga_cons ge_int ga_nil)))) (ga_cons (ge_tup (ga_cons ge_int (ga_cons ge_int (ga_cons ge_int ga_nil)))) ga_nil)))) (ge_var 3)) go_none (go_some (ge_callB (d_max2 rfl) (by rfl) (hb "max" (by decide)) bb_max (ga_cons ge_int (ga_cons (ge_var 2) ga_nil)))))) sc.nd))
    gss_nil)
    (gss_one (gs_ret (gr_tup (gra_cons (gr_p (ge_var 1)) (gra_cons (gr_p (ge_callTy d_tuple (by rfl) (hb "tuple" (by decide)) bb_tuple (ga_cons (ge_sortset rfl hr.units (hb "sorted" (by decide)) (hb "set" (by decide)) (ge_var 3)) ga_nil))) (gra_cons (gr_op d_add (gr_p ge_int) (gr_callI 0 h__law_lot (hr.mono (by decide)) (fun _ => pass0At) q__law_lot_len (pv 0) (gra_cons (gr_p ge_int) gra_nil))) gra_nil)))))))))))
abbrev s__law_ground : Stmt := topS 38
abbrev n__law_ground : List Str := ["chest", "signs", "rows", "most", "many", "turn"]
theorem sc__law_ground : FnScope n__law_ground ["chest"] (defScope s__law_ground) := ⟨rfl, rfl, rfl, by decide +kernel, rfl, by decide +kernel, by decide +kernel⟩
def w__law_ground_l1 : WS := wSeq (wSet 4 (cIf (bP (qB (pOp eqD (var 3) (lit (.int 2))))) (cI q__law_lot 0 (lCons (cP (pOp addD (var 3) (lit (.int 1)))) (lNil))) (cOp addD (cP (lit (.int 1))) (cI q__law_lot 0 (lCons (cP (lit (.int 3))) (lNil)))))) (wExpr (cApp 2 (cM "str" joinD (lit (.str "")) (lCons (cLc [5] (lP (jR1 (aCons (var 4) (aNil)))) (tgN 5) (bYes) (cI q__law_one 0 (lCons (cP (var 1)) (lNil)))) (lNil)))))
def w__law_ground : WS := wSeq (wSet 1 (cI q__law_one 0 (lCons (cP (pLst (aCons (lit (.str "s")) (aCons (lit (.str "s")) (aCons (lit (.str "ssd")) (aCons (lit (.str "sd")) (aCons (lit (.str "sd")) (aCons (lit (.str "d")) (aNil))))))))) (lNil)))) (wSeq (wSet 2 (cLst (lNil))) (wSeq (wFor (lP (jQ (pLst (aCons (lit (.int 2)) (aCons (lit (.int 3)) (aCons (lit (.int 2)) (aNil))))))) (tgN 3) (w__law_ground_l1)) (wFrz 2 (wRet (cP (pCall tupleD (aCons (var 2) (aNil))))))))
theorem b__law_ground {P : Program} {w : World} {K : PySem.W.Frag} {mg : Str → Option Value} {base : Heap} (hb : ∀ x ∈ bl, mg x = none)  (h__law_one : H__law_one P w K mg base) (h__law_lot : H__law_lot P w K mg base) : BodyOk P w K mg base n__law_ground "_law_ground" s__law_ground 2 w__law_ground := by
  intro f cdv A outer s H E hr
  have sc := sc__law_ground
  exact (gss_cons (gs_set 1 (gr_callI 0 h__law_one (hr.mono (by decide)) (fun _ => pass0At) q__law_one_len (pv 0) (gra_cons (gr_p (ge_lst (ga_cons ge_str (ga_cons ge_str (ga_cons ge_str (ga_cons ge_str (ga_cons ge_str (ga_cons ge_str ga_nil)))))))) gra_nil)) sc.nd)
    (gss_cons (gs_set 2 (gr_lst gra_nil) sc.nd)
    (gss_cons (gs_for PassesOwn.never rfl (gri_p (gi_seq (ge_lst (ga_cons ge_int (ga_cons ge_int (ga_cons ge_int ga_nil)))))) (gg_name 3 sc.nd)
    (gss_cons (gs_set 4 (gr_if (grb_p (gt_cmp (d_eq hr.units) (ge_var 3) ge_int rfl)) (gr_callI 0 h__law_lot (hr.mono (by decide)) (fun _ => pass0At) q__law_lot_len (pv 0) (gra_cons (gr_p (ge_op d_add (ge_var 3) ge_int)) gra_nil)) (gr_op d_add (gr_p ge_int) (gr_callI 0 h__law_lot (hr.mono (by decide)) (fun _ => pass0At) q__law_lot_len (pv 0) (gra_cons (gr_p ge_int) gra_nil)))) sc.nd)
    (gss_one (gs_expr (gr_append 2 (pv 2) (gr_mt PySem.F.plainAttrs_str PySem.F.slot_str_join PySem.F.type_str_join mt_joinD ge_str (gra_cons (gr_lc rfl sc.nd (gri_p (gi_range1 (hb "range" (by decide)) (ga_cons (ge_var 4) ga_nil))) (blkOk_by (own := [("turn", 5)]) (by rfl)) (by decide) (fun _ _ _ _ _ => (gg_name 5 sc.nd)) (fun _ _ _ _ _ => grts_nil) (fun _ _ _ _ _ => (gr_callI 0 h__law_one (hr.mono (by decide)) (fun _ => pass0At) q__law_one_len (pv 0) (gra_cons (gr_p (ge_var 1)) gra_nil)))) gra_nil)))))))
    (gss_one (gs_frz 2 (gs_ret (gr_p (ge_callTy d_tuple (by rfl) (hb "tuple" (by decide)) bb_tuple (ga_cons (ge_var 2) ga_nil)))))))))
abbrev s_need_book : Stmt := topS 16
abbrev n_need_book : List Str := ["value"]
theorem sc_need_book : FnScope n_need_book ["value"] (defScope s_need_book) := ⟨rfl, rfl, rfl, by decide +kernel, rfl, by decide +kernel, by decide +kernel⟩
def w_need_book : WS := wIf (bP (qNot (qB (pCall p_fits (aCons (var 0) (aNil)))))) (wNever) (wSkip)
theorem b_need_book {P : Program} {w : World} {K : PySem.W.Frag} {mg : Str → Option Value} {base : Heap}   (h_fits : H_fits P w K mg base) : BodyOk P w K mg base n_need_book "need_book" s_need_book 3 w_need_book := by
  intro f cdv A outer s H E hr
  have sc := sc_need_book
  exact (gss_one (gs_if (grb_p (gt_not (gt_val (ge_call h_fits (hr.mono (by decide)) rfl p_fits_len (ga_cons (ge_var 0) ga_nil)))))
    (gss_one gs_never)
    gss_nil))
abbrev s_book_in : Stmt := topS 25
abbrev n_book_in : List Str := ["value", "rows", "found", "line", "word", "what"]
theorem sc_book_in : FnScope n_book_in ["value"] (defScope s_book_in) := ⟨rfl, rfl, rfl, by decide +kernel, rfl, by decide +kernel, by decide +kernel⟩
def w_book_in : WS := wSeq (wIf (bP (qNot (qB (pI PyData.isStr (var 0))))) (wNever) (wSkip)) (wSeq (wSet 1 (cP (pLc [3] (jQ (pM "str" splitD (var 0) (aCons (lit (.str "\n")) (aNil)))) (tgN 3) (qYes) (pCall p_line_in (aCons (var 3) (aNil)))))) (wSeq (wIf (bP (qB (pOp inD (lit .none) (var 1)))) (wNever) (wSkip)) (wSeq (wSet 2 (cP (pCall tupleD (aCons (pLc [4, 5] (jQ (var 1)) (tgT 2 (tgsCons (tgN 4) (tgsCons (tgN 5) (tgsNil)))) (qYes) (var 5)) (aNil))))) (wSeq (wIf (bP (qOr (qB (pOp neD (pLc [4, 5] (jQ (var 1)) (tgT 2 (tgsCons (tgN 4) (tgsCons (tgN 5) (tgsNil)))) (qYes) (var 4)) (pLst (aCons (lit (.str "stands")) (aCons (lit (.str "hops")) (aCons (lit (.str "arm")) (aNil))))))) (qNot (qB (pCall p_fits (aCons (var 2) (aNil))))))) (wNever) (wSkip)) (wRet (cP (var 2)))))))
theorem b_book_in {P : Program} {w : World} {K : PySem.W.Frag} {mg : Str → Option Value} {base : Heap} (hb : ∀ x ∈ bl, mg x = none)  (h_line_in : H_line_in P w K mg base) (h_fits : H_fits P w K mg base) : BodyOk P w K mg base n_book_in "book_in" s_book_in 3 w_book_in := by
  intro f cdv A outer s H E hr
  have sc := sc_book_in
  exact (gss_cons (gs_if (grb_p (gt_not (gt_val (ge_isa isa_str (hb "isinstance" (by decide)) (hb "str" (by decide)) (ge_var 0) bb_str))))
    (gss_one gs_never)
    gss_nil)
    (gss_cons (gs_setLc 1 rfl sc.nd rfl rfl (sw_true rfl rfl rfl (by decide +kernel)) (gi_seq (ge_mt PySem.F.plainAttrs_str PySem.F.slot_str_split PySem.F.type_str_split mt_splitD (ge_var 0) (ga_cons ge_str ga_nil))) (blkOk_by (own := [("line", 3)]) (by rfl)) (by decide) (fun _ _ _ _ _ => (gg_name 3 sc.nd)) (fun _ _ _ _ _ => gts_nil) (fun _ _ _ _ _ => (ge_call h_line_in (hr.mono (by decide)) rfl p_line_in_len (ga_cons (ge_var 3) ga_nil))))
    (gss_cons (gs_if (grb_p (gt_cmp (d_in hr.units) ge_non (ge_var 1) rfl))
    (gss_one gs_never)
    gss_nil)
    (gss_cons (gs_set 2 (gr_p (ge_callTy d_tuple (by rfl) (hb "tuple" (by decide)) bb_tuple (ga_cons (ge_lc rfl sc.nd (gi_seq (ge_var 1)) (blkOk_by (own := [("word", 4), ("what", 5)]) (by rfl)) (by decide) (fun _ _ _ _ _ => (gg_tup rfl (ggs_cons (gg_name 4 sc.nd) (ggs_cons (gg_name 5 sc.nd) ggs_nil)))) (fun _ _ _ _ _ => gts_nil) (fun _ _ _ _ _ => (ge_var 5))) ga_nil))) sc.nd)
    (gss_cons (gs_if (grb_p (gt_w (gw_or (gt_cmp (d_ne hr.units) (ge_lc rfl sc.nd (gi_seq (ge_var 1)) (blkOk_by (own := [("word", 4), ("what", 5)]) (by rfl)) (by decide) (fun _ _ _ _ _ => (gg_tup rfl (ggs_cons (gg_name 4 sc.nd) (ggs_cons (gg_name 5 sc.nd) ggs_nil)))) (fun _ _ _ _ _ => gts_nil) (fun _ _ _ _ _ => (ge_var 4))) (ge_lst (ga_cons ge_str (ga_cons ge_str (ga_cons ge_str ga_nil)))) rfl) (gw_or1 (gt_not (gt_val (ge_call h_fits (hr.mono (by decide)) rfl p_fits_len (ga_cons (ge_var 2) ga_nil))))))))
    (gss_one gs_never)
    gss_nil)
    (gss_one (gs_ret (gr_p (ge_var 2)))))))))
abbrev s_court_text : Stmt := topS 29
abbrev n_court_text : List Str := ["court"]
theorem sc_court_text : FnScope n_court_text ["court"] (defScope s_court_text) := ⟨rfl, rfl, rfl, by decide +kernel, rfl, by decide +kernel, by decide +kernel⟩
def w_court_text : WS := wSeq (wExpr (cP (pCall p_need_court (aCons (var 0) (aNil))))) (wRet (cP (pCall p_court_of (aCons (var 0) (aNil)))))
theorem b_court_text {P : Program} {w : World} {K : PySem.W.Frag} {mg : Str → Option Value} {base : Heap}   (h_need_court : H_need_court P w K mg base) (h_court_of : H_court_of P w K mg base) : BodyOk P w K mg base n_court_text "court_text" s_court_text 3 w_court_text := by
  intro f cdv A outer s H E hr
  have sc := sc_court_text
  exact (gss_cons (gs_expr (gr_p (ge_call h_need_court (hr.mono (by decide)) rfl p_need_court_len (ga_cons (ge_var 0) ga_nil))))
    (gss_one (gs_ret (gr_p (ge_call h_court_of (hr.mono (by decide)) rfl p_court_of_len (ga_cons (ge_var 0) ga_nil))))))
abbrev s_book_text : Stmt := topS 27
abbrev n_book_text : List Str := ["book"]
theorem sc_book_text : FnScope n_book_text ["book"] (defScope s_book_text) := ⟨rfl, rfl, rfl, by decide +kernel, rfl, by decide +kernel, by decide +kernel⟩
def w_book_text : WS := wSeq (wExpr (cP (pCall p_need_book (aCons (var 0) (aNil))))) (wRet (cP (pCall p_text_of (aCons (var 0) (aNil)))))
theorem b_book_text {P : Program} {w : World} {K : PySem.W.Frag} {mg : Str → Option Value} {base : Heap}   (h_need_book : H_need_book P w K mg base) (h_text_of : H_text_of P w K mg base) : BodyOk P w K mg base n_book_text "book_text" s_book_text 4 w_book_text := by
  intro f cdv A outer s H E hr
  have sc := sc_book_text
  exact (gss_cons (gs_expr (gr_p (ge_call h_need_book (hr.mono (by decide)) rfl p_need_book_len (ga_cons (ge_var 0) ga_nil))))
    (gss_one (gs_ret (gr_p (ge_call h_text_of (hr.mono (by decide)) rfl p_text_of_len (ga_cons (ge_var 0) ga_nil))))))
abbrev s_read_book : Stmt := topS 28
abbrev n_read_book : List Str := ["value"]
theorem sc_read_book : FnScope n_read_book ["value"] (defScope s_read_book) := ⟨rfl, rfl, rfl, by decide +kernel, rfl, by decide +kernel, by decide +kernel⟩
def w_read_book : WS := wRet (cP (pCall p_book_in (aCons (var 0) (aNil))))
theorem b_read_book {P : Program} {w : World} {K : PySem.W.Frag} {mg : Str → Option Value} {base : Heap}   (h_book_in : H_book_in P w K mg base) : BodyOk P w K mg base n_read_book "read_book" s_read_book 4 w_read_book := by
  intro f cdv A outer s H E hr
  have sc := sc_read_book
  exact (gss_one (gs_ret (gr_p (ge_call h_book_in (hr.mono (by decide)) rfl p_book_in_len (ga_cons (ge_var 0) ga_nil)))))
abbrev s_law : Stmt := topS 40
abbrev n_law : List Str := ["script", "k", "chest", "turn", "rules", "court", "text", "feet", "part"]
theorem sc_law : FnScope n_law ["script"] (defScope s_law) := ⟨rfl, rfl, rfl, by decide +kernel, rfl, by decide +kernel, by decide +kernel⟩
def w_law_l1 : WS := wSeq (wPar 4 5 (lCons (cI q__law_rules 2 (lNil)) (lCons (cI q__law_ground 2 (lNil)) (lNil)))) (wSeq (wSet 6 (cP (pCall p__law_written (aCons (var 4) (aNil))))) (wSeq (wIf (bP (qOr (qB (pOp neD (pCall p_book_text (aCons (var 4) (aNil))) (var 6))) (qB (pOp neD (pCall p_read_book (aCons (var 6) (aNil))) (var 4))))) (wRet (cP (lit (.bool false)))) (wSkip)) (wSeq (wSet 6 (cP (pM "str" joinD (lit (.str " ")) (aCons (pLc [8] (jQ (var 5)) (tgN 8) (qYes) (pIf (qB (pOp neD (var 8) (lit (.str "")))) (var 8) (lit (.str "-")))) (aNil))))) (wIf (bP (qOr (qB (pOp neD (pCall p_court_text (aCons (var 5) (aNil))) (var 6))) (qB (pOp neD (pCall p_read_court (aCons (var 6) (aNil))) (var 5))))) (wRet (cP (lit (.bool false)))) (wSkip)))))
def w_law_l2 : WS := wSeq (wSet 2 (cF q__law_chest_of (lCons (cP (var 0)) (lCons (cP (var 1)) (lNil))))) (wFor (lP (jR1 (aCons (lit (.int 4)) (aNil)))) (tgN 3) (w_law_l1))
def w_law : WS := wSeq (wFor (lP (jR1 (aCons (pOp addD (lit (.int 1)) (pCall min2D (aCons (pCall lenD (aCons (var 0) (aNil))) (aCons (lit (.int 8)) (aNil))))) (aNil)))) (tgN 1) (w_law_l2)) (wSeq (wSet 7 (cP (pTup (aCons (pTup (aCons (lit (.str "one")) (aCons (lit (.str "both")) (aCons (lit (.str "one")) (aNil))))) (aCons (pTup (aCons (pTup (aCons (lit (.int 0)) (aCons (lit (.int 2)) (aCons (lit (.int 1)) (aNil))))) (aCons (pTup (aCons (lit (.int 1)) (aCons (lit (.int 0)) (aCons (lit (.int 3)) (aNil))))) (aCons (pTup (aCons (lit (.int 2)) (aCons (lit (.int 1)) (aCons (lit (.int 2)) (aNil))))) (aNil))))) (aCons (lit (.int 2)) (aNil))))))) (wSeq (wSet 6 (cP (lit (.str "stands one both one\nhops 0-2-1 1-0-3 2-1-2\narm 2")))) (wSeq (wIf (bP (qB (pOp neD (pCall p_book_text (aCons (var 7) (aNil))) (var 6)))) (wRet (cP (lit (.bool false)))) (wSkip)) (wRet (cP (pAnd (pOp eqD (pCall p_court_text (aCons (pTup (aCons (lit (.str "")) (aCons (lit (.str "dds")) (aCons (lit (.str "")) (aNil))))) (aNil))) (lit (.str "- dds -"))) (pOp eqD (pCall p_read_court (aCons (lit (.str "s s sd")) (aNil))) (pTup (aCons (lit (.str "s")) (aCons (lit (.str "s")) (aCons (lit (.str "sd")) (aNil))))))))))))
theorem b_law {P : Program} {w : World} {K : PySem.W.Frag} {mg : Str → Option Value} {base : Heap} (hb : ∀ x ∈ bl, mg x = none)  (h__law_chest_of : H__law_chest_of P w K mg base) (h__law_ground : H__law_ground P w K mg base) (h__law_rules : H__law_rules P w K mg base) (h__law_written : H__law_written P w K mg base) (h_book_text : H_book_text P w K mg base) (h_read_book : H_read_book P w K mg base) (h_court_text : H_court_text P w K mg base) (h_read_court : H_read_court P w K mg base) : BodyOk P w K mg base n_law "law" s_law 5 w_law := by
  intro f cdv A outer s H E hr
  have sc := sc_law
  exact (gss_cons (gs_for PassesOwn.never rfl (gri_p (gi_range1 (hb "range" (by decide)) (ga_cons (ge_op d_add ge_int (ge_callB (d_min2 rfl) (by rfl) (hb "min" (by decide)) bb_min (ga_cons (ge_callB d_len (by rfl) (hb "len" (by decide)) bb_len (ga_cons (ge_var 0) ga_nil)) (ga_cons ge_int ga_nil)))) ga_nil))) (gg_name 1 sc.nd)
    (gss_cons (gs_set 2 (gr_callF h__law_chest_of (hr.mono (by decide)) (fun _ => pass0At) q__law_chest_of_len (gra_cons (gr_p (ge_var 0)) (gra_cons (gr_p (ge_var 1)) gra_nil))) sc.nd)
    (gss_one (gs_for PassesOwn.never rfl (gri_p (gi_range1 (hb "range" (by decide)) (ga_cons ge_int ga_nil))) (gg_name 3 sc.nd)
    (gss_cons (gs_par 4 5 (gra_cons (gr_callI 2 h__law_rules (hr.mono (by decide)) (fun _ => pass0At) q__law_rules_len (pv 2) gra_nil) (gra_cons (gr_callI 2 h__law_ground (hr.mono (by decide)) (fun _ => pass0At) q__law_ground_len (pv 2) gra_nil) gra_nil)) rfl sc.nd)
    (gss_cons (gs_set 6 (gr_p (ge_call h__law_written (hr.mono (by decide)) rfl p__law_written_len (ga_cons (ge_var 4) ga_nil))) sc.nd)
    (gss_cons (gs_if (grb_p (gt_w (gw_or (gt_cmp (d_ne hr.units) (ge_call h_book_text (hr.mono (by decide)) rfl p_book_text_len (ga_cons (ge_var 4) ga_nil)) (ge_var 6) rfl) (gw_or1 (gt_cmp (d_ne hr.units) (ge_call h_read_book (hr.mono (by decide)) rfl p_read_book_len (ga_cons (ge_var 6) ga_nil)) (ge_var 4) rfl)))))
    (gss_one (gs_ret (gr_p ge_bl)))
    gss_nil)
    (gss_cons (gs_set 6 (gr_p (ge_mt PySem.F.plainAttrs_str PySem.F.slot_str_join PySem.F.type_str_join mt_joinD ge_str (ga_cons (ge_lc rfl sc.nd (gi_seq (ge_var 5)) (blkOk_by (own := [("part", 8)]) (by rfl)) (by decide) (fun _ _ _ _ _ => (gg_name 8 sc.nd)) (fun _ _ _ _ _ => gts_nil) (fun _ _ _ _ _ => (ge_if (gt_cmp (d_ne hr.units) (ge_var 8) ge_str rfl) (ge_var 8) ge_str))) ga_nil))) sc.nd)
    (gss_one (gs_if (grb_p (gt_w (gw_or (gt_cmp (d_ne hr.units) (ge_call h_court_text (hr.mono (by decide)) rfl p_court_text_len (ga_cons (ge_var 5) ga_nil)) (ge_var 6) rfl) (gw_or1 (gt_cmp (d_ne hr.units) (ge_call h_read_court (hr.mono (by decide)) rfl p_read_court_len (ga_cons (ge_var 6) ga_nil)) (ge_var 5) rfl)))))
    (gss_one (gs_ret (gr_p ge_bl)))
    gss_nil))))))))))
    (gss_cons (gs_set 7 (gr_p (ge_tup (ga_cons (ge_tup (ga_cons ge_str (ga_cons ge_str (ga_cons ge_str ga_nil)))) (ga_cons (ge_tup (ga_cons (ge_tup (ga_cons ge_int (ga_cons ge_int (ga_cons ge_int ga_nil)))) (ga_cons (ge_tup (ga_cons ge_int (ga_cons ge_int (ga_cons ge_int ga_nil)))) (ga_cons (ge_tup (ga_cons ge_int (ga_cons ge_int (ga_cons ge_int ga_nil)))) ga_nil)))) (ga_cons ge_int ga_nil))))) sc.nd)
    (gss_cons (gs_set 6 (gr_p ge_str) sc.nd)
    (gss_cons (gs_if (grb_p (gt_cmp (d_ne hr.units) (ge_call h_book_text (hr.mono (by decide)) rfl p_book_text_len (ga_cons (ge_var 7) ga_nil)) (ge_var 6) rfl))
    (gss_one (gs_ret (gr_p ge_bl)))
    gss_nil)
    (gss_one (gs_ret (gr_p (ge_and (ge_cmp (d_eq hr.units) (ge_call h_court_text (hr.mono (by decide)) rfl p_court_text_len (ga_cons (ge_tup (ga_cons ge_str (ga_cons ge_str (ga_cons ge_str ga_nil)))) ga_nil)) ge_str rfl) (ge_one (ge_cmp (d_eq hr.units) (ge_call h_read_court (hr.mono (by decide)) rfl p_read_court_len (ga_cons ge_str ga_nil)) (ge_tup (ga_cons ge_str (ga_cons ge_str (ga_cons ge_str ga_nil)))) rfl))))))))))
theorem sem_is_int : ∀ ds Y, det p_is_int ds Y → w_is_int (em0 Y.ok) (memF n_is_int.length ds) := by
  rintro ds Y ⟨d, h, ok⟩
  unfold p_is_int at h
  split at h
  · rename_i v lo hi
    cases h
    refine ⟨_, ?_, ok⟩
    cases v <;> simp [wSeq, wSkip, wRet, wIf, wSet, wPar, wExpr, wAsg, wFrz, wNever, cP, cV, bP, lP, oP, bR, cOp, cTup, cLst, cSl, cCall, cIf, bAnd, bOr, bNot, lNil, lCons, oR, cBind, cM, cApp, cIxO, frzR, resS, vw, vwS, scal, pAnd, pOr, pNot, pI, pOp, pUn, pCh, pCall, pM, pTup, pLst, pSl, pIf, pLc, pSS, pDD, pDG, var, lit, getV, memF, memI, aNil, aCons, oNone, oSome, qB, qAnd, qOr, qNot, qYes, bYes, asB, asI, jQ, asQ, tgN, tgT, tgL, tgsNil, tgsCons, noIo, ownAt, putOwn, wipeM, lcGo, lcTurn, tyD, em0, emI0, grd, sz, lenOk, addD, subD, mulD, modD, fdivD, negD, ltD, leD, gtD, geD, isD, isnD, isNoneD, lenD, intD, absD, max2D, min2D, listD, tupleD, ixD, slD, PyData.isInt, PyData.isBool, PyData.isStr, PyData.isTuple, PyData.isList, isI, n_is_int]
    rename_i i
    by_cases h : lo ≤ i <;> simp [h]
  · cases h
theorem some_bool {a b : Bool} (h : a = b) : (some (PyData.bool a) : Option D) = some (.bool b) := by rw [h]
/-- a triple or none -/
theorem three (v : D) : (∃ a b c, v = .tuple [a, b, c]) ∨ ((∀ xs, v ≠ .tuple xs) ∨ ∃ xs, v = .tuple xs ∧ xs.length ≠ 3) := by
  cases v with
  | tuple xs =>
    match xs with
    | [a, b, c] => exact .inl ⟨a, b, c, rfl⟩
    | [] => exact .inr (.inr ⟨_, rfl, by simp⟩)
    | [a] => exact .inr (.inr ⟨_, rfl, by simp⟩)
    | [a, b] => exact .inr (.inr ⟨_, rfl, by simp⟩)
    | a :: b :: c :: d :: r => exact .inr (.inr ⟨_, rfl, by simp⟩)
  | _ => exact .inr (.inl fun xs h => nomatch h)
theorem isHop_no {m : Int} {v : D} (h : (∀ xs, v ≠ .tuple xs) ∨ ∃ xs, v = .tuple xs ∧ xs.length ≠ 3) : isHop m v = false := by
  rcases h with h | ⟨xs, rfl, h⟩
  · cases v <;> first | rfl | exact absurd rfl (h _)
  · match xs, h with
    | [], _ => rfl
    | [a], _ => rfl
    | [a, b], _ => rfl
    | [a, b, c], h => exact absurd rfl h
    | a :: b :: c :: d :: r, _ => rfl
theorem isCourt_no {v : D} (h : (∀ xs, v ≠ .tuple xs) ∨ ∃ xs, v = .tuple xs ∧ xs.length ≠ 3) : isCourt v = false := by
  rcases h with h | ⟨xs, rfl, h⟩
  · cases v <;> first | rfl | exact absurd rfl (h _)
  · match xs, h with
    | [], _ => rfl
    | [a], _ => rfl
    | [a, b], _ => rfl
    | [a, b, c], h => exact absurd rfl h
    | a :: b :: c :: d :: r, _ => rfl
theorem isBook_no {v : D} (h : (∀ xs, v ≠ .tuple xs) ∨ ∃ xs, v = .tuple xs ∧ xs.length ≠ 3) : isBook v = false := by
  rcases h with h | ⟨xs, rfl, h⟩
  · cases v <;> first | rfl | exact absurd rfl (h _)
  · match xs, h with
    | [], _ => rfl
    | [a], _ => rfl
    | [a, b], _ => rfl
    | [a, b, c], h => exact absurd rfl h
    | a :: b :: c :: d :: r, _ => rfl
theorem at3 (a b c : D) : atI [a, b, c] 0 = some a ∧ atI [a, b, c] 1 = some b ∧ atI [a, b, c] 2 = some c := ⟨atI_nat (j := 0) rfl, atI_nat (j := 1) rfl, atI_nat (j := 2) rfl⟩
theorem sem_is_hop : ∀ ds Y, det p_is_hop ds Y → w_is_hop (em0 Y.ok) (memF n_is_hop.length ds) := by
  rintro ds Y ⟨d, h, ok⟩
  unfold p_is_hop at h
  split at h
  · rename_i m v
    cases h
    rcases three v with ⟨a, b, c, rfl⟩ | hv
    · obtain ⟨e0, e1, e2⟩ := at3 a b c
      simp [w_is_hop, wSeq, wSkip, wRet, wIf, wSet, wPar, wExpr, wAsg, wFrz, wNever, cP, cV, bP, lP, oP, bR, cOp, cTup, cLst, cSl, cCall, cIf, bAnd, bOr, bNot, lNil, lCons, oR, cBind, cM, cApp, cIxO, frzR, resS, vw, vwS, scal, pAnd, pOr, pNot, pI, pOp, pUn, pCh, pCall, pM, pTup, pLst, pSl, pIf, pLc, pSS, pDD, pDG, var, lit, getV, memF, memI, aNil, aCons, oNone, oSome, qB, qAnd, qOr, qNot, qYes, bYes, asB, asI, jQ, asQ, tgN, tgT, tgL, tgsNil, tgsCons, noIo, ownAt, putOwn, wipeM, lcGo, lcTurn, tyD, em0, emI0, grd, sz, lenOk, addD, subD, mulD, modD, fdivD, negD, ltD, leD, gtD, geD, isD, isnD, isNoneD, lenD, intD, absD, max2D, min2D, listD, tupleD, ixD, slD, PyData.isInt, PyData.isBool, PyData.isStr, PyData.isTuple, PyData.isList, n_is_hop, neD, dok, PyData.depth, PyData.eqv, c_LONGEST, p_is_int, e0, e1, e2]
      simp only [isHop] at ok
      by_cases h1 : isI 0 (m - 1) a = true <;> by_cases h2 : isI 0 (m - 1) b = true <;> simp_all
    · rw [isHop_no hv] at ok
      rcases hv with hv | ⟨xs, rfl, hv⟩
      · have ht : v.isTuple = false := by cases v <;> first | rfl | exact absurd rfl (hv _)
        simp [w_is_hop, wSeq, wSkip, wRet, wIf, wSet, wPar, wExpr, wAsg, wFrz, wNever, cP, cV, bP, lP, oP, bR, cOp, cTup, cLst, cSl, cCall, cIf, bAnd, bOr, bNot, lNil, lCons, oR, cBind, cM, cApp, cIxO, frzR, resS, vw, vwS, scal, pAnd, pOr, pNot, pI, pOp, pUn, pCh, pCall, pM, pTup, pLst, pSl, pIf, pLc, pSS, pDD, pDG, var, lit, getV, memF, memI, aNil, aCons, oNone, oSome, qB, qAnd, qOr, qNot, qYes, bYes, asB, asI, jQ, asQ, tgN, tgT, tgL, tgsNil, tgsCons, noIo, ownAt, putOwn, wipeM, lcGo, lcTurn, tyD, em0, emI0, grd, sz, lenOk, addD, subD, mulD, modD, fdivD, negD, ltD, leD, gtD, geD, isD, isnD, isNoneD, lenD, intD, absD, max2D, min2D, listD, tupleD, ixD, slD, PyData.isInt, PyData.isBool, PyData.isStr, PyData.isTuple, PyData.isList, n_is_hop, ht, ok]
        cases v <;> first | (simp [ok]; done) | exact absurd rfl (hv _)
      · have h3 : ((xs.length : Int) == 3) = false := by simp; omega
        simp [w_is_hop, wSeq, wSkip, wRet, wIf, wSet, wPar, wExpr, wAsg, wFrz, wNever, cP, cV, bP, lP, oP, bR, cOp, cTup, cLst, cSl, cCall, cIf, bAnd, bOr, bNot, lNil, lCons, oR, cBind, cM, cApp, cIxO, frzR, resS, vw, vwS, scal, pAnd, pOr, pNot, pI, pOp, pUn, pCh, pCall, pM, pTup, pLst, pSl, pIf, pLc, pSS, pDD, pDG, var, lit, getV, memF, memI, aNil, aCons, oNone, oSome, qB, qAnd, qOr, qNot, qYes, bYes, asB, asI, jQ, asQ, tgN, tgT, tgL, tgsNil, tgsCons, noIo, ownAt, putOwn, wipeM, lcGo, lcTurn, tyD, em0, emI0, grd, sz, lenOk, addD, subD, mulD, modD, fdivD, negD, ltD, leD, gtD, geD, isD, isnD, isNoneD, lenD, intD, absD, max2D, min2D, listD, tupleD, ixD, slD, PyData.isInt, PyData.isBool, PyData.isStr, PyData.isTuple, PyData.isList, n_is_hop, neD, dok, PyData.depth, PyData.eqv, h3, ok]
  · cases h
/-! ### plain facts -/
theorem lcGo_map {f : D → Option (Option D)} {g : D → D} : ∀ {xs : List D}, (∀ x ∈ xs, f x = some (some (g x))) → lcGo f xs = some (xs.map g)
  | [], _ => rfl
  | x :: xs, h => by
    have ih := lcGo_map (f := f) (g := g) (xs := xs) fun y hy => h y (by simp [hy])
    simp [lcGo, h x (by simp), ih]
theorem lcGo_filter {f : D → Option (Option D)} {p : D → Bool} : ∀ {xs : List D}, (∀ x ∈ xs, f x = some (if p x = true then some x else none)) → lcGo f xs = some (xs.filter p)
  | [], _ => rfl
  | x :: xs, h => by
    have ih := lcGo_filter (f := f) (p := p) (xs := xs) fun y hy => h y (by simp [hy])
    have h1 := h x (by simp)
    by_cases hp : p x = true
    · rw [if_pos hp] at h1
      simp [lcGo, h1, ih, hp]
    · rw [if_neg hp] at h1
      simp [lcGo, h1, ih, hp]
theorem ne_nil (xs : List D) : neD (.list xs) (.list []) = some (.bool (!xs.isEmpty)) := by
  cases xs <;> simp [neD, grd, dok, PyData.depth, PyData.depthAll, PyData.eqv, PyData.eqvAll] <;> omega
theorem eq_nil (xs : List D) : eqD (.list xs) (.list []) = some (.bool xs.isEmpty) := by
  cases xs <;> simp [eqD, grd, dok, PyData.depth, PyData.depthAll, PyData.eqv, PyData.eqvAll] <;> omega
theorem filter_no {p : D → Bool} {xs : List D} : (xs.filter p).isEmpty = xs.all fun x => !p x := by
  induction xs with
  | nil => rfl
  | cons x xs ih =>
    cases h : p x <;> simp [h, ih]
theorem eqv_int3 (a b c x y z : Int) : PyData.eqv (tripD [a, b, c]) (tripD [x, y, z]) = decide ([a, b, c] = [x, y, z]) := by
  simp [tripD, PyData.eqv, PyData.eqvAll]
  by_cases h1 : a = x <;> by_cases h2 : b = y <;> by_cases h3 : c = z <;> simp [h1, h2, h3]
theorem eqv_trips : ∀ {ks ls : List (List Int)}, (∀ k ∈ ks, Tr k) → (∀ k ∈ ls, Tr k) → PyData.eqvAll (ks.map tripD) (ls.map tripD) = decide (ks = ls)
  | [], [], _, _ => rfl
  | [], _ :: _, _, _ => by simp [PyData.eqvAll]
  | _ :: _, [], _, _ => by simp [PyData.eqvAll]
  | k :: ks, l :: ls, h1, h2 => by
    obtain ⟨a, b, c, rfl, _⟩ := h1 k (by simp)
    obtain ⟨x, y, z, rfl, _⟩ := h2 l (by simp)
    have ih := eqv_trips (ks := ks) (ls := ls) (fun k hk => h1 k (by simp [hk])) fun k hk => h2 k (by simp [hk])
    simp only [List.map_cons, PyData.eqvAll, eqv_int3, ih]
    by_cases e1 : [a, b, c] = [x, y, z] <;> by_cases e2 : ks = ls <;> simp_all
theorem depth_trip {k : List Int} (h : Tr k) : (tripD k).depth = 1 := by
  obtain ⟨a, b, c, rfl, _⟩ := h
  simp [tripD, PyData.depth, PyData.depthAll]
theorem depth_trips : ∀ {ks : List (List Int)}, (∀ k ∈ ks, Tr k) → PyData.depthAll (ks.map tripD) ≤ 1
  | [], _ => by simp [PyData.depthAll]
  | k :: ks, h => by
    have ih := depth_trips (ks := ks) fun k hk => h k (by simp [hk])
    have := depth_trip (h k (by simp))
    simp only [List.map_cons, PyData.depthAll]
    omega
theorem trips_map : ∀ {ks : List (List Int)}, (∀ k ∈ ks, Tr k) → trips (ks.map tripD) = some ks
  | [], _ => rfl
  | k :: ks, h => by
    have ih := trips_map (ks := ks) fun k hk => h k (by simp [hk])
    obtain ⟨a, b, c, rfl, h1, h2, h3⟩ := h k (by simp)
    simp [trips, ih, tripD, tripI, grd, sm, h1, h2, h3]
theorem trips_eq : ∀ {ds : List D} {ks : List (List Int)}, trips ds = some ks → ds = ks.map tripD ∧ ∀ k ∈ ks, Tr k
  | [], ks, h => by cases h; exact ⟨rfl, by simp⟩
  | d :: ds, ks, h => by
    obtain ⟨k, h1, h2⟩ := Option.bind_eq_some_iff.mp h
    obtain ⟨ms, h3, rfl⟩ := Option.map_eq_some_iff.mp h2
    obtain ⟨rfl, t⟩ := tripI_eq h1
    obtain ⟨rfl, ht⟩ := trips_eq h3
    refine ⟨rfl, fun k' hk => ?_⟩
    rcases List.mem_cons.mp hk with rfl | hk
    · exact t
    · exact ht k' hk
theorem eq_sorted {ks : List (List Int)} (h : ∀ k ∈ ks, Tr k) : eqD (.list (ks.map tripD)) (.list ((sortU ks).map tripD)) = some (.bool (decide (sortU ks = ks))) := by
  have hs : ∀ k ∈ sortU ks, Tr k := fun k hk => h k ((sortU_mem h k).mp hk)
  have := depth_trips h
  have e : decide (ks = sortU ks) = decide (sortU ks = ks) := decide_eq_decide.mpr ⟨Eq.symm, Eq.symm⟩
  have hd : dok (.list (ks.map tripD)) (.list ((sortU ks).map tripD)) = true := decide_eq_true (by simp only [PyData.depth]; omega)
  unfold eqD
  rw [grd_ok hd]
  simp only [PyData.eqv, eqv_trips h hs, e]
theorem ne_sorted {ks : List (List Int)} (h : ∀ k ∈ ks, Tr k) : neD (.list (ks.map tripD)) (.list ((sortU ks).map tripD)) = some (.bool (!decide (sortU ks = ks))) := by
  have hs : ∀ k ∈ sortU ks, Tr k := fun k hk => h k ((sortU_mem h k).mp hk)
  have := depth_trips h
  have e : decide (ks = sortU ks) = decide (sortU ks = ks) := decide_eq_decide.mpr ⟨Eq.symm, Eq.symm⟩
  have hd : dok (.list (ks.map tripD)) (.list ((sortU ks).map tripD)) = true := decide_eq_true (by simp only [PyData.depth]; omega)
  unfold neD
  rw [grd_ok hd]
  simp only [PyData.eqv, eqv_trips h hs, e]
theorem beqS (a z : Str) : (a == z) = decide (z = a) := by
  by_cases h : z = a
  · rw [h]; simp
  · have : (a == z) = false := by simpa using Ne.symm h
    rw [this]; simp [h]
theorem inK (z : Str) : inD (.str z) c_KINDS = some (.bool (decide (z = "both" ∨ z = "one"))) := by
  have e : inD (.str z) c_KINDS = some (.bool ((("both" : Str) == z) || ((("one" : Str) == z) || false))) := rfl
  rw [e, beqS, beqS, Bool.or_false]
  by_cases h1 : z = "both" <;> by_cases h2 : z = "one" <;> simp only [h1, h2, decide_true, decide_false, Bool.or_true, Bool.true_or, Bool.or_false, or_true, true_or, or_false]
theorem ninK (z : Str) : ninD (.str z) c_KINDS = some (.bool (!decide (z = "both" ∨ z = "one"))) := by
  unfold ninD
  rw [inK]
  rfl
theorem isI_eq {lo hi : Int} {d : D} (h : isI lo hi d = true) : ∃ i, d = .int i ∧ lo ≤ i ∧ i ≤ hi := by
  cases d with
  | int i => exact ⟨i, rfl, of_decide_eq_true h⟩
  | _ => cases h
theorem isHop_eq {n : Nat} {d : D} (h : isHop n d = true) : ∃ k, d = tripD k ∧ HopOk n k := by
  rcases three d with ⟨a, b, c, rfl⟩ | hv
  · simp only [isHop, Bool.and_eq_true] at h
    obtain ⟨x, rfl, hx⟩ := isI_eq h.1.1
    obtain ⟨y, rfl, hy⟩ := isI_eq h.1.2
    obtain ⟨z, rfl, hz⟩ := isI_eq h.2
    exact ⟨[x, y, z], rfl, x, y, z, rfl, by omega, by omega, by omega⟩
  · rw [isHop_no hv] at h; cases h
theorem hops_trips {n : Nat} (hn : n ≤ 60) : ∀ {hs : List D}, hs.all (isHop n) = true → ∃ ks, trips hs = some ks ∧ hs = ks.map tripD ∧ (∀ k ∈ ks, HopOk n k) ∧ ∀ k ∈ ks, Tr k
  | [], _ => ⟨[], rfl, rfl, by simp, by simp⟩
  | d :: hs, h => by
    simp only [List.all_cons, Bool.and_eq_true] at h
    obtain ⟨ks, h1, rfl, h2, h3⟩ := hops_trips hn h.2
    obtain ⟨k, rfl, hk⟩ := isHop_eq h.1
    have t : Tr k := by
      obtain ⟨x, y, l, rfl, a, b, c⟩ := hk
      exact ⟨x, y, l, rfl, by omega, by omega, by omega⟩
    have h3' : ∀ k' ∈ k :: ks, Tr k' := fun k' hk' => by
      rcases List.mem_cons.mp hk' with rfl | hk'
      · exact t
      · exact h3 k' hk'
    refine ⟨k :: ks, trips_map h3', rfl, fun k' hk' => ?_, h3'⟩
    rcases List.mem_cons.mp hk' with rfl | hk'
    · exact hk
    · exact h2 k' hk'
theorem ch_if {lo n hi : Int} : (if lo ≤ n then some (PyData.bool (decide (n ≤ hi))) else some (PyData.bool false)) = some (.bool (decide (lo ≤ n ∧ n ≤ hi))) := by
  by_cases h : lo ≤ n <;> simp [h]
theorem len_ok {n lo hi : Nat} (h : lo ≤ n ∧ n ≤ hi) : decide ((lo : Int) ≤ (n : Int) ∧ (n : Int) ≤ (hi : Int)) = true := decide_eq_true (by omega)
theorem grd_if {α : Type} {b : Bool} {x : α} (h : b = true) : (if b = true then some x else none) = some x := if_pos h
theorem lenOk_ok {α : Type} {n : Nat} {x : α} (h : n ≤ 16777216) : lenOk n x = some x := if_pos h
theorem pLc_eq {vs : List Nat} {it : PL} {td : TD} {c : PB} {e : PF} {m : Mem} {xs ys : List D} (h1 : it m = some xs) (h2 : lcGo (lcTurn (wipeM m vs) td c e) xs = some ys) (h3 : ys.length ≤ 16777216) : pLc vs it td c e m = some (.list ys) := by
  unfold pLc
  rw [h1, Option.bind_some, h2, Option.bind_some, lenOk_ok h3]
theorem pOp_eq {g : D → D → Option D} {fa fb : PF} {m : Mem} {x y : D} (h1 : fa m = some x) (h2 : fb m = some y) : pOp g fa fb m = g x y := by
  unfold pOp
  rw [h1, h2]; rfl
theorem qB_eq {f : PF} {m : Mem} {b : Bool} (h : f m = some (.bool b)) : qB f m = some b := by
  unfold qB
  rw [h]; rfl
theorem nilL (m : Mem) : pLst aNil m = some (.list []) := rfl
theorem sem_fits : ∀ ds Y, det p_fits ds Y → w_fits (em0 Y.ok) (memF n_fits.length ds) := by
  rintro ds Y ⟨d, h, ok⟩
  unfold p_fits at h
  split at h
  · rename_i v
    cases h
    rcases three v with ⟨kinds, hops, arm, rfl⟩ | hv
    · obtain ⟨e0, e1, e2⟩ := at3 kinds hops arm
      simp only [isBook] at ok
      by_cases ha : isI 1 2 arm = true
      · refine ⟨false, by simp [wSeq, wSkip, wRet, wIf, wSet, wPar, wExpr, wAsg, wFrz, wNever, cP, cV, bP, lP, oP, bR, cOp, cTup, cLst, cSl, cCall, cIf, bAnd, bOr, bNot, lNil, lCons, oR, cBind, cM, cApp, cIxO, frzR, resS, vw, vwS, scal, pAnd, pOr, pNot, pI, pOp, pUn, pCh, pCall, pM, pTup, pLst, pSl, pIf, pLc, pSS, pDD, pDG, var, lit, getV, memF, memI, aNil, aCons, oNone, oSome, qB, qAnd, qOr, qNot, qYes, bYes, asB, asI, jQ, asQ, tgN, tgT, tgL, tgsNil, tgsCons, noIo, ownAt, putOwn, wipeM, lcGo, lcTurn, tyD, em0, emI0, grd, sz, lenOk, addD, subD, mulD, modD, fdivD, negD, ltD, leD, gtD, geD, isD, isnD, isNoneD, lenD, intD, absD, max2D, min2D, listD, tupleD, ixD, slD, PyData.isInt, PyData.isBool, PyData.isStr, PyData.isTuple, PyData.isList, n_fits, neD, dok, PyData.depth, PyData.eqv, p_is_int, e2, ha], (fun h => nomatch h), fun _ => ?_⟩
        rw [ha, Bool.true_and] at ok
        have ec : cutD [kinds, hops, arm] none (some 2) = [kinds, hops] := by rfl
        refine ⟨_, by simp [wSeq, wSkip, wRet, wIf, wSet, wPar, wExpr, wAsg, wFrz, wNever, cP, cV, bP, lP, oP, bR, cOp, cTup, cLst, cSl, cCall, cIf, bAnd, bOr, bNot, lNil, lCons, oR, cBind, cM, cApp, cIxO, frzR, resS, vw, vwS, scal, pAnd, pOr, pNot, pI, pOp, pUn, pCh, pCall, pM, pTup, pLst, pSl, pIf, pLc, pSS, pDD, pDG, var, lit, getV, memF, memI, aNil, aCons, oNone, oSome, qB, qAnd, qOr, qNot, qYes, bYes, asB, asI, jQ, asQ, tgN, tgT, tgL, tgsNil, tgsCons, noIo, ownAt, putOwn, wipeM, lcGo, lcTurn, tyD, em0, emI0, grd, sz, lenOk, addD, subD, mulD, modD, fdivD, negD, ltD, leD, gtD, geD, isD, isnD, isNoneD, lenD, intD, absD, max2D, min2D, listD, tupleD, ixD, slD, PyData.isInt, PyData.isBool, PyData.isStr, PyData.isTuple, PyData.isList, n_fits, ec]; rfl, _, _, rfl, by simp [wSeq, wSkip, wRet, wIf, wSet, wPar, wExpr, wAsg, wFrz, wNever, cP, cV, bP, lP, oP, bR, cOp, cTup, cLst, cSl, cCall, cIf, bAnd, bOr, bNot, lNil, lCons, oR, cBind, cM, cApp, cIxO, frzR, resS, vw, vwS, scal, pAnd, pOr, pNot, pI, pOp, pUn, pCh, pCall, pM, pTup, pLst, pSl, pIf, pLc, pSS, pDD, pDG, var, lit, getV, memF, memI, aNil, aCons, oNone, oSome, qB, qAnd, qOr, qNot, qYes, bYes, asB, asI, jQ, asQ, tgN, tgT, tgL, tgsNil, tgsCons, noIo, ownAt, putOwn, wipeM, lcGo, lcTurn, tyD, em0, emI0, grd, sz, lenOk, addD, subD, mulD, modD, fdivD, negD, ltD, leD, gtD, geD, isD, isnD, isNoneD, lenD, intD, absD, max2D, min2D, listD, tupleD, ixD, slD, PyData.isInt, PyData.isBool, PyData.isStr, PyData.isTuple, PyData.isList]; rfl, ?_⟩
        by_cases hkt : ∃ ks, kinds = .tuple ks
        · obtain ⟨ks, rfl⟩ := hkt
          by_cases hl : 1 ≤ ks.length ∧ ks.length ≤ 3
          · have hl' : (1 : Int) ≤ (ks.length : Int) ∧ (ks.length : Int) ≤ 3 := by omega
            refine ⟨false, by simp [wSeq, wSkip, wRet, wIf, wSet, wPar, wExpr, wAsg, wFrz, wNever, cP, cV, bP, lP, oP, bR, cOp, cTup, cLst, cSl, cCall, cIf, bAnd, bOr, bNot, lNil, lCons, oR, cBind, cM, cApp, cIxO, frzR, resS, vw, vwS, scal, pAnd, pOr, pNot, pI, pOp, pUn, pCh, pCall, pM, pTup, pLst, pSl, pIf, pLc, pSS, pDD, pDG, var, lit, getV, memF, memI, aNil, aCons, oNone, oSome, qB, qAnd, qOr, qNot, qYes, bYes, asB, asI, jQ, asQ, tgN, tgT, tgL, tgsNil, tgsCons, noIo, ownAt, putOwn, wipeM, lcGo, lcTurn, tyD, em0, emI0, grd, sz, lenOk, addD, subD, mulD, modD, fdivD, negD, ltD, leD, gtD, geD, isD, isnD, isNoneD, lenD, intD, absD, max2D, min2D, listD, tupleD, ixD, slD, PyData.isInt, PyData.isBool, PyData.isStr, PyData.isTuple, PyData.isList, n_fits, c_MOST_STANDS, ch_if, hl'], (fun h => nomatch h), fun _ => ?_⟩
            have lc : lcGo (lcTurn (wipeM (vw [S.val (.tuple [.tuple ks, hops, arm]), .val (.tuple ks), .val hops, .un, .un]) [3]) (tgN 3) (qOr (qNot (qB (pI PyData.isStr (var 3)))) (qB (pOp ninD (var 3) (lit c_KINDS)))) (var 3)) ks = some (ks.filter fun x => !isKind x) := by
              refine lcGo_filter fun x hx => ?_
              cases x <;> simp [wSeq, wSkip, wRet, wIf, wSet, wPar, wExpr, wAsg, wFrz, wNever, cP, cV, bP, lP, oP, bR, cOp, cTup, cLst, cSl, cCall, cIf, bAnd, bOr, bNot, lNil, lCons, oR, cBind, cM, cApp, cIxO, frzR, resS, vw, vwS, scal, pAnd, pOr, pNot, pI, pOp, pUn, pCh, pCall, pM, pTup, pLst, pSl, pIf, pLc, pSS, pDD, pDG, var, lit, getV, memF, memI, aNil, aCons, oNone, oSome, qB, qAnd, qOr, qNot, qYes, bYes, asB, asI, jQ, asQ, tgN, tgT, tgL, tgsNil, tgsCons, noIo, ownAt, putOwn, wipeM, lcGo, lcTurn, tyD, em0, emI0, grd, sz, lenOk, addD, subD, mulD, modD, fdivD, negD, ltD, leD, gtD, geD, isD, isnD, isNoneD, lenD, intD, absD, max2D, min2D, listD, tupleD, ixD, slD, PyData.isInt, PyData.isBool, PyData.isStr, PyData.isTuple, PyData.isList, isKind, ninK]
              split <;> rfl
            have e1 : (ks.filter fun x => !isKind x).isEmpty = ks.all isKind := by rw [filter_no]; simp
            refine ⟨!ks.all isKind, qB_eq ?_, fun hb => ?_, fun hb => ?_⟩
            · rw [pOp_eq (pLc_eq (by rfl) lc (Nat.le_trans (List.length_filter_le _ _) (by omega))) (nilL _), ne_nil, e1]
            · refine ⟨_, rfl, ?_⟩
              have : ks.all isKind = false := by simpa using hb
              simp only [isKinds, this, Bool.and_false, Bool.false_and] at ok
              exact ok
            · have hk : ks.all isKind = true := by simpa using hb
              have hk2 : isKinds (.tuple ks) = true := by simp only [isKinds, hk, Bool.and_true]; exact decide_eq_true hl
              rw [hk2, Bool.true_and] at ok
              simp only [kindsLen] at ok
              by_cases hht : ∃ hs, hops = .tuple hs
              · obtain ⟨hs, rfl⟩ := hht
                by_cases hh : 1 ≤ hs.length ∧ hs.length ≤ 12
                · have hh' : (1 : Int) ≤ (hs.length : Int) ∧ (hs.length : Int) ≤ 12 := by omega
                  refine ⟨false, by simp [wSeq, wSkip, wRet, wIf, wSet, wPar, wExpr, wAsg, wFrz, wNever, cP, cV, bP, lP, oP, bR, cOp, cTup, cLst, cSl, cCall, cIf, bAnd, bOr, bNot, lNil, lCons, oR, cBind, cM, cApp, cIxO, frzR, resS, vw, vwS, scal, pAnd, pOr, pNot, pI, pOp, pUn, pCh, pCall, pM, pTup, pLst, pSl, pIf, pLc, pSS, pDD, pDG, var, lit, getV, memF, memI, aNil, aCons, oNone, oSome, qB, qAnd, qOr, qNot, qYes, bYes, asB, asI, jQ, asQ, tgN, tgT, tgL, tgsNil, tgsCons, noIo, ownAt, putOwn, wipeM, lcGo, lcTurn, tyD, em0, emI0, grd, sz, lenOk, addD, subD, mulD, modD, fdivD, negD, ltD, leD, gtD, geD, isD, isnD, isNoneD, lenD, intD, absD, max2D, min2D, listD, tupleD, ixD, slD, PyData.isInt, PyData.isBool, PyData.isStr, PyData.isTuple, PyData.isList, n_fits, c_MOST_HOPS, ch_if, hh'], (fun h => nomatch h), fun _ => ?_⟩
                  have lc2 : lcGo (lcTurn (wipeM (vw [S.val (.tuple [.tuple ks, .tuple hs, arm]), .val (.tuple ks), .val (.tuple hs), .un, .un]) [4]) (tgN 4) (qNot (qB (pCall p_is_hop (aCons (pCall lenD (aCons (var 1) aNil)) (aCons (var 4) aNil))))) (var 4)) hs = some (hs.filter fun x => !isHop ks.length x) := by
                    refine lcGo_filter fun x hx => ?_
                    simp [wSeq, wSkip, wRet, wIf, wSet, wPar, wExpr, wAsg, wFrz, wNever, cP, cV, bP, lP, oP, bR, cOp, cTup, cLst, cSl, cCall, cIf, bAnd, bOr, bNot, lNil, lCons, oR, cBind, cM, cApp, cIxO, frzR, resS, vw, vwS, scal, pAnd, pOr, pNot, pI, pOp, pUn, pCh, pCall, pM, pTup, pLst, pSl, pIf, pLc, pSS, pDD, pDG, var, lit, getV, memF, memI, aNil, aCons, oNone, oSome, qB, qAnd, qOr, qNot, qYes, bYes, asB, asI, jQ, asQ, tgN, tgT, tgL, tgsNil, tgsCons, noIo, ownAt, putOwn, wipeM, lcGo, lcTurn, tyD, em0, emI0, grd, sz, lenOk, addD, subD, mulD, modD, fdivD, negD, ltD, leD, gtD, geD, isD, isnD, isNoneD, lenD, intD, absD, max2D, min2D, listD, tupleD, ixD, slD, PyData.isInt, PyData.isBool, PyData.isStr, PyData.isTuple, PyData.isList, p_is_hop]
                    split <;> rfl
                  have e2 : (hs.filter fun x => !isHop ks.length x).isEmpty = hs.all (isHop ks.length) := by rw [filter_no]; simp
                  refine ⟨!hs.all (isHop ks.length), qB_eq ?_, fun hb => ?_, fun hb => ?_⟩
                  · rw [pOp_eq (pLc_eq (by rfl) lc2 (Nat.le_trans (List.length_filter_le _ _) (by omega))) (nilL _), ne_nil, e2]
                  · refine ⟨_, rfl, ?_⟩
                    have : hs.all (isHop ks.length) = false := by simpa using hb
                    simp only [isHops, this, Bool.and_false, Bool.false_and] at ok
                    exact ok
                  · have hp : hs.all (isHop ks.length) = true := by simpa using hb
                    obtain ⟨ls, t1, rfl, t2, t3⟩ := hops_trips (by omega) hp
                    refine ⟨.bool (decide (sortU ls = ls)), ?_, ?_⟩
                    · rw [pOp_eq (x := .list (ls.map tripD)) (y := .list ((sortU ls).map tripD)) (by simp [wSeq, wSkip, wRet, wIf, wSet, wPar, wExpr, wAsg, wFrz, wNever, cP, cV, bP, lP, oP, bR, cOp, cTup, cLst, cSl, cCall, cIf, bAnd, bOr, bNot, lNil, lCons, oR, cBind, cM, cApp, cIxO, frzR, resS, vw, vwS, scal, pAnd, pOr, pNot, pI, pOp, pUn, pCh, pCall, pM, pTup, pLst, pSl, pIf, pLc, pSS, pDD, pDG, var, lit, getV, memF, memI, aNil, aCons, oNone, oSome, qB, qAnd, qOr, qNot, qYes, bYes, asB, asI, jQ, asQ, tgN, tgT, tgL, tgsNil, tgsCons, noIo, ownAt, putOwn, wipeM, lcGo, lcTurn, tyD, em0, emI0, grd, sz, lenOk, addD, subD, mulD, modD, fdivD, negD, ltD, leD, gtD, geD, isD, isnD, isNoneD, lenD, intD, absD, max2D, min2D, listD, tupleD, ixD, slD, PyData.isInt, PyData.isBool, PyData.isStr, PyData.isTuple, PyData.isList, n_fits]) (by
                        have : ls.length < 64 := by simp at hh; omega
                        simp [wSeq, wSkip, wRet, wIf, wSet, wPar, wExpr, wAsg, wFrz, wNever, cP, cV, bP, lP, oP, bR, cOp, cTup, cLst, cSl, cCall, cIf, bAnd, bOr, bNot, lNil, lCons, oR, cBind, cM, cApp, cIxO, frzR, resS, vw, vwS, scal, pAnd, pOr, pNot, pI, pOp, pUn, pCh, pCall, pM, pTup, pLst, pSl, pIf, pLc, pSS, pDD, pDG, var, lit, getV, memF, memI, aNil, aCons, oNone, oSome, qB, qAnd, qOr, qNot, qYes, bYes, asB, asI, jQ, asQ, tgN, tgT, tgL, tgsNil, tgsCons, noIo, ownAt, putOwn, wipeM, lcGo, lcTurn, tyD, em0, emI0, grd, sz, lenOk, addD, subD, mulD, modD, fdivD, negD, ltD, leD, gtD, geD, isD, isnD, isNoneD, lenD, intD, absD, max2D, min2D, listD, tupleD, ixD, slD, PyData.isInt, PyData.isBool, PyData.isStr, PyData.isTuple, PyData.isList, n_fits, sortSetD, t1, this]), eq_sorted t3]
                    · simp only [isHops, hp, risen, t1, Bool.and_true] at ok
                      rw [decide_eq_true hh, Bool.true_and] at ok
                      exact ok
                · have hh' : ¬ ((1 : Int) ≤ (hs.length : Int) ∧ (hs.length : Int) ≤ 12) := by omega
                  refine ⟨true, by simp [wSeq, wSkip, wRet, wIf, wSet, wPar, wExpr, wAsg, wFrz, wNever, cP, cV, bP, lP, oP, bR, cOp, cTup, cLst, cSl, cCall, cIf, bAnd, bOr, bNot, lNil, lCons, oR, cBind, cM, cApp, cIxO, frzR, resS, vw, vwS, scal, pAnd, pOr, pNot, pI, pOp, pUn, pCh, pCall, pM, pTup, pLst, pSl, pIf, pLc, pSS, pDD, pDG, var, lit, getV, memF, memI, aNil, aCons, oNone, oSome, qB, qAnd, qOr, qNot, qYes, bYes, asB, asI, jQ, asQ, tgN, tgT, tgL, tgsNil, tgsCons, noIo, ownAt, putOwn, wipeM, lcGo, lcTurn, tyD, em0, emI0, grd, sz, lenOk, addD, subD, mulD, modD, fdivD, negD, ltD, leD, gtD, geD, isD, isnD, isNoneD, lenD, intD, absD, max2D, min2D, listD, tupleD, ixD, slD, PyData.isInt, PyData.isBool, PyData.isStr, PyData.isTuple, PyData.isList, n_fits, c_MOST_HOPS, ch_if]; omega, (fun _ => ⟨_, rfl, ?_⟩), fun h => nomatch h⟩
                  simp only [isHops, decide_eq_false hh, Bool.false_and] at ok
                  exact ok
              · have ht : hops.isTuple = false := by cases hops <;> first | rfl | exact absurd ⟨_, rfl⟩ hht
                have hno : isHops ks.length hops = false := by cases hops <;> first | rfl | exact absurd ⟨_, rfl⟩ hht
                rw [hno] at ok
                exact ⟨true, by cases hops <;> simp [wSeq, wSkip, wRet, wIf, wSet, wPar, wExpr, wAsg, wFrz, wNever, cP, cV, bP, lP, oP, bR, cOp, cTup, cLst, cSl, cCall, cIf, bAnd, bOr, bNot, lNil, lCons, oR, cBind, cM, cApp, cIxO, frzR, resS, vw, vwS, scal, pAnd, pOr, pNot, pI, pOp, pUn, pCh, pCall, pM, pTup, pLst, pSl, pIf, pLc, pSS, pDD, pDG, var, lit, getV, memF, memI, aNil, aCons, oNone, oSome, qB, qAnd, qOr, qNot, qYes, bYes, asB, asI, jQ, asQ, tgN, tgT, tgL, tgsNil, tgsCons, noIo, ownAt, putOwn, wipeM, lcGo, lcTurn, tyD, em0, emI0, grd, sz, lenOk, addD, subD, mulD, modD, fdivD, negD, ltD, leD, gtD, geD, isD, isnD, isNoneD, lenD, intD, absD, max2D, min2D, listD, tupleD, ixD, slD, PyData.isInt, PyData.isBool, PyData.isStr, PyData.isTuple, PyData.isList, n_fits] at ht ⊢, (fun _ => ⟨_, rfl, ok⟩), fun h => nomatch h⟩
          · have hl' : ¬ ((1 : Int) ≤ (ks.length : Int) ∧ (ks.length : Int) ≤ 3) := by omega
            refine ⟨true, by simp [wSeq, wSkip, wRet, wIf, wSet, wPar, wExpr, wAsg, wFrz, wNever, cP, cV, bP, lP, oP, bR, cOp, cTup, cLst, cSl, cCall, cIf, bAnd, bOr, bNot, lNil, lCons, oR, cBind, cM, cApp, cIxO, frzR, resS, vw, vwS, scal, pAnd, pOr, pNot, pI, pOp, pUn, pCh, pCall, pM, pTup, pLst, pSl, pIf, pLc, pSS, pDD, pDG, var, lit, getV, memF, memI, aNil, aCons, oNone, oSome, qB, qAnd, qOr, qNot, qYes, bYes, asB, asI, jQ, asQ, tgN, tgT, tgL, tgsNil, tgsCons, noIo, ownAt, putOwn, wipeM, lcGo, lcTurn, tyD, em0, emI0, grd, sz, lenOk, addD, subD, mulD, modD, fdivD, negD, ltD, leD, gtD, geD, isD, isnD, isNoneD, lenD, intD, absD, max2D, min2D, listD, tupleD, ixD, slD, PyData.isInt, PyData.isBool, PyData.isStr, PyData.isTuple, PyData.isList, n_fits, c_MOST_STANDS, ch_if]; omega, (fun _ => ⟨_, rfl, ?_⟩), fun h => nomatch h⟩
            simp only [isKinds, decide_eq_false hl, Bool.false_and] at ok
            exact ok
        · have hno : isKinds kinds = false := by cases kinds <;> first | rfl | exact absurd ⟨_, rfl⟩ hkt
          rw [hno] at ok
          refine ⟨true, ?_, (fun _ => ⟨_, rfl, ok⟩), fun h => nomatch h⟩
          cases kinds <;> first | (simp [wSeq, wSkip, wRet, wIf, wSet, wPar, wExpr, wAsg, wFrz, wNever, cP, cV, bP, lP, oP, bR, cOp, cTup, cLst, cSl, cCall, cIf, bAnd, bOr, bNot, lNil, lCons, oR, cBind, cM, cApp, cIxO, frzR, resS, vw, vwS, scal, pAnd, pOr, pNot, pI, pOp, pUn, pCh, pCall, pM, pTup, pLst, pSl, pIf, pLc, pSS, pDD, pDG, var, lit, getV, memF, memI, aNil, aCons, oNone, oSome, qB, qAnd, qOr, qNot, qYes, bYes, asB, asI, jQ, asQ, tgN, tgT, tgL, tgsNil, tgsCons, noIo, ownAt, putOwn, wipeM, lcGo, lcTurn, tyD, em0, emI0, grd, sz, lenOk, addD, subD, mulD, modD, fdivD, negD, ltD, leD, gtD, geD, isD, isnD, isNoneD, lenD, intD, absD, max2D, min2D, listD, tupleD, ixD, slD, PyData.isInt, PyData.isBool, PyData.isStr, PyData.isTuple, PyData.isList, n_fits]; done) | exact absurd ⟨_, rfl⟩ hkt
      · have ha : isI 1 2 arm = false := by simpa using ha
        rw [ha] at ok
        exact ⟨true, by simp [wSeq, wSkip, wRet, wIf, wSet, wPar, wExpr, wAsg, wFrz, wNever, cP, cV, bP, lP, oP, bR, cOp, cTup, cLst, cSl, cCall, cIf, bAnd, bOr, bNot, lNil, lCons, oR, cBind, cM, cApp, cIxO, frzR, resS, vw, vwS, scal, pAnd, pOr, pNot, pI, pOp, pUn, pCh, pCall, pM, pTup, pLst, pSl, pIf, pLc, pSS, pDD, pDG, var, lit, getV, memF, memI, aNil, aCons, oNone, oSome, qB, qAnd, qOr, qNot, qYes, bYes, asB, asI, jQ, asQ, tgN, tgT, tgL, tgsNil, tgsCons, noIo, ownAt, putOwn, wipeM, lcGo, lcTurn, tyD, em0, emI0, grd, sz, lenOk, addD, subD, mulD, modD, fdivD, negD, ltD, leD, gtD, geD, isD, isnD, isNoneD, lenD, intD, absD, max2D, min2D, listD, tupleD, ixD, slD, PyData.isInt, PyData.isBool, PyData.isStr, PyData.isTuple, PyData.isList, n_fits, neD, dok, PyData.depth, PyData.eqv, p_is_int, e2, ha], (fun _ => ⟨_, rfl, ok⟩), fun h => nomatch h⟩
    · rw [isBook_no hv] at ok
      refine ⟨true, ?_, (fun _ => ⟨_, rfl, ok⟩), fun h => nomatch h⟩
      rcases hv with hv | ⟨xs, rfl, hv⟩
      · cases v <;> first | (simp [wSeq, wSkip, wRet, wIf, wSet, wPar, wExpr, wAsg, wFrz, wNever, cP, cV, bP, lP, oP, bR, cOp, cTup, cLst, cSl, cCall, cIf, bAnd, bOr, bNot, lNil, lCons, oR, cBind, cM, cApp, cIxO, frzR, resS, vw, vwS, scal, pAnd, pOr, pNot, pI, pOp, pUn, pCh, pCall, pM, pTup, pLst, pSl, pIf, pLc, pSS, pDD, pDG, var, lit, getV, memF, memI, aNil, aCons, oNone, oSome, qB, qAnd, qOr, qNot, qYes, bYes, asB, asI, jQ, asQ, tgN, tgT, tgL, tgsNil, tgsCons, noIo, ownAt, putOwn, wipeM, lcGo, lcTurn, tyD, em0, emI0, grd, sz, lenOk, addD, subD, mulD, modD, fdivD, negD, ltD, leD, gtD, geD, isD, isnD, isNoneD, lenD, intD, absD, max2D, min2D, listD, tupleD, ixD, slD, PyData.isInt, PyData.isBool, PyData.isStr, PyData.isTuple, PyData.isList, n_fits]; done) | exact absurd rfl (hv _)
      · have h3 : ((xs.length : Int) == 3) = false := by simp; omega
        simp [wSeq, wSkip, wRet, wIf, wSet, wPar, wExpr, wAsg, wFrz, wNever, cP, cV, bP, lP, oP, bR, cOp, cTup, cLst, cSl, cCall, cIf, bAnd, bOr, bNot, lNil, lCons, oR, cBind, cM, cApp, cIxO, frzR, resS, vw, vwS, scal, pAnd, pOr, pNot, pI, pOp, pUn, pCh, pCall, pM, pTup, pLst, pSl, pIf, pLc, pSS, pDD, pDG, var, lit, getV, memF, memI, aNil, aCons, oNone, oSome, qB, qAnd, qOr, qNot, qYes, bYes, asB, asI, jQ, asQ, tgN, tgT, tgL, tgsNil, tgsCons, noIo, ownAt, putOwn, wipeM, lcGo, lcTurn, tyD, em0, emI0, grd, sz, lenOk, addD, subD, mulD, modD, fdivD, negD, ltD, leD, gtD, geD, isD, isnD, isNoneD, lenD, intD, absD, max2D, min2D, listD, tupleD, ixD, slD, PyData.isInt, PyData.isBool, PyData.isStr, PyData.isTuple, PyData.isList, n_fits, neD, dok, PyData.depth, PyData.eqv, h3]
  · cases h
theorem inStr_one (c : Nat) (y : Str) : inStr ⟨#[c]⟩ y = decide (c ∈ y.cps.toList) := by
  have h : inStr ⟨#[c]⟩ y = true ↔ c ∈ y.cps.toList := by
    unfold inStr
    rw [StrLaws.found_iff, List.mem_iff_getElem?]
    exact ⟨fun ⟨i, h⟩ => ⟨i, (StrLaws.subAt_one y c i).mp h⟩, fun ⟨i, h⟩ => ⟨i, (StrLaws.subAt_one y c i).mpr h⟩⟩
  by_cases hc : c ∈ y.cps.toList
  · rw [h.mpr hc, decide_eq_true hc]
  · rw [decide_eq_false hc]
    cases e : inStr ⟨#[c]⟩ y with
    | false => rfl
    | true => exact absurd (h.mp e) hc
theorem ds_list : ("ds" : Str).cps.toList = [100, 115] := by decide +kernel
theorem dot_list : (".x" : Str).cps.toList = [46, 120] := by decide +kernel
theorem nin_one (c : Nat) (y : Str) : ninD (.str ⟨#[c]⟩) (.str y) = some (.bool (!decide (c ∈ y.cps.toList))) := by
  simp only [ninD, inD, Option.bind_some, inStr_one]
theorem lc_signs {f : D → Option (Option D)} {p : Nat → Bool} : ∀ (l : List Nat), (∀ c, f (.str ⟨#[c]⟩) = some (if p c = true then some (.str ⟨#[c]⟩) else none)) → lcGo f (l.map fun c => PyData.str ⟨#[c]⟩) = some ((l.filter p).map fun c => PyData.str ⟨#[c]⟩)
  | [], _ => rfl
  | c :: l, h => by
    have ih := lc_signs (f := f) (p := p) l h
    have h1 := h c
    by_cases hp : p c = true
    · rw [if_pos hp] at h1
      simp [lcGo, h1, ih, hp]
    · rw [if_neg hp] at h1
      simp [lcGo, h1, ih, hp]
theorem filter_none {p : Nat → Bool} (l : List Nat) : ((l.filter p).map fun c => PyData.str ⟨#[c]⟩).isEmpty = l.all fun c => !p c := by
  induction l with
  | nil => rfl
  | cons c l ih => cases h : p c <;> simp [h] at ih ⊢ ; exact ih
theorem sem_is_stretch : ∀ ds Y, det p_is_stretch ds Y → w_is_stretch (em0 Y.ok) (memF n_is_stretch.length ds) := by
  rintro ds Y ⟨d, h, ok⟩
  unfold p_is_stretch at h
  split at h
  · rename_i v least
    split at h <;> cases h
    rename_i hok
    by_cases hs : ∃ z, v = .str z
    · obtain ⟨z, rfl⟩ := hs
      simp only [isStretch] at ok
      by_cases hl : least ≤ z.length ∧ z.length ≤ 3
      · have hl' : least ≤ (z.length : Int) ∧ (z.length : Int) ≤ 3 := by omega
        have h3 : z.length ≤ 16777216 := by omega
        rw [decide_eq_true hl, Bool.true_and] at ok
        refine ⟨false, by simp [wSeq, wSkip, wRet, wIf, wSet, wPar, wExpr, wAsg, wFrz, wNever, cP, cV, bP, lP, oP, bR, cOp, cTup, cLst, cSl, cCall, cIf, bAnd, bOr, bNot, lNil, lCons, oR, cBind, cM, cApp, cIxO, frzR, resS, vw, vwS, scal, pAnd, pOr, pNot, pI, pOp, pUn, pCh, pCall, pM, pTup, pLst, pSl, pIf, pLc, pSS, pDD, pDG, var, lit, getV, memF, memI, aNil, aCons, oNone, oSome, qB, qAnd, qOr, qNot, qYes, bYes, asB, asI, jQ, asQ, tgN, tgT, tgL, tgsNil, tgsCons, noIo, ownAt, putOwn, wipeM, lcGo, lcTurn, tyD, em0, emI0, grd, sz, lenOk, addD, subD, mulD, modD, fdivD, negD, ltD, leD, gtD, geD, isD, isnD, isNoneD, lenD, intD, absD, max2D, min2D, listD, tupleD, ixD, slD, PyData.isInt, PyData.isBool, PyData.isStr, PyData.isTuple, PyData.isList, n_is_stretch, c_MOST_CELLS, ch_if, hl', h3], (fun h => nomatch h), fun _ => ?_⟩
        have lc : lcGo (lcTurn (wipeM [S.val (.str z), .val (.int least), .un] [2]) (tgN 2) (qB (pOp ninD (var 2) (lit (.str "ds")))) (var 2)) (signs z) = some ((z.cps.toList.filter fun c => !isCell c).map fun c => PyData.str ⟨#[c]⟩) := by
          refine lc_signs z.cps.toList fun c => ?_
          simp [wSeq, wSkip, wRet, wIf, wSet, wPar, wExpr, wAsg, wFrz, wNever, cP, cV, bP, lP, oP, bR, cOp, cTup, cLst, cSl, cCall, cIf, bAnd, bOr, bNot, lNil, lCons, oR, cBind, cM, cApp, cIxO, frzR, resS, vw, vwS, scal, pAnd, pOr, pNot, pI, pOp, pUn, pCh, pCall, pM, pTup, pLst, pSl, pIf, pLc, pSS, pDD, pDG, var, lit, getV, memF, memI, aNil, aCons, oNone, oSome, qB, qAnd, qOr, qNot, qYes, bYes, asB, asI, jQ, asQ, tgN, tgT, tgL, tgsNil, tgsCons, noIo, ownAt, putOwn, wipeM, lcGo, lcTurn, tyD, em0, emI0, grd, sz, lenOk, addD, subD, mulD, modD, fdivD, negD, ltD, leD, gtD, geD, isD, isnD, isNoneD, lenD, intD, absD, max2D, min2D, listD, tupleD, ixD, slD, PyData.isInt, PyData.isBool, PyData.isStr, PyData.isTuple, PyData.isList, nin_one, ds_list, isCell]
          split <;> rfl
        have hn : ((z.cps.toList.filter fun c => !isCell c).map fun c => PyData.str ⟨#[c]⟩).length ≤ 16777216 := by
          rw [List.length_map]
          refine Nat.le_trans (List.length_filter_le _ _) ?_
          simp [Str.length] at h3 ⊢; omega
        refine ⟨.bool (z.cps.toList.all isCell), ?_, ok⟩
        refine (pOp_eq (pLc_eq (by rfl) lc hn) (nilL _)).trans ?_
        rw [eq_nil, filter_none]
        simp
      · have hl' : ¬ (least ≤ (z.length : Int) ∧ (z.length : Int) ≤ 3) := by omega
        have h3 : z.length ≤ 16777216 := of_decide_eq_true hok
        rw [decide_eq_false hl, Bool.false_and] at ok
        exact ⟨true, by simp [wSeq, wSkip, wRet, wIf, wSet, wPar, wExpr, wAsg, wFrz, wNever, cP, cV, bP, lP, oP, bR, cOp, cTup, cLst, cSl, cCall, cIf, bAnd, bOr, bNot, lNil, lCons, oR, cBind, cM, cApp, cIxO, frzR, resS, vw, vwS, scal, pAnd, pOr, pNot, pI, pOp, pUn, pCh, pCall, pM, pTup, pLst, pSl, pIf, pLc, pSS, pDD, pDG, var, lit, getV, memF, memI, aNil, aCons, oNone, oSome, qB, qAnd, qOr, qNot, qYes, bYes, asB, asI, jQ, asQ, tgN, tgT, tgL, tgsNil, tgsCons, noIo, ownAt, putOwn, wipeM, lcGo, lcTurn, tyD, em0, emI0, grd, sz, lenOk, addD, subD, mulD, modD, fdivD, negD, ltD, leD, gtD, geD, isD, isnD, isNoneD, lenD, intD, absD, max2D, min2D, listD, tupleD, ixD, slD, PyData.isInt, PyData.isBool, PyData.isStr, PyData.isTuple, PyData.isList, n_is_stretch, c_MOST_CELLS, ch_if, h3]; omega, (fun _ => ⟨_, rfl, ok⟩), fun h => nomatch h⟩
    · have hno : isStretch least v = false := by cases v <;> first | rfl | exact absurd ⟨_, rfl⟩ hs
      rw [hno] at ok
      refine ⟨true, ?_, (fun _ => ⟨_, rfl, ok⟩), fun h => nomatch h⟩
      cases v <;> first | (simp [wSeq, wSkip, wRet, wIf, wSet, wPar, wExpr, wAsg, wFrz, wNever, cP, cV, bP, lP, oP, bR, cOp, cTup, cLst, cSl, cCall, cIf, bAnd, bOr, bNot, lNil, lCons, oR, cBind, cM, cApp, cIxO, frzR, resS, vw, vwS, scal, pAnd, pOr, pNot, pI, pOp, pUn, pCh, pCall, pM, pTup, pLst, pSl, pIf, pLc, pSS, pDD, pDG, var, lit, getV, memF, memI, aNil, aCons, oNone, oSome, qB, qAnd, qOr, qNot, qYes, bYes, asB, asI, jQ, asQ, tgN, tgT, tgL, tgsNil, tgsCons, noIo, ownAt, putOwn, wipeM, lcGo, lcTurn, tyD, em0, emI0, grd, sz, lenOk, addD, subD, mulD, modD, fdivD, negD, ltD, leD, gtD, geD, isD, isnD, isNoneD, lenD, intD, absD, max2D, min2D, listD, tupleD, ixD, slD, PyData.isInt, PyData.isBool, PyData.isStr, PyData.isTuple, PyData.isList, n_is_stretch]; done) | exact absurd ⟨_, rfl⟩ hs
  · cases h
theorem sem_is_laid : ∀ ds Y, det p_is_laid ds Y → w_is_laid (em0 Y.ok) (memF n_is_laid.length ds) := by
  rintro ds Y ⟨d, h, ok⟩
  unfold p_is_laid at h
  split at h
  · rename_i v
    split at h <;> cases h
    rename_i hok
    rcases three v with ⟨a, b, c, rfl⟩ | hv
    · obtain ⟨e0, e1, e2⟩ := at3 a b c
      simp only [okC, Bool.and_eq_true] at hok
      simp [w_is_laid, wSeq, wSkip, wRet, wIf, wSet, wPar, wExpr, wAsg, wFrz, wNever, cP, cV, bP, lP, oP, bR, cOp, cTup, cLst, cSl, cCall, cIf, bAnd, bOr, bNot, lNil, lCons, oR, cBind, cM, cApp, cIxO, frzR, resS, vw, vwS, scal, pAnd, pOr, pNot, pI, pOp, pUn, pCh, pCall, pM, pTup, pLst, pSl, pIf, pLc, pSS, pDD, pDG, var, lit, getV, memF, memI, aNil, aCons, oNone, oSome, qB, qAnd, qOr, qNot, qYes, bYes, asB, asI, jQ, asQ, tgN, tgT, tgL, tgsNil, tgsCons, noIo, ownAt, putOwn, wipeM, lcGo, lcTurn, tyD, em0, emI0, grd, sz, lenOk, addD, subD, mulD, modD, fdivD, negD, ltD, leD, gtD, geD, isD, isnD, isNoneD, lenD, intD, absD, max2D, min2D, listD, tupleD, ixD, slD, PyData.isInt, PyData.isBool, PyData.isStr, PyData.isTuple, PyData.isList, n_is_laid, neD, dok, PyData.depth, PyData.eqv, p_is_stretch, e0, e1, e2, hok]
      simp only [isCourt] at ok
      by_cases h1 : isStretch 0 a = true <;> by_cases h2 : isStretch 1 b = true <;> simp_all
    · rw [isCourt_no hv] at ok
      rcases hv with hv | ⟨xs, rfl, hv⟩
      · have ht : v.isTuple = false := by cases v <;> first | rfl | exact absurd rfl (hv _)
        simp [w_is_laid, wSeq, wSkip, wRet, wIf, wSet, wPar, wExpr, wAsg, wFrz, wNever, cP, cV, bP, lP, oP, bR, cOp, cTup, cLst, cSl, cCall, cIf, bAnd, bOr, bNot, lNil, lCons, oR, cBind, cM, cApp, cIxO, frzR, resS, vw, vwS, scal, pAnd, pOr, pNot, pI, pOp, pUn, pCh, pCall, pM, pTup, pLst, pSl, pIf, pLc, pSS, pDD, pDG, var, lit, getV, memF, memI, aNil, aCons, oNone, oSome, qB, qAnd, qOr, qNot, qYes, bYes, asB, asI, jQ, asQ, tgN, tgT, tgL, tgsNil, tgsCons, noIo, ownAt, putOwn, wipeM, lcGo, lcTurn, tyD, em0, emI0, grd, sz, lenOk, addD, subD, mulD, modD, fdivD, negD, ltD, leD, gtD, geD, isD, isnD, isNoneD, lenD, intD, absD, max2D, min2D, listD, tupleD, ixD, slD, PyData.isInt, PyData.isBool, PyData.isStr, PyData.isTuple, PyData.isList, n_is_laid, ht, ok]
        cases v <;> first | (simp [ok]; done) | exact absurd rfl (hv _)
      · have h3 : ((xs.length : Int) == 3) = false := by simp; omega
        simp [w_is_laid, wSeq, wSkip, wRet, wIf, wSet, wPar, wExpr, wAsg, wFrz, wNever, cP, cV, bP, lP, oP, bR, cOp, cTup, cLst, cSl, cCall, cIf, bAnd, bOr, bNot, lNil, lCons, oR, cBind, cM, cApp, cIxO, frzR, resS, vw, vwS, scal, pAnd, pOr, pNot, pI, pOp, pUn, pCh, pCall, pM, pTup, pLst, pSl, pIf, pLc, pSS, pDD, pDG, var, lit, getV, memF, memI, aNil, aCons, oNone, oSome, qB, qAnd, qOr, qNot, qYes, bYes, asB, asI, jQ, asQ, tgN, tgT, tgL, tgsNil, tgsCons, noIo, ownAt, putOwn, wipeM, lcGo, lcTurn, tyD, em0, emI0, grd, sz, lenOk, addD, subD, mulD, modD, fdivD, negD, ltD, leD, gtD, geD, isD, isnD, isNoneD, lenD, intD, absD, max2D, min2D, listD, tupleD, ixD, slD, PyData.isInt, PyData.isBool, PyData.isStr, PyData.isTuple, PyData.isList, n_is_laid, neD, dok, PyData.depth, PyData.eqv, h3, ok]
  · cases h
theorem isStretch_ok {n : Int} {v : D} (h : isStretch n v = true) : okS v = true := by
  cases v with
  | str z =>
    simp only [isStretch, Bool.and_eq_true, decide_eq_true_eq] at h
    exact decide_eq_true (by omega)
  | _ => rfl
theorem isCourt_ok {v : D} (h : isCourt v = true) : okC v = true := by
  rcases three v with ⟨a, b, c, rfl⟩ | hv
  · simp only [isCourt, Bool.and_eq_true] at h
    simp only [okC, isStretch_ok h.1.1, isStretch_ok h.1.2, isStretch_ok h.2, Bool.and_self]
  · rw [isCourt_no hv] at h; cases h
theorem sem_need_book : ∀ ds Y, det p_need_book ds Y → w_need_book (em0 Y.ok) (memF n_need_book.length ds) := by
  rintro ds Y ⟨d, h, ok⟩
  unfold p_need_book at h
  split at h
  · split at h
    · rename_i v hb
      cases h
      exact ⟨false, by simp [wSeq, wSkip, wRet, wIf, wSet, wPar, wExpr, wAsg, wFrz, wNever, cP, cV, bP, lP, oP, bR, cOp, cTup, cLst, cSl, cCall, cIf, bAnd, bOr, bNot, lNil, lCons, oR, cBind, cM, cApp, cIxO, frzR, resS, vw, vwS, scal, pAnd, pOr, pNot, pI, pOp, pUn, pCh, pCall, pM, pTup, pLst, pSl, pIf, pLc, pSS, pDD, pDG, var, lit, getV, memF, memI, aNil, aCons, oNone, oSome, qB, qAnd, qOr, qNot, qYes, bYes, asB, asI, jQ, asQ, tgN, tgT, tgL, tgsNil, tgsCons, noIo, ownAt, putOwn, wipeM, lcGo, lcTurn, tyD, em0, emI0, grd, sz, lenOk, addD, subD, mulD, modD, fdivD, negD, ltD, leD, gtD, geD, isD, isnD, isNoneD, lenD, intD, absD, max2D, min2D, listD, tupleD, ixD, slD, PyData.isInt, PyData.isBool, PyData.isStr, PyData.isTuple, PyData.isList, n_need_book, p_fits, hb], (fun h => nomatch h), fun _ => ok⟩
    · cases h
  · cases h
theorem sem_need_court : ∀ ds Y, det p_need_court ds Y → w_need_court (em0 Y.ok) (memF n_need_court.length ds) := by
  rintro ds Y ⟨d, h, ok⟩
  unfold p_need_court at h
  split at h
  · split at h
    · rename_i v hb
      cases h
      exact ⟨false, by simp [wSeq, wSkip, wRet, wIf, wSet, wPar, wExpr, wAsg, wFrz, wNever, cP, cV, bP, lP, oP, bR, cOp, cTup, cLst, cSl, cCall, cIf, bAnd, bOr, bNot, lNil, lCons, oR, cBind, cM, cApp, cIxO, frzR, resS, vw, vwS, scal, pAnd, pOr, pNot, pI, pOp, pUn, pCh, pCall, pM, pTup, pLst, pSl, pIf, pLc, pSS, pDD, pDG, var, lit, getV, memF, memI, aNil, aCons, oNone, oSome, qB, qAnd, qOr, qNot, qYes, bYes, asB, asI, jQ, asQ, tgN, tgT, tgL, tgsNil, tgsCons, noIo, ownAt, putOwn, wipeM, lcGo, lcTurn, tyD, em0, emI0, grd, sz, lenOk, addD, subD, mulD, modD, fdivD, negD, ltD, leD, gtD, geD, isD, isnD, isNoneD, lenD, intD, absD, max2D, min2D, listD, tupleD, ixD, slD, PyData.isInt, PyData.isBool, PyData.isStr, PyData.isTuple, PyData.isList, n_need_court, p_is_laid, hb, isCourt_ok hb], (fun h => nomatch h), fun _ => ok⟩
    · cases h
  · cases h
theorem mulOk_lt {i j : Int} (a b : Nat) (h1 : i.natAbs < 2 ^ a) (h2 : j.natAbs < 2 ^ b) (h : a + b ≤ 1000000) (ha : 0 < a) (hb : 0 < b) : mulOk i j = true := by
  have l1 : i.natAbs.log2 < a := by
    by_cases h0 : i.natAbs = 0
    · rw [h0]; exact ha
    · exact (Nat.log2_lt h0).mpr h1
  have l2 : j.natAbs.log2 < b := by
    by_cases h0 : j.natAbs = 0
    · rw [h0]; exact hb
    · exact (Nat.log2_lt h0).mpr h2
  exact decide_eq_true (by omega)
theorem mul_small {i j : Int} (h1 : 0 ≤ i ∧ i < 1099511627776) (h2 : 0 ≤ j ∧ j < 1099511627776) : mulD (.int i) (.int j) = some (.int (i * j)) := by
  exact grd_ok (mulOk_lt 40 40 (by omega) (by omega) (by omega) (by omega) (by omega))
theorem wSeq_mid {u v : WS} {E : EM} {m : Mem} (I : Mem → Prop) (h1 : ∀ P : Mem → Prop, (∀ m', I m' → P m') → u { E with nx := P } m) (h2 : ∀ m', I m' → v E m') : wSeq u v E m := h1 _ h2
theorem pow60 (m : Mem) : pOp mulD (pOp mulD (pOp mulD (pOp powD (lit (.int 10)) (lit (.int 60))) (pOp powD (lit (.int 10)) (lit (.int 60)))) (pOp powD (lit (.int 10)) (lit (.int 60)))) (pOp powD (lit (.int 10)) (lit (.int 60))) m = some (.int (10 ^ 240)) := by rfl
theorem pow18 (m : Mem) : pOp powD (lit (.int 10)) (lit (.int 18)) m = some (.int (10 ^ 18)) := by rfl
theorem mod_pos {i j : Int} (h : 0 < j) : modD (.int i) (.int j) = some (.int (i % j)) := by
  exact grd_ok (decide_eq_true h)
theorem sem__law_chest_of : ∀ ds Y, q__law_chest_of ds Y → w__law_chest_of (em0 Y.ok) (memF n__law_chest_of.length ds) := by
  rintro ds Y ⟨ns, k, rfl, hk, ok⟩
  obtain ⟨n, rfl⟩ : ∃ n : Nat, k = n := ⟨k.toNat, by omega⟩
  generalize hkk : (n : Int) = k at *
  have e1 : mulD (.int 28013) (.int k) = some (.int (28013 * k)) := mul_small (by omega) (by omega)
  refine ⟨.int (28013 * k + 89), by simp [wSeq, wSkip, wRet, wIf, wSet, wPar, wExpr, wAsg, wFrz, wNever, cP, cV, bP, lP, oP, bR, cOp, cTup, cLst, cSl, cCall, cIf, bAnd, bOr, bNot, lNil, lCons, oR, cBind, cM, cApp, cIxO, frzR, resS, vw, vwS, scal, pAnd, pOr, pNot, pI, pOp, pUn, pCh, pCall, pM, pTup, pLst, pSl, pIf, pLc, pSS, pDD, pDG, var, lit, getV, memF, memI, aNil, aCons, oNone, oSome, qB, qAnd, qOr, qNot, qYes, bYes, asB, asI, jQ, asQ, tgN, tgT, tgL, tgsNil, tgsCons, noIo, ownAt, putOwn, wipeM, lcGo, lcTurn, tyD, em0, emI0, grd, sz, lenOk, addD, subD, mulD, modD, fdivD, negD, ltD, leD, gtD, geD, isD, isnD, isNoneD, lenD, intD, absD, max2D, min2D, listD, tupleD, ixD, slD, PyData.isInt, PyData.isBool, PyData.isStr, PyData.isTuple, PyData.isList, n__law_chest_of] at e1 ⊢; rw [e1] <;> rfl, rfl, ?_⟩
  dsimp only
  refine wSeq_mid (fun m' => ∃ c : Int, 0 ≤ c ∧ m' = [.val (.list (ns.map PyData.int)), .val (.int k), .val (.int c)]) (fun P hP => ?_) ?_
  · have hl : (List.map PyData.int ns).length = ns.length := by simp
    by_cases h1 : k < ns.length
    · refine ⟨true, by simp [wSeq, wSkip, wRet, wIf, wSet, wPar, wExpr, wAsg, wFrz, wNever, cP, cV, bP, lP, oP, bR, cOp, cTup, cLst, cSl, cCall, cIf, bAnd, bOr, bNot, lNil, lCons, oR, cBind, cM, cApp, cIxO, frzR, resS, vw, vwS, scal, pAnd, pOr, pNot, pI, pOp, pUn, pCh, pCall, pM, pTup, pLst, pSl, pIf, pLc, pSS, pDD, pDG, var, lit, getV, memF, memI, aNil, aCons, oNone, oSome, qB, qAnd, qOr, qNot, qYes, bYes, asB, asI, jQ, asQ, tgN, tgT, tgL, tgsNil, tgsCons, noIo, ownAt, putOwn, wipeM, lcGo, lcTurn, tyD, em0, emI0, grd, sz, lenOk, addD, subD, mulD, modD, fdivD, negD, ltD, leD, gtD, geD, isD, isnD, isNoneD, lenD, intD, absD, max2D, min2D, listD, tupleD, ixD, slD, PyData.isInt, PyData.isBool, PyData.isStr, PyData.isTuple, PyData.isList, n__law_chest_of, hl, h1], fun _ => ?_, fun h => nomatch h⟩
      have hi : n < ns.length := by omega
      have ea : atI (ns.map PyData.int) k = some (.int ns[n]) := by
        rw [← hkk]
        refine atI_nat ?_
        simp [hi]
      have ef : pCall absD (aCons (pCall intD (aCons (pOp ixD (var 0) (var 1)) aNil)) aNil) [S.val (.list (ns.map PyData.int)), .val (.int k), .val (.int (28013 * k + 89))] = some (.int (if ns[n] < 0 then -ns[n] else ns[n])) := by
        simp [wSeq, wSkip, wRet, wIf, wSet, wPar, wExpr, wAsg, wFrz, wNever, cP, cV, bP, lP, oP, bR, cOp, cTup, cLst, cSl, cCall, cIf, bAnd, bOr, bNot, lNil, lCons, oR, cBind, cM, cApp, cIxO, frzR, resS, vw, vwS, scal, pAnd, pOr, pNot, pI, pOp, pUn, pCh, pCall, pM, pTup, pLst, pSl, pIf, pLc, pSS, pDD, pDG, var, lit, getV, memF, memI, aNil, aCons, oNone, oSome, qB, qAnd, qOr, qNot, qYes, bYes, asB, asI, jQ, asQ, tgN, tgT, tgL, tgsNil, tgsCons, noIo, ownAt, putOwn, wipeM, lcGo, lcTurn, tyD, em0, emI0, grd, sz, lenOk, addD, subD, mulD, modD, fdivD, negD, ltD, leD, gtD, geD, isD, isnD, isNoneD, lenD, intD, absD, max2D, min2D, listD, tupleD, ixD, slD, PyData.isInt, PyData.isBool, PyData.isStr, PyData.isTuple, PyData.isList, ea]
      refine ⟨_, (pOp_eq ef (pow60 _)).trans (mod_pos (by decide)), rfl, hP _ ⟨_, Int.emod_nonneg _ (by decide), rfl⟩⟩
    · refine ⟨false, by simp [wSeq, wSkip, wRet, wIf, wSet, wPar, wExpr, wAsg, wFrz, wNever, cP, cV, bP, lP, oP, bR, cOp, cTup, cLst, cSl, cCall, cIf, bAnd, bOr, bNot, lNil, lCons, oR, cBind, cM, cApp, cIxO, frzR, resS, vw, vwS, scal, pAnd, pOr, pNot, pI, pOp, pUn, pCh, pCall, pM, pTup, pLst, pSl, pIf, pLc, pSS, pDD, pDG, var, lit, getV, memF, memI, aNil, aCons, oNone, oSome, qB, qAnd, qOr, qNot, qYes, bYes, asB, asI, jQ, asQ, tgN, tgT, tgL, tgsNil, tgsCons, noIo, ownAt, putOwn, wipeM, lcGo, lcTurn, tyD, em0, emI0, grd, sz, lenOk, addD, subD, mulD, modD, fdivD, negD, ltD, leD, gtD, geD, isD, isnD, isNoneD, lenD, intD, absD, max2D, min2D, listD, tupleD, ixD, slD, PyData.isInt, PyData.isBool, PyData.isStr, PyData.isTuple, PyData.isList, n__law_chest_of, hl]; omega, (fun h => nomatch h), fun _ => ?_⟩
      by_cases h2 : 0 < ns.length
      · refine ⟨true, by simp [wSeq, wSkip, wRet, wIf, wSet, wPar, wExpr, wAsg, wFrz, wNever, cP, cV, bP, lP, oP, bR, cOp, cTup, cLst, cSl, cCall, cIf, bAnd, bOr, bNot, lNil, lCons, oR, cBind, cM, cApp, cIxO, frzR, resS, vw, vwS, scal, pAnd, pOr, pNot, pI, pOp, pUn, pCh, pCall, pM, pTup, pLst, pSl, pIf, pLc, pSS, pDD, pDG, var, lit, getV, memF, memI, aNil, aCons, oNone, oSome, qB, qAnd, qOr, qNot, qYes, bYes, asB, asI, jQ, asQ, tgN, tgT, tgL, tgsNil, tgsCons, noIo, ownAt, putOwn, wipeM, lcGo, lcTurn, tyD, em0, emI0, grd, sz, lenOk, addD, subD, mulD, modD, fdivD, negD, ltD, leD, gtD, geD, isD, isnD, isNoneD, lenD, intD, absD, max2D, min2D, listD, tupleD, ixD, slD, PyData.isInt, PyData.isBool, PyData.isStr, PyData.isTuple, PyData.isList, n__law_chest_of, hl]; omega, fun _ => ?_, fun h => nomatch h⟩
        have ea : atI (ns.map PyData.int) 0 = some (.int ns[0]) := by
          refine atI_nat (j := 0) ?_
          simp [h2]
        have ef : pCall absD (aCons (pCall intD (aCons (pOp ixD (var 0) (lit (.int 0))) aNil)) aNil) [S.val (.list (ns.map PyData.int)), .val (.int k), .val (.int (28013 * k + 89))] = some (.int (if ns[0] < 0 then -ns[0] else ns[0])) := by
          simp [wSeq, wSkip, wRet, wIf, wSet, wPar, wExpr, wAsg, wFrz, wNever, cP, cV, bP, lP, oP, bR, cOp, cTup, cLst, cSl, cCall, cIf, bAnd, bOr, bNot, lNil, lCons, oR, cBind, cM, cApp, cIxO, frzR, resS, vw, vwS, scal, pAnd, pOr, pNot, pI, pOp, pUn, pCh, pCall, pM, pTup, pLst, pSl, pIf, pLc, pSS, pDD, pDG, var, lit, getV, memF, memI, aNil, aCons, oNone, oSome, qB, qAnd, qOr, qNot, qYes, bYes, asB, asI, jQ, asQ, tgN, tgT, tgL, tgsNil, tgsCons, noIo, ownAt, putOwn, wipeM, lcGo, lcTurn, tyD, em0, emI0, grd, sz, lenOk, addD, subD, mulD, modD, fdivD, negD, ltD, leD, gtD, geD, isD, isnD, isNoneD, lenD, intD, absD, max2D, min2D, listD, tupleD, ixD, slD, PyData.isInt, PyData.isBool, PyData.isStr, PyData.isTuple, PyData.isList, ea]
        refine ⟨_, (pOp_eq (x := .int (28013 * k + 89)) (by rfl) ((pOp_eq ef (by rfl)).trans (mod_pos (by decide)))).trans (by simp [addD]; rfl), rfl, hP _ ⟨_, ?_, rfl⟩⟩
        have := Int.emod_nonneg (if ns[0] < 0 then -ns[0] else ns[0]) (show (1000403 : Int) ≠ 0 by decide)
        omega
      · have h0 : ns.length = 0 := by omega
        refine ⟨false, by simp [wSeq, wSkip, wRet, wIf, wSet, wPar, wExpr, wAsg, wFrz, wNever, cP, cV, bP, lP, oP, bR, cOp, cTup, cLst, cSl, cCall, cIf, bAnd, bOr, bNot, lNil, lCons, oR, cBind, cM, cApp, cIxO, frzR, resS, vw, vwS, scal, pAnd, pOr, pNot, pI, pOp, pUn, pCh, pCall, pM, pTup, pLst, pSl, pIf, pLc, pSS, pDD, pDG, var, lit, getV, memF, memI, aNil, aCons, oNone, oSome, qB, qAnd, qOr, qNot, qYes, bYes, asB, asI, jQ, asQ, tgN, tgT, tgL, tgsNil, tgsCons, noIo, ownAt, putOwn, wipeM, lcGo, lcTurn, tyD, em0, emI0, grd, sz, lenOk, addD, subD, mulD, modD, fdivD, negD, ltD, leD, gtD, geD, isD, isnD, isNoneD, lenD, intD, absD, max2D, min2D, listD, tupleD, ixD, slD, PyData.isInt, PyData.isBool, PyData.isStr, PyData.isTuple, PyData.isList, n__law_chest_of, hl, h0], (fun h => nomatch h), fun _ => ?_⟩
        exact hP _ ⟨28013 * k + 89, by omega, rfl⟩
  · rintro m' ⟨c, hc, rfl⟩
    have hm := Int.emod_nonneg c (show (2147482801 : Int) ≠ 0 by decide)
    have hm2 := Int.emod_lt_of_pos c (show (0 : Int) < 2147482801 by decide)
    have a1 : mulD (.int (c % 2147482801)) (.int 29) = some (.int (c % 2147482801 * 29)) := mul_small (by omega) (by omega)
    have a2 : mulD (.int 109) (.int k) = some (.int (109 * k)) := mul_small (by omega) (by omega)
    have ef1 : pIf (qB (pOp geD (var 2) (pOp powD (lit (.int 10)) (lit (.int 18))))) (var 2) (lit (.int 0)) [S.val (.list (ns.map PyData.int)), .val (.int k), .val (.int c)] = some (.int (if (10 ^ 18 : Int) ≤ c then c else 0)) := by
      unfold pIf
      rw [qB_eq ((pOp_eq (by rfl) (pow18 _)).trans (show geD (.int c) (.int (10 ^ 18)) = _ from rfl))]
      by_cases h : (10 ^ 18 : Int) ≤ c
      · rw [if_pos h]; simp only [Option.bind_some, decide_eq_true h, if_pos]; rfl
      · rw [if_neg h]; simp only [Option.bind_some, decide_eq_false h]; rfl
    have ef2 : pOp addD (pOp modD (pCall intD (aCons (pOp addD (pOp addD (pOp mulD (pOp modD (var 2) (lit (.int 2147482801))) (lit (.int 29))) (pOp mulD (lit (.int 109)) (var 1))) (lit (.int 67))) aNil)) (lit (.int 2147482801))) (lit (.int 1)) [S.val (.list (ns.map PyData.int)), .val (.int k), .val (.int c)]
        = some (.int ((c % 2147482801 * 29 + 109 * k + 67) % 2147482801 + 1)) := by
      have b1 := (pOp_eq (g := mulD) (fa := pOp modD (var 2) (lit (.int 2147482801))) (fb := lit (.int 29)) (m := [S.val (.list (ns.map PyData.int)), .val (.int k), .val (.int c)]) ((pOp_eq (by rfl) (by rfl)).trans (mod_pos (by decide))) (by rfl)).trans a1
      have b2 := (pOp_eq (g := mulD) (fa := lit (.int 109)) (fb := var 1) (m := [S.val (.list (ns.map PyData.int)), .val (.int k), .val (.int c)]) (by rfl) (by rfl)).trans a2
      have b3 := (pOp_eq (g := addD) ((pOp_eq (g := addD) b1 b2).trans rfl) (show lit (.int 67) _ = some (.int 67) from rfl)).trans rfl
      refine (pOp_eq ((pOp_eq (x := .int (c % 2147482801 * 29 + 109 * k + 67)) ?_ (by rfl)).trans (mod_pos (by decide))) (by rfl)).trans rfl
      unfold pCall aCons
      rw [b3]; rfl
    refine ⟨_, ef1, _, rfl, _, ef2, _, rfl, by simp, ok _ ⟨?_, ?_, ?_⟩⟩
    · split <;> omega
    · have := Int.emod_nonneg (c % 2147482801 * 29 + 109 * k + 67) (show (2147482801 : Int) ≠ 0 by decide)
      omega
    · have := Int.emod_lt_of_pos (c % 2147482801 * 29 + 109 * k + 67) (show (0 : Int) < 2147482801 by decide)
      omega
theorem ChOk_eq {ob : OB} (h : ChOk ob) : ∃ a b : Int, ob = .lst [.int a, .int b] ∧ 0 ≤ a ∧ 0 ≤ b ∧ b ≤ 2147482801 := by
  unfold ChOk at h
  split at h
  · rename_i a b
    exact ⟨a, b, rfl, h⟩
  · exact h.elim
theorem fdiv_pos {i j : Int} (h : 0 < j ∧ j < 1073741824) : fdivD (.int i) (.int j) = some (.int (i / j)) := grd_ok (decide_eq_true h)
theorem at2 (a b : D) : atI [a, b] 0 = some a ∧ atI [a, b] 1 = some b := ⟨atI_nat (j := 0) rfl, atI_nat (j := 1) rfl⟩
theorem eq_int (i j : Int) : eqD (.int i) (.int j) = some (.bool (i == j)) := rfl
theorem pInt_eq {f : PF} {m : Mem} {i : Int} (h : f m = some (.int i)) : pCall intD (aCons f aNil) m = some (.int i) := by
  unfold pCall aCons aNil
  rw [h]; rfl
theorem sem__law_lot : ∀ ob ds Y, q__law_lot ob ds Y → w__law_lot (emI0 Y.ok) (memI n__law_lot.length ob ds) := by
  rintro ob ds Y ⟨hob, m, rfl, hm, ok⟩
  obtain ⟨a, b, rfl, ha, hb⟩ := ChOk_eq hob
  obtain ⟨a0, a1⟩ := at2 (.int a) (.int b)
  by_cases h : 0 < a
  · refine ⟨true, by simp [wSeq, wSkip, wRet, wIf, wSet, wPar, wExpr, wAsg, wFrz, wNever, cP, cV, bP, lP, oP, bR, cOp, cTup, cLst, cSl, cCall, cIf, bAnd, bOr, bNot, lNil, lCons, oR, cBind, cM, cApp, cIxO, frzR, resS, vw, vwS, scal, pAnd, pOr, pNot, pI, pOp, pUn, pCh, pCall, pM, pTup, pLst, pSl, pIf, pLc, pSS, pDD, pDG, var, lit, getV, memF, memI, aNil, aCons, oNone, oSome, qB, qAnd, qOr, qNot, qYes, bYes, asB, asI, jQ, asQ, tgN, tgT, tgL, tgsNil, tgsCons, noIo, ownAt, putOwn, wipeM, lcGo, lcTurn, tyD, em0, emI0, grd, sz, lenOk, addD, subD, mulD, modD, fdivD, negD, ltD, leD, gtD, geD, isD, isnD, isNoneD, lenD, intD, absD, max2D, min2D, listD, tupleD, ixD, slD, PyData.isInt, PyData.isBool, PyData.isStr, PyData.isTuple, PyData.isList, n__law_lot, a0, h], fun _ => ?_, fun h => nomatch h⟩
    have e1 : modD (.int a) (.int m) = some (.int (a % m)) := mod_pos hm.1
    have e2 : fdivD (.int a) (.int m) = some (.int (a / m)) := fdiv_pos hm
    refine ⟨.int (a % m), (pOp_eq (x := .int a) (y := .int m) (by simp [wSeq, wSkip, wRet, wIf, wSet, wPar, wExpr, wAsg, wFrz, wNever, cP, cV, bP, lP, oP, bR, cOp, cTup, cLst, cSl, cCall, cIf, bAnd, bOr, bNot, lNil, lCons, oR, cBind, cM, cApp, cIxO, frzR, resS, vw, vwS, scal, pAnd, pOr, pNot, pI, pOp, pUn, pCh, pCall, pM, pTup, pLst, pSl, pIf, pLc, pSS, pDD, pDG, var, lit, getV, memF, memI, aNil, aCons, oNone, oSome, qB, qAnd, qOr, qNot, qYes, bYes, asB, asI, jQ, asQ, tgN, tgT, tgL, tgsNil, tgsCons, noIo, ownAt, putOwn, wipeM, lcGo, lcTurn, tyD, em0, emI0, grd, sz, lenOk, addD, subD, mulD, modD, fdivD, negD, ltD, leD, gtD, geD, isD, isnD, isNoneD, lenD, intD, absD, max2D, min2D, listD, tupleD, ixD, slD, PyData.isInt, PyData.isBool, PyData.isStr, PyData.isTuple, PyData.isList, n__law_lot, a0]) (by rfl)).trans e1, rfl, rfl, ?_⟩
    refine ⟨.int (a / m), (pOp_eq (x := .int a) (y := .int m) (by simp [wSeq, wSkip, wRet, wIf, wSet, wPar, wExpr, wAsg, wFrz, wNever, cP, cV, bP, lP, oP, bR, cOp, cTup, cLst, cSl, cCall, cIf, bAnd, bOr, bNot, lNil, lCons, oR, cBind, cM, cApp, cIxO, frzR, resS, vw, vwS, scal, pAnd, pOr, pNot, pI, pOp, pUn, pCh, pCall, pM, pTup, pLst, pSl, pIf, pLc, pSS, pDD, pDG, var, lit, getV, memF, memI, aNil, aCons, oNone, oSome, qB, qAnd, qOr, qNot, qYes, bYes, asB, asI, jQ, asQ, tgN, tgT, tgL, tgsNil, tgsCons, noIo, ownAt, putOwn, wipeM, lcGo, lcTurn, tyD, em0, emI0, grd, sz, lenOk, addD, subD, mulD, modD, fdivD, negD, ltD, leD, gtD, geD, isD, isnD, isNoneD, lenD, intD, absD, max2D, min2D, listD, tupleD, ixD, slD, PyData.isInt, PyData.isBool, PyData.isStr, PyData.isTuple, PyData.isList, n__law_lot, a0]) (by rfl)).trans e2, rfl, _, rfl, _, 0, 0, rfl, rfl, by rfl, ?_⟩
    refine ⟨_, rfl, _, rfl, ok _ _ ⟨Int.emod_nonneg _ (by omega), Int.emod_lt_of_pos _ hm.1⟩ ⟨Int.ediv_nonneg ha (by omega), hb⟩⟩
  · refine ⟨false, by simp [wSeq, wSkip, wRet, wIf, wSet, wPar, wExpr, wAsg, wFrz, wNever, cP, cV, bP, lP, oP, bR, cOp, cTup, cLst, cSl, cCall, cIf, bAnd, bOr, bNot, lNil, lCons, oR, cBind, cM, cApp, cIxO, frzR, resS, vw, vwS, scal, pAnd, pOr, pNot, pI, pOp, pUn, pCh, pCall, pM, pTup, pLst, pSl, pIf, pLc, pSS, pDD, pDG, var, lit, getV, memF, memI, aNil, aCons, oNone, oSome, qB, qAnd, qOr, qNot, qYes, bYes, asB, asI, jQ, asQ, tgN, tgT, tgL, tgsNil, tgsCons, noIo, ownAt, putOwn, wipeM, lcGo, lcTurn, tyD, em0, emI0, grd, sz, lenOk, addD, subD, mulD, modD, fdivD, negD, ltD, leD, gtD, geD, isD, isnD, isNoneD, lenD, intD, absD, max2D, min2D, listD, tupleD, ixD, slD, PyData.isInt, PyData.isBool, PyData.isStr, PyData.isTuple, PyData.isList, n__law_lot, a0]; omega, (fun h => nomatch h), fun _ => ?_⟩
    refine ⟨_, rfl, _, _, rfl, rfl, ?_⟩
    refine ⟨fun k mem => ∃ b f wd : Int, mem = [.io (.lst [.int a, .int b]), .val (.int m), .val (.int f), .val (.int wd)] ∧ (0 ≤ b ∧ b ≤ 2147482801) ∧ (0 ≤ f ∧ f < wd) ∧ 1 ≤ wd ∧ k = (m - wd).toNat + (if wd = 1 then 1 else 0), ⟨_, b, 0, 1, rfl, hb, by omega, by omega, rfl⟩, ?_⟩
    rintro k mem ⟨b, f, wd, rfl, hb, hf, hw, rfl⟩
    obtain ⟨a0, a1⟩ := at2 (.int a) (.int b)
    refine ⟨decide (wd < m ∨ wd = 1), ?_, fun hl => ?_, fun hl => ?_⟩
    · by_cases h1 : wd < m <;> by_cases h2 : wd = 1 <;> simp [wSeq, wSkip, wRet, wIf, wSet, wPar, wExpr, wAsg, wFrz, wNever, cP, cV, bP, lP, oP, bR, cOp, cTup, cLst, cSl, cCall, cIf, bAnd, bOr, bNot, lNil, lCons, oR, cBind, cM, cApp, cIxO, frzR, resS, vw, vwS, scal, pAnd, pOr, pNot, pI, pOp, pUn, pCh, pCall, pM, pTup, pLst, pSl, pIf, pLc, pSS, pDD, pDG, var, lit, getV, memF, memI, aNil, aCons, oNone, oSome, qB, qAnd, qOr, qNot, qYes, bYes, asB, asI, jQ, asQ, tgN, tgT, tgL, tgsNil, tgsCons, noIo, ownAt, putOwn, wipeM, lcGo, lcTurn, tyD, em0, emI0, grd, sz, lenOk, addD, subD, mulD, modD, fdivD, negD, ltD, leD, gtD, geD, isD, isnD, isNoneD, lenD, intD, absD, max2D, min2D, listD, tupleD, ixD, slD, PyData.isInt, PyData.isBool, PyData.isStr, PyData.isTuple, PyData.isList, eq_int, h1, h2]
    · have hl := of_decide_eq_true hl
      have hw2 : wd < 1073741824 := by omega
      have e1 : mulD (.int b) (.int 16903) = some (.int (b * 16903)) := mul_small (by omega) (by omega)
      have r0 := Int.emod_nonneg (b * 16903 + 127) (show (2147482801 : Int) ≠ 0 by decide)
      have r1 := Int.emod_lt_of_pos (b * 16903 + 127) (show (0 : Int) < 2147482801 by decide)
      refine ⟨.int ((b * 16903 + 127) % 2147482801), ?_, rfl, _, rfl, _, 1, 1, rfl, rfl, by rfl, ?_⟩
      · refine (pOp_eq (x := .int (b * 16903 + 127)) (y := .int 2147482801) (pInt_eq ((pOp_eq ((pOp_eq (x := .int b) ((pOp_eq (by rfl) (by rfl)).trans a1) (by rfl)).trans e1) (by rfl)).trans rfl)) (by rfl)).trans (mod_pos (by decide))
      generalize hb' : (b * 16903 + 127) % 2147482801 = b' at r0 r1
      obtain ⟨a0', a1'⟩ := at2 (.int a) (.int b')
      have e2 : mulD (.int f) (.int 8192) = some (.int (f * 8192)) := mul_small (by omega) (by omega)
      have e3 : fdivD (.int b') (.int 65713) = some (.int (b' / 65713)) := fdiv_pos (by omega)
      have e4 : modD (.int (b' / 65713)) (.int 8192) = some (.int (b' / 65713 % 8192)) := mod_pos (by omega)
      have e5 : mulD (.int wd) (.int 8192) = some (.int (wd * 8192)) := mul_small (by omega) (by omega)
      have q0 := Int.emod_nonneg (b' / 65713) (show (8192 : Int) ≠ 0 by decide)
      have q1 := Int.emod_lt_of_pos (b' / 65713) (show (0 : Int) < 8192 by decide)
      refine ⟨.int (f * 8192 + b' / 65713 % 8192), ?_, rfl, rfl, ?_⟩
      · show pOp addD _ _ [S.val (.list [.int a, .int b']), .val (.int m), .val (.int f), .val (.int wd)] = _
        refine (pOp_eq ((pOp_eq (by rfl) (by rfl)).trans e2) ((pOp_eq (x := .int (b' / 65713)) (pInt_eq ((pOp_eq (x := .int b') ((pOp_eq (by rfl) (by rfl)).trans a1') (by rfl)).trans e3)) (by rfl)).trans e4)).trans rfl
      refine ⟨.int (wd * 8192), (pOp_eq (by rfl) (by rfl)).trans e5, rfl, ?_⟩
      refine ⟨_, ?_, b', f * 8192 + b' / 65713 % 8192, wd * 8192, rfl, by omega, by omega, by omega, rfl⟩
      have : ¬ (wd * 8192 = 1) := by omega
      rw [if_neg this]
      split <;> omega
    · refine ⟨.int (f % m), (pOp_eq (x := .int f) (y := .int m) (by rfl) (by rfl)).trans (mod_pos hm.1), _, rfl, ok _ _ ⟨Int.emod_nonneg _ (by omega), Int.emod_lt_of_pos _ hm.1⟩ ⟨ha, hb⟩⟩
theorem atI_pos {α : Type} {xs : List α} {i : Int} {n : Nat} (e : i = n) (hn : n < xs.length) : atI xs i = some xs[n] := by
  subst e
  exact atI_nat (List.getElem?_eq_getElem hn)
theorem asQ_get {d : D} {xs : List D} {i : Int} (h : asQ d = some xs) (hi : 0 ≤ i ∧ i < xs.length) (hl : xs.length ≤ 16777216) : ∃ x ∈ xs, ixD d (.int i) = some x := by
  have key : ∀ ys : List D, (ys.length : Int) = xs.length → ∃ x ∈ ys, atI ys i = some x := fun ys hy => by
    have hj : i.toNat < ys.length := by omega
    refine ⟨ys[i.toNat], List.getElem_mem hj, ?_⟩
    exact atI_pos (by omega) hj
  cases d with
  | list ys => cases h; exact key _ rfl
  | tuple ys => cases h; exact key _ rfl
  | str z =>
    cases h
    have hz : (signs z).length = z.length := by simp [signs, Str.length]
    have hj : i.toNat < z.cps.toList.length := by rw [hz] at hi; simp [Str.length] at hi ⊢; omega
    have e1 : atI z.cps.toList i = some z.cps.toList[i.toNat] := atI_pos (by omega) hj
    refine ⟨.str ⟨#[z.cps.toList[i.toNat]]⟩, ?_, ?_⟩
    · exact List.mem_map.mpr ⟨_, List.getElem_mem hj, rfl⟩
    · have h3 : sz z.length = true := decide_eq_true (by rw [← hz]; exact hl)
      simp [ixD, grd, h3, e1, sign]
  | _ => cases h
theorem asQ_len {d : D} {xs : List D} (h : asQ d = some xs) (hl : xs.length ≤ 16777216) : lenD [d] = some (.int xs.length) := by
  cases d with
  | list ys => cases h; rfl
  | tuple ys => cases h; rfl
  | str z =>
    cases h
    have hz : (signs z).length = z.length := by simp [signs, Str.length]
    rw [hz]
    exact grd_ok (decide_eq_true (by rw [← hz]; exact hl))
  | _ => cases h
theorem sem__law_one : ∀ ob ds Y, q__law_one ob ds Y → w__law_one (emI0 Y.ok) (memI n__law_one.length ob ds) := by
  rintro ob ds Y ⟨hob, d, xs, rfl, hd, ⟨hx, hl⟩, ok⟩
  have h0 : 0 < xs.length := by
    cases xs with
    | nil => exact absurd rfl hx
    | cons x r => simp
  refine ⟨d, rfl, d, rfl, rfl, .int xs.length, ?_, _, rfl, ob, rfl, hob, xs.length, rfl, by omega, fun r ob' hr hob' => ?_⟩
  · exact (asQ_len hd (by omega))
  · obtain ⟨x, hm, hix⟩ := asQ_get hd hr (by omega)
    exact ⟨_, rfl, x, hix, ob', rfl, ok x hm ob' hob'⟩
theorem cut_to {xs : List D} {r : Int} {n : Nat} (e : r = n) (h : n ≤ xs.length) : cutD xs none (some r) = xs.take n := by
  subst e
  unfold cutD
  rw [HT.sIx_none, HT.sIx_nat, Nat.min_eq_left h, List.drop_zero, Nat.sub_zero]
theorem cut_from {xs : List D} {r : Int} {n : Nat} (e : r = n) (h : n ≤ xs.length) : cutD xs (some r) none = xs.drop n := by
  subst e
  unfold cutD
  rw [HT.sIx_none, HT.sIx_nat, Nat.min_eq_left h]
  exact List.take_of_length_le (by simp)
theorem add_list {xs ys : List D} (h : xs.length + ys.length ≤ 16777216) : addD (.list xs) (.list ys) = some (.list (xs ++ ys)) := grd_ok (decide_eq_true h)
theorem pLst1 {f : PF} {m : Mem} {x : D} (h : f m = some x) : pLst (aCons f aNil) m = some (.list [x]) := by
  unfold pLst aCons aNil
  rw [h]; rfl
theorem pSl_eq {g : D → Option Int → Option Int → Option D} {fa : PF} {lo hi : PO'} {m : Mem} {x : D} {l h : Option Int} (h1 : fa m = some x) (h2 : lo m = some l) (h3 : hi m = some h) : pSl g fa lo hi m = g x l h := by
  unfold pSl
  rw [h1, h2, h3]; rfl
theorem sem__law_shuffled : ∀ ob ds Y, q__law_shuffled ob ds Y → w__law_shuffled (emI0 Y.ok) (memI n__law_shuffled.length ob ds) := by
  rintro ob ds Y ⟨hob, xs, rfl, hl, ok⟩
  refine ⟨.list xs, rfl, _, rfl, .list [], rfl, _, rfl, _, _, rfl, ⟨rfl, rfl⟩, ?_⟩
  refine ⟨fun k mem => ∃ l f s ob', mem = [.io ob', .val (.list xs), .val (.list l), .val (.list f), s] ∧ ChOk ob' ∧ (f ++ l).Perm xs ∧ k = l.length ∧ isOwn s = false, ⟨_, xs, [], .un, ob, rfl, hob, by simp, rfl, rfl⟩, ?_⟩
  rintro k mem ⟨l, f, s, ob', rfl, hob', hp, rfl, hs⟩
  have hlen : f.length + l.length = xs.length := by rw [← List.length_append]; exact hp.length_eq
  have hvs : vwS s = s := by cases s <;> first | rfl | cases hs
  refine ⟨!l.isEmpty, qB_eq ((pOp_eq (x := .list l) (y := .list []) (by rfl) (by rfl)).trans (ne_nil l)), fun hb => ?_, fun hb => ?_⟩
  · have h0 : 0 < l.length := by
      cases l with
      | nil => cases hb
      | cons a r => simp
    have n4 : ∀ ob2, noIo [S.io ob2, .val (.list xs), .val (.list l), .val (.list f), s] 4 = true := fun ob2 => by cases s <;> first | rfl | cases hs
    refine ⟨rfl, .int l.length, rfl, _, rfl, ob', rfl, hob', l.length, rfl, by omega, fun r ob2 hr hob2 => ⟨n4 ob2, ?_⟩⟩
    obtain ⟨n, rfl⟩ : ∃ n : Nat, r = n := ⟨r.toNat, by omega⟩
    have hn : n < l.length := by omega
    have ea : atI l (n : Int) = some l[n] := atI_pos rfl hn
    refine ⟨.list (f ++ [l[n]]), (pOp_eq (x := .list f) (y := .list [l[n]]) (by rfl) (pLst1 ((pOp_eq (by rfl) (by rfl)).trans ea))).trans (add_list (by simp; omega)), rfl, ?_⟩
    have c1 : slD (.list l) none (some (n : Int)) = some (.list (l.take n)) := by
      show some (PyData.list (cutD l none (some (n : Int)))) = _
      rw [cut_to rfl (by omega)]
    have c2 : slD (.list l) (some ((n : Int) + 1)) none = some (.list (l.drop (n + 1))) := by
      show some (PyData.list (cutD l (some ((n : Int) + 1)) none)) = _
      rw [cut_from (n := n + 1) (by omega) (by omega)]
    refine ⟨.list (l.take n ++ l.drop (n + 1)), (pOp_eq ((pSl_eq (by rfl) (by rfl) (by rfl)).trans c1) ((pSl_eq (by rfl) (by rfl) (by rfl)).trans c2)).trans (add_list (by simp; omega)), rfl, ?_⟩
    refine ⟨_, ?_, _, _, _, _, rfl, hob2, ?_, rfl, rfl⟩
    · simp; omega
    · refine List.Perm.trans ?_ hp
      have e : l = l.take n ++ l[n] :: l.drop (n + 1) := by simp
      have p2 : (l.take n ++ l[n] :: l.drop (n + 1)).Perm (l[n] :: (l.take n ++ l.drop (n + 1))) := List.perm_middle
      rw [List.append_assoc]
      refine List.Perm.append_left f ?_
      conv => rhs; rw [e]
      exact p2.symm
  · have h0 : l = [] := by
      cases l with
      | nil => rfl
      | cons a r => cases hb
    subst h0
    rw [List.append_nil] at hp
    exact ⟨.list f, rfl, ob', rfl, ok f hp ob' hob'⟩
theorem sem__law_all_hops : ∀ ds Y, det p__law_all_hops ds Y → w__law_all_hops (em0 Y.ok) (memF n__law_all_hops.length ds) := by
  rintro ds Y ⟨d, h, ok⟩
  unfold p__law_all_hops at h
  split at h
  · rename_i m
    split at h <;> cases h
    rename_i hm
    have : m = 0 ∨ m = 1 ∨ m = 2 ∨ m = 3 := by omega
    rcases this with rfl | rfl | rfl | rfl
    all_goals repeat (first | exact ok | refine ⟨_, rfl, rfl, ?_⟩ | refine ⟨_, rfl, ?_⟩)
  · cases h
/-- a comprehension without a test, turn by turn -/
theorem lcx {vs : List Nat} {td : TD} {e : CP} {ok : List D → Mem → Prop} (N : Nat) (I : Nat → List D → Mem → Prop) : ∀ (xs acc : List D) (m : Mem) (i : Nat), i + xs.length = N → I i acc m →
    (∀ i x acc m, i < N → x ∈ xs → I i acc m → ∃ m1, td x (wipeM m vs) = some m1 ∧ ∀ Pd : R → Mem → Prop, (∀ r m3, (∃ d, frzR r = some d ∧ acc.length < 16777216 ∧ I (i + 1) (acc ++ [d]) (wipeM m3 vs)) → Pd r m3) → e ⟨Pd, fun _ _ => False⟩ m1) →
    (∀ acc m, I N acc m → ok acc m) → cLcGo vs td bYes e ok xs acc m
  | [], acc, m, i, hN, h, _, hk => hk acc m (by
      have : i = N := by simpa using hN
      rw [← this]; exact h)
  | x :: xs, acc, m, i, hN, h, turn, hk => by
    have hN' : i + 1 + xs.length = N := by simp at hN; omega
    obtain ⟨m1, h1, h2⟩ := turn i x acc m (by omega) (by simp) h
    refine ⟨m1, h1, fun _ => h2 _ fun r m3 ⟨d, hf, hl, hI⟩ => ⟨d, hf, hl, ?_⟩, fun h => nomatch h⟩
    exact lcx N I xs _ _ (i + 1) hN' hI (fun i x acc m hi hx => turn i x acc m hi (by simp [hx])) hk
def KS (d : D) : Prop := ∃ ks : List Str, d = .tuple (ks.map PyData.str) ∧ (1 ≤ ks.length ∧ ks.length ≤ 3) ∧ ∀ k ∈ ks, k = "both" ∨ k = "one"
def SomeOk (n : Nat) (l : List D) : Prop := 1 ≤ l.length ∧ l.length ≤ 12 ∧ ∀ y ∈ l, ∃ k, y = tripD k ∧ HopOk n k
theorem HopOk.tr {n : Nat} (hn : n ≤ 60) {k : List Int} (h : HopOk n k) : Tr k := by
  obtain ⟨x, y, l, rfl, a, b, c⟩ := h
  exact ⟨x, y, l, rfl, by omega, by omega, by omega⟩
theorem some_trips {n : Nat} (hn : n ≤ 60) : ∀ {l : List D}, (∀ y ∈ l, ∃ k, y = tripD k ∧ HopOk n k) → ∃ ks, l = ks.map tripD ∧ trips l = some ks ∧ (∀ k ∈ ks, HopOk n k) ∧ ∀ k ∈ ks, Tr k
  | [], _ => ⟨[], rfl, rfl, by simp, by simp⟩
  | d :: l, h => by
    obtain ⟨k, rfl, hk⟩ := h d (by simp)
    obtain ⟨ks, rfl, h1, h2, h3⟩ := some_trips hn (l := l) fun y hy => h y (by simp [hy])
    have h3' : ∀ k' ∈ k :: ks, Tr k' := fun k' hk' => by
      rcases List.mem_cons.mp hk' with rfl | hk'
      · exact hk.tr hn
      · exact h3 k' hk'
    refine ⟨k :: ks, rfl, trips_map h3', fun k' hk' => ?_, h3'⟩
    rcases List.mem_cons.mp hk' with rfl | hk'
    · exact hk
    · exact h2 k' hk'
theorem insU_len (x : List Int) : ∀ l : List (List Int), (insU x l).length ≤ l.length + 1
  | [] => by simp [insU]
  | y :: ys => by
    unfold insU
    split
    · simp
    · split
      · simp
      · have := insU_len x ys
        simp; omega
theorem sortU_len : ∀ l : List (List Int), (sortU l).length ≤ l.length
  | [] => by simp [sortU]
  | x :: l => by
    have h1 := insU_len x (sortU l)
    have h2 := sortU_len l
    show (insU x (sortU l)).length ≤ _
    simp; omega
theorem allHops_ok {n : Nat} : ∀ k ∈ allHops n, HopOk n k := by
  intro k hk
  unfold allHops at hk
  simp only [List.mem_flatMap, List.mem_range] at hk
  obtain ⟨i, hi, j, hj, h⟩ := hk
  simp at h
  rcases h with rfl | rfl | rfl
  · exact ⟨i, j, 1, rfl, by omega, by omega, by omega⟩
  · exact ⟨i, j, 2, rfl, by omega, by omega, by omega⟩
  · exact ⟨i, j, 3, rfl, by omega, by omega, by omega⟩
theorem allHops_len (n : Nat) (h : n = 1 ∨ n = 2 ∨ n = 3) : 3 ≤ (allHops n).length ∧ (allHops n).length ≤ 27 := by
  rcases h with rfl | rfl | rfl <;> decide
theorem sem__law_rules : ∀ ob ds Y, q__law_rules ob ds Y → w__law_rules (emI0 Y.ok) (memI n__law_rules.length ob ds) := by
  rintro ob ds Y ⟨hob, rfl, ok⟩
  -- the kinds
  have k1 : ∀ x ∈ [PyData.tuple [.str "one"], .tuple [.str "one"], .tuple [.str "one", .str "both"], .tuple [.str "one", .str "both"], .tuple [.str "both", .str "one"], .tuple [.str "one", .str "one"]], KS x := by
    intro x hx
    simp only [List.mem_cons, List.not_mem_nil, or_false] at hx
    rcases hx with rfl | rfl | rfl | rfl | rfl | rfl
    · exact ⟨["one"], rfl, by decide, by simp⟩
    · exact ⟨["one"], rfl, by decide, by simp⟩
    · exact ⟨["one", "both"], rfl, by decide, by simp⟩
    · exact ⟨["one", "both"], rfl, by decide, by simp⟩
    · exact ⟨["both", "one"], rfl, by decide, by simp⟩
    · exact ⟨["one", "one"], rfl, by decide, by simp⟩
  have k2 : ∀ x ∈ [PyData.tuple [.str "one", .str "one", .str "both"], .tuple [.str "both"], .tuple [.str "one", .str "both", .str "one"]], KS x := by
    intro x hx
    simp only [List.mem_cons, List.not_mem_nil, or_false] at hx
    rcases hx with rfl | rfl | rfl
    · exact ⟨["one", "one", "both"], rfl, by decide, by simp⟩
    · exact ⟨["both"], rfl, by decide, by simp⟩
    · exact ⟨["one", "both", "one"], rfl, by decide, by simp⟩
  refine ⟨rfl, _, rfl, _, rfl, ob, rfl, ⟨hob, _, _, rfl, rfl, by simp, fun x hx ob1 hob1 => ⟨rfl, ?_⟩⟩⟩
  have hx := k1 x hx
  dsimp only
  refine wSeq_mid (fun m' => ∃ ob ks, KS (.tuple ks) ∧ ChOk ob ∧ m' = [.io ob, .val (.tuple ks), .un, .un]) (fun P hP => ?_) ?_
  · refine ⟨rfl, _, rfl, _, rfl, ob1, rfl, hob1, 5, rfl, by omega, fun r ob2 hr hob2 => ⟨_, rfl, _, rfl, _, rfl, _, rfl, _, rfl, fun _ => ?_, fun _ => ?_⟩⟩
    · refine ⟨rfl, _, rfl, _, rfl, ob2, rfl, ⟨hob2, _, _, rfl, rfl, by simp, fun y hy ob3 hob3 => ⟨rfl, ?_⟩⟩⟩
      obtain ⟨ks, rfl, hk⟩ := k2 y hy
      exact hP _ ⟨ob3, _, ⟨ks, rfl, hk⟩, hob3, rfl⟩
    · obtain ⟨ks, rfl, hk⟩ := hx
      exact hP _ ⟨ob2, _, ⟨ks, rfl, hk⟩, hob2, rfl⟩
  rintro m' ⟨ob2, _, ⟨ks, e, hkl, hkk⟩, hob2, rfl⟩
  cases e
  -- how many
  refine ⟨rfl, _, rfl, _, rfl, ob2, rfl, ⟨hob2, _, _, rfl, rfl, by simp, fun x hx ob3 hob3 => ⟨rfl, ?_⟩⟩⟩
  obtain ⟨many, rfl, hm⟩ : ∃ many : Nat, x = .int many ∧ 2 ≤ many ∧ many ≤ 12 := by
    simp only [List.mem_cons, List.not_mem_nil, or_false] at hx
    rcases hx with rfl | rfl | rfl | rfl | rfl | rfl
    · exact ⟨2, rfl, by omega⟩
    · exact ⟨3, rfl, by omega⟩
    · exact ⟨4, rfl, by omega⟩
    · exact ⟨6, rfl, by omega⟩
    · exact ⟨9, rfl, by omega⟩
    · exact ⟨12, rfl, by omega⟩
  -- some hops
  have hkn : ks.length = 1 ∨ ks.length = 2 ∨ ks.length = 3 := by omega
  obtain ⟨al, ah⟩ := allHops_len ks.length hkn
  have eh : pCall p__law_all_hops (aCons (pCall lenD (aCons (var 1) aNil)) aNil) [S.io ob3, .val (.tuple (ks.map PyData.str)), .val (.int many), .un] = some (.list ((allHops ks.length).map tripD)) := by
    have : (0 : Int) ≤ (ks.length : Int) ∧ (ks.length : Int) ≤ 3 := by omega
    simp [pCall, aCons, aNil, var, getV, lenD, p__law_all_hops, this]
  refine ⟨rfl, _, eh, _, rfl, ob3, rfl, ⟨hob3, _, rfl, by simp; omega, fun ys hys ob4 hob4 => ⟨.list ys, rfl, _, rfl, .list (ys.take many), ?_, rfl, ?_⟩⟩⟩
  · have hl : ys.length = (allHops ks.length).length := by rw [hys.length_eq]; simp
    show some (PyData.list (cutD ys none (some (many : Int)))) = _
    by_cases h : many ≤ ys.length
    · rw [cut_to rfl h]
    · unfold cutD
      rw [HT.sIx_none, HT.sIx_nat, Nat.min_eq_right (by omega), List.drop_zero, Nat.sub_zero, List.take_of_length_le (Nat.le_refl _), List.take_of_length_le (by omega)]
  have hs : SomeOk ks.length (ys.take many) := by
    have hl : ys.length = (allHops ks.length).length := by rw [hys.length_eq]; simp
    refine ⟨by simp; omega, by simp; omega, fun y hy => ?_⟩
    have := hys.mem_iff.mp (List.mem_of_mem_take hy)
    obtain ⟨k, hk, rfl⟩ := List.mem_map.mp this
    exact ⟨k, rfl, allHops_ok k hk⟩
  -- the plain ones ahead
  dsimp only
  refine wSeq_mid (fun m' => ∃ ob l, SomeOk ks.length l ∧ ChOk ob ∧ m' = [.io ob, .val (.tuple (ks.map PyData.str)), .val (.int many), .val (.list l)]) (fun P hP => ?_) ?_
  · refine ⟨rfl, _, rfl, _, rfl, ob4, rfl, hob4, 3, rfl, by omega, fun r ob5 hr hob5 => ⟨_, rfl, _, rfl, _, rfl, _, rfl, _, rfl, fun _ => ?_, fun _ => ?_⟩⟩
    · obtain ⟨hs1, hs2, hs3⟩ := hs
      generalize ys.take many = l at hs1 hs2 hs3
      have e1 : pOp addD (pLst (aCons (pTup (aCons (lit (.int 0)) (aCons (lit (.int 0)) (aCons (lit (.int 1)) aNil)))) (aCons (pTup (aCons (lit (.int 0)) (aCons (lit (.int 0)) (aCons (lit (.int 2)) aNil)))) (aCons (pTup (aCons (lit (.int 0)) (aCons (lit (.int 0)) (aCons (lit (.int 3)) aNil)))) aNil)))) (var 3) [S.io ob5, .val (.tuple (ks.map PyData.str)), .val (.int many), .val (.list l)]
          = some (.list ([tripD [0, 0, 1], tripD [0, 0, 2], tripD [0, 0, 3]] ++ l)) := (pOp_eq (x := .list [tripD [0, 0, 1], tripD [0, 0, 2], tripD [0, 0, 3]]) (by rfl) (by rfl)).trans (add_list (by simp; omega))
      have e2 : oSome (pCall max2D (aCons (lit (.int 3)) (aCons (var 2) aNil))) [S.io ob5, .val (.tuple (ks.map PyData.str)), .val (.int many), .val (.list l)] = some (some ((max 3 many : Nat) : Int)) := by
        simp [oSome, pCall, aCons, aNil, lit, var, getV, max2D, asI]
        split <;> omega
      have all : ∀ y ∈ [tripD [0, 0, 1], tripD [0, 0, 2], tripD [0, 0, 3]] ++ l, ∃ k, y = tripD k ∧ HopOk ks.length k := fun y hy => by
        rcases List.mem_append.mp hy with hy | hy
        · simp only [List.mem_cons, List.not_mem_nil, or_false] at hy
          rcases hy with rfl | rfl | rfl
          · exact ⟨_, rfl, 0, 0, 1, rfl, by omega, by omega, by omega⟩
          · exact ⟨_, rfl, 0, 0, 2, rfl, by omega, by omega, by omega⟩
          · exact ⟨_, rfl, 0, 0, 3, rfl, by omega, by omega, by omega⟩
        · exact hs3 y hy
      have e3 : slD (.list ([tripD [0, 0, 1], tripD [0, 0, 2], tripD [0, 0, 3]] ++ l)) none (some ((max 3 many : Nat) : Int)) = some (.list (([tripD [0, 0, 1], tripD [0, 0, 2], tripD [0, 0, 3]] ++ l).take (max 3 many))) := by
        show some (PyData.list (cutD _ none (some _))) = _
        by_cases h : max 3 many ≤ ([tripD [0, 0, 1], tripD [0, 0, 2], tripD [0, 0, 3]] ++ l).length
        · rw [cut_to rfl h]
        · unfold cutD
          rw [HT.sIx_none, HT.sIx_nat, Nat.min_eq_right (by omega), List.drop_zero, Nat.sub_zero, List.take_of_length_le (Nat.le_refl _), List.take_of_length_le (by omega)]
      refine ⟨_, (pSl_eq e1 (by rfl) e2).trans e3, rfl, hP _ ⟨ob5, _, ⟨?_, ?_, fun y hy => all y (List.mem_of_mem_take hy)⟩, hob5, rfl⟩⟩
      · simp; omega
      · simp; omega
    · exact hP _ ⟨ob5, _, hs, hob5, rfl⟩
  rintro m' ⟨ob5, l, ⟨hl1, hl2, hl3⟩, hob5, rfl⟩
  obtain ⟨hs, rfl, ht, hh, hT⟩ := some_trips (by omega) hl3
  rw [List.length_map] at hl1 hl2
  have e1 : pCall tupleD (aCons (pSS (var 3)) aNil) [S.io ob5, .val (.tuple (ks.map PyData.str)), .val (.int many), .val (.list (hs.map tripD))] = some (.tuple ((sortU hs).map tripD)) := by
    have h64 : hs.length < 64 := by omega
    simp [pCall, aCons, aNil, pSS, var, getV, sortSetD, ht, grd, h64, tupleD]
  refine ⟨_, rfl, _, rfl, _, e1, _, rfl, _, rfl, _, rfl, rfl, _, rfl, _, rfl, ob5, rfl, hob5, 2, rfl, by omega, fun r ob6 hr hob6 => ⟨_, rfl, _, rfl, _, rfl, by simp, ob6, rfl, ?_⟩⟩
  have hsT := sortU_mem hT
  refine ok ⟨ks, sortU hs, 1 + r⟩ ⟨hkl, hkk, ⟨?_, Nat.le_trans (sortU_len hs) hl2⟩, fun h hm => hh h ((hsT h).mp hm), ?_, ?_⟩ ob6 hob6
  · cases hs with
    | nil => simp at hl1
    | cons h r =>
      have := (hsT h).mpr (by simp)
      exact List.length_pos_of_mem this
  · exact sortU_id (fun y hy => hT y ((hsT y).mp hy)) (sortU_sorted hT)
  · have : r = 0 ∨ r = 1 := by omega
    rcases this with rfl | rfl
    · exact .inl rfl
    · exact .inr rfl
/-- texts of one cell each, joined -/
theorem join_cells : ∀ {zs : List Str}, (∀ z ∈ zs, ∃ c, z = ⟨#[c]⟩ ∧ (c = 100 ∨ c = 115)) → (Txt.join "" zs).length = zs.length ∧ Row (Txt.join "" zs) := by
  intro zs h
  have e0 : TL.tl ("" : Str) = [] := by decide +kernel
  have key : ∀ zs : List Str, TL.joinL [] (zs.map TL.tl) = (zs.map TL.tl).flatten := by
    intro zs
    induction zs with
    | nil => rfl
    | cons x r ih =>
      cases r with
      | nil => simp [TL.joinL]
      | cons y r =>
        simp only [List.map_cons, TL.joinL, List.nil_append, List.flatten_cons] at ih ⊢
        rw [ih]
  have e : TL.tl (Txt.join "" zs) = (zs.map TL.tl).flatten := by
    rw [TL.join_eq, TL.tl_join, e0, key]
  have e2 : ∀ zs : List Str, (∀ z ∈ zs, ∃ c, z = ⟨#[c]⟩ ∧ (c = 100 ∨ c = 115)) → (zs.map TL.tl).flatten.length = zs.length ∧ ∀ c ∈ (zs.map TL.tl).flatten, c = 100 ∨ c = 115 := by
    intro zs h
    induction zs with
    | nil => simp
    | cons x r ih =>
      obtain ⟨c, rfl, hc⟩ := h x (by simp)
      obtain ⟨i1, i2⟩ := ih fun z hz => h z (by simp [hz])
      have ec : TL.tl (⟨#[c]⟩ : Str) = [c] := rfl
      simp only [List.map_cons, List.flatten_cons, ec, List.length_append, List.length_cons, List.length_nil, i1]
      refine ⟨by omega, fun d hd => ?_⟩
      rcases List.mem_append.mp hd with hd | hd
      · rw [List.mem_singleton.mp hd]; exact hc
      · exact i2 d hd
  obtain ⟨h1, h2⟩ := e2 zs h
  rw [← e] at h1 h2
  refine ⟨?_, h2⟩
  rw [← h1]
  simp [TL.tl, Str.length]
theorem strsD_map : ∀ zs : List Str, strsD (zs.map PyData.str) = some zs
  | [] => rfl
  | z :: zs => by simp [strsD, strsD_map zs]
theorem big_nat {n : Nat} (hn : n ≤ 1000000) : big (n : Int) := ⟨by omega, by omega⟩
theorem jr1_at (j : Int) : jR1 (fun _ => some [.int j]) [] = if big j then some (rng 0 j.toNat) else none := rfl
theorem jr1_some (j : Int) (h : big j) : jR1 (fun _ => some [.int j]) [] = some (rng 0 j.toNat) := by
  rw [jr1_at]
  generalize rng 0 j.toNat = z
  exact if_pos h
theorem jr1_of {fs : PL} {m : Mem} {ds : List D} (h : fs m = some ds) : jR1 fs m = jR1 (fun _ => some ds) [] := by
  unfold jR1
  rw [h]
theorem jR1_eq {f : PF} {m : Mem} {n : Nat} (h : f m = some (.int n)) (hn : n ≤ 1000000) : jR1 (aCons f aNil) m = some (rng 0 n) := by
  have e : aCons f aNil m = some [.int n] := by
    unfold aCons aNil
    rw [h]; rfl
  rw [jr1_of e, jr1_some _ (big_nat hn), Int.toNat_natCast]
def SgOk (z : Str) : Prop := z.cps.toList ≠ [] ∧ z.cps.toList.length ≤ 3 ∧ ∀ c ∈ z.cps.toList, c = 100 ∨ c = 115
theorem ground_turn {sg : Str} (hsg : SgOk sg) {mo : Int} (hmo : mo = 2 ∨ mo = 3) {rows : List D} (hr : rows.length ≤ 2) {ob : OB} (hob : ChOk ob) {s4 s5 : S} (h4 : isOwn s4 = false) (h5 : isOwn s5 = false) {E : EM}
    (k : ∀ z ob' s4' s5', (Row z ∧ z.length ≤ 3 ∧ (mo = 3 → 1 ≤ z.length)) → ChOk ob' → isOwn s4' = false → isOwn s5' = false → E.nx [.io ob', .val (.str sg), .ow (.lst (rows ++ [.str z])), .val (.int mo), s4', s5']) :
    w__law_ground_l1 E [.io ob, .val (.str sg), .ow (.lst rows), .val (.int mo), s4, s5] := by
  -- how many
  unfold w__law_ground_l1
  refine wSeq_mid (fun m' => ∃ (mn : Nat) (ob' : OB), m' = [.io ob', .val (.str sg), .ow (.lst rows), .val (.int mo), .val (.int mn), s5] ∧ ChOk ob' ∧ mn ≤ 3 ∧ (mo = 3 → 1 ≤ mn)) (fun P hP => ?_) ?_
  · have n4 : ∀ ob', noIo [S.io ob', .val (.str sg), .ow (.lst rows), .val (.int mo), s4, s5] 4 = true := fun ob' => by cases s4 <;> first | rfl | cases h4
    rcases hmo with rfl | rfl
    · refine ⟨true, rfl, fun _ => ⟨rfl, _, rfl, _, rfl, ob, rfl, hob, 3, rfl, by omega, fun r ob' hr hob' => ⟨n4 ob', ?_⟩⟩, fun h => nomatch h⟩
      obtain ⟨mn, rfl⟩ : ∃ n : Nat, r = n := ⟨r.toNat, by omega⟩
      exact hP _ ⟨mn, ob', rfl, hob', by omega, by omega⟩
    · refine ⟨false, rfl, (fun h => nomatch h), fun _ => ⟨_, rfl, _, rfl, rfl, _, rfl, _, rfl, ob, rfl, hob, 3, rfl, by omega, fun r ob' hr hob' => ⟨_, rfl, _, rfl, n4 ob', ?_⟩⟩⟩
      obtain ⟨mn, hmn⟩ : ∃ n : Nat, 1 + r = n := ⟨(1 + r).toNat, by omega⟩
      refine hP _ ⟨mn, ob', ?_, hob', by omega, by omega⟩
      rw [← hmn]; rfl
  rintro m' ⟨mn, ob', rfl, hob', hmn, hmn2⟩
  -- the cells
  refine ⟨⟨rows, rfl⟩, .str "", rfl, by decide, rng 0 mn, jR1_eq rfl (by omega), ?_⟩
  refine lcx mn (fun i acc m => ∃ ob2 s5 zs, m = [.io ob2, .val (.str sg), .ow (.lst rows), .val (.int mo), .val (.int mn), s5] ∧ isOwn s5 = false ∧ ChOk ob2 ∧ acc = zs.map PyData.str ∧ zs.length = i ∧ ∀ z ∈ zs, ∃ c, z = ⟨#[c]⟩ ∧ (c = 100 ∨ c = 115)) _ _ _ 0 (by simp [rng]) ⟨ob', s5, [], rfl, h5, hob', rfl, rfl, by simp⟩ ?_ ?_
  · rintro i x acc m hi _ ⟨ob2, s5, zs, rfl, hs5, hob2, rfl, hlen, hz⟩
    refine ⟨_, rfl, fun Pd hPd => ⟨rfl, .str sg, rfl, _, rfl, ob2, rfl, ⟨hob2, .str sg, signs sg, rfl, rfl, ⟨?_, ?_⟩, fun y hy ob3 hob3 => ?_⟩⟩⟩
    · intro h
      exact hsg.1 (by simpa [signs] using h)
    · have := hsg.2.1
      simp [signs] at this ⊢; omega
    · obtain ⟨c, hc, rfl⟩ := List.mem_map.mp hy
      refine hPd _ _ ⟨_, rfl, by simp; omega, ob3, .un, zs ++ [⟨#[c]⟩], rfl, rfl, hob3, by simp, by simp [hlen], fun z hz' => ?_⟩
      rcases List.mem_append.mp hz' with h | h
      · exact hz z h
      · rw [List.mem_singleton.mp h]
        exact ⟨c, rfl, hsg.2.2 c hc⟩
  · rintro acc m ⟨ob2, s5, zs, rfl, hs5, hob2, rfl, hlen, hz⟩
    obtain ⟨j1, j2⟩ := join_cells hz
    have hzl : zs.length = mn := hlen
    have hj : joinD (.str "") [.list (zs.map PyData.str)] = some (.str (Txt.join "" zs)) := by
      have hs : (zs.map (·.length)).sum ≤ 3 := by
        have : ∀ zs : List Str, (∀ z ∈ zs, ∃ c, z = ⟨#[c]⟩ ∧ (c = 100 ∨ c = 115)) → (zs.map (·.length)).sum = zs.length := fun zs h => by
          induction zs with
          | nil => rfl
          | cons a r ih =>
            obtain ⟨c, rfl, _⟩ := h a (by simp)
            have := ih fun z hz => h z (by simp [hz])
            have e1 : (⟨#[c]⟩ : Str).length = 1 := rfl
            simp only [List.map_cons, List.sum_cons, this, List.length_cons, e1]; omega
        rw [this zs hz]; omega
      have h0 : ("" : Str).length = 0 := by decide
      simp only [joinD, strsD_map, Option.bind_some, h0, Nat.mul_zero]
      exact grd_ok (decide_eq_true (by omega))
    refine ⟨_, rfl, _, hj, _, rfl, rows, rfl, by omega, ?_⟩
    exact k _ ob2 _ _ ⟨j2, by omega, fun h => by have := hmn2 h; omega⟩ hob2 rfl hs5
theorem sem__law_ground : ∀ ob ds Y, q__law_ground ob ds Y → w__law_ground (emI0 Y.ok) (memI n__law_ground.length ob ds) := by
  rintro ob ds Y ⟨hob, rfl, ok⟩
  have k1 : ∀ x ∈ [PyData.str "s", .str "s", .str "ssd", .str "sd", .str "sd", .str "d"], ∃ z, x = .str z ∧ SgOk z := by
    intro x hx
    simp only [List.mem_cons, List.not_mem_nil, or_false] at hx
    rcases hx with rfl | rfl | rfl | rfl | rfl | rfl
    · exact ⟨_, rfl, by decide +kernel, by decide +kernel, by decide +kernel⟩
    · exact ⟨_, rfl, by decide +kernel, by decide +kernel, by decide +kernel⟩
    · exact ⟨_, rfl, by decide +kernel, by decide +kernel, by decide +kernel⟩
    · exact ⟨_, rfl, by decide +kernel, by decide +kernel, by decide +kernel⟩
    · exact ⟨_, rfl, by decide +kernel, by decide +kernel, by decide +kernel⟩
    · exact ⟨_, rfl, by decide +kernel, by decide +kernel, by decide +kernel⟩
  refine ⟨rfl, _, rfl, _, rfl, ob, rfl, ⟨hob, _, _, rfl, rfl, by simp, fun x hx ob1 hob1 => ⟨rfl, ?_⟩⟩⟩
  obtain ⟨sg, rfl, hsg⟩ := k1 x hx
  refine ⟨by simp, rfl, ?_⟩
  refine ⟨_, rfl, _, rfl, ?_⟩
  refine ground_turn hsg (.inl rfl) (by simp) hob1 rfl rfl fun a ob2 s4 s5 ha hob2 h4 h5 => ⟨_, rfl, ?_⟩
  refine ground_turn hsg (.inr rfl) (by simp) hob2 h4 h5 fun b ob3 s4 s5 hb hob3 h4 h5 => ⟨_, rfl, ?_⟩
  refine ground_turn hsg (.inl rfl) (by simp) hob3 h4 h5 fun c ob4 s4 s5 hc hob4 h4 h5 => ?_
  refine ⟨_, rfl, _, rfl, ob4, rfl, ?_⟩
  exact ok ⟨a, b, c⟩ ⟨ha.2.1, ⟨hb.2.2 rfl, hb.2.1⟩, hc.2.1, ha.1, hb.1, hc.1⟩ ob4 hob4
/-! ### joined and split texts -/
theorem split_ne (x y : Str) : Txt.split x y ≠ [] := by
  unfold Txt.split
  split
  · simp
  · split
    · simp
    · intro h
      have := congrArg List.length h
      rw [length_partsBetween] at this
      simp at this
theorem join_bound {y : Str} (hy : 1 ≤ y.length) : ∀ parts : List Str, parts.length ≤ (Str.join y parts).length + 1 ∧ ∀ p ∈ parts, p.length ≤ (Str.join y parts).length
  | [] => by simp
  | [x] => by
    refine ⟨by simp, fun p hp => ?_⟩
    rw [List.mem_singleton.mp hp]
    exact Nat.le_refl _
  | x :: z :: r => by
    obtain ⟨h1, h2⟩ := join_bound hy (z :: r)
    have e : (Str.join y (x :: z :: r)).length = x.length + y.length + (Str.join y (z :: r)).length := by
      show (x ++ y ++ Str.join y (z :: r)).length = _
      rw [Str.length_append, Str.length_append]
    rw [e]
    refine ⟨by simp at h1 ⊢; omega, fun p hp => ?_⟩
    rcases List.mem_cons.mp hp with rfl | hp
    · omega
    · have := h2 p hp; omega
theorem split_bound {y : Str} (x : Str) (hy : 1 ≤ y.length) : (Txt.split x y).length ≤ x.length + 1 ∧ ∀ p ∈ Txt.split x y, p.length ≤ x.length := by
  have h := join_bound hy (Txt.split x y)
  rw [StrLaws.join_split] at h
  exact h
theorem join_len (y : Str) : ∀ (parts : List Str), (Txt.join y parts).length ≤ (parts.map (·.length)).sum + parts.length * y.length := fun parts => by
  rw [TL.join_eq]
  exact StrLaws.join_length_le y parts
theorem sum_le {zs : List Str} {k : Nat} (h : ∀ z ∈ zs, z.length ≤ k) : (zs.map (·.length)).sum ≤ zs.length * k := by
  induction zs with
  | nil => simp
  | cons z zs ih =>
    have h1 := h z (by simp)
    have h2 := ih fun z hz => h z (by simp [hz])
    simp only [List.map_cons, List.sum_cons, List.length_cons, Nat.succ_mul]
    omega
theorem joinD_list {a : Str} {zs : List Str} (h : (zs.map (·.length)).sum + zs.length * a.length ≤ 16777216) : joinD (.str a) [.list (zs.map PyData.str)] = some (.str (Txt.join a zs)) := by
  simp only [joinD, strsD_map, Option.bind_some]
  exact grd_ok (decide_eq_true h)
theorem joinD_tup {a : Str} {zs : List Str} (h : (zs.map (·.length)).sum + zs.length * a.length ≤ 16777216) : joinD (.str a) [.tuple (zs.map PyData.str)] = some (.str (Txt.join a zs)) := by
  simp only [joinD, strsD_map, Option.bind_some]
  exact grd_ok (decide_eq_true h)
theorem splitD_ok {a b : Str} (hb : b.length = 1) (h : a.length ≤ 10000000) : splitD (.str a) [.str b] = some (.list ((Txt.split a b).map PyData.str)) := by
  have hb' : (b.length != 0) = true := by rw [hb]; rfl
  simp only [splitD]
  rw [hb', Bool.true_and]
  exact grd_ok (decide_eq_true (by omega))
theorem tl_join1 (y : Str) (p q : Str) (r : List Str) : TL.tl (Txt.join y (p :: q :: r)) = TL.tl p ++ (TL.tl y ++ TL.tl (Txt.join y (q :: r))) := by
  rw [TL.join_eq, TL.join_eq]
  show TL.tl (p ++ y ++ Str.join y (q :: r)) = _
  rw [TL.tl_append, TL.tl_append, List.append_assoc]
/-- what stands in a joined text -/
theorem mem_join {y : Str} {c : Nat} : ∀ {parts : List Str}, c ∈ TL.tl (Txt.join y parts) → c ∈ TL.tl y ∨ ∃ p ∈ parts, c ∈ TL.tl p
  | [], h => by
    have : TL.tl (Txt.join y []) = [] := by rw [TL.join_eq]; rfl
    rw [this] at h; cases h
  | [p], h => by
    have : Txt.join y [p] = p := by rw [TL.join_eq]; rfl
    rw [this] at h
    exact .inr ⟨p, by simp, h⟩
  | p :: q :: r, h => by
    rw [tl_join1] at h
    rcases List.mem_append.mp h with h | h
    · exact .inr ⟨p, by simp, h⟩
    · rcases List.mem_append.mp h with h | h
      · exact .inl h
      · rcases mem_join h with h | ⟨z, hz, h⟩
        · exact .inl h
        · exact .inr ⟨z, by simp [hz], h⟩
theorem tl_strI (n : Nat) (h : n < 10) : TL.tl (strI n) = [48 + n] := (TL.tl_num n).trans (TL.numL_lt h)
theorem len_strI (n : Nat) (h : n < 10) : (strI n).length = 1 := by rw [TL.len_tl, tl_strI n h]; rfl
theorem strD_ok (n : Nat) (h : n < 10) : strD [.int n] = some (.str (strI n)) := by
  have : decide ((n : Int).natAbs ≤ 1000000000) = true := decide_eq_true (by omega)
  exact grd_ok this
theorem tl_dash : TL.tl ("-" : Str) = [45] := by decide +kernel
theorem tl_sp : TL.tl (" " : Str) = [32] := by decide +kernel
theorem tl_nl : TL.tl ("\n" : Str) = [10] := by decide +kernel
theorem split_at {y : Str} {s : Nat} (ey : TL.tl y = [s]) (hs : s < 256) {parts : List Str} (hne : parts ≠ []) (hp : ∀ p ∈ parts, s ∉ TL.tl p) : Txt.split (Txt.join y parts) y = parts := by
  refine TL.split_join ey ?_ hne hp
  have e : y.cps = #[s] := by
    apply Array.toList_inj.mp
    exact ey
  rw [e]
  simpa using hs
/-- one hop's text -/
structure HopT (n : Nat) (h : List Int) : Prop where
  tl : ∃ x y l : Nat, h = [(x : Int), (y : Int), (l : Int)] ∧ x < 3 ∧ y < 3 ∧ 1 ≤ l ∧ l ≤ 3 ∧ x < n ∧ y < n
theorem HopOk.t {n : Nat} {h : List Int} (hn : n ≤ 3) (k : HopOk n h) : HopT n h := by
  obtain ⟨x, y, l, rfl, a, b, c⟩ := k
  refine ⟨x.toNat, y.toNat, l.toNat, ?_, by omega, by omega, by omega, by omega, by omega, by omega⟩
  have e1 : ((x.toNat : Nat) : Int) = x := by omega
  have e2 : ((y.toNat : Nat) : Int) = y := by omega
  have e3 : ((l.toNat : Nat) : Int) = l := by omega
  rw [e1, e2, e3]
theorem hopT_tl {x y l : Nat} (hx : x < 10) (hy : y < 10) (hl : l < 10) : TL.tl (hopT [(x : Int), (y : Int), (l : Int)]) = [48 + x, 45, 48 + y, 45, 48 + l] := by
  show TL.tl (Txt.join "-" [strI x, strI y, strI l]) = _
  rw [tl_join1, tl_join1]
  have e : Txt.join "-" [strI l] = strI l := by rw [TL.join_eq]; rfl
  rw [e, tl_strI x hx, tl_strI y hy, tl_strI l hl, tl_dash]
  rfl
theorem figI_strI (n : Nat) (h : n ≤ 3) : figI (strI n) = some (n : Int) := by
  unfold figI
  rw [show (strI (n : Int)).cps.toList = [48 + n] from tl_strI n (by omega)]
  show (if 48 ≤ 48 + n ∧ 48 + n ≤ 51 then some (((48 + n : Nat) : Int) - 48) else none) = _
  rw [if_pos (by omega)]
  congr 1
  omega
theorem hopIn_hopT {n : Nat} {h : List Int} (k : HopT n h) : hopIn (hopT h) = some h := by
  obtain ⟨x, y, l, rfl, hx, hy, hl, hl2, _⟩ := k.tl
  have e : Txt.split (hopT [(x : Int), (y : Int), (l : Int)]) "-" = [strI x, strI y, strI l] := by
    refine split_at (parts := [strI x, strI y, strI l]) tl_dash (by decide) (by simp) fun p hp => ?_
    simp only [List.mem_cons, List.not_mem_nil, or_false] at hp
    rcases hp with rfl | rfl | rfl
    · rw [tl_strI x (by omega)]; simp; omega
    · rw [tl_strI y (by omega)]; simp; omega
    · rw [tl_strI l (by omega)]; simp; omega
  unfold hopIn
  rw [e]
  simp only [figs, figI_strI x (by omega), figI_strI y (by omega), figI_strI l (by omega), Option.bind_some, Option.map_some]
  rw [if_pos (by omega)]
theorem hopT_len {n : Nat} {h : List Int} (k : HopT n h) : (hopT h).length = 5 := by
  obtain ⟨x, y, l, rfl, hx, hy, hl, hl2, _⟩ := k.tl
  rw [TL.len_tl, hopT_tl (by omega) (by omega) (by omega)]; rfl
theorem hopT_no {n : Nat} {h : List Int} (k : HopT n h) {c : Nat} (hc : c < 45) : c ∉ TL.tl (hopT h) := by
  obtain ⟨x, y, l, rfl, hx, hy, hl, hl2, _⟩ := k.tl
  rw [hopT_tl (by omega) (by omega) (by omega)]
  simp; omega
/-- data and books -/
theorem kk_tl {k : Str} (h : k = "both" ∨ k = "one") : k.length ≤ 4 ∧ 32 ∉ TL.tl k ∧ 10 ∉ TL.tl k := by
  rcases h with rfl | rfl
  · exact ⟨by decide +kernel, by decide +kernel, by decide +kernel⟩
  · exact ⟨by decide +kernel, by decide +kernel, by decide +kernel⟩
theorem BkOk.book {b : Bk} (h : BkOk b) : isBook (bkD b) = true := by
  have hT : ∀ k ∈ b.hs, Tr k := fun k hk => (h.hk k hk).tr (by have := h.kl; omega)
  have hkk : (b.ks.map PyData.str).all isKind = true := by
    rw [List.all_map]
    exact List.all_eq_true.mpr fun k hk => decide_eq_true (h.kk k hk)
  have hhh : (b.hs.map tripD).all (isHop (b.ks.length : Nat)) = true := by
    rw [List.all_map]
    refine List.all_eq_true.mpr fun k hk => ?_
    obtain ⟨x, y, l, rfl, a, bb, c⟩ := h.hk k hk
    simp only [Function.comp, tripD, List.map_cons, List.map_nil, isHop, isI, List.length_map]
    rw [decide_eq_true (by omega), decide_eq_true (by omega), decide_eq_true (by omega)]; rfl
  have ha : isI 1 2 (.int b.arm) = true := decide_eq_true (by rcases h.ar with e | e <;> rw [e] <;> omega)
  simp only [bkD, isBook, isKinds, isHops, kindsLen, hkk, hhh, ha, risen, trips_map hT, h.up, List.length_map, Bool.and_true, Bool.true_and]
  rw [decide_eq_true h.kl, decide_eq_true h.hl]
  simp
theorem BkOk.of {b : Bk} (h : BkOk b) : bkOf (bkD b) = some b := by
  have hT : ∀ k ∈ b.hs, Tr k := fun k hk => (h.hk k hk).tr (by have := h.kl; omega)
  have := h.book
  simp only [bkD] at this ⊢
  simp only [bkOf, this, if_true, strsD_map, trips_map hT, Option.bind_some, Option.map_some]
theorem strsD_eq : ∀ {ds : List D} {zs : List Str}, strsD ds = some zs → ds = zs.map PyData.str
  | [], zs, h => by cases h; rfl
  | d :: ds, zs, h => by
    cases d with
    | str z =>
      obtain ⟨ms, h1, rfl⟩ := Option.map_eq_some_iff.mp h
      rw [strsD_eq h1]; rfl
    | _ => cases h
theorem bkOf_eq {v : D} {b : Bk} (h : bkOf v = some b) : v = bkD b ∧ BkOk b := by
  unfold bkOf at h
  split at h
  · rename_i ks hs arm
    split at h
    · rename_i hb
      obtain ⟨zs, h1, h2⟩ := Option.bind_eq_some_iff.mp h
      obtain ⟨ls, h3, rfl⟩ := Option.map_eq_some_iff.mp h2
      have e1 := strsD_eq h1
      obtain ⟨e2, hT⟩ := trips_eq h3
      subst e1 e2
      refine ⟨rfl, ?_⟩
      simp only [isBook, isKinds, isHops, kindsLen, Bool.and_eq_true, decide_eq_true_eq, List.length_map, risen, h3] at hb
      obtain ⟨⟨ha, hkl, hkk⟩, ⟨hhl, hhh⟩, hup⟩ := hb
      rw [List.all_map] at hkk hhh
      have hkk := List.all_eq_true.mp hkk
      have hhh := List.all_eq_true.mp hhh
      have ha := of_decide_eq_true ha
      refine ⟨hkl, fun k hk => of_decide_eq_true (hkk k hk), hhl, fun k hk => ?_, hup, (show arm = 1 ∨ arm = 2 by omega)⟩
      obtain ⟨k', e, hk'⟩ := isHop_eq (hhh k hk)
      obtain ⟨a, b, c, rfl, _⟩ := hT k hk
      obtain ⟨a', b', c', rfl, r⟩ := hk'
      simp [tripD] at e
      obtain ⟨rfl, rfl, rfl⟩ := e
      exact ⟨a, b, c, rfl, r⟩
    · cases h
  · cases h
theorem strs3 {x y l : Nat} (hx : x < 10) (hy : y < 10) (hl : l < 10) (f : D → Option (Option D)) (hf : ∀ n : Nat, n < 10 → f (.int n) = some (some (.str (strI n)))) :
    lcGo f [.int x, .int y, .int l] = some ([strI x, strI y, strI l].map PyData.str) := by
  simp [lcGo, hf x hx, hf y hy, hf l hl]
theorem pM_eq {T : String} {g : D → List D → Option D} {fo : PF} {fs : PL} {m : Mem} {d r : D} {ds : List D} (h1 : fo m = some d) (h2 : tyD T d = true) (h3 : fs m = some ds) (h4 : g d ds = some r) : pM T g fo fs m = some r := by
  unfold pM
  rw [h1, Option.bind_some, if_pos h2, h3, Option.bind_some, h4]
theorem a1 {f : PF} {m : Mem} {x : D} (h : f m = some x) : aCons f aNil m = some [x] := by
  unfold aCons aNil
  rw [h]; rfl
theorem a2 {f g : PF} {m : Mem} {x y : D} (h : f m = some x) (k : g m = some y) : aCons f (aCons g aNil) m = some [x, y] := by
  have e := a1 k
  unfold aCons at e ⊢
  rw [h, Option.bind_some, e]; rfl
theorem a3 {f g h : PF} {m : Mem} {x y z : D} (h1 : f m = some x) (h2 : g m = some y) (h3 : h m = some z) : aCons f (aCons g (aCons h aNil)) m = some [x, y, z] := by
  have e := a2 h2 h3
  unfold aCons at e ⊢
  rw [h1, Option.bind_some, e]; rfl
theorem pCall_eq {g : List D → Option D} {fs : PL} {m : Mem} {ds : List D} (h : fs m = some ds) : pCall g fs m = g ds := by
  unfold pCall
  rw [h]; rfl
theorem pLst_eq {fs : PL} {m : Mem} {ds : List D} (h : fs m = some ds) (hl : ds.length ≤ 16777216) : pLst fs m = some (.list ds) := by
  unfold pLst
  rw [h, Option.bind_some, lenOk_ok hl]
theorem add_str {x y : Str} (h : x.length + y.length ≤ 16777216) : addD (.str x) (.str y) = some (.str (x ++ y)) := grd_ok (decide_eq_true h)
theorem lcGo_map2 {α : Type} {f : D → Option (Option D)} {c g : α → D} : ∀ {xs : List α}, (∀ x ∈ xs, f (c x) = some (some (g x))) → lcGo f (xs.map c) = some (xs.map g)
  | [], _ => rfl
  | x :: xs, h => by
    have ih := lcGo_map2 (f := f) (c := c) (g := g) (xs := xs) fun y hy => h y (by simp [hy])
    simp [lcGo, h x (by simp), ih]
theorem hopJ {n : Nat} {h : List Int} (k : HopT n h) : joinD (.str "-") [.list ((h.map strI).map PyData.str)] = some (.str (hopT h)) := by
  obtain ⟨x, y, l, rfl, hx, hy, hl, hl2, _⟩ := k.tl
  refine joinD_list ?_
  have e : ("-" : Str).length = 1 := by decide +kernel
  simp only [List.map_cons, List.map_nil, List.sum_cons, List.sum_nil, List.length_cons, List.length_nil, len_strI x (by omega), len_strI y (by omega), len_strI l (by omega), e]
  omega
theorem sum_const {zs : List Str} {k : Nat} (h : ∀ z ∈ zs, z.length ≤ k) (a : Nat) (ha : a ≤ 1) (hz : zs.length ≤ 20) (hk : k ≤ 1000) : (zs.map (·.length)).sum + zs.length * a ≤ 16777216 := by
  have h1 := sum_le h
  have h2 : zs.length * k ≤ 20 * 1000 := Nat.mul_le_mul hz hk
  have h3 : zs.length * a ≤ 20 * 1 := Nat.mul_le_mul hz ha
  omega
structure BkT (b : Bk) where
  ok : BkOk b
  h : ∀ h ∈ b.hs, HopT b.ks.length h
  ar : ∃ a : Nat, b.arm = a ∧ 1 ≤ a ∧ a ≤ 2
theorem BkOk.t {b : Bk} (k : BkOk b) : BkT b := ⟨k, fun h hh => (k.hk h hh).t (by have := k.kl; omega), by
  rcases k.ar with e | e
  · exact ⟨1, e, by omega⟩
  · exact ⟨2, e, by omega⟩⟩
theorem one_len : ("-" : Str).length = 1 ∧ (" " : Str).length = 1 ∧ ("\n" : Str).length = 1 := by decide +kernel
theorem line1_len {b : Bk} (k : BkOk b) : (∀ z ∈ ("stands" : Str) :: b.ks, z.length ≤ 10) ∧ (("stands" : Str) :: b.ks).length ≤ 20 := by
  refine ⟨fun z hz => ?_, by have := k.kl; simp; omega⟩
  rcases List.mem_cons.mp hz with rfl | hz
  · decide +kernel
  · have := (kk_tl (k.kk z hz)).1; omega
theorem line2_len {b : Bk} (k : BkOk b) : (∀ z ∈ ("hops" : Str) :: b.hs.map hopT, z.length ≤ 10) ∧ (("hops" : Str) :: b.hs.map hopT).length ≤ 20 := by
  refine ⟨fun z hz => ?_, by have := k.hl; simp; omega⟩
  rcases List.mem_cons.mp hz with rfl | hz
  · decide +kernel
  · obtain ⟨h, hh, rfl⟩ := List.mem_map.mp hz
    rw [hopT_len (k.t.h h hh)]; omega
theorem join_le {y : Str} {zs : List Str} {k : Nat} (h : ∀ z ∈ zs, z.length ≤ k) (hy : y.length ≤ 1) (hz : zs.length ≤ 20) (hk : k ≤ 1000) : (Txt.join y zs).length ≤ 20020 := by
  have h0 := join_len y zs
  have h1 := sum_le h
  have h2 : zs.length * k ≤ 20 * 1000 := Nat.mul_le_mul hz hk
  have h3 : zs.length * y.length ≤ 20 * 1 := Nat.mul_le_mul hz hy
  omega
theorem ix3 {a b c : D} {k : Nat} (hk : k < 3) : ixD (.tuple [a, b, c]) (.int (k : Int)) = some ([a, b, c][k]'(by simpa using hk)) := atI_pos rfl (by simpa using hk)
theorem sem_text_of : ∀ ds Y, det p_text_of ds Y → w_text_of (em0 Y.ok) (memF n_text_of.length ds) := by
  rintro ds Y ⟨d, h, ok⟩
  unfold p_text_of at h
  split at h
  · rename_i v
    obtain ⟨b, hb, rfl⟩ := Option.map_eq_some_iff.mp h
    obtain ⟨rfl, hB⟩ := bkOf_eq hb
    have T := hB.t
    obtain ⟨l1, l1'⟩ := line1_len hB
    obtain ⟨l2, l2'⟩ := line2_len hB
    obtain ⟨_, o2, o3⟩ := one_len
    have i0 : ixD (bkD b) (.int 0) = some (.tuple (b.ks.map PyData.str)) := ix3 (k := 0) (by omega)
    have i1 : ixD (bkD b) (.int 1) = some (.tuple (b.hs.map tripD)) := ix3 (k := 1) (by omega)
    have i2 : ixD (bkD b) (.int 2) = some (.int b.arm) := ix3 (k := 2) (by omega)
    have lc : lcGo (lcTurn (wipeM (memF n_text_of.length [bkD b]) [3]) (tgN 3) qYes (pM "str" joinD (lit (.str "-")) (aCons (pLc [2] (jQ (var 3)) (tgN 2) qYes (pCall strD (aCons (var 2) aNil))) aNil))) (b.hs.map tripD) = some (b.hs.map fun h => PyData.str (hopT h)) := by
      refine lcGo_map2 fun h hh => ?_
      have ht := T.h h hh
      have hj := hopJ ht
      obtain ⟨x, y, l, rfl, hx, hy, hl, hl2, _⟩ := ht.tl
      have inner : pLc [2] (jQ (var 3)) (tgN 2) qYes (pCall strD (aCons (var 2) aNil)) [.val (bkD b), .un, .un, .val (tripD [(x : Int), (y : Int), (l : Int)])] = some (.list ([strI x, strI y, strI l].map PyData.str)) := by
        refine pLc_eq (xs := [.int x, .int y, .int l]) (by rfl) (strs3 (by omega) (by omega) (by omega) _ fun n hn => ?_) (by simp)
        have : pCall strD (aCons (var 2) aNil) [.val (bkD b), .un, .val (.int n), .val (tripD [(x : Int), (y : Int), (l : Int)])] = some (.str (strI n)) := strD_ok n hn
        show (pCall strD (aCons (var 2) aNil) [.val (bkD b), .un, .val (.int n), .val (tripD [(x : Int), (y : Int), (l : Int)])]).map some = _
        rw [this]; rfl
      have e := pM_eq (T := "str") (g := joinD) (fo := lit (.str "-")) (by rfl) (by decide) (a1 inner) hj
      show (pM "str" joinD (lit (.str "-")) (aCons (pLc [2] (jQ (var 3)) (tgN 2) qYes (pCall strD (aCons (var 2) aNil))) aNil) [.val (bkD b), .un, .un, .val (tripD [(x : Int), (y : Int), (l : Int)])]).map some = _
      rw [e]; rfl
    refine ⟨.list (b.hs.map fun h => PyData.str (hopT h)), pLc_eq (xs := b.hs.map tripD) ?_ lc (by have := hB.hl; simp; omega), rfl, ?_⟩
    · unfold jQ
      rw [show pOp ixD (var 0) (lit (.int 1)) (memF n_text_of.length [bkD b]) = some (.tuple (b.hs.map tripD)) from (pOp_eq (by rfl) (by rfl)).trans i1]
      rfl
    obtain ⟨a, ea, ha, ha2⟩ := T.ar
    have eh : (b.hs.map fun h => PyData.str (hopT h)) = (b.hs.map hopT).map PyData.str := by simp
    have m0 : memF n_text_of.length [bkD b] = [.val (bkD b), .un, .un, .un] := rfl
    rw [m0]
    have j1 : pM "str" joinD (lit (.str " ")) (aCons (pOp addD (pLst (aCons (lit (.str "stands")) aNil)) (pCall listD (aCons (pOp ixD (var 0) (lit (.int 0))) aNil))) aNil) [.val (bkD b), .val (.list (b.hs.map fun h => PyData.str (hopT h))), .un, .un] = some (.str (Txt.join " " ("stands" :: b.ks))) := by
      refine pM_eq (by rfl) (by decide) (a1 ((pOp_eq (x := .list [.str "stands"]) (y := .list (b.ks.map PyData.str)) (by rfl) ((pCall_eq (a1 ((pOp_eq (by rfl) (by rfl)).trans i0))).trans rfl)).trans (add_list ?_))) (joinD_list (zs := "stands" :: b.ks) ?_)
      · have := hB.kl; simp; omega
      · exact sum_const l1 _ (by omega) l1' (by omega)
    have j2 : pM "str" joinD (lit (.str " ")) (aCons (pOp addD (pLst (aCons (lit (.str "hops")) aNil)) (var 1)) aNil) [.val (bkD b), .val (.list (b.hs.map fun h => PyData.str (hopT h))), .un, .un] = some (.str (Txt.join " " ("hops" :: b.hs.map hopT))) := by
      refine pM_eq (by rfl) (by decide) (a1 ((pOp_eq (x := .list [.str "hops"]) (y := .list ((b.hs.map hopT).map PyData.str)) (by rfl) (by rw [← eh]; rfl)).trans (add_list ?_))) (joinD_list (zs := "hops" :: b.hs.map hopT) ?_)
      · have := hB.hl; simp; omega
      · exact sum_const l2 _ (by omega) l2' (by omega)
    have la : ("arm " : Str).length = 4 := by decide +kernel
    have ls : (strI b.arm).length = 1 := by rw [ea]; exact len_strI a (by omega)
    have j3 : pOp addD (lit (.str "arm ")) (pCall strD (aCons (pOp ixD (var 0) (lit (.int 2))) aNil)) [.val (bkD b), .val (.list (b.hs.map fun h => PyData.str (hopT h))), .un, .un] = some (.str ("arm " ++ strI b.arm)) := by
      refine (pOp_eq (x := .str "arm ") (y := .str (strI b.arm)) (by rfl) ((pCall_eq (a1 ((pOp_eq (by rfl) (by rfl)).trans i2))).trans ?_)).trans (add_str (by omega))
      rw [ea]; exact strD_ok a (by omega)
    refine ⟨_, pM_eq (by rfl) (by decide) (a1 (pLst_eq (a3 j1 j2 j3) (by simp))) (joinD_list (zs := [Txt.join " " ("stands" :: b.ks), Txt.join " " ("hops" :: b.hs.map hopT), "arm " ++ strI b.arm]) ?_), ok⟩
    have b1 := join_le (y := " ") l1 (by omega) l1' (by omega)
    have b2 := join_le (y := " ") l2 (by omega) l2' (by omega)
    simp only [List.map_cons, List.map_nil, List.sum_cons, List.sum_nil, List.length_cons, List.length_nil, Str.length_append, o3]
    omega
  · cases h
theorem ahead_eq {w w' : Str} {zs : List Str} (hz : zs ≠ []) (e : TL.tl w' = TL.tl w ++ TL.tl " ") : w' ++ Txt.join " " zs = Txt.join " " (w :: zs) := by
  cases zs with
  | nil => exact absurd rfl hz
  | cons z r =>
    apply TL.ext_tl
    rw [tl_join1, TL.tl_append, e, List.append_assoc]
theorem sem__law_written : ∀ ds Y, det p__law_written ds Y → w__law_written (em0 Y.ok) (memF n__law_written.length ds) := by
  rintro ds Y ⟨d, h, ok⟩
  unfold p__law_written at h
  split at h
  · rename_i v
    obtain ⟨b, hb, rfl⟩ := Option.map_eq_some_iff.mp h
    obtain ⟨rfl, hB⟩ := bkOf_eq hb
    have T := hB.t
    obtain ⟨l1, l1'⟩ := line1_len hB
    obtain ⟨l2, l2'⟩ := line2_len hB
    obtain ⟨_, o2, o3⟩ := one_len
    have i0 : ixD (bkD b) (.int 0) = some (.tuple (b.ks.map PyData.str)) := ix3 (k := 0) (by omega)
    have i1 : ixD (bkD b) (.int 1) = some (.tuple (b.hs.map tripD)) := ix3 (k := 1) (by omega)
    have i2 : ixD (bkD b) (.int 2) = some (.int b.arm) := ix3 (k := 2) (by omega)
    have lc : lcGo (lcTurn (wipeM (memF n__law_written.length [bkD b]) [4]) (tgN 4) qYes (pM "str" joinD (lit (.str "-")) (aCons (pLc [3] (jQ (var 4)) (tgN 3) qYes (pCall strD (aCons (var 3) aNil))) aNil))) (b.hs.map tripD) = some (b.hs.map fun h => PyData.str (hopT h)) := by
      refine lcGo_map2 fun h hh => ?_
      have ht := T.h h hh
      have hj := hopJ ht
      obtain ⟨x, y, l, rfl, hx, hy, hl, hl2, _⟩ := ht.tl
      have inner : pLc [3] (jQ (var 4)) (tgN 3) qYes (pCall strD (aCons (var 3) aNil)) [.val (bkD b), .un, .un, .un, .val (tripD [(x : Int), (y : Int), (l : Int)])] = some (.list ([strI x, strI y, strI l].map PyData.str)) := by
        refine pLc_eq (xs := [.int x, .int y, .int l]) (by rfl) (strs3 (by omega) (by omega) (by omega) _ fun n hn => ?_) (by simp)
        have : pCall strD (aCons (var 3) aNil) [.val (bkD b), .un, .un, .val (.int n), .val (tripD [(x : Int), (y : Int), (l : Int)])] = some (.str (strI n)) := strD_ok n hn
        show (pCall strD (aCons (var 3) aNil) [.val (bkD b), .un, .un, .val (.int n), .val (tripD [(x : Int), (y : Int), (l : Int)])]).map some = _
        rw [this]; rfl
      have e := pM_eq (T := "str") (g := joinD) (fo := lit (.str "-")) (by rfl) (by decide) (a1 inner) hj
      show (pM "str" joinD (lit (.str "-")) (aCons (pLc [3] (jQ (var 4)) (tgN 3) qYes (pCall strD (aCons (var 3) aNil))) aNil) [.val (bkD b), .un, .un, .un, .val (tripD [(x : Int), (y : Int), (l : Int)])]).map some = _
      rw [e]; rfl
    refine ⟨.list (b.hs.map fun h => PyData.str (hopT h)), pLc_eq (xs := b.hs.map tripD) ?_ lc (by have := hB.hl; simp; omega), rfl, ?_⟩
    · unfold jQ
      rw [show pOp ixD (var 0) (lit (.int 1)) (memF n__law_written.length [bkD b]) = some (.tuple (b.hs.map tripD)) from (pOp_eq (by rfl) (by rfl)).trans i1]
      rfl
    obtain ⟨a, ea, ha, ha2⟩ := T.ar
    have eh : (b.hs.map fun h => PyData.str (hopT h)) = (b.hs.map hopT).map PyData.str := by simp
    have m0 : memF n__law_written.length [bkD b] = [.val (bkD b), .un, .un, .un, .un] := rfl
    rw [m0, eh]
    have b1 := join_le (y := " ") l1 (by omega) l1' (by omega)
    have b2 := join_le (y := " ") l2 (by omega) l2' (by omega)
    have l3 : ("stands " : Str).length = 7 ∧ ("hops " : Str).length = 5 ∧ ("arm " : Str).length = 4 := by decide +kernel
    have s1 : ∀ z ∈ b.ks, z.length ≤ 10 := fun z hz => l1 z (by simp [hz])
    have s2 : ∀ z ∈ b.hs.map hopT, z.length ≤ 10 := fun z hz => l2 z (List.mem_cons_of_mem _ hz)
    have n1 : b.ks.length ≤ 20 := by have := hB.kl; omega
    have n2 : (b.hs.map hopT).length ≤ 20 := by have := hB.hl; simp; omega
    have c1 := join_le (y := " ") s1 (by omega) n1 (by omega)
    have c2 := join_le (y := " ") s2 (by omega) n2 (by omega)
    have e1 : ("stands " : Str) ++ Txt.join " " b.ks = Txt.join " " ("stands" :: b.ks) := ahead_eq (by
      have := hB.kl
      intro h; rw [h] at this; simp at this) (by decide +kernel)
    have e2 : ("hops " : Str) ++ Txt.join " " (b.hs.map hopT) = Txt.join " " ("hops" :: b.hs.map hopT) := ahead_eq (by
      have := hB.hl
      intro h; rw [List.map_eq_nil_iff] at h; rw [h] at this; simp at this) (by decide +kernel)
    have j1 : pOp addD (lit (.str "stands ")) (pM "str" joinD (lit (.str " ")) (aCons (pOp ixD (var 0) (lit (.int 0))) aNil)) [.val (bkD b), .val (.list ((b.hs.map hopT).map PyData.str)), .un, .un, .un] = some (.str (Txt.join " " ("stands" :: b.ks))) := by
      refine (pOp_eq (x := .str "stands ") (by rfl) (pM_eq (by rfl) (by decide) (a1 ((pOp_eq (by rfl) (by rfl)).trans i0)) (joinD_tup (zs := b.ks) (sum_const s1 _ (by omega) n1 (by omega))))).trans ((add_str (by omega)).trans ?_)
      rw [e1]
    have j2 : pOp addD (lit (.str "hops ")) (pM "str" joinD (lit (.str " ")) (aCons (var 1) aNil)) [.val (bkD b), .val (.list ((b.hs.map hopT).map PyData.str)), .un, .un, .un] = some (.str (Txt.join " " ("hops" :: b.hs.map hopT))) := by
      refine (pOp_eq (x := .str "hops ") (by rfl) (pM_eq (by rfl) (by decide) (a1 (by rfl)) (joinD_list (zs := b.hs.map hopT) (sum_const s2 _ (by omega) n2 (by omega))))).trans ((add_str (by omega)).trans ?_)
      rw [e2]
    refine ⟨_, pLst_eq (a2 j1 j2) (by simp), rfl, ?_⟩
    have ls : (strI b.arm).length = 1 := by rw [ea]; exact len_strI a (by omega)
    have j3 : pOp addD (lit (.str "arm ")) (pCall strD (aCons (pOp ixD (var 0) (lit (.int 2))) aNil)) [.val (bkD b), .val (.list ((b.hs.map hopT).map PyData.str)), .val (.list [.str (Txt.join " " ("stands" :: b.ks)), .str (Txt.join " " ("hops" :: b.hs.map hopT))]), .un, .un] = some (.str ("arm " ++ strI b.arm)) := by
      refine (pOp_eq (x := .str "arm ") (y := .str (strI b.arm)) (by rfl) ((pCall_eq (a1 ((pOp_eq (by rfl) (by rfl)).trans i2))).trans ?_)).trans (add_str (by omega))
      rw [ea]; exact strD_ok a (by omega)
    refine ⟨_, pM_eq (by rfl) (by decide) (a1 ((pOp_eq (x := .list [.str (Txt.join " " ("stands" :: b.ks)), .str (Txt.join " " ("hops" :: b.hs.map hopT))]) (by rfl) (pLst1 j3)).trans (add_list (by simp)))) (joinD_list (zs := [Txt.join " " ("stands" :: b.ks), Txt.join " " ("hops" :: b.hs.map hopT), "arm " ++ strI b.arm]) ?_), ok⟩
    simp only [List.map_cons, List.map_nil, List.sum_cons, List.sum_nil, List.length_cons, List.length_nil, Str.length_append, o3]
    omega
  · cases h
theorem figI_one {z : Str} {k : Int} (h : figI z = some k) : ∃ c : Nat, z = ⟨#[c]⟩ ∧ (48 ≤ c ∧ c ≤ 51) ∧ k = (c : Int) - 48 := by
  unfold figI at h
  split at h
  · rename_i c hc
    split at h
    · rename_i hb
      cases h
      refine ⟨c, ?_, hb, rfl⟩
      apply TL.ext_tl
      exact hc
    · cases h
  · cases h
theorem fig_list : ("0123" : Str).cps.toList = [48, 49, 50, 51] := by decide +kernel
theorem fig_index {c : Nat} (h : 48 ≤ c ∧ c ≤ 51) : indexS c_FIGURES [.str ⟨#[c]⟩] = some (.int ((c : Int) - 48)) := by
  have : c = 48 ∨ c = 49 ∨ c = 50 ∨ c = 51 := by omega
  have key : ∀ c : Nat, ∀ i : Nat, Builtin.Str.occurrences ("0123" : Str) ⟨#[c]⟩ 0 ("0123" : Str).length 1 = [i] → indexS c_FIGURES [.str ⟨#[c]⟩] = some (.int (i : Int)) := fun c i e => by
    show (match Builtin.Str.occurrences ("0123" : Str) ⟨#[c]⟩ 0 ("0123" : Str).length 1 with
      | i :: _ => some (PyData.int (i : Nat))
      | [] => none) = _
    rw [e]
  rcases this with rfl | rfl | rfl | rfl
  · exact key 48 0 (by decide +kernel)
  · exact key 49 1 (by decide +kernel)
  · exact key 50 2 (by decide +kernel)
  · exact key 51 3 (by decide +kernel)
theorem tyS (z : Str) : tyD "str" (.str z) = true := by simp [tyD]
/-- is the part no figure -/
def noFig : D → Bool
  | .str z => !(figI z).isSome
  | _ => false
theorem noFig_test (z : Str) (hz : z.length ≤ 10000001) (m : Mem) (hm : getV m 5 = some (.str z)) : qOr (qB (pOp neD (pCall lenD (aCons (var 5) aNil)) (lit (.int 1)))) (qB (pOp ninD (var 5) (lit c_FIGURES))) m = some (noFig (.str z)) := by
  have e1 : pCall lenD (aCons (var 5) aNil) m = some (.int z.length) := (pCall_eq (a1 hm)).trans (show lenD [.str z] = _ from grd_ok (decide_eq_true (by omega)))
  have e2 : qB (pOp neD (pCall lenD (aCons (var 5) aNil)) (lit (.int 1))) m = some (!((z.length : Int) == 1)) := qB_eq ((pOp_eq e1 (by rfl)).trans rfl)
  unfold qOr
  rw [e2, Option.bind_some]
  by_cases h1 : z.length = 1
  · have : ((z.length : Int) == 1) = true := by rw [h1]; rfl
    rw [this]
    obtain ⟨c, rfl⟩ : ∃ c, z = ⟨#[c]⟩ := by
      have hl : z.cps.toList.length = 1 := by rw [← h1]; simp [Str.length]
      obtain ⟨c, hc⟩ := List.length_eq_one_iff.mp hl
      exact ⟨c, TL.ext_tl hc⟩
    have e3 : qB (pOp ninD (var 5) (lit c_FIGURES)) m = some (!decide (c ∈ ("0123" : Str).cps.toList)) := qB_eq ((pOp_eq hm (by rfl)).trans (nin_one c "0123"))
    show qB (pOp ninD (var 5) (lit c_FIGURES)) m = _
    rw [e3, fig_list]
    congr 1
    have e4 : figI ⟨#[c]⟩ = if 48 ≤ c ∧ c ≤ 51 then some ((c : Int) - 48) else none := rfl
    simp only [noFig, e4]
    by_cases hc : 48 ≤ c ∧ c ≤ 51
    · rw [if_pos hc, decide_eq_true (by simp; omega)]; rfl
    · rw [if_neg hc, decide_eq_false (by simp; omega)]; rfl
  · have : ((z.length : Int) == 1) = false := by simp; omega
    rw [this]
    show some true = _
    congr 1
    simp only [noFig]
    cases e : figI z with
    | none => rfl
    | some k =>
      obtain ⟨c, rfl, _⟩ := figI_one e
      exact absurd rfl h1
theorem figs_len : ∀ {zs : List Str} {ks : List Int}, figs zs = some ks → ks.length = zs.length
  | [], ks, h => by cases h; rfl
  | z :: zs, ks, h => by
    obtain ⟨k, h1, h2⟩ := Option.bind_eq_some_iff.mp h
    obtain ⟨ms, h3, rfl⟩ := Option.map_eq_some_iff.mp h2
    simp [figs_len h3]
theorem figs_none : ∀ {zs : List Str}, (zs.map PyData.str).all (fun x => !noFig x) = false → figs zs = none
  | [], h => by simp at h
  | z :: zs, h => by
    simp only [List.map_cons, List.all_cons, Bool.and_eq_false_iff] at h
    unfold figs
    rcases h with h | h
    · have : (figI z).isSome = false := by simpa [noFig] using h
      rw [Option.isSome_eq_false_iff, Option.isNone_iff_eq_none] at this
      rw [this]; rfl
    · rw [figs_none h]
      cases figI z <;> rfl
theorem sem_hop_in : ∀ ds Y, det p_hop_in ds Y → w_hop_in (em0 Y.ok) (memF n_hop_in.length ds) := by
  rintro ds Y ⟨d, h, ok⟩
  unfold p_hop_in at h
  split at h
  · rename_i z
    split at h <;> cases h
    rename_i hz
    obtain ⟨o1, _, _⟩ := one_len
    obtain ⟨b1, b2⟩ := split_bound z (y := "-") (by omega)
    refine ⟨.list ((Txt.split z "-").map PyData.str), pM_eq (by rfl) (tyS _) (a1 (by rfl)) (splitD_ok o1 hz), rfl, ?_⟩
    unfold hopIn at ok
    generalize Txt.split z "-" = ps at b1 b2 ok
    have m0 : (memF n_hop_in.length [PyData.str z]).set 1 (resS (.val (.list (ps.map PyData.str)))) = [.val (.str z), .val (.list (ps.map PyData.str)), .un, .un, .un, .un] := rfl
    rw [m0]
    have el : pCall lenD (aCons (var 1) aNil) [.val (.str z), .val (.list (ps.map PyData.str)), .un, .un, .un, .un] = some (.int ps.length) := by
      refine (pCall_eq (a1 (x := .list (ps.map PyData.str)) (by rfl))).trans ?_
      simp [lenD]
    have e3 : qB (pOp neD (pCall lenD (aCons (var 1) aNil)) (lit (.int 3))) [.val (.str z), .val (.list (ps.map PyData.str)), .un, .un, .un, .un] = some (!((ps.length : Int) == 3)) := qB_eq ((pOp_eq el (by rfl)).trans rfl)
    by_cases h3 : ps.length = 3
    · have n3 : ((ps.length : Int) == 3) = true := by rw [h3]; rfl
      have lc : lcGo (lcTurn (wipeM [.val (.str z), .val (.list (ps.map PyData.str)), .un, .un, .un, .un] [5]) (tgN 5) (qOr (qB (pOp neD (pCall lenD (aCons (var 5) aNil)) (lit (.int 1)))) (qB (pOp ninD (var 5) (lit c_FIGURES)))) (var 5)) (ps.map PyData.str) = some ((ps.map PyData.str).filter noFig) := by
        refine lcGo_filter fun x hx => ?_
        obtain ⟨p, hp, rfl⟩ := List.mem_map.mp hx
        have e := noFig_test p (by have := b2 p hp; omega) [.val (.str z), .val (.list (ps.map PyData.str)), .un, .un, .un, .val (.str p)] rfl
        show (qOr _ _ [.val (.str z), .val (.list (ps.map PyData.str)), .un, .un, .un, .val (.str p)]).bind (fun k => if k = true then ((var 5) [.val (.str z), .val (.list (ps.map PyData.str)), .un, .un, .un, .val (.str p)]).map some else some none) = _
        rw [e, Option.bind_some]
        cases noFig (.str p) <;> rfl
      have e4 : qB (pOp neD (pLc [5] (jQ (var 1)) (tgN 5) (qOr (qB (pOp neD (pCall lenD (aCons (var 5) aNil)) (lit (.int 1)))) (qB (pOp ninD (var 5) (lit c_FIGURES)))) (var 5)) (pLst aNil)) [.val (.str z), .val (.list (ps.map PyData.str)), .un, .un, .un, .un] = some (!(ps.map PyData.str).all fun x => !noFig x) := by
        refine qB_eq ((pOp_eq (pLc_eq (xs := ps.map PyData.str) (by rfl) lc (Nat.le_trans (List.length_filter_le _ _) (by simp; omega))) (nilL _)).trans ?_)
        rw [ne_nil, filter_no]
      have et : qOr (qB (pOp neD (pCall lenD (aCons (var 1) aNil)) (lit (.int 3)))) (qB (pOp neD (pLc [5] (jQ (var 1)) (tgN 5) (qOr (qB (pOp neD (pCall lenD (aCons (var 5) aNil)) (lit (.int 1)))) (qB (pOp ninD (var 5) (lit c_FIGURES)))) (var 5)) (pLst aNil))) [.val (.str z), .val (.list (ps.map PyData.str)), .un, .un, .un, .un] = some (!(ps.map PyData.str).all fun x => !noFig x) := by
        unfold qOr
        rw [e3, n3]
        exact e4
      refine ⟨_, et, fun hb => ?_, fun hb => ?_⟩
      · have hb : (ps.map PyData.str).all (fun x => !noFig x) = false := by simpa using hb
        rw [figs_none hb] at ok
        exact ⟨_, rfl, ok⟩
      · have hb : (ps.map PyData.str).all (fun x => !noFig x) = true := by simpa using hb
        match ps, h3 with
        | [p, q, r], _ =>
          simp only [List.map_cons, List.map_nil, List.all_cons, List.all_nil, Bool.and_true, Bool.and_eq_true, noFig, Bool.not_not] at hb
          obtain ⟨hp, hq, hr⟩ := hb
          obtain ⟨a, ea⟩ := Option.isSome_iff_exists.mp hp
          obtain ⟨b, eb⟩ := Option.isSome_iff_exists.mp hq
          obtain ⟨c, ec⟩ := Option.isSome_iff_exists.mp hr
          simp only [figs, ea, eb, ec, Option.bind_some, Option.map_some] at ok
          obtain ⟨ca, rfl, ha, rfl⟩ := figI_one ea
          obtain ⟨cb, rfl, hb, rfl⟩ := figI_one eb
          obtain ⟨cc, rfl, hc, rfl⟩ := figI_one ec
          have lc2 : lcGo (lcTurn (wipeM [.val (.str z), .val (.list [.str ⟨#[ca]⟩, .str ⟨#[cb]⟩, .str ⟨#[cc]⟩]), .un, .un, .un, .un] [5]) (tgN 5) qYes (pM "str" indexS (lit c_FIGURES) (aCons (var 5) aNil))) [.str ⟨#[ca]⟩, .str ⟨#[cb]⟩, .str ⟨#[cc]⟩] = some [.int ((ca : Int) - 48), .int ((cb : Int) - 48), .int ((cc : Int) - 48)] := by
            have f1 : ∀ c, 48 ≤ c ∧ c ≤ 51 → (lcTurn (wipeM [.val (.str z), .val (.list [.str ⟨#[ca]⟩, .str ⟨#[cb]⟩, .str ⟨#[cc]⟩]), .un, .un, .un, .un] [5]) (tgN 5) qYes (pM "str" indexS (lit c_FIGURES) (aCons (var 5) aNil))) (.str ⟨#[c]⟩) = some (some (.int ((c : Int) - 48))) := fun c hc => by
              have e := pM_eq (T := "str") (g := indexS) (fo := lit c_FIGURES) (fs := aCons (var 5) aNil) (m := [.val (.str z), .val (.list [.str ⟨#[ca]⟩, .str ⟨#[cb]⟩, .str ⟨#[cc]⟩]), .un, .un, .un, .val (.str ⟨#[c]⟩)]) (by rfl) (by decide) (a1 (by rfl)) (fig_index hc)
              show (pM "str" indexS (lit c_FIGURES) (aCons (var 5) aNil) [.val (.str z), .val (.list [.str ⟨#[ca]⟩, .str ⟨#[cb]⟩, .str ⟨#[cc]⟩]), .un, .un, .un, .val (.str ⟨#[c]⟩)]).map some = _
              rw [e]; rfl
            simp only [lcGo, f1 ca ha, f1 cb hb, f1 cc hc]; rfl
          refine ⟨.list [.int ((ca : Int) - 48), .int ((cb : Int) - 48), .int ((cc : Int) - 48)], pLc_eq (xs := [.str ⟨#[ca]⟩, .str ⟨#[cb]⟩, .str ⟨#[cc]⟩]) (by rfl) lc2 (by simp), _, _, rfl, by rfl, ?_⟩
          suffices ei : pIf (qAnd (qB (pOp ltD (pCall max2D (aCons (var 2) (aCons (var 3) aNil))) (lit c_MOST_STANDS))) (qB (pCh leD leD (lit (.int 1)) (var 4) (lit c_LONGEST)))) (pTup (aCons (var 2) (aCons (var 3) (aCons (var 4) aNil)))) (lit .none) [.val (.str z), .val (.list [.str ⟨#[ca]⟩, .str ⟨#[cb]⟩, .str ⟨#[cc]⟩]), .val (.int ((ca : Int) - 48)), .val (.int ((cb : Int) - 48)), .val (.int ((cc : Int) - 48)), .un] = _ from ⟨_, ei, ok⟩
          generalize (ca : Int) - 48 = x
          generalize (cb : Int) - 48 = y
          generalize (cc : Int) - 48 = l
          have t1 : qB (pOp ltD (pCall max2D (aCons (var 2) (aCons (var 3) aNil))) (lit c_MOST_STANDS)) [.val (.str z), .val (.list [.str ⟨#[ca]⟩, .str ⟨#[cb]⟩, .str ⟨#[cc]⟩]), .val (.int x), .val (.int y), .val (.int l), .un] = some (decide (x < 3 ∧ y < 3)) := by
            refine qB_eq ((pOp_eq (x := .int (if y > x then y else x)) ((pCall_eq (a2 (by rfl) (by rfl))).trans rfl) (by rfl)).trans ?_)
            show some (PyData.bool (decide ((if y > x then y else x) < 3))) = _
            congr 2
            refine decide_eq_decide.mpr ?_
            split <;> omega
          have t2 : qB (pCh leD leD (lit (.int 1)) (var 4) (lit c_LONGEST)) [.val (.str z), .val (.list [.str ⟨#[ca]⟩, .str ⟨#[cb]⟩, .str ⟨#[cc]⟩]), .val (.int x), .val (.int y), .val (.int l), .un] = some (decide (1 ≤ l ∧ l ≤ 3)) := by
            refine qB_eq ?_
            show (if decide (1 ≤ l) = true then some (PyData.bool (decide (l ≤ 3))) else some (.bool false)) = _
            by_cases hl : 1 ≤ l <;> simp [hl]
          unfold pIf qAnd
          rw [t1, Option.bind_some]
          by_cases hxy : x < 3 ∧ y < 3
          · rw [decide_eq_true hxy, if_pos rfl, t2, Option.bind_some]
            by_cases hl : 1 ≤ l ∧ l ≤ 3
            · rw [decide_eq_true hl, if_pos rfl, if_pos ⟨hxy.1, hxy.2, hl.1, hl.2⟩]; rfl
            · have hn : ¬ (x < 3 ∧ y < 3 ∧ 1 ≤ l ∧ l ≤ 3) := fun h => hl ⟨h.2.2.1, h.2.2.2⟩
              rw [decide_eq_false hl, if_neg hn]; rfl
          · have hn : ¬ (x < 3 ∧ y < 3 ∧ 1 ≤ l ∧ l ≤ 3) := fun h => hxy ⟨h.1, h.2.1⟩
            rw [decide_eq_false hxy, if_neg hn]; rfl
    · have n3 : ((ps.length : Int) == 3) = false := by simp; omega
      have et : qOr (qB (pOp neD (pCall lenD (aCons (var 1) aNil)) (lit (.int 3)))) (qB (pOp neD (pLc [5] (jQ (var 1)) (tgN 5) (qOr (qB (pOp neD (pCall lenD (aCons (var 5) aNil)) (lit (.int 1)))) (qB (pOp ninD (var 5) (lit c_FIGURES)))) (var 5)) (pLst aNil))) [.val (.str z), .val (.list (ps.map PyData.str)), .un, .un, .un, .un] = some true := by
        unfold qOr
        rw [e3, n3]; rfl
      refine ⟨_, et, fun _ => ⟨_, rfl, ?_⟩, fun h => nomatch h⟩
      cases e : figs ps with
      | none => rw [e] at ok; exact ok
      | some ks =>
        have hl := figs_len e
        rw [e] at ok
        match ks, hl with
        | [], _ => exact ok
        | [_], _ => exact ok
        | [_, _], _ => exact ok
        | [_, _, _], hl => exact absurd hl.symm h3
        | _ :: _ :: _ :: _ :: _, _ => exact ok
  · cases h
theorem len_map (ws : List Str) : pCall lenD (aCons (lit (.list (ws.map PyData.str))) aNil) [] = some (.int ws.length) := by
  refine (pCall_eq (a1 (by rfl))).trans ?_
  simp [lenD]
theorem chQ {f : PF} {m : Mem} {n lo hi : Int} (h : f m = some (.int n)) : qB (pCh leD leD (lit (.int lo)) f (lit (.int hi))) m = some (decide (lo ≤ n ∧ n ≤ hi)) := by
  refine qB_eq ?_
  unfold pCh
  rw [h]
  show (if decide (lo ≤ n) = true then some (PyData.bool (decide (n ≤ hi))) else some (.bool false)) = _
  by_cases hl : lo ≤ n <;> simp [hl]
theorem lenL {f : PF} {m : Mem} {xs : List D} (h : f m = some (.list xs)) : pCall lenD (aCons f aNil) m = some (.int xs.length) := (pCall_eq (a1 h)).trans rfl
theorem short_eq {ws : List Str} (h : short ws = true) : ws.length ≤ 10000000 ∧ ∀ z ∈ ws, z.length ≤ 10000000 := by
  unfold short at h
  rw [Bool.and_eq_true] at h
  exact ⟨of_decide_eq_true h.1, fun z hz => of_decide_eq_true (List.all_eq_true.mp h.2 z hz)⟩
theorem sem_kinds_in : ∀ ds Y, det p_kinds_in ds Y → w_kinds_in (em0 Y.ok) (memF n_kinds_in.length ds) := by
  rintro ds Y ⟨d, h, ok⟩
  unfold p_kinds_in at h
  split at h
  · rename_i xs
    obtain ⟨ws, h1, h2⟩ := Option.bind_eq_some_iff.mp h
    split at h2 <;> cases h2
    rename_i hsh
    obtain ⟨hs1, hs2⟩ := short_eq hsh
    have e := strsD_eq h1
    subst e
    have el : pCall lenD (aCons (var 0) aNil) [.val (.list (ws.map PyData.str)), .un] = some (.int ws.length) := by
      refine (lenL (xs := ws.map PyData.str) (by rfl)).trans ?_
      simp
    have t1 : qNot (qB (pCh leD leD (lit (.int 1)) (pCall lenD (aCons (var 0) aNil)) (lit c_MOST_STANDS))) [.val (.list (ws.map PyData.str)), .un] = some (!decide (1 ≤ (ws.length : Int) ∧ (ws.length : Int) ≤ 3)) := by
      unfold qNot
      rw [show c_MOST_STANDS = .int 3 from rfl, chQ el]; rfl
    have lc : lcGo (lcTurn (wipeM [.val (.list (ws.map PyData.str)), .un] [1]) (tgN 1) (qB (pOp ninD (var 1) (lit c_KINDS))) (var 1)) (ws.map PyData.str) = some ((ws.map PyData.str).filter fun x => !isKind x) := by
      refine lcGo_filter fun x hx => ?_
      obtain ⟨p, hp, rfl⟩ := List.mem_map.mp hx
      have e : qB (pOp ninD (var 1) (lit c_KINDS)) [.val (.list (ws.map PyData.str)), .val (.str p)] = some (!isKind (.str p)) := qB_eq ((pOp_eq (by rfl) (by rfl)).trans (ninK p))
      show (qB (pOp ninD (var 1) (lit c_KINDS)) [.val (.list (ws.map PyData.str)), .val (.str p)]).bind (fun k => if k = true then ((var 1) [.val (.list (ws.map PyData.str)), .val (.str p)]).map some else some none) = _
      rw [e, Option.bind_some]
      cases isKind (.str p) <;> rfl
    have e4 : qB (pOp neD (pLc [1] (jQ (var 0)) (tgN 1) (qB (pOp ninD (var 1) (lit c_KINDS))) (var 1)) (pLst aNil)) [.val (.list (ws.map PyData.str)), .un] = some (!(ws.map PyData.str).all isKind) := by
      refine qB_eq ((pOp_eq (pLc_eq (xs := ws.map PyData.str) (by rfl) lc (Nat.le_trans (List.length_filter_le _ _) (by simp; omega))) (nilL _)).trans ?_)
      rw [ne_nil, filter_no]; simp
    have ek : (ws.map PyData.str).all isKind = decide (∀ x ∈ ws, x = "both" ∨ x = "one") := by
      rw [List.all_map]
      by_cases hk : ∀ x ∈ ws, x = "both" ∨ x = "one"
      · rw [decide_eq_true hk]
        exact List.all_eq_true.mpr fun x hx => decide_eq_true (hk x hx)
      · rw [decide_eq_false hk]
        refine Bool.eq_false_iff.mpr fun h => hk fun x hx => of_decide_eq_true (List.all_eq_true.mp h x hx)
    unfold kindsIn at ok
    by_cases hl : 1 ≤ ws.length ∧ ws.length ≤ 3
    · have t : qOr (qNot (qB (pCh leD leD (lit (.int 1)) (pCall lenD (aCons (var 0) aNil)) (lit c_MOST_STANDS)))) (qB (pOp neD (pLc [1] (jQ (var 0)) (tgN 1) (qB (pOp ninD (var 1) (lit c_KINDS))) (var 1)) (pLst aNil))) [.val (.list (ws.map PyData.str)), .un] = some (!decide (∀ x ∈ ws, x = "both" ∨ x = "one")) := by
        unfold qOr
        rw [t1, decide_eq_true (by omega), ← ek]
        exact e4
      refine ⟨_, t, fun hb => ⟨_, rfl, ?_⟩, fun hb => ⟨_, (pCall_eq (a1 (x := .list (ws.map PyData.str)) (by rfl))).trans rfl, ?_⟩⟩
      · have hk : ¬ ∀ x ∈ ws, x = "both" ∨ x = "one" := of_decide_eq_false (by simpa using hb)
        rw [if_neg (fun h => hk h.2)] at ok
        exact ok
      · have hk : ∀ x ∈ ws, x = "both" ∨ x = "one" := of_decide_eq_true (by simpa using hb)
        rw [if_pos ⟨hl, hk⟩] at ok
        exact ok
    · have t : qOr (qNot (qB (pCh leD leD (lit (.int 1)) (pCall lenD (aCons (var 0) aNil)) (lit c_MOST_STANDS)))) (qB (pOp neD (pLc [1] (jQ (var 0)) (tgN 1) (qB (pOp ninD (var 1) (lit c_KINDS))) (var 1)) (pLst aNil))) [.val (.list (ws.map PyData.str)), .un] = some true := by
        unfold qOr
        rw [t1, decide_eq_false (by omega)]; rfl
      refine ⟨_, t, fun _ => ⟨_, rfl, ?_⟩, fun h => nomatch h⟩
      rw [if_neg (fun h => hl h.1)] at ok
      exact ok
  · cases h
theorem hopIn_tr {z : Str} {h : List Int} (e : hopIn z = some h) : Tr h := by
  unfold hopIn at e
  split at e
  · rename_i a b l hf
    split at e
    · rename_i hb
      cases e
      have pos : ∀ {zs : List Str} {ks : List Int}, figs zs = some ks → ∀ k ∈ ks, 0 ≤ k ∧ k ≤ 3 := by
        intro zs
        induction zs with
        | nil => intro ks h k hk; cases h; cases hk
        | cons z zs ih =>
          intro ks h k hk
          obtain ⟨x, h1, h2⟩ := Option.bind_eq_some_iff.mp h
          obtain ⟨ms, h3, rfl⟩ := Option.map_eq_some_iff.mp h2
          rcases List.mem_cons.mp hk with rfl | hk
          · obtain ⟨c, _, hc, rfl⟩ := figI_one h1
            omega
          · exact ih h3 k hk
      have p := pos hf
      have p1 := p a (by simp)
      have p2 := p b (by simp)
      have p3 := p l (by simp)
      exact ⟨a, b, l, rfl, by omega, by omega, by omega⟩
    · cases e
  · cases e
theorem hopsIn1_some : ∀ {ws : List Str} {hs : List (List Int)}, hopsIn1 ws = some hs → (ws.map fun z => optD ((hopIn z).map tripD)) = hs.map tripD ∧ (∀ h ∈ hs, Tr h) ∧ hs.length = ws.length
  | [], hs, h => by cases h; exact ⟨rfl, by simp, rfl⟩
  | z :: ws, hs, h => by
    obtain ⟨x, h1, h2⟩ := Option.bind_eq_some_iff.mp h
    obtain ⟨ms, h3, rfl⟩ := Option.map_eq_some_iff.mp h2
    obtain ⟨i1, i2, i3⟩ := hopsIn1_some h3
    refine ⟨by rw [List.map_cons, h1, i1]; rfl, fun h hh => ?_, by simp [i3]⟩
    rcases List.mem_cons.mp hh with rfl | hh
    · exact hopIn_tr h1
    · exact i2 h hh
theorem eqv_trip_none (h : List Int) : PyData.eqv (tripD h) .none = false := rfl
theorem hopsIn1_any : ∀ {ws : List Str}, ((ws.map fun z => optD ((hopIn z).map tripD)).any fun y => PyData.eqv y .none) = !(hopsIn1 ws).isSome
  | [] => rfl
  | z :: ws => by
    have ih := hopsIn1_any (ws := ws)
    simp only [List.map_cons, List.any_cons]
    rw [ih]
    have eq : hopsIn1 (z :: ws) = (hopIn z).bind fun k => (hopsIn1 ws).map (k :: ·) := rfl
    rw [eq]
    cases e : hopIn z with
    | none => simp [optD, PyData.eqv]
    | some h =>
      have : PyData.eqv (optD (Option.map tripD (some h))) .none = false := rfl
      rw [this]
      cases hopsIn1 ws <;> rfl
theorem in_none (ys : List D) : inD .none (.list ys) = some (.bool (ys.any fun y => PyData.eqv y .none)) := by
  show grd (decide (min (PyData.depthAll ys) 0 ≤ 60)) _ = _
  rw [grd_ok (decide_eq_true (by omega))]
theorem sem_hops_in : ∀ ds Y, det p_hops_in ds Y → w_hops_in (em0 Y.ok) (memF n_hops_in.length ds) := by
  rintro ds Y ⟨d, h, ok⟩
  unfold p_hops_in at h
  split at h
  · rename_i xs
    obtain ⟨ws, h1, h2⟩ := Option.bind_eq_some_iff.mp h
    split at h2 <;> cases h2
    rename_i hsh
    obtain ⟨hs1, hs2⟩ := short_eq hsh
    have e := strsD_eq h1
    subst e
    have lc : lcGo (lcTurn (wipeM [.val (.list (ws.map PyData.str)), .un, .un] [2]) (tgN 2) qYes (pCall p_hop_in (aCons (var 2) aNil))) (ws.map PyData.str) = some (ws.map fun z => optD ((hopIn z).map tripD)) := by
      refine lcGo_map2 fun z hz => ?_
      have e : pCall p_hop_in (aCons (var 2) aNil) [.val (.list (ws.map PyData.str)), .un, .val (.str z)] = some (optD ((hopIn z).map tripD)) := (pCall_eq (a1 (by rfl))).trans (show p_hop_in [.str z] = _ from if_pos (hs2 z hz))
      show (pCall p_hop_in (aCons (var 2) aNil) [.val (.list (ws.map PyData.str)), .un, .val (.str z)]).map some = _
      rw [e]; rfl
    refine ⟨_, pLc_eq (xs := ws.map PyData.str) (by rfl) lc (by simp; omega), rfl, ?_⟩
    have hlen : (ws.map fun z => optD ((hopIn z).map tripD)).length = ws.length := by simp
    have hany := hopsIn1_any (ws := ws)
    unfold hopsIn at ok
    generalize hys : (ws.map fun z => optD ((hopIn z).map tripD)) = ys at hlen hany
    have el : pCall lenD (aCons (var 1) aNil) [.val (.list (ws.map PyData.str)), .val (.list ys), .un] = some (.int ws.length) := by
      rw [← hlen]
      exact lenL (by rfl)
    have t1 : qNot (qB (pCh leD leD (lit (.int 1)) (pCall lenD (aCons (var 1) aNil)) (lit c_MOST_HOPS))) [.val (.list (ws.map PyData.str)), .val (.list ys), .un] = some (!decide (1 ≤ (ws.length : Int) ∧ (ws.length : Int) ≤ 12)) := by
      unfold qNot
      rw [show c_MOST_HOPS = .int 12 from rfl, chQ el]; rfl
    have t2 : qB (pOp inD (lit .none) (var 1)) [.val (.list (ws.map PyData.str)), .val (.list ys), .un] = some (!(hopsIn1 ws).isSome) := by
      rw [← hany]
      exact qB_eq ((pOp_eq (y := .list ys) (by rfl) (by rfl)).trans (in_none ys))
    by_cases hl : 1 ≤ ws.length ∧ ws.length ≤ 12
    · rw [if_pos hl] at ok
      cases eh : hopsIn1 ws with
      | none =>
        rw [eh] at t2 ok
        refine ⟨true, ?_, fun _ => ⟨_, rfl, ok⟩, fun h => nomatch h⟩
        show qOr _ (qOr _ _) [.val (.list (ws.map PyData.str)), .val (.list ys), .un] = _
        unfold qOr
        rw [t1, decide_eq_true (by omega), t2]; rfl
      | some hs =>
        rw [eh] at t2 ok
        obtain ⟨i1, i2, i3⟩ := hopsIn1_some eh
        rw [hys] at i1
        subst i1
        have ss : pSS (var 1) [.val (.list (ws.map PyData.str)), .val (.list (hs.map tripD)), .un] = some (.list ((sortU hs).map tripD)) := by
          show sortSetD (.list (hs.map tripD)) = _
          simp only [sortSetD, trips_map i2, Option.bind_some]
          exact grd_ok (decide_eq_true (by omega))
        have t3 : qB (pOp neD (var 1) (pSS (var 1))) [.val (.list (ws.map PyData.str)), .val (.list (hs.map tripD)), .un] = some (!decide (sortU hs = hs)) := qB_eq ((pOp_eq (x := .list (hs.map tripD)) (by rfl) ss).trans (ne_sorted i2))
        rw [Option.bind_some] at ok
        refine ⟨!decide (sortU hs = hs), ?_, fun hb => ⟨_, rfl, ?_⟩, fun hb => ⟨_, (pCall_eq (a1 (x := .list (hs.map tripD)) (by rfl))).trans rfl, ?_⟩⟩
        · show qOr _ (qOr _ _) [.val (.list (ws.map PyData.str)), .val (.list (hs.map tripD)), .un] = _
          unfold qOr
          rw [t1, decide_eq_true (by omega), t2]
          exact t3
        · have : ¬ sortU hs = hs := of_decide_eq_false (by simpa using hb)
          rw [if_neg this] at ok
          exact ok
        · have : sortU hs = hs := of_decide_eq_true (by simpa using hb)
          rw [if_pos this] at ok
          exact ok
    · rw [if_neg hl] at ok
      refine ⟨true, ?_, fun _ => ⟨_, rfl, ok⟩, fun h => nomatch h⟩
      show qOr _ (qOr _ _) [.val (.list (ws.map PyData.str)), .val (.list ys), .un] = _
      unfold qOr
      rw [t1, decide_eq_false (by omega)]; rfl
  · cases h
theorem eq_str (x y : Str) : eqD (.str x) (.str y) = some (.bool (decide (x = y))) := by
  show some (PyData.bool (x == y)) = _
  rw [beqS]
  congr 2
  exact decide_eq_decide.mpr ⟨Eq.symm, Eq.symm⟩
theorem sem_line_in : ∀ ds Y, det p_line_in ds Y → w_line_in (em0 Y.ok) (memF n_line_in.length ds) := by
  rintro ds Y ⟨d, h, ok⟩
  unfold p_line_in at h
  split at h
  · rename_i z
    split at h <;> cases h
    rename_i hz
    obtain ⟨_, o2, _⟩ := one_len
    obtain ⟨b1, b2⟩ := split_bound z (y := " ") (by omega)
    have hne := split_ne z " "
    refine ⟨.list ((Txt.split z " ").map PyData.str), pM_eq (by rfl) (tyS _) (a1 (by rfl)) (splitD_ok o2 (by omega)), rfl, ?_⟩
    unfold lineIn at ok
    generalize Txt.split z " " = ws at b1 b2 hne ok
    match ws, hne with
    | w :: r, _ =>
      simp only at ok
      have hsr : short r = true := by
        unfold short
        rw [Bool.and_eq_true]
        refine ⟨decide_eq_true (by simp at b1; omega), List.all_eq_true.mpr fun p hp => decide_eq_true ?_⟩
        have := b2 p (by simp [hp]); omega
      have m1 : (memF n_line_in.length [PyData.str z]).set 1 (resS (.val (.list ((w :: r).map PyData.str)))) = [.val (.str z), .val (.list (.str w :: r.map PyData.str)), .un] := rfl
      rw [m1]
      have ew : pOp ixD (var 1) (lit (.int 0)) [.val (.str z), .val (.list (.str w :: r.map PyData.str)), .un] = some (.str w) := (pOp_eq (by rfl) (by rfl)).trans (show ixD (.list (.str w :: r.map PyData.str)) (.int 0) = some (.str w) from atI_nat (j := 0) rfl)
      have esl : pSl slD (var 1) (oSome (lit (.int 1))) oNone [.val (.str z), .val (.list (.str w :: r.map PyData.str)), .un] = some (.list (r.map PyData.str)) := by
        refine (pSl_eq (by rfl) (by rfl) (by rfl)).trans ?_
        show some (PyData.list (cutD (.str w :: r.map PyData.str) (some 1) none)) = _
        have hc := cut_from (xs := .str w :: r.map PyData.str) (r := 1) (n := 1) rfl (by simp)
        rw [hc]; rfl
      have ek : pCall p_kinds_in (aCons (pSl slD (var 1) (oSome (lit (.int 1))) oNone) aNil) [.val (.str z), .val (.list (.str w :: r.map PyData.str)), .un] = some (optD (kindsIn r)) := by
        refine (pCall_eq (a1 esl)).trans ?_
        show (strsD (r.map PyData.str)).bind _ = _
        rw [strsD_map, Option.bind_some, if_pos hsr]
      have eh : pCall p_hops_in (aCons (pSl slD (var 1) (oSome (lit (.int 1))) oNone) aNil) [.val (.str z), .val (.list (.str w :: r.map PyData.str)), .un] = some (optD (hopsIn r)) := by
        refine (pCall_eq (a1 esl)).trans ?_
        show (strsD (r.map PyData.str)).bind _ = _
        rw [strsD_map, Option.bind_some, if_pos hsr]
      have nk : ∀ d, kindsIn r = some d → isNoneD d = false := fun d h => by
        unfold kindsIn at h
        split at h <;> cases h
        rfl
      have nh : ∀ d, hopsIn r = some d → isNoneD d = false := fun d h => by
        unfold hopsIn at h
        split at h
        · obtain ⟨hs, _, h⟩ := Option.bind_eq_some_iff.mp h
          split at h <;> cases h
          rfl
        · cases h
      dsimp only
      refine wSeq_mid (fun m' => ∃ o : Option D, (∀ d, o = some d → isNoneD d = false) ∧ m' = [.val (.str z), .val (.list (.str w :: r.map PyData.str)), .val (optD o)] ∧ Y.ok (.val (optD (o.map fun d => .tuple [.str w, d])))) (fun P hP => ?_) ?_
      · have t1 : bP (qB (pOp eqD (pOp ixD (var 1) (lit (.int 0))) (lit (.str "stands")))) = bP (qB (pOp eqD (pOp ixD (var 1) (lit (.int 0))) (lit (.str "stands")))) := rfl
        refine ⟨decide (w = "stands"), qB_eq ((pOp_eq ew (by rfl)).trans (eq_str _ _)), fun hb => ?_, fun hb => ?_⟩
        · have hw : w = "stands" := of_decide_eq_true hb
          rw [if_pos hw] at ok
          exact ⟨_, ek, rfl, hP _ ⟨kindsIn r, nk, rfl, ok⟩⟩
        · have hw : ¬ w = "stands" := of_decide_eq_false hb
          rw [if_neg hw] at ok
          refine ⟨decide (w = "hops"), qB_eq ((pOp_eq ew (by rfl)).trans (eq_str _ _)), fun hb => ?_, fun hb => ?_⟩
          · have hw : w = "hops" := of_decide_eq_true hb
            rw [if_pos hw] at ok
            exact ⟨_, eh, rfl, hP _ ⟨hopsIn r, nh, rfl, ok⟩⟩
          · have hw : ¬ w = "hops" := of_decide_eq_false hb
            rw [if_neg hw] at ok
            have eg : pDG "arm 1" "arm 2" (.int 1) (.int 2) (var 0) (lit .none) [.val (.str z), .val (.list (.str w :: r.map PyData.str)), .un] = some (optD (if z = "arm 1" then some (.int 1) else if z = "arm 2" then some (.int 2) else none)) := by
              show some (((if z = "arm 1" then some (PyData.int 1) else if z = "arm 2" then some (.int 2) else none) : Option D).getD .none) = _
              congr 1
              by_cases h1 : z = "arm 1"
              · rw [if_pos h1]; rfl
              · rw [if_neg h1]
                by_cases h2 : z = "arm 2"
                · rw [if_pos h2]; rfl
                · rw [if_neg h2]; rfl
            refine ⟨_, eg, rfl, hP _ ⟨_, fun d hd => ?_, rfl, ok⟩⟩
            by_cases h1 : z = "arm 1"
            · rw [if_pos h1] at hd; cases hd; rfl
            · rw [if_neg h1] at hd
              by_cases h2 : z = "arm 2"
              · rw [if_pos h2] at hd; cases hd; rfl
              · rw [if_neg h2] at hd; cases hd
      · rintro m' ⟨o, ho, rfl, ok⟩
        cases o with
        | none => exact ⟨_, rfl, ok⟩
        | some d =>
          have hd := ho d rfl
          have t : qB (pOp isD (var 2) (lit .none)) [.val (.str z), .val (.list (.str w :: r.map PyData.str)), .val d] = some false := by
            refine qB_eq ((pOp_eq (x := d) (by rfl) (by rfl)).trans ?_)
            have : isD d .none = some (.bool (isNoneD d)) := by cases d <;> rfl
            rw [this, hd]
          refine ⟨.tuple [.str w, d], ?_, ok⟩
          show pIf _ _ _ [.val (.str z), .val (.list (.str w :: r.map PyData.str)), .val d] = _
          unfold pIf
          rw [t, Option.bind_some]
          show pTup _ _ = _
          unfold pTup
          have ew2 : pOp ixD (var 1) (lit (.int 0)) [.val (.str z), .val (.list (.str w :: r.map PyData.str)), .val d] = some (.str w) := (pOp_eq (by rfl) (by rfl)).trans (show ixD (.list (.str w :: r.map PyData.str)) (.int 0) = some (.str w) from atI_nat (j := 0) rfl)
          rw [a2 ew2 (y := d) (by rfl)]; rfl
  · cases h
theorem linesIn_map : ∀ {ws : List Str} {rows : List D}, linesIn ws = some rows → (ws.map fun z => optD (lineIn z)) = rows ∧ (∀ x ∈ rows, ∃ a d, x = .tuple [.str a, d])
  | [], rows, h => by cases h; exact ⟨rfl, by simp⟩
  | z :: ws, rows, h => by
    obtain ⟨x, h1, h2⟩ := Option.bind_eq_some_iff.mp h
    obtain ⟨ms, h3, rfl⟩ := Option.map_eq_some_iff.mp h2
    obtain ⟨i1, i2⟩ := linesIn_map h3
    refine ⟨by rw [List.map_cons, h1, i1]; rfl, fun y hy => ?_⟩
    rcases List.mem_cons.mp hy with rfl | hy
    · unfold lineIn at h1
      split at h1
      · cases h1
      · obtain ⟨d, _, rfl⟩ := Option.map_eq_some_iff.mp h1
        exact ⟨_, d, rfl⟩
    · exact i2 y hy
theorem sem_book_in : ∀ ds Y, det p_book_in ds Y → w_book_in (em0 Y.ok) (memF n_book_in.length ds) := by
  rintro ds Y ⟨d, h, ok⟩
  unfold p_book_in at h
  split at h
  · rename_i z
    by_cases hz : z.length ≤ 1000000
    case neg => rw [if_neg hz] at h; cases h
    rw [if_pos hz] at h
    obtain ⟨_, _, o3⟩ := one_len
    obtain ⟨b1, b2⟩ := split_bound z (y := "\n") (by omega)
    unfold bookIn at h
    obtain ⟨rows, hr, h⟩ := Option.bind_eq_some_iff.mp h
    have es : pM "str" splitD (var 0) (aCons (lit (.str "\n")) aNil) [.val (.str z), .un, .un, .un, .un, .un] = some (.list ((Txt.split z "\n").map PyData.str)) := pM_eq (by rfl) (tyS _) (a1 (by rfl)) (splitD_ok o3 (by omega))
    refine ⟨false, by rfl, (fun h => nomatch h), fun _ => ?_⟩
    generalize Txt.split z "\n" = ws at b1 b2 hr es
    obtain ⟨i1, i2⟩ := linesIn_map hr
    have lc : lcGo (lcTurn (wipeM [.val (.str z), .un, .un, .un, .un, .un] [3]) (tgN 3) qYes (pCall p_line_in (aCons (var 3) aNil))) (ws.map PyData.str) = some rows := by
      rw [← i1]
      refine lcGo_map2 fun w hw => ?_
      have e : pCall p_line_in (aCons (var 3) aNil) [.val (.str z), .un, .un, .val (.str w), .un, .un] = some (optD (lineIn w)) := (pCall_eq (a1 (by rfl))).trans (show p_line_in [.str w] = _ from if_pos (by have := b2 w hw; omega))
      show (pCall p_line_in (aCons (var 3) aNil) [.val (.str z), .un, .un, .val (.str w), .un, .un]).map some = _
      rw [e]; rfl
    have hlen : rows.length = ws.length := by rw [← i1]; simp
    refine ⟨.list rows, pLc_eq (xs := ws.map PyData.str) (by unfold jQ; rw [show memF n_book_in.length [PyData.str z] = [.val (.str z), .un, .un, .un, .un, .un] from rfl, es]; rfl) lc (by omega), rfl, ?_⟩
    have hno : (rows.any fun y => PyData.eqv y .none) = false := by
      rw [List.any_eq_false]
      intro x hx
      obtain ⟨a, d, rfl⟩ := i2 x hx
      simp [PyData.eqv]
    refine ⟨false, qB_eq ((pOp_eq (y := .list rows) (by rfl) (by rfl)).trans ((in_none rows).trans (by rw [hno]))), (fun h => nomatch h), fun _ => ?_⟩
    split at h
    · rename_i a x b y c k
      split at h <;> cases h
      rename_i hb
      obtain ⟨⟨rfl, rfl, rfl⟩, hbk⟩ := hb
      refine ⟨.tuple [x, y, k], by rfl, rfl, ?_⟩
      refine ⟨false, ?_, (fun h => nomatch h), fun _ => ⟨_, rfl, ok⟩⟩
      have t1 : qB (pOp neD (pLc [4, 5] (jQ (var 1)) (tgT 2 (tgsCons (tgN 4) (tgsCons (tgN 5) tgsNil))) qYes (var 4)) (pLst (aCons (lit (.str "stands")) (aCons (lit (.str "hops")) (aCons (lit (.str "arm")) aNil))))) [.val (.str z), .val (.list [.tuple [.str "stands", x], .tuple [.str "hops", y], .tuple [.str "arm", k]]), .val (.tuple [x, y, k]), .un, .un, .un] = some false := by
        refine qB_eq ((pOp_eq (x := .list [.str "stands", .str "hops", .str "arm"]) (y := .list [.str "stands", .str "hops", .str "arm"]) (by rfl) (by rfl)).trans ?_)
        simp [neD, grd, dok, PyData.depth, PyData.depthAll, PyData.eqv, PyData.eqvAll]
      have t2 : qNot (qB (pCall p_fits (aCons (var 2) aNil))) [.val (.str z), .val (.list [.tuple [.str "stands", x], .tuple [.str "hops", y], .tuple [.str "arm", k]]), .val (.tuple [x, y, k]), .un, .un, .un] = some false := by
        unfold qNot
        rw [qB_eq (b := true) ((pCall_eq (a1 (x := .tuple [x, y, k]) (by rfl))).trans (by show some (PyData.bool (isBook (.tuple [x, y, k]))) = _; rw [hbk]))]
        rfl
      show qOr _ _ [.val (.str z), .val (.list [.tuple [.str "stands", x], .tuple [.str "hops", y], .tuple [.str "arm", k]]), .val (.tuple [x, y, k]), .un, .un, .un] = _
      unfold qOr
      rw [t1]
      exact t2
    · cases h
  · cases h
theorem CtOk.court {c : Ct} (h : CtOk c) : isCourt (ctD c) = true := by
  have hr : ∀ {z : Str}, Row z → z.cps.toList.all isCell = true := fun hz => List.all_eq_true.mpr fun k hk => decide_eq_true (hz k hk)
  simp only [ctD, isCourt, isStretch, hr h.ra, hr h.rb, hr h.rc, Bool.and_true]
  have := h.la; have := h.lb; have := h.lc
  rw [decide_eq_true (by omega), decide_eq_true (by omega), decide_eq_true (by omega)]; rfl
theorem CtOk.of {c : Ct} (h : CtOk c) : ctOf (ctD c) = some c := by
  have := h.court
  simp only [ctD] at this ⊢
  simp only [ctOf, this, if_true]
theorem isCourt_eq {a b c : Str} (h : isCourt (.tuple [.str a, .str b, .str c]) = true) : CtOk ⟨a, b, c⟩ := by
  simp only [isCourt, isStretch, Bool.and_eq_true, decide_eq_true_eq] at h
  obtain ⟨⟨⟨h1, h2⟩, h3, h4⟩, h5, h6⟩ := h
  have hr : ∀ {z : Str}, z.cps.toList.all isCell = true → Row z := fun hz k hk => of_decide_eq_true (List.all_eq_true.mp hz k hk)
  exact ⟨by show a.length ≤ 3; omega, by show 1 ≤ b.length ∧ b.length ≤ 3; omega, by show c.length ≤ 3; omega, hr h2, hr h4, hr h6⟩
theorem ctOf_eq {v : D} {c : Ct} (h : ctOf v = some c) : v = ctD c ∧ CtOk c := by
  unfold ctOf at h
  split at h
  · split at h <;> cases h
    rename_i hb
    exact ⟨rfl, isCourt_eq hb⟩
  · cases h
def dash (z : Str) : Str := if z = ("" : Str) then ("-" : Str) else z
theorem ne_str (x y : Str) : neD (.str x) (.str y) = some (.bool (!decide (x = y))) := by
  show some (PyData.bool (!(x == y))) = _
  rw [beqS]
  congr 3
  exact decide_eq_decide.mpr ⟨Eq.symm, Eq.symm⟩
theorem dash_eq {m : Mem} {i : Nat} {z : Str} (h : getV m i = some (.str z)) : pIf (qB (pOp neD (var i) (lit (.str "")))) (var i) (lit (.str "-")) m = some (.str (dash z)) := by
  have t : qB (pOp neD (var i) (lit (.str ""))) m = some (!decide (z = "")) := qB_eq ((pOp_eq h (by rfl)).trans (ne_str _ _))
  unfold pIf dash
  rw [t, Option.bind_some]
  by_cases hz : z = ""
  · rw [decide_eq_true hz, if_pos hz]; rfl
  · rw [decide_eq_false hz, if_neg hz]; exact h
theorem dash_len {z : Str} (h : z.length ≤ 3) : (dash z).length ≤ 3 := by
  unfold dash
  split
  · decide +kernel
  · exact h
theorem courtJ {c : Ct} (h : CtOk c) : joinD (.str " ") [.list ([c.a, c.b, c.c].map fun z => PyData.str (dash z))] = some (.str (courtT c)) := by
  have e : ([c.a, c.b, c.c].map fun z => PyData.str (dash z)) = ([c.a, c.b, c.c].map dash).map PyData.str := rfl
  rw [e]
  refine joinD_list ?_
  have l1 := dash_len h.la
  have l2 := dash_len h.lb.2
  have l3 := dash_len h.lc
  have o := one_len.2.1
  simp only [List.map_cons, List.map_nil, List.sum_cons, List.sum_nil, List.length_cons, List.length_nil, o]
  omega
theorem sem_court_of : ∀ ds Y, det p_court_of ds Y → w_court_of (em0 Y.ok) (memF n_court_of.length ds) := by
  rintro ds Y ⟨d, h, ok⟩
  unfold p_court_of at h
  split at h
  · rename_i v
    obtain ⟨c, hc, rfl⟩ := Option.map_eq_some_iff.mp h
    obtain ⟨rfl, hC⟩ := ctOf_eq hc
    have lc : lcGo (lcTurn (wipeM [.val (ctD c), .un] [1]) (tgN 1) qYes (pIf (qB (pOp neD (var 1) (lit (.str "")))) (var 1) (lit (.str "-")))) ([c.a, c.b, c.c].map PyData.str) = some ([c.a, c.b, c.c].map fun z => PyData.str (dash z)) := by
      refine lcGo_map2 fun z hz => ?_
      have e := dash_eq (m := [.val (ctD c), .val (.str z)]) (i := 1) (z := z) rfl
      show (pIf (qB (pOp neD (var 1) (lit (.str "")))) (var 1) (lit (.str "-")) [.val (ctD c), .val (.str z)]).map some = _
      rw [e]; rfl
    exact ⟨_, pM_eq (by rfl) (tyS _) (a1 (pLc_eq (xs := [c.a, c.b, c.c].map PyData.str) (by rfl) lc (by simp))) (courtJ hC), ok⟩
  · cases h
theorem sem_book_text : ∀ ds Y, det p_book_text ds Y → w_book_text (em0 Y.ok) (memF n_book_text.length ds) := by
  rintro ds Y ⟨d, h, ok⟩
  unfold p_book_text at h
  split at h
  · rename_i v
    obtain ⟨b, hb, rfl⟩ := Option.map_eq_some_iff.mp h
    obtain ⟨rfl, hB⟩ := bkOf_eq hb
    refine ⟨.none, (pCall_eq (a1 (x := bkD b) (by rfl))).trans (show p_need_book [bkD b] = _ from if_pos hB.book), ?_⟩
    refine ⟨_, (pCall_eq (a1 (x := bkD b) (by rfl))).trans ?_, ok⟩
    show (bkOf (bkD b)).map _ = _
    rw [hB.of]; rfl
  · cases h
theorem sem_read_book : ∀ ds Y, det p_read_book ds Y → w_read_book (em0 Y.ok) (memF n_read_book.length ds) := by
  rintro ds Y ⟨d, h, ok⟩
  unfold p_read_book at h
  split at h
  · rename_i z
    exact ⟨_, (pCall_eq (a1 (x := .str z) (by rfl))).trans (show p_book_in [.str z] = some d from h), ok⟩
  · cases h
theorem sem_court_text : ∀ ds Y, det p_court_text ds Y → w_court_text (em0 Y.ok) (memF n_court_text.length ds) := by
  rintro ds Y ⟨d, h, ok⟩
  unfold p_court_text at h
  split at h
  · rename_i v
    obtain ⟨c, hc, rfl⟩ := Option.map_eq_some_iff.mp h
    obtain ⟨rfl, hC⟩ := ctOf_eq hc
    refine ⟨.none, (pCall_eq (a1 (x := ctD c) (by rfl))).trans (show p_need_court [ctD c] = _ from if_pos hC.court), ?_⟩
    refine ⟨_, (pCall_eq (a1 (x := ctD c) (by rfl))).trans ?_, ok⟩
    show (ctOf (ctD c)).map _ = _
    rw [hC.of]; rfl
  · cases h
theorem sem_read_court : ∀ ds Y, det p_read_court ds Y → w_read_court (em0 Y.ok) (memF n_read_court.length ds) := by
  rintro ds Y ⟨d, h, ok⟩
  unfold p_read_court at h
  split at h
  · rename_i z
    by_cases hz : z.length ≤ 1000000
    case neg => rw [if_neg hz] at h; cases h
    rw [if_pos hz] at h
    obtain ⟨_, o2, _⟩ := one_len
    obtain ⟨b1, b2⟩ := split_bound z (y := " ") (by omega)
    unfold courtIn at h
    have es : pM "str" splitD (var 0) (aCons (lit (.str " ")) aNil) [.val (.str z), .un, .un] = some (.list ((Txt.split z " ").map PyData.str)) := pM_eq (by rfl) (tyS _) (a1 (by rfl)) (splitD_ok o2 (by omega))
    refine ⟨false, by rfl, (fun h => nomatch h), fun _ => ?_⟩
    generalize Txt.split z " " = ws at b1 b2 es h
    have lc : lcGo (lcTurn (wipeM [.val (.str z), .un, .un] [2]) (tgN 2) qYes (pIf (qB (pOp eqD (var 2) (lit (.str "-")))) (lit (.str "")) (var 2))) (ws.map PyData.str) = some (ws.map fun w => PyData.str (if w = ("-" : Str) then ("" : Str) else w)) := by
      refine lcGo_map2 fun w hw => ?_
      have t : qB (pOp eqD (var 2) (lit (.str "-"))) [.val (.str z), .un, .val (.str w)] = some (decide (w = "-")) := qB_eq ((pOp_eq (by rfl) (by rfl)).trans (eq_str _ _))
      show (pIf (qB (pOp eqD (var 2) (lit (.str "-")))) (lit (.str "")) (var 2) [.val (.str z), .un, .val (.str w)]).map some = _
      unfold pIf
      rw [t, Option.bind_some]
      by_cases hw : w = "-"
      · rw [decide_eq_true hw, if_pos hw]; rfl
      · rw [decide_eq_false hw, if_neg hw]; rfl
    have em : (ws.map fun w => PyData.str (if w = ("-" : Str) then ("" : Str) else w)) = (ws.map fun (w : Str) => if w = ("-" : Str) then ("" : Str) else w).map PyData.str := by simp
    rw [em] at lc
    split at h
    · rename_i a b c hw
      split at h <;> cases h
      rename_i hb
      obtain ⟨hC, ht⟩ := hb
      have hCt := isCourt_eq hC
      rw [hw] at lc
      refine ⟨ctD ⟨a, b, c⟩, (pCall_eq (a1 (pLc_eq (xs := ws.map PyData.str) (by unfold jQ; rw [es]; rfl) lc (by simp)))).trans rfl, rfl, ?_⟩
      refine ⟨false, ?_, (fun h => nomatch h), fun _ => ⟨_, rfl, ok⟩⟩
      have t1 : qNot (qB (pCall p_is_laid (aCons (var 1) aNil))) [.val (.str z), .val (ctD ⟨a, b, c⟩), .un] = some false := by
        unfold qNot
        rw [qB_eq (b := true) ((pCall_eq (a1 (x := ctD ⟨a, b, c⟩) (by rfl))).trans (by
          show (if okC (ctD ⟨a, b, c⟩) = true then some (PyData.bool (isCourt (ctD ⟨a, b, c⟩))) else none) = _
          rw [if_pos (isCourt_ok hC), hC]))]
        rfl
      have t2 : qB (pOp neD (pCall p_court_of (aCons (var 1) aNil)) (var 0)) [.val (.str z), .val (ctD ⟨a, b, c⟩), .un] = some false := by
        refine qB_eq ((pOp_eq (x := .str (courtT ⟨a, b, c⟩)) ((pCall_eq (a1 (x := ctD ⟨a, b, c⟩) (by rfl))).trans ?_) (by rfl)).trans ((ne_str _ _).trans (by rw [decide_eq_true ht]; rfl)))
        show (ctOf (ctD ⟨a, b, c⟩)).map _ = _
        rw [hCt.of]; rfl
      show qOr _ _ [.val (.str z), .val (ctD ⟨a, b, c⟩), .un] = _
      unfold qOr
      rw [t1]
      exact t2
    · cases h
  · cases h
/-- a for loop by what stays -/
theorem forL {td : TD} {u : WS} {E : EM} (I : Mem → Prop) : ∀ (ds : List D) (m : Mem), I m → (∀ d ∈ ds, ∀ m, I m → ∃ m1, td d m = some m1 ∧ ∀ E' : EM, (∀ m', I m' → E'.nx m') → u E' m1) → (∀ m, I m → E.nx m) → wForL td u E ds m
  | [], m, h, _, hk => hk m h
  | d :: ds, m, h, turn, hk => by
    obtain ⟨m1, h1, h2⟩ := turn d (by simp) m h
    exact ⟨m1, h1, h2 _ fun m' hm' => forL I ds m' hm' (fun d hd => turn d (by simp [hd])) hk⟩
def nio : S → Bool
  | .io _ => false
  | _ => true
theorem noIo_of {m : Mem} {i : Nat} {s : S} (h : m[i]? = some s) (hs : nio s = true) : noIo m i = true := by
  unfold noIo
  rw [h]
  cases s <;> first | rfl | cases hs
theorem eqv_strs : ∀ zs : List Str, PyData.eqvAll (zs.map PyData.str) (zs.map PyData.str) = true
  | [] => rfl
  | z :: zs => by simp [PyData.eqvAll, PyData.eqv, eqv_strs zs]
theorem depth_strs : ∀ zs : List Str, PyData.depthAll (zs.map PyData.str) = 0
  | [] => rfl
  | z :: zs => by simp [PyData.depthAll, PyData.depth, depth_strs zs]
theorem bk_same {b : Bk} (h : BkOk b) : neD (bkD b) (bkD b) = some (.bool false) := by
  have hT : ∀ k ∈ b.hs, Tr k := fun k hk => (h.hk k hk).tr (by have := h.kl; omega)
  have e : PyData.eqv (bkD b) (bkD b) = true := by
    simp [bkD, PyData.eqv, PyData.eqvAll, eqv_strs, eqv_trips hT hT]
  have d1 := depth_trips hT
  have hd : dok (bkD b) (bkD b) = true := by
    refine decide_eq_true ?_
    simp only [bkD, PyData.depth, PyData.depthAll, depth_strs]
    omega
  unfold neD
  rw [grd_ok hd, e]; rfl
theorem ct_same (c : Ct) : neD (ctD c) (ctD c) = some (.bool false) := by
  have e : PyData.eqv (ctD c) (ctD c) = true := by
    simp [ctD, PyData.eqv, PyData.eqvAll]
  have hd : dok (ctD c) (ctD c) = true := by
    refine decide_eq_true ?_
    simp [ctD, PyData.depth, PyData.depthAll]
  unfold neD
  rw [grd_ok hd, e]; rfl
theorem str_same (x : Str) : neD (.str x) (.str x) = some (.bool false) := by rw [ne_str]; simp
/-- the read-back of books -/
theorem line1_read {b : Bk} (h : BkOk b) : lineIn (Txt.join " " (("stands" : Str) :: b.ks)) = some (.tuple [.str "stands", .tuple (b.ks.map PyData.str)]) := by
  have e : Txt.split (Txt.join " " (("stands" : Str) :: b.ks)) " " = ("stands" : Str) :: b.ks := by
    refine split_at tl_sp (by decide) (by simp) fun p hp => ?_
    rcases List.mem_cons.mp hp with rfl | hp
    · decide +kernel
    · exact (kk_tl (h.kk p hp)).2.1
  unfold lineIn
  rw [e]
  simp only [if_true]
  have : kindsIn b.ks = some (.tuple (b.ks.map PyData.str)) := if_pos ⟨h.kl, h.kk⟩
  rw [this]; rfl
theorem hopsIn1_map {n : Nat} : ∀ {hs : List (List Int)}, (∀ h ∈ hs, HopT n h) → hopsIn1 (hs.map hopT) = some hs
  | [], _ => rfl
  | h :: hs, k => by
    show (hopIn (hopT h)).bind _ = _
    rw [hopIn_hopT (k h (by simp)), Option.bind_some, hopsIn1_map fun x hx => k x (by simp [hx])]; rfl
theorem line2_read {b : Bk} (h : BkOk b) : lineIn (Txt.join " " (("hops" : Str) :: b.hs.map hopT)) = some (.tuple [.str "hops", .tuple (b.hs.map tripD)]) := by
  have T := h.t
  have e : Txt.split (Txt.join " " (("hops" : Str) :: b.hs.map hopT)) " " = ("hops" : Str) :: b.hs.map hopT := by
    refine split_at tl_sp (by decide) (by simp) fun p hp => ?_
    rcases List.mem_cons.mp hp with rfl | hp
    · decide +kernel
    · obtain ⟨k, hk, rfl⟩ := List.mem_map.mp hp
      exact hopT_no (T.h k hk) (by omega)
  unfold lineIn
  rw [e]
  have n1 : ¬ ("hops" : Str) = "stands" := by decide +kernel
  simp only [if_neg n1, if_true]
  have : hopsIn (b.hs.map hopT) = some (.tuple (b.hs.map tripD)) := by
    unfold hopsIn
    rw [if_pos (by have := h.hl; simp; omega), hopsIn1_map T.h, Option.bind_some, if_pos h.up]
  rw [this]; rfl
theorem line3_read {b : Bk} (h : BkOk b) : lineIn ("arm " ++ strI b.arm) = some (.tuple [.str "arm", .int b.arm]) := by
  have T := h.t
  obtain ⟨a, ea, ha, ha2⟩ := T.ar
  have e0 : ("arm " ++ strI b.arm : Str) = Txt.join " " [("arm" : Str), strI b.arm] := by
    apply TL.ext_tl
    rw [tl_join1, TL.tl_append]
    have e1 : Txt.join " " [strI b.arm] = strI b.arm := by rw [TL.join_eq]; rfl
    have e2 : TL.tl ("arm " : Str) = TL.tl ("arm" : Str) ++ TL.tl (" " : Str) := by decide +kernel
    rw [e1, e2, List.append_assoc]
  have e : Txt.split ("arm " ++ strI b.arm) " " = [("arm" : Str), strI b.arm] := by
    rw [e0]
    refine split_at tl_sp (by decide) (by simp) fun p hp => ?_
    simp only [List.mem_cons, List.not_mem_nil, or_false] at hp
    rcases hp with rfl | rfl
    · decide +kernel
    · rw [ea, tl_strI a (by omega)]; simp; omega
  unfold lineIn
  rw [e]
  have n1 : ¬ ("arm" : Str) = "stands" := by decide +kernel
  have n2 : ¬ ("arm" : Str) = "hops" := by decide +kernel
  simp only [if_neg n1, if_neg n2]
  have z1 : ("arm " ++ strI 1 : Str) = "arm 1" := by
    apply TL.ext_tl
    rw [TL.tl_append, show TL.tl (strI 1) = [49] from tl_strI 1 (by omega)]
    decide +kernel
  have z2 : ("arm " ++ strI 2 : Str) = "arm 2" := by
    apply TL.ext_tl
    rw [TL.tl_append, show TL.tl (strI 2) = [50] from tl_strI 2 (by omega)]
    decide +kernel
  have n3 : ¬ ("arm 2" : Str) = "arm 1" := by decide +kernel
  rcases h.ar with e | e
  · rw [e, z1, if_pos rfl]; rfl
  · rw [e, z2, if_neg n3, if_pos rfl]; rfl
theorem text_lines {b : Bk} (h : BkOk b) : Txt.split (textOf b) "\n" = [Txt.join " " (("stands" : Str) :: b.ks), Txt.join " " (("hops" : Str) :: b.hs.map hopT), "arm " ++ strI b.arm] := by
  have T := h.t
  obtain ⟨a, ea, ha, ha2⟩ := T.ar
  refine split_at (parts := [Txt.join " " (("stands" : Str) :: b.ks), Txt.join " " (("hops" : Str) :: b.hs.map hopT), "arm " ++ strI b.arm]) tl_nl (by decide) (by simp) fun p hp => ?_
  simp only [List.mem_cons, List.not_mem_nil, or_false] at hp
  rcases hp with rfl | rfl | rfl
  · intro hm
    rcases mem_join hm with hm | ⟨p, hp, hm⟩
    · rw [tl_sp] at hm; simp at hm
    · rcases List.mem_cons.mp hp with rfl | hp
      · revert hm; decide +kernel
      · exact (kk_tl (h.kk p hp)).2.2 hm
  · intro hm
    rcases mem_join hm with hm | ⟨p, hp, hm⟩
    · rw [tl_sp] at hm; simp at hm
    · rcases List.mem_cons.mp hp with rfl | hp
      · revert hm; decide +kernel
      · obtain ⟨k, hk, rfl⟩ := List.mem_map.mp hp
        exact hopT_no (T.h k hk) (by omega) hm
  · rw [TL.tl_append, ea, tl_strI a (by omega)]
    intro hm
    rcases List.mem_append.mp hm with hm | hm
    · revert hm; decide +kernel
    · simp at hm; omega
theorem book_read {b : Bk} (h : BkOk b) : bookIn (textOf b) = some (bkD b) := by
  have hb := h.book
  unfold bookIn
  rw [text_lines h]
  have e : linesIn [Txt.join " " (("stands" : Str) :: b.ks), Txt.join " " (("hops" : Str) :: b.hs.map hopT), "arm " ++ strI b.arm] = some [.tuple [.str "stands", .tuple (b.ks.map PyData.str)], .tuple [.str "hops", .tuple (b.hs.map tripD)], .tuple [.str "arm", .int b.arm]] := by
    simp only [linesIn, line1_read h, line2_read h, line3_read h, Option.bind_some, Option.map_some]
  rw [e, Option.bind_some]
  simp only [bkD] at hb
  simp only [true_and, hb, if_true]
  rfl
theorem text_len {b : Bk} (h : BkOk b) : (textOf b).length ≤ 100000 := by
  have T := h.t
  obtain ⟨a, ea, ha, ha2⟩ := T.ar
  obtain ⟨l1, l1'⟩ := line1_len h
  obtain ⟨l2, l2'⟩ := line2_len h
  obtain ⟨_, o2, o3⟩ := one_len
  have b1 := join_le (y := " ") l1 (by omega) l1' (by omega)
  have b2 := join_le (y := " ") l2 (by omega) l2' (by omega)
  have la : ("arm " : Str).length = 4 := by decide +kernel
  have ls : (strI b.arm).length = 1 := by rw [ea]; exact len_strI a (by omega)
  have := join_len "\n" [Txt.join " " (("stands" : Str) :: b.ks), Txt.join " " (("hops" : Str) :: b.hs.map hopT), "arm " ++ strI b.arm]
  simp only [List.map_cons, List.map_nil, List.sum_cons, List.sum_nil, List.length_cons, List.length_nil, Str.length_append, o3] at this
  unfold textOf
  omega
theorem p_read_book_ok {b : Bk} (h : BkOk b) : p_read_book [.str (textOf b)] = some (bkD b) := by
  show (if (textOf b).length ≤ 1000000 then bookIn (textOf b) else none) = _
  rw [if_pos (by have := text_len h; omega), book_read h]
/-- the read-back of courts -/
theorem dash_tl {z : Str} (h : Row z) : 32 ∉ TL.tl (dash z) := by
  unfold dash
  split
  · decide +kernel
  · intro hm
    rcases h 32 hm with e | e <;> omega
theorem undash {z : Str} (h : Row z) : (if dash z = ("-" : Str) then ("" : Str) else dash z) = z := by
  unfold dash
  by_cases hz : z = ""
  · rw [if_pos hz, if_pos rfl, hz]
  · rw [if_neg hz, if_neg]
    intro e
    rw [e] at h
    have := h 45 (by decide +kernel)
    omega
theorem court_read {c : Ct} (h : CtOk c) : courtIn (courtT c) = some (ctD c) := by
  have e : Txt.split (courtT c) " " = [dash c.a, dash c.b, dash c.c] := by
    refine split_at (parts := [dash c.a, dash c.b, dash c.c]) tl_sp (by decide) (by simp) fun p hp => ?_
    simp only [List.mem_cons, List.not_mem_nil, or_false] at hp
    rcases hp with rfl | rfl | rfl
    · exact dash_tl h.ra
    · exact dash_tl h.rb
    · exact dash_tl h.rc
  unfold courtIn
  rw [e]
  simp only [List.map_cons, List.map_nil, undash h.ra, undash h.rb, undash h.rc]
  have : isCourt (ctD ⟨c.a, c.b, c.c⟩) = true := h.court
  simp only [this, true_and]
  exact if_pos trivial
theorem court_len {c : Ct} (h : CtOk c) : (courtT c).length ≤ 1000 := by
  have l1 := dash_len h.la
  have l2 := dash_len h.lb.2
  have l3 := dash_len h.lc
  have o := one_len.2.1
  have := join_len " " [dash c.a, dash c.b, dash c.c]
  simp only [List.map_cons, List.map_nil, List.sum_cons, List.sum_nil, List.length_cons, List.length_nil, o] at this
  show (Txt.join " " [dash c.a, dash c.b, dash c.c]).length ≤ _
  omega
theorem p_read_court_ok {c : Ct} (h : CtOk c) : p_read_court [.str (courtT c)] = some (ctD c) := by
  show (if (courtT c).length ≤ 1000000 then courtIn (courtT c) else none) = _
  rw [if_pos (by have := court_len h; omega), court_read h]
theorem p_book_text_ok {b : Bk} (h : BkOk b) : p_book_text [bkD b] = some (.str (textOf b)) := by
  show (bkOf (bkD b)).map _ = _
  rw [h.of]; rfl
theorem p_court_text_ok {c : Ct} (h : CtOk c) : p_court_text [ctD c] = some (.str (courtT c)) := by
  show (ctOf (ctD c)).map _ = _
  rw [h.of]; rfl
theorem law_turn {scr : D} {s1 s3 s4 s5 s6 s7 s8 : S} {ob : OB} {E : EM} (hob : ChOk ob) (h4 : nio s4 = true) (h5 : nio s5 = true) (h6 : nio s6 = true)
    (k : ∀ ob' s4' s5' s6' s8', ChOk ob' → nio s4' = true → nio s5' = true → nio s6' = true → E.nx [.val scr, s1, .ow ob', s3, s4', s5', s6', s7, s8']) :
    w_law_l1 E [.val scr, s1, .ow ob, s3, s4, s5, s6, s7, s8] := by
  refine ⟨rfl, ob, rfl, ⟨hob, rfl, fun b hB ob1 hob1 => ⟨bkD b, rfl, rfl, ob1, rfl, ⟨hob1, rfl, fun c hC ob2 hob2 => ⟨ctD c, rfl, bkD b, ctD c, rfl, ⟨noIo_of (s := s4) rfl h4, noIo_of (s := s5) rfl h5⟩, ?_⟩⟩⟩⟩⟩
  have e1 : pCall p__law_written (aCons (var 4) aNil) [.val scr, s1, .ow ob2, s3, .val (bkD b), .val (ctD c), s6, s7, s8] = some (.str (textOf b)) := by
    refine (pCall_eq (a1 (x := bkD b) (by rfl))).trans ?_
    show (bkOf (bkD b)).map _ = _
    rw [hB.of]; rfl
  refine ⟨_, e1, noIo_of (s := s6) rfl h6, ?_⟩
  have f1 : pCall p_book_text (aCons (var 4) aNil) (vw [.val scr, s1, .ow ob2, s3, .val (bkD b), .val (ctD c), .val (.str (textOf b)), s7, s8]) = some (.str (textOf b)) := by
    refine (pCall_eq (a1 (x := bkD b) (by rfl))).trans ?_
    show (bkOf (bkD b)).map _ = _
    rw [hB.of]; rfl
  have f2 : pCall p_read_book (aCons (var 6) aNil) (vw [.val scr, s1, .ow ob2, s3, .val (bkD b), .val (ctD c), .val (.str (textOf b)), s7, s8]) = some (bkD b) := (pCall_eq (a1 (x := .str (textOf b)) (by rfl))).trans (p_read_book_ok hB)
  refine ⟨false, ?_, (fun h => nomatch h), fun _ => ?_⟩
  · show qOr _ _ (vw [.val scr, s1, .ow ob2, s3, .val (bkD b), .val (ctD c), .val (.str (textOf b)), s7, s8]) = _
    unfold qOr
    rw [qB_eq ((pOp_eq f1 (y := .str (textOf b)) (by rfl)).trans (str_same _)), qB_eq ((pOp_eq f2 (y := bkD b) (by rfl)).trans (bk_same hB))]; rfl
  have lc : lcGo (lcTurn (wipeM [.val scr, s1, .ow ob2, s3, .val (bkD b), .val (ctD c), .val (.str (textOf b)), s7, s8] [8]) (tgN 8) qYes (pIf (qB (pOp neD (var 8) (lit (.str "")))) (var 8) (lit (.str "-")))) ([c.a, c.b, c.c].map PyData.str) = some ([c.a, c.b, c.c].map fun z => PyData.str (dash z)) := by
    refine lcGo_map2 fun z hz => ?_
    have e := dash_eq (m := [.val scr, s1, .ow ob2, s3, .val (bkD b), .val (ctD c), .val (.str (textOf b)), s7, .val (.str z)]) (i := 8) (z := z) rfl
    show (pIf (qB (pOp neD (var 8) (lit (.str "")))) (var 8) (lit (.str "-")) [.val scr, s1, .ow ob2, s3, .val (bkD b), .val (ctD c), .val (.str (textOf b)), s7, .val (.str z)]).map some = _
    rw [e]; rfl
  refine ⟨_, pM_eq (by rfl) (tyS _) (a1 (pLc_eq (xs := [c.a, c.b, c.c].map PyData.str) (by rfl) lc (by simp))) (courtJ hC), rfl, ?_⟩
  have g1 : pCall p_court_text (aCons (var 5) aNil) (vw [.val scr, s1, .ow ob2, s3, .val (bkD b), .val (ctD c), .val (.str (courtT c)), s7, s8]) = some (.str (courtT c)) := by
    refine (pCall_eq (a1 (x := ctD c) (by rfl))).trans ?_
    show (ctOf (ctD c)).map _ = _
    rw [hC.of]; rfl
  have g2 : pCall p_read_court (aCons (var 6) aNil) (vw [.val scr, s1, .ow ob2, s3, .val (bkD b), .val (ctD c), .val (.str (courtT c)), s7, s8]) = some (ctD c) := (pCall_eq (a1 (x := .str (courtT c)) (by rfl))).trans (p_read_court_ok hC)
  refine ⟨false, ?_, (fun h => nomatch h), fun _ => ?_⟩
  · show qOr _ _ (vw [.val scr, s1, .ow ob2, s3, .val (bkD b), .val (ctD c), .val (.str (courtT c)), s7, s8]) = _
    unfold qOr
    rw [qB_eq ((pOp_eq g1 (y := .str (courtT c)) (by rfl)).trans (str_same _)), qB_eq ((pOp_eq g2 (y := ctD c) (by rfl)).trans (ct_same c))]; rfl
  exact k ob2 _ _ _ _ hob2 rfl rfl rfl
def feetB : Bk := ⟨["one", "both", "one"], [[0, 2, 1], [1, 0, 3], [2, 1, 2]], 2⟩
theorem feet_ok : BkOk feetB := by
  refine ⟨by decide, fun k hk => ?_, by decide, fun h hh => ?_, by decide, .inr rfl⟩
  · simp only [feetB, List.mem_cons, List.not_mem_nil, or_false] at hk
    rcases hk with rfl | rfl | rfl
    · exact .inr rfl
    · exact .inl rfl
    · exact .inr rfl
  · simp only [feetB, List.mem_cons, List.not_mem_nil, or_false] at hh
    rcases hh with rfl | rfl | rfl
    · exact ⟨0, 2, 1, rfl, by decide, by decide, by decide⟩
    · exact ⟨1, 0, 3, rfl, by decide, by decide, by decide⟩
    · exact ⟨2, 1, 2, rfl, by decide, by decide, by decide⟩
theorem feet_text : textOf feetB = "stands one both one\nhops 0-2-1 1-0-3 2-1-2\narm 2" := by
  apply TL.ext_tl
  have j3 : ∀ p q r : Str, TL.tl (Txt.join "\n" [p, q, r]) = TL.tl p ++ (TL.tl "\n" ++ (TL.tl q ++ (TL.tl "\n" ++ TL.tl r))) := fun p q r => by
    rw [tl_join1, tl_join1, show Txt.join "\n" [r] = r by rw [TL.join_eq]; rfl]
  have k4 : ∀ p q r t : Str, TL.tl (Txt.join " " [p, q, r, t]) = TL.tl p ++ (TL.tl " " ++ (TL.tl q ++ (TL.tl " " ++ (TL.tl r ++ (TL.tl " " ++ TL.tl t))))) := fun p q r t => by
    rw [tl_join1, tl_join1, tl_join1, show Txt.join " " [t] = t by rw [TL.join_eq]; rfl]
  have h1 : TL.tl (hopT [0, 2, 1]) = [48, 45, 50, 45, 49] := hopT_tl (x := 0) (y := 2) (l := 1) (by omega) (by omega) (by omega)
  have h2 : TL.tl (hopT [1, 0, 3]) = [49, 45, 48, 45, 51] := hopT_tl (x := 1) (y := 0) (l := 3) (by omega) (by omega) (by omega)
  have h3 : TL.tl (hopT [2, 1, 2]) = [50, 45, 49, 45, 50] := hopT_tl (x := 2) (y := 1) (l := 2) (by omega) (by omega) (by omega)
  have e : TL.tl (textOf feetB) = TL.tl (Txt.join "\n" [Txt.join " " ["stands", "one", "both", "one"], Txt.join " " ["hops", hopT [0, 2, 1], hopT [1, 0, 3], hopT [2, 1, 2]], "arm " ++ strI 2]) := rfl
  rw [e, j3, k4, k4, h1, h2, h3, TL.tl_append, show TL.tl (strI 2) = [50] from tl_strI 2 (by omega)]
  decide +kernel
theorem sem_law : ∀ ds Y, q_law ds Y → w_law (em0 Y.ok) (memF n_law.length ds) := by
  rintro ds Y ⟨ns, rfl, hn, ok⟩
  -- how often
  have ew : jR1 (aCons (pOp addD (lit (.int 1)) (pCall min2D (aCons (pCall lenD (aCons (var 0) aNil)) (aCons (lit (.int 8)) aNil)))) aNil) (memF n_law.length [.list (ns.map PyData.int)]) = some (rng 0 (1 + min ns.length 8)) := by
    refine jR1_eq ?_ (by omega)
    refine (pOp_eq (x := .int 1) (y := .int (min ns.length 8 : Nat)) (by rfl) ((pCall_eq (a2 (x := .int ns.length) (y := .int 8) ((lenL (xs := ns.map PyData.int) (by rfl)).trans (by simp)) (by rfl))).trans ?_)).trans ?_
    · show some (PyData.int (if (8 : Int) < (ns.length : Int) then 8 else (ns.length : Int))) = _
      congr 2
      split <;> omega
    · show some (PyData.int (1 + ((min ns.length 8 : Nat) : Int))) = _
      congr 2
  refine ⟨_, ew, ?_⟩
  refine forL (fun m => ∃ s1 s2 s3 s4 s5 s6 s7 s8, m = [.val (.list (ns.map PyData.int)), s1, s2, s3, s4, s5, s6, s7, s8] ∧ (nio s1 = true ∧ nio s2 = true ∧ nio s3 = true) ∧ nio s4 = true ∧ nio s5 = true ∧ nio s6 = true ∧ nio s7 = true) _ _ ⟨.un, .un, .un, .un, .un, .un, .un, .un, rfl, ⟨rfl, rfl, rfl⟩, rfl, rfl, rfl, rfl⟩ ?_ ?_
  · rintro d hd m ⟨s1, s2, s3, s4, s5, s6, s7, s8, rfl, ⟨h1, h2, h3⟩, h4, h5, h6, h7⟩
    obtain ⟨i, hi⟩ := List.mem_iff_getElem?.mp hd
    obtain ⟨hi, rfl⟩ := rng_get hi
    refine ⟨[.val (.list (ns.map PyData.int)), .val (.int (0 + (i : Int))), s2, s3, s4, s5, s6, s7, s8], by unfold tgN; rw [if_pos (noIo_of (s := s1) rfl h1)]; rfl, fun E' hE' => ?_⟩
    refine ⟨_, rfl, _, rfl, _, rfl, _, rfl, ⟨ns, _, rfl, by omega, fun ob hob => ⟨noIo_of (s := s2) rfl h2, ?_⟩⟩⟩
    refine ⟨rng 0 4, jR1_eq (n := 4) rfl (by omega), ?_⟩
    refine forL (fun m => ∃ ob s3 s4 s5 s6 s8, m = [.val (.list (ns.map PyData.int)), .val (.int (0 + (i : Int))), .ow ob, s3, s4, s5, s6, s7, s8] ∧ ChOk ob ∧ nio s3 = true ∧ nio s4 = true ∧ nio s5 = true ∧ nio s6 = true) _ _ ⟨ob, s3, s4, s5, s6, s8, rfl, hob, h3, h4, h5, h6⟩ ?_ ?_
    · rintro d _ m ⟨ob, s3, s4, s5, s6, s8, rfl, hob, h3, h4, h5, h6⟩
      refine ⟨_, by unfold tgN; rw [if_pos (noIo_of (s := s3) rfl h3)], fun E2 hE2 => ?_⟩
      exact law_turn hob h4 h5 h6 fun ob' s4' s5' s6' s8' g1 g2 g3 g4 => hE2 _ ⟨ob', .val d, s4', s5', s6', s8', rfl, g1, rfl, g2, g3, g4⟩
    · rintro m ⟨ob, s3, s4, s5, s6, s8, rfl, hob, h3, h4, h5, h6⟩
      exact hE' _ ⟨_, .ow ob, s3, s4, s5, s6, s7, s8, rfl, ⟨rfl, rfl, h3⟩, h4, h5, h6, h7⟩
  · rintro m ⟨s1, s2, s3, s4, s5, s6, s7, s8, rfl, ⟨h1, h2, h3⟩, h4, h5, h6, h7⟩
    refine ⟨bkD feetB, by rfl, noIo_of (s := s7) rfl h7, ?_⟩
    refine ⟨_, rfl, noIo_of (s := s6) rfl h6, ?_⟩
    have f1 : pCall p_book_text (aCons (var 7) aNil) (vw [.val (.list (ns.map PyData.int)), s1, s2, s3, s4, s5, .val (.str "stands one both one\nhops 0-2-1 1-0-3 2-1-2\narm 2"), .val (bkD feetB), s8]) = some (.str "stands one both one\nhops 0-2-1 1-0-3 2-1-2\narm 2") := by
      refine (pCall_eq (a1 (x := bkD feetB) (by rfl))).trans ((p_book_text_ok feet_ok).trans ?_)
      rw [feet_text]
    refine ⟨false, qB_eq ((pOp_eq f1 (y := .str "stands one both one\nhops 0-2-1 1-0-3 2-1-2\narm 2") (by rfl)).trans (str_same _)), (fun h => nomatch h), fun _ => ?_⟩
    have row : ∀ z : Str, z.cps.toList.all isCell = true → Row z := fun z hz k hk => of_decide_eq_true (List.all_eq_true.mp hz k hk)
    have c1 : CtOk ⟨"", "dds", ""⟩ := ⟨by decide +kernel, by decide +kernel, by decide +kernel, row _ (by decide +kernel), row _ (by decide +kernel), row _ (by decide +kernel)⟩
    have c2 : CtOk ⟨"s", "s", "sd"⟩ := ⟨by decide +kernel, by decide +kernel, by decide +kernel, row _ (by decide +kernel), row _ (by decide +kernel), row _ (by decide +kernel)⟩
    have j3 : ∀ p q r : Str, TL.tl (Txt.join " " [p, q, r]) = TL.tl p ++ (TL.tl " " ++ (TL.tl q ++ (TL.tl " " ++ TL.tl r))) := fun p q r => by
      rw [tl_join1, tl_join1, show Txt.join " " [r] = r by rw [TL.join_eq]; rfl]
    have t1 : courtT ⟨"", "dds", ""⟩ = "- dds -" := by
      apply TL.ext_tl
      show TL.tl (Txt.join " " [dash "", dash "dds", dash ""]) = _
      rw [j3]
      decide +kernel
    have t2 : courtT ⟨"s", "s", "sd"⟩ = "s s sd" := by
      apply TL.ext_tl
      show TL.tl (Txt.join " " [dash "s", dash "s", dash "sd"]) = _
      rw [j3]
      decide +kernel
    have g2 := p_read_court_ok c2
    rw [t2] at g2
    refine ⟨.bool true, ?_, ok⟩
    have a : ∀ m : Mem, pOp eqD (pCall p_court_text (aCons (pTup (aCons (lit (.str "")) (aCons (lit (.str "dds")) (aCons (lit (.str "")) aNil)))) aNil)) (lit (.str "- dds -")) m = some (.bool true) := fun m => by
      refine (pOp_eq (x := .str "- dds -") ((pCall_eq (a1 (x := ctD ⟨"", "dds", ""⟩) (by rfl))).trans ((p_court_text_ok c1).trans ?_)) (by rfl)).trans ((eq_str _ _).trans (by simp))
      rw [t1]
    have b : ∀ m : Mem, pOp eqD (pCall p_read_court (aCons (lit (.str "s s sd")) aNil)) (pTup (aCons (lit (.str "s")) (aCons (lit (.str "s")) (aCons (lit (.str "sd")) aNil)))) m = some (.bool true) := fun m => by
      refine (pOp_eq (x := ctD ⟨"s", "s", "sd"⟩) (y := ctD ⟨"s", "s", "sd"⟩) ((pCall_eq (a1 (x := .str "s s sd") (by rfl))).trans g2) (by rfl)).trans ?_
      simp [ctD, eqD, grd, dok, PyData.depth, PyData.depthAll, PyData.eqv, PyData.eqvAll]
    show pAnd _ _ _ = _
    unfold pAnd
    rw [a, Option.bind_some]
    exact b _
theorem dps_ints2 {K : PySem.W.Frag} {F : Hp} : ∀ ns : List Int, DpAll K F (ns.map V.int) (ns.map PyData.int)
  | [] => .nil
  | i :: ns => .cons (.int i) (dps_ints2 ns)
theorem law_starts {P : Program} {w : World} {K : PySem.W.Frag} {H : Hp} {a : Addr} {ns : List Int} (hl : ns.length ≤ 63) (hS : SqL K H a (ns.map V.int)) : SpF P w K 1 q_law [.ref a] H (fun v _ => v = .bl true) fun _ _ _ => False := by
  refine ⟨H, [.list (ns.map PyData.int)], ⟨fun r => r = .val (.bool true), fun _ => False⟩, rfl, Same.refl H, .cons (.lst hS (dps_ints2 ns)) .nil, ⟨ns, rfl, hl, rfl⟩, fun F2 H2 g => ⟨fun r v ro e => ?_, fun _ _ _ _ z => z⟩⟩
  subst e
  exact dp_bl ro
theorem all_has {P : Program} {w : World} {K : PySem.W.Frag} {mg : Str → Option Value} {base : Heap} (hb : ∀ x ∈ bl, mg x = none) (hc_FIGURES : HasC K mg "FIGURES" c_FIGURES) (hc_KINDS : HasC K mg "KINDS" c_KINDS) (hc_LONGEST : HasC K mg "LONGEST" c_LONGEST) (hc_MOST_CELLS : HasC K mg "MOST_CELLS" c_MOST_CELLS) (hc_MOST_HOPS : HasC K mg "MOST_HOPS" c_MOST_HOPS) (hc_MOST_STANDS : HasC K mg "MOST_STANDS" c_MOST_STANDS) (S_is_int : Stands K mg "is_int" s_is_int ["value", "low", "high"]) (S_is_stretch : Stands K mg "is_stretch" s_is_stretch ["value", "least"]) (S_text_of : Stands K mg "text_of" s_text_of ["book"]) (S_hop_in : Stands K mg "hop_in" s_hop_in ["word"]) (S_kinds_in : Stands K mg "kinds_in" s_kinds_in ["words"]) (S_court_of : Stands K mg "court_of" s_court_of ["court"]) (S__law_chest_of : Stands K mg "_law_chest_of" s__law_chest_of ["script", "k"]) (S__law_lot : Stands K mg "_law_lot" s__law_lot ["chest", "many"]) (S__law_all_hops : Stands K mg "_law_all_hops" s__law_all_hops ["many"]) (S__law_written : Stands K mg "_law_written" s__law_written ["rules"]) (S_is_hop : Stands K mg "is_hop" s_is_hop ["many", "value"]) (S_is_laid : Stands K mg "is_laid" s_is_laid ["value"]) (S_hops_in : Stands K mg "hops_in" s_hops_in ["words"]) (S__law_one : Stands K mg "_law_one" s__law_one ["chest", "things"]) (S__law_shuffled : Stands K mg "_law_shuffled" s__law_shuffled ["chest", "things"]) (S_fits : Stands K mg "fits" s_fits ["value"]) (S_need_court : Stands K mg "need_court" s_need_court ["value"]) (S_line_in : Stands K mg "line_in" s_line_in ["line"]) (S_read_court : Stands K mg "read_court" s_read_court ["value"]) (S__law_rules : Stands K mg "_law_rules" s__law_rules ["chest"]) (S__law_ground : Stands K mg "_law_ground" s__law_ground ["chest"]) (S_need_book : Stands K mg "need_book" s_need_book ["value"]) (S_book_in : Stands K mg "book_in" s_book_in ["value"]) (S_court_text : Stands K mg "court_text" s_court_text ["court"]) (S_book_text : Stands K mg "book_text" s_book_text ["book"]) (S_read_book : Stands K mg "read_book" s_read_book ["value"]) {f : Addr} {fd : FuncData} (F_law : Fun K "law" "law" s_law f fd) : FnOk P w K mg base CX0 6 f fd ["script"] (SpF P w K 1 q_law) := by
  have h_is_int : H_is_int P w K mg base := mk_F S_is_int sc_is_int (b_is_int hb) sem_is_int
  have h_is_stretch : H_is_stretch P w K mg base := mk_F S_is_stretch sc_is_stretch (b_is_stretch hb hc_MOST_CELLS) sem_is_stretch
  have h_text_of : H_text_of P w K mg base := mk_F S_text_of sc_text_of (b_text_of hb) sem_text_of
  have h_hop_in : H_hop_in P w K mg base := mk_F S_hop_in sc_hop_in (b_hop_in hb hc_FIGURES hc_MOST_STANDS hc_LONGEST) sem_hop_in
  have h_kinds_in : H_kinds_in P w K mg base := mk_F S_kinds_in sc_kinds_in (b_kinds_in hb hc_MOST_STANDS hc_KINDS) sem_kinds_in
  have h_court_of : H_court_of P w K mg base := mk_F S_court_of sc_court_of (b_court_of) sem_court_of
  have h__law_chest_of : H__law_chest_of P w K mg base := mk_F S__law_chest_of sc__law_chest_of (b__law_chest_of hb) sem__law_chest_of
  have h__law_lot : H__law_lot P w K mg base := mk_I S__law_lot sc__law_lot (b__law_lot hb) sem__law_lot
  have h__law_all_hops : H__law_all_hops P w K mg base := mk_F S__law_all_hops sc__law_all_hops (b__law_all_hops hb) sem__law_all_hops
  have h__law_written : H__law_written P w K mg base := mk_F S__law_written sc__law_written (b__law_written hb) sem__law_written
  have h_is_hop : H_is_hop P w K mg base := mk_F S_is_hop sc_is_hop (b_is_hop hb hc_LONGEST h_is_int) sem_is_hop
  have h_is_laid : H_is_laid P w K mg base := mk_F S_is_laid sc_is_laid (b_is_laid hb h_is_stretch) sem_is_laid
  have h_hops_in : H_hops_in P w K mg base := mk_F S_hops_in sc_hops_in (b_hops_in hb hc_MOST_HOPS h_hop_in) sem_hops_in
  have h__law_one : H__law_one P w K mg base := mk_I S__law_one sc__law_one (b__law_one hb h__law_lot) sem__law_one
  have h__law_shuffled : H__law_shuffled P w K mg base := mk_I S__law_shuffled sc__law_shuffled (b__law_shuffled hb h__law_lot) sem__law_shuffled
  have h_fits : H_fits P w K mg base := mk_F S_fits sc_fits (b_fits hb hc_MOST_STANDS hc_KINDS hc_MOST_HOPS h_is_int h_is_hop) sem_fits
  have h_need_court : H_need_court P w K mg base := mk_F S_need_court sc_need_court (b_need_court h_is_laid) sem_need_court
  have h_line_in : H_line_in P w K mg base := mk_F S_line_in sc_line_in (b_line_in h_kinds_in h_hops_in) sem_line_in
  have h_read_court : H_read_court P w K mg base := mk_F S_read_court sc_read_court (b_read_court hb h_is_laid h_court_of) sem_read_court
  have h__law_rules : H__law_rules P w K mg base := mk_I S__law_rules sc__law_rules (b__law_rules hb h__law_one h__law_lot h__law_shuffled h__law_all_hops) sem__law_rules
  have h__law_ground : H__law_ground P w K mg base := mk_I S__law_ground sc__law_ground (b__law_ground hb h__law_one h__law_lot) sem__law_ground
  have h_need_book : H_need_book P w K mg base := mk_F S_need_book sc_need_book (b_need_book h_fits) sem_need_book
  have h_book_in : H_book_in P w K mg base := mk_F S_book_in sc_book_in (b_book_in hb h_line_in h_fits) sem_book_in
  have h_court_text : H_court_text P w K mg base := mk_F S_court_text sc_court_text (b_court_text h_need_court h_court_of) sem_court_text
  have h_book_text : H_book_text P w K mg base := mk_F S_book_text sc_book_text (b_book_text h_need_book h_text_of) sem_book_text
  have h_read_book : H_read_book P w K mg base := mk_F S_read_book sc_read_book (b_read_book h_book_in) sem_read_book
  have bL := b_law (P := P) (w := w) (K := K) (mg := mg) (base := base) hb h__law_chest_of h__law_ground h__law_rules h__law_written h_book_text h_read_book h_court_text h_read_court
  exact has_F F_law sc_law rfl (fun cdv A outer s H E hr => bL f cdv A outer s H E hr) sem_law
theorem all_mk {l : PySem.W.OpenLaw} {w : World} {K : PySem.W.Frag} {h : Heap} {mg : Str → Option Value} {fa : Addr} (X : K.In h) (G : h.Ns mainGlobals mg) (hfa : mg "law" = some (.ref fa))
    {f_is_int : Addr} {od_is_int an_is_int : Option Addr} {sl_is_int : Array (Option Value)} {oc_is_int kV_is_int dc_is_int pm_is_int cd_is_int ct_is_int : Value}
    {f_is_stretch : Addr} {od_is_stretch an_is_stretch : Option Addr} {sl_is_stretch : Array (Option Value)} {oc_is_stretch kV_is_stretch dc_is_stretch pm_is_stretch cd_is_stretch ct_is_stretch : Value}
    {f_text_of : Addr} {od_text_of an_text_of : Option Addr} {sl_text_of : Array (Option Value)} {oc_text_of kV_text_of dc_text_of pm_text_of cd_text_of ct_text_of : Value}
    {f_hop_in : Addr} {od_hop_in an_hop_in : Option Addr} {sl_hop_in : Array (Option Value)} {oc_hop_in kV_hop_in dc_hop_in pm_hop_in cd_hop_in ct_hop_in : Value}
    {f_kinds_in : Addr} {od_kinds_in an_kinds_in : Option Addr} {sl_kinds_in : Array (Option Value)} {oc_kinds_in kV_kinds_in dc_kinds_in pm_kinds_in cd_kinds_in ct_kinds_in : Value}
    {f_court_of : Addr} {od_court_of an_court_of : Option Addr} {sl_court_of : Array (Option Value)} {oc_court_of kV_court_of dc_court_of pm_court_of cd_court_of ct_court_of : Value}
    {f__law_chest_of : Addr} {od__law_chest_of an__law_chest_of : Option Addr} {sl__law_chest_of : Array (Option Value)} {oc__law_chest_of kV__law_chest_of dc__law_chest_of pm__law_chest_of cd__law_chest_of ct__law_chest_of : Value}
    {f__law_lot : Addr} {od__law_lot an__law_lot : Option Addr} {sl__law_lot : Array (Option Value)} {oc__law_lot kV__law_lot dc__law_lot pm__law_lot cd__law_lot ct__law_lot : Value}
    {f__law_all_hops : Addr} {od__law_all_hops an__law_all_hops : Option Addr} {sl__law_all_hops : Array (Option Value)} {oc__law_all_hops kV__law_all_hops dc__law_all_hops pm__law_all_hops cd__law_all_hops ct__law_all_hops : Value}
    {f__law_written : Addr} {od__law_written an__law_written : Option Addr} {sl__law_written : Array (Option Value)} {oc__law_written kV__law_written dc__law_written pm__law_written cd__law_written ct__law_written : Value}
    {f_is_hop : Addr} {od_is_hop an_is_hop : Option Addr} {sl_is_hop : Array (Option Value)} {oc_is_hop kV_is_hop dc_is_hop pm_is_hop cd_is_hop ct_is_hop : Value}
    {f_is_laid : Addr} {od_is_laid an_is_laid : Option Addr} {sl_is_laid : Array (Option Value)} {oc_is_laid kV_is_laid dc_is_laid pm_is_laid cd_is_laid ct_is_laid : Value}
    {f_hops_in : Addr} {od_hops_in an_hops_in : Option Addr} {sl_hops_in : Array (Option Value)} {oc_hops_in kV_hops_in dc_hops_in pm_hops_in cd_hops_in ct_hops_in : Value}
    {f__law_one : Addr} {od__law_one an__law_one : Option Addr} {sl__law_one : Array (Option Value)} {oc__law_one kV__law_one dc__law_one pm__law_one cd__law_one ct__law_one : Value}
    {f__law_shuffled : Addr} {od__law_shuffled an__law_shuffled : Option Addr} {sl__law_shuffled : Array (Option Value)} {oc__law_shuffled kV__law_shuffled dc__law_shuffled pm__law_shuffled cd__law_shuffled ct__law_shuffled : Value}
    {f_fits : Addr} {od_fits an_fits : Option Addr} {sl_fits : Array (Option Value)} {oc_fits kV_fits dc_fits pm_fits cd_fits ct_fits : Value}
    {f_need_court : Addr} {od_need_court an_need_court : Option Addr} {sl_need_court : Array (Option Value)} {oc_need_court kV_need_court dc_need_court pm_need_court cd_need_court ct_need_court : Value}
    {f_line_in : Addr} {od_line_in an_line_in : Option Addr} {sl_line_in : Array (Option Value)} {oc_line_in kV_line_in dc_line_in pm_line_in cd_line_in ct_line_in : Value}
    {f_read_court : Addr} {od_read_court an_read_court : Option Addr} {sl_read_court : Array (Option Value)} {oc_read_court kV_read_court dc_read_court pm_read_court cd_read_court ct_read_court : Value}
    {f__law_rules : Addr} {od__law_rules an__law_rules : Option Addr} {sl__law_rules : Array (Option Value)} {oc__law_rules kV__law_rules dc__law_rules pm__law_rules cd__law_rules ct__law_rules : Value}
    {f__law_ground : Addr} {od__law_ground an__law_ground : Option Addr} {sl__law_ground : Array (Option Value)} {oc__law_ground kV__law_ground dc__law_ground pm__law_ground cd__law_ground ct__law_ground : Value}
    {f_need_book : Addr} {od_need_book an_need_book : Option Addr} {sl_need_book : Array (Option Value)} {oc_need_book kV_need_book dc_need_book pm_need_book cd_need_book ct_need_book : Value}
    {f_book_in : Addr} {od_book_in an_book_in : Option Addr} {sl_book_in : Array (Option Value)} {oc_book_in kV_book_in dc_book_in pm_book_in cd_book_in ct_book_in : Value}
    {f_court_text : Addr} {od_court_text an_court_text : Option Addr} {sl_court_text : Array (Option Value)} {oc_court_text kV_court_text dc_court_text pm_court_text cd_court_text ct_court_text : Value}
    {f_book_text : Addr} {od_book_text an_book_text : Option Addr} {sl_book_text : Array (Option Value)} {oc_book_text kV_book_text dc_book_text pm_book_text cd_book_text ct_book_text : Value}
    {f_read_book : Addr} {od_read_book an_read_book : Option Addr} {sl_read_book : Array (Option Value)} {oc_read_book kV_read_book dc_read_book pm_read_book cd_read_book ct_read_book : Value}
    {f_law : Addr} {od_law an_law : Option Addr} {sl_law : Array (Option Value)} {oc_law kV_law dc_law pm_law cd_law ct_law : Value}
    (a_is_int : PySem.W.nsIn K mainGlobals "is_int" = some (some (.ref f_is_int))) (l_is_int : K.lookup f_is_int = some ⟨oc_is_int, od_is_int, .func (PySem.W.fnOf "is_int" "is_int" (defArgs s_is_int) (defBody s_is_int) (defScope s_is_int) .none kV_is_int dc_is_int pm_is_int an_is_int cd_is_int ct_is_int), sl_is_int⟩) (c_is_int : PySem.W.codeIn K cd_is_int "is_int" = true) (k_is_int : PySem.W.keepIn K (.ref f_is_int) = true)
    (a_is_stretch : PySem.W.nsIn K mainGlobals "is_stretch" = some (some (.ref f_is_stretch))) (l_is_stretch : K.lookup f_is_stretch = some ⟨oc_is_stretch, od_is_stretch, .func (PySem.W.fnOf "is_stretch" "is_stretch" (defArgs s_is_stretch) (defBody s_is_stretch) (defScope s_is_stretch) .none kV_is_stretch dc_is_stretch pm_is_stretch an_is_stretch cd_is_stretch ct_is_stretch), sl_is_stretch⟩) (c_is_stretch : PySem.W.codeIn K cd_is_stretch "is_stretch" = true) (k_is_stretch : PySem.W.keepIn K (.ref f_is_stretch) = true)
    (a_text_of : PySem.W.nsIn K mainGlobals "text_of" = some (some (.ref f_text_of))) (l_text_of : K.lookup f_text_of = some ⟨oc_text_of, od_text_of, .func (PySem.W.fnOf "text_of" "text_of" (defArgs s_text_of) (defBody s_text_of) (defScope s_text_of) .none kV_text_of dc_text_of pm_text_of an_text_of cd_text_of ct_text_of), sl_text_of⟩) (c_text_of : PySem.W.codeIn K cd_text_of "text_of" = true) (k_text_of : PySem.W.keepIn K (.ref f_text_of) = true)
    (a_hop_in : PySem.W.nsIn K mainGlobals "hop_in" = some (some (.ref f_hop_in))) (l_hop_in : K.lookup f_hop_in = some ⟨oc_hop_in, od_hop_in, .func (PySem.W.fnOf "hop_in" "hop_in" (defArgs s_hop_in) (defBody s_hop_in) (defScope s_hop_in) .none kV_hop_in dc_hop_in pm_hop_in an_hop_in cd_hop_in ct_hop_in), sl_hop_in⟩) (c_hop_in : PySem.W.codeIn K cd_hop_in "hop_in" = true) (k_hop_in : PySem.W.keepIn K (.ref f_hop_in) = true)
    (a_kinds_in : PySem.W.nsIn K mainGlobals "kinds_in" = some (some (.ref f_kinds_in))) (l_kinds_in : K.lookup f_kinds_in = some ⟨oc_kinds_in, od_kinds_in, .func (PySem.W.fnOf "kinds_in" "kinds_in" (defArgs s_kinds_in) (defBody s_kinds_in) (defScope s_kinds_in) .none kV_kinds_in dc_kinds_in pm_kinds_in an_kinds_in cd_kinds_in ct_kinds_in), sl_kinds_in⟩) (c_kinds_in : PySem.W.codeIn K cd_kinds_in "kinds_in" = true) (k_kinds_in : PySem.W.keepIn K (.ref f_kinds_in) = true)
    (a_court_of : PySem.W.nsIn K mainGlobals "court_of" = some (some (.ref f_court_of))) (l_court_of : K.lookup f_court_of = some ⟨oc_court_of, od_court_of, .func (PySem.W.fnOf "court_of" "court_of" (defArgs s_court_of) (defBody s_court_of) (defScope s_court_of) .none kV_court_of dc_court_of pm_court_of an_court_of cd_court_of ct_court_of), sl_court_of⟩) (c_court_of : PySem.W.codeIn K cd_court_of "court_of" = true) (k_court_of : PySem.W.keepIn K (.ref f_court_of) = true)
    (a__law_chest_of : PySem.W.nsIn K mainGlobals "_law_chest_of" = some (some (.ref f__law_chest_of))) (l__law_chest_of : K.lookup f__law_chest_of = some ⟨oc__law_chest_of, od__law_chest_of, .func (PySem.W.fnOf "_law_chest_of" "_law_chest_of" (defArgs s__law_chest_of) (defBody s__law_chest_of) (defScope s__law_chest_of) .none kV__law_chest_of dc__law_chest_of pm__law_chest_of an__law_chest_of cd__law_chest_of ct__law_chest_of), sl__law_chest_of⟩) (c__law_chest_of : PySem.W.codeIn K cd__law_chest_of "_law_chest_of" = true) (k__law_chest_of : PySem.W.keepIn K (.ref f__law_chest_of) = true)
    (a__law_lot : PySem.W.nsIn K mainGlobals "_law_lot" = some (some (.ref f__law_lot))) (l__law_lot : K.lookup f__law_lot = some ⟨oc__law_lot, od__law_lot, .func (PySem.W.fnOf "_law_lot" "_law_lot" (defArgs s__law_lot) (defBody s__law_lot) (defScope s__law_lot) .none kV__law_lot dc__law_lot pm__law_lot an__law_lot cd__law_lot ct__law_lot), sl__law_lot⟩) (c__law_lot : PySem.W.codeIn K cd__law_lot "_law_lot" = true) (k__law_lot : PySem.W.keepIn K (.ref f__law_lot) = true)
    (a__law_all_hops : PySem.W.nsIn K mainGlobals "_law_all_hops" = some (some (.ref f__law_all_hops))) (l__law_all_hops : K.lookup f__law_all_hops = some ⟨oc__law_all_hops, od__law_all_hops, .func (PySem.W.fnOf "_law_all_hops" "_law_all_hops" (defArgs s__law_all_hops) (defBody s__law_all_hops) (defScope s__law_all_hops) .none kV__law_all_hops dc__law_all_hops pm__law_all_hops an__law_all_hops cd__law_all_hops ct__law_all_hops), sl__law_all_hops⟩) (c__law_all_hops : PySem.W.codeIn K cd__law_all_hops "_law_all_hops" = true) (k__law_all_hops : PySem.W.keepIn K (.ref f__law_all_hops) = true)
    (a__law_written : PySem.W.nsIn K mainGlobals "_law_written" = some (some (.ref f__law_written))) (l__law_written : K.lookup f__law_written = some ⟨oc__law_written, od__law_written, .func (PySem.W.fnOf "_law_written" "_law_written" (defArgs s__law_written) (defBody s__law_written) (defScope s__law_written) .none kV__law_written dc__law_written pm__law_written an__law_written cd__law_written ct__law_written), sl__law_written⟩) (c__law_written : PySem.W.codeIn K cd__law_written "_law_written" = true) (k__law_written : PySem.W.keepIn K (.ref f__law_written) = true)
    (a_is_hop : PySem.W.nsIn K mainGlobals "is_hop" = some (some (.ref f_is_hop))) (l_is_hop : K.lookup f_is_hop = some ⟨oc_is_hop, od_is_hop, .func (PySem.W.fnOf "is_hop" "is_hop" (defArgs s_is_hop) (defBody s_is_hop) (defScope s_is_hop) .none kV_is_hop dc_is_hop pm_is_hop an_is_hop cd_is_hop ct_is_hop), sl_is_hop⟩) (c_is_hop : PySem.W.codeIn K cd_is_hop "is_hop" = true) (k_is_hop : PySem.W.keepIn K (.ref f_is_hop) = true)
    (a_is_laid : PySem.W.nsIn K mainGlobals "is_laid" = some (some (.ref f_is_laid))) (l_is_laid : K.lookup f_is_laid = some ⟨oc_is_laid, od_is_laid, .func (PySem.W.fnOf "is_laid" "is_laid" (defArgs s_is_laid) (defBody s_is_laid) (defScope s_is_laid) .none kV_is_laid dc_is_laid pm_is_laid an_is_laid cd_is_laid ct_is_laid), sl_is_laid⟩) (c_is_laid : PySem.W.codeIn K cd_is_laid "is_laid" = true) (k_is_laid : PySem.W.keepIn K (.ref f_is_laid) = true)
    (a_hops_in : PySem.W.nsIn K mainGlobals "hops_in" = some (some (.ref f_hops_in))) (l_hops_in : K.lookup f_hops_in = some ⟨oc_hops_in, od_hops_in, .func (PySem.W.fnOf "hops_in" "hops_in" (defArgs s_hops_in) (defBody s_hops_in) (defScope s_hops_in) .none kV_hops_in dc_hops_in pm_hops_in an_hops_in cd_hops_in ct_hops_in), sl_hops_in⟩) (c_hops_in : PySem.W.codeIn K cd_hops_in "hops_in" = true) (k_hops_in : PySem.W.keepIn K (.ref f_hops_in) = true)
    (a__law_one : PySem.W.nsIn K mainGlobals "_law_one" = some (some (.ref f__law_one))) (l__law_one : K.lookup f__law_one = some ⟨oc__law_one, od__law_one, .func (PySem.W.fnOf "_law_one" "_law_one" (defArgs s__law_one) (defBody s__law_one) (defScope s__law_one) .none kV__law_one dc__law_one pm__law_one an__law_one cd__law_one ct__law_one), sl__law_one⟩) (c__law_one : PySem.W.codeIn K cd__law_one "_law_one" = true) (k__law_one : PySem.W.keepIn K (.ref f__law_one) = true)
    (a__law_shuffled : PySem.W.nsIn K mainGlobals "_law_shuffled" = some (some (.ref f__law_shuffled))) (l__law_shuffled : K.lookup f__law_shuffled = some ⟨oc__law_shuffled, od__law_shuffled, .func (PySem.W.fnOf "_law_shuffled" "_law_shuffled" (defArgs s__law_shuffled) (defBody s__law_shuffled) (defScope s__law_shuffled) .none kV__law_shuffled dc__law_shuffled pm__law_shuffled an__law_shuffled cd__law_shuffled ct__law_shuffled), sl__law_shuffled⟩) (c__law_shuffled : PySem.W.codeIn K cd__law_shuffled "_law_shuffled" = true) (k__law_shuffled : PySem.W.keepIn K (.ref f__law_shuffled) = true)
    (a_fits : PySem.W.nsIn K mainGlobals "fits" = some (some (.ref f_fits))) (l_fits : K.lookup f_fits = some ⟨oc_fits, od_fits, .func (PySem.W.fnOf "fits" "fits" (defArgs s_fits) (defBody s_fits) (defScope s_fits) .none kV_fits dc_fits pm_fits an_fits cd_fits ct_fits), sl_fits⟩) (c_fits : PySem.W.codeIn K cd_fits "fits" = true) (k_fits : PySem.W.keepIn K (.ref f_fits) = true)
    (a_need_court : PySem.W.nsIn K mainGlobals "need_court" = some (some (.ref f_need_court))) (l_need_court : K.lookup f_need_court = some ⟨oc_need_court, od_need_court, .func (PySem.W.fnOf "need_court" "need_court" (defArgs s_need_court) (defBody s_need_court) (defScope s_need_court) .none kV_need_court dc_need_court pm_need_court an_need_court cd_need_court ct_need_court), sl_need_court⟩) (c_need_court : PySem.W.codeIn K cd_need_court "need_court" = true) (k_need_court : PySem.W.keepIn K (.ref f_need_court) = true)
    (a_line_in : PySem.W.nsIn K mainGlobals "line_in" = some (some (.ref f_line_in))) (l_line_in : K.lookup f_line_in = some ⟨oc_line_in, od_line_in, .func (PySem.W.fnOf "line_in" "line_in" (defArgs s_line_in) (defBody s_line_in) (defScope s_line_in) .none kV_line_in dc_line_in pm_line_in an_line_in cd_line_in ct_line_in), sl_line_in⟩) (c_line_in : PySem.W.codeIn K cd_line_in "line_in" = true) (k_line_in : PySem.W.keepIn K (.ref f_line_in) = true)
    (a_read_court : PySem.W.nsIn K mainGlobals "read_court" = some (some (.ref f_read_court))) (l_read_court : K.lookup f_read_court = some ⟨oc_read_court, od_read_court, .func (PySem.W.fnOf "read_court" "read_court" (defArgs s_read_court) (defBody s_read_court) (defScope s_read_court) .none kV_read_court dc_read_court pm_read_court an_read_court cd_read_court ct_read_court), sl_read_court⟩) (c_read_court : PySem.W.codeIn K cd_read_court "read_court" = true) (k_read_court : PySem.W.keepIn K (.ref f_read_court) = true)
    (a__law_rules : PySem.W.nsIn K mainGlobals "_law_rules" = some (some (.ref f__law_rules))) (l__law_rules : K.lookup f__law_rules = some ⟨oc__law_rules, od__law_rules, .func (PySem.W.fnOf "_law_rules" "_law_rules" (defArgs s__law_rules) (defBody s__law_rules) (defScope s__law_rules) .none kV__law_rules dc__law_rules pm__law_rules an__law_rules cd__law_rules ct__law_rules), sl__law_rules⟩) (c__law_rules : PySem.W.codeIn K cd__law_rules "_law_rules" = true) (k__law_rules : PySem.W.keepIn K (.ref f__law_rules) = true)
    (a__law_ground : PySem.W.nsIn K mainGlobals "_law_ground" = some (some (.ref f__law_ground))) (l__law_ground : K.lookup f__law_ground = some ⟨oc__law_ground, od__law_ground, .func (PySem.W.fnOf "_law_ground" "_law_ground" (defArgs s__law_ground) (defBody s__law_ground) (defScope s__law_ground) .none kV__law_ground dc__law_ground pm__law_ground an__law_ground cd__law_ground ct__law_ground), sl__law_ground⟩) (c__law_ground : PySem.W.codeIn K cd__law_ground "_law_ground" = true) (k__law_ground : PySem.W.keepIn K (.ref f__law_ground) = true)
    (a_need_book : PySem.W.nsIn K mainGlobals "need_book" = some (some (.ref f_need_book))) (l_need_book : K.lookup f_need_book = some ⟨oc_need_book, od_need_book, .func (PySem.W.fnOf "need_book" "need_book" (defArgs s_need_book) (defBody s_need_book) (defScope s_need_book) .none kV_need_book dc_need_book pm_need_book an_need_book cd_need_book ct_need_book), sl_need_book⟩) (c_need_book : PySem.W.codeIn K cd_need_book "need_book" = true) (k_need_book : PySem.W.keepIn K (.ref f_need_book) = true)
    (a_book_in : PySem.W.nsIn K mainGlobals "book_in" = some (some (.ref f_book_in))) (l_book_in : K.lookup f_book_in = some ⟨oc_book_in, od_book_in, .func (PySem.W.fnOf "book_in" "book_in" (defArgs s_book_in) (defBody s_book_in) (defScope s_book_in) .none kV_book_in dc_book_in pm_book_in an_book_in cd_book_in ct_book_in), sl_book_in⟩) (c_book_in : PySem.W.codeIn K cd_book_in "book_in" = true) (k_book_in : PySem.W.keepIn K (.ref f_book_in) = true)
    (a_court_text : PySem.W.nsIn K mainGlobals "court_text" = some (some (.ref f_court_text))) (l_court_text : K.lookup f_court_text = some ⟨oc_court_text, od_court_text, .func (PySem.W.fnOf "court_text" "court_text" (defArgs s_court_text) (defBody s_court_text) (defScope s_court_text) .none kV_court_text dc_court_text pm_court_text an_court_text cd_court_text ct_court_text), sl_court_text⟩) (c_court_text : PySem.W.codeIn K cd_court_text "court_text" = true) (k_court_text : PySem.W.keepIn K (.ref f_court_text) = true)
    (a_book_text : PySem.W.nsIn K mainGlobals "book_text" = some (some (.ref f_book_text))) (l_book_text : K.lookup f_book_text = some ⟨oc_book_text, od_book_text, .func (PySem.W.fnOf "book_text" "book_text" (defArgs s_book_text) (defBody s_book_text) (defScope s_book_text) .none kV_book_text dc_book_text pm_book_text an_book_text cd_book_text ct_book_text), sl_book_text⟩) (c_book_text : PySem.W.codeIn K cd_book_text "book_text" = true) (k_book_text : PySem.W.keepIn K (.ref f_book_text) = true)
    (a_read_book : PySem.W.nsIn K mainGlobals "read_book" = some (some (.ref f_read_book))) (l_read_book : K.lookup f_read_book = some ⟨oc_read_book, od_read_book, .func (PySem.W.fnOf "read_book" "read_book" (defArgs s_read_book) (defBody s_read_book) (defScope s_read_book) .none kV_read_book dc_read_book pm_read_book an_read_book cd_read_book ct_read_book), sl_read_book⟩) (c_read_book : PySem.W.codeIn K cd_read_book "read_book" = true) (k_read_book : PySem.W.keepIn K (.ref f_read_book) = true)
    (a_law : PySem.W.nsIn K mainGlobals "law" = some (some (.ref f_law))) (l_law : K.lookup f_law = some ⟨oc_law, od_law, .func (PySem.W.fnOf "law" "law" (defArgs s_law) (defBody s_law) (defScope s_law) .none kV_law dc_law pm_law an_law cd_law ct_law), sl_law⟩) (c_law : PySem.W.codeIn K cd_law "law" = true) (k_law : PySem.W.keepIn K (.ref f_law) = true)
    (z_0 : PySem.W.nsIn K mainGlobals "abs" = some none)
    (z_1 : PySem.W.nsIn K mainGlobals "bool" = some none)
    (z_2 : PySem.W.nsIn K mainGlobals "int" = some none)
    (z_3 : PySem.W.nsIn K mainGlobals "isinstance" = some none)
    (z_4 : PySem.W.nsIn K mainGlobals "len" = some none)
    (z_5 : PySem.W.nsIn K mainGlobals "list" = some none)
    (z_6 : PySem.W.nsIn K mainGlobals "max" = some none)
    (z_7 : PySem.W.nsIn K mainGlobals "min" = some none)
    (z_8 : PySem.W.nsIn K mainGlobals "range" = some none)
    (z_9 : PySem.W.nsIn K mainGlobals "set" = some none)
    (z_10 : PySem.W.nsIn K mainGlobals "sorted" = some none)
    (z_11 : PySem.W.nsIn K mainGlobals "str" = some none)
    (z_12 : PySem.W.nsIn K mainGlobals "tuple" = some none)
    {t_FIGURES : Tok} (g_FIGURES : PySem.W.nsIn K mainGlobals "FIGURES" = some (some (.str "0123" t_FIGURES)))
    {u_KINDS : Addr} {t_KINDS_0 t_KINDS_1 : Tok} {dd_KINDS : Option Addr} {nn_KINDS : Nat} {ss_KINDS : Array (Option Value)} (g_KINDS : PySem.W.nsIn K mainGlobals "KINDS" = some (some (.ref u_KINDS))) (y_KINDS : K.lookup u_KINDS = some ⟨.type "tuple", dd_KINDS, .seq #[.str "both" t_KINDS_0, .str "one" t_KINDS_1] nn_KINDS, ss_KINDS⟩)
    {t_LONGEST : Tok} (g_LONGEST : PySem.W.nsIn K mainGlobals "LONGEST" = some (some (.int 3 t_LONGEST)))
    {t_MOST_CELLS : Tok} (g_MOST_CELLS : PySem.W.nsIn K mainGlobals "MOST_CELLS" = some (some (.int 3 t_MOST_CELLS)))
    {t_MOST_HOPS : Tok} (g_MOST_HOPS : PySem.W.nsIn K mainGlobals "MOST_HOPS" = some (some (.int 12 t_MOST_HOPS)))
    {t_MOST_STANDS : Tok} (g_MOST_STANDS : PySem.W.nsIn K mainGlobals "MOST_STANDS" = some (some (.int 3 t_MOST_STANDS))) :
    ∃ fd : FuncData, (∀ (s : Shared) (v : Value), BindsTo s fd ⟨[v], []⟩ [("script", v)]) ∧ ∀ base : Heap, K.In base → base.Ns mainGlobals mg → FnOk l.prog w K mg base CX0 6 fa fd ["script"] (SpF l.prog w K 1 q_law) := by
  have e := hfa.symm.trans (PySem.W.mg_of X G a_law)
  cases e
  have S_is_int : Stands K mg "is_int" s_is_int ["value", "low", "high"] := ⟨f_is_int, _, fun_mk l_is_int c_is_int k_is_int, PySem.W.mg_of X G a_is_int, (fun_mk (st := s_is_int) l_is_int c_is_int k_is_int).binds fun _ _ _ _ _ _ us hl => match us, hl with | [_, _, _], _ => rfl⟩
  have S_is_stretch : Stands K mg "is_stretch" s_is_stretch ["value", "least"] := ⟨f_is_stretch, _, fun_mk l_is_stretch c_is_stretch k_is_stretch, PySem.W.mg_of X G a_is_stretch, (fun_mk (st := s_is_stretch) l_is_stretch c_is_stretch k_is_stretch).binds fun _ _ _ _ _ _ us hl => match us, hl with | [_, _], _ => rfl⟩
  have S_text_of : Stands K mg "text_of" s_text_of ["book"] := ⟨f_text_of, _, fun_mk l_text_of c_text_of k_text_of, PySem.W.mg_of X G a_text_of, (fun_mk (st := s_text_of) l_text_of c_text_of k_text_of).binds fun _ _ _ _ _ _ us hl => match us, hl with | [_], _ => rfl⟩
  have S_hop_in : Stands K mg "hop_in" s_hop_in ["word"] := ⟨f_hop_in, _, fun_mk l_hop_in c_hop_in k_hop_in, PySem.W.mg_of X G a_hop_in, (fun_mk (st := s_hop_in) l_hop_in c_hop_in k_hop_in).binds fun _ _ _ _ _ _ us hl => match us, hl with | [_], _ => rfl⟩
  have S_kinds_in : Stands K mg "kinds_in" s_kinds_in ["words"] := ⟨f_kinds_in, _, fun_mk l_kinds_in c_kinds_in k_kinds_in, PySem.W.mg_of X G a_kinds_in, (fun_mk (st := s_kinds_in) l_kinds_in c_kinds_in k_kinds_in).binds fun _ _ _ _ _ _ us hl => match us, hl with | [_], _ => rfl⟩
  have S_court_of : Stands K mg "court_of" s_court_of ["court"] := ⟨f_court_of, _, fun_mk l_court_of c_court_of k_court_of, PySem.W.mg_of X G a_court_of, (fun_mk (st := s_court_of) l_court_of c_court_of k_court_of).binds fun _ _ _ _ _ _ us hl => match us, hl with | [_], _ => rfl⟩
  have S__law_chest_of : Stands K mg "_law_chest_of" s__law_chest_of ["script", "k"] := ⟨f__law_chest_of, _, fun_mk l__law_chest_of c__law_chest_of k__law_chest_of, PySem.W.mg_of X G a__law_chest_of, (fun_mk (st := s__law_chest_of) l__law_chest_of c__law_chest_of k__law_chest_of).binds fun _ _ _ _ _ _ us hl => match us, hl with | [_, _], _ => rfl⟩
  have S__law_lot : Stands K mg "_law_lot" s__law_lot ["chest", "many"] := ⟨f__law_lot, _, fun_mk l__law_lot c__law_lot k__law_lot, PySem.W.mg_of X G a__law_lot, (fun_mk (st := s__law_lot) l__law_lot c__law_lot k__law_lot).binds fun _ _ _ _ _ _ us hl => match us, hl with | [_, _], _ => rfl⟩
  have S__law_all_hops : Stands K mg "_law_all_hops" s__law_all_hops ["many"] := ⟨f__law_all_hops, _, fun_mk l__law_all_hops c__law_all_hops k__law_all_hops, PySem.W.mg_of X G a__law_all_hops, (fun_mk (st := s__law_all_hops) l__law_all_hops c__law_all_hops k__law_all_hops).binds fun _ _ _ _ _ _ us hl => match us, hl with | [_], _ => rfl⟩
  have S__law_written : Stands K mg "_law_written" s__law_written ["rules"] := ⟨f__law_written, _, fun_mk l__law_written c__law_written k__law_written, PySem.W.mg_of X G a__law_written, (fun_mk (st := s__law_written) l__law_written c__law_written k__law_written).binds fun _ _ _ _ _ _ us hl => match us, hl with | [_], _ => rfl⟩
  have S_is_hop : Stands K mg "is_hop" s_is_hop ["many", "value"] := ⟨f_is_hop, _, fun_mk l_is_hop c_is_hop k_is_hop, PySem.W.mg_of X G a_is_hop, (fun_mk (st := s_is_hop) l_is_hop c_is_hop k_is_hop).binds fun _ _ _ _ _ _ us hl => match us, hl with | [_, _], _ => rfl⟩
  have S_is_laid : Stands K mg "is_laid" s_is_laid ["value"] := ⟨f_is_laid, _, fun_mk l_is_laid c_is_laid k_is_laid, PySem.W.mg_of X G a_is_laid, (fun_mk (st := s_is_laid) l_is_laid c_is_laid k_is_laid).binds fun _ _ _ _ _ _ us hl => match us, hl with | [_], _ => rfl⟩
  have S_hops_in : Stands K mg "hops_in" s_hops_in ["words"] := ⟨f_hops_in, _, fun_mk l_hops_in c_hops_in k_hops_in, PySem.W.mg_of X G a_hops_in, (fun_mk (st := s_hops_in) l_hops_in c_hops_in k_hops_in).binds fun _ _ _ _ _ _ us hl => match us, hl with | [_], _ => rfl⟩
  have S__law_one : Stands K mg "_law_one" s__law_one ["chest", "things"] := ⟨f__law_one, _, fun_mk l__law_one c__law_one k__law_one, PySem.W.mg_of X G a__law_one, (fun_mk (st := s__law_one) l__law_one c__law_one k__law_one).binds fun _ _ _ _ _ _ us hl => match us, hl with | [_, _], _ => rfl⟩
  have S__law_shuffled : Stands K mg "_law_shuffled" s__law_shuffled ["chest", "things"] := ⟨f__law_shuffled, _, fun_mk l__law_shuffled c__law_shuffled k__law_shuffled, PySem.W.mg_of X G a__law_shuffled, (fun_mk (st := s__law_shuffled) l__law_shuffled c__law_shuffled k__law_shuffled).binds fun _ _ _ _ _ _ us hl => match us, hl with | [_, _], _ => rfl⟩
  have S_fits : Stands K mg "fits" s_fits ["value"] := ⟨f_fits, _, fun_mk l_fits c_fits k_fits, PySem.W.mg_of X G a_fits, (fun_mk (st := s_fits) l_fits c_fits k_fits).binds fun _ _ _ _ _ _ us hl => match us, hl with | [_], _ => rfl⟩
  have S_need_court : Stands K mg "need_court" s_need_court ["value"] := ⟨f_need_court, _, fun_mk l_need_court c_need_court k_need_court, PySem.W.mg_of X G a_need_court, (fun_mk (st := s_need_court) l_need_court c_need_court k_need_court).binds fun _ _ _ _ _ _ us hl => match us, hl with | [_], _ => rfl⟩
  have S_line_in : Stands K mg "line_in" s_line_in ["line"] := ⟨f_line_in, _, fun_mk l_line_in c_line_in k_line_in, PySem.W.mg_of X G a_line_in, (fun_mk (st := s_line_in) l_line_in c_line_in k_line_in).binds fun _ _ _ _ _ _ us hl => match us, hl with | [_], _ => rfl⟩
  have S_read_court : Stands K mg "read_court" s_read_court ["value"] := ⟨f_read_court, _, fun_mk l_read_court c_read_court k_read_court, PySem.W.mg_of X G a_read_court, (fun_mk (st := s_read_court) l_read_court c_read_court k_read_court).binds fun _ _ _ _ _ _ us hl => match us, hl with | [_], _ => rfl⟩
  have S__law_rules : Stands K mg "_law_rules" s__law_rules ["chest"] := ⟨f__law_rules, _, fun_mk l__law_rules c__law_rules k__law_rules, PySem.W.mg_of X G a__law_rules, (fun_mk (st := s__law_rules) l__law_rules c__law_rules k__law_rules).binds fun _ _ _ _ _ _ us hl => match us, hl with | [_], _ => rfl⟩
  have S__law_ground : Stands K mg "_law_ground" s__law_ground ["chest"] := ⟨f__law_ground, _, fun_mk l__law_ground c__law_ground k__law_ground, PySem.W.mg_of X G a__law_ground, (fun_mk (st := s__law_ground) l__law_ground c__law_ground k__law_ground).binds fun _ _ _ _ _ _ us hl => match us, hl with | [_], _ => rfl⟩
  have S_need_book : Stands K mg "need_book" s_need_book ["value"] := ⟨f_need_book, _, fun_mk l_need_book c_need_book k_need_book, PySem.W.mg_of X G a_need_book, (fun_mk (st := s_need_book) l_need_book c_need_book k_need_book).binds fun _ _ _ _ _ _ us hl => match us, hl with | [_], _ => rfl⟩
  have S_book_in : Stands K mg "book_in" s_book_in ["value"] := ⟨f_book_in, _, fun_mk l_book_in c_book_in k_book_in, PySem.W.mg_of X G a_book_in, (fun_mk (st := s_book_in) l_book_in c_book_in k_book_in).binds fun _ _ _ _ _ _ us hl => match us, hl with | [_], _ => rfl⟩
  have S_court_text : Stands K mg "court_text" s_court_text ["court"] := ⟨f_court_text, _, fun_mk l_court_text c_court_text k_court_text, PySem.W.mg_of X G a_court_text, (fun_mk (st := s_court_text) l_court_text c_court_text k_court_text).binds fun _ _ _ _ _ _ us hl => match us, hl with | [_], _ => rfl⟩
  have S_book_text : Stands K mg "book_text" s_book_text ["book"] := ⟨f_book_text, _, fun_mk l_book_text c_book_text k_book_text, PySem.W.mg_of X G a_book_text, (fun_mk (st := s_book_text) l_book_text c_book_text k_book_text).binds fun _ _ _ _ _ _ us hl => match us, hl with | [_], _ => rfl⟩
  have S_read_book : Stands K mg "read_book" s_read_book ["value"] := ⟨f_read_book, _, fun_mk l_read_book c_read_book k_read_book, PySem.W.mg_of X G a_read_book, (fun_mk (st := s_read_book) l_read_book c_read_book k_read_book).binds fun _ _ _ _ _ _ us hl => match us, hl with | [_], _ => rfl⟩
  have hb : ∀ x ∈ bl, mg x = none := by
    intro x hx
    simp only [bl, List.mem_cons, List.not_mem_nil, or_false] at hx
    rcases hx with rfl | rfl | rfl | rfl | rfl | rfl | rfl | rfl | rfl | rfl | rfl | rfl | rfl
    · exact PySem.W.mg_none_of X G z_0
    · exact PySem.W.mg_none_of X G z_1
    · exact PySem.W.mg_none_of X G z_2
    · exact PySem.W.mg_none_of X G z_3
    · exact PySem.W.mg_none_of X G z_4
    · exact PySem.W.mg_none_of X G z_5
    · exact PySem.W.mg_none_of X G z_6
    · exact PySem.W.mg_none_of X G z_7
    · exact PySem.W.mg_none_of X G z_8
    · exact PySem.W.mg_none_of X G z_9
    · exact PySem.W.mg_none_of X G z_10
    · exact PySem.W.mg_none_of X G z_11
    · exact PySem.W.mg_none_of X G z_12
  have hc_FIGURES : HasC K mg "FIGURES" c_FIGURES := ⟨.str "0123", .str "0123" t_FIGURES, PySem.W.mg_of X G g_FIGURES, ⟨_, rfl⟩, fun F => .str _⟩
  have hc_KINDS : HasC K mg "KINDS" c_KINDS := ⟨.ref u_KINDS, .ref u_KINDS, PySem.W.mg_of X G g_KINDS, rfl, fun F => .tup (xs := [.str "both", .str "one"]) (.inr ⟨_, _, _, y_KINDS, rfl, rfl, by show 2 ≤ sizeLine; decide, (.cons ⟨_, rfl⟩ (.cons ⟨_, rfl⟩ .nil))⟩) (.cons (.str _) (.cons (.str _) .nil))⟩
  have hc_LONGEST : HasC K mg "LONGEST" c_LONGEST := ⟨.int 3, .int 3 t_LONGEST, PySem.W.mg_of X G g_LONGEST, ⟨_, rfl⟩, fun F => .int _⟩
  have hc_MOST_CELLS : HasC K mg "MOST_CELLS" c_MOST_CELLS := ⟨.int 3, .int 3 t_MOST_CELLS, PySem.W.mg_of X G g_MOST_CELLS, ⟨_, rfl⟩, fun F => .int _⟩
  have hc_MOST_HOPS : HasC K mg "MOST_HOPS" c_MOST_HOPS := ⟨.int 12, .int 12 t_MOST_HOPS, PySem.W.mg_of X G g_MOST_HOPS, ⟨_, rfl⟩, fun F => .int _⟩
  have hc_MOST_STANDS : HasC K mg "MOST_STANDS" c_MOST_STANDS := ⟨.int 3, .int 3 t_MOST_STANDS, PySem.W.mg_of X G g_MOST_STANDS, ⟨_, rfl⟩, fun F => .int _⟩
  refine ⟨PySem.W.fnOf "law" "law" (defArgs s_law) (defBody s_law) (defScope s_law) .none kV_law dc_law pm_law an_law cd_law ct_law, fun s v => .of_eq rfl, fun base _ _ => ?_⟩
  exact all_has (P := l.prog) (w := w) (base := base) hb hc_FIGURES hc_KINDS hc_LONGEST hc_MOST_CELLS hc_MOST_HOPS hc_MOST_STANDS S_is_int S_is_stretch S_text_of S_hop_in S_kinds_in S_court_of S__law_chest_of S__law_lot S__law_all_hops S__law_written S_is_hop S_is_laid S_hops_in S__law_one S__law_shuffled S_fits S_need_court S_line_in S_read_court S__law_rules S__law_ground S_need_book S_book_in S_court_text S_book_text S_read_book (fun_mk (st := s_law) l_law c_law k_law)
end MP
open PySem PySem.W PyProof.Rows
set_option maxHeartbeats 0 in
theorem PySem.Challenge.cw_hopcourts_k14_texts_of_books_and_courts_holds : PySem.Challenge.rw_hopcourts_k14_texts_of_books_and_courts.Holds := by
  w_on; o_law; k_head; (case hw => w_witness2)
  k_fill
  refine L2.walk_of (l := PySem.Challenge.rw_hopcourts_k14_texts_of_books_and_courts) (n := 63) (k := 6) (x := "script") (CX := fun _ => L2.CX0) (sp := fun w => MP.SpF PySem.Challenge.rw_hopcourts_k14_texts_of_books_and_courts.prog w _ 1 MP.q_law) rfl (by decide) rfl ⟨rfl, by decide, by decide⟩ (fun w h Y => PySem.W.kIn_of Y) ?F (fun _ _ a ns hl _ hS => MP.law_starts hl hS) (fun _ _ _ _ _ h => h)
  case F =>
    intro w mg fa h KX G hmg
    refine' MP.all_mk KX G hmg ?a_is_int ?l_is_int ?c_is_int ?k_is_int ?a_is_stretch ?l_is_stretch ?c_is_stretch ?k_is_stretch ?a_text_of ?l_text_of ?c_text_of ?k_text_of ?a_hop_in ?l_hop_in ?c_hop_in ?k_hop_in ?a_kinds_in ?l_kinds_in ?c_kinds_in ?k_kinds_in ?a_court_of ?l_court_of ?c_court_of ?k_court_of ?a__law_chest_of ?l__law_chest_of ?c__law_chest_of ?k__law_chest_of ?a__law_lot ?l__law_lot ?c__law_lot ?k__law_lot ?a__law_all_hops ?l__law_all_hops ?c__law_all_hops ?k__law_all_hops ?a__law_written ?l__law_written ?c__law_written ?k__law_written ?a_is_hop ?l_is_hop ?c_is_hop ?k_is_hop ?a_is_laid ?l_is_laid ?c_is_laid ?k_is_laid ?a_hops_in ?l_hops_in ?c_hops_in ?k_hops_in ?a__law_one ?l__law_one ?c__law_one ?k__law_one ?a__law_shuffled ?l__law_shuffled ?c__law_shuffled ?k__law_shuffled ?a_fits ?l_fits ?c_fits ?k_fits ?a_need_court ?l_need_court ?c_need_court ?k_need_court ?a_line_in ?l_line_in ?c_line_in ?k_line_in ?a_read_court ?l_read_court ?c_read_court ?k_read_court ?a__law_rules ?l__law_rules ?c__law_rules ?k__law_rules ?a__law_ground ?l__law_ground ?c__law_ground ?k__law_ground ?a_need_book ?l_need_book ?c_need_book ?k_need_book ?a_book_in ?l_book_in ?c_book_in ?k_book_in ?a_court_text ?l_court_text ?c_court_text ?k_court_text ?a_book_text ?l_book_text ?c_book_text ?k_book_text ?a_read_book ?l_read_book ?c_read_book ?k_read_book ?a_law ?l_law ?c_law ?k_law ?z_0 ?z_1 ?z_2 ?z_3 ?z_4 ?z_5 ?z_6 ?z_7 ?z_8 ?z_9 ?z_10 ?z_11 ?z_12 ?g_FIGURES ?g_KINDS ?y_KINDS ?g_LONGEST ?g_MOST_CELLS ?g_MOST_HOPS ?g_MOST_STANDS
    (case a_is_int => k_is); (case l_is_int => k_is); (case c_is_int => k_is); (case k_is_int => k_is); (case a_is_stretch => k_is); (case l_is_stretch => k_is); (case c_is_stretch => k_is); (case k_is_stretch => k_is); (case a_text_of => k_is); (case l_text_of => k_is); (case c_text_of => k_is); (case k_text_of => k_is); (case a_hop_in => k_is); (case l_hop_in => k_is); (case c_hop_in => k_is); (case k_hop_in => k_is); (case a_kinds_in => k_is); (case l_kinds_in => k_is); (case c_kinds_in => k_is); (case k_kinds_in => k_is); (case a_court_of => k_is); (case l_court_of => k_is); (case c_court_of => k_is); (case k_court_of => k_is); (case a__law_chest_of => k_is); (case l__law_chest_of => k_is); (case c__law_chest_of => k_is); (case k__law_chest_of => k_is); (case a__law_lot => k_is); (case l__law_lot => k_is); (case c__law_lot => k_is); (case k__law_lot => k_is); (case a__law_all_hops => k_is); (case l__law_all_hops => k_is); (case c__law_all_hops => k_is); (case k__law_all_hops => k_is); (case a__law_written => k_is); (case l__law_written => k_is); (case c__law_written => k_is); (case k__law_written => k_is); (case a_is_hop => k_is); (case l_is_hop => k_is); (case c_is_hop => k_is); (case k_is_hop => k_is); (case a_is_laid => k_is); (case l_is_laid => k_is); (case c_is_laid => k_is); (case k_is_laid => k_is); (case a_hops_in => k_is); (case l_hops_in => k_is); (case c_hops_in => k_is); (case k_hops_in => k_is); (case a__law_one => k_is); (case l__law_one => k_is); (case c__law_one => k_is); (case k__law_one => k_is); (case a__law_shuffled => k_is); (case l__law_shuffled => k_is); (case c__law_shuffled => k_is); (case k__law_shuffled => k_is); (case a_fits => k_is); (case l_fits => k_is); (case c_fits => k_is); (case k_fits => k_is); (case a_need_court => k_is); (case l_need_court => k_is); (case c_need_court => k_is); (case k_need_court => k_is); (case a_line_in => k_is); (case l_line_in => k_is); (case c_line_in => k_is); (case k_line_in => k_is); (case a_read_court => k_is); (case l_read_court => k_is); (case c_read_court => k_is); (case k_read_court => k_is); (case a__law_rules => k_is); (case l__law_rules => k_is); (case c__law_rules => k_is); (case k__law_rules => k_is); (case a__law_ground => k_is); (case l__law_ground => k_is); (case c__law_ground => k_is); (case k__law_ground => k_is); (case a_need_book => k_is); (case l_need_book => k_is); (case c_need_book => k_is); (case k_need_book => k_is); (case a_book_in => k_is); (case l_book_in => k_is); (case c_book_in => k_is); (case k_book_in => k_is); (case a_court_text => k_is); (case l_court_text => k_is); (case c_court_text => k_is); (case k_court_text => k_is); (case a_book_text => k_is); (case l_book_text => k_is); (case c_book_text => k_is); (case k_book_text => k_is); (case a_read_book => k_is); (case l_read_book => k_is); (case c_read_book => k_is); (case k_read_book => k_is); (case a_law => k_is); (case l_law => k_is); (case c_law => k_is); (case k_law => k_is); (case z_0 => k_is); (case z_1 => k_is); (case z_2 => k_is); (case z_3 => k_is); (case z_4 => k_is); (case z_5 => k_is); (case z_6 => k_is); (case z_7 => k_is); (case z_8 => k_is); (case z_9 => k_is); (case z_10 => k_is); (case z_11 => k_is); (case z_12 => k_is); (case g_FIGURES => k_is); (case g_KINDS => k_is); (case y_KINDS => k_is); (case g_LONGEST => k_is); (case g_MOST_CELLS => k_is); (case g_MOST_HOPS => k_is); (case g_MOST_STANDS => k_is)
end
