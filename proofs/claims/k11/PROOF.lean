import PyProof.Rows.All
import Wide.All
import OpenK.AllK
import Wide.FinOn
import HandS.ForMost
import HandS.Flow
import HandS.IsInst
import HandS.Zip
import HandS.Wide
import HandS.TupAny
import HandS.Set
import KE.SortData
import KE.LtData
import KE.KDictKeyed
import KE.KDictZip
import HandS.Sort
import PySem.PyData
import KE.KDictCopyH
import HandS.SetFor
import HandS.Strs
import PySem.Challenge.RW_lockstold_k11_whole_shelves_met_and_with
import HandS.Style
import HandS.Conv
set_option Elab.async false
set_option linter.all false
set_option maxRecDepth 100000
set_option maxHeartbeats 4000000
namespace Lk
open PySem PySem.Spec PyProof.Rows L2

/-! ### data in the abstract heap: none, bools, ints, texts, lists, tuples that are tracked as such -/
mutual
inductive Dl (H : Hp) : V → PyData → Prop
  | non : Dl H .non .none
  | bl (b : Bool) : Dl H (.bl b) (.bool b)
  | int (i : Int) : Dl H (.int i) (.int i)
  | str (x : Str) : Dl H (.str x) (.str x)
  | lst {a : Addr} {xs : List V} {ds : List PyData} : H a = some (.lst xs) → DlAll H xs ds → Dl H (.ref a) (.list ds)
  | tup {a : Addr} {xs : List V} {ds : List PyData} : Rd H a (.tup xs) → DlAll H xs ds → Dl H (.ref a) (.tuple ds)
inductive DlAll (H : Hp) : List V → List PyData → Prop
  | nil : DlAll H [] []
  | cons {v : V} {vs : List V} {d : PyData} {ds : List PyData} : Dl H v d → DlAll H vs ds → DlAll H (v :: vs) (d :: ds)
end
/-- tuples are kept -/
def Tk (H H' : Hp) : Prop := ∀ b xs, Rd H b (.tup xs) → Rd H' b (.tup xs)
theorem Same.rd {H H' : Hp} {a : Addr} {u : HO} (e : Same H H') (h : Rd H a u) : Rd H' a u := by
  rcases h with h | ⟨o, h⟩
  · exact .inl (e _ _ h)
  · exact .inr ⟨o, e _ _ h⟩
theorem Same.tk {H H' : Hp} (e : Same H H') : Tk H H' := fun b _ h => Same.rd e h
theorem Tk.refl (H : Hp) : Tk H H := fun _ _ h => h
theorem Tk.trans {H H1 H2 : Hp} (a : Tk H H1) (b : Tk H1 H2) : Tk H H2 := fun c xs h => b c xs (a c xs h)
/-- a change of what is no tuple -/
theorem Tk.of {H H' : Hp} {a : Addr} {u : HO} (h : H a = some u) (hu : ∀ xs, u ≠ .tup xs) (hf : ∀ o xs, u ≠ .frz o (.tup xs)) (k : ∀ b o, b ≠ a → H b = some o → H' b = some o) : Tk H H' := fun b xs e => by
  have n : b ≠ a := fun z => by
    subst z
    rcases e with e | ⟨o, e⟩
    · rw [h] at e
      exact hu xs (Option.some.inj e)
    · rw [h] at e
      exact hf o xs (Option.some.inj e)
  rcases e with e | ⟨o, e⟩
  · exact .inl (k _ _ n e)
  · exact .inr ⟨o, k _ _ n e⟩
theorem Tk.upd {H : Hp} {a : Addr} {o : HO} {xs : List V} (h : H a = some (.lst xs)) : Tk H (upd H a o) := Tk.of h (fun _ z => nomatch z) (fun _ _ z => nomatch z) fun b o n e => by
  rw [upd_ne n]
  exact e
theorem same_new {H : Hp} {p : Addr} {o : HO} (h : H p = none) : Same H (upd H p o) := fun b x e => by
  rw [upd_ne (ne_of_none e h)]
  exact e
mutual
def tlv : PyData → Bool
  | .tuple xs => tlvAll xs
  | .list _ => false
  | .dict _ => false
  | _ => true
def tlvAll : List PyData → Bool
  | [] => true
  | x :: xs => tlv x && tlvAll xs
end
mutual
theorem Dl.tk {H H' : Hp} (e : Tk H H') : ∀ {d : PyData} {v : V}, tlv d = true → Dl H v d → Dl H' v d
  | .none, _, _, h => by cases h; exact .non
  | .bool _, _, _, h => by cases h; exact .bl _
  | .int _, _, _, h => by cases h; exact .int _
  | .str _, _, _, h => by cases h; exact .str _
  | .list _, _, t, _ => by simp [tlv] at t
  | .dict _, _, t, _ => by simp [tlv] at t
  | .tuple ds, _, t, h => by
    cases h with
    | tup ha hd => exact .tup (e _ _ ha) (DlAll.tk e (by simpa [tlv] using t) hd)
theorem DlAll.tk {H H' : Hp} (e : Tk H H') : ∀ {ds : List PyData} {vs : List V}, tlvAll ds = true → DlAll H vs ds → DlAll H' vs ds
  | [], _, _, h => by cases h; exact .nil
  | d :: ds, _, t, h => by
    have t' : tlv d = true ∧ tlvAll ds = true := by simpa [tlvAll] using t
    cases h with
    | cons h1 h2 => exact .cons (Dl.tk e t'.1 h1) (DlAll.tk e t'.2 h2)
end
mutual
theorem Dl.mono {H H' : Hp} (e : Same H H') : ∀ {d : PyData} {v : V}, Dl H v d → Dl H' v d
  | .none, _, h => by cases h; exact .non
  | .bool _, _, h => by cases h; exact .bl _
  | .int _, _, h => by cases h; exact .int _
  | .str _, _, h => by cases h; exact .str _
  | .dict _, _, h => by cases h
  | .list ds, _, h => by
    cases h with
    | lst ha hd => exact .lst (e _ _ ha) (DlAll.mono e hd)
  | .tuple ds, _, h => by
    cases h with
    | tup ha hd => exact .tup (Same.rd e ha) (DlAll.mono e hd)
theorem DlAll.mono {H H' : Hp} (e : Same H H') : ∀ {ds : List PyData} {vs : List V}, DlAll H vs ds → DlAll H' vs ds
  | [], _, h => by cases h; exact .nil
  | d :: ds, _, h => by
    cases h with
    | cons h1 h2 => exact .cons (Dl.mono e h1) (DlAll.mono e h2)
end
mutual
theorem Dl.dp {K : PySem.W.Frag} {H : Hp} : ∀ {d : PyData} {v : V}, Dl H v d → Dp K H v d
  | .none, _, h => by cases h; exact .non
  | .bool _, _, h => by cases h; exact .bl _
  | .int _, _, h => by cases h; exact .int _
  | .str _, _, h => by cases h; exact .str _
  | .dict _, _, h => by cases h
  | .list ds, _, h => by
    cases h with
    | lst ha hd => exact .lst (SqL.of ha) (DlAll.dp hd)
  | .tuple ds, _, h => by
    cases h with
    | tup ha hd => exact .tup (.inl ha) (DlAll.dp hd)
theorem DlAll.dp {K : PySem.W.Frag} {H : Hp} : ∀ {ds : List PyData} {vs : List V}, DlAll H vs ds → DpAll K H vs ds
  | [], _, h => by cases h; exact .nil
  | d :: ds, _, h => by
    cases h with
    | cons h1 h2 => exact .cons (Dl.dp h1) (DlAll.dp h2)
end
section
variable {H H' : Hp} {v : V} {vs ws : List V} {d : PyData} {ds es : List PyData}
theorem DlAll.length (h : DlAll H vs ds) : vs.length = ds.length := by
  induction vs generalizing ds with
  | nil => cases h; rfl
  | cons v vs ih => cases h with | cons h1 h2 => rw [List.length_cons, List.length_cons, ih h2]
theorem DlAll.get (h : DlAll H vs ds) : ∀ {i : Nat} {d : PyData}, ds[i]? = some d → ∃ v, vs[i]? = some v ∧ Dl H v d := by
  induction vs generalizing ds with
  | nil =>
    cases h
    intro i d e
    simp at e
  | cons v vs ih =>
    cases h with
    | cons h1 h2 =>
      intro i d e
      cases i with
      | zero =>
        have e' := Option.some.inj e
        subst e'
        exact ⟨v, rfl, h1⟩
      | succ i => exact ih h2 (i := i) e
theorem DlAll.get' (h : DlAll H vs ds) {i : Nat} {v : V} (e : vs[i]? = some v) : ∃ d, ds[i]? = some d ∧ Dl H v d := by
  have hi : i < vs.length := (List.getElem?_eq_some_iff.mp e).1
  have hj : i < ds.length := by rw [← h.length]; exact hi
  obtain ⟨w, hw, r⟩ := h.get (List.getElem?_eq_getElem hj)
  rw [e] at hw
  cases hw
  exact ⟨_, List.getElem?_eq_getElem hj, r⟩
theorem DlAll.append (h : DlAll H vs ds) (h' : DlAll H ws es) : DlAll H (vs ++ ws) (ds ++ es) := by
  induction vs generalizing ds with
  | nil => cases h; exact h'
  | cons v vs ih => cases h with | cons h1 h2 => exact .cons h1 (ih h2)
theorem DlAll.one (h : Dl H v d) : DlAll H [v] [d] := .cons h .nil
theorem DlAll.drop (h : DlAll H vs ds) : ∀ n, DlAll H (vs.drop n) (ds.drop n) := by
  induction vs generalizing ds with
  | nil => cases h; intro n; simp; exact .nil
  | cons v vs ih =>
    cases h with
    | cons h1 h2 =>
      intro n
      cases n with
      | zero => exact .cons h1 h2
      | succ n => simpa using ih h2 n
theorem DlAll.take (h : DlAll H vs ds) : ∀ n, DlAll H (vs.take n) (ds.take n) := by
  induction vs generalizing ds with
  | nil => cases h; intro n; simp; exact .nil
  | cons v vs ih =>
    cases h with
    | cons h1 h2 =>
      intro n
      cases n with
      | zero => exact .nil
      | succ n => simpa using DlAll.cons h1 (ih h2 n)
theorem DlAll.ints : ∀ {ns : List Int} {vs : List V}, DlAll H vs (ns.map .int) → vs = ns.map V.int
  | [], _, h => by cases h; rfl
  | n :: ns, _, h => by
    cases h with
    | cons h1 h2 =>
      cases h1
      rw [DlAll.ints h2]
      rfl
theorem DlAll.strs : ∀ {ns : List Str} {vs : List V}, DlAll H vs (ns.map .str) → vs = ns.map V.str
  | [], _, h => by cases h; rfl
  | n :: ns, _, h => by
    cases h with
    | cons h1 h2 =>
      cases h1
      rw [DlAll.strs h2]
      rfl
theorem DlAll.bools : ∀ {ns : List Bool} {vs : List V}, DlAll H vs (ns.map .bool) → vs = ns.map V.bl
  | [], _, h => by cases h; rfl
  | n :: ns, _, h => by
    cases h with
    | cons h1 h2 =>
      cases h1
      rw [DlAll.bools h2]
      rfl
theorem dl_ints : ∀ {ns : List Int}, DlAll H (ns.map V.int) (ns.map .int)
  | [] => .nil
  | _ :: _ => .cons (.int _) dl_ints
theorem dl_strs : ∀ {ns : List Str}, DlAll H (ns.map V.str) (ns.map .str)
  | [] => .nil
  | _ :: _ => .cons (.str _) dl_strs
theorem dl_bools : ∀ {ns : List Bool}, DlAll H (ns.map V.bl) (ns.map .bool)
  | [] => .nil
  | _ :: _ => .cons (.bl _) dl_bools
end

/-! ### what the code does, by its own meaning: the readings of rules taken at the goal -/
structure DoE (X : Cx) (e : Expr) (σ : L2.St) (H : Hp) (Q : VK) : Prop where
  run : ∀ (pins : List (Addr × Obj)) (s : Shared), Inv X pins σ H s → wpAny (model X.prog X.w) X.A (eval e X.env) (EP X pins σ Q) X.xe s
structure DoT (X : Cx) (e : Expr) (σ : L2.St) (H : Hp) (Q : Bool → Hp → Prop) : Prop where
  run : ∀ (pins : List (Addr × Obj)) (s : Shared), Inv X pins σ H s → wpAny (model X.prog X.w) X.A (isTrue e X.env (eval e X.env)) (TP X pins σ Q) X.xe s
/-- a test whatever its whole is -/
structure DoW (X : Cx) (e : Expr) (σ : L2.St) (H : Hp) (Q : Bool → Hp → Prop) : Prop where
  run : ∀ (whole : Sem Value) (pins : List (Addr × Obj)) (s : Shared), Inv X pins σ H s → wpAny (model X.prog X.w) X.A (isTrue e X.env whole) (TP X pins σ Q) X.xe s
structure DoA (X : Cx) (es : List Expr) (σ : L2.St) (H : Hp) (Q : List V → Hp → Prop) : Prop where
  run : ∀ (pos : Pos) (pins : List (Addr × Obj)) (s : Shared), Inv X pins σ H s → wpAny (model X.prog X.w) X.A (spliced (backTo pos (starEach es X.env))) (AP X pins σ Q) X.xe s
structure DoS (X : Cx) (st : Stmt) (D : Ends) (σ : L2.St) (H : Hp) : Prop where
  run : ∀ (pins : List (Addr × Obj)) (s : Shared), Inv X pins σ H s → wpAny (model X.prog X.w) X.A (exec st X.env) (SP X pins D) X.xe s
structure DoSs (X : Cx) (sts : List Stmt) (D : Ends) (σ : L2.St) (H : Hp) : Prop where
  run : ∀ (pins : List (Addr × Obj)) (s : Shared), Inv X pins σ H s → wpAny (model X.prog X.w) X.A (execs sts X.env) (SP X pins D) X.xe s
structure DoI (X : Cx) (tg iter : Expr) (σ : L2.St) (H : Hp) (R : It → Hp → Prop) : Prop where
  run : ∀ (pins : List (Addr × Obj)) (s : Shared), Inv X pins σ H s →
  wpAny (model X.prog X.w) X.A (eval iter X.env) (fun v s1 => wpAny (model X.prog X.w) X.A (pyIter v) (PIE X pins σ tg R) X.xe s1) X.xe s
section
variable {X : Cx} {e : Expr} {es : List Expr} {st : Stmt} {sts : List Stmt} {tg iter : Expr} {σ : L2.St} {H : Hp} {D : Ends}
theorem DoE.pe : PE X e (DoE X e) := ⟨fun pins s _ _ _ I h => h.run pins s I⟩
theorem DoT.pt : PT X e (DoT X e) := ⟨fun pins s _ _ _ I h => h.run pins s I⟩
theorem DoW.pw : PW X e (DoW X e) := ⟨fun whole pins s _ _ _ I h => h.run whole pins s I⟩
theorem DoA.pa : PA X es (DoA X es) := ⟨fun pos pins s _ _ _ I h => h.run pos pins s I⟩
theorem DoS.ps : PS X st (DoS X st) := ⟨fun pins s _ _ _ I h => h.run pins s I⟩
theorem DoSs.pss : PSs X sts (DoSs X sts) := ⟨fun pins s _ _ _ I h => h.run pins s I⟩
theorem DoI.pi : PI X tg iter (DoI X tg iter) := ⟨fun pins s _ _ _ I h => h.run pins s I⟩
theorem DoE.of {t : TE} {Q : VK} (h : PE X e t) (q : t σ H Q) : DoE X e σ H Q := ⟨fun pins s I => h.run pins s σ H Q I q⟩
theorem DoT.of {t : TT} {Q : Bool → Hp → Prop} (h : PT X e t) (q : t σ H Q) : DoT X e σ H Q := ⟨fun pins s I => h.run pins s σ H Q I q⟩
theorem DoW.of {t : TT} {Q : Bool → Hp → Prop} (h : PW X e t) (q : t σ H Q) : DoW X e σ H Q := ⟨fun whole pins s I => h.run whole pins s σ H Q I q⟩
theorem DoA.of {t : TA} {Q : List V → Hp → Prop} (h : PA X es t) (q : t σ H Q) : DoA X es σ H Q := ⟨fun pos pins s I => h.run pos pins s σ H Q I q⟩
theorem DoS.of {t : TS} (h : PS X st t) (q : t D σ H) : DoS X st D σ H := ⟨fun pins s I => h.run pins s σ H D I q⟩
theorem DoSs.of {t : TS} (h : PSs X sts t) (q : t D σ H) : DoSs X sts D σ H := ⟨fun pins s I => h.run pins s σ H D I q⟩
theorem DoI.of {t : TI} {R : It → Hp → Prop} (h : PI X tg iter t) (q : t σ H R) : DoI X tg iter σ H R := ⟨fun pins s I => h.run pins s σ H R I q⟩
theorem DoE.mono {Q Q' : VK} (h : DoE X e σ H Q) (q : ∀ v H', Q v H' → Q' v H') : DoE X e σ H Q' := ⟨fun pins s I => thn (h.run pins s I) fun u s' ⟨v, H', J, r, z⟩ => ⟨v, H', J, r, q v H' z⟩⟩
theorem DoT.mono {Q Q' : Bool → Hp → Prop} (h : DoT X e σ H Q) (q : ∀ v H', Q v H' → Q' v H') : DoT X e σ H Q' := ⟨fun pins s I => thn (h.run pins s I) fun u s' ⟨H', J, z⟩ => ⟨H', J, q u H' z⟩⟩

/-! statements -/
theorem dss_nil (h : D.nx σ H) : DoSs X [] D σ H := DoSs.of pss_nil h
theorem dss_cons (h : DoS X st { D with nx := fun σ' H' => DoSs X sts D σ' H' } σ H) : DoSs X (st :: sts) D σ H := DoSs.of (pss_cons DoS.ps DoSs.pss) h
theorem dss_one (h : DoS X st D σ H) : DoSs X [st] D σ H := DoSs.of (pss_one DoS.ps) h
variable {pos : Pos}
theorem ds_expr (h : DoE X e σ H fun _ H1 => D.nx σ H1) (hs : swapsWith e none pos.line X.env = pure false := by rfl) : DoS X (.Expr e pos) D σ H := DoS.of (ps_expr DoE.pe hs) h
theorem ds_ret (h : DoE X e σ H D.rt) : DoS X (.Return (some e) pos) D σ H := DoS.of (ps_ret DoE.pe) h
theorem ds_if {c : Expr} {a b : List Stmt} (h : DoT X c σ H fun k H1 => if k = true then DoSs X a D σ H1 else DoSs X b D σ H1) : DoS X (.If c a b pos) D σ H := DoS.of (ps_if DoT.pt DoSs.pss DoSs.pss) h
theorem ds_asg {g : TG} (hg : PG X tg g) (h : DoE X e σ H fun x H1 => g x σ H1 D.nx) (hs : swapsWithSole [tg] e pos.line X.env = pure false := by rfl) (hw : swappedStores [tg] e X.env = pure none := by rfl) (h1 : (assignEach [tg] X.env).map (·.2) = [assign tg X.env] := by rfl) : DoS X (.Assign [tg] e pos) D σ H := DoS.of (ps_asg DoE.pe hg hs hw h1) h
/-- x = e, x in slot i -/
theorem ds_set (i : Nat) {x : Str} {pos' : Pos} (hN : X.N.Nodup) (h : DoE X e σ H fun v H1 => D.nx (σ.set i (some v)) H1) (hi : X.N[i]? = some x := by rfl) (hx : Loc X.env.scope x := by first | exact .inl rfl | exact .inr rfl) (hs : swapsWith e (some (.Name x pos')) pos.line X.env = pure false := by rfl)
    (hf : X.fn x = true ∨ X.env.scope.names.lookup x = some .local := by first | exact .inl rfl | exact .inr rfl) : DoS X (.Assign [.Name x pos'] e pos) D σ H := DoS.of (ps_set hN hi hx DoE.pe hs hf) h
end
end Lk
namespace Lk
open PySem PySem.Spec PyProof.Rows L2

def isNoneD : PyData → Bool
  | .none => true
  | _ => false
/-! ### evaluations that keep all that is tracked -/
/-- e is worth a value of the datum d -/
def EvD (X : Cx) (e : Expr) (σ : L2.St) (H : Hp) (d : PyData) : Prop := ∀ H1, Same H H1 → ∀ Q : VK, (∀ v H2, Same H1 H2 → Dl H2 v d → Q v H2) → DoE X e σ H1 Q
/-- e is the value v -/
def EvV (X : Cx) (e : Expr) (σ : L2.St) (H : Hp) (v : V) : Prop := ∀ H1, Same H H1 → ∀ Q : VK, (∀ H2, Same H1 H2 → Q v H2) → DoE X e σ H1 Q
def EvT (X : Cx) (e : Expr) (σ : L2.St) (H : Hp) (b : Bool) : Prop := ∀ H1, Same H H1 → ∀ Q : Bool → Hp → Prop, (∀ H2, Same H1 H2 → Q b H2) → DoT X e σ H1 Q
def EvW (X : Cx) (e : Expr) (σ : L2.St) (H : Hp) (b : Bool) : Prop := ∀ H1, Same H H1 → ∀ Q : Bool → Hp → Prop, (∀ H2, Same H1 H2 → Q b H2) → DoW X e σ H1 Q
def EvA (X : Cx) (es : List Expr) (σ : L2.St) (H : Hp) (ds : List PyData) : Prop := ∀ H1, Same H H1 → ∀ Q : List V → Hp → Prop, (∀ vs H2, Same H1 H2 → DlAll H2 vs ds → Q vs H2) → DoA X es σ H1 Q
section
variable {X : Cx} {a b c e : Expr} {es : List Expr} {σ : L2.St} {H H' : Hp} {d d' d1 d2 : PyData} {ds : List PyData} {v w : V} {x : Str} {pos p : Pos} {k k' : Bool} {i j n : Int}
theorem EvD.mono (s : Same H H') (h : EvD X e σ H d) : EvD X e σ H' d := fun H1 s1 => h H1 (s.trans s1)
theorem EvD.is (h : EvD X e σ H d) (q : d = d') : EvD X e σ H d' := q ▸ h
theorem EvT.is (h : EvT X e σ H k) (q : k = k') : EvT X e σ H k' := q ▸ h
theorem EvD.go {Q : VK} (h : EvD X e σ H d) (q : ∀ v H1, Same H H1 → Dl H1 v d → Q v H1) : DoE X e σ H Q := h H (Same.refl H) Q q
theorem EvV.go {Q : VK} (h : EvV X e σ H v) (q : ∀ H1, Same H H1 → Q v H1) : DoE X e σ H Q := h H (Same.refl H) Q q
theorem EvT.go {Q : Bool → Hp → Prop} (h : EvT X e σ H k) (q : ∀ H1, Same H H1 → Q k H1) : DoT X e σ H Q := h H (Same.refl H) Q q
theorem EvA.go {Q : List V → Hp → Prop} (h : EvA X es σ H ds) (q : ∀ vs H1, Same H H1 → DlAll H1 vs ds → Q vs H1) : DoA X es σ H Q := h H (Same.refl H) Q q
/-- scalars -/
theorem EvV.int (h : EvV X e σ H (.int i)) : EvD X e σ H (.int i) := fun H1 s Q q => h H1 s Q fun H2 s2 => q _ H2 s2 (.int i)
theorem EvV.str {z : Str} (h : EvV X e σ H (.str z)) : EvD X e σ H (.str z) := fun H1 s Q q => h H1 s Q fun H2 s2 => q _ H2 s2 (.str z)
theorem EvD.int (h : EvD X e σ H (.int i)) : EvV X e σ H (.int i) := fun H1 s Q q => h H1 s Q fun v H2 s2 r => by cases r; exact q H2 s2
theorem EvD.bl (h : EvD X e σ H (.bool k)) : EvV X e σ H (.bl k) := fun H1 s Q q => h H1 s Q fun v H2 s2 r => by cases r; exact q H2 s2
theorem EvD.str {z : Str} (h : EvD X e σ H (.str z)) : EvV X e σ H (.str z) := fun H1 s Q q => h H1 s Q fun v H2 s2 r => by cases r; exact q H2 s2

/-! names, constants -/
theorem ev_var (i : Nat) (hs : σ[i]? = some (some v)) (r : Dl H v d) (hN : X.N[i]? = some x := by rfl) (hv : Vis X.env.scope x := by first | exact .inl rfl | exact .inr (.inl rfl) | exact .inr (.inr rfl)) (hd : (x == ("__debug__" : Str)) = false := by decide)
    (hcd : (x == ("__classdict__" : Str)) = false := by decide) : EvD X (.Name x pos) σ H d := fun H1 s Q q => DoE.of (pe_var hN hv hd hcd) ⟨v, hs, q v H1 (Same.refl H1) (r.mono s)⟩
theorem evv_var (i : Nat) (hs : σ[i]? = some (some v)) (hN : X.N[i]? = some x := by rfl) (hv : Vis X.env.scope x := by first | exact .inl rfl | exact .inr (.inl rfl) | exact .inr (.inr rfl)) (hd : (x == ("__debug__" : Str)) = false := by decide)
    (hcd : (x == ("__classdict__" : Str)) = false := by decide) : EvV X (.Name x pos) σ H v := fun H1 s Q q => DoE.of (pe_var hN hv hd hcd) ⟨v, hs, q H1 (Same.refl H1)⟩
theorem ev_int {jj} : EvD X (.Constant (.int i) jj pos) σ H (.int i) := fun H1 s Q q => DoE.of pe_int (q _ H1 (Same.refl H1) (.int i))
theorem ev_bl {jj} : EvD X (.Constant (.bool k) jj pos) σ H (.bool k) := fun H1 s Q q => DoE.of pe_bl (q _ H1 (Same.refl H1) (.bl k))
theorem ev_non {jj} : EvD X (.Constant .none jj pos) σ H .none := fun H1 s Q q => DoE.of pe_non (q _ H1 (Same.refl H1) .non)
theorem ev_str {z : Str} {jj} : EvD X (.Constant (.str z) jj pos) σ H (.str z) := fun H1 s Q q => DoE.of pe_str (q _ H1 (Same.refl H1) (.str z))
theorem ev_glob_int {t : Tok} (hg : Gl X x) (hm : X.mg x = some (.int i t)) (hd : (x == ("__debug__" : Str)) = false := by decide) : EvD X (.Name x pos) σ H (.int i) := fun H1 s Q q => DoE.of (pe_glob (v := .int i) hg hm ⟨t, rfl⟩ hd) (q _ H1 (Same.refl H1) (.int i))
theorem ev_glob_str {t : Tok} {z : Str} (hg : Gl X x) (hm : X.mg x = some (.str z t)) (hd : (x == ("__debug__" : Str)) = false := by decide) : EvD X (.Name x pos) σ H (.str z) := fun H1 s Q q => DoE.of (pe_glob (v := .str z) hg hm ⟨t, rfl⟩ hd) (q _ H1 (Same.refl H1) (.str z))
theorem evv_ty {n : String} (hm : X.mg x = none) (hv : bootBuiltins x = some (.type n)) (hg : Gl X x := by rfl) (hn : x ≠ "__name__" := by decide) (hd : (x == ("__debug__" : Str)) = false := by decide) : EvV X (.Name x pos) σ H (.ty n) := fun H1 s Q q => DoE.of (pe_bltn (v := .ty n) hg hm hv rfl hn hd) (q H1 (Same.refl H1))

/-! argument lists, displays -/
theorem eva_nil : EvA X [] σ H [] := fun H1 s Q q => DoA.of pa_nil (q [] H1 (Same.refl H1) .nil)
theorem eva_cons (h : EvD X e σ H d) (hr : EvA X es σ H ds) (hs : starEach (e :: es) X.env = (false, eval e X.env) :: starEach es X.env := by rfl) : EvA X (e :: es) σ H (d :: ds) := fun H1 s Q q =>
  DoA.of (pa_cons DoE.pe DoA.pa hs) (h H1 s _ fun v H2 s2 r => hr H2 (s.trans s2) _ fun vs H3 s3 rs => q (v :: vs) H3 (s2.trans s3) (.cons (r.mono s3) rs))
theorem da_nil {Q : List V → Hp → Prop} (q : Q [] H) : DoA X [] σ H Q := DoA.of pa_nil q
theorem da_cons {Q : List V → Hp → Prop} (h : DoE X e σ H fun v H1 => DoA X es σ H1 fun vs H2 => Q (v :: vs) H2) (hs : starEach (e :: es) X.env = (false, eval e X.env) :: starEach es X.env := by rfl) : DoA X (e :: es) σ H Q := DoA.of (pa_cons DoE.pe DoA.pa hs) h
theorem ev_tup {x1} (h : EvA X es σ H ds) (hl : ds.length ≤ sizeLine := by exact Nat.le_trans (by decide : _ ≤ 1000) (by decide)) : EvD X (.Tuple es x1 pos) σ H (.tuple ds) := fun H1 s Q q =>
  DoE.of (pe_tup DoA.pa) (h H1 s _ fun vs H2 s2 r => ⟨by rw [r.length]; exact hl, fun p hp => q _ _ (s2.trans (same_new hp)) (.tup (.inl upd_same) (r.mono (same_new hp)))⟩)
theorem ev_lst (h : EvA X es σ H ds) (hl : ds.length ≤ sizeLine := by exact Nat.le_trans (by decide : _ ≤ 1000) (by decide)) : EvD X (.List es pos) σ H (.list ds) := fun H1 s Q q =>
  DoE.of (pe_lst DoA.pa) (h H1 s _ fun vs H2 s2 r => ⟨by rw [r.length]; exact hl, fun p hp => q _ _ (s2.trans (same_new hp)) (.lst upd_same (r.mono (same_new hp)))⟩)

/-! operators by values -/
theorem ev_op {op : Operator} {r : R2} (ho : OpR X (binaryOp op) r) (ha : EvD X a σ H d1) (hb : EvD X b σ H d2) (hr : ∀ u v H1, Same H H1 → Dl H1 u d1 → Dl H1 v d2 → ∀ Q : VK, (∀ z H2, Same H1 H2 → Dl H2 z d → Q z H2) → r u v H1 Q) : EvD X (.BinOp a op b pos) σ H d := fun H1 s Q q =>
  DoE.of (pe_op ho DoE.pe DoE.pe) (ha H1 s _ fun u H2 s2 ru => hb H2 (s.trans s2) _ fun v H3 s3 rv => hr u v H3 ((s.trans s2).trans s3) (ru.mono s3) rv Q fun z H4 s4 rz => q z H4 ((s2.trans s3).trans s4) rz)
theorem ev_cmp {op : CmpOp} {r : R2} (ho : OpR X (compareOp op) r) (ha : EvD X a σ H d1) (hb : EvD X b σ H d2) (hr : ∀ u v H1, Same H H1 → Dl H1 u d1 → Dl H1 v d2 → ∀ Q : VK, Q (.bl k) H1 → r u v H1 Q) (hm : behindInMarks op b = false := by first | exact nobehind _ (by decide) (by decide) | rfl) : EvD X (.Compare a [op] [b] pos) σ H (.bool k) := fun H1 s Q q =>
  DoE.of (pe_cmpR ho DoE.pe DoE.pe hm) (ha H1 s _ fun u H2 s2 ru => hb H2 (s.trans s2) _ fun v H3 s3 rv => hr u v H3 ((s.trans s2).trans s3) (ru.mono s3) rv Q (q _ H3 (s2.trans s3) (.bl k)))
theorem ev_lt (ha : EvD X a σ H (.int i)) (hb : EvD X b σ H (.int j)) : EvD X (.Compare a [.Lt] [b] pos) σ H (.bool (decide (i < j))) := ev_cmp op_lt ha hb fun u v H1 _ ru rv Q q => by cases ru; cases rv; exact ⟨i, j, rfl, rfl, q⟩
theorem ev_le (ha : EvD X a σ H (.int i)) (hb : EvD X b σ H (.int j)) : EvD X (.Compare a [.LtE] [b] pos) σ H (.bool (decide (i ≤ j))) := ev_cmp op_le ha hb fun u v H1 _ ru rv Q q => by cases ru; cases rv; exact ⟨i, j, rfl, rfl, q⟩
theorem ev_gt (ha : EvD X a σ H (.int i)) (hb : EvD X b σ H (.int j)) : EvD X (.Compare a [.Gt] [b] pos) σ H (.bool (decide (j < i))) := ev_cmp op_gt ha hb fun u v H1 _ ru rv Q q => by cases ru; cases rv; exact ⟨i, j, rfl, rfl, q⟩
theorem ev_ge (ha : EvD X a σ H (.int i)) (hb : EvD X b σ H (.int j)) : EvD X (.Compare a [.GtE] [b] pos) σ H (.bool (decide (j ≤ i))) := ev_cmp op_ge ha hb fun u v H1 _ ru rv Q q => by cases ru; cases rv; exact ⟨i, j, rfl, rfl, q⟩
theorem ev_add (ha : EvD X a σ H (.int i)) (hb : EvD X b σ H (.int j)) : EvD X (.BinOp a .Add b pos) σ H (.int (i + j)) := ev_op op_add ha hb fun u v H1 _ ru rv Q q => by cases ru; cases rv; exact ⟨i, j, rfl, rfl, q _ H1 (Same.refl H1) (.int _)⟩
theorem ev_sub (ha : EvD X a σ H (.int i)) (hb : EvD X b σ H (.int j)) : EvD X (.BinOp a .Sub b pos) σ H (.int (i - j)) := ev_op op_sub ha hb fun u v H1 _ ru rv Q q => by cases ru; cases rv; exact ⟨i, j, rfl, rfl, q _ H1 (Same.refl H1) (.int _)⟩
theorem ev_mulW (ha : EvD X a σ H (.int i)) (hb : EvD X b σ H (.int j)) (hc : CMulW i j) : EvD X (.BinOp a .Mult b pos) σ H (.int (i * j)) := ev_op op_mulW ha hb fun u v H1 _ ru rv Q q => by cases ru; cases rv; exact ⟨i, j, rfl, rfl, hc, q _ H1 (Same.refl H1) (.int _)⟩
theorem ev_mul (ha : EvD X a σ H (.int i)) (hb : EvD X b σ H (.int j)) (hc : CMul i j) : EvD X (.BinOp a .Mult b pos) σ H (.int (i * j)) := ev_op op_mul ha hb fun u v H1 _ ru rv Q q => by cases ru; cases rv; exact ⟨i, j, rfl, rfl, hc, q _ H1 (Same.refl H1) (.int _)⟩
theorem ev_mod (ha : EvD X a σ H (.int i)) (hb : EvD X b σ H (.int j)) (hc : 0 < j) : EvD X (.BinOp a .Mod b pos) σ H (.int (i % j)) := ev_op op_mod ha hb fun u v H1 _ ru rv Q q => by cases ru; cases rv; exact ⟨i, j, rfl, rfl, hc, q _ H1 (Same.refl H1) (.int _)⟩
theorem ev_div (ha : EvD X a σ H (.int i)) (hb : EvD X b σ H (.int j)) (hc : CDivW i j) : EvD X (.BinOp a .FloorDiv b pos) σ H (.int (i / j)) := ev_op op_fdivW ha hb fun u v H1 _ ru rv Q q => by cases ru; cases rv; exact ⟨i, j, rfl, rfl, hc, q _ H1 (Same.refl H1) (.int _)⟩
theorem ev_pow (ha : EvD X a σ H (.int i)) (hb : EvD X b σ H (.int j)) (hc : CPow i j) : EvD X (.BinOp a .Pow b pos) σ H (.int (i ^ j.toNat)) := ev_op op_pow ha hb fun u v H1 _ ru rv Q q => by cases ru; cases rv; exact ⟨i, j, rfl, rfl, hc, q _ H1 (Same.refl H1) (.int _)⟩
/-- x is None, x is not None -/
theorem ev_isN {jj pos'} (ha : EvD X a σ H d) : EvD X (.Compare a [.Is] [.Constant .none jj pos'] pos) σ H (.bool (isNoneD d)) := fun H1 s Q q =>
  DoE.of (pe_cmp (pc_isN DoE.pe)) (ha H1 s _ fun u H2 s2 ru => by
    have e : decide (u = V.non) = isNoneD d := by cases ru <;> first | rfl | (apply decide_eq_false; intro z; cases z)
    rw [e]
    exact q _ H2 s2 (.bl _))
theorem ev_notN {jj pos'} (ha : EvD X a σ H d) : EvD X (.Compare a [.IsNot] [.Constant .none jj pos'] pos) σ H (.bool (!isNoneD d)) := fun H1 s Q q =>
  DoE.of (pe_cmp (pc_notN DoE.pe)) (ha H1 s _ fun u H2 s2 ru => by
    have e : decide (u = V.non) = isNoneD d := by cases ru <;> first | rfl | (apply decide_eq_false; intro z; cases z)
    rw [e]
    exact q _ H2 s2 (.bl _))
theorem ev_eq (hu : X.A.units + 64 < cLine) (ha : EvD X a σ H d1) (hb : EvD X b σ H d2) (h1 : SeqAt.shaped d1 = true) (h2 : SeqAt.shaped d2 = true) : EvD X (.Compare a [.Eq] [b] pos) σ H (.bool (PyData.eqv d1 d2)) :=
  ev_cmp (op_eqD hu) ha hb fun u v H1 _ ru rv Q q => ⟨d1, d2, ru.dp, rv.dp, h1, h2, q⟩
theorem ev_ne (hu : X.A.units + 64 < cLine) (ha : EvD X a σ H d1) (hb : EvD X b σ H d2) (h1 : SeqAt.shaped d1 = true) (h2 : SeqAt.shaped d2 = true) : EvD X (.Compare a [.NotEq] [b] pos) σ H (.bool (!PyData.eqv d1 d2)) :=
  ev_cmp (op_neD hu) ha hb fun u v H1 _ ru rv Q q => ⟨d1, d2, ru.dp, rv.dp, h1, h2, q⟩

/-! values and tests by and, or, not, a choice -/
theorem ev_one {op} (h : EvD X a σ H d) : EvD X (.BoolOp op [a] pos) σ H d := fun H1 s Q q => DoE.of (pe_one DoE.pe) (h H1 s Q q)
theorem ev_and (h1 : EvD X a σ H (.bool k)) (h2 : k = true → EvD X (.BoolOp .And (b :: es) pos) σ H d) (hf : k = false → d = .bool false) : EvD X (.BoolOp .And (a :: b :: es) pos) σ H d := fun H1 s Q q =>
  DoE.of (pe_and DoE.pe DoE.pe) (h1 H1 s _ fun u H2 s2 ru => by
    cases ru
    refine ⟨k, rfl, ?_⟩
    cases k with
    | true => exact iteT (h2 rfl H2 (s.trans s2) Q fun v H3 s3 r => q v H3 (s2.trans s3) r)
    | false => exact iteF (q _ H2 s2 (by rw [hf rfl]; exact .bl _)))
theorem ev_or (h1 : EvD X a σ H (.bool k)) (h2 : k = false → EvD X (.BoolOp .Or (b :: es) pos) σ H d) (hf : k = true → d = .bool true) : EvD X (.BoolOp .Or (a :: b :: es) pos) σ H d := fun H1 s Q q =>
  DoE.of (pe_or DoE.pe DoE.pe) (h1 H1 s _ fun u H2 s2 ru => by
    cases ru
    refine ⟨k, rfl, ?_⟩
    cases k with
    | true => exact iteT (q _ H2 s2 (by rw [hf rfl]; exact .bl _))
    | false => exact iteF (h2 rfl H2 (s.trans s2) Q fun v H3 s3 r => q v H3 (s2.trans s3) r))
theorem ev_and2 (h1 : EvD X a σ H (.bool k)) (h2 : k = true → EvD X (.BoolOp .And (b :: es) pos) σ H (.bool k')) : EvD X (.BoolOp .And (a :: b :: es) pos) σ H (.bool (k && k')) :=
  ev_and h1 (fun e => by subst e; simpa using h2 rfl) (fun e => by subst e; rfl)
theorem ev_or2 (h1 : EvD X a σ H (.bool k)) (h2 : k = false → EvD X (.BoolOp .Or (b :: es) pos) σ H (.bool k')) : EvD X (.BoolOp .Or (a :: b :: es) pos) σ H (.bool (k || k')) :=
  ev_or h1 (fun e => by subst e; simpa using h2 rfl) (fun e => by subst e; rfl)
theorem ev_not (h1 : EvD X a σ H (.bool k)) : EvD X (.UnaryOp .Not a pos) σ H (.bool (!k)) := fun H1 s Q q =>
  DoE.of (pe_not DoE.pe) (h1 H1 s _ fun u H2 s2 ru => by cases ru; exact ⟨k, rfl, q _ H2 s2 (.bl _)⟩)
theorem et_val (h : EvD X e σ H (.bool k)) (he : ∀ whole, isTrue e X.env whole = (do let v ← whole; standAt e.pos; holding [v] (truthy v)) := by intro _; rfl) : EvT X e σ H k := fun H1 s Q q =>
  DoT.of (pt_val DoE.pe he) (h H1 s _ fun u H2 s2 ru => by cases ru; exact ⟨k, rfl, q H2 s2⟩)
theorem et_cmp {op : CmpOp} {r : R2} (ho : OpR X (compareOp op) r) (ha : EvD X a σ H d1) (hb : EvD X b σ H d2) (hr : ∀ u v H1, Same H H1 → Dl H1 u d1 → Dl H1 v d2 → ∀ Q : VK, Q (.bl k) H1 → r u v H1 Q) (hm : behindInMarks op b = false := by first | exact nobehind _ (by decide) (by decide) | rfl) : EvT X (.Compare a [op] [b] pos) σ H k := fun H1 s Q q =>
  DoT.of (pt_cmpR ho DoE.pe DoE.pe hm) (ha H1 s _ fun u H2 s2 ru => hb H2 (s.trans s2) _ fun v H3 s3 rv => hr u v H3 ((s.trans s2).trans s3) (ru.mono s3) rv _ ⟨k, rfl, q H3 (s2.trans s3)⟩)
theorem et_not (h : EvT X a σ H k) : EvT X (.UnaryOp .Not a pos) σ H (!k) := fun H1 s Q q => DoT.of (pt_not DoT.pt) (h H1 s _ fun H2 s2 => q H2 s2)
theorem et_w (h : EvW X e σ H k) : EvT X e σ H k := fun H1 s Q q => ⟨fun pins sh I => (h H1 s Q q).run _ pins sh I⟩
theorem ew_and1 (h : EvT X a σ H k) : EvW X (.BoolOp .And [a] pos) σ H k := fun H1 s Q q => DoW.of (pw_and1 DoT.pt) (h H1 s Q q)
theorem ew_or1 (h : EvT X a σ H k) : EvW X (.BoolOp .Or [a] pos) σ H k := fun H1 s Q q => DoW.of (pw_or1 DoT.pt) (h H1 s Q q)
theorem ew_and (h1 : EvT X a σ H k) (h2 : k = true → EvW X (.BoolOp .And (b :: es) pos) σ H k') : EvW X (.BoolOp .And (a :: b :: es) pos) σ H (k && k') := fun H1 s Q q =>
  DoW.of (pw_and DoT.pt DoW.pw) (h1 H1 s _ fun H2 s2 => by
    cases k with
    | true => exact iteT (h2 rfl H2 (s.trans s2) Q fun H3 s3 => q H3 (s2.trans s3))
    | false => exact iteF (q H2 s2))
theorem ew_or (h1 : EvT X a σ H k) (h2 : k = false → EvW X (.BoolOp .Or (b :: es) pos) σ H k') : EvW X (.BoolOp .Or (a :: b :: es) pos) σ H (k || k') := fun H1 s Q q =>
  DoW.of (pw_or DoT.pt DoW.pw) (h1 H1 s _ fun H2 s2 => by
    cases k with
    | true => exact iteT (q H2 s2)
    | false => exact iteF (h2 rfl H2 (s.trans s2) Q fun H3 s3 => q H3 (s2.trans s3)))
theorem ev_if (h : EvT X c σ H k) (h1 : k = true → EvD X a σ H d) (h2 : k = false → EvD X b σ H d) : EvD X (.IfExp c a b pos) σ H d := fun H1 s Q q =>
  DoE.of (pe_ifExp DoT.pt DoE.pe DoE.pe) (h H1 s _ fun H2 s2 => by
    cases k with
    | true => exact iteT (h1 rfl H2 (s.trans s2) Q fun v H3 s3 r => q v H3 (s2.trans s3) r)
    | false => exact iteF (h2 rfl H2 (s.trans s2) Q fun v H3 s3 r => q v H3 (s2.trans s3) r))

/-! subscripts, slices -/
theorem ev_ixT (ha : EvD X a σ H (.tuple ds)) (hb : EvD X b σ H (.int i)) (h : atI ds i = some d) (hs : PlainIx b := by exact fun _ _ => rfl) : EvD X (.Subscript a b pos) σ H d := fun H1 s Q q =>
  DoE.of (pe_ix ix_tup DoE.pe DoE.pe hs) (ha H1 s _ fun u H2 s2 ru => hb H2 (s.trans s2) _ fun v H3 s3 rv => by
    cases rv
    cases ru.mono s3 with
    | tup hA hd =>
      unfold atI at h
      obtain ⟨j, hj, hd'⟩ := Option.bind_eq_some_iff.mp h
      obtain ⟨w, hw, rw'⟩ := hd.get hd'
      refine ⟨_, _, i, w, rfl, rfl, (.inl hA), ?_, q w H3 (s2.trans s3) rw'⟩
      unfold atI
      rw [hd.length, hj]
      exact hw)
theorem ev_ixL (ha : EvD X a σ H (.list ds)) (hb : EvD X b σ H (.int i)) (h : atI ds i = some d) (hs : PlainIx b := by exact fun _ _ => rfl) : EvD X (.Subscript a b pos) σ H d := fun H1 s Q q =>
  DoE.of (pe_ix ix_list DoE.pe DoE.pe hs) (ha H1 s _ fun u H2 s2 ru => hb H2 (s.trans s2) _ fun v H3 s3 rv => by
    cases rv
    cases ru.mono s3 with
    | lst hA hd =>
      unfold atI at h
      obtain ⟨j, hj, hd'⟩ := Option.bind_eq_some_iff.mp h
      obtain ⟨w, hw, rw'⟩ := hd.get hd'
      refine ⟨_, _, i, w, rfl, rfl, SqL.of hA, ?_, q w H3 (s2.trans s3) rw'⟩
      unfold atI
      rw [hd.length, hj]
      exact hw)
theorem cutV1 (xs : List V) : cutV xs (some 1) none = xs.drop 1 := by
  unfold cutV
  rw [show HT.sIx xs.length 0 (some 1) = min 1 xs.length from HT.sIx_nat xs.length 0 1, HT.sIx_none]
  cases xs with
  | nil => rfl
  | cons x r =>
    rw [show min 1 (x :: r).length = 1 by rw [List.length_cons]; omega]
    show (List.take ((x :: r).length - 1) r) = r
    rw [List.length_cons, Nat.add_sub_cancel]
    exact List.take_length
theorem ev_tailT {jj pos' p2} (ha : EvD X a σ H (.tuple ds)) : EvD X (.Subscript a (.Slice (some (.Constant (.int 1) jj pos')) none none p2) pos) σ H (.tuple (ds.drop 1)) := fun H1 s Q q =>
  DoE.of (pe_slice sl_tupA DoE.pe (po_some pe_int) po_none) (ha H1 s _ fun u H2 s2 ru => by
    cases ru with
    | @tup A xs _ hA hd =>
      refine ⟨1, rfl, A, xs, rfl, (.inl hA), fun hw => ?_, fun _ p hp => ?_⟩
      · rw [show HT.sIx xs.length 0 (some 1) = min 1 xs.length from HT.sIx_nat xs.length 0 1] at hw
        have h0 : xs.length = 0 := by omega
        have h1 : xs = [] := List.length_eq_zero_iff.mp h0
        subst h1
        cases hd
        exact q _ H2 s2 (.tup hA .nil)
      · rw [cutV1]
        exact q _ _ (s2.trans (same_new hp)) (.tup (.inl upd_same) ((hd.drop 1).mono (same_new hp))))
theorem ev_tailL {jj pos' p2} (ha : EvD X a σ H (.list ds)) : EvD X (.Subscript a (.Slice (some (.Constant (.int 1) jj pos')) none none p2) pos) σ H (.list (ds.drop 1)) := fun H1 s Q q =>
  DoE.of (pe_slice sl_list DoE.pe (po_some pe_int) po_none) (ha H1 s _ fun u H2 s2 ru => by
    cases ru with
    | @lst A xs _ hA hd =>
      refine ⟨1, rfl, A, xs, rfl, SqL.of hA, fun p hp => ?_⟩
      rw [cutV1]
      exact q _ _ (s2.trans (same_new hp)) (.lst upd_same ((hd.drop 1).mono (same_new hp))))
end
end Lk
namespace Lk
open PySem PySem.Spec PyProof.Rows L2

/-! ### defs: where they stand, what they promise -/
/-- a def of the text, where it stands, how its arguments bind -/
def Def (K : PySem.W.Frag) (mg : Str → Option Value) (x : Str) (st : Stmt) (ps : List Str) : Prop := ∃ (f : Addr) (fd : FuncData), Fun K x x st f fd ∧ Binds K fd ps [] ∧ mg x = some (.ref f)
/-- the def named x keeps the promise sp, by at most level k -/
def Good (P : Program) (w : World) (K : PySem.W.Frag) (mg : Str → Option Value) (base : Heap) (k : Nat) (x : Str) (ps : List Str) (sp : Sp) : Prop :=
  ∃ (f : Addr) (fd : FuncData), FnOk P w K mg base CX0 k f fd ps sp ∧ PySem.W.keepIn K (.ref f) = true ∧ Binds K fd ps [] ∧ mg x = some (.ref f)
section
variable {P : Program} {w : World} {K : PySem.W.Frag} {mg : Str → Option Value} {base : Heap} {k k' : Nat} {x : Str} {ps N : List Str} {sp sp' : Sp} {st : Stmt}
theorem Good.mono (h : Good P w K mg base k x ps sp) (hk : k ≤ k') : Good P w K mg base k' x ps sp := by
  obtain ⟨f, fd, a, b⟩ := h
  exact ⟨f, fd, a.mono hk, b⟩
theorem Good.imp (h : Good P w K mg base k x ps sp) (q : ∀ vs H Q E, sp' vs H Q E → sp vs H Q E) : Good P w K mg base k x ps sp' := by
  obtain ⟨f, fd, a, b⟩ := h
  exact ⟨f, fd, a.imp q, b⟩
/-- nothing is asked of a promise that no call takes up -/
theorem Good.never (D : Def K mg x st ps) : Good P w K mg base k x ps (fun _ _ _ _ => False) := by
  obtain ⟨f, fd, F, B, m⟩ := D
  exact ⟨f, fd, ⟨fun _ _ _ _ h => h.elim, fun _ _ _ _ _ _ _ _ _ _ _ _ _ h => h.elim⟩, F.kp, B, m⟩
abbrev cx0 (P : Program) (w : World) (K : PySem.W.Frag) (mg : Str → Option Value) (base : Heap) (N : List Str) (x : Str) (st : Stmt) (f : Addr) (cdv : Value) (A : Around) (outer : List Env) (s : Shared) (H : Hp) (E : XK) : Cx :=
  (cxOf CX0 P w K mg base N x (defScope st) f cdv A outer s H E).nox
theorem good_of (D : Def K mg x st ps) (S : FnScope N ps (defScope st)) (len : ∀ vs H Q E, sp vs H Q E → vs.length = ps.length)
    (hbody : ∀ (f : Addr) (cdv : Value) (A : Around) (outer : List Env) (s : Shared) (H : Hp) (vs : List V) (Q : VK) (E : XK), Room k (A.deeper (envOfC x (defScope st) s.heap.objs.size f cdv)) → sp vs H Q E →
      DoSs (cx0 P w K mg base N x st f cdv A outer s H E) (defBody st) { nx := fun _ H' => Q .non H', rt := Q } (start N vs) H) : Good P w K mg base (k + 1) x ps sp := by
  obtain ⟨f, fd, F, B, m⟩ := D
  exact ⟨f, fd, F.ok S len fun cdv A outer s H vs Q E hr h => ⟨_, DoSs.pss, hbody f cdv A outer s H vs Q E hr h⟩, F.kp, B, m⟩
end
/-- a def that keeps all and hands back a datum: R tells which, of the arguments' data -/
def spF (R : List PyData → PyData → Prop) : Sp := fun vs H Q _ => ∃ ds d, DlAll H vs ds ∧ R ds d ∧ ∀ v H', Same H H' → Dl H' v d → Q v H'
section
variable {P : Program} {w : World} {K : PySem.W.Frag} {mg : Str → Option Value} {base : Heap} {k : Nat} {x : Str} {ps N : List Str} {st : Stmt} {R : List PyData → PyData → Prop}
theorem good_F (D : Def K mg x st ps) (S : FnScope N ps (defScope st)) (len : ∀ ds d, R ds d → ds.length = ps.length)
    (hbody : ∀ (f : Addr) (cdv : Value) (A : Around) (outer : List Env) (s : Shared) (H : Hp) (vs : List V) (ds : List PyData) (d : PyData) (Q : VK) (E : XK), Room k (A.deeper (envOfC x (defScope st) s.heap.objs.size f cdv)) → DlAll H vs ds → R ds d →
      (∀ v H', Same H H' → Dl H' v d → Q v H') → DoSs (cx0 P w K mg base N x st f cdv A outer s H E) (defBody st) { nx := fun _ H' => Q .non H', rt := Q } (start N vs) H) : Good P w K mg base (k + 1) x ps (spF R) := by
  refine good_of D S (fun vs H Q E h => ?_) fun f cdv A outer s H vs Q E hr h => ?_
  · obtain ⟨ds, d, h1, h2, _⟩ := h
    rw [h1.length]
    exact len ds d h2
  · obtain ⟨ds, d, h1, h2, h3⟩ := h
    exact hbody f cdv A outer s H vs ds d Q E hr h1 h2 h3
end
section
variable {X : Cx} {a b c e : Expr} {es : List Expr} {σ : L2.St} {H H' : Hp} {d d' d1 d2 : PyData} {ds : List PyData} {v w : V} {x : Str} {pos p : Pos} {k k' : Bool} {i j n : Int} {lv : Nat} {ps : List Str} {sp : Sp} {R : List PyData → PyData → Prop}
theorem do_call {Q : VK} (G : Good X.prog X.w X.K X.mg X.base lv x ps sp) (hr : Room lv X.A) (hg : Gl X x) (h : DoA X (e :: es) σ H fun vs H1 => sp vs H1 Q E0) (hdb : (x == ("__debug__" : Str)) = false := by decide) (he : starEach (e :: es) X.env = (false, eval e X.env) :: starEach es X.env := by rfl) (hpl : (backTo pos (starEach es X.env)).any (·.1) = false := by rfl) :
    DoE X (.Call (.Name x p) (e :: es) [] pos) σ H Q := by
  obtain ⟨f, fd, F, kp, B, m⟩ := G
  refine DoE.of (pe_call F hr hg m kp B .nil pass0 DoA.pa hdb he hpl) ?_
  show DoA X (e :: es) σ H fun vs H1 => sp (vs ++ []) H1 Q E0
  have q : (fun (vs : List V) (H1 : Hp) => sp (vs ++ []) H1 Q E0) = fun vs H1 => sp vs H1 Q E0 := by
    funext vs H1
    rw [List.append_nil]
  rw [q]
  exact h
theorem do_call0 {Q : VK} (G : Good X.prog X.w X.K X.mg X.base lv x ps sp) (hr : Room lv X.A) (hg : Gl X x) (h : sp [] H Q E0) (hdb : (x == ("__debug__" : Str)) = false := by decide) : DoE X (.Call (.Name x p) [] [] pos) σ H Q := by
  obtain ⟨f, fd, F, kp, B, m⟩ := G
  exact DoE.of (pe_call0 F hr hg m kp B .nil pass0 hdb) h
/-- a call of a def that hands back a datum -/
theorem ev_call (G : Good X.prog X.w X.K X.mg X.base lv x ps (spF R)) (hr : Room lv X.A) (ha : EvA X (e :: es) σ H ds) (hR : R ds d) (hg : Gl X x := by rfl) (hdb : (x == ("__debug__" : Str)) = false := by decide) (he : starEach (e :: es) X.env = (false, eval e X.env) :: starEach es X.env := by rfl) (hpl : (backTo pos (starEach es X.env)).any (·.1) = false := by rfl) :
    EvD X (.Call (.Name x p) (e :: es) [] pos) σ H d := fun H1 s Q q =>
  do_call G hr hg (ha H1 s _ fun vs H2 s2 r => ⟨ds, d, r, hR, fun v H3 s3 rv => q v H3 (s2.trans s3) rv⟩) hdb he hpl
/-! built-ins -/
theorem do_callB {id : String} {r : List V → Hp → VK → Prop} {Q : VK} (hc : CallR X (.builtin id) r) (hm : X.mg x = none) (hv : bootBuiltins x = some (.builtin id)) (h : DoA X (e :: es) σ H fun vs H1 => r vs H1 Q) (hg : Gl X x := by rfl) (hn : x ≠ "__name__" := by decide) (hdb : (x == ("__debug__" : Str)) = false := by decide)
    (he : starEach (e :: es) X.env = (false, eval e X.env) :: starEach es X.env := by rfl) (hpl : (backTo pos (starEach es X.env)).any (·.1) = false := by rfl) : DoE X (.Call (.Name x p) (e :: es) [] pos) σ H Q := DoE.of (pe_callB hc hg hm hv DoA.pa hn hdb he hpl) h
theorem do_callTy {T : String} {r : List V → Hp → VK → Prop} {Q : VK} (hc : CallR X (.type T) r) (hm : X.mg x = none) (hv : bootBuiltins x = some (.type T)) (h : DoA X (e :: es) σ H fun vs H1 => r vs H1 Q) (hg : Gl X x := by rfl) (hn : x ≠ "__name__" := by decide) (hdb : (x == ("__debug__" : Str)) = false := by decide)
    (he : starEach (e :: es) X.env = (false, eval e X.env) :: starEach es X.env := by rfl) (hpl : (backTo pos (starEach es X.env)).any (·.1) = false := by rfl) : DoE X (.Call (.Name x p) (e :: es) [] pos) σ H Q := DoE.of (pe_callTy hc hg hm hv DoA.pa hn hdb he hpl) h
theorem ev_callB {id : String} {r : List V → Hp → VK → Prop} (hc : CallR X (.builtin id) r) (hm : X.mg x = none) (hv : bootBuiltins x = some (.builtin id)) (ha : EvA X (e :: es) σ H ds) (hr : ∀ vs H1, Same H H1 → DlAll H1 vs ds → ∀ Q : VK, (∀ z H2, Same H1 H2 → Dl H2 z d → Q z H2) → r vs H1 Q) (hg : Gl X x := by rfl) (hn : x ≠ "__name__" := by decide) (hdb : (x == ("__debug__" : Str)) = false := by decide)
    (he : starEach (e :: es) X.env = (false, eval e X.env) :: starEach es X.env := by rfl) (hpl : (backTo pos (starEach es X.env)).any (·.1) = false := by rfl) : EvD X (.Call (.Name x p) (e :: es) [] pos) σ H d := fun H1 s Q q =>
  do_callB hc hm hv (ha H1 s _ fun vs H2 s2 r => hr vs H2 (s.trans s2) r Q fun z H3 s3 rz => q z H3 (s2.trans s3) rz) hg hn hdb he hpl
theorem ev_callTy {T : String} {r : List V → Hp → VK → Prop} (hc : CallR X (.type T) r) (hm : X.mg x = none) (hv : bootBuiltins x = some (.type T)) (ha : EvA X (e :: es) σ H ds) (hr : ∀ vs H1, Same H H1 → DlAll H1 vs ds → ∀ Q : VK, (∀ z H2, Same H1 H2 → Dl H2 z d → Q z H2) → r vs H1 Q) (hg : Gl X x := by rfl) (hn : x ≠ "__name__" := by decide) (hdb : (x == ("__debug__" : Str)) = false := by decide)
    (he : starEach (e :: es) X.env = (false, eval e X.env) :: starEach es X.env := by rfl) (hpl : (backTo pos (starEach es X.env)).any (·.1) = false := by rfl) : EvD X (.Call (.Name x p) (e :: es) [] pos) σ H d := fun H1 s Q q =>
  do_callTy hc hm hv (ha H1 s _ fun vs H2 s2 r => hr vs H2 (s.trans s2) r Q fun z H3 s3 rz => q z H3 (s2.trans s3) rz) hg hn hdb he hpl
theorem eva1 (h : EvD X e σ H d) (hs : starEach [e] X.env = (false, eval e X.env) :: starEach [] X.env := by rfl) : EvA X [e] σ H [d] := eva_cons h eva_nil hs
theorem eva2 (h : EvD X a σ H d1) (h2 : EvD X b σ H d2) (hs : starEach [a, b] X.env = (false, eval a X.env) :: starEach [b] X.env := by rfl) (hs2 : starEach [b] X.env = (false, eval b X.env) :: starEach [] X.env := by rfl) : EvA X [a, b] σ H [d1, d2] := eva_cons h (eva1 h2 hs2) hs
/-- len of a list, of a tuple -/
theorem ev_lenT (hm : X.mg "len" = none) (h : EvD X e σ H (.tuple ds)) (hg : Gl X "len" := by rfl) (he : starEach [e] X.env = (false, eval e X.env) :: starEach [] X.env := by rfl) (hpl : (backTo pos (starEach [] X.env)).any (·.1) = false := by rfl) : EvD X (.Call (.Name "len" p) [e] [] pos) σ H (.int (ds.length : Int)) :=
  ev_callB call_len_seq hm PySem.boot_len (eva1 h he) (fun vs H1 _ r Q q => by
    cases r with
    | cons r1 r2 =>
      cases r2
      cases r1 with
      | tup ha hd => exact ⟨_, _, rfl, .inr ((.inl ha)), q _ H1 (Same.refl H1) (by rw [hd.length]; exact .int _)⟩) hg (by decide) (by decide) he hpl
theorem ev_lenL (hm : X.mg "len" = none) (h : EvD X e σ H (.list ds)) (hg : Gl X "len" := by rfl) (he : starEach [e] X.env = (false, eval e X.env) :: starEach [] X.env := by rfl) (hpl : (backTo pos (starEach [] X.env)).any (·.1) = false := by rfl) : EvD X (.Call (.Name "len" p) [e] [] pos) σ H (.int (ds.length : Int)) :=
  ev_callB call_len_seq hm PySem.boot_len (eva1 h he) (fun vs H1 _ r Q q => by
    cases r with
    | cons r1 r2 =>
      cases r2
      cases r1 with
      | lst ha hd => exact ⟨_, _, rfl, .inl (SqL.of ha), q _ H1 (Same.refl H1) (by rw [hd.length]; exact .int _)⟩) hg (by decide) (by decide) he hpl
theorem ev_lenS {z : Str} (hm : X.mg "len" = none) (h : EvD X e σ H (.str z)) (hz : z.length ≤ sizeLine) (hg : Gl X "len" := by rfl) (he : starEach [e] X.env = (false, eval e X.env) :: starEach [] X.env := by rfl) (hpl : (backTo pos (starEach [] X.env)).any (·.1) = false := by rfl) : EvD X (.Call (.Name "len" p) [e] [] pos) σ H (.int (z.length : Int)) :=
  ev_callB call_len_str hm PySem.boot_len (eva1 h he) (fun vs H1 _ r Q q => by
    cases r with
    | cons r1 r2 =>
      cases r2
      cases r1
      exact ⟨z, rfl, hz, q _ H1 (Same.refl H1) (.int _)⟩) hg (by decide) (by decide) he hpl
theorem ev_all {bs : List Bool} (hcal : X.calm = true) (hm : X.mg "all" = none) (h : EvD X e σ H (.list (bs.map .bool))) (hg : Gl X "all" := by rfl) (he : starEach [e] X.env = (false, eval e X.env) :: starEach [] X.env := by rfl) (hpl : (backTo pos (starEach [] X.env)).any (·.1) = false := by rfl) : EvD X (.Call (.Name "all" p) [e] [] pos) σ H (.bool (bs.all id)) :=
  ev_callB (cr_all hcal) hm (by decide +kernel) (eva1 h he) (fun vs H1 _ r Q q => by
    cases r with
    | cons r1 r2 =>
      cases r2
      cases r1 with
      | lst ha hd =>
        have e1 := DlAll.bools hd
        subst e1
        exact ⟨_, bs, rfl, SqL.of ha, q _ H1 (Same.refl H1) (.bl _)⟩) hg (by decide) (by decide) he hpl
theorem ev_tupleL (hm : X.mg "tuple" = none) (h : EvD X e σ H (.list ds)) (hg : Gl X "tuple" := by rfl) (he : starEach [e] X.env = (false, eval e X.env) :: starEach [] X.env := by rfl) (hpl : (backTo pos (starEach [] X.env)).any (·.1) = false := by rfl) : EvD X (.Call (.Name "tuple" p) [e] [] pos) σ H (.tuple ds) :=
  ev_callTy call_tuple_of hm (by decide +kernel) (eva1 h he) (fun vs H1 _ r Q q => by
    cases r with
    | cons r1 r2 =>
      cases r2
      cases r1 with
      | lst ha hd => exact ⟨_, _, rfl, .inl ⟨SqL.of ha, fun l hl => q _ _ (same_new hl) (.tup (.inl upd_same) (hd.mono (same_new hl)))⟩⟩) hg (by decide) (by decide) he hpl
theorem ev_listT (hm : X.mg "list" = none) (h : EvD X e σ H (.tuple ds)) (hg : Gl X "list" := by rfl) (he : starEach [e] X.env = (false, eval e X.env) :: starEach [] X.env := by rfl) (hpl : (backTo pos (starEach [] X.env)).any (·.1) = false := by rfl) : EvD X (.Call (.Name "list" p) [e] [] pos) σ H (.list ds) :=
  ev_callTy call_list_of hm (by decide +kernel) (eva1 h he) (fun vs H1 _ r Q q => by
    cases r with
    | cons r1 r2 =>
      cases r2
      cases r1 with
      | tup ha hd => exact ⟨_, _, rfl, .inr ((.inl ha)), fun l hl => q _ _ (same_new hl) (.lst upd_same (hd.mono (same_new hl)))⟩) hg (by decide) (by decide) he hpl
theorem ev_listL (hm : X.mg "list" = none) (h : EvD X e σ H (.list ds)) (hg : Gl X "list" := by rfl) (he : starEach [e] X.env = (false, eval e X.env) :: starEach [] X.env := by rfl) (hpl : (backTo pos (starEach [] X.env)).any (·.1) = false := by rfl) : EvD X (.Call (.Name "list" p) [e] [] pos) σ H (.list ds) :=
  ev_callTy call_list_of hm (by decide +kernel) (eva1 h he) (fun vs H1 _ r Q q => by
    cases r with
    | cons r1 r2 =>
      cases r2
      cases r1 with
      | lst ha hd => exact ⟨_, _, rfl, .inl (SqL.of ha), fun l hl => q _ _ (same_new hl) (.lst upd_same (hd.mono (same_new hl)))⟩) hg (by decide) (by decide) he hpl
theorem ev_max2 (hcal : X.calm = true) (hm : X.mg "max" = none) (ha : EvD X a σ H (.int i)) (hb : EvD X b σ H (.int j)) (hg : Gl X "max" := by rfl) (he : starEach [a, b] X.env = (false, eval a X.env) :: starEach [b] X.env := by rfl) (he2 : starEach [b] X.env = (false, eval b X.env) :: starEach [] X.env := by rfl) (hpl : (backTo pos (starEach [b] X.env)).any (·.1) = false := by rfl) : EvD X (.Call (.Name "max" p) [a, b] [] pos) σ H (.int (if j > i then j else i)) :=
  ev_callB (call_max2 hcal) hm (by decide +kernel) (eva2 ha hb he he2) (fun vs H1 _ r Q q => by
    cases r with
    | cons r1 r2 =>
      cases r2 with
      | cons r2 r3 =>
        cases r3; cases r1; cases r2
        exact ⟨i, j, rfl, q _ H1 (Same.refl H1) (.int _)⟩) hg (by decide) (by decide) he hpl
theorem ev_min2 (hcal : X.calm = true) (hm : X.mg "min" = none) (ha : EvD X a σ H (.int i)) (hb : EvD X b σ H (.int j)) (hg : Gl X "min" := by rfl) (he : starEach [a, b] X.env = (false, eval a X.env) :: starEach [b] X.env := by rfl) (he2 : starEach [b] X.env = (false, eval b X.env) :: starEach [] X.env := by rfl) (hpl : (backTo pos (starEach [b] X.env)).any (·.1) = false := by rfl) : EvD X (.Call (.Name "min" p) [a, b] [] pos) σ H (.int (if j < i then j else i)) :=
  ev_callB (call_min2 hcal) hm (by decide +kernel) (eva2 ha hb he he2) (fun vs H1 _ r Q q => by
    cases r with
    | cons r1 r2 =>
      cases r2 with
      | cons r2 r3 =>
        cases r3; cases r1; cases r2
        exact ⟨i, j, rfl, q _ H1 (Same.refl H1) (.int _)⟩) hg (by decide) (by decide) he hpl
/-- min of a list of ints: m is in it and none is less -/
theorem ev_minL {ns : List Int} (hcal : X.calm = true) (hm : X.mg "min" = none) (h : EvD X e σ H (.list (ns.map .int))) (h1 : i ∈ ns) (h2 : ∀ y ∈ ns, i ≤ y) (hg : Gl X "min" := by rfl) (he : starEach [e] X.env = (false, eval e X.env) :: starEach [] X.env := by rfl) (hpl : (backTo pos (starEach [] X.env)).any (·.1) = false := by rfl) : EvD X (.Call (.Name "min" p) [e] [] pos) σ H (.int i) :=
  ev_callB (cr_min hcal) hm (by decide +kernel) (eva1 h he) (fun vs H1 _ r Q q => by
    cases r with
    | cons r1 r2 =>
      cases r2
      cases r1 with
      | lst ha hd =>
        have e1 := DlAll.ints hd
        subst e1
        refine ⟨_, ns, rfl, SqL.of ha, List.length_pos_of_mem h1, fun m hm1 hm2 => ?_⟩
        have e2 : m = i := Int.le_antisymm (hm2 i h1) (h2 m hm1)
        rw [e2]
        exact q _ H1 (Same.refl H1) (.int _)) hg (by decide) (by decide) he hpl
theorem ev_abs (hm : X.mg "abs" = none) (h : EvD X e σ H (.int i)) (hg : Gl X "abs" := by rfl) (he : starEach [e] X.env = (false, eval e X.env) :: starEach [] X.env := by rfl) (hpl : (backTo pos (starEach [] X.env)).any (·.1) = false := by rfl) : EvD X (.Call (.Name "abs" p) [e] [] pos) σ H (.int (if i < 0 then -i else i)) :=
  ev_callB call_abs hm (by decide +kernel) (eva1 h he) (fun vs H1 _ r Q q => by
    cases r with
    | cons r1 r2 => cases r2; cases r1; exact ⟨i, rfl, q _ H1 (Same.refl H1) (.int _)⟩) hg (by decide) (by decide) he hpl
theorem ev_intI (hm : X.mg "int" = none) (h : EvD X e σ H (.int i)) (hg : Gl X "int" := by rfl) (he : starEach [e] X.env = (false, eval e X.env) :: starEach [] X.env := by rfl) (hpl : (backTo pos (starEach [] X.env)).any (·.1) = false := by rfl) : EvD X (.Call (.Name "int" p) [e] [] pos) σ H (.int i) :=
  ev_callTy call_int1 hm (by decide +kernel) (eva1 h he) (fun vs H1 _ r Q q => by
    cases r with
    | cons r1 r2 => cases r2; cases r1; exact .inl ⟨i, rfl, q _ H1 (Same.refl H1) (.int _)⟩) hg (by decide) (by decide) he hpl
theorem ev_intB (hm : X.mg "int" = none) (h : EvD X e σ H (.bool k)) (hg : Gl X "int" := by rfl) (he : starEach [e] X.env = (false, eval e X.env) :: starEach [] X.env := by rfl) (hpl : (backTo pos (starEach [] X.env)).any (·.1) = false := by rfl) : EvD X (.Call (.Name "int" p) [e] [] pos) σ H (.int (if k then 1 else 0)) :=
  ev_callTy call_int1 hm (by decide +kernel) (eva1 h he) (fun vs H1 _ r Q q => by
    cases r with
    | cons r1 r2 => cases r2; cases r1; exact .inr ⟨k, rfl, q _ H1 (Same.refl H1) (.int _)⟩) hg (by decide) (by decide) he hpl
end
/-! isinstance -/
def tyD : PyData → String
  | .none => "NoneType"
  | .bool _ => "bool"
  | .int _ => "int"
  | .str _ => "str"
  | .list _ => "list"
  | .tuple _ => "tuple"
  | .dict _ => "dict"
theorem Dl.ty {K : PySem.W.Frag} {H : Hp} {v : V} {d : PyData} (h : Dl H v d) : TyX K H v (.type (tyD d)) := by
  cases h with
  | non => exact .base .non
  | bl b => exact .base (.bl b)
  | int i => exact .base (.int i)
  | str x => exact .base (.str x)
  | lst ha _ => exact .base (.lst ha)
  | tup ha _ =>
    rcases ha with ha | ⟨o, ha⟩
    · exact .base (.tup ha)
    · exact .fTuple ha
section
variable {X : Cx} {a b c e : Expr} {es : List Expr} {σ : L2.St} {H H' : Hp} {d : PyData} {v w : V} {x y : Str} {pos p p2 p3 pt : Pos} {k k' : Bool}
theorem ev_isi {n : String} (hm : X.mg "isinstance" = none) (h : EvD X e σ H d) (ht : EvV X c σ H (.ty n)) (hk : kitB (tyD d) n = some k) (hg : Gl X "isinstance" := by rfl) (he : starEach [e, c] X.env = (false, eval e X.env) :: starEach [c] X.env := by rfl) (he2 : starEach [c] X.env = (false, eval c X.env) :: starEach [] X.env := by rfl) (hpl : (backTo pos (starEach [c] X.env)).any (·.1) = false := by rfl) :
    EvD X (.Call (.Name "isinstance" p) [e, c] [] pos) σ H (.bool k) := fun H1 s Q q =>
  do_callB call_isi hm (by decide +kernel) (da_cons (h H1 s _ fun v H2 s2 r => da_cons (ht H2 (s.trans s2) _ fun H3 s3 => da_nil ⟨v, .ty n, _, _, k, rfl, .ty n, (r.mono s3).ty, kit_ty hk, q _ H3 (s2.trans s3) (.bl k)⟩) he2) he) hg (by decide) (by decide) he hpl
theorem ev_isi2 {n m : String} {x1} {k1 k2 : Bool} (hm : X.mg "isinstance" = none) (h : EvD X e σ H d) (ht : EvV X a σ H (.ty n)) (ht2 : EvV X b σ H (.ty m)) (hk1 : kitB (tyD d) n = some k1) (hk2 : kitB (tyD d) m = some k2) (hg : Gl X "isinstance" := by rfl)
    (he : starEach [e, .Tuple [a, b] x1 pt] X.env = (false, eval e X.env) :: starEach [.Tuple [a, b] x1 pt] X.env := by rfl) (he2 : starEach [.Tuple [a, b] x1 pt] X.env = (false, eval (.Tuple [a, b] x1 pt) X.env) :: starEach [] X.env := by rfl)
    (he3 : starEach [a, b] X.env = (false, eval a X.env) :: starEach [b] X.env := by rfl) (he4 : starEach [b] X.env = (false, eval b X.env) :: starEach [] X.env := by rfl) (hpl : (backTo pos (starEach [.Tuple [a, b] x1 pt] X.env)).any (·.1) = false := by rfl) :
    EvD X (.Call (.Name "isinstance" p) [e, .Tuple [a, b] x1 pt] [] pos) σ H (.bool (k1 || k2)) := fun H1 s Q q =>
  do_callB call_isiT hm (by decide +kernel) (da_cons (h H1 s _ fun v H2 s2 r => da_cons (DoE.of (pe_tup DoA.pa) (da_cons (ht H2 (s.trans s2) _ fun H3 s3 => da_cons (ht2 H3 ((s.trans s2).trans s3) _ fun H4 s4 => da_nil ⟨by show 2 ≤ sizeLine; decide, fun p hp =>
    da_nil ⟨v, p, [.ty n, .ty m], _, [.type n, .type m], (k1 || k2), rfl, upd_same, .cons (.ty n) (.cons (.ty m) .nil), (((r.mono s3).mono s4).mono (same_new hp)).ty,
      kitAny_cons (kit_ty hk1) (fun e1 => kitAny_cons (kit_ty hk2) (fun e2 => by rw [e1, e2]; exact kitAny_nil) (fun e2 => by rw [e1, e2]; rfl)) (fun e1 => by rw [e1]; rfl), q _ _ (((s2.trans s3).trans s4).trans (same_new hp)) (.bl _)⟩⟩) he4) he3)) he2) he) hg (by decide) (by decide) he hpl
end

/-! answers of isinstance between built-in types -/
theorem kt_int_int : kitB "int" "int" = some true := by decide +kernel
theorem kt_int_bool : kitB "int" "bool" = some false := by decide +kernel
theorem kt_int_str : kitB "int" "str" = some false := by decide +kernel
theorem kt_int_list : kitB "int" "list" = some false := by decide +kernel
theorem kt_int_tuple : kitB "int" "tuple" = some false := by decide +kernel
theorem kt_str_int : kitB "str" "int" = some false := by decide +kernel
theorem kt_str_bool : kitB "str" "bool" = some false := by decide +kernel
theorem kt_str_str : kitB "str" "str" = some true := by decide +kernel
theorem kt_str_list : kitB "str" "list" = some false := by decide +kernel
theorem kt_str_tuple : kitB "str" "tuple" = some false := by decide +kernel
theorem kt_bool_int : kitB "bool" "int" = some true := by decide +kernel
theorem kt_bool_bool : kitB "bool" "bool" = some true := by decide +kernel
theorem kt_bool_str : kitB "bool" "str" = some false := by decide +kernel
theorem kt_bool_list : kitB "bool" "list" = some false := by decide +kernel
theorem kt_bool_tuple : kitB "bool" "tuple" = some false := by decide +kernel
theorem kt_NoneType_int : kitB "NoneType" "int" = some false := by decide +kernel
theorem kt_NoneType_bool : kitB "NoneType" "bool" = some false := by decide +kernel
theorem kt_NoneType_str : kitB "NoneType" "str" = some false := by decide +kernel
theorem kt_NoneType_list : kitB "NoneType" "list" = some false := by decide +kernel
theorem kt_NoneType_tuple : kitB "NoneType" "tuple" = some false := by decide +kernel
theorem kt_list_int : kitB "list" "int" = some false := by decide +kernel
theorem kt_list_bool : kitB "list" "bool" = some false := by decide +kernel
theorem kt_list_str : kitB "list" "str" = some false := by decide +kernel
theorem kt_list_list : kitB "list" "list" = some true := by decide +kernel
theorem kt_list_tuple : kitB "list" "tuple" = some false := by decide +kernel
theorem kt_tuple_int : kitB "tuple" "int" = some false := by decide +kernel
theorem kt_tuple_bool : kitB "tuple" "bool" = some false := by decide +kernel
theorem kt_tuple_str : kitB "tuple" "str" = some false := by decide +kernel
theorem kt_tuple_list : kitB "tuple" "list" = some false := by decide +kernel
theorem kt_tuple_tuple : kitB "tuple" "tuple" = some true := by decide +kernel
end Lk
namespace Lk
open PySem PySem.Spec PyProof.Rows L2

/-! ### what is walked -/
/-- J gives the data ds, wherever the heap is related to H1 by Rl -/
def Yields (Rl : Hp → Hp → Prop) (J : It) (H1 : Hp) (ds : List PyData) : Prop :=
  (∀ (i : Nat) (d : PyData) (H' : Hp), ds[i]? = some d → Rl H1 H' → J.go i H' ∧ ∀ x H'', J.yld i H' x H'' → Same H' H'' ∧ Dl H'' x d) ∧ ∀ H', Rl H1 H' → J.stop ds.length H'
theorem Yields.imp {Rl Rl' : Hp → Hp → Prop} {J : It} {H1 : Hp} {ds : List PyData} (h : Yields Rl J H1 ds) (q : ∀ H', Rl' H1 H' → Rl H1 H') : Yields Rl' J H1 ds :=
  ⟨fun i d H' e r => h.1 i d H' e (q H' r), fun H' r => h.2 H' (q H' r)⟩
theorem yields_tup {K : PySem.W.Frag} {a : Addr} {xs : List V} {H1 : Hp} {ds : List PyData} (ha : Rd H1 a (.tup xs)) (hd : DlAll H1 xs ds) : Yields Same (Itt K a) H1 ds := by
  refine ⟨fun i d H' e r => ?_, fun H' r => ?_⟩
  · obtain ⟨v, hv, rv⟩ := hd.get e
    have hs : SqT K H' a xs := .inl (Same.rd r ha)
    refine ⟨⟨xs, v, hs, hv⟩, fun x H'' y => ?_⟩
    obtain ⟨e1, y⟩ := y
    subst e1
    have e2 := y xs hs
    rw [hv] at e2
    cases e2
    exact ⟨Same.refl _, rv.mono r⟩
  · exact ⟨xs, .inl (Same.rd r ha), Nat.le_of_eq hd.length⟩
/-- a tuple of data without lists: whatever else changes -/
theorem yields_tupT {K : PySem.W.Frag} {a : Addr} {xs : List V} {H1 : Hp} {ds : List PyData} (ha : Rd H1 a (.tup xs)) (hd : DlAll H1 xs ds) (t : tlvAll ds = true) : Yields Tk (Itt K a) H1 ds := by
  refine ⟨fun i d H' e r => ?_, fun H' r => ?_⟩
  · obtain ⟨v, hv, rv⟩ := (hd.tk r t).get e
    have hs : SqT K H' a xs := .inl (r _ _ ha)
    refine ⟨⟨xs, v, hs, hv⟩, fun x H'' y => ?_⟩
    obtain ⟨e1, y⟩ := y
    subst e1
    have e2 := y xs hs
    rw [hv] at e2
    cases e2
    exact ⟨Same.refl _, rv⟩
  · exact ⟨xs, .inl (r _ _ ha), Nat.le_of_eq hd.length⟩
theorem yields_lst {K : PySem.W.Frag} {a : Addr} {xs : List V} {H1 : Hp} {ds : List PyData} (ha : H1 a = some (.lst xs)) (hd : DlAll H1 xs ds) : Yields Same (Itl K a) H1 ds := by
  refine ⟨fun i d H' e r => ?_, fun H' r => ?_⟩
  · obtain ⟨v, hv, rv⟩ := hd.get e
    have hs : SqL K H' a xs := SqL.of (r _ _ ha)
    refine ⟨⟨xs, v, hs, hv⟩, fun x H'' y => ?_⟩
    obtain ⟨e1, y⟩ := y
    subst e1
    have e2 := y xs hs
    rw [hv] at e2
    cases e2
    exact ⟨Same.refl _, rv.mono r⟩
  · exact ⟨xs, SqL.of (r _ _ ha), Nat.le_of_eq hd.length⟩
/-- a list that stays, of data without lists -/
theorem yields_lstT {K : PySem.W.Frag} {a : Addr} {xs : List V} {H1 : Hp} {ds : List PyData} (ha : H1 a = some (.lst xs)) (hd : DlAll H1 xs ds) (t : tlvAll ds = true) : Yields (fun H H' => Tk H H' ∧ H' a = some (.lst xs)) (Itl K a) H1 ds := by
  refine ⟨fun i d H' e r => ?_, fun H' r => ?_⟩
  · obtain ⟨v, hv, rv⟩ := (hd.tk r.1 t).get e
    have hs : SqL K H' a xs := SqL.of r.2
    refine ⟨⟨xs, v, hs, hv⟩, fun x H'' y => ?_⟩
    obtain ⟨e1, y⟩ := y
    subst e1
    have e2 := y xs hs
    rw [hv] at e2
    cases e2
    exact ⟨Same.refl _, rv⟩
  · exact ⟨xs, SqL.of r.2, Nat.le_of_eq hd.length⟩
/-- a text, sign by sign -/
def signsD (x : Str) : List PyData := x.cps.toList.map fun c => .str ⟨#[c]⟩
theorem yields_str {x : Str} {H1 : Hp} : Yields (fun _ _ => True) (Its x) H1 (signsD x) := by
  refine ⟨fun i d H' e _ => ?_, fun H' _ => ?_⟩
  · unfold signsD at e
    rw [List.getElem?_map] at e
    obtain ⟨c, hc, e⟩ := Option.map_eq_some_iff.mp e
    have hi : i < x.cps.size := by
      have := (List.getElem?_eq_some_iff.mp hc).1
      simpa using this
    refine ⟨hi, fun v H'' y => ?_⟩
    obtain ⟨e1, c', hc', e2⟩ := y
    subst e1 e2
    rw [Array.getElem?_toList] at hc
    rw [hc] at hc'
    cases hc'
    rw [← e]
    exact ⟨Same.refl _, .str _⟩
  · show x.cps.size ≤ _
    unfold signsD
    simp
def zipD (xs ys : List PyData) : List PyData := (xs.zip ys).map fun p => .tuple [p.1, p.2]
theorem zipD_len (xs ys : List PyData) : (zipD xs ys).length = min xs.length ys.length := by
  unfold zipD
  rw [List.length_map, List.length_zip]
theorem zipD_get {xs ys : List PyData} {i : Nat} {d : PyData} (h : (zipD xs ys)[i]? = some d) : ∃ x y, xs[i]? = some x ∧ ys[i]? = some y ∧ d = .tuple [x, y] := by
  unfold zipD at h
  rw [List.getElem?_map] at h
  obtain ⟨p, hp, e⟩ := Option.map_eq_some_iff.mp h
  have hq := List.getElem?_zip_eq_some.mp hp
  exact ⟨p.1, p.2, hq.1, hq.2, e.symm⟩
theorem yields_zipT {K : PySem.W.Frag} {a b : Addr} {xs ys : List V} {H1 : Hp} {ds es : List PyData} (ha : Rd H1 a (.tup xs)) (hd : DlAll H1 xs ds) (hb : Rd H1 b (.tup ys)) (he : DlAll H1 ys es) : Yields Same (RZ.ItzT K a b) H1 (zipD ds es) := by
  refine ⟨fun i d H' e r => ?_, fun H' r => ?_⟩
  · obtain ⟨dx, dy, e1, e2, rfl⟩ := zipD_get e
    obtain ⟨v, hv, rv⟩ := hd.get e1
    obtain ⟨w, hw, rw'⟩ := he.get e2
    have hA : SqT K H' a xs := .inl (Same.rd r ha)
    have hB : SqT K H' b ys := .inl (Same.rd r hb)
    refine ⟨⟨xs, ys, v, w, hA, hB, hv, hw⟩, fun x H'' y => ?_⟩
    obtain ⟨T, x1, y1, rfl, hT, rfl, f1, f2⟩ := y
    have g1 := f1 xs hA
    rw [hv] at g1
    cases g1
    have g2 := f2 ys hB
    rw [hw] at g2
    cases g2
    exact ⟨same_new hT, .tup (.inl upd_same) (.cons ((rv.mono r).mono (same_new hT)) (.cons ((rw'.mono r).mono (same_new hT)) .nil))⟩
  · refine ⟨xs, ys, .inl (Same.rd r ha), .inl (Same.rd r hb), ?_⟩
    rw [hd.length, he.length, zipD_len]
    omega
theorem yields_zipL {K : PySem.W.Frag} {a b : Addr} {xs ys : List V} {H1 : Hp} {ds es : List PyData} (ha : H1 a = some (.lst xs)) (hd : DlAll H1 xs ds) (hb : H1 b = some (.lst ys)) (he : DlAll H1 ys es) : Yields Same (Itz K a b) H1 (zipD ds es) := by
  refine ⟨fun i d H' e r => ?_, fun H' r => ?_⟩
  · obtain ⟨dx, dy, e1, e2, rfl⟩ := zipD_get e
    obtain ⟨v, hv, rv⟩ := hd.get e1
    obtain ⟨w, hw, rw'⟩ := he.get e2
    have hA : SqL K H' a xs := SqL.of (r _ _ ha)
    have hB : SqL K H' b ys := SqL.of (r _ _ hb)
    refine ⟨⟨xs, ys, v, w, hA, hB, hv, hw⟩, fun x H'' y => ?_⟩
    obtain ⟨T, x1, y1, rfl, hT, rfl, f1, f2⟩ := y
    have g1 := f1 xs hA
    rw [hv] at g1
    cases g1
    have g2 := f2 ys hB
    rw [hw] at g2
    cases g2
    exact ⟨same_new hT, .tup (.inl upd_same) (.cons ((rv.mono r).mono (same_new hT)) (.cons ((rw'.mono r).mono (same_new hT)) .nil))⟩
  · refine ⟨xs, ys, SqL.of (r _ _ ha), SqL.of (r _ _ hb), ?_⟩
    rw [hd.length, he.length, zipD_len]
    omega
/-- iter, evaluated, walks the data ds; all that is tracked is kept -/
def EvI (X : Cx) (tg iter : Expr) (σ : L2.St) (H : Hp) (ds : List PyData) : Prop := ∀ H1, Same H H1 → ∀ R : It → Hp → Prop, (∀ J H2, Same H1 H2 → Yields Same J H2 ds → R J H2) → DoI X tg iter σ H1 R
section
variable {X : Cx} {a b c e tg : Expr} {es : List Expr} {σ : L2.St} {H H' : Hp} {d : PyData} {ds ds' : List PyData} {p pos tpos : Pos}
theorem ei_tup (h : EvD X e σ H (.tuple ds)) : EvI X tg e σ H ds := fun H1 s R q => DoI.of (pi_tup DoE.pe) (h H1 s _ fun v H2 s2 r => by
  cases r with
  | tup ha hd => exact ⟨_, rfl, ⟨_, (.inl ha)⟩, q _ H2 s2 (yields_tup ha hd)⟩)
theorem ei_lst (h : EvD X e σ H (.list ds)) : EvI X tg e σ H ds := fun H1 s R q => DoI.of (pi_list DoE.pe) (h H1 s _ fun v H2 s2 r => by
  cases r with
  | lst ha hd => exact ⟨_, rfl, ⟨_, SqL.of ha⟩, q _ H2 s2 (yields_lst ha hd)⟩)
theorem ei_str {z : Str} (h : EvD X e σ H (.str z)) : EvI X tg e σ H (signsD z) := fun H1 s R q => DoI.of (pi_str DoE.pe) (h H1 s _ fun v H2 s2 r => by
  cases r
  exact ⟨z, rfl, q _ H2 s2 (yields_str.imp fun _ _ => trivial)⟩)
theorem ei_zipT {elts : List Expr} {kk : Nat} (hm : X.mg "zip" = none) (ha : EvD X a σ H (.tuple ds)) (hb : EvD X b σ H (.tuple ds')) (hg : Gl X "zip" := by rfl) (he : starEach [a, b] X.env = (false, eval a X.env) :: starEach [b] X.env := by rfl) (he2 : starEach [b] X.env = (false, eval b X.env) :: starEach [] X.env := by rfl)
    (hpl : (backTo pos (starEach [b] X.env)).any (·.1) = false := by rfl) : EvI X (.Tuple elts kk tpos) (.Call (.Name "zip" p) [a, b] [] pos) σ H (zipD ds ds') := fun H1 s R q =>
  DoI.of (RZ.pi_zipA hg hm DoA.pa he hpl) (da_cons (ha H1 s _ fun u H2 s2 ru => da_cons (hb H2 (s.trans s2) _ fun v H3 s3 rv => da_nil (by
    cases ru.mono s3 with
    | tup hA hd =>
      cases rv with
      | tup hB he => exact ⟨_, _, _, _, rfl, .inr ⟨(.inl hA), (.inl hB), q _ H3 (s2.trans s3) (yields_zipT hA hd hB he)⟩⟩)) he2) he)
theorem ei_zipL {elts : List Expr} {kk : Nat} (hm : X.mg "zip" = none) (ha : EvD X a σ H (.list ds)) (hb : EvD X b σ H (.list ds')) (hg : Gl X "zip" := by rfl) (he : starEach [a, b] X.env = (false, eval a X.env) :: starEach [b] X.env := by rfl) (he2 : starEach [b] X.env = (false, eval b X.env) :: starEach [] X.env := by rfl)
    (hpl : (backTo pos (starEach [b] X.env)).any (·.1) = false := by rfl) : EvI X (.Tuple elts kk tpos) (.Call (.Name "zip" p) [a, b] [] pos) σ H (zipD ds ds') := fun H1 s R q =>
  DoI.of (RZ.pi_zipA hg hm DoA.pa he hpl) (da_cons (ha H1 s _ fun u H2 s2 ru => da_cons (hb H2 (s.trans s2) _ fun v H3 s3 rv => da_nil (by
    cases ru.mono s3 with
    | lst hA hd =>
      cases rv with
      | lst hB he => exact ⟨_, _, _, _, rfl, .inl ⟨SqL.of hA, SqL.of hB, q _ H3 (s2.trans s3) (yields_zipL hA hd hB he)⟩⟩)) he2) he)
end

/-! ### for -/
/-- what a walk's every turn is to show: Pv by the turn, the slots, the heap -/
structure Walked (X : Cx) (g : TG) (body : List Stmt) (D : Ends) (σ : L2.St) (J : It) (H1 : Hp) : Prop where
  ex : ∃ (Rl : Hp → Hp → Prop) (ds : List PyData) (Pv : Nat → L2.St → Hp → Prop), Yields Rl J H1 ds ∧ Pv 0 σ H1 ∧ (∀ i σ' H', Pv i σ' H' → Rl H1 H') ∧
    (∀ i d v σ' H' H'', ds[i]? = some d → Pv i σ' H' → Same H' H'' → Dl H'' v d → g v σ' H'' fun σ2 H2 => DoSs X body { D with nx := Pv (i + 1), ct := Pv (i + 1), bk := D.nx } σ2 H2) ∧ ∀ σ' H', Pv ds.length σ' H' → D.nx σ' H'
theorem ds_for {X : Cx} {tg iter : Expr} {body : List Stmt} {g : TG} {D : Ends} {σ : L2.St} {H : Hp} {pos : Pos} (hp : PassesOwn (model X.prog X.w) X.A X.env X.xe) (hc : X.calm = true) (hg : PG X tg g) (hi : DoI X tg iter σ H fun J H1 => Walked X g body D σ J H1)
    (hs : ∀ x, foldedSetIterable iter X.env x = pure x := by intro _; rfl) : DoS X (.For tg iter body [] pos) D σ H := by
  refine DoS.of (ps_for hp hc DoI.pi hg DoSs.pss hs) ?_
  show DoI X tg iter σ H _
  refine ⟨fun pins s I => thn (hi.run pins s I) fun v s1 h1 => thn h1 fun itv s2 h2 => ?_⟩
  obtain ⟨it, fp, tn, J, H2, e, I2, T, st2, f2, ⟨Rl, ds, Pv, Y, p0, pr, ps, pd⟩⟩ := h2
  refine ⟨it, fp, tn, J, H2, e, I2, T, st2, f2, fun i m σ' H' => m = ds.length - i ∧ i ≤ ds.length ∧ Pv i σ' H', ⟨ds.length, rfl, Nat.zero_le _, p0⟩, ?_⟩
  rintro i m σ' H' ⟨rfl, hi', p⟩
  by_cases hlt : i < ds.length
  · have e1 : ds[i]? = some ds[i] := List.getElem?_eq_getElem hlt
    obtain ⟨g1, g2⟩ := Y.1 i _ H' e1 (pr i σ' H' p)
    refine .inr ⟨g1, Pv (i + 1), fun σ2 H3 q => ⟨ds.length - (i + 1), by omega, rfl, hlt, q⟩, fun x H'' y => ?_⟩
    obtain ⟨s2, r⟩ := g2 x H'' y
    exact ps i _ x σ' H' H'' e1 p s2 r
  · have e1 : i = ds.length := by omega
    subst e1
    exact .inl ⟨Y.2 H' (pr _ σ' H' p), pd σ' H' p⟩

/-! ### comprehensions -/
structure DoTs (X : Cx) (ifs : List Expr) (σ : L2.St) (H : Hp) (Q : Bool → Hp → Prop) : Prop where
  run : ∀ (pins : List (Addr × Obj)) (s : Shared), Inv X pins σ H s →
  wpAny (model X.prog X.w) X.A (forIn ifs true fun c r => if r = true then do let ok ← isTrue c X.env (eval c X.env); pure (ForInStep.yield ok) else pure (ForInStep.yield r)) (TP X pins σ Q) X.xe s
theorem DoTs.pts {X : Cx} {ifs : List Expr} : PTs X ifs (DoTs X ifs) := ⟨fun pins s _ _ _ I h => h.run pins s I⟩
def EvTs (X : Cx) (ifs : List Expr) (σ : L2.St) (H : Hp) (b : Bool) : Prop := ∀ H1, Same H H1 → ∀ Q : Bool → Hp → Prop, (∀ H2, Same H1 H2 → Q b H2) → DoTs X ifs σ H1 Q
theorem ets_nil {X : Cx} {σ : L2.St} {H : Hp} : EvTs X [] σ H true := fun H1 s Q q => ⟨fun pins sh I => pts_nil.run pins sh σ H1 Q I (q H1 (Same.refl H1))⟩
theorem ets_one {X : Cx} {c : Expr} {σ : L2.St} {H : Hp} {b : Bool} (h : EvT X c σ H b) : EvTs X [c] σ H b := fun H1 s Q q => ⟨fun pins sh I => (pts_one DoT.pt).run pins sh σ H1 Q I (h H1 s Q q)⟩
/-- any comprehension's reading, at the goal; the block's context is any -/
theorem do_lc {X : Cx} {elt tg iter : Expr} {ifs : List Expr} {scope : Scope} {own : List (Str × Nat)} {pos : Pos} {g : TG} {σ : L2.St} {H : Hp} {Q : VK} (hc : X.calm = true) (hN : X.N.Nodup) (ok : BlkOk X.N X.env.scope scope own)
    (hg : ∀ (s : Shared) (H : Hp) (C : Addr) (cl : List (Str × Addr)) (fp : List Addr), PG (X.blk s H scope (compEnvC scope cl C X.env) fp) tg g)
    (h : tLc (DoI X tg iter) g (fun σ' H' Q' => ∀ (s : Shared) (H0 : Hp) (C : Addr) (cl : List (Str × Addr)) (fp : List Addr), DoTs (X.blk s H0 scope (compEnvC scope cl C X.env) fp) ifs σ' H' Q')
      (fun σ' H' Q' => ∀ (s : Shared) (H0 : Hp) (C : Addr) (cl : List (Str × Addr)) (fp : List Addr), DoE (X.blk s H0 scope (compEnvC scope cl C X.env) fp) elt σ' H' Q') (own.map (·.2)) σ H Q) (hs : ∀ x, foldedSetIterable iter X.env x = pure x := by intro _; rfl) :
    DoE X (.ListComp elt [⟨tg, iter, ifs, 0⟩] scope pos) σ H Q :=
  DoE.of (pe_lc hc hN DoI.pi ok hg (fun s H C cl fp => ⟨fun pins sh σ' H' Q' I q => (q s H C cl fp).run pins sh I⟩) (fun s H C cl fp => ⟨fun pins sh σ' H' Q' I q => (q s H C cl fp).run pins sh I⟩) hs) h
/-- the same, name = [..] on one line -/
theorem ds_setLc (i : Nat) {X : Cx} {elt tg iter : Expr} {ifs : List Expr} {scope : Scope} {own : List (Str × Nat)} {pos spos py : Pos} {y : Str} {g : TG} {σ : L2.St} {H : Hp} {D : Ends} (hc : X.calm = true) (hN : X.N.Nodup) (hy : X.N[i]? = some y) (hyl : X.env.scope.names.lookup y = some .local)
    (hsw : swapsWith (.ListComp elt [⟨tg, iter, ifs, 0⟩] scope pos) (some (.Name y py)) spos.line X.env = pure true) (ok : BlkOk X.N X.env.scope scope own)
    (hg : ∀ (s : Shared) (H : Hp) (C : Addr) (cl : List (Str × Addr)) (fp : List Addr), PG (X.blk s H scope (compEnvC scope cl C X.env) fp) tg g)
    (h : tLc (DoI X tg iter) g (fun σ' H' Q' => ∀ (s : Shared) (H0 : Hp) (C : Addr) (cl : List (Str × Addr)) (fp : List Addr), DoTs (X.blk s H0 scope (compEnvC scope cl C X.env) fp) ifs σ' H' Q')
      (fun σ' H' Q' => ∀ (s : Shared) (H0 : Hp) (C : Addr) (cl : List (Str × Addr)) (fp : List Addr), DoE (X.blk s H0 scope (compEnvC scope cl C X.env) fp) elt σ' H' Q') (own.map (·.2)) σ H fun v H1 => D.nx (σ.set i (some v)) H1) (hs : ∀ x, foldedSetIterable iter X.env x = pure x := by intro _; rfl) :
    DoS X (.Assign [.Name y py] (.ListComp elt [⟨tg, iter, ifs, 0⟩] scope pos) spos) D σ H :=
  DoS.of (ps_setLc hc hN hy hyl hsw DoI.pi ok hg (fun s H C cl fp => ⟨fun pins sh σ' H' Q' I q => (q s H C cl fp).run pins sh I⟩) (fun s H C cl fp => ⟨fun pins sh σ' H' Q' I q => (q s H C cl fp).run pins sh I⟩) hs) h
/-- what is asked of a comprehension over data: each datum is stored, tested, and gives an element; the elements hold no lists -/
structure LcTurn (X : Cx) (scope : Scope) (g : TG) (ifs : List Expr) (elt : Expr) (vs : List Nat) (σ : L2.St) (H' : Hp) (v : V) (b : Bool) (d' : PyData) : Prop where
  ex : ∃ τ : L2.St, (∀ Q' : L2.St → Hp → Prop, Q' τ H' → g v (wipe σ vs) H' Q') ∧ wipe τ vs = wipe σ vs ∧
    (∀ (s : Shared) (H0 : Hp) (C : Addr) (cl : List (Str × Addr)) (fp : List Addr), EvTs (X.blk s H0 scope (compEnvC scope cl C X.env) fp) ifs τ H' b) ∧
    (b = true → ∀ (s : Shared) (H0 : Hp) (C : Addr) (cl : List (Str × Addr)) (fp : List Addr), EvD (X.blk s H0 scope (compEnvC scope cl C X.env) fp) elt τ H' d')
theorem lc_data {X : Cx} {elt tg iter : Expr} {ifs : List Expr} {scope : Scope} {vs : List Nat} {g : TG} {σ : L2.St} {H : Hp} {ds : List PyData} (fb : PyData → Bool) (fe : PyData → PyData)
    (hi : EvI X tg iter σ H ds) (hz : ds.length ≤ 1000000) (tl : ∀ d ∈ ds, fb d = true → tlv (fe d) = true)
    (turn : ∀ d v H', d ∈ ds → Same H H' → Dl H' v d → LcTurn X scope g ifs elt vs σ H' v (fb d) (fe d)) : ∀ H0, Same H H0 → ∀ Q : VK, (∀ v H', Same H0 H' → Dl H' v (.list ((ds.filter fb).map fe)) → Q v H') →
    tLc (DoI X tg iter) g (fun σ' H' Q' => ∀ (s : Shared) (H0 : Hp) (C : Addr) (cl : List (Str × Addr)) (fp : List Addr), DoTs (X.blk s H0 scope (compEnvC scope cl C X.env) fp) ifs σ' H' Q')
      (fun σ' H' Q' => ∀ (s : Shared) (H0 : Hp) (C : Addr) (cl : List (Str × Addr)) (fp : List Addr), DoE (X.blk s H0 scope (compEnvC scope cl C X.env) fp) elt σ' H' Q') vs σ H0 Q := by
  intro H0 s0 Q q
  refine hi H0 s0 _ fun J H1 s1 Y Dl hD => ?_
  refine ⟨fun i m H' => m = ds.length - i ∧ i ≤ ds.length ∧ Same H1 H' ∧ ∃ acc, H' Dl = some (.lst acc) ∧ acc.length ≤ i ∧ DlAll H' acc (((ds.take i).filter fb).map fe),
    ⟨ds.length, rfl, Nat.zero_le _, same_new hD, [], upd_same, Nat.le_refl _, .nil⟩, ?_⟩
  rintro i m H' ⟨rfl, hi', sH, acc, hA, hl, hda⟩
  by_cases hlt : i < ds.length
  · have e1 : ds[i]? = some ds[i] := List.getElem?_eq_getElem hlt
    have hmem : ds[i] ∈ ds := List.getElem_mem hlt
    obtain ⟨g1, g2⟩ := Y.1 i _ H' e1 sH
    have ttake : tlvAll (((ds.take i).filter fb).map fe) = true := by
      have : ∀ l : List PyData, (∀ d ∈ l, tlv d = true) → tlvAll l = true := by
        intro l
        induction l with
        | nil => intro _; rfl
        | cons x l ih =>
          intro hx
          rw [tlvAll, hx x List.mem_cons_self, ih fun d hd => hx d (List.mem_cons_of_mem _ hd)]
          rfl
      refine this _ fun d hd => ?_
      obtain ⟨y, hy, rfl⟩ := List.mem_map.mp hd
      obtain ⟨h1, h2⟩ := List.mem_filter.mp hy
      exact tl y (List.mem_of_mem_take h1) h2
    refine .inr ⟨g1, fun H'' => i + 1 ≤ ds.length ∧ Same H1 H'' ∧ ∃ acc, H'' Dl = some (.lst acc) ∧ acc.length ≤ i + 1 ∧ DlAll H'' acc (((ds.take (i + 1)).filter fb).map fe), fun H'' n => ⟨ds.length - (i + 1), by omega, rfl, n.1, n.2⟩, fun x H'' y => ?_⟩
    obtain ⟨s2, r⟩ := g2 x H'' y
    obtain ⟨τ, t1, t2, t3, t4⟩ := (turn _ x H'' hmem ((s0.trans s1).trans (sH.trans s2)) r).ex
    refine t1 _ ⟨t2, fun s H0' C cl fp => ?_⟩
    refine t3 s H0' C cl fp H'' (Same.refl _) _ fun H3 s3 => ?_
    have etake : ds.take (i + 1) = ds.take i ++ [ds[i]] := by rw [List.take_add_one, e1]; rfl
    cases hb : fb ds[i] with
    | false =>
      rw [if_neg (by decide)]
      refine ⟨hlt, (sH.trans s2).trans s3, acc, (s2.trans s3) _ _ hA, by omega, ?_⟩
      rw [etake, List.filter_append, List.map_append]
      have : [ds[i]].filter fb = [] := by rw [List.filter_cons, if_neg (by rw [hb]; decide)]; rfl
      rw [this]
      simpa using hda.mono (s2.trans s3)
    | true =>
      rw [if_pos rfl]
      intro s H0'' C cl fp
      refine t4 hb s H0'' C cl fp H3 s3 _ fun z H4 s4 rz => ?_
      have hA4 := (s2.trans (s3.trans s4)) _ _ hA
      have tk : Tk H4 (upd H4 Dl (.lst (acc ++ [z]))) := Tk.upd hA4
      have sz : acc.length < sizeLine := Nat.lt_of_le_of_lt (show acc.length ≤ 1000000 by omega) (by decide)
      refine ⟨acc, hA4, sz, hlt, fun b o e => ?_, acc ++ [z], upd_same, by rw [List.length_append, List.length_singleton]; omega, ?_⟩
      · rw [upd_ne (ne_of_none e hD)]
        exact (sH.trans (s2.trans (s3.trans s4))) b o e
      · rw [etake, List.filter_append, List.map_append]
        have : [ds[i]].filter fb = [ds[i]] := by rw [List.filter_cons, if_pos hb]; rfl
        rw [this]
        exact ((hda.mono (s2.trans (s3.trans s4))).tk tk ttake).append (.one (rz.tk tk (tl _ hmem hb)))
  · have e1 : i = ds.length := by omega
    subst e1
    refine .inl ⟨Y.2 H' sH, q _ H' (s1.trans sH) (.lst hA ?_)⟩
    rw [List.take_of_length_le (Nat.le_refl _)] at hda
    exact hda
section
variable {X : Cx} {elt tg iter : Expr} {ifs : List Expr} {scope : Scope} {g : TG} {σ : L2.St} {H : Hp} {ds : List PyData} {pos p p1 p2 : Pos} {x y : Str}
/-- [elt for x in iter if ..], x in slot j -/
theorem ev_lc (j : Nat) (fb : PyData → Bool) (fe : PyData → PyData) (hc : X.calm = true) (hN : X.N.Nodup) (ok : BlkOk X.N X.env.scope scope [(x, j)]) (hi : EvI X (.Name x p) iter σ H ds) (hw : ∀ v, wipe ((wipe σ [j]).set j (some v)) [j] = wipe σ [j]) (hz : ds.length ≤ 1000000) (tl : ∀ d ∈ ds, fb d = true → tlv (fe d) = true)
    (ht : ∀ d v H', d ∈ ds → Same H H' → Dl H' v d → ∀ (s : Shared) (H0 : Hp) (C : Addr) (cl : List (Str × Addr)) (fp : List Addr), EvTs (X.blk s H0 scope (compEnvC scope cl C X.env) fp) ifs ((wipe σ [j]).set j (some v)) H' (fb d))
    (he : ∀ d v H', d ∈ ds → Same H H' → Dl H' v d → fb d = true → ∀ (s : Shared) (H0 : Hp) (C : Addr) (cl : List (Str × Addr)) (fp : List Addr), EvD (X.blk s H0 scope (compEnvC scope cl C X.env) fp) elt ((wipe σ [j]).set j (some v)) H' (fe d))
    (hx : scope.names.lookup x = some .local := by rfl) (hx2 : ∀ (s : Shared) (H : Hp) (C : Addr) (cl : List (Str × Addr)) (fp : List Addr), (X.blk s H scope (compEnvC scope cl C X.env) fp).env.scope.names.lookup x = some .local := by intro _ _ _ _ _; rfl) (hj : X.N[j]? = some x := by rfl) (hs : ∀ x, foldedSetIterable iter X.env x = pure x := by intro _; rfl) :
    EvD X (.ListComp elt [⟨.Name x p, iter, ifs, 0⟩] scope pos) σ H (.list ((ds.filter fb).map fe)) := fun H1 s1 Q q =>
  do_lc (own := [(x, j)]) (g := gName j) hc hN ok (fun s H C cl fp => pg_name hN hj (.inl (hx2 s H C cl fp)) (.inr (hx2 s H C cl fp))) (lc_data (vs := [j]) fb fe hi hz tl (fun d v H' hd s r => ⟨_, fun Q' h => h, hw v, ht d v H' hd s r, fun hb => he d v H' hd s r hb⟩) H1 s1 Q q) hs
/-- [elt for x in iter] -/
theorem ev_lc0 (j : Nat) (fe : PyData → PyData) (hc : X.calm = true) (hN : X.N.Nodup) (ok : BlkOk X.N X.env.scope scope [(x, j)]) (hi : EvI X (.Name x p) iter σ H ds) (hw : ∀ v, wipe ((wipe σ [j]).set j (some v)) [j] = wipe σ [j]) (hz : ds.length ≤ 1000000) (tl : ∀ d ∈ ds, tlv (fe d) = true)
    (he : ∀ d v H', d ∈ ds → Same H H' → Dl H' v d → ∀ (s : Shared) (H0 : Hp) (C : Addr) (cl : List (Str × Addr)) (fp : List Addr), EvD (X.blk s H0 scope (compEnvC scope cl C X.env) fp) elt ((wipe σ [j]).set j (some v)) H' (fe d))
    (hx : scope.names.lookup x = some .local := by rfl) (hx2 : ∀ (s : Shared) (H : Hp) (C : Addr) (cl : List (Str × Addr)) (fp : List Addr), (X.blk s H scope (compEnvC scope cl C X.env) fp).env.scope.names.lookup x = some .local := by intro _ _ _ _ _; rfl) (hj : X.N[j]? = some x := by rfl) (hs : ∀ x, foldedSetIterable iter X.env x = pure x := by intro _; rfl) :
    EvD X (.ListComp elt [⟨.Name x p, iter, [], 0⟩] scope pos) σ H (.list (ds.map fe)) := by
  have h := ev_lc (ifs := []) (pos := pos) j (fun _ => true) fe hc hN ok hi hw hz (fun d hd _ => tl d hd) (fun _ _ _ _ _ _ _ _ _ _ _ => ets_nil) (fun d v H' hd s r _ => he d v H' hd s r) hx hx2 hj hs
  have e : ds.filter (fun _ => true) = ds := List.filter_eq_self.mpr fun _ _ => rfl
  rw [e] at h
  exact h
/-- [elt for x, y in iter if ..], x in slot j1, y in slot j2 -/
theorem ev_lcP {kk : Nat} {tpos : Pos} (j1 j2 : Nat) (fb : PyData → Bool) (fe : PyData → PyData) (hc : X.calm = true) (hN : X.N.Nodup) (ok : BlkOk X.N X.env.scope scope [(x, j1), (y, j2)]) (hi : EvI X (.Tuple [.Name x p1, .Name y p2] kk tpos) iter σ H ds) (hw : ∀ v w, wipe (((wipe σ [j1, j2]).set j1 (some v)).set j2 (some w)) [j1, j2] = wipe σ [j1, j2]) (hz : ds.length ≤ 1000000) (tl : ∀ d ∈ ds, fb d = true → tlv (fe d) = true)
    (hp : ∀ d ∈ ds, ∃ d1 d2, d = .tuple [d1, d2])
    (ht : ∀ d1 d2 v w H', PyData.tuple [d1, d2] ∈ ds → Same H H' → Dl H' v d1 → Dl H' w d2 → ∀ (s : Shared) (H0 : Hp) (C : Addr) (cl : List (Str × Addr)) (fp : List Addr), EvTs (X.blk s H0 scope (compEnvC scope cl C X.env) fp) ifs (((wipe σ [j1, j2]).set j1 (some v)).set j2 (some w)) H' (fb (.tuple [d1, d2])))
    (he : ∀ d1 d2 v w H', PyData.tuple [d1, d2] ∈ ds → Same H H' → Dl H' v d1 → Dl H' w d2 → fb (.tuple [d1, d2]) = true → ∀ (s : Shared) (H0 : Hp) (C : Addr) (cl : List (Str × Addr)) (fp : List Addr), EvD (X.blk s H0 scope (compEnvC scope cl C X.env) fp) elt (((wipe σ [j1, j2]).set j1 (some v)).set j2 (some w)) H' (fe (.tuple [d1, d2])))
    (hx2 : ∀ (s : Shared) (H : Hp) (C : Addr) (cl : List (Str × Addr)) (fp : List Addr), (X.blk s H scope (compEnvC scope cl C X.env) fp).env.scope.names.lookup x = some .local := by intro _ _ _ _ _; rfl) (hy2 : ∀ (s : Shared) (H : Hp) (C : Addr) (cl : List (Str × Addr)) (fp : List Addr), (X.blk s H scope (compEnvC scope cl C X.env) fp).env.scope.names.lookup y = some .local := by intro _ _ _ _ _; rfl)
    (hj1 : X.N[j1]? = some x := by rfl) (hj2 : X.N[j2]? = some y := by rfl) (hs : ∀ x, foldedSetIterable iter X.env x = pure x := by intro _; rfl) :
    EvD X (.ListComp elt [⟨.Tuple [.Name x p1, .Name y p2] kk tpos, iter, ifs, 0⟩] scope pos) σ H (.list ((ds.filter fb).map fe)) := fun H1 s1 Q q =>
  do_lc (own := [(x, j1), (y, j2)]) (g := gTup X.K 2 (gCons (gName j1) (gCons (gName j2) gNil))) hc hN ok
    (fun s H C cl fp => pg_tup (X := X.blk s H scope (compEnvC scope cl C X.env) fp) hc (pgs_cons (pg_name hN hj1 (.inl (hx2 s H C cl fp)) (.inr (hx2 s H C cl fp))) (pgs_cons (pg_name hN hj2 (.inl (hy2 s H C cl fp)) (.inr (hy2 s H C cl fp))) pgs_nil)))
    (lc_data (vs := [j1, j2]) fb fe hi hz tl (fun d v H' hd s r => by
      obtain ⟨d1, d2, rfl⟩ := hp d hd
      cases r with
      | tup ha hd' =>
        cases hd' with
        | cons r1 r2 =>
          cases r2 with
          | cons r2 r3 =>
            cases r3
            exact ⟨_, fun Q' h => ⟨_, _, rfl, (.inl ha), rfl, _, _, rfl, _, _, rfl, rfl, h⟩, hw _ _, ht d1 d2 _ _ H' hd s r1 r2, fun hb => he d1 d2 _ _ H' hd s r1 r2 hb⟩) H1 s1 Q q) hs
end
end Lk
namespace Lk
open PySem

/-! ### the order of texts, of releases -/
def sLt (a b : Str) : Prop := a.cps.toList < b.cps.toList
instance (a b : Str) : Decidable (sLt a b) := inferInstanceAs (Decidable (a.cps.toList < b.cps.toList))
theorem sLt_irrefl (a : Str) : ¬ sLt a a := List.lt_irrefl _
theorem sLt_trans {a b c : Str} (h : sLt a b) (h' : sLt b c) : sLt a c := List.lt_trans h h'
theorem sLt_asymm {a b : Str} (h : sLt a b) : ¬ sLt b a := fun h' => sLt_irrefl a (sLt_trans h h')
theorem str_ext {x y : Str} (h : x.cps.toList = y.cps.toList) : x = y := by
  have hc : x.cps = y.cps := Array.toList_inj.mp h
  cases x
  cases y
  simp only [Str.mk.injEq]
  exact hc
theorem sLt_tri (a b : Str) : sLt a b ∨ a = b ∨ sLt b a := by
  by_cases h : sLt a b
  · exact .inl h
  · by_cases h' : sLt b a
    · exact .inr (.inr h')
    · exact .inr (.inl (str_ext (List.le_antisymm h' h)))
abbrev Rel := Str × Int
def rLt (a b : Rel) : Prop := sLt a.1 b.1 ∨ (a.1 = b.1 ∧ a.2 < b.2)
instance (a b : Rel) : Decidable (rLt a b) := inferInstanceAs (Decidable (_ ∨ _))
theorem rLt_irrefl (a : Rel) : ¬ rLt a a := fun h => h.elim (sLt_irrefl _) fun h => by omega
theorem rLt_trans {a b c : Rel} (h : rLt a b) (h' : rLt b c) : rLt a c := by
  rcases h with h | ⟨h1, h2⟩
  · rcases h' with h' | ⟨h3, h4⟩
    · exact .inl (sLt_trans h h')
    · exact .inl (h3 ▸ h)
  · rcases h' with h' | ⟨h3, h4⟩
    · exact .inl (h1 ▸ h')
    · exact .inr ⟨h1.trans h3, by omega⟩
theorem rLt_asymm {a b : Rel} (h : rLt a b) : ¬ rLt b a := fun h' => rLt_irrefl a (rLt_trans h h')
/-- two rising lists with the same members are one -/
theorem asc_ext {α : Type} {R : α → α → Prop} (irr : ∀ a, ¬ R a a) (asy : ∀ a b, R a b → ¬ R b a) {l m : List α} (hl : l.Pairwise R) (hm : m.Pairwise R) (h : ∀ x, x ∈ l ↔ x ∈ m) : l = m := by
  have nd : ∀ {l : List α}, l.Pairwise R → l.Nodup := fun h => h.imp fun r e => by subst e; exact irr _ r
  have p : l.Perm m := (List.perm_ext_iff_of_nodup (nd hl) (nd hm)).mpr h
  exact List.Perm.eq_of_pairwise (fun a b _ _ r s => absurd s (asy _ _ r)) hl hm p
theorem nodup_of_asc {α : Type} {R : α → α → Prop} (irr : ∀ a, ¬ R a a) {l : List α} (h : l.Pairwise R) : l.Nodup := h.imp fun r e => by subst e; exact irr _ r
/-- a set of texts, rising -/
def insS (x : Str) : List Str → List Str
  | [] => [x]
  | y :: r => if sLt x y then x :: y :: r else if x = y then y :: r else y :: insS x r
def sortSet : List Str → List Str
  | [] => []
  | x :: r => insS x (sortSet r)
theorem mem_insS {x z : Str} : ∀ {l : List Str}, z ∈ insS x l ↔ z = x ∨ z ∈ l
  | [] => by simp [insS]
  | y :: r => by
    unfold insS
    split
    · simp
    · split
      · rename_i e
        subst e
        simp
      · rw [List.mem_cons, mem_insS (l := r), List.mem_cons]
        exact ⟨fun h => h.elim (fun h => .inr (.inl h)) fun h => h.elim .inl fun h => .inr (.inr h), fun h => h.elim (fun h => .inr (.inl h)) fun h => h.elim .inl fun h => .inr (.inr h)⟩
theorem mem_sortSet {x : Str} : ∀ {xs : List Str}, x ∈ sortSet xs ↔ x ∈ xs
  | [] => Iff.rfl
  | y :: r => by
    show x ∈ insS y (sortSet r) ↔ _
    rw [mem_insS, mem_sortSet, List.mem_cons]
theorem insS_asc {x : Str} : ∀ {l : List Str}, l.Pairwise sLt → (insS x l).Pairwise sLt
  | [], _ => by simp [insS]
  | y :: r, h => by
    have h' := List.pairwise_cons.mp h
    unfold insS
    split
    · rename_i hx
      refine List.pairwise_cons.mpr ⟨fun z hz => ?_, h⟩
      rcases List.mem_cons.mp hz with e | e
      · rw [e]; exact hx
      · exact sLt_trans hx (h'.1 z e)
    · split
      · exact h
      · rename_i h1 h2
        refine List.pairwise_cons.mpr ⟨fun z hz => ?_, insS_asc h'.2⟩
        rcases mem_insS.mp hz with e | e
        · rw [e]
          rcases sLt_tri x y with q | q | q
          · exact absurd q h1
          · exact absurd q h2
          · exact q
        · exact h'.1 z e
theorem sortSet_asc : ∀ xs : List Str, (sortSet xs).Pairwise sLt
  | [] => List.Pairwise.nil
  | _ :: r => insS_asc (sortSet_asc r)
theorem insS_len {x : Str} : ∀ l : List Str, (insS x l).length ≤ l.length + 1
  | [] => Nat.le_refl _
  | y :: r => by
    unfold insS
    split
    · exact Nat.le_refl _
    · split
      · exact Nat.le_succ _
      · have := insS_len (x := x) r
        simp only [List.length_cons]
        omega
theorem sortSet_len : ∀ xs : List Str, (sortSet xs).length ≤ xs.length
  | [] => Nat.le_refl _
  | x :: r => by
    have h1 := insS_len (x := x) (sortSet r)
    have h2 := sortSet_len r
    show (insS x (sortSet r)).length ≤ r.length + 1
    omega
theorem sortSet_uniq {xs ys : List Str} (h : ys.Pairwise sLt) (hm : ∀ x, x ∈ ys ↔ x ∈ xs) : ys = sortSet xs :=
  asc_ext sLt_irrefl (fun _ _ => sLt_asymm) h (sortSet_asc xs) fun x => (hm x).trans mem_sortSet.symm
theorem sortSet_congr {xs ys : List Str} (hm : ∀ x, x ∈ xs ↔ x ∈ ys) : sortSet xs = sortSet ys := sortSet_uniq (sortSet_asc xs) fun x => mem_sortSet.trans (hm x)

/-! ### shelves -/
abbrev Lot := List Int
abbrev Rules := List (Str × Lot)
structure Part where
  rel : Rel
  rules : Rules
  first : Int
  last : Option Int
def encR (r : Rel) : PyData := .tuple [.str r.1, .int r.2]
def encL (l : Lot) : PyData := .tuple (l.map .int)
def encU (u : Str × Lot) : PyData := .tuple [.str u.1, encL u.2]
def encRs (rs : Rules) : PyData := .tuple (rs.map encU)
def encO : Option Int → PyData
  | none => .none
  | some i => .int i
def encP (p : Part) : PyData := .tuple [encR p.rel, encRs p.rules, .int p.first, encO p.last]
def encS (s : List Part) : PyData := .tuple (s.map encP)
def encK (k : List Rel) : PyData := .tuple (k.map encR)

/-! what the program's defs answer -/
def lotIn : Rules → Str → Option Lot
  | [], _ => none
  | u :: r, n => if u.1 = n then some u.2 else lotIn r n
def partAt : List Part → Rel → Option Part
  | [], _ => none
  | p :: r, x => if p.rel = x then some p else partAt r x
def lotsOf (near far : Rules) (n : Str) : List Lot := (lotIn near n).toList ++ (lotIn far n).toList
def both (near far : Rules) (n : Str) : Lot := match (lotsOf near far n).head?, (lotsOf near far n).getLast? with
  | some a, some b => a.filter fun x => decide (x ∈ b)
  | _, _ => []
def namesOf (near far : Rules) : List Str := sortSet (near.map (·.1) ++ far.map (·.1))
def rcGo (near far : Rules) : List Str → Option Rules
  | [] => some []
  | n :: r => if both near far n = [] then none else (rcGo near far r).map ((n, both near far n) :: ·)
def rulesCommon (near far : Rules) : Option Rules := rcGo near far (namesOf near far)
def lastOf (a b : Option Int) : Option Int := match a, b with
  | some x, some y => some (if y < x then y else x)
  | some x, none => some x
  | none, o => o
def firstOf (a b : Int) : Int := if b > a then b else a
def badLast (l : Option Int) (f : Int) : Bool := match l with
  | some x => decide (x < f)
  | none => false
def partCommon (a b : Part) : Option Part := match rulesCommon a.rules b.rules with
  | none => none
  | some rs => if badLast (lastOf a.last b.last) (firstOf a.first b.first) then none else some ⟨a.rel, rs, firstOf a.first b.first, lastOf a.last b.last⟩
def meetOf (one two : List Part) : List Part := one.filterMap fun p => (partAt two p.rel).bind (partCommon p)
def rulesWithin (near far : Rules) : Bool := far.all fun u => match lotIn near u.1 with
  | none => false
  | some own => own.all fun x => decide (x ∈ u.2)
def lastWithin (near far : Option Int) : Bool := match far with
  | none => true
  | some l => match near with
    | none => false
    | some m => decide (m ≤ l)
def partWithin (near : Part) (far : Option Part) : Bool := match far with
  | none => false
  | some f => decide (f.first ≤ near.first) && rulesWithin near.rules f.rules && lastWithin near.last f.last
def isWithin (one two : List Part) : Bool := one.all fun p => partWithin p (partAt two p.rel)
/-! the law's own: what stands -/
def stateOf (lock : List Rel) (n : Str) : Int := match lock.find? fun r => decide (r.1 = n) with
  | some r => r.2
  | none => 0
def onDay (p : Part) (day : Int) : Bool := decide (p.first ≤ day) && (match p.last with | none => true | some l => decide (day ≤ l))
def stand1 (s : List Part) (day : Int) (lock : List Rel) (r : Rel) : Bool := match partAt s r with
  | none => false
  | some p => onDay p day && p.rules.all fun u => decide (stateOf lock u.1 ∈ u.2)
def standsP (s : List Part) (day : Int) (lock : List Rel) : Bool := lock.all (stand1 s day lock)

/-! ### well formed -/
def nameList : List Str := ["app", "lib", "log", "net", "b", "zip", "a"]
def NameOk (n : Str) : Prop := n ∈ nameList
structure WfL (l : Lot) : Prop where
  ne : l ≠ []
  asc : l.Pairwise (· < ·)
  nn : ∀ x ∈ l, 0 ≤ x
  few : l.length ≤ 10
structure WfRs (rs : Rules) : Prop where
  asc : (rs.map (·.1)).Pairwise sLt
  name : ∀ u ∈ rs, NameOk u.1
  lot : ∀ u ∈ rs, WfL u.2
structure WfP (p : Part) : Prop where
  name : NameOk p.rel.1
  ver : 1 ≤ p.rel.2
  rules : WfRs p.rules
  own : lotIn p.rules p.rel.1 = none
  first : 0 ≤ p.first
  last : ∀ l, p.last = some l → p.first ≤ l
structure WfS (s : List Part) : Prop where
  asc : (s.map (·.rel)).Pairwise rLt
  part : ∀ p ∈ s, WfP p
  few : s.length ≤ 10

/-! ### the mathematics -/
theorem lotIn_some {rs : Rules} {n : Str} {l : Lot} (h : lotIn rs n = some l) : (n, l) ∈ rs := by
  induction rs with
  | nil => cases h
  | cons u r ih =>
    unfold lotIn at h
    split at h
    · rename_i e
      cases h
      subst e
      exact List.mem_cons_self
    · exact List.mem_cons_of_mem _ (ih h)
theorem lotIn_none {rs : Rules} {n : Str} (h : lotIn rs n = none) : n ∉ rs.map (·.1) := by
  induction rs with
  | nil => simp
  | cons u r ih =>
    unfold lotIn at h
    split at h
    · cases h
    · rename_i e
      simp only [List.map_cons, List.mem_cons, not_or]
      exact ⟨fun z => e z.symm, ih h⟩
theorem lotIn_mem {rs : Rules} (asc : (rs.map (·.1)).Pairwise sLt) {u : Str × Lot} (h : u ∈ rs) : lotIn rs u.1 = some u.2 := by
  induction rs with
  | nil => cases h
  | cons v r ih =>
    unfold lotIn
    rw [List.map_cons, List.pairwise_cons] at asc
    rcases List.mem_cons.mp h with e | h
    · subst e
      rw [if_pos rfl]
    · rw [if_neg fun e => ?_]
      · exact ih asc.2 h
      · have := asc.1 u.1 (List.mem_map_of_mem h)
        rw [e] at this
        exact sLt_irrefl _ this
theorem lotIn_isSome {rs : Rules} {n : Str} (h : n ∈ rs.map (·.1)) : ∃ l, lotIn rs n = some l := by
  cases e : lotIn rs n with
  | none => exact absurd h (lotIn_none e)
  | some l => exact ⟨l, rfl⟩
theorem partAt_some {s : List Part} {r : Rel} {p : Part} (h : partAt s r = some p) : p ∈ s ∧ p.rel = r := by
  induction s with
  | nil => cases h
  | cons q t ih =>
    unfold partAt at h
    split at h
    · rename_i e
      cases h
      exact ⟨List.mem_cons_self, e⟩
    · exact ⟨List.mem_cons_of_mem _ (ih h).1, (ih h).2⟩
theorem partAt_mem {s : List Part} (asc : (s.map (·.rel)).Pairwise rLt) {p : Part} (h : p ∈ s) : partAt s p.rel = some p := by
  induction s with
  | nil => cases h
  | cons q t ih =>
    unfold partAt
    rw [List.map_cons, List.pairwise_cons] at asc
    rcases List.mem_cons.mp h with e | h
    · subst e
      rw [if_pos rfl]
    · rw [if_neg fun e => ?_]
      · exact ih asc.2 h
      · have := asc.1 p.rel (List.mem_map_of_mem h)
        rw [e] at this
        exact rLt_irrefl _ this
theorem shelf_ext {s t : List Part} (hs : (s.map (·.rel)).Pairwise rLt) (ht : (t.map (·.rel)).Pairwise rLt) (h : ∀ r, partAt s r = partAt t r) : s = t := by
  refine asc_ext (R := fun p q : Part => rLt p.rel q.rel) (fun p => rLt_irrefl _) (fun _ _ => rLt_asymm) (List.pairwise_map.mp hs) (List.pairwise_map.mp ht) fun p => ⟨fun m => ?_, fun m => ?_⟩
  · have e := partAt_mem hs m
    rw [h] at e
    exact (partAt_some e).1
  · have e := partAt_mem ht m
    rw [← h] at e
    exact (partAt_some e).1
theorem partCommon_rel {a b m : Part} (h : partCommon a b = some m) : m.rel = a.rel := by
  unfold partCommon at h
  split at h
  · cases h
  · split at h
    · cases h
    · cases h
      rfl
theorem meet_sub {two : List Part} : ∀ one : List Part, ((meetOf one two).map (·.rel)).Sublist (one.map (·.rel))
  | [] => List.Sublist.slnil
  | p :: r => by
    unfold meetOf
    rw [List.filterMap_cons]
    cases e : (partAt two p.rel).bind (partCommon p) with
    | none => exact (meet_sub r).cons _
    | some m =>
      obtain ⟨q, _, e2⟩ := Option.bind_eq_some_iff.mp e
      rw [List.map_cons, List.map_cons, partCommon_rel e2]
      exact (meet_sub r).cons₂ _
theorem meet_asc {one : List Part} (two : List Part) (h : (one.map (·.rel)).Pairwise rLt) : ((meetOf one two).map (·.rel)).Pairwise rLt := h.sublist (meet_sub one)
theorem partAt_meet {one two : List Part} (h : (one.map (·.rel)).Pairwise rLt) (r : Rel) : partAt (meetOf one two) r = (partAt one r).bind fun a => (partAt two r).bind fun b => partCommon a b := by
  induction one with
  | nil => rfl
  | cons p t ih =>
    rw [List.map_cons, List.pairwise_cons] at h
    have ih := ih h.2
    have hno : p.rel = r → partAt t r = none := fun e => by
      cases q : partAt t r with
      | none => rfl
      | some z =>
        have := partAt_some q
        have l := h.1 z.rel (List.mem_map_of_mem this.1)
        rw [this.2, e] at l
        exact absurd l (rLt_irrefl _)
    show partAt (List.filterMap _ (p :: t)) r = _
    rw [List.filterMap_cons]
    by_cases e : p.rel = r
    · have e1 : partAt (p :: t) r = some p := by unfold partAt; rw [if_pos e]
      rw [e1]
      cases q : (partAt two p.rel).bind (partCommon p) with
      | none =>
        show partAt (meetOf t two) r = _
        rw [ih, hno e]
        rw [e] at q
        exact q.symm
      | some m =>
        obtain ⟨z, h1, h2⟩ := Option.bind_eq_some_iff.mp q
        show partAt (m :: meetOf t two) r = _
        have e3 : partAt (m :: meetOf t two) r = some m := by
          show (if m.rel = r then some m else partAt (meetOf t two) r) = _
          rw [if_pos ((partCommon_rel h2).trans e)]
        rw [e3]
        rw [e] at q
        exact q.symm
    · have e1 : partAt (p :: t) r = partAt t r := by
        show (if p.rel = r then some p else partAt t r) = _
        rw [if_neg e]
      rw [e1]
      cases q : (partAt two p.rel).bind (partCommon p) with
      | none => exact ih
      | some m =>
        obtain ⟨z, h1, h2⟩ := Option.bind_eq_some_iff.mp q
        show partAt (m :: meetOf t two) r = _
        have e2 : partAt (m :: meetOf t two) r = partAt (meetOf t two) r := by
          show (if m.rel = r then some m else partAt (meetOf t two) r) = _
          rw [if_neg fun z => e ((partCommon_rel h2).symm.trans z)]
        rw [e2]
        exact ih

/-! lots in common -/
theorem both_spec {near far : Rules} {n : Str} : (∀ a b, lotIn near n = some a → lotIn far n = some b → both near far n = a.filter fun x => decide (x ∈ b)) ∧ (∀ a, lotIn near n = some a → lotIn far n = none → both near far n = a) ∧ (∀ b, lotIn near n = none → lotIn far n = some b → both near far n = b) ∧
    (lotIn near n = none → lotIn far n = none → both near far n = []) := by
  have self : ∀ a : Lot, a.filter (fun x => decide (x ∈ a)) = a := fun a => List.filter_eq_self.mpr fun x hx => decide_eq_true hx
  refine ⟨fun a b h1 h2 => ?_, fun a h1 h2 => ?_, fun b h1 h2 => ?_, fun h1 h2 => ?_⟩
  · unfold both lotsOf
    rw [h1, h2]
    rfl
  · unfold both lotsOf
    rw [h1, h2]
    exact self a
  · unfold both lotsOf
    rw [h1, h2]
    exact self b
  · unfold both lotsOf
    rw [h1, h2]
    rfl
theorem mem_both {near far : Rules} {n : Str} (hn : n ∈ near.map (·.1) ∨ n ∈ far.map (·.1)) (x : Int) : x ∈ both near far n ↔ (∀ a, lotIn near n = some a → x ∈ a) ∧ ∀ b, lotIn far n = some b → x ∈ b := by
  obtain ⟨s1, s2, s3, s4⟩ := both_spec (near := near) (far := far) (n := n)
  cases h1 : lotIn near n with
  | some a =>
    cases h2 : lotIn far n with
    | some b =>
      rw [s1 a b h1 h2, List.mem_filter, decide_eq_true_eq]
      exact ⟨fun q => ⟨fun _ e => by cases e; exact q.1, fun _ e => by cases e; exact q.2⟩, fun q => ⟨q.1 _ rfl, q.2 _ rfl⟩⟩
    | none =>
      rw [s2 a h1 h2]
      exact ⟨fun q => ⟨fun _ e => by cases e; exact q, fun _ e => by cases e⟩, fun q => q.1 _ rfl⟩
  | none =>
    cases h2 : lotIn far n with
    | some b =>
      rw [s3 b h1 h2]
      exact ⟨fun q => ⟨fun _ e => (by cases e), fun _ e => by cases e; exact q⟩, fun q => q.2 _ rfl⟩
    | none => exact absurd hn (by simp only [not_or]; exact ⟨lotIn_none h1, lotIn_none h2⟩)
theorem wfl_both {near far : Rules} (wn : WfRs near) (wf : WfRs far) {n : Str} (h : both near far n ≠ []) : WfL (both near far n) := by
  obtain ⟨s1, s2, s3, s4⟩ := both_spec (near := near) (far := far) (n := n)
  cases h1 : lotIn near n with
  | some a =>
    have wa := wn.lot _ (lotIn_some h1)
    cases h2 : lotIn far n with
    | some b =>
      rw [s1 a b h1 h2] at h ⊢
      exact ⟨h, wa.asc.sublist List.filter_sublist, fun x hx => wa.nn x (List.mem_filter.mp hx).1, Nat.le_trans (List.length_filter_le _ _) wa.few⟩
    | none => rw [s2 a h1 h2]; exact wa
  | none =>
    cases h2 : lotIn far n with
    | some b => rw [s3 b h1 h2]; exact wf.lot _ (lotIn_some h2)
    | none => exact absurd (s4 h1 h2) h
theorem both_comm {near far : Rules} (wn : WfRs near) (wf : WfRs far) (n : Str) : both near far n = both far near n := by
  obtain ⟨s1, s2, s3, s4⟩ := both_spec (near := near) (far := far) (n := n)
  obtain ⟨t1, t2, t3, t4⟩ := both_spec (near := far) (far := near) (n := n)
  cases h1 : lotIn near n with
  | some a =>
    have wa := wn.lot _ (lotIn_some h1)
    cases h2 : lotIn far n with
    | some b =>
      have wb := wf.lot _ (lotIn_some h2)
      rw [s1 a b h1 h2, t1 b a h2 h1]
      exact asc_ext (R := (· < ·)) (fun x => Int.lt_irrefl x) (fun x y h h' => by omega) (wa.asc.sublist List.filter_sublist) (wb.asc.sublist List.filter_sublist) fun x => by
        rw [List.mem_filter, List.mem_filter, decide_eq_true_eq, decide_eq_true_eq]
        exact And.comm
    | none => rw [s2 a h1 h2, t3 a h2 h1]
  | none =>
    cases h2 : lotIn far n with
    | some b => rw [s3 b h1 h2, t2 b h2 h1]
    | none => rw [s4 h1 h2, t4 h2 h1]
theorem namesOf_comm (near far : Rules) : namesOf near far = namesOf far near := sortSet_congr fun x => by
  rw [List.mem_append, List.mem_append]
  exact Or.comm
theorem mem_namesOf {near far : Rules} {n : Str} : n ∈ namesOf near far ↔ n ∈ near.map (·.1) ∨ n ∈ far.map (·.1) := by
  unfold namesOf
  rw [mem_sortSet, List.mem_append]
theorem rcGo_comm {near far : Rules} (wn : WfRs near) (wf : WfRs far) : ∀ l, rcGo near far l = rcGo far near l
  | [] => rfl
  | n :: r => by
    unfold rcGo
    rw [both_comm wn wf n, rcGo_comm wn wf r]
theorem rulesCommon_comm {near far : Rules} (wn : WfRs near) (wf : WfRs far) : rulesCommon near far = rulesCommon far near := by
  unfold rulesCommon
  rw [namesOf_comm, rcGo_comm wn wf]
theorem rcGo_some {near far : Rules} : ∀ {l : List Str} {rs : Rules}, rcGo near far l = some rs → rs = l.map (fun n => (n, both near far n)) ∧ ∀ n ∈ l, both near far n ≠ []
  | [], rs, h => by
    cases h
    exact ⟨rfl, fun _ m => by cases m⟩
  | n :: r, rs, h => by
    unfold rcGo at h
    split at h
    · cases h
    · rename_i hb
      obtain ⟨t, ht, e⟩ := Option.map_eq_some_iff.mp h
      obtain ⟨e1, e2⟩ := rcGo_some ht
      refine ⟨by rw [← e, e1]; rfl, fun m hm => ?_⟩
      rcases List.mem_cons.mp hm with z | z
      · rw [z]; exact hb
      · exact e2 m z
theorem rcGo_none {near far : Rules} : ∀ {l : List Str}, rcGo near far l = none → ∃ n ∈ l, both near far n = []
  | [], h => by cases h
  | n :: r, h => by
    unfold rcGo at h
    split at h
    · rename_i hb
      exact ⟨n, List.mem_cons_self, hb⟩
    · obtain ⟨m, hm, e⟩ := rcGo_none (Option.map_eq_none_iff.mp h)
      exact ⟨m, List.mem_cons_of_mem _ hm, e⟩
theorem lotIn_mapped {f : Str → Lot} : ∀ {l : List Str} {n : Str}, lotIn (l.map fun n => (n, f n)) n = if n ∈ l then some (f n) else none
  | [], n => rfl
  | m :: r, n => by
    show (if m = n then some (f m) else lotIn (r.map fun n => (n, f n)) n) = _
    rw [lotIn_mapped (l := r)]
    by_cases e : m = n
    · subst e
      rw [if_pos rfl, if_pos List.mem_cons_self]
    · rw [if_neg e]
      by_cases h : n ∈ r
      · rw [if_pos h, if_pos (List.mem_cons_of_mem _ h)]
      · rw [if_neg h, if_neg (by simp only [List.mem_cons, not_or]; exact ⟨fun z => e z.symm, h⟩)]
theorem common_lot {near far rs : Rules} (h : rulesCommon near far = some rs) (n : Str) : lotIn rs n = if n ∈ namesOf near far then some (both near far n) else none := by
  rw [(rcGo_some h).1]
  exact lotIn_mapped
theorem common_ne {near far rs : Rules} (h : rulesCommon near far = some rs) {n : Str} (hn : n ∈ namesOf near far) : both near far n ≠ [] := (rcGo_some h).2 n hn
theorem wf_common {near far rs : Rules} (wn : WfRs near) (wf : WfRs far) (h : rulesCommon near far = some rs) : WfRs rs := by
  obtain ⟨e, ne⟩ := rcGo_some h
  refine ⟨?_, fun u hu => ?_, fun u hu => ?_⟩
  · rw [e, List.map_map]
    have : (((fun x => x.fst) : Str × Lot → Str) ∘ fun n => (n, both near far n)) = id := rfl
    rw [this, List.map_id]
    exact sortSet_asc _
  · rw [e] at hu
    obtain ⟨n, hn, rfl⟩ := List.mem_map.mp hu
    rcases mem_namesOf.mp hn with q | q
    · obtain ⟨v, hv, e2⟩ := List.mem_map.mp q
      show NameOk n
      rw [← e2]; exact wn.name v hv
    · obtain ⟨v, hv, e2⟩ := List.mem_map.mp q
      show NameOk n
      rw [← e2]; exact wf.name v hv
  · rw [e] at hu
    obtain ⟨n, hn, rfl⟩ := List.mem_map.mp hu
    exact wfl_both wn wf (ne n hn)
theorem firstOf_comm (a b : Int) : firstOf a b = firstOf b a := by unfold firstOf; split <;> split <;> omega
theorem lastOf_comm (a b : Option Int) : lastOf a b = lastOf b a := by
  cases a <;> cases b <;> simp only [lastOf]
  congr 1
  split <;> split <;> omega
theorem partCommon_comm {a b : Part} (wa : WfP a) (wb : WfP b) (h : a.rel = b.rel) : partCommon a b = partCommon b a := by
  unfold partCommon
  rw [rulesCommon_comm wa.rules wb.rules, firstOf_comm, lastOf_comm, h]
/-- M1 -/
theorem meet_comm {one two : List Part} (w1 : WfS one) (w2 : WfS two) : meetOf two one = meetOf one two := by
  refine shelf_ext (meet_asc _ w2.asc) (meet_asc _ w1.asc) fun r => ?_
  rw [partAt_meet w2.asc, partAt_meet w1.asc]
  cases h1 : partAt one r with
  | none => cases h2 : partAt two r <;> rfl
  | some a =>
    cases h2 : partAt two r with
    | none => rfl
    | some b =>
      have p1 := partAt_some h1
      have p2 := partAt_some h2
      exact partCommon_comm (w2.part _ p2.1) (w1.part _ p1.1) (p2.2.trans p1.2.symm)
theorem partCommon_some {a b m : Part} (h : partCommon a b = some m) : rulesCommon a.rules b.rules = some m.rules ∧ badLast m.last m.first = false ∧ m.rel = a.rel ∧ m.first = firstOf a.first b.first ∧ m.last = lastOf a.last b.last := by
  unfold partCommon at h
  split at h
  · cases h
  · rename_i rs e
    split at h
    · cases h
    · rename_i hb
      cases h
      exact ⟨e, by simpa using hb, rfl, rfl, rfl⟩
theorem wf_partCommon {a b m : Part} (wa : WfP a) (wb : WfP b) (hr : a.rel = b.rel) (h : partCommon a b = some m) : WfP m := by
  obtain ⟨e1, e2, e3, e4, e5⟩ := partCommon_some h
  refine ⟨by rw [e3]; exact wa.name, by rw [e3]; exact wa.ver, wf_common wa.rules wb.rules e1, ?_, ?_, fun l hl => ?_⟩
  · rw [common_lot e1, if_neg, ]
    intro hn
    rw [e3] at hn
    rcases mem_namesOf.mp hn with q | q
    · exact lotIn_none wa.own q
    · have := wb.own
      rw [← hr] at this
      exact lotIn_none this q
  · have h1 := wa.first
    have h2 := wb.first
    rw [e4]
    unfold firstOf
    split <;> omega
  · rw [hl] at e2
    have := of_decide_eq_false e2
    omega
theorem mem_meet {one two : List Part} {m : Part} (h : m ∈ meetOf one two) : ∃ a b, a ∈ one ∧ partAt two a.rel = some b ∧ partCommon a b = some m := by
  obtain ⟨a, ha, e⟩ := List.mem_filterMap.mp h
  obtain ⟨b, e1, e2⟩ := Option.bind_eq_some_iff.mp e
  exact ⟨a, b, ha, e1, e2⟩
/-- M2 -/
theorem wf_meet {one two : List Part} (w1 : WfS one) (w2 : WfS two) : WfS (meetOf one two) := by
  refine ⟨meet_asc _ w1.asc, fun m hm => ?_, Nat.le_trans (List.length_filterMap_le _ _) w1.few⟩
  obtain ⟨a, b, ha, e1, e2⟩ := mem_meet hm
  have p := partAt_some e1
  exact wf_partCommon (w1.part a ha) (w2.part b p.1) p.2.symm e2

/-! within -/
structure PW (p q : Part) : Prop where
  first : q.first ≤ p.first
  rules : ∀ u ∈ q.rules, ∃ own, lotIn p.rules u.1 = some own ∧ ∀ x ∈ own, x ∈ u.2
  last : ∀ l, q.last = some l → ∃ m, p.last = some m ∧ m ≤ l
theorem pw_iff {p : Part} {o : Option Part} : partWithin p o = true ↔ ∃ q, o = some q ∧ PW p q := by
  cases o with
  | none => exact ⟨fun h => (by cases h), fun ⟨_, h, _⟩ => by cases h⟩
  | some q =>
    show (decide (q.first ≤ p.first) && rulesWithin p.rules q.rules && lastWithin p.last q.last) = true ↔ _
    rw [Bool.and_eq_true, Bool.and_eq_true, decide_eq_true_eq]
    have hr : rulesWithin p.rules q.rules = true ↔ ∀ u ∈ q.rules, ∃ own, lotIn p.rules u.1 = some own ∧ ∀ x ∈ own, x ∈ u.2 := by
      unfold rulesWithin
      rw [List.all_eq_true]
      refine forall_congr' fun u => forall_congr' fun hu => ?_
      cases e : lotIn p.rules u.1 with
      | none => exact ⟨fun h => (by cases h), fun ⟨_, h, _⟩ => by cases h⟩
      | some own =>
        show (own.all fun x => decide (x ∈ u.2)) = true ↔ _
        rw [List.all_eq_true]
        exact ⟨fun h => ⟨own, rfl, fun x hx => of_decide_eq_true (h x hx)⟩, fun ⟨o, h, h2⟩ x hx => by cases h; exact decide_eq_true (h2 x hx)⟩
    have hl : lastWithin p.last q.last = true ↔ ∀ l, q.last = some l → ∃ m, p.last = some m ∧ m ≤ l := by
      unfold lastWithin
      cases q.last with
      | none => exact ⟨fun _ l h => (by cases h), fun _ => rfl⟩
      | some l =>
        cases p.last with
        | none => exact ⟨fun h => (by cases h), fun h => by obtain ⟨m, h, _⟩ := h l rfl; cases h⟩
        | some m =>
          show decide (m ≤ l) = true ↔ _
          rw [decide_eq_true_eq]
          exact ⟨fun h l' e => by cases e; exact ⟨m, rfl, h⟩, fun h => by obtain ⟨m', e, h⟩ := h l rfl; cases e; exact h⟩
    exact ⟨fun h => ⟨q, rfl, h.1.1, hr.mp h.1.2, hl.mp h.2⟩, fun ⟨z, e, h⟩ => by cases e; exact ⟨⟨h.first, hr.mpr h.rules⟩, hl.mpr h.last⟩⟩
theorem within_iff {one two : List Part} : isWithin one two = true ↔ ∀ p ∈ one, ∃ q, partAt two p.rel = some q ∧ PW p q := by
  unfold isWithin
  rw [List.all_eq_true]
  exact forall_congr' fun p => forall_congr' fun _ => pw_iff
theorem PW.trans {p q r : Part} (h : PW p q) (h' : PW q r) : PW p r := by
  refine ⟨by have := h.first; have := h'.first; omega, fun u hu => ?_, fun l hl => ?_⟩
  · obtain ⟨o1, e1, f1⟩ := h'.rules u hu
    obtain ⟨o2, e2, f2⟩ := h.rules _ (lotIn_some e1)
    exact ⟨o2, e2, fun x hx => f1 x (f2 x hx)⟩
  · obtain ⟨m, e, f⟩ := h'.last l hl
    obtain ⟨m2, e2, f2⟩ := h.last m e
    exact ⟨m2, e2, by omega⟩
theorem pw_refl {p : Part} (w : WfP p) : PW p p := ⟨Int.le_refl _, fun u hu => ⟨u.2, lotIn_mem w.rules.asc hu, fun _ h => h⟩, fun l h => ⟨l, h, Int.le_refl _⟩⟩
theorem within_trans {a b c : List Part} (h : isWithin a b = true) (h' : isWithin b c = true) : isWithin a c = true := by
  rw [within_iff] at h h' ⊢
  intro p hp
  obtain ⟨q, e, f⟩ := h p hp
  have z := partAt_some e
  obtain ⟨r, e2, f2⟩ := h' q z.1
  rw [z.2] at e2
  exact ⟨r, e2, f.trans f2⟩
theorem within_refl {s : List Part} (w : WfS s) : isWithin s s = true := within_iff.mpr fun p hp => ⟨p, partAt_mem w.asc hp, pw_refl (w.part p hp)⟩
theorem pw_common {a b m : Part} (wa : WfP a) (h : partCommon a b = some m) : PW m a := by
  obtain ⟨e1, e2, e3, e4, e5⟩ := partCommon_some h
  refine ⟨by rw [e4]; unfold firstOf; split <;> omega, fun u hu => ?_, fun l hl => ?_⟩
  · have hn : u.1 ∈ namesOf a.rules b.rules := mem_namesOf.mpr (.inl (List.mem_map_of_mem hu))
    refine ⟨both a.rules b.rules u.1, by rw [common_lot e1, if_pos hn], fun x hx => ?_⟩
    exact ((mem_both (mem_namesOf.mp hn) x).mp hx).1 _ (lotIn_mem wa.rules.asc hu)
  · rw [e5, hl]
    cases b.last with
    | none => exact ⟨l, rfl, Int.le_refl _⟩
    | some k => exact ⟨_, rfl, by split <;> omega⟩
/-- M3 -/
theorem meet_within {one two : List Part} (w1 : WfS one) : isWithin (meetOf one two) one = true := within_iff.mpr fun m hm => by
  obtain ⟨a, b, ha, e1, e2⟩ := mem_meet hm
  refine ⟨a, ?_, pw_common (w1.part a ha) e2⟩
  rw [partCommon_rel e2]
  exact partAt_mem w1.asc ha
theorem meet_within2 {one two : List Part} (w1 : WfS one) (w2 : WfS two) : isWithin (meetOf one two) two = true := by
  rw [← meet_comm w1 w2]
  exact meet_within w2
theorem pw_greatest {p a b : Part} (wp : WfP p) (ha : PW p a) (hb : PW p b) (wa : WfP a) (wb : WfP b) : ∃ m, partCommon a b = some m ∧ PW p m := by
  have key : ∀ n ∈ namesOf a.rules b.rules, ∃ own, lotIn p.rules n = some own ∧ ∀ x ∈ own, x ∈ both a.rules b.rules n := by
    intro n hn
    have hn' := mem_namesOf.mp hn
    have hA : ∀ l, lotIn a.rules n = some l → ∃ own, lotIn p.rules n = some own ∧ ∀ x ∈ own, x ∈ l := fun l e => ha.rules _ (lotIn_some e)
    have hB : ∀ l, lotIn b.rules n = some l → ∃ own, lotIn p.rules n = some own ∧ ∀ x ∈ own, x ∈ l := fun l e => hb.rules _ (lotIn_some e)
    have hex : ∃ own, lotIn p.rules n = some own := by
      rcases hn' with q | q
      · obtain ⟨l, e⟩ := lotIn_isSome q
        obtain ⟨o, e2, _⟩ := hA l e
        exact ⟨o, e2⟩
      · obtain ⟨l, e⟩ := lotIn_isSome q
        obtain ⟨o, e2, _⟩ := hB l e
        exact ⟨o, e2⟩
    obtain ⟨own, eo⟩ := hex
    refine ⟨own, eo, fun x hx => (mem_both hn' x).mpr ⟨fun l e => ?_, fun l e => ?_⟩⟩
    · obtain ⟨o, e2, f⟩ := hA l e
      rw [eo] at e2
      cases e2
      exact f x hx
    · obtain ⟨o, e2, f⟩ := hB l e
      rw [eo] at e2
      cases e2
      exact f x hx
  have hne : ∀ n ∈ namesOf a.rules b.rules, both a.rules b.rules n ≠ [] := fun n hn e => by
    obtain ⟨own, eo, f⟩ := key n hn
    have wo := wp.rules.lot _ (lotIn_some eo)
    have e1 : own = [] := by
      cases own with
      | nil => rfl
      | cons x r =>
        have := f x List.mem_cons_self
        rw [e] at this
        cases this
    exact wo.ne e1
  cases hc : rulesCommon a.rules b.rules with
  | none =>
    obtain ⟨n, hn, e⟩ := rcGo_none hc
    exact absurd e (hne n hn)
  | some rs =>
    have hlast : ∀ l, lastOf a.last b.last = some l → ∃ m, p.last = some m ∧ m ≤ l := fun l hl => by
      cases h1 : a.last with
      | none =>
        rw [h1] at hl
        exact hb.last l hl
      | some x =>
        cases h2 : b.last with
        | none =>
          rw [h1, h2] at hl
          cases hl
          exact ha.last _ h1
        | some y =>
          rw [h1, h2] at hl
          obtain ⟨m, e, f⟩ := ha.last x h1
          obtain ⟨m', e', f'⟩ := hb.last y h2
          rw [e] at e'
          cases e'
          have hl := Option.some.inj hl
          refine ⟨m, e, ?_⟩
          rw [← hl]
          split <;> omega
    have hfirst : firstOf a.first b.first ≤ p.first := by
      have := ha.first
      have := hb.first
      unfold firstOf
      split <;> omega
    have hbad : badLast (lastOf a.last b.last) (firstOf a.first b.first) = false := by
      cases hl : lastOf a.last b.last with
      | none => rfl
      | some l =>
        obtain ⟨m, e, f⟩ := hlast l hl
        have := wp.last m e
        exact decide_eq_false (by omega)
    refine ⟨⟨a.rel, rs, firstOf a.first b.first, lastOf a.last b.last⟩, ?_, hfirst, fun u hu => ?_, hlast⟩
    · unfold partCommon
      rw [hc]
      show (if badLast _ _ = true then none else _) = _
      rw [hbad, if_neg Bool.false_ne_true]
    · have hu' : u ∈ rs := hu
      rw [(rcGo_some hc).1] at hu'
      obtain ⟨n, hn, rfl⟩ := List.mem_map.mp hu'
      exact key n hn
/-- M6 -/
theorem within_meet {less one two : List Part} (wl : WfS less) (w1 : WfS one) (w2 : WfS two) : isWithin less (meetOf one two) = (isWithin less one && isWithin less two) := by
  rw [Bool.eq_iff_iff, Bool.and_eq_true]
  refine ⟨fun h => ⟨within_trans h (meet_within w1), within_trans h (meet_within2 w1 w2)⟩, fun h => ?_⟩
  obtain ⟨h1, h2⟩ := h
  rw [within_iff] at h1 h2 ⊢
  intro p hp
  obtain ⟨a, e1, f1⟩ := h1 p hp
  obtain ⟨b, e2, f2⟩ := h2 p hp
  have z1 := partAt_some e1
  have z2 := partAt_some e2
  obtain ⟨m, e3, f3⟩ := pw_greatest (wl.part p hp) f1 f2 (w1.part _ z1.1) (w2.part _ z2.1)
  refine ⟨m, ?_, f3⟩
  rw [partAt_meet w1.asc, e1, e2]
  exact e3

/-! standing -/
theorem stand1_iff {s : List Part} {day : Int} {lock : List Rel} {r : Rel} : stand1 s day lock r = true ↔ ∃ p, partAt s r = some p ∧ onDay p day = true ∧ ∀ u ∈ p.rules, stateOf lock u.1 ∈ u.2 := by
  unfold stand1
  cases e : partAt s r with
  | none => exact ⟨fun h => (by cases h), fun ⟨_, h, _⟩ => by cases h⟩
  | some p =>
    show (onDay p day && p.rules.all fun u => decide (stateOf lock u.1 ∈ u.2)) = true ↔ _
    rw [Bool.and_eq_true, List.all_eq_true]
    exact ⟨fun h => ⟨p, rfl, h.1, fun u hu => of_decide_eq_true (h.2 u hu)⟩, fun ⟨q, e, h1, h2⟩ => by cases e; exact ⟨h1, fun u hu => decide_eq_true (h2 u hu)⟩⟩
theorem onDay_iff {p : Part} {day : Int} : onDay p day = true ↔ p.first ≤ day ∧ ∀ l, p.last = some l → day ≤ l := by
  unfold onDay
  rw [Bool.and_eq_true, decide_eq_true_eq]
  cases p.last with
  | none => exact ⟨fun h => ⟨h.1, fun _ e => by cases e⟩, fun h => ⟨h.1, rfl⟩⟩
  | some l =>
    show _ ∧ decide (day ≤ l) = true ↔ _
    rw [decide_eq_true_eq]
    exact ⟨fun h => ⟨h.1, fun _ e => by cases e; exact h.2⟩, fun h => ⟨h.1, h.2 l rfl⟩⟩
theorem pw_stands {p q : Part} {day : Int} {lock : List Rel} (h : PW p q) (h1 : onDay p day = true) (h2 : ∀ u ∈ p.rules, stateOf lock u.1 ∈ u.2) : onDay q day = true ∧ ∀ u ∈ q.rules, stateOf lock u.1 ∈ u.2 := by
  rw [onDay_iff] at h1 ⊢
  refine ⟨⟨by have := h.first; omega, fun l hl => ?_⟩, fun u hu => ?_⟩
  · obtain ⟨m, e, f⟩ := h.last l hl
    have := h1.2 m e
    omega
  · obtain ⟨own, e, f⟩ := h.rules u hu
    exact f _ (h2 _ (lotIn_some e))
/-- M5 -/
theorem within_stands {one two : List Part} (h : isWithin one two = true) {day : Int} {lock : List Rel} (hs : standsP one day lock = true) : standsP two day lock = true := by
  unfold standsP at hs ⊢
  rw [List.all_eq_true] at hs ⊢
  intro r hr
  obtain ⟨p, e, h1, h2⟩ := stand1_iff.mp (hs r hr)
  have z := partAt_some e
  obtain ⟨q, e2, f⟩ := within_iff.mp h p z.1
  rw [z.2] at e2
  exact stand1_iff.mpr ⟨q, e2, pw_stands f h1 h2⟩
theorem stand1_meet {one two : List Part} (w1 : WfS one) (w2 : WfS two) {day : Int} {lock : List Rel} {r : Rel} (h1 : stand1 one day lock r = true) (h2 : stand1 two day lock r = true) : stand1 (meetOf one two) day lock r = true := by
  obtain ⟨a, e1, d1, f1⟩ := stand1_iff.mp h1
  obtain ⟨b, e2, d2, f2⟩ := stand1_iff.mp h2
  have z1 := partAt_some e1
  have z2 := partAt_some e2
  have wa := w1.part _ z1.1
  have wb := w2.part _ z2.1
  have key : ∀ n ∈ namesOf a.rules b.rules, stateOf lock n ∈ both a.rules b.rules n := fun n hn =>
    (mem_both (mem_namesOf.mp hn) _).mpr ⟨fun l e => f1 _ (lotIn_some e), fun l e => f2 _ (lotIn_some e)⟩
  have hd1 := onDay_iff.mp d1
  have hd2 := onDay_iff.mp d2
  have hfirst : firstOf a.first b.first ≤ day := by unfold firstOf; split <;> omega
  have hlast : ∀ l, lastOf a.last b.last = some l → day ≤ l := fun l hl => by
    cases q1 : a.last with
    | none =>
      rw [q1] at hl
      exact hd2.2 l hl
    | some x =>
      cases q2 : b.last with
      | none =>
        rw [q1, q2] at hl
        cases hl
        exact hd1.2 _ q1
      | some y =>
        rw [q1, q2] at hl
        have := hd1.2 _ q1
        have := hd2.2 _ q2
        have hl := Option.some.inj hl
        rw [← hl]
        split <;> omega
  cases hc : rulesCommon a.rules b.rules with
  | none =>
    obtain ⟨n, hn, e⟩ := rcGo_none hc
    have := key n hn
    rw [e] at this
    cases this
  | some rs =>
    have hbad : badLast (lastOf a.last b.last) (firstOf a.first b.first) = false := by
      cases hl : lastOf a.last b.last with
      | none => rfl
      | some l =>
        have := hlast l hl
        exact decide_eq_false (by omega)
    refine stand1_iff.mpr ⟨⟨a.rel, rs, firstOf a.first b.first, lastOf a.last b.last⟩, ?_, onDay_iff.mpr ⟨hfirst, hlast⟩, fun u hu => ?_⟩
    · rw [partAt_meet w1.asc, e1, e2]
      show partCommon a b = _
      unfold partCommon
      rw [hc]
      show (if badLast _ _ = true then none else _) = _
      rw [hbad, if_neg Bool.false_ne_true]
    · have hu' : u ∈ rs := hu
      rw [(rcGo_some hc).1] at hu'
      obtain ⟨n, hn, rfl⟩ := List.mem_map.mp hu'
      exact key n hn
/-- M4 -/
theorem stands_meet {one two : List Part} (w1 : WfS one) (w2 : WfS two) (day : Int) (lock : List Rel) : standsP (meetOf one two) day lock = (standsP one day lock && standsP two day lock) := by
  rw [Bool.eq_iff_iff, Bool.and_eq_true]
  refine ⟨fun h => ⟨within_stands (meet_within w1) h, within_stands (meet_within2 w1 w2) h⟩, fun h => ?_⟩
  obtain ⟨h1, h2⟩ := h
  unfold standsP at h1 h2 ⊢
  rw [List.all_eq_true] at h1 h2 ⊢
  exact fun r hr => stand1_meet w1 w2 (h1 r hr) (h2 r hr)

/-! few names -/
theorem nodup_sub {α : Type} [BEq α] [LawfulBEq α] : ∀ {l m : List α}, l.Nodup → (∀ x ∈ l, x ∈ m) → l.length ≤ m.length
  | [], _, _, _ => Nat.zero_le _
  | x :: l, m, nd, h => by
    have nd' := List.nodup_cons.mp nd
    have hx : x ∈ m := h x List.mem_cons_self
    have := nodup_sub (l := l) (m := m.erase x) nd'.2 fun y hy => (List.mem_erase_of_ne (fun e : y = x => nd'.1 (by rw [← e]; exact hy))).mpr (h y (List.mem_cons_of_mem _ hy))
    rw [List.length_erase_of_mem hx] at this
    have hp := List.length_pos_of_mem hx
    rw [List.length_cons]
    omega
theorem rules_few {rs : Rules} (w : WfRs rs) : rs.length ≤ 7 := by
  have := nodup_sub (l := rs.map (·.1)) (m := nameList) (nodup_of_asc sLt_irrefl w.asc) fun x hx => by
    obtain ⟨u, hu, rfl⟩ := List.mem_map.mp hx
    exact w.name u hu
  rw [List.length_map] at this
  exact this
end Lk
namespace Lk
open PySem PySem.Spec PyProof.Rows L2

/-! ### < of data -/
theorem depthR (r : Rel) : (encR r).depth = 1 := by simp [encR, PyData.depth, PyData.depthAll]
theorem alikeR (a b : Rel) : PySem.W.alike (encR a) (encR b) = true := by simp [encR, PySem.W.alike, PySem.W.alikeAll]
theorem eqvR (a b : Rel) : PyData.eqv (encR a) (encR b) = decide (a = b) := by
  obtain ⟨a1, a2⟩ := a
  obtain ⟨b1, b2⟩ := b
  rw [Bool.eq_iff_iff]
  simp [encR, PyData.eqv, PyData.eqvAll]
theorem ltR (a b : Rel) : PySem.W.dataLt (encR a) (encR b) = decide (rLt a b) := by
  unfold encR
  rw [PySem.W.dataLt_pair (by simp [PySem.W.alike]) (by simp [PySem.W.alike]), PySem.W.dataLt_str, PySem.W.dataLt_int]
  have e1 : PyData.eqv (.str a.1) (.str b.1) = decide (a.1 = b.1) := by rw [Bool.eq_iff_iff]; simp [PyData.eqv]
  have e2 : PyData.eqv (.int a.2) (.int b.2) = decide (a.2 = b.2) := by rw [Bool.eq_iff_iff]; simp [PyData.eqv]
  rw [e1, e2]
  by_cases h : a.1 = b.1
  · rw [decide_eq_true h, if_pos rfl]
    by_cases h2 : a.2 = b.2
    · rw [decide_eq_true h2, if_pos rfl]
      refine (decide_eq_false fun q => ?_).symm
      rcases q with q | q
      · rw [h] at q; exact sLt_irrefl _ q
      · omega
    · rw [decide_eq_false h2, if_neg (by decide)]
      refine decide_eq_decide.mpr ⟨fun q => .inr ⟨h, q⟩, fun q => ?_⟩
      rcases q with q | q
      · rw [h] at q; exact absurd q (sLt_irrefl _)
      · exact q.2
  · rw [decide_eq_false h, if_neg (by decide)]
    refine decide_eq_decide.mpr ⟨fun q => .inl q, fun q => ?_⟩
    rcases q with q | q
    · exact q
    · exact absurd q.1 h
def rLtD (K : PySem.W.Frag) : R2 := fun x y H Q => ∃ d e, Dp K H x d ∧ Dp K H y e ∧ PySem.W.alike d e = true ∧ d ≠ .none ∧ d.depth ≤ 64 ∧ Q (.bl (PySem.W.dataLt d e)) H
theorem op_ltD {X : Cx} (hu : X.A.units + 64 < cLine) : OpR X (compareOp .Lt) (rLtD X.K) := by
  intro pins s σ H x y v u Q I rx ry h
  obtain ⟨d, e, hd, he, hal, hn, hdp, q⟩ := h
  obtain ⟨as, r1⟩ := Dp.reads I d x v hd rx
  obtain ⟨bs, r2⟩ := Dp.reads I e y u he ry
  exact PySem.W.rcLt_alike d e X.A s v u as bs r1 r2 hal hn (by have := Nat.min_le_left d.depth e.depth; omega) X.prog X.w X.xe _ ⟨.bl _, H, I, rfl, q⟩
section
variable {X : Cx} {a b e : Expr} {σ : L2.St} {H : Hp} {d1 d2 : PyData} {pos p : Pos}
theorem ev_ltD (hu : X.A.units + 64 < cLine) (ha : EvD X a σ H d1) (hb : EvD X b σ H d2) (h1 : PySem.W.alike d1 d2 = true) (h2 : d1 ≠ .none) (h3 : d1.depth ≤ 64) : EvD X (.Compare a [.Lt] [b] pos) σ H (.bool (PySem.W.dataLt d1 d2)) :=
  ev_cmp (op_ltD hu) ha hb fun u v H1 _ ru rv Q q => ⟨d1, d2, ru.dp, rv.dp, h1, h2, h3, q⟩
end

/-! ### sorted of releases -/
theorem each_of_vals {H : Hp} : ∀ {xs : List V} {us : List Value} {rs : List Rel}, Vals xs us → DlAll H xs (rs.map encR) → PySem.W.EachIs (fun (u : Value) (b : Rel × V) => RelV b.2 u ∧ Dl H b.2 (encR b.1)) us (rs.zip xs)
  | _, _, [], r, d => by
    have d' : DlAll H _ [] := d
    cases d'
    cases r
    exact .nil
  | _, _, x :: rs, r, d => by
    have d' : DlAll H _ (encR x :: rs.map encR) := d
    cases d' with
    | cons h1 h2 =>
      cases r with
      | cons r1 r2 => exact .cons ⟨r1, h1⟩ (each_of_vals r2 h2)
theorem vals_of_each {H : Hp} : ∀ {us : List Value} {bs : List (Rel × V)}, PySem.W.EachIs (fun (u : Value) (b : Rel × V) => RelV b.2 u ∧ Dl H b.2 (encR b.1)) us bs → Vals (bs.map (·.2)) us ∧ DlAll H (bs.map (·.2)) ((bs.map (·.1)).map encR)
  | _, _, .nil => ⟨.nil, .nil⟩
  | _, _, .cons h t => ⟨.cons h.1 (vals_of_each t).1, .cons h.2 (vals_of_each t).2⟩
theorem zip_unzip {α β : Type} : ∀ l : List (α × β), (l.map (·.1)).zip (l.map (·.2)) = l
  | [] => rfl
  | x :: l => by rw [List.map_cons, List.map_cons, List.zip_cons_cons, zip_unzip l]
/-- sorted(l): the same releases, rising -/
def rSortedRl : List V → Hp → VK → Prop := fun vs H Q => ∃ (a : Addr) (xs : List V) (rs : List Rel), vs = [V.ref a] ∧ H a = some (.lst xs) ∧ DlAll H xs (rs.map encR) ∧ rs.length ≤ 1000 ∧
  ∀ (ys : List V) (rs' : List Rel) (p : Addr), rs'.Perm rs → rs'.Pairwise (fun a b => ¬ rLt b a) → DlAll H ys (rs'.map encR) → (∀ z ∈ rs'.zip ys, z ∈ rs.zip xs) → H p = none → Q (.ref p) (upd H p (.lst ys))
theorem cr_sortedRl {X : Cx} (hu : X.A.units + 64 < cLine) : CallR X (.builtin "sorted") rSortedRl := by
  intro pins s σ H vs us Q I r h
  obtain ⟨a, xs, rs, rfl, ha, hd, hl, q⟩ := h
  obtain ⟨its, rv, hL, _⟩ := I.list (SqL.of ha)
  rw [Vals.ref1 r]
  have hlen : rs.length = xs.length := by have := hd.length; rw [List.length_map] at this; exact this.symm
  have e := each_of_vals rv hd
  have er : PySem.W.EachIs (fun (v : Value) (b : Rel × V) => ∃ as, Reads s.heap v (encR b.1) as) its (rs.zip xs) := e.mono fun u b h => Dp.reads I _ _ _ h.2.dp h.1
  have hz : (rs.zip xs).length = rs.length := by rw [List.length_zip, hlen, Nat.min_self]
  refine PySem.W.sorted_data (bs := rs.zip xs) (enc := fun b => encR b.1) hL.isList e er (PySem.W.AllAlike.of fun b c => alikeR _ _) (PySem.W.Sortable.tuples fun b => ⟨_, _, rfl⟩) (by rw [hz]; exact Nat.le_trans hl (by decide)) (fun b _ => by
    rw [show (encR b.1).depth = 1 from depthR _]; omega) fun out ho eo => ?_
  obtain ⟨v1, v2⟩ := vals_of_each eo
  obtain ⟨ep, he'⟩ := PyProof.Rows.sortedAll_at s.heap its out.toArray
  have hp := (List.mergeSort_perm (rs.zip xs) (PySem.W.dataLe false fun b => encR b.1))
  have hp1 : (((rs.zip xs).mergeSort (PySem.W.dataLe false fun b => encR b.1)).map (·.1)).Perm rs := by
    have := hp.map (·.1)
    rwa [List.map_fst_zip (Nat.le_of_eq hlen)] at this
  have hle : PySem.W.dataLe false (fun b : Rel × V => encR b.1) = fun b c => decide (¬ rLt c.1 b.1) := by
    funext b c
    rw [PySem.W.dataLe_eq]
    show (!PySem.W.dataLt (encR c.1) (encR b.1)) = _
    rw [ltR]
    simp
  have tri : ∀ a b : Rel, rLt a b ∨ a = b ∨ rLt b a := fun a b => by
    obtain ⟨a1, a2⟩ := a
    obtain ⟨b1, b2⟩ := b
    rcases sLt_tri a1 b1 with z | z | z
    · exact .inl (.inl z)
    · rcases Int.lt_trichotomy a2 b2 with y | y | y
      · exact .inl (.inr ⟨z, y⟩)
      · exact .inr (.inl (by rw [z, y]))
      · exact .inr (.inr (.inr ⟨z.symm, y⟩))
    · exact .inr (.inr (.inl z))
  have hpw : (((rs.zip xs).mergeSort (PySem.W.dataLe false fun b => encR b.1)).map (·.1)).Pairwise (fun a b => ¬ rLt b a) := by
    rw [List.pairwise_map, hle]
    have := List.pairwise_mergeSort (le := fun b c : Rel × V => decide (¬ rLt c.1 b.1)) (fun a b c h1 h2 => by
      have h1 := of_decide_eq_true h1
      have h2 := of_decide_eq_true h2
      refine decide_eq_true fun h3 => ?_
      rcases tri a.1 b.1 with z | z | z
      · exact h2 (rLt_trans h3 z)
      · rw [z] at h3; exact h2 h3
      · exact h1 z) (fun a b => by
      rw [Bool.or_eq_true, decide_eq_true_eq, decide_eq_true_eq]
      by_cases h : rLt b.1 a.1
      · exact .inr (rLt_asymm h)
      · exact .inl h) (rs.zip xs)
    exact this.imp fun h => of_decide_eq_true h
  have hlen2 : (((rs.zip xs).mergeSort (PySem.W.dataLe false fun b => encR b.1)).map (·.2)).length ≤ sizeLine := by
    rw [List.length_map, hp.length_eq, hz]
    exact Nat.le_trans hl (by decide)
  exact ⟨.ref _, upd H (s.heap.objs.size + 1) (.lst _), I.laid (t' := s.toks) (fun _ _ => PyProof.Rows.sortedAll_old) (Nat.le_succ _) ⟨hlen2, out, ep, v1, by simpa using he'⟩, rfl, q _ _ _ hp1 hpw v2 (fun z hz => by
    rw [zip_unzip] at hz
    exact hp.mem_iff.mp hz) (I.hok.fresh (Nat.le_succ _))⟩

/-! ### sorted of locks, the empty one ahead: some order -/
theorem call_tuple_lt {prog : Program} {w : World} {A : Around} {s : Shared} {E : Value → Shared → Prop} {Q : Value → Shared → Prop} {l b : Addr} {items items2 : Array Value} {e r : Nat → Bool} (hl : s.heap.IsTuple l items) (hb : s.heap.IsTuple b items2)
    (he : ∀ j (h1 : j < items.size) (h2 : j < items2.size), SeqAt.EqAt A.in1 s items[j] items2[j] (e j)) (hr : ∀ j (h1 : j < items.size) (h2 : j < items2.size), e j = false → SeqAt.RcLt A.in1 s items[j] items2[j] (r j))
    (h : Q (.bool (SeqAt.firstLt e r (decide (items.size < items2.size)) (List.range (min items.size items2.size)))) s) : wpAny (model prog w) A (call (.builtin "tuple.__lt__") [.ref l, .ref b]) Q E s := by
  obtain ⟨⟨cl1, di1, da1, so1⟩, g1, g2, m1, g3⟩ := id hl
  obtain ⟨⟨cl2, di2, da2, so2⟩, k1, k2, m2, k3⟩ := id hb
  simp only at g2 g3 k2 k3
  subst g2 g3 k2 k3
  exact call_meets PySem.F.slot_tuple_lt ⟨_, g1, rfl⟩ PySem.F.entry_tuple_lt (PySem.F.args_tuple_lt_2 _ _) (SeqAt.tuple_ltAt l b items items2 m1 m2 di1 di2 so1 so2 e r) ⟨g1, k1, he, hr, h⟩
theorem lockLt {prog : Program} {w : World} {A : Around} {s : Shared} {E : Value → Shared → Prop} {xs ys : List PyData} {u v : Value} {as bs : List Addr} {Q : Bool → Shared → Prop} (ra : Reads s.heap u (.tuple xs) as) (rb : Reads s.heap v (.tuple ys) bs) (hal : PySem.W.alikeAll xs ys = true) (hu : A.units + min (PyData.tuple xs).depth (PyData.tuple ys).depth < cLine)
    (hq : Q (PySem.W.dataLt (.tuple xs) (.tuple ys)) s) : wpAny (model prog w) A (PyProof.Rows.oneLt' true u v) Q E s := by
  cases ra with
  | @tuple l o vs n _ as1 h1 h2 h3 h4 =>
    cases rb with
    | @tuple l' o' vs' n' _ bs1 k1 k2 k3 k4 =>
      have n1 : vs.size = xs.length := by simpa using SeqAt.ReadsAll.length _ _ _ h4
      have n2 : vs'.size = ys.length := by simpa using SeqAt.ReadsAll.length _ _ _ k4
      rw [PySem.W.dataLt_tuple, ← PySem.W.firstLt_toks xs ys hal, ← n1, ← n2] at hq
      rw [PyProof.Rows.oneLt'_eq]
      simp only [if_true]
      refine wpAny_bind (wpAny_cRoomFor (SeqAt.room_here hu) ?_)
      refine wpAny_bind (wpAny_callSpecialIfBound?_slot (T := "tuple") ⟨_, h1, h2⟩ PySem.F.slot_tuple_lt (call_tuple_lt (e := SeqAt.pairEq xs ys) (r := fun j => PySem.W.dataLt (xs.getD j .none) (ys.getD j .none)) ⟨_, h1, h2, _, h3⟩ ⟨_, k1, k2, _, k3⟩ (fun j j1 j2 => ?_) (fun j j1 j2 hj => ?_) (wpAny_truthy_bool hq)))
      · have t := PySem.W.eqAt_alikeAll xs ys A.in1 s vs.toList vs'.toList _ _ h4 k4 hal (SeqAt.room_in hu) j (by simpa using j1) (by simpa using j2)
        simpa using t
      · have t := PySem.W.rcLt_alikeAll xs ys A.in1 s vs.toList vs'.toList _ _ h4 k4 hal (SeqAt.room_in hu) j (by simpa using j1) (by simpa using j2) hj
        simpa using t
/-- what a sort first asks of tuples: their first items -/
theorem firsts_tup {M : Model} {A : Around} {E : Value → Shared → Prop} {s : Shared} : ∀ (vs : List Value) {Q : List (Option Value) → Shared → Prop}, (∀ v ∈ vs, ∃ a o xs n, v = .ref a ∧ s.heap.get? a = some o ∧ o.cls = .type "tuple" ∧ o.data = .seq xs n) →
    (∀ fs : List (Option Value), fs.length = vs.length → (∀ a o n r, vs = .ref a :: r → s.heap.get? a = some o → o.data = .seq #[] n → ∃ t, fs = none :: t) → Q fs s) → wpAny M A (vs.mapM PyProof.Rows.firstOfTuple') Q E s
  | [], Q, _, q => by
    rw [List.mapM_nil]
    exact wpAny_pure (q [] rfl fun _ _ _ _ z => nomatch z)
  | v :: vs, Q, h, q => by
    obtain ⟨a, o, xs, n, rfl, ho, hc, hd⟩ := h v List.mem_cons_self
    rw [List.mapM_cons]
    refine wpAny_bind ?_
    rw [PySem.W.kas_first_eq]
    refine wpAny_bind (PySem.W.Looks.here (show PySem.W.Looks M s.heap (typeOf (.ref a)) o.cls from (PySem.W.Looks.ld ho).andThen .now) ?_)
    rw [hc, if_neg (by first | decide | simp)]
    refine wpAny_bind (PyProof.Rows.listItems_at ho hd (wpAny_pure ?_))
    refine wpAny_bind (firsts_tup vs (Q := fun fs s' => wpAny M A (pure (xs[0]? :: fs)) Q E s') (fun u hu => h u (List.mem_cons_of_mem _ hu)) fun fs hl _ => wpAny_pure (q _ (by rw [List.length_cons, List.length_cons, hl]) fun a' o' n' r' e' ho' hd' => ?_))
    cases e'
    rw [ho] at ho'
    cases ho'
    rw [hd] at hd'
    cases hd'
    exact ⟨fs, rfl⟩
theorem kind_locks {M : Model} {A : Around} {E : Value → Shared → Prop} {s : Shared} {vs r : List Value} {a0 : Addr} {o0 : Obj} {n0 : Nat} {Q : SortKind → Shared → Prop} (e0 : vs = .ref a0 :: r) (ho0 : s.heap.get? a0 = some o0) (hd0 : o0.data = .seq #[] n0)
    (h : ∀ v ∈ vs, ∃ a o xs n, v = .ref a ∧ s.heap.get? a = some o ∧ o.cls = .type "tuple" ∧ o.data = .seq xs n) (q : Q PyProof.Rows.oneType' s) : wpAny M A (PyProof.Rows.keyKind' vs.toArray) Q E s := by
  rw [PyProof.Rows.keyKind'_eq, List.mapM_toArray, map_eq_pure_bind]
  refine wpAny_bind (wpAny_bind (firsts_tup vs h fun fs hl hf => wpAny_pure ?_))
  obtain ⟨t, rfl⟩ := hf a0 o0 n0 r e0 ho0 hd0
  rw [if_neg (by simp), if_neg (by simp)]
  rw [PyProof.Rows.oneTypeOnly'_eq, List.mapM_toArray, map_eq_pure_bind]
  have hT : ∀ v ∈ vs, PySem.W.Looks M s.heap (typeOf v) (Value.type "tuple") := fun v hv => by
    obtain ⟨a, o, xs, n, rfl, ho, hc, _⟩ := h v hv
    rw [← hc]
    exact (PySem.W.Looks.ld ho).andThen .now
  refine wpAny_bind (wpAny_bind (wpAny_bind (PySem.W.kas_mapM (r := Value.type "tuple") _ (fun v hv Q' hq => (hT v hv).here hq) (wpAny_pure ?_))))
  have hall : ((vs.map (fun _ => Value.type "tuple")).toArray.all fun x => x == Value.type "tuple") = true := by
    simp only [List.all_toArray, List.all_map, List.all_eq_true]
    intro _ _
    show (Value.type "tuple" == Value.type "tuple") = true
    decide
  have h0 : ((vs.map (fun _ => Value.type "tuple")).toArray)[0]? = some (Value.type "tuple") := by rw [e0]; simp
  rw [h0]
  simp only [hall, if_true]
  exact wpAny_pure (wpAny_pure q)
theorem alikeRs : ∀ a b : List Rel, PySem.W.alikeAll (a.map encR) (b.map encR) = true
  | [], _ => by simp [PySem.W.alikeAll]
  | _ :: _, [] => by simp [PySem.W.alikeAll]
  | x :: a, y :: b => by
    show PySem.W.alikeAll (encR x :: a.map encR) (encR y :: b.map encR) = true
    rw [PySem.W.alikeAll, alikeR, alikeRs a b]
    rfl
theorem depthRs : ∀ a : List Rel, PyData.depthAll (a.map encR) ≤ 1
  | [] => by simp [PyData.depthAll]
  | x :: a => by
    show PyData.depthAll (encR x :: a.map encR) ≤ 1
    rw [PyData.depthAll, depthR]
    have := depthRs a
    omega
theorem depthK (k : List Rel) : (encK k).depth ≤ 2 := by
  unfold encK
  rw [PyData.depth]
  have := depthRs k
  omega
/-- sorted(l) of locks, the first one empty: the same locks in some order -/
def rSortedK : List V → Hp → VK → Prop := fun vs H Q => ∃ (a : Addr) (xs : List V) (ks : List (List Rel)), vs = [V.ref a] ∧ H a = some (.lst xs) ∧ DlAll H xs (([] :: ks).map encK) ∧ ks.length ≤ 1000 ∧
  ∀ (ys : List V) (p : Addr), ys.Perm xs → H p = none → Q (.ref p) (upd H p (.lst ys))
theorem reads_kept {h h' : Heap} (k : ∀ b o, h.get? b = some o → o.cls = .type "tuple" → h'.get? b = some o) : ∀ {l : List Rel} {v : Value} {as : List Addr}, Reads h v (encK l) as → Reads h' v (encK l) as := by
  have r0 : ∀ {n : Str} {i : Int} {vs : List Value} {as : List Addr}, ReadsAll h vs [.str n, .int i] as → ReadsAll h' vs [.str n, .int i] as := by
    intro n i vs as h4
    cases h4 with
    | cons a b =>
      cases b with
      | cons b c =>
        cases c
        cases a
        cases b
        exact .cons (.str _ _) (.cons (.int _ _) .nil)
  have r1 : ∀ {r : Rel} {v : Value} {as : List Addr}, Reads h v (encR r) as → Reads h' v (encR r) as := by
    intro r v as q
    cases q with
    | tuple h1 h2 h3 h4 => exact .tuple (k _ _ h1 h2) h2 h3 (r0 h4)
  have r2 : ∀ {l : List Rel} {vs : List Value} {as : List Addr}, ReadsAll h vs (l.map encR) as → ReadsAll h' vs (l.map encR) as := by
    intro l
    induction l with
    | nil =>
      intro vs as q
      have q' : ReadsAll h vs [] as := q
      cases q'
      exact .nil
    | cons x l ih =>
      intro vs as q
      have q' : ReadsAll h vs (encR x :: l.map encR) as := q
      cases q' with
      | cons a b => exact .cons (r1 a) (ih b)
  intro l v as q
  cases q with
  | tuple h1 h2 h3 h4 => exact .tuple (k _ _ h1 h2) h2 h3 (r2 h4)
theorem cr_sortedK {X : Cx} (hu : X.A.units + 64 < cLine) : CallR X (.builtin "sorted") rSortedK := by
  intro pins s σ H vs us Q I r h
  obtain ⟨a, xs, ks, rfl, ha, hd, hl, q⟩ := h
  obtain ⟨its, rv, hL, hzl⟩ := I.list (SqL.of ha)
  rw [Vals.ref1 r]
  have rd : ∀ v ∈ its, ∃ k as, Reads s.heap v (encK k) as := by
    intro v hv
    obtain ⟨i, hi⟩ := List.getElem?_of_mem hv
    have hx : i < xs.length := by rw [rv.length]; exact (List.getElem?_eq_some_iff.mp hi).1
    obtain ⟨u, hu', ru⟩ := rv.get (List.getElem?_eq_getElem hx)
    rw [hi] at hu'
    cases hu'
    obtain ⟨d, hd1, hd2⟩ := hd.get' (List.getElem?_eq_getElem hx)
    rw [List.getElem?_map] at hd1
    obtain ⟨k, _, e⟩ := Option.map_eq_some_iff.mp hd1
    subst e
    obtain ⟨as, r⟩ := Dp.reads I _ _ _ hd2.dp ru
    exact ⟨k, as, r⟩
  obtain ⟨a0, o0, n0, r0, e0, ho0, hc0, hd0⟩ : ∃ a0 o0 n0 r0, its = .ref a0 :: r0 ∧ s.heap.get? a0 = some o0 ∧ o0.cls = .type "tuple" ∧ o0.data = .seq #[] n0 := by
    have hd' : DlAll H xs (encK [] :: ks.map encK) := hd
    cases hd' with
    | cons h1 h2 =>
      cases h1 with
      | tup hA hB =>
        cases hB
        cases rv with
        | cons r1 r2 =>
          cases r1
          obtain ⟨_, its', rv', o, ho, hc, n, hdat⟩ := hA.ok I.hok
          cases rv'
          exact ⟨_, o, n, _, rfl, ho, hc, hdat⟩
  have len : its.length ≤ sizeLine := by rw [← rv.length]; exact hzl
  refine Srt.sorted_any hL.isList len (fun h2 h₁ b hb k h' keep => ?_) fun out ho => ?_
  · have kt : ∀ c o, s.heap.get? c = some o → o.cls = .type "tuple" → h'.get? c = some o := fun c o e _ => keep c o (k c o e).1 (k c o e).2
    have rd' : ∀ v ∈ its, ∃ l as, Reads h' v (encK l) as := fun v hv => by
      obtain ⟨l, as, r⟩ := rd v hv
      exact ⟨l, as, reads_kept kt r⟩
    refine ⟨PyProof.Rows.oneType', fun Q' E' hq => ?_, fun p p' hp hp' => ?_⟩
    · refine kind_locks (s := { s with heap := h' }) e0 (kt _ _ ho0 hc0) hd0 (fun v hv => ?_) hq
      obtain ⟨l, as, r⟩ := rd' v hv
      cases r with
      | tuple h1 h2 h3 h4 => exact ⟨_, _, _, _, rfl, h1, h2, h3⟩
    · obtain ⟨l, as, r⟩ := rd' _ hp
      obtain ⟨l', as', r'⟩ := rd' _ hp'
      refine ⟨PySem.W.dataLt (encK l) (encK l'), ?_⟩
      rw [PyProof.Rows.keyLt'_oneType]
      refine lockLt (s := { s with heap := h' }) r r' (alikeRs l l') ?_ ⟨rfl, rfl⟩
      have h1 := depthK l
      unfold encK at h1
      have h2 := Nat.min_le_left (PyData.tuple (l.map encR)).depth (PyData.tuple (l'.map encR)).depth
      show X.A.units + 1 + 1 + _ < _
      omega
  · obtain ⟨ep, he'⟩ := PyProof.Rows.sortedAll_at s.heap its out.toArray
    obtain ⟨ys, hp, hv⟩ : ∃ ys : List V, ys.Perm xs ∧ Vals ys out := by
      have : ∀ {l m : List Value}, l.Perm m → ∀ {zs : List V}, Vals zs m → ∃ ys : List V, ys.Perm zs ∧ Vals ys l := by
        intro l m p
        induction p with
        | nil => intro zs v; exact ⟨zs, .refl _, v⟩
        | cons x p ih =>
          intro zs v
          cases v with
          | cons r t =>
            obtain ⟨ys, p1, v1⟩ := ih t
            exact ⟨_ :: ys, p1.cons _, .cons r v1⟩
        | swap x y l =>
          intro zs v
          cases v with
          | cons r t =>
            cases t with
            | cons r' t => exact ⟨_ :: _ :: _, List.Perm.swap _ _ _, .cons r' (.cons r t)⟩
        | trans p1 p2 i1 i2 =>
          intro zs v
          obtain ⟨ys, q1, v1⟩ := i2 v
          obtain ⟨ys2, q2, v2⟩ := i1 v1
          exact ⟨ys2, q2.trans q1, v2⟩
      exact this ho rv
    have hlen2 : ys.length ≤ sizeLine := by rw [hp.length_eq]; exact hzl
    exact ⟨.ref _, upd H (s.heap.objs.size + 1) (.lst ys), I.laid (t' := s.toks) (fun _ _ => PyProof.Rows.sortedAll_old) (Nat.le_succ _) ⟨hlen2, out, ep, hv, by simpa using he'⟩, rfl, q ys _ hp (I.hok.fresh (Nat.le_succ _))⟩
end Lk
namespace Lk
open PySem PySem.Spec PyProof.Rows L2

/-! ### dict(list of pairs), the keys releases -/
def keyR (r : Rel) : List L2.Key := [.inr r.1, .inl r.2]
theorem keyR_inj {a b : Rel} (h : keyR a = keyR b) : a = b := by
  obtain ⟨a1, a2⟩ := a
  obtain ⟨b1, b2⟩ := b
  unfold keyR at h
  simp only [List.cons.injEq, Sum.inr.injEq, Sum.inl.injEq, and_true] at h
  rw [h.1, h.2]
/-- a pair's place, its key's place, its key, its value -/
abbrev PairE := Addr × Addr × Rel × V
structure PairEOk (H : Hp) (e : PairE) : Prop where
  pair : Rd H e.1 (.tup [.ref e.2.1, e.2.2.2])
  key : H e.2.1 = some (.tup [.str e.2.2.1.1, .int e.2.2.1.2])
def rDictT : List V → Hp → VK → Prop := fun vs H Q => ∃ (a : Addr) (es : List PairE), vs = [.ref a] ∧ H a = some (.lst (es.map fun e => .ref e.1)) ∧ (∀ e ∈ es, PairEOk H e) ∧ (es.map (·.2.2.1)).Nodup ∧ es.length ≤ 1000 ∧
  ∀ p, H p = none → Q (.ref p) (upd H p (.dT (es.map fun e => (keyR e.2.2.1, e.2.2.2))))
theorem pairs_read {X : Cx} {pins : List (Addr × Obj)} {σ : L2.St} {H : Hp} {s : Shared} (I : Inv X pins σ H s) : ∀ {es : List PairE}, (∀ e ∈ es, PairEOk H e) → ∃ ws : List Value, ws.length = es.length ∧ ∀ (j : Nat) (e : PairE), es[j]? = some e → ∃ u, ws[j]? = some u ∧ RelV e.2.2.2 u ∧ s.heap.IsTuple e.1 #[.ref e.2.1, u]
  | [], _ => ⟨[], rfl, fun j e z => by simp at z⟩
  | e :: es, h => by
    obtain ⟨ws, hl, hw⟩ := pairs_read I (es := es) fun e' m => h e' (List.mem_cons_of_mem _ m)
    have h0 := h e List.mem_cons_self
    obtain ⟨_, its, rv, o, ho, hc, n, hd⟩ := h0.pair.ok I.hok
    obtain ⟨u1, u2, ei, r1, r2⟩ := vals2 rv
    subst ei
    cases r1
    refine ⟨u2 :: ws, by rw [List.length_cons, List.length_cons, hl], fun j e' z => ?_⟩
    cases j with
    | zero =>
      cases (Option.some.inj z : e = e')
      exact ⟨u2, rfl, r2, o, ho, hc, n, hd⟩
    | succ j => exact hw j e' z
theorem cr_dictT {X : Cx} (hu : X.A.units + 64 < cLine) (hcal : X.calm = true) : CallR X (.type "dict") rDictT := by
  intro pins s σ H vs us Q I r h
  obtain ⟨a, es, rfl, ha, hes, hn, hlen, q⟩ := h
  obtain ⟨its, rv, hL, _⟩ := I.list (SqL.of ha)
  rw [Vals.ref1 r]
  obtain ⟨ws, hwl, hw⟩ := pairs_read I hes
  have ei : its = es.map fun e => Value.ref e.1 := by
    have := refs_at (ps := es.map fun e => e.1) (us := its) (by rw [List.map_map]; exact rv)
    rw [this, List.map_map]
    rfl
  subst ei
  obtain ⟨o, n, ho, hc, hd, hdat⟩ := hL
  let Ts : Nat → Addr := fun j => ((es[j]?).map (·.1)).getD 0
  let ps : List (Value × Value) := (es.zip ws).map fun z => (Value.ref z.1.2.1, z.2)
  let xs : List (List L2.Key × Addr × Value) := (es.zip ws).map fun z => (keyR z.1.2.2.1, z.1.2.1, z.2)
  have hzl : (es.zip ws).length = es.length := by rw [List.length_zip, hwl, Nat.min_self]
  have hpl : ps.length = es.length := by show ((es.zip ws).map _).length = _; rw [List.length_map, hzl]
  have get : ∀ {j : Nat} {z : PairE × Value}, (es.zip ws)[j]? = some z → es[j]? = some z.1 ∧ ws[j]? = some z.2 := fun h => List.getElem?_zip_eq_some.mp h
  have ok : PlainSeq "list" s.heap a (es.map fun e => Value.ref e.1).toArray ∧ PairItems s.heap (es.map fun e => Value.ref e.1).toArray Ts ps := by
    refine ⟨⟨o, n, ho, hc, hd, hdat⟩, by rw [List.size_toArray, List.length_map, hpl], fun j k v hj => ?_⟩
    have hj' : ((es.zip ws).map fun z => (Value.ref z.1.2.1, z.2))[j]? = some (k, v) := hj
    rw [List.getElem?_map] at hj'
    obtain ⟨z, hz, e⟩ := Option.map_eq_some_iff.mp hj'
    cases e
    obtain ⟨g1, g2⟩ := get hz
    obtain ⟨u, hu', _, it⟩ := hw j z.1 g1
    rw [g2] at hu'
    cases hu'
    have eT : Ts j = z.1.1 := by show ((es[j]?).map (·.1)).getD 0 = _; rw [g1]; rfl
    rw [eT]
    refine ⟨?_, .inl it⟩
    rw [List.getElem?_toArray, List.getElem?_map, g1]
    rfl
  have hkey : ∀ x ∈ xs, ∀ h' : Heap, (∀ b o, s.heap.get? b = some o → h'.get? b = some o) → (tupleKind (mixKind X.prog X.w)).is h' x.1 x.2.1 := by
    intro x hx h' kp
    obtain ⟨z, hz, rfl⟩ := List.mem_map.mp hx
    have he := List.of_mem_zip hz
    have k1 := key_of (ks := keyR z.1.2.2.1) I.hok (hes _ he.1).key
    obtain ⟨o', its', n', h1, h2⟩ := k1
    exact ⟨o', its', n', kp _ _ h1, h2⟩
  have hxn : (xs.map (·.1)).Nodup := by
    have e1 : xs.map (·.1) = (es.map (·.2.2.1)).map keyR := by
      show ((es.zip ws).map _).map _ = _
      rw [List.map_map, List.map_map]
      have e2 : (es.zip ws).map (fun z => keyR z.1.2.2.1) = ((es.zip ws).map (·.1)).map (fun e => keyR e.2.2.1) := by rw [List.map_map]; rfl
      show (es.zip ws).map (fun z => keyR z.1.2.2.1) = _
      rw [e2, List.map_fst_zip (Nat.le_of_eq hwl.symm)]
      rfl
    rw [e1]
    exact (List.pairwise_map.mpr (hn.imp fun ne e => ne (keyR_inj e)))
  refine call_dict_pairsH (knd := tupleKind (mixKind X.prog X.w)) (ps := xs) (PairArg.list a _ Ts ps) (I.ok.hd hcal) (show X.A.units + 1 + 1 < cLine by omega) ok ⟨by show ((es.zip ws).map _).length = _; rw [List.length_map, hzl, hpl], fun j key v hj => ?_⟩ (fun h' kp x hx => ?_) (by rw [hpl]; exact Nat.le_trans hlen (by decide)) fun h' tk hd' kp => ?_
  · have hj' : ((es.zip ws).map fun z => (Value.ref z.1.2.1, z.2))[j]? = some (key, v) := hj
    rw [List.getElem?_map] at hj'
    obtain ⟨z, hz, e⟩ := Option.map_eq_some_iff.mp hj'
    cases e
    refine ⟨keyR z.1.2.2.1, z.1.2.1, ?_, rfl⟩
    show ((es.zip ws).map _)[j]? = _
    rw [List.getElem?_map, hz]
    rfl
  · exact hkey x hx h' fun b o e => kp b o (Nat.ne_of_lt (Heap.lt_size e)) (by simp) e
  · rw [storedAllH_nil_of_nodup xs hxn] at hd'
    obtain ⟨od, esd, ep, d1, d2, d3, d4, _, d6⟩ := hd'
    have kp' : ∀ b o, s.heap.get? b = some o → h'.get? b = some o := fun b o e => kp b o (by simp) e
    have hm : (s.heap.objs.size == sysModules) = false := beq_eq_false_iff_ne.mpr (Nat.ne_of_gt I.big)
    refine ⟨.ref s.heap.objs.size, upd H s.heap.objs.size (.dT (es.map fun e => (keyR e.2.2.1, e.2.2.2))), I.laid (t' := tk) kp' (Nat.le_refl _) ?_, rfl, q _ (I.hok.fresh (Nat.le_refl _))⟩
    refine ⟨by rw [List.length_map]; exact Nat.le_trans hlen (by decide), hm, xs, ?_, od, esd, ep, d1, d2, d3, d4, d6⟩
    have fr : ∀ {b : Addr} {u : HO}, H b = some u → upd H s.heap.objs.size (.dT (es.map fun e => (keyR e.2.2.1, e.2.2.2))) b = some u := fun e => by rw [upd_ne (ne_of_none e (I.hok.fresh (Nat.le_refl _)))]; exact e
    have all : ∀ (l : List PairE) (m : List Value), m.length = l.length → (∀ e ∈ l, PairEOk H e) → (∀ (j : Nat) (e : PairE), l[j]? = some e → ∃ u, m[j]? = some u ∧ RelV e.2.2.2 u) →
        Paired (fun (p : List L2.Key × V) (q : List L2.Key × Addr × Value) => p.1 = q.1 ∧ upd H s.heap.objs.size (.dT (es.map fun e => (keyR e.2.2.1, e.2.2.2))) q.2.1 = some (.tup (p.1.map kV)) ∧ RelV p.2 q.2.2) (l.map fun e => (keyR e.2.2.1, e.2.2.2)) ((l.zip m).map fun z => (keyR z.1.2.2.1, z.1.2.1, z.2)) := by
      intro l
      induction l with
      | nil => intro m _ _ _; exact .nil
      | cons e l ih =>
        intro m hm h1 h2
        cases m with
        | nil => cases hm
        | cons u m =>
          obtain ⟨u', e1, e2⟩ := h2 0 e rfl
          cases (Option.some.inj e1 : u = u')
          exact .cons ⟨rfl, fr (h1 e List.mem_cons_self).key, e2⟩ (ih m (Nat.succ.inj hm) (fun e' h' => h1 e' (List.mem_cons_of_mem _ h')) fun j e' h' => h2 (j + 1) e' h')
    exact all es ws hwl hes fun j e h => by
      obtain ⟨u, a1, a2, _⟩ := hw j e h
      exact ⟨u, a1, a2⟩
end Lk
namespace Lk
open PySem PySem.Spec PyProof.Rows L2

/-! ### sets of texts: what one is -/
abbrev sk (P : Program) (w : World) := PySem.strKind P w
/-- the elements es are the texts ls, in this order -/
def TxE (w : World) : List (Int × Value) → List Str → Prop := PySem.W.EachIs fun e x => ∃ tk, e = (hashStr w x, Value.str x tk)
structure TxSet (w : World) (h : Heap) (a : Addr) (ls : List Str) (o : Obj) (es : Array (Int × Value)) (ep : Nat) (t : SetTable) : Prop where
  at_ : h.get? a = some o
  ex : o.ExactSet
  dat : o.data = .set es ep t
  els : TxE w es.toList ls
  nd : ls.Nodup
  small : es.size < scanBound
  fit : t.fits es.size = true
  ris : Ris t.place.toList
  led : w.params.followText "set-order" = true ∨ t.led = true
/-- at a stands the set of the texts ls -/
def TxR (w : World) (h : Heap) (a : Addr) (ls : List Str) : Prop := ∃ o es ep t, TxSet w h a ls o es ep t
theorem TxR.keep {w : World} {h h' : Heap} {a : Addr} {ls : List Str} (x : TxR w h a ls) (k : ∀ o, h.get? a = some o → h'.get? a = some o) : TxR w h' a ls := by
  obtain ⟨o, es, ep, t, q⟩ := x
  exact ⟨o, es, ep, t, k o q.at_, q.ex, q.dat, q.els, q.nd, q.small, q.fit, q.ris, q.led⟩
section
variable {P : Program} {w : World}
theorem txe_elems : ∀ {l : List (Int × Value)} {ls : List Str}, TxE w l ls → ElemsOf (sk P w) l
  | _, _, .nil => fun e he => nomatch he
  | _, _, .cons (a := e) (b := x) h t => fun e' he' => by
    rcases List.mem_cons.mp he' with z | z
    · obtain ⟨tk, q⟩ := h
      rw [z, q]
      exact ⟨⟨x, strKind_is P w x tk, rfl⟩, rfl⟩
    · exact txe_elems t e' z
theorem txe_mem {k : Str} : ∀ {l : List (Int × Value)} {ls : List Str}, TxE w l ls → (k ∈ ls ↔ ∃ e ∈ l, (sk P w).is k e.2 = true)
  | _, _, .nil => ⟨fun h => (nomatch h), fun ⟨_, h, _⟩ => (nomatch h)⟩
  | _, _, .cons (a := e) (b := x) h t => by
    obtain ⟨tk, q⟩ := h
    rw [List.mem_cons, txe_mem t]
    constructor
    · rintro (z | ⟨e', h1, h2⟩)
      · exact ⟨e, List.mem_cons_self, by rw [q, z]; exact strKind_is P w x tk⟩
      · exact ⟨e', List.mem_cons_of_mem _ h1, h2⟩
    · rintro ⟨e', h1, h2⟩
      rcases List.mem_cons.mp h1 with z | z
      · rw [z, q] at h2
        have h3 : Value.isStrOf k (Value.str x tk) = true := h2
        obtain ⟨t2, z2⟩ := Value.isStrOf_shape h3
        injection z2 with z3 _
        exact .inl z3.symm
      · exact .inr ⟨e', z, h2⟩
theorem txe_perm : ∀ {l m : List (Int × Value)}, l.Perm m → ∀ {ls : List Str}, TxE w m ls → ∃ ks : List Str, ks.Perm ls ∧ TxE w l ks := by
  intro l m p
  induction p with
  | nil => exact fun h => ⟨_, .refl _, h⟩
  | cons x p ih =>
    intro ls h
    cases h with
    | cons a b =>
      obtain ⟨ks, p1, h1⟩ := ih b
      exact ⟨_, p1.cons _, .cons a h1⟩
  | swap x y l =>
    intro ls h
    cases h with
    | cons a b =>
      cases b with
      | cons b c => exact ⟨_, List.Perm.swap _ _ _, .cons b (.cons a c)⟩
  | trans p q i1 i2 =>
    intro ls h
    obtain ⟨ks, p1, h1⟩ := i2 h
    obtain ⟨js, p2, h2⟩ := i1 h1
    exact ⟨js, p2.trans p1, h2⟩
theorem txe_snoc {k : Str} {tk : Tok} : ∀ {l : List (Int × Value)} {ls : List Str}, TxE w l ls → TxE w (l ++ [(hashStr w k, Value.str k tk)]) (ls ++ [k])
  | _, _, .nil => .cons ⟨tk, rfl⟩ .nil
  | _, _, .cons h t => .cons h (txe_snoc t)
theorem nodup_perm_snoc {ls ks : List Str} {k : Str} (nd : ls.Nodup) (hk : k ∉ ls) (p : ks.Perm (ls ++ [k])) : ks.Nodup := by
  rw [p.nodup_iff]
  refine List.nodup_append.mpr ⟨nd, by simp, fun a ha b hb => ?_⟩
  rw [List.mem_singleton] at hb
  rw [hb]
  exact fun e => hk (e ▸ ha)
end
section
variable {P : Program} {w : World} {A : Around} {E : Value → Shared → Prop} {s : Shared} {a : Addr} {ls : List Str}
/-- the end of an insertion: the new elements stored, laid out anew where the table is too full -/
theorem txr_tail {g : Bool → Sem Unit} (hg : ∀ (b : Bool) (s1 : Shared) (Q1 : Unit → Shared → Prop), Q1 () s1 → wpAny (model P w) A (g b) Q1 E s1) {o : Obj} {es e1 : Array (Int × Value)} {ep : Nat} {t t1 : SetTable} {ks : List Str} {wd : Bool} {R : Option Bool → Shared → Prop}
    (x : TxSet w s.heap a ls o es ep t) (els : TxE w e1.toList ks) (nd : ks.Nodup) (small : e1.size < scanBound) (fit : t1.fits e1.size = true) (ris : Ris t1.place.toList) (led : w.params.followText "set-order" = true ∨ t1.led = true)
    (hR : ∀ h' js, Heap.SameBut a s.heap h' → js.Perm ks → TxR w h' a js → R (some true) { s with heap := h' }) :
    wpAny (model P w) A (do
        storeSet a e1 t1
        if (!wd && t1.tooFull) = true then do
            g (relayAll t1 e1 (SetTable.grown e1.size)).2.2
            storeSet a (relayAll t1 e1 (SetTable.grown e1.size)).1 (relayAll t1 e1 (SetTable.grown e1.size)).2.1
            pure (some true)
          else pure (some true)) R E s := by
  refine wpAny_bind (wpAny_storeSet_of x.at_ x.dat ?_ (fits_of_scanBound small))
  have at1 := store_at (es' := e1) (t' := t1) x.at_ x.dat
  have same1 := Heap.SameBut.update s.heap a (Obj.putSet e1 t1)
  split
  · have p2 := relayAll_perm t1 e1 (SetTable.grown e1.size)
    have f2 := relayAll_fits t1 e1 (SetTable.grown e1.size)
    have r2 := relayAll_ris t1 e1 (SetTable.grown e1.size)
    have l2 := relayAll_led t1 e1 (SetTable.grown e1.size)
    generalize relayAll t1 e1 (SetTable.grown e1.size) = Y at p2 f2 r2 l2 ⊢
    obtain ⟨e2, t2, gv⟩ := Y
    dsimp only at p2 f2 r2 l2 ⊢
    obtain ⟨js, pj, hj⟩ := txe_perm p2 els
    have size2 : e2.size = e1.size := by rw [← Array.length_toList, p2.length_eq, Array.length_toList]
    have small2 : e2.size < scanBound := by rw [size2]; exact small
    refine wpAny_bind (hg _ _ _ ?_)
    refine wpAny_bind (wpAny_storeSet_of at1 rfl ?_ (fits_of_scanBound small2))
    exact wpAny_pure (hR _ js (same1.trans (Heap.SameBut.update _ a _)) pj ⟨_, e2, _, t2, store_at (es' := e2) (t' := t2) at1 rfl, x.ex, rfl, hj, pj.nodup_iff.mpr nd, small2, f2, r2, led.imp id fun z => by rw [l2]; exact z⟩)
  · exact wpAny_pure (hR _ ks same1 (.refl _) ⟨_, e1, _, t1, at1, x.ex, rfl, els, nd, small, fit, ris, led⟩)
/-- one text more -/
theorem txr_add {k : Str} {tk : Tok} {Q : Bool → Shared → Prop} (x : TxR w s.heap a ls) (few : ls.length + 1 < scanBound)
    (hQ : ∀ h' ks b, Heap.SameBut a s.heap h' → (∀ z, z ∈ ks ↔ z ∈ ls ∨ z = k) → ks.length ≤ ls.length + 1 → TxR w h' a ks → Q b { s with heap := h' }) :
    wpAny (model P w) A (setAddHashed a (.str k tk) ((sk P w).hash k)) Q E s := by
  obtain ⟨o, es, ep, t, x⟩ := x
  have key : (sk P w).is k (.str k tk) = true := strKind_is P w k tk
  have scn : (Value.str k tk).scannable = true := rfl
  have els : ElemsOf (sk P w) es.toList := txe_elems x.els
  have esl : es.size = ls.length := by rw [← Array.length_toList]; exact x.els.length
  unfold setAddHashed setAddHashedIn
  refine wpAny_holding (wpAny_bind (wpAny_setState_of x.at_ x.dat x.fit ?_))
  dsimp only
  rw [byScan_of scn x.small els]
  simp only [↓reduceIte]
  unfold setAddByScan
  refine wpAny_bind (wpAny_bind (wpAny_rule (wpAny_bind (wpAny_setScan_of key x.at_ x.dat x.fit els ?_))))
  cases found : List.findIdx? (fun e => (sk P w).is k e.2) es.toList with
  | some j =>
    dsimp only
    obtain ⟨hj, pj, _⟩ := List.findIdx?_eq_some_iff_getElem.mp found
    have hk : k ∈ ls := (txe_mem (P := P) x.els).2 ⟨_, List.getElem_mem hj, pj⟩
    exact wpAny_pure (wpAny_pure (hQ s.heap ls _ (Heap.SameBut.refl a s.heap) (fun z => ⟨.inl, fun h => h.elim id fun e => e ▸ hk⟩) (Nat.le_succ _) ⟨o, es, ep, t, x⟩))
  | none =>
    dsimp only
    have hk : k ∉ ls := fun z => by
      obtain ⟨e, he, q⟩ := (txe_mem (P := P) x.els).1 z
      have c := List.findIdx?_eq_none_iff.mp found e he
      rw [q] at c
      cases c
    have quiet : ∀ (b : Bool) {s1 : Shared} {Q1 : Unit → Shared → Prop}, Q1 () s1 → wpAny (model P w) A (match b with | true => rule "set.scan.the-table-gave-way" | false => pure ()) Q1 E s1 := fun b _ _ q => by
      cases b <;> first | exact wpAny_pure q | exact wpAny_rule q
    have p1 := layNew_perm t es ((sk P w).hash k) (.str k tk)
    have f1 := layNew_fits t es ((sk P w).hash k) (.str k tk)
    have r1 := layNew_ris t es ((sk P w).hash k) (.str k tk) x.ris
    have l1 := layNew_led t es ((sk P w).hash k) (.str k tk)
    generalize layNew t es ((sk P w).hash k) (.str k tk) = Y at p1 f1 r1 l1 ⊢
    obtain ⟨e1, t1, wd, gv⟩ := Y
    dsimp only at p1 f1 r1 l1 ⊢
    rw [Array.toList_push] at p1
    obtain ⟨ks, pk, hks⟩ := txe_perm p1 (txe_snoc (tk := tk) x.els)
    have lk : ks.length = ls.length + 1 := by rw [pk.length_eq, List.length_append]; rfl
    have size1 : e1.size = ls.length + 1 := by rw [← Array.length_toList, hks.length, lk]
    have led1 : w.params.followText "set-order" = true ∨ t1.led = true := x.led.imp id fun z => by rw [l1]; exact z
    have nd := nodup_perm_snoc x.nd hk pk
    have fin : ∀ h' js, Heap.SameBut a s.heap h' → js.Perm ks → TxR w h' a js → Q true { s with heap := h' } := fun h' js sb pj r =>
      hQ h' js true sb (fun z => by rw [pj.mem_iff, pk.mem_iff, List.mem_append, List.mem_singleton]) (by rw [pj.length_eq, lk]; exact Nat.le_refl _) r
    refine wpAny_bind (quiet _ ?_)
    split
    · refine wpAny_bind ?_
      rw [hashByValue_scannable 8 scn]
      refine wpAny_pure (txr_tail ?_ x hks nd (by rw [size1]; exact few) ?_ ?_ ?_ ?_)
      · intro b s1 Q1 q; cases b <;> first | exact wpAny_pure q | exact wpAny_rule q
      · first | (split <;> first | exact f1 | exact SetTable.fits_plain_off f1) | exact f1
      · first | (split <;> exact r1) | exact r1
      · first | (split <;> exact led1) | exact led1
      · exact fun h' js sb pj r => wpAny_pure (fin h' js sb pj r)
    · refine wpAny_bind (wpAny_pure ?_)
      simp only [↓reduceIte]
      refine txr_tail ?_ x hks nd (by rw [size1]; exact few) f1 r1 led1 ?_
      · intro b s1 Q1 q; cases b <;> first | exact wpAny_pure q | exact wpAny_rule q
      · exact fun h' js sb pj r => wpAny_pure (fin h' js sb pj r)
/-- the walk that fills a set from an iterator's texts -/
theorem txr_update {I : Addr} {fp wr : List Addr} {G : Array GenState → Array GenState → Prop} {n : Nat} {Pv : Nat → Value → Prop} {St : Nat → Shared → Prop} {R : Result → Shared → Prop} (W : WalksS P w A.in1 I fp wr G n Pv St) (hS : a ∉ fp) (xs : List Str) (hn : n = xs.length) (few : xs.length + 1 < scanBound)
    (hv : ∀ i v, Pv i v → ∃ x tk, xs[i]? = some x ∧ v = .str x tk) : ∀ (m i : Nat) (s : Shared), n - i = m → i ≤ n → St i s → (∃ ks, ks.length ≤ i ∧ (∀ z, z ∈ ks ↔ z ∈ xs.take i) ∧ TxR w s.heap a ks) →
      (∀ s' ks, Moved (a :: wr) G s s' → ks.length ≤ n → (∀ z, z ∈ ks ↔ z ∈ xs) → TxR w s'.heap a ks → R (.ok (.ret .none)) s') →
      codeAny (model P w) A (.builtin "set.update.loop" ⟨[.ref a, .ref I], []⟩) R s := by
  have nw : a ∉ wr := fun h => hS (W.sub _ h)
  have sub : ∀ b ∈ wr, b ∈ a :: wr := fun b hb => List.mem_cons_of_mem _ hb
  intro m
  induction m with
  | zero =>
    intro i s hm hi st ⟨ks, hl, hk, r⟩ hR
    obtain rfl : i = n := by omega
    refine codeAny_builtin F.entry_set_update_loop ?_
    rw [Around.under_plainId F.plain_set_update_loop _]
    show wpAny _ A.in1 (pyNext (.ref I) >>= _) _ _ s
    refine wpAny_bind (W.done s _ _ st fun s' mv => ?_)
    show wpAny _ A.in1 (ret Value.none) _ _ s'
    have e : xs.take i = xs := List.take_of_length_le (by omega)
    rw [e] at hk
    exact wpAny_pure (hR s' ks (mv.mono sub) hl hk (r.keep fun o e => mv.heap a o nw e))
  | succ m ih =>
    intro i s hm hi st ⟨ks, hl, hk, r⟩ hR
    have lt : i < n := by omega
    refine codeAny_builtin F.entry_set_update_loop ?_
    rw [Around.under_plainId F.plain_set_update_loop _]
    show wpAny _ A.in1 (pyNext (.ref I) >>= _) _ _ s
    refine wpAny_bind (W.item i s _ _ lt st fun v s1 hP st1 mv => ?_)
    obtain ⟨x, tk, hx, rfl⟩ := hv i v hP
    show wpAny _ A.in1 (holding [Value.str x tk] (setAdd a (.str x tk)) >>= _) _ _ s1
    refine wpAny_bind (wpAny_holding ?_)
    unfold setAdd
    refine wpAny_holding (wpAny_bind ((sk P w).pyHash (k := x) (strKind_is _ _ _ _) ?_))
    refine txr_add (s := { s1 with toks := s1.toks + 1 }) (r.keep fun o e => mv.heap a o nw e) (by omega) fun h' js b sb hj lj r' => ?_
    refine wpAny_pure ⟨plainId_quiet F.plain_set_update_loop _, ih (i + 1) _ (by omega) lt (W.frame _ s1 _ _ st1 (Nat.le_succ _) fun c hc o e => ?_) ⟨js, by omega, fun z => ?_, r'⟩ fun s2 js2 mv2 l2 h2 r2 => ?_⟩
    · exact (sb.2 c fun z : c = a => hS (by rw [← z]; exact hc)).trans e
    · rw [hj, hk, List.take_add_one, hx, List.mem_append]
      exact or_congr Iff.rfl (by simp)
    · refine hR s2 js2 (Moved.trans W.gtrans ((mv.mono sub).then_heap (Nat.le_succ _) fun c o hc e => ?_) mv2) l2 h2 r2
      exact (sb.2 c fun z : c = a => hc (by rw [z]; exact List.mem_cons_self)).trans e
/-- set(l), l a list of texts -/
theorem call_set_texts {l : Addr} {items : Array Value} (xs : List Str) {Q : Value → Shared → Prop} (hh : A.handled = none) (hl : s.heap.IsList l items) (hx : StrsAre items.toList xs) (few : xs.length + 1 < scanBound)
    (h : ∀ (h' : Heap) (tk : Nat) (ks : List Str), TxR w h' s.heap.objs.size ks → ks.length ≤ xs.length → (∀ z, z ∈ ks ↔ z ∈ xs) → (∀ b o, s.heap.get? b = some o → h'.get? b = some o) → Q (.ref s.heap.objs.size) { s with heap := h', toks := tk }) :
    wpAny (model P w) A (call (.type "set") [.ref l]) Q E s := by
  have isz : items.size = xs.length := by rw [← StrsAre.len_eq hx, Array.length_toList]
  obtain ⟨c, tl, hmro⟩ := F.called_set.mro
  have made := F.called_set.made
  have sub := F.called_set.sub
  refine wpAny_call (codeAny_of_tree ?_)
  show wpAny _ _ (callAny (.type "set") _) _ _ _
  refine wpAny_pure ⟨Code.quiet_builtin _ (by decide +kernel), codeAny_builtin F.entry_type_call ?_⟩
  rw [Around.under_plain (weight_type_call_type "set" [.ref l] []) rfl]
  have a1 := F.called_set.notType
  have a2 := F.called_set.canCreate
  have a3 := F.typeCall_set_1 (.ref l)
  repeat (any_goals (first | assumption | wp_step))
  refine codeAny_mono (code_set_led1 (.ref l) (E := E) (Q₁ := fun obj s1 => obj = .ref s.heap.objs.size ∧ s1 = { s with heap := s.heap.push { cls := .type "set", dict := none, data := .set #[] 0 (.fresh 0 0 (!w.params.followText "set-order")) } }) ⟨rfl, rfl⟩) fun r s1 hr => ?_
  cases r with
  | error e => exact hr
  | ok fl =>
    cases fl with
    | next => exact hr.elim
    | brk => exact hr.elim
    | cont => exact hr.elim
    | ret obj =>
      obtain ⟨rfl, rfl⟩ := hr
      have b1 : (s.heap.push { cls := .type "set", dict := none, data := .set #[] 0 (.fresh 0 0 (!w.params.followText "set-order")) }).get? s.heap.objs.size = some { cls := .type "set", dict := none, data := .set #[] 0 (.fresh 0 0 (!w.params.followText "set-order")) } := Heap.get?_push_size _ rfl
      have b2 : Shared.TypeIs { s with heap := s.heap.push { cls := .type "set", dict := none, data := .set #[] 0 (.fresh 0 0 (!w.params.followText "set-order")) } } (.ref s.heap.objs.size) "set" := ⟨_, b1, rfl⟩
      have b3 := F.called_set.init.lookup
      have b4 := F.called_set.init.bind (.ref s.heap.objs.size)
      repeat (any_goals (first | assumption | wp_step))
      refine codeAny_mono (codeAny_call_builtin (R := wants (fun r s2 => r = .none ∧ ∃ h' tk ks, s2 = { s with heap := h', toks := tk } ∧ TxR w h' s.heap.objs.size ks ∧ ks.length ≤ xs.length ∧ (∀ z, z ∈ ks ↔ z ∈ xs) ∧ (∀ b o, s.heap.get? b = some o → h'.get? b = some o)) E) F.called_set.init.plain F.entry_set_init (check_set_init_1 b2 ?_)) fun r2 s2 hr2 => ?_
      · obtain ⟨ol, hol, hcl, nl, hdl⟩ := hl
        obtain ⟨ocls, odict, odata, oslots⟩ := ol
        simp only at hcl hdl
        subst hcl; subst hdl
        have hol2 : (s.heap.push { cls := .type "set", dict := none, data := .set #[] 0 (.fresh 0 0 (!w.params.followText "set-order")) }).get? l = some { cls := .type "list", dict := odict, data := .seq items nl, slots := oslots } := Heap.get?_push_of_some _ hol
        have c1 := PySem.F.sub_list_set
        have c2 := PySem.F.sub_list_frozenset
        have c3 : (Value.type "list" == Value.type "dict") = false := by decide
        have hl1 : (s.heap.push { cls := .type "set", dict := none, data := .set #[] 0 (.fresh 0 0 (!w.params.followText "set-order")) }).IsList l items := ⟨_, hol2, rfl, nl, rfl⟩
        unfold Builtin.«set.__init__» noKeywords Builtin.Frozenset.updateFrom
        generalize hPI : pyIter = PI
        wp_walk
        subst hPI
        refine wpAny_pyIter_list hl1 (wpAny_bind (wpAny_runValue ?_))
        have lS : l < s.heap.objs.size := Heap.lt_size hol
        have h3 : A.in1.in1.in1.handled = none := by simp [hh]
        have lI : l ≠ (s.heap.push { cls := .type "set", dict := none, data := .set #[] 0 (.fresh 0 0 (!w.params.followText "set-order")) }).objs.size := by
          rw [Heap.size_push]; exact Nat.ne_of_lt (Nat.lt_succ_of_lt lS)
        have sf : s.heap.objs.size ∉ [(s.heap.push { cls := .type "set", dict := none, data := .set #[] 0 (.fresh 0 0 (!w.params.followText "set-order")) }).objs.size, l] := by
          rw [Heap.size_push]
          simp only [List.mem_cons, List.not_mem_nil, or_false, not_or]
          exact ⟨Nat.ne_of_lt (Nat.lt_succ_self _), Nat.ne_of_gt lS⟩
        refine txr_update ((Walks.list h3 _ l lI items).toS) sf xs isz few (fun i v hv => ?_) (items.size - 0) 0 _ (by omega) (Nat.zero_le _) ⟨⟨_, Heap.get?_push_size _ rfl, rfl, rfl⟩, (hl1.push _)⟩ ⟨[], Nat.le_refl _, fun z => by simp, ?_⟩ fun s3 ks mv lk hk r => ?_
        · have hi : i < xs.length := by rw [← isz]; exact (Array.getElem?_eq_some_iff.mp hv).1
          obtain ⟨t, e⟩ := SS.strs_at hx i v (by rw [Array.getElem?_toList]; exact hv)
          refine ⟨xs[i], t, List.getElem?_eq_getElem hi, ?_⟩
          rw [e, List.getD_eq_getElem?_getD, List.getElem?_eq_getElem hi] <;> rfl
        · refine ⟨_, #[], 0, _, Heap.get?_push_of_some _ b1, ⟨rfl, rfl, rfl⟩, rfl, .nil, List.nodup_nil, (by decide), (by rfl), List.Pairwise.nil, ?_⟩
          show _ ∨ (!w.params.followText "set-order") = true
          cases w.params.followText "set-order"
          · exact .inr rfl
          · exact .inl rfl
        · obtain ⟨h', g2, d2, tk2, os2⟩ := s3
          have eg : g2 = s.gens := mv.gens
          have ed : d2 = s.drawn := mv.drawn
          have eo : os2 = s.os := mv.os
          subst eg; subst ed; subst eo
          show wpAny _ _ _ _ _ _
          refine wpAny_pure ?_
          show wpAny _ _ (ret Value.none) _ _ _
          rw [isz] at lk
          refine wpAny_pure ⟨rfl, h', tk2, ks, rfl, r, lk, hk, fun b o e => ?_⟩
          have b0 : b < s.heap.objs.size := Heap.lt_size e
          have n1 : b ≠ s.heap.objs.size := Nat.ne_of_lt b0
          have n2 : b ≠ (s.heap.push { cls := .type "set", dict := none, data := .set #[] 0 (.fresh 0 0 (!w.params.followText "set-order")) }).objs.size := by
            rw [Heap.size_push]; exact Nat.ne_of_lt (Nat.lt_succ_of_lt b0)
          refine mv.heap b o ?_ (Heap.get?_push_of_some _ (Heap.get?_push_of_some _ e))
          simp only [List.mem_cons, List.not_mem_nil, or_false, not_or]
          exact ⟨n1, n2⟩
      · cases r2 with
        | error e => exact hr2
        | ok fl2 =>
          cases fl2 with
          | next => exact hr2.elim
          | brk => exact hr2.elim
          | cont => exact hr2.elim
          | ret r =>
            obtain ⟨rfl, h', tk, ks, rfl, r1, r2, r3, r4⟩ := hr2
            repeat (any_goals (first | assumption | wp_step))
            exact h _ _ ks r1 r2 r3 r4
end
end Lk
namespace Lk
open PySem PySem.Spec PyProof.Rows L2
section
variable {P : Program} {w : World} {A : Around} {E : Value → Shared → Prop} {s : Shared} {a : Addr} {ls : List Str}
theorem txe_each {h : Heap} : ∀ {l : List (Int × Value)} {ls : List Str}, TxE w l ls → PySem.W.EachIs (fun v x => ∃ tk, v = Value.str x tk) (l.map (·.2)) ls
  | _, _, .nil => .nil
  | _, _, .cons ⟨tk, q⟩ t => .cons ⟨tk, by rw [q]⟩ (txe_each (h := h) t)
theorem each_perm {α β : Type} {R : α → β → Prop} : ∀ {l m : List α}, l.Perm m → ∀ {ls : List β}, PySem.W.EachIs R m ls → ∃ ks : List β, ks.Perm ls ∧ PySem.W.EachIs R l ks := by
  intro l m p
  induction p with
  | nil => exact fun h => ⟨_, .refl _, h⟩
  | cons x p ih =>
    intro ls h
    cases h with
    | cons a b =>
      obtain ⟨ks, p1, h1⟩ := ih b
      exact ⟨_, p1.cons _, .cons a h1⟩
  | swap x y l =>
    intro ls h
    cases h with
    | cons a b =>
      cases b with
      | cons b c => exact ⟨_, List.Perm.swap _ _ _, .cons b (.cons a c)⟩
  | trans p q i1 i2 =>
    intro ls h
    obtain ⟨ks, p1, h1⟩ := i2 h
    obtain ⟨js, p2, h2⟩ := i1 h1
    exact ⟨js, p2.trans p1, h2⟩
theorem each_strs : ∀ {l : List Value} {ls : List Str}, PySem.W.EachIs (fun v x => ∃ tk, v = Value.str x tk) l ls → StrsAre l ls
  | _, _, .nil => .nil
  | _, _, .cons ⟨tk, q⟩ t => by rw [q]; exact .cons _ tk (each_strs t)
/-- sorted(s), s a set of texts -/
theorem sorted_texts {Q : Value → Shared → Prop} (x : TxR w s.heap a ls) (hh : A.handled = none) (few : ls.length < 64) (room : A.units + 64 < cLine)
    (hQ : ∀ s' p (out : List Value) (c : Nat), (∀ b o, s.heap.get? b = some o → s'.heap.get? b = some o) → s'.gens = s.gens → s'.os = s.os → s.heap.objs.size ≤ p → s'.heap.get? p = some (seqObj "list" out.toArray c) → StrsAre out (sortSet ls) → Q (.ref p) s') :
    wpAny (model P w) A (call (.builtin "sorted") [.ref a]) Q E s := by
  obtain ⟨o, es, ep, t, x⟩ := x
  refine Calls.call_function_entry kind_sorted plain_sorted entry_sorted (args_sorted1 _) ?_
  unfold Builtin.«sorted»
  refine wpAny_bind (m := checkCount "sorted" 1 1 _) (wpAny_pure ?_)
  refine wpAny_bind (collect_set (A := A.in1) hh ⟨o, x.at_, x.ex.1, x.dat⟩ x.fit x.small x.ris x.led fun s1 vs k1 hz g1 o1 pm => ?_)
  obtain ⟨ks, pk, ek⟩ := each_perm pm (txe_each (h := s.heap) x.els)
  have lk : ks.length = ls.length := pk.length_eq
  have lv : vs.length = ks.length := ek.length
  refine wpAny_bind (wpAny_newList ?_ (by rw [lv, lk, sizeLine_eq]; omega))
  have at1 : (s1.heap.push (seqObj "list" vs.toArray 0)).get? s1.heap.objs.size = some (seqObj "list" vs.toArray 0) := Heap.get?_push_size _ rfl
  refine wpAny_bind (wpAny_holding ?_)
  have er : PySem.W.EachIs (fun v (b : Str) => ∃ as, Reads (s1.heap.push (seqObj "list" vs.toArray 0)) v (PyData.str b) as ∧ s1.heap.objs.size ∉ as) vs ks := ek.mono fun v b ⟨tk, q⟩ => ⟨[], by rw [q]; exact Reads.str b tk, by simp⟩
  refine PySem.W.list_sort_data (s := { s1 with heap := s1.heap.push (seqObj "list" vs.toArray 0) }) (enc := fun b : Str => PyData.str b) at1 ek er (PySem.W.AllAlike.of fun b c => by simp [PySem.W.alike]) (PySem.W.Sortable.others fun b => ⟨fun z => (nomatch z), fun _ z => (nomatch z)⟩) (by rw [lk, sizeLine_eq]; omega) (fun b _ => ?_) fun out ho eo => ?_
  · have : (PyData.str b).depth = 0 := by simp [PyData.depth]
    rw [this]
    show A.units + 1 + 1 + 0 < _
    omega
  · obtain ⟨c, hc⟩ := sortedHeap_at (vs := vs) (out := out.toArray) at1
    have ess : ks.mergeSort (PySem.W.dataLe false fun b : Str => PyData.str b) = sortSet ls := by
      have pm2 := List.mergeSort_perm ks (PySem.W.dataLe false fun b : Str => PyData.str b)
      have hle : PySem.W.dataLe false (fun b : Str => PyData.str b) = fun b c => decide (¬ sLt c b) := by
        funext b c
        rw [PySem.W.dataLe_eq]
        show (!PySem.W.dataLt (PyData.str c) (PyData.str b)) = _
        rw [PySem.W.dataLt_str]
        show (!decide (sLt c b)) = _
        simp
      have pw := List.pairwise_mergeSort (le := fun b c : Str => decide (¬ sLt c b)) (fun a b c h1 h2 => by
        have h1 := of_decide_eq_true h1
        have h2 := of_decide_eq_true h2
        refine decide_eq_true fun h3 => ?_
        rcases sLt_tri a b with z | z | z
        · exact h2 (sLt_trans h3 z)
        · rw [z] at h3; exact h2 h3
        · exact h1 z) (fun a b => by
        rw [Bool.or_eq_true, decide_eq_true_eq, decide_eq_true_eq]
        by_cases h : sLt b a
        · exact .inr (sLt_asymm h)
        · exact .inl h) ks
      rw [← hle] at pw
      have nd : (ks.mergeSort (PySem.W.dataLe false fun b : Str => PyData.str b)).Nodup := by
        rw [pm2.nodup_iff, pk.nodup_iff]
        exact x.nd
      refine sortSet_uniq ((pw.and nd).imp fun {b c} q => ?_) fun z => by rw [pm2.mem_iff, pk.mem_iff]
      have q1 : decide (¬ sLt c b) = true := q.1
      rcases sLt_tri b c with z | z | z
      · exact z
      · exact absurd z q.2
      · exact absurd z (of_decide_eq_true q1)
    rw [ess] at eo
    refine wpAny_pure ⟨_, rfl, hQ _ s1.heap.objs.size out c (fun b u e => ?_) g1 o1 hz hc (each_strs eo)⟩
    have q := k1 b u e
    have hlt := Heap.lt_size q
    show (sortedHeap (s1.heap.push (seqObj "list" vs.toArray 0)) s1.heap.objs.size vs out.toArray).get? b = some u
    rw [sortedHeap_old (Nat.ne_of_lt hlt) (by rw [size_push']; exact Nat.lt_succ_of_lt hlt)]
    exact Heap.get?_push_of_some _ q
end
/-- a set of texts, tracked -/
def TxO (w : World) (a : Addr) (ks : List Str) : HO := .ext fun h => TxR w h a ks
section
variable {X : Cx}
theorem txo_new {w : World} {P : Program} {H : Hp} {h : Heap} {a : Addr} {ks : List Str} (r : TxR w h a ks) : ObjOk P w H h a (TxO w a ks) := by
  have ⟨o, _, _, _, x⟩ := r
  exact ⟨r, ⟨o, x.at_⟩, fun h1 h2 p k => TxR.keep p k⟩
def rSetTx (w : World) : List V → Hp → VK → Prop := fun vs H Q => ∃ (a : Addr) (xs : List Str), vs = [.ref a] ∧ H a = some (.lst (xs.map V.str)) ∧ xs.length ≤ 1000 ∧
  ∀ p ks, ks.length ≤ xs.length → (∀ z, z ∈ ks ↔ z ∈ xs) → H p = none → Q (.ref p) (upd H p (TxO w p ks))
theorem cr_setTx (hcal : X.calm = true) : CallR X (.type "set") (rSetTx X.w) := by
  intro pins s σ H vs us Q I r h
  obtain ⟨a, xs, rfl, ha, few, q⟩ := h
  obtain ⟨its, rv, hL, _⟩ := I.list (SqL.of ha)
  rw [Vals.ref1 r]
  refine call_set_texts xs (I.ok.hd hcal) hL.isList rv.strs (Nat.lt_of_le_of_lt (Nat.add_le_add_right few 1) (by decide)) fun h' tk ks hr hl hm kp => ?_
  exact ⟨.ref _, upd H s.heap.objs.size (TxO X.w s.heap.objs.size ks), I.laid (t' := tk) kp (Nat.le_refl _) (txo_new hr), rfl, q _ ks hl hm (I.hok.fresh (Nat.le_refl _))⟩
def rSortTx (w : World) : List V → Hp → VK → Prop := fun vs H Q => ∃ (a : Addr) (ks : List Str), vs = [.ref a] ∧ H a = some (TxO w a ks) ∧ ks.length < 64 ∧ ∀ p, H p = none → Q (.ref p) (upd H p (.lst ((sortSet ks).map V.str)))
theorem cr_sortTx (hcal : X.calm = true) (hu : X.A.units + 64 < cLine) : CallR X (.builtin "sorted") (rSortTx X.w) := by
  intro pins s σ H vs us Q I r h
  obtain ⟨a, ks, rfl, ha, few, q⟩ := h
  have R : TxR X.w s.heap a ks := (I.hok a _ ha).1
  rw [Vals.ref1 r]
  refine sorted_texts R (I.ok.hd hcal) few hu fun s' p out c kp g o hp hg hs => ?_
  have hlen : ((sortSet ks).map V.str).length ≤ sizeLine := by
    rw [List.length_map, sizeLine_eq]
    have := sortSet_len ks
    omega
  have hn : H p = none := I.hok.fresh hp
  have J : Inv X pins σ (upd H p (.lst ((sortSet ks).map V.str))) { s with heap := s'.heap, gens := s'.gens, drawn := s'.drawn, toks := s'.toks } :=
    I.call (ch := []) (Un.laid kp hp hn) (I.hok.laid kp hp ⟨hlen, out, c, vals_of_strs hs, hg⟩) (by rw [g]; exact I.bare) (fun _ z => nomatch z)
  have e : s' = { s with heap := s'.heap, gens := s'.gens, drawn := s'.drawn, toks := s'.toks } := by
    cases s'
    cases s
    cases o
    rfl
  rw [e]
  exact ⟨.ref p, _, J, rfl, q p hn⟩
end
section
variable {X : Cx} {e : Expr} {es : List Expr} {σ : L2.St} {H : Hp} {p p2 pos pos2 : Pos} {xs : List Str}
/-- sorted(set(e)), e a list of texts -/
theorem ev_sortset (hcal : X.calm = true) (hu : X.A.units + 64 < cLine) (hm : X.mg "sorted" = none) (hm2 : X.mg "set" = none) (h : EvD X e σ H (.list (xs.map .str))) (few : xs.length < 64) (hg : Gl X "sorted" := by rfl) (hg2 : Gl X "set" := by rfl)
    (he : starEach [.Call (.Name "set" p2) [e] [] pos2] X.env = (false, eval (.Call (.Name "set" p2) [e] [] pos2) X.env) :: starEach [] X.env := by rfl) (he2 : starEach [e] X.env = (false, eval e X.env) :: starEach [] X.env := by rfl)
    (hpl : (backTo pos (starEach [] X.env)).any (·.1) = false := by rfl) (hpl2 : (backTo pos2 (starEach [] X.env)).any (·.1) = false := by rfl) : EvD X (.Call (.Name "sorted" p) [.Call (.Name "set" p2) [e] [] pos2] [] pos) σ H (.list ((sortSet xs).map .str)) := fun H1 s1 Q q =>
  do_callB (cr_sortTx hcal hu) hm (by decide +kernel) (da_cons (do_callTy (cr_setTx hcal) hm2 (by decide +kernel) (da_cons (h H1 s1 _ fun v H2 s2 r => da_nil (by
    cases r with
    | lst ha hd =>
      have e1 := DlAll.strs hd
      subst e1
      refine ⟨_, xs, rfl, ha, by omega, fun p ks hl hk hp => da_nil ⟨p, ks, rfl, upd_same, by omega, fun b hb => ?_⟩⟩
      rw [sortSet_congr hk]
      exact q _ _ ((s2.trans (same_new hp)).trans (same_new hb)) (.lst upd_same dl_strs))) he2) hg2 (by decide) (by decide) he2 hpl2) he) hg (by decide) (by decide) he hpl
end
end Lk
namespace Lk
open PySem PySem.Spec PyProof.Rows L2
section
variable {X : Cx}
/-- tuple(l) of a list, the new object known: it has no dict of its own -/
def rTupF : List V → Hp → VK → Prop := fun vs H Q => ∃ (a : Addr) (xs : List V), vs = [.ref a] ∧ H a = some (.lst xs) ∧ ∀ p o, H p = none → o.dict = none → Q (.ref p) (upd H p (.frz o (.tup xs)))
theorem cr_tupF : CallR X (.type "tuple") rTupF := by
  intro pins s σ H vs us Q I r h
  obtain ⟨a, xs, rfl, ha, q⟩ := h
  obtain ⟨its, rv, hL, hz⟩ := I.list (SqL.of ha)
  rw [Vals.ref1 r]
  have hlen := rv.length
  refine call_tuple_list hL.isList (fun h' kp => ?_) (by simp only [List.size_toArray] <;> omega)
  have I1 : Inv X pins σ H { s with heap := h' } := I.kept (t' := s.toks) kp
  have hat : (h'.push { cls := .type "tuple", data := .seq its.toArray }).get? h'.objs.size = some { cls := .type "tuple", data := .seq its.toArray } := Heap.get?_push_size _ rfl
  refine ⟨.ref h'.objs.size, upd H h'.objs.size (.frz { cls := .type "tuple", data := .seq its.toArray } (.tup xs)), I1.laid (t' := s.toks) (fun b o e => Heap.get?_push_of_some _ e) (Nat.le_refl _) ?_, rfl, q _ _ (I1.hok.fresh (Nat.le_refl _)) rfl⟩
  exact ⟨hat, hz, its, rv, _, hat, rfl, _, rfl⟩
/-! ### dict(tuple of pairs), the keys texts -/
abbrev PairU := Addr × Str × V
def rDictF : List V → Hp → VK → Prop := fun vs H Q => ∃ (a : Addr) (o : Obj) (es : List PairU), vs = [.ref a] ∧ H a = some (.frz o (.tup (es.map fun e => .ref e.1))) ∧ o.dict = none ∧ (∀ e ∈ es, Rd H e.1 (.tup [.str e.2.1, e.2.2])) ∧ (es.map (·.2.1)).Nodup ∧ es.length ≤ 1000 ∧
  ∀ p, H p = none → Q (.ref p) (upd H p (.dK (es.map fun e => (Sum.inr e.2.1, e.2.2))))
theorem pairsU_read {pins : List (Addr × Obj)} {σ : L2.St} {H : Hp} {s : Shared} (I : Inv X pins σ H s) : ∀ {es : List PairU}, (∀ e ∈ es, Rd H e.1 (.tup [.str e.2.1, e.2.2])) → ∃ ws : List (Value × Value), ws.length = es.length ∧ ∀ (j : Nat) (e : PairU), es[j]? = some e → ∃ u t, ws[j]? = some (.str e.2.1 t, u) ∧ RelV e.2.2 u ∧ s.heap.IsTuple e.1 #[.str e.2.1 t, u]
  | [], _ => ⟨[], rfl, fun j e z => by simp at z⟩
  | e :: es, h => by
    obtain ⟨ws, hl, hw⟩ := pairsU_read I (es := es) fun e' m => h e' (List.mem_cons_of_mem _ m)
    have h0 := h e List.mem_cons_self
    obtain ⟨_, its, rv, o, ho, hc, n, hd⟩ := h0.ok I.hok
    obtain ⟨u1, u2, ei, r1, r2⟩ := vals2 rv
    subst ei
    obtain ⟨t, rfl⟩ := r1
    refine ⟨(.str e.2.1 t, u2) :: ws, by rw [List.length_cons, List.length_cons, hl], fun j e' z => ?_⟩
    cases j with
    | zero =>
      cases (Option.some.inj z : e = e')
      exact ⟨u2, t, rfl, r2, o, ho, hc, n, hd⟩
    | succ j => exact hw j e' z
theorem cr_dictF (hcal : X.calm = true) : CallR X (.type "dict") rDictF := by
  intro pins s σ H vs us Q I r h
  obtain ⟨a, oa, es, rfl, ha, hdict, hes, hn, hlen, q⟩ := h
  rw [Vals.ref1 r]
  obtain ⟨hat, hz, its, rv, o, ho, hc, n, hdat⟩ := I.hok a _ ha
  rw [hat] at ho
  cases ho
  obtain ⟨ws, hwl, hw⟩ := pairsU_read I hes
  have ei : its = es.map fun e => Value.ref e.1 := by
    have := refs_at (ps := es.map fun e => e.1) (us := its) (by rw [List.map_map]; exact rv)
    rw [this, List.map_map]
    rfl
  subst ei
  let Ts : Nat → Addr := fun j => ((es[j]?).map (·.1)).getD 0
  let kvs : List (L2.Key × Value) := (es.zip ws).map fun z => (Sum.inr z.1.2.1, z.2.2)
  have hzl : (es.zip ws).length = es.length := by rw [List.length_zip, hwl, Nat.min_self]
  have get : ∀ {j : Nat} {z : PairU × (Value × Value)}, (es.zip ws)[j]? = some z → es[j]? = some z.1 ∧ ws[j]? = some z.2 := fun h => List.getElem?_zip_eq_some.mp h
  have ok : PlainSeq "tuple" s.heap a (es.map fun e => Value.ref e.1).toArray ∧ PairItems s.heap (es.map fun e => Value.ref e.1).toArray Ts ws := by
    refine ⟨⟨oa, n, hat, hc, hdict, hdat⟩, by rw [List.size_toArray, List.length_map, hwl], fun j k v hj => ?_⟩
    have hj' : j < es.length := by rw [← hwl]; exact (List.getElem?_eq_some_iff.mp hj).1
    have g1 : es[j]? = some es[j] := List.getElem?_eq_getElem hj'
    obtain ⟨u, t, hu', _, it⟩ := hw j _ g1
    rw [hj] at hu'
    cases hu'
    have eT : Ts j = es[j].1 := by show ((es[j]?).map (·.1)).getD 0 = _; rw [g1]; rfl
    rw [eT]
    refine ⟨?_, .inl it⟩
    rw [List.getElem?_toArray, List.getElem?_map, g1]
    rfl
  have hkn : (kvs.map (·.1)).Nodup := by
    have e1 : kvs.map (·.1) = (es.map (·.2.1)).map Sum.inr := by
      show ((es.zip ws).map _).map _ = _
      rw [List.map_map, List.map_map]
      have e2 : (es.zip ws).map (fun z => (Sum.inr z.1.2.1 : L2.Key)) = ((es.zip ws).map (·.1)).map (fun e => Sum.inr e.2.1) := by rw [List.map_map]; rfl
      show (es.zip ws).map (fun z => (Sum.inr z.1.2.1 : L2.Key)) = _
      rw [e2, List.map_fst_zip (Nat.le_of_eq hwl.symm)]
      rfl
    rw [e1]
    exact (List.pairwise_map.mpr (hn.imp fun ne e => ne (Sum.inr.inj e)))
  refine PySem.call_dict_pairs (knd := mixKind X.prog X.w) (kvs := kvs) (PairArg.tuple a _ Ts ws) (I.ok.hd hcal) ok ⟨by show ((es.zip ws).map _).length = _; rw [List.length_map, hzl, hwl], fun j key v hj => ?_⟩ (by rw [hwl]; exact Nat.le_trans hlen (by decide)) fun h' tk hd' kp => ?_
  · have hj' : ws[j]? = some (key, v) := hj
    have hlt : j < es.length := by rw [← hwl]; exact (List.getElem?_eq_some_iff.mp hj').1
    have g1 : es[j]? = some es[j] := List.getElem?_eq_getElem hlt
    obtain ⟨u, t, hu', _, _⟩ := hw j _ g1
    rw [hj'] at hu'
    cases hu'
    refine ⟨Sum.inr es[j].2.1, ?_, mixKind_str _ _ _ _⟩
    show ((es.zip ws).map _)[j]? = _
    rw [List.getElem?_map, show (es.zip ws)[j]? = some (es[j], (.str es[j].2.1 t, v)) from List.getElem?_zip_eq_some.mpr ⟨g1, hj'⟩]
    rfl
  · rw [merged_nil_of_nodup kvs hkn] at hd'
    have kp' : ∀ b o, s.heap.get? b = some o → h'.get? b = some o := fun b o e => kp b o (by simp) e
    have hm : (s.heap.objs.size == sysModules) = false := beq_eq_false_iff_ne.mpr (Nat.ne_of_gt I.big)
    refine ⟨.ref s.heap.objs.size, upd H s.heap.objs.size (.dK (es.map fun e => (Sum.inr e.2.1, e.2.2))), I.laid (t' := tk) kp' (Nat.le_refl _) ?_, rfl, q _ (I.hok.fresh (Nat.le_refl _))⟩
    refine ⟨by rw [List.length_map]; exact Nat.le_trans hlen (by decide), hm, kvs, ?_, hd'⟩
    have all : ∀ (l : List PairU) (m : List (Value × Value)), m.length = l.length → (∀ (j : Nat) (e : PairU), l[j]? = some e → ∃ u t, m[j]? = some (.str e.2.1 t, u) ∧ RelV e.2.2 u) →
        KV (l.map fun e => ((Sum.inr e.2.1 : L2.Key), e.2.2)) ((l.zip m).map fun z => (Sum.inr z.1.2.1, z.2.2)) := by
      intro l
      induction l with
      | nil => intro m _ _; exact .nil
      | cons e l ih =>
        intro m hm h2
        cases m with
        | nil => cases hm
        | cons u m =>
          obtain ⟨u', t, e1, e2⟩ := h2 0 e rfl
          cases (Option.some.inj e1 : u = (.str e.2.1 t, u'))
          exact .cons ⟨rfl, e2⟩ (ih m (Nat.succ.inj hm) fun j e' h' => h2 (j + 1) e' h')
    exact all es ws hwl fun j e h => by
      obtain ⟨u, t, a1, a2, _⟩ := hw j e h
      exact ⟨u, t, a1, a2⟩
end
end Lk
namespace Lk
open PySem PySem.Spec PyProof.Rows L2
def topS (i : Nat) : Stmt := PySem.Challenge.pw_lockstold_k11_whole_shelves_met_and_with.main.body.getD i (.Pass ⟨0, 0, 0, 0⟩)
abbrev s_tupled : Stmt := topS 1
abbrev n_tupled : List Str := ["thing", "part"]
theorem sc_tupled : FnScope n_tupled ["thing"] (defScope s_tupled) := ⟨rfl, rfl, rfl, by decide +kernel, rfl, by decide +kernel, by decide +kernel⟩
abbrev s_is_number : Stmt := topS 2
abbrev n_is_number : List Str := ["thing"]
theorem sc_is_number : FnScope n_is_number ["thing"] (defScope s_is_number) := ⟨rfl, rfl, rfl, by decide +kernel, rfl, by decide +kernel, by decide +kernel⟩
abbrev s_is_count : Stmt := topS 3
abbrev n_is_count : List Str := ["thing"]
theorem sc_is_count : FnScope n_is_count ["thing"] (defScope s_is_count) := ⟨rfl, rfl, rfl, by decide +kernel, rfl, by decide +kernel, by decide +kernel⟩
abbrev s_is_from_one : Stmt := topS 4
abbrev n_is_from_one : List Str := ["thing"]
theorem sc_is_from_one : FnScope n_is_from_one ["thing"] (defScope s_is_from_one) := ⟨rfl, rfl, rfl, by decide +kernel, rfl, by decide +kernel, by decide +kernel⟩
abbrev s_is_tuple_of : Stmt := topS 5
abbrev n_is_tuple_of : List Str := ["thing", "size"]
theorem sc_is_tuple_of : FnScope n_is_tuple_of ["thing", "size"] (defScope s_is_tuple_of) := ⟨rfl, rfl, rfl, by decide +kernel, rfl, by decide +kernel, by decide +kernel⟩
abbrev s_ascends : Stmt := topS 6
abbrev n_ascends : List Str := ["thing", "near", "far"]
theorem sc_ascends : FnScope n_ascends ["thing"] (defScope s_ascends) := ⟨rfl, rfl, rfl, by decide +kernel, rfl, by decide +kernel, by decide +kernel⟩
abbrev s_set_of : Stmt := topS 7
abbrev n_set_of : List Str := ["things"]
theorem sc_set_of : FnScope n_set_of ["things"] (defScope s_set_of) := ⟨rfl, rfl, rfl, by decide +kernel, rfl, by decide +kernel, by decide +kernel⟩
abbrev s_is_name : Stmt := topS 11
abbrev n_is_name : List Str := ["thing", "sign"]
theorem sc_is_name : FnScope n_is_name ["thing"] (defScope s_is_name) := ⟨rfl, rfl, rfl, by decide +kernel, rfl, by decide +kernel, by decide +kernel⟩
abbrev s_is_release : Stmt := topS 12
abbrev n_is_release : List Str := ["thing"]
theorem sc_is_release : FnScope n_is_release ["thing"] (defScope s_is_release) := ⟨rfl, rfl, rfl, by decide +kernel, rfl, by decide +kernel, by decide +kernel⟩
abbrev s_is_lot : Stmt := topS 13
abbrev n_is_lot : List Str := ["thing", "state"]
theorem sc_is_lot : FnScope n_is_lot ["thing"] (defScope s_is_lot) := ⟨rfl, rfl, rfl, by decide +kernel, rfl, by decide +kernel, by decide +kernel⟩
abbrev s_is_rule : Stmt := topS 14
abbrev n_is_rule : List Str := ["thing"]
theorem sc_is_rule : FnScope n_is_rule ["thing"] (defScope s_is_rule) := ⟨rfl, rfl, rfl, by decide +kernel, rfl, by decide +kernel, by decide +kernel⟩
abbrev s_is_rules : Stmt := topS 15
abbrev n_is_rules : List Str := ["thing", "rule", "name", "_"]
theorem sc_is_rules : FnScope n_is_rules ["thing"] (defScope s_is_rules) := ⟨rfl, rfl, rfl, by decide +kernel, rfl, by decide +kernel, by decide +kernel⟩
abbrev s_lot_in : Stmt := topS 16
abbrev n_lot_in : List Str := ["rules", "name", "own", "lot"]
theorem sc_lot_in : FnScope n_lot_in ["rules", "name"] (defScope s_lot_in) := ⟨rfl, rfl, rfl, by decide +kernel, rfl, by decide +kernel, by decide +kernel⟩
abbrev s_is_shelf_part : Stmt := topS 18
abbrev n_is_shelf_part : List Str := ["thing"]
theorem sc_is_shelf_part : FnScope n_is_shelf_part ["thing"] (defScope s_is_shelf_part) := ⟨rfl, rfl, rfl, by decide +kernel, rfl, by decide +kernel, by decide +kernel⟩
abbrev s_is_shelf : Stmt := topS 19
abbrev n_is_shelf : List Str := ["thing", "part"]
theorem sc_is_shelf : FnScope n_is_shelf ["thing"] (defScope s_is_shelf) := ⟨rfl, rfl, rfl, by decide +kernel, rfl, by decide +kernel, by decide +kernel⟩
abbrev s_part_at : Stmt := topS 20
abbrev n_part_at : List Str := ["parts", "release", "part"]
theorem sc_part_at : FnScope n_part_at ["parts", "release"] (defScope s_part_at) := ⟨rfl, rfl, rfl, by decide +kernel, rfl, by decide +kernel, by decide +kernel⟩
abbrev s_rules_common : Stmt := topS 21
abbrev n_rules_common : List Str := ["near", "far", "found", "name", "own", "lots", "lot", "both", "state"]
theorem sc_rules_common : FnScope n_rules_common ["near", "far"] (defScope s_rules_common) := ⟨rfl, rfl, rfl, by decide +kernel, rfl, by decide +kernel, by decide +kernel⟩
abbrev s_part_common : Stmt := topS 22
abbrev n_part_common : List Str := ["near", "far", "rules", "first", "lasts", "part", "last"]
theorem sc_part_common : FnScope n_part_common ["near", "far"] (defScope s_part_common) := ⟨rfl, rfl, rfl, by decide +kernel, rfl, by decide +kernel, by decide +kernel⟩
abbrev s_meet_of : Stmt := topS 23
abbrev n_meet_of : List Str := ["shelf", "other", "parts", "found", "near", "far", "both"]
theorem sc_meet_of : FnScope n_meet_of ["shelf", "other"] (defScope s_meet_of) := ⟨rfl, rfl, rfl, by decide +kernel, rfl, by decide +kernel, by decide +kernel⟩
abbrev s_rules_within : Stmt := topS 24
abbrev n_rules_within : List Str := ["near", "far", "name", "lot", "own", "state"]
theorem sc_rules_within : FnScope n_rules_within ["near", "far"] (defScope s_rules_within) := ⟨rfl, rfl, rfl, by decide +kernel, rfl, by decide +kernel, by decide +kernel⟩
abbrev s_part_within : Stmt := topS 25
abbrev n_part_within : List Str := ["near", "far"]
theorem sc_part_within : FnScope n_part_within ["near", "far"] (defScope s_part_within) := ⟨rfl, rfl, rfl, by decide +kernel, rfl, by decide +kernel, by decide +kernel⟩
abbrev s_is_within : Stmt := topS 26
abbrev n_is_within : List Str := ["shelf", "other", "parts", "near"]
theorem sc_is_within : FnScope n_is_within ["shelf", "other"] (defScope s_is_within) := ⟨rfl, rfl, rfl, by decide +kernel, rfl, by decide +kernel, by decide +kernel⟩
abbrev s_law_box : Stmt := topS 28
abbrev n_law_box : List Str := ["_law_script", "_law_k", "_law_cell_so"]
theorem sc_law_box : FnScope n_law_box ["_law_script", "_law_k"] (defScope s_law_box) := ⟨rfl, rfl, rfl, by decide +kernel, rfl, by decide +kernel, by decide +kernel⟩
abbrev s_law_take : Stmt := topS 29
abbrev n_law_take : List Str := ["_law_tin", "_law_below_so", "_law_draw_so", "_law_once_so", "_law_wide_so", "_law_twice_so"]
theorem sc_law_take : FnScope n_law_take ["_law_tin", "_law_below_so"] (defScope s_law_take) := ⟨rfl, rfl, rfl, by decide +kernel, rfl, by decide +kernel, by decide +kernel⟩
abbrev s_law_cells : Stmt := topS 30
abbrev n_law_cells : List Str := ["_law_script", "_law_most_so", "_law_cells_so", "_law_k", "_law_cell_so", "_law_at_so"]
theorem sc_law_cells : FnScope n_law_cells ["_law_script", "_law_most_so"] (defScope s_law_cells) := ⟨rfl, rfl, rfl, by decide +kernel, rfl, by decide +kernel, by decide +kernel⟩
abbrev s_law_of : Stmt := topS 31
abbrev n_law_of : List Str := ["_law_tin", "_law_goods_so"]
theorem sc_law_of : FnScope n_law_of ["_law_tin", "_law_goods_so"] (defScope s_law_of) := ⟨rfl, rfl, rfl, by decide +kernel, rfl, by decide +kernel, by decide +kernel⟩
abbrev s_law_pick : Stmt := topS 32
abbrev n_law_pick : List Str := ["_law_tin", "_law_goods_so", "_law_count_so", "_law_pool_so", "_law_found", "_law_lap"]
theorem sc_law_pick : FnScope n_law_pick ["_law_tin", "_law_goods_so", "_law_count_so"] (defScope s_law_pick) := ⟨rfl, rfl, rfl, by decide +kernel, rfl, by decide +kernel, by decide +kernel⟩
abbrev s_law_lists : Stmt := topS 33
abbrev n_law_lists : List Str := ["_law_matter", "_law_bit"]
theorem sc_law_lists : FnScope n_law_lists ["_law_matter"] (defScope s_law_lists) := ⟨rfl, rfl, rfl, by decide +kernel, rfl, by decide +kernel, by decide +kernel⟩
abbrev s_law_same : Stmt := topS 34
abbrev n_law_same : List Str := ["_law_got", "_law_due", "_law_mine", "_law_its"]
theorem sc_law_same : FnScope n_law_same ["_law_got", "_law_due"] (defScope s_law_same) := ⟨rfl, rfl, rfl, by decide +kernel, rfl, by decide +kernel, by decide +kernel⟩
abbrev s_law_state : Stmt := topS 35
abbrev n_law_state : List Str := ["_law_lock_so", "_law_name_so", "_law_found", "_law_own"]
theorem sc_law_state : FnScope n_law_state ["_law_lock_so", "_law_name_so"] (defScope s_law_state) := ⟨rfl, rfl, rfl, by decide +kernel, rfl, by decide +kernel, by decide +kernel⟩
abbrev s_law_every_lock : Stmt := topS 36
abbrev n_law_every_lock : List Str := ["_law_releases_so", "_law_found", "_law_name_so", "_law_own", "_law_near_so", "_law_its", "_law_spot"]
theorem sc_law_every_lock : FnScope n_law_every_lock ["_law_releases_so"] (defScope s_law_every_lock) := ⟨rfl, rfl, rfl, by decide +kernel, rfl, by decide +kernel, by decide +kernel⟩
abbrev s_law_on_day : Stmt := topS 37
abbrev n_law_on_day : List Str := ["_law_part_so", "_law_day_so"]
theorem sc_law_on_day : FnScope n_law_on_day ["_law_part_so", "_law_day_so"] (defScope s_law_on_day) := ⟨rfl, rfl, rfl, by decide +kernel, rfl, by decide +kernel, by decide +kernel⟩
abbrev s_law_stands : Stmt := topS 38
abbrev n_law_stands : List Str := ["_law_shelf_so", "_law_day_so", "_law_lock_so", "_law_known_so", "_law_own", "_law_name_so", "_law_lot_so"]
theorem sc_law_stands : FnScope n_law_stands ["_law_shelf_so", "_law_day_so", "_law_lock_so"] (defScope s_law_stands) := ⟨rfl, rfl, rfl, by decide +kernel, rfl, by decide +kernel, by decide +kernel⟩
abbrev s_law_shops : Stmt := topS 39
abbrev n_law_shops : List Str := []
theorem sc_law_shops : FnScope n_law_shops [] (defScope s_law_shops) := ⟨rfl, rfl, rfl, by decide +kernel, rfl, by decide +kernel, by decide +kernel⟩
abbrev s_law_some_names : Stmt := topS 40
abbrev n_law_some_names : List Str := ["_law_tin", "_law_most_so", "_law_many_so"]
theorem sc_law_some_names : FnScope n_law_some_names ["_law_tin", "_law_most_so"] (defScope s_law_some_names) := ⟨rfl, rfl, rfl, by decide +kernel, rfl, by decide +kernel, by decide +kernel⟩
abbrev s_law_some_goods : Stmt := topS 41
abbrev n_law_some_goods : List Str := ["_law_tin", "_law_names_so", "_law_most_so", "_law_found", "_law_own", "_law_its"]
theorem sc_law_some_goods : FnScope n_law_some_goods ["_law_tin", "_law_names_so", "_law_most_so"] (defScope s_law_some_goods) := ⟨rfl, rfl, rfl, by decide +kernel, rfl, by decide +kernel, by decide +kernel⟩
abbrev s_law_some_rules : Stmt := topS 42
abbrev n_law_some_rules : List Str := ["_law_tin", "_law_own", "_law_goods_so", "_law_found", "_law_name_so", "_law_its", "_law_kind_so", "_law_all_so", "_law_lot_so"]
theorem sc_law_some_rules : FnScope n_law_some_rules ["_law_tin", "_law_own", "_law_goods_so"] (defScope s_law_some_rules) := ⟨rfl, rfl, rfl, by decide +kernel, rfl, by decide +kernel, by decide +kernel⟩
abbrev s_law_some_shelf : Stmt := topS 43
abbrev n_law_some_shelf : List Str := ["_law_tin", "_law_goods_so", "_law_shop_so", "_law_late_so", "_law_found", "_law_own", "_law_first_so", "_law_last_so"]
theorem sc_law_some_shelf : FnScope n_law_some_shelf ["_law_tin", "_law_goods_so", "_law_shop_so", "_law_late_so"] (defScope s_law_some_shelf) := ⟨rfl, rfl, rfl, by decide +kernel, rfl, by decide +kernel, by decide +kernel⟩
abbrev s_law_lots_met : Stmt := topS 44
abbrev n_law_lots_met : List Str := ["_law_near_so", "_law_far_so", "_law_one_so", "_law_two_so", "_law_found", "_law_name_so", "_law_own", "_law_rows_so", "_law_both_so"]
theorem sc_law_lots_met : FnScope n_law_lots_met ["_law_near_so", "_law_far_so"] (defScope s_law_lots_met) := ⟨rfl, rfl, rfl, by decide +kernel, rfl, by decide +kernel, by decide +kernel⟩
abbrev s_law_met : Stmt := topS 45
abbrev n_law_met : List Str := ["_law_one_so", "_law_two_so", "_law_known_so", "_law_found", "_law_own", "_law_its", "_law_first_so", "_law_lasts_so", "_law_spot", "_law_last_so", "_law_rules_so"]
theorem sc_law_met : FnScope n_law_met ["_law_one_so", "_law_two_so"] (defScope s_law_met) := ⟨rfl, rfl, rfl, by decide +kernel, rfl, by decide +kernel, by decide +kernel⟩
abbrev s_law_inside : Stmt := topS 46
abbrev n_law_inside : List Str := ["_law_one_so", "_law_two_so", "_law_known_so", "_law_own", "_law_its", "_law_lots_so", "_law_name_so", "_law_lot_so", "_law_spot"]
theorem sc_law_inside : FnScope n_law_inside ["_law_one_so", "_law_two_so"] (defScope s_law_inside) := ⟨rfl, rfl, rfl, by decide +kernel, rfl, by decide +kernel, by decide +kernel⟩
abbrev s_law_by_hand_right : Stmt := topS 47
abbrev n_law_by_hand_right : List Str := ["_law_spring", "_law_autumn", "_law_both_so", "_law_got", "_law_one_so", "_law_two_so"]
theorem sc_law_by_hand_right : FnScope n_law_by_hand_right [] (defScope s_law_by_hand_right) := ⟨rfl, rfl, rfl, by decide +kernel, rfl, by decide +kernel, by decide +kernel⟩
abbrev s_law_like : Stmt := topS 48
abbrev n_law_like : List Str := ["_law_tin", "_law_shelf_so", "_law_goods_so", "_law_late_so", "_law_found", "_law_part_so", "_law_kind_so", "_law_first_so", "_law_rules_so", "_law_name_so", "_law_lot_so"]
theorem sc_law_like : FnScope n_law_like ["_law_tin", "_law_shelf_so", "_law_goods_so", "_law_late_so"] (defScope s_law_like) := ⟨rfl, rfl, rfl, by decide +kernel, rfl, by decide +kernel, by decide +kernel⟩
abbrev s_law_right : Stmt := topS 49
abbrev n_law_right : List Str := ["_law_tin", "_law_goods_so", "_law_late_so", "_law_one", "_law_two", "_law_both_so", "_law_got", "_law_due", "_law_day_so", "_law_own", "_law_near_so", "_law_far_so", "_law_lap", "_law_less_so", "_law_told"]
theorem sc_law_right : FnScope n_law_right ["_law_tin"] (defScope s_law_right) := ⟨rfl, rfl, rfl, by decide +kernel, rfl, by decide +kernel, by decide +kernel⟩
abbrev s_law : Stmt := topS 50
abbrev n_law : List Str := ["_law_script"]
theorem sc_law : FnScope n_law ["_law_script"] (defScope s_law) := ⟨rfl, rfl, rfl, by decide +kernel, rfl, by decide +kernel, by decide +kernel⟩
/-- what the top has written -/
structure Tops (K : PySem.W.Frag) (mg : Str → Option Value) : Prop where
  d_tupled : Def K mg "tupled" s_tupled ["thing"]
  d_is_number : Def K mg "is_number" s_is_number ["thing"]
  d_is_count : Def K mg "is_count" s_is_count ["thing"]
  d_is_from_one : Def K mg "is_from_one" s_is_from_one ["thing"]
  d_is_tuple_of : Def K mg "is_tuple_of" s_is_tuple_of ["thing", "size"]
  d_ascends : Def K mg "ascends" s_ascends ["thing"]
  d_set_of : Def K mg "set_of" s_set_of ["things"]
  d_is_name : Def K mg "is_name" s_is_name ["thing"]
  d_is_release : Def K mg "is_release" s_is_release ["thing"]
  d_is_lot : Def K mg "is_lot" s_is_lot ["thing"]
  d_is_rule : Def K mg "is_rule" s_is_rule ["thing"]
  d_is_rules : Def K mg "is_rules" s_is_rules ["thing"]
  d_lot_in : Def K mg "lot_in" s_lot_in ["rules", "name"]
  d_is_shelf_part : Def K mg "is_shelf_part" s_is_shelf_part ["thing"]
  d_is_shelf : Def K mg "is_shelf" s_is_shelf ["thing"]
  d_part_at : Def K mg "part_at" s_part_at ["parts", "release"]
  d_rules_common : Def K mg "rules_common" s_rules_common ["near", "far"]
  d_part_common : Def K mg "part_common" s_part_common ["near", "far"]
  d_meet_of : Def K mg "meet_of" s_meet_of ["shelf", "other"]
  d_rules_within : Def K mg "rules_within" s_rules_within ["near", "far"]
  d_part_within : Def K mg "part_within" s_part_within ["near", "far"]
  d_is_within : Def K mg "is_within" s_is_within ["shelf", "other"]
  d_law_box : Def K mg "_law_box" s_law_box ["_law_script", "_law_k"]
  d_law_take : Def K mg "_law_take" s_law_take ["_law_tin", "_law_below_so"]
  d_law_cells : Def K mg "_law_cells" s_law_cells ["_law_script", "_law_most_so"]
  d_law_of : Def K mg "_law_of" s_law_of ["_law_tin", "_law_goods_so"]
  d_law_pick : Def K mg "_law_pick" s_law_pick ["_law_tin", "_law_goods_so", "_law_count_so"]
  d_law_lists : Def K mg "_law_lists" s_law_lists ["_law_matter"]
  d_law_same : Def K mg "_law_same" s_law_same ["_law_got", "_law_due"]
  d_law_state : Def K mg "_law_state" s_law_state ["_law_lock_so", "_law_name_so"]
  d_law_every_lock : Def K mg "_law_every_lock" s_law_every_lock ["_law_releases_so"]
  d_law_on_day : Def K mg "_law_on_day" s_law_on_day ["_law_part_so", "_law_day_so"]
  d_law_stands : Def K mg "_law_stands" s_law_stands ["_law_shelf_so", "_law_day_so", "_law_lock_so"]
  d_law_shops : Def K mg "_law_shops" s_law_shops []
  d_law_some_names : Def K mg "_law_some_names" s_law_some_names ["_law_tin", "_law_most_so"]
  d_law_some_goods : Def K mg "_law_some_goods" s_law_some_goods ["_law_tin", "_law_names_so", "_law_most_so"]
  d_law_some_rules : Def K mg "_law_some_rules" s_law_some_rules ["_law_tin", "_law_own", "_law_goods_so"]
  d_law_some_shelf : Def K mg "_law_some_shelf" s_law_some_shelf ["_law_tin", "_law_goods_so", "_law_shop_so", "_law_late_so"]
  d_law_lots_met : Def K mg "_law_lots_met" s_law_lots_met ["_law_near_so", "_law_far_so"]
  d_law_met : Def K mg "_law_met" s_law_met ["_law_one_so", "_law_two_so"]
  d_law_inside : Def K mg "_law_inside" s_law_inside ["_law_one_so", "_law_two_so"]
  d_law_by_hand_right : Def K mg "_law_by_hand_right" s_law_by_hand_right []
  d_law_like : Def K mg "_law_like" s_law_like ["_law_tin", "_law_shelf_so", "_law_goods_so", "_law_late_so"]
  d_law_right : Def K mg "_law_right" s_law_right ["_law_tin"]
  b_isinstance : mg "isinstance" = none
  b_list : mg "list" = none
  b_tuple : mg "tuple" = none
  b_int : mg "int" = none
  b_bool : mg "bool" = none
  b_str : mg "str" = none
  b_len : mg "len" = none
  b_all : mg "all" = none
  b_zip : mg "zip" = none
  b_sorted : mg "sorted" = none
  b_set : mg "set" = none
  b_max : mg "max" = none
  b_min : mg "min" = none
  b_abs : mg "abs" = none
  b_enumerate : mg "enumerate" = none
  b_range : mg "range" = none
  b_dict : mg "dict" = none
  c_SIGNS : ∃ t, mg "SIGNS" = some (.str "abcdefghijklmnopqrstuvwxyz" t)
  c_LONGEST : ∃ t, mg "LONGEST" = some (.int 12 t)
end Lk
namespace Lk
open PySem PySem.Spec PyProof.Rows L2
/-- two comparisons in a row of ints, both bounds read once -/
theorem ev_chainLe {X : Cx} {a b c : Expr} {σ : L2.St} {H : Hp} {pos : Pos} {i j k : Int} (ha : EvD X a σ H (.int i)) (hb : EvD X b σ H (.int j)) (hc : EvD X c σ H (.int k)) (hm : lastMarks [CmpOp.LtE, CmpOp.LtE] [b, c] = false := by with_unfolding_all rfl) : EvD X (.Compare a [.LtE, .LtE] [b, c] pos) σ H (.bool (decide (i ≤ j) && decide (j ≤ k))) := fun H1 s Q q =>
  DoE.of (pe_chain op_le op_le DoE.pe DoE.pe DoE.pe hm) (ha H1 s _ fun u H2 s2 ru => hb H2 (s.trans s2) _ fun v H3 s3 rv => by
    cases ru
    cases rv
    refine ⟨i, j, rfl, rfl, _, rfl, ?_⟩
    cases h : decide (i ≤ j) with
    | false => exact iteF (q _ H3 (s2.trans s3) (by rw [h]; exact .bl _))
    | true =>
      refine iteT (hc H3 ((s.trans s2).trans s3) _ fun z H4 s4 rz => ?_)
      cases rz
      exact ⟨j, k, rfl, rfl, q _ H4 ((s2.trans s3).trans s4) (by rw [h, Bool.true_and]; exact .bl _)⟩)
theorem dl1 {H : Hp} {vs : List V} {d : PyData} (h : DlAll H vs [d]) : ∃ v, vs = [v] ∧ Dl H v d := by
  cases h with
  | cons h1 h2 => cases h2; exact ⟨_, rfl, h1⟩
theorem dl2 {H : Hp} {vs : List V} {d e : PyData} (h : DlAll H vs [d, e]) : ∃ v w, vs = [v, w] ∧ Dl H v d ∧ Dl H w e := by
  cases h with
  | cons h1 h2 =>
    obtain ⟨w, rfl, h3⟩ := dl1 h2
    exact ⟨_, w, rfl, h1, h3⟩
theorem atI0 {d : PyData} {ds : List PyData} : atI (d :: ds) 0 = some d := atI_nat (j := 0) rfl
theorem atI1 {d e : PyData} {ds : List PyData} : atI (d :: e :: ds) 1 = some e := atI_nat (j := 1) rfl
theorem atI2 {d e f : PyData} {ds : List PyData} : atI (d :: e :: f :: ds) 2 = some f := atI_nat (j := 2) rfl
theorem atI3 {d e f g : PyData} {ds : List PyData} : atI (d :: e :: f :: g :: ds) 3 = some g := atI_nat (j := 3) rfl

/-! ### what the first defs promise -/
mutual
def tupD : PyData → PyData
  | .list xs => .tuple (tupDAll xs)
  | .tuple xs => .tuple (tupDAll xs)
  | d => d
def tupDAll : List PyData → List PyData
  | [] => []
  | x :: xs => tupD x :: tupDAll xs
end
theorem tupDAll_map : ∀ xs : List PyData, tupDAll xs = xs.map tupD
  | [] => rfl
  | x :: xs => by rw [tupDAll, tupDAll_map xs]; rfl
def okD : Nat → PyData → Prop
  | _, .none => True
  | _, .bool _ => True
  | _, .int _ => True
  | _, .str _ => True
  | n + 1, .list xs => xs.length ≤ 1000 ∧ ∀ x ∈ xs, okD n x
  | n + 1, .tuple xs => xs.length ≤ 1000 ∧ ∀ x ∈ xs, okD n x
  | _, _ => False
theorem tlvAll_of : ∀ {l : List PyData}, (∀ x ∈ l, tlv x = true) → tlvAll l = true
  | [], _ => rfl
  | x :: l, h => by rw [tlvAll, h x List.mem_cons_self, tlvAll_of fun y hy => h y (List.mem_cons_of_mem _ hy)]; rfl
theorem tlv_tupD : ∀ {n : Nat} {d : PyData}, okD n d → tlv (tupD d) = true
  | _, .none, _ => rfl
  | _, .bool _, _ => rfl
  | _, .int _, _ => rfl
  | _, .str _, _ => rfl
  | 0, .list _, h => by simp [okD] at h
  | 0, .tuple _, h => by simp [okD] at h
  | 0, .dict _, h => by simp [okD] at h
  | n + 1, .dict _, h => by simp [okD] at h
  | n + 1, .list xs, h => by
    rw [tupD, tlv, tupDAll_map]
    refine tlvAll_of fun x hx => ?_
    obtain ⟨y, hy, rfl⟩ := List.mem_map.mp hx
    exact tlv_tupD (h.2 y hy)
  | n + 1, .tuple xs, h => by
    rw [tupD, tlv, tupDAll_map]
    refine tlvAll_of fun x hx => ?_
    obtain ⟨y, hy, rfl⟩ := List.mem_map.mp hx
    exact tlv_tupD (h.2 y hy)
def R_tupled (n : Nat) : List PyData → PyData → Prop := fun ds d => ∃ x, ds = [x] ∧ okD n x ∧ d = tupD x
def R_is_number : List PyData → PyData → Prop := fun ds d => ∃ i, ds = [.int i] ∧ d = .bool true
def R_is_count : List PyData → PyData → Prop := fun ds d => ∃ i, ds = [.int i] ∧ 0 ≤ i ∧ d = .bool true
def R_is_from_one : List PyData → PyData → Prop := fun ds d => ∃ i, ds = [.int i] ∧ 1 ≤ i ∧ d = .bool true
def R_is_tuple_of : List PyData → PyData → Prop := fun ds d => ∃ xs n, ds = [.tuple xs, .int n] ∧ n = (xs.length : Int) ∧ d = .bool true
def AscD (ds : List PyData) : Prop := ds.length ≤ 1000 ∧ ∀ x y, PyData.tuple [x, y] ∈ zipD ds (ds.drop 1) → PySem.W.alike x y = true ∧ x ≠ .none ∧ x.depth ≤ 64 ∧ PySem.W.dataLt x y = true
def R_ascends : List PyData → PyData → Prop := fun ds d => ∃ xs, (ds = [.list xs] ∨ ds = [.tuple xs]) ∧ AscD xs ∧ d = .bool true
def R_set_of : List PyData → PyData → Prop := fun ds d => ∃ xs : List Str, ds = [.list (xs.map .str)] ∧ xs.length < 64 ∧ d = .tuple ((sortSet xs).map .str)

section
variable {P : Program} {w : World} {K : PySem.W.Frag} {mg : Str → Option Value} {base : Heap}
theorem ok_is_number (T : Tops K mg) : Good P w K mg base 1 "is_number" ["thing"] (spF R_is_number) := by
  refine good_F T.d_is_number sc_is_number (fun ds d h => by obtain ⟨i, rfl, _⟩ := h; rfl) fun f cdv A outer s H vs ds d Q E hr hv hR q => ?_
  obtain ⟨i, rfl, rfl⟩ := hR
  obtain ⟨v, rfl, h1⟩ := dl1 hv
  refine dss_one (ds_ret (EvD.go ?_ q))
  exact ev_and2 (ev_isi T.b_isinstance (ev_var 0 rfl h1) (evv_ty T.b_int (by decide +kernel)) kt_int_int) fun _ => ev_one (ev_not (ev_isi T.b_isinstance (ev_var 0 rfl h1) (evv_ty T.b_bool (by decide +kernel)) kt_int_bool))
theorem ok_is_count (T : Tops K mg) : Good P w K mg base 2 "is_count" ["thing"] (spF R_is_count) := by
  have G := ok_is_number (P := P) (w := w) (base := base) T
  refine good_F T.d_is_count sc_is_count (fun ds d h => by obtain ⟨i, rfl, _⟩ := h; rfl) fun f cdv A outer s H vs ds d Q E hr hv hR q => ?_
  obtain ⟨i, rfl, hi, rfl⟩ := hR
  obtain ⟨v, rfl, h1⟩ := dl1 hv
  refine dss_one (ds_ret (EvD.go (EvD.is (ev_and2 (ev_call G hr (eva1 (ev_var 0 rfl h1)) ⟨i, rfl, rfl⟩) fun _ => ev_one (ev_ge (ev_var 0 rfl h1) ev_int)) ?_) q))
  rw [decide_eq_true hi]
  rfl
theorem ok_is_from_one (T : Tops K mg) : Good P w K mg base 2 "is_from_one" ["thing"] (spF R_is_from_one) := by
  have G := ok_is_number (P := P) (w := w) (base := base) T
  refine good_F T.d_is_from_one sc_is_from_one (fun ds d h => by obtain ⟨i, rfl, _⟩ := h; rfl) fun f cdv A outer s H vs ds d Q E hr hv hR q => ?_
  obtain ⟨i, rfl, hi, rfl⟩ := hR
  obtain ⟨v, rfl, h1⟩ := dl1 hv
  refine dss_one (ds_ret (EvD.go (EvD.is (ev_and2 (ev_call G hr (eva1 (ev_var 0 rfl h1)) ⟨i, rfl, rfl⟩) fun _ => ev_one (ev_ge (ev_var 0 rfl h1) ev_int)) ?_) q))
  rw [decide_eq_true hi]
  rfl
theorem ok_is_tuple_of (T : Tops K mg) : Good P w K mg base 1 "is_tuple_of" ["thing", "size"] (spF R_is_tuple_of) := by
  refine good_F T.d_is_tuple_of sc_is_tuple_of (fun ds d h => by obtain ⟨xs, n, rfl, _⟩ := h; rfl) fun f cdv A outer s H vs ds d Q E hr hv hR q => ?_
  obtain ⟨xs, n, rfl, hn, rfl⟩ := hR
  obtain ⟨v, w', rfl, h1, h2⟩ := dl2 hv
  refine dss_one (ds_ret (EvD.go (EvD.is (ev_and2 (ev_isi T.b_isinstance (ev_var 0 rfl h1) (evv_ty T.b_tuple (by decide +kernel)) kt_tuple_tuple) fun _ => ev_one (ev_eq (Nat.lt_of_le_of_lt (Nat.le_refl _) hr.units) (ev_lenT T.b_len (ev_var 0 rfl h1)) (ev_var 1 rfl h2) rfl rfl)) ?_) q))
  rw [hn]
  simp [PyData.eqv]
theorem step_tupled (T : Tops K mg) {n : Nat} (G : ∀ m, n = m + 1 → Good P w K mg base (m + 1) "tupled" ["thing"] (spF (R_tupled m))) : Good P w K mg base (n + 1) "tupled" ["thing"] (spF (R_tupled n)) := by
  refine good_F T.d_tupled sc_tupled (fun ds d h => by obtain ⟨i, rfl, _⟩ := h; rfl) fun f cdv A outer s H vs ds d Q E hr hv hR q => ?_
  obtain ⟨x, rfl, hx, rfl⟩ := hR
  obtain ⟨v, rfl, h1⟩ := dl1 hv
  refine dss_one (ds_ret (EvD.go ?_ q))
  cases x with
  | none => exact ev_if (et_val (ev_isi2 T.b_isinstance (ev_var 0 rfl h1) (evv_ty T.b_list (by decide +kernel)) (evv_ty T.b_tuple (by decide +kernel)) kt_NoneType_list kt_NoneType_tuple)) (fun z => nomatch z) fun _ => ev_var 0 rfl h1
  | bool b => exact ev_if (et_val (ev_isi2 T.b_isinstance (ev_var 0 rfl h1) (evv_ty T.b_list (by decide +kernel)) (evv_ty T.b_tuple (by decide +kernel)) kt_bool_list kt_bool_tuple)) (fun z => nomatch z) fun _ => ev_var 0 rfl h1
  | int b => exact ev_if (et_val (ev_isi2 T.b_isinstance (ev_var 0 rfl h1) (evv_ty T.b_list (by decide +kernel)) (evv_ty T.b_tuple (by decide +kernel)) kt_int_list kt_int_tuple)) (fun z => nomatch z) fun _ => ev_var 0 rfl h1
  | str b => exact ev_if (et_val (ev_isi2 T.b_isinstance (ev_var 0 rfl h1) (evv_ty T.b_list (by decide +kernel)) (evv_ty T.b_tuple (by decide +kernel)) kt_str_list kt_str_tuple)) (fun z => nomatch z) fun _ => ev_var 0 rfl h1
  | dict b => cases n <;> simp [okD] at hx
  | list xs =>
    cases n with
    | zero => simp [okD] at hx
    | succ m =>
      refine ev_if (et_val (ev_isi2 T.b_isinstance (ev_var 0 rfl h1) (evv_ty T.b_list (by decide +kernel)) (evv_ty T.b_tuple (by decide +kernel)) kt_list_list kt_list_tuple)) (fun _ => ?_) fun z => nomatch z
      refine EvD.is (ev_tupleL T.b_tuple (ev_lc0 1 tupD rfl sc_tupled.nd (blkOk_by (N := n_tupled) (sc := defScope s_tupled) (by decide +kernel)) (ei_lst (ev_var 0 rfl h1)) (fun _ => rfl) (Nat.le_trans hx.1 (by decide)) (fun d hd => tlv_tupD (hx.2 d hd)) fun d v H' hd sm r s0 H0 C cl fp => ev_call (G m rfl) hr (eva1 (ev_var 1 rfl r)) ⟨d, rfl, hx.2 d hd, rfl⟩)) ?_
      rw [tupD, tupDAll_map]
  | tuple xs =>
    cases n with
    | zero => simp [okD] at hx
    | succ m =>
      refine ev_if (et_val (ev_isi2 T.b_isinstance (ev_var 0 rfl h1) (evv_ty T.b_list (by decide +kernel)) (evv_ty T.b_tuple (by decide +kernel)) kt_tuple_list kt_tuple_tuple)) (fun _ => ?_) fun z => nomatch z
      refine EvD.is (ev_tupleL T.b_tuple (ev_lc0 1 tupD rfl sc_tupled.nd (blkOk_by (N := n_tupled) (sc := defScope s_tupled) (by decide +kernel)) (ei_tup (ev_var 0 rfl h1)) (fun _ => rfl) (Nat.le_trans hx.1 (by decide)) (fun d hd => tlv_tupD (hx.2 d hd)) fun d v H' hd sm r s0 H0 C cl fp => ev_call (G m rfl) hr (eva1 (ev_var 1 rfl r)) ⟨d, rfl, hx.2 d hd, rfl⟩)) ?_
      rw [tupD, tupDAll_map]
theorem ok_tupled (T : Tops K mg) : ∀ n, Good P w K mg base (n + 1) "tupled" ["thing"] (spF (R_tupled n))
  | 0 => step_tupled T fun m z => nomatch z
  | n + 1 => step_tupled T fun m z => by
    cases z
    exact ok_tupled T n
theorem ascD_out {xs : List PyData} : ((zipD xs (xs.drop 1)).map fun _ => PyData.bool true) = (List.replicate (zipD xs (xs.drop 1)).length true).map PyData.bool := by
  rw [List.map_const', List.map_replicate]
theorem rep_true (n : Nat) : (List.replicate n true).all id = true := by
  rw [List.all_eq_true]
  intro x hx
  exact (List.mem_replicate.mp hx).2
theorem ok_ascends (T : Tops K mg) : Good P w K mg base 1 "ascends" ["thing"] (spF R_ascends) := by
  refine good_F T.d_ascends sc_ascends (fun ds d h => by obtain ⟨i, h | h, _⟩ := h <;> (rw [h]; rfl)) fun f cdv A outer s H vs ds d Q E hr hv hR q => ?_
  obtain ⟨xs, hd, hA, rfl⟩ := hR
  have fin : ∀ {X : Cx} {e : Expr} {σ : L2.St}, EvD X e σ H (.list ((zipD xs (xs.drop 1)).map fun _ => PyData.bool true)) → EvD X e σ H (.list ((List.replicate (zipD xs (xs.drop 1)).length true).map PyData.bool)) := fun h => EvD.is h (by rw [ascD_out])
  have hz : (zipD xs (xs.drop 1)).length ≤ 1000000 := by
    rw [zipD_len]
    have := hA.1
    omega
  have hf : (zipD xs (xs.drop 1)).filter (fun _ => true) = zipD xs (xs.drop 1) := List.filter_eq_self.mpr fun _ _ => rfl
  have hp : ∀ d ∈ zipD xs (xs.drop 1), ∃ d1 d2, d = .tuple [d1, d2] := fun d hd => by
    obtain ⟨i, hi⟩ := List.getElem?_of_mem hd
    obtain ⟨x, y, _, _, e⟩ := zipD_get hi
    exact ⟨x, y, e⟩
  have hu : A.units + 64 < cLine → True := fun _ => trivial
  rcases hd with rfl | rfl
  · obtain ⟨v, rfl, h1⟩ := dl1 hv
    refine dss_one (ds_ret (EvD.go (EvD.is (ev_all rfl T.b_all (fin (hf ▸ ev_lcP 1 2 (fun _ => true) (fun _ => .bool true) rfl sc_ascends.nd (blkOk_by (N := n_ascends) (sc := defScope s_ascends) (by decide +kernel)) (ei_zipL T.b_zip (ev_var 0 rfl h1) (ev_tailL (ev_var 0 rfl h1))) (fun _ _ => rfl) hz (fun _ _ _ => rfl) hp (fun _ _ _ _ _ _ _ _ _ _ _ _ _ _ => ets_nil) fun d1 d2 v w H' hd sm r1 r2 _ s0 H0 C cl fp => ?_))) (by rw [rep_true])) q))
    obtain ⟨a1, a2, a3, a4⟩ := hA.2 d1 d2 hd
    exact EvD.is (ev_ltD hr.units (ev_var 1 rfl r1) (ev_var 2 rfl r2) a1 a2 a3) (by rw [a4])
  · obtain ⟨v, rfl, h1⟩ := dl1 hv
    refine dss_one (ds_ret (EvD.go (EvD.is (ev_all rfl T.b_all (fin (hf ▸ ev_lcP 1 2 (fun _ => true) (fun _ => .bool true) rfl sc_ascends.nd (blkOk_by (N := n_ascends) (sc := defScope s_ascends) (by decide +kernel)) (ei_zipT T.b_zip (ev_var 0 rfl h1) (ev_tailT (ev_var 0 rfl h1))) (fun _ _ => rfl) hz (fun _ _ _ => rfl) hp (fun _ _ _ _ _ _ _ _ _ _ _ _ _ _ => ets_nil) fun d1 d2 v w H' hd sm r1 r2 _ s0 H0 C cl fp => ?_))) (by rw [rep_true])) q))
    obtain ⟨a1, a2, a3, a4⟩ := hA.2 d1 d2 hd
    exact EvD.is (ev_ltD hr.units (ev_var 1 rfl r1) (ev_var 2 rfl r2) a1 a2 a3) (by rw [a4])
theorem ok_set_of (T : Tops K mg) : Good P w K mg base 1 "set_of" ["things"] (spF R_set_of) := by
  refine good_F T.d_set_of sc_set_of (fun ds d h => by obtain ⟨i, rfl, _⟩ := h; rfl) fun f cdv A outer s H vs ds d Q E hr hv hR q => ?_
  obtain ⟨xs, rfl, hl, rfl⟩ := hR
  obtain ⟨v, rfl, h1⟩ := dl1 hv
  exact dss_one (ds_ret (EvD.go (ev_tupleL T.b_tuple (ev_sortset rfl hr.units T.b_sorted T.b_set (ev_var 0 rfl h1) hl)) q))
end
end Lk
namespace Lk
open PySem PySem.Spec PyProof.Rows L2
theorem lc_ty {α : Type} {X : Cx} {elt tg iter : Expr} {ifs : List Expr} {scope : Scope} {vs : List Nat} {g : TG} {σ : L2.St} {H : Hp} (enc : α → PyData) (l : List α) (fb : α → Bool) (fe : α → PyData)
    (hi : EvI X tg iter σ H (l.map enc)) (hz : l.length ≤ 1000000) (tl : ∀ d ∈ l, fb d = true → tlv (fe d) = true)
    (turn : ∀ d v H', d ∈ l → Same H H' → Dl H' v (enc d) → LcTurn X scope g ifs elt vs σ H' v (fb d) (fe d)) : ∀ H0, Same H H0 → ∀ Q : VK, (∀ v H', Same H0 H' → Dl H' v (.list ((l.filter fb).map fe)) → Q v H') →
    tLc (DoI X tg iter) g (fun σ' H' Q' => ∀ (s : Shared) (H0 : Hp) (C : Addr) (cl : List (Str × Addr)) (fp : List Addr), DoTs (X.blk s H0 scope (compEnvC scope cl C X.env) fp) ifs σ' H' Q')
      (fun σ' H' Q' => ∀ (s : Shared) (H0 : Hp) (C : Addr) (cl : List (Str × Addr)) (fp : List Addr), DoE (X.blk s H0 scope (compEnvC scope cl C X.env) fp) elt σ' H' Q') vs σ H0 Q := by
  intro H0 s0 Q q
  refine hi H0 s0 _ fun J H1 s1 Y Dl hD => ?_
  refine ⟨fun i m H' => m = l.length - i ∧ i ≤ l.length ∧ Same H1 H' ∧ ∃ acc, H' Dl = some (.lst acc) ∧ acc.length ≤ i ∧ DlAll H' acc (((l.take i).filter fb).map fe),
    ⟨l.length, rfl, Nat.zero_le _, same_new hD, [], upd_same, Nat.le_refl _, .nil⟩, ?_⟩
  rintro i m H' ⟨rfl, hi', sH, acc, hA, hl, hda⟩
  by_cases hlt : i < l.length
  · have e1 : l[i]? = some l[i] := List.getElem?_eq_getElem hlt
    have hmem : l[i] ∈ l := List.getElem_mem hlt
    have e0 : (l.map enc)[i]? = some (enc l[i]) := by rw [List.getElem?_map, e1]; rfl
    obtain ⟨g1, g2⟩ := Y.1 i _ H' e0 sH
    have ttake : tlvAll (((l.take i).filter fb).map fe) = true := by
      have : ∀ l : List PyData, (∀ d ∈ l, tlv d = true) → tlvAll l = true := by
        intro l
        induction l with
        | nil => intro _; rfl
        | cons x l ih =>
          intro hx
          rw [tlvAll, hx x List.mem_cons_self, ih fun d hd => hx d (List.mem_cons_of_mem _ hd)]
          rfl
      refine this _ fun d hd => ?_
      obtain ⟨y, hy, rfl⟩ := List.mem_map.mp hd
      obtain ⟨h1, h2⟩ := List.mem_filter.mp hy
      exact tl y (List.mem_of_mem_take h1) h2
    refine .inr ⟨g1, fun H'' => i + 1 ≤ l.length ∧ Same H1 H'' ∧ ∃ acc, H'' Dl = some (.lst acc) ∧ acc.length ≤ i + 1 ∧ DlAll H'' acc (((l.take (i + 1)).filter fb).map fe), fun H'' n => ⟨l.length - (i + 1), by omega, rfl, n.1, n.2⟩, fun x H'' y => ?_⟩
    obtain ⟨s2, r⟩ := g2 x H'' y
    obtain ⟨τ, t1, t2, t3, t4⟩ := (turn _ x H'' hmem ((s0.trans s1).trans (sH.trans s2)) r).ex
    refine t1 _ ⟨t2, fun s H0' C cl fp => ?_⟩
    refine t3 s H0' C cl fp H'' (Same.refl _) _ fun H3 s3 => ?_
    have etake : l.take (i + 1) = l.take i ++ [l[i]] := by rw [List.take_add_one, e1]; rfl
    cases hb : fb l[i] with
    | false =>
      rw [if_neg (by decide)]
      refine ⟨hlt, (sH.trans s2).trans s3, acc, (s2.trans s3) _ _ hA, by omega, ?_⟩
      rw [etake, List.filter_append, List.map_append]
      have : [l[i]].filter fb = [] := by rw [List.filter_cons, if_neg (by rw [hb]; decide)]; rfl
      rw [this]
      simpa using hda.mono (s2.trans s3)
    | true =>
      rw [if_pos rfl]
      intro s H0'' C cl fp
      refine t4 hb s H0'' C cl fp H3 s3 _ fun z H4 s4 rz => ?_
      have hA4 := (s2.trans (s3.trans s4)) _ _ hA
      have tk : Tk H4 (upd H4 Dl (.lst (acc ++ [z]))) := Tk.upd hA4
      have sz : acc.length < sizeLine := Nat.lt_of_le_of_lt (show acc.length ≤ 1000000 by omega) (by decide)
      refine ⟨acc, hA4, sz, hlt, fun b o e => ?_, acc ++ [z], upd_same, by rw [List.length_append, List.length_singleton]; omega, ?_⟩
      · rw [upd_ne (ne_of_none e hD)]
        exact (sH.trans (s2.trans (s3.trans s4))) b o e
      · rw [etake, List.filter_append, List.map_append]
        have : [l[i]].filter fb = [l[i]] := by rw [List.filter_cons, if_pos hb]; rfl
        rw [this]
        exact ((hda.mono (s2.trans (s3.trans s4))).tk tk ttake).append (.one (rz.tk tk (tl _ hmem hb)))
  · have e1 : i = l.length := by omega
    subst e1
    refine .inl ⟨List.length_map (as := l) enc ▸ Y.2 H' sH, q _ H' (s1.trans sH) (.lst hA ?_)⟩
    rw [List.take_of_length_le (Nat.le_refl _)] at hda
    exact hda
section
variable {α : Type} {X : Cx} {elt tg iter : Expr} {ifs : List Expr} {scope : Scope} {g : TG} {σ : L2.St} {H : Hp} {pos p p1 p2 p3 : Pos} {x y : Str}
/-- [elt for x in iter if ..] over typed items, x in slot j -/
theorem ev_lcA (j : Nat) (enc : α → PyData) (l : List α) (fb : α → Bool) (fe : α → PyData) (hc : X.calm = true) (hN : X.N.Nodup) (ok : BlkOk X.N X.env.scope scope [(x, j)]) (hi : EvI X (.Name x p) iter σ H (l.map enc)) (hw : ∀ v, wipe ((wipe σ [j]).set j (some v)) [j] = wipe σ [j]) (hz : l.length ≤ 1000000) (tl : ∀ d ∈ l, fb d = true → tlv (fe d) = true)
    (ht : ∀ d v H', d ∈ l → Same H H' → Dl H' v (enc d) → ∀ (s : Shared) (H0 : Hp) (C : Addr) (cl : List (Str × Addr)) (fp : List Addr), EvTs (X.blk s H0 scope (compEnvC scope cl C X.env) fp) ifs ((wipe σ [j]).set j (some v)) H' (fb d))
    (he : ∀ d v H', d ∈ l → Same H H' → Dl H' v (enc d) → fb d = true → ∀ (s : Shared) (H0 : Hp) (C : Addr) (cl : List (Str × Addr)) (fp : List Addr), EvD (X.blk s H0 scope (compEnvC scope cl C X.env) fp) elt ((wipe σ [j]).set j (some v)) H' (fe d))
    (hx2 : ∀ (s : Shared) (H : Hp) (C : Addr) (cl : List (Str × Addr)) (fp : List Addr), (X.blk s H scope (compEnvC scope cl C X.env) fp).env.scope.names.lookup x = some .local := by intro _ _ _ _ _; rfl) (hj : X.N[j]? = some x := by rfl) (hs : ∀ x, foldedSetIterable iter X.env x = pure x := by intro _; rfl) :
    EvD X (.ListComp elt [⟨.Name x p, iter, ifs, 0⟩] scope pos) σ H (.list ((l.filter fb).map fe)) := fun H1 s1 Q q =>
  do_lc (own := [(x, j)]) (g := gName j) hc hN ok (fun s H C cl fp => pg_name hN hj (.inl (hx2 s H C cl fp)) (.inr (hx2 s H C cl fp))) (lc_ty (vs := [j]) enc l fb fe hi hz tl (fun d v H' hd s r => ⟨_, fun Q' h => h, hw v, ht d v H' hd s r, fun hb => he d v H' hd s r hb⟩) H1 s1 Q q) hs
theorem ev_lcA0 (j : Nat) (enc : α → PyData) (l : List α) (fe : α → PyData) (hc : X.calm = true) (hN : X.N.Nodup) (ok : BlkOk X.N X.env.scope scope [(x, j)]) (hi : EvI X (.Name x p) iter σ H (l.map enc)) (hw : ∀ v, wipe ((wipe σ [j]).set j (some v)) [j] = wipe σ [j]) (hz : l.length ≤ 1000000) (tl : ∀ d ∈ l, tlv (fe d) = true)
    (he : ∀ d v H', d ∈ l → Same H H' → Dl H' v (enc d) → ∀ (s : Shared) (H0 : Hp) (C : Addr) (cl : List (Str × Addr)) (fp : List Addr), EvD (X.blk s H0 scope (compEnvC scope cl C X.env) fp) elt ((wipe σ [j]).set j (some v)) H' (fe d))
    (hx2 : ∀ (s : Shared) (H : Hp) (C : Addr) (cl : List (Str × Addr)) (fp : List Addr), (X.blk s H scope (compEnvC scope cl C X.env) fp).env.scope.names.lookup x = some .local := by intro _ _ _ _ _; rfl) (hj : X.N[j]? = some x := by rfl) (hs : ∀ x, foldedSetIterable iter X.env x = pure x := by intro _; rfl) :
    EvD X (.ListComp elt [⟨.Name x p, iter, [], 0⟩] scope pos) σ H (.list (l.map fe)) := by
  have h := ev_lcA (ifs := []) (pos := pos) j enc l (fun _ => true) fe hc hN ok hi hw hz (fun d hd _ => tl d hd) (fun _ _ _ _ _ _ _ _ _ _ _ => ets_nil) (fun d v H' hd s r _ => he d v H' hd s r) hx2 hj hs
  have e : l.filter (fun _ => true) = l := List.filter_eq_self.mpr fun _ _ => rfl
  rw [e] at h
  exact h
/-- over pairs -/
theorem ev_lcPA {kk : Nat} {tpos : Pos} (j1 j2 : Nat) (e1 e2 : α → PyData) (l : List α) (fb : α → Bool) (fe : α → PyData) (hc : X.calm = true) (hN : X.N.Nodup) (ok : BlkOk X.N X.env.scope scope [(x, j1), (y, j2)]) (hi : EvI X (.Tuple [.Name x p1, .Name y p2] kk tpos) iter σ H (l.map fun a => .tuple [e1 a, e2 a])) (hw : ∀ v w, wipe (((wipe σ [j1, j2]).set j1 (some v)).set j2 (some w)) [j1, j2] = wipe σ [j1, j2]) (hz : l.length ≤ 1000000) (tl : ∀ d ∈ l, fb d = true → tlv (fe d) = true)
    (ht : ∀ d v w H', d ∈ l → Same H H' → Dl H' v (e1 d) → Dl H' w (e2 d) → ∀ (s : Shared) (H0 : Hp) (C : Addr) (cl : List (Str × Addr)) (fp : List Addr), EvTs (X.blk s H0 scope (compEnvC scope cl C X.env) fp) ifs (((wipe σ [j1, j2]).set j1 (some v)).set j2 (some w)) H' (fb d))
    (he : ∀ d v w H', d ∈ l → Same H H' → Dl H' v (e1 d) → Dl H' w (e2 d) → fb d = true → ∀ (s : Shared) (H0 : Hp) (C : Addr) (cl : List (Str × Addr)) (fp : List Addr), EvD (X.blk s H0 scope (compEnvC scope cl C X.env) fp) elt (((wipe σ [j1, j2]).set j1 (some v)).set j2 (some w)) H' (fe d))
    (hx2 : ∀ (s : Shared) (H : Hp) (C : Addr) (cl : List (Str × Addr)) (fp : List Addr), (X.blk s H scope (compEnvC scope cl C X.env) fp).env.scope.names.lookup x = some .local := by intro _ _ _ _ _; rfl) (hy2 : ∀ (s : Shared) (H : Hp) (C : Addr) (cl : List (Str × Addr)) (fp : List Addr), (X.blk s H scope (compEnvC scope cl C X.env) fp).env.scope.names.lookup y = some .local := by intro _ _ _ _ _; rfl)
    (hj1 : X.N[j1]? = some x := by rfl) (hj2 : X.N[j2]? = some y := by rfl) (hs : ∀ x, foldedSetIterable iter X.env x = pure x := by intro _; rfl) :
    EvD X (.ListComp elt [⟨.Tuple [.Name x p1, .Name y p2] kk tpos, iter, ifs, 0⟩] scope pos) σ H (.list ((l.filter fb).map fe)) := fun H1 s1 Q q =>
  do_lc (own := [(x, j1), (y, j2)]) (g := gTup X.K 2 (gCons (gName j1) (gCons (gName j2) gNil))) hc hN ok
    (fun s H C cl fp => pg_tup (X := X.blk s H scope (compEnvC scope cl C X.env) fp) hc (pgs_cons (pg_name hN hj1 (.inl (hx2 s H C cl fp)) (.inr (hx2 s H C cl fp))) (pgs_cons (pg_name hN hj2 (.inl (hy2 s H C cl fp)) (.inr (hy2 s H C cl fp))) pgs_nil)))
    (lc_ty (vs := [j1, j2]) (fun a => .tuple [e1 a, e2 a]) l fb fe hi hz tl (fun d v H' hd s r => by
      cases r with
      | tup ha hd' =>
        cases hd' with
        | cons r1 r2 =>
          cases r2 with
          | cons r2 r3 =>
            cases r3
            exact ⟨_, fun Q' h => ⟨_, _, rfl, (.inl ha), rfl, _, _, rfl, _, _, rfl, rfl, h⟩, hw _ _, ht d _ _ H' hd s r1 r2, fun hb => he d _ _ H' hd s r1 r2 hb⟩) H1 s1 Q q) hs
theorem ev_lcPA0 {kk : Nat} {tpos : Pos} (j1 j2 : Nat) (e1 e2 : α → PyData) (l : List α) (fe : α → PyData) (hc : X.calm = true) (hN : X.N.Nodup) (ok : BlkOk X.N X.env.scope scope [(x, j1), (y, j2)]) (hi : EvI X (.Tuple [.Name x p1, .Name y p2] kk tpos) iter σ H (l.map fun a => .tuple [e1 a, e2 a])) (hw : ∀ v w, wipe (((wipe σ [j1, j2]).set j1 (some v)).set j2 (some w)) [j1, j2] = wipe σ [j1, j2]) (hz : l.length ≤ 1000000) (tl : ∀ d ∈ l, tlv (fe d) = true)
    (he : ∀ d v w H', d ∈ l → Same H H' → Dl H' v (e1 d) → Dl H' w (e2 d) → ∀ (s : Shared) (H0 : Hp) (C : Addr) (cl : List (Str × Addr)) (fp : List Addr), EvD (X.blk s H0 scope (compEnvC scope cl C X.env) fp) elt (((wipe σ [j1, j2]).set j1 (some v)).set j2 (some w)) H' (fe d))
    (hx2 : ∀ (s : Shared) (H : Hp) (C : Addr) (cl : List (Str × Addr)) (fp : List Addr), (X.blk s H scope (compEnvC scope cl C X.env) fp).env.scope.names.lookup x = some .local := by intro _ _ _ _ _; rfl) (hy2 : ∀ (s : Shared) (H : Hp) (C : Addr) (cl : List (Str × Addr)) (fp : List Addr), (X.blk s H scope (compEnvC scope cl C X.env) fp).env.scope.names.lookup y = some .local := by intro _ _ _ _ _; rfl)
    (hj1 : X.N[j1]? = some x := by rfl) (hj2 : X.N[j2]? = some y := by rfl) (hs : ∀ x, foldedSetIterable iter X.env x = pure x := by intro _; rfl) :
    EvD X (.ListComp elt [⟨.Tuple [.Name x p1, .Name y p2] kk tpos, iter, [], 0⟩] scope pos) σ H (.list (l.map fe)) := by
  have h := ev_lcPA (ifs := []) (pos := pos) j1 j2 e1 e2 l (fun _ => true) fe hc hN ok hi hw hz (fun d hd _ => tl d hd) (fun _ _ _ _ _ _ _ _ _ _ _ _ _ => ets_nil) (fun d v w H' hd s r1 r2 _ => he d v w H' hd s r1 r2) hx2 hy2 hj1 hj2 hs
  have e : l.filter (fun _ => true) = l := List.filter_eq_self.mpr fun _ _ => rfl
  rw [e] at h
  exact h
/-- all([test for x in iter]) -/
theorem ev_allA (j : Nat) (enc : α → PyData) (l : List α) (fb : α → Bool) (hc : X.calm = true) (hm : X.mg "all" = none) (hN : X.N.Nodup) (ok : BlkOk X.N X.env.scope scope [(x, j)]) (hi : EvI X (.Name x p) iter σ H (l.map enc)) (hw : ∀ v, wipe ((wipe σ [j]).set j (some v)) [j] = wipe σ [j]) (hz : l.length ≤ 1000000)
    (he : ∀ d v H', d ∈ l → Same H H' → Dl H' v (enc d) → ∀ (s : Shared) (H0 : Hp) (C : Addr) (cl : List (Str × Addr)) (fp : List Addr), EvD (X.blk s H0 scope (compEnvC scope cl C X.env) fp) elt ((wipe σ [j]).set j (some v)) H' (.bool (fb d)))
    (hx2 : ∀ (s : Shared) (H : Hp) (C : Addr) (cl : List (Str × Addr)) (fp : List Addr), (X.blk s H scope (compEnvC scope cl C X.env) fp).env.scope.names.lookup x = some .local := by intro _ _ _ _ _; rfl) (hj : X.N[j]? = some x := by rfl) (hs : ∀ x, foldedSetIterable iter X.env x = pure x := by intro _; rfl)
    (hg : Gl X "all" := by rfl) (he1 : starEach [Expr.ListComp elt [⟨.Name x p, iter, [], 0⟩] scope pos] X.env = (false, eval (Expr.ListComp elt [⟨.Name x p, iter, [], 0⟩] scope pos) X.env) :: starEach [] X.env := by rfl) (hpl : (backTo p3 (starEach [] X.env)).any (·.1) = false := by rfl) :
    EvD X (.Call (.Name "all" p2) [.ListComp elt [⟨.Name x p, iter, [], 0⟩] scope pos] [] p3) σ H (.bool (l.all fb)) := by
  have h := ev_all (p := p2) (pos := p3) (bs := l.map fb) hc hm (EvD.is (ev_lcA0 (pos := pos) j enc l (fun d => .bool (fb d)) hc hN ok hi hw hz (fun _ _ => rfl) he hx2 hj hs) (by rw [List.map_map]; rfl)) hg he1 hpl
  rw [List.all_map] at h
  exact h
end
/-- for x in ..: over typed items; Pv is told of what is left -/
theorem walkedA {α : Type} (enc : α → PyData) (l : List α) (Rl : Hp → Hp → Prop) (Pv : List α → L2.St → Hp → Prop) {X : Cx} {g : TG} {body : List Stmt} {D : Ends} {σ : L2.St} {J : It} {H1 : Hp} (Y : Yields Rl J H1 (l.map enc)) (p0 : Pv l σ H1) (pr : ∀ r σ' H', Pv r σ' H' → Rl H1 H')
    (turn : ∀ a r v σ' H' H'', a ∈ l → Pv (a :: r) σ' H' → Same H' H'' → Dl H'' v (enc a) → g v σ' H'' fun σ2 H2 => DoSs X body { D with nx := Pv r, ct := Pv r, bk := D.nx } σ2 H2) (done : ∀ σ' H', Pv [] σ' H' → D.nx σ' H') : Walked X g body D σ J H1 := by
  refine ⟨Rl, l.map enc, fun i => Pv (l.drop i), Y, p0, fun i σ' H' h => pr _ σ' H' h, fun i d v σ' H' H'' e h s r => ?_, fun σ' H' h => ?_⟩
  · rw [List.getElem?_map] at e
    obtain ⟨a, ha, rfl⟩ := Option.map_eq_some_iff.mp e
    obtain ⟨hi, ha'⟩ := List.getElem?_eq_some_iff.mp ha
    have hd : l.drop i = a :: l.drop (i + 1) := by rw [← ha']; exact List.drop_eq_getElem_cons hi
    rw [hd] at h
    exact turn a _ v σ' H' H'' (List.mem_of_getElem? ha) h s r
  · rw [List.length_map, List.drop_length] at h
    exact done σ' H' h
end Lk
namespace Lk
open PySem PySem.Spec PyProof.Rows L2
/-! ### a heap kept but for lists at the addresses S -/
/-- what is no list is kept -/
def Nk (H H' : Hp) : Prop := ∀ b o, (∀ xs, o ≠ .lst xs) → H b = some o → H' b = some o
theorem Nk.refl (H : Hp) : Nk H H := fun _ _ _ h => h
theorem Nk.trans {H H1 H2 : Hp} (a : Nk H H1) (b : Nk H1 H2) : Nk H H2 := fun c o n h => b c o n (a c o n h)
theorem Same.nk {H H' : Hp} (e : Same H H') : Nk H H' := fun b o _ h => e b o h
theorem Nk.tk {H H' : Hp} (e : Nk H H') : Tk H H' := fun b xs h => by
  rcases h with h | ⟨o, h⟩
  · exact .inl (e _ _ (fun _ z => nomatch z) h)
  · exact .inr ⟨o, e _ _ (fun _ z => nomatch z) h⟩
theorem Nk.upd {H : Hp} {a : Addr} {o : HO} {xs : List V} (h : H a = some (.lst xs)) : Nk H (upd H a o) := fun b u n e => by
  have n' : b ≠ a := fun z => by
    rw [z, h] at e
    exact n xs (Option.some.inj e).symm
  rw [upd_ne n']
  exact e
def Kb (S : List Addr) (H H' : Hp) : Prop := (∀ b o, b ∉ S → H b = some o → H' b = some o) ∧ Nk H H'
section
variable {S S' : List Addr} {H H1 H2 H' : Hp} {a : Addr} {xs ys : List V} {ds : List PyData}
theorem Kb.refl : Kb S H H := ⟨fun _ _ _ h => h, Nk.refl H⟩
theorem Kb.trans (h : Kb S H H1) (h' : Kb S H1 H2) : Kb S H H2 := ⟨fun b o n e => h'.1 b o n (h.1 b o n e), h.2.trans h'.2⟩
theorem Same.kb (h : Same H H') : Kb S H H' := ⟨fun b o _ e => h b o e, Same.nk h⟩
theorem Kb.upd (h : H a = some (.lst xs)) (ha : a ∈ S) {o : HO} : Kb S H (upd H a o) := ⟨fun b o n e => by
  have n' : b ≠ a := fun z => n (by rw [z]; exact ha)
  rw [upd_ne n']
  exact e, Nk.upd h⟩
theorem Kb.sub (h : Kb S H H') (q : ∀ x ∈ S, x ∈ S') : Kb S' H H' := ⟨fun b o n e => h.1 b o (fun z => n (q b z)) e, h.2⟩
/-- what was added is no matter: a address not tracked before may be changed too -/
theorem Kb.drop (h : Kb S' H H') (q : ∀ x ∈ S', x ∈ S ∨ H x = none) : Kb S H H' := ⟨fun b o n e => h.1 b o (fun z => (q b z).elim n fun z => by rw [z] at e; cases e) e, h.2⟩
theorem Kb.same (h : Kb S H H') (q : ∀ x ∈ S, H x = none) : Same H H' := fun b o e => h.1 b o (fun z => by rw [q b z] at e; cases e) e
theorem yields_tupK {K : PySem.W.Frag} (ha : Rd H a (.tup xs)) (hd : DlAll H xs ds) (t : tlvAll ds = true) : Yields (Kb S) (Itt K a) H ds := (yields_tupT ha hd t).imp fun _ h => h.2.tk
theorem yields_lstK {K : PySem.W.Frag} (ha : H a = some (.lst xs)) (hn : a ∉ S) (hd : DlAll H xs ds) (t : tlvAll ds = true) : Yields (Kb S) (Itl K a) H ds := (yields_lstT ha hd t).imp fun _ h => ⟨h.2.tk, h.1 _ _ hn ha⟩
end
/-- iter walks the data ds, whatever is changed at S; all that is tracked is kept -/
def EvIK (S : List Addr) (X : Cx) (tg iter : Expr) (σ : L2.St) (H : Hp) (ds : List PyData) : Prop := ∀ H1, Same H H1 → ∀ R : It → Hp → Prop, (∀ J H2, Same H1 H2 → Yields (Kb S) J H2 ds → R J H2) → DoI X tg iter σ H1 R
section
variable {S : List Addr} {X : Cx} {a b c e tg : Expr} {es : List Expr} {σ : L2.St} {H H' : Hp} {d d1 d2 : PyData} {ds ds' : List PyData} {p pos tpos : Pos} {i j : Int} {k k' : Bool} {x y : Str} {D : Ends}
theorem EvIK.go {R : It → Hp → Prop} (h : EvIK S X tg e σ H ds) (q : ∀ J H2, Same H H2 → Yields (Kb S) J H2 ds → R J H2) : DoI X tg e σ H R := h H (Same.refl H) R q
theorem ek_tup (h : EvD X e σ H (.tuple ds)) (t : tlvAll ds = true) : EvIK S X tg e σ H ds := fun H1 s R q => DoI.of (pi_tup DoE.pe) (h H1 s _ fun v H2 s2 r => by
  cases r with
  | tup ha hd => exact ⟨_, rfl, ⟨_, (.inl ha)⟩, q _ H2 s2 (yields_tupK ha hd t)⟩)
/-- a list that is new, or not among S -/
theorem ek_lst (h : EvD X e σ H (.list ds)) (t : tlvAll ds = true) (hn : ∀ H1, Same H H1 → ∀ Q : VK, (∀ a xs H2, Same H1 H2 → a ∉ S → H2 a = some (.lst xs) → DlAll H2 xs ds → Q (.ref a) H2) → DoE X e σ H1 Q) : EvIK S X tg e σ H ds := fun H1 s R q => DoI.of (pi_list DoE.pe) (hn H1 s _ fun a xs H2 s2 n ha hd => ⟨_, rfl, ⟨_, SqL.of ha⟩, q _ H2 s2 (yields_lstK ha n hd t)⟩)
/-! tests by comparison -/
theorem et_eqS (ha : EvD X a σ H (.str x)) (hb : EvD X b σ H (.str y)) : EvT X (.Compare a [.Eq] [b] pos) σ H (decide (x = y)) := et_cmp op_eq ha hb fun u v H1 _ ru rv Q q => by
  cases ru; cases rv
  refine ⟨rfl, ?_⟩
  have e : decide (V.str x = V.str y) = decide (x = y) := decide_eq_decide.mpr ⟨V.str.inj, fun h => by rw [h]⟩
  rw [e]
  exact q
theorem et_neS (ha : EvD X a σ H (.str x)) (hb : EvD X b σ H (.str y)) : EvT X (.Compare a [.NotEq] [b] pos) σ H (!decide (x = y)) := et_cmp op_ne ha hb fun u v H1 _ ru rv Q q => by
  cases ru; cases rv
  refine ⟨rfl, ?_⟩
  have e : decide (V.str x = V.str y) = decide (x = y) := decide_eq_decide.mpr ⟨V.str.inj, fun h => by rw [h]⟩
  rw [e]
  exact q
theorem et_eqI (ha : EvD X a σ H (.int i)) (hb : EvD X b σ H (.int j)) : EvT X (.Compare a [.Eq] [b] pos) σ H (decide (i = j)) := et_cmp op_eq ha hb fun u v H1 _ ru rv Q q => by
  cases ru; cases rv
  refine ⟨rfl, ?_⟩
  have e : decide (V.int i = V.int j) = decide (i = j) := decide_eq_decide.mpr ⟨V.int.inj, fun h => by rw [h]⟩
  rw [e]
  exact q
theorem et_eqB (ha : EvD X a σ H (.bool k)) (hb : EvD X b σ H (.bool k')) : EvT X (.Compare a [.Eq] [b] pos) σ H (k == k') := et_cmp op_eq ha hb fun u v H1 _ ru rv Q q => by
  cases ru; cases rv
  refine ⟨rfl, ?_⟩
  have e : decide (V.bl k = V.bl k') = (k == k') := by cases k <;> cases k' <;> rfl
  rw [e]
  exact q
theorem et_neB (ha : EvD X a σ H (.bool k)) (hb : EvD X b σ H (.bool k')) : EvT X (.Compare a [.NotEq] [b] pos) σ H (!(k == k')) := et_cmp op_ne ha hb fun u v H1 _ ru rv Q q => by
  cases ru; cases rv
  refine ⟨rfl, ?_⟩
  have e : decide (V.bl k = V.bl k') = (k == k') := by cases k <;> cases k' <;> rfl
  rw [e]
  exact q
theorem et_lt (ha : EvD X a σ H (.int i)) (hb : EvD X b σ H (.int j)) : EvT X (.Compare a [.Lt] [b] pos) σ H (decide (i < j)) := et_cmp op_lt ha hb fun u v H1 _ ru rv Q q => by cases ru; cases rv; exact ⟨i, j, rfl, rfl, q⟩
theorem et_le (ha : EvD X a σ H (.int i)) (hb : EvD X b σ H (.int j)) : EvT X (.Compare a [.LtE] [b] pos) σ H (decide (i ≤ j)) := et_cmp op_le ha hb fun u v H1 _ ru rv Q q => by cases ru; cases rv; exact ⟨i, j, rfl, rfl, q⟩
theorem et_gt (ha : EvD X a σ H (.int i)) (hb : EvD X b σ H (.int j)) : EvT X (.Compare a [.Gt] [b] pos) σ H (decide (j < i)) := et_cmp op_gt ha hb fun u v H1 _ ru rv Q q => by cases ru; cases rv; exact ⟨i, j, rfl, rfl, q⟩
theorem et_ge (ha : EvD X a σ H (.int i)) (hb : EvD X b σ H (.int j)) : EvT X (.Compare a [.GtE] [b] pos) σ H (decide (j ≤ i)) := et_cmp op_ge ha hb fun u v H1 _ ru rv Q q => by cases ru; cases rv; exact ⟨i, j, rfl, rfl, q⟩
theorem et_eq (hu : X.A.units + 64 < cLine) (ha : EvD X a σ H d1) (hb : EvD X b σ H d2) (h1 : SeqAt.shaped d1 = true) (h2 : SeqAt.shaped d2 = true) : EvT X (.Compare a [.Eq] [b] pos) σ H (PyData.eqv d1 d2) :=
  et_cmp (op_eqD hu) ha hb fun u v H1 _ ru rv Q q => ⟨d1, d2, ru.dp, rv.dp, h1, h2, q⟩
theorem et_ne (hu : X.A.units + 64 < cLine) (ha : EvD X a σ H d1) (hb : EvD X b σ H d2) (h1 : SeqAt.shaped d1 = true) (h2 : SeqAt.shaped d2 = true) : EvT X (.Compare a [.NotEq] [b] pos) σ H (!PyData.eqv d1 d2) :=
  et_cmp (op_neD hu) ha hb fun u v H1 _ ru rv Q q => ⟨d1, d2, ru.dp, rv.dp, h1, h2, q⟩
theorem et_isN {jj pos'} (ha : EvD X a σ H d) : EvT X (.Compare a [.Is] [.Constant .none jj pos'] pos) σ H (isNoneD d) := fun H1 s Q q =>
  DoT.of (pt_cmp (pc_isN DoE.pe)) (ha H1 s _ fun u H2 s2 ru => by
    have e : decide (u = V.non) = isNoneD d := by cases ru <;> first | rfl | (apply decide_eq_false; intro z; cases z)
    rw [e]
    exact ⟨_, rfl, q H2 s2⟩)
theorem et_notN {jj pos'} (ha : EvD X a σ H d) : EvT X (.Compare a [.IsNot] [.Constant .none jj pos'] pos) σ H (!isNoneD d) := fun H1 s Q q =>
  DoT.of (pt_cmp (pc_notN DoE.pe)) (ha H1 s _ fun u H2 s2 ru => by
    have e : decide (u = V.non) = isNoneD d := by cases ru <;> first | rfl | (apply decide_eq_false; intro z; cases z)
    rw [e]
    exact ⟨_, rfl, q H2 s2⟩)
/-! x in xs for ints: a tuple or a list of ints -/
theorem inV_ints {n : Int} : ∀ {l : List Int}, inV (.int n) (l.map V.int) = decide (n ∈ l)
  | [] => by simp [inV]
  | m :: l => by
    have ih := inV_ints (n := n) (l := l)
    unfold inV at ih ⊢
    rw [List.map_cons, List.any_cons, ih]
    by_cases e : m = n
    · subst e
      simp [eqV]
    · have e' : ¬ n = m := fun z => e z.symm
      simp [eqV, e, e']
theorem flat_ints : ∀ {l : List Int}, (l.map V.int).all flatV = true
  | [] => rfl
  | m :: l => by rw [List.map_cons, List.all_cons, flat_ints]; rfl
theorem ev_inI {l : List Int} (ha : EvD X a σ H (.int i)) (hb : EvD X b σ H (encL l)) (hm : behindInMarks .In b = false := by rfl) : EvD X (.Compare a [.In] [b] pos) σ H (.bool (decide (i ∈ l))) := ev_cmp op_in_seq ha hb (hm := hm) fun u v H1 _ ru rv Q q => by
  cases ru
  unfold encL at rv
  cases rv with
  | tup hA hd =>
    have := hd.ints
    subst this
    refine ⟨_, _, rfl, .inr (.inl hA), rfl, flat_ints, ?_⟩
    rw [if_neg (by decide), inV_ints]
    exact q
theorem op_nin_seq {X : Cx} : OpR X (compareOp .NotIn) (rIn X.K true) := op_notIn_seq
theorem ev_ninI {l : List Int} (ha : EvD X a σ H (.int i)) (hb : EvD X b σ H (encL l)) (hm : behindInMarks .NotIn b = false := by rfl) : EvD X (.Compare a [.NotIn] [b] pos) σ H (.bool (!decide (i ∈ l))) := ev_cmp op_nin_seq ha hb (hm := hm) fun u v H1 _ ru rv Q q => by
  cases ru
  unfold encL at rv
  cases rv with
  | tup hA hd =>
    have := hd.ints
    subst this
    refine ⟨_, _, rfl, .inr (.inl hA), rfl, flat_ints, ?_⟩
    rw [if_pos rfl, inV_ints]
    exact q
theorem et_inI {l : List Int} (ha : EvD X a σ H (.int i)) (hb : EvD X b σ H (encL l)) (hm : behindInMarks .In b = false := by rfl) : EvT X (.Compare a [.In] [b] pos) σ H (decide (i ∈ l)) := et_cmp op_in_seq ha hb (hm := hm) fun u v H1 _ ru rv Q q => by
  cases ru
  unfold encL at rv
  cases rv with
  | tup hA hd =>
    have := hd.ints
    subst this
    refine ⟨_, _, rfl, .inr (.inl hA), rfl, flat_ints, ?_⟩
    rw [if_neg (by decide), inV_ints]
    exact q
theorem et_ninI {l : List Int} (ha : EvD X a σ H (.int i)) (hb : EvD X b σ H (encL l)) (hm : behindInMarks .NotIn b = false := by rfl) : EvT X (.Compare a [.NotIn] [b] pos) σ H (!decide (i ∈ l)) := et_cmp op_nin_seq ha hb (hm := hm) fun u v H1 _ ru rv Q q => by
  cases ru
  unfold encL at rv
  cases rv with
  | tup hA hd =>
    have := hd.ints
    subst this
    refine ⟨_, _, rfl, .inr (.inl hA), rfl, flat_ints, ?_⟩
    rw [if_pos rfl, inV_ints]
    exact q
/-! joined lists and tuples -/
theorem ev_catL (ha : EvD X a σ H (.list ds)) (hb : EvD X b σ H (.list ds')) (hl : ds.length + ds'.length ≤ 1000) : EvD X (.BinOp a .Add b pos) σ H (.list (ds ++ ds')) := ev_op op_cat ha hb fun u v H1 _ ru rv Q q => by
  cases ru with
  | lst hA hd =>
    cases rv with
    | lst hB he =>
      refine ⟨_, _, _, _, rfl, rfl, hA, hB, ?_, fun p hp => q _ _ (same_new hp) (.lst upd_same ((hd.append he).mono (same_new hp)))⟩
      rw [hd.length, he.length]
      exact Nat.le_trans hl (by decide)
/-! statements -/
theorem ds_retD (h : EvD X e σ H d) (q : ∀ v H1, Same H H1 → Dl H1 v d → D.rt v H1) : DoS X (.Return (some e) pos) D σ H := ds_ret (h.go q)
theorem ds_ifT {s t : List Stmt} (h : EvT X c σ H k) (h1 : k = true → ∀ H1, Same H H1 → DoSs X s D σ H1) (h2 : k = false → ∀ H1, Same H H1 → DoSs X t D σ H1) : DoS X (.If c s t pos) D σ H := ds_if (h.go fun H1 s1 => by
  cases k with
  | true => exact iteT (h1 rfl H1 s1)
  | false => exact iteF (h2 rfl H1 s1))
/-- x, y = a, b with plain local names -/
theorem ds_par (i j : Nat) {px py pt : Pos} {kt k2 pt2} (hc : X.calm = true) (hN : X.N.Nodup) (h : DoA X [a, b] σ H fun vs H1 => ∃ v w, vs = [v, w] ∧ D.nx ((σ.set i (some v)).set j (some w)) H1) (hij : i ≠ j := by decide) (hi : X.N[i]? = some x := by rfl) (hj : X.N[j]? = some y := by rfl)
    (hx : X.env.scope.names.lookup x = some .local := by rfl) (hy : X.env.scope.names.lookup y = some .local := by rfl)
    (hw : swappedStores [.Tuple [.Name x px, .Name y py] kt pt] (.Tuple [a, b] k2 pt2) X.env = pure (some [x, y]) := by rfl)
    (hs : swapsWithSole [.Tuple [.Name x px, .Name y py] kt pt] (.Tuple [a, b] k2 pt2) pos.line X.env = pure false := by rfl) : DoS X (.Assign [.Tuple [.Name x px, .Name y py] kt pt] (.Tuple [a, b] k2 pt2) pos) D σ H :=
  DoS.of (ps_par hc hN hi hj hij hx hy DoA.pa hw hs) h
/-- x, y = a, b where both keep all -/
theorem ds_par2 (i j : Nat) {px py pt : Pos} {kt k2 pt2} (hc : X.calm = true) (hN : X.N.Nodup) (ha : EvD X a σ H d1) (hb : EvD X b σ H d2) (q : ∀ v w H1, Same H H1 → Dl H1 v d1 → Dl H1 w d2 → D.nx ((σ.set i (some v)).set j (some w)) H1) (hij : i ≠ j := by decide) (hi : X.N[i]? = some x := by rfl) (hj : X.N[j]? = some y := by rfl)
    (hx : X.env.scope.names.lookup x = some .local := by rfl) (hy : X.env.scope.names.lookup y = some .local := by rfl)
    (hw : swappedStores [.Tuple [.Name x px, .Name y py] kt pt] (.Tuple [a, b] k2 pt2) X.env = pure (some [x, y]) := by rfl)
    (hs : swapsWithSole [.Tuple [.Name x px, .Name y py] kt pt] (.Tuple [a, b] k2 pt2) pos.line X.env = pure false := by rfl) (h1 : starEach [a, b] X.env = (false, eval a X.env) :: starEach [b] X.env := by rfl) (h2 : starEach [b] X.env = (false, eval b X.env) :: starEach [] X.env := by rfl) : DoS X (.Assign [.Tuple [.Name x px, .Name y py] kt pt] (.Tuple [a, b] k2 pt2) pos) D σ H :=
  ds_par i j hc hN ((eva2 ha hb h1 h2).go fun vs H1 s r => by
    obtain ⟨v, w, rfl, r1, r2⟩ := dl2 r
    exact ⟨v, w, rfl, q v w H1 s r1 r2⟩) hij hi hj hx hy hw hs
/-- a new list display of no items -/
theorem ev_nilL : EvD X (.List [] pos) σ H (.list []) := ev_lst eva_nil
theorem do_nilL {Q : VK} (q : ∀ p, H p = none → Q (.ref p) (upd H p (.lst []))) : DoE X (.List [] pos) σ H Q := DoE.of (pe_lst DoA.pa) (DoA.of pa_nil ⟨Nat.zero_le _, q⟩)
/-- x.append(e): the list at A, in slot i -/
theorem ds_append {A : Addr} {xs : List V} {pn apos cpos : Pos} (i : Nat) (h0 : σ[i]? = some (some (.ref A))) (hA : H A = some (.lst xs)) (hl : xs.length ≤ 1000) (he : EvD X e σ H d) (q : ∀ v H1, Same H H1 → Dl H1 v d → H1 A = some (.lst xs) → D.nx σ (upd H1 A (.lst (xs ++ [v])))) (hN : X.N[i]? = some x := by rfl) (hv : Vis X.env.scope x := by first | exact .inl rfl | exact .inr (.inl rfl) | exact .inr (.inr rfl)) (hd : (x == ("__debug__" : Str)) = false := by decide)
    (hcd : (x == ("__classdict__" : Str)) = false := by decide) (hs : starEach [e] X.env = (false, eval e X.env) :: starEach [] X.env := by rfl)
    (hsw : swapsWith (.Call (.Attribute (.Name x pn) "append" apos) [e] [] cpos) none pos.line X.env = pure false := by rfl)
    (hbase : attributeBase (.Name x pn) "append" X.env (eval (.Name x pn) X.env) = eval (.Name x pn) X.env := by rfl)
    (hfew : ((backTo cpos (starEach [e] X.env)).all (fun x => !x.1) && (backToKw cpos (keywordEach [] X.env)).all (fun x => x.1.isSome)
      && decide (([e] : List Expr).length + ([] : List Keyword).length + (if ([] : List Keyword).isEmpty then 0 else 1) < 30)) = true := by rfl)
    (hline : (apos.endLine == cpos.line) = true := by rfl) (hplain : (backTo cpos (starEach [] X.env)).any (·.1) = false := by rfl) :
    DoS X (.Expr (.Call (.Attribute (.Name x pn) "append" apos) [e] [] cpos) pos) D σ H :=
  ds_expr (DoE.of (pe_bm PySem.F.plainAttrs_list PySem.F.slot_list_append PySem.F.type_list_append mt_append (DoE.pe (e := .Name x pn)) (DoA.pa (es := [e])) hbase hfew hline hs hplain)
    (DoE.of (pe_var hN hv hd hcd) ⟨.ref A, h0, .inl ⟨rfl, xs, SqL.of hA⟩, (eva1 he hs).go fun vs H1 s r => by
      obtain ⟨v, rfl, rv⟩ := dl1 r
      exact ⟨A, xs, v, rfl, rfl, s _ _ hA, Nat.lt_of_le_of_lt hl (by decide), q v H1 s rv (s _ _ hA)⟩⟩)) hsw
end
/-- a pair taken apart -/
theorem gpair {K : PySem.W.Frag} {j1 j2 : Nat} {v : V} {σ : L2.St} {H : Hp} {Q : L2.St → Hp → Prop} {d1 d2 : PyData} (r : Dl H v (.tuple [d1, d2])) (h : ∀ x y, Dl H x d1 → Dl H y d2 → Q ((σ.set j1 (some x)).set j2 (some y)) H) : gTup K 2 (gCons (gName j1) (gCons (gName j2) gNil)) v σ H Q := by
  cases r with
  | tup ha hd' =>
    cases hd' with
    | cons r1 r2 =>
      cases r2 with
      | cons r2 r3 =>
        cases r3
        exact ⟨_, _, rfl, (.inl ha), rfl, _, _, rfl, _, _, rfl, rfl, h _ _ r1 r2⟩
theorem pg_pair {X : Cx} {x y : Str} {p1 p2 pos : Pos} {kk : Nat} (j1 j2 : Nat) (hc : X.calm = true) (hN : X.N.Nodup) (hj1 : X.N[j1]? = some x := by rfl) (hj2 : X.N[j2]? = some y := by rfl) (h1 : Loc X.env.scope x := by first | exact .inl rfl | exact .inr rfl) (h2 : Loc X.env.scope y := by first | exact .inl rfl | exact .inr rfl) (f1 : X.fn x = true ∨ X.env.scope.names.lookup x = some .local := by first | exact .inl rfl | exact .inr rfl) (f2 : X.fn y = true ∨ X.env.scope.names.lookup y = some .local := by first | exact .inl rfl | exact .inr rfl) : PG X (.Tuple [.Name x p1, .Name y p2] kk pos) (gTup X.K 2 (gCons (gName j1) (gCons (gName j2) gNil))) :=
  pg_tup hc (pgs_cons (pg_name hN hj1 h1 f1) (pgs_cons (pg_name hN hj2 h2 f2) pgs_nil))
end Lk
namespace Lk
open PySem PySem.Spec PyProof.Rows L2
section
variable {X : Cx} {a b c e tg : Expr} {es : List Expr} {σ : L2.St} {H : Hp} {pos p : Pos} {x y : Str} {i j : Int} {k k' : Bool} {ds : List PyData}
theorem ev_eqS (ha : EvD X a σ H (.str x)) (hb : EvD X b σ H (.str y)) : EvD X (.Compare a [.Eq] [b] pos) σ H (.bool (decide (x = y))) := ev_cmp op_eq ha hb fun u v H1 _ ru rv Q q => by
  cases ru; cases rv
  refine ⟨rfl, ?_⟩
  have e : decide (V.str x = V.str y) = decide (x = y) := decide_eq_decide.mpr ⟨V.str.inj, fun h => by rw [h]⟩
  rw [e]
  exact q
theorem ev_neS (ha : EvD X a σ H (.str x)) (hb : EvD X b σ H (.str y)) : EvD X (.Compare a [.NotEq] [b] pos) σ H (.bool (!decide (x = y))) := ev_cmp op_ne ha hb fun u v H1 _ ru rv Q q => by
  cases ru; cases rv
  refine ⟨rfl, ?_⟩
  have e : decide (V.str x = V.str y) = decide (x = y) := decide_eq_decide.mpr ⟨V.str.inj, fun h => by rw [h]⟩
  rw [e]
  exact q
theorem ev_eqI (ha : EvD X a σ H (.int i)) (hb : EvD X b σ H (.int j)) : EvD X (.Compare a [.Eq] [b] pos) σ H (.bool (decide (i = j))) := ev_cmp op_eq ha hb fun u v H1 _ ru rv Q q => by
  cases ru; cases rv
  refine ⟨rfl, ?_⟩
  have e : decide (V.int i = V.int j) = decide (i = j) := decide_eq_decide.mpr ⟨V.int.inj, fun h => by rw [h]⟩
  rw [e]
  exact q
theorem ev_eqB (ha : EvD X a σ H (.bool k)) (hb : EvD X b σ H (.bool k')) : EvD X (.Compare a [.Eq] [b] pos) σ H (.bool (k == k')) := ev_cmp op_eq ha hb fun u v H1 _ ru rv Q q => by
  cases ru; cases rv
  refine ⟨rfl, ?_⟩
  have e : decide (V.bl k = V.bl k') = (k == k') := by cases k <;> cases k' <;> rfl
  rw [e]
  exact q
theorem ev_neB (ha : EvD X a σ H (.bool k)) (hb : EvD X b σ H (.bool k')) : EvD X (.Compare a [.NotEq] [b] pos) σ H (.bool (!(k == k'))) := ev_cmp op_ne ha hb fun u v H1 _ ru rv Q q => by
  cases ru; cases rv
  refine ⟨rfl, ?_⟩
  have e : decide (V.bl k = V.bl k') = (k == k') := by cases k <;> cases k' <;> rfl
  rw [e]
  exact q
theorem EvI.go {R : It → Hp → Prop} (h : EvI X tg e σ H ds) (q : ∀ J H2, Same H H2 → Yields Same J H2 ds → R J H2) : DoI X tg e σ H R := h H (Same.refl H) R q
end

/-! ### encoded data -/
mutual
theorem tupD_id : ∀ {d : PyData}, tlv d = true → tupD d = d
  | .none, _ => rfl
  | .bool _, _ => rfl
  | .int _, _ => rfl
  | .str _, _ => rfl
  | .list _, h => by simp [tlv] at h
  | .dict _, h => by simp [tlv] at h
  | .tuple xs, h => by rw [tupD, tupDAll_id (by simpa [tlv] using h)]
theorem tupDAll_id : ∀ {xs : List PyData}, tlvAll xs = true → tupDAll xs = xs
  | [], _ => rfl
  | x :: xs, h => by
    have h' : tlv x = true ∧ tlvAll xs = true := by simpa [tlvAll] using h
    rw [tupDAll, tupD_id h'.1, tupDAll_id h'.2]
end
theorem tlv_map {α : Type} {f : α → PyData} {l : List α} (h : ∀ x ∈ l, tlv (f x) = true) : tlv (.tuple (l.map f)) = true := by
  rw [tlv]
  refine tlvAll_of fun d hd => ?_
  obtain ⟨x, hx, rfl⟩ := List.mem_map.mp hd
  exact h x hx
theorem tlv_encR (r : Rel) : tlv (encR r) = true := rfl
theorem tlv_encL (l : Lot) : tlv (encL l) = true := tlv_map fun _ _ => rfl
theorem tlv_encU (u : Str × Lot) : tlv (encU u) = true := by
  unfold encU
  simp [tlv, tlvAll, tlv_encL]
theorem tlv_encRs (rs : Rules) : tlv (encRs rs) = true := tlv_map fun u _ => tlv_encU u
theorem tlv_encO (o : Option Int) : tlv (encO o) = true := by cases o <;> rfl
theorem tlv_encP (p : Part) : tlv (encP p) = true := by
  unfold encP
  simp [tlv, tlvAll, tlv_encR, tlv_encRs, tlv_encO]
theorem tlv_encS (s : List Part) : tlv (encS s) = true := tlv_map fun p _ => tlv_encP p
theorem tlv_encK (k : List Rel) : tlv (encK k) = true := tlv_map fun r _ => tlv_encR r
theorem okD_up : ∀ {n : Nat} {d : PyData}, okD n d → okD (n + 1) d
  | n, .none, _ => by simp [okD]
  | n, .bool _, _ => by simp [okD]
  | n, .int _, _ => by simp [okD]
  | n, .str _, _ => by simp [okD]
  | n, .dict _, h => by cases n <;> simp [okD] at h
  | 0, .list _, h => by simp [okD] at h
  | 0, .tuple _, h => by simp [okD] at h
  | n + 1, .list xs, h => ⟨h.1, fun x hx => okD_up (h.2 x hx)⟩
  | n + 1, .tuple xs, h => ⟨h.1, fun x hx => okD_up (h.2 x hx)⟩
theorem okD_map {α : Type} {f : α → PyData} {l : List α} {n : Nat} (hl : l.length ≤ 1000) (h : ∀ x ∈ l, okD n (f x)) : okD (n + 1) (.tuple (l.map f)) := ⟨by rw [List.length_map]; exact hl, fun d hd => by
  obtain ⟨x, hx, rfl⟩ := List.mem_map.mp hd
  exact h x hx⟩
theorem okD_int {n : Nat} {i : Int} : okD n (.int i) := by cases n <;> simp [okD]
theorem okD_str {n : Nat} {i : Str} : okD n (.str i) := by cases n <;> simp [okD]
theorem okD_encO {n : Nat} {o : Option Int} : okD n (encO o) := by cases o <;> cases n <;> simp [okD, encO]
theorem okD_encR (r : Rel) : okD 1 (encR r) := ⟨by show 2 ≤ 1000; omega, fun x hx => by
  rcases List.mem_cons.mp hx with e | hx
  · rw [e]; exact okD_str
  · rcases List.mem_cons.mp hx with e | hx
    · rw [e]; exact okD_int
    · cases hx⟩
theorem okD_encL {l : Lot} (h : l.length ≤ 1000) : okD 1 (encL l) := okD_map h fun _ _ => okD_int
theorem okD_encU {u : Str × Lot} (h : u.2.length ≤ 1000) : okD 2 (encU u) := ⟨by show 2 ≤ 1000; omega, fun x hx => by
  rcases List.mem_cons.mp hx with e | hx
  · rw [e]; exact okD_str
  · rcases List.mem_cons.mp hx with e | hx
    · rw [e]; exact okD_encL h
    · cases hx⟩
theorem okD_encRs {rs : Rules} (w : WfRs rs) : okD 3 (encRs rs) := okD_map (Nat.le_trans (rules_few w) (by decide)) fun u hu => okD_encU (Nat.le_trans (w.lot u hu).few (by decide))
theorem okD_encP {p : Part} (w : WfP p) : okD 4 (encP p) := ⟨by show 4 ≤ 1000; omega, fun x hx => by
  rcases List.mem_cons.mp hx with e | hx
  · rw [e]; exact okD_up (okD_up (okD_encR _))
  · rcases List.mem_cons.mp hx with e | hx
    · rw [e]; exact okD_encRs w.rules
    · rcases List.mem_cons.mp hx with e | hx
      · rw [e]; exact okD_int
      · rcases List.mem_cons.mp hx with e | hx
        · rw [e]; exact okD_encO
        · cases hx⟩
theorem okD_encS {s : List Part} (w : WfS s) : okD 5 (encS s) := okD_map (Nat.le_trans w.few (by decide)) fun p hp => okD_encP (w.part p hp)
def encOL : Option Lot → PyData
  | none => .none
  | some l => encL l
def encOP : Option Part → PyData
  | none => .none
  | some p => encP p
def encORs : Option Rules → PyData
  | none => .none
  | some rs => encRs rs
theorem isNone_OL (o : Option Lot) : isNoneD (encOL o) = o.isNone := by cases o <;> rfl
theorem isNone_OP (o : Option Part) : isNoneD (encOP o) = o.isNone := by cases o <;> rfl
theorem isNone_ORs (o : Option Rules) : isNoneD (encORs o) = o.isNone := by cases o <;> rfl
theorem isNone_O (o : Option Int) : isNoneD (encO o) = o.isNone := by cases o <;> rfl
theorem shaped_ints (l : List Int) : SeqAt.shaped (.tuple (l.map .int)) = true := by
  unfold SeqAt.shaped
  have h1 : PyData.canLayAll0 (l.map PyData.int) = true := by
    induction l with
    | nil => rfl
    | cons x l ih =>
      rw [List.map_cons, PyData.canLayAll0, ih]
      rfl
  have h2 : (PyData.tuple (l.map .int)).depth ≤ 64 := by
    rw [PyData.depth, PySem.W.depth_ints]
    decide
  rw [PyData.canLay0, h1, Bool.true_and]
  exact decide_eq_true h2
theorem shaped_intsL (l : List Int) : SeqAt.shaped (.list (l.map .int)) = true := by
  unfold SeqAt.shaped
  have h1 : PyData.canLayAll0 (l.map PyData.int) = true := by
    induction l with
    | nil => rfl
    | cons x l ih =>
      rw [List.map_cons, PyData.canLayAll0, ih]
      rfl
  have h2 : (PyData.list (l.map .int)).depth ≤ 64 := by
    rw [PyData.depth, PySem.W.depth_ints]
    decide
  rw [PyData.canLay0, h1, Bool.true_and]
  exact decide_eq_true h2
theorem shaped_nilT : SeqAt.shaped (.tuple []) = true := shaped_ints []
theorem shaped_nilL : SeqAt.shaped (.list []) = true := shaped_intsL []
theorem name_str {n : Str} (h : NameOk n) : PyData.strOk n = true := by
  have all : (nameList.all fun n => PyData.strOk n) = true := by decide +kernel
  exact List.all_eq_true.mp all n h
theorem shapedR {r : Rel} (h : NameOk r.1) : SeqAt.shaped (encR r) = true := by
  unfold SeqAt.shaped
  rw [depthR]
  unfold encR
  simp [PyData.canLay0, PyData.canLayAll0, name_str h]
theorem eqv_nilT (l : List PyData) : PyData.eqv (.tuple l) (.tuple []) = l.isEmpty := by
  cases l <;> simp [PyData.eqv, PyData.eqvAll]
theorem eqv_nilL (l : List PyData) : PyData.eqv (.list l) (.list []) = l.isEmpty := by
  cases l <;> simp [PyData.eqv, PyData.eqvAll]
theorem name_len {n : Str} (h : NameOk n) : 1 ≤ n.length ∧ n.length ≤ 12 := by
  have all : (nameList.all fun n => decide (1 ≤ n.length) && decide (n.length ≤ 12)) = true := by decide +kernel
  have := List.all_eq_true.mp all n h
  rw [Bool.and_eq_true, decide_eq_true_eq, decide_eq_true_eq] at this
  exact this
theorem name_sign {n : Str} (h : NameOk n) {c : Nat} (hc : c ∈ n.cps.toList) : (!(Builtin.Str.occurrences "abcdefghijklmnopqrstuvwxyz" ⟨#[c]⟩ 0 (("abcdefghijklmnopqrstuvwxyz" : Str)).length 1).isEmpty) = true := by
  have all : (nameList.all fun n => n.cps.toList.all fun c => (!(Builtin.Str.occurrences "abcdefghijklmnopqrstuvwxyz" ⟨#[c]⟩ 0 (("abcdefghijklmnopqrstuvwxyz" : Str)).length 1).isEmpty)) = true := by decide +kernel
  exact List.all_eq_true.mp (List.all_eq_true.mp all n h) c hc
theorem name_cps {n : Str} (h : NameOk n) : n.cps.toList.length ≤ 12 := by
  have all : (nameList.all fun n => decide (n.cps.toList.length ≤ 12)) = true := by decide +kernel
  exact of_decide_eq_true (List.all_eq_true.mp all n h)
/-! what rises -/
theorem asc_zip {α : Type} {f : α → PyData} {R : α → α → Prop} {l : List α} (hl : l.length ≤ 1000) (h : l.Pairwise R) (hR : ∀ x y, R x y → PySem.W.dataLt (f x) (f y) = true) (hal : ∀ x y, PySem.W.alike (f x) (f y) = true) (hn : ∀ x, f x ≠ .none) (hd : ∀ x, (f x).depth ≤ 64) : AscD (l.map f) := by
  refine ⟨by rw [List.length_map]; exact hl, fun x y hm => ?_⟩
  obtain ⟨i, hi⟩ := List.getElem?_of_mem hm
  obtain ⟨x', y', e1, e2, e3⟩ := zipD_get hi
  injection e3 with e3
  injection e3 with e3 e4
  injection e4 with e4 _
  subst e3 e4
  rw [List.getElem?_map] at e1
  rw [List.getElem?_drop, List.getElem?_map] at e2
  obtain ⟨u, hu, rfl⟩ := Option.map_eq_some_iff.mp e1
  obtain ⟨v, hv, rfl⟩ := Option.map_eq_some_iff.mp e2
  obtain ⟨l1, hu'⟩ := List.getElem?_eq_some_iff.mp hu
  obtain ⟨l2, hv'⟩ := List.getElem?_eq_some_iff.mp hv
  have := List.pairwise_iff_getElem.mp h i (1 + i) l1 l2 (by omega)
  rw [hu', hv'] at this
  exact ⟨hal u v, hn u, hd u, hR u v this⟩
theorem asc_ints {l : List Int} (hl : l.length ≤ 1000) (h : l.Pairwise (· < ·)) : AscD (l.map .int) := asc_zip hl h (fun x y r => by rw [PySem.W.dataLt_int]; exact decide_eq_true r) (fun x y => by simp [PySem.W.alike]) (fun x z => nomatch z) (fun x => by simp [PyData.depth])
theorem asc_strs {l : List Str} (hl : l.length ≤ 1000) (h : l.Pairwise sLt) : AscD (l.map .str) := asc_zip hl h (fun x y r => by rw [PySem.W.dataLt_str]; exact decide_eq_true r) (fun x y => by simp [PySem.W.alike]) (fun x z => nomatch z) (fun x => by simp [PyData.depth])
theorem asc_rels {l : List Rel} (hl : l.length ≤ 1000) (h : l.Pairwise rLt) : AscD (l.map encR) := asc_zip hl h (fun x y r => by rw [ltR]; exact decide_eq_true r) alikeR (fun x z => nomatch z) (fun x => by rw [depthR]; decide)

def R_is_name : List PyData → PyData → Prop := fun ds d => ∃ n, ds = [.str n] ∧ NameOk n ∧ d = .bool true
def R_is_release : List PyData → PyData → Prop := fun ds d => ∃ r, ds = [encR r] ∧ NameOk r.1 ∧ 1 ≤ r.2 ∧ d = .bool true
def R_is_lot : List PyData → PyData → Prop := fun ds d => ∃ l, ds = [encL l] ∧ WfL l ∧ d = .bool true
def R_is_rule : List PyData → PyData → Prop := fun ds d => ∃ u, ds = [encU u] ∧ NameOk u.1 ∧ WfL u.2 ∧ d = .bool true
def R_is_rules : List PyData → PyData → Prop := fun ds d => ∃ rs, ds = [encRs rs] ∧ WfRs rs ∧ d = .bool true
def R_lot_in : List PyData → PyData → Prop := fun ds d => ∃ rs n, ds = [encRs rs, .str n] ∧ WfRs rs ∧ d = encOL (lotIn rs n)
section
variable {P : Program} {w : World} {K : PySem.W.Frag} {mg : Str → Option Value} {base : Heap}
theorem ok_is_name (T : Tops K mg) : Good P w K mg base 1 "is_name" ["thing"] (spF R_is_name) := by
  obtain ⟨tS, hS⟩ := T.c_SIGNS
  obtain ⟨tL, hL⟩ := T.c_LONGEST
  refine good_F T.d_is_name sc_is_name (fun ds d h => by obtain ⟨i, rfl, _⟩ := h; rfl) fun f cdv A outer s H vs ds d Q E hr hv hR q => ?_
  obtain ⟨n, rfl, hn, rfl⟩ := hR
  obtain ⟨v, rfl, h1⟩ := dl1 hv
  obtain ⟨n1, n2⟩ := name_len hn
  refine dss_one (ds_ret (EvD.go (EvD.is (ev_and2 (ev_isi T.b_isinstance (ev_var 0 rfl h1) (evv_ty T.b_str (by decide +kernel)) kt_str_str) fun _ => ev_and2 (ev_chainLe ev_int (ev_lenS T.b_len (ev_var 0 rfl h1) (Nat.le_trans n2 (by decide))) (ev_glob_int rfl hL)) fun _ => ev_one
    (ev_all (bs := List.replicate (signsD n).length true) rfl T.b_all (EvD.is (ev_lc0 1 (fun _ => .bool true) rfl sc_is_name.nd (blkOk_by (N := n_is_name) (sc := defScope s_is_name) (by decide +kernel)) (ei_str (ev_var 0 rfl h1)) (fun _ => rfl) (by unfold signsD; rw [List.length_map]; exact Nat.le_trans (name_cps hn) (by decide)) (fun _ _ => rfl) fun d v H' hd sm r s0 H0 C cl fp => ?_) (by rw [List.map_const', List.map_replicate])))) ?_) q))
  · unfold signsD at hd
    obtain ⟨c, hc, rfl⟩ := List.mem_map.mp hd
    refine EvD.is (ev_cmp op_in_str (ev_var 1 rfl r) (ev_glob_str rfl hS) (k := true) fun u z H1 _ ru rz Q' q' => ?_) rfl
    cases ru
    cases rz
    refine ⟨_, _, rfl, rfl, ?_⟩
    rw [name_sign hn hc]
    exact q'
  · rw [rep_true, decide_eq_true (show (1 : Int) ≤ (n.length : Int) by omega), decide_eq_true (show (n.length : Int) ≤ 12 by omega)]
    rfl
theorem ok_is_release (T : Tops K mg) : Good P w K mg base 3 "is_release" ["thing"] (spF R_is_release) := by
  have G1 := ok_is_tuple_of (P := P) (w := w) (base := base) T
  have G2 := ok_is_name (P := P) (w := w) (base := base) T
  have G3 := ok_is_from_one (P := P) (w := w) (base := base) T
  refine good_F T.d_is_release sc_is_release (fun ds d h => by obtain ⟨i, rfl, _⟩ := h; rfl) fun f cdv A outer s H vs ds d Q E hr hv hR q => ?_
  obtain ⟨r, rfl, hn, hi, rfl⟩ := hR
  obtain ⟨v, rfl, h1⟩ := dl1 hv
  exact dss_one (ds_ret (EvD.go (ev_and2 (ev_call G1 (hr.mono (by decide)) (eva2 (ev_var 0 rfl h1) ev_int) ⟨_, _, rfl, rfl, rfl⟩) fun _ => ev_and2 (ev_call G2 (hr.mono (by decide)) (eva1 (ev_ixT (ev_var 0 rfl h1) ev_int atI0)) ⟨_, rfl, hn, rfl⟩) fun _ => ev_one (ev_call G3 hr (eva1 (ev_ixT (ev_var 0 rfl h1) ev_int atI1)) ⟨_, rfl, hi, rfl⟩)) q))
theorem ok_is_lot (T : Tops K mg) : Good P w K mg base 3 "is_lot" ["thing"] (spF R_is_lot) := by
  have G1 := ok_is_count (P := P) (w := w) (base := base) T
  have G2 := ok_ascends (P := P) (w := w) (base := base) T
  refine good_F T.d_is_lot sc_is_lot (fun ds d h => by obtain ⟨i, rfl, _⟩ := h; rfl) fun f cdv A outer s H vs ds d Q E hr hv hR q => ?_
  obtain ⟨l, rfl, hl, rfl⟩ := hR
  obtain ⟨v, rfl, h1⟩ := dl1 hv
  have h1' : Dl H v (.tuple (l.map .int)) := h1
  have hfew := hl.few
  refine dss_one (ds_ret (EvD.go (EvD.is (ev_and2 (ev_isi T.b_isinstance (ev_var 0 rfl h1') (evv_ty T.b_tuple (by decide +kernel)) kt_tuple_tuple) fun _ => ev_and2 (ev_ne hr.units (ev_var 0 rfl h1') (ev_tup eva_nil) (shaped_ints l) shaped_nilT) fun _ => ev_and2
    (ev_all (bs := List.replicate (l.map PyData.int).length true) rfl T.b_all (EvD.is (ev_lc0 1 (fun _ => .bool true) rfl sc_is_lot.nd (blkOk_by (N := n_is_lot) (sc := defScope s_is_lot) (by decide +kernel)) (ei_tup (ev_var 0 rfl h1')) (fun _ => rfl) (by rw [List.length_map]; omega) (fun _ _ => rfl) fun d v H' hd sm r s0 H0 C cl fp => ?_) (by rw [List.map_const', List.map_replicate])))
    fun _ => ev_one (ev_call G2 (hr.mono (by decide)) (eva1 (ev_var 0 rfl h1')) ⟨_, .inr rfl, asc_ints (by omega) hl.asc, rfl⟩)) ?_) q))
  · obtain ⟨i, hi, rfl⟩ := List.mem_map.mp hd
    exact ev_call G1 hr (eva1 (ev_var 1 rfl r)) ⟨i, rfl, hl.nn i hi, rfl⟩
  · rw [rep_true, eqv_nilT]
    have : (l.map PyData.int).isEmpty = false := by
      cases l with
      | nil => exact absurd rfl hl.ne
      | cons x l => rfl
    rw [this]
    rfl
theorem ok_is_rule (T : Tops K mg) : Good P w K mg base 4 "is_rule" ["thing"] (spF R_is_rule) := by
  have G1 := ok_is_tuple_of (P := P) (w := w) (base := base) T
  have G2 := ok_is_name (P := P) (w := w) (base := base) T
  have G3 := ok_is_lot (P := P) (w := w) (base := base) T
  refine good_F T.d_is_rule sc_is_rule (fun ds d h => by obtain ⟨i, rfl, _⟩ := h; rfl) fun f cdv A outer s H vs ds d Q E hr hv hR q => ?_
  obtain ⟨r, rfl, hn, hi, rfl⟩ := hR
  obtain ⟨v, rfl, h1⟩ := dl1 hv
  exact dss_one (ds_ret (EvD.go (ev_and2 (ev_call G1 (hr.mono (by decide)) (eva2 (ev_var 0 rfl h1) ev_int) ⟨_, _, rfl, rfl, rfl⟩) fun _ => ev_and2 (ev_call G2 (hr.mono (by decide)) (eva1 (ev_ixT (ev_var 0 rfl h1) ev_int atI0)) ⟨_, rfl, hn, rfl⟩) fun _ => ev_one (ev_call G3 hr (eva1 (ev_ixT (ev_var 0 rfl h1) ev_int atI1)) ⟨_, rfl, hi, rfl⟩)) q))
theorem ok_is_rules (T : Tops K mg) : Good P w K mg base 5 "is_rules" ["thing"] (spF R_is_rules) := by
  have G1 := ok_is_rule (P := P) (w := w) (base := base) T
  have G2 := ok_ascends (P := P) (w := w) (base := base) T
  refine good_F T.d_is_rules sc_is_rules (fun ds d h => by obtain ⟨i, rfl, _⟩ := h; rfl) fun f cdv A outer s H vs ds d Q E hr hv hR q => ?_
  obtain ⟨rs, rfl, hl, rfl⟩ := hR
  obtain ⟨v, rfl, h1⟩ := dl1 hv
  have h1' : Dl H v (.tuple (rs.map encU)) := h1
  have hfew := rules_few hl
  have ha : rs.all (fun _ => true) = true := List.all_eq_true.mpr fun _ _ => rfl
  refine dss_cons (ds_ifT (k := false) (EvT.is (et_w (ew_or (et_not (et_val (ev_isi T.b_isinstance (ev_var 0 rfl h1') (evv_ty T.b_tuple (by decide +kernel)) kt_tuple_tuple))) fun _ => ew_or1 (et_not (et_val
    (ev_allA 1 encU rs (fun _ => true) rfl T.b_all sc_is_rules.nd (blkOk_by (N := n_is_rules) (sc := defScope s_is_rules) (by decide +kernel)) (ei_tup (ev_var 0 rfl h1')) (fun _ => rfl) (by omega) fun u v H' hu sm r s0 H0 C cl fp =>
      ev_call G1 hr (eva1 (ev_var 1 rfl r)) ⟨u, rfl, hl.name u hu, hl.lot u hu, rfl⟩))))) (by rw [ha]; rfl)) (fun z => nomatch z) fun _ H1 s1 => dss_nil (dss_one (ds_retD ?_ fun v' H2 s2 r => q v' H2 (s1.trans s2) r)))
  exact ev_call G2 (hr.mono (by decide)) (eva1 (ev_lcPA0 2 3 (fun u : Str × Lot => .str u.1) (fun u => encL u.2) rs (fun u => .str u.1) rfl sc_is_rules.nd (blkOk_by (N := n_is_rules) (sc := defScope s_is_rules) (by decide +kernel)) (ei_tup (ev_var 0 rfl (h1'.mono s1))) (fun _ _ => rfl) (by omega) (fun _ _ => rfl)
    fun u x y H' hu sm r1 r2 s0 H0 C cl fp => ev_var 2 rfl r1)) ⟨_, .inl rfl, by
      have := asc_strs (l := rs.map (·.1)) (by rw [List.length_map]; omega) hl.asc
      rw [List.map_map] at this
      exact this, rfl⟩
theorem ok_lot_in (T : Tops K mg) : Good P w K mg base 5 "lot_in" ["rules", "name"] (spF R_lot_in) := by
  have G := ok_tupled (P := P) (w := w) (base := base) T 3
  refine good_F T.d_lot_in sc_lot_in (fun ds d h => by obtain ⟨i, n, rfl, _⟩ := h; rfl) fun f cdv A outer s H vs ds d Q E hr hv hR q => ?_
  obtain ⟨rs, n, rfl, wf, rfl⟩ := hR
  obtain ⟨v, w', rfl, h1, h2⟩ := dl2 hv
  refine dss_cons (ds_for .never rfl (pg_pair 2 3 rfl sc_lot_in.nd) (EvI.go (ei_tup (EvD.is (ev_call G hr (eva1 (ev_var 0 rfl h1)) ⟨_, rfl, okD_encRs wf, rfl⟩) (tupD_id (tlv_encRs rs)))) fun J H1 s1 Y => ?_))
  refine walkedA encU rs Same (fun r σ' H' => Same H1 H' ∧ (∃ o1 o2, σ' = [some v, some w', o1, o2]) ∧ lotIn rs n = lotIn r n) Y ⟨Same.refl _, ⟨none, none, rfl⟩, rfl⟩ (fun r σ' H' h => h.1) ?_ ?_
  · rintro u r x σ' H' H'' hu ⟨sm, ⟨o1, o2, rfl⟩, e⟩ s2 rx
    refine gpair rx fun a b ra rb => dss_one (ds_ifT (et_eqS (ev_var 2 rfl ra) (ev_var 1 rfl (h2.mono ((s1.trans sm).trans s2)))) (fun hk H3 s3 => dss_one (ds_retD (ev_var 3 rfl (rb.mono s3)) fun z H4 s4 rz => q z H4 ((((s1.trans sm).trans s2).trans s3).trans s4) ?_)) fun hk H3 s3 => dss_nil ⟨(sm.trans s2).trans s3, ⟨some a, some b, rfl⟩, ?_⟩)
    · rw [e]
      show Dl H4 z (encOL (if u.1 = n then some u.2 else lotIn r n))
      rw [if_pos (of_decide_eq_true hk)]
      exact rz
    · rw [e]
      show (if u.1 = n then some u.2 else lotIn r n) = _
      rw [if_neg (of_decide_eq_false hk)]
  · rintro σ' H' ⟨sm, ⟨o1, o2, rfl⟩, e⟩
    refine dss_one (ds_retD ev_non fun z H2 s2 rz => q z H2 ((s1.trans sm).trans s2) ?_)
    rw [e]
    exact rz
end
end Lk
namespace Lk
open PySem PySem.Spec PyProof.Rows L2
theorem Dl.kb {S : List Addr} {H H' : Hp} {v : V} {d : PyData} (h : Dl H v d) (k : Kb S H H') (t : tlv d = true) : Dl H' v d := Dl.tk k.2.tk t h
section
variable {X : Cx} {a b c e tg : Expr} {es : List Expr} {σ : L2.St} {H : Hp} {pos p : Pos} {x y : Str} {i j : Int} {k k' : Bool} {ds ds' : List PyData}
theorem ev_neg (ha : EvD X a σ H (.int i)) : EvD X (.UnaryOp .USub a pos) σ H (.int (-i)) := fun H1 s Q q =>
  DoE.of (pe_un un_neg DoE.pe) (ha H1 s _ fun u H2 s2 ru => by
    cases ru
    exact ⟨i, rfl, q _ H2 s2 (.int _)⟩)
theorem ev_catT (ha : EvD X a σ H (.tuple ds)) (hb : EvD X b σ H (.tuple ds')) (hl : ds.length + ds'.length ≤ 1000) : EvD X (.BinOp a .Add b pos) σ H (.tuple (ds ++ ds')) := ev_op op_catA ha hb fun u v H1 _ ru rv Q q => by
  cases ru with
  | tup hA hd =>
    cases rv with
    | tup hB he =>
      refine ⟨_, _, _, _, rfl, rfl, .inl hA, .inl hB, ?_, fun e0 => ?_, fun _ e0 => ?_, fun _ _ p hp => q _ _ (same_new hp) (.tup (.inl upd_same) ((hd.append he).mono (same_new hp)))⟩
      · rw [hd.length, he.length]
        exact Nat.le_trans hl (by decide)
      · subst e0
        cases hd
        exact q _ H1 (Same.refl H1) (.tup hB he)
      · subst e0
        cases he
        rw [List.append_nil] at q
        exact q _ H1 (Same.refl H1) (.tup hA hd)
end
theorem atI_last {α : Type} {ds : List α} {d : α} (h : ds.getLast? = some d) : atI ds (-1) = some d := by
  have hne : ds ≠ [] := fun z => by subst z; cases h
  have hl : 0 < ds.length := List.length_pos_iff.mpr hne
  unfold atI
  have : ixN ds.length (-1) = some (ds.length - 1) := by
    unfold ixN
    first
      | (rw [if_neg (by omega), if_pos (by omega)]; congr 1; omega)
      | (simp; omega)
  rw [this]
  rw [List.getLast?_eq_getElem?] at h
  exact h
theorem okD_le {n m : Nat} {d : PyData} (h : okD n d) (l : n ≤ m) : okD m d := by
  induction l with
  | refl => exact h
  | step _ ih => exact okD_up ih

/-! ### what the shelf defs promise -/
def R_is_shelf_part : List PyData → PyData → Prop := fun ds d => ∃ p, ds = [encP p] ∧ WfP p ∧ d = .bool true
def R_is_shelf : List PyData → PyData → Prop := fun ds d => ∃ s, ds = [encS s] ∧ WfS s ∧ d = .bool true
def R_part_at : List PyData → PyData → Prop := fun ds d => ∃ s r, ds = [encS s, encR r] ∧ (∀ p ∈ s, NameOk p.rel.1) ∧ NameOk r.1 ∧ d = encOP (partAt s r)
def R_rules_common : List PyData → PyData → Prop := fun ds d => ∃ a b, ds = [encRs a, encRs b] ∧ WfRs a ∧ WfRs b ∧ d = encORs (rulesCommon a b)
def R_part_common : List PyData → PyData → Prop := fun ds d => ∃ a b, ds = [encP a, encP b] ∧ WfP a ∧ WfP b ∧ d = encOP (partCommon a b)
def R_meet_of : List PyData → PyData → Prop := fun ds d => ∃ x y one two, ds = [x, y] ∧ okD 5 x ∧ okD 5 y ∧ tupD x = encS one ∧ tupD y = encS two ∧ WfS one ∧ WfS two ∧ d = encS (meetOf one two)
def R_rules_within : List PyData → PyData → Prop := fun ds d => ∃ a b, ds = [encRs a, encRs b] ∧ WfRs a ∧ WfRs b ∧ d = .bool (rulesWithin a b)
def R_part_within : List PyData → PyData → Prop := fun ds d => ∃ a b, ds = [encP a, encOP b] ∧ WfP a ∧ (∀ q, b = some q → WfP q) ∧ d = .bool (partWithin a b)
def R_is_within : List PyData → PyData → Prop := fun ds d => ∃ x y one two, ds = [x, y] ∧ okD 5 x ∧ okD 5 y ∧ tupD x = encS one ∧ tupD y = encS two ∧ WfS one ∧ WfS two ∧ d = .bool (isWithin one two)
theorem encP_eq (p : Part) : encP p = .tuple [encR p.rel, encRs p.rules, .int p.first, encO p.last] := rfl
theorem encR_eq (r : Rel) : encR r = .tuple [.str r.1, .int r.2] := rfl
section
variable {P : Program} {w : World} {K : PySem.W.Frag} {mg : Str → Option Value} {base : Heap}
theorem ok_is_shelf_part (T : Tops K mg) : Good P w K mg base 6 "is_shelf_part" ["thing"] (spF R_is_shelf_part) := by
  have G1 := ok_is_tuple_of (P := P) (w := w) (base := base) T
  have G2 := ok_is_release (P := P) (w := w) (base := base) T
  have G3 := ok_is_rules (P := P) (w := w) (base := base) T
  have G4 := ok_lot_in (P := P) (w := w) (base := base) T
  have G5 := ok_is_count (P := P) (w := w) (base := base) T
  refine good_F T.d_is_shelf_part sc_is_shelf_part (fun ds d h => by obtain ⟨i, rfl, _⟩ := h; rfl) fun f cdv A outer s H vs ds d Q E hr hv hR q => ?_
  obtain ⟨p, rfl, wp, rfl⟩ := hR
  obtain ⟨v, rfl, h1⟩ := dl1 hv
  rw [encP_eq] at h1
  refine dss_cons (ds_ifT (k := false) (EvT.is (et_w (ew_or (et_not (et_val (ev_call G1 (hr.mono (by decide)) (eva2 (ev_var 0 rfl h1) ev_int) ⟨_, _, rfl, rfl, rfl⟩))) fun _ => ew_or (et_not (et_val (ev_call G2 (hr.mono (by decide)) (eva1 (ev_ixT (ev_var 0 rfl h1) ev_int atI0)) ⟨_, rfl, wp.name, wp.ver, rfl⟩))) fun _ =>
    ew_or1 (et_not (et_val (ev_call G3 hr (eva1 (ev_ixT (ev_var 0 rfl h1) ev_int atI1)) ⟨_, rfl, wp.rules, rfl⟩))))) rfl) (fun z => nomatch z) fun _ H1 s1 => dss_nil ?_)
  have h1 := h1.mono s1
  refine dss_cons (ds_ifT (k := false) (EvT.is (et_w (ew_or (et_notN (ev_call G4 hr (eva2 (ev_ixT (ev_var 0 rfl h1) ev_int atI1) (ev_ixT (EvD.is (ev_ixT (ev_var 0 rfl h1) ev_int atI0) (encR_eq _)) ev_int atI0)) ⟨_, _, rfl, wp.rules, rfl⟩)) fun _ =>
    ew_or1 (et_not (et_val (ev_call G5 (hr.mono (by decide)) (eva1 (ev_ixT (ev_var 0 rfl h1) ev_int atI2)) ⟨_, rfl, wp.first, rfl⟩))))) (by rw [wp.own]; rfl)) (fun z => nomatch z) fun _ H2 s2 => dss_nil ?_)
  have h1 := h1.mono s2
  refine dss_one (ds_retD ?_ fun z H3 s3 r => q z H3 ((s1.trans s2).trans s3) r)
  cases hl : p.last with
  | none =>
    rw [hl] at h1
    exact EvD.is (ev_or2 (k' := true) (ev_isN (ev_ixT (ev_var 0 rfl h1) ev_int atI3)) fun z => nomatch z) rfl
  | some l =>
    rw [hl] at h1
    have h2 := wp.last l hl
    have h3 := wp.first
    refine EvD.is (ev_or2 (ev_isN (ev_ixT (ev_var 0 rfl h1) ev_int atI3)) fun _ => ev_one (ev_and2 (ev_call G5 (hr.mono (by decide)) (eva1 (ev_ixT (ev_var 0 rfl h1) ev_int atI3)) ⟨l, rfl, by omega, rfl⟩) fun _ => ev_one (ev_ge (ev_ixT (ev_var 0 rfl h1) ev_int atI3) (ev_ixT (ev_var 0 rfl h1) ev_int atI2)))) ?_
    rw [decide_eq_true h2]
    rfl
theorem ok_is_shelf (T : Tops K mg) : Good P w K mg base 7 "is_shelf" ["thing"] (spF R_is_shelf) := by
  have G1 := ok_is_shelf_part (P := P) (w := w) (base := base) T
  have G2 := ok_ascends (P := P) (w := w) (base := base) T
  refine good_F T.d_is_shelf sc_is_shelf (fun ds d h => by obtain ⟨i, rfl, _⟩ := h; rfl) fun f cdv A outer s H vs ds d Q E hr hv hR q => ?_
  obtain ⟨rs, rfl, hl, rfl⟩ := hR
  obtain ⟨v, rfl, h1⟩ := dl1 hv
  have h1' : Dl H v (.tuple (rs.map encP)) := h1
  have hfew := hl.few
  have ha : rs.all (fun _ => true) = true := List.all_eq_true.mpr fun _ _ => rfl
  refine dss_cons (ds_ifT (k := false) (EvT.is (et_w (ew_or (et_not (et_val (ev_isi T.b_isinstance (ev_var 0 rfl h1') (evv_ty T.b_tuple (by decide +kernel)) kt_tuple_tuple))) fun _ => ew_or1 (et_not (et_val
    (ev_allA 1 encP rs (fun _ => true) rfl T.b_all sc_is_shelf.nd (blkOk_by (N := n_is_shelf) (sc := defScope s_is_shelf) (by decide +kernel)) (ei_tup (ev_var 0 rfl h1')) (fun _ => rfl) (by omega) fun u v H' hu sm r s0 H0 C cl fp =>
      ev_call G1 hr (eva1 (ev_var 1 rfl r)) ⟨u, rfl, hl.part u hu, rfl⟩))))) (by rw [ha]; rfl)) (fun z => nomatch z) fun _ H1 s1 => dss_nil (dss_one (ds_retD ?_ fun v' H2 s2 r => q v' H2 (s1.trans s2) r)))
  exact ev_call G2 (hr.mono (by decide)) (eva1 (ev_lcA0 1 encP rs (fun p => encR p.rel) rfl sc_is_shelf.nd (blkOk_by (N := n_is_shelf) (sc := defScope s_is_shelf) (by decide +kernel)) (ei_tup (ev_var 0 rfl (h1'.mono s1))) (fun _ => rfl) (by omega) (fun _ _ => rfl)
    fun p v H' hu sm r s0 H0 C cl fp => ev_ixT (EvD.is (ev_var 1 rfl r) (encP_eq p)) ev_int atI0)) ⟨_, .inl rfl, by
      have := asc_rels (l := rs.map (·.rel)) (by rw [List.length_map]; omega) hl.asc
      rw [List.map_map] at this
      exact this, rfl⟩
theorem ok_part_at (T : Tops K mg) : Good P w K mg base 1 "part_at" ["parts", "release"] (spF R_part_at) := by
  refine good_F T.d_part_at sc_part_at (fun ds d h => by obtain ⟨i, n, rfl, _⟩ := h; rfl) fun f cdv A outer s H vs ds d Q E hr hv hR q => ?_
  obtain ⟨ps, r, rfl, wn, wr, rfl⟩ := hR
  obtain ⟨v, w', rfl, h1, h2⟩ := dl2 hv
  have h1' : Dl H v (.tuple (ps.map encP)) := h1
  refine dss_cons (ds_for .never rfl (pg_name sc_part_at.nd (i := 2) rfl (.inl rfl)) (EvI.go (ei_tup (ev_var 0 rfl h1')) fun J H1 s1 Y => ?_))
  refine walkedA encP ps Same (fun l σ' H' => Same H1 H' ∧ (∃ o1, σ' = [some v, some w', o1]) ∧ partAt ps r = partAt l r) Y ⟨Same.refl _, ⟨none, rfl⟩, rfl⟩ (fun r σ' H' h => h.1) ?_ ?_
  · rintro p l x σ' H' H'' hp ⟨sm, ⟨o1, rfl⟩, e⟩ s2 rx
    refine dss_one (ds_ifT (et_eq (Nat.lt_of_le_of_lt (Nat.le_refl _) hr.units) (ev_ixT (EvD.is (ev_var 2 rfl rx) (encP_eq p)) ev_int atI0) (ev_var 1 rfl (h2.mono ((s1.trans sm).trans s2))) (shapedR (wn p hp)) (shapedR wr)) (fun hk H3 s3 => dss_one (ds_retD (ev_var 2 rfl (rx.mono s3)) fun z H4 s4 rz => q z H4 ((((s1.trans sm).trans s2).trans s3).trans s4) ?_)) fun hk H3 s3 => dss_nil ⟨(sm.trans s2).trans s3, ⟨some x, rfl⟩, ?_⟩)
    · rw [e]
      rw [eqvR] at hk
      show Dl H4 z (encOP (if p.rel = r then some p else partAt l r))
      rw [if_pos (of_decide_eq_true hk)]
      exact rz
    · rw [e]
      rw [eqvR] at hk
      show (if p.rel = r then some p else partAt l r) = _
      rw [if_neg (of_decide_eq_false hk)]
  · rintro σ' H' ⟨sm, ⟨o1, rfl⟩, e⟩
    refine dss_one (ds_retD ev_non fun z H2 s2 rz => q z H2 ((s1.trans sm).trans s2) ?_)
    rw [e]
    exact rz
theorem ok_rules_within (T : Tops K mg) : Good P w K mg base 6 "rules_within" ["near", "far"] (spF R_rules_within) := by
  have G := ok_lot_in (P := P) (w := w) (base := base) T
  refine good_F T.d_rules_within sc_rules_within (fun ds d h => by obtain ⟨i, n, rfl, _⟩ := h; rfl) fun f cdv A outer s H vs ds d Q E hr hv hR q => ?_
  obtain ⟨a, b, rfl, wa, wb, rfl⟩ := hR
  obtain ⟨v, w', rfl, h1, h2⟩ := dl2 hv
  have h2' : Dl H w' (.tuple (b.map encU)) := h2
  refine dss_cons (ds_for .never rfl (pg_pair 2 3 rfl sc_rules_within.nd) (EvI.go (ei_tup (ev_var 1 rfl h2')) fun J H1 s1 Y => ?_))
  refine walkedA encU b Same (fun l σ' H' => Same H1 H' ∧ (∃ o1 o2 o3, σ' = [some v, some w', o1, o2, o3, none]) ∧ rulesWithin a b = rulesWithin a l) Y ⟨Same.refl _, ⟨none, none, none, rfl⟩, rfl⟩ (fun r σ' H' h => h.1) ?_ ?_
  · rintro u l x σ' H' H'' hu ⟨sm, ⟨o1, o2, o3, rfl⟩, e⟩ s2 rx
    have cons : rulesWithin a (u :: l) = ((match lotIn a u.1 with | none => false | some own => own.all fun x => decide (x ∈ u.2)) && rulesWithin a l) := rfl
    refine gpair rx fun x1 x2 ra rb => ?_
    refine dss_cons (ds_set 4 sc_rules_within.nd (EvD.go (ev_call G hr (eva2 (ev_var 0 rfl (h1.mono ((s1.trans sm).trans s2))) (ev_var 2 rfl ra)) ⟨a, u.1, rfl, wa, rfl⟩) fun o H3 s3 ro => ?_))
    cases hl : lotIn a u.1 with
    | none =>
      rw [hl] at ro cons
      refine dss_one (ds_ifT (k := true) (EvT.is (et_w (ew_or (k' := true) (et_isN (ev_var 4 rfl ro)) fun z => nomatch z)) rfl) (fun _ H4 s4 => dss_one (ds_retD ev_bl fun z H5 s5 rz => q z H5 (((((s1.trans sm).trans s2).trans s3).trans s4).trans s5) ?_)) fun z => nomatch z)
      rw [e, cons]
      exact rz
    | some own =>
      rw [hl] at ro cons
      have ro' : Dl H3 o (.tuple (own.map .int)) := ro
      have cons : rulesWithin a (u :: l) = ((own.all fun x => decide (x ∈ u.2)) && rulesWithin a l) := cons
      have hfew : own.length ≤ 10 := (wa.lot _ (lotIn_some hl)).few
      refine dss_one (ds_ifT (et_w (ew_or (et_isN (ev_var 4 rfl ro')) fun _ => ew_or1 (et_not (et_val
        (ev_allA 5 PyData.int own (fun x => decide (x ∈ u.2)) rfl T.b_all sc_rules_within.nd (blkOk_by (N := n_rules_within) (sc := defScope s_rules_within) (by decide +kernel)) (ei_tup (ev_var 4 rfl ro')) (fun _ => rfl) (by omega) fun n v H' hn sm' r s0 H0 C cl fp =>
          ev_inI (ev_var 5 rfl r) (ev_var 3 rfl (rb.mono (s3.trans sm')))))))) (fun hk H4 s4 => dss_one (ds_retD ev_bl fun z H5 s5 rz => q z H5 (((((s1.trans sm).trans s2).trans s3).trans s4).trans s5) ?_)) fun hk H4 s4 => dss_nil ⟨((sm.trans s2).trans s3).trans s4, ⟨_, _, _, rfl⟩, ?_⟩)
      · have hk' : (own.all fun x => decide (x ∈ u.2)) = false := by simpa [isNoneD] using hk
        rw [e, cons, hk']
        exact rz
      · have hk' : (own.all fun x => decide (x ∈ u.2)) = true := by simpa [isNoneD] using hk
        rw [e, cons, hk']
        rfl
  · rintro σ' H' ⟨sm, ⟨o1, o2, o3, rfl⟩, e⟩
    refine dss_one (ds_retD ev_bl fun z H2 s2 rz => q z H2 ((s1.trans sm).trans s2) ?_)
    rw [e]
    exact rz
theorem ok_part_within (T : Tops K mg) : Good P w K mg base 7 "part_within" ["near", "far"] (spF R_part_within) := by
  have G := ok_rules_within (P := P) (w := w) (base := base) T
  refine good_F T.d_part_within sc_part_within (fun ds d h => by obtain ⟨i, n, rfl, _⟩ := h; rfl) fun f cdv A outer s H vs ds d Q E hr hv hR q => ?_
  obtain ⟨a, b, rfl, wa, wb, rfl⟩ := hR
  obtain ⟨v, w', rfl, h1, h2⟩ := dl2 hv
  rw [encP_eq] at h1
  cases b with
  | none =>
    refine dss_cons (ds_ifT (k := true) (EvT.is (et_w (ew_or (k' := true) (et_isN (ev_var 1 rfl h2)) fun z => nomatch z)) rfl) (fun _ H1 s1 => dss_one (ds_retD ev_bl fun z H2 s2 rz => q z H2 (s1.trans s2) rz)) fun z => nomatch z)
  | some b =>
    have wb := wb b rfl
    have h2 : Dl H w' (.tuple [encR b.rel, encRs b.rules, .int b.first, encO b.last]) := h2
    have val : partWithin a (some b) = (decide (b.first ≤ a.first) && rulesWithin a.rules b.rules && lastWithin a.last b.last) := rfl
    refine dss_cons (ds_ifT (et_w (ew_or (et_isN (ev_var 1 rfl h2)) fun _ => ew_or (et_gt (ev_ixT (ev_var 1 rfl h2) ev_int atI2) (ev_ixT (ev_var 0 rfl h1) ev_int atI2)) fun _ => ew_or1 (et_not (et_val (ev_call G hr (eva2 (ev_ixT (ev_var 0 rfl h1) ev_int atI1) (ev_ixT (ev_var 1 rfl h2) ev_int atI1)) ⟨_, _, rfl, wa.rules, wb.rules, rfl⟩)))))
      (fun hk H1 s1 => dss_one (ds_retD ev_bl fun z H2 s2 rz => q z H2 (s1.trans s2) ?_)) fun hk H1 s1 => dss_nil ?_)
    · have hk' : (decide (b.first ≤ a.first) && rulesWithin a.rules b.rules) = false := by
        by_cases h : a.first < b.first
        · rw [decide_eq_false (show ¬ b.first ≤ a.first by omega)]
          rfl
        · have : rulesWithin a.rules b.rules = false := by simpa [isNoneD, h] using hk
          rw [this, Bool.and_false]
      rw [val, hk']
      exact rz
    · have hk' : (decide (b.first ≤ a.first) && rulesWithin a.rules b.rules) = true := by
        by_cases h : a.first < b.first
        · simp [isNoneD, h] at hk
        · have : rulesWithin a.rules b.rules = true := by simpa [isNoneD, h] using hk
          rw [this, decide_eq_true (show b.first ≤ a.first by omega)]
          rfl
      rw [hk', Bool.true_and] at val
      rw [val] at q
      have h1 := h1.mono s1
      have h2 := h2.mono s1
      refine dss_one (ds_retD ?_ fun z H2 s2 rz => q z H2 (s1.trans s2) rz)
      cases hl : b.last with
      | none =>
        rw [hl] at h2
        exact EvD.is (ev_or2 (k' := true) (ev_isN (ev_ixT (ev_var 1 rfl h2) ev_int atI3)) fun z => nomatch z) rfl
      | some l =>
        rw [hl] at h2
        cases hm : a.last with
        | none =>
          rw [hm] at h1
          exact EvD.is (ev_or2 (ev_isN (ev_ixT (ev_var 1 rfl h2) ev_int atI3)) fun _ => ev_one (ev_and2 (k' := true) (ev_notN (ev_ixT (ev_var 0 rfl h1) ev_int atI3)) fun z => nomatch z)) rfl
        | some m =>
          rw [hm] at h1
          exact EvD.is (ev_or2 (ev_isN (ev_ixT (ev_var 1 rfl h2) ev_int atI3)) fun _ => ev_one (ev_and2 (ev_notN (ev_ixT (ev_var 0 rfl h1) ev_int atI3)) fun _ => ev_one (ev_le (ev_ixT (ev_var 0 rfl h1) ev_int atI3) (ev_ixT (ev_var 1 rfl h2) ev_int atI3)))) rfl
theorem ok_is_within (T : Tops K mg) : Good P w K mg base 8 "is_within" ["shelf", "other"] (spF R_is_within) := by
  have G1 := ok_tupled (P := P) (w := w) (base := base) T 5
  have G2 := ok_part_at (P := P) (w := w) (base := base) T
  have G3 := ok_part_within (P := P) (w := w) (base := base) T
  refine good_F T.d_is_within sc_is_within (fun ds d h => by obtain ⟨i, n, _, _, rfl, _⟩ := h; rfl) fun f cdv A outer s H vs ds d Q E hr hv hR q => ?_
  obtain ⟨x, y, one, two, rfl, ox, oy, ex, ey, w1, w2, rfl⟩ := hR
  obtain ⟨v, w', rfl, h1, h2⟩ := dl2 hv
  have hfew := w1.few
  refine dss_cons (ds_set 2 sc_is_within.nd (EvD.go (ev_call G1 (hr.mono (by decide)) (eva1 (ev_var 1 rfl h2)) ⟨_, rfl, oy, ey.symm⟩) fun o H1 s1 ro => ?_))
  refine dss_one (ds_retD (EvD.is (ev_allA 3 encP one (fun p => partWithin p (partAt two p.rel)) rfl T.b_all sc_is_within.nd (blkOk_by (N := n_is_within) (sc := defScope s_is_within) (by decide +kernel)) (ei_tup (ev_call G1 (hr.mono (by decide)) (eva1 (ev_var 0 rfl (h1.mono s1))) ⟨_, rfl, ox, ex.symm⟩)) (fun _ => rfl) (by omega) fun p z H' hp sm r s0 H0 C cl fp => ?_) rfl) fun z H2 s2 rz => q z H2 (s1.trans s2) rz)
  exact ev_call G3 hr (eva2 (ev_var 3 rfl r) (ev_call G2 (hr.mono (by decide)) (eva2 (ev_var 2 rfl (ro.mono sm)) (ev_ixT (EvD.is (ev_var 3 rfl r) (encP_eq p)) ev_int atI0)) ⟨two, p.rel, rfl, fun t ht => (w2.part t ht).name, (w1.part p hp).name, rfl⟩)) ⟨p, _, rfl, w1.part p hp, fun t ht => w2.part t (partAt_some ht).1, rfl⟩
end
end Lk
namespace Lk
open PySem PySem.Spec PyProof.Rows L2
theorem tlvAll_strs (l : List Str) : tlvAll (l.map PyData.str) = true := tlvAll_of fun x hx => by
  obtain ⟨y, _, rfl⟩ := List.mem_map.mp hx
  rfl
theorem tlvAll_map {α : Type} {f : α → PyData} {l : List α} (h : ∀ x ∈ l, tlv (f x) = true) : tlvAll (l.map f) = true := tlvAll_of fun d hd => by
  obtain ⟨x, hx, rfl⟩ := List.mem_map.mp hd
  exact h x hx
theorem Kb.to_same {H H1 H' : Hp} {A : Addr} (h : Kb [A] H1 H') (s : Same H H1) (n : H A = none) : Same H H' := fun b o e => h.1 b o (fun z => by
  have : b = A := by simpa using z
  rw [this, n] at e
  cases e) (s b o e)
/-- a list changed at the end, the items without lists -/
theorem DlAll.push {H : Hp} {A : Addr} {acc : List V} {v : V} {ds : List PyData} {d : PyData} {o : HO} {xs : List V} (hA : H A = some (.lst xs)) (h : DlAll H acc ds) (t : tlvAll ds = true) (r : Dl H v d) (td : tlv d = true) : DlAll (upd H A o) (acc ++ [v]) (ds ++ [d]) :=
  (h.tk (Tk.upd hA) t).append (.one (r.tk (Tk.upd hA) td))
section
variable {α : Type} {X : Cx} {elt tg iter : Expr} {es : List Expr} {ifs : List Expr} {scope : Scope} {g : TG} {σ : L2.St} {H : Hp} {pos spos p py p1 p2 p3 : Pos} {x y : Str} {D : Ends} {ds : List PyData}
theorem EvW.is {X : Cx} {e : Expr} {σ : L2.St} {H : Hp} {k k' : Bool} (h : EvW X e σ H k) (q : k = k') : EvW X e σ H k' := q ▸ h
theorem ev_tupN {x1} (h : EvA X es σ H ds) (hl : ds.length ≤ 1000 := by first | decide | simp) : EvD X (.Tuple es x1 pos) σ H (.tuple ds) := ev_tup h (Nat.le_trans hl (by decide))
theorem ev_lstN (h : EvA X es σ H ds) (hl : ds.length ≤ 1000 := by first | decide | simp) : EvD X (.List es pos) σ H (.list ds) := ev_lst h (Nat.le_trans hl (by decide))
/-- y = [elt for x in iter if ..] on one line, x in slot j, y in slot i -/
theorem ds_setLcA (i j : Nat) (enc : α → PyData) (l : List α) (fb : α → Bool) (fe : α → PyData) (hc : X.calm = true) (hN : X.N.Nodup) (ok : BlkOk X.N X.env.scope scope [(x, j)]) (hi : EvI X (.Name x p) iter σ H (l.map enc)) (hw : ∀ v, wipe ((wipe σ [j]).set j (some v)) [j] = wipe σ [j]) (hz : l.length ≤ 1000000) (tl : ∀ d ∈ l, fb d = true → tlv (fe d) = true)
    (ht : ∀ d v H', d ∈ l → Same H H' → Dl H' v (enc d) → ∀ (s : Shared) (H0 : Hp) (C : Addr) (cl : List (Str × Addr)) (fp : List Addr), EvTs (X.blk s H0 scope (compEnvC scope cl C X.env) fp) ifs ((wipe σ [j]).set j (some v)) H' (fb d))
    (he : ∀ d v H', d ∈ l → Same H H' → Dl H' v (enc d) → fb d = true → ∀ (s : Shared) (H0 : Hp) (C : Addr) (cl : List (Str × Addr)) (fp : List Addr), EvD (X.blk s H0 scope (compEnvC scope cl C X.env) fp) elt ((wipe σ [j]).set j (some v)) H' (fe d))
    (q : ∀ v H1, Same H H1 → Dl H1 v (.list ((l.filter fb).map fe)) → D.nx (σ.set i (some v)) H1)
    (hx2 : ∀ (s : Shared) (H : Hp) (C : Addr) (cl : List (Str × Addr)) (fp : List Addr), (X.blk s H scope (compEnvC scope cl C X.env) fp).env.scope.names.lookup x = some .local := by intro _ _ _ _ _; rfl) (hj : X.N[j]? = some x := by rfl) (hs : ∀ x, foldedSetIterable iter X.env x = pure x := by intro _; rfl)
    (hy : X.N[i]? = some y := by rfl) (hyl : X.env.scope.names.lookup y = some .local := by rfl)
    (hsw : swapsWith (.ListComp elt [⟨.Name x p, iter, ifs, 0⟩] scope pos) (some (.Name y py)) spos.line X.env = pure true := by rfl) :
    DoS X (.Assign [.Name y py] (.ListComp elt [⟨.Name x p, iter, ifs, 0⟩] scope pos) spos) D σ H :=
  ds_setLc i (own := [(x, j)]) (g := gName j) hc hN hy hyl hsw ok (fun s H C cl fp => pg_name hN hj (.inl (hx2 s H C cl fp)) (.inr (hx2 s H C cl fp))) (lc_ty (vs := [j]) enc l fb fe hi hz tl (fun d v H' hd s r => ⟨_, fun Q' h => h, hw v, ht d v H' hd s r, fun hb => he d v H' hd s r hb⟩) H (Same.refl H) _ q) hs
end
section
variable {P : Program} {w : World} {K : PySem.W.Frag} {mg : Str → Option Value} {base : Heap}
theorem ok_rules_common (T : Tops K mg) : Good P w K mg base 6 "rules_common" ["near", "far"] (spF R_rules_common) := by
  have G := ok_lot_in (P := P) (w := w) (base := base) T
  have G2 := ok_set_of (P := P) (w := w) (base := base) T
  refine good_F T.d_rules_common sc_rules_common (fun ds d h => by obtain ⟨i, n, rfl, _⟩ := h; rfl) fun f cdv A outer s H vs ds d Q E hr hv hR q => ?_
  obtain ⟨a, b, rfl, wa, wb, rfl⟩ := hR
  obtain ⟨v, w', rfl, h1, h2⟩ := dl2 hv
  have fa := rules_few wa
  have fb := rules_few wb
  refine dss_cons (ds_set 2 sc_rules_common.nd (do_nilL fun F hF => ?_))
  have s0 : Same H (upd H F (.lst [])) := same_new hF
  have h1' : Dl (upd H F (.lst [])) v (.tuple (a.map encU)) := h1.mono s0
  have h2' : Dl (upd H F (.lst [])) w' (.tuple (b.map encU)) := h2.mono s0
  have names : ((a.map encU ++ b.map encU) : List PyData) = (a ++ b).map encU := by rw [List.map_append]
  refine dss_cons (ds_for .never rfl (pg_name sc_rules_common.nd (i := 3) rfl (.inl rfl)) (EvIK.go (S := [F]) (ek_tup (ev_call G2 (hr.mono (by decide)) (eva1 (ev_lcA0 4 encU (a ++ b) (fun u => .str u.1) rfl sc_rules_common.nd (blkOk_by (N := n_rules_common) (sc := defScope s_rules_common) (by decide +kernel))
    (ei_tup (EvD.is (ev_catT (ev_var 0 rfl h1') (ev_var 1 rfl h2') (by rw [List.length_map, List.length_map]; omega)) (by rw [names]))) (fun _ => rfl) (by rw [List.length_append]; omega) (fun _ _ => rfl) fun u z H' hu sm r s0 H0 C cl fp => ev_ixT (EvD.is (ev_var 4 rfl r) rfl) ev_int atI0))
    ⟨(a ++ b).map (·.1), by rw [List.map_map]; rfl, by rw [List.length_map, List.length_append]; omega, rfl⟩) (tlvAll_strs _)) fun J H1 s1 Y => ?_))
  have en : sortSet ((a ++ b).map (·.1)) = namesOf a b := by unfold namesOf; rw [List.map_append]
  rw [en] at Y
  have k1 : H1 F = some (.lst []) := s1 _ _ upd_same
  have lenN : (namesOf a b).length ≤ 14 := by
    have := sortSet_len (a.map (·.1) ++ b.map (·.1))
    rw [List.length_append, List.length_map, List.length_map] at this
    unfold namesOf
    omega
  refine walkedA PyData.str (namesOf a b) (Kb [F]) (fun l σ' H' => Kb [F] H1 H' ∧ (∃ o1 o2 o3, σ' = [some v, some w', some (.ref F), o1, none, o2, none, o3, none]) ∧ ∃ acc m, H' F = some (.lst acc) ∧ DlAll H' acc (m.map encU) ∧ m.length + l.length ≤ 14 ∧ rulesCommon a b = (rcGo a b l).map (m ++ ·) ∧ ∀ n ∈ l, n ∈ namesOf a b) Y ⟨Kb.refl, ⟨none, none, none, rfl⟩, [], [], k1, .nil, by simpa using lenN, by unfold rulesCommon; simp, fun n h => h⟩ (fun r σ' H' h => h.1) ?_ ?_
  · rintro n l x σ' H' H'' hn ⟨kb, ⟨o1, o2, o3, rfl⟩, acc, m, hF', hda, hlen, e, hin⟩ s2 rx
    have t1 : Dl H'' v (encRs a) := (((h1.mono s0).mono s1).kb kb (tlv_encRs a)).mono s2
    have t2 : Dl H'' w' (encRs b) := (((h2.mono s0).mono s1).kb kb (tlv_encRs b)).mono s2
    refine dss_cons (ds_set 5 sc_rules_common.nd (EvD.go (ev_lcA 6 encOL [lotIn a n, lotIn b n] Option.isSome encOL rfl sc_rules_common.nd (blkOk_by (N := n_rules_common) (sc := defScope s_rules_common) (by decide +kernel))
      (ei_tup (ev_tupN (eva2 (ev_call G hr (eva2 (ev_var 0 rfl t1) (ev_var 3 rfl rx)) ⟨a, n, rfl, wa, rfl⟩) (ev_call G hr (eva2 (ev_var 1 rfl t2) (ev_var 3 rfl rx)) ⟨b, n, rfl, wb, rfl⟩)))) (fun _ => rfl) (by show 2 ≤ 1000000; omega) (fun o _ _ => by cases o <;> first | rfl | exact tlv_encL _)
      (fun o z H3 ho sm r s0 H0 C cl fp => ets_one (EvT.is (et_notN (ev_var 6 rfl r)) (by cases o <;> rfl))) fun o z H3 ho sm r _ s0 H0 C cl fp => ev_var 6 rfl r) fun lo H3 s3 rl => ?_))
    have el : ([lotIn a n, lotIn b n].filter Option.isSome).map encOL = (lotsOf a b n).map encL := by
      unfold lotsOf
      cases lotIn a n <;> cases lotIn b n <;> rfl
    rw [el] at rl
    have hn' := mem_namesOf.mp (hin n List.mem_cons_self)
    obtain ⟨lf, ll, e1, e2, few⟩ : ∃ lf ll, (lotsOf a b n).head? = some lf ∧ (lotsOf a b n).getLast? = some ll ∧ lf.length ≤ 10 := by
      rcases hn' with h | h
      · obtain ⟨l1, hl1⟩ := lotIn_isSome h
        have f1 := (wa.lot _ (lotIn_some hl1)).few
        unfold lotsOf
        rw [hl1]
        cases lotIn b n with
        | none => exact ⟨l1, l1, rfl, rfl, f1⟩
        | some l2 => exact ⟨l1, l2, rfl, rfl, f1⟩
      · obtain ⟨l2, hl2⟩ := lotIn_isSome h
        have f2 := (wb.lot _ (lotIn_some hl2)).few
        unfold lotsOf
        rw [hl2]
        cases hl1 : lotIn a n with
        | none => exact ⟨l2, l2, rfl, rfl, f2⟩
        | some l1 => exact ⟨l1, l2, rfl, rfl, (wa.lot _ (lotIn_some hl1)).few⟩
    have eb : both a b n = lf.filter fun x => decide (x ∈ ll) := by
      unfold both
      rw [e1, e2]
    have a0 : atI ((lotsOf a b n).map encL) 0 = some (encL lf) := by
      refine atI_nat (j := 0) ?_
      rw [List.getElem?_map, ← List.head?_eq_getElem?, e1]
      rfl
    have al : atI ((lotsOf a b n).map encL) (-1) = some (encL ll) := atI_last (by rw [List.getLast?_map, e2]; rfl)
    refine dss_cons (ds_set 7 sc_rules_common.nd (EvD.go (ev_tupleL T.b_tuple (ev_lcA 8 PyData.int lf (fun x => decide (x ∈ ll)) PyData.int rfl sc_rules_common.nd (blkOk_by (N := n_rules_common) (sc := defScope s_rules_common) (by decide +kernel)) (ei_tup (EvD.is (ev_ixL (ev_var 5 rfl rl) ev_int a0) rfl)) (fun _ => rfl) (by omega) (fun _ _ _ => rfl)
      (fun i z H4 hi sm r s0 H0 C cl fp => ets_one (et_inI (ev_var 8 rfl r) (ev_ixL (ev_var 5 rfl (rl.mono sm)) (ev_neg ev_int) al))) fun i z H4 hi sm r _ s0 H0 C cl fp => ev_var 8 rfl r)) fun bo H4 s4 rb => ?_))
    rw [← eb] at rb
    have em : (both a b n).map PyData.int = [] ↔ both a b n = [] := by simp
    have go : rcGo a b (n :: l) = if both a b n = [] then none else (rcGo a b l).map ((n, both a b n) :: ·) := rfl
    refine dss_cons (ds_ifT (et_eq hr.units (ev_var 7 rfl rb) (ev_tup eva_nil) (shaped_ints _) shaped_nilT) (fun hk H5 s5 => dss_one (ds_retD ev_non fun z H6 s6 rz => q z H6 ?_ ?_)) fun hk H5 s5 => dss_nil ?_)
    · refine Kb.to_same (A := F) (H1 := H1) (kb.trans ((((s2.trans s3).trans s4).trans s5).trans s6 |> Same.kb)) (s0.trans s1) hF
    · rw [eqv_nilT, List.isEmpty_iff, em] at hk
      rw [e, go, if_pos hk]
      exact rz
    · rw [eqv_nilT] at hk
      have hne : both a b n ≠ [] := fun z => by rw [z] at hk; cases hk
      have s25 := (((s2.trans s3).trans s4).trans s5)
      have hF5 := s25 _ _ hF'
      have lacc : acc.length ≤ 1000 := by
        rw [hda.length, List.length_map]
        rw [List.length_cons] at hlen
        omega
      refine dss_one (ds_append 2 rfl hF5 lacc (ev_tupN (eva2 (ev_var 3 rfl ((rx.mono ((s3.trans s4).trans s5)))) (ev_var 7 rfl (rb.mono s5)))) fun z H6 s6 rz hF6 => ⟨?_, ⟨_, _, _, rfl⟩, acc ++ [z], m ++ [(n, both a b n)], upd_same, ?_, ?_, ?_, fun k hk => hin k (List.mem_cons_of_mem _ hk)⟩)
      · exact (kb.trans (s25.trans s6 |> Same.kb)).trans (Kb.upd hF6 List.mem_cons_self)
      · rw [List.map_append]
        exact DlAll.push hF6 ((hda.mono s25).mono s6) (tlvAll_map fun u _ => tlv_encU u) rz (tlv_encU (n, both a b n))
      · rw [List.length_append, List.length_cons, List.length_nil]
        rw [List.length_cons] at hlen
        omega
      · rw [e, go, if_neg hne, Option.map_map]
        congr 1
        funext r
        simp
  · rintro σ' H' ⟨kb, ⟨o1, o2, o3, rfl⟩, acc, m, hF', hda, hlen, e, hin⟩
    refine dss_one (ds_retD (ev_tupleL T.b_tuple (ev_var 2 rfl (.lst hF' hda))) fun z H2 s2 rz => q z H2 ((Kb.to_same (A := F) (kb.trans (Same.kb s2)) (s0.trans s1) hF)) ?_)
    rw [e]
    show Dl H2 z (encORs (some (m ++ [])))
    rw [List.append_nil]
    exact rz
theorem lastOf_min {a b : Option Int} {i : Int} (h : lastOf a b = some i) : i ∈ a.toList ++ b.toList ∧ ∀ y ∈ a.toList ++ b.toList, i ≤ y := by
  cases a <;> cases b <;> simp [lastOf] at h ⊢ <;> (try (split at h)) <;> (try subst h) <;> (try simp) <;> (try omega)
theorem lastOf_nil {a b : Option Int} : (a.toList ++ b.toList = []) ↔ lastOf a b = none := by
  cases a <;> cases b <;> simp [lastOf]
theorem ok_part_common (T : Tops K mg) : Good P w K mg base 7 "part_common" ["near", "far"] (spF R_part_common) := by
  have G := ok_rules_common (P := P) (w := w) (base := base) T
  refine good_F T.d_part_common sc_part_common (fun ds d h => by obtain ⟨i, n, rfl, _⟩ := h; rfl) fun f cdv A outer s H vs ds d Q E hr hv hR q => ?_
  obtain ⟨a, b, rfl, wa, wb, rfl⟩ := hR
  obtain ⟨v, w', rfl, h1, h2⟩ := dl2 hv
  have h1' := h1
  have h2' := h2
  rw [encP_eq] at h1' h2'
  refine dss_cons (ds_par2 2 3 rfl sc_part_common.nd (ev_call G hr (eva2 (ev_ixT (ev_var 0 rfl h1') ev_int atI1) (ev_ixT (ev_var 1 rfl h2') ev_int atI1)) ⟨_, _, rfl, wa.rules, wb.rules, rfl⟩) (ev_max2 rfl T.b_max (ev_ixT (ev_var 0 rfl h1') ev_int atI2) (ev_ixT (ev_var 1 rfl h2') ev_int atI2)) fun ru fi H1 s1 rr rf => ?_)
  have rf : Dl H1 fi (.int (firstOf a.first b.first)) := rf
  refine dss_cons (ds_setLcA 4 5 encP [a, b] (fun p => p.last.isSome) (fun p => encO p.last) rfl sc_part_common.nd (blkOk_by (N := n_part_common) (sc := defScope s_part_common) (by decide +kernel)) (ei_tup (ev_tupN (eva2 (ev_var 0 rfl (h1.mono s1)) (ev_var 1 rfl (h2.mono s1))))) (fun _ => rfl) (by show 2 ≤ 1000000; omega) (fun p _ _ => tlv_encO _)
    (fun p z H3 ho sm r s0 H0 C cl fp => ets_one (EvT.is (et_notN (ev_ixT (EvD.is (ev_var 5 rfl r) (encP_eq p)) ev_int atI3)) (by cases p.last <;> rfl))) (fun p z H3 ho sm r _ s0 H0 C cl fp => ev_ixT (EvD.is (ev_var 5 rfl r) (encP_eq p)) ev_int atI3) fun lo H2 s2 rl => ?_)
  have el : ([a, b].filter fun p => p.last.isSome).map (fun p => encO p.last) = (a.last.toList ++ b.last.toList).map PyData.int := by
    rw [List.filter_cons, List.filter_cons, List.filter_nil]
    cases ha : a.last <;> cases hb : b.last <;> simp [ha, hb, encO]
  rw [el] at rl
  refine dss_cons (ds_set 6 sc_part_common.nd (EvD.go (d := encO (lastOf a.last b.last)) (ev_if (et_ne hr.units (ev_var 4 rfl rl) ev_nilL (shaped_intsL _) shaped_nilL) (fun hk => ?_) fun hk => ?_) fun la H3 s3 rla => ?_))
  · cases hl : lastOf a.last b.last with
    | none =>
      rw [eqv_nilL, lastOf_nil.mpr hl] at hk
      cases hk
    | some i => exact ev_minL rfl T.b_min (ev_var 4 rfl rl) (lastOf_min hl).1 (lastOf_min hl).2
  · have : a.last.toList ++ b.last.toList = [] := by
      rw [eqv_nilL] at hk
      simpa using hk
    rw [lastOf_nil.mp this]
    exact ev_non
  have s13 := (s1.trans s2).trans s3
  have val : partCommon a b = match rulesCommon a.rules b.rules with
    | none => none
    | some rs => if badLast (lastOf a.last b.last) (firstOf a.first b.first) then none else some ⟨a.rel, rs, firstOf a.first b.first, lastOf a.last b.last⟩ := rfl
  refine dss_cons (ds_ifT (k := (rulesCommon a.rules b.rules).isNone || badLast (lastOf a.last b.last) (firstOf a.first b.first)) (et_w (ew_or (EvT.is (et_isN (ev_var 2 rfl (rr.mono (s2.trans s3)))) (isNone_ORs _)) fun _ => ew_or1 (et_w (?_)))) (fun hk H4 s4 => dss_one (ds_retD ev_non fun z H5 s5 rz => q z H5 ((s13.trans s4).trans s5) ?_)) fun hk H4 s4 => dss_nil ?_)
  · cases hl : lastOf a.last b.last with
    | none =>
      rw [hl] at rla
      exact EvW.is (ew_and (k' := true) (et_notN (ev_var 6 rfl rla)) fun z => nomatch z) rfl
    | some i =>
      rw [hl] at rla
      exact ew_and (et_notN (ev_var 6 rfl rla)) fun _ => ew_and1 (et_lt (ev_var 6 rfl rla) (ev_var 3 rfl (rf.mono (s2.trans s3))))
  · have : partCommon a b = none := by
      rw [val]
      cases hrc : rulesCommon a.rules b.rules with
      | none => rfl
      | some rs =>
        rw [hrc] at hk
        have hk : badLast (lastOf a.last b.last) (firstOf a.first b.first) = true := hk
        show (if badLast (lastOf a.last b.last) (firstOf a.first b.first) = true then none else _) = none
        rw [if_pos hk]
    rw [this]
    exact rz
  · cases hrc : rulesCommon a.rules b.rules with
    | none => rw [hrc] at hk; cases hk
    | some rs =>
      rw [hrc] at hk val rr
      have hk' : badLast (lastOf a.last b.last) (firstOf a.first b.first) = false := hk
      have val : partCommon a b = some ⟨a.rel, rs, firstOf a.first b.first, lastOf a.last b.last⟩ := by
        rw [val]
        show (if badLast (lastOf a.last b.last) (firstOf a.first b.first) = true then none else _) = _
        rw [if_neg (by rw [hk']; decide)]
      rw [val] at q
      refine dss_one (ds_retD (ev_tupN (eva_cons (ev_ixT (ev_var 0 rfl (h1'.mono (s13.trans s4))) ev_int atI0) (eva_cons (ev_var 2 rfl (rr.mono ((s2.trans s3).trans s4))) (eva2 (ev_var 3 rfl (rf.mono ((s2.trans s3).trans s4))) (ev_var 6 rfl (rla.mono s4)))))) fun z H5 s5 rz => q z H5 ((s13.trans s4).trans s5) rz)
theorem ok_meet_of (T : Tops K mg) : Good P w K mg base 8 "meet_of" ["shelf", "other"] (spF R_meet_of) := by
  have G1 := ok_tupled (P := P) (w := w) (base := base) T 5
  have G2 := ok_part_at (P := P) (w := w) (base := base) T
  have G3 := ok_part_common (P := P) (w := w) (base := base) T
  refine good_F T.d_meet_of sc_meet_of (fun ds d h => by obtain ⟨i, n, _, _, rfl, _⟩ := h; rfl) fun f cdv A outer s H vs ds d Q E hr hv hR q => ?_
  obtain ⟨x, y, one, two, rfl, ox, oy, ex, ey, w1, w2, rfl⟩ := hR
  obtain ⟨v, w', rfl, h1, h2⟩ := dl2 hv
  have hfew := w1.few
  refine dss_cons (ds_par 2 3 rfl sc_meet_of.nd (da_cons (EvD.go (ev_call G1 (hr.mono (by decide)) (eva1 (ev_var 1 rfl h2)) ⟨_, rfl, oy, ey.symm⟩) fun o H1 s1 ro => da_cons (do_nilL fun F hF => da_nil ⟨o, .ref F, rfl, ?_⟩))))
  have s2 : Same H1 (upd H1 F (.lst [])) := same_new hF
  have hF0 : H F = none := by
    cases e : H F with
    | none => rfl
    | some u => rw [s1 _ _ e] at hF; cases hF
  refine dss_cons (ds_for .never rfl (pg_name sc_meet_of.nd (i := 4) rfl (.inl rfl)) (EvIK.go (S := [F]) (ek_tup (ev_call G1 (hr.mono (by decide)) (eva1 (ev_var 0 rfl ((h1.mono s1).mono s2))) ⟨_, rfl, ox, ex.symm⟩) (tlvAll_map fun p _ => tlv_encP p)) fun J H2 s3 Y => ?_))
  have k1 : H2 F = some (.lst []) := s3 _ _ upd_same
  have ro2 : Dl H2 o (encS two) := (ro.mono s2).mono s3
  refine walkedA encP one (Kb [F]) (fun l σ' H' => Kb [F] H2 H' ∧ (∃ o1 o2 o3, σ' = [some v, some w', some o, some (.ref F), o1, o2, o3]) ∧ ∃ acc m, H' F = some (.lst acc) ∧ DlAll H' acc (m.map encP) ∧ m.length + l.length ≤ 10 ∧ meetOf one two = m ++ meetOf l two ∧ ∀ n ∈ l, n ∈ one) Y ⟨Kb.refl, ⟨none, none, none, rfl⟩, [], [], k1, .nil, by simpa using hfew, rfl, fun n h => h⟩ (fun r σ' H' h => h.1) ?_ ?_
  · rintro p l x' σ' H' H'' hp ⟨kb, ⟨o1, o2, o3, rfl⟩, acc, m, hF', hda, hlen, e, hin⟩ s4 rx
    have t1 : Dl H'' o (encS two) := (ro2.kb kb (tlv_encS two)).mono s4
    refine dss_cons (ds_set 5 sc_meet_of.nd (EvD.go (ev_call G2 (hr.mono (by decide)) (eva2 (ev_var 2 rfl t1) (ev_ixT (EvD.is (ev_var 4 rfl rx) (encP_eq p)) ev_int atI0)) ⟨two, p.rel, rfl, fun t ht => (w2.part t ht).name, (w1.part p hp).name, rfl⟩) fun fa H3 s5 rfa => ?_))
    refine dss_cons (ds_set 6 sc_meet_of.nd (EvD.go (d := encOP ((partAt two p.rel).bind (partCommon p))) (ev_if (EvT.is (et_notN (ev_var 5 rfl rfa)) (congrArg not (isNone_OP _))) (fun hk => ?_) fun hk => ?_) fun bo H4 s6 rbo => ?_))
    · cases hpa : partAt two p.rel with
      | none => rw [hpa] at hk; cases hk
      | some t =>
        rw [hpa] at rfa
        exact ev_call G3 hr (eva2 (ev_var 4 rfl (rx.mono s5)) (ev_var 5 rfl rfa)) ⟨p, t, rfl, w1.part p hp, w2.part t (partAt_some hpa).1, rfl⟩
    · cases hpa : partAt two p.rel with
      | none => exact ev_non
      | some t => rw [hpa] at hk; cases hk
    have cons : meetOf (p :: l) two = ((partAt two p.rel).bind (partCommon p)).toList ++ meetOf l two := by
      unfold meetOf
      rw [List.filterMap_cons]
      cases (partAt two p.rel).bind (partCommon p) <;> rfl
    refine dss_one (ds_ifT (EvT.is (et_notN (ev_var 6 rfl rbo)) (congrArg not (isNone_OP _))) (fun hk H5 s7 => ?_) fun hk H5 s7 => dss_nil ⟨kb.trans ((((s4.trans s5).trans s6).trans s7) |> Same.kb), ⟨_, _, _, rfl⟩, acc, m, (((s4.trans s5).trans s6).trans s7) _ _ hF', hda.mono (((s4.trans s5).trans s6).trans s7), ?_, ?_, fun k hk => hin k (List.mem_cons_of_mem _ hk)⟩)
    · cases hpc : (partAt two p.rel).bind (partCommon p) with
      | none => rw [hpc] at hk; cases hk
      | some c =>
        rw [hpc] at rbo cons
        have s47 := (((s4.trans s5).trans s6).trans s7)
        refine dss_one (ds_append 3 rfl (s47 _ _ hF') (by rw [hda.length, List.length_map]; rw [List.length_cons] at hlen; omega) (ev_var 6 rfl (rbo.mono s7)) fun z H6 s8 rz hF6 => ⟨?_, ⟨_, _, _, rfl⟩, acc ++ [z], m ++ [c], upd_same, ?_, ?_, ?_, fun k hk => hin k (List.mem_cons_of_mem _ hk)⟩)
        · exact (kb.trans (s47.trans s8 |> Same.kb)).trans (Kb.upd hF6 List.mem_cons_self)
        · rw [List.map_append]
          exact DlAll.push hF6 ((hda.mono s47).mono s8) (tlvAll_map fun u _ => tlv_encP u) rz (tlv_encP c)
        · rw [List.length_append, List.length_cons, List.length_nil]
          rw [List.length_cons] at hlen
          omega
        · rw [e, cons]
          simp
    · rw [List.length_cons] at hlen
      omega
    · rw [e, cons]
      cases hpc : (partAt two p.rel).bind (partCommon p) with
      | none => rfl
      | some c => rw [hpc] at hk; cases hk
  · rintro σ' H' ⟨kb, ⟨o1, o2, o3, rfl⟩, acc, m, hF', hda, hlen, e, hin⟩
    refine dss_one (ds_retD (ev_tupleL T.b_tuple (ev_var 3 rfl (.lst hF' hda))) fun z H3 s4 rz => q z H3 ((Kb.to_same (A := F) (kb.trans (Same.kb s4)) ((s1.trans s2).trans s3) hF0)) ?_)
    rw [e]
    show Dl H3 z (encS (m ++ []))
    rw [List.append_nil]
    exact rz
end
end Lk
namespace Lk
open PySem PySem.Spec PyProof.Rows L2
/-! ### data made anew: read where the heap B tracks nothing -/
def Rst (B H : Hp) : Hp := fun a => match B a with
  | none => H a
  | some _ => none
theorem rst_some {B H : Hp} {a : Addr} {o : HO} : Rst B H a = some o ↔ B a = none ∧ H a = some o := by
  unfold Rst
  cases B a <;> simp
theorem rst_same {B H : Hp} : Same (Rst B H) H := fun b o e => (rst_some.mp e).2
theorem rst_sub {B C H H' : Hp} (h : ∀ b o, B b = none → H b = some o → C b = none ∧ H' b = some o) : Same (Rst B H) (Rst C H') := fun b o e => rst_some.mpr (h b o (rst_some.mp e).1 (rst_some.mp e).2)
theorem none_back {H H' : Hp} (s : Same H H') {b : Addr} (h : H' b = none) : H b = none := by
  cases e : H b with
  | none => rfl
  | some o => rw [s _ _ e] at h; cases h
mutual
def listD : PyData → PyData
  | .list xs => .list (listDAll xs)
  | .tuple xs => .list (listDAll xs)
  | d => d
def listDAll : List PyData → List PyData
  | [] => []
  | x :: xs => listD x :: listDAll xs
end
theorem listDAll_map : ∀ xs : List PyData, listDAll xs = xs.map listD
  | [] => rfl
  | x :: xs => by rw [listDAll, listDAll_map xs]; rfl
mutual
theorem tupD_listD : ∀ d : PyData, tupD (listD d) = tupD d
  | .none => rfl
  | .bool _ => rfl
  | .int _ => rfl
  | .str _ => rfl
  | .dict _ => rfl
  | .list xs => by rw [listD, tupD, tupD, tupDAll_listD xs]
  | .tuple xs => by rw [listD, tupD, tupD, tupDAll_listD xs]
theorem tupDAll_listD : ∀ xs : List PyData, tupDAll (listDAll xs) = tupDAll xs
  | [] => rfl
  | x :: xs => by rw [listDAll, tupDAll, tupDAll, tupD_listD x, tupDAll_listD xs]
end
theorem okD_listD : ∀ {n : Nat} {d : PyData}, okD n d → okD n (listD d)
  | n, .none, h => h
  | n, .bool _, h => h
  | n, .int _, h => h
  | n, .str _, h => h
  | n, .dict _, h => h
  | 0, .list _, h => by simp [okD] at h
  | 0, .tuple _, h => by simp [okD] at h
  | n + 1, .list xs, h => by
    rw [listD, listDAll_map]
    refine ⟨by rw [List.length_map]; exact h.1, fun x hx => ?_⟩
    obtain ⟨y, hy, rfl⟩ := List.mem_map.mp hx
    exact okD_listD (h.2 y hy)
  | n + 1, .tuple xs, h => by
    rw [listD, listDAll_map]
    refine ⟨by rw [List.length_map]; exact h.1, fun x hx => ?_⟩
    obtain ⟨y, hy, rfl⟩ := List.mem_map.mp hx
    exact okD_listD (h.2 y hy)
theorem lc_fr {X : Cx} {elt tg iter : Expr} {scope : Scope} {vs : List Nat} {g : TG} {σ : L2.St} {H : Hp} {ds : List PyData} (fe : PyData → PyData)
    (hi : EvI X tg iter σ H ds) (hz : ds.length ≤ 1000000)
    (turn : ∀ d v H', d ∈ ds → Same H H' → Dl H' v d → ∃ τ : L2.St, (∀ Q' : L2.St → Hp → Prop, Q' τ H' → g v (wipe σ vs) H' Q') ∧ wipe τ vs = wipe σ vs ∧
      ∀ (s : Shared) (H0 : Hp) (C : Addr) (cl : List (Str × Addr)) (fp : List Addr) (H1 : Hp), Same H' H1 → ∀ Q : VK, (∀ z H2, Same H1 H2 → Dl (Rst H1 H2) z (fe d) → Q z H2) → DoE (X.blk s H0 scope (compEnvC scope cl C X.env) fp) elt τ H1 Q) : ∀ Q : VK, (∀ v H', Same H H' → Dl (Rst H H') v (.list (ds.map fe)) → Q v H') →
    tLc (DoI X tg iter) g (fun σ' H' Q' => ∀ (s : Shared) (H0 : Hp) (C : Addr) (cl : List (Str × Addr)) (fp : List Addr), DoTs (X.blk s H0 scope (compEnvC scope cl C X.env) fp) [] σ' H' Q')
      (fun σ' H' Q' => ∀ (s : Shared) (H0 : Hp) (C : Addr) (cl : List (Str × Addr)) (fp : List Addr), DoE (X.blk s H0 scope (compEnvC scope cl C X.env) fp) elt σ' H' Q') vs σ H Q := by
  intro Q q
  refine hi H (Same.refl H) _ fun J H1 s1 Y Dd hD => ?_
  let H2 := upd H1 Dd (.lst [])
  have h2 : H2 Dd = some (.lst []) := upd_same
  have k12 : ∀ b o, H1 b = some o → H2 b = some o := fun b o e => by
    show upd H1 Dd (.lst []) b = some o
    rw [upd_ne (ne_of_none e hD)]
    exact e
  refine ⟨fun i m H' => m = ds.length - i ∧ i ≤ ds.length ∧ Same H1 H' ∧ ∃ acc, H' Dd = some (.lst acc) ∧ acc.length ≤ i ∧ DlAll (Rst H2 H') acc ((ds.take i).map fe),
    ⟨ds.length, rfl, Nat.zero_le _, same_new hD, [], upd_same, Nat.le_refl _, .nil⟩, ?_⟩
  rintro i m H' ⟨rfl, hi', sH, acc, hA, hl, hda⟩
  by_cases hlt : i < ds.length
  · have e1 : ds[i]? = some ds[i] := List.getElem?_eq_getElem hlt
    have hmem : ds[i] ∈ ds := List.getElem_mem hlt
    obtain ⟨g1, g2⟩ := Y.1 i _ H' e1 sH
    refine .inr ⟨g1, fun H'' => i + 1 ≤ ds.length ∧ Same H1 H'' ∧ ∃ acc, H'' Dd = some (.lst acc) ∧ acc.length ≤ i + 1 ∧ DlAll (Rst H2 H'') acc ((ds.take (i + 1)).map fe), fun H'' n => ⟨ds.length - (i + 1), by omega, rfl, n.1, n.2⟩, fun x H'' y => ?_⟩
    obtain ⟨s2, r⟩ := g2 x H'' y
    obtain ⟨τ, t1, t2, t4⟩ := turn _ x H'' hmem (s1.trans (sH.trans s2)) r
    refine t1 _ ⟨t2, fun s H0' C cl fp => ?_⟩
    refine ets_nil H'' (Same.refl _) _ fun H3 s3 => ?_
    rw [if_pos rfl]
    intro s H0'' C cl fp
    refine t4 s H0'' C cl fp H3 s3 _ fun z H4 s4 rz => ?_
    have s34 := s2.trans (s3.trans s4)
    have hA3 := (s2.trans s3) _ _ hA
    have hA4 := s34 _ _ hA
    have dom3 : ∀ b, H3 b = none → H2 b = none := fun b e => by
      by_cases hb : b = Dd
      · rw [hb, hA3] at e; cases e
      · show upd H1 Dd (.lst []) b = none
        rw [upd_ne hb]
        cases h : H1 b with
        | none => rfl
        | some o => rw [(sH.trans (s2.trans s3)) _ _ h] at e; cases e
    have etake : ds.take (i + 1) = ds.take i ++ [ds[i]] := by rw [List.take_add_one, e1]; rfl
    have nD : ∀ b, H2 b = none → b ≠ Dd := fun b e z => by rw [z, h2] at e; cases e
    refine ⟨acc, hA4, Nat.lt_of_le_of_lt (show acc.length ≤ 1000000 by omega) (by decide), hlt, fun b o e => ?_, acc ++ [z], upd_same, by rw [List.length_append, List.length_singleton]; omega, ?_⟩
    · rw [upd_ne (ne_of_none e hD)]
      exact (sH.trans s34) b o e
    · rw [etake, List.map_append]
      refine DlAll.append (hda.mono (rst_sub fun b o n e => ⟨n, ?_⟩)) (.one (rz.mono (rst_sub fun b o n e => ⟨dom3 b n, ?_⟩)))
      · rw [upd_ne (nD b n)]
        exact s34 _ _ e
      · rw [upd_ne (nD b (dom3 b n))]
        exact e
  · have e1 : i = ds.length := by omega
    subst e1
    have nH : ∀ b, H2 b = none → H b = none := fun b e => by
      cases h : H b with
      | none => rfl
      | some o => rw [k12 _ _ (s1 _ _ h)] at e; cases e
    have nD : H Dd = none := by
      cases h : H Dd with
      | none => rfl
      | some o => rw [s1 _ _ h] at hD; cases hD
    refine .inl ⟨Y.2 H' sH, q _ H' (s1.trans sH) (.lst (rst_some.mpr ⟨nD, hA⟩) ?_)⟩
    rw [List.take_of_length_le (Nat.le_refl _)] at hda
    exact hda.mono (rst_sub fun b o n e => ⟨nH b n, e⟩)
def sp_lists (n : Nat) : Sp := fun vs H Q _ => ∃ x, DlAll H vs [x] ∧ okD n x ∧ ∀ v H', Same H H' → Dl (Rst H H') v (listD x) → Q v H'
def R_same (n : Nat) : List PyData → PyData → Prop := fun ds d => ∃ x, ds = [x, x] ∧ okD n x ∧ d = .bool true
def R_state : List PyData → PyData → Prop := fun ds d => ∃ k n, ds = [encK k, .str n] ∧ k.length ≤ 1000 ∧ d = .int (stateOf k n)
def R_on_day : List PyData → PyData → Prop := fun ds d => ∃ p day, ds = [encP p, .int day] ∧ d = .bool (onDay p day)
def sp_shops : Sp := fun vs H Q _ => vs = [] ∧ ∀ A H', Same H H' → H A = none → H' A = some (.lst [.str "still", .str "growing", .str "short"]) → Q (.ref A) H'
section
variable {P : Program} {w : World} {K : PySem.W.Frag} {mg : Str → Option Value} {base : Heap}
theorem step_lists (T : Tops K mg) {n : Nat} (G : ∀ m, n = m + 1 → Good P w K mg base (m + 1) "_law_lists" ["_law_matter"] (sp_lists m)) : Good P w K mg base (n + 1) "_law_lists" ["_law_matter"] (sp_lists n) := by
  refine good_of T.d_law_lists sc_law_lists (fun vs H Q E h => by obtain ⟨x, h, _⟩ := h; rw [h.length]; rfl) fun f cdv A outer s H vs Q E hr h => ?_
  obtain ⟨x, hv, hx, q⟩ := h
  obtain ⟨v, rfl, h1⟩ := dl1 hv
  refine dss_one (ds_ret ?_)
  have done : ∀ {x : PyData}, Dl H v x → listD x = x → (∀ v', Dl (Rst H H) v' x ↔ Dl H v' x) → True := fun _ _ _ => trivial
  cases x with
  | none =>
    cases h1
    exact EvD.go (ev_if (et_val (ev_isi2 T.b_isinstance (ev_var 0 rfl .non) (evv_ty T.b_list (by decide +kernel)) (evv_ty T.b_tuple (by decide +kernel)) kt_NoneType_list kt_NoneType_tuple)) (fun z => nomatch z) fun _ => ev_var 0 rfl .non) fun v H1 s1 r => by cases r; exact q _ H1 s1 .non
  | bool b =>
    cases h1
    exact EvD.go (ev_if (et_val (ev_isi2 T.b_isinstance (ev_var 0 rfl (.bl b)) (evv_ty T.b_list (by decide +kernel)) (evv_ty T.b_tuple (by decide +kernel)) kt_bool_list kt_bool_tuple)) (fun z => nomatch z) fun _ => ev_var 0 rfl (.bl b)) fun v H1 s1 r => by cases r; exact q _ H1 s1 (.bl b)
  | int b =>
    cases h1
    exact EvD.go (ev_if (et_val (ev_isi2 T.b_isinstance (ev_var 0 rfl (.int b)) (evv_ty T.b_list (by decide +kernel)) (evv_ty T.b_tuple (by decide +kernel)) kt_int_list kt_int_tuple)) (fun z => nomatch z) fun _ => ev_var 0 rfl (.int b)) fun v H1 s1 r => by cases r; exact q _ H1 s1 (.int b)
  | str b =>
    cases h1
    exact EvD.go (ev_if (et_val (ev_isi2 T.b_isinstance (ev_var 0 rfl (.str b)) (evv_ty T.b_list (by decide +kernel)) (evv_ty T.b_tuple (by decide +kernel)) kt_str_list kt_str_tuple)) (fun z => nomatch z) fun _ => ev_var 0 rfl (.str b)) fun v H1 s1 r => by cases r; exact q _ H1 s1 (.str b)
  | dict b => cases n <;> simp [okD] at hx
  | list xs =>
    cases n with
    | zero => simp [okD] at hx
    | succ m =>
      rw [listD, listDAll_map] at q
      refine DoE.of (pe_ifExp DoT.pt DoE.pe DoE.pe) (EvT.go (et_val (ev_isi2 T.b_isinstance (ev_var 0 rfl h1) (evv_ty T.b_list (by decide +kernel)) (evv_ty T.b_tuple (by decide +kernel)) kt_list_list kt_list_tuple)) fun H1 s1 => iteT ?_)
      refine do_lc (own := [("_law_bit", 1)]) (g := gName 1) rfl sc_law_lists.nd (blkOk_by (N := n_law_lists) (sc := defScope s_law_lists) (by decide +kernel)) (fun s H C cl fp => pg_name sc_law_lists.nd rfl (.inl rfl) (.inr rfl)) (lc_fr (vs := [1]) listD (ei_lst (ev_var 0 rfl (h1.mono s1))) (Nat.le_trans hx.1 (by decide)) (fun d z H' hd sm r => ⟨(wipe (L2.start n_law_lists [v]) [1]).set 1 (some z), fun Q' h => h, rfl, fun s0 H0 C cl fp H2 s2 Q2 q2 => ?_⟩) _ fun v H' s2 r => q v H' (s1.trans s2) (r.mono (rst_sub fun b o n e => ⟨?_, e⟩)))
      · exact do_call (G m rfl) hr rfl ((eva1 (ev_var 1 rfl (r.mono s2))).go fun vs H3 s3 r3 => ⟨d, r3, hx.2 d hd, fun z H4 s4 rz => q2 z H4 (s3.trans s4) (rz.mono (rst_sub fun b o n e => ⟨none_back s3 n, e⟩))⟩)
      · exact none_back s1 n
  | tuple xs =>
    cases n with
    | zero => simp [okD] at hx
    | succ m =>
      rw [listD, listDAll_map] at q
      refine DoE.of (pe_ifExp DoT.pt DoE.pe DoE.pe) (EvT.go (et_val (ev_isi2 T.b_isinstance (ev_var 0 rfl h1) (evv_ty T.b_list (by decide +kernel)) (evv_ty T.b_tuple (by decide +kernel)) kt_tuple_list kt_tuple_tuple)) fun H1 s1 => iteT ?_)
      refine do_lc (own := [("_law_bit", 1)]) (g := gName 1) rfl sc_law_lists.nd (blkOk_by (N := n_law_lists) (sc := defScope s_law_lists) (by decide +kernel)) (fun s H C cl fp => pg_name sc_law_lists.nd rfl (.inl rfl) (.inr rfl)) (lc_fr (vs := [1]) listD (ei_tup (ev_var 0 rfl (h1.mono s1))) (Nat.le_trans hx.1 (by decide)) (fun d z H' hd sm r => ⟨(wipe (L2.start n_law_lists [v]) [1]).set 1 (some z), fun Q' h => h, rfl, fun s0 H0 C cl fp H2 s2 Q2 q2 => ?_⟩) _ fun v H' s2 r => q v H' (s1.trans s2) (r.mono (rst_sub fun b o n e => ⟨?_, e⟩)))
      · exact do_call (G m rfl) hr rfl ((eva1 (ev_var 1 rfl (r.mono s2))).go fun vs H3 s3 r3 => ⟨d, r3, hx.2 d hd, fun z H4 s4 rz => q2 z H4 (s3.trans s4) (rz.mono (rst_sub fun b o n e => ⟨none_back s3 n, e⟩))⟩)
      · exact none_back s1 n
theorem ok_lists (T : Tops K mg) : ∀ n, Good P w K mg base (n + 1) "_law_lists" ["_law_matter"] (sp_lists n)
  | 0 => step_lists T fun m z => nomatch z
  | n + 1 => step_lists T fun m z => by
    cases z
    exact ok_lists T n
theorem zip_self (xs : List PyData) : zipD xs xs = xs.map fun x => .tuple [x, x] := by
  unfold zipD
  induction xs with
  | nil => rfl
  | cons x xs ih => rw [List.zip_cons_cons, List.map_cons, List.map_cons, ih]
theorem step_same (T : Tops K mg) {n : Nat} (G : ∀ m, n = m + 1 → Good P w K mg base (m + 1) "_law_same" ["_law_got", "_law_due"] (spF (R_same m))) : Good P w K mg base (n + 1) "_law_same" ["_law_got", "_law_due"] (spF (R_same n)) := by
  refine good_F T.d_law_same sc_law_same (fun ds d h => by obtain ⟨i, rfl, _⟩ := h; rfl) fun f cdv A outer s H vs ds d Q E hr hv hR q => ?_
  obtain ⟨x, rfl, hx, rfl⟩ := hR
  obtain ⟨v, w', rfl, h1, h2⟩ := dl2 hv
  have all : ∀ l : List PyData, (List.map (fun _ : PyData => true) l).all id = true := fun l => by
    rw [List.all_map]
    exact List.all_eq_true.mpr fun _ _ => rfl
  cases x with
  | dict b => cases n <;> simp [okD] at hx
  | list xs =>
    cases n with
    | zero => simp [okD] at hx
    | succ m =>
      refine dss_cons (ds_ifT (k := true) (et_val (ev_isi2 T.b_isinstance (ev_var 1 rfl h2) (evv_ty T.b_list (by decide +kernel)) (evv_ty T.b_tuple (by decide +kernel)) kt_list_list kt_list_tuple)) (fun _ H1 s1 => ?_) fun z => nomatch z)
      have h1 := h1.mono s1
      have h2 := h2.mono s1
      refine dss_cons (ds_ifT (k := false) (EvT.is (et_w (ew_or (et_neB (ev_isi T.b_isinstance (ev_var 0 rfl h1) (evv_ty T.b_list (by decide +kernel)) kt_list_list) (ev_isi T.b_isinstance (ev_var 1 rfl h2) (evv_ty T.b_list (by decide +kernel)) kt_list_list)) fun _ => ew_or1 (et_neB (ev_isi T.b_isinstance (ev_var 0 rfl h1) (evv_ty T.b_tuple (by decide +kernel)) kt_list_tuple) (ev_isi T.b_isinstance (ev_var 1 rfl h2) (evv_ty T.b_tuple (by decide +kernel)) kt_list_tuple)))) rfl) (fun z => nomatch z) fun _ H2 s2 => dss_nil ?_)
      have h1 := h1.mono s2
      have h2 := h2.mono s2
      refine dss_one (ds_retD (EvD.is (ev_and2 (ev_eqI (ev_lenL T.b_len (ev_var 0 rfl h1)) (ev_lenL T.b_len (ev_var 1 rfl h2))) fun _ => ev_one (ev_all (bs := xs.map fun _ => true) rfl T.b_all (EvD.is (ev_lcPA0 2 3 (fun x => x) (fun x => x) xs (fun _ => .bool true) rfl sc_law_same.nd (blkOk_by (N := n_law_same) (sc := defScope s_law_same) (by decide +kernel)) (zip_self xs ▸ ei_zipL T.b_zip (ev_var 0 rfl h1) (ev_var 1 rfl h2)) (fun _ _ => rfl) (Nat.le_trans hx.1 (by decide)) (fun _ _ => rfl)
        fun y z1 z2 H' hy sm r1 r2 s0 H0 C cl fp => ev_call (G m rfl) hr (eva2 (ev_var 2 rfl r1) (ev_var 3 rfl r2)) ⟨y, rfl, hx.2 y hy, rfl⟩) (by rw [List.map_map]; rfl)))) (by rw [all, decide_eq_true rfl]; rfl)) fun z H3 s3 rz => q z H3 ((s1.trans s2).trans s3) rz)
  | tuple xs =>
    cases n with
    | zero => simp [okD] at hx
    | succ m =>
      refine dss_cons (ds_ifT (k := true) (et_val (ev_isi2 T.b_isinstance (ev_var 1 rfl h2) (evv_ty T.b_list (by decide +kernel)) (evv_ty T.b_tuple (by decide +kernel)) kt_tuple_list kt_tuple_tuple)) (fun _ H1 s1 => ?_) fun z => nomatch z)
      have h1 := h1.mono s1
      have h2 := h2.mono s1
      refine dss_cons (ds_ifT (k := false) (EvT.is (et_w (ew_or (et_neB (ev_isi T.b_isinstance (ev_var 0 rfl h1) (evv_ty T.b_list (by decide +kernel)) kt_tuple_list) (ev_isi T.b_isinstance (ev_var 1 rfl h2) (evv_ty T.b_list (by decide +kernel)) kt_tuple_list)) fun _ => ew_or1 (et_neB (ev_isi T.b_isinstance (ev_var 0 rfl h1) (evv_ty T.b_tuple (by decide +kernel)) kt_tuple_tuple) (ev_isi T.b_isinstance (ev_var 1 rfl h2) (evv_ty T.b_tuple (by decide +kernel)) kt_tuple_tuple)))) rfl) (fun z => nomatch z) fun _ H2 s2 => dss_nil ?_)
      have h1 := h1.mono s2
      have h2 := h2.mono s2
      refine dss_one (ds_retD (EvD.is (ev_and2 (ev_eqI (ev_lenT T.b_len (ev_var 0 rfl h1)) (ev_lenT T.b_len (ev_var 1 rfl h2))) fun _ => ev_one (ev_all (bs := xs.map fun _ => true) rfl T.b_all (EvD.is (ev_lcPA0 2 3 (fun x => x) (fun x => x) xs (fun _ => .bool true) rfl sc_law_same.nd (blkOk_by (N := n_law_same) (sc := defScope s_law_same) (by decide +kernel)) (zip_self xs ▸ ei_zipT T.b_zip (ev_var 0 rfl h1) (ev_var 1 rfl h2)) (fun _ _ => rfl) (Nat.le_trans hx.1 (by decide)) (fun _ _ => rfl)
        fun y z1 z2 H' hy sm r1 r2 s0 H0 C cl fp => ev_call (G m rfl) hr (eva2 (ev_var 2 rfl r1) (ev_var 3 rfl r2)) ⟨y, rfl, hx.2 y hy, rfl⟩) (by rw [List.map_map]; rfl)))) (by rw [all, decide_eq_true rfl]; rfl)) fun z H3 s3 rz => q z H3 ((s1.trans s2).trans s3) rz)
  | none =>
    refine dss_cons (ds_ifT (k := false) (et_val (ev_isi2 T.b_isinstance (ev_var 1 rfl h2) (evv_ty T.b_list (by decide +kernel)) (evv_ty T.b_tuple (by decide +kernel)) kt_NoneType_list kt_NoneType_tuple)) (fun z => nomatch z) fun _ H1 s1 => dss_nil ?_)
    have h1 := h1.mono s1
    have h2 := h2.mono s1
    refine dss_cons (ds_ifT (k := true) (EvT.is (et_w (ew_or (k' := false) (et_isN (ev_var 1 rfl h2)) fun z => nomatch z)) rfl) (fun _ H2 s2 => ?_) fun z => nomatch z)
    have h1 := h1.mono s2
    have h2 := h2.mono s2
    have eqn : ∀ {X : Cx} {a b : Expr} {σ : L2.St} {H : Hp} {pos : Pos}, EvD X a σ H .none → EvD X b σ H .none → (behindInMarks .Eq b = false) → EvD X (.Compare a [.Eq] [b] pos) σ H (.bool true) := fun ha hb hm => ev_cmp op_eq ha hb (hm := hm) fun u v H1 _ ru rv Q q => by
      cases ru; cases rv
      exact ⟨rfl, q⟩
    refine dss_one (ds_retD (EvD.is (ev_and2 (eqn (ev_var 0 rfl h1) (ev_var 1 rfl h2) rfl) fun _ => ev_and2 (ev_eqB (ev_isi T.b_isinstance (ev_var 0 rfl h1) (evv_ty T.b_bool (by decide +kernel)) kt_NoneType_bool) (ev_isi T.b_isinstance (ev_var 1 rfl h2) (evv_ty T.b_bool (by decide +kernel)) kt_NoneType_bool)) fun _ => ev_one (ev_eqB (ev_isN (ev_var 0 rfl h1)) (ev_isN (ev_var 1 rfl h2)))) rfl) fun z H3 s3 rz => q z H3 ((s1.trans s2).trans s3) rz)
  | bool b =>
    refine dss_cons (ds_ifT (k := false) (et_val (ev_isi2 T.b_isinstance (ev_var 1 rfl h2) (evv_ty T.b_list (by decide +kernel)) (evv_ty T.b_tuple (by decide +kernel)) kt_bool_list kt_bool_tuple)) (fun z => nomatch z) fun _ H1 s1 => dss_nil ?_)
    have h1 := h1.mono s1
    have h2 := h2.mono s1
    refine dss_cons (ds_ifT (k := true) (EvT.is (et_w (ew_or (et_isN (ev_var 1 rfl h2)) fun _ => ew_or1 (et_val (ev_isi2 T.b_isinstance (ev_var 1 rfl h2) (evv_ty T.b_bool (by decide +kernel)) (evv_ty T.b_str (by decide +kernel)) kt_bool_bool kt_bool_str)))) rfl) (fun _ H2 s2 => ?_) fun z => nomatch z)
    have h1 := h1.mono s2
    have h2 := h2.mono s2
    refine dss_one (ds_retD (EvD.is (ev_and2 (ev_eqB (ev_var 0 rfl h1) (ev_var 1 rfl h2)) fun _ => ev_and2 (ev_eqB (ev_isi T.b_isinstance (ev_var 0 rfl h1) (evv_ty T.b_bool (by decide +kernel)) kt_bool_bool) (ev_isi T.b_isinstance (ev_var 1 rfl h2) (evv_ty T.b_bool (by decide +kernel)) kt_bool_bool)) fun _ => ev_one (ev_eqB (ev_isN (ev_var 0 rfl h1)) (ev_isN (ev_var 1 rfl h2)))) (by cases b <;> rfl)) fun z H3 s3 rz => q z H3 ((s1.trans s2).trans s3) rz)
  | str b =>
    refine dss_cons (ds_ifT (k := false) (et_val (ev_isi2 T.b_isinstance (ev_var 1 rfl h2) (evv_ty T.b_list (by decide +kernel)) (evv_ty T.b_tuple (by decide +kernel)) kt_str_list kt_str_tuple)) (fun z => nomatch z) fun _ H1 s1 => dss_nil ?_)
    have h1 := h1.mono s1
    have h2 := h2.mono s1
    refine dss_cons (ds_ifT (k := true) (EvT.is (et_w (ew_or (et_isN (ev_var 1 rfl h2)) fun _ => ew_or1 (et_val (ev_isi2 T.b_isinstance (ev_var 1 rfl h2) (evv_ty T.b_bool (by decide +kernel)) (evv_ty T.b_str (by decide +kernel)) kt_str_bool kt_str_str)))) rfl) (fun _ H2 s2 => ?_) fun z => nomatch z)
    have h1 := h1.mono s2
    have h2 := h2.mono s2
    refine dss_one (ds_retD (EvD.is (ev_and2 (ev_eqS (ev_var 0 rfl h1) (ev_var 1 rfl h2)) fun _ => ev_and2 (ev_eqB (ev_isi T.b_isinstance (ev_var 0 rfl h1) (evv_ty T.b_bool (by decide +kernel)) kt_str_bool) (ev_isi T.b_isinstance (ev_var 1 rfl h2) (evv_ty T.b_bool (by decide +kernel)) kt_str_bool)) fun _ => ev_one (ev_eqB (ev_isN (ev_var 0 rfl h1)) (ev_isN (ev_var 1 rfl h2)))) (by simp [isNoneD])) fun z H3 s3 rz => q z H3 ((s1.trans s2).trans s3) rz)
  | int b =>
    refine dss_cons (ds_ifT (k := false) (et_val (ev_isi2 T.b_isinstance (ev_var 1 rfl h2) (evv_ty T.b_list (by decide +kernel)) (evv_ty T.b_tuple (by decide +kernel)) kt_int_list kt_int_tuple)) (fun z => nomatch z) fun _ H1 s1 => dss_nil ?_)
    have h1 := h1.mono s1
    have h2 := h2.mono s1
    refine dss_cons (ds_ifT (k := false) (EvT.is (et_w (ew_or (et_isN (ev_var 1 rfl h2)) fun _ => ew_or1 (et_val (ev_isi2 T.b_isinstance (ev_var 1 rfl h2) (evv_ty T.b_bool (by decide +kernel)) (evv_ty T.b_str (by decide +kernel)) kt_int_bool kt_int_str)))) rfl) (fun z => nomatch z) fun _ H2 s2 => dss_nil ?_)
    have h1 := h1.mono s2
    have h2 := h2.mono s2
    refine dss_one (ds_retD (EvD.is (ev_and2 (ev_isi T.b_isinstance (ev_var 0 rfl h1) (evv_ty T.b_int (by decide +kernel)) kt_int_int) fun _ => ev_and2 (ev_not (ev_isi T.b_isinstance (ev_var 0 rfl h1) (evv_ty T.b_bool (by decide +kernel)) kt_int_bool)) fun _ => ev_one (ev_eqI (ev_var 0 rfl h1) (ev_var 1 rfl h2))) (by simp)) fun z H3 s3 rz => q z H3 ((s1.trans s2).trans s3) rz)
theorem ok_same (T : Tops K mg) : ∀ n, Good P w K mg base (n + 1) "_law_same" ["_law_got", "_law_due"] (spF (R_same n))
  | 0 => step_same T fun m z => nomatch z
  | n + 1 => step_same T fun m z => by
    cases z
    exact ok_same T n
theorem ok_state (T : Tops K mg) : Good P w K mg base 1 "_law_state" ["_law_lock_so", "_law_name_so"] (spF R_state) := by
  refine good_F T.d_law_state sc_law_state (fun ds d h => by obtain ⟨i, n, rfl, _⟩ := h; rfl) fun f cdv A outer s H vs ds d Q E hr hv hR q => ?_
  obtain ⟨k, n, rfl, hk, rfl⟩ := hR
  obtain ⟨v, w', rfl, h1, h2⟩ := dl2 hv
  have h1' : Dl H v (.tuple (k.map encR)) := h1
  refine dss_cons (ds_setLcA 2 3 encR k (fun r => decide (r.1 = n)) (fun r => .int r.2) rfl sc_law_state.nd (blkOk_by (N := n_law_state) (sc := defScope s_law_state) (by decide +kernel)) (ei_tup (ev_var 0 rfl h1')) (fun _ => rfl) (Nat.le_trans hk (by decide)) (fun _ _ _ => rfl)
    (fun r z H' hd sm rr s0 H0 C cl fp => ets_one (et_eqS (ev_ixT (EvD.is (ev_var 3 rfl rr) (encR_eq r)) ev_int atI0) (ev_var 1 rfl (h2.mono sm)))) (fun r z H' hd sm rr _ s0 H0 C cl fp => ev_ixT (EvD.is (ev_var 3 rfl rr) (encR_eq r)) ev_int atI1) fun fo H1 s1 rf => ?_)
  have em : (k.filter fun r => decide (r.1 = n)).map (fun r => PyData.int r.2) = ((k.filter fun r => decide (r.1 = n)).map (·.2)).map PyData.int := by rw [List.map_map]; rfl
  rw [em] at rf
  refine dss_one (ds_retD (ev_if (et_ne hr.units (ev_var 2 rfl rf) ev_nilL (shaped_intsL _) shaped_nilL) (fun hk => ?_) fun hk => ?_) fun z H2 s2 rz => q z H2 (s1.trans s2) rz)
  · rw [eqv_nilL] at hk
    have e : stateOf k n = match (k.filter fun r => decide (r.1 = n)).head? with
      | some r => r.2
      | none => 0 := by unfold stateOf; rw [List.head?_filter]; try rfl
    cases hf : k.filter (fun r => decide (r.1 = n)) with
    | nil => rw [hf] at hk; cases hk
    | cons r l =>
      rw [hf] at rf e
      rw [e]
      exact ev_ixL (ev_var 2 rfl rf) ev_int atI0
  · rw [eqv_nilL] at hk
    have e : stateOf k n = match (k.filter fun r => decide (r.1 = n)).head? with
      | some r => r.2
      | none => 0 := by unfold stateOf; rw [List.head?_filter]; try rfl
    cases hf : k.filter (fun r => decide (r.1 = n)) with
    | nil => rw [hf] at e; rw [e]; exact ev_int
    | cons r l => rw [hf] at hk; cases hk
theorem ok_on_day (T : Tops K mg) : Good P w K mg base 1 "_law_on_day" ["_law_part_so", "_law_day_so"] (spF R_on_day) := by
  refine good_F T.d_law_on_day sc_law_on_day (fun ds d h => by obtain ⟨i, n, rfl, _⟩ := h; rfl) fun f cdv A outer s H vs ds d Q E hr hv hR q => ?_
  obtain ⟨p, day, rfl, rfl⟩ := hR
  obtain ⟨v, w', rfl, h1, h2⟩ := dl2 hv
  rw [encP_eq] at h1
  unfold onDay at q
  refine dss_one (ds_retD (ev_and2 (ev_le (ev_ixT (ev_var 0 rfl h1) ev_int atI2) (ev_var 1 rfl h2)) fun _ => ev_one ?_) fun z H2 s2 rz => q z H2 s2 rz)
  cases hl : p.last with
  | none =>
    rw [hl] at h1
    exact EvD.is (ev_or2 (k' := true) (ev_isN (ev_ixT (ev_var 0 rfl h1) ev_int atI3)) fun z => nomatch z) rfl
  | some l =>
    rw [hl] at h1
    exact EvD.is (ev_or2 (ev_isN (ev_ixT (ev_var 0 rfl h1) ev_int atI3)) fun _ => ev_one (ev_le (ev_var 1 rfl h2) (ev_ixT (ev_var 0 rfl h1) ev_int atI3))) rfl
theorem ok_shops (T : Tops K mg) : Good P w K mg base 1 "_law_shops" [] sp_shops := by
  refine good_of T.d_law_shops sc_law_shops (fun vs H Q E h => by rw [h.1]; rfl) fun f cdv A outer s H vs Q E hr h => ?_
  obtain ⟨rfl, q⟩ := h
  refine dss_one (ds_ret (DoE.of (pe_lst DoA.pa) ((eva_cons ev_str (eva2 ev_str ev_str)).go fun vs H2 s2 r => ⟨by rw [r.length]; exact Nat.le_trans (show 3 ≤ 1000 by omega) (by decide), fun p hp => ?_⟩)))
  have e : vs = [.str "still", .str "growing", .str "short"] := DlAll.strs (ns := ["still", "growing", "short"]) r
  refine q p _ (s2.trans (same_new hp)) ?_ (by rw [e]; exact upd_same)
  cases h : H p with
  | none => rfl
  | some o => rw [s2 _ _ h] at hp; cases hp
end
end Lk
namespace Lk
open PySem PySem.Spec PyProof.Rows L2
/-! ### shelves by hand -/
def wfLB (l : Lot) : Bool := !l.isEmpty && decide (l.Pairwise (· < ·)) && l.all (fun x => decide (0 ≤ x)) && decide (l.length ≤ 10)
def wfRsB (rs : Rules) : Bool := decide ((rs.map (·.1)).Pairwise sLt) && rs.all (fun u => decide (u.1 ∈ nameList) && wfLB u.2)
def wfPB (p : Part) : Bool := decide (p.rel.1 ∈ nameList) && decide (1 ≤ p.rel.2) && wfRsB p.rules && (lotIn p.rules p.rel.1).isNone && decide (0 ≤ p.first) && p.last.all fun l => decide (p.first ≤ l)
def wfSB (s : List Part) : Bool := decide ((s.map (·.rel)).Pairwise rLt) && s.all wfPB && decide (s.length ≤ 10)
theorem wfL_of {l : Lot} (h : wfLB l = true) : WfL l := by
  simp only [wfLB, Bool.and_eq_true, decide_eq_true_eq, List.all_eq_true] at h
  exact ⟨fun z => by rw [z] at h; simp at h, h.1.1.2, h.1.2, h.2⟩
theorem wfRs_of {rs : Rules} (h : wfRsB rs = true) : WfRs rs := by
  simp only [wfRsB, Bool.and_eq_true, decide_eq_true_eq, List.all_eq_true] at h
  exact ⟨h.1, fun u hu => (h.2 u hu).1, fun u hu => wfL_of (h.2 u hu).2⟩
theorem wfP_of {p : Part} (h : wfPB p = true) : WfP p := by
  simp only [wfPB, Bool.and_eq_true, decide_eq_true_eq] at h
  exact ⟨h.1.1.1.1.1, h.1.1.1.1.2, wfRs_of h.1.1.1.2, by simpa using h.1.1.2, h.1.2, fun l e => by
    have := h.2
    rw [e] at this
    simpa using this⟩
theorem wfS_of {s : List Part} (h : wfSB s = true) : WfS s := by
  simp only [wfSB, Bool.and_eq_true, decide_eq_true_eq, List.all_eq_true] at h
  exact ⟨h.1.1, fun p hp => wfP_of (h.1.2 p hp), h.2⟩
def spring1 : List Part := [⟨("app", 1), [("lib", [1, 2])], 0, none⟩, ⟨("app", 2), [("lib", [2])], 3, none⟩]
def spring2 : List Part := [⟨("lib", 1), [], 0, none⟩, ⟨("lib", 2), [("app", [0, 2])], 3, some 9⟩]
def autumn1 : List Part := [⟨("app", 1), [("lib", [2, 3])], 0, none⟩, ⟨("app", 2), [("lib", [0, 1])], 0, none⟩]
def autumn2 : List Part := [⟨("lib", 1), [("app", [0, 1])], 2, none⟩, ⟨("lib", 2), [], 10, none⟩]
def bothS : List Part := [⟨("app", 1), [("lib", [2])], 0, none⟩, ⟨("lib", 1), [("app", [0, 1])], 2, none⟩]
def oneS : List Part := [⟨("a", 1), [("b", [1])], 2, some 5⟩]
def twoS : List Part := [⟨("a", 1), [], 0, none⟩]
theorem part_ext {a b : Part} (h1 : a.rel = b.rel) (h2 : a.rules = b.rules) (h3 : a.first = b.first) (h4 : a.last = b.last) : a = b := by
  cases a; cases b; cases h1; cases h2; cases h3; cases h4; rfl
def partEq (a b : Part) : Bool := decide (a.rel = b.rel) && decide (a.rules = b.rules) && decide (a.first = b.first) && decide (a.last = b.last)
theorem partEq_of {a b : Part} (h : partEq a b = true) : a = b := by
  simp only [partEq, Bool.and_eq_true, decide_eq_true_eq] at h
  exact part_ext h.1.1.1 h.1.1.2 h.1.2 h.2
def shelfEq : List Part → List Part → Bool
  | [], [] => true
  | a :: l, b :: m => partEq a b && shelfEq l m
  | _, _ => false
theorem shelfEq_of : ∀ {l m : List Part}, shelfEq l m = true → l = m
  | [], [], _ => rfl
  | a :: l, b :: m, h => by
    simp only [shelfEq, Bool.and_eq_true] at h
    rw [partEq_of h.1, shelfEq_of h.2]
  | [], b :: m, h => by simp [shelfEq] at h
  | a :: l, [], h => by simp [shelfEq] at h
theorem hand1 : meetOf (spring1 ++ spring2) (autumn1 ++ autumn2) = bothS := shelfEq_of (by decide +kernel)
theorem hand2 : isWithin bothS (autumn1 ++ autumn2) = true := by decide +kernel
theorem hand3 : isWithin (spring1 ++ spring2) bothS = false := by decide +kernel
theorem hand4 : isWithin bothS (spring1 ++ spring2) = true := by decide +kernel
theorem hand5 : isWithin oneS twoS = true := by decide +kernel
theorem hand6 : isWithin twoS oneS = false := by decide +kernel
theorem hand7 : meetOf twoS oneS = oneS := shelfEq_of (by decide +kernel)
theorem wf_spring : WfS (spring1 ++ spring2) := wfS_of (by decide +kernel)
theorem wf_autumn : WfS (autumn1 ++ autumn2) := wfS_of (by decide +kernel)
theorem wf_both : WfS bothS := wfS_of (by decide +kernel)
theorem wf_one : WfS oneS := wfS_of (by decide +kernel)
theorem wf_two : WfS twoS := wfS_of (by decide +kernel)
def sp_hand : Sp := fun vs H Q _ => vs = [] ∧ ∀ H', Same H H' → Q (.bl true) H'
section
variable {P : Program} {w : World} {K : PySem.W.Frag} {mg : Str → Option Value} {base : Heap}
theorem ok_hand (T : Tops K mg) : Good P w K mg base 9 "_law_by_hand_right" [] sp_hand := by
  have G1 := ok_meet_of (P := P) (w := w) (base := base) T
  have G2 := ok_is_within (P := P) (w := w) (base := base) T
  have G3 := ok_same (P := P) (w := w) (base := base) T 6
  refine good_of T.d_law_by_hand_right sc_law_by_hand_right (fun vs H Q E h => by rw [h.1]; rfl) fun f cdv A outer s H vs Q E hr h => ?_
  obtain ⟨rfl, q⟩ := h
  have nd := sc_law_by_hand_right.nd
  refine dss_cons (ds_set 0 nd (EvD.go (d := encS spring1) (by repeat (first | exact ev_int | exact ev_str | exact ev_non | exact eva_nil | refine ev_tupN ?_ | refine eva_cons ?_ ?_)) fun v0 H1 s1 r0 => ?_))
  refine dss_cons (ds_set 0 nd (EvD.go (d := encS (spring1 ++ spring2)) (EvD.is (ev_catT (ds := spring1.map encP) (ds' := spring2.map encP) (ev_var 0 rfl r0) (by repeat (first | exact ev_int | exact ev_str | exact ev_non | exact eva_nil | refine ev_tupN ?_ | refine eva_cons ?_ ?_)) (by show 4 ≤ 1000; omega)) (by rw [← List.map_append]; rfl)) fun v0 H2 s2 r0 => ?_))
  refine dss_cons (ds_set 1 nd (EvD.go (d := encS autumn1) (by repeat (first | exact ev_int | exact ev_str | exact ev_non | exact eva_nil | refine ev_tupN ?_ | refine eva_cons ?_ ?_)) fun v1 H3 s3 r1 => ?_))
  refine dss_cons (ds_set 1 nd (EvD.go (d := encS (autumn1 ++ autumn2)) (EvD.is (ev_catT (ds := autumn1.map encP) (ds' := autumn2.map encP) (ev_var 1 rfl r1) (by repeat (first | exact ev_int | exact ev_str | exact ev_non | exact eva_nil | refine ev_tupN ?_ | refine eva_cons ?_ ?_)) (by show 4 ≤ 1000; omega)) (by rw [← List.map_append]; rfl)) fun v1 H4 s4 r1 => ?_))
  refine dss_cons (ds_set 2 nd (EvD.go (d := encS bothS) (by repeat (first | exact ev_int | exact ev_str | exact ev_non | exact eva_nil | refine ev_tupN ?_ | refine eva_cons ?_ ?_)) fun v2 H5 s5 r2 => ?_))
  have r0 := r0.mono (s3.trans (s4.trans s5))
  have r1 := r1.mono s5
  have t : ∀ {s : List Part}, tupD (encS s) = encS s := fun {s} => tupD_id (tlv_encS s)
  refine dss_cons (ds_set 3 nd (EvD.go (ev_lstN (eva_cons (ev_call G1 hr (eva2 (ev_var 0 rfl r0) (ev_var 1 rfl r1)) ⟨_, _, _, _, rfl, okD_encS wf_spring, okD_encS wf_autumn, t, t, wf_spring, wf_autumn, rfl⟩) (eva_cons (ev_call G2 hr (eva2 (ev_var 2 rfl r2) (ev_var 1 rfl r1)) ⟨_, _, _, _, rfl, okD_encS wf_both, okD_encS wf_autumn, t, t, wf_both, wf_autumn, rfl⟩)
    (eva2 (ev_call G2 hr (eva2 (ev_var 0 rfl r0) (ev_var 2 rfl r2)) ⟨_, _, _, _, rfl, okD_encS wf_spring, okD_encS wf_both, t, t, wf_spring, wf_both, rfl⟩) (ev_call G2 hr (eva2 (ev_var 2 rfl r2) (ev_var 0 rfl r0)) ⟨_, _, _, _, rfl, okD_encS wf_both, okD_encS wf_spring, t, t, wf_both, wf_spring, rfl⟩))))) fun v3 H6 s6 r3 => ?_))
  refine dss_cons (ds_asg (pg_pair 4 5 rfl nd) (EvD.go (d := .tuple [encS oneS, encS twoS]) (by repeat (first | exact ev_int | exact ev_str | exact ev_non | exact eva_nil | refine ev_tupN ?_ | refine eva_cons ?_ ?_)) fun vp H7 s7 rp => gpair rp fun v4 v5 r4 r5 => ?_))
  have r3 := r3.mono s7
  refine dss_cons (ds_set 3 nd (EvD.go (ev_catL (ev_var 3 rfl r3) (ev_lstN (eva_cons (ev_call G2 hr (eva2 (ev_var 4 rfl r4) (ev_var 5 rfl r5)) ⟨_, _, _, _, rfl, okD_encS wf_one, okD_encS wf_two, t, t, wf_one, wf_two, rfl⟩) (eva2 (ev_call G2 hr (eva2 (ev_var 5 rfl r5) (ev_var 4 rfl r4)) ⟨_, _, _, _, rfl, okD_encS wf_two, okD_encS wf_one, t, t, wf_two, wf_one, rfl⟩)
    (ev_call G1 hr (eva2 (ev_var 5 rfl r5) (ev_var 4 rfl r4)) ⟨_, _, _, _, rfl, okD_encS wf_two, okD_encS wf_one, t, t, wf_two, wf_one, rfl⟩)))) (by simp)) fun v6 H8 s8 r6 => ?_))
  rw [hand1, hand2, hand3, hand4, hand5, hand6, hand7] at r6
  have s78 := (s6.trans s7).trans s8
  refine dss_one (ds_retD (ev_call G3 (hr.mono (by decide)) (eva2 (ev_var 3 rfl r6) (ev_lstN (eva_cons (ev_var 2 rfl (r2.mono s78)) (eva_cons ev_bl (eva_cons ev_bl (eva_cons ev_bl (eva_cons ev_bl (eva2 ev_bl (ev_var 4 rfl (r4.mono s8)))))))))) ⟨_, rfl, ⟨by show 7 ≤ 1000; omega, fun x hx => ?_⟩, rfl⟩) fun z H9 s9 rz => ?_)
  · have b : ∀ k : Bool, okD 5 (.bool k) := fun k => by simp [okD]
    have hx : x ∈ [encS bothS, .bool true, .bool false, .bool true, .bool true, .bool false, encS oneS] := hx
    simp only [List.mem_cons, List.not_mem_nil, or_false] at hx
    rcases hx with rfl | rfl | rfl | rfl | rfl | rfl | rfl
    · exact okD_up (okD_encS wf_both) |> fun _ => okD_encS wf_both
    · exact b _
    · exact b _
    · exact b _
    · exact b _
    · exact b _
    · exact okD_encS wf_one
  · cases rz
    exact q H9 (((((s1.trans s2).trans (s3.trans (s4.trans s5))).trans s78)).trans s9)
end
end Lk
namespace Lk
open PySem PySem.Spec PyProof.Rows L2
/-! ### readings of any kind -/
inductive A2 {β α : Type} (R : β → α → Prop) : List β → List α → Prop
  | nil : A2 R [] []
  | cons {v : β} {a : α} {vs : List β} {l : List α} : R v a → A2 R vs l → A2 R (v :: vs) (a :: l)
section
variable {α β : Type} {R R' : β → α → Prop} {vs ws : List β} {l m : List α}
theorem A2.imp (h : A2 R vs l) (q : ∀ v a, R v a → R' v a) : A2 R' vs l := by
  induction h with
  | nil => exact .nil
  | cons r _ ih => exact .cons (q _ _ r) ih
theorem A2.length (h : A2 R vs l) : vs.length = l.length := by
  induction h with
  | nil => rfl
  | cons _ _ ih => rw [List.length_cons, List.length_cons, ih]
theorem A2.get (h : A2 R vs l) : ∀ {i : Nat} {a : α}, l[i]? = some a → ∃ v, vs[i]? = some v ∧ R v a := by
  induction h with
  | nil => intro i a e; simp at e
  | cons r _ ih =>
    intro i a e
    cases i with
    | zero => cases (Option.some.inj e : _ = _); exact ⟨_, rfl, r⟩
    | succ i => exact ih e
theorem A2.get' (h : A2 R vs l) : ∀ {i : Nat} {v : β}, vs[i]? = some v → ∃ a, l[i]? = some a ∧ R v a := by
  induction h with
  | nil => intro i a e; simp at e
  | cons r _ ih =>
    intro i a e
    cases i with
    | zero => cases (Option.some.inj e : _ = _); exact ⟨_, rfl, r⟩
    | succ i => exact ih e
theorem A2.append (h : A2 R vs l) (h' : A2 R ws m) : A2 R (vs ++ ws) (l ++ m) := by
  induction h with
  | nil => exact h'
  | cons r _ ih => exact .cons r ih
theorem A2.one {v : β} {a : α} (r : R v a) : A2 R [v] [a] := .cons r .nil
theorem A2.erase (h : A2 R vs l) : ∀ k, A2 R (vs.eraseIdx k) (l.eraseIdx k) := by
  induction h with
  | nil => intro k; exact .nil
  | cons r h ih =>
    intro k
    cases k with
    | zero => exact h
    | succ k => exact .cons r (ih k)
end
section
variable {α : Type} {R : V → α → Prop} {vs : List V} {l : List α}
theorem A2.dl {H : Hp} {enc : α → PyData} (h : A2 R vs l) (q : ∀ v a, R v a → Dl H v (enc a)) : DlAll H vs (l.map enc) := by
  induction h with
  | nil => exact .nil
  | cons r _ ih => exact .cons (q _ _ r) ih
theorem A2.ofDl {H : Hp} {enc : α → PyData} : ∀ {l : List α} {vs : List V}, DlAll H vs (l.map enc) → A2 (fun v a => Dl H v (enc a)) vs l
  | [], _, h => by cases h; exact .nil
  | a :: l, _, h => by
    cases h with
    | cons r h => exact .cons r (A2.ofDl h)
end
/-- kept wherever what is no list is kept -/
def Stb (R : Hp → V → Prop) : Prop := ∀ H H' v, Nk H H' → R H v → R H' v
def Tu {α : Type} (R : Hp → V → α → Prop) (H : Hp) (v : V) (l : List α) : Prop := ∃ c xs, v = .ref c ∧ Rd H c (.tup xs) ∧ A2 (R H) xs l
/-- a list, not one of those that are changed -/
def Ls {α : Type} (S : List Addr) (R : Hp → V → α → Prop) (H : Hp) (v : V) (l : List α) : Prop := ∃ c xs, v = .ref c ∧ c ∉ S ∧ H c = some (.lst xs) ∧ A2 (R H) xs l
def Rr (H : Hp) (v : V) (r : Rel) : Prop := ∃ c, v = .ref c ∧ H c = some (.tup [.str r.1, .int r.2])
abbrev Rk : Hp → V → List Rel → Prop := Tu Rr
def Ru (H : Hp) (v : V) (rs : Rules) : Prop := ∃ c o xs, v = .ref c ∧ H c = some (.frz o (.tup xs)) ∧ o.dict = none ∧ DlAll H xs (rs.map encU)
def Rp (H : Hp) (v : V) (p : Part) : Prop := ∃ c x u l, v = .ref c ∧ Rd H c (.tup [x, u, .int p.first, l]) ∧ Rr H x p.rel ∧ Ru H u p.rules ∧ Dl H l (encO p.last)
abbrev Rs : Hp → V → List Part → Prop := Tu Rp
section
variable {α : Type} {R : Hp → V → α → Prop} {S S' : List Addr} {H H' : Hp} {v : V} {l : List α}
theorem stb_tu (h : ∀ a, Stb fun H v => R H v a) (l : List α) : Stb fun H v => Tu R H v l := fun H H' v k ⟨c, xs, e, hc, ha⟩ => ⟨c, xs, e, k.tk _ _ hc, ha.imp fun v a => h a _ _ _ k⟩
theorem stb_rr (r : Rel) : Stb fun H v => Rr H v r := fun H H' v k ⟨c, e, hc⟩ => ⟨c, e, k _ _ (fun _ z => nomatch z) hc⟩
theorem stb_rk (k : List Rel) : Stb fun H v => Rk H v k := stb_tu stb_rr k
theorem stb_ru (rs : Rules) : Stb fun H v => Ru H v rs := fun H H' v k ⟨c, o, xs, e, hc, hd, ha⟩ => ⟨c, o, xs, e, k _ _ (fun _ z => nomatch z) hc, hd, ha.tk k.tk (tlvAll_map fun u _ => tlv_encU u)⟩
theorem stb_rp (p : Part) : Stb fun H v => Rp H v p := fun H H' v k ⟨c, x, u, l, e, hc, h1, h2, h3⟩ => ⟨c, x, u, l, e, k.tk _ _ hc, stb_rr _ _ _ _ k h1, stb_ru _ _ _ _ k h2, h3.tk k.tk (tlv_encO _)⟩
theorem stb_rs (s : List Part) : Stb fun H v => Rs H v s := stb_tu stb_rp s
theorem stb_dl {d : PyData} (t : tlv d = true) : Stb fun H v => Dl H v d := fun H H' v k h => h.tk k.tk t
theorem Stb.same {R : Hp → V → Prop} (h : Stb R) (s : Same H H') (r : R H v) : R H' v := h _ _ _ (Same.nk s) r
theorem Stb.kb {R : Hp → V → Prop} (h : Stb R) (s : Kb S H H') (r : R H v) : R H' v := h _ _ _ s.2 r
theorem Rr.dl {r : Rel} (h : Rr H v r) : Dl H v (encR r) := by
  obtain ⟨c, rfl, hc⟩ := h
  exact .tup (.inl hc) (.cons (.str _) (.cons (.int _) .nil))
theorem Tu.dl {enc : α → PyData} (h : Tu R H v l) (q : ∀ v a, R H v a → Dl H v (enc a)) : Dl H v (.tuple (l.map enc)) := by
  obtain ⟨c, xs, rfl, hc, ha⟩ := h
  exact .tup hc (ha.dl q)
theorem Ls.dl {enc : α → PyData} (h : Ls S R H v l) (q : ∀ v a, R H v a → Dl H v (enc a)) : Dl H v (.list (l.map enc)) := by
  obtain ⟨c, xs, rfl, _, hc, ha⟩ := h
  exact .lst hc (ha.dl q)
theorem Rk.dl {k : List Rel} (h : Rk H v k) : Dl H v (encK k) := Tu.dl h fun _ _ => Rr.dl
theorem Ru.dl {rs : Rules} (h : Ru H v rs) : Dl H v (encRs rs) := by
  obtain ⟨c, o, xs, rfl, hc, hd, ha⟩ := h
  exact .tup (.inr ⟨o, hc⟩) ha
theorem Rp.dl {p : Part} (h : Rp H v p) : Dl H v (encP p) := by
  obtain ⟨c, x, u, l, rfl, hc, h1, h2, h3⟩ := h
  exact .tup hc (.cons h1.dl (.cons h2.dl (.cons (.int _) (.cons h3 .nil))))
theorem Rs.dl {s : List Part} (h : Rs H v s) : Dl H v (encS s) := Tu.dl h fun _ _ => Rp.dl
theorem Ls.kb (st : ∀ a, Stb fun H v => R H v a) (k : Kb S H H') (h : Ls S R H v l) : Ls S R H' v l := by
  obtain ⟨c, xs, e, n, hc, ha⟩ := h
  exact ⟨c, xs, e, n, k.1 _ _ n hc, ha.imp fun v a => st a _ _ _ k.2⟩
theorem Ls.same (st : ∀ a, Stb fun H v => R H v a) (k : Same H H') (h : Ls S R H v l) : Ls S R H' v l := Ls.kb st (Same.kb k) h
theorem Ls.sub (h : Ls S R H v l) (q : ∀ x ∈ S', x ∈ S ∨ ∀ xs, H x ≠ some (.lst xs)) : Ls S' R H v l := by
  obtain ⟨c, xs, e, n, hc, ha⟩ := h
  exact ⟨c, xs, e, fun z => (q c z).elim n fun m => m xs hc, hc, ha⟩
end
/-! ### evaluations to a reading -/
def EvR (X : Cx) (e : Expr) (σ : L2.St) (H : Hp) (R : Hp → V → Prop) : Prop := ∀ H1, Same H H1 → ∀ Q : VK, (∀ v H2, Same H1 H2 → R H2 v → Q v H2) → DoE X e σ H1 Q
section
variable {X : Cx} {a b c e tg : Expr} {es : List Expr} {σ : L2.St} {H H' : Hp} {d : PyData} {v : V} {x : Str} {pos p : Pos} {R Ra Rb Rc Rd' : Hp → V → Prop} {i : Int}
theorem EvR.go {Q : VK} (h : EvR X e σ H R) (q : ∀ v H1, Same H H1 → R H1 v → Q v H1) : DoE X e σ H Q := h H (Same.refl H) Q q
theorem EvR.imp (h : EvR X e σ H R) (q : ∀ H v, R H v → Ra H v) : EvR X e σ H Ra := fun H1 s Q k => h H1 s Q fun v H2 s2 r => k v H2 s2 (q _ _ r)
theorem EvR.toD (h : EvR X e σ H R) (q : ∀ H v, R H v → Dl H v d) : EvD X e σ H d := h.imp q
theorem EvD.r (h : EvD X e σ H d) : EvR X e σ H fun H v => Dl H v d := h
theorem erv_var (i : Nat) (hs : σ[i]? = some (some v)) (r : ∀ H', Same H H' → R H' v) (hN : X.N[i]? = some x := by rfl) (hv : Vis X.env.scope x := by first | exact .inl rfl | exact .inr (.inl rfl) | exact .inr (.inr rfl)) (hd : (x == ("__debug__" : Str)) = false := by decide)
    (hcd : (x == ("__classdict__" : Str)) = false := by decide) : EvR X (.Name x pos) σ H R := fun H1 s Q q => DoE.of (pe_var hN hv hd hcd) ⟨v, hs, q v H1 (Same.refl H1) (r H1 s)⟩
/-- R[i] -/
theorem erv_ix (ha : EvR X a σ H Ra) (hb : EvD X b σ H (.int i)) (sa : Stb Ra) (h : ∀ H v, Ra H v → ∃ c xs y, v = .ref c ∧ Rd H c (.tup xs) ∧ atI xs i = some y ∧ Rb H y) (hs : PlainIx b := by exact fun _ _ => rfl) : EvR X (.Subscript a b pos) σ H Rb := fun H1 s Q q =>
  DoE.of (pe_ix ix_tup DoE.pe DoE.pe hs) (ha H1 s _ fun u H2 s2 ru => hb H2 (s.trans s2) _ fun v H3 s3 rv => by
    cases rv
    obtain ⟨c, xs, y, rfl, hA, hy, rb⟩ := h _ _ (sa.same s3 ru)
    exact ⟨c, xs, i, y, rfl, rfl, (.inl hA), hy, q y H3 (s2.trans s3) rb⟩)
theorem erv_tup2 {x1} (ha : EvR X a σ H Ra) (hb : EvR X b σ H Rb) (sa : Stb Ra) (sb : Stb Rb) (h1 : starEach [a, b] X.env = (false, eval a X.env) :: starEach [b] X.env := by rfl) (h2 : starEach [b] X.env = (false, eval b X.env) :: starEach [] X.env := by rfl) : EvR X (.Tuple [a, b] x1 pos) σ H fun H v => ∃ T y z, v = .ref T ∧ H T = some (.tup [y, z]) ∧ Ra H y ∧ Rb H z := fun H1 s Q q =>
  DoE.of (pe_tup DoA.pa) (da_cons (ha H1 s _ fun u H2 s2 ru => da_cons (hb H2 (s.trans s2) _ fun v H3 s3 rv => da_nil ⟨Nat.le_trans (show 2 ≤ 1000 by omega) (by decide), fun p hp => q _ _ ((s2.trans s3).trans (same_new hp)) ⟨p, u, v, rfl, upd_same, sa.same (s3.trans (same_new hp)) ru, sb.same (same_new hp) rv⟩⟩) h2) h1)
theorem erv_tup1 {x1} (ha : EvR X a σ H Ra) (sa : Stb Ra) (h1 : starEach [a] X.env = (false, eval a X.env) :: starEach [] X.env := by rfl) : EvR X (.Tuple [a] x1 pos) σ H fun H v => ∃ T y, v = .ref T ∧ H T = some (.tup [y]) ∧ Ra H y := fun H1 s Q q =>
  DoE.of (pe_tup DoA.pa) (da_cons (ha H1 s _ fun u H2 s2 ru => da_nil ⟨Nat.le_trans (show 1 ≤ 1000 by omega) (by decide), fun p hp => q _ _ (s2.trans (same_new hp)) ⟨p, u, rfl, upd_same, sa.same (same_new hp) ru⟩⟩) h1)
end
/-- J walks the items l, read by R, wherever the heap is kept but for S -/
def YR {α : Type} (S : List Addr) (J : It) (H1 : Hp) (R : Hp → V → α → Prop) (l : List α) : Prop :=
  (∀ (i : Nat) (a : α) (H' : Hp), l[i]? = some a → Kb S H1 H' → J.go i H' ∧ ∀ x H'', J.yld i H' x H'' → Same H' H'' ∧ R H'' x a) ∧ ∀ H', Kb S H1 H' → J.stop l.length H'
def EvIR {α : Type} (S : List Addr) (X : Cx) (tg iter : Expr) (σ : L2.St) (H : Hp) (R : Hp → V → α → Prop) (l : List α) : Prop := ∀ H1, Same H H1 → ∀ Rk : It → Hp → Prop, (∀ J H2, Same H1 H2 → YR S J H2 R l → Rk J H2) → DoI X tg iter σ H1 Rk
section
variable {α : Type} {R : Hp → V → α → Prop} {S : List Addr} {X : Cx} {e tg iter : Expr} {σ : L2.St} {H : Hp} {l : List α}
theorem EvIR.go {Rk : It → Hp → Prop} (h : EvIR S X tg e σ H R l) (q : ∀ J H2, Same H H2 → YR S J H2 R l → Rk J H2) : DoI X tg e σ H Rk := h H (Same.refl H) Rk q
theorem eir_tup (st : ∀ a, Stb fun H v => R H v a) (h : EvR X e σ H fun H v => Tu R H v l) : EvIR S X tg e σ H R l := fun H1 s Rk q => DoI.of (pi_tup DoE.pe) (h H1 s _ fun v H2 s2 r => by
  obtain ⟨c, xs, rfl, hc, ha⟩ := r
  refine ⟨c, rfl, ⟨xs, .inl hc⟩, q _ H2 s2 ⟨fun i a H' e k => ?_, fun H' k => ⟨xs, .inl (k.2.tk _ _ hc), Nat.le_of_eq ha.length⟩⟩⟩
  obtain ⟨v, hv, rv⟩ := ha.get e
  have hs : SqT X.K H' c xs := .inl (k.2.tk _ _ hc)
  refine ⟨⟨xs, v, hs, hv⟩, fun x H'' y => ?_⟩
  obtain ⟨rfl, y⟩ := y
  have e2 := y xs hs
  rw [hv] at e2
  cases e2
  exact ⟨Same.refl _, st a _ _ _ k.2 rv⟩)
theorem eir_lst (st : ∀ a, Stb fun H v => R H v a) (h : EvR X e σ H fun H v => Ls S R H v l) : EvIR S X tg e σ H R l := fun H1 s Rk q => DoI.of (pi_list DoE.pe) (h H1 s _ fun v H2 s2 r => by
  obtain ⟨c, xs, rfl, n, hc, ha⟩ := r
  refine ⟨c, rfl, ⟨xs, SqL.of hc⟩, q _ H2 s2 ⟨fun i a H' e k => ?_, fun H' k => ⟨xs, SqL.of (k.1 _ _ n hc), Nat.le_of_eq ha.length⟩⟩⟩
  obtain ⟨v, hv, rv⟩ := ha.get e
  have hs : SqL X.K H' c xs := SqL.of (k.1 _ _ n hc)
  refine ⟨⟨xs, v, hs, hv⟩, fun x H'' y => ?_⟩
  obtain ⟨rfl, y⟩ := y
  have e2 := y xs hs
  rw [hv] at e2
  cases e2
  exact ⟨Same.refl _, st a _ _ _ k.2 rv⟩)
end

structure WalkedR (X : Cx) (g : TG) (body : List Stmt) (D : Ends) (σ : L2.St) (J : It) (H1 : Hp) : Prop where
  ex : ∃ (α : Type) (S : List Addr) (R : Hp → V → α → Prop) (l : List α) (Pv : List α → L2.St → Hp → Prop), YR S J H1 R l ∧ Pv l σ H1 ∧ (∀ r σ' H', Pv r σ' H' → Kb S H1 H') ∧
    (∀ a r v σ' H' H'', a ∈ l → Pv (a :: r) σ' H' → Same H' H'' → R H'' v a → g v σ' H'' fun σ2 H2 => DoSs X body { D with nx := Pv r, ct := Pv r, bk := D.nx } σ2 H2) ∧ ∀ σ' H', Pv [] σ' H' → D.nx σ' H'
theorem walkedR {α : Type} (S : List Addr) (R : Hp → V → α → Prop) (l : List α) (Pv : List α → L2.St → Hp → Prop) {X : Cx} {g : TG} {body : List Stmt} {D : Ends} {σ : L2.St} {J : It} {H1 : Hp} (Y : YR S J H1 R l) (p0 : Pv l σ H1) (pr : ∀ r σ' H', Pv r σ' H' → Kb S H1 H')
    (turn : ∀ a r v σ' H' H'', a ∈ l → Pv (a :: r) σ' H' → Same H' H'' → R H'' v a → g v σ' H'' fun σ2 H2 => DoSs X body { D with nx := Pv r, ct := Pv r, bk := D.nx } σ2 H2) (done : ∀ σ' H', Pv [] σ' H' → D.nx σ' H') : WalkedR X g body D σ J H1 := ⟨⟨α, S, R, l, Pv, Y, p0, pr, turn, done⟩⟩
theorem ds_forR {X : Cx} {tg iter : Expr} {body : List Stmt} {g : TG} {D : Ends} {σ : L2.St} {H : Hp} {pos : Pos} (hp : PassesOwn (model X.prog X.w) X.A X.env X.xe) (hc : X.calm = true) (hg : PG X tg g) (hi : DoI X tg iter σ H fun J H1 => WalkedR X g body D σ J H1)
    (hs : ∀ x, foldedSetIterable iter X.env x = pure x := by intro _; rfl) : DoS X (.For tg iter body [] pos) D σ H := by
  refine DoS.of (ps_for hp hc DoI.pi hg DoSs.pss hs) ?_
  show DoI X tg iter σ H _
  refine ⟨fun pins s I => thn (hi.run pins s I) fun v s1 h1 => thn h1 fun itv s2 h2 => ?_⟩
  obtain ⟨it, fp, tn, J, H2, e, I2, T, st2, f2, ⟨α, S, R, l, Pv, Y, p0, pr, ps, pd⟩⟩ := h2
  refine ⟨it, fp, tn, J, H2, e, I2, T, st2, f2, fun i m σ' H' => m = l.length - i ∧ i ≤ l.length ∧ Pv (l.drop i) σ' H', ⟨l.length, rfl, Nat.zero_le _, p0⟩, ?_⟩
  rintro i m σ' H' ⟨rfl, hi', p⟩
  by_cases hlt : i < l.length
  · have e1 : l[i]? = some l[i] := List.getElem?_eq_getElem hlt
    have hd : l.drop i = l[i] :: l.drop (i + 1) := List.drop_eq_getElem_cons hlt
    obtain ⟨g1, g2⟩ := Y.1 i _ H' e1 (pr _ σ' H' p)
    refine .inr ⟨g1, Pv (l.drop (i + 1)), fun σ2 H3 q => ⟨l.length - (i + 1), by omega, rfl, hlt, q⟩, fun x H'' y => ?_⟩
    obtain ⟨s2, r⟩ := g2 x H'' y
    rw [hd] at p
    exact ps _ _ x σ' H' H'' (List.getElem_mem hlt) p s2 r
  · have e1 : i = l.length := by omega
    subst e1
    rw [List.drop_length] at p
    exact .inl ⟨Y.2 H' (pr _ σ' H' p), pd σ' H' p⟩
theorem lc_R {α β : Type} {X : Cx} {elt tg iter : Expr} {ifs : List Expr} {scope : Scope} {vs : List Nat} {g : TG} {σ : L2.St} {H : Hp} (R : Hp → V → α → Prop) (Ro : Hp → V → β → Prop) (l : List α) (fb : α → Bool) (fe : α → β) (so : ∀ b, Stb fun H v => Ro H v b)
    (hi : EvIR [] X tg iter σ H R l) (hz : l.length ≤ 1000000)
    (turn : ∀ d v H', d ∈ l → Same H H' → R H' v d → ∃ τ : L2.St, (∀ Q' : L2.St → Hp → Prop, Q' τ H' → g v (wipe σ vs) H' Q') ∧ wipe τ vs = wipe σ vs ∧
      (∀ (s : Shared) (H0 : Hp) (C : Addr) (cl : List (Str × Addr)) (fp : List Addr), EvTs (X.blk s H0 scope (compEnvC scope cl C X.env) fp) ifs τ H' (fb d)) ∧
      (fb d = true → ∀ (s : Shared) (H0 : Hp) (C : Addr) (cl : List (Str × Addr)) (fp : List Addr), EvR (X.blk s H0 scope (compEnvC scope cl C X.env) fp) elt τ H' (fun H v => Ro H v (fe d)))) : ∀ H0, Same H H0 → ∀ Q : VK, (∀ A zs H', Same H0 H' → H0 A = none → H' A = some (.lst zs) → A2 (Ro H') zs ((l.filter fb).map fe) → Q (.ref A) H') →
    tLc (DoI X tg iter) g (fun σ' H' Q' => ∀ (s : Shared) (H0 : Hp) (C : Addr) (cl : List (Str × Addr)) (fp : List Addr), DoTs (X.blk s H0 scope (compEnvC scope cl C X.env) fp) ifs σ' H' Q')
      (fun σ' H' Q' => ∀ (s : Shared) (H0 : Hp) (C : Addr) (cl : List (Str × Addr)) (fp : List Addr), DoE (X.blk s H0 scope (compEnvC scope cl C X.env) fp) elt σ' H' Q') vs σ H0 Q := by
  intro H0 s0 Q q
  refine hi H0 s0 _ fun J H1 s1 Y Dl hD => ?_
  refine ⟨fun i m H' => m = l.length - i ∧ i ≤ l.length ∧ Same H1 H' ∧ ∃ acc, H' Dl = some (.lst acc) ∧ acc.length ≤ i ∧ A2 (Ro H') acc (((l.take i).filter fb).map fe),
    ⟨l.length, rfl, Nat.zero_le _, same_new hD, [], upd_same, Nat.le_refl _, .nil⟩, ?_⟩
  rintro i m H' ⟨rfl, hi', sH, acc, hA, hl, hda⟩
  by_cases hlt : i < l.length
  · have e1 : l[i]? = some l[i] := List.getElem?_eq_getElem hlt
    have hmem : l[i] ∈ l := List.getElem_mem hlt
    obtain ⟨g1, g2⟩ := Y.1 i _ H' e1 (Same.kb sH)
    refine .inr ⟨g1, fun H'' => i + 1 ≤ l.length ∧ Same H1 H'' ∧ ∃ acc, H'' Dl = some (.lst acc) ∧ acc.length ≤ i + 1 ∧ A2 (Ro H'') acc (((l.take (i + 1)).filter fb).map fe), fun H'' n => ⟨l.length - (i + 1), by omega, rfl, n.1, n.2⟩, fun x H'' y => ?_⟩
    obtain ⟨s2, r⟩ := g2 x H'' y
    obtain ⟨τ, t1, t2, t3, t4⟩ := turn _ x H'' hmem ((s0.trans s1).trans (sH.trans s2)) r
    refine t1 _ ⟨t2, fun s H0' C cl fp => ?_⟩
    refine t3 s H0' C cl fp H'' (Same.refl _) _ fun H3 s3 => ?_
    have etake : l.take (i + 1) = l.take i ++ [l[i]] := by rw [List.take_add_one, e1]; rfl
    cases hb : fb l[i] with
    | false =>
      rw [if_neg (by decide)]
      refine ⟨hlt, (sH.trans s2).trans s3, acc, (s2.trans s3) _ _ hA, by omega, ?_⟩
      rw [etake, List.filter_append, List.map_append]
      have : [l[i]].filter fb = [] := by rw [List.filter_cons, if_neg (by rw [hb]; decide)]; rfl
      rw [this]
      simpa using hda.imp fun _ _ => so _ _ _ _ (Same.nk (s2.trans s3))
    | true =>
      rw [if_pos rfl]
      intro s H0'' C cl fp
      refine t4 hb s H0'' C cl fp H3 s3 _ fun z H4 s4 rz => ?_
      have hA4 := (s2.trans (s3.trans s4)) _ _ hA
      have tk : Nk H4 (upd H4 Dl (.lst (acc ++ [z]))) := Nk.upd hA4
      have sz : acc.length < sizeLine := Nat.lt_of_le_of_lt (show acc.length ≤ 1000000 by omega) (by decide)
      refine ⟨acc, hA4, sz, hlt, fun b o e => ?_, acc ++ [z], upd_same, by rw [List.length_append, List.length_singleton]; omega, ?_⟩
      · rw [upd_ne (ne_of_none e hD)]
        exact (sH.trans (s2.trans (s3.trans s4))) b o e
      · rw [etake, List.filter_append, List.map_append]
        have : [l[i]].filter fb = [l[i]] := by rw [List.filter_cons, if_pos hb]; rfl
        rw [this]
        exact (hda.imp fun _ _ h => so _ _ _ _ tk (so _ _ _ _ (Same.nk (s2.trans (s3.trans s4))) h)).append (.one (so _ _ _ _ tk rz))
  · have e1 : i = l.length := by omega
    subst e1
    refine .inl ⟨Y.2 H' (Same.kb sH), q _ _ H' (s1.trans sH) (none_back s1 hD) hA ?_⟩
    rw [List.take_of_length_le (Nat.le_refl _)] at hda
    exact hda

section
variable {α β : Type} {X : Cx} {elt tg iter : Expr} {ifs : List Expr} {scope : Scope} {g : TG} {σ : L2.St} {H : Hp} {pos p p1 p2 p3 spos py : Pos} {x y : Str} {D : Ends}
/-- [elt for x in iter if ..] over items read by R, the elements read by Ro -/
theorem do_lcR (j : Nat) (R : Hp → V → α → Prop) (Ro : Hp → V → β → Prop) (l : List α) (fb : α → Bool) (fe : α → β) (so : ∀ b, Stb fun H v => Ro H v b) (hc : X.calm = true) (hN : X.N.Nodup) (ok : BlkOk X.N X.env.scope scope [(x, j)]) (hi : EvIR [] X (.Name x p) iter σ H R l) (hw : ∀ v, wipe ((wipe σ [j]).set j (some v)) [j] = wipe σ [j]) (hz : l.length ≤ 1000000)
    (ht : ∀ d v H', d ∈ l → Same H H' → R H' v d → ∀ (s : Shared) (H0 : Hp) (C : Addr) (cl : List (Str × Addr)) (fp : List Addr), EvTs (X.blk s H0 scope (compEnvC scope cl C X.env) fp) ifs ((wipe σ [j]).set j (some v)) H' (fb d))
    (he : ∀ d v H', d ∈ l → Same H H' → R H' v d → fb d = true → ∀ (s : Shared) (H0 : Hp) (C : Addr) (cl : List (Str × Addr)) (fp : List Addr), EvR (X.blk s H0 scope (compEnvC scope cl C X.env) fp) elt ((wipe σ [j]).set j (some v)) H' (fun H v => Ro H v (fe d)))
    {H0 : Hp} (s0 : Same H H0) {Q : VK} (q : ∀ A zs H', Same H0 H' → H0 A = none → H' A = some (.lst zs) → A2 (Ro H') zs ((l.filter fb).map fe) → Q (.ref A) H')
    (hx2 : ∀ (s : Shared) (H : Hp) (C : Addr) (cl : List (Str × Addr)) (fp : List Addr), (X.blk s H scope (compEnvC scope cl C X.env) fp).env.scope.names.lookup x = some .local := by intro _ _ _ _ _; rfl) (hj : X.N[j]? = some x := by rfl) (hs : ∀ x, foldedSetIterable iter X.env x = pure x := by intro _; rfl) :
    DoE X (.ListComp elt [⟨.Name x p, iter, ifs, 0⟩] scope pos) σ H0 Q :=
  do_lc (own := [(x, j)]) (g := gName j) hc hN ok (fun s H C cl fp => pg_name hN hj (.inl (hx2 s H C cl fp)) (.inr (hx2 s H C cl fp))) (lc_R (vs := [j]) R Ro l fb fe so hi hz (fun d v H' hd s r => ⟨_, fun Q' h => h, hw v, ht d v H' hd s r, fun hb => he d v H' hd s r hb⟩) H0 s0 Q q) hs
/-- as an evaluation -/
theorem erv_lc (j : Nat) (R : Hp → V → α → Prop) (Ro : Hp → V → β → Prop) (l : List α) (fb : α → Bool) (fe : α → β) (so : ∀ b, Stb fun H v => Ro H v b) (hc : X.calm = true) (hN : X.N.Nodup) (ok : BlkOk X.N X.env.scope scope [(x, j)]) (hi : EvIR [] X (.Name x p) iter σ H R l) (hw : ∀ v, wipe ((wipe σ [j]).set j (some v)) [j] = wipe σ [j]) (hz : l.length ≤ 1000000)
    (ht : ∀ d v H', d ∈ l → Same H H' → R H' v d → ∀ (s : Shared) (H0 : Hp) (C : Addr) (cl : List (Str × Addr)) (fp : List Addr), EvTs (X.blk s H0 scope (compEnvC scope cl C X.env) fp) ifs ((wipe σ [j]).set j (some v)) H' (fb d))
    (he : ∀ d v H', d ∈ l → Same H H' → R H' v d → fb d = true → ∀ (s : Shared) (H0 : Hp) (C : Addr) (cl : List (Str × Addr)) (fp : List Addr), EvR (X.blk s H0 scope (compEnvC scope cl C X.env) fp) elt ((wipe σ [j]).set j (some v)) H' (fun H v => Ro H v (fe d)))
    (hx2 : ∀ (s : Shared) (H : Hp) (C : Addr) (cl : List (Str × Addr)) (fp : List Addr), (X.blk s H scope (compEnvC scope cl C X.env) fp).env.scope.names.lookup x = some .local := by intro _ _ _ _ _; rfl) (hj : X.N[j]? = some x := by rfl) (hs : ∀ x, foldedSetIterable iter X.env x = pure x := by intro _; rfl) :
    EvR X (.ListComp elt [⟨.Name x p, iter, ifs, 0⟩] scope pos) σ H (fun H v => Ls [] Ro H v ((l.filter fb).map fe)) := fun H1 s1 Q q =>
  do_lcR j R Ro l fb fe so hc hN ok hi hw hz ht he s1 (fun A zs H' s' _ hA ha => q _ H' s' ⟨A, zs, rfl, List.not_mem_nil, hA, ha⟩) hx2 hj hs
end
end Lk
namespace Lk
open PySem PySem.Spec PyProof.Rows L2
/-! ### dicts of parts, dicts of lots -/
def Dk (H : Hp) (v : V) (s : List Part) : Prop := ∃ D kvs, v = .ref D ∧ H D = some (.dT kvs) ∧ A2 (fun (kv : List L2.Key × V) (p : Part) => kv.1 = keyR p.rel ∧ Rp H kv.2 p) kvs s
def Du (H : Hp) (v : V) (rs : Rules) : Prop := ∃ D kvs, v = .ref D ∧ H D = some (.dK kvs) ∧ A2 (fun (kv : L2.Key × V) (u : Str × Lot) => kv.1 = Sum.inr u.1 ∧ Dl H kv.2 (encL u.2)) kvs rs
theorem stb_dk (s : List Part) : Stb fun H v => Dk H v s := fun H H' v k ⟨D, kvs, e, h, a⟩ => ⟨D, kvs, e, k _ _ (fun _ z => nomatch z) h, a.imp fun kv p q => ⟨q.1, stb_rp _ _ _ _ k q.2⟩⟩
theorem stb_du (rs : Rules) : Stb fun H v => Du H v rs := fun H H' v k ⟨D, kvs, e, h, a⟩ => ⟨D, kvs, e, k _ _ (fun _ z => nomatch z) h, a.imp fun kv p q => ⟨q.1, q.2.tk k.tk (tlv_encL _)⟩⟩
theorem dk_val {H : Hp} {s : List Part} {kvs : List (List L2.Key × V)} (h : A2 (fun (kv : List L2.Key × V) (p : Part) => kv.1 = keyR p.rel ∧ Rp H kv.2 p) kvs s) (r : Rel) : (partAt s r = none ∧ valV kvs (keyR r) = none) ∨ ∃ p v, partAt s r = some p ∧ valV kvs (keyR r) = some v ∧ Rp H v p := by
  induction h with
  | nil => exact .inl ⟨rfl, rfl⟩
  | @cons kv p kvs s q _ ih =>
    by_cases e : p.rel = r
    · refine .inr ⟨p, kv.2, ?_, valV_pos (by rw [q.1, e]), q.2⟩
      show (if p.rel = r then some p else partAt s r) = some p
      rw [if_pos e]
    · have e' : ¬ kv.1 = keyR r := fun z => e (keyR_inj (q.1.symm.trans z))
      rw [valV_neg e']
      show ((if p.rel = r then some p else partAt s r) = none ∧ _) ∨ ∃ p' v, (if p.rel = r then some p else partAt s r) = some p' ∧ _
      rw [if_neg e]
      exact ih
theorem du_val {H : Hp} {rs : Rules} {kvs : List (L2.Key × V)} (h : A2 (fun (kv : L2.Key × V) (u : Str × Lot) => kv.1 = Sum.inr u.1 ∧ Dl H kv.2 (encL u.2)) kvs rs) (n : Str) : (lotIn rs n = none ∧ valV kvs (Sum.inr n) = none) ∨ ∃ l v, lotIn rs n = some l ∧ valV kvs (Sum.inr n) = some v ∧ Dl H v (encL l) := by
  induction h with
  | nil => exact .inl ⟨rfl, rfl⟩
  | @cons kv u kvs rs q _ ih =>
    by_cases e : u.1 = n
    · refine .inr ⟨u.2, kv.2, ?_, valV_pos (by rw [q.1, e]), q.2⟩
      show (if u.1 = n then some u.2 else lotIn rs n) = some u.2
      rw [if_pos e]
    · have e' : ¬ kv.1 = Sum.inr n := fun z => e (Sum.inr.inj (q.1.symm.trans z))
      rw [valV_neg e']
      show ((if u.1 = n then some u.2 else lotIn rs n) = none ∧ _) ∨ ∃ p' v, (if u.1 = n then some u.2 else lotIn rs n) = some p' ∧ _
      rw [if_neg e]
      exact ih
/-- a pair of a key and what is kept by it -/
def Pr (H : Hp) (v : V) (p : Part) : Prop := ∃ T y z, v = .ref T ∧ H T = some (.tup [y, z]) ∧ Rr H y p.rel ∧ Rp H z p
theorem stb_pr (p : Part) : Stb fun H v => Pr H v p := fun H H' v k ⟨T, y, z, e, h, a, b⟩ => ⟨T, y, z, e, k _ _ (fun _ z => nomatch z) h, stb_rr _ _ _ _ k a, stb_rp _ _ _ _ k b⟩
theorem pairs_of {H : Hp} {zs : List V} {s : List Part} (h : A2 (Pr H) zs s) : ∃ es : List PairE, zs = es.map (fun e => V.ref e.1) ∧ (∀ e ∈ es, PairEOk H e) ∧ es.map (·.2.2.1) = s.map (·.rel) ∧ A2 (fun (kv : List L2.Key × V) (p : Part) => kv.1 = keyR p.rel ∧ Rp H kv.2 p) (es.map fun e => (keyR e.2.2.1, e.2.2.2)) s := by
  induction h with
  | nil => exact ⟨[], rfl, fun e he => by simp at he, rfl, .nil⟩
  | @cons v p vs l r _ ih =>
    obtain ⟨T, y, z, rfl, hT, ⟨c, rfl, hc⟩, hp⟩ := r
    obtain ⟨es, e1, e2, e3, e4⟩ := ih
    refine ⟨(T, c, p.rel, z) :: es, by rw [e1]; rfl, fun e he => ?_, by rw [List.map_cons, List.map_cons, e3], .cons ⟨rfl, hp⟩ e4⟩
    rcases List.mem_cons.mp he with rfl | he
    · exact ⟨.inl hT, hc⟩
    · exact e2 e he
theorem pairsU_of {H : Hp} : ∀ {rs : Rules} {xs : List V}, DlAll H xs (rs.map encU) → ∃ es : List PairU, xs = es.map (fun e => V.ref e.1) ∧ (∀ e ∈ es, Rd H e.1 (.tup [.str e.2.1, e.2.2])) ∧ es.map (·.2.1) = rs.map (·.1) ∧ A2 (fun (kv : L2.Key × V) (u : Str × Lot) => kv.1 = Sum.inr u.1 ∧ Dl H kv.2 (encL u.2)) (es.map fun e => ((Sum.inr e.2.1 : L2.Key), e.2.2)) rs
  | [], _, h => by cases h; exact ⟨[], rfl, fun e he => by simp at he, rfl, .nil⟩
  | u :: rs, _, h => by
    cases h with
    | cons r h =>
      obtain ⟨es, e1, e2, e3, e4⟩ := pairsU_of h
      have r : Dl H _ (.tuple [.str u.1, encL u.2]) := r
      cases r with
      | @tup T ys _ hT hy =>
        obtain ⟨y, z, rfl, hy, hz⟩ := dl2 hy
        cases hy
        refine ⟨(T, u.1, z) :: es, by rw [e1]; rfl, fun e he => ?_, by rw [List.map_cons, List.map_cons, e3], .cons ⟨rfl, hz⟩ e4⟩
        rcases List.mem_cons.mp he with rfl | he
        · exact hT
        · exact e2 e he
theorem nodup_rels {s : List Part} (w : WfS s) : (s.map (·.rel)).Nodup := nodup_of_asc rLt_irrefl w.asc
theorem nodup_names {rs : Rules} (w : WfRs rs) : (rs.map (·.1)).Nodup := nodup_of_asc sLt_irrefl w.asc
section
variable {X : Cx} {a b c e o i : Expr} {es : List Expr} {σ : L2.St} {H : Hp} {pos p : Pos} {s : List Part} {rs : Rules} {r : Rel} {n : Str} {pt : Part} {lt : Lot}
/-- dict(list of pairs) -/
theorem erv_dictT (hcal : X.calm = true) (hu : X.A.units + 64 < cLine) (hm : X.mg "dict" = none) (w : WfS s) (h : EvR X e σ H fun H v => Ls [] Pr H v s) (hg : Gl X "dict" := by rfl) (he : starEach [e] X.env = (false, eval e X.env) :: starEach [] X.env := by rfl) (hpl : (backTo pos (starEach [] X.env)).any (·.1) = false := by rfl) :
    EvR X (.Call (.Name "dict" p) [e] [] pos) σ H fun H v => Dk H v s := fun H1 s1 Q q =>
  do_callTy (cr_dictT hu hcal) hm (by decide +kernel) (da_cons (h H1 s1 _ fun v H2 s2 r => da_nil (by
    obtain ⟨c, xs, rfl, _, hc, ha⟩ := r
    obtain ⟨es, rfl, e2, e3, e4⟩ := pairs_of ha
    refine ⟨c, es, rfl, hc, e2, by rw [e3]; exact nodup_rels w, ?_, fun p hp => q _ _ (s2.trans (same_new hp)) ⟨p, _, rfl, upd_same, e4.imp fun kv pt h => ⟨h.1, (stb_rp pt).same (same_new hp) h.2⟩⟩⟩
    have l1 : es.length = s.length := by
      have := congrArg List.length e3
      rwa [List.length_map, List.length_map] at this
    have := w.few
    omega)) he) hg (by decide) (by decide) he hpl
/-- dict(tuple of rules) -/
theorem erv_dictF (hcal : X.calm = true) (hm : X.mg "dict" = none) (w : WfRs rs) (h : EvR X e σ H fun H v => Ru H v rs) (hg : Gl X "dict" := by rfl) (he : starEach [e] X.env = (false, eval e X.env) :: starEach [] X.env := by rfl) (hpl : (backTo pos (starEach [] X.env)).any (·.1) = false := by rfl) :
    EvR X (.Call (.Name "dict" p) [e] [] pos) σ H fun H v => Du H v rs := fun H1 s1 Q q =>
  do_callTy (cr_dictF hcal) hm (by decide +kernel) (da_cons (h H1 s1 _ fun v H2 s2 r => da_nil (by
    obtain ⟨c, o, xs, rfl, hc, hd, ha⟩ := r
    obtain ⟨es, rfl, e2, e3, e4⟩ := pairsU_of ha
    refine ⟨c, o, es, rfl, hc, hd, e2, by rw [e3]; exact nodup_names w, ?_, fun p hp => q _ _ (s2.trans (same_new hp)) ⟨p, _, rfl, upd_same, e4.imp fun kv pt h => ⟨h.1, h.2.mono (same_new hp)⟩⟩⟩
    have l1 : es.length = rs.length := by
      have := congrArg List.length e3
      rwa [List.length_map, List.length_map] at this
    have := rules_few w
    omega)) he) hg (by decide) (by decide) he hpl
theorem erv_dgetT (hu : X.A.units + 64 < cLine) (ho : EvR X o σ H fun H v => Dk H v s) (hi : EvR X i σ H fun H v => Rr H v r) (hp : partAt s r = some pt) (hs : NoSl i := by exact fun _ _ => rfl) : EvR X (.Subscript o i pos) σ H fun H v => Rp H v pt := fun H1 s1 Q q =>
  DoE.of (pe_dget (Nat.lt_of_le_of_lt (by omega) hu) DoE.pe DoE.pe hs) (ho H1 s1 _ fun u H2 s2 ru => hi H2 (s1.trans s2) _ fun v H3 s3 rv => by
    obtain ⟨D, kvs, rfl, hD, ha⟩ := (stb_dk s).same s3 ru
    obtain ⟨c, rfl, hc⟩ := rv
    rcases dk_val ha r with ⟨e, _⟩ | ⟨p, v, e, hv, rp⟩
    · rw [e] at hp; cases hp
    · rw [e] at hp
      cases hp
      exact ⟨D, v, rfl, hv ▸ DGet.t hD hc, q v H3 (s2.trans s3) rp⟩)
theorem ev_dgetU (hu : X.A.units + 64 < cLine) (ho : EvR X o σ H fun H v => Du H v rs) (hi : EvD X i σ H (.str n)) (hp : lotIn rs n = some lt) (hs : NoSl i := by exact fun _ _ => rfl) : EvD X (.Subscript o i pos) σ H (encL lt) := fun H1 s1 Q q =>
  DoE.of (pe_dget (Nat.lt_of_le_of_lt (by omega) hu) DoE.pe DoE.pe hs) (ho H1 s1 _ fun u H2 s2 ru => hi H2 (s1.trans s2) _ fun v H3 s3 rv => by
    obtain ⟨D, kvs, rfl, hD, ha⟩ := (stb_du rs).same s3 ru
    cases rv
    rcases du_val ha n with ⟨e, _⟩ | ⟨p, v, e, hv, rp⟩
    · rw [e] at hp; cases hp
    · rw [e] at hp
      cases hp
      exact ⟨D, v, rfl, hv ▸ DGet.k (k := Sum.inr n) hD, q v H3 (s2.trans s3) rp⟩)
theorem et_dinT (hu : X.A.units + 64 < cLine) (hi : EvR X i σ H fun H v => Rr H v r) (ho : EvR X o σ H fun H v => Dk H v s) (hm : behindInMarks .In o = false := by rfl) : EvT X (.Compare i [.In] [o] pos) σ H (partAt s r).isSome := fun H1 s1 Q q =>
  DoT.of (pt_cmp (pc_din (Nat.lt_of_le_of_lt (by omega) hu) DoE.pe DoE.pe) hm) (hi H1 s1 _ fun v H2 s2 rv => ho H2 (s1.trans s2) _ fun u H3 s3 ru => by
    obtain ⟨D, kvs, rfl, hD, ha⟩ := ru
    obtain ⟨c, rfl, hc⟩ := (stb_rr r).same s3 rv
    refine ⟨D, _, rfl, DGet.t (k := keyR r) hD hc, _, rfl, ?_⟩
    have e : (valV kvs (keyR r)).isSome = (partAt s r).isSome := by rcases dk_val ha r with ⟨e1, e2⟩ | ⟨p, v, e1, e2, _⟩ <;> rw [e1, e2] <;> rfl
    rw [e]
    exact q H3 (s2.trans s3))
theorem et_dninT (hu : X.A.units + 64 < cLine) (hi : EvR X i σ H fun H v => Rr H v r) (ho : EvR X o σ H fun H v => Dk H v s) (hm : behindInMarks .NotIn o = false := by rfl) : EvT X (.Compare i [.NotIn] [o] pos) σ H (!(partAt s r).isSome) := fun H1 s1 Q q =>
  DoT.of (pt_cmp (pc_dnotin (Nat.lt_of_le_of_lt (by omega) hu) DoE.pe DoE.pe) hm) (hi H1 s1 _ fun v H2 s2 rv => ho H2 (s1.trans s2) _ fun u H3 s3 ru => by
    obtain ⟨D, kvs, rfl, hD, ha⟩ := ru
    obtain ⟨c, rfl, hc⟩ := (stb_rr r).same s3 rv
    refine ⟨D, _, rfl, DGet.t (k := keyR r) hD hc, _, rfl, ?_⟩
    have e : (valV kvs (keyR r)).isSome = (partAt s r).isSome := by rcases dk_val ha r with ⟨e1, e2⟩ | ⟨p, v, e1, e2, _⟩ <;> rw [e1, e2] <;> rfl
    rw [e]
    exact q H3 (s2.trans s3))
theorem et_dinU (hu : X.A.units + 64 < cLine) (hi : EvD X i σ H (.str n)) (ho : EvR X o σ H fun H v => Du H v rs) (hm : behindInMarks .In o = false := by rfl) : EvT X (.Compare i [.In] [o] pos) σ H (lotIn rs n).isSome := fun H1 s1 Q q =>
  DoT.of (pt_cmp (pc_din (Nat.lt_of_le_of_lt (by omega) hu) DoE.pe DoE.pe) hm) (hi H1 s1 _ fun v H2 s2 rv => ho H2 (s1.trans s2) _ fun u H3 s3 ru => by
    obtain ⟨D, kvs, rfl, hD, ha⟩ := ru
    cases rv
    refine ⟨D, _, rfl, DGet.k (k := Sum.inr n) hD, _, rfl, ?_⟩
    have e : (valV kvs (Sum.inr n)).isSome = (lotIn rs n).isSome := by rcases du_val ha n with ⟨e1, e2⟩ | ⟨p, v, e1, e2, _⟩ <;> rw [e1, e2] <;> rfl
    rw [e]
    exact q H3 (s2.trans s3))
theorem et_dninU (hu : X.A.units + 64 < cLine) (hi : EvD X i σ H (.str n)) (ho : EvR X o σ H fun H v => Du H v rs) (hm : behindInMarks .NotIn o = false := by rfl) : EvT X (.Compare i [.NotIn] [o] pos) σ H (!(lotIn rs n).isSome) := fun H1 s1 Q q =>
  DoT.of (pt_cmp (pc_dnotin (Nat.lt_of_le_of_lt (by omega) hu) DoE.pe DoE.pe) hm) (hi H1 s1 _ fun v H2 s2 rv => ho H2 (s1.trans s2) _ fun u H3 s3 ru => by
    obtain ⟨D, kvs, rfl, hD, ha⟩ := ru
    cases rv
    refine ⟨D, _, rfl, DGet.k (k := Sum.inr n) hD, _, rfl, ?_⟩
    have e : (valV kvs (Sum.inr n)).isSome = (lotIn rs n).isSome := by rcases du_val ha n with ⟨e1, e2⟩ | ⟨p, v, e1, e2, _⟩ <;> rw [e1, e2] <;> rfl
    rw [e]
    exact q H3 (s2.trans s3))
/-! parts taken apart -/
theorem erv_rel (h : EvR X a σ H fun H v => Rp H v pt) {jj pos'} : EvR X (.Subscript a (.Constant (.int 0) jj pos') pos) σ H fun H v => Rr H v pt.rel :=
  erv_ix h ev_int (stb_rp pt) fun H v ⟨c, x, u, l, e, hc, h1, h2, h3⟩ => ⟨c, _, x, e, hc, atI_nat (j := 0) rfl, h1⟩
theorem erv_rules (h : EvR X a σ H fun H v => Rp H v pt) {jj pos'} : EvR X (.Subscript a (.Constant (.int 1) jj pos') pos) σ H fun H v => Ru H v pt.rules :=
  erv_ix h ev_int (stb_rp pt) fun H v ⟨c, x, u, l, e, hc, h1, h2, h3⟩ => ⟨c, _, u, e, hc, atI_nat (j := 1) rfl, h2⟩
theorem ev_first (h : EvR X a σ H fun H v => Rp H v pt) {jj pos'} : EvD X (.Subscript a (.Constant (.int 2) jj pos') pos) σ H (.int pt.first) :=
  erv_ix h ev_int (stb_rp pt) fun H v ⟨c, x, u, l, e, hc, h1, h2, h3⟩ => ⟨c, _, _, e, hc, atI_nat (j := 2) rfl, .int _⟩
theorem ev_last (h : EvR X a σ H fun H v => Rp H v pt) {jj pos'} : EvD X (.Subscript a (.Constant (.int 3) jj pos') pos) σ H (encO pt.last) :=
  erv_ix h ev_int (stb_rp pt) fun H v ⟨c, x, u, l, e, hc, h1, h2, h3⟩ => ⟨c, _, l, e, hc, atI_nat (j := 3) rfl, h3⟩
/-- sorted(set(e)), a new list -/
def Rt (_ : Hp) (v : V) (x : Str) : Prop := v = .str x
theorem stb_rt (x : Str) : Stb fun H v => Rt H v x := fun _ _ _ _ h => h
theorem a2_strs {H : Hp} : ∀ {xs : List Str}, A2 (Rt H) (xs.map V.str) xs
  | [] => .nil
  | _ :: _ => .cons rfl a2_strs
theorem erv_sortset {xs : List Str} {p2 pos2 : Pos} (S : List Addr) (hS : ∀ x ∈ S, H x ≠ none) (hcal : X.calm = true) (hu : X.A.units + 64 < cLine) (hm : X.mg "sorted" = none) (hm2 : X.mg "set" = none) (h : EvD X e σ H (.list (xs.map .str))) (few : xs.length < 64) (hg : Gl X "sorted" := by rfl) (hg2 : Gl X "set" := by rfl)
    (he : starEach [.Call (.Name "set" p2) [e] [] pos2] X.env = (false, eval (.Call (.Name "set" p2) [e] [] pos2) X.env) :: starEach [] X.env := by rfl) (he2 : starEach [e] X.env = (false, eval e X.env) :: starEach [] X.env := by rfl)
    (hpl : (backTo pos (starEach [] X.env)).any (·.1) = false := by rfl) (hpl2 : (backTo pos2 (starEach [] X.env)).any (·.1) = false := by rfl) : EvR X (.Call (.Name "sorted" p) [.Call (.Name "set" p2) [e] [] pos2] [] pos) σ H (fun H v => Ls S Rt H v (sortSet xs)) := fun H1 s1 Q q =>
  do_callB (cr_sortTx hcal hu) hm (by decide +kernel) (da_cons (do_callTy (cr_setTx hcal) hm2 (by decide +kernel) (da_cons (h H1 s1 _ fun v H2 s2 r => da_nil (by
    cases r with
    | lst ha hd =>
      have e1 := DlAll.strs hd
      subst e1
      refine ⟨_, xs, rfl, ha, by omega, fun p ks hl hk hp => da_nil ⟨p, ks, rfl, upd_same, by omega, fun b hb => ?_⟩⟩
      rw [sortSet_congr hk]
      refine q _ _ ((s2.trans (same_new hp)).trans (same_new hb)) ⟨b, _, rfl, fun hbS => ?_, upd_same, a2_strs⟩
      cases e : H b with
      | none => exact hS b hbS e
      | some u => rw [((s1.trans s2).trans (same_new hp)) _ _ e] at hb; cases hb)) he2) hg2 (by decide) (by decide) he2 hpl2) he) hg (by decide) (by decide) he hpl
end
end Lk
namespace Lk
open PySem PySem.Spec PyProof.Rows L2
section
variable {α β : Type} {X : Cx} {elt tg iter : Expr} {ifs : List Expr} {scope : Scope} {g : TG} {σ : L2.St} {H : Hp} {pos p p1 p2 p3 spos py : Pos} {x y : Str} {D : Ends} {v : V} {R : Hp → V → Prop}
theorem erv_v (i : Nat) (hs : σ[i]? = some (some v)) (st : Stb R) (r : R H v) (hN : X.N[i]? = some x := by rfl) (hv : Vis X.env.scope x := by first | exact .inl rfl | exact .inr (.inl rfl) | exact .inr (.inr rfl)) (hd : (x == ("__debug__" : Str)) = false := by decide)
    (hcd : (x == ("__classdict__" : Str)) = false := by decide) : EvR X (.Name x pos) σ H R := erv_var i hs (fun H' s => st.same s r) hN hv hd hcd
theorem erv_lc0 (j : Nat) (R : Hp → V → α → Prop) (Ro : Hp → V → β → Prop) (l : List α) (fe : α → β) (so : ∀ b, Stb fun H v => Ro H v b) (hc : X.calm = true) (hN : X.N.Nodup) (ok : BlkOk X.N X.env.scope scope [(x, j)]) (hi : EvIR [] X (.Name x p) iter σ H R l) (hw : ∀ v, wipe ((wipe σ [j]).set j (some v)) [j] = wipe σ [j]) (hz : l.length ≤ 1000000)
    (he : ∀ d v H', d ∈ l → Same H H' → R H' v d → ∀ (s : Shared) (H0 : Hp) (C : Addr) (cl : List (Str × Addr)) (fp : List Addr), EvR (X.blk s H0 scope (compEnvC scope cl C X.env) fp) elt ((wipe σ [j]).set j (some v)) H' (fun H v => Ro H v (fe d)))
    (hx2 : ∀ (s : Shared) (H : Hp) (C : Addr) (cl : List (Str × Addr)) (fp : List Addr), (X.blk s H scope (compEnvC scope cl C X.env) fp).env.scope.names.lookup x = some .local := by intro _ _ _ _ _; rfl) (hj : X.N[j]? = some x := by rfl) (hs : ∀ x, foldedSetIterable iter X.env x = pure x := by intro _; rfl) :
    EvR X (.ListComp elt [⟨.Name x p, iter, [], 0⟩] scope pos) σ H (fun H v => Ls [] Ro H v (l.map fe)) := by
  have h := erv_lc (ifs := []) (pos := pos) j R Ro l (fun _ => true) fe so hc hN ok hi hw hz (fun _ _ _ _ _ _ _ _ _ _ _ => ets_nil) (fun d v H' hd s r _ => he d v H' hd s r) hx2 hj hs
  have e : l.filter (fun _ => true) = l := List.filter_eq_self.mpr fun _ _ => rfl
  rw [e] at h
  exact h
/-- y = [..] on one line -/
theorem ds_setLcR (i j : Nat) (R : Hp → V → α → Prop) (Ro : Hp → V → β → Prop) (l : List α) (fb : α → Bool) (fe : α → β) (so : ∀ b, Stb fun H v => Ro H v b) (hc : X.calm = true) (hN : X.N.Nodup) (ok : BlkOk X.N X.env.scope scope [(x, j)]) (hi : EvIR [] X (.Name x p) iter σ H R l) (hw : ∀ v, wipe ((wipe σ [j]).set j (some v)) [j] = wipe σ [j]) (hz : l.length ≤ 1000000)
    (ht : ∀ d v H', d ∈ l → Same H H' → R H' v d → ∀ (s : Shared) (H0 : Hp) (C : Addr) (cl : List (Str × Addr)) (fp : List Addr), EvTs (X.blk s H0 scope (compEnvC scope cl C X.env) fp) ifs ((wipe σ [j]).set j (some v)) H' (fb d))
    (he : ∀ d v H', d ∈ l → Same H H' → R H' v d → fb d = true → ∀ (s : Shared) (H0 : Hp) (C : Addr) (cl : List (Str × Addr)) (fp : List Addr), EvR (X.blk s H0 scope (compEnvC scope cl C X.env) fp) elt ((wipe σ [j]).set j (some v)) H' (fun H v => Ro H v (fe d)))
    (q : ∀ A zs H1, Same H H1 → H A = none → H1 A = some (.lst zs) → A2 (Ro H1) zs ((l.filter fb).map fe) → D.nx (σ.set i (some (.ref A))) H1)
    (hx2 : ∀ (s : Shared) (H : Hp) (C : Addr) (cl : List (Str × Addr)) (fp : List Addr), (X.blk s H scope (compEnvC scope cl C X.env) fp).env.scope.names.lookup x = some .local := by intro _ _ _ _ _; rfl) (hj : X.N[j]? = some x := by rfl) (hs : ∀ x, foldedSetIterable iter X.env x = pure x := by intro _; rfl)
    (hy : X.N[i]? = some y := by rfl) (hyl : X.env.scope.names.lookup y = some .local := by rfl)
    (hsw : swapsWith (.ListComp elt [⟨.Name x p, iter, ifs, 0⟩] scope pos) (some (.Name y py)) spos.line X.env = pure true := by rfl) :
    DoS X (.Assign [.Name y py] (.ListComp elt [⟨.Name x p, iter, ifs, 0⟩] scope pos) spos) D σ H :=
  ds_setLc i (own := [(x, j)]) (g := gName j) hc hN hy hyl hsw ok (fun s H C cl fp => pg_name hN hj (.inl (hx2 s H C cl fp)) (.inr (hx2 s H C cl fp))) (lc_R (vs := [j]) R Ro l fb fe so hi hz (fun d v H' hd s r => ⟨_, fun Q' h => h, hw v, ht d v H' hd s r, fun hb => he d v H' hd s r hb⟩) H (Same.refl H) _ q) hs
end
theorem kb0 {H H' : Hp} (h : Kb [] H H') : Same H H' := Kb.same h fun x hx => nomatch hx
theorem map_self {α : Type} (l : List α) : l.map (fun p => p) = l := List.map_id' l
/-! ### what stands; what is inside -/
def sp_stands : Sp := fun vs H Q _ => ∃ v lk day s k, vs = [v, .int day, lk] ∧ Rs H v s ∧ Rk H lk k ∧ WfS s ∧ k.length ≤ 1000 ∧ ∀ H', Same H H' → Q (.bl (standsP s day k)) H'
def sp_inside : Sp := fun vs H Q _ => ∃ v w one two, vs = [v, w] ∧ Rs H v one ∧ Rs H w two ∧ WfS one ∧ WfS two ∧ ∀ H', Same H H' → Q (.bl (isWithin one two)) H'
section
variable {P : Program} {w : World} {K : PySem.W.Frag} {mg : Str → Option Value} {base : Heap}
theorem ok_stands (T : Tops K mg) : Good P w K mg base 2 "_law_stands" ["_law_shelf_so", "_law_day_so", "_law_lock_so"] sp_stands := by
  have G1 := ok_on_day (P := P) (w := w) (base := base) T
  have G2 := ok_state (P := P) (w := w) (base := base) T
  refine good_of T.d_law_stands sc_law_stands (fun vs H Q E h => by obtain ⟨v, lk, day, s, k, rfl, _⟩ := h; rfl) fun f cdv A outer s0 H vs Q E hr h => ?_
  obtain ⟨v, lk, day, s, k, rfl, rv, rl, ws, hlen, q⟩ := h
  have nd := sc_law_stands.nd
  have few := ws.few
  refine dss_cons (ds_set 3 nd (EvR.go (erv_dictT rfl hr.units T.b_dict ws (EvR.imp (erv_lc0 4 Rp Pr s (fun p => p) stb_pr rfl nd (blkOk_by (N := n_law_stands) (sc := defScope s_law_stands) (by decide +kernel)) (eir_tup stb_rp (erv_v 0 rfl (stb_rs s) rv)) (fun _ => rfl) (by omega)
    (fun p z H' hp sm rz s0 H0 C cl fp => erv_tup2 (erv_rel (erv_v 4 rfl (stb_rp p) rz)) (erv_v 4 rfl (stb_rp p) rz) (stb_rr _) (stb_rp _))) (fun H v h => by rw [map_self] at h; exact h))) fun kn H1 s1 rk => ?_))
  refine dss_cons (ds_forR .never rfl (pg_name nd (i := 4) rfl (by first | exact .inl rfl | exact .inr rfl)) (EvIR.go (S := []) (eir_tup stb_rr (erv_v 2 rfl (stb_rk k) ((stb_rk k).same s1 rl))) fun J H2 s2 Y => ?_))
  refine walkedR [] Rr k (fun r σ' H' => Kb [] H2 H' ∧ (∃ o, σ' = [some v, some (.int day), some lk, some kn, o, none, none]) ∧ standsP s day k = r.all (stand1 s day k)) Y ⟨Kb.refl, ⟨none, rfl⟩, rfl⟩ (fun r σ' H' h => h.1) ?_ ?_
  · rintro r l x σ' H' H'' hr' ⟨kb, ⟨o, rfl⟩, e⟩ s3 rx
    have sH : Same H H'' := ((s1.trans s2).trans (kb0 kb)).trans s3
    have s1H : Same H1 H'' := (s2.trans (kb0 kb)).trans s3
    have rk3 := (stb_dk s).same s1H rk
    cases hpa : partAt s r with
    | none =>
      refine dss_cons (ds_ifT (k := true) (EvT.is (et_w (ew_or (k' := true) (et_dninT hr.units (erv_v 4 rfl (stb_rr r) rx) (erv_v 3 rfl (stb_dk s) rk3)) fun z => by rw [hpa] at z; cases z)) (by rw [hpa]; rfl)) (fun _ H4 s4 => dss_one (ds_retD ev_bl fun z H5 s5 rz => ?_)) fun z => nomatch z)
      cases rz
      have : standsP s day k = false := by
        unfold standsP
        rw [List.all_eq_false]
        exact ⟨r, hr', by unfold stand1; rw [hpa]; exact Bool.false_ne_true⟩
      rw [this] at q
      exact q H5 ((sH.trans s4).trans s5)
    | some p =>
      have hin := partAt_some hpa
      have few2 := rules_few (ws.part p hin.1).rules
      have rl3 : Dl H'' lk (encK k) := ((stb_rk k).same sH rl).dl
      have v1 : stand1 s day k r = (onDay p day && p.rules.all fun u => decide (stateOf k u.1 ∈ u.2)) := by unfold stand1; rw [hpa]
      have bad : stand1 s day k r = false → standsP s day k = false := fun h => by
        unfold standsP
        rw [List.all_eq_false]
        exact ⟨r, hr', by rw [h]; decide⟩
      refine dss_cons (ds_ifT (k := !onDay p day) (EvT.is (et_w (ew_or (et_dninT hr.units (erv_v 4 rfl (stb_rr r) rx) (erv_v 3 rfl (stb_dk s) rk3)) fun _ => ew_or1 (et_not (et_val (ev_call G1 hr (eva2 (EvR.toD (erv_dgetT hr.units (erv_v 3 rfl (stb_dk s) rk3) (erv_v 4 rfl (stb_rr r) rx) hpa) fun H v h => h.dl) (ev_var 1 rfl (.int day))) ⟨p, day, rfl, rfl⟩))))) (by rw [hpa]; rfl)) (fun hk H4 s4 => dss_one (ds_retD ev_bl fun z H5 s5 rz => ?_)) fun hk H4 s4 => dss_nil ?_)
      · cases rz
        rw [bad (by rw [v1]; cases ho : onDay p day with | true => rw [ho] at hk; cases hk | false => rfl)] at q
        exact q H5 ((sH.trans s4).trans s5)
      · have hon : onDay p day = true := by simpa using hk
        have rk4 := (stb_dk s).same s4 rk3
        have rx4 := (stb_rr r).same s4 rx
        have rl4 := rl3.mono s4
        have em : (p.rules.filter fun u => !decide (stateOf k u.1 ∈ u.2)).map (fun _ => PyData.int 1) = ((p.rules.filter fun u => !decide (stateOf k u.1 ∈ u.2)).map (fun _ => (1 : Int))).map PyData.int := by rw [List.map_map]; rfl
        refine dss_one (ds_ifT (et_ne hr.units (EvD.is (ev_lcPA 5 6 (fun u : Str × Lot => .str u.1) (fun u => encL u.2) p.rules (fun u => !decide (stateOf k u.1 ∈ u.2)) (fun _ => .int 1) rfl nd (blkOk_by (N := n_law_stands) (sc := defScope s_law_stands) (by decide +kernel))
          (ei_tup (EvR.toD (erv_rules (erv_dgetT hr.units (erv_v 3 rfl (stb_dk s) rk4) (erv_v 4 rfl (stb_rr r) rx4) hpa)) fun H v h => h.dl)) (fun _ _ => rfl) (by omega) (fun _ _ _ => rfl)
          (fun u y z H' hu sm r1 r2 s0 H0 C cl fp => ets_one (et_ninI (ev_call G2 hr (eva2 (ev_var 2 rfl (rl4.mono sm)) (ev_var 5 rfl r1)) ⟨k, u.1, rfl, hlen, rfl⟩) (ev_var 6 rfl r2))) fun u y z H' hu sm r1 r2 _ s0 H0 C cl fp => ev_int) (by rw [em])) ev_nilL (shaped_intsL _) shaped_nilL) (fun hk H5 s5 => dss_one (ds_retD ev_bl fun z H6 s6 rz => ?_)) fun hk H5 s5 => dss_nil ⟨kb.trans (Same.kb ((s3.trans s4).trans s5)), ⟨_, rfl⟩, ?_⟩)
        · cases rz
          have hall : (p.rules.all fun u => decide (stateOf k u.1 ∈ u.2)) = false := by
            rw [eqv_nilL] at hk
            cases h : p.rules.all fun u => decide (stateOf k u.1 ∈ u.2) with
            | false => rfl
            | true =>
              have : p.rules.filter (fun u => !decide (stateOf k u.1 ∈ u.2)) = [] := List.filter_eq_nil_iff.mpr fun u hu => by
                have := List.all_eq_true.mp h u hu
                simpa using this
              rw [this] at hk
              cases hk
          rw [bad (by rw [v1, hall, Bool.and_false])] at q
          exact q H6 (((sH.trans s4).trans s5).trans s6)
        · have hall : (p.rules.all fun u => decide (stateOf k u.1 ∈ u.2)) = true := by
            rw [eqv_nilL] at hk
            have hk : (p.rules.filter (fun u => !decide (stateOf k u.1 ∈ u.2))) = [] := by simpa using hk
            rw [List.filter_eq_nil_iff] at hk
            exact List.all_eq_true.mpr fun u hu => by simpa using hk u hu
          rw [e, List.all_cons, v1, hon, hall]
          rfl
  · rintro σ' H' ⟨kb, ⟨o, rfl⟩, e⟩
    refine dss_one (ds_retD ev_bl fun z H3 s3 rz => ?_)
    cases rz
    rw [e, List.all_nil] at q
    exact q H3 (((s1.trans s2).trans (kb0 kb)).trans s3)
theorem ok_inside (T : Tops K mg) : Good P w K mg base 1 "_law_inside" ["_law_one_so", "_law_two_so"] sp_inside := by
  refine good_of T.d_law_inside sc_law_inside (fun vs H Q E h => by obtain ⟨v, w, one, two, rfl, _⟩ := h; rfl) fun f cdv A outer s0 H vs Q E hr h => ?_
  obtain ⟨v, w', one, two, rfl, r1, r2, w1, w2, q⟩ := h
  have nd := sc_law_inside.nd
  have few := w2.few
  refine dss_cons (ds_set 2 nd (EvR.go (erv_dictT rfl hr.units T.b_dict w2 (EvR.imp (erv_lc0 3 Rp Pr two (fun p => p) stb_pr rfl nd (blkOk_by (N := n_law_inside) (sc := defScope s_law_inside) (by decide +kernel)) (eir_tup stb_rp (erv_v 1 rfl (stb_rs two) r2)) (fun _ => rfl) (by omega)
    (fun p z H' hp sm rz s0 H0 C cl fp => erv_tup2 (erv_rel (erv_v 3 rfl (stb_rp p) rz)) (erv_v 3 rfl (stb_rp p) rz) (stb_rr _) (stb_rp _))) (fun H v h => by rw [map_self] at h; exact h))) fun kn H1 s1 rk => ?_))
  refine dss_cons (ds_forR .never rfl (pg_name nd (i := 3) rfl (by first | exact .inl rfl | exact .inr rfl)) (EvIR.go (S := []) (eir_tup stb_rp (erv_v 0 rfl (stb_rs one) ((stb_rs one).same s1 r1))) fun J H2 s2 Y => ?_))
  refine walkedR [] Rp one (fun r σ' H' => Kb [] H2 H' ∧ (∃ o3 o4 o5 o6 o7, σ' = [some v, some w', some kn, o3, o4, o5, o6, o7, none]) ∧ isWithin one two = r.all fun p => partWithin p (partAt two p.rel)) Y ⟨Kb.refl, ⟨none, none, none, none, none, rfl⟩, rfl⟩ (fun r σ' H' h => h.1) ?_ ?_
  · rintro p l x σ' H' H'' hp ⟨kb, ⟨o3, o4, o5, o6, o7, rfl⟩, e⟩ s3 rx
    have sH : Same H H'' := ((s1.trans s2).trans (kb0 kb)).trans s3
    have kbH : Kb [] H2 H'' := kb.trans (Same.kb s3)
    have rk3 := (stb_dk two).same ((s2.trans (kb0 kb)).trans s3) rk
    have wp := w1.part p hp
    have bad : partWithin p (partAt two p.rel) = false → isWithin one two = false := fun h => by
      unfold isWithin
      rw [List.all_eq_false]
      exact ⟨p, hp, by rw [h]; exact Bool.false_ne_true⟩
    cases hpa : partAt two p.rel with
    | none =>
      refine dss_cons (ds_ifT (k := true) (EvT.is (et_dninT hr.units (erv_rel (erv_v 3 rfl (stb_rp p) rx)) (erv_v 2 rfl (stb_dk two) rk3)) (by rw [hpa]; rfl)) (fun _ H4 s4 => dss_one (ds_retD ev_bl fun z H5 s5 rz => ?_)) fun z => nomatch z)
      cases rz
      rw [bad (by rw [hpa]; rfl)] at q
      exact q H5 ((sH.trans s4).trans s5)
    | some t =>
      have hin := partAt_some hpa
      have wt := w2.part t hin.1
      have val : partWithin p (partAt two p.rel) = (decide (t.first ≤ p.first) && rulesWithin p.rules t.rules && lastWithin p.last t.last) := by rw [hpa]; rfl
      refine dss_cons (ds_ifT (k := false) (EvT.is (et_dninT hr.units (erv_rel (erv_v 3 rfl (stb_rp p) rx)) (erv_v 2 rfl (stb_dk two) rk3)) (by rw [hpa]; rfl)) (fun z => nomatch z) fun _ H4 s4 => dss_nil ?_)
      have rx := (stb_rp p).same s4 rx
      refine dss_cons (ds_set 4 nd (EvR.go (erv_dgetT hr.units (erv_v 2 rfl (stb_dk two) ((stb_dk two).same s4 rk3)) (erv_rel (erv_v 3 rfl (stb_rp p) rx)) hpa) fun it H5 s5 ri => ?_))
      have rx := (stb_rp p).same s5 rx
      refine dss_cons (ds_set 5 nd (EvR.go (erv_dictF rfl T.b_dict wp.rules (erv_rules (erv_v 3 rfl (stb_rp p) rx))) fun lo H6 s6 rlo => ?_))
      have rx := (stb_rp p).same s6 rx
      have ri := (stb_rp t).same s6 ri
      have s46 := (s4.trans s5).trans s6
      refine dss_cons (ds_ifT (k := decide (p.first < t.first) || !lastWithin p.last t.last) (et_w (ew_or (et_gt (ev_first (erv_v 4 rfl (stb_rp t) ri)) (ev_first (erv_v 3 rfl (stb_rp p) rx))) fun _ => ew_or1 (et_w (?_)))) (fun hk H7 s7 => dss_one (ds_retD ev_bl fun z H8 s8 rz => ?_)) fun hk H7 s7 => dss_nil ?_)
      · cases hl : t.last with
        | none => exact EvW.is (ew_and (k' := true) (et_notN (EvD.is (ev_last (erv_v 4 rfl (stb_rp t) ri)) (show encO t.last = .none by rw [hl]; rfl))) fun z => nomatch z) rfl
        | some b =>
          cases hm : p.last with
          | none => exact EvW.is (ew_and (et_notN (EvD.is (ev_last (erv_v 4 rfl (stb_rp t) ri)) (show encO t.last = .int b by rw [hl]; rfl))) fun _ => ew_and1 (et_w (ew_or (k' := true) (et_isN (EvD.is (ev_last (erv_v 3 rfl (stb_rp p) rx)) (show encO p.last = .none by rw [hm]; rfl))) fun z => nomatch z))) rfl
          | some a =>
            refine EvW.is (ew_and (et_notN (EvD.is (ev_last (erv_v 4 rfl (stb_rp t) ri)) (show encO t.last = .int b by rw [hl]; rfl))) fun _ => ew_and1 (et_w (ew_or (et_isN (EvD.is (ev_last (erv_v 3 rfl (stb_rp p) rx)) (show encO p.last = .int a by rw [hm]; rfl))) fun _ => ew_or1 (et_gt (EvD.is (ev_last (erv_v 3 rfl (stb_rp p) rx)) (show encO p.last = .int a by rw [hm]; rfl)) (EvD.is (ev_last (erv_v 4 rfl (stb_rp t) ri)) (show encO t.last = .int b by rw [hl]; rfl)))))) ?_
            show (true && (false || decide (b < a))) = !decide (a ≤ b)
            by_cases h : b < a
            · rw [decide_eq_true h, decide_eq_false (show ¬ a ≤ b by omega)]; rfl
            · rw [decide_eq_false h, decide_eq_true (show a ≤ b by omega)]; rfl
      · cases rz
        rw [bad (by
          rw [val]
          by_cases h : p.first < t.first
          · rw [decide_eq_false (show ¬ t.first ≤ p.first by omega)]; rfl
          · rw [decide_eq_false h] at hk
            have : lastWithin p.last t.last = false := by simpa using hk
            rw [this, Bool.and_false])] at q
        exact q H8 (((sH.trans s46).trans s7).trans s8)
      · have hf : t.first ≤ p.first := by
          by_cases h : p.first < t.first
          · rw [decide_eq_true h] at hk; cases hk
          · omega
        have hl : lastWithin p.last t.last = true := by
          cases h : lastWithin p.last t.last with
          | true => rfl
          | false => rw [h, Bool.not_false, Bool.or_true] at hk; cases hk
        have val : partWithin p (partAt two p.rel) = rulesWithin p.rules t.rules := by rw [val, hl, decide_eq_true hf, Bool.and_true, Bool.true_and]
        have rlo7 := (stb_du p.rules).same s7 rlo
        have sH7 : Same H H7 := (sH.trans s46).trans s7
        refine dss_one (ds_for .never rfl (pg_pair 6 7 rfl nd) (EvI.go (ei_tup (EvR.toD (erv_rules (erv_v 4 rfl (stb_rp t) ((stb_rp t).same s7 ri))) fun H v h => h.dl)) fun J3 H8 s8 Y3 => ?_))
        refine walkedA encU t.rules Same (fun r σ' H' => Same H8 H' ∧ (∃ o6 o7, σ' = [some v, some w', some kn, some x, some it, some lo, o6, o7, none]) ∧ rulesWithin p.rules t.rules = rulesWithin p.rules r) Y3 ⟨Same.refl _, ⟨o6, o7, rfl⟩, rfl⟩ (fun r σ' H' h => h.1) ?_ ?_
        · rintro u m y σ' H9 H10 hu ⟨sm, ⟨o6, o7, rfl⟩, e2⟩ s10 ry
          refine gpair ry fun y1 y2 ra rb => ?_
          have sA : Same H7 H10 := (s8.trans sm).trans s10
          have rlo10 := (stb_du p.rules).same sA rlo7
          have cons : rulesWithin p.rules (u :: m) = ((match lotIn p.rules u.1 with | none => false | some own => own.all fun x => decide (x ∈ u.2)) && rulesWithin p.rules m) := rfl
          cases hli : lotIn p.rules u.1 with
          | none =>
            rw [hli] at cons
            have cons : rulesWithin p.rules (u :: m) = false := cons
            refine dss_one (ds_ifT (k := true) (EvT.is (et_w (ew_or (k' := true) (et_dninU hr.units (ev_var 6 rfl ra) (erv_v 5 rfl (stb_du _) rlo10)) fun z => by rw [hli] at z; cases z)) (by rw [hli]; rfl)) (fun _ H11 s11 => dss_one (ds_retD ev_bl fun z H12 s12 rz => ?_)) fun z => nomatch z)
            cases rz
            rw [bad (by rw [val, e2, cons])] at q
            exact q H12 (((sH7.trans sA).trans s11).trans s12)
          | some own =>
            rw [hli] at cons
            have cons : rulesWithin p.rules (u :: m) = ((own.all fun x => decide (x ∈ u.2)) && rulesWithin p.rules m) := cons
            have hfew : own.length ≤ 10 := (wp.rules.lot _ (lotIn_some hli)).few
            have em : (own.filter fun x => !decide (x ∈ u.2)).map (fun _ => PyData.int 1) = ((own.filter fun x => !decide (x ∈ u.2)).map (fun _ => (1 : Int))).map PyData.int := by rw [List.map_map]; rfl
            refine dss_one (ds_ifT (k := !(own.all fun x => decide (x ∈ u.2))) (EvT.is (et_w (ew_or (et_dninU hr.units (ev_var 6 rfl ra) (erv_v 5 rfl (stb_du _) rlo10)) fun _ => ew_or1 (et_ne hr.units (EvD.is (ev_lcA 8 PyData.int own (fun x => !decide (x ∈ u.2)) (fun _ => .int 1) rfl nd (blkOk_by (N := n_law_inside) (sc := defScope s_law_inside) (by decide +kernel))
              (ei_tup (EvD.is (ev_dgetU hr.units (erv_v 5 rfl (stb_du _) rlo10) (ev_var 6 rfl ra) hli) rfl)) (fun _ => rfl) (by omega) (fun _ _ _ => rfl) (fun n z H' hn sm' r s0 H0 C cl fp => ets_one (et_ninI (ev_var 8 rfl r) (ev_var 7 rfl (rb.mono sm')))) fun n z H' hn sm' r _ s0 H0 C cl fp => ev_int) (by rw [em])) ev_nilL (shaped_intsL _) shaped_nilL))) ?_)
              (fun hk H11 s11 => dss_one (ds_retD ev_bl fun z H12 s12 rz => ?_)) fun hk H11 s11 => dss_nil ⟨(sm.trans s10).trans s11, ⟨_, _, rfl⟩, ?_⟩)
            · rw [hli, eqv_nilL]
              cases h : own.all fun x => decide (x ∈ u.2) with
              | true =>
                have : own.filter (fun x => !decide (x ∈ u.2)) = [] := List.filter_eq_nil_iff.mpr fun x hx => by
                  have := List.all_eq_true.mp h x hx
                  simpa using this
                rw [this]
                rfl
              | false =>
                cases h2 : own.filter (fun x => !decide (x ∈ u.2)) with
                | cons a b => rfl
                | nil =>
                  rw [List.filter_eq_nil_iff] at h2
                  have : own.all (fun x => decide (x ∈ u.2)) = true := List.all_eq_true.mpr fun x hx => by simpa using h2 x hx
                  rw [this] at h
                  cases h
            · cases rz
              have hk : (own.all fun x => decide (x ∈ u.2)) = false := by simpa using hk
              rw [bad (by rw [val, e2, cons, hk]; rfl)] at q
              exact q H12 (((sH7.trans sA).trans s11).trans s12)
            · have hk : (own.all fun x => decide (x ∈ u.2)) = true := by simpa using hk
              rw [e2, cons, hk, Bool.true_and]
        · rintro σ' H9 ⟨sm, ⟨o6, o7, rfl⟩, e2⟩
          refine ⟨kbH.trans (Same.kb (((s46.trans s7).trans s8).trans sm)), ⟨_, _, _, _, _, rfl⟩, ?_⟩
          have hall : rulesWithin p.rules t.rules = true := e2
          rw [e, List.all_cons, val, hall, Bool.true_and]
  · rintro σ' H' ⟨kb, ⟨o3, o4, o5, o6, o7, rfl⟩, e⟩
    refine dss_one (ds_retD ev_bl fun z H3 s3 rz => ?_)
    cases rz
    rw [e, List.all_nil] at q
    exact q H3 (((s1.trans s2).trans (kb0 kb)).trans s3)
end
end Lk
namespace Lk
open PySem PySem.Spec PyProof.Rows L2
def Op {α : Type} (R : Hp → V → α → Prop) (H : Hp) (v : V) : Option α → Prop
  | none => v = .non
  | some a => R H v a
section
variable {X : Cx} {a b c d e : Expr} {es : List Expr} {σ : L2.St} {H : Hp} {pos p : Pos} {D : Ends} {x y z : Str} {rl : Rel} {rs : Rules} {fi : Int} {la : Option Int}
theorem do_tupF {Q : VK} {G : Hp → List V → Prop} (hm : X.mg "tuple" = none) (h : EvR X e σ H fun H v => ∃ c xs, v = .ref c ∧ H c = some (.lst xs) ∧ G H xs) (sg : ∀ H H' xs, Same H H' → G H xs → G H' xs) (q : ∀ p o xs H1, Same H H1 → o.dict = none → H1 p = some (.frz o (.tup xs)) → G H1 xs → Q (.ref p) H1)
    (hg : Gl X "tuple" := by rfl) (he : starEach [e] X.env = (false, eval e X.env) :: starEach [] X.env := by rfl) (hpl : (backTo pos (starEach [] X.env)).any (·.1) = false := by rfl) : DoE X (.Call (.Name "tuple" p) [e] [] pos) σ H Q :=
  do_callTy cr_tupF hm (by decide +kernel) (da_cons (h.go fun v H2 s2 r => da_nil (by
    obtain ⟨c, xs, rfl, hc, hG⟩ := r
    exact ⟨c, xs, rfl, hc, fun p o hp ho => q p o xs _ (s2.trans (same_new hp)) ho upd_same (sg _ _ _ (same_new hp) hG)⟩)) he) hg (by decide) (by decide) he hpl
theorem ds_par3 (i j l : Nat) {px py pz pt : Pos} {kt k2 pt2} (hc : X.calm = true) (hN : X.N.Nodup) (h : DoA X [a, b, c] σ H fun vs H1 => ∃ u v w, vs = [u, v, w] ∧ D.nx (((σ.set i (some u)).set j (some v)).set l (some w)) H1) (hij : i ≠ j := by decide) (hil : i ≠ l := by decide) (hjl : j ≠ l := by decide) (hi : X.N[i]? = some x := by rfl) (hj : X.N[j]? = some y := by rfl) (hl : X.N[l]? = some z := by rfl)
    (hx : X.env.scope.names.lookup x = some .local := by rfl) (hy : X.env.scope.names.lookup y = some .local := by rfl) (hz : X.env.scope.names.lookup z = some .local := by rfl)
    (hw : swappedStores [.Tuple [.Name x px, .Name y py, .Name z pz] kt pt] (.Tuple [a, b, c] k2 pt2) X.env = pure (some [x, y, z]) := by rfl)
    (hs : swapsWithSole [.Tuple [.Name x px, .Name y py, .Name z pz] kt pt] (.Tuple [a, b, c] k2 pt2) pos.line X.env = pure false := by rfl) : DoS X (.Assign [.Tuple [.Name x px, .Name y py, .Name z pz] kt pt] (.Tuple [a, b, c] k2 pt2) pos) D σ H :=
  DoS.of (ps_par3 hc hN hi hj hl hij hil hjl hx hy hz DoA.pa hw hs) h
theorem erv_part {x1} (h1 : EvR X a σ H fun H v => Rr H v rl) (h2 : EvR X b σ H fun H v => Ru H v rs) (h3 : EvD X c σ H (.int fi)) (h4 : EvD X d σ H (encO la)) (e1 : starEach [a, b, c, d] X.env = (false, eval a X.env) :: starEach [b, c, d] X.env := by rfl) (e2 : starEach [b, c, d] X.env = (false, eval b X.env) :: starEach [c, d] X.env := by rfl) (e3 : starEach [c, d] X.env = (false, eval c X.env) :: starEach [d] X.env := by rfl) (e4 : starEach [d] X.env = (false, eval d X.env) :: starEach [] X.env := by rfl) :
    EvR X (.Tuple [a, b, c, d] x1 pos) σ H fun H v => Rp H v ⟨rl, rs, fi, la⟩ := fun H1 s Q q =>
  DoE.of (pe_tup DoA.pa) (da_cons (h1 H1 s _ fun v1 H2 s2 r1 => da_cons (h2 H2 (s.trans s2) _ fun v2 H3 s3 r2 => da_cons (h3 H3 ((s.trans s2).trans s3) _ fun v3 H4 s4 r3 => da_cons (h4 H4 (((s.trans s2).trans s3).trans s4) _ fun v4 H5 s5 r4 => da_nil ⟨Nat.le_trans (show 4 ≤ 1000 by omega) (by decide), fun p hp => by
    cases r3
    have n := same_new (o := .tup [v1, v2, .int fi, v4]) hp
    exact q _ _ ((((s2.trans s3).trans s4).trans s5).trans n) ⟨p, v1, v2, v4, rfl, .inl upd_same, (stb_rr rl).same (((s3.trans s4).trans s5).trans n) r1, (stb_ru rs).same ((s4.trans s5).trans n) r2, r4.mono n⟩⟩) e4) e3) e2) e1)
theorem ds_appendR {A : Addr} {xs : List V} {R : Hp → V → Prop} {pn apos cpos : Pos} (i : Nat) (h0 : σ[i]? = some (some (.ref A))) (hA : H A = some (.lst xs)) (hl : xs.length ≤ 1000) (he : EvR X e σ H R) (q : ∀ v H1, Same H H1 → R H1 v → H1 A = some (.lst xs) → D.nx σ (upd H1 A (.lst (xs ++ [v])))) (hN : X.N[i]? = some x := by rfl) (hv : Vis X.env.scope x := by first | exact .inl rfl | exact .inr (.inl rfl) | exact .inr (.inr rfl)) (hd : (x == ("__debug__" : Str)) = false := by decide)
    (hcd : (x == ("__classdict__" : Str)) = false := by decide) (hs : starEach [e] X.env = (false, eval e X.env) :: starEach [] X.env := by rfl)
    (hsw : swapsWith (.Call (.Attribute (.Name x pn) "append" apos) [e] [] cpos) none pos.line X.env = pure false := by rfl)
    (hbase : attributeBase (.Name x pn) "append" X.env (eval (.Name x pn) X.env) = eval (.Name x pn) X.env := by rfl)
    (hfew : ((backTo cpos (starEach [e] X.env)).all (fun x => !x.1) && (backToKw cpos (keywordEach [] X.env)).all (fun x => x.1.isSome)
      && decide (([e] : List Expr).length + ([] : List Keyword).length + (if ([] : List Keyword).isEmpty then 0 else 1) < 30)) = true := by rfl)
    (hline : (apos.endLine == cpos.line) = true := by rfl) (hplain : (backTo cpos (starEach [] X.env)).any (·.1) = false := by rfl) :
    DoS X (.Expr (.Call (.Attribute (.Name x pn) "append" apos) [e] [] cpos) pos) D σ H :=
  ds_expr (DoE.of (pe_bm PySem.F.plainAttrs_list PySem.F.slot_list_append PySem.F.type_list_append mt_append (DoE.pe (e := .Name x pn)) (DoA.pa (es := [e])) hbase hfew hline hs hplain)
    (DoE.of (pe_var hN hv hd hcd) ⟨.ref A, h0, .inl ⟨rfl, xs, SqL.of hA⟩, da_cons (he.go fun v H1 s rv => da_nil ⟨A, xs, v, rfl, rfl, s _ _ hA, Nat.lt_of_le_of_lt hl (by decide), q v H1 s rv (s _ _ hA)⟩) hs⟩)) hsw
end
theorem A2.push {α : Type} {R : Hp → V → α → Prop} (st : ∀ a, Stb fun H v => R H v a) {H : Hp} {A : Addr} {acc xs : List V} {v : V} {l : List α} {a : α} {o : HO} (hA : H A = some (.lst xs)) (h : A2 (R H) acc l) (r : R H v a) : A2 (R (upd H A o)) (acc ++ [v]) (l ++ [a]) :=
  (h.imp fun _ b z => st b _ _ _ (Nk.upd hA) z).append (.one (st a _ _ _ (Nk.upd hA) r))
def sp_lots_met : Sp := fun vs H Q _ => ∃ v w a b, vs = [v, w] ∧ Ru H v a ∧ Ru H w b ∧ WfRs a ∧ WfRs b ∧ ∀ z H', Same H H' → Op Ru H' z (rulesCommon a b) → Q z H'
def sp_met : Sp := fun vs H Q _ => ∃ v w one two, vs = [v, w] ∧ Rs H v one ∧ Rs H w two ∧ WfS one ∧ WfS two ∧ ∀ z H', Same H H' → Rs H' z (meetOf one two) → Q z H'
section
variable {P : Program} {w : World} {K : PySem.W.Frag} {mg : Str → Option Value} {base : Heap}
theorem ok_lots_met (T : Tops K mg) : Good P w K mg base 1 "_law_lots_met" ["_law_near_so", "_law_far_so"] sp_lots_met := by
  refine good_of T.d_law_lots_met sc_law_lots_met (fun vs H Q E h => by obtain ⟨v, w, one, two, rfl, _⟩ := h; rfl) fun f cdv A outer s0 H vs Q E hr h => ?_
  obtain ⟨v, w', a, b, rfl, ra, rb, wa, wb, q⟩ := h
  have nd := sc_law_lots_met.nd
  have fa := rules_few wa
  have fb := rules_few wb
  refine dss_cons (ds_par3 2 3 4 rfl nd (da_cons (EvR.go (erv_dictF rfl T.b_dict wa (erv_v 0 rfl (stb_ru a) ra)) fun d1 H1 s1 rd1 => da_cons (EvR.go (erv_dictF rfl T.b_dict wb (erv_v 1 rfl (stb_ru b) ((stb_ru b).same s1 rb))) fun d2 H2 s2 rd2 => da_cons (do_nilL fun F hF => da_nil ⟨d1, d2, .ref F, rfl, ?_⟩)))))
  have s3 : Same H2 (upd H2 F (.lst [])) := same_new hF
  have hF0 : H F = none := none_back (s1.trans s2) hF
  have s13 := (s1.trans s2).trans s3
  have h1' : Dl (upd H2 F (.lst [])) v (.tuple (a.map encU)) := ((stb_ru a).same s13 ra).dl
  have h2' : Dl (upd H2 F (.lst [])) w' (.tuple (b.map encU)) := ((stb_ru b).same s13 rb).dl
  have names : ((a.map encU ++ b.map encU) : List PyData) = (a ++ b).map encU := by rw [List.map_append]
  refine dss_cons (ds_forR .never rfl (pg_name nd (i := 5) rfl (by first | exact .inl rfl | exact .inr rfl)) (EvIR.go (S := [F]) (R := Rt) (l := sortSet ((a ++ b).map (·.1))) (eir_lst stb_rt (erv_sortset [F] (fun x hx => by
      have : x = F := by simpa using hx
      rw [this, upd_same]
      exact fun z => nomatch z) rfl hr.units T.b_sorted T.b_set (EvD.is (ev_lcA0 6 encU (a ++ b) (fun u => .str u.1) rfl nd (blkOk_by (N := n_law_lots_met) (sc := defScope s_law_lots_met) (by decide +kernel))
    (ei_tup (EvD.is (ev_catT (ev_var 0 rfl h1') (ev_var 1 rfl h2') (by rw [List.length_map, List.length_map]; omega)) (by rw [names]))) (fun _ => rfl) (by rw [List.length_append]; omega) (fun _ _ => rfl) fun u z H' hu sm r s0 H0 C cl fp => ev_ixT (EvD.is (ev_var 6 rfl r) rfl) ev_int atI0)
    (by rw [List.map_map]; rfl)) (by rw [List.length_map, List.length_append]; omega))) fun J H3 s4 Y => ?_))
  have en : sortSet ((a ++ b).map (·.1)) = namesOf a b := by unfold namesOf; rw [List.map_append]
  rw [en] at Y
  have k1 : H3 F = some (.lst []) := s4 _ _ upd_same
  have lenN : (namesOf a b).length ≤ 14 := by
    have := sortSet_len (a.map (·.1) ++ b.map (·.1))
    rw [List.length_append, List.length_map, List.length_map] at this
    unfold namesOf
    omega
  have rd1 := (stb_du a).same ((s2.trans s3).trans s4) rd1
  have rd2 := (stb_du b).same (s3.trans s4) rd2
  refine walkedR [F] Rt (namesOf a b) (fun l σ' H' => Kb [F] H3 H' ∧ (∃ o1 o2 o3, σ' = [some v, some w', some d1, some d2, some (.ref F), o1, none, o2, o3]) ∧ ∃ acc m, H' F = some (.lst acc) ∧ DlAll H' acc (m.map encU) ∧ m.length + l.length ≤ 14 ∧ rulesCommon a b = (rcGo a b l).map (m ++ ·) ∧ ∀ n ∈ l, n ∈ namesOf a b) Y ⟨Kb.refl, ⟨none, none, none, rfl⟩, [], [], k1, .nil, by simpa using lenN, by unfold rulesCommon; simp, fun n h => h⟩ (fun r σ' H' h => h.1) ?_ ?_
  · rintro n l x σ' H' H'' hn ⟨kb, ⟨o1, o2, o3, rfl⟩, acc, m, hF', hda, hlen, e, hin⟩ s5 rx
    cases (rx : x = .str n)
    have t1 : Du H'' d1 a := (stb_du a).same s5 ((stb_du a).kb kb rd1)
    have t2 : Du H'' d2 b := (stb_du b).same s5 ((stb_du b).kb kb rd2)
    have hget : ∀ rs : Rules, (lotIn rs n).isSome = true → lotIn rs n = some ((lotIn rs n).getD []) := fun rs h => by
      cases hq : lotIn rs n with
      | none => rw [hq] at h; cases h
      | some l => rfl
    refine dss_cons (ds_set 7 nd (EvR.go (erv_lc 6 Du (fun H v l => Dl H v (encL l)) [a, b] (fun rs => (lotIn rs n).isSome) (fun rs => (lotIn rs n).getD []) (fun l => stb_dl (tlv_encL l)) rfl nd (blkOk_by (N := n_law_lots_met) (sc := defScope s_law_lots_met) (by decide +kernel))
      (eir_tup stb_du (EvR.imp (erv_tup2 (erv_v 2 rfl (stb_du a) t1) (erv_v 3 rfl (stb_du b) t2) (stb_du a) (stb_du b)) fun H v ⟨T, y, z, e, hT, r1, r2⟩ => ⟨T, _, e, .inl hT, .cons r1 (.cons r2 .nil)⟩)) (fun _ => rfl) (by show 2 ≤ 1000000; omega)
      (fun rs z H4 ho sm r s0 H0 C cl fp => ets_one (et_dinU hr.units (ev_var 5 rfl (.str n)) (erv_v 6 rfl (stb_du rs) r))) (fun rs z H4 ho sm r hb s0 H0 C cl fp => ev_dgetU hr.units (erv_v 6 rfl (stb_du rs) r) (ev_var 5 rfl (.str n)) (hget rs hb))) fun rr H4 s6 rz => ?_))
    have el : ([a, b].filter fun rs => (lotIn rs n).isSome).map (fun rs => (lotIn rs n).getD []) = lotsOf a b n := by
      unfold lotsOf
      rw [List.filter_cons, List.filter_cons, List.filter_nil]
      cases h1 : lotIn a n <;> cases h2 : lotIn b n <;> simp [h1, h2]
    rw [el] at rz
    have rl : Dl H4 rr (.list ((lotsOf a b n).map encL)) := Ls.dl rz fun _ _ h => h
    have hn' := mem_namesOf.mp (hin n List.mem_cons_self)
    obtain ⟨lf, ll, e1, e2, few⟩ : ∃ lf ll, (lotsOf a b n).head? = some lf ∧ (lotsOf a b n).getLast? = some ll ∧ lf.length ≤ 10 := by
      rcases hn' with h | h
      · obtain ⟨l1, hl1⟩ := lotIn_isSome h
        have f1 := (wa.lot _ (lotIn_some hl1)).few
        unfold lotsOf
        rw [hl1]
        cases lotIn b n with
        | none => exact ⟨l1, l1, rfl, rfl, f1⟩
        | some l2 => exact ⟨l1, l2, rfl, rfl, f1⟩
      · obtain ⟨l2, hl2⟩ := lotIn_isSome h
        have f2 := (wb.lot _ (lotIn_some hl2)).few
        unfold lotsOf
        rw [hl2]
        cases hl1 : lotIn a n with
        | none => exact ⟨l2, l2, rfl, rfl, f2⟩
        | some l1 => exact ⟨l1, l2, rfl, rfl, (wa.lot _ (lotIn_some hl1)).few⟩
    have eb : both a b n = lf.filter fun x => decide (x ∈ ll) := by
      unfold both
      rw [e1, e2]
    have a0 : atI ((lotsOf a b n).map encL) 0 = some (encL lf) := by
      refine atI_nat (j := 0) ?_
      rw [List.getElem?_map, ← List.head?_eq_getElem?, e1]
      rfl
    have al : atI ((lotsOf a b n).map encL) (-1) = some (encL ll) := atI_last (by rw [List.getLast?_map, e2]; rfl)
    refine dss_cons (ds_set 8 nd (EvD.go (ev_tupleL T.b_tuple (ev_lcA 6 PyData.int lf (fun x => decide (x ∈ ll)) PyData.int rfl nd (blkOk_by (N := n_law_lots_met) (sc := defScope s_law_lots_met) (by decide +kernel)) (ei_tup (EvD.is (ev_ixL (ev_var 7 rfl rl) ev_int a0) rfl)) (fun _ => rfl) (by omega) (fun _ _ _ => rfl)
      (fun i z H4 hi sm r s0 H0 C cl fp => ets_one (et_inI (ev_var 6 rfl r) (ev_ixL (ev_var 7 rfl (rl.mono sm)) (ev_neg ev_int) al))) fun i z H4 hi sm r _ s0 H0 C cl fp => ev_var 6 rfl r)) fun bo H5 s7 rb => ?_))
    rw [← eb] at rb
    have em : (both a b n).map PyData.int = [] ↔ both a b n = [] := by simp
    have go : rcGo a b (n :: l) = if both a b n = [] then none else (rcGo a b l).map ((n, both a b n) :: ·) := rfl
    refine dss_cons (ds_ifT (et_eq hr.units (ev_var 8 rfl rb) (ev_tup eva_nil) (shaped_ints _) shaped_nilT) (fun hk H6 s8 => dss_one (ds_retD ev_non fun z H7 s9 rz => q z H7 ?_ ?_)) fun hk H6 s8 => dss_nil ?_)
    · exact Kb.to_same (A := F) (H1 := H3) (kb.trans (Same.kb ((((s5.trans s6).trans s7).trans s8).trans s9))) (s13.trans s4) hF0
    · rw [eqv_nilT, List.isEmpty_iff, em] at hk
      rw [e, go, if_pos hk]
      cases rz
      rfl
    · rw [eqv_nilT] at hk
      have hne : both a b n ≠ [] := fun z => by rw [z] at hk; cases hk
      have s58 := (((s5.trans s6).trans s7).trans s8)
      have hF5 := s58 _ _ hF'
      have lacc : acc.length ≤ 1000 := by
        rw [hda.length, List.length_map]
        rw [List.length_cons] at hlen
        omega
      refine dss_one (ds_append 4 rfl hF5 lacc (ev_tupN (eva2 (ev_var 5 rfl (.str n)) (ev_var 8 rfl (rb.mono s8)))) fun z H7 s9 rz hF6 => ⟨?_, ⟨_, _, _, rfl⟩, acc ++ [z], m ++ [(n, both a b n)], upd_same, ?_, ?_, ?_, fun k hk => hin k (List.mem_cons_of_mem _ hk)⟩)
      · exact (kb.trans (s58.trans s9 |> Same.kb)).trans (Kb.upd hF6 List.mem_cons_self)
      · rw [List.map_append]
        exact DlAll.push hF6 ((hda.mono s58).mono s9) (tlvAll_map fun u _ => tlv_encU u) rz (tlv_encU (n, both a b n))
      · rw [List.length_append, List.length_cons, List.length_nil]
        rw [List.length_cons] at hlen
        omega
      · rw [e, go, if_neg hne, Option.map_map]
        congr 1
        funext r
        simp
  · rintro σ' H' ⟨kb, ⟨o1, o2, o3, rfl⟩, acc, m, hF', hda, hlen, e, hin⟩
    refine dss_one (ds_ret (do_tupF (G := fun H xs => DlAll H xs (m.map encU)) T.b_tuple (EvR.imp (EvD.r (ev_var 4 rfl (.lst hF' hda))) fun H v r => by
      cases r with
      | lst ha hd => exact ⟨_, _, rfl, ha, hd⟩) (fun H H' xs s h => h.mono s) fun p o xs H4 s5 ho hp hx => q _ H4 (Kb.to_same (A := F) (kb.trans (Same.kb s5)) (s13.trans s4) hF0) ?_))
    rw [e]
    show Ru H4 (.ref p) (m ++ [])
    rw [List.append_nil]
    exact ⟨p, o, xs, rfl, hp, ho, hx⟩
theorem ok_met (T : Tops K mg) : Good P w K mg base 2 "_law_met" ["_law_one_so", "_law_two_so"] sp_met := by
  have G := ok_lots_met (P := P) (w := w) (base := base) T
  refine good_of T.d_law_met sc_law_met (fun vs H Q E h => by obtain ⟨v, w, one, two, rfl, _⟩ := h; rfl) fun f cdv A outer s0 H vs Q E hr h => ?_
  obtain ⟨v, w', one, two, rfl, r1, r2, w1, w2, q⟩ := h
  have nd := sc_law_met.nd
  have few := w2.few
  have few1 := w1.few
  refine dss_cons (ds_par 2 3 rfl nd (da_cons (EvR.go (erv_dictT rfl hr.units T.b_dict w2 (EvR.imp (erv_lc0 4 Rp Pr two (fun p => p) stb_pr rfl nd (blkOk_by (N := n_law_met) (sc := defScope s_law_met) (by decide +kernel)) (eir_tup stb_rp (erv_v 1 rfl (stb_rs two) r2)) (fun _ => rfl) (by omega)
    (fun p z H' hp sm rz s0 H0 C cl fp => erv_tup2 (erv_rel (erv_v 4 rfl (stb_rp p) rz)) (erv_v 4 rfl (stb_rp p) rz) (stb_rr _) (stb_rp _))) (fun H v h => by rw [map_self] at h; exact h))) fun kn H1 s1 rk => da_cons (do_nilL fun F hF => da_nil ⟨kn, .ref F, rfl, ?_⟩))))
  have s2 : Same H1 (upd H1 F (.lst [])) := same_new hF
  have hF0 : H F = none := none_back s1 hF
  refine dss_cons (ds_forR .never rfl (pg_name nd (i := 4) rfl (by first | exact .inl rfl | exact .inr rfl)) (EvIR.go (S := [F]) (eir_tup stb_rp (erv_v 0 rfl (stb_rs one) ((stb_rs one).same (s1.trans s2) r1))) fun J H2 s3 Y => ?_))
  have k1 : H2 F = some (.lst []) := s3 _ _ upd_same
  have rk2 := (stb_dk two).same (s2.trans s3) rk
  refine walkedR [F] Rp one (fun l σ' H' => Kb [F] H2 H' ∧ (∃ o4 o5 o6 o7 o9 o10, σ' = [some v, some w', some kn, some (.ref F), o4, o5, o6, o7, none, o9, o10]) ∧ ∃ acc m, H' F = some (.lst acc) ∧ A2 (Rp H') acc m ∧ m.length + l.length ≤ 10 ∧ meetOf one two = m ++ meetOf l two) Y ⟨Kb.refl, ⟨none, none, none, none, none, none, rfl⟩, [], [], k1, .nil, by simpa using few1, rfl⟩ (fun r σ' H' h => h.1) ?_ ?_
  · rintro p l x σ' H' H'' hp ⟨kb, ⟨o4, o5, o6, o7, o9, o10, rfl⟩, acc, m, hF', hda, hlen, e⟩ s4 rx
    have rk3 : Dk H'' kn two := (stb_dk two).same s4 ((stb_dk two).kb kb rk2)
    have wp := w1.part p hp
    have cons : meetOf (p :: l) two = ((partAt two p.rel).bind (partCommon p)).toList ++ meetOf l two := by
      unfold meetOf
      rw [List.filterMap_cons]
      cases (partAt two p.rel).bind (partCommon p) <;> rfl
    have hlen' : m.length + l.length ≤ 10 ∧ m.length + 1 + l.length ≤ 10 := by
      rw [List.length_cons] at hlen
      omega
    have skip : (partAt two p.rel).bind (partCommon p) = none → ∀ H3, Same H'' H3 → ∀ σ', (∃ o4 o5 o6 o7 o9 o10, σ' = [some v, some w', some kn, some (.ref F), o4, o5, o6, o7, none, o9, o10]) →
        (Kb [F] H2 H3 ∧ (∃ o4 o5 o6 o7 o9 o10, σ' = [some v, some w', some kn, some (.ref F), o4, o5, o6, o7, none, o9, o10]) ∧ ∃ acc m, H3 F = some (.lst acc) ∧ A2 (Rp H3) acc m ∧ m.length + l.length ≤ 10 ∧ meetOf one two = m ++ meetOf l two) := fun hn H3 s σ' hσ =>
      ⟨kb.trans (Same.kb (s4.trans s)), hσ, acc, m, (s4.trans s) _ _ hF', hda.imp fun _ a h => (stb_rp a).same (s4.trans s) h, hlen'.1, by rw [e, cons, hn]; rfl⟩
    cases hpa : partAt two p.rel with
    | none =>
      exact dss_one (ds_ifT (k := false) (EvT.is (et_dinT hr.units (erv_rel (erv_v 4 rfl (stb_rp p) rx)) (erv_v 2 rfl (stb_dk two) rk3)) (by rw [hpa]; rfl)) (fun z => nomatch z) fun _ H3 s5 => dss_nil (skip (by rw [hpa]; rfl) H3 s5 _ ⟨_, _, _, _, _, _, rfl⟩))
    | some t =>
      have hin := partAt_some hpa
      have wt := w2.part t hin.1
      have bindE : (partAt two p.rel).bind (partCommon p) = partCommon p t := by rw [hpa]; rfl
      refine dss_one (ds_ifT (k := true) (EvT.is (et_dinT hr.units (erv_rel (erv_v 4 rfl (stb_rp p) rx)) (erv_v 2 rfl (stb_dk two) rk3)) (by rw [hpa]; rfl)) (fun _ H3 s5 => ?_) fun z => nomatch z)
      have rx := (stb_rp p).same s5 rx
      refine dss_cons (ds_set 5 nd (EvR.go (erv_dgetT hr.units (erv_v 2 rfl (stb_dk two) ((stb_dk two).same s5 rk3)) (erv_rel (erv_v 4 rfl (stb_rp p) rx)) hpa) fun it H4 s6 ri => ?_))
      have rx := (stb_rp p).same s6 rx
      refine dss_cons (ds_par2 6 7 rfl nd (ev_max2 rfl T.b_max (ev_first (erv_v 4 rfl (stb_rp p) rx)) (ev_first (erv_v 5 rfl (stb_rp t) ri))) (ev_lcA 8 encO [p.last, t.last] Option.isSome encO rfl nd (blkOk_by (N := n_law_met) (sc := defScope s_law_met) (by decide +kernel)) (ei_tup (ev_tupN (eva2 (ev_last (erv_v 4 rfl (stb_rp p) rx)) (ev_last (erv_v 5 rfl (stb_rp t) ri))))) (fun _ => rfl) (by show 2 ≤ 1000000; omega) (fun o _ _ => tlv_encO o)
        (fun o z H3 ho sm r s0 H0 C cl fp => ets_one (EvT.is (et_notN (ev_var 8 rfl r)) (by cases o <;> rfl))) fun o z H3 ho sm r _ s0 H0 C cl fp => ev_var 8 rfl r) fun fi lo H5 s7 rf rl => ?_)
      have rf : Dl H5 fi (.int (firstOf p.first t.first)) := rf
      have el : ([p.last, t.last].filter Option.isSome).map encO = (p.last.toList ++ t.last.toList).map PyData.int := by
        rw [List.filter_cons, List.filter_cons, List.filter_nil]
        cases ha : p.last <;> cases hb : t.last <;> simp [encO]
      rw [el] at rl
      refine dss_cons (ds_set 9 nd (EvD.go (d := encO (lastOf p.last t.last)) (ev_if (et_ne hr.units (ev_var 7 rfl rl) ev_nilL (shaped_intsL _) shaped_nilL) (fun hk => ?_) fun hk => ?_) fun la H6 s8 rla => ?_))
      · cases hl : lastOf p.last t.last with
        | none =>
          rw [eqv_nilL, lastOf_nil.mpr hl] at hk
          cases hk
        | some i => exact ev_minL rfl T.b_min (ev_var 7 rfl rl) (lastOf_min hl).1 (lastOf_min hl).2
      · have : p.last.toList ++ t.last.toList = [] := by
          rw [eqv_nilL] at hk
          simpa using hk
        rw [lastOf_nil.mp this]
        exact ev_non
      have rx := (stb_rp p).same (s7.trans s8) rx
      have ri := (stb_rp t).same (s7.trans s8) ri
      have rf := rf.mono s8
      refine dss_cons (ds_set 10 nd (do_call G hr rfl (da_cons (EvR.go (erv_rules (erv_v 4 rfl (stb_rp p) rx)) fun u1 H7 s9 ru1 => da_cons (EvR.go (erv_rules (erv_v 5 rfl (stb_rp t) ((stb_rp t).same s9 ri))) fun u2 H8 s10 ru2 => da_nil ⟨u1, u2, p.rules, t.rules, rfl, (stb_ru _).same s10 ru1, ru2, wp.rules, wt.rules, fun z H9 s11 rz => ?_⟩)))))
      have s911 := (s9.trans s10).trans s11
      have rx := (stb_rp p).same s911 rx
      have rf := rf.mono s911
      have rla := rla.mono s911
      have s511 : Same H'' H9 := (((s5.trans s6).trans s7).trans s8).trans s911
      have val : partCommon p t = match rulesCommon p.rules t.rules with
        | none => none
        | some rs => if badLast (lastOf p.last t.last) (firstOf p.first t.first) then none else some ⟨p.rel, rs, firstOf p.first t.first, lastOf p.last t.last⟩ := rfl
      cases hrc : rulesCommon p.rules t.rules with
      | none =>
        rw [hrc] at rz val
        cases (rz : z = .non)
        refine dss_one (ds_ifT (k := false) (et_w (EvW.is (ew_and (k' := true) (et_notN (ev_var 10 rfl .non)) fun z => nomatch z) rfl)) (fun z => nomatch z) fun _ H10 s12 => dss_nil (skip (by rw [bindE, val]) H10 (s511.trans s12) _ ⟨_, _, _, _, _, _, rfl⟩))
      | some rs =>
        rw [hrc] at rz val
        have rz : Ru H9 z rs := rz
        have val : partCommon p t = if badLast (lastOf p.last t.last) (firstOf p.first t.first) then none else some ⟨p.rel, rs, firstOf p.first t.first, lastOf p.last t.last⟩ := val
        refine dss_one (ds_ifT (k := !badLast (lastOf p.last t.last) (firstOf p.first t.first)) (et_w (EvW.is (k := true && !badLast (lastOf p.last t.last) (firstOf p.first t.first)) (ew_and (et_notN (EvR.toD (erv_v 10 rfl (stb_ru rs) rz) fun H v h => h.dl)) fun _ => ew_and1 (et_w ?_)) (Bool.true_and _))) (fun hk H10 s12 => ?_) fun hk H10 s12 => dss_nil (skip (by
          rw [bindE, val, if_pos]
          cases hbl : badLast (lastOf p.last t.last) (firstOf p.first t.first) with
          | true => rfl
          | false => rw [hbl] at hk; cases hk) H10 (s511.trans s12) _ ⟨_, _, _, _, _, _, rfl⟩))
        · cases hl : lastOf p.last t.last with
          | none =>
            rw [hl] at rla
            exact EvW.is (ew_or (k' := true) (et_isN (ev_var 9 rfl rla)) fun z => nomatch z) rfl
          | some i =>
            rw [hl] at rla
            refine EvW.is (ew_or (et_isN (ev_var 9 rfl rla)) fun _ => ew_or1 (et_ge (ev_var 9 rfl rla) (ev_var 6 rfl rf))) ?_
            show (false || decide (firstOf p.first t.first ≤ i)) = !decide (i < firstOf p.first t.first)
            by_cases h : i < firstOf p.first t.first
            · rw [decide_eq_true h, decide_eq_false (show ¬ firstOf p.first t.first ≤ i by omega)]; rfl
            · rw [decide_eq_false h, decide_eq_true (show firstOf p.first t.first ≤ i by omega)]; rfl
        · have hbl : badLast (lastOf p.last t.last) (firstOf p.first t.first) = false := by simpa using hk
          have val : partCommon p t = some ⟨p.rel, rs, firstOf p.first t.first, lastOf p.last t.last⟩ := by rw [val, if_neg (by rw [hbl]; exact Bool.false_ne_true)]
          have s412 := s4.trans (s511.trans s12)
          refine dss_one (ds_appendR 3 rfl (s412 _ _ hF') (by rw [hda.length]; omega) (erv_part (erv_rel (erv_v 4 rfl (stb_rp p) ((stb_rp p).same s12 rx))) (erv_v 10 rfl (stb_ru rs) ((stb_ru rs).same s12 rz)) (ev_var 6 rfl (rf.mono s12)) (ev_var 9 rfl (rla.mono s12))) fun z' H11 s13 rz' hF6 => ⟨?_, ⟨_, _, _, _, _, _, rfl⟩, acc ++ [z'], m ++ [_], upd_same, A2.push stb_rp hF6 (hda.imp fun _ a h => (stb_rp a).same (s412.trans s13) h) rz', ?_, ?_⟩)
          · exact (kb.trans (s412.trans s13 |> Same.kb)).trans (Kb.upd hF6 List.mem_cons_self)
          · rw [List.length_append, List.length_cons, List.length_nil]
            exact hlen'.2
          · rw [e, cons, bindE, val]
            simp
  · rintro σ' H' ⟨kb, ⟨o4, o5, o6, o7, o9, o10, rfl⟩, acc, m, hF', hda, hlen, e⟩
    refine dss_one (ds_ret (do_tupF (G := fun H xs => A2 (Rp H) xs m) T.b_tuple (erv_var (R := fun H v => ∃ c xs, v = .ref c ∧ H c = some (.lst xs) ∧ A2 (Rp H) xs m) 3 rfl fun H3 s4 => ⟨F, acc, rfl, s4 _ _ hF', hda.imp fun _ a h => (stb_rp a).same s4 h⟩) (fun H H' xs s h => h.imp fun _ a h => (stb_rp a).same s h) fun p o xs H4 s5 ho hp hx => q _ H4 (Kb.to_same (A := F) (kb.trans (Same.kb s5)) ((s1.trans s2).trans s3) hF0) ?_))
    rw [e]
    show Rs H4 (.ref p) (m ++ [])
    rw [List.append_nil]
    exact ⟨p, xs, rfl, .inr ⟨o, hp⟩, hx⟩
end
end Lk
namespace Lk
open PySem PySem.Spec PyProof.Rows L2
theorem A2.perm {α β : Type} {R : β → α → Prop} : ∀ {ys xs : List β}, ys.Perm xs → ∀ {l : List α}, A2 R xs l → ∃ m : List α, m.Perm l ∧ A2 R ys m := by
  intro ys xs p
  induction p with
  | nil => intro l h; exact ⟨l, List.Perm.refl _, h⟩
  | cons x p ih =>
    intro l h
    cases h with
    | cons r h =>
      obtain ⟨m, p', h'⟩ := ih h
      exact ⟨_ :: m, p'.cons _, .cons r h'⟩
  | swap x y l' =>
    intro l h
    cases h with
    | cons r h =>
      cases h with
      | cons r' h => exact ⟨_ :: _ :: _, List.Perm.swap _ _ _, .cons r' (.cons r h)⟩
  | trans p q ih1 ih2 =>
    intro l h
    obtain ⟨m, p1, h1⟩ := ih2 h
    obtain ⟨m', p2, h2⟩ := ih1 h1
    exact ⟨m', p2.trans p1, h2⟩
theorem inV_strs {n : Str} : ∀ {l : List Str}, inV (.str n) (l.map V.str) = decide (n ∈ l)
  | [] => by simp [inV]
  | m :: l => by
    have ih := inV_strs (n := n) (l := l)
    unfold inV at ih ⊢
    rw [List.map_cons, List.any_cons, ih]
    by_cases e : m = n
    · subst e
      simp [eqV]
    · have e' : ¬ n = m := fun z => e z.symm
      simp [eqV, e, e']
theorem flat_strs : ∀ {l : List Str}, (l.map V.str).all flatV = true
  | [] => rfl
  | m :: l => by rw [List.map_cons, List.all_cons, flat_strs]; rfl
section
variable {α : Type} {R : Hp → V → α → Prop} {S : List Addr} {X : Cx} {a b e : Expr} {σ : L2.St} {H : Hp} {pos p : Pos} {l m : List α} {n : Str} {ns : List Str}
theorem et_ninS (ha : EvD X a σ H (.str n)) (hb : EvD X b σ H (.list (ns.map .str))) (hm : behindInMarks .NotIn b = false := by rfl) : EvT X (.Compare a [.NotIn] [b] pos) σ H (!decide (n ∈ ns)) := et_cmp op_nin_seq ha hb (hm := hm) fun u v H1 _ ru rv Q q => by
  cases ru
  cases rv with
  | lst hA hd =>
    have := hd.strs
    subst this
    refine ⟨_, _, rfl, .inl (SqL.of hA), rfl, flat_strs, ?_⟩
    rw [if_pos rfl, inV_strs]
    exact q
theorem erv_catL (st : ∀ a, Stb fun H v => R H v a) (hS : ∀ x ∈ S, H x ≠ none) (ha : EvR X a σ H fun H v => Ls [] R H v l) (hb : EvR X b σ H fun H v => Ls [] R H v m) (hl : l.length + m.length ≤ 1000) : EvR X (.BinOp a .Add b pos) σ H fun H v => Ls S R H v (l ++ m) := fun H1 s Q q =>
  DoE.of (pe_op op_cat DoE.pe DoE.pe) (ha H1 s _ fun u H2 s2 ru => hb H2 (s.trans s2) _ fun v H3 s3 rv => by
    obtain ⟨c, xs, rfl, _, hc, hx⟩ := Ls.same st s3 ru
    obtain ⟨d, ys, rfl, _, hd, hy⟩ := rv
    refine ⟨c, d, xs, ys, rfl, rfl, hc, hd, ?_, fun p hp => q _ _ ((s2.trans s3).trans (same_new hp)) ⟨p, _, rfl, fun hpS => ?_, upd_same, (hx.append hy).imp fun _ a h => (st a).same (same_new hp) h⟩⟩
    · rw [hx.length, hy.length]
      exact Nat.le_trans hl (by decide)
    · exact hS p hpS (none_back ((s.trans s2).trans s3) hp))
theorem erv_catT (st : ∀ a, Stb fun H v => R H v a) (ha : EvR X a σ H fun H v => Tu R H v l) (hb : EvR X b σ H fun H v => Tu R H v m) (hl : l.length + m.length ≤ 1000) : EvR X (.BinOp a .Add b pos) σ H fun H v => Tu R H v (l ++ m) := fun H1 s Q q =>
  DoE.of (pe_op op_catA DoE.pe DoE.pe) (ha H1 s _ fun u H2 s2 ru => hb H2 (s.trans s2) _ fun v H3 s3 rv => by
    obtain ⟨c, xs, rfl, hc, hx⟩ := (stb_tu st l).same s3 ru
    obtain ⟨d, ys, rfl, hd, hy⟩ := rv
    refine ⟨c, d, xs, ys, rfl, rfl, .inl hc, .inl hd, ?_, fun e0 => ?_, fun _ e0 => ?_, fun _ _ p hp => q _ _ ((s2.trans s3).trans (same_new hp)) ⟨p, _, rfl, .inl upd_same, (hx.append hy).imp fun _ a h => (st a).same (same_new hp) h⟩⟩
    · rw [hx.length, hy.length]
      exact Nat.le_trans hl (by decide)
    · subst e0
      cases hx
      exact q _ H3 (s2.trans s3) ⟨d, ys, rfl, hd, hy⟩
    · subst e0
      cases hy
      refine q _ H3 (s2.trans s3) ⟨c, xs, rfl, hc, ?_⟩
      rw [List.append_nil]
      exact hx)
end
def scSpot : Scope := { kind := ScopeKind.function, names := [(".0", NameKind.local), ("_law_spot", NameKind.local)], isGenerator := false, isCoroutine := false }
theorem blk_spot (sc : Scope) : BlkOk n_law_every_lock sc scSpot [("_law_spot", 6)] := by
  have h : BlkOk n_law_every_lock (defScope s_law_every_lock) scSpot [("_law_spot", 6)] := blkOk_by (by decide +kernel)
  refine ⟨h.kind, h.uniq, h.ix, fun y hy e => ?_, h.own⟩
  · have hy : y ∈ [(((".0" : Str)), NameKind.local), ("_law_spot", NameKind.local)] := hy
    simp only [List.mem_cons, List.not_mem_nil, or_false] at hy
    rcases hy with rfl | rfl <;> cases e
def cnt (gs : List Rel) (rest : List Str) : Nat := (gs.filter fun r => decide (r.1 ∈ rest)).length
theorem cnt_cons {n : Str} {rest : List Str} (h : n ∉ rest) : ∀ gs : List Rel, cnt gs (n :: rest) = (gs.filter fun r => decide (r.1 = n)).length + cnt gs rest
  | [] => rfl
  | g :: gs => by
    have ih := cnt_cons h gs
    unfold cnt at ih ⊢
    have key : ∀ q : Rel → Bool, (List.filter q (g :: gs)).length = (if q g = true then 1 else 0) + (List.filter q gs).length := fun q => by
      rw [List.filter_cons]
      cases q g
      · simp
      · simp [Nat.add_comm]
    rw [key, key, key, ih]
    by_cases e : g.1 = n
    · have h' : ¬ g.1 ∈ rest := by rw [e]; exact h
      rw [if_pos (decide_eq_true (show g.1 ∈ n :: rest by rw [e]; exact List.mem_cons_self)), if_pos (decide_eq_true e), if_neg (by rw [decide_eq_false h']; exact Bool.false_ne_true)]
      omega
    · by_cases e3 : g.1 ∈ rest
      · rw [if_pos (decide_eq_true (show g.1 ∈ n :: rest from List.mem_cons_of_mem _ e3)), if_neg (by rw [decide_eq_false e]; exact Bool.false_ne_true), if_pos (decide_eq_true e3)]
        omega
      · rw [if_neg (by rw [decide_eq_false (fun z => (List.mem_cons.mp z).elim e e3)]; exact Bool.false_ne_true), if_neg (by rw [decide_eq_false e]; exact Bool.false_ne_true), if_neg (by rw [decide_eq_false e3]; exact Bool.false_ne_true)]
        omega
theorem cnt_le (gs : List Rel) (rest : List Str) : cnt gs rest ≤ gs.length := List.length_filter_le _ _
def sp_locks : Sp := fun vs H Q _ => ∃ v gs, vs = [v] ∧ Ls [] Rr H v gs ∧ gs.length ≤ 6 ∧ ∀ A ys ks H', Same H H' → H A = none → H' A = some (.lst ys) → A2 (Rk H') ys ks → (∀ k ∈ ks, k.length ≤ 1000) → ks.length ≤ 1000 → Q (.ref A) H'
section
variable {P : Program} {w : World} {K : PySem.W.Frag} {mg : Str → Option Value} {base : Heap}
/-- c releases are gone through: so many locks at most, none longer -/
structure Few (c : Nat) (ks : List (List Rel)) : Prop where
  first : ∃ r, ks = [] :: r
  num : ks.length ≤ 2 ^ c
  len : ∀ k ∈ ks, k.length ≤ c
theorem ok_locks (T : Tops K mg) : Good P w K mg base 1 "_law_every_lock" ["_law_releases_so"] sp_locks := by
  refine good_of T.d_law_every_lock sc_law_every_lock (fun vs H Q E h => by obtain ⟨v, gs, rfl, _⟩ := h; rfl) fun f cdv A outer s0 H vs Q E hr h => ?_
  obtain ⟨v, gs, rfl, rg, hg, q⟩ := h
  have nd := sc_law_every_lock.nd
  refine dss_cons (ds_set 1 nd (DoE.of (pe_lst DoA.pa) (da_cons (DoE.of (pe_tup DoA.pa) (da_nil ⟨Nat.zero_le _, fun p hp => da_nil ⟨Nat.le_trans (show 1 ≤ 1000 by omega) (by decide), fun F hF => ?_⟩⟩)))))
  have s1 : Same H (upd H p (.tup [])) := same_new hp
  have s2 : Same (upd H p (.tup [])) (upd (upd H p (.tup [])) F (.lst [.ref p])) := same_new hF
  have hF0 : H F = none := none_back s1 hF
  have rf0 : Ls [] Rk (upd (upd H p (.tup [])) F (.lst [.ref p])) (.ref F) [[]] := ⟨F, _, rfl, List.not_mem_nil, upd_same, .one ⟨p, [], rfl, .inl (s2 _ _ upd_same), .nil⟩⟩
  refine dss_cons (ds_forR .never rfl (pg_name nd (i := 2) rfl (by first | exact .inl rfl | exact .inr rfl)) (EvIR.go (S := []) (R := Rt) (l := sortSet (gs.map (·.1))) (eir_lst stb_rt (erv_sortset [] (fun x hx => nomatch hx) rfl hr.units T.b_sorted T.b_set (EvD.is (ev_lcA0 3 encR gs (fun r => .str r.1) rfl nd (blkOk_by (N := n_law_every_lock) (sc := defScope s_law_every_lock) (by decide +kernel))
    (ei_lst (ev_var 0 rfl (Ls.dl (Ls.same stb_rr (s1.trans s2) rg) fun _ _ h => h.dl))) (fun _ => rfl) (by omega) (fun _ _ => rfl) fun u z H' hu sm r s0 H0 C cl fp => ev_ixT (EvD.is (ev_var 3 rfl r) rfl) ev_int atI0) (by rw [List.map_map]; rfl)) (by rw [List.length_map]; omega))) fun J H1 s3 Y => ?_))
  have sH1 := (s1.trans s2).trans s3
  refine walkedR [] Rt (sortSet (gs.map (·.1))) (fun l σ' H' => Kb [] H1 H' ∧ (∃ fo o2 o3 o4, σ' = [some v, some fo, o2, o3, o4, none, none] ∧ ∃ ks c, Ls [] Rk H' fo ks ∧ Few c ks ∧ c + cnt gs l ≤ 6) ∧ l.Pairwise sLt) Y ⟨Kb.refl, ⟨.ref F, none, none, none, rfl, [[]], 0, Ls.same stb_rk s3 rf0, ⟨⟨[], rfl⟩, by decide, fun k hk => by simp at hk; rw [hk]; exact Nat.zero_le _⟩, by have := cnt_le gs (sortSet (gs.map (·.1))); omega⟩, sortSet_asc _⟩ (fun r σ' H' h => h.1) ?_ ?_
  · rintro n l x σ' H' H'' hn ⟨kb, ⟨fo, o2, o3, o4, rfl, ks, c, rfo, few, hc⟩, hasc⟩ s4 rx
    cases (rx : x = .str n)
    rw [List.pairwise_cons] at hasc
    have hnl : n ∉ l := fun z => sLt_irrefl _ (hasc.1 n z)
    rw [cnt_cons hnl] at hc
    have sH := (sH1.trans (kb0 kb)).trans s4
    refine dss_cons (ds_setLcR 4 3 Rr Rr gs (fun r => decide (r.1 = n)) (fun r => r) stb_rr rfl nd (blkOk_by (N := n_law_every_lock) (sc := defScope s_law_every_lock) (by decide +kernel)) (eir_lst stb_rr (erv_var 0 rfl fun H3 s => Ls.same stb_rr (sH.trans s) rg)) (fun _ => rfl) (by omega)
      (fun r z H3 hd sm rr s0 H0 C cl fp => ets_one (et_eqS (ev_ixT (EvD.is (ev_var 3 rfl rr.dl) (encR_eq r)) ev_int atI0) (ev_var 2 rfl (.str n)))) (fun r z H3 hd sm rr _ s0 H0 C cl fp => erv_v 3 rfl (stb_rr r) rr) fun A' zs H3 s5 _ hA' rz => ?_)
    rw [map_self] at rz
    have rfo3 := Ls.same stb_rk (s4.trans s5) rfo
    refine dss_one (ds_forR .never rfl (pg_name nd (i := 3) rfl (by first | exact .inl rfl | exact .inr rfl)) (EvIR.go (S := []) (R := Rr) (l := gs.filter fun r => decide (r.1 = n)) (eir_lst stb_rr (erv_var 4 rfl fun H4 s => ⟨A', zs, rfl, List.not_mem_nil, s _ _ hA', rz.imp fun _ a h => (stb_rr a).same s h⟩)) fun J2 H4 s6 Y2 => ?_))
    refine walkedR [] Rr (gs.filter fun r => decide (r.1 = n)) (fun m σ' H' => Kb [] H4 H' ∧ (∃ fo o3, σ' = [some v, some fo, some (.str n), o3, some (.ref A'), none, none] ∧ ∃ ks c, Ls [] Rk H' fo ks ∧ Few c ks ∧ c + (m.length + cnt gs l) ≤ 6)) Y2 ⟨Kb.refl, ⟨fo, o3, rfl, ks, c, Ls.same stb_rk s6 rfo3, few, hc⟩⟩ (fun r σ' H' h => h.1) ?_ ?_
    · rintro r m x σ' H5 H6 hr' ⟨kb2, ⟨fo, o3, rfl, ks, c, rfo, few, hc⟩⟩ s7 rx
      rw [List.length_cons] at hc
      have c5 : c ≤ 5 := by omega
      have p5 : 2 ^ c ≤ 32 := Nat.le_trans (Nat.pow_le_pow_right (by omega) c5) (by decide)
      have hnum := few.num
      have rfo6 := Ls.same stb_rk s7 rfo
      have hfl := List.length_filter_le (fun k : List Rel => !decide (n ∈ k.map (·.1))) ks
      refine dss_one (ds_set 1 nd (EvR.go (erv_catL (S := []) (l := ks) (m := (ks.filter fun k => !decide (n ∈ k.map (·.1))).map (· ++ [r])) stb_rk (fun x hx => nomatch hx) (erv_var 1 rfl fun H7 s => Ls.same stb_rk s rfo6) (erv_lc 5 Rk Rk ks (fun k => !decide (n ∈ k.map (·.1))) (· ++ [r]) stb_rk rfl nd (blkOk_by (N := n_law_every_lock) (sc := defScope s_law_every_lock) (by decide +kernel)) (eir_lst stb_rk (erv_var 1 rfl fun H7 s => Ls.same stb_rk s rfo6)) (fun _ => rfl) (by omega)
        (fun k z H7 hk sm rk s0 H0 C cl fp => ets_one (et_ninS (ns := k.map (·.1)) (ev_var 2 rfl (.str n)) (EvD.is (ev_lcA0 6 encR k (fun r => .str r.1) rfl nd (blk_spot _) (ei_tup (EvR.toD (erv_v 5 rfl (stb_rk k) rk) fun H v h => h.dl)) (fun _ => rfl) (by have := few.len k hk; omega) (fun _ _ => rfl) fun u z H' hu sm r s0 H0 C cl fp => ev_ixT (EvD.is (ev_var 6 rfl r) rfl) ev_int atI0) (by rw [List.map_map]; rfl))))
        fun k z H7 hk sm rk _ s0 H0 C cl fp => erv_catT stb_rr (erv_v 5 rfl (stb_rk k) rk) (EvR.imp (erv_tup1 (erv_v 3 rfl (stb_rr r) ((stb_rr r).same sm rx)) (stb_rr r)) fun H v ⟨T, y, e, hT, ry⟩ => ⟨T, _, e, .inl hT, .one ry⟩) (by have := few.len k hk; show k.length + 1 ≤ 1000; omega)) (by rw [List.length_map]; omega)) fun fo' H7 s8 rfo' => ⟨kb2.trans (Same.kb (s7.trans s8)), ⟨fo', some x, rfl, _, c + 1, rfo', ⟨?_, ?_, fun k hk => ?_⟩, by omega⟩⟩))
      · obtain ⟨r0, e0⟩ := few.first
        exact ⟨r0 ++ (ks.filter fun k => !decide (n ∈ k.map (·.1))).map (· ++ [r]), by rw [← List.cons_append, ← e0]⟩
      · rw [List.length_append, List.length_map, Nat.pow_succ]
        omega
      · rcases List.mem_append.mp hk with hk | hk
        · exact Nat.le_succ_of_le (few.len k hk)
        · obtain ⟨k', hk', rfl⟩ := List.mem_map.mp hk
          have := few.len k' (List.mem_filter.mp hk').1
          rw [List.length_append]
          show k'.length + 1 ≤ c + 1
          omega
    · rintro σ' H5 ⟨kb2, ⟨fo, o3, rfl, ks, c, rfo, few, hc⟩⟩
      exact ⟨kb.trans (Same.kb (((s4.trans s5).trans s6).trans (kb0 kb2))), ⟨fo, _, _, _, rfl, ks, c, rfo, few, by simpa using hc⟩, hasc.2⟩
  · rintro σ' H' ⟨kb, ⟨fo, o2, o3, o4, rfl, ks, c, rfo, few, hc⟩, hasc⟩
    have c6 : c ≤ 6 := by omega
    have p6 : 2 ^ c ≤ 64 := Nat.le_trans (Nat.pow_le_pow_right (by omega) c6) (by decide)
    have hnum := few.num
    have hlenk := few.len
    obtain ⟨r0, e0⟩ := few.first
    subst e0
    refine dss_one (ds_ret (do_callB (cr_sortedK hr.units) T.b_sorted (by decide +kernel) (da_cons (EvR.go (erv_var (R := fun H v => Ls [] Rk H v ([] :: r0)) 1 rfl fun H7 s => Ls.same stb_rk s rfo) fun z H3 s4 rz => da_nil (by
      obtain ⟨c', xs, rfl, _, hc', hx⟩ := rz
      refine ⟨c', xs, r0, rfl, hc', hx.dl fun _ _ h => h.dl, by rw [List.length_cons] at hnum; omega, fun ys p' hp hn => ?_⟩
      obtain ⟨m, pm, hm⟩ := A2.perm hp hx
      have sE := (sH1.trans (kb0 kb)).trans s4
      refine q p' ys m _ (sE.trans (same_new hn)) (none_back sE hn) upd_same (hm.imp fun _ a h => (stb_rk a).same (same_new hn) h) (fun k hk => Nat.le_trans (hlenk k (pm.mem_iff.mp hk)) (by omega)) ?_
      rw [pm.length_eq]
      omega))) rfl))
end
end Lk
namespace Lk
open PySem PySem.Spec PyProof.Rows L2
/-! ### the tin -/
/-- at T stands the tin; so many draws at most have been made of its own -/
def Tin (T : Addr) (n : Nat) (H : Hp) : Prop := ∃ a b c : Int, H T = some (.lst [.int a, .int b, .int c]) ∧ 0 ≤ b ∧ b ≤ 2 ^ 62 ∧ 0 ≤ c ∧ c ≤ n
theorem Tin.same {T : Addr} {n : Nat} {H H' : Hp} (s : Same H H') (h : Tin T n H) : Tin T n H' := by
  obtain ⟨a, b, c, h, r⟩ := h
  exact ⟨a, b, c, s _ _ h, r⟩
theorem Tin.le {T : Addr} {n m : Nat} {H : Hp} (h : Tin T n H) (l : n ≤ m) : Tin T m H := by
  obtain ⟨a, b, c, h, h1, h2, h3, h4⟩ := h
  exact ⟨a, b, c, h, h1, h2, h3, by omega⟩
theorem Tin.kb {S : List Addr} {T : Addr} {n : Nat} {H H' : Hp} (k : Kb S H H') (hT : T ∉ S) (h : Tin T n H) : Tin T n H' := by
  obtain ⟨a, b, c, h, r⟩ := h
  exact ⟨a, b, c, k.1 _ _ hT h, r⟩
theorem Tin.some {T : Addr} {n : Nat} {H : Hp} (h : Tin T n H) : H T ≠ none := by
  obtain ⟨a, b, c, h, _⟩ := h
  rw [h]
  exact fun z => nomatch z
theorem Tin.ne {T A : Addr} {n : Nat} {H : Hp} (h : Tin T n H) (hA : H A = none) : T ≠ A := fun z => by
  rw [← z] at hA
  exact h.some hA
theorem DoI.mono {X : Cx} {tg iter : Expr} {σ : L2.St} {H : Hp} {R R' : It → Hp → Prop} (h : DoI X tg iter σ H R) (q : ∀ J H', R J H' → R' J H') : DoI X tg iter σ H R' :=
  ⟨fun pins s I => thn (h.run pins s I) fun v s1 h1 => thn h1 fun itv s2 ⟨it, fp, tn, J, H', e, I2, T, t0, f, r⟩ => ⟨it, fp, tn, J, H', e, I2, T, t0, f, q J H' r⟩⟩
theorem dts_nil {X : Cx} {σ : L2.St} {H : Hp} {Q : Bool → Hp → Prop} (q : Q true H) : DoTs X [] σ H Q := ⟨fun pins sh I => pts_nil.run pins sh σ H Q I q⟩
section
variable {X : Cx} {a b c e o ix elt tg iter : Expr} {es : List Expr} {σ : L2.St} {H : Hp} {d : PyData} {D : Ends} {pos p pos' apos cpos pn : Pos} {x y : Str} {scope : Scope}
/-- o[ix] = e, the list at A in slot i -/
theorem ds_setIx {A : Addr} {xs : List V} {k : Int} {j : Nat} (i : Nat) (h0 : σ[i]? = some (some (.ref A))) (hA : H A = some (.lst xs)) (he : EvD X e σ H d) (hi : ∀ H1, Same H H1 → EvD X ix σ H1 (.int k)) (hj : ixN xs.length k = some j) (q : ∀ v H1, Same H H1 → Dl H1 v d → H1 A = some (.lst xs) → D.nx σ (upd H1 A (.lst (xs.set j v))))
    (hN : X.N[i]? = some x := by rfl) (hv : Vis X.env.scope x := by first | exact .inl rfl | exact .inr (.inl rfl) | exact .inr (.inr rfl)) (hd : (x == ("__debug__" : Str)) = false := by decide) (hcd : (x == ("__classdict__" : Str)) = false := by decide)
    (ha : ∀ v, assign (.Subscript (.Name x pn) ix pos') X.env v = (do
      let ov ← holding [v] (eval (.Name x pn) X.env)
      let iv ← holding [v, ov] (eval ix X.env)
      standAt pos'
      holding [v, ov, iv] (setItem ov iv v)
      release [v, ov, iv] []) := by intro _; rfl)
    (hs : swapsWithSole [.Subscript (.Name x pn) ix pos'] e pos.line X.env = pure false := by rfl) (hw : swappedStores [.Subscript (.Name x pn) ix pos'] e X.env = pure none := by rfl) (h1 : (assignEach [.Subscript (.Name x pn) ix pos'] X.env).map (·.2) = [assign (.Subscript (.Name x pn) ix pos') X.env] := by rfl) :
    DoS X (.Assign [.Subscript (.Name x pn) ix pos'] e pos) D σ H :=
  ds_asg (pg_sub (DoE.pe (e := .Name x pn)) (DoE.pe (e := ix)) set_list ha) (he.go fun v H1 s r => DoE.of (pe_var hN hv hd hcd) ⟨.ref A, h0, (hi H1 s).go fun w H2 s2 rw' => by
    cases rw'
    exact ⟨A, xs, k, j, rfl, rfl, s2 _ _ (s _ _ hA), hj, q v H2 (s.trans s2) (r.mono s2) (s2 _ _ (s _ _ hA))⟩⟩) hs hw h1
/-- p.pop(e): what is at the place e of the list in slot i -/
theorem do_pop {A : Addr} {Q : VK} {xs0 : List V} (i : Nat) (h0 : σ[i]? = some (some (.ref A))) (hA : H A = some (.lst xs0)) (he : DoE X e σ H fun v H1 => ∃ xs k y, v = .int (k : Nat) ∧ H1 A = some (.lst xs) ∧ xs[k]? = some y ∧ k < 1000 ∧ Q y (upd H1 A (.lst (xs.eraseIdx k)))) (hN : X.N[i]? = some x := by rfl) (hv : Vis X.env.scope x := by first | exact .inl rfl | exact .inr (.inl rfl) | exact .inr (.inr rfl)) (hd : (x == ("__debug__" : Str)) = false := by decide)
    (hcd : (x == ("__classdict__" : Str)) = false := by decide) (hs : starEach [e] X.env = (false, eval e X.env) :: starEach [] X.env := by rfl)
    (hbase : attributeBase (.Name x pn) "pop" X.env (eval (.Name x pn) X.env) = eval (.Name x pn) X.env := by rfl)
    (hfew : ((backTo cpos (starEach [e] X.env)).all (fun x => !x.1) && (backToKw cpos (keywordEach [] X.env)).all (fun x => x.1.isSome)
      && decide (([e] : List Expr).length + ([] : List Keyword).length + (if ([] : List Keyword).isEmpty then 0 else 1) < 30)) = true := by rfl)
    (hline : (apos.endLine == cpos.line) = true := by rfl) (hplain : (backTo cpos (starEach [] X.env)).any (·.1) = false := by rfl) :
    DoE X (.Call (.Attribute (.Name x pn) "pop" apos) [e] [] cpos) σ H Q :=
  DoE.of (pe_bm PySem.F.plainAttrs_list PySem.F.slot_list_pop PySem.F.type_list_pop mt_popAt (DoE.pe (e := .Name x pn)) (DoA.pa (es := [e])) hbase hfew hline hs hplain)
    (DoE.of (pe_var hN hv hd hcd) ⟨.ref A, h0, .inl ⟨rfl, xs0, SqL.of hA⟩, da_cons (he.mono fun v H1 ⟨xs, k, y, e, h1, h2, h3, q⟩ => da_nil ⟨A, xs, k, k, y, rfl, by rw [e], h1, by omega, by omega, by
      have hk := (List.getElem?_eq_some_iff.mp h2).1
      have := seqIndex_of (k := (k : Int)) (n := xs.length) (by omega) (by simpa using hk)
      simpa using this, h2, q⟩) hs⟩)
/-- x.append(e), where e changes lists -/
theorem ds_appendM {A : Addr} {xs0 : List V} (i : Nat) (h0 : σ[i]? = some (some (.ref A))) (hA : H A = some (.lst xs0)) (he : DoE X e σ H fun v H1 => ∃ xs, H1 A = some (.lst xs) ∧ xs.length ≤ 1000 ∧ D.nx σ (upd H1 A (.lst (xs ++ [v])))) (hN : X.N[i]? = some x := by rfl) (hv : Vis X.env.scope x := by first | exact .inl rfl | exact .inr (.inl rfl) | exact .inr (.inr rfl)) (hd : (x == ("__debug__" : Str)) = false := by decide)
    (hcd : (x == ("__classdict__" : Str)) = false := by decide) (hs : starEach [e] X.env = (false, eval e X.env) :: starEach [] X.env := by rfl)
    (hsw : swapsWith (.Call (.Attribute (.Name x pn) "append" apos) [e] [] cpos) none pos.line X.env = pure false := by rfl)
    (hbase : attributeBase (.Name x pn) "append" X.env (eval (.Name x pn) X.env) = eval (.Name x pn) X.env := by rfl)
    (hfew : ((backTo cpos (starEach [e] X.env)).all (fun x => !x.1) && (backToKw cpos (keywordEach [] X.env)).all (fun x => x.1.isSome)
      && decide (([e] : List Expr).length + ([] : List Keyword).length + (if ([] : List Keyword).isEmpty then 0 else 1) < 30)) = true := by rfl)
    (hline : (apos.endLine == cpos.line) = true := by rfl) (hplain : (backTo cpos (starEach [] X.env)).any (·.1) = false := by rfl) :
    DoS X (.Expr (.Call (.Attribute (.Name x pn) "append" apos) [e] [] cpos) pos) D σ H :=
  ds_expr (DoE.of (pe_bm PySem.F.plainAttrs_list PySem.F.slot_list_append PySem.F.type_list_append mt_append (DoE.pe (e := .Name x pn)) (DoA.pa (es := [e])) hbase hfew hline hs hplain)
    (DoE.of (pe_var hN hv hd hcd) ⟨.ref A, h0, .inl ⟨rfl, xs0, SqL.of hA⟩, da_cons (he.mono fun v H1 ⟨xs, h1, h2, q⟩ => da_nil ⟨A, xs, v, rfl, rfl, h1, Nat.lt_of_le_of_lt h2 (by decide), q⟩) hs⟩)) hsw
/-- list(e) of a list or a tuple: a new list of the same values -/
theorem do_listV {Q : VK} (hm : X.mg "list" = none) (he : DoE X e σ H fun v H1 => ∃ c xs, v = .ref c ∧ (H1 c = some (.lst xs) ∨ Rd H1 c (.tup xs)) ∧ ∀ p, H1 p = none → Q (.ref p) (upd H1 p (.lst xs))) (hg : Gl X "list" := by rfl) (hs : starEach [e] X.env = (false, eval e X.env) :: starEach [] X.env := by rfl) (hpl : (backTo pos (starEach [] X.env)).any (·.1) = false := by rfl) : DoE X (.Call (.Name "list" p) [e] [] pos) σ H Q :=
  do_callTy call_list_of hm (by decide +kernel) (da_cons (he.mono fun v H1 ⟨c, xs, e, h, q⟩ => da_nil ⟨c, xs, by rw [e], h.imp SqL.of .inl, q⟩) hs) hg (by decide) (by decide) hs hpl
/-- o[i] of a list -/
theorem do_ixL {Q : VK} (ha : DoE X a σ H fun u H1 => DoE X b σ H1 fun v H2 => ∃ c xs i y, u = .ref c ∧ v = .int i ∧ H2 c = some (.lst xs) ∧ atI xs i = some y ∧ Q y H2) (hs : PlainIx b := by exact fun _ _ => rfl) : DoE X (.Subscript a b pos) σ H Q :=
  DoE.of (pe_ix ix_list DoE.pe DoE.pe hs) (ha.mono fun u H1 h => h.mono fun v H2 ⟨c, xs, i, y, e1, e2, h1, h2, q⟩ => ⟨c, xs, i, y, e1, e2, SqL.of h1, h2, q⟩)
/-- e1 op e2 of ints, where they change lists -/
theorem do_add {Q : VK} (ha : DoE X a σ H fun u H1 => ∃ i : Int, u = .int i ∧ DoE X b σ H1 fun v H2 => ∃ j : Int, v = .int j ∧ Q (.int (i + j)) H2) : DoE X (.BinOp a .Add b pos) σ H Q :=
  DoE.of (pe_op op_add DoE.pe DoE.pe) (ha.mono fun u H1 ⟨i, e, h⟩ => h.mono fun v H2 ⟨j, e2, q⟩ => ⟨i, j, e, e2, q⟩)
theorem do_mul {Q : VK} (ha : DoE X a σ H fun u H1 => ∃ i : Int, u = .int i ∧ DoE X b σ H1 fun v H2 => ∃ j : Int, v = .int j ∧ CMul i j ∧ Q (.int (i * j)) H2) : DoE X (.BinOp a .Mult b pos) σ H Q :=
  DoE.of (pe_op op_mul DoE.pe DoE.pe) (ha.mono fun u H1 ⟨i, e, h⟩ => h.mono fun v H2 ⟨j, e2, c, q⟩ => ⟨i, j, e, e2, c, q⟩)
/-- a comprehension whose list and whose elements may change lists: Pv is told of what is left, what was laid, the heap -/
theorem lcP_core {α : Type} {S : List Addr} {R : Hp → V → α → Prop} {g : TG} {own : List (Str × Nat)} {Q : VK} (hi : DoI X tg iter σ H fun J H1 => ∃ l : List α, YR S J H1 R l ∧ l.length ≤ 1000 ∧ ∀ A, H1 A = none → ∃ Pv : List α → List V → Hp → Prop, Pv l [] (upd H1 A (.lst [])) ∧
      (∀ r acc H', Pv r acc H' → Kb S H1 H' ∧ H' A = some (.lst acc) ∧ acc.length + r.length ≤ 1000) ∧
      (∀ a r acc v H' H'', a ∈ l → Pv (a :: r) acc H' → Same H' H'' → R H'' v a → ∃ τ : L2.St, (∀ Q' : L2.St → Hp → Prop, Q' τ H'' → g v (wipe σ (own.map (·.2))) H'' Q') ∧ wipe τ (own.map (·.2)) = wipe σ (own.map (·.2)) ∧
        ∀ (s : Shared) (H0 : Hp) (C : Addr) (cl : List (Str × Addr)) (fp : List Addr), DoE (X.blk s H0 scope (compEnvC scope cl C X.env) fp) elt τ H'' fun z H3 => H3 A = some (.lst acc) ∧ Pv r (acc ++ [z]) (upd H3 A (.lst (acc ++ [z])))) ∧
      ∀ acc H', Pv [] acc H' → Q (.ref A) H') :
    tLc (DoI X tg iter) g (fun σ' H' Q' => ∀ (s : Shared) (H0 : Hp) (C : Addr) (cl : List (Str × Addr)) (fp : List Addr), DoTs (X.blk s H0 scope (compEnvC scope cl C X.env) fp) [] σ' H' Q')
      (fun σ' H' Q' => ∀ (s : Shared) (H0 : Hp) (C : Addr) (cl : List (Str × Addr)) (fp : List Addr), DoE (X.blk s H0 scope (compEnvC scope cl C X.env) fp) elt σ' H' Q') (own.map (·.2)) σ H Q := by
  refine hi.mono fun J H1 h A hA => ?_
  obtain ⟨l, Y, hl, hP⟩ := h
  obtain ⟨Pv, p0, pr, pt, pd⟩ := hP A hA
  refine ⟨fun i m H' => m = l.length - i ∧ i ≤ l.length ∧ ∃ acc, Pv (l.drop i) acc H', ⟨l.length, rfl, Nat.zero_le _, [], p0⟩, ?_⟩
  rintro i m H' ⟨rfl, hi', acc, p⟩
  obtain ⟨k, hAc, hlen⟩ := pr _ _ _ p
  by_cases hlt : i < l.length
  · have e1 : l[i]? = some l[i] := List.getElem?_eq_getElem hlt
    have hd : l.drop i = l[i] :: l.drop (i + 1) := List.drop_eq_getElem_cons hlt
    obtain ⟨g1, g2⟩ := Y.1 i _ H' e1 k
    refine .inr ⟨g1, fun H'' => ∃ acc, Pv (l.drop (i + 1)) acc H'', fun H'' ⟨acc, n⟩ => ⟨l.length - (i + 1), by omega, rfl, hlt, acc, n⟩, fun x H'' y => ?_⟩
    obtain ⟨s2, r⟩ := g2 x H'' y
    rw [hd] at p
    obtain ⟨τ, t1, t2, t3⟩ := pt _ _ _ x H' H'' (List.getElem_mem hlt) p s2 r
    refine t1 _ ⟨t2, fun s H0' C cl fp => dts_nil ?_⟩
    rw [if_pos rfl]
    intro s H0'' C cl fp
    exact (t3 s H0'' C cl fp).mono fun z H3 ⟨h1, h2⟩ => ⟨acc, h1, Nat.lt_of_le_of_lt (show acc.length ≤ 1000 by omega) (by decide), acc ++ [z], h2⟩
  · have e1 : i = l.length := by omega
    subst e1
    rw [List.drop_length] at p
    exact .inl ⟨Y.2 H' k, pd _ _ p⟩
theorem do_lcP {α : Type} (j : Nat) {S : List Addr} {R : Hp → V → α → Prop} {g : TG} {own : List (Str × Nat)} {Q : VK} (hc : X.calm = true) (hN : X.N.Nodup) (ok : BlkOk X.N X.env.scope scope own)
    (hg : ∀ (s : Shared) (H : Hp) (C : Addr) (cl : List (Str × Addr)) (fp : List Addr), PG (X.blk s H scope (compEnvC scope cl C X.env) fp) tg g)
    (hi : DoI X tg iter σ H fun J H1 => ∃ l : List α, YR S J H1 R l ∧ l.length ≤ 1000 ∧ ∀ A, H1 A = none → ∃ Pv : List α → List V → Hp → Prop, Pv l [] (upd H1 A (.lst [])) ∧
      (∀ r acc H', Pv r acc H' → Kb S H1 H' ∧ H' A = some (.lst acc) ∧ acc.length + r.length ≤ 1000) ∧
      (∀ a r acc v H' H'', a ∈ l → Pv (a :: r) acc H' → Same H' H'' → R H'' v a → ∃ τ : L2.St, (∀ Q' : L2.St → Hp → Prop, Q' τ H'' → g v (wipe σ (own.map (·.2))) H'' Q') ∧ wipe τ (own.map (·.2)) = wipe σ (own.map (·.2)) ∧
        ∀ (s : Shared) (H0 : Hp) (C : Addr) (cl : List (Str × Addr)) (fp : List Addr), DoE (X.blk s H0 scope (compEnvC scope cl C X.env) fp) elt τ H'' fun z H3 => H3 A = some (.lst acc) ∧ Pv r (acc ++ [z]) (upd H3 A (.lst (acc ++ [z])))) ∧
      ∀ acc H', Pv [] acc H' → Q (.ref A) H') (hs : ∀ x, foldedSetIterable iter X.env x = pure x := by intro _; rfl) :
    DoE X (.ListComp elt [⟨tg, iter, [], 0⟩] scope pos) σ H Q := do_lc (own := own) (g := g) hc hN ok hg (lcP_core hi) hs
theorem ds_setLcP {α : Type} (i : Nat) {S : List Addr} {R : Hp → V → α → Prop} {g : TG} {own : List (Str × Nat)} {spos py : Pos} (hc : X.calm = true) (hN : X.N.Nodup) (ok : BlkOk X.N X.env.scope scope own)
    (hg : ∀ (s : Shared) (H : Hp) (C : Addr) (cl : List (Str × Addr)) (fp : List Addr), PG (X.blk s H scope (compEnvC scope cl C X.env) fp) tg g)
    (hi : DoI X tg iter σ H fun J H1 => ∃ l : List α, YR S J H1 R l ∧ l.length ≤ 1000 ∧ ∀ A, H1 A = none → ∃ Pv : List α → List V → Hp → Prop, Pv l [] (upd H1 A (.lst [])) ∧
      (∀ r acc H', Pv r acc H' → Kb S H1 H' ∧ H' A = some (.lst acc) ∧ acc.length + r.length ≤ 1000) ∧
      (∀ a r acc v H' H'', a ∈ l → Pv (a :: r) acc H' → Same H' H'' → R H'' v a → ∃ τ : L2.St, (∀ Q' : L2.St → Hp → Prop, Q' τ H'' → g v (wipe σ (own.map (·.2))) H'' Q') ∧ wipe τ (own.map (·.2)) = wipe σ (own.map (·.2)) ∧
        ∀ (s : Shared) (H0 : Hp) (C : Addr) (cl : List (Str × Addr)) (fp : List Addr), DoE (X.blk s H0 scope (compEnvC scope cl C X.env) fp) elt τ H'' fun z H3 => H3 A = some (.lst acc) ∧ Pv r (acc ++ [z]) (upd H3 A (.lst (acc ++ [z])))) ∧
      ∀ acc H', Pv [] acc H' → D.nx (σ.set i (some (.ref A))) H') (hs : ∀ x, foldedSetIterable iter X.env x = pure x := by intro _; rfl)
    (hy : X.N[i]? = some y := by rfl) (hyl : X.env.scope.names.lookup y = some .local := by rfl)
    (hsw : swapsWith (.ListComp elt [⟨tg, iter, [], 0⟩] scope pos) (some (.Name y py)) spos.line X.env = pure true := by rfl) :
    DoS X (.Assign [.Name y py] (.ListComp elt [⟨tg, iter, [], 0⟩] scope pos) spos) D σ H := ds_setLc i (own := own) (g := g) hc hN hy hyl hsw ok hg (lcP_core (Q := fun v H' => D.nx (σ.set i (some v)) H') hi) hs
end
end Lk
namespace Lk
open PySem PySem.Spec PyProof.Rows L2
def sp_take : Sp := fun vs H Q _ => ∃ T n m, vs = [.ref T, .int m] ∧ Tin T n H ∧ n ≤ 1000000 ∧ 0 < m ∧ m ≤ 1000 ∧ ∀ d H', 0 ≤ d → d < m → Kb [T] H H' → Tin T (n + 1) H' → Q (.int d) H'
def sp_of : Sp := fun vs H Q _ => ∃ T n c xs, vs = [.ref T, .ref c] ∧ Tin T n H ∧ n ≤ 1000000 ∧ c ≠ T ∧ H c = some (.lst xs) ∧ 0 < xs.length ∧ xs.length ≤ 1000 ∧ ∀ x H', x ∈ xs → Kb [T] H H' → Tin T (n + 1) H' → Q x H'
def sp_pick : Sp := fun vs H Q _ => ∃ T n c xs k, vs = [.ref T, .ref c, .int k] ∧ Tin T n H ∧ n ≤ 900000 ∧ c ≠ T ∧ H c = some (.lst xs) ∧ xs.length ≤ 100 ∧ 0 ≤ k ∧
  ∀ A ys rest H', Kb [T] H H' → H A = none → H' A = some (.lst ys) → (ys ++ rest).Perm xs → ys.length = min k.toNat xs.length → Tin T (n + xs.length) H' → Q (.ref A) H'
theorem do_lenV {X : Cx} {e : Expr} {σ : L2.St} {H : Hp} {p pos : Pos} {Q : VK} (hm : X.mg "len" = none) (he : DoE X e σ H fun v H1 => ∃ c xs, v = .ref c ∧ H1 c = some (.lst xs) ∧ Q (.int (xs.length : Int)) H1) (hg : Gl X "len" := by rfl) (hs : starEach [e] X.env = (false, eval e X.env) :: starEach [] X.env := by rfl) (hpl : (backTo pos (starEach [] X.env)).any (·.1) = false := by rfl) : DoE X (.Call (.Name "len" p) [e] [] pos) σ H Q :=
  do_callB call_len_seq hm PySem.boot_len (da_cons (he.mono fun v H1 ⟨c, xs, e, h, q⟩ => da_nil ⟨c, xs, by rw [e], .inl (SqL.of h), q⟩) hs) hg (by decide) (by decide) hs hpl
theorem erase_perm {α : Type} : ∀ {l : List α} {i : Nat} {y : α}, l[i]? = some y → (y :: l.eraseIdx i).Perm l
  | [], i, y, h => by simp at h
  | a :: l, 0, y, h => by
    cases (Option.some.inj h : a = y)
    exact List.Perm.refl _
  | a :: l, i + 1, y, h => by
    have ih := erase_perm (l := l) (i := i) (y := y) (by simpa using h)
    exact (List.Perm.swap a y _).trans (ih.cons a)
theorem yr_rng {S : List Addr} {H : Hp} (m : Nat) : YR S (Itr 0 m) H (fun _ v (i : Nat) => v = .int (i : Int)) (List.range m) := by
  refine ⟨fun i a H' e k => ?_, fun H' k => ?_⟩
  · have hi : i < m := by
      have := (List.getElem?_eq_some_iff.mp e).1
      simpa using this
    have ha : a = i := by
      rw [List.getElem?_range hi] at e
      exact (Option.some.inj e).symm
    refine ⟨hi, fun x H'' y => ?_⟩
    obtain ⟨rfl, rfl⟩ := y
    exact ⟨Same.refl _, by rw [ha, Int.zero_add]⟩
  · show m ≤ _
    rw [List.length_range]
    exact Nat.le_refl m
section
variable {P : Program} {w : World} {K : PySem.W.Frag} {mg : Str → Option Value} {base : Heap}
theorem ok_take (T : Tops K mg) : Good P w K mg base 1 "_law_take" ["_law_tin", "_law_below_so"] sp_take := by
  refine good_of T.d_law_take sc_law_take (fun vs H Q E h => by obtain ⟨T, n, m, rfl, _⟩ := h; rfl) fun f cdv A outer s0 H vs Q E hr h => ?_
  obtain ⟨A, n, m, rfl, ⟨a, b, c, hA, hb0, hb, hc0, hc⟩, hn, hm0, hm, q⟩ := h
  have nd := sc_law_take.nd
  have rd : ∀ {H1 : Hp} {a b c : Int}, H1 A = some (.lst [.int a, .int b, .int c]) → Dl H1 (.ref A) (.list [.int a, .int b, .int c]) := fun h => .lst h (dl_ints (ns := [_, _, _]))
  have lg : ∀ k : Int, 0 < k → k ≤ 2147483647 → CDivW a k := fun k h0 h1 => ⟨h0, by
    have : k.natAbs < 2 ^ 31 := by omega
    have := (Nat.log2_lt (by omega)).mpr this
    omega⟩
  have lgB : ∀ i k : Int, 0 < k → k ≤ 2147483647 → CDivW i k := fun i k h0 h1 => ⟨h0, (lg k h0 h1).2⟩
  refine dss_cons (ds_ifT (et_gt (ev_ixL (ev_var 0 rfl (rd hA)) ev_int atI0) ev_int) (fun hk H1 s1 => ?_) fun hk H1 s1 => dss_nil ?_)
  · have hA1 := s1 _ _ hA
    refine dss_cons (ds_set 2 nd (EvD.go (ev_mod (ev_intI T.b_int (ev_ixL (ev_var 0 rfl (rd hA1)) ev_int atI0)) (ev_var 1 rfl (.int m)) hm0) fun v H2 s2 r2 => ?_))
    cases r2
    have hA2 := s2 _ _ hA1
    refine dss_cons (ds_setIx (k := 0) (j := 0) 0 rfl hA2 (ev_div (ev_ixL (ev_var 0 rfl (rd hA2)) ev_int atI0) (ev_var 1 rfl (.int m)) (lgB _ m hm0 (by omega))) (fun H3 s3 => ev_int) rfl fun v H3 s3 r3 hA3 => ?_)
    cases r3
    refine dss_one (ds_retD (ev_var 2 rfl (.int (a % m))) fun z H4 s4 rz => ?_)
    cases rz
    exact q _ H4 (Int.emod_nonneg a (by omega)) (Int.emod_lt_of_pos a hm0) (((Same.kb ((s1.trans s2).trans s3)).trans (Kb.upd hA3 List.mem_cons_self)).trans (Same.kb s4)) ⟨a / m, b, c, s4 _ _ upd_same, hb0, hb, hc0, by omega⟩
  · have hA1 := s1 _ _ hA
    refine dss_cons (ds_setIx (k := 2) (j := 2) 0 rfl hA1 (ev_add (ev_ixL (ev_var 0 rfl (rd hA1)) ev_int atI2) ev_int) (fun H3 s3 => ev_int) rfl fun v H2 s2 r2 hA2 => ?_)
    cases r2
    have kb2 : Kb [A] H (upd H2 A (.lst [.int a, .int b, .int (c + 1)])) := (Same.kb (s1.trans s2)).trans (Kb.upd hA2 List.mem_cons_self)
    have hA3 : upd H2 A (.lst [.int a, .int b, .int (c + 1)]) A = some (.lst [.int a, .int b, .int (c + 1)]) := upd_same
    have fin : ∀ i : Int, 0 ≤ i → i < 2147483648 → CMul i 48271 := fun i _ _ => .inr ⟨by omega, by omega⟩
    refine dss_cons (ds_set 3 nd (EvD.go (ev_mod (ev_intI T.b_int (ev_mul (ev_add (ev_ixL (ev_var 0 rfl (rd hA3)) ev_int atI1) (ev_mul ev_int (ev_ixL (ev_var 0 rfl (rd hA3)) ev_int atI2) (.inl ⟨by omega, by omega⟩))) (ev_add ev_int (ev_ixL (ev_var 0 rfl (rd hA3)) ev_int atI2)) (.inr ⟨by omega, by omega⟩))) ev_int (by omega)) fun v H4 s4 r4 => ?_))
    cases r4
    have hA4 := s4 _ _ hA3
    refine dss_cons (ds_set 4 nd (EvD.go (ev_add (ev_mod (ev_intI T.b_int (ev_var 3 rfl (.int _))) ev_int (by omega)) ev_int) fun v H5 s5 r5 => ?_))
    cases r5
    have hA5 := s5 _ _ hA4
    refine dss_cons (ds_set 5 nd (EvD.go (ev_mod (ev_intI T.b_int (ev_mul (ev_add (ev_add (ev_var 3 rfl (.int _)) (ev_ixL (ev_var 0 rfl (rd hA5)) ev_int atI2)) (ev_div (ev_ixL (ev_var 0 rfl (rd hA5)) ev_int atI1) ev_int (lgB _ _ (by omega) (by omega)))) (ev_var 4 rfl (.int _)) (.inr ?_))) ev_int (by omega)) fun v H6 s6 r6 => ?_))
    · generalize hq : (b + 48271 * (c + 1)) * (39373 + (c + 1)) % 2147483647 = o
      have h1 := Int.emod_nonneg o (show (40009 : Int) ≠ 0 by omega)
      have h2 := Int.emod_lt_of_pos o (show (0 : Int) < 40009 by omega)
      exact ⟨by omega, by omega⟩
    cases r6
    refine dss_one (ds_retD (ev_mod (ev_intI T.b_int (ev_div (ev_mod (ev_intI T.b_int (ev_add (ev_mul (ev_var 5 rfl (.int _)) ev_int (.inr ⟨by omega, by omega⟩)) (ev_var 3 rfl (.int _)))) ev_int (by omega)) ev_int (lgB _ _ (by omega) (by omega)))) (ev_var 1 rfl (.int m)) hm0) fun z H7 s7 rz => ?_)
    cases rz
    have s47 := ((s4.trans s5).trans s6).trans s7
    exact q _ H7 (Int.emod_nonneg _ (by omega)) (Int.emod_lt_of_pos _ hm0) (kb2.trans (Same.kb s47)) ⟨a, b, c + 1, s47 _ _ hA3, hb0, hb, by omega, by omega⟩
theorem ok_of (T : Tops K mg) : Good P w K mg base 2 "_law_of" ["_law_tin", "_law_goods_so"] sp_of := by
  have G := ok_take (P := P) (w := w) (base := base) T
  refine good_of T.d_law_of sc_law_of (fun vs H Q E h => by obtain ⟨T, n, c, xs, rfl, _⟩ := h; rfl) fun f cdv A outer s0 H vs Q E hr h => ?_
  obtain ⟨A, n, c, xs, rfl, ht, hn, hne, hc, h0, hl, q⟩ := h
  refine dss_one (ds_ret (do_ixL (EvV.go (evv_var 1 rfl) fun H1 s1 => ?_)))
  have hc1 := s1 _ _ hc
  refine do_call G hr rfl (da_cons (EvV.go (evv_var 0 rfl) fun H2 s2 => da_cons ?_))
  have hc2 := s2 _ _ hc1
  refine do_lenV T.b_len (EvV.go (evv_var 1 rfl) fun H3 s3 => ⟨c, xs, rfl, s3 _ _ hc2, ?_⟩)
  have s13 := (s1.trans s2).trans s3
  refine da_nil ⟨A, n, xs.length, rfl, ht.same s13, hn, by omega, by omega, fun d H4 d0 d1 k4 t4 => ?_⟩
  have hd : d.toNat < xs.length := by omega
  exact ⟨c, xs, d, xs[d.toNat], rfl, rfl, k4.1 _ _ (by simpa using hne) (s13 _ _ hc), by
    have := atI_nat (xs := xs) (j := d.toNat) (List.getElem?_eq_getElem hd)
    rwa [Int.toNat_of_nonneg d0] at this, q _ H4 (List.getElem_mem hd) ((Same.kb s13).trans k4) t4⟩
theorem ok_pick (T : Tops K mg) : Good P w K mg base 2 "_law_pick" ["_law_tin", "_law_goods_so", "_law_count_so"] sp_pick := by
  have G := ok_take (P := P) (w := w) (base := base) T
  refine good_of T.d_law_pick sc_law_pick (fun vs H Q E h => by obtain ⟨T, n, c, xs, k, rfl, _⟩ := h; rfl) fun f cdv A outer s0 H vs Q E hr h => ?_
  obtain ⟨A, n, c, xs, k, rfl, ht, hn, hne, hc, hl, hk, q⟩ := h
  have nd := sc_law_pick.nd
  refine dss_cons (ds_par 3 4 rfl nd (da_cons (do_listV T.b_list (EvV.go (evv_var 1 rfl) fun H1 s1 => ⟨c, xs, rfl, .inl (s1 _ _ hc), fun p hp => da_cons (do_nilL fun F hF => da_nil ⟨.ref p, .ref F, rfl, ?_⟩)⟩))))
  have s2 : Same H1 (upd H1 p (.lst xs)) := same_new hp
  have s3 : Same (upd H1 p (.lst xs)) (upd (upd H1 p (.lst xs)) F (.lst [])) := same_new hF
  have sH := (s1.trans s2).trans s3
  have hp0 : H p = none := none_back s1 hp
  have hF0 : H F = none := none_back (s1.trans s2) hF
  have pF : p ≠ F := fun z => by rw [← z, upd_same] at hF; cases hF
  have tp : A ≠ p := ht.ne hp0
  have tF : A ≠ F := ht.ne hF0
  have hpl : upd (upd H1 p (.lst xs)) F (.lst []) p = some (.lst xs) := s3 _ _ upd_same
  refine dss_cons (ds_forR .never rfl (pg_name nd (i := 5) rfl (by first | exact .inl rfl | exact .inr rfl)) (DoI.of (pi_range1 rfl T.b_range DoA.pa) (da_cons (do_callB (call_min2 rfl) T.b_min (by decide +kernel) (da_cons (EvD.go (ev_intI T.b_int (ev_var 2 rfl (.int k))) fun v2 H2 s4 r2 => da_cons (do_lenV T.b_len (EvV.go (evv_var 3 rfl) fun H3 s5 => ⟨p, xs, rfl, s5 _ _ (s4 _ _ hpl), da_nil ?_⟩)))) rfl))))
  cases r2
  refine ⟨k, xs.length, rfl, da_nil ⟨_, rfl, by split <;> omega, by split <;> omega, ?_⟩⟩
  have s45 := s4.trans s5
  have eM : (if (xs.length : Int) < k then (xs.length : Int) else k).toNat = min k.toNat xs.length := by
    split <;> omega
  rw [eM]
  have F3 : H3 F = some (.lst []) := s45 _ _ upd_same
  have p3 : H3 p = some (.lst xs) := s45 _ _ hpl
  refine walkedR [A, p, F] (fun _ v (i : Nat) => v = .int (i : Int)) (List.range (min k.toNat xs.length)) (fun l σ' H' => Kb [A, p, F] H3 H' ∧ (∃ o, σ' = [some (.ref A), some (.ref c), some (.int k), some (.ref p), some (.ref F), o]) ∧ ∃ acc pool, H' F = some (.lst acc) ∧ H' p = some (.lst pool) ∧ (acc ++ pool).Perm xs ∧ acc.length + l.length = min k.toNat xs.length ∧ Tin A (n + acc.length) H') (yr_rng _) ⟨Kb.refl, ⟨none, rfl⟩, [], xs, F3, p3, List.Perm.refl _, by simp, ht.same (sH.trans s45)⟩ (fun r σ' H' h => h.1) ?_ ?_
  · rintro a l x σ' H4 H5 ha ⟨kb, ⟨o, rfl⟩, acc, pool, hF4, hp4, hperm, hlen, ht4⟩ s6 rx
    have hF5 := s6 _ _ hF4
    have hp5 := s6 _ _ hp4
    have hcount := hperm.length_eq
    rw [List.length_append] at hcount
    rw [List.length_cons] at hlen
    refine dss_one (ds_appendM 4 rfl hF5 (do_pop 3 rfl hp5 (do_call G hr rfl (da_cons (EvV.go (evv_var 0 rfl) fun H6 s7 => da_cons (do_lenV T.b_len (EvV.go (evv_var 3 rfl) fun H7 s8 => ⟨p, pool, rfl, s8 _ _ (s7 _ _ hp5), da_nil ⟨A, n + acc.length, pool.length, rfl, (ht4.same s6).same (s7.trans s8), by omega, by omega, by omega, fun d H8 d0 d1 k8 t8 => ?_⟩⟩)))))))
    have hd : d.toNat < pool.length := by omega
    have s68 := (s6.trans s7).trans s8
    have hp8 : H8 p = some (.lst pool) := k8.1 _ _ (by simpa using tp.symm) ((s7.trans s8) _ _ hp5)
    have hF8 : H8 F = some (.lst acc) := k8.1 _ _ (by simpa using tF.symm) ((s7.trans s8) _ _ hF5)
    have gy : pool[d.toNat]? = some pool[d.toNat] := List.getElem?_eq_getElem hd
    have hF9 : upd H8 p (.lst (pool.eraseIdx d.toNat)) F = some (.lst acc) := by rw [upd_ne pF.symm]; exact hF8
    refine ⟨pool, d.toNat, pool[d.toNat], by rw [Int.toNat_of_nonneg d0], hp8, gy, by omega, acc, hF9, by omega, ?_, ⟨_, rfl⟩, acc ++ [pool[d.toNat]], pool.eraseIdx d.toNat, upd_same, ?_, ?_, ?_, ?_⟩
    · have k9 : Kb [A, p, F] H8 (upd H8 p (.lst (pool.eraseIdx d.toNat))) := Kb.upd hp8 (by simp)
      exact (((kb.trans (Same.kb s68)).trans (k8.sub (by simp))).trans k9).trans (Kb.upd hF9 (by simp))
    · rw [upd_ne pF]
      exact upd_same
    · refine List.Perm.trans ?_ hperm
      rw [List.append_assoc]
      exact List.Perm.append_left acc (erase_perm gy)
    · rw [List.length_append, List.length_singleton]
      omega
    · rw [List.length_append, List.length_singleton, ← Nat.add_assoc]
      refine (t8.kb (S := [p]) (Kb.upd hp8 List.mem_cons_self) (by simpa using tp)).kb (S := [F]) (Kb.upd hF9 List.mem_cons_self) (by simpa using tF)
  · rintro σ' H4 ⟨kb, ⟨o, rfl⟩, acc, pool, hF4, hp4, hperm, hlen, ht4⟩
    refine dss_one (ds_ret (EvV.go (evv_var 4 rfl) fun H5 s6 => ?_))
    refine q F acc pool H5 (Kb.drop (((Same.kb (sH.trans s45)).trans kb).trans (Same.kb s6)) fun x hx => ?_) hF0 (s6 _ _ hF4) hperm (by simpa using hlen) ((ht4.same s6).le ?_)
    · simp only [List.mem_cons, List.not_mem_nil, or_false] at hx
      rcases hx with rfl | rfl | rfl
      · exact .inl List.mem_cons_self
      · exact .inr hp0
      · exact .inr hF0
    · have := hperm.length_eq
      rw [List.length_append] at this
      omega
end
end Lk
namespace Lk
open PySem PySem.Spec PyProof.Rows L2
theorem sql_same {K : PySem.W.Frag} {H H' : Hp} {a : Addr} {xs : List V} (s : Same H H') (h : SqL K H a xs) : SqL K H' a xs := h.imp (Same.rd s) id
theorem yr_enum {S : List Addr} {K : PySem.W.Frag} {H : Hp} {a : Addr} {ns : List Int} (ha : H a = some (.lst (ns.map V.int))) (hS : a ∉ S) : YR S (Ite K a) H (fun H v (i : Nat) => ∃ n : Int, Dl H v (.tuple [.int (i : Int), .int n])) (List.range ns.length) := by
  refine ⟨fun i b H' e k => ?_, fun H' k => ⟨_, SqL.of (k.1 _ _ hS ha), by rw [List.length_map, List.length_range]; exact Nat.le_refl _⟩⟩
  have hi : i < ns.length := by
    have := (List.getElem?_eq_some_iff.mp e).1
    simpa using this
  have hb : b = i := by
    rw [List.getElem?_range hi] at e
    exact (Option.some.inj e).symm
  have hs : SqL K H' a (ns.map V.int) := SqL.of (k.1 _ _ hS ha)
  have hx : (ns.map V.int)[i]? = some (V.int ns[i]) := by rw [List.getElem?_map, List.getElem?_eq_getElem hi]; rfl
  refine ⟨⟨_, _, hs, hx⟩, fun x H'' y => ?_⟩
  obtain ⟨T, z, rfl, hT, rfl, f1⟩ := y
  have := f1 _ hs
  rw [hx] at this
  cases this
  refine ⟨same_new hT, ns[i], ?_⟩
  rw [hb]
  exact .tup (.inl upd_same) (.cons (.int _) (.cons (.int _) .nil))
theorem cut_ints (ns : List Int) (lo hi : Option Int) : ∃ ms : List Int, cutV (ns.map V.int) lo hi = ms.map V.int ∧ ms.length ≤ ns.length := by
  unfold cutV
  refine ⟨(ns.drop (HT.sIx (ns.map V.int).length 0 lo)).take (HT.sIx (ns.map V.int).length (ns.map V.int).length hi - HT.sIx (ns.map V.int).length 0 lo), by rw [List.map_take, List.map_drop], ?_⟩
  rw [List.length_take, List.length_drop]
  omega
def sp_cells (K : PySem.W.Frag) : Sp := fun vs H Q _ => ∃ (a : Addr) (ns : List Int), vs = [.ref a, .int 1] ∧ SqL K H a (ns.map V.int) ∧ ns.length ≤ 63 ∧ ∀ A x H', Same H H' → H' A = some (.lst [.int x]) → Q (.ref A) H'
def sp_box : Sp := fun vs H Q _ => ∃ (c : Addr) (x : Int), vs = [.ref c, .int 0] ∧ H c = some (.lst [.int x]) ∧ ∀ A H', Same H H' → Tin A 0 H' → Q (.ref A) H'
section
variable {P : Program} {w : World} {K : PySem.W.Frag} {mg : Str → Option Value} {base : Heap}
theorem ok_box (T : Tops K mg) : Good P w K mg base 1 "_law_box" ["_law_script", "_law_k"] sp_box := by
  refine good_of T.d_law_box sc_law_box (fun vs H Q E h => by obtain ⟨c, x, rfl, _⟩ := h; rfl) fun f cdv A outer s0 H vs Q E hr h => ?_
  obtain ⟨c, x, rfl, hc, q⟩ := h
  have nd := sc_law_box.nd
  have rc : Dl H (.ref c) (.list [.int x]) := .lst hc (dl_ints (ns := [x]))
  refine dss_cons (ds_set 2 nd (EvD.go (d := .int x) (ev_if (k := true) (EvT.is (et_lt (ev_var 1 rfl (.int 0)) (ev_lenL T.b_len (ev_var 0 rfl rc))) rfl) (fun _ => ev_ixL (ev_var 0 rfl rc) (ev_var 1 rfl (.int 0)) atI0) fun z => nomatch z) fun v H1 s1 r1 => ?_))
  cases r1
  have h1 := Int.emod_nonneg x (show (2305843009213693951 : Int) ≠ 0 by omega)
  have h2 := Int.emod_lt_of_pos x (show (0 : Int) < 2305843009213693951 by omega)
  refine dss_one (ds_retD (ev_lstN (eva_cons (ev_mul (ev_abs T.b_abs (ev_var 2 rfl (.int x))) (ev_intB T.b_int (ev_ge (ev_abs T.b_abs (ev_var 2 rfl (.int x))) (ev_pow ev_int ev_int ⟨by omega, by omega, by decide⟩))) (.inr (by split <;> exact ⟨by omega, by omega⟩))) (eva2 (ev_add (ev_add (ev_mod (ev_intI T.b_int (ev_var 2 rfl (.int x))) ev_int (by omega)) (ev_mul ev_int (ev_var 1 rfl (.int 0)) (.inl ⟨by omega, by omega⟩))) ev_int) ev_int))) fun z H2 s2 rz => ?_)
  cases rz with
  | lst ha hd =>
    have e := DlAll.ints (ns := [_, _, _]) hd
    subst e
    exact q _ H2 (s1.trans s2) ⟨_, _, _, ha, by omega, by omega, by omega, by omega⟩
theorem ok_cells (T : Tops K mg) : Good P w K mg base 1 "_law_cells" ["_law_script", "_law_most_so"] (sp_cells K) := by
  refine good_of T.d_law_cells sc_law_cells (fun vs H Q E h => by obtain ⟨c, x, rfl, _⟩ := h; rfl) fun f cdv A outer s0 H vs Q E hr h => ?_
  obtain ⟨a, ns, rfl, ha, hl, q⟩ := h
  have nd := sc_law_cells.nd
  have main : ∀ (p : Addr) (x : Int) (H1 : Hp), H p = none → Same H H1 → H1 p = some (.lst [.int x]) → DoSs (cx0 P w K mg base n_law_cells "_law_cells" s_law_cells f cdv A outer s0 H E) ((defBody s_law_cells).drop 1) { nx := fun _ H' => Q .non H', rt := Q } [some (.ref a), some (.int 1), some (.ref p), none, none, none] H1 := fun p x H1 hp s1 hpx => by
    have ha1 := sql_same s1 ha
    refine dss_cons (ds_forR .never rfl (pg_pair 3 4 rfl nd) (DoI.of (pi_enum rfl T.b_enumerate DoA.pa) (da_cons (DoE.of (pe_slice sl_list DoE.pe (po_some DoE.pe) (po_some DoE.pe)) (EvV.go (evv_var 0 rfl) fun H2 s2 => EvV.go (evv_var 1 rfl) fun H3 s3 => ⟨1, rfl, EvD.go ev_int fun u H4 s4 r4 => ?_⟩)) rfl)))
    cases r4
    have s24 := (s2.trans s3).trans s4
    refine ⟨63, rfl, a, _, rfl, sql_same s24 ha1, fun p2 hp2 => da_nil ?_⟩
    obtain ⟨ms, em, lm⟩ := cut_ints ns (some 1) (some 63)
    rw [em]
    have s5 : Same H4 (upd H4 p2 (.lst (ms.map V.int))) := same_new hp2
    refine ⟨p2, _, rfl, SqL.of upd_same, ?_⟩
    have pp : p2 ≠ p := fun z => by rw [z, (s24) _ _ hpx] at hp2; cases hp2
    have hp5 : upd H4 p2 (.lst (ms.map V.int)) p = some (.lst [.int x]) := s5 _ _ (s24 _ _ hpx)
    refine walkedR [p] (fun H v (i : Nat) => ∃ n : Int, Dl H v (.tuple [.int (i : Int), .int n])) (List.range ms.length) (fun l σ' H' => Kb [p] (upd H4 p2 (.lst (ms.map V.int))) H' ∧ (∃ o3 o4 o5, σ' = [some (.ref a), some (.int 1), some (.ref p), o3, o4, o5]) ∧ ∃ x, H' p = some (.lst [.int x])) (yr_enum upd_same (by simpa using pp)) ⟨Kb.refl, ⟨none, none, none, rfl⟩, x, hp5⟩ (fun r σ' H' h => h.1) ?_ ?_
    · rintro i l y σ' H6 H7 hi ⟨kb, ⟨o3, o4, o5, rfl⟩, x, hpx⟩ s7 ⟨n, ry⟩
      have hi : i < 63 := by
        have := List.mem_range.mp hi
        omega
      refine gpair ry fun y1 y2 r1 r2 => ?_
      cases r1
      cases r2
      have hp7 := s7 _ _ hpx
      refine dss_cons (ds_set 5 nd (EvD.go (ev_mod (ev_intI T.b_int (ev_var 3 rfl (.int _))) (ev_var 1 rfl (.int 1)) (by omega)) fun v H8 s8 r8 => ?_))
      cases r8
      have hp8 := s8 _ _ hp7
      have rp : Dl H8 (.ref p) (.list [.int x]) := .lst hp8 (dl_ints (ns := [x]))
      have e0 : (i : Int) % 1 = 0 := Int.emod_one _
      refine dss_one (ds_setIx (k := 0) (j := 0) 2 rfl hp8 (ev_add (ev_ixL (ev_var 2 rfl rp) (EvD.is (ev_var 5 rfl (.int _)) (by rw [e0])) atI0) (ev_mul (ev_var 4 rfl (.int n)) (ev_add (ev_var 3 rfl (.int _)) ev_int) (.inr ⟨by omega, by omega⟩))) (fun H9 s9 => EvD.is (ev_var 5 rfl (.int _)) (by rw [e0])) rfl fun v H9 s9 r9 hp9 => ?_)
      cases r9
      exact ⟨(kb.trans (Same.kb ((s7.trans s8).trans s9))).trans (Kb.upd hp9 List.mem_cons_self), ⟨_, _, _, rfl⟩, _, upd_same⟩
    · rintro σ' H6 ⟨kb, ⟨o3, o4, o5, rfl⟩, x, hpx⟩
      refine dss_one (ds_ret (EvV.go (evv_var 2 rfl) fun H7 s7 => q p x H7 ?_ (s7 _ _ hpx)))
      exact Kb.to_same (kb.trans (Same.kb s7)) ((s1.trans s24).trans s5) hp
  refine dss_cons (ds_set 2 nd (DoE.of (pe_orT DoE.pe DoE.pe) (do_listV T.b_list (DoE.of (pe_slice sl_list DoE.pe po_none (po_some DoE.pe)) (EvV.go (evv_var 0 rfl) fun H1 s1 => EvV.go (evv_var 1 rfl) fun H2 s2 => ⟨1, rfl, a, _, rfl, sql_same (s1.trans s2) ha, fun p1 hp1 => ⟨p1, _, rfl, .inl upd_same, fun p hp => ?_⟩⟩)))))
  have s3 : Same H2 (upd H2 p1 (.lst (cutV (ns.map V.int) none (some 1)))) := same_new hp1
  have s4 : Same (upd H2 p1 (.lst (cutV (ns.map V.int) none (some 1)))) (upd (upd H2 p1 (.lst (cutV (ns.map V.int) none (some 1)))) p (.lst (cutV (ns.map V.int) none (some 1)))) := same_new hp
  have sH := ((s1.trans s2).trans s3).trans s4
  have ec : cutV (ns.map V.int) none (some 1) = (ns.take 1).map V.int := by
    unfold cutV
    rw [HT.sIx_none, show HT.sIx (ns.map V.int).length (ns.map V.int).length (some 1) = min 1 (ns.map V.int).length from HT.sIx_nat _ _ 1, List.drop_zero, Nat.sub_zero, List.length_map, List.map_take]
    cases ns with
    | nil => rfl
    | cons n ns => rw [show min 1 (n :: ns).length = 1 by rw [List.length_cons]; omega]
  have hpn : H p = none := none_back ((s1.trans s2).trans s3) hp
  refine ⟨!(cutV (ns.map V.int) none (some 1)).isEmpty, .inl ⟨_, SqL.of upd_same, rfl⟩, ?_⟩
  rw [ec] at s4 sH ⊢
  cases ns with
  | nil =>
    refine iteF (DoE.of (pe_one DoE.pe) (DoE.of (pe_lst DoA.pa) ((eva1 ev_int).go fun vs H5 s5 r5 => ⟨by rw [r5.length]; exact Nat.le_trans (show 1 ≤ 1000 by omega) (by decide), fun p3 hp3 => ?_⟩)))
    have e5 := DlAll.ints (ns := [_]) r5
    subst e5
    exact main p3 _ _ (none_back (sH.trans s5) hp3) ((sH.trans s5).trans (same_new hp3)) upd_same
  | cons n ns =>
    exact iteT (main p n _ hpn sH upd_same)
end
end Lk
namespace Lk
open PySem PySem.Spec PyProof.Rows L2
theorem A2.split {α β : Type} {R : β → α → Prop} : ∀ {xs ys : List β} {l : List α}, A2 R (xs ++ ys) l → ∃ l1 l2, l = l1 ++ l2 ∧ A2 R xs l1 ∧ A2 R ys l2
  | [], ys, l, h => ⟨[], l, rfl, .nil, h⟩
  | x :: xs, ys, _, h => by
    cases h with
    | cons r h =>
      obtain ⟨l1, l2, rfl, h1, h2⟩ := A2.split h
      exact ⟨_ :: l1, l2, rfl, .cons r h1, h2⟩
theorem pick_out {α : Type} {R : V → α → Prop} {xs ys rest : List V} {l : List α} (h : A2 R xs l) (p : (ys ++ rest).Perm xs) : ∃ l1 l2, (l1 ++ l2).Perm l ∧ A2 R ys l1 := by
  obtain ⟨m, pm, hm⟩ := A2.perm p h
  obtain ⟨l1, l2, rfl, h1, h2⟩ := hm.split
  exact ⟨l1, l2, pm, h1⟩
theorem a2_map {α : Type} {f : α → V} : ∀ {xs : List V} {l : List α}, A2 (fun v a => v = f a) xs l → xs = l.map f
  | _, _, .nil => rfl
  | _, _, .cons r h => by rw [r, a2_map h]; rfl
theorem map_a2 {α : Type} {f : α → V} : ∀ {l : List α}, A2 (fun v a => v = f a) (l.map f) l
  | [] => .nil
  | _ :: _ => .cons rfl map_a2
theorem sub_nodup {α : Type} {l1 l2 l : List α} (p : (l1 ++ l2).Perm l) (n : l.Nodup) : l1.Nodup ∧ ∀ x ∈ l1, x ∈ l :=
  ⟨((List.nodup_append.mp (p.nodup_iff.mpr n)).1), fun x hx => p.mem_iff.mp (List.mem_append_left _ hx)⟩
theorem yr_lst {α : Type} {R : Hp → V → α → Prop} {S : List Addr} {K : PySem.W.Frag} {H : Hp} {c : Addr} {xs : List V} {l : List α} (st : ∀ a, Stb fun H v => R H v a) (n : c ∉ S) (hc : H c = some (.lst xs)) (ha : A2 (R H) xs l) : YR S (Itl K c) H R l := by
  refine ⟨fun i a H' e k => ?_, fun H' k => ⟨xs, SqL.of (k.1 _ _ n hc), Nat.le_of_eq ha.length⟩⟩
  obtain ⟨v, hv, rv⟩ := ha.get e
  have hs : SqL K H' c xs := SqL.of (k.1 _ _ n hc)
  refine ⟨⟨xs, v, hs, hv⟩, fun x H'' y => ?_⟩
  obtain ⟨rfl, y⟩ := y
  have e2 := y xs hs
  rw [hv] at e2
  cases e2
  exact ⟨Same.refl _, st a _ _ _ k.2 rv⟩
section
variable {X : Cx} {a b e tg : Expr} {σ : L2.St} {H : Hp} {pos : Pos} {i j : Int}
theorem dt_eqI {Q : Bool → Hp → Prop} (ha : DoE X a σ H fun u H1 => ∃ i : Int, u = .int i ∧ DoE X b σ H1 fun v H2 => ∃ j : Int, v = .int j ∧ Q (decide (i = j)) H2) (hm : behindInMarks .Eq b = false := by rfl) : DoT X (.Compare a [.Eq] [b] pos) σ H Q :=
  DoT.of (pt_cmpR op_eq DoE.pe DoE.pe hm) (ha.mono fun u H1 ⟨i, e1, h⟩ => h.mono fun v H2 ⟨j, e2, q⟩ => by
    subst e1 e2
    refine ⟨rfl, decide (i = j), ?_, q⟩
    congr 1
    exact decide_eq_decide.mpr ⟨V.int.inj, fun h => by rw [h]⟩)
theorem dt_gtI {Q : Bool → Hp → Prop} (ha : DoE X a σ H fun u H1 => ∃ i : Int, u = .int i ∧ DoE X b σ H1 fun v H2 => ∃ j : Int, v = .int j ∧ Q (decide (j < i)) H2) (hm : behindInMarks .Gt b = false := by rfl) : DoT X (.Compare a [.Gt] [b] pos) σ H Q :=
  DoT.of (pt_cmpR op_gt DoE.pe DoE.pe hm) (ha.mono fun u H1 ⟨i, e1, h⟩ => h.mono fun v H2 ⟨j, e2, q⟩ => ⟨i, j, e1, e2, decide (j < i), rfl, q⟩)
theorem do_gtI {Q : VK} (ha : DoE X a σ H fun u H1 => ∃ i : Int, u = .int i ∧ DoE X b σ H1 fun v H2 => ∃ j : Int, v = .int j ∧ Q (.bl (decide (j < i))) H2) (hm : behindInMarks .Gt b = false := by rfl) : DoE X (.Compare a [.Gt] [b] pos) σ H Q :=
  DoE.of (pe_cmpR op_gt DoE.pe DoE.pe hm) (ha.mono fun u H1 ⟨i, e1, h⟩ => h.mono fun v H2 ⟨j, e2, q⟩ => ⟨i, j, e1, e2, q⟩)
theorem di_lst {R : It → Hp → Prop} (h : DoE X e σ H fun v H1 => ∃ c xs, v = .ref c ∧ H1 c = some (.lst xs) ∧ R (Itl X.K c) H1) : DoI X tg e σ H R := DoI.of (pi_list DoE.pe) (h.mono fun v H1 ⟨c, xs, e, hc, r⟩ => ⟨c, e, ⟨xs, SqL.of hc⟩, r⟩)
end
def drawn6 : List Str := ["app", "lib", "log", "net", "b", "zip"]
theorem drawn6_nodup : drawn6.Nodup := by decide +kernel
theorem drawn6_ok : ∀ x ∈ drawn6, NameOk x := fun x hx => by
  have : (drawn6.all fun x => decide (x ∈ nameList)) = true := by decide +kernel
  show x ∈ nameList
  exact of_decide_eq_true (List.all_eq_true.mp this x hx)
def drawn5 : List Int := [1, 2, 3, 7, 40]
def sp_names : Sp := fun vs H Q _ => ∃ T n, vs = [.ref T, .int 3] ∧ Tin T n H ∧ n ≤ 800000 ∧ ∀ (A : Addr) (xs : List Str) (H' : Hp), Kb [T] H H' → H A = none → H' A = some (.lst (xs.map V.str)) → xs.Nodup → (∀ x ∈ xs, NameOk x) → xs.length ≤ 3 → Tin T (n + 10) H' → Q (.ref A) H'
def sp_goods : Sp := fun vs H Q _ => ∃ (T : Addr) (n : Nat) (c : Addr) (xs : List Str), vs = [.ref T, .ref c, .int 2] ∧ Tin T n H ∧ n ≤ 700000 ∧ c ≠ T ∧ H c = some (.lst (xs.map V.str)) ∧ xs.Nodup ∧ (∀ x ∈ xs, NameOk x) ∧ xs.length ≤ 3 ∧
  ∀ (A : Addr) (ys : List V) (gs : List Rel) (H' : Hp), Kb [T] H H' → H A = none → H' A = some (.lst ys) → A2 (Rr H') ys gs → gs.Pairwise rLt → (∀ g ∈ gs, NameOk g.1 ∧ 1 ≤ g.2) → gs.length ≤ 6 → Tin T (n + 30) H' → Q (.ref A) H'
theorem Kb.none_back {S : List Addr} {H H' : Hp} (k : Kb S H H') (hS : ∀ x ∈ S, H' x ≠ none) {b : Addr} (h : H' b = none) : H b = none := by
  cases e : H b with
  | none => rfl
  | some o =>
    by_cases hb : b ∈ S
    · exact absurd h (hS b hb)
    · rw [k.1 _ _ hb e] at h
      cases h
theorem tin_back {T : Addr} {n : Nat} {H H' : Hp} (k : Kb [T] H H') (t : Tin T n H') {b : Addr} (h : H' b = none) : H b = none :=
  k.none_back (fun x hx => by
    have : x = T := by simpa using hx
    rw [this]
    exact t.some) h
section
variable {P : Program} {w : World} {K : PySem.W.Frag} {mg : Str → Option Value} {base : Heap}
theorem ok_names (T : Tops K mg) : Good P w K mg base 3 "_law_some_names" ["_law_tin", "_law_most_so"] sp_names := by
  have G := ok_take (P := P) (w := w) (base := base) T
  have G2 := ok_pick (P := P) (w := w) (base := base) T
  refine good_of T.d_law_some_names sc_law_some_names (fun vs H Q E h => by obtain ⟨T, n, rfl, _⟩ := h; rfl) fun f cdv Ar outer s0 H vs Q E hr h => ?_
  obtain ⟨A, n, rfl, ht, hn, q⟩ := h
  have nd := sc_law_some_names.nd
  have main : ∀ (many : Int) (H1 : Hp), 0 ≤ many → many ≤ 3 → Kb [A] H H1 → Tin A (n + 2) H1 → DoSs (cx0 P w K mg base n_law_some_names "_law_some_names" s_law_some_names f cdv Ar outer s0 H E) ((defBody s_law_some_names).drop 1) { nx := fun _ H' => Q .non H', rt := Q } [some (.ref A), some (.int 3), some (.int many)] H1 := fun many H1 h0 h3 k1 t1 => by
    refine dss_one (ds_ret (do_callB cr_sortedS T.b_sorted (by decide +kernel) (da_cons ?_)))
    refine do_call G2 hr rfl (da_cons (EvV.go (evv_var 0 rfl) fun H2 s2 => da_cons ?_))
    refine DoE.of (pe_lst DoA.pa) ((eva_cons ev_str (eva_cons ev_str (eva_cons ev_str (eva_cons ev_str (eva2 ev_str ev_str))))).go fun us H3 s3 r3 => ⟨by rw [r3.length]; exact Nat.le_trans (show 6 ≤ 1000 by omega) (by decide), fun L hL => da_cons ?_⟩)
    refine EvV.go (evv_var 2 rfl) fun H5 s5 => da_nil ?_
    have e3 : us = drawn6.map V.str := DlAll.strs (ns := drawn6) r3
    subst e3
    have s4 : Same H3 (upd H3 L (.lst (drawn6.map V.str))) := same_new hL
    have s25 := ((s2.trans s3).trans s4).trans s5
    refine ⟨A, n + 2, L, _, many, rfl, t1.same s25, by omega, ((t1.same (s2.trans s3)).ne hL).symm, s5 _ _ upd_same, by decide, h0, fun B ys rest H6 k6 hB hys hp hl t6 => da_nil ?_⟩
    obtain ⟨l1, l2, pl, hy⟩ := pick_out (R := fun v x => v = V.str x) (l := drawn6) map_a2 hp
    have ey := a2_map hy
    subst ey
    obtain ⟨nd1, sub1⟩ := sub_nodup pl drawn6_nodup
    have len1 : l1.length ≤ 3 := by
      rw [List.length_map] at hl
      omega
    refine ⟨B, l1, rfl, SqL.of hys, by omega, fun zs p hz _ hpn => ?_⟩
    have kk : Kb [A] H H6 := (k1.trans (Same.kb s25)).trans k6
    refine q p zs _ (kk.trans (Same.kb (same_new hpn))) (tin_back kk t6 hpn) upd_same (hz.nodup_iff.mpr nd1) (fun x hx => drawn6_ok x (sub1 x (hz.mem_iff.mp hx))) (by rw [hz.length_eq]; exact len1) ((t6.same (same_new hpn)).le ?_)
    show n + 2 + 6 ≤ n + 10
    omega
  refine dss_cons (ds_if (dt_eqI ?_))
  refine do_call G (hr.mono (by decide)) rfl (da_cons (EvV.go (evv_var 0 rfl) fun H1 s1 => da_cons (EvD.go ev_int fun u1 H2 s2 r2 => da_nil ?_)))
  refine ⟨A, n, 5, by cases r2; rfl, ht.same (s1.trans s2), by omega, by omega, by omega, fun d H3 d0 d1 k3 t3 => ⟨d, rfl, EvD.go ev_int fun u2 H4 s4 r4 => ⟨0, by cases r4; rfl, ?_⟩⟩⟩
  have kA : Kb [A] H H4 := ((Same.kb (s1.trans s2)).trans k3).trans (Same.kb s4)
  have tA := t3.same s4
  cases hk : decide (d = 0) with
  | true =>
    refine iteT (dss_one (ds_set 2 nd (do_add (EvD.go ev_int fun u H5 s5 r5 => ⟨1, by cases r5; rfl, ?_⟩))))
    refine do_call G (hr.mono (by decide)) rfl (da_cons (EvV.go (evv_var 0 rfl) fun H6 s6 => da_cons (EvD.go (ev_var 1 rfl (.int 3)) fun u2 H7 s7 r7 => da_nil ?_)))
    refine ⟨A, n + 1, 3, by cases r7; rfl, tA.same ((s5.trans s6).trans s7), by omega, by omega, by omega, fun e H8 e0 e1 k8 t8 => ⟨e, rfl, ?_⟩⟩
    exact main _ H8 (by omega) (by omega) ((kA.trans (Same.kb ((s5.trans s6).trans s7))).trans k8) t8
  | false =>
    refine iteF (dss_one (ds_set 2 nd (do_callB (call_min2 rfl) T.b_min (by decide +kernel) (da_cons (EvD.go (ev_var 1 rfl (.int 3)) fun u H5 s5 r5 => da_cons (do_add (EvD.go ev_int fun u6 H6 s6 r6 => ⟨2, by cases r6; rfl, ?_⟩)))))))
    refine do_call G (hr.mono (by decide)) rfl (da_cons (EvV.go (evv_var 0 rfl) fun H7 s7 => da_cons (EvD.go (ev_max2 rfl T.b_max ev_int (ev_sub (ev_var 1 rfl (.int 3)) ev_int)) fun u8 H8 s8 r8 => da_nil ?_)))
    refine ⟨A, n + 1, 2, by cases r8; rfl, tA.same (((s5.trans s6).trans s7).trans s8), by omega, by omega, by omega, fun e H9 e0 e1 k9 t9 => ⟨e, rfl, da_nil ⟨3, 2 + e, by cases r5; rfl, ?_⟩⟩⟩
    exact main _ H9 (by split <;> omega) (by split <;> omega) ((kA.trans (Same.kb (((s5.trans s6).trans s7).trans s8))).trans k9) t9
theorem rel_tri (a b : Rel) : rLt a b ∨ a = b ∨ rLt b a := by
  obtain ⟨a1, a2⟩ := a
  obtain ⟨b1, b2⟩ := b
  rcases sLt_tri a1 b1 with z | z | z
  · exact .inl (.inl z)
  · rcases Int.lt_trichotomy a2 b2 with y | y | y
    · exact .inl (.inr ⟨z, y⟩)
    · exact .inr (.inl (by rw [z, y]))
    · exact .inr (.inr (.inr ⟨z.symm, y⟩))
  · exact .inr (.inr (.inl z))
theorem a2_zip {α : Type} {R : V → α → Prop} : ∀ {ys : List V} {l : List α}, ys.length = l.length → (∀ z ∈ l.zip ys, R z.2 z.1) → A2 R ys l
  | [], [], _, _ => .nil
  | y :: ys, a :: l, h, q => .cons (q (a, y) (by rw [List.zip_cons_cons]; exact List.mem_cons_self)) (a2_zip (Nat.succ.inj h) fun z hz => q z (by rw [List.zip_cons_cons]; exact List.mem_cons_of_mem _ hz))
  | [], _ :: _, h, _ => by cases h
  | _ :: _, [], h, _ => by cases h
theorem zip_a2 {α : Type} {R : V → α → Prop} : ∀ {ys : List V} {l : List α}, A2 R ys l → ∀ z ∈ l.zip ys, R z.2 z.1
  | _, _, .nil, z, hz => by cases hz
  | _, _, .cons r h, z, hz => by
    rw [List.zip_cons_cons] at hz
    rcases List.mem_cons.mp hz with rfl | hz
    · exact r
    · exact zip_a2 h z hz
theorem same_push {H H3 : Hp} {Z : Addr} {o : HO} (hZ : H Z = none) (s : Same H H3) : Same H (upd H3 Z o) := fun b u e => by
  rw [upd_ne (ne_of_none e hZ)]
  exact s b u e
theorem ok_goods (T : Tops K mg) : Good P w K mg base 3 "_law_some_goods" ["_law_tin", "_law_names_so", "_law_most_so"] sp_goods := by
  have G := ok_take (P := P) (w := w) (base := base) T
  have G2 := ok_pick (P := P) (w := w) (base := base) T
  refine good_of T.d_law_some_goods sc_law_some_goods (fun vs H Q E h => by obtain ⟨T, n, c, xs, rfl, _⟩ := h; rfl) fun f cdv Ar outer s0 H vs Q E hr h => ?_
  obtain ⟨A, n, c, xs, rfl, ht, hn, hne, hc, hnd, hok, hlen, q⟩ := h
  have nd := sc_law_some_goods.nd
  refine dss_cons (ds_set 3 nd (do_nilL fun F hF => ?_))
  have s1 : Same H (upd H F (.lst [])) := same_new hF
  have tF : A ≠ F := ht.ne hF
  refine dss_cons (ds_forR .never rfl (pg_name nd (i := 4) rfl (by first | exact .inl rfl | exact .inr rfl)) (di_lst (EvV.go (evv_var 1 rfl) fun H2 s2 => ⟨c, _, rfl, s2 _ _ (s1 _ _ hc), ?_⟩)))
  have s12 := s1.trans s2
  refine walkedR [A] Rt xs (fun l σ' H' => Kb [A] H2 H' ∧ (∃ fo o4, σ' = [some (.ref A), some (.ref c), some (.int 2), some fo, o4, none] ∧ ∃ gs, Ls [A] Rr H' fo gs ∧ gs.Nodup ∧ (∀ g ∈ gs, NameOk g.1 ∧ 1 ≤ g.2 ∧ g.1 ∉ l) ∧ gs.length + 2 * l.length ≤ 6 ∧ l.Nodup ∧ (∀ x ∈ l, NameOk x)) ∧ ∃ k, k + l.length ≤ 3 ∧ Tin A (n + 8 * k) H') (yr_lst stb_rt (by simpa using hne) (s12 _ _ hc) a2_strs) ⟨Kb.refl, ⟨.ref F, none, rfl, [], ⟨F, [], rfl, by simpa using tF.symm, s2 _ _ upd_same, .nil⟩, List.nodup_nil, fun g hg => (by cases hg), (by show 0 + 2 * xs.length ≤ 6; omega), hnd, hok⟩, 0, by omega, ht.same s12⟩ (fun r σ' H' h => h.1) ?_ ?_
  · rintro own l x σ' H' H'' ho ⟨kb, ⟨fo, o4, rfl, gs, rf, gnd, gok, glen, lnd, lok⟩, k, hk, tk⟩ s3 rx
    cases (rx : x = .str own)
    obtain ⟨c1, ys1, rfl, hc1n, hc1, ha1⟩ := rf
    have hc1' := s3 _ _ hc1
    have tk3 := tk.same s3
    rw [List.nodup_cons] at lnd
    rw [List.length_cons] at hk glen
    refine dss_one (ds_set 3 nd (DoE.of (pe_op op_cat DoE.pe DoE.pe) (EvV.go (evv_var 3 rfl) fun H4 s4 => ?_)))
    refine do_lcP (α := Int) (S := []) (R := fun _ v (k : Int) => v = .int k) (g := gName 5) (own := [("_law_its", 5)]) 5 rfl nd (blkOk_by (N := n_law_some_goods) (sc := defScope s_law_some_goods) (by decide +kernel)) (fun s H C cl fp => pg_name nd rfl (.inl rfl) (.inr rfl)) (di_lst ?_)
    refine do_call G2 (hr.mono (by decide)) rfl (da_cons (EvV.go (evv_var 0 rfl) fun H5 s5 => da_cons ?_))
    refine DoE.of (pe_lst DoA.pa) ((eva_cons ev_int (eva_cons ev_int (eva_cons ev_int (eva2 ev_int ev_int)))).go fun us H6 s6 r6 => ⟨by rw [r6.length]; exact Nat.le_trans (show 5 ≤ 1000 by omega) (by decide), fun L hL => da_cons (do_add (EvD.go ev_int fun u7 H7 s7 r7 => ⟨1, by cases r7; rfl, ?_⟩))⟩)
    refine do_call G (hr.mono (by decide)) rfl (da_cons (EvV.go (evv_var 0 rfl) fun H8 s8 => da_cons (EvD.go (ev_var 2 rfl (.int 2)) fun u9 H9 s9 r9 => da_nil ?_)))
    cases r9
    have e6 : us = drawn5.map V.int := DlAll.ints (ns := drawn5) r6
    subst e6
    have s46 : Same H'' H6 := (s4.trans s5).trans s6
    have sL : Same H6 (upd H6 L (.lst (drawn5.map V.int))) := same_new hL
    have s79 : Same (upd H6 L (.lst (drawn5.map V.int))) H9 := (s7.trans s8).trans s9
    have t9 : Tin A (n + 8 * k) H9 := tk3.same ((s46.trans sL).trans s79)
    have LA : L ≠ A := ((tk3.same s46).ne hL).symm
    refine ⟨A, n + 8 * k, 2, rfl, t9, by omega, by omega, by omega, fun d H10 d0 d1 k10 t10 => ⟨d, rfl, da_nil ⟨A, n + 8 * k + 1, L, drawn5.map V.int, 1 + d, rfl, t10, by omega, LA, k10.1 _ _ (by simpa using LA) (s79 _ _ upd_same), by decide, by omega, fun B ys rest H11 k11 hB hys hp hl t11 => ⟨B, ys, rfl, hys, ?_⟩⟩⟩⟩
    have kbH : Kb [A] H'' H11 := ((Same.kb ((s46.trans sL).trans s79)).trans k10).trans k11
    obtain ⟨l1, l2, pl, hy⟩ := pick_out (R := fun v x => v = V.int x) (l := drawn5) map_a2 hp
    obtain ⟨nd1, sub1⟩ := sub_nodup pl (by decide)
    have len1 : l1.length ≤ 2 := by
      have := hy.length
      rw [List.length_map] at hl
      omega
    refine ⟨l1, yr_lst (fun a _ _ _ _ h => h) List.not_mem_nil hys hy, by omega, fun Z hZ => ⟨fun r acc H' => Same H11 H' ∧ H' Z = some (.lst acc) ∧ ∃ done, done ++ r = l1 ∧ A2 (Rr H') acc (done.map fun k => (own, k)), ⟨same_new hZ, upd_same, [], rfl, .nil⟩, fun r acc H' h => ⟨Same.kb h.1, h.2.1, ?_⟩, ?_, ?_⟩⟩
    · obtain ⟨_, _, done, e, ha⟩ := h
      have := ha.length
      rw [List.length_map] at this
      have := congrArg List.length e
      rw [List.length_append] at this
      omega
    · rintro a r acc v H12 H13 har ⟨s12', hZ12, done, e, ha⟩ s13 rv
      cases (rv : v = .int a)
      refine ⟨(wipe [some (.ref A), some (.ref c), some (.int 2), some (.ref c1), some (.str own), none] [5]).set 5 (some (.int a)), fun Q' h => h, rfl, fun s H0 C cl fp => ?_⟩
      refine EvR.go (erv_tup2 (EvD.r (ev_var 4 rfl (.str own))) (EvD.r (ev_var 5 rfl (.int a))) (stb_dl rfl) (stb_dl rfl)) fun z H14 s14 ⟨T', y, w', ez, hT, ry, rw'⟩ => ?_
      cases ry
      cases rw'
      have hZ14 := s14 _ _ (s13 _ _ hZ12)
      refine ⟨hZ14, same_push hZ ((s12'.trans s13).trans s14), upd_same, done ++ [a], by rw [List.append_assoc]; exact e, ?_⟩
      rw [List.map_append]
      exact A2.push stb_rr hZ14 (ha.imp fun _ a h => (stb_rr a).same (s13.trans s14) h) ⟨T', ez, hT⟩
    · rintro acc H12 ⟨s12', hZ12, done, e, ha⟩
      rw [List.append_nil] at e
      subst e
      have kb12 : Kb [A] H'' H12 := kbH.trans (Same.kb s12')
      have hc12 : H12 c1 = some (.lst ys1) := kb12.1 _ _ hc1n hc1'
      have glen1 := ha1.length
      have alen := ha.length
      rw [List.length_map] at alen
      refine ⟨c1, Z, ys1, acc, rfl, rfl, hc12, hZ12, Nat.le_trans (show ys1.length + acc.length ≤ 1000 by omega) (by decide), fun p hp => ⟨((kb.trans (Same.kb s3)).trans kb12).trans (Same.kb (same_new hp)), ⟨.ref p, _, rfl, gs ++ done.map fun k => (own, k), ⟨p, _, rfl, ?_, upd_same, ?_⟩, ?_, ?_, ?_, lnd.2, fun x hx => lok x (List.mem_cons_of_mem _ hx)⟩, k + 1, by omega, ?_⟩⟩
      · have : A ≠ p := (t11.same s12').ne hp
        simpa using this.symm
      · exact ((ha1.imp fun _ a h => (stb_rr a).kb ((Same.kb s3).trans kb12) h).append ha).imp fun _ a h => (stb_rr a).same (same_new hp) h
      · refine List.nodup_append.mpr ⟨gnd, ?_, fun a ha' b hb e => ?_⟩
        · refine List.pairwise_map.mpr (nd1.imp fun ne e => ne ?_)
          exact (Prod.mk.inj e).2
        · obtain ⟨k', _, rfl⟩ := List.mem_map.mp hb
          rw [e] at ha'
          exact (gok _ ha').2.2 List.mem_cons_self
      · intro g hg
        rcases List.mem_append.mp hg with hg | hg
        · exact ⟨(gok g hg).1, (gok g hg).2.1, fun z => (gok g hg).2.2 (List.mem_cons_of_mem _ z)⟩
        · obtain ⟨k', hk', rfl⟩ := List.mem_map.mp hg
          refine ⟨lok own List.mem_cons_self, ?_, lnd.1⟩
          have := sub1 k' hk'
          simp only [drawn5, List.mem_cons, List.not_mem_nil, or_false] at this
          show 1 ≤ k'
          omega
      · rw [List.length_append, List.length_map]
        omega
      · refine (t11.same (s12'.trans (same_new hp))).le ?_
        show n + 8 * k + 1 + 5 ≤ n + 8 * (k + 1)
        omega
  · rintro σ' H' ⟨kb, ⟨fo, o4, rfl, gs, ⟨c1, ys1, rfl, hc1n, hc1, ha1⟩, gnd, gok, glen, lnd, lok⟩, k, hk, tk⟩
    refine dss_one (ds_ret (do_callB (cr_sortedRl hr.units) T.b_sorted (by decide +kernel) (da_cons (EvV.go (evv_var 3 rfl) fun H3 s3 => da_nil ⟨c1, ys1, gs, rfl, s3 _ _ hc1, (ha1.imp fun _ a h => (stb_rr a).same s3 h).dl fun _ _ h => h.dl, by omega, fun ys gs' p pg pw hd hz hp => ?_⟩) rfl)))
    have hA2 : A2 (Rr H3) ys gs' := a2_zip (by
      have := hd.length
      rw [List.length_map] at this
      exact this) fun z hz' => zip_a2 (ha1.imp fun _ a h => (stb_rr a).same s3 h) z (hz z hz')
    have kH : Kb [A] H H3 := ((Same.kb s12).trans kb).trans (Same.kb s3)
    refine q p ys gs' _ (kH.trans (Same.kb (same_new hp))) (tin_back kH (tk.same s3) hp) upd_same (hA2.imp fun _ a h => (stb_rr a).same (same_new hp) h) ?_ (fun g hg => ⟨(gok g (pg.mem_iff.mp hg)).1, (gok g (pg.mem_iff.mp hg)).2.1⟩) (by rw [pg.length_eq]; omega) ((tk.same (s3.trans (same_new hp))).le ?_)
    · refine (pw.and (pg.nodup_iff.mpr gnd)).imp fun h => ?_
      rename_i a b
      rcases rel_tri a b with z | z | z
      · exact z
      · exact absurd z h.2
      · exact absurd z h.1
    · show n + 8 * k ≤ n + 30
      omega
end
end Lk
namespace Lk
open PySem PySem.Spec PyProof.Rows L2
structure Goods (gs : List Rel) : Prop where
  asc : gs.Pairwise rLt
  ok : ∀ g ∈ gs, NameOk g.1 ∧ 1 ≤ g.2
  few : gs.length ≤ 6
/-- what a lot is made of -/
structure Pre (ms : List Int) : Prop where
  ne : ms ≠ []
  nd : ms.Nodup
  nn : ∀ x ∈ ms, 0 ≤ x
  few : ms.length ≤ 10
theorem wfl_of {ms l : List Int} (h : Pre ms) (p : l.Perm ms) (w : l.Pairwise (· ≤ ·)) : WfL l := by
  refine ⟨fun z => h.ne ?_, ?_, fun x hx => h.nn x (p.mem_iff.mp hx), by rw [p.length_eq]; exact h.few⟩
  · subst z
    exact List.nil_perm.mp p
  · exact (w.and (p.nodup_iff.mpr h.nd)).imp fun z => by
      have h1 := z.1
      have h2 := z.2
      omega
def Li (H : Hp) (v : V) (ms : List Int) : Prop := ∃ a, v = .ref a ∧ H a = some (.lst (ms.map V.int))
section
variable {X : Cx} {e : Expr} {σ : L2.St} {H : Hp} {pos pos2 p p2 : Pos}
/-- tuple(sorted(e)) of what a lot is made of: a lot -/
theorem erv_lot (hm : X.mg "tuple" = none) (hm2 : X.mg "sorted" = none) (h : EvR X e σ H fun H v => ∃ ms, Pre ms ∧ Li H v ms) (hg : Gl X "tuple" := by rfl) (hg2 : Gl X "sorted" := by rfl)
    (he : starEach [.Call (.Name "sorted" p2) [e] [] pos2] X.env = (false, eval (.Call (.Name "sorted" p2) [e] [] pos2) X.env) :: starEach [] X.env := by rfl) (he2 : starEach [e] X.env = (false, eval e X.env) :: starEach [] X.env := by rfl)
    (hpl : (backTo pos (starEach [] X.env)).any (·.1) = false := by rfl) (hpl2 : (backTo pos2 (starEach [] X.env)).any (·.1) = false := by rfl) : EvR X (.Call (.Name "tuple" p) [.Call (.Name "sorted" p2) [e] [] pos2] [] pos) σ H fun H v => ∃ l, WfL l ∧ Dl H v (encL l) := fun H1 s1 Q q =>
  do_callTy call_tuple_of hm (by decide +kernel) (da_cons (do_callB cr_sorted hm2 (by decide +kernel) (da_cons (h H1 s1 _ fun v H2 s2 ⟨ms, pm, a, ev, ha⟩ => da_nil ⟨a, ms, by rw [ev], SqL.of ha, Nat.lt_of_le_of_lt pm.few (by decide), fun ns' b pp pw hb => da_nil ⟨b, ns'.map V.int, rfl, .inl ⟨SqL.of upd_same, fun c hc => q _ _ ((s2.trans (same_new hb)).trans (same_new hc)) ⟨ns', wfl_of pm pp pw, .tup (.inl upd_same) dl_ints⟩⟩⟩⟩) he2) hg2 (by decide) (by decide) he2 hpl2) he) hg (by decide) (by decide) he hpl
end
theorem goods_vers {gs : List Rel} (g : Goods gs) (n : Str) : ((gs.filter fun r => decide (r.1 = n)).map (·.2)).Nodup ∧ ∀ x ∈ (gs.filter fun r => decide (r.1 = n)).map (·.2), 1 ≤ x := by
  refine ⟨?_, fun x hx => ?_⟩
  · refine List.pairwise_map.mpr ((g.asc.filter fun r => decide (r.1 = n)).imp_of_mem fun {a b} ha hb h e => ?_)
    have h1 := of_decide_eq_true (List.mem_filter.mp ha).2
    have h2 := of_decide_eq_true (List.mem_filter.mp hb).2
    rcases h with h | ⟨_, h⟩
    · rw [h1, h2] at h
      exact sLt_irrefl _ h
    · omega
  · obtain ⟨r, hr, rfl⟩ := List.mem_map.mp hx
    exact (g.ok r (List.mem_filter.mp hr).1).2
def sp_srules : Sp := fun vs H Q _ => ∃ (T : Addr) (n : Nat) (ov : V) (own : Rel) (c : Addr) (ys : List V) (gs : List Rel), vs = [.ref T, ov, .ref c] ∧ Tin T n H ∧ n ≤ 600000 ∧ Rr H ov own ∧ c ≠ T ∧ H c = some (.lst ys) ∧ A2 (Rr H) ys gs ∧ Goods gs ∧
  ∀ z rs H', Kb [T] H H' → Ru H' z rs → WfRs rs → lotIn rs own.1 = none → Tin T (n + 100) H' → Q z H'
theorem lot_none {rs : Rules} {n : Str} (h : ∀ u ∈ rs, u.1 ≠ n) : lotIn rs n = none := by
  induction rs with
  | nil => rfl
  | cons u r ih =>
    show (if u.1 = n then some u.2 else lotIn r n) = none
    rw [if_neg (h u List.mem_cons_self)]
    exact ih fun v hv => h v (List.mem_cons_of_mem _ hv)
section
variable {P : Program} {w : World} {K : PySem.W.Frag} {mg : Str → Option Value} {base : Heap}
theorem ok_srules (T : Tops K mg) : Good P w K mg base 3 "_law_some_rules" ["_law_tin", "_law_own", "_law_goods_so"] sp_srules := by
  have G := ok_take (P := P) (w := w) (base := base) T
  have G2 := ok_pick (P := P) (w := w) (base := base) T
  refine good_of T.d_law_some_rules sc_law_some_rules (fun vs H Q E h => by obtain ⟨T, n, ov, own, c, ys, gs, rfl, _⟩ := h; rfl) fun f cdv Ar outer s0 H vs Q E hr h => ?_
  obtain ⟨A, n, ov, own, c, ys, gs, rfl, ht, hn, ro, hne, hc, hys, gd, q⟩ := h
  have nd := sc_law_some_rules.nd
  have few := gd.few
  refine dss_cons (ds_set 3 nd (do_nilL fun F hF => ?_))
  have s1 : Same H (upd H F (.lst [])) := same_new hF
  have tF : A ≠ F := ht.ne hF
  have cF : c ≠ F := fun z => by rw [z, hF] at hc; cases hc
  have goodsD : ∀ {H' : Hp}, H' c = some (.lst ys) → A2 (Rr H') ys gs → Dl H' (.ref c) (.list (gs.map encR)) := fun h h2 => .lst h (h2.dl fun _ _ h => h.dl)
  have hys1 : A2 (Rr (upd H F (.lst []))) ys gs := hys.imp fun _ a h => (stb_rr a).same s1 h
  refine dss_cons (ds_forR .never rfl (pg_name nd (i := 4) rfl (by first | exact .inl rfl | exact .inr rfl)) (EvIR.go (S := [A, F]) (R := Rt) (l := sortSet (gs.map (·.1))) (eir_lst stb_rt (erv_sortset [A, F] (fun x hx => by
      simp only [List.mem_cons, List.not_mem_nil, or_false] at hx
      rcases hx with rfl | rfl
      · exact (ht.same s1).some
      · rw [upd_same]; exact fun z => nomatch z) rfl hr.units T.b_sorted T.b_set (EvD.is (ev_lcA0 5 encR gs (fun u => .str u.1) rfl nd (blkOk_by (N := n_law_some_rules) (sc := defScope s_law_some_rules) (by decide +kernel))
    (ei_lst (ev_var 2 rfl (goodsD (s1 _ _ hc) hys1))) (fun _ => rfl) (by omega) (fun _ _ => rfl) fun u z H' hu sm r s0 H0 C cl fp => ev_ixT (EvD.is (ev_var 5 rfl r) rfl) ev_int atI0)
    (by rw [List.map_map]; rfl)) (by rw [List.length_map]; omega))) fun J H2 s2 Y => ?_))
  have s12 := s1.trans s2
  have F2 : H2 F = some (.lst []) := s2 _ _ upd_same
  have lenN : (sortSet (gs.map (·.1))).length ≤ 6 := by
    have := sortSet_len (gs.map (·.1))
    rw [List.length_map] at this
    omega
  refine walkedR [A, F] Rt (sortSet (gs.map (·.1))) (fun l σ' H' => Kb [A, F] H2 H' ∧ (∃ o4 o6 o7 o8, σ' = [some (.ref A), some ov, some (.ref c), some (.ref F), o4, none, o6, o7, o8]) ∧ ∃ acc m, H' F = some (.lst acc) ∧ DlAll H' acc (m.map encU) ∧ (m.map (·.1) ++ l).Pairwise sLt ∧ (∀ u ∈ m, NameOk u.1 ∧ WfL u.2 ∧ u.1 ≠ own.1) ∧ (∀ x ∈ l, ∃ g ∈ gs, g.1 = x) ∧ ∃ k, k + l.length ≤ 6 ∧ m.length ≤ k ∧ Tin A (n + 10 * k) H') Y
    ⟨Kb.refl, ⟨none, none, none, none, rfl⟩, [], [], F2, .nil, sortSet_asc _, fun u hu => (by cases hu), fun x hx => List.mem_map.mp (mem_sortSet.mp hx), 0, by omega, Nat.le_refl _, ht.same s12⟩ (fun r σ' H' h => h.1) ?_ ?_
  · rintro name l x σ' H' H3 hn' ⟨kb, ⟨o4, o6, o7, o8, rfl⟩, acc, m, hF', hda, hasc, hm, hl, k, hk, hmk, tk⟩ s3 rx
    cases (rx : x = .str name)
    rw [List.length_cons] at hk
    have kb3 : Kb [A, F] H2 H3 := kb.trans (Same.kb s3)
    have kH3 : Kb [A, F] H H3 := (Same.kb s12).trans kb3
    have cn : c ∉ [A, F] := by simp [hne, cF]
    have hc3 : H3 c = some (.lst ys) := kH3.1 _ _ cn hc
    have hys3 : A2 (Rr H3) ys gs := hys.imp fun _ a h => (stb_rr a).kb kH3 h
    have ro3 := (stb_rr own).kb kH3 ro
    have hF3 := s3 _ _ hF'
    have hda3 := hda.mono s3
    refine dss_cons (ds_par 6 7 rfl nd (da_cons (do_call G (hr.mono (by decide)) rfl (da_cons (EvV.go (evv_var 0 rfl) fun H4 s4 => da_cons (EvD.go ev_int fun u5 H5 s5 r5 => da_nil ⟨A, n + 10 * k, 5, by cases r5; rfl, tk.same (s3.trans (s4.trans s5)), by omega, by omega, by omega, fun d H6 d0 d1 k6 t6 => ?_⟩))))))
    have kH6 : Kb [A] H3 H6 := (Same.kb (s4.trans s5)).trans k6
    have hc6 : H6 c = some (.lst ys) := kH6.1 _ _ (by simpa using hne) hc3
    have hys6 : A2 (Rr H6) ys gs := hys3.imp fun _ a h => (stb_rr a).kb kH6 h
    refine da_cons (DoE.of (pe_op op_cat DoE.pe DoE.pe) (EvD.go (ev_lstN (eva1 ev_int)) fun u7 H7 s7 r7 => ?_))
    have r7 : Dl H7 u7 (.list [.int 0]) := r7
    obtain ⟨a7, rfl, ha7⟩ : ∃ a, u7 = .ref a ∧ H7 a = some (.lst [.int 0]) := by
      cases r7 with
      | lst ha hd =>
        have := DlAll.ints (ns := [0]) hd
        subst this
        exact ⟨_, rfl, ha⟩
    have hys7 : A2 (Rr H7) ys gs := hys6.imp fun _ a h => (stb_rr a).same s7 h
    refine do_callB cr_sorted T.b_sorted (by decide +kernel) (da_cons (EvD.go (ev_lcA 5 encR gs (fun r => decide (r.1 = name)) (fun r => .int r.2) rfl nd (blkOk_by (N := n_law_some_rules) (sc := defScope s_law_some_rules) (by decide +kernel)) (ei_lst (ev_var 2 rfl (goodsD (s7 _ _ hc6) hys7))) (fun _ => rfl) (by omega) (fun _ _ _ => rfl)
      (fun r z H' hd sm rr s0 H0 C cl fp => ets_one (et_eqS (ev_ixT (EvD.is (ev_var 5 rfl rr) (encR_eq r)) ev_int atI0) (ev_var 4 rfl (.str name)))) fun r z H' hd sm rr _ s0 H0 C cl fp => ev_ixT (EvD.is (ev_var 5 rfl rr) (encR_eq r)) ev_int atI1) fun u8 H8 s8 r8 => da_nil ?_))
    have em : (gs.filter fun r => decide (r.1 = name)).map (fun r => PyData.int r.2) = ((gs.filter fun r => decide (r.1 = name)).map (·.2)).map PyData.int := by rw [List.map_map]; rfl
    rw [em] at r8
    obtain ⟨a8, rfl, ha8⟩ : ∃ a, u8 = .ref a ∧ H8 a = some (.lst (((gs.filter fun r => decide (r.1 = name)).map (·.2)).map V.int)) := by
      cases r8 with
      | lst ha hd =>
        have := DlAll.ints hd
        subst this
        exact ⟨_, rfl, ha⟩
    have lf := List.length_filter_le (fun r : Rel => decide (r.1 = name)) gs
    obtain ⟨vnd, vnn⟩ := goods_vers gd name
    refine ⟨a8, _, rfl, SqL.of ha8, by rw [List.length_map]; omega, fun ns' p9 pp pw hp9 => ⟨a7, p9, _, _, rfl, rfl, same_new hp9 _ _ (s8 _ _ ha7), upd_same, ?_, fun p10 hp10 => da_nil ⟨.int d, .ref p10, rfl, ?_⟩⟩⟩
    · rw [List.length_map, pp.length_eq, List.length_map]
      exact Nat.le_trans (show 1 + (gs.filter fun r => decide (r.1 = name)).length ≤ 1000 by omega) (by decide)
    have n9 : Same H8 (upd H8 p9 (.lst (ns'.map V.int))) := same_new hp9
    have n10 := same_new (o := .lst ([V.int 0] ++ ns'.map V.int)) hp10
    have s610 := ((s7.trans s8).trans n9).trans n10
    have pl : ns'.length ≤ 6 := by
      rw [pp.length_eq, List.length_map]
      omega
    have nnd : ns'.Nodup := pp.nodup_iff.mpr vnd
    have nnn : ∀ x ∈ ns', 1 ≤ x := fun x hx => vnn x (pp.mem_iff.mp hx)
    have nne : ns' ≠ [] := fun z => by
      obtain ⟨g, hg, eg⟩ := hl name List.mem_cons_self
      have : g.2 ∈ ns' := pp.mem_iff.mpr (List.mem_map.mpr ⟨g, List.mem_filter.mpr ⟨hg, decide_eq_true eg⟩, rfl⟩)
      rw [z] at this
      cases this
    generalize hH10 : upd (upd H8 p9 (.lst (ns'.map V.int))) p10 (.lst ([V.int 0] ++ ns'.map V.int)) = H10 at n10 s610 ⊢
    have hp10' : H10 p10 = some (.lst ((0 :: ns').map V.int)) := by rw [← hH10]; exact upd_same
    have kH10 : Kb [A] H3 H10 := kH6.trans (Same.kb s610)
    have t10 := t6.same s610
    have hF10 : H10 F = some (.lst acc) := kH10.1 _ _ (by simpa using tF.symm) hF3
    have hda10 : DlAll H10 acc (m.map encU) := hda3.tk kH10.2.tk (tlvAll_map fun u _ => tlv_encU u)
    have ro10 := (stb_rr own).kb kH10 ro3
    have kbA : ∀ {S : List Addr} {Ha Hb : Hp}, Kb [A] Ha Hb → Kb [A, F] Ha Hb := fun h => h.sub fun x hx => by
      have : x = A := by simpa using hx
      rw [this]
      exact List.mem_cons_self
    have lsub : (m.map (·.1) ++ l).Pairwise sLt := hasc.sublist (List.Sublist.append (List.Sublist.refl _) (List.sublist_cons_self _ _))
    have pA : p10 ≠ A := fun z => by
      obtain ⟨a, b, e, h, _⟩ := t10
      rw [← z, hp10'] at h
      have := HO.lst.inj (Option.some.inj h)
      rw [z] at hp10
      exact ((t6.same ((s7.trans s8).trans n9)).some) hp10
    refine dss_one (ds_ifT (et_w (ew_and (et_neS (ev_var 4 rfl (.str name)) (ev_ixT (EvD.is (EvR.toD (erv_v 1 rfl (stb_rr own) ro10) fun H v h => h.dl) (encR_eq own)) ev_int atI0)) fun _ => ew_and1 (et_gt (ev_var 6 rfl (.int d)) ev_int))) (fun hk2 H11 s11 => ?_) fun _ H11 s11 => dss_nil ⟨(kb3.trans (kbA (S := []) kH10)).trans (Same.kb s11), ⟨_, _, _, _, rfl⟩, acc, m, s11 _ _ hF10, hda10.mono s11, lsub, hm, fun x hx => hl x (List.mem_cons_of_mem _ hx), k + 1, by omega, by omega, (t10.same s11).le (by omega)⟩)
    rw [Bool.and_eq_true] at hk2
    have hno : name ≠ own.1 := by
      intro z
      have := hk2.1
      rw [decide_eq_true z] at this
      cases this
    have hp11 := s11 _ _ hp10'
    have t11 := t10.same s11
    refine dss_cons (ds_set 8 nd (DoE.mono (Q := fun v H12 => ∃ B ms, v = .ref B ∧ Kb [A] H11 H12 ∧ Pre ms ∧ H12 B = some (.lst (ms.map V.int)) ∧ Tin A (n + 10 * k + 10) H12) ?_ ?_))
    · refine DoE.of (pe_ifExp DoT.pt DoE.pe DoE.pe) (EvT.go (et_eqI (ev_var 6 rfl (.int d)) ev_int) fun H12 s12' => ?_)
      have hp12 := s12' _ _ hp11
      have t12 := t11.same s12'
      cases hd2 : decide (d = 2) with
      | true =>
        refine iteT (EvD.go (ev_tailL (ev_var 7 rfl (.lst hp12 (dl_ints (ns := 0 :: ns'))))) fun v H13 s13 r13 => ?_)
        have r13 : Dl H13 v (.list (ns'.map PyData.int)) := r13
        cases r13 with
        | lst ha hd =>
          have := DlAll.ints hd
          subst this
          exact ⟨_, ns', rfl, Same.kb (s12'.trans s13), ⟨nne, nnd, fun x hx => by have := nnn x hx; omega, by omega⟩, ha, (t12.same s13).le (by omega)⟩
      | false =>
        refine iteF ?_
        refine do_call G2 (hr.mono (by decide)) rfl (da_cons (EvV.go (evv_var 0 rfl) fun H13 s13 => da_cons (EvV.go (evv_var 7 rfl) fun H14 s14 => da_cons (do_add (EvD.go ev_int fun u15 H15 s15 r15 => ⟨1, by cases r15; rfl, ?_⟩)))))
        have s1215 := (s13.trans s14).trans s15
        refine do_call G (hr.mono (by decide)) rfl (da_cons (EvV.go (evv_var 0 rfl) fun H16 s16 => da_cons (EvD.go (ev_lenL T.b_len (ev_var 7 rfl (.lst (s16 _ _ (s1215 _ _ hp12)) (dl_ints (ns := 0 :: ns'))))) fun u17 H17 s17 r17 => da_nil ?_)))
        have s1217 := (s1215.trans s16).trans s17
        have t17 := t12.same s1217
        rw [List.length_map, List.length_cons] at r17
        refine ⟨A, n + 10 * k + 1, _, by cases r17; rfl, t17, by omega, by omega, by omega, fun e H18 e0 e1 k18 t18 => ⟨e, rfl, da_nil ⟨A, n + 10 * k + 2, p10, (0 :: ns').map V.int, 1 + e, rfl, t18, by omega, pA, k18.1 _ _ (by simpa using pA) (s1217 _ _ hp12), by rw [List.length_map, List.length_cons]; omega, by omega, fun B ys' rest H19 k19 hB hys' hp hlen t19 => ?_⟩⟩⟩
        obtain ⟨l1, l2, pl', hy⟩ := pick_out (R := fun v x => v = V.int x) (l := 0 :: ns') map_a2 hp
        have ey := a2_map hy
        subst ey
        have nd0 : (0 :: ns').Nodup := List.nodup_cons.mpr ⟨fun z => by have := nnn 0 z; omega, nnd⟩
        obtain ⟨nd1, sub1⟩ := sub_nodup pl' nd0
        rw [List.length_map, List.length_map, List.length_cons] at hlen
        refine ⟨B, l1, rfl, ((Same.kb (s12'.trans s1217)).trans k18).trans k19, ⟨fun z => ?_, nd1, fun x hx => ?_, by omega⟩, hys', t19.le ?_⟩
        · rw [z] at hlen
          have : (0 : Nat) = min (1 + e).toNat (ns'.length + 1) := hlen
          omega
        · rcases List.mem_cons.mp (sub1 x hx) with rfl | h
          · exact Int.le_refl _
          · have := nnn x h
            omega
        · rw [List.length_map, List.length_cons]
          omega
    · rintro _ H12 ⟨B, ms, rfl, k12, hpre, hB, t12⟩
      have hF12 : H12 F = some (.lst acc) := k12.1 _ _ (by simpa using tF.symm) (s11 _ _ hF10)
      have hda12 : DlAll H12 acc (m.map encU) := (hda10.mono s11).tk k12.2.tk (tlvAll_map fun u _ => tlv_encU u)
      refine dss_one (ds_appendR 3 rfl hF12 (by rw [hda12.length, List.length_map]; omega) (erv_tup2 (EvD.r (ev_var 4 rfl (.str name))) (erv_lot T.b_tuple T.b_sorted (erv_var 8 rfl fun H' s => ⟨ms, hpre, B, rfl, s _ _ hB⟩)) (stb_dl rfl) (fun Ha Hb v k ⟨l, wl, r⟩ => ⟨l, wl, r.tk k.tk (tlv_encL l)⟩)) fun z H13 s13 rz hF13 => ?_)
      obtain ⟨T', y, z', rfl, hT, ry, lt, wl, rlt⟩ := rz
      cases ry
      refine ⟨((kb3.trans (kbA (S := []) ((kH10.trans (Same.kb s11)).trans (k12.trans (Same.kb s13)))))).trans (Kb.upd hF13 (by simp)), ⟨_, _, _, _, rfl⟩, acc ++ [.ref T'], m ++ [(name, lt)], upd_same, ?_, ?_, ?_, fun x hx => hl x (List.mem_cons_of_mem _ hx), k + 1, by omega, by rw [List.length_append, List.length_singleton]; omega, ?_⟩
      · rw [List.map_append]
        exact DlAll.push hF13 (hda12.mono s13) (tlvAll_map fun u _ => tlv_encU u) (.tup (.inl hT) (.cons (.str name) (.cons rlt .nil))) (tlv_encU (name, lt))
      · rw [List.map_append, List.append_assoc]
        exact hasc
      · intro u hu
        rcases List.mem_append.mp hu with hu | hu
        · exact hm u hu
        · have : u = (name, lt) := by simpa using hu
          rw [this]
          obtain ⟨g, hg, eg⟩ := hl name List.mem_cons_self
          exact ⟨eg ▸ (gd.ok g hg).1, wl, hno⟩
      · exact ((t12.same s13).kb (S := [F]) (Kb.upd hF13 List.mem_cons_self) (by simpa using tF)).le (by omega)
  · rintro σ' H' ⟨kb, ⟨o4, o6, o7, o8, rfl⟩, acc, m, hF', hda, hasc, hm, hl, k, hk, hmk, tk⟩
    rw [List.append_nil] at hasc
    refine dss_one (ds_ret (do_tupF (G := fun H xs => DlAll H xs (m.map encU)) T.b_tuple (EvR.imp (EvD.r (ev_var 3 rfl (.lst hF' hda))) fun H v r => by
      cases r with
      | lst ha hd => exact ⟨_, _, rfl, ha, hd⟩) (fun H H' xs s h => h.mono s) fun p o xs H4 s5 ho hp hx => ?_))
    refine q _ m H4 (Kb.drop (((Same.kb s12).trans kb).trans (Same.kb s5)) fun x hx => ?_) ⟨p, o, xs, rfl, hp, ho, hx⟩ ⟨hasc, fun u hu => (hm u hu).1, fun u hu => (hm u hu).2.1⟩ (lot_none fun u hu => (hm u hu).2.2) ((tk.same s5).le (by omega))
    simp only [List.mem_cons, List.not_mem_nil, or_false] at hx
    rcases hx with rfl | rfl
    · exact .inl List.mem_cons_self
    · exact .inr hF
end
end Lk
namespace Lk
open PySem PySem.Spec PyProof.Rows L2
section
variable {X : Cx} {a b c d e : Expr} {es : List Expr} {σ : L2.St} {H : Hp} {pos p : Pos} {D : Ends} {st : Stmt} {sts s1 s2 : List Stmt} {x : Str}
/-- a statement, then the rest, by what stands between -/
theorem dss_mid {M : L2.St → Hp → Prop} (h : DoS X st { D with nx := M } σ H) (q : ∀ σ' H', M σ' H' → DoSs X sts D σ' H') : DoSs X (st :: sts) D σ H :=
  dss_cons ⟨fun pins s I => thn (h.run pins s I) fun fl s' r => by
    cases fl with
    | next =>
      obtain ⟨σ', H', J, m⟩ := r
      exact ⟨σ', H', J, q σ' H' m⟩
    | brk => exact r
    | cont => exact r
    | ret v => exact r⟩
theorem dt_w {Q : Bool → Hp → Prop} (h : DoW X e σ H Q) : DoT X e σ H Q := ⟨fun pins sh I => h.run _ pins sh I⟩
theorem dw_and1 {Q : Bool → Hp → Prop} (h : DoT X a σ H Q) : DoW X (.BoolOp .And [a] pos) σ H Q := DoW.of (pw_and1 DoT.pt) h
theorem dw_and {Q : Bool → Hp → Prop} (h : DoT X a σ H fun k H1 => if k = true then DoW X (.BoolOp .And (b :: es) pos) σ H1 Q else Q false H1) : DoW X (.BoolOp .And (a :: b :: es) pos) σ H Q := DoW.of (pw_and DoT.pt DoW.pw) h
theorem do_intB {Q : VK} (hm : X.mg "int" = none) (h : DoE X e σ H fun v H1 => ∃ k : Bool, v = .bl k ∧ Q (.int (if k then 1 else 0)) H1) (hg : Gl X "int" := by rfl) (he : starEach [e] X.env = (false, eval e X.env) :: starEach [] X.env := by rfl) (hpl : (backTo pos (starEach [] X.env)).any (·.1) = false := by rfl) : DoE X (.Call (.Name "int" p) [e] [] pos) σ H Q :=
  do_callTy call_int1 hm (by decide +kernel) (da_cons (h.mono fun v H1 ⟨k, ev, q⟩ => da_nil (.inr ⟨k, by rw [ev], q⟩)) he) hg (by decide) (by decide) he hpl
theorem do_if {Q : VK} (h : DoT X c σ H fun k H1 => if k = true then DoE X a σ H1 Q else DoE X b σ H1 Q) : DoE X (.IfExp c a b pos) σ H Q := DoE.of (pe_ifExp DoT.pt DoE.pe DoE.pe) h
/-- a part, laid from its four values -/
theorem rp_new {H : Hp} {q : Addr} {v1 v2 v4 : V} {rl : Rel} {rs : Rules} {fi : Int} {la : Option Int} (hq : H q = none) (h1 : Rr H v1 rl) (h2 : Ru H v2 rs) (h4 : Dl H v4 (encO la)) : Rp (upd H q (.tup [v1, v2, .int fi, v4])) (.ref q) ⟨rl, rs, fi, la⟩ :=
  ⟨q, v1, v2, v4, rfl, .inl upd_same, (stb_rr rl).same (same_new hq) h1, (stb_ru rs).same (same_new hq) h2, h4.mono (same_new hq)⟩
end
def sp_shelf : Sp := fun vs H Q _ => ∃ (T : Addr) (n : Nat) (c : Addr) (shop : Str) (late : Int) (ys : List V) (gs : List Rel), vs = [.ref T, .ref c, .str shop, .int late] ∧ Tin T n H ∧ n ≤ 500000 ∧ c ≠ T ∧ H c = some (.lst ys) ∧ A2 (Rr H) ys gs ∧ Goods gs ∧ 1 ≤ late ∧ late ≤ 10 ∧
  ∀ z s H', Kb [T] H H' → Rs H' z s → WfS s → Tin T (n + 1000) H' → Q z H'
section
variable {P : Program} {w : World} {K : PySem.W.Frag} {mg : Str → Option Value} {base : Heap}
theorem ok_sshelf (T : Tops K mg) : Good P w K mg base 4 "_law_some_shelf" ["_law_tin", "_law_goods_so", "_law_shop_so", "_law_late_so"] sp_shelf := by
  have G := ok_take (P := P) (w := w) (base := base) T
  have G2 := ok_srules (P := P) (w := w) (base := base) T
  refine good_of T.d_law_some_shelf sc_law_some_shelf (fun vs H Q E h => by obtain ⟨T, n, c, shop, late, ys, gs, rfl, _⟩ := h; rfl) fun f cdv Ar outer s0 H vs Q E hr h => ?_
  obtain ⟨A, n, c, shop, late, ys, gs, rfl, ht, hn, hne, hc, hys, gd, hl1, hl2, q⟩ := h
  have nd := sc_law_some_shelf.nd
  have few := gd.few
  refine dss_cons (ds_set 4 nd (do_nilL fun F hF => ?_))
  have s1 : Same H (upd H F (.lst [])) := same_new hF
  have tF : A ≠ F := ht.ne hF
  have cF : c ≠ F := fun z => by rw [z, hF] at hc; cases hc
  have cn : c ∉ [A, F] := by simp [hne, cF]
  have kbA : ∀ {Ha Hb : Hp}, Kb [A] Ha Hb → Kb [A, F] Ha Hb := fun h => h.sub fun x hx => by
    have : x = A := by simpa using hx
    rw [this]
    exact List.mem_cons_self
  refine dss_cons (ds_forR .never rfl (pg_name nd (i := 5) rfl (by first | exact .inl rfl | exact .inr rfl)) (di_lst (EvV.go (evv_var 1 rfl) fun H2 s2 => ⟨c, ys, rfl, s2 _ _ (s1 _ _ hc), ?_⟩)))
  have s12 := s1.trans s2
  have F2 : H2 F = some (.lst []) := s2 _ _ upd_same
  refine walkedR [A, F] Rr gs (fun l σ' H' => Kb [A, F] H2 H' ∧ (∃ o5 o6 o7, σ' = [some (.ref A), some (.ref c), some (.str shop), some (.int late), some (.ref F), o5, o6, o7]) ∧ ∃ acc m, H' F = some (.lst acc) ∧ A2 (Rp H') acc m ∧ m.map (·.rel) ++ l = gs ∧ (∀ p ∈ m, WfP p) ∧ ∃ k, k + l.length ≤ 6 ∧ Tin A (n + 110 * k) H') (yr_lst stb_rr cn (s12 _ _ hc) (hys.imp fun _ a h => (stb_rr a).same s12 h))
    ⟨Kb.refl, ⟨none, none, none, rfl⟩, [], [], F2, .nil, rfl, fun p hp => (by cases hp), 0, by omega, ht.same s12⟩ (fun r σ' H' h => h.1) ?_ ?_
  · rintro own l x σ' H' H3 hown ⟨kb, ⟨o5, o6, o7, rfl⟩, acc, m, hF', hda, hml, hwf, k, hk, tk⟩ s3 rx
    rw [List.length_cons] at hk
    have kb3 : Kb [A, F] H2 H3 := kb.trans (Same.kb s3)
    have hc3 : H3 c = some (.lst ys) := ((Same.kb s12).trans kb3).1 _ _ cn hc
    have t3 := tk.same s3
    have mlen : m.length ≤ 6 := by
      have := congrArg List.length hml
      rw [List.length_append, List.length_map, List.length_cons] at this
      omega
    -- first
    refine dss_mid (M := fun σ' H4 => Kb [A] H3 H4 ∧ Tin A (n + 110 * k + 2) H4 ∧ ∃ fi : Int, 0 ≤ fi ∧ fi ≤ late ∧ σ' = [some (.ref A), some (.ref c), some (.str shop), some (.int late), some (.ref F), some x, some (.int fi), o7]) (ds_set 6 nd (do_if (EvT.go (et_eqS (ev_var 2 rfl (.str shop)) ev_str) fun H4 s4 => ?_))) ?_
    · cases decide (shop = ("still" : Str)) with
      | true => exact iteT (EvD.go ev_int fun v H5 s5 r5 => by cases r5; exact ⟨Same.kb (s4.trans s5), (t3.same (s4.trans s5)).le (by omega), 0, Int.le_refl _, by omega, rfl⟩)
      | false =>
        refine iteF (do_mul (do_call G (hr.mono (by decide)) rfl (da_cons (EvV.go (evv_var 0 rfl) fun H5 s5 => da_cons (EvD.go (ev_add (ev_var 3 rfl (.int late)) ev_int) fun u6 H6 s6 r6 => da_nil ?_)))))
        have t6 := t3.same ((s4.trans s5).trans s6)
        refine ⟨A, n + 110 * k, _, by cases r6; rfl, t6, by omega, by omega, by omega, fun e H7 e0 e1 k7 t7 => ⟨e, rfl, do_intB T.b_int (do_gtI (do_call G (hr.mono (by decide)) rfl (da_cons (EvV.go (evv_var 0 rfl) fun H8 s8 => da_cons (EvD.go ev_int fun u9 H9 s9 r9 => da_nil ?_)))))⟩⟩
        refine ⟨A, n + 110 * k + 1, 3, by cases r9; rfl, t7.same (s8.trans s9), by omega, by omega, by omega, fun g H10 g0 g1 k10 t10 => ⟨g, rfl, EvD.go ev_int fun u11 H11 s11 r11 => ⟨0, by cases r11; rfl, _, rfl, ?_⟩⟩⟩
        have kk : Kb [A] H3 H11 := (((Same.kb ((s4.trans s5).trans s6)).trans k7).trans (Same.kb (s8.trans s9))).trans (k10.trans (Same.kb s11))
        refine ⟨_, rfl, .inr (by split <;> exact ⟨by omega, by omega⟩), kk, t10.same s11, _, ?_, ?_, rfl⟩
        · split <;> omega
        · split <;> omega
    rintro σ' H4 ⟨k4, t4, fi, fi0, fi1, rfl⟩
    refine dss_cons (ds_set 7 nd (EvD.go ev_non fun v5 H5 s5 r5 => ?_))
    cases r5
    -- last
    refine dss_mid (M := fun σ' H6 => Kb [A] H5 H6 ∧ Tin A (n + 110 * k + 4) H6 ∧ ∃ (la : Option Int) (lv : V), Dl H6 lv (encO la) ∧ (∀ i, la = some i → fi ≤ i) ∧ σ' = [some (.ref A), some (.ref c), some (.str shop), some (.int late), some (.ref F), some x, some (.int fi), some lv]) (ds_if (dt_w (dw_and (EvT.go (et_eqS (ev_var 2 rfl (.str shop)) ev_str) fun H6 s6 => ?_)))) ?_
    · have t6 := t4.same (s5.trans s6)
      cases decide (shop = ("short" : Str)) with
      | false => exact iteF (iteF (dss_nil ⟨Same.kb s6, t6.le (by omega), none, .non, .non, fun i z => (nomatch z), rfl⟩))
      | true =>
        refine iteT (dw_and1 (dt_gtI (do_call G (hr.mono (by decide)) rfl (da_cons (EvV.go (evv_var 0 rfl) fun H7 s7 => da_cons (EvD.go ev_int fun u8 H8 s8 r8 => da_nil ?_))))))
        refine ⟨A, n + 110 * k + 2, 3, by cases r8; rfl, t6.same (s7.trans s8), by omega, by omega, by omega, fun g H9 g0 g1 k9 t9 => ⟨g, rfl, EvD.go ev_int fun u10 H10 s10 r10 => ⟨0, by cases r10; rfl, ?_⟩⟩⟩
        have kk : Kb [A] H5 H10 := ((Same.kb ((s6.trans s7).trans s8)).trans k9).trans (Same.kb s10)
        have t10 := t9.same s10
        cases decide (0 < g) with
        | false => exact iteF (dss_nil ⟨kk, t10.le (by omega), none, .non, .non, fun i z => (nomatch z), rfl⟩)
        | true =>
          refine iteT (dss_one (ds_set 7 nd (do_add (EvD.go (ev_var 6 rfl (.int fi)) fun u11 H11 s11 r11 => ⟨fi, by cases r11; rfl, do_call G (hr.mono (by decide)) rfl (da_cons (EvV.go (evv_var 0 rfl) fun H12 s12 => da_cons (EvD.go (ev_add (ev_sub (ev_var 3 rfl (.int late)) (ev_var 6 rfl (.int fi))) ev_int) fun u13 H13 s13 r13 => da_nil ?_)))⟩))))
          refine ⟨A, n + 110 * k + 3, _, by cases r13; rfl, t10.same ((s11.trans s12).trans s13), by omega, by omega, by omega, fun e H14 e0 e1 k14 t14 => ⟨e, rfl, (kk.trans (Same.kb ((s11.trans s12).trans s13))).trans k14, t14, some (fi + e), .int (fi + e), .int _, fun i z => by cases z; omega, rfl⟩⟩
    rintro σ' H6 ⟨k6, t6, la, lv, rla, hla, rfl⟩
    have kH6 : Kb [A] H3 H6 := (k4.trans (Same.kb s5)).trans k6
    have hF6 : H6 F = some (.lst acc) := kH6.1 _ _ (by simpa using tF.symm) (s3 _ _ hF')
    refine dss_one (ds_appendM 4 rfl hF6 (DoE.of (pe_tup DoA.pa) (da_cons (EvV.go (evv_var 5 rfl) fun H7 s7 => da_cons (do_call G2 hr rfl (da_cons (EvV.go (evv_var 0 rfl) fun H8 s8 => da_cons (EvV.go (evv_var 5 rfl) fun H9 s9 => da_cons (EvV.go (evv_var 1 rfl) fun H10 s10 => da_nil ?_)))))))))
    have s710 := ((s7.trans s8).trans s9).trans s10
    have kH10 : Kb [A] H3 H10 := kH6.trans (Same.kb s710)
    have rx10 := (stb_rr own).kb kH10 rx
    refine ⟨A, n + 110 * k + 4, x, own, c, ys, gs, rfl, t6.same s710, by omega, rx10, hne, kH10.1 _ _ (by simpa using hne) hc3, hys.imp fun _ a h => (stb_rr a).kb (((Same.kb s12).trans kb3).trans (kbA kH10)) h, gd, fun z rs H11 k11 rz wrs hnone t11 => ?_⟩
    refine da_cons (EvV.go (evv_var 6 rfl) fun H12 s12' => da_cons (EvV.go (evv_var 7 rfl) fun H13 s13 => da_nil ⟨Nat.le_trans (show 4 ≤ 1000 by omega) (by decide), fun p hp => ?_⟩))
    have s1213 := s12'.trans s13
    have kH13 : Kb [A] H3 H13 := (kH10.trans k11).trans (Same.kb s1213)
    have np : Same H13 (upd H13 p (.tup [x, z, .int fi, lv])) := same_new hp
    have hF13 : H13 F = some (.lst acc) := kH13.1 _ _ (by simpa using tF.symm) (s3 _ _ hF')
    have rpn : Rp (upd H13 p (.tup [x, z, .int fi, lv])) (.ref p) ⟨own, rs, fi, la⟩ := rp_new hp ((stb_rr own).kb kH13 rx) ((stb_ru rs).same s1213 rz) (rla.tk ((Kb.trans (Same.kb (S := [A]) s710) (k11.trans (Same.kb s1213))).2.tk) (tlv_encO la))
    have hda13 : A2 (Rp (upd H13 p (.tup [x, z, .int fi, lv]))) acc m := hda.imp fun _ a h => (stb_rp a).same np ((stb_rp a).kb kH13 ((stb_rp a).same s3 h))
    refine ⟨acc, np _ _ hF13, by rw [hda.length]; omega, ((kb3.trans (kbA kH13)).trans (Same.kb np)).trans (Kb.upd (np _ _ hF13) (by simp)), ⟨_, _, _, rfl⟩, acc ++ [.ref p], m ++ [⟨own, rs, fi, la⟩], upd_same, A2.push stb_rp (np _ _ hF13) hda13 rpn, ?_, ?_, k + 1, by omega, ?_⟩
    · rw [List.map_append, List.append_assoc]
      exact hml
    · intro p' hp'
      rcases List.mem_append.mp hp' with hp' | hp'
      · exact hwf p' hp'
      · have : p' = ⟨own, rs, fi, la⟩ := by simpa using hp'
        rw [this]
        exact ⟨(gd.ok own hown).1, (gd.ok own hown).2, wrs, hnone, fi0, hla⟩
    · exact ((t11.same (s1213.trans np)).kb (S := [F]) (Kb.upd (np _ _ hF13) List.mem_cons_self) (by simpa using tF)).le (by omega)
  · rintro σ' H' ⟨kb, ⟨o5, o6, o7, rfl⟩, acc, m, hF', hda, hml, hwf, k, hk, tk⟩
    rw [List.append_nil] at hml
    have mlen : m.length ≤ 6 := by
      have := congrArg List.length hml
      rw [List.length_map] at this
      omega
    refine dss_one (ds_ret (do_tupF (G := fun H xs => A2 (Rp H) xs m) T.b_tuple (erv_var (R := fun H v => ∃ c xs, v = .ref c ∧ H c = some (.lst xs) ∧ A2 (Rp H) xs m) 4 rfl fun H3 s4 => ⟨F, acc, rfl, s4 _ _ hF', hda.imp fun _ a h => (stb_rp a).same s4 h⟩) (fun H H' xs s h => h.imp fun _ a h => (stb_rp a).same s h) fun p o xs H4 s5 ho hp hx => ?_))
    refine q _ m H4 (Kb.drop (((Same.kb s12).trans kb).trans (Same.kb s5)) fun x hx => ?_) ⟨p, xs, rfl, .inr ⟨o, hp⟩, hx⟩ ⟨by rw [hml]; exact gd.asc, hwf, by omega⟩ ((tk.same s5).le (by omega))
    simp only [List.mem_cons, List.not_mem_nil, or_false] at hx
    rcases hx with rfl | rfl
    · exact .inl List.mem_cons_self
    · exact .inr hF
end
end Lk
namespace Lk
open PySem PySem.Spec PyProof.Rows L2
def LikeSt (A F : Addr) (n k : Nat) (H2 : Hp) (pre : L2.St) (p : Part) (l : List Part) (d i : Int) (c : Nat) (σ' : L2.St) (H' : Hp) : Prop :=
  Kb [A, F] H2 H' ∧ (∃ o7 o8, σ' = pre ++ [o7, o8, none, none]) ∧ ∃ acc m, H' F = some (.lst acc) ∧ A2 (Rp H') acc m ∧ (∀ q ∈ m, WfP q) ∧
    (((m.map (·.rel) ++ p.rel :: l.map (·.rel)).Pairwise rLt ∧ m.length ≤ k ∧ i ≤ d) ∨ ((m.map (·.rel) ++ l.map (·.rel)).Pairwise rLt ∧ m.length ≤ k + 1 ∧ d < i)) ∧ Tin A (n + 200 * k + c) H'
theorem like_app {A F : Addr} {n k : Nat} {H2 H5 : Hp} {pre : L2.St} {p p' : Part} {l m : List Part} {d i : Int} {c : Nat} {acc : List V} {z : V} {o7 o8 : Option V} (hA : A ≠ F) (kb : Kb [A, F] H2 H5) (hF : H5 F = some (.lst acc)) (ha : A2 (Rp H5) acc m) (hw : ∀ q ∈ m, WfP q)
    (hp : (m.map (·.rel) ++ p.rel :: l.map (·.rel)).Pairwise rLt) (hm : m.length ≤ k) (hd : d < i) (r : Rp H5 z p') (e : p'.rel = p.rel) (w : WfP p') (t : Tin A (n + 200 * k + c) H5) : LikeSt A F n k H2 pre p l d i c (pre ++ [o7, o8, none, none]) (upd H5 F (.lst (acc ++ [z]))) := by
  refine ⟨kb.trans (Kb.upd hF (by simp)), ⟨o7, o8, rfl⟩, acc ++ [z], m ++ [p'], upd_same, A2.push stb_rp hF ha r, ?_, .inr ⟨?_, ?_, hd⟩, t.kb (S := [F]) (Kb.upd hF List.mem_cons_self) (by simpa using hA)⟩
  · intro q hq
    rcases List.mem_append.mp hq with hq | hq
    · exact hw q hq
    · have : q = p' := by simpa using hq
      rw [this]
      exact w
  · rw [List.map_append, List.append_assoc]
    show (m.map (·.rel) ++ (p'.rel :: l.map (·.rel))).Pairwise rLt
    rw [e]
    exact hp
  · rw [List.length_append, List.length_singleton]
    omega
theorem like_skip {A F : Addr} {n k : Nat} {H2 H4 H5 : Hp} {pre : L2.St} {p : Part} {l : List Part} {d i i' : Int} {c c' : Nat} {σ' : L2.St} (h : LikeSt A F n k H2 pre p l d i c σ' H4) (s : Same H4 H5) (hi : i ≤ i') (hc : c ≤ c') (hd : i ≤ d → i' ≤ d) : LikeSt A F n k H2 pre p l d i' c' σ' H5 := by
  obtain ⟨kb, hs, acc, m, hF, ha, hw, ho, t⟩ := h
  refine ⟨kb.trans (Same.kb s), hs, acc, m, s _ _ hF, ha.imp fun _ a h => (stb_rp a).same s h, hw, ?_, (t.same s).le (by omega)⟩
  rcases ho with ⟨h1, h2, h3⟩ | ⟨h1, h2, h3⟩
  · exact .inl ⟨h1, h2, hd h3⟩
  · exact .inr ⟨h1, h2, by omega⟩
def sp_like : Sp := fun vs H Q _ => ∃ (T : Addr) (n : Nat) (sv : V) (c : Addr) (late : Int) (s : List Part) (ys : List V) (gs : List Rel), vs = [.ref T, sv, .ref c, .int late] ∧ Tin T n H ∧ n ≤ 400000 ∧ Rs H sv s ∧ WfS s ∧ c ≠ T ∧ H c = some (.lst ys) ∧ A2 (Rr H) ys gs ∧ Goods gs ∧ 1 ≤ late ∧ late ≤ 10 ∧
  ∀ z s' H', Kb [T] H H' → Rs H' z s' → WfS s' → Tin T (n + 2000) H' → Q z H'
def Rul (H : Hp) (v : V) (u : Str × Lot) : Prop := Dl H v (encU u)
theorem stb_rul (u : Str × Lot) : Stb fun H v => Rul H v u := stb_dl (tlv_encU u)
section
variable {P : Program} {w : World} {K : PySem.W.Frag} {mg : Str → Option Value} {base : Heap}
theorem ok_like (T : Tops K mg) : Good P w K mg base 4 "_law_like" ["_law_tin", "_law_shelf_so", "_law_goods_so", "_law_late_so"] sp_like := by
  have G := ok_take (P := P) (w := w) (base := base) T
  have G2 := ok_srules (P := P) (w := w) (base := base) T
  have G3 := ok_pick (P := P) (w := w) (base := base) T
  refine good_of T.d_law_like sc_law_like (fun vs H Q E h => by obtain ⟨T, n, sv, c, late, s, ys, gs, rfl, _⟩ := h; rfl) fun f cdv Ar outer s0 H vs Q E hr h => ?_
  obtain ⟨A, n, sv, c, late, s, ys, gs, rfl, ht, hn, rs, ws, hne, hc, hys, gd, hl1, hl2, q⟩ := h
  have nd := sc_law_like.nd
  have few := ws.few
  refine dss_cons (ds_set 4 nd (do_nilL fun F hF => ?_))
  have s1 : Same H (upd H F (.lst [])) := same_new hF
  have tF : A ≠ F := ht.ne hF
  have cF : c ≠ F := fun z => by rw [z, hF] at hc; cases hc
  have cn : c ∉ [A, F] := by simp [hne, cF]
  have kbA : ∀ {Ha Hb : Hp}, Kb [A] Ha Hb → Kb [A, F] Ha Hb := fun h => h.sub fun x hx => by
    have : x = A := by simpa using hx
    rw [this]
    exact List.mem_cons_self
  refine dss_cons (ds_forR .never rfl (pg_name nd (i := 5) rfl (by first | exact .inl rfl | exact .inr rfl)) (EvIR.go (S := [A, F]) (eir_tup stb_rp (erv_v 1 rfl (stb_rs s) ((stb_rs s).same s1 rs))) fun J H2 s2 Y => ?_))
  have s12 := s1.trans s2
  have F2 : H2 F = some (.lst []) := s2 _ _ upd_same
  refine walkedR [A, F] Rp s (fun l σ' H' => Kb [A, F] H2 H' ∧ (∃ o5 o6 o7 o8, σ' = [some (.ref A), some sv, some (.ref c), some (.int late), some (.ref F), o5, o6, o7, o8, none, none]) ∧ ∃ acc m, H' F = some (.lst acc) ∧ A2 (Rp H') acc m ∧ (∀ p ∈ m, WfP p) ∧ (m.map (·.rel) ++ l.map (·.rel)).Pairwise rLt ∧ ∃ k, k + l.length ≤ 10 ∧ m.length ≤ k ∧ Tin A (n + 200 * k) H') Y
    ⟨Kb.refl, ⟨none, none, none, none, rfl⟩, [], [], F2, .nil, fun p hp => (by cases hp), ws.asc, 0, by omega, Nat.le_refl _, ht.same s12⟩ (fun r σ' H' h => h.1) ?_ ?_
  · rintro p l x σ' H' H3 hp ⟨kb, ⟨o5, o6, o7, o8, rfl⟩, acc, m, hF', hda, hwf, hasc, k, hk, hmk, tk⟩ s3 rx
    have wp := ws.part p hp
    rw [List.length_cons] at hk
    have kb3 : Kb [A, F] H2 H3 := kb.trans (Same.kb s3)
    have kH3 : Kb [A, F] H H3 := (Same.kb s12).trans kb3
    have hc3 : H3 c = some (.lst ys) := kH3.1 _ _ cn hc
    have hys3 : A2 (Rr H3) ys gs := hys.imp fun _ a h => (stb_rr a).kb kH3 h
    have t3 := tk.same s3
    refine dss_cons (ds_set 6 nd (do_call G (hr.mono (by decide)) rfl (da_cons (EvV.go (evv_var 0 rfl) fun H4 s4 => da_cons (EvD.go ev_int fun u5 H5 s5 r5 => da_nil ?_)))))
    refine ⟨A, n + 200 * k, 7, by cases r5; rfl, t3.same (s4.trans s5), by omega, by omega, by omega, fun d H6 d0 d1 k6 t6 => ?_⟩
    have k36 : Kb [A] H3 H6 := (Same.kb (s4.trans s5)).trans k6
    have kb6 : Kb [A, F] H2 H6 := kb3.trans (kbA k36)
    have st0 : LikeSt A F n k H2 [some (.ref A), some sv, some (.ref c), some (.int late), some (.ref F), some x, some (.int d)] p l d 0 1 ([some (.ref A), some sv, some (.ref c), some (.int late), some (.ref F), some x, some (.int d)] ++ [o7, o8, none, none]) H6 :=
      ⟨kb6, ⟨o7, o8, rfl⟩, acc, m, k36.1 _ _ (by simpa using tF.symm) (s3 _ _ hF'), hda.imp fun _ a h => (stb_rp a).kb k36 ((stb_rp a).same s3 h), hwf, .inl ⟨hasc, hmk, d0⟩, t6⟩
    -- what stands in any such state
    have parts : ∀ {i : Int} {c' : Nat} {σ' : L2.St} {H' : Hp}, LikeSt A F n k H2 [some (.ref A), some sv, some (.ref c), some (.int late), some (.ref F), some x, some (.int d)] p l d i c' σ' H' → Kb [A, F] H3 H' → Rp H' x p ∧ H' c = some (.lst ys) ∧ A2 (Rr H') ys gs := fun h hk => ⟨(stb_rp p).kb hk rx, hk.1 _ _ cn hc3, hys3.imp fun _ a h => (stb_rr a).kb hk h⟩
    refine dss_mid (M := fun σ' H' => LikeSt A F n k H2 [some (.ref A), some sv, some (.ref c), some (.int late), some (.ref F), some x, some (.int d)] p l d 2 1 σ' H' ∧ Kb [A, F] H3 H') (ds_ifT (et_lt (ev_var 6 rfl (.int d)) ev_int) (fun hk H7 s7 => ?_) fun hk H7 s7 => dss_nil ⟨like_skip st0 s7 (by omega) (Nat.le_refl _) (fun _ => by have := of_decide_eq_false hk; omega), (kbA k36).trans (Same.kb s7)⟩) ?_
    · have hk := of_decide_eq_true hk
      have rx6 := (stb_rp p).kb k36 rx
      have hF6 : H6 F = some (.lst acc) := k36.1 _ _ (by simpa using tF.symm) (s3 _ _ hF')
      refine dss_one (ds_appendR 4 rfl (s7 _ _ hF6) (by rw [hda.length]; omega) (erv_v 5 rfl (stb_rp p) ((stb_rp p).same s7 rx6)) fun z H8 s8 rz hF8 => ⟨like_app tF (kb6.trans (Same.kb (s7.trans s8))) hF8 (hda.imp fun _ a h => (stb_rp a).same (s7.trans s8) ((stb_rp a).kb k36 ((stb_rp a).same s3 h))) hwf hasc hmk (by omega) rz rfl wp (t6.same (s7.trans s8)), ((kbA k36).trans (Same.kb (s7.trans s8))).trans (Kb.upd hF8 (by simp))⟩)
    rintro σ' H7 ⟨st2, k7⟩
    refine dss_mid (M := fun σ' H' => LikeSt A F n k H2 [some (.ref A), some sv, some (.ref c), some (.int late), some (.ref F), some x, some (.int d)] p l d 3 101 σ' H' ∧ Kb [A, F] H3 H') ?_ ?_
    · obtain ⟨_, ⟨o7, o8, rfl⟩, _⟩ := id st2
      refine ds_ifT (et_eqI (ev_var 6 rfl (.int d)) ev_int) (fun hk H8 s8 => ?_) fun hk H8 s8 => dss_nil ⟨like_skip st2 s8 (by omega) (by omega) (fun _ => by have := of_decide_eq_false hk; omega), k7.trans (Same.kb s8)⟩
      have hk := of_decide_eq_true hk
      obtain ⟨kb7, _, acc, m, hF7, ha7, hw7, ho, t7⟩ := st2
      rcases ho with ⟨h1, h2, _⟩ | ⟨_, _, h3⟩
      · obtain ⟨rx7, hc7, hys7⟩ := (⟨(stb_rp p).kb k7 rx, k7.1 _ _ cn hc3, hys3.imp fun _ a h => (stb_rr a).kb k7 h⟩ : Rp H7 x p ∧ H7 c = some (.lst ys) ∧ A2 (Rr H7) ys gs)
        refine dss_one (ds_appendM 4 rfl (s8 _ _ hF7) (DoE.of (pe_tup DoA.pa) (da_cons (EvR.go (erv_rel (erv_v 5 rfl (stb_rp p) ((stb_rp p).same s8 rx7))) fun v1 H9 s9 r1 => da_cons ?_)))) 
        refine do_call G2 hr rfl (da_cons (EvV.go (evv_var 0 rfl) fun H10 s10 => da_cons (EvR.go (erv_rel (erv_v 5 rfl (stb_rp p) ((stb_rp p).same ((s8.trans s9).trans s10) rx7))) fun v2 H11 s11 r2 => da_cons (EvV.go (evv_var 2 rfl) fun H12 s12' => da_nil ?_))))
        have s812 := (((s8.trans s9).trans s10).trans s11).trans s12'
        refine ⟨A, n + 200 * k + 1, v2, p.rel, c, ys, gs, rfl, t7.same s812, by omega, (stb_rr _).same s12' r2, hne, s812 _ _ hc7, hys7.imp fun _ a h => (stb_rr a).same s812 h, gd, fun z rs' H13 k13 rz wrs hnone t13 => ?_⟩
        have k713 : Kb [A] H7 H13 := (Same.kb s812).trans k13
        refine da_cons (EvD.go (ev_first (erv_v 5 rfl (stb_rp p) ((stb_rp p).kb k713 rx7))) fun v3 H14 s14 r3 => da_cons (EvD.go (ev_last (erv_v 5 rfl (stb_rp p) ((stb_rp p).same s14 ((stb_rp p).kb k713 rx7)))) fun v4 H15 s15 r4 => da_nil ⟨Nat.le_trans (show 4 ≤ 1000 by omega) (by decide), fun b hb => ?_⟩))
        cases r3
        have k715 : Kb [A] H7 H15 := k713.trans (Same.kb (s14.trans s15))
        have nb := same_new (o := .tup [v1, z, .int p.first, v4]) hb
        have hF15 : H15 F = some (.lst acc) := k715.1 _ _ (by simpa using tF.symm) hF7
        have rn := rp_new (fi := p.first) hb ((stb_rr p.rel).kb ((Same.kb ((s10.trans s11).trans s12')).trans (k13.trans (Same.kb (s14.trans s15)))) r1) ((stb_ru rs').same (s14.trans s15) rz) r4
        refine ⟨acc, nb _ _ hF15, by rw [ha7.length]; omega, like_app tF ((kb7.trans (kbA k715)).trans (Same.kb nb)) (nb _ _ hF15) (ha7.imp fun _ a h => (stb_rp a).same nb ((stb_rp a).kb k715 h)) hw7 h1 h2 (by omega) rn rfl ⟨wp.name, wp.ver, wrs, hnone, wp.first, wp.last⟩ ((t13.same ((s14.trans s15).trans nb)).le (by omega)), (((k7.trans (kbA k715)).trans (Same.kb nb)).trans (Kb.upd (nb _ _ hF15) (by simp)))⟩
      · exact absurd hk (by omega)
    rintro σ' H8 ⟨st3, k8⟩
    refine dss_mid (M := fun σ' H' => LikeSt A F n k H2 [some (.ref A), some sv, some (.ref c), some (.int late), some (.ref F), some x, some (.int d)] p l d 4 103 σ' H' ∧ Kb [A, F] H3 H') ?_ ?_
    · obtain ⟨_, ⟨o7, o8, rfl⟩, _⟩ := id st3
      refine ds_ifT (et_eqI (ev_var 6 rfl (.int d)) ev_int) (fun hk H9 s9 => ?_) fun hk H9 s9 => dss_nil ⟨like_skip st3 s9 (by omega) (by omega) (fun _ => by have := of_decide_eq_false hk; omega), k8.trans (Same.kb s9)⟩
      have hk := of_decide_eq_true hk
      obtain ⟨kb8, _, acc, m, hF8, ha8, hw8, ho, t8⟩ := st3
      rcases ho with ⟨h1, h2, _⟩ | ⟨_, _, h3⟩
      · have rx8 := (stb_rp p).kb k8 rx
        refine dss_cons (ds_set 7 nd (do_call G (hr.mono (by decide)) rfl (da_cons (EvV.go (evv_var 0 rfl) fun H10 s10 => da_cons (EvD.go (ev_var 3 rfl (.int late)) fun u11 H11 s11 r11 => da_nil ?_)))))
        refine ⟨A, n + 200 * k + 101, late, by cases r11; rfl, t8.same ((s9.trans s10).trans s11), by omega, by omega, by omega, fun fi H12 f0 f1 k12 t12 => ?_⟩
        have k812 : Kb [A] H8 H12 := (Same.kb ((s9.trans s10).trans s11)).trans k12
        have rx12 := (stb_rp p).kb k812 rx8
        have hF12 : H12 F = some (.lst acc) := k812.1 _ _ (by simpa using tF.symm) hF8
        refine dss_one (ds_appendM 4 rfl hF12 (DoE.of (pe_tup DoA.pa) (da_cons (EvR.go (erv_rel (erv_v 5 rfl (stb_rp p) rx12)) fun v1 H13 s13 r1 => da_cons (EvR.go (erv_rules (erv_v 5 rfl (stb_rp p) ((stb_rp p).same s13 rx12))) fun v2 H14 s14 r2 => da_cons (EvV.go (evv_var 7 rfl) fun H15 s15 => da_cons (do_add (EvD.go (ev_var 7 rfl (.int fi)) fun u16 H16 s16 r16 => ⟨fi, by cases r16; rfl, ?_⟩))))))))
        have s1316 := ((s13.trans s14).trans s15).trans s16
        refine do_call G (hr.mono (by decide)) rfl (da_cons (EvV.go (evv_var 0 rfl) fun H17 s17 => da_cons (EvD.go ev_int fun u18 H18 s18 r18 => da_nil ?_)))
        refine ⟨A, n + 200 * k + 102, 5, by cases r18; rfl, t12.same ((s1316.trans s17).trans s18), by omega, by omega, by omega, fun e H19 e0 e1 k19 t19 => ⟨e, rfl, da_nil ⟨Nat.le_trans (show 4 ≤ 1000 by omega) (by decide), fun b hb => ?_⟩⟩⟩
        have k1219 : Kb [A] H12 H19 := (Same.kb ((s1316.trans s17).trans s18)).trans k19
        have nb := same_new (o := .tup [v1, v2, .int fi, .int (fi + e)]) hb
        have hF19 : H19 F = some (.lst acc) := k1219.1 _ _ (by simpa using tF.symm) hF12
        have rn := rp_new (fi := fi) (rs := p.rules) (la := some (fi + e)) hb ((stb_rr p.rel).kb ((Same.kb ((((s14.trans s15).trans s16).trans s17).trans s18)).trans k19) r1) ((stb_ru p.rules).kb ((Same.kb (((s15.trans s16).trans s17).trans s18)).trans k19) r2) (.int _)
        have k819 := k812.trans k1219
        refine ⟨acc, nb _ _ hF19, by rw [ha8.length]; omega, like_app tF ((kb8.trans (kbA k819)).trans (Same.kb nb)) (nb _ _ hF19) (ha8.imp fun _ a h => (stb_rp a).same nb ((stb_rp a).kb k819 h)) hw8 h1 h2 (by omega) rn rfl ⟨wp.name, wp.ver, wp.rules, wp.own, f0, fun i z => by cases z; show fi ≤ fi + e; omega⟩ (t19.same nb), (((k8.trans (kbA k819)).trans (Same.kb nb)).trans (Kb.upd (nb _ _ hF19) (by simp)))⟩
      · exact absurd hk (by omega)
    rintro σ' H9 ⟨st4, k9⟩
    obtain ⟨_, ⟨o7, o8, rfl⟩, _⟩ := id st4
    have finish : ∀ {i : Int} {c' : Nat} {σ' : L2.St} {H' : Hp}, LikeSt A F n k H2 [some (.ref A), some sv, some (.ref c), some (.int late), some (.ref F), some x, some (.int d)] p l d i c' σ' H' → c' ≤ 199 → (Kb [A, F] H2 H' ∧ (∃ o5 o6 o7 o8, σ' = [some (.ref A), some sv, some (.ref c), some (.int late), some (.ref F), o5, o6, o7, o8, none, none]) ∧ ∃ acc m, H' F = some (.lst acc) ∧ A2 (Rp H') acc m ∧ (∀ p ∈ m, WfP p) ∧ (m.map (·.rel) ++ l.map (·.rel)).Pairwise rLt ∧ ∃ k, k + l.length ≤ 10 ∧ m.length ≤ k ∧ Tin A (n + 200 * k) H') := fun h hc => by
      obtain ⟨kb, ⟨o7, o8, rfl⟩, acc, m, hF, ha, hw, ho, t⟩ := h
      refine ⟨kb, ⟨_, _, o7, o8, rfl⟩, acc, m, hF, ha, hw, ?_, k + 1, by omega, ?_, t.le (by omega)⟩
      · rcases ho with ⟨h1, _, _⟩ | ⟨h1, _, _⟩
        · exact h1.sublist (List.Sublist.append (List.Sublist.refl _) (List.sublist_cons_self _ _))
        · exact h1
      · rcases ho with ⟨_, h2, _⟩ | ⟨_, h2, _⟩ <;> omega
    refine dss_one (ds_ifT (et_w (ew_and (et_gt (ev_var 6 rfl (.int d)) ev_int) fun _ => ew_and1 (et_lt (ev_var 6 rfl (.int d)) ev_int))) (fun hk H10 s10 => ?_) fun hk H10 s10 => dss_nil (finish (like_skip st4 s10 (Int.le_refl _) (Nat.le_refl _) fun h => h) (by omega)))
    rw [Bool.and_eq_true, decide_eq_true_eq, decide_eq_true_eq] at hk
    obtain ⟨kb9, _, acc, m, hF9, ha9, hw9, ho, t9⟩ := st4
    rcases ho with ⟨h1, h2, _⟩ | ⟨_, _, h3⟩
    · have rx10 := (stb_rp p).same s10 ((stb_rp p).kb k9 rx)
      have few7 := rules_few wp.rules
      refine dss_cons (ds_setLcP 8 (α := Str × Lot) (S := [A]) (R := Rul) (g := gTup K 2 (gCons (gName 9) (gCons (gName 10) gNil))) (own := [("_law_name_so", 9), ("_law_lot_so", 10)]) rfl nd (blkOk_by (N := n_law_like) (sc := defScope s_law_like) (by decide +kernel)) (fun s H C cl fp => pg_pair 9 10 rfl nd)
        (EvIR.go (eir_tup (S := [A]) stb_rul (EvR.imp (erv_rules (erv_v 5 rfl (stb_rp p) rx10)) fun H v ⟨c, o, xs, e, hc, hd, ha⟩ => ⟨c, xs, e, .inr ⟨o, hc⟩, A2.ofDl ha⟩)) fun J2 H11 s11 Y2 => ⟨p.rules, Y2, by omega, fun Z hZ => ?_⟩))
      have s911 := s10.trans s11
      have t11 := t9.same s911
      have ZA : A ≠ Z := t11.ne hZ
      refine ⟨fun r acc' H' => Kb [A] H11 H' ∧ H' Z = some (.lst acc') ∧ ∃ dn ms, dn ++ r = p.rules ∧ DlAll H' acc' (ms.map encU) ∧ ms.map (·.1) = dn.map (·.1) ∧ (∀ u ∈ ms, WfL u.2) ∧ Tin A (n + 200 * k + 103 + 12 * dn.length) H', ⟨Same.kb (same_new hZ), upd_same, [], [], rfl, .nil, rfl, fun u hu => (by cases hu), t11.same (same_new hZ)⟩, fun r acc' H' h => ⟨h.1, h.2.1, ?_⟩, ?_, ?_⟩
      · obtain ⟨_, _, dn, ms, e, hd, en, _, _⟩ := h
        have e1 := congrArg List.length e
        have e2 := congrArg List.length en
        rw [List.length_append] at e1
        rw [List.length_map, List.length_map] at e2
        rw [hd.length, List.length_map]
        omega
      · rintro u r acc' v H' H12 hu ⟨kb', hZ', dn, ms, e, hd, en, hw, t⟩ s12x rv
        have rv' : Dl H12 v (.tuple [.str u.1, encL u.2]) := rv
        have wl := wp.rules.lot u hu
        have hfew := wl.few
        have e1 := congrArg List.length e
        rw [List.length_append, List.length_cons] at e1
        cases rv' with
        | tup hTu hdu =>
          obtain ⟨y1, y2, rfl, ry1, ry2⟩ := dl2 hdu
          cases ry1
          have ry2' : Dl H12 y2 (.tuple (u.2.map .int)) := ry2
          cases ry2' with
          | @tup a2 xs2 _ hT2 hd2 =>
            have ex2 := DlAll.ints hd2
            subst ex2
            refine ⟨((wipe [some (.ref A), some sv, some (.ref c), some (.int late), some (.ref F), some x, some (.int d), o7, o8, none, none] [9, 10]).set 9 (some (.str u.1))).set 10 (some (.ref a2)), fun Q' h => ⟨_, _, rfl, .inl hTu, rfl, _, _, rfl, _, _, rfl, rfl, h⟩, rfl, fun s H0 C cl fp => ?_⟩
            refine DoE.of (pe_tup DoA.pa) (da_cons (EvV.go (evv_var 9 rfl) fun H13 s13 => da_cons ?_))
            refine do_callTy call_tuple_of T.b_tuple (by decide +kernel) (da_cons ?_)
            refine do_callB cr_sorted T.b_sorted (by decide +kernel) (da_cons ?_)
            refine do_call G3 (hr.mono (by decide)) rfl (da_cons (EvV.go (evv_var 0 rfl) fun H14 s14 => da_cons ?_))
            refine do_listV T.b_list (EvV.go (evv_var 10 rfl) fun H15 s15 => ⟨a2, u.2.map V.int, rfl, .inr (Same.rd ((s13.trans s14).trans s15) hT2), fun L hL => da_cons ?_⟩)
            refine do_add (EvD.go ev_int fun u16 H16 s16 r16 => ⟨1, by cases r16; rfl, ?_⟩)
            have s1215 := (s13.trans s14).trans s15
            have sL := same_new (o := .lst (u.2.map V.int)) hL
            have s1216 : Same H12 H16 := (s1215.trans sL).trans s16
            have t12 := t.same s12x
            have LA : L ≠ A := ((t12.same s1215).ne hL).symm
            have ry16 : Dl H16 (.ref a2) (.tuple (u.2.map .int)) := (ry2.mono s1216 : _)
            refine do_call G (hr.mono (by decide)) rfl (da_cons (EvV.go (evv_var 0 rfl) fun H17 s17 => da_cons (EvD.go (ev_lenT T.b_len (ev_var 10 rfl (ry16.mono s17))) fun u18 H18 s18 r18 => da_nil ?_)))
            rw [List.length_map] at r18
            have upos : 0 < u.2.length := List.length_pos_iff.mpr wl.ne
            refine ⟨A, n + 200 * k + 103 + 12 * dn.length, _, by cases r18; rfl, t12.same ((s1216.trans s17).trans s18), by omega, by omega, by omega, fun e' H19 e0 e1' k19 t19 => ⟨e', rfl, da_nil ⟨A, n + 200 * k + 103 + 12 * dn.length + 1, L, u.2.map V.int, 1 + e', rfl, t19, by omega, LA, k19.1 _ _ (by simpa using LA) (((s16.trans s17).trans s18) _ _ upd_same), by rw [List.length_map]; omega, by omega, fun B ys' rest H20 k20 hB hys' hp' hlen t20 => da_nil ?_⟩⟩⟩
            obtain ⟨l1, l2, pl, hy⟩ := pick_out (R := fun v x => v = V.int x) (l := u.2) map_a2 hp'
            have ey := a2_map hy
            subst ey
            obtain ⟨nd1, sub1⟩ := sub_nodup pl (nodup_of_asc (R := fun a b : Int => a < b) (fun a h => by omega) wl.asc)
            rw [List.length_map, List.length_map] at hlen
            have pre : Pre l1 := ⟨fun z => by
              rw [z] at hlen
              have : (0 : Nat) = min (1 + e').toNat u.2.length := hlen
              omega, nd1, fun y hy => wl.nn y (sub1 y hy), by omega⟩
            refine ⟨B, l1, rfl, SqL.of hys', by omega, fun ns' q1 pp pw hq1 => da_nil ⟨q1, ns'.map V.int, rfl, .inl ⟨SqL.of upd_same, fun q2 hq2 => da_nil ⟨Nat.le_trans (show 2 ≤ 1000 by omega) (by decide), fun b hb => ?_⟩⟩⟩⟩
            have wln := wfl_of pre pp pw
            have sq1 := same_new (o := .lst (ns'.map V.int)) hq1
            have sq2 := same_new (o := .tup (ns'.map V.int)) hq2
            have sb := same_new (o := .tup [.str u.1, .ref q2]) hb
            have s20 := (sq1.trans sq2).trans sb
            have k1220 : Kb [A] H12 _ := (((Same.kb ((s1216.trans s17).trans s18)).trans k19).trans k20).trans (Same.kb s20)
            have hZ20 := k1220.1 _ _ (by simpa using ZA.symm) (s12x _ _ hZ')
            refine ⟨hZ20, Kb.drop (S := [A]) (S' := [A, Z]) ((((kb'.trans (Same.kb s12x)).trans k1220).sub (by simp)).trans (Kb.upd hZ20 (by simp))) (fun y hy => ?_), upd_same, dn ++ [u], ms ++ [(u.1, ns')], by rw [List.append_assoc]; exact e, ?_, ?_, ?_, ?_⟩
            · simp only [List.mem_cons, List.not_mem_nil, or_false] at hy
              rcases hy with rfl | rfl
              · exact .inl List.mem_cons_self
              · exact .inr hZ
            · rw [List.map_append]
              refine DlAll.push hZ20 (((hd.mono s12x).tk k1220.2.tk (tlvAll_map fun u _ => tlv_encU u))) (tlvAll_map fun u _ => tlv_encU u) (.tup (.inl upd_same) (.cons (.str _) (.cons (Dl.mono sb (.tup (.inl upd_same) dl_ints)) .nil))) (tlv_encU (u.1, ns'))
            · rw [List.map_append, List.map_append, en]
              rfl
            · intro y hy
              rcases List.mem_append.mp hy with hy | hy
              · exact hw y hy
              · have : y = (u.1, ns') := by simpa using hy
                rw [this]
                exact wln
            · rw [List.length_append, List.length_singleton]
              exact ((t20.same s20).kb (S := [Z]) (Kb.upd hZ20 List.mem_cons_self) (by simpa using ZA)).le (by rw [List.length_map]; omega)
      · rintro acc' H12 ⟨kb', hZ', dn, ms, e, hd, en, hw, t⟩
        rw [List.append_nil] at e
        have few7 : dn.length ≤ 7 := by rw [e]; exact few7
        have k912 : Kb [A] H9 H12 := (Same.kb s911).trans kb'
        have rx12 := (stb_rp p).kb k912 ((stb_rp p).kb k9 rx)
        have hF12 : H12 F = some (.lst acc) := k912.1 _ _ (by simpa using tF.symm) hF9
        have mlen := congrArg List.length en
        rw [List.length_map, List.length_map] at mlen
        have dlen : dn.length ≤ 7 := few7
        refine dss_one (ds_appendM 4 rfl hF12 (DoE.of (pe_tup DoA.pa) (da_cons (EvR.go (erv_rel (erv_v 5 rfl (stb_rp p) rx12)) fun v1 H13 s13 r1 => da_cons ?_))))
        refine do_tupF (G := fun H xs => DlAll H xs (ms.map encU)) T.b_tuple (EvR.imp (EvD.r (ev_var 8 rfl (.lst (s13 _ _ hZ') (hd.mono s13)))) fun H v r => by
          cases r with
          | lst ha hd => exact ⟨_, _, rfl, ha, hd⟩) (fun H H' xs s h => h.mono s) fun pt ot xst H14 s14 hot hpt hxt => da_cons ?_
        have rx14 := (stb_rp p).same (s13.trans s14) rx12
        refine do_add (EvD.go (ev_first (erv_v 5 rfl (stb_rp p) rx14)) fun u15 H15 s15 r15 => ⟨p.first, by cases r15; rfl, ?_⟩)
        refine do_call G (hr.mono (by decide)) rfl (da_cons (EvV.go (evv_var 0 rfl) fun H16 s16 => da_cons (EvD.go ev_int fun u17 H17 s17 r17 => da_nil ?_)))
        have s1317 := (((s13.trans s14).trans s15).trans s16).trans s17
        refine ⟨A, n + 200 * k + 103 + 12 * dn.length, 2, by cases r17; rfl, t.same s1317, by omega, by omega, by omega, fun e' H18 e0 e1 k18 t18 => ⟨e', rfl, da_cons ?_⟩⟩
        have k1218 : Kb [A] H12 H18 := (Same.kb s1317).trans k18
        have rx18 := (stb_rp p).kb k1218 rx12
        refine EvD.go (d := encO (p.last.map (· + 1))) (ev_if (EvT.is (et_isN (ev_last (erv_v 5 rfl (stb_rp p) rx18))) (isNone_O _)) (fun hk => ?_) fun hk => ?_) fun v4 H19 s19 r4 => da_nil ⟨Nat.le_trans (show 4 ≤ 1000 by omega) (by decide), fun b hb => ?_⟩
        · cases hl : p.last with
          | none => exact ev_non
          | some i => rw [hl] at hk; cases hk
        · cases hl : p.last with
          | none => rw [hl] at hk; cases hk
          | some i => exact ev_add (EvD.is (ev_last (erv_v 5 rfl (stb_rp p) rx18)) (show encO p.last = .int i by rw [hl]; rfl)) ev_int
        have k1219 : Kb [A] H12 H19 := k1218.trans (Same.kb s19)
        have k919 := k912.trans k1219
        have nb := same_new (o := .tup [v1, .ref pt, .int (p.first + e'), v4]) hb
        have hF19 : H19 F = some (.lst acc) := k1219.1 _ _ (by simpa using tF.symm) hF12
        have k1419 : Kb [A] H14 H19 := ((Same.kb ((s15.trans s16).trans s17)).trans k18).trans (Same.kb s19)
        have k1319 : Kb [A] H13 H19 := (Same.kb s14).trans k1419
        have ru19 : Ru H19 (.ref pt) ms := (stb_ru ms).kb k1419 ⟨pt, ot, xst, rfl, hpt, hot, hxt⟩
        have rn := rp_new (fi := p.first + e') (rs := ms) (la := p.last.map (· + 1)) hb ((stb_rr p.rel).kb k1319 r1) ru19 r4
        have hno : ∀ u ∈ ms, u.1 ∈ dn.map (·.1) := fun u hu => by
          rw [← en]
          exact List.mem_map_of_mem hu
        have wms : WfRs ms := ⟨by rw [en, e]; exact wp.rules.asc, fun u hu => by
          obtain ⟨u', hu', eu⟩ := List.mem_map.mp (hno u hu)
          rw [← eu]
          exact wp.rules.name u' (e ▸ hu'), hw⟩
        have wown : lotIn ms p.rel.1 = none := lot_none fun u hu eu => by
          have := hno u hu
          rw [eu, e] at this
          exact lotIn_none wp.own this
        have f0 := wp.first
        refine ⟨acc, nb _ _ hF19, by rw [ha9.length]; omega, finish (like_app (i := 6) (c := 190) tF ((kb9.trans (kbA k919)).trans (Same.kb nb)) (nb _ _ hF19) (ha9.imp fun _ a h => (stb_rp a).same nb ((stb_rp a).kb k919 h)) hw9 h1 h2 hk.2 rn rfl ⟨wp.name, wp.ver, wms, wown, by show 0 ≤ p.first + e'; omega, fun i z => ?_⟩ ((t18.same (s19.trans nb)).le (by omega))) (by omega)⟩
        obtain ⟨j, hj, ej⟩ := Option.map_eq_some_iff.mp z
        have := wp.last j hj
        show p.first + e' ≤ i
        omega
    · exact absurd hk.1 (by omega)
  · rintro σ' H' ⟨kb, ⟨o5, o6, o7, o8, rfl⟩, acc, m, hF', hda, hwf, hasc, k, hk, hmk, tk⟩
    rw [List.map_nil, List.append_nil] at hasc
    refine dss_one (ds_ret (do_tupF (G := fun H xs => A2 (Rp H) xs m) T.b_tuple (erv_var (R := fun H v => ∃ c xs, v = .ref c ∧ H c = some (.lst xs) ∧ A2 (Rp H) xs m) 4 rfl fun H3 s4 => ⟨F, acc, rfl, s4 _ _ hF', hda.imp fun _ a h => (stb_rp a).same s4 h⟩) (fun H H' xs s h => h.imp fun _ a h => (stb_rp a).same s h) fun p o xs H4 s5 ho hp hx => ?_))
    refine q _ m H4 (Kb.drop (((Same.kb s12).trans kb).trans (Same.kb s5)) fun x hx => ?_) ⟨p, xs, rfl, .inr ⟨o, hp⟩, hx⟩ ⟨hasc, hwf, by omega⟩ ((tk.same s5).le (by omega))
    simp only [List.mem_cons, List.not_mem_nil, or_false] at hx
    rcases hx with rfl | rfl
    · exact .inl List.mem_cons_self
    · exact .inr hF
end
end Lk
namespace Lk
open PySem PySem.Spec PyProof.Rows L2
section
variable {X : Cx} {a b c e : Expr} {es : List Expr} {σ : L2.St} {H : Hp} {pos p : Pos} {one two s : List Part} {day : Int} {k : List Rel} {lv n : Nat} {d : PyData}
theorem ev_inside (G : Good X.prog X.w X.K X.mg X.base lv "_law_inside" ["_law_one_so", "_law_two_so"] sp_inside) (hr : Room lv X.A) (ha : EvR X a σ H fun H v => Rs H v one) (hb : EvR X b σ H fun H v => Rs H v two) (w1 : WfS one) (w2 : WfS two) (hg : Gl X "_law_inside" := by rfl)
    (h1 : starEach [a, b] X.env = (false, eval a X.env) :: starEach [b] X.env := by rfl) (h2 : starEach [b] X.env = (false, eval b X.env) :: starEach [] X.env := by rfl) (hpl : (backTo pos (starEach [b] X.env)).any (·.1) = false := by rfl) : EvD X (.Call (.Name "_law_inside" p) [a, b] [] pos) σ H (.bool (isWithin one two)) := fun H1 s1 Q q =>
  do_call G hr hg (da_cons (ha H1 s1 _ fun u H2 s2 ru => da_cons (hb H2 (s1.trans s2) _ fun v H3 s3 rv => da_nil ⟨u, v, one, two, rfl, (stb_rs one).same s3 ru, rv, w1, w2, fun H4 s4 => q _ H4 ((s2.trans s3).trans s4) (.bl _)⟩) h2) h1) (by decide) h1 hpl
theorem ev_stands (G : Good X.prog X.w X.K X.mg X.base lv "_law_stands" ["_law_shelf_so", "_law_day_so", "_law_lock_so"] sp_stands) (hr : Room lv X.A) (ha : EvR X a σ H fun H v => Rs H v s) (hb : EvD X b σ H (.int day)) (hc : EvR X c σ H fun H v => Rk H v k) (w : WfS s) (hk : k.length ≤ 1000) (hg : Gl X "_law_stands" := by rfl)
    (h1 : starEach [a, b, c] X.env = (false, eval a X.env) :: starEach [b, c] X.env := by rfl) (h2 : starEach [b, c] X.env = (false, eval b X.env) :: starEach [c] X.env := by rfl) (h3 : starEach [c] X.env = (false, eval c X.env) :: starEach [] X.env := by rfl) (hpl : (backTo pos (starEach [b, c] X.env)).any (·.1) = false := by rfl) : EvD X (.Call (.Name "_law_stands" p) [a, b, c] [] pos) σ H (.bool (standsP s day k)) := fun H1 s1 Q q =>
  do_call G hr hg (da_cons (ha H1 s1 _ fun u H2 s2 ru => da_cons (hb H2 (s1.trans s2) _ fun v H3 s3 rv => da_cons (hc H3 ((s1.trans s2).trans s3) _ fun z H4 s4 rz => da_nil ⟨u, z, day, s, k, by cases rv; rfl, (stb_rs s).same (s3.trans s4) ru, rz, w, hk, fun H5 s5 => q _ H5 (((s2.trans s3).trans s4).trans s5) (.bl _)⟩) h3) h2) h1) (by decide) h1 hpl
theorem ev_lists (G : Good X.prog X.w X.K X.mg X.base lv "_law_lists" ["_law_matter"] (sp_lists n)) (hr : Room lv X.A) (ha : EvD X a σ H d) (hd : okD n d) (hg : Gl X "_law_lists" := by rfl)
    (h1 : starEach [a] X.env = (false, eval a X.env) :: starEach [] X.env := by rfl) (hpl : (backTo pos (starEach [] X.env)).any (·.1) = false := by rfl) : EvD X (.Call (.Name "_law_lists" p) [a] [] pos) σ H (listD d) := fun H1 s1 Q q =>
  do_call G hr hg (da_cons (ha H1 s1 _ fun u H2 s2 ru => da_nil ⟨d, .one ru, hd, fun v H3 s3 rv => q v H3 (s2.trans s3) (rv.mono rst_same)⟩) h1) (by decide) h1 hpl
end
theorem t_enc {s : List Part} : tupD (encS s) = encS s := tupD_id (tlv_encS s)
theorem t_lst {s : List Part} : tupD (listD (encS s)) = encS s := by rw [tupD_listD, t_enc]
def sp_right : Sp := fun vs H Q _ => ∃ T, vs = [.ref T] ∧ Tin T 0 H ∧ ∀ H', Q (.bl true) H'
section
variable {P : Program} {w : World} {K : PySem.W.Frag} {mg : Str → Option Value} {base : Heap}
theorem ok_right (T : Tops K mg) : Good P w K mg base 9 "_law_right" ["_law_tin"] sp_right := by
  have G0 := ok_take (P := P) (w := w) (base := base) T
  have Gn := ok_names (P := P) (w := w) (base := base) T
  have Gg := ok_goods (P := P) (w := w) (base := base) T
  have Gs := ok_sshelf (P := P) (w := w) (base := base) T
  have Gk := ok_like (P := P) (w := w) (base := base) T
  have Go := ok_of (P := P) (w := w) (base := base) T
  have Gh := ok_shops (P := P) (w := w) (base := base) T
  have Gp := ok_pick (P := P) (w := w) (base := base) T
  have Gm := ok_met (P := P) (w := w) (base := base) T
  have Gi := ok_inside (P := P) (w := w) (base := base) T
  have Gt := ok_stands (P := P) (w := w) (base := base) T
  have Gl' := ok_locks (P := P) (w := w) (base := base) T
  have M1 := ok_meet_of (P := P) (w := w) (base := base) T
  have M2 := ok_is_shelf (P := P) (w := w) (base := base) T
  have M3 := ok_is_within (P := P) (w := w) (base := base) T
  have M4 := ok_same (P := P) (w := w) (base := base) T 6
  have M5 := ok_lists (P := P) (w := w) (base := base) T 5
  refine good_of T.d_law_right sc_law_right (fun vs H Q E h => by obtain ⟨T, rfl, _⟩ := h; rfl) fun f cdv Ar outer s0 H vs Q E hr h => ?_
  obtain ⟨A, rfl, ht, q⟩ := h
  have nd := sc_law_right.nd
  -- the goods
  refine dss_cons (ds_set 1 nd (do_call Gg (hr.mono (by decide)) rfl (da_cons (EvV.go (evv_var 0 rfl) fun H1 s1 => da_cons (do_call Gn (hr.mono (by decide)) rfl (da_cons (EvV.go (evv_var 0 rfl) fun H2 s2 => da_cons (EvD.go ev_int fun u3 H3 s3 r3 => da_nil ?_))))))))
  have t3 := ht.same ((s1.trans s2).trans s3)
  refine ⟨A, 0, by cases r3; rfl, t3, by omega, fun N xs H4 k4 hN hxs xnd xok xlen t4 => da_cons (EvD.go ev_int fun u5 H5 s5 r5 => da_nil ?_)⟩
  have NA : N ≠ A := (t3.ne hN).symm
  refine ⟨A, 10, N, xs, by cases r5; rfl, t4.same s5, by omega, NA, s5 _ _ hxs, xnd, xok, xlen, fun C ys gs H6 k6 hC hys6 ha6 gasc gok glen t6 => ?_⟩
  have CA : C ≠ A := ((t4.same s5).ne hC).symm
  have gd : Goods gs := ⟨gasc, gok, glen⟩
  -- late
  refine dss_cons (ds_set 2 nd (do_add (EvD.go ev_int fun u7 H7 s7 r7 => ⟨2, by cases r7; rfl, do_call G0 (hr.mono (by decide)) rfl (da_cons (EvV.go (evv_var 0 rfl) fun H8 s8 => da_cons (EvD.go ev_int fun u9 H9 s9 r9 => da_nil ?_)))⟩)))
  refine ⟨A, 40, 4, by cases r9; rfl, (t6.le (by omega)).same ((s7.trans s8).trans s9), by omega, by omega, by omega, fun dl H10 dl0 dl1 k10 t10 => ⟨dl, rfl, ?_⟩⟩
  have k610 : Kb [A] H6 H10 := (Same.kb ((s7.trans s8).trans s9)).trans k10
  have Cn : C ∉ [A] := by simpa using CA
  have goods : ∀ {H' : Hp}, Kb [A] H10 H' → H' C = some (.lst ys) ∧ A2 (Rr H') ys gs := fun k => ⟨(k610.trans k).1 _ _ Cn hys6, ha6.imp fun _ a h => (stb_rr a).kb (k610.trans k) h⟩
  generalize hlate : 2 + dl = late
  have late1 : 1 ≤ late := by omega
  have late2 : late ≤ 6 := by omega
  -- one
  refine dss_cons (ds_set 3 nd (do_call Gs (hr.mono (by decide)) rfl (da_cons (EvV.go (evv_var 0 rfl) fun H11 s11 => da_cons (EvV.go (evv_var 1 rfl) fun H12 s12 => da_cons (do_call Go (hr.mono (by decide)) rfl (da_cons (EvV.go (evv_var 0 rfl) fun H13 s13 => da_cons (do_call0 Gh (hr.mono (by decide)) rfl ⟨rfl, fun S H14 s14 hS hS14 => da_nil ?_⟩)))))))))
  have s1014 := ((s11.trans s12).trans s13).trans s14
  have t14 := t10.same s1014
  have SA : S ≠ A := ((t10.same ((s11.trans s12).trans s13)).ne hS).symm
  refine ⟨A, 41, S, _, rfl, t14, by omega, SA, hS14, by decide, by decide, fun sh H15 hsh k15 t15 => ?_⟩
  obtain ⟨shop, rfl⟩ : ∃ x : Str, sh = .str x := by
    simp only [List.mem_cons, List.not_mem_nil, or_false] at hsh
    rcases hsh with rfl | rfl | rfl <;> exact ⟨_, rfl⟩
  have k1015 : Kb [A] H10 H15 := (Same.kb s1014).trans k15
  refine da_cons (EvV.go (evv_var 2 rfl) fun H16 s16 => da_nil ?_)
  have k1016 := k1015.trans (Same.kb s16)
  refine ⟨A, 42, C, shop, late, ys, gs, rfl, t15.same s16, by omega, CA, (goods k1016).1, (goods k1016).2, gd, late1, by omega, fun v1 one H17 k17 r17 w1 t17 => ?_⟩
  have k1017 := k1016.trans k17
  -- two
  refine dss_cons (ds_set 4 nd (do_call Gk (hr.mono (by decide)) rfl (da_cons (EvV.go (evv_var 0 rfl) fun H18 s18 => da_cons (EvV.go (evv_var 3 rfl) fun H19 s19 => da_cons (EvV.go (evv_var 1 rfl) fun H20 s20 => da_cons (EvV.go (evv_var 2 rfl) fun H21 s21 => da_nil ?_)))))))
  have s1721 := ((s18.trans s19).trans s20).trans s21
  have k1021 := k1017.trans (Same.kb s1721)
  refine ⟨A, 1042, v1, C, late, one, ys, gs, rfl, t17.same s1721, by omega, (stb_rs one).same s1721 r17, w1, CA, (goods k1021).1, (goods k1021).2, gd, late1, by omega, fun v2 two H22 k22 r22 w2 t22 => ?_⟩
  have k1022 := k1021.trans k22
  have r17' : Rs H22 v1 one := (stb_rs one).kb ((Same.kb s1721).trans k22) r17
  -- perhaps the other way round
  refine dss_mid (M := fun σ' H' => Kb [A] H10 H' ∧ Tin A 3100 H' ∧ ∃ v1 v2 one two, Rs H' v1 one ∧ Rs H' v2 two ∧ WfS one ∧ WfS two ∧ σ' = [some (.ref A), some (.ref C), some (.int late), some v1, some v2, none, none, none, none, none, none, none, none, none, none]) (ds_if (dt_eqI ?_)) ?_
  · refine do_call G0 (hr.mono (by decide)) rfl (da_cons (EvV.go (evv_var 0 rfl) fun H23 s23 => da_cons (EvD.go ev_int fun u24 H24 s24 r24 => da_nil ?_)))
    refine ⟨A, 3042, 2, by cases r24; rfl, t22.same (s23.trans s24), by omega, by omega, by omega, fun g H25 g0 g1 k25 t25 => ⟨g, rfl, EvD.go ev_int fun u26 H26 s26 r26 => ⟨0, by cases r26; rfl, ?_⟩⟩⟩
    have k2226 : Kb [A] H22 H26 := ((Same.kb (s23.trans s24)).trans k25).trans (Same.kb s26)
    have ra := (stb_rs one).kb k2226 r17'
    have rb := (stb_rs two).kb k2226 r22
    cases decide (g = 0) with
    | true => exact iteT (dss_one (ds_par 3 4 rfl nd (da_cons (EvV.go (evv_var 4 rfl) fun H27 s27 => da_cons (EvV.go (evv_var 3 rfl) fun H28 s28 => da_nil ⟨v2, v1, rfl, k1022.trans (k2226.trans (Same.kb (s27.trans s28))), (t25.same (s26.trans (s27.trans s28))).le (by omega), v2, v1, two, one, (stb_rs _).same (s27.trans s28) rb, (stb_rs _).same (s27.trans s28) ra, w2, w1, rfl⟩)))))
    | false => exact iteF (dss_nil ⟨k1022.trans k2226, (t25.same s26).le (by omega), v1, v2, one, two, ra, rb, w1, w2, rfl⟩)
  clear r17 r17' r22 w1 w2
  rintro σ' H30 ⟨k30, t30, v1, v2, one, two, r1, r2, w1, w2, rfl⟩
  -- both
  refine dss_cons (ds_set 5 nd (do_call Gm (hr.mono (by decide)) rfl (da_cons (EvV.go (evv_var 3 rfl) fun H31 s31 => da_cons (EvV.go (evv_var 4 rfl) fun H32 s32 => da_nil ⟨v1, v2, one, two, rfl, (stb_rs _).same (s31.trans s32) r1, (stb_rs _).same (s31.trans s32) r2, w1, w2, fun v3 H33 s33 r3 => ?_⟩)))))
  have wm := wf_meet w1 w2
  have s3033 := (s31.trans s32).trans s33
  have r1 := (stb_rs _).same s3033 r1
  have r2 := (stb_rs _).same s3033 r2
  have wm1 := meet_within w1 (two := two)
  have wm2 := meet_within2 w1 w2
  have wr := within_refl w1
  have mc := meet_comm w1 w2
  refine dss_cons (ds_set 6 nd (EvD.go (ev_lstN (eva_cons (ev_call M1 (hr.mono (by decide)) (eva2 (EvR.toD (erv_v 3 rfl (stb_rs _) r1) fun _ _ h => Rs.dl h) (EvR.toD (erv_v 4 rfl (stb_rs _) r2) fun _ _ h => Rs.dl h)) ⟨_, _, one, two, rfl, okD_encS w1, okD_encS w2, t_enc, t_enc, w1, w2, rfl⟩) (eva_cons (ev_call M1 (hr.mono (by decide)) (eva2 (EvR.toD (erv_v 4 rfl (stb_rs _) r2) fun _ _ h => Rs.dl h) (EvR.toD (erv_v 3 rfl (stb_rs _) r1) fun _ _ h => Rs.dl h)) ⟨_, _, two, one, rfl, okD_encS w2, okD_encS w1, t_enc, t_enc, w2, w1, rfl⟩)
    (eva2 (ev_call M1 (hr.mono (by decide)) (eva2 (ev_lists M5 (hr.mono (by decide)) (EvR.toD (erv_v 3 rfl (stb_rs _) r1) fun _ _ h => Rs.dl h) (okD_encS w1)) (ev_lists M5 (hr.mono (by decide)) (EvR.toD (erv_v 4 rfl (stb_rs _) r2) fun _ _ h => Rs.dl h) (okD_encS w2))) ⟨_, _, one, two, rfl, okD_listD (okD_encS w1), okD_listD (okD_encS w2), t_lst, t_lst, w1, w2, rfl⟩) (ev_call M2 (hr.mono (by decide)) (eva1 (EvR.toD (erv_v 5 rfl (stb_rs _) r3) fun _ _ h => Rs.dl h)) ⟨_, rfl, wm, rfl⟩))))) fun v4 H34 s34 r4 => ?_))
  have r1 := (stb_rs _).same s34 r1
  have r2 := (stb_rs _).same s34 r2
  have r3 := (stb_rs _).same s34 r3
  refine dss_cons (ds_set 6 nd (EvD.go (ev_catL (ev_var 6 rfl r4) (ev_lstN (eva_cons (ev_call M3 (hr.mono (by decide)) (eva2 (EvR.toD (erv_v 3 rfl (stb_rs _) r1) fun _ _ h => Rs.dl h) (EvR.toD (erv_v 4 rfl (stb_rs _) r2) fun _ _ h => Rs.dl h)) ⟨_, _, one, two, rfl, okD_encS w1, okD_encS w2, t_enc, t_enc, w1, w2, rfl⟩) (eva_cons (ev_call M3 (hr.mono (by decide)) (eva2 (ev_lists M5 (hr.mono (by decide)) (EvR.toD (erv_v 4 rfl (stb_rs _) r2) fun _ _ h => Rs.dl h) (okD_encS w2)) (EvR.toD (erv_v 3 rfl (stb_rs _) r1) fun _ _ h => Rs.dl h)) ⟨_, _, two, one, rfl, okD_listD (okD_encS w2), okD_encS w1, t_lst, t_enc, w2, w1, rfl⟩)
    (eva_cons (ev_call M3 (hr.mono (by decide)) (eva2 (EvR.toD (erv_v 5 rfl (stb_rs _) r3) fun _ _ h => Rs.dl h) (EvR.toD (erv_v 3 rfl (stb_rs _) r1) fun _ _ h => Rs.dl h)) ⟨_, _, _, one, rfl, okD_encS wm, okD_encS w1, t_enc, t_enc, wm, w1, rfl⟩) (eva2 (ev_call M3 (hr.mono (by decide)) (eva2 (EvR.toD (erv_v 5 rfl (stb_rs _) r3) fun _ _ h => Rs.dl h) (ev_lists M5 (hr.mono (by decide)) (EvR.toD (erv_v 4 rfl (stb_rs _) r2) fun _ _ h => Rs.dl h) (okD_encS w2))) ⟨_, _, _, two, rfl, okD_encS wm, okD_listD (okD_encS w2), t_enc, t_lst, wm, w2, rfl⟩) (ev_call M3 (hr.mono (by decide)) (eva2 (EvR.toD (erv_v 3 rfl (stb_rs _) r1) fun _ _ h => Rs.dl h) (EvR.toD (erv_v 3 rfl (stb_rs _) r1) fun _ _ h => Rs.dl h)) ⟨_, _, one, one, rfl, okD_encS w1, okD_encS w1, t_enc, t_enc, w1, w1, rfl⟩)))))) (by simp)) fun v5 H35 s35 r5 => ?_))
  rw [wm1, wm2, wr, mc] at r5
  have r1 := (stb_rs _).same s35 r1
  have r2 := (stb_rs _).same s35 r2
  have r3 := (stb_rs _).same s35 r3
  refine dss_cons (ds_set 7 nd (EvD.go (ev_lstN (eva_cons (EvR.toD (erv_v 5 rfl (stb_rs _) r3) fun _ _ h => Rs.dl h) (eva_cons (EvR.toD (erv_v 5 rfl (stb_rs _) r3) fun _ _ h => Rs.dl h) (eva_cons (EvR.toD (erv_v 5 rfl (stb_rs _) r3) fun _ _ h => Rs.dl h) (eva_cons ev_bl (eva_cons (ev_inside Gi (hr.mono (by decide)) (erv_v 3 rfl (stb_rs _) r1) (erv_v 4 rfl (stb_rs _) r2) w1 w2) (eva_cons (ev_inside Gi (hr.mono (by decide)) (erv_v 4 rfl (stb_rs _) r2) (erv_v 3 rfl (stb_rs _) r1) w2 w1) (eva_cons ev_bl (eva2 ev_bl ev_bl))))))))) fun v6 H36 s36 r6 => ?_))
  have bD : ∀ k : Bool, okD 5 (.bool k) := fun k => by simp [okD]
  refine dss_cons (ds_ifT (k := false) (EvT.is (et_not (et_val (ev_call M4 (hr.mono (by decide)) (eva2 (ev_var 6 rfl (r5.mono s36)) (ev_var 7 rfl r6)) ⟨_, rfl, ⟨by show 9 ≤ 1000; omega, fun x hx => ?_⟩, rfl⟩))) rfl) (fun z => nomatch z) fun _ H37 s37 => dss_nil ?_)
  · have hx : x ∈ [encS (meetOf one two), encS (meetOf one two), encS (meetOf one two), .bool true, .bool (isWithin one two), .bool (isWithin two one), .bool true, .bool true, .bool true] := hx
    simp only [List.mem_cons, List.not_mem_nil, or_false] at hx
    rcases hx with rfl | rfl | rfl | rfl | rfl | rfl | rfl | rfl | rfl <;> first | exact okD_encS wm | exact bD _
  have s3037 := (((s3033.trans s34).trans s35).trans s36).trans s37
  have r1 := (stb_rs _).same (s36.trans s37) r1
  have r2 := (stb_rs _).same (s36.trans s37) r2
  have r3 := (stb_rs _).same (s36.trans s37) r3
  have r6 := r6.mono s37
  have k1037 : Kb [A] H10 H37 := k30.trans (Same.kb s3037)
  have t37 := t30.same s3037
  have d6 : ∀ {H' : Hp}, Kb [A] H37 H' → Dl H' v6 (.list [encS (meetOf one two), encS (meetOf one two), encS (meetOf one two), .bool true, .bool (isWithin one two), .bool (isWithin two one), .bool true, .bool true, .bool true]) := fun k => by
    cases r6 with
    | @lst c6 xs6 _ h6 d6 =>
      have n6 : c6 ≠ A := fun z => by
        obtain ⟨a, b, e, h, _⟩ := t37
        rw [← z, h6] at h
        have := HO.lst.inj (Option.some.inj h)
        have l6 := d6.length
        rw [this] at l6
        cases l6
      exact .lst (k.1 _ _ (by simpa using n6) h6) (d6.tk k.2.tk (by simp [tlvAll, tlv, tlv_encS]))
  refine dss_mid (M := fun σ' H' => Kb [A] H10 H' ∧ Tin A 3200 H' ∧ Rs H' v1 one ∧ Rs H' v2 two ∧ Rs H' v3 (meetOf one two) ∧ ∃ o8 o9 o10 o11, σ' = [some (.ref A), some (.ref C), some (.int late), some v1, some v2, some v3, some v5, some v6, o8, o9, o10, o11, none, none, none]) (ds_forR .never rfl (pg_name nd (i := 8) rfl (by first | exact .inl rfl | exact .inr rfl)) (di_lst ?_)) ?_
  · refine do_call Gp (hr.mono (by decide)) rfl (da_cons (EvV.go (evv_var 0 rfl) fun H38 s38 => da_cons ?_))
    refine DoE.of (pe_listRg rfl rfl T.b_list (prg_1 rfl T.b_range DoE.pe)) (EvD.go (ev_add (ev_var 2 rfl (.int late)) ev_int) fun u39 H39 s39 r39 => ?_)
    cases r39
    refine ⟨late + 4, rfl, RgOk.of_le (by omega) (by omega) (by omega) (by omega), fun L hL => da_cons (EvD.go ev_int fun u40 H40 s40 r40 => da_nil ?_)⟩
    have sL := same_new (o := .lst (rgV 0 (late + 4))) hL
    have s3740 := ((s38.trans s39).trans sL).trans s40
    have LA : L ≠ A := ((t37.same (s38.trans s39)).ne hL).symm
    have rgl : (rgV 0 (late + 4)).length ≤ 10 := by rw [rgV_length]; omega
    refine ⟨A, 3100, L, rgV 0 (late + 4), 4, by cases r40; rfl, t37.same s3740, by omega, LA, s40 _ _ upd_same, by omega, by omega, fun B dys rest H41 k41 hB hdys hp hlen t41 => ⟨B, dys, rfl, hdys, ?_⟩⟩
    have k3741 : Kb [A] H37 H41 := (Same.kb s3740).trans k41
    have hr0 : rgV 0 (late + 4) = ((List.range (late + 4 - 0).toNat).map fun i => ((0 : Int) + (i : Nat))).map V.int := by
      unfold rgV
      rw [List.map_map]
      rfl
    rw [hr0] at hp
    obtain ⟨l1, l2, pl, hy⟩ := pick_out (R := fun v x => v = V.int x) map_a2 hp
    refine walkedR [] (fun _ v (x : Int) => v = V.int x) l1 (fun l σ' H' => Kb [] H41 H' ∧ ∃ o8 o9 o10 o11, σ' = [some (.ref A), some (.ref C), some (.int late), some v1, some v2, some v3, some v5, some v6, o8, o9, o10, o11, none, none, none]) (yr_lst (fun a _ _ _ _ h => h) List.not_mem_nil hdys hy) ⟨Kb.refl, none, none, none, none, rfl⟩ (fun r σ' H' h => h.1) ?_ ?_
    · rintro day l x σ' H42 H43 hday ⟨kb42, o8, o9, o10, o11, rfl⟩ s43 rx
      cases (rx : x = .int day)
      have k43 : Kb [A] H37 H43 := k3741.trans (Same.kb ((kb0 kb42).trans s43))
      have gg := goods (k1037.trans k43)
      refine dss_one (ds_forR .never rfl (pg_name nd (i := 9) rfl (by first | exact .inl rfl | exact .inr rfl)) (di_lst ?_))
      refine do_call Gl' (hr.mono (by decide)) rfl (da_cons (EvV.go (evv_var 1 rfl) fun H44 s44 => da_nil ?_))
      refine ⟨.ref C, gs, rfl, ⟨C, ys, rfl, List.not_mem_nil, s44 _ _ gg.1, gg.2.imp fun _ a h => (stb_rr a).same s44 h⟩, glen, fun Lk' lys ks H45 s45 hLn hlys hks hklen hkn => ⟨Lk', lys, rfl, hlys, ?_⟩⟩
      have k45 : Kb [A] H37 H45 := k43.trans (Same.kb (s44.trans s45))
      refine walkedR [] Rk ks (fun l σ' H' => Kb [] H45 H' ∧ ∃ o9 o10 o11, σ' = [some (.ref A), some (.ref C), some (.int late), some v1, some v2, some v3, some v5, some v6, some (.int day), o9, o10, o11, none, none, none]) (yr_lst stb_rk List.not_mem_nil hlys hks) ⟨Kb.refl, _, _, _, rfl⟩ (fun r σ' H' h => h.1) ?_ ?_
      · rintro lk l' x' σ' H46 H47 hlk ⟨kb46, o9, o10, o11, rfl⟩ s47 rlk
        have k47 : Kb [A] H37 H47 := k45.trans (Same.kb ((kb0 kb46).trans s47))
        have r1 := (stb_rs _).kb k47 r1
        have r2 := (stb_rs _).kb k47 r2
        have r3 := (stb_rs _).kb k47 r3
        have r6 := d6 k47
        have hl := hklen lk hlk
        refine dss_cons (ds_par2 10 11 rfl nd (ev_stands Gt (hr.mono (by decide)) (erv_v 3 rfl (stb_rs _) r1) (ev_var 8 rfl (.int day)) (erv_v 9 rfl (stb_rk _) rlk) w1 hl) (ev_stands Gt (hr.mono (by decide)) (erv_v 4 rfl (stb_rs _) r2) (ev_var 8 rfl (.int day)) (erv_v 9 rfl (stb_rk _) rlk) w2 hl) fun b1 b2 H48 s48 rb1 rb2 => ?_)
        refine dss_cons (ds_ifT (k := false) (EvT.is (et_neB (ev_and2 (ev_var 10 rfl rb1) fun _ => ev_one (ev_var 11 rfl rb2)) (ev_stands Gt (hr.mono (by decide)) (erv_v 5 rfl (stb_rs _) ((stb_rs _).same s48 r3)) (ev_var 8 rfl (.int day)) (erv_v 9 rfl (stb_rk _) ((stb_rk _).same s48 rlk)) wm hl)) (by rw [stands_meet w1 w2]; simp)) (fun z => nomatch z) fun _ H49 s49 => dss_nil ?_)
        have r6 := r6.mono (s48.trans s49)
        have rb1 := rb1.mono s49
        have rb2 := rb2.mono s49
        refine dss_one (ds_ifT (k := false) (EvT.is (et_w (ew_or (et_w (ew_and (et_val (ev_ixL (ev_var 7 rfl r6) ev_int (atI_nat (j := 4) rfl))) fun _ => ew_and (et_val (ev_var 10 rfl rb1)) fun _ => ew_and1 (et_not (et_val (ev_var 11 rfl rb2))))) fun _ => ew_or1 (et_w (ew_and (et_val (ev_ixL (ev_var 7 rfl r6) ev_int (atI_nat (j := 5) rfl))) fun _ => ew_and (et_val (ev_var 11 rfl rb2)) fun _ => ew_and1 (et_not (et_val (ev_var 10 rfl rb1))))))) ?_) (fun z => nomatch z) fun _ H50 s50 => dss_nil ⟨kb46.trans (Same.kb (((s47.trans s48).trans s49).trans s50)), _, _, _, rfl⟩)
        have f1 : isWithin one two = true → standsP one day lk = true → standsP two day lk = true := fun h h' => within_stands h h'
        have f2 : isWithin two one = true → standsP two day lk = true → standsP one day lk = true := fun h h' => within_stands h h'
        cases hA : isWithin one two <;> cases hB : isWithin two one <;> cases hP : standsP one day lk <;> cases hQ : standsP two day lk <;> first | rfl | (have := f1 hA hP; rw [hQ] at this; cases this) | (have := f2 hB hQ; rw [hP] at this; cases this)
      · rintro σ' H46 ⟨kb46, o9, o10, o11, rfl⟩
        exact ⟨kb42.trans (Same.kb (((s43.trans s44).trans s45).trans (kb0 kb46))), _, _, _, _, rfl⟩
    · rintro σ' H42 ⟨kb42, o8, o9, o10, o11, rfl⟩
      have k42 : Kb [A] H37 H42 := k3741.trans (Same.kb (kb0 kb42))
      exact ⟨k1037.trans k42, (t41.same (kb0 kb42)).le (by omega), (stb_rs _).kb k42 r1, (stb_rs _).kb k42 r2, (stb_rs _).kb k42 r3, _, _, _, _, rfl⟩
  rintro σ' H51 ⟨k51, t51, r1, r2, r3, o8, o9, o10, o11, rfl⟩
  refine dss_mid (M := fun σ' H' => True) (ds_forR .never rfl (pg_name nd (i := 12) rfl (by first | exact .inl rfl | exact .inr rfl)) (DoI.of (pi_range1 rfl T.b_range DoA.pa) (da_cons (EvD.go ev_int fun u52 H52 s52 r52 => da_nil ?_)))) fun σ' H' _ => dss_one (ds_retD ev_bl fun z H9 s9 rz => by cases rz; exact q H9)
  refine ⟨2, by cases r52; rfl, by omega, by omega, ?_⟩
  refine walkedR [A] (fun _ v (i : Nat) => v = .int (i : Int)) (List.range 2) (fun l σ' H' => Kb [A] H52 H' ∧ (∃ o8 o9 o10 o11 o12 o13 o14, σ' = [some (.ref A), some (.ref C), some (.int late), some v1, some v2, some v3, some v5, some v6, o8, o9, o10, o11, o12, o13, o14]) ∧ ∃ k, k + l.length ≤ 2 ∧ Tin A (3200 + 2000 * k) H') (yr_rng 2) ⟨Kb.refl, ⟨_, _, _, _, _, _, _, rfl⟩, 0, by simp, t51.same s52⟩ (fun r σ' H' h => h.1) ?_ fun _ _ _ => trivial
  rintro lap l x σ' H53 H54 hlap ⟨kb53, ⟨o8, o9, o10, o11, o12, o13, o14, rfl⟩, k, hk, tk⟩ s54 rx
  cases (rx : x = .int (lap : Int))
  rw [List.length_cons] at hk
  have k5154 : Kb [A] H51 H54 := ((Same.kb s52).trans kb53).trans (Same.kb s54)
  have r1 := (stb_rs _).kb k5154 r1
  have r2 := (stb_rs _).kb k5154 r2
  have r3 := (stb_rs _).kb k5154 r3
  have gg := fun {H'} (k : Kb [A] H54 H') => goods ((k51.trans k5154).trans k)
  refine dss_cons (ds_set 13 nd (do_call Gk (hr.mono (by decide)) rfl (da_cons (EvV.go (evv_var 0 rfl) fun H55 s55 => da_cons (DoE.mono (Q := fun v H' => Same H55 H' ∧ ∃ s, Rs H' v s ∧ WfS s) (do_if (EvT.go (et_eqI (ev_var 12 rfl (.int _)) ev_int) fun H56 s56 => ?_)) ?_)))))
  · cases decide ((lap : Int) = 0) with
    | true => exact iteT (EvR.go (erv_v 5 rfl (stb_rs _) ((stb_rs _).same (s55.trans s56) r3)) fun v H57 s57 r => ⟨s56.trans s57, _, r, wm⟩)
    | false => exact iteF (EvR.go (erv_v 3 rfl (stb_rs _) ((stb_rs _).same (s55.trans s56) r1)) fun v H57 s57 r => ⟨s56.trans s57, _, r, w1⟩)
  rintro vb H57 ⟨s5557, sb, rb, wb⟩
  refine da_cons (EvV.go (evv_var 1 rfl) fun H58 s58 => da_cons (EvV.go (evv_var 2 rfl) fun H59 s59 => da_nil ?_))
  have s5459 := ((s55.trans s5557).trans s58).trans s59
  refine ⟨A, 3200 + 2000 * k, vb, C, late, sb, ys, gs, rfl, (tk.same s54).same s5459, by omega, (stb_rs _).same (s58.trans s59) rb, wb, CA, (gg (Same.kb s5459)).1, (gg (Same.kb s5459)).2, gd, late1, by omega, fun v7 less H60 k60 r7 wl t60 => ?_⟩
  have k5460 : Kb [A] H54 H60 := (Same.kb s5459).trans k60
  have r1 := (stb_rs _).kb k5460 r1
  have r2 := (stb_rs _).kb k5460 r2
  have r3 := (stb_rs _).kb k5460 r3
  refine dss_cons (ds_set 14 nd (EvD.go (ev_lstN (eva_cons (ev_call M3 (hr.mono (by decide)) (eva2 (EvR.toD (erv_v 13 rfl (stb_rs _) r7) fun _ _ h => Rs.dl h) (EvR.toD (erv_v 3 rfl (stb_rs _) r1) fun _ _ h => Rs.dl h)) ⟨_, _, less, one, rfl, okD_encS wl, okD_encS w1, t_enc, t_enc, wl, w1, rfl⟩) (eva2 (ev_call M3 (hr.mono (by decide)) (eva2 (EvR.toD (erv_v 13 rfl (stb_rs _) r7) fun _ _ h => Rs.dl h) (EvR.toD (erv_v 4 rfl (stb_rs _) r2) fun _ _ h => Rs.dl h)) ⟨_, _, less, two, rfl, okD_encS wl, okD_encS w2, t_enc, t_enc, wl, w2, rfl⟩) (ev_call M3 (hr.mono (by decide)) (eva2 (EvR.toD (erv_v 13 rfl (stb_rs _) r7) fun _ _ h => Rs.dl h) (EvR.toD (erv_v 5 rfl (stb_rs _) r3) fun _ _ h => Rs.dl h)) ⟨_, _, less, _, rfl, okD_encS wl, okD_encS wm, t_enc, t_enc, wl, wm, rfl⟩)))) fun v8 H61 s61 r8 => ?_))
  have r1 := (stb_rs _).same s61 r1
  have r2 := (stb_rs _).same s61 r2
  have r3 := (stb_rs _).same s61 r3
  have r7 := (stb_rs _).same s61 r7
  refine dss_cons (ds_ifT (k := false) (EvT.is (et_not (et_val (ev_call M4 (hr.mono (by decide)) (eva2 (ev_var 14 rfl r8) (ev_lstN (eva_cons (ev_inside Gi (hr.mono (by decide)) (erv_v 13 rfl (stb_rs _) r7) (erv_v 3 rfl (stb_rs _) r1) wl w1) (eva2 (ev_inside Gi (hr.mono (by decide)) (erv_v 13 rfl (stb_rs _) r7) (erv_v 4 rfl (stb_rs _) r2) wl w2) (ev_inside Gi (hr.mono (by decide)) (erv_v 13 rfl (stb_rs _) r7) (erv_v 5 rfl (stb_rs _) r3) wl wm))))) ⟨_, rfl, ⟨by show 3 ≤ 1000; omega, fun x hx => ?_⟩, rfl⟩))) rfl) (fun z => nomatch z) fun _ H62 s62 => dss_nil ?_)
  · have hx : x ∈ [PyData.bool (isWithin less one), .bool (isWithin less two), .bool (isWithin less (meetOf one two))] := hx
    simp only [List.mem_cons, List.not_mem_nil, or_false] at hx
    rcases hx with rfl | rfl | rfl <;> exact bD _
  have r8 := r8.mono s62
  refine dss_one (ds_ifT (k := false) (EvT.is (et_neB (ev_ixL (ev_var 14 rfl r8) ev_int (atI_nat (j := 2) rfl)) (ev_and2 (ev_ixL (ev_var 14 rfl r8) ev_int atI0) fun _ => ev_one (ev_ixL (ev_var 14 rfl r8) ev_int atI1))) (by rw [within_meet wl w1 w2]; simp)) (fun z => nomatch z) fun _ H63 s63 => dss_nil ⟨kb53.trans ((Same.kb s54).trans (k5460.trans (Same.kb ((s61.trans s62).trans s63)))), ⟨_, _, _, _, _, _, _, rfl⟩, k + 1, by omega, (t60.same ((s61.trans s62).trans s63)).le (by omega)⟩)
end
end Lk
namespace Lk
open PySem PySem.Spec PyProof.Rows L2
def spLaw (K : PySem.W.Frag) : Sp := fun vs H Q _ => ∃ (a : Addr) (ns : List Int), vs = [.ref a] ∧ SqL K H a (ns.map V.int) ∧ ns.length ≤ 63 ∧ ∀ H', Q (.bl true) H'
theorem law_ok {P : Program} {w : World} {K : PySem.W.Frag} {mg : Str → Option Value} {base : Heap} {f : Addr} {fd : FuncData} (T : Tops K mg) (F : Fun K "law" "law" s_law f fd) : FnOk P w K mg base CX0 60 f fd ["_law_script"] (spLaw K) := by
  have G1 := ok_hand (P := P) (w := w) (base := base) T
  have G2 := ok_right (P := P) (w := w) (base := base) T
  have G3 := ok_box (P := P) (w := w) (base := base) T
  have G4 := ok_cells (P := P) (w := w) (base := base) T
  refine FnOk.mono (F.ok (k := 9) sc_law (fun vs H Q E h => by obtain ⟨a, ns, rfl, _⟩ := h; rfl) fun cdv A outer s H vs Q E hr h => ⟨_, DoSs.pss, ?_⟩) (by decide)
  obtain ⟨a, ns, rfl, ha, hl, q⟩ := h
  refine dss_one (ds_ret (DoE.of (pe_and DoE.pe DoE.pe) (do_call0 G1 hr rfl ⟨rfl, fun H1 s1 => ⟨true, rfl, iteT (DoE.of (pe_one DoE.pe) ?_)⟩⟩)))
  refine do_call G2 hr rfl (da_cons ?_)
  refine do_call G3 (hr.mono (by decide)) rfl (da_cons ?_)
  refine do_call G4 (hr.mono (by decide)) rfl (da_cons (EvV.go (evv_var 0 rfl) fun H2 s2 => da_cons (EvD.go ev_int fun u3 H3 s3 r3 => da_nil ?_)))
  refine ⟨a, ns, by cases r3; rfl, sql_same ((s1.trans s2).trans s3) ha, hl, fun B x H4 s4 hB => da_cons (EvD.go ev_int fun u5 H5 s5 r5 => da_nil ⟨B, x, by cases r5; rfl, s5 _ _ hB, fun C H6 s6 tC => da_nil ⟨C, rfl, tC, fun H7 => q H7⟩⟩)⟩
end Lk
namespace Lk
open PySem PySem.Spec PyProof.Rows L2
theorem all_mk {l : PySem.W.OpenLaw} {w : World} {K : PySem.W.Frag} {h : Heap} {mg : Str → Option Value} {fa : Addr} (hyp : ∀ (base : Heap) (f : Addr) (fd : FuncData), Tops K mg → Fun K "law" "law" s_law f fd → FnOk l.prog w K mg base CX0 60 f fd ["_law_script"] (spLaw K))
    (X : K.In h) (G : h.Ns mainGlobals mg) (hfa : mg "law" = some (.ref fa))
    {f_1 : Addr} {od1 an1 : Option Addr} {sl1 : Array (Option Value)} {oc1 kV1 dc1 pm1 cd1 ct1 : Value}
    (a1 : PySem.W.nsIn K mainGlobals "tupled" = some (some (.ref f_1)))
    (l1 : K.lookup f_1 = some ⟨oc1, od1, .func (PySem.W.fnOf "tupled" "tupled" (defArgs s_tupled) (defBody s_tupled) (defScope s_tupled) .none kV1 dc1 pm1 an1 cd1 ct1), sl1⟩)
    (c1 : PySem.W.codeIn K cd1 "tupled" = true) (k1 : PySem.W.keepIn K (.ref f_1) = true)
    {f_2 : Addr} {od2 an2 : Option Addr} {sl2 : Array (Option Value)} {oc2 kV2 dc2 pm2 cd2 ct2 : Value}
    (a2 : PySem.W.nsIn K mainGlobals "is_number" = some (some (.ref f_2)))
    (l2 : K.lookup f_2 = some ⟨oc2, od2, .func (PySem.W.fnOf "is_number" "is_number" (defArgs s_is_number) (defBody s_is_number) (defScope s_is_number) .none kV2 dc2 pm2 an2 cd2 ct2), sl2⟩)
    (c2 : PySem.W.codeIn K cd2 "is_number" = true) (k2 : PySem.W.keepIn K (.ref f_2) = true)
    {f_3 : Addr} {od3 an3 : Option Addr} {sl3 : Array (Option Value)} {oc3 kV3 dc3 pm3 cd3 ct3 : Value}
    (a3 : PySem.W.nsIn K mainGlobals "is_count" = some (some (.ref f_3)))
    (l3 : K.lookup f_3 = some ⟨oc3, od3, .func (PySem.W.fnOf "is_count" "is_count" (defArgs s_is_count) (defBody s_is_count) (defScope s_is_count) .none kV3 dc3 pm3 an3 cd3 ct3), sl3⟩)
    (c3 : PySem.W.codeIn K cd3 "is_count" = true) (k3 : PySem.W.keepIn K (.ref f_3) = true)
    {f_4 : Addr} {od4 an4 : Option Addr} {sl4 : Array (Option Value)} {oc4 kV4 dc4 pm4 cd4 ct4 : Value}
    (a4 : PySem.W.nsIn K mainGlobals "is_from_one" = some (some (.ref f_4)))
    (l4 : K.lookup f_4 = some ⟨oc4, od4, .func (PySem.W.fnOf "is_from_one" "is_from_one" (defArgs s_is_from_one) (defBody s_is_from_one) (defScope s_is_from_one) .none kV4 dc4 pm4 an4 cd4 ct4), sl4⟩)
    (c4 : PySem.W.codeIn K cd4 "is_from_one" = true) (k4 : PySem.W.keepIn K (.ref f_4) = true)
    {f_5 : Addr} {od5 an5 : Option Addr} {sl5 : Array (Option Value)} {oc5 kV5 dc5 pm5 cd5 ct5 : Value}
    (a5 : PySem.W.nsIn K mainGlobals "is_tuple_of" = some (some (.ref f_5)))
    (l5 : K.lookup f_5 = some ⟨oc5, od5, .func (PySem.W.fnOf "is_tuple_of" "is_tuple_of" (defArgs s_is_tuple_of) (defBody s_is_tuple_of) (defScope s_is_tuple_of) .none kV5 dc5 pm5 an5 cd5 ct5), sl5⟩)
    (c5 : PySem.W.codeIn K cd5 "is_tuple_of" = true) (k5 : PySem.W.keepIn K (.ref f_5) = true)
    {f_6 : Addr} {od6 an6 : Option Addr} {sl6 : Array (Option Value)} {oc6 kV6 dc6 pm6 cd6 ct6 : Value}
    (a6 : PySem.W.nsIn K mainGlobals "ascends" = some (some (.ref f_6)))
    (l6 : K.lookup f_6 = some ⟨oc6, od6, .func (PySem.W.fnOf "ascends" "ascends" (defArgs s_ascends) (defBody s_ascends) (defScope s_ascends) .none kV6 dc6 pm6 an6 cd6 ct6), sl6⟩)
    (c6 : PySem.W.codeIn K cd6 "ascends" = true) (k6 : PySem.W.keepIn K (.ref f_6) = true)
    {f_7 : Addr} {od7 an7 : Option Addr} {sl7 : Array (Option Value)} {oc7 kV7 dc7 pm7 cd7 ct7 : Value}
    (a7 : PySem.W.nsIn K mainGlobals "set_of" = some (some (.ref f_7)))
    (l7 : K.lookup f_7 = some ⟨oc7, od7, .func (PySem.W.fnOf "set_of" "set_of" (defArgs s_set_of) (defBody s_set_of) (defScope s_set_of) .none kV7 dc7 pm7 an7 cd7 ct7), sl7⟩)
    (c7 : PySem.W.codeIn K cd7 "set_of" = true) (k7 : PySem.W.keepIn K (.ref f_7) = true)
    {f_11 : Addr} {od11 an11 : Option Addr} {sl11 : Array (Option Value)} {oc11 kV11 dc11 pm11 cd11 ct11 : Value}
    (a11 : PySem.W.nsIn K mainGlobals "is_name" = some (some (.ref f_11)))
    (l11 : K.lookup f_11 = some ⟨oc11, od11, .func (PySem.W.fnOf "is_name" "is_name" (defArgs s_is_name) (defBody s_is_name) (defScope s_is_name) .none kV11 dc11 pm11 an11 cd11 ct11), sl11⟩)
    (c11 : PySem.W.codeIn K cd11 "is_name" = true) (k11 : PySem.W.keepIn K (.ref f_11) = true)
    {f_12 : Addr} {od12 an12 : Option Addr} {sl12 : Array (Option Value)} {oc12 kV12 dc12 pm12 cd12 ct12 : Value}
    (a12 : PySem.W.nsIn K mainGlobals "is_release" = some (some (.ref f_12)))
    (l12 : K.lookup f_12 = some ⟨oc12, od12, .func (PySem.W.fnOf "is_release" "is_release" (defArgs s_is_release) (defBody s_is_release) (defScope s_is_release) .none kV12 dc12 pm12 an12 cd12 ct12), sl12⟩)
    (c12 : PySem.W.codeIn K cd12 "is_release" = true) (k12 : PySem.W.keepIn K (.ref f_12) = true)
    {f_13 : Addr} {od13 an13 : Option Addr} {sl13 : Array (Option Value)} {oc13 kV13 dc13 pm13 cd13 ct13 : Value}
    (a13 : PySem.W.nsIn K mainGlobals "is_lot" = some (some (.ref f_13)))
    (l13 : K.lookup f_13 = some ⟨oc13, od13, .func (PySem.W.fnOf "is_lot" "is_lot" (defArgs s_is_lot) (defBody s_is_lot) (defScope s_is_lot) .none kV13 dc13 pm13 an13 cd13 ct13), sl13⟩)
    (c13 : PySem.W.codeIn K cd13 "is_lot" = true) (k13 : PySem.W.keepIn K (.ref f_13) = true)
    {f_14 : Addr} {od14 an14 : Option Addr} {sl14 : Array (Option Value)} {oc14 kV14 dc14 pm14 cd14 ct14 : Value}
    (a14 : PySem.W.nsIn K mainGlobals "is_rule" = some (some (.ref f_14)))
    (l14 : K.lookup f_14 = some ⟨oc14, od14, .func (PySem.W.fnOf "is_rule" "is_rule" (defArgs s_is_rule) (defBody s_is_rule) (defScope s_is_rule) .none kV14 dc14 pm14 an14 cd14 ct14), sl14⟩)
    (c14 : PySem.W.codeIn K cd14 "is_rule" = true) (k14 : PySem.W.keepIn K (.ref f_14) = true)
    {f_15 : Addr} {od15 an15 : Option Addr} {sl15 : Array (Option Value)} {oc15 kV15 dc15 pm15 cd15 ct15 : Value}
    (a15 : PySem.W.nsIn K mainGlobals "is_rules" = some (some (.ref f_15)))
    (l15 : K.lookup f_15 = some ⟨oc15, od15, .func (PySem.W.fnOf "is_rules" "is_rules" (defArgs s_is_rules) (defBody s_is_rules) (defScope s_is_rules) .none kV15 dc15 pm15 an15 cd15 ct15), sl15⟩)
    (c15 : PySem.W.codeIn K cd15 "is_rules" = true) (k15 : PySem.W.keepIn K (.ref f_15) = true)
    {f_16 : Addr} {od16 an16 : Option Addr} {sl16 : Array (Option Value)} {oc16 kV16 dc16 pm16 cd16 ct16 : Value}
    (a16 : PySem.W.nsIn K mainGlobals "lot_in" = some (some (.ref f_16)))
    (l16 : K.lookup f_16 = some ⟨oc16, od16, .func (PySem.W.fnOf "lot_in" "lot_in" (defArgs s_lot_in) (defBody s_lot_in) (defScope s_lot_in) .none kV16 dc16 pm16 an16 cd16 ct16), sl16⟩)
    (c16 : PySem.W.codeIn K cd16 "lot_in" = true) (k16 : PySem.W.keepIn K (.ref f_16) = true)
    {f_18 : Addr} {od18 an18 : Option Addr} {sl18 : Array (Option Value)} {oc18 kV18 dc18 pm18 cd18 ct18 : Value}
    (a18 : PySem.W.nsIn K mainGlobals "is_shelf_part" = some (some (.ref f_18)))
    (l18 : K.lookup f_18 = some ⟨oc18, od18, .func (PySem.W.fnOf "is_shelf_part" "is_shelf_part" (defArgs s_is_shelf_part) (defBody s_is_shelf_part) (defScope s_is_shelf_part) .none kV18 dc18 pm18 an18 cd18 ct18), sl18⟩)
    (c18 : PySem.W.codeIn K cd18 "is_shelf_part" = true) (k18 : PySem.W.keepIn K (.ref f_18) = true)
    {f_19 : Addr} {od19 an19 : Option Addr} {sl19 : Array (Option Value)} {oc19 kV19 dc19 pm19 cd19 ct19 : Value}
    (a19 : PySem.W.nsIn K mainGlobals "is_shelf" = some (some (.ref f_19)))
    (l19 : K.lookup f_19 = some ⟨oc19, od19, .func (PySem.W.fnOf "is_shelf" "is_shelf" (defArgs s_is_shelf) (defBody s_is_shelf) (defScope s_is_shelf) .none kV19 dc19 pm19 an19 cd19 ct19), sl19⟩)
    (c19 : PySem.W.codeIn K cd19 "is_shelf" = true) (k19 : PySem.W.keepIn K (.ref f_19) = true)
    {f_20 : Addr} {od20 an20 : Option Addr} {sl20 : Array (Option Value)} {oc20 kV20 dc20 pm20 cd20 ct20 : Value}
    (a20 : PySem.W.nsIn K mainGlobals "part_at" = some (some (.ref f_20)))
    (l20 : K.lookup f_20 = some ⟨oc20, od20, .func (PySem.W.fnOf "part_at" "part_at" (defArgs s_part_at) (defBody s_part_at) (defScope s_part_at) .none kV20 dc20 pm20 an20 cd20 ct20), sl20⟩)
    (c20 : PySem.W.codeIn K cd20 "part_at" = true) (k20 : PySem.W.keepIn K (.ref f_20) = true)
    {f_21 : Addr} {od21 an21 : Option Addr} {sl21 : Array (Option Value)} {oc21 kV21 dc21 pm21 cd21 ct21 : Value}
    (a21 : PySem.W.nsIn K mainGlobals "rules_common" = some (some (.ref f_21)))
    (l21 : K.lookup f_21 = some ⟨oc21, od21, .func (PySem.W.fnOf "rules_common" "rules_common" (defArgs s_rules_common) (defBody s_rules_common) (defScope s_rules_common) .none kV21 dc21 pm21 an21 cd21 ct21), sl21⟩)
    (c21 : PySem.W.codeIn K cd21 "rules_common" = true) (k21 : PySem.W.keepIn K (.ref f_21) = true)
    {f_22 : Addr} {od22 an22 : Option Addr} {sl22 : Array (Option Value)} {oc22 kV22 dc22 pm22 cd22 ct22 : Value}
    (a22 : PySem.W.nsIn K mainGlobals "part_common" = some (some (.ref f_22)))
    (l22 : K.lookup f_22 = some ⟨oc22, od22, .func (PySem.W.fnOf "part_common" "part_common" (defArgs s_part_common) (defBody s_part_common) (defScope s_part_common) .none kV22 dc22 pm22 an22 cd22 ct22), sl22⟩)
    (c22 : PySem.W.codeIn K cd22 "part_common" = true) (k22 : PySem.W.keepIn K (.ref f_22) = true)
    {f_23 : Addr} {od23 an23 : Option Addr} {sl23 : Array (Option Value)} {oc23 kV23 dc23 pm23 cd23 ct23 : Value}
    (a23 : PySem.W.nsIn K mainGlobals "meet_of" = some (some (.ref f_23)))
    (l23 : K.lookup f_23 = some ⟨oc23, od23, .func (PySem.W.fnOf "meet_of" "meet_of" (defArgs s_meet_of) (defBody s_meet_of) (defScope s_meet_of) .none kV23 dc23 pm23 an23 cd23 ct23), sl23⟩)
    (c23 : PySem.W.codeIn K cd23 "meet_of" = true) (k23 : PySem.W.keepIn K (.ref f_23) = true)
    {f_24 : Addr} {od24 an24 : Option Addr} {sl24 : Array (Option Value)} {oc24 kV24 dc24 pm24 cd24 ct24 : Value}
    (a24 : PySem.W.nsIn K mainGlobals "rules_within" = some (some (.ref f_24)))
    (l24 : K.lookup f_24 = some ⟨oc24, od24, .func (PySem.W.fnOf "rules_within" "rules_within" (defArgs s_rules_within) (defBody s_rules_within) (defScope s_rules_within) .none kV24 dc24 pm24 an24 cd24 ct24), sl24⟩)
    (c24 : PySem.W.codeIn K cd24 "rules_within" = true) (k24 : PySem.W.keepIn K (.ref f_24) = true)
    {f_25 : Addr} {od25 an25 : Option Addr} {sl25 : Array (Option Value)} {oc25 kV25 dc25 pm25 cd25 ct25 : Value}
    (a25 : PySem.W.nsIn K mainGlobals "part_within" = some (some (.ref f_25)))
    (l25 : K.lookup f_25 = some ⟨oc25, od25, .func (PySem.W.fnOf "part_within" "part_within" (defArgs s_part_within) (defBody s_part_within) (defScope s_part_within) .none kV25 dc25 pm25 an25 cd25 ct25), sl25⟩)
    (c25 : PySem.W.codeIn K cd25 "part_within" = true) (k25 : PySem.W.keepIn K (.ref f_25) = true)
    {f_26 : Addr} {od26 an26 : Option Addr} {sl26 : Array (Option Value)} {oc26 kV26 dc26 pm26 cd26 ct26 : Value}
    (a26 : PySem.W.nsIn K mainGlobals "is_within" = some (some (.ref f_26)))
    (l26 : K.lookup f_26 = some ⟨oc26, od26, .func (PySem.W.fnOf "is_within" "is_within" (defArgs s_is_within) (defBody s_is_within) (defScope s_is_within) .none kV26 dc26 pm26 an26 cd26 ct26), sl26⟩)
    (c26 : PySem.W.codeIn K cd26 "is_within" = true) (k26 : PySem.W.keepIn K (.ref f_26) = true)
    {f_28 : Addr} {od28 an28 : Option Addr} {sl28 : Array (Option Value)} {oc28 kV28 dc28 pm28 cd28 ct28 : Value}
    (a28 : PySem.W.nsIn K mainGlobals "_law_box" = some (some (.ref f_28)))
    (l28 : K.lookup f_28 = some ⟨oc28, od28, .func (PySem.W.fnOf "_law_box" "_law_box" (defArgs s_law_box) (defBody s_law_box) (defScope s_law_box) .none kV28 dc28 pm28 an28 cd28 ct28), sl28⟩)
    (c28 : PySem.W.codeIn K cd28 "_law_box" = true) (k28 : PySem.W.keepIn K (.ref f_28) = true)
    {f_29 : Addr} {od29 an29 : Option Addr} {sl29 : Array (Option Value)} {oc29 kV29 dc29 pm29 cd29 ct29 : Value}
    (a29 : PySem.W.nsIn K mainGlobals "_law_take" = some (some (.ref f_29)))
    (l29 : K.lookup f_29 = some ⟨oc29, od29, .func (PySem.W.fnOf "_law_take" "_law_take" (defArgs s_law_take) (defBody s_law_take) (defScope s_law_take) .none kV29 dc29 pm29 an29 cd29 ct29), sl29⟩)
    (c29 : PySem.W.codeIn K cd29 "_law_take" = true) (k29 : PySem.W.keepIn K (.ref f_29) = true)
    {f_30 : Addr} {od30 an30 : Option Addr} {sl30 : Array (Option Value)} {oc30 kV30 dc30 pm30 cd30 ct30 : Value}
    (a30 : PySem.W.nsIn K mainGlobals "_law_cells" = some (some (.ref f_30)))
    (l30 : K.lookup f_30 = some ⟨oc30, od30, .func (PySem.W.fnOf "_law_cells" "_law_cells" (defArgs s_law_cells) (defBody s_law_cells) (defScope s_law_cells) .none kV30 dc30 pm30 an30 cd30 ct30), sl30⟩)
    (c30 : PySem.W.codeIn K cd30 "_law_cells" = true) (k30 : PySem.W.keepIn K (.ref f_30) = true)
    {f_31 : Addr} {od31 an31 : Option Addr} {sl31 : Array (Option Value)} {oc31 kV31 dc31 pm31 cd31 ct31 : Value}
    (a31 : PySem.W.nsIn K mainGlobals "_law_of" = some (some (.ref f_31)))
    (l31 : K.lookup f_31 = some ⟨oc31, od31, .func (PySem.W.fnOf "_law_of" "_law_of" (defArgs s_law_of) (defBody s_law_of) (defScope s_law_of) .none kV31 dc31 pm31 an31 cd31 ct31), sl31⟩)
    (c31 : PySem.W.codeIn K cd31 "_law_of" = true) (k31 : PySem.W.keepIn K (.ref f_31) = true)
    {f_32 : Addr} {od32 an32 : Option Addr} {sl32 : Array (Option Value)} {oc32 kV32 dc32 pm32 cd32 ct32 : Value}
    (a32 : PySem.W.nsIn K mainGlobals "_law_pick" = some (some (.ref f_32)))
    (l32 : K.lookup f_32 = some ⟨oc32, od32, .func (PySem.W.fnOf "_law_pick" "_law_pick" (defArgs s_law_pick) (defBody s_law_pick) (defScope s_law_pick) .none kV32 dc32 pm32 an32 cd32 ct32), sl32⟩)
    (c32 : PySem.W.codeIn K cd32 "_law_pick" = true) (k32 : PySem.W.keepIn K (.ref f_32) = true)
    {f_33 : Addr} {od33 an33 : Option Addr} {sl33 : Array (Option Value)} {oc33 kV33 dc33 pm33 cd33 ct33 : Value}
    (a33 : PySem.W.nsIn K mainGlobals "_law_lists" = some (some (.ref f_33)))
    (l33 : K.lookup f_33 = some ⟨oc33, od33, .func (PySem.W.fnOf "_law_lists" "_law_lists" (defArgs s_law_lists) (defBody s_law_lists) (defScope s_law_lists) .none kV33 dc33 pm33 an33 cd33 ct33), sl33⟩)
    (c33 : PySem.W.codeIn K cd33 "_law_lists" = true) (k33 : PySem.W.keepIn K (.ref f_33) = true)
    {f_34 : Addr} {od34 an34 : Option Addr} {sl34 : Array (Option Value)} {oc34 kV34 dc34 pm34 cd34 ct34 : Value}
    (a34 : PySem.W.nsIn K mainGlobals "_law_same" = some (some (.ref f_34)))
    (l34 : K.lookup f_34 = some ⟨oc34, od34, .func (PySem.W.fnOf "_law_same" "_law_same" (defArgs s_law_same) (defBody s_law_same) (defScope s_law_same) .none kV34 dc34 pm34 an34 cd34 ct34), sl34⟩)
    (c34 : PySem.W.codeIn K cd34 "_law_same" = true) (k34 : PySem.W.keepIn K (.ref f_34) = true)
    {f_35 : Addr} {od35 an35 : Option Addr} {sl35 : Array (Option Value)} {oc35 kV35 dc35 pm35 cd35 ct35 : Value}
    (a35 : PySem.W.nsIn K mainGlobals "_law_state" = some (some (.ref f_35)))
    (l35 : K.lookup f_35 = some ⟨oc35, od35, .func (PySem.W.fnOf "_law_state" "_law_state" (defArgs s_law_state) (defBody s_law_state) (defScope s_law_state) .none kV35 dc35 pm35 an35 cd35 ct35), sl35⟩)
    (c35 : PySem.W.codeIn K cd35 "_law_state" = true) (k35 : PySem.W.keepIn K (.ref f_35) = true)
    {f_36 : Addr} {od36 an36 : Option Addr} {sl36 : Array (Option Value)} {oc36 kV36 dc36 pm36 cd36 ct36 : Value}
    (a36 : PySem.W.nsIn K mainGlobals "_law_every_lock" = some (some (.ref f_36)))
    (l36 : K.lookup f_36 = some ⟨oc36, od36, .func (PySem.W.fnOf "_law_every_lock" "_law_every_lock" (defArgs s_law_every_lock) (defBody s_law_every_lock) (defScope s_law_every_lock) .none kV36 dc36 pm36 an36 cd36 ct36), sl36⟩)
    (c36 : PySem.W.codeIn K cd36 "_law_every_lock" = true) (k36 : PySem.W.keepIn K (.ref f_36) = true)
    {f_37 : Addr} {od37 an37 : Option Addr} {sl37 : Array (Option Value)} {oc37 kV37 dc37 pm37 cd37 ct37 : Value}
    (a37 : PySem.W.nsIn K mainGlobals "_law_on_day" = some (some (.ref f_37)))
    (l37 : K.lookup f_37 = some ⟨oc37, od37, .func (PySem.W.fnOf "_law_on_day" "_law_on_day" (defArgs s_law_on_day) (defBody s_law_on_day) (defScope s_law_on_day) .none kV37 dc37 pm37 an37 cd37 ct37), sl37⟩)
    (c37 : PySem.W.codeIn K cd37 "_law_on_day" = true) (k37 : PySem.W.keepIn K (.ref f_37) = true)
    {f_38 : Addr} {od38 an38 : Option Addr} {sl38 : Array (Option Value)} {oc38 kV38 dc38 pm38 cd38 ct38 : Value}
    (a38 : PySem.W.nsIn K mainGlobals "_law_stands" = some (some (.ref f_38)))
    (l38 : K.lookup f_38 = some ⟨oc38, od38, .func (PySem.W.fnOf "_law_stands" "_law_stands" (defArgs s_law_stands) (defBody s_law_stands) (defScope s_law_stands) .none kV38 dc38 pm38 an38 cd38 ct38), sl38⟩)
    (c38 : PySem.W.codeIn K cd38 "_law_stands" = true) (k38 : PySem.W.keepIn K (.ref f_38) = true)
    {f_39 : Addr} {od39 an39 : Option Addr} {sl39 : Array (Option Value)} {oc39 kV39 dc39 pm39 cd39 ct39 : Value}
    (a39 : PySem.W.nsIn K mainGlobals "_law_shops" = some (some (.ref f_39)))
    (l39 : K.lookup f_39 = some ⟨oc39, od39, .func (PySem.W.fnOf "_law_shops" "_law_shops" (defArgs s_law_shops) (defBody s_law_shops) (defScope s_law_shops) .none kV39 dc39 pm39 an39 cd39 ct39), sl39⟩)
    (c39 : PySem.W.codeIn K cd39 "_law_shops" = true) (k39 : PySem.W.keepIn K (.ref f_39) = true)
    {f_40 : Addr} {od40 an40 : Option Addr} {sl40 : Array (Option Value)} {oc40 kV40 dc40 pm40 cd40 ct40 : Value}
    (a40 : PySem.W.nsIn K mainGlobals "_law_some_names" = some (some (.ref f_40)))
    (l40 : K.lookup f_40 = some ⟨oc40, od40, .func (PySem.W.fnOf "_law_some_names" "_law_some_names" (defArgs s_law_some_names) (defBody s_law_some_names) (defScope s_law_some_names) .none kV40 dc40 pm40 an40 cd40 ct40), sl40⟩)
    (c40 : PySem.W.codeIn K cd40 "_law_some_names" = true) (k40 : PySem.W.keepIn K (.ref f_40) = true)
    {f_41 : Addr} {od41 an41 : Option Addr} {sl41 : Array (Option Value)} {oc41 kV41 dc41 pm41 cd41 ct41 : Value}
    (a41 : PySem.W.nsIn K mainGlobals "_law_some_goods" = some (some (.ref f_41)))
    (l41 : K.lookup f_41 = some ⟨oc41, od41, .func (PySem.W.fnOf "_law_some_goods" "_law_some_goods" (defArgs s_law_some_goods) (defBody s_law_some_goods) (defScope s_law_some_goods) .none kV41 dc41 pm41 an41 cd41 ct41), sl41⟩)
    (c41 : PySem.W.codeIn K cd41 "_law_some_goods" = true) (k41 : PySem.W.keepIn K (.ref f_41) = true)
    {f_42 : Addr} {od42 an42 : Option Addr} {sl42 : Array (Option Value)} {oc42 kV42 dc42 pm42 cd42 ct42 : Value}
    (a42 : PySem.W.nsIn K mainGlobals "_law_some_rules" = some (some (.ref f_42)))
    (l42 : K.lookup f_42 = some ⟨oc42, od42, .func (PySem.W.fnOf "_law_some_rules" "_law_some_rules" (defArgs s_law_some_rules) (defBody s_law_some_rules) (defScope s_law_some_rules) .none kV42 dc42 pm42 an42 cd42 ct42), sl42⟩)
    (c42 : PySem.W.codeIn K cd42 "_law_some_rules" = true) (k42 : PySem.W.keepIn K (.ref f_42) = true)
    {f_43 : Addr} {od43 an43 : Option Addr} {sl43 : Array (Option Value)} {oc43 kV43 dc43 pm43 cd43 ct43 : Value}
    (a43 : PySem.W.nsIn K mainGlobals "_law_some_shelf" = some (some (.ref f_43)))
    (l43 : K.lookup f_43 = some ⟨oc43, od43, .func (PySem.W.fnOf "_law_some_shelf" "_law_some_shelf" (defArgs s_law_some_shelf) (defBody s_law_some_shelf) (defScope s_law_some_shelf) .none kV43 dc43 pm43 an43 cd43 ct43), sl43⟩)
    (c43 : PySem.W.codeIn K cd43 "_law_some_shelf" = true) (k43 : PySem.W.keepIn K (.ref f_43) = true)
    {f_44 : Addr} {od44 an44 : Option Addr} {sl44 : Array (Option Value)} {oc44 kV44 dc44 pm44 cd44 ct44 : Value}
    (a44 : PySem.W.nsIn K mainGlobals "_law_lots_met" = some (some (.ref f_44)))
    (l44 : K.lookup f_44 = some ⟨oc44, od44, .func (PySem.W.fnOf "_law_lots_met" "_law_lots_met" (defArgs s_law_lots_met) (defBody s_law_lots_met) (defScope s_law_lots_met) .none kV44 dc44 pm44 an44 cd44 ct44), sl44⟩)
    (c44 : PySem.W.codeIn K cd44 "_law_lots_met" = true) (k44 : PySem.W.keepIn K (.ref f_44) = true)
    {f_45 : Addr} {od45 an45 : Option Addr} {sl45 : Array (Option Value)} {oc45 kV45 dc45 pm45 cd45 ct45 : Value}
    (a45 : PySem.W.nsIn K mainGlobals "_law_met" = some (some (.ref f_45)))
    (l45 : K.lookup f_45 = some ⟨oc45, od45, .func (PySem.W.fnOf "_law_met" "_law_met" (defArgs s_law_met) (defBody s_law_met) (defScope s_law_met) .none kV45 dc45 pm45 an45 cd45 ct45), sl45⟩)
    (c45 : PySem.W.codeIn K cd45 "_law_met" = true) (k45 : PySem.W.keepIn K (.ref f_45) = true)
    {f_46 : Addr} {od46 an46 : Option Addr} {sl46 : Array (Option Value)} {oc46 kV46 dc46 pm46 cd46 ct46 : Value}
    (a46 : PySem.W.nsIn K mainGlobals "_law_inside" = some (some (.ref f_46)))
    (l46 : K.lookup f_46 = some ⟨oc46, od46, .func (PySem.W.fnOf "_law_inside" "_law_inside" (defArgs s_law_inside) (defBody s_law_inside) (defScope s_law_inside) .none kV46 dc46 pm46 an46 cd46 ct46), sl46⟩)
    (c46 : PySem.W.codeIn K cd46 "_law_inside" = true) (k46 : PySem.W.keepIn K (.ref f_46) = true)
    {f_47 : Addr} {od47 an47 : Option Addr} {sl47 : Array (Option Value)} {oc47 kV47 dc47 pm47 cd47 ct47 : Value}
    (a47 : PySem.W.nsIn K mainGlobals "_law_by_hand_right" = some (some (.ref f_47)))
    (l47 : K.lookup f_47 = some ⟨oc47, od47, .func (PySem.W.fnOf "_law_by_hand_right" "_law_by_hand_right" (defArgs s_law_by_hand_right) (defBody s_law_by_hand_right) (defScope s_law_by_hand_right) .none kV47 dc47 pm47 an47 cd47 ct47), sl47⟩)
    (c47 : PySem.W.codeIn K cd47 "_law_by_hand_right" = true) (k47 : PySem.W.keepIn K (.ref f_47) = true)
    {f_48 : Addr} {od48 an48 : Option Addr} {sl48 : Array (Option Value)} {oc48 kV48 dc48 pm48 cd48 ct48 : Value}
    (a48 : PySem.W.nsIn K mainGlobals "_law_like" = some (some (.ref f_48)))
    (l48 : K.lookup f_48 = some ⟨oc48, od48, .func (PySem.W.fnOf "_law_like" "_law_like" (defArgs s_law_like) (defBody s_law_like) (defScope s_law_like) .none kV48 dc48 pm48 an48 cd48 ct48), sl48⟩)
    (c48 : PySem.W.codeIn K cd48 "_law_like" = true) (k48 : PySem.W.keepIn K (.ref f_48) = true)
    {f_49 : Addr} {od49 an49 : Option Addr} {sl49 : Array (Option Value)} {oc49 kV49 dc49 pm49 cd49 ct49 : Value}
    (a49 : PySem.W.nsIn K mainGlobals "_law_right" = some (some (.ref f_49)))
    (l49 : K.lookup f_49 = some ⟨oc49, od49, .func (PySem.W.fnOf "_law_right" "_law_right" (defArgs s_law_right) (defBody s_law_right) (defScope s_law_right) .none kV49 dc49 pm49 an49 cd49 ct49), sl49⟩)
    (c49 : PySem.W.codeIn K cd49 "_law_right" = true) (k49 : PySem.W.keepIn K (.ref f_49) = true)
    {f_50 : Addr} {od50 an50 : Option Addr} {sl50 : Array (Option Value)} {oc50 kV50 dc50 pm50 cd50 ct50 : Value}
    (a50 : PySem.W.nsIn K mainGlobals "law" = some (some (.ref f_50)))
    (l50 : K.lookup f_50 = some ⟨oc50, od50, .func (PySem.W.fnOf "law" "law" (defArgs s_law) (defBody s_law) (defScope s_law) .none kV50 dc50 pm50 an50 cd50 ct50), sl50⟩)
    (c50 : PySem.W.codeIn K cd50 "law" = true) (k50 : PySem.W.keepIn K (.ref f_50) = true)
    {tS tL : Tok} (gS : PySem.W.nsIn K mainGlobals "SIGNS" = some (some (.str "abcdefghijklmnopqrstuvwxyz" tS))) (gL : PySem.W.nsIn K mainGlobals "LONGEST" = some (some (.int 12 tL)))
    (z_isinstance : PySem.W.nsIn K mainGlobals "isinstance" = some none)
    (z_list : PySem.W.nsIn K mainGlobals "list" = some none)
    (z_tuple : PySem.W.nsIn K mainGlobals "tuple" = some none)
    (z_int : PySem.W.nsIn K mainGlobals "int" = some none)
    (z_bool : PySem.W.nsIn K mainGlobals "bool" = some none)
    (z_str : PySem.W.nsIn K mainGlobals "str" = some none)
    (z_len : PySem.W.nsIn K mainGlobals "len" = some none)
    (z_all : PySem.W.nsIn K mainGlobals "all" = some none)
    (z_zip : PySem.W.nsIn K mainGlobals "zip" = some none)
    (z_sorted : PySem.W.nsIn K mainGlobals "sorted" = some none)
    (z_set : PySem.W.nsIn K mainGlobals "set" = some none)
    (z_max : PySem.W.nsIn K mainGlobals "max" = some none)
    (z_min : PySem.W.nsIn K mainGlobals "min" = some none)
    (z_abs : PySem.W.nsIn K mainGlobals "abs" = some none)
    (z_enumerate : PySem.W.nsIn K mainGlobals "enumerate" = some none)
    (z_range : PySem.W.nsIn K mainGlobals "range" = some none)
    (z_dict : PySem.W.nsIn K mainGlobals "dict" = some none)
    : ∃ fd : FuncData, (∀ (s : Shared) (v : Value), BindsTo s fd ⟨[v], []⟩ [("_law_script", v)]) ∧ ∀ base : Heap, K.In base → base.Ns mainGlobals mg → FnOk l.prog w K mg base CX0 60 fa fd ["_law_script"] (spLaw K) := by
  have e := hfa.symm.trans (PySem.W.mg_of X G a50)
  cases e
  have F1 := fun_mk (st := s_tupled) l1 c1 k1
  have D1 : Def K mg "tupled" s_tupled ["thing"] := ⟨_, _, F1, F1.binds (ps := ["thing"]) (fun _ _ _ _ _ _ us hl => match us, hl with | [_], _ => rfl), PySem.W.mg_of X G a1⟩
  have F2 := fun_mk (st := s_is_number) l2 c2 k2
  have D2 : Def K mg "is_number" s_is_number ["thing"] := ⟨_, _, F2, F2.binds (ps := ["thing"]) (fun _ _ _ _ _ _ us hl => match us, hl with | [_], _ => rfl), PySem.W.mg_of X G a2⟩
  have F3 := fun_mk (st := s_is_count) l3 c3 k3
  have D3 : Def K mg "is_count" s_is_count ["thing"] := ⟨_, _, F3, F3.binds (ps := ["thing"]) (fun _ _ _ _ _ _ us hl => match us, hl with | [_], _ => rfl), PySem.W.mg_of X G a3⟩
  have F4 := fun_mk (st := s_is_from_one) l4 c4 k4
  have D4 : Def K mg "is_from_one" s_is_from_one ["thing"] := ⟨_, _, F4, F4.binds (ps := ["thing"]) (fun _ _ _ _ _ _ us hl => match us, hl with | [_], _ => rfl), PySem.W.mg_of X G a4⟩
  have F5 := fun_mk (st := s_is_tuple_of) l5 c5 k5
  have D5 : Def K mg "is_tuple_of" s_is_tuple_of ["thing", "size"] := ⟨_, _, F5, F5.binds (ps := ["thing", "size"]) (fun _ _ _ _ _ _ us hl => match us, hl with | [_, _], _ => rfl), PySem.W.mg_of X G a5⟩
  have F6 := fun_mk (st := s_ascends) l6 c6 k6
  have D6 : Def K mg "ascends" s_ascends ["thing"] := ⟨_, _, F6, F6.binds (ps := ["thing"]) (fun _ _ _ _ _ _ us hl => match us, hl with | [_], _ => rfl), PySem.W.mg_of X G a6⟩
  have F7 := fun_mk (st := s_set_of) l7 c7 k7
  have D7 : Def K mg "set_of" s_set_of ["things"] := ⟨_, _, F7, F7.binds (ps := ["things"]) (fun _ _ _ _ _ _ us hl => match us, hl with | [_], _ => rfl), PySem.W.mg_of X G a7⟩
  have F11 := fun_mk (st := s_is_name) l11 c11 k11
  have D11 : Def K mg "is_name" s_is_name ["thing"] := ⟨_, _, F11, F11.binds (ps := ["thing"]) (fun _ _ _ _ _ _ us hl => match us, hl with | [_], _ => rfl), PySem.W.mg_of X G a11⟩
  have F12 := fun_mk (st := s_is_release) l12 c12 k12
  have D12 : Def K mg "is_release" s_is_release ["thing"] := ⟨_, _, F12, F12.binds (ps := ["thing"]) (fun _ _ _ _ _ _ us hl => match us, hl with | [_], _ => rfl), PySem.W.mg_of X G a12⟩
  have F13 := fun_mk (st := s_is_lot) l13 c13 k13
  have D13 : Def K mg "is_lot" s_is_lot ["thing"] := ⟨_, _, F13, F13.binds (ps := ["thing"]) (fun _ _ _ _ _ _ us hl => match us, hl with | [_], _ => rfl), PySem.W.mg_of X G a13⟩
  have F14 := fun_mk (st := s_is_rule) l14 c14 k14
  have D14 : Def K mg "is_rule" s_is_rule ["thing"] := ⟨_, _, F14, F14.binds (ps := ["thing"]) (fun _ _ _ _ _ _ us hl => match us, hl with | [_], _ => rfl), PySem.W.mg_of X G a14⟩
  have F15 := fun_mk (st := s_is_rules) l15 c15 k15
  have D15 : Def K mg "is_rules" s_is_rules ["thing"] := ⟨_, _, F15, F15.binds (ps := ["thing"]) (fun _ _ _ _ _ _ us hl => match us, hl with | [_], _ => rfl), PySem.W.mg_of X G a15⟩
  have F16 := fun_mk (st := s_lot_in) l16 c16 k16
  have D16 : Def K mg "lot_in" s_lot_in ["rules", "name"] := ⟨_, _, F16, F16.binds (ps := ["rules", "name"]) (fun _ _ _ _ _ _ us hl => match us, hl with | [_, _], _ => rfl), PySem.W.mg_of X G a16⟩
  have F18 := fun_mk (st := s_is_shelf_part) l18 c18 k18
  have D18 : Def K mg "is_shelf_part" s_is_shelf_part ["thing"] := ⟨_, _, F18, F18.binds (ps := ["thing"]) (fun _ _ _ _ _ _ us hl => match us, hl with | [_], _ => rfl), PySem.W.mg_of X G a18⟩
  have F19 := fun_mk (st := s_is_shelf) l19 c19 k19
  have D19 : Def K mg "is_shelf" s_is_shelf ["thing"] := ⟨_, _, F19, F19.binds (ps := ["thing"]) (fun _ _ _ _ _ _ us hl => match us, hl with | [_], _ => rfl), PySem.W.mg_of X G a19⟩
  have F20 := fun_mk (st := s_part_at) l20 c20 k20
  have D20 : Def K mg "part_at" s_part_at ["parts", "release"] := ⟨_, _, F20, F20.binds (ps := ["parts", "release"]) (fun _ _ _ _ _ _ us hl => match us, hl with | [_, _], _ => rfl), PySem.W.mg_of X G a20⟩
  have F21 := fun_mk (st := s_rules_common) l21 c21 k21
  have D21 : Def K mg "rules_common" s_rules_common ["near", "far"] := ⟨_, _, F21, F21.binds (ps := ["near", "far"]) (fun _ _ _ _ _ _ us hl => match us, hl with | [_, _], _ => rfl), PySem.W.mg_of X G a21⟩
  have F22 := fun_mk (st := s_part_common) l22 c22 k22
  have D22 : Def K mg "part_common" s_part_common ["near", "far"] := ⟨_, _, F22, F22.binds (ps := ["near", "far"]) (fun _ _ _ _ _ _ us hl => match us, hl with | [_, _], _ => rfl), PySem.W.mg_of X G a22⟩
  have F23 := fun_mk (st := s_meet_of) l23 c23 k23
  have D23 : Def K mg "meet_of" s_meet_of ["shelf", "other"] := ⟨_, _, F23, F23.binds (ps := ["shelf", "other"]) (fun _ _ _ _ _ _ us hl => match us, hl with | [_, _], _ => rfl), PySem.W.mg_of X G a23⟩
  have F24 := fun_mk (st := s_rules_within) l24 c24 k24
  have D24 : Def K mg "rules_within" s_rules_within ["near", "far"] := ⟨_, _, F24, F24.binds (ps := ["near", "far"]) (fun _ _ _ _ _ _ us hl => match us, hl with | [_, _], _ => rfl), PySem.W.mg_of X G a24⟩
  have F25 := fun_mk (st := s_part_within) l25 c25 k25
  have D25 : Def K mg "part_within" s_part_within ["near", "far"] := ⟨_, _, F25, F25.binds (ps := ["near", "far"]) (fun _ _ _ _ _ _ us hl => match us, hl with | [_, _], _ => rfl), PySem.W.mg_of X G a25⟩
  have F26 := fun_mk (st := s_is_within) l26 c26 k26
  have D26 : Def K mg "is_within" s_is_within ["shelf", "other"] := ⟨_, _, F26, F26.binds (ps := ["shelf", "other"]) (fun _ _ _ _ _ _ us hl => match us, hl with | [_, _], _ => rfl), PySem.W.mg_of X G a26⟩
  have F28 := fun_mk (st := s_law_box) l28 c28 k28
  have D28 : Def K mg "_law_box" s_law_box ["_law_script", "_law_k"] := ⟨_, _, F28, F28.binds (ps := ["_law_script", "_law_k"]) (fun _ _ _ _ _ _ us hl => match us, hl with | [_, _], _ => rfl), PySem.W.mg_of X G a28⟩
  have F29 := fun_mk (st := s_law_take) l29 c29 k29
  have D29 : Def K mg "_law_take" s_law_take ["_law_tin", "_law_below_so"] := ⟨_, _, F29, F29.binds (ps := ["_law_tin", "_law_below_so"]) (fun _ _ _ _ _ _ us hl => match us, hl with | [_, _], _ => rfl), PySem.W.mg_of X G a29⟩
  have F30 := fun_mk (st := s_law_cells) l30 c30 k30
  have D30 : Def K mg "_law_cells" s_law_cells ["_law_script", "_law_most_so"] := ⟨_, _, F30, F30.binds (ps := ["_law_script", "_law_most_so"]) (fun _ _ _ _ _ _ us hl => match us, hl with | [_, _], _ => rfl), PySem.W.mg_of X G a30⟩
  have F31 := fun_mk (st := s_law_of) l31 c31 k31
  have D31 : Def K mg "_law_of" s_law_of ["_law_tin", "_law_goods_so"] := ⟨_, _, F31, F31.binds (ps := ["_law_tin", "_law_goods_so"]) (fun _ _ _ _ _ _ us hl => match us, hl with | [_, _], _ => rfl), PySem.W.mg_of X G a31⟩
  have F32 := fun_mk (st := s_law_pick) l32 c32 k32
  have D32 : Def K mg "_law_pick" s_law_pick ["_law_tin", "_law_goods_so", "_law_count_so"] := ⟨_, _, F32, F32.binds (ps := ["_law_tin", "_law_goods_so", "_law_count_so"]) (fun _ _ _ _ _ _ us hl => match us, hl with | [_, _, _], _ => rfl), PySem.W.mg_of X G a32⟩
  have F33 := fun_mk (st := s_law_lists) l33 c33 k33
  have D33 : Def K mg "_law_lists" s_law_lists ["_law_matter"] := ⟨_, _, F33, F33.binds (ps := ["_law_matter"]) (fun _ _ _ _ _ _ us hl => match us, hl with | [_], _ => rfl), PySem.W.mg_of X G a33⟩
  have F34 := fun_mk (st := s_law_same) l34 c34 k34
  have D34 : Def K mg "_law_same" s_law_same ["_law_got", "_law_due"] := ⟨_, _, F34, F34.binds (ps := ["_law_got", "_law_due"]) (fun _ _ _ _ _ _ us hl => match us, hl with | [_, _], _ => rfl), PySem.W.mg_of X G a34⟩
  have F35 := fun_mk (st := s_law_state) l35 c35 k35
  have D35 : Def K mg "_law_state" s_law_state ["_law_lock_so", "_law_name_so"] := ⟨_, _, F35, F35.binds (ps := ["_law_lock_so", "_law_name_so"]) (fun _ _ _ _ _ _ us hl => match us, hl with | [_, _], _ => rfl), PySem.W.mg_of X G a35⟩
  have F36 := fun_mk (st := s_law_every_lock) l36 c36 k36
  have D36 : Def K mg "_law_every_lock" s_law_every_lock ["_law_releases_so"] := ⟨_, _, F36, F36.binds (ps := ["_law_releases_so"]) (fun _ _ _ _ _ _ us hl => match us, hl with | [_], _ => rfl), PySem.W.mg_of X G a36⟩
  have F37 := fun_mk (st := s_law_on_day) l37 c37 k37
  have D37 : Def K mg "_law_on_day" s_law_on_day ["_law_part_so", "_law_day_so"] := ⟨_, _, F37, F37.binds (ps := ["_law_part_so", "_law_day_so"]) (fun _ _ _ _ _ _ us hl => match us, hl with | [_, _], _ => rfl), PySem.W.mg_of X G a37⟩
  have F38 := fun_mk (st := s_law_stands) l38 c38 k38
  have D38 : Def K mg "_law_stands" s_law_stands ["_law_shelf_so", "_law_day_so", "_law_lock_so"] := ⟨_, _, F38, F38.binds (ps := ["_law_shelf_so", "_law_day_so", "_law_lock_so"]) (fun _ _ _ _ _ _ us hl => match us, hl with | [_, _, _], _ => rfl), PySem.W.mg_of X G a38⟩
  have F39 := fun_mk (st := s_law_shops) l39 c39 k39
  have D39 : Def K mg "_law_shops" s_law_shops [] := ⟨_, _, F39, F39.binds (ps := []) (fun _ _ _ _ _ _ us hl => match us, hl with | [], _ => rfl), PySem.W.mg_of X G a39⟩
  have F40 := fun_mk (st := s_law_some_names) l40 c40 k40
  have D40 : Def K mg "_law_some_names" s_law_some_names ["_law_tin", "_law_most_so"] := ⟨_, _, F40, F40.binds (ps := ["_law_tin", "_law_most_so"]) (fun _ _ _ _ _ _ us hl => match us, hl with | [_, _], _ => rfl), PySem.W.mg_of X G a40⟩
  have F41 := fun_mk (st := s_law_some_goods) l41 c41 k41
  have D41 : Def K mg "_law_some_goods" s_law_some_goods ["_law_tin", "_law_names_so", "_law_most_so"] := ⟨_, _, F41, F41.binds (ps := ["_law_tin", "_law_names_so", "_law_most_so"]) (fun _ _ _ _ _ _ us hl => match us, hl with | [_, _, _], _ => rfl), PySem.W.mg_of X G a41⟩
  have F42 := fun_mk (st := s_law_some_rules) l42 c42 k42
  have D42 : Def K mg "_law_some_rules" s_law_some_rules ["_law_tin", "_law_own", "_law_goods_so"] := ⟨_, _, F42, F42.binds (ps := ["_law_tin", "_law_own", "_law_goods_so"]) (fun _ _ _ _ _ _ us hl => match us, hl with | [_, _, _], _ => rfl), PySem.W.mg_of X G a42⟩
  have F43 := fun_mk (st := s_law_some_shelf) l43 c43 k43
  have D43 : Def K mg "_law_some_shelf" s_law_some_shelf ["_law_tin", "_law_goods_so", "_law_shop_so", "_law_late_so"] := ⟨_, _, F43, F43.binds (ps := ["_law_tin", "_law_goods_so", "_law_shop_so", "_law_late_so"]) (fun _ _ _ _ _ _ us hl => match us, hl with | [_, _, _, _], _ => rfl), PySem.W.mg_of X G a43⟩
  have F44 := fun_mk (st := s_law_lots_met) l44 c44 k44
  have D44 : Def K mg "_law_lots_met" s_law_lots_met ["_law_near_so", "_law_far_so"] := ⟨_, _, F44, F44.binds (ps := ["_law_near_so", "_law_far_so"]) (fun _ _ _ _ _ _ us hl => match us, hl with | [_, _], _ => rfl), PySem.W.mg_of X G a44⟩
  have F45 := fun_mk (st := s_law_met) l45 c45 k45
  have D45 : Def K mg "_law_met" s_law_met ["_law_one_so", "_law_two_so"] := ⟨_, _, F45, F45.binds (ps := ["_law_one_so", "_law_two_so"]) (fun _ _ _ _ _ _ us hl => match us, hl with | [_, _], _ => rfl), PySem.W.mg_of X G a45⟩
  have F46 := fun_mk (st := s_law_inside) l46 c46 k46
  have D46 : Def K mg "_law_inside" s_law_inside ["_law_one_so", "_law_two_so"] := ⟨_, _, F46, F46.binds (ps := ["_law_one_so", "_law_two_so"]) (fun _ _ _ _ _ _ us hl => match us, hl with | [_, _], _ => rfl), PySem.W.mg_of X G a46⟩
  have F47 := fun_mk (st := s_law_by_hand_right) l47 c47 k47
  have D47 : Def K mg "_law_by_hand_right" s_law_by_hand_right [] := ⟨_, _, F47, F47.binds (ps := []) (fun _ _ _ _ _ _ us hl => match us, hl with | [], _ => rfl), PySem.W.mg_of X G a47⟩
  have F48 := fun_mk (st := s_law_like) l48 c48 k48
  have D48 : Def K mg "_law_like" s_law_like ["_law_tin", "_law_shelf_so", "_law_goods_so", "_law_late_so"] := ⟨_, _, F48, F48.binds (ps := ["_law_tin", "_law_shelf_so", "_law_goods_so", "_law_late_so"]) (fun _ _ _ _ _ _ us hl => match us, hl with | [_, _, _, _], _ => rfl), PySem.W.mg_of X G a48⟩
  have F49 := fun_mk (st := s_law_right) l49 c49 k49
  have D49 : Def K mg "_law_right" s_law_right ["_law_tin"] := ⟨_, _, F49, F49.binds (ps := ["_law_tin"]) (fun _ _ _ _ _ _ us hl => match us, hl with | [_], _ => rfl), PySem.W.mg_of X G a49⟩
  have T : Tops K mg := ⟨D1, D2, D3, D4, D5, D6, D7, D11, D12, D13, D14, D15, D16, D18, D19, D20, D21, D22, D23, D24, D25, D26, D28, D29, D30, D31, D32, D33, D34, D35, D36, D37, D38, D39, D40, D41, D42, D43, D44, D45, D46, D47, D48, D49, PySem.W.mg_none_of X G z_isinstance, PySem.W.mg_none_of X G z_list, PySem.W.mg_none_of X G z_tuple, PySem.W.mg_none_of X G z_int, PySem.W.mg_none_of X G z_bool, PySem.W.mg_none_of X G z_str, PySem.W.mg_none_of X G z_len, PySem.W.mg_none_of X G z_all, PySem.W.mg_none_of X G z_zip, PySem.W.mg_none_of X G z_sorted, PySem.W.mg_none_of X G z_set, PySem.W.mg_none_of X G z_max, PySem.W.mg_none_of X G z_min, PySem.W.mg_none_of X G z_abs, PySem.W.mg_none_of X G z_enumerate, PySem.W.mg_none_of X G z_range, PySem.W.mg_none_of X G z_dict, ⟨tS, PySem.W.mg_of X G gS⟩, ⟨tL, PySem.W.mg_of X G gL⟩⟩
  exact ⟨PySem.W.fnOf "law" "law" (defArgs s_law) (defBody s_law) (defScope s_law) .none kV50 dc50 pm50 an50 cd50 ct50, fun s v => .of_eq rfl, fun base _ _ => hyp base _ _ T (fun_mk (st := s_law) l50 c50 k50)⟩
end Lk
open PySem PySem.W PyProof.Rows Lk L2 in
set_option maxHeartbeats 0 in
theorem PySem.Challenge.cw_lockstold_k11_whole_shelves_met_and_with_holds : PySem.Challenge.rw_lockstold_k11_whole_shelves_met_and_with.Holds := by
  w_on; o_law; k_head; (case hw => w_witness2)
  k_fill
  refine L2.walk_of (l := PySem.Challenge.rw_lockstold_k11_whole_shelves_met_and_with) (n := 63) (k := 60) (x := "_law_script") (CX := fun _ => L2.CX0) (sp := fun w => spLaw _) rfl (by decide) rfl ⟨rfl, by decide, by decide⟩ (fun w h Y => PySem.W.kIn_of Y) ?F (fun _ _ a ns hl _ hS => ⟨a, ns, rfl, hS, hl, fun _ => rfl⟩) (fun _ _ _ _ _ h => h)
  case F =>
    intro w mg fa h KX G hmg
    refine' all_mk ?hyp KX G hmg ?a1 ?l1 ?c1 ?k1 ?a2 ?l2 ?c2 ?k2 ?a3 ?l3 ?c3 ?k3 ?a4 ?l4 ?c4 ?k4 ?a5 ?l5 ?c5 ?k5 ?a6 ?l6 ?c6 ?k6 ?a7 ?l7 ?c7 ?k7 ?a11 ?l11 ?c11 ?k11 ?a12 ?l12 ?c12 ?k12 ?a13 ?l13 ?c13 ?k13 ?a14 ?l14 ?c14 ?k14 ?a15 ?l15 ?c15 ?k15 ?a16 ?l16 ?c16 ?k16 ?a18 ?l18 ?c18 ?k18 ?a19 ?l19 ?c19 ?k19 ?a20 ?l20 ?c20 ?k20 ?a21 ?l21 ?c21 ?k21 ?a22 ?l22 ?c22 ?k22 ?a23 ?l23 ?c23 ?k23 ?a24 ?l24 ?c24 ?k24 ?a25 ?l25 ?c25 ?k25 ?a26 ?l26 ?c26 ?k26 ?a28 ?l28 ?c28 ?k28 ?a29 ?l29 ?c29 ?k29 ?a30 ?l30 ?c30 ?k30 ?a31 ?l31 ?c31 ?k31 ?a32 ?l32 ?c32 ?k32 ?a33 ?l33 ?c33 ?k33 ?a34 ?l34 ?c34 ?k34 ?a35 ?l35 ?c35 ?k35 ?a36 ?l36 ?c36 ?k36 ?a37 ?l37 ?c37 ?k37 ?a38 ?l38 ?c38 ?k38 ?a39 ?l39 ?c39 ?k39 ?a40 ?l40 ?c40 ?k40 ?a41 ?l41 ?c41 ?k41 ?a42 ?l42 ?c42 ?k42 ?a43 ?l43 ?c43 ?k43 ?a44 ?l44 ?c44 ?k44 ?a45 ?l45 ?c45 ?k45 ?a46 ?l46 ?c46 ?k46 ?a47 ?l47 ?c47 ?k47 ?a48 ?l48 ?c48 ?k48 ?a49 ?l49 ?c49 ?k49 ?a50 ?l50 ?c50 ?k50 ?gS ?gL ?z_isinstance ?z_list ?z_tuple ?z_int ?z_bool ?z_str ?z_len ?z_all ?z_zip ?z_sorted ?z_set ?z_max ?z_min ?z_abs ?z_enumerate ?z_range ?z_dict
    (case a1 => k_is)
    (case l1 => k_is)
    (case c1 => k_is)
    (case k1 => k_is)
    (case a2 => k_is)
    (case l2 => k_is)
    (case c2 => k_is)
    (case k2 => k_is)
    (case a3 => k_is)
    (case l3 => k_is)
    (case c3 => k_is)
    (case k3 => k_is)
    (case a4 => k_is)
    (case l4 => k_is)
    (case c4 => k_is)
    (case k4 => k_is)
    (case a5 => k_is)
    (case l5 => k_is)
    (case c5 => k_is)
    (case k5 => k_is)
    (case a6 => k_is)
    (case l6 => k_is)
    (case c6 => k_is)
    (case k6 => k_is)
    (case a7 => k_is)
    (case l7 => k_is)
    (case c7 => k_is)
    (case k7 => k_is)
    (case a11 => k_is)
    (case l11 => k_is)
    (case c11 => k_is)
    (case k11 => k_is)
    (case a12 => k_is)
    (case l12 => k_is)
    (case c12 => k_is)
    (case k12 => k_is)
    (case a13 => k_is)
    (case l13 => k_is)
    (case c13 => k_is)
    (case k13 => k_is)
    (case a14 => k_is)
    (case l14 => k_is)
    (case c14 => k_is)
    (case k14 => k_is)
    (case a15 => k_is)
    (case l15 => k_is)
    (case c15 => k_is)
    (case k15 => k_is)
    (case a16 => k_is)
    (case l16 => k_is)
    (case c16 => k_is)
    (case k16 => k_is)
    (case a18 => k_is)
    (case l18 => k_is)
    (case c18 => k_is)
    (case k18 => k_is)
    (case a19 => k_is)
    (case l19 => k_is)
    (case c19 => k_is)
    (case k19 => k_is)
    (case a20 => k_is)
    (case l20 => k_is)
    (case c20 => k_is)
    (case k20 => k_is)
    (case a21 => k_is)
    (case l21 => k_is)
    (case c21 => k_is)
    (case k21 => k_is)
    (case a22 => k_is)
    (case l22 => k_is)
    (case c22 => k_is)
    (case k22 => k_is)
    (case a23 => k_is)
    (case l23 => k_is)
    (case c23 => k_is)
    (case k23 => k_is)
    (case a24 => k_is)
    (case l24 => k_is)
    (case c24 => k_is)
    (case k24 => k_is)
    (case a25 => k_is)
    (case l25 => k_is)
    (case c25 => k_is)
    (case k25 => k_is)
    (case a26 => k_is)
    (case l26 => k_is)
    (case c26 => k_is)
    (case k26 => k_is)
    (case a28 => k_is)
    (case l28 => k_is)
    (case c28 => k_is)
    (case k28 => k_is)
    (case a29 => k_is)
    (case l29 => k_is)
    (case c29 => k_is)
    (case k29 => k_is)
    (case a30 => k_is)
    (case l30 => k_is)
    (case c30 => k_is)
    (case k30 => k_is)
    (case a31 => k_is)
    (case l31 => k_is)
    (case c31 => k_is)
    (case k31 => k_is)
    (case a32 => k_is)
    (case l32 => k_is)
    (case c32 => k_is)
    (case k32 => k_is)
    (case a33 => k_is)
    (case l33 => k_is)
    (case c33 => k_is)
    (case k33 => k_is)
    (case a34 => k_is)
    (case l34 => k_is)
    (case c34 => k_is)
    (case k34 => k_is)
    (case a35 => k_is)
    (case l35 => k_is)
    (case c35 => k_is)
    (case k35 => k_is)
    (case a36 => k_is)
    (case l36 => k_is)
    (case c36 => k_is)
    (case k36 => k_is)
    (case a37 => k_is)
    (case l37 => k_is)
    (case c37 => k_is)
    (case k37 => k_is)
    (case a38 => k_is)
    (case l38 => k_is)
    (case c38 => k_is)
    (case k38 => k_is)
    (case a39 => k_is)
    (case l39 => k_is)
    (case c39 => k_is)
    (case k39 => k_is)
    (case a40 => k_is)
    (case l40 => k_is)
    (case c40 => k_is)
    (case k40 => k_is)
    (case a41 => k_is)
    (case l41 => k_is)
    (case c41 => k_is)
    (case k41 => k_is)
    (case a42 => k_is)
    (case l42 => k_is)
    (case c42 => k_is)
    (case k42 => k_is)
    (case a43 => k_is)
    (case l43 => k_is)
    (case c43 => k_is)
    (case k43 => k_is)
    (case a44 => k_is)
    (case l44 => k_is)
    (case c44 => k_is)
    (case k44 => k_is)
    (case a45 => k_is)
    (case l45 => k_is)
    (case c45 => k_is)
    (case k45 => k_is)
    (case a46 => k_is)
    (case l46 => k_is)
    (case c46 => k_is)
    (case k46 => k_is)
    (case a47 => k_is)
    (case l47 => k_is)
    (case c47 => k_is)
    (case k47 => k_is)
    (case a48 => k_is)
    (case l48 => k_is)
    (case c48 => k_is)
    (case k48 => k_is)
    (case a49 => k_is)
    (case l49 => k_is)
    (case c49 => k_is)
    (case k49 => k_is)
    (case a50 => k_is)
    (case l50 => k_is)
    (case c50 => k_is)
    (case k50 => k_is)
    (case gS => k_is)
    (case gL => k_is)
    (case z_isinstance => k_is)
    (case z_list => k_is)
    (case z_tuple => k_is)
    (case z_int => k_is)
    (case z_bool => k_is)
    (case z_str => k_is)
    (case z_len => k_is)
    (case z_all => k_is)
    (case z_zip => k_is)
    (case z_sorted => k_is)
    (case z_set => k_is)
    (case z_max => k_is)
    (case z_min => k_is)
    (case z_abs => k_is)
    (case z_enumerate => k_is)
    (case z_range => k_is)
    (case z_dict => k_is)
    (case hyp => exact fun base f fd T F => Lk.law_ok T F)
