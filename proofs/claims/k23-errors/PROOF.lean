import PyProof.Rows.All
import Wide.All
import OpenK.AllK
import Wide.FinOn
import HandS.ForMost
import HandS.ForExc
import HandS.IsInst
import HandS.Wide
import HandS.HotCalls
import HandS.ExcInitHot
import HandS.ExcField
import HandS.ExcIs
import HandS.ExcSuper
import KE.KExcSuper
import HandS.ExcInit
import HandS.SuiteRaise
import KE.KExcIs
import PySem.Challenge.RW_surelyseen_k23_errors_are_their_own
set_option Elab.async false
set_option linter.all false
set_option maxRecDepth 100000
set_option maxHeartbeats 4000000
namespace DL
open PySem PySem.Spec PyProof.Rows L2
/-- plain data, as a def of the program sees it; scr: the script; exn: an error that is handled, its dict's address, its fields -/
inductive D where
  | non | bl (b : Bool) | int (i : Int) | str (x : Str) | lst (xs : List D) | tup (xs : List D) | scr (xs : List Int) | exn (a : Addr) (d : Option Addr) (ks : List Str) (ds : List D)
mutual
def Rp (K : PySem.W.Frag) (H : Hp) : V → D → Prop
  | v, .non => v = .non
  | v, .bl b => v = .bl b
  | v, .int i => v = .int i
  | v, .str x => v = .str x
  | v, .lst ds => ∃ a vs, v = .ref a ∧ H a = some (.lst vs) ∧ Rps K H vs ds
  | v, .tup ds => ∃ a vs, v = .ref a ∧ H a = some (.tup vs) ∧ Rps K H vs ds
  | v, .scr ns => ∃ a, v = .ref a ∧ SqL K H a (ns.map V.int)
  | v, .exn a d ks ds => v = .ref a ∧ ((d = none ∧ ks = [] ∧ ds = []) ∨ ∃ (dd : Addr) (vs : List V), d = some dd ∧ H dd = some (.xd (ks.zip vs)) ∧ vs.length = ks.length ∧ Rps K H vs ds)
def Rps (K : PySem.W.Frag) (H : Hp) : List V → List D → Prop
  | vs, [] => vs = []
  | vs, d :: ds => ∃ v ws, vs = v :: ws ∧ Rp K H v d ∧ Rps K H ws ds
end
section
variable {K : PySem.W.Frag} {H H' : Hp}
mutual
theorem Rp.mono (h : Same H H') : ∀ {d : D} {v : V}, Rp K H v d → Rp K H' v d
  | .non, v, r => by simpa only [Rp] using r
  | .bl _, v, r => by simpa only [Rp] using r
  | .int _, v, r => by simpa only [Rp] using r
  | .str _, v, r => by simpa only [Rp] using r
  | .lst ds, v, r => by
    simp only [Rp] at r ⊢
    obtain ⟨a, vs, e, q, z⟩ := r
    exact ⟨a, vs, e, h _ _ q, Rps.mono h z⟩
  | .tup ds, v, r => by
    simp only [Rp] at r ⊢
    obtain ⟨a, vs, e, q, z⟩ := r
    exact ⟨a, vs, e, h _ _ q, Rps.mono h z⟩
  | .scr ns, v, r => by
    simp only [Rp] at r ⊢
    obtain ⟨a, e, q⟩ := r
    exact ⟨a, e, h.seq q⟩
  | .exn a d ks ds, v, r => by
    simp only [Rp] at r ⊢
    refine ⟨r.1, r.2.elim .inl fun ⟨dd, vs, e, q, l, z⟩ => .inr ⟨dd, vs, e, h _ _ q, l, Rps.mono h z⟩⟩
theorem Rps.mono (h : Same H H') : ∀ {ds : List D} {vs : List V}, Rps K H vs ds → Rps K H' vs ds
  | [], vs, r => by simpa only [Rps] using r
  | d :: ds, vs, r => by
    simp only [Rps] at r ⊢
    obtain ⟨v, ws, e, r1, r2⟩ := r
    exact ⟨v, ws, e, Rp.mono h r1, Rps.mono h r2⟩
end
theorem Rps.length : ∀ {ds : List D} {vs : List V}, Rps K H vs ds → vs.length = ds.length
  | [], vs, r => by
    simp only [Rps] at r
    subst r; rfl
  | d :: ds, vs, r => by
    simp only [Rps] at r
    obtain ⟨v, ws, rfl, _, r2⟩ := r
    simp [Rps.length r2]
theorem Rps.append : ∀ {ds es : List D} {vs ws : List V}, Rps K H vs ds → Rps K H ws es → Rps K H (vs ++ ws) (ds ++ es)
  | [], es, vs, ws, r, q => by
    simp only [Rps] at r
    subst r
    exact q
  | d :: ds, es, vs, ws, r, q => by
    simp only [Rps] at r
    obtain ⟨v, us, rfl, r1, r2⟩ := r
    simp only [List.cons_append, Rps]
    exact ⟨v, _, rfl, r1, Rps.append r2 q⟩
theorem Rps.get : ∀ {ds : List D} {vs : List V} {i : Nat} {d : D}, Rps K H vs ds → ds[i]? = some d → ∃ v, vs[i]? = some v ∧ Rp K H v d
  | [], vs, i, d, r, e => by simp at e
  | d :: ds, vs, 0, d', r, e => by
    simp only [Rps] at r
    obtain ⟨v, ws, rfl, r1, _⟩ := r
    simp at e
    subst e
    exact ⟨v, rfl, r1⟩
  | d :: ds, vs, i + 1, d', r, e => by
    simp only [Rps] at r
    obtain ⟨v, ws, rfl, _, r2⟩ := r
    obtain ⟨u, h1, h2⟩ := Rps.get (i := i) r2 (by simpa using e)
    exact ⟨u, by simpa using h1, h2⟩
theorem Rps.reverse : ∀ {ds : List D} {vs : List V}, Rps K H vs ds → Rps K H vs.reverse ds.reverse
  | [], vs, r => by
    simp only [Rps] at r
    subst r
    simp only [List.reverse_nil, Rps]
  | d :: ds, vs, r => by
    simp only [Rps] at r
    obtain ⟨v, ws, rfl, r1, r2⟩ := r
    rw [List.reverse_cons, List.reverse_cons]
    exact (Rps.reverse r2).append (by simp only [Rps]; exact ⟨v, [], rfl, r1, rfl⟩)
theorem same_upd {a : Addr} {o : HO} (h : H a = none) : Same H (upd H a o) := fun b u e => by rw [upd_ne (ne_of_none e h)]; exact e
end
/-- the slots as data; an empty one is of no matter -/
abbrev En := List (Option D)
structure ER (K : PySem.W.Frag) (H : Hp) (σ : List (Option V)) (env : En) : Prop where
  len : σ.length = env.length
  at_ : ∀ (i : Nat) (d : D), env[i]? = some (some d) → ∃ v : V, σ[i]? = some (some v) ∧ Rp K H v d
section
variable {K : PySem.W.Frag} {H H' : Hp} {σ : List (Option V)} {env : En}
theorem ER.mono (h : Same H H') (r : ER K H σ env) : ER K H' σ env := ⟨r.len, fun i d e => by
  obtain ⟨v, h1, h2⟩ := r.at_ i d e
  exact ⟨v, h1, h2.mono h⟩⟩
theorem ER.set {i : Nat} {v : V} {d : D} (r : ER K H σ env) (q : Rp K H v d) : ER K H (σ.set i (some v)) (env.set i (some d)) := by
  refine ⟨by simp [r.len], fun j e h => ?_⟩
  by_cases hj : j = i
  · subst hj
    by_cases hl : j < env.length
    · rw [List.getElem?_set_self hl] at h
      cases h
      exact ⟨v, by rw [List.getElem?_set_self (by rw [r.len]; exact hl)], q⟩
    · rw [List.getElem?_eq_none (by simpa using hl)] at h
      cases h
  · rw [List.getElem?_set_ne (Ne.symm hj)] at h
    rw [List.getElem?_set_ne (Ne.symm hj)]
    exact r.at_ j e h
/-- less is known -/
theorem ER.weak {env' : En} (r : ER K H σ env) (hl : env'.length = env.length) (w : ∀ (i : Nat) (d : D), env'[i]? = some (some d) → env[i]? = some (some d)) : ER K H σ env' :=
  ⟨r.len.trans hl.symm, fun i d e => r.at_ i d (w i d e)⟩
end
/-! ### readings -/
/-- F: what is as it will stay (all plain data lies there); H: all that is tracked. Both grow; what is new in F is new in H -/
structure Gr (F H F' H' : Hp) : Prop where
  ff : Same F F'
  fh : Same F' H'
  hh : Same H H'
  new : ∀ a, F a = none → F' a ≠ none → H a = none
theorem Gr.refl {F H : Hp} (h : Same F H) : Gr F H F H := ⟨Same.refl F, h, Same.refl H, fun _ e n => absurd e n⟩
theorem Gr.trans {F H F1 H1 F2 H2 : Hp} (a : Gr F H F1 H1) (b : Gr F1 H1 F2 H2) : Gr F H F2 H2 := ⟨a.ff.trans b.ff, b.fh, a.hh.trans b.hh, fun x e n => by
  by_cases h : F1 x = none
  · exact a.hh.free (b.new x h n)
  · exact a.new x e h⟩
theorem Gr.upd {F H : Hp} {p : Addr} {o : HO} (h : Same F H) (hp : H p = none) : Gr F H (L2.upd F p o) (L2.upd H p o) := by
  have fp : F p = none := h.free hp
  refine ⟨same_upd fp, fun b u e => ?_, same_upd hp, fun a e n => ?_⟩
  · by_cases hb : b = p
    · subst hb
      rw [upd_same] at e ⊢
      exact e
    · rw [upd_ne hb] at e ⊢
      exact h b u e
  · by_cases hb : a = p
    · subst hb; exact hp
    · rw [upd_ne hb] at n
      exact absurd e n
inductive Out where
  | nx (e : En) | rt (d : D) | bk (e : En) | ct (e : En)
abbrev SE := En → Option D
abbrev SA := En → Option (List D)
abbrev SB := En → Option Bool
abbrev SS := En → Option Out
def uE (K : PySem.W.Frag) (f : SE) : TE := fun σ H Q => ∃ F env d, Same F H ∧ ER K F σ env ∧ f env = some d ∧ ∀ v F' H', Gr F H F' H' → Rp K F' v d → Q v H'
def uB (K : PySem.W.Frag) (f : SB) : TT := fun σ H Q => ∃ F env b, Same F H ∧ ER K F σ env ∧ f env = some b ∧ ∀ F' H', Gr F H F' H' → Q b H'
def uA (K : PySem.W.Frag) (f : SA) : TA := fun σ H Q => ∃ F env ds, Same F H ∧ ER K F σ env ∧ f env = some ds ∧ ∀ vs F' H', Gr F H F' H' → Rps K F' vs ds → Q vs H'
/-- what follows an outcome -/
def OutOk (K : PySem.W.Frag) (T : Ends) (F H : Hp) : Out → Prop
  | .nx e => ∀ σ' F' H', Gr F H F' H' → ER K F' σ' e → T.nx σ' H'
  | .rt d => ∀ v F' H', Gr F H F' H' → Rp K F' v d → T.rt v H'
  | .bk e => ∀ σ' F' H', Gr F H F' H' → ER K F' σ' e → T.bk σ' H'
  | .ct e => ∀ σ' F' H', Gr F H F' H' → ER K F' σ' e → T.ct σ' H'
theorem OutOk.later {K : PySem.W.Frag} {T : Ends} {F H F1 H1 : Hp} {o : Out} (q : OutOk K T F H o) (s1 : Gr F H F1 H1) : OutOk K T F1 H1 o := by
  cases o <;> exact fun a F' H' s r => q a F' H' (s1.trans s) r
def uS (K : PySem.W.Frag) (f : SS) : TS := fun T σ H => ∃ F env o, Same F H ∧ ER K F σ env ∧ f env = some o ∧ OutOk K T F H o
section
variable {X : Cx}
theorem PE.imp {e : Expr} {t t' : TE} (h : PE X e t) (i : ∀ σ H Q, t' σ H Q → t σ H Q) : PE X e t' := ⟨fun pins s σ H Q I q => h.run pins s σ H Q I (i σ H Q q)⟩
theorem PT.imp {e : Expr} {t t' : TT} (h : PT X e t) (i : ∀ σ H Q, t' σ H Q → t σ H Q) : PT X e t' := ⟨fun pins s σ H Q I q => h.run pins s σ H Q I (i σ H Q q)⟩
theorem PA.imp {e : List Expr} {t t' : TA} (h : PA X e t) (i : ∀ σ H Q, t' σ H Q → t σ H Q) : PA X e t' := ⟨fun p pins s σ H Q I q => h.run p pins s σ H Q I (i σ H Q q)⟩
theorem PS.imp {e : Stmt} {t t' : TS} (h : PS X e t) (i : ∀ T σ H, t' T σ H → t T σ H) : PS X e t' := ⟨fun pins s σ H T I q => h.run pins s σ H T I (i T σ H q)⟩
theorem PSs.imp {e : List Stmt} {t t' : TS} (h : PSs X e t) (i : ∀ T σ H, t' T σ H → t T σ H) : PSs X e t' := ⟨fun pins s σ H T I q => h.run pins s σ H T I (i T σ H q)⟩
end
/-! ### pure meanings -/
def mVar (i : Nat) : SE := fun env => (env[i]?).join
def mC (d : D) : SE := fun _ => some d
def m2 (g : D → D → Option D) (fa fb : SE) : SE := fun env => (fa env).bind fun x => (fb env).bind fun y => g x y
def mCons (fa : SE) (fs : SA) : SA := fun env => (fa env).bind fun x => (fs env).bind fun xs => some (x :: xs)
def mNil : SA := fun _ => some []
def mFn (g : List D → Option D) (fs : SA) : SE := fun env => (fs env).bind g
def gLst (ds : List D) : Option D := if ds.length ≤ 1000000 then some (.lst ds) else none
def gTup (ds : List D) : Option D := if ds.length ≤ 1000000 then some (.tup ds) else none
def gAdd : D → D → Option D
  | .int i, .int j => some (.int (i + j))
  | .str x, .str y => if x.length + y.length ≤ 1000000 then some (.str (x ++ y)) else none
  | .lst x, .lst y => if x.length + y.length ≤ 1000000 then some (.lst (x ++ y)) else none
  | _, _ => none
def gSub : D → D → Option D
  | .int i, .int j => some (.int (i - j))
  | _, _ => none
def gMul : D → D → Option D
  | .int i, .int j => if (-(2 ^ 64) < i ∧ i < 2 ^ 64) ∨ (-(2 ^ 64) < j ∧ j < 2 ^ 64) then some (.int (i * j)) else none
  | _, _ => none
def gMod : D → D → Option D
  | .int i, .int j => if 0 < j then some (.int (i % j)) else none
  | _, _ => none
def gDiv : D → D → Option D
  | .int i, .int j => if 0 < j ∧ j < 1073741824 then some (.int (i / j)) else none
  | _, _ => none
def gPow : D → D → Option D
  | .int i, .int j => if 0 ≤ j ∧ j ≤ 1000000 ∧ i.natAbs < 2 ^ 64 then some (.int (i ^ j.toNat)) else none
  | _, _ => none
def gLt : D → D → Option D
  | .int i, .int j => some (.bl (decide (i < j)))
  | _, _ => none
def gGt : D → D → Option D
  | .int i, .int j => some (.bl (decide (j < i)))
  | _, _ => none
def gGe : D → D → Option D
  | .int i, .int j => some (.bl (decide (j ≤ i)))
  | _, _ => none
/-- == of numbers, truths, texts of one kind -/
def gEq : D → D → Option D
  | .int i, .int j => some (.bl (decide (i = j)))
  | .bl i, .bl j => some (.bl (decide (i = j)))
  | .str i, .str j => some (.bl (decide (i = j)))
  | _, _ => none
def gNe : D → D → Option D
  | .int i, .int j => some (.bl (!decide (i = j)))
  | .bl i, .bl j => some (.bl (!decide (i = j)))
  | .str i, .str j => some (.bl (!decide (i = j)))
  | _, _ => none
def gIx : D → D → Option D
  | .lst xs, .int i => atI xs i
  | .tup xs, .int i => atI xs i
  | .scr xs, .int i => (atI xs i).map D.int
  | .str z, .int i => if z.length ≤ 1000000 then (atI z.cps.toList i).map fun c => D.str ⟨#[c]⟩ else none
  | _, _ => none
def gLen : List D → Option D
  | [.lst xs] => some (.int xs.length)
  | [.tup xs] => some (.int xs.length)
  | [.scr xs] => some (.int xs.length)
  | [.str z] => if z.length ≤ 1000000 then some (.int z.length) else none
  | _ => none
def gInt : List D → Option D
  | [.int i] => some (.int i)
  | _ => none
def gIsN : D → Option D
  | .non => some (.bl true)
  | .scr _ => none
  | .exn .. => none
  | _ => some (.bl false)
def allInts : List D → Option (List Int)
  | [] => some []
  | .int i :: r => (allInts r).map (i :: ·)
  | _ => none
def gIn : D → D → Option D
  | .int i, .lst ds => (allInts ds).map fun ns => .bl (decide (i ∈ ns))
  | _, _ => none
end DL
namespace DL
open PySem PySem.Spec PyProof.Rows L2
theorem le_line {n : Nat} (h : n ≤ 1000000) : n ≤ sizeLine := by
  rw [sizeLine_eq]; omega
section
variable {X : Cx} {K : PySem.W.Frag}
theorem rp_int {H : Hp} {v : V} {i : Int} (r : Rp K H v (.int i)) : v = .int i := by simpa only [Rp] using r
theorem rp_bl {H : Hp} {v : V} {i : Bool} (r : Rp K H v (.bl i)) : v = .bl i := by simpa only [Rp] using r
theorem rp_str {H : Hp} {v : V} {i : Str} (r : Rp K H v (.str i)) : v = .str i := by simpa only [Rp] using r
theorem rp_non {H : Hp} {v : V} (r : Rp K H v .non) : v = .non := by simpa only [Rp] using r
theorem rp_lst {H : Hp} {v : V} {ds : List D} (r : Rp K H v (.lst ds)) : ∃ a vs, v = .ref a ∧ H a = some (.lst vs) ∧ Rps K H vs ds := by simpa only [Rp] using r
theorem rp_tup {H : Hp} {v : V} {ds : List D} (r : Rp K H v (.tup ds)) : ∃ a vs, v = .ref a ∧ H a = some (.tup vs) ∧ Rps K H vs ds := by simpa only [Rp] using r
theorem rp_scr {H : Hp} {v : V} {ns : List Int} (r : Rp K H v (.scr ns)) : ∃ a, v = .ref a ∧ SqL K H a (ns.map V.int) := by simpa only [Rp] using r
theorem Rp.I {H : Hp} {i : Int} : Rp K H (.int i) (.int i) := by simp only [Rp]
theorem Rp.B {H : Hp} {i : Bool} : Rp K H (.bl i) (.bl i) := by simp only [Rp]
theorem Rp.S {H : Hp} {i : Str} : Rp K H (.str i) (.str i) := by simp only [Rp]
theorem Rp.N {H : Hp} : Rp K H .non .non := by simp only [Rp]
theorem Rp.L {H : Hp} {a : Addr} {vs : List V} {ds : List D} (h : H a = some (.lst vs)) (r : Rps K H vs ds) : Rp K H (.ref a) (.lst ds) := by
  simp only [Rp]
  exact ⟨a, vs, rfl, h, r⟩
theorem Rp.T {H : Hp} {a : Addr} {vs : List V} {ds : List D} (h : H a = some (.tup vs)) (r : Rps K H vs ds) : Rp K H (.ref a) (.tup ds) := by
  simp only [Rp]
  exact ⟨a, vs, rfl, h, r⟩
/-- a new list, a new tuple -/
theorem newL {F H : Hp} {vs : List V} {ds : List D} {Q : VK} (h : Same F H) (r : Rps K F vs ds) (q : ∀ v F' H', Gr F H F' H' → Rp K F' v (.lst ds) → Q v H') : ∀ p : Addr, H p = none → Q (.ref p) (upd H p (.lst vs)) := fun p hp =>
  q _ _ _ (Gr.upd h hp) (Rp.L upd_same (r.mono (same_upd (h.free hp))))
theorem newT {F H : Hp} {vs : List V} {ds : List D} {Q : VK} (h : Same F H) (r : Rps K F vs ds) (q : ∀ v F' H', Gr F H F' H' → Rp K F' v (.tup ds) → Q v H') : ∀ p : Addr, H p = none → Q (.ref p) (upd H p (.tup vs)) := fun p hp =>
  q _ _ _ (Gr.upd h hp) (Rp.T upd_same (r.mono (same_upd (h.free hp))))
/-! ### expressions -/
theorem d_var (i : Nat) {x : Str} {pos : Pos} (hN : X.N[i]? = some x := by rfl) (hv : Vis X.env.scope x := by first | exact Or.inl rfl | exact Or.inr (Or.inl rfl) | exact Or.inr (Or.inr rfl)) (hd : (x == ("__debug__" : Str)) = false := by decide)
    (hcd : (x == ("__classdict__" : Str)) = false := by decide) : PE X (.Name x pos) (uE X.K (mVar i)) := by
  refine PE.imp (pe_var hN hv hd hcd) fun σ H Q h => ?_
  obtain ⟨F, env, d, sh, r, e, q⟩ := h
  have e' : env[i]? = some (some d) := by
    unfold mVar at e
    cases z : env[i]? with
    | none => rw [z] at e; cases e
    | some o => rw [z] at e; cases o with
      | none => cases e
      | some d' => cases e; rfl
  obtain ⟨v, h1, h2⟩ := r.at_ i d e'
  exact ⟨v, h1, q v F H (Gr.refl sh) h2⟩
theorem d_cst {e : Expr} {v : V} {d : D} (h : PE X e (tC v)) (r : ∀ H, Rp X.K H v d) : PE X e (uE X.K (mC d)) := PE.imp h fun σ H Q h => by
  obtain ⟨F, env, d', sh, _, e, q⟩ := h
  cases e
  exact q v F H (Gr.refl sh) (r F)
theorem d_int {i : Int} {j : Nat} {pos : Pos} : PE X (.Constant (.int i) j pos) (uE X.K (mC (.int i))) := d_cst pe_int fun _ => Rp.I
theorem d_bl {i : Bool} {j : Nat} {pos : Pos} : PE X (.Constant (.bool i) j pos) (uE X.K (mC (.bl i))) := d_cst pe_bl fun _ => Rp.B
theorem d_str {i : Str} {j : Nat} {pos : Pos} : PE X (.Constant (.str i) j pos) (uE X.K (mC (.str i))) := d_cst pe_str fun _ => Rp.S
theorem d_non {j : Nat} {pos : Pos} : PE X (.Constant .none j pos) (uE X.K (mC .non)) := d_cst pe_non fun _ => Rp.N
/-- a rule for two values does what g says -/
def Does (K : PySem.W.Frag) (r : R2) (g : D → D → Option D) : Prop := ∀ (x y : V) (F H : Hp) (Q : VK) (a b d : D), Same F H → Rp K F x a → Rp K F y b → g a b = some d → (∀ v F' H', Gr F H F' H' → Rp K F' v d → Q v H') → r x y H Q
theorem u2 {r : R2} {g : D → D → Option D} {fa fb : SE} (h : Does K r g) : ∀ σ H Q, uE K (m2 g fa fb) σ H Q → tOp r (uE K fa) (uE K fb) σ H Q := fun σ H Q ⟨F, env, d, sh, re, e, q⟩ => by
  unfold m2 at e
  cases ea : fa env with
  | none => rw [ea] at e; cases e
  | some a =>
    rw [ea] at e
    cases eb : fb env with
    | none => rw [eb] at e; cases e
    | some b =>
      rw [eb] at e
      exact ⟨F, env, a, sh, re, ea, fun x F1 H1 s1 r1 => ⟨F1, env, b, s1.fh, re.mono s1.ff, eb, fun y F2 H2 s2 r2 => h x y F2 H2 Q a b d s2.fh (r1.mono s2.ff) r2 e fun v F' H' s3 r3 => q v F' H' ((s1.trans s2).trans s3) r3⟩⟩
theorem d_op {a b : Expr} {fa fb : SE} {pos : Pos} {op : Operator} {r : R2} {g : D → D → Option D} (ho : OpR X (binaryOp op) r) (h : Does X.K r g) (ha : PE X a (uE X.K fa)) (hb : PE X b (uE X.K fb)) : PE X (.BinOp a op b pos) (uE X.K (m2 g fa fb)) :=
  PE.imp (pe_op ho ha hb) (u2 h)
theorem d_cmp {a b : Expr} {fa fb : SE} {pos : Pos} {op : CmpOp} {r : R2} {g : D → D → Option D} (ho : OpR X (compareOp op) r) (h : Does X.K r g) (ha : PE X a (uE X.K fa)) (hb : PE X b (uE X.K fb)) (hm : behindInMarks op b = false) : PE X (.Compare a [op] [b] pos) (uE X.K (m2 g fa fb)) :=
  PE.imp (pe_cmpR ho ha hb hm) (u2 h)
theorem does_add : Does K (fun x y H Q => (rI0 (fun i j => V.int (i + j)) x y H Q) ∨ ((fun x y H Q => ∃ i j, x = V.str i ∧ y = V.str j ∧ i.length + j.length ≤ sizeLine ∧ Q (.str (i ++ j)) H) x y H Q ∨ rCat x y H Q)) gAdd := fun x y F H Q a b d sh ra rb e q => by
  cases a <;> cases b <;> simp only [gAdd] at e <;> try cases e
  · rw [rp_int ra, rp_int rb]
    exact .inl ⟨_, _, rfl, rfl, q _ _ _ (Gr.refl sh) Rp.I⟩
  · split at e
    · rename_i hl
      cases e
      rw [rp_str ra, rp_str rb]
      exact .inr (.inl ⟨_, _, rfl, rfl, le_line hl, q _ _ _ (Gr.refl sh) Rp.S⟩)
    · cases e
  · split at e
    · rename_i hl
      cases e
      obtain ⟨p, vs, rfl, h1, r1⟩ := rp_lst ra
      obtain ⟨p2, ws, rfl, h2, r2⟩ := rp_lst rb
      exact .inr (.inr ⟨_, _, _, _, rfl, rfl, sh _ _ h1, sh _ _ h2, by rw [r1.length, r2.length]; exact le_line hl, newL sh (r1.append r2) q⟩)
    · cases e
theorem d_add {a b : Expr} {fa fb : SE} {pos : Pos} (ha : PE X a (uE X.K fa)) (hb : PE X b (uE X.K fb)) : PE X (.BinOp a .Add b pos) (uE X.K (m2 gAdd fa fb)) := d_op (op_add.or (op_add_str.or op_cat)) does_add ha hb
theorem does_i {r : R2} {g : Int → Int → D} {gg : D → D → Option D} (C : Int → Int → Prop) (w : Int → Int → V) (hr : ∀ i j H Q, C i j → Q (w i j) H → r (.int i) (.int j) H Q) (hg : ∀ a b d, gg a b = some d → ∃ i j, a = .int i ∧ b = .int j ∧ d = g i j ∧ C i j)
    (hw : ∀ i j H, Rp K H (w i j) (g i j)) : Does K r gg := fun x y F H Q a b d sh ra rb e q => by
  obtain ⟨i, j, rfl, rfl, rfl, c⟩ := hg a b d e
  rw [rp_int ra, rp_int rb]
  exact hr i j H Q c (q _ _ _ (Gr.refl sh) (hw i j F))
theorem d_sub {a b : Expr} {fa fb : SE} {pos : Pos} (ha : PE X a (uE X.K fa)) (hb : PE X b (uE X.K fb)) : PE X (.BinOp a .Sub b pos) (uE X.K (m2 gSub fa fb)) :=
  d_op op_sub (does_i (fun _ _ => True) (fun i j => .int (i - j)) (fun i j H Q _ q => ⟨i, j, rfl, rfl, q⟩) (fun a b d e => by
    cases a <;> cases b <;> simp only [gSub] at e <;> cases e
    exact ⟨_, _, rfl, rfl, rfl, trivial⟩) fun _ _ _ => Rp.I) ha hb
theorem d_mul {a b : Expr} {fa fb : SE} {pos : Pos} (ha : PE X a (uE X.K fa)) (hb : PE X b (uE X.K fb)) : PE X (.BinOp a .Mult b pos) (uE X.K (m2 gMul fa fb)) :=
  d_op op_mul (does_i CMul (fun i j => .int (i * j)) (fun i j H Q c q => ⟨i, j, rfl, rfl, c, q⟩) (fun a b d e => by
    cases a <;> cases b <;> simp only [gMul] at e <;> try cases e
    split at e
    · rename_i c
      cases e
      exact ⟨_, _, rfl, rfl, rfl, c⟩
    · cases e) fun _ _ _ => Rp.I) ha hb
theorem d_mod {a b : Expr} {fa fb : SE} {pos : Pos} (ha : PE X a (uE X.K fa)) (hb : PE X b (uE X.K fb)) : PE X (.BinOp a .Mod b pos) (uE X.K (m2 gMod fa fb)) :=
  d_op op_mod (does_i (fun _ j => 0 < j) (fun i j => .int (i % j)) (fun i j H Q c q => ⟨i, j, rfl, rfl, c, q⟩) (fun a b d e => by
    cases a <;> cases b <;> simp only [gMod] at e <;> try cases e
    split at e
    · rename_i c
      cases e
      exact ⟨_, _, rfl, rfl, rfl, c⟩
    · cases e) fun _ _ _ => Rp.I) ha hb
theorem d_div {a b : Expr} {fa fb : SE} {pos : Pos} (ha : PE X a (uE X.K fa)) (hb : PE X b (uE X.K fb)) : PE X (.BinOp a .FloorDiv b pos) (uE X.K (m2 gDiv fa fb)) :=
  d_op op_fdivW (does_i (fun _ j => 0 < j ∧ j < 1073741824) (fun i j => .int (i / j)) (fun i j H Q c q => ⟨i, j, rfl, rfl, wide_div (b := 30) c.1 (by have := c.2; omega) (by decide) (by decide), q⟩) (fun a b d e => by
    cases a <;> cases b <;> simp only [gDiv] at e <;> try cases e
    split at e
    · rename_i c
      cases e
      exact ⟨_, _, rfl, rfl, rfl, c⟩
    · cases e) fun _ _ _ => Rp.I) ha hb
theorem d_pow {a b : Expr} {fa fb : SE} {pos : Pos} (ha : PE X a (uE X.K fa)) (hb : PE X b (uE X.K fb)) : PE X (.BinOp a .Pow b pos) (uE X.K (m2 gPow fa fb)) :=
  d_op op_pow (does_i CPow (fun i j => .int (i ^ j.toNat)) (fun i j H Q c q => ⟨i, j, rfl, rfl, c, q⟩) (fun a b d e => by
    cases a <;> cases b <;> simp only [gPow] at e <;> try cases e
    split at e
    · rename_i c
      cases e
      exact ⟨_, _, rfl, rfl, rfl, c⟩
    · cases e) fun _ _ _ => Rp.I) ha hb
theorem d_lt {a b : Expr} {fa fb : SE} {pos : Pos} (ha : PE X a (uE X.K fa)) (hb : PE X b (uE X.K fb)) (hm : behindInMarks .Lt b = false) : PE X (.Compare a [.Lt] [b] pos) (uE X.K (m2 gLt fa fb)) :=
  d_cmp op_lt (does_i (fun _ _ => True) (fun i j => .bl (decide (i < j))) (fun i j H Q c q => ⟨i, j, rfl, rfl, q⟩) (fun a b d e => by
    cases a <;> cases b <;> simp only [gLt] at e <;> cases e
    exact ⟨_, _, rfl, rfl, rfl, trivial⟩) fun _ _ _ => Rp.B) ha hb hm
theorem d_gt {a b : Expr} {fa fb : SE} {pos : Pos} (ha : PE X a (uE X.K fa)) (hb : PE X b (uE X.K fb)) (hm : behindInMarks .Gt b = false) : PE X (.Compare a [.Gt] [b] pos) (uE X.K (m2 gGt fa fb)) :=
  d_cmp op_gt (does_i (fun _ _ => True) (fun i j => .bl (decide (j < i))) (fun i j H Q c q => ⟨i, j, rfl, rfl, q⟩) (fun a b d e => by
    cases a <;> cases b <;> simp only [gGt] at e <;> cases e
    exact ⟨_, _, rfl, rfl, rfl, trivial⟩) fun _ _ _ => Rp.B) ha hb hm
theorem d_ge {a b : Expr} {fa fb : SE} {pos : Pos} (ha : PE X a (uE X.K fa)) (hb : PE X b (uE X.K fb)) (hm : behindInMarks .GtE b = false) : PE X (.Compare a [.GtE] [b] pos) (uE X.K (m2 gGe fa fb)) :=
  d_cmp op_ge (does_i (fun _ _ => True) (fun i j => .bl (decide (j ≤ i))) (fun i j H Q c q => ⟨i, j, rfl, rfl, q⟩) (fun a b d e => by
    cases a <;> cases b <;> simp only [gGe] at e <;> cases e
    exact ⟨_, _, rfl, rfl, rfl, trivial⟩) fun _ _ _ => Rp.B) ha hb hm
theorem dec_int (i j : Int) : decide (V.int i = V.int j) = decide (i = j) := by
  by_cases h : i = j
  · subst h; simp
  · have : ¬ V.int i = V.int j := fun z => h (V.int.inj z)
    rw [decide_eq_false h, decide_eq_false this]
theorem dec_bl (i j : Bool) : decide (V.bl i = V.bl j) = decide (i = j) := by
  by_cases h : i = j
  · subst h; simp
  · have : ¬ V.bl i = V.bl j := fun z => h (V.bl.inj z)
    rw [decide_eq_false h, decide_eq_false this]
theorem dec_str (i j : Str) : decide (V.str i = V.str j) = decide (i = j) := by
  by_cases h : i = j
  · subst h; simp
  · have : ¬ V.str i = V.str j := fun z => h (V.str.inj z)
    rw [decide_eq_false h, decide_eq_false this]
theorem does_eq : Does K rEq gEq := fun x y F H Q a b d sh ra rb e q => by
  cases a <;> cases b <;> simp only [gEq] at e <;> cases e
  · rw [rp_bl ra, rp_bl rb]
    exact ⟨rfl, by rw [dec_bl]; exact q _ _ _ (Gr.refl sh) Rp.B⟩
  · rw [rp_int ra, rp_int rb]
    exact ⟨rfl, by rw [dec_int]; exact q _ _ _ (Gr.refl sh) Rp.B⟩
  · rw [rp_str ra, rp_str rb]
    exact ⟨rfl, by rw [dec_str]; exact q _ _ _ (Gr.refl sh) Rp.B⟩
theorem does_ne : Does K rNe gNe := fun x y F H Q a b d sh ra rb e q => by
  cases a <;> cases b <;> simp only [gNe] at e <;> cases e
  · rw [rp_bl ra, rp_bl rb]
    exact ⟨rfl, by rw [dec_bl]; exact q _ _ _ (Gr.refl sh) Rp.B⟩
  · rw [rp_int ra, rp_int rb]
    exact ⟨rfl, by rw [dec_int]; exact q _ _ _ (Gr.refl sh) Rp.B⟩
  · rw [rp_str ra, rp_str rb]
    exact ⟨rfl, by rw [dec_str]; exact q _ _ _ (Gr.refl sh) Rp.B⟩
theorem d_eq {a b : Expr} {fa fb : SE} {pos : Pos} (ha : PE X a (uE X.K fa)) (hb : PE X b (uE X.K fb)) (hm : behindInMarks .Eq b = false) : PE X (.Compare a [.Eq] [b] pos) (uE X.K (m2 gEq fa fb)) := d_cmp op_eq does_eq ha hb hm
theorem d_ne {a b : Expr} {fa fb : SE} {pos : Pos} (ha : PE X a (uE X.K fa)) (hb : PE X b (uE X.K fb)) (hm : behindInMarks .NotEq b = false) : PE X (.Compare a [.NotEq] [b] pos) (uE X.K (m2 gNe fa fb)) := d_cmp op_ne does_ne ha hb hm
/-! ### displays, subscripts -/
theorem a_nil : PA X [] (uA X.K mNil) := PA.imp pa_nil fun σ H Q ⟨F, env, ds, sh, r, e, q⟩ => by
  cases e
  exact q [] F H (Gr.refl sh) (by simp only [Rps])
theorem a_cons {e : Expr} {es : List Expr} {fa : SE} {fs : SA} (ha : PE X e (uE X.K fa)) (hs : PA X es (uA X.K fs)) (he : starEach (e :: es) X.env = (false, eval e X.env) :: starEach es X.env := by rfl) : PA X (e :: es) (uA X.K (mCons fa fs)) :=
  PA.imp (pa_cons ha hs he) fun σ H Q ⟨F, env, d, sh, re, e, q⟩ => by
    unfold mCons at e
    cases ea : fa env with
    | none => rw [ea] at e; cases e
    | some a =>
      rw [ea] at e
      cases eb : fs env with
      | none => rw [eb] at e; cases e
      | some b =>
        rw [eb] at e
        cases e
        exact ⟨F, env, a, sh, re, ea, fun x F1 H1 s1 r1 => ⟨F1, env, b, s1.fh, re.mono s1.ff, eb, fun ys F2 H2 s2 r2 => q _ _ _ (s1.trans s2) (by simp only [Rps]; exact ⟨x, ys, rfl, r1.mono s2.ff, r2⟩)⟩⟩
theorem uFn {g : List D → Option D} {fs : SA} {r : List V → Hp → VK → Prop} (h : ∀ vs ds F H Q d, Same F H → Rps K F vs ds → g ds = some d → (∀ v F' H', Gr F H F' H' → Rp K F' v d → Q v H') → r vs H Q) : ∀ σ H Q, uE K (mFn g fs) σ H Q → uA K fs σ H (fun vs H1 => r vs H1 Q) :=
  fun σ H Q ⟨F, env, d, sh, re, e, q⟩ => by
    unfold mFn at e
    cases ea : fs env with
    | none => rw [ea] at e; cases e
    | some ds =>
      rw [ea] at e
      exact ⟨F, env, ds, sh, re, ea, fun vs F1 H1 s1 r1 => h vs ds F1 H1 Q d s1.fh r1 e fun v F' H' s2 r2 => q v F' H' (s1.trans s2) r2⟩
theorem d_lst {es : List Expr} {fs : SA} {pos : Pos} (h : PA X es (uA X.K fs)) : PE X (.List es pos) (uE X.K (mFn gLst fs)) :=
  PE.imp (pe_lst h) (uFn (r := fun xs H1 Q => xs.length ≤ sizeLine ∧ ∀ p : Addr, H1 p = none → Q (V.ref p) (upd H1 p (HO.lst xs))) fun vs ds F H Q d sh r e q => by
    unfold gLst at e
    split at e
    · rename_i hl
      cases e
      exact ⟨by rw [r.length]; exact le_line hl, newL sh r q⟩
    · cases e)
theorem d_tup {es : List Expr} {fs : SA} {n : Nat} {pos : Pos} (h : PA X es (uA X.K fs)) : PE X (.Tuple es n pos) (uE X.K (mFn gTup fs)) :=
  PE.imp (pe_tup h) (uFn (r := fun xs H1 Q => xs.length ≤ sizeLine ∧ ∀ p : Addr, H1 p = none → Q (V.ref p) (upd H1 p (HO.tup xs))) fun vs ds F H Q d sh r e q => by
    unfold gTup at e
    split at e
    · rename_i hl
      cases e
      exact ⟨by rw [r.length]; exact le_line hl, newT sh r q⟩
    · cases e)
theorem atI_of {α β : Type} {xs : List α} {ys : List β} {R : α → β → Prop} {i : Int} {y : β} (hl : xs.length = ys.length) (h : ∀ (j : Nat) (z : β), ys[j]? = some z → ∃ x, xs[j]? = some x ∧ R x z) (e : atI ys i = some y) : ∃ x, atI xs i = some x ∧ R x y := by
  unfold atI at e ⊢
  rw [hl]
  cases q : ixN ys.length i with
  | none => rw [q] at e; cases e
  | some j =>
    rw [q] at e
    obtain ⟨x, h1, h2⟩ := h j y e
    exact ⟨x, h1, h2⟩
theorem does_ix : Does K (rIx K) gIx := fun x y F H Q a b d sh ra rb e q => by
  cases a <;> cases b <;> simp only [gIx] at e <;> try cases e
  · split at e
    · rename_i z i hl
      cases h : atI z.cps.toList i with
      | none => rw [h] at e; cases e
      | some c =>
        rw [h] at e
        cases e
        rw [rp_str ra, rp_int rb]
        exact .inr (.inr ⟨_, _, _, rfl, rfl, le_line hl, h, q _ _ _ (Gr.refl sh) Rp.S⟩)
    · cases e
  · obtain ⟨p, vs, rfl, h1, r1⟩ := rp_lst ra
    rw [rp_int rb]
    obtain ⟨v, h2, h3⟩ := atI_of (R := fun v d => Rp K F v d) r1.length (fun j z hz => r1.get hz) e
    exact .inl ⟨_, _, _, _, rfl, rfl, .inl (.inl (sh _ _ h1)), h2, q _ _ _ (Gr.refl sh) h3⟩
  · obtain ⟨p, vs, rfl, h1, r1⟩ := rp_tup ra
    rw [rp_int rb]
    obtain ⟨v, h2, h3⟩ := atI_of (R := fun v d => Rp K F v d) r1.length (fun j z hz => r1.get hz) e
    exact .inr (.inl ⟨_, _, _, _, rfl, rfl, .inl (.inl (sh _ _ h1)), h2, q _ _ _ (Gr.refl sh) h3⟩)
  · rename_i ns i
    obtain ⟨p, rfl, h1⟩ := rp_scr ra
    rw [rp_int rb]
    cases h : atI ns i with
    | none => rw [h] at e; cases e
    | some c =>
      rw [h] at e
      cases e
      obtain ⟨v, h2, h3⟩ := atI_of (xs := ns.map V.int) (R := fun v c => v = V.int c) (by simp) (fun j z hz => ⟨V.int z, by simp [hz], rfl⟩) h
      subst h3
      exact .inl ⟨_, _, _, _, rfl, rfl, sh.seq h1, h2, q _ _ _ (Gr.refl sh) Rp.I⟩
theorem d_ix {a b : Expr} {fa fb : SE} {pos : Pos} (ha : PE X a (uE X.K fa)) (hb : PE X b (uE X.K fb)) (hs : PlainIx b) : PE X (.Subscript a b pos) (uE X.K (m2 gIx fa fb)) :=
  PE.imp (pe_ix ix_seq ha hb hs) (u2 does_ix)
end
end DL
namespace DL
open PySem PySem.Spec PyProof.Rows L2
/-- the built-in class of a value -/
def tyD : D → Option String
  | .non => some "NoneType"
  | .bl _ => some "bool"
  | .int _ => some "int"
  | .str _ => some "str"
  | .lst _ => some "list"
  | .tup _ => some "tuple"
  | .scr _ => none
  | .exn .. => none
def isB (a b : String) : Bool := a == b || (a == "bool" && b == "int")
def gIsi (T : String) (d : D) : Option D := (tyD d).map fun a => .bl (isB a T)
def mIsi (T : String) (f : SE) : SE := fun env => (f env).bind (gIsi T)
def mB (f : SE) : SB := fun env => (f env).bind fun d => match d with
  | .bl b => some b
  | _ => none
def mAnd (f g : SB) : SB := fun env => (f env).bind fun b => if b = true then g env else some false
def mOr (f g : SB) : SB := fun env => (f env).bind fun b => if b = true then some true else g env
def mNot (f : SB) : SB := fun env => (f env).map fun b => !b
def mV (f : SB) : SE := fun env => (f env).map D.bl
def mIsN (f : SE) : SE := fun env => (f env).bind gIsN
/-- statements -/
def sAsg (i : Nat) (f : SE) : SS := fun env => (f env).map fun d => .nx (env.set i (some d))
def sRet (f : SE) : SS := fun env => (f env).map fun d => .rt d
def sIf (c : SB) (f g : SS) : SS := fun env => (c env).bind fun b => if b = true then f env else g env
def sNext : SS := fun env => some (.nx env)
def sSeq (f g : SS) : SS := fun env => (f env).bind fun o => match o with
  | .nx e => g e
  | o => some o
section
variable {X : Cx} {K : PySem.W.Frag}
theorem d_fn {e : Expr} {es : List Expr} {fs : SA} {g : List D → Option D} {x : Str} {p pos : Pos} {id : String} {r : List V → Hp → VK → Prop} (hc : CallR X (.builtin id) r) (hm : X.mg x = none) (hv : bootBuiltins x = some (.builtin id))
    (h : ∀ vs ds F H Q d, Same F H → Rps X.K F vs ds → g ds = some d → (∀ v F' H', Gr F H F' H' → Rp X.K F' v d → Q v H') → r vs H Q) (ha : PA X (e :: es) (uA X.K fs)) (hg : Gl X x := by rfl) (hn : x ≠ ("__name__" : Str) := by decide) (hd : (x == ("__debug__" : Str)) = false := by decide)
    (hs : starEach (e :: es) X.env = (false, eval e X.env) :: starEach es X.env := by rfl) (hp : (backTo pos (starEach es X.env)).any (·.1) = false := by rfl) : PE X (.Call (.Name x p) (e :: es) [] pos) (uE X.K (mFn g fs)) :=
  PE.imp (pe_callB hc hg hm hv ha hn hd hs hp) (uFn h)
theorem len_does : ∀ (vs : List V) (ds : List D) (F H : Hp) (Q : VK) (d : D), Same F H → Rps K F vs ds → gLen ds = some d → (∀ v F' H', Gr F H F' H' → Rp K F' v d → Q v H') → ∃ x n, vs = [x] ∧ LenV K x H n ∧ Q (.int n) H := fun vs ds F H Q d sh r e q => by
  match ds, e, r with
  | [.lst xs], e, r =>
    cases e
    simp only [Rps] at r
    obtain ⟨v, ws, rfl, r1, rfl⟩ := r
    obtain ⟨a, us, rfl, h1, r2⟩ := rp_lst r1
    exact ⟨_, us.length, rfl, .inl ⟨us, .inl (.inl (sh _ _ h1)), rfl⟩, by rw [r2.length]; exact q _ _ _ (Gr.refl sh) Rp.I⟩
  | [.tup xs], e, r =>
    cases e
    simp only [Rps] at r
    obtain ⟨v, ws, rfl, r1, rfl⟩ := r
    obtain ⟨a, us, rfl, h1, r2⟩ := rp_tup r1
    exact ⟨_, us.length, rfl, .inr ⟨us, .inl (.inl (sh _ _ h1)), rfl⟩, by rw [r2.length]; exact q _ _ _ (Gr.refl sh) Rp.I⟩
  | [.scr xs], e, r =>
    cases e
    simp only [Rps] at r
    obtain ⟨v, ws, rfl, r1, rfl⟩ := r
    obtain ⟨a, rfl, h1⟩ := rp_scr r1
    exact ⟨_, xs.length, rfl, .inl ⟨_, sh.seq h1, by simp⟩, q _ _ _ (Gr.refl sh) Rp.I⟩
  | [.str z], e, r =>
    simp only [gLen] at e
    split at e
    · rename_i hl
      cases e
      simp only [Rps] at r
      obtain ⟨v, ws, rfl, r1, rfl⟩ := r
      rw [rp_str r1]
      exact ⟨_, z.length, rfl, ⟨le_line hl, rfl⟩, q _ _ _ (Gr.refl sh) Rp.I⟩
    · cases e
theorem d_len {e : Expr} {fs : SA} {p pos : Pos} (hm : X.mg "len" = none) (ha : PA X [e] (uA X.K fs)) (hg : Gl X "len" := by rfl) (hs : starEach [e] X.env = (false, eval e X.env) :: starEach [] X.env := by rfl) (hp : (backTo pos (starEach [] X.env)).any (·.1) = false := by rfl) :
    PE X (.Call (.Name "len" p) [e] [] pos) (uE X.K (mFn gLen fs)) := d_fn call_len hm PySem.boot_len len_does ha hg (by decide) (by decide) hs hp
theorem d_toInt {e : Expr} {fs : SA} {p pos : Pos} (hm : X.mg "int" = none) (ha : PA X [e] (uA X.K fs)) (hg : Gl X "int" := by rfl) (hs : starEach [e] X.env = (false, eval e X.env) :: starEach [] X.env := by rfl) (hp : (backTo pos (starEach [] X.env)).any (·.1) = false := by rfl) :
    PE X (.Call (.Name "int" p) [e] [] pos) (uE X.K (mFn gInt fs)) :=
  PE.imp (pe_callTy call_int1 hg hm (by decide +kernel) ha (by decide) (by decide) hs hp) (uFn fun vs ds F H Q d sh r e q => by
    match ds, e, r with
    | [.int i], e, r =>
      cases e
      simp only [Rps] at r
      obtain ⟨v, ws, rfl, r1, rfl⟩ := r
      rw [rp_int r1]
      exact .inl ⟨_, rfl, q _ _ _ (Gr.refl sh) Rp.I⟩)
theorem tyD_ok {F H : Hp} {v : V} {d : D} {a : String} (sh : Same F H) (r : Rp K F v d) (e : tyD d = some a) : TyX K H v (.type a) := by
  cases d <;> simp only [tyD] at e <;> cases e
  · rw [rp_non r]; exact .base .non
  · rw [rp_bl r]; exact .base (.bl _)
  · rw [rp_int r]; exact .base (.int _)
  · rw [rp_str r]; exact .base (.str _)
  · obtain ⟨a, us, rfl, h1, r2⟩ := rp_lst r
    exact .base (.lst (sh _ _ h1))
  · obtain ⟨a, us, rfl, h1, r2⟩ := rp_tup r
    exact .base (.tup (sh _ _ h1))
theorem kit_all {a T : String} {d : D} (e : tyD d = some a) (hT : T ∈ ["list", "tuple", "bool", "int", "str"]) : kitB a T = some (isB a T) := by
  have h : ∀ a ∈ ["NoneType", "bool", "int", "str", "list", "tuple"], ∀ T ∈ ["list", "tuple", "bool", "int", "str"], kitB a T = some (isB a T) := by decide +kernel
  refine h a ?_ T hT
  cases d <;> simp only [tyD] at e <;> cases e <;> decide
theorem d_isi (T : String) {e : Expr} {f : SE} {p p2 pos : Pos} {x : Str} (hT : T ∈ ["list", "tuple", "bool", "int", "str"]) (hm : X.mg "isinstance" = none) (hx : X.mg x = none) (hv : bootBuiltins x = some (.type T)) (ha : PE X e (uE X.K f)) (hg : Gl X "isinstance" := by rfl) (hgx : Gl X x := by rfl)
    (hs : starEach [e, .Name x p2] X.env = (false, eval e X.env) :: starEach [.Name x p2] X.env := by rfl) (hs2 : starEach [.Name x p2] X.env = (false, eval (.Name x p2) X.env) :: starEach [] X.env := by rfl) (hp : (backTo pos (starEach [.Name x p2] X.env)).any (·.1) = false := by rfl)
    (hn : x ≠ ("__name__" : Str) := by decide) (hd : (x == ("__debug__" : Str)) = false := by decide) : PE X (.Call (.Name "isinstance" p) [e, .Name x p2] [] pos) (uE X.K (mIsi T f)) :=
  PE.imp (pe_callB call_isi hg hm boot_isinstance (pa_cons ha (pa_cons (pe_bltn (v := .ty T) hgx hx hv (by rfl) hn hd) pa_nil hs2) hs) (by decide) (by decide) hs hp) fun σ H Q h => by
    obtain ⟨F, env, d, sh, re, e, q⟩ := h
    unfold mIsi gIsi at e
    cases ea : f env with
    | none => rw [ea] at e; cases e
    | some a =>
      rw [ea] at e
      cases et : tyD a with
      | none => rw [Option.bind_some, et] at e; cases e
      | some t =>
        rw [Option.bind_some, et] at e
        cases e
        exact ⟨F, env, a, sh, re, ea, fun x F1 H1 s1 r1 => ⟨x, .ty T, .type t, .type T, isB t T, rfl, .ty T, tyD_ok s1.fh r1 et, kit_ty (kit_all et hT), q _ _ _ s1 Rp.B⟩⟩
theorem d_isN {e : Expr} {f : SE} {j : Nat} {p pos : Pos} (ha : PE X e (uE X.K f)) : PE X (.Compare e [.Is] [.Constant .none j p] pos) (uE X.K (mIsN f)) :=
  PE.imp (pe_cmpR op_isN ha pe_non rfl) fun σ H Q h => by
    obtain ⟨F, env, d, sh, re, e, q⟩ := h
    unfold mIsN at e
    cases ea : f env with
    | none => rw [ea] at e; cases e
    | some a =>
      rw [ea] at e
      refine ⟨F, env, a, sh, re, ea, fun x F1 H1 s1 r1 => ⟨rfl, ?_⟩⟩
      cases a <;> cases e
      · rw [rp_non r1]; exact q _ _ _ s1 Rp.B
      · rw [rp_bl r1]; exact q _ _ _ s1 Rp.B
      · rw [rp_int r1]; exact q _ _ _ s1 Rp.B
      · rw [rp_str r1]; exact q _ _ _ s1 Rp.B
      · obtain ⟨a, us, rfl, h1, r2⟩ := rp_lst r1
        exact q _ _ _ s1 Rp.B
      · obtain ⟨a, us, rfl, h1, r2⟩ := rp_tup r1
        exact q _ _ _ s1 Rp.B
theorem in_ints {H : Hp} {i : Int} (ds : List D) : ∀ {vs : List V} {ns : List Int}, Rps K H vs ds → allInts ds = some ns → vs.all flatV = true ∧ inV (.int i) vs = decide (i ∈ ns) := by
  induction ds with
  | nil =>
    intro vs ns r e
    simp only [Rps] at r
    subst r
    cases e
    exact ⟨rfl, by simp [inV]⟩
  | cons d ds ih =>
    intro vs ns r e
    cases d <;> simp only [allInts] at e <;> try contradiction
    rename_i j
    simp only [Rps] at r
    obtain ⟨v, ws, rfl, r1, r2⟩ := r
    obtain rfl := rp_int r1
    cases h : allInts ds with
    | none =>
      rw [h] at e
      contradiction
    | some ms =>
      rw [h] at e
      obtain rfl := Option.some.inj e
      obtain ⟨h1, h2⟩ := ih r2 h
      refine ⟨by simp [flatV, h1], ?_⟩
      unfold inV at h2 ⊢
      rw [List.any_cons, h2]
      by_cases hj : i = j
      · subst hj
        simp [eqV]
      · have z : (j == i) = false := beq_eq_false_iff_ne.mpr fun q => hj q.symm
        simp [eqV, z, hj]
theorem d_in {a b : Expr} {fa fb : SE} {pos : Pos} (ha : PE X a (uE X.K fa)) (hb : PE X b (uE X.K fb)) (hm : behindInMarks .In b = false) : PE X (.Compare a [.In] [b] pos) (uE X.K (m2 gIn fa fb)) :=
  d_cmp op_in_seq (fun x y F H Q a b d sh ra rb e q => by
    cases a <;> cases b <;> simp only [gIn] at e <;> try cases e
    rename_i i ds
    cases h : allInts ds with
    | none => rw [h] at e; cases e
    | some ms =>
      rw [h] at e
      cases e
      obtain ⟨p, us, rfl, h1, r2⟩ := rp_lst rb
      rw [rp_int ra]
      obtain ⟨k1, k2⟩ := in_ints (i := i) ds r2 h
      exact ⟨p, us, rfl, .inl (.inl (.inl (sh _ _ h1))), rfl, k1, by rw [if_neg Bool.false_ne_true, k2]; exact q _ _ _ (Gr.refl sh) Rp.B⟩) ha hb hm
/-! ### tests -/
theorem t_val {e : Expr} {f : SE} (h : PE X e (uE X.K f)) (he : ∀ whole : Sem Value, PySem.isTrue e X.env whole = (do let v ← whole; standAt e.pos; holding [v] (truthy v)) := by intro _; rfl) : PT X e (uB X.K (mB f)) :=
  PT.imp (pt_val h he) fun σ H Q ⟨F, env, b, sh, re, e, q⟩ => by
    unfold mB at e
    cases ea : f env with
    | none => rw [ea] at e; cases e
    | some a =>
      rw [ea] at e
      refine ⟨F, env, a, sh, re, ea, fun x F1 H1 s1 r1 => ?_⟩
      cases a <;> simp only [Option.bind_some] at e <;> try cases e
      rw [rp_bl r1]
      exact ⟨_, rfl, q _ _ s1⟩
/-! comparisons as tests -/
def CmpD (X : Cx) (op : CmpOp) (g : D → D → Option D) : Prop := ∃ r, OpR X (compareOp op) r ∧ Does X.K r g
theorem t_cmp {a b : Expr} {fa fb : SE} {pos : Pos} {op : CmpOp} {g : D → D → Option D} (c : CmpD X op g) (ha : PE X a (uE X.K fa)) (hb : PE X b (uE X.K fb)) (hm : behindInMarks op b = false) : PT X (.Compare a [op] [b] pos) (uB X.K (mB (m2 g fa fb))) := by
  obtain ⟨r, ho, h⟩ := c
  refine PT.imp (pt_cmpR ho ha hb hm) fun σ H Q ⟨F, env, d, sh, re, e, q⟩ => ?_
  unfold mB at e
  cases ea : m2 g fa fb env with
  | none => rw [ea] at e; contradiction
  | some z =>
    rw [ea] at e
    refine u2 h σ H _ ⟨F, env, z, sh, re, ea, fun v F' H' gr rv => ?_⟩
    cases z <;> simp only [Option.bind_some] at e <;> try contradiction
    obtain rfl := Option.some.inj e
    exact ⟨_, rp_bl rv, q F' H' gr⟩
theorem c_lt : CmpD X .Lt gLt := ⟨_, op_lt, does_i (fun _ _ => True) (fun i j => .bl (decide (i < j))) (fun i j H Q c q => ⟨i, j, rfl, rfl, q⟩) (fun a b d e => by
    cases a <;> cases b <;> simp only [gLt] at e <;> cases e
    exact ⟨_, _, rfl, rfl, rfl, trivial⟩) fun _ _ _ => Rp.B⟩
theorem c_gt : CmpD X .Gt gGt := ⟨_, op_gt, does_i (fun _ _ => True) (fun i j => .bl (decide (j < i))) (fun i j H Q c q => ⟨i, j, rfl, rfl, q⟩) (fun a b d e => by
    cases a <;> cases b <;> simp only [gGt] at e <;> cases e
    exact ⟨_, _, rfl, rfl, rfl, trivial⟩) fun _ _ _ => Rp.B⟩
theorem c_ge : CmpD X .GtE gGe := ⟨_, op_ge, does_i (fun _ _ => True) (fun i j => .bl (decide (j ≤ i))) (fun i j H Q c q => ⟨i, j, rfl, rfl, q⟩) (fun a b d e => by
    cases a <;> cases b <;> simp only [gGe] at e <;> cases e
    exact ⟨_, _, rfl, rfl, rfl, trivial⟩) fun _ _ _ => Rp.B⟩
theorem c_eq : CmpD X .Eq gEq := ⟨_, op_eq, does_eq⟩
theorem c_ne : CmpD X .NotEq gNe := ⟨_, op_ne, does_ne⟩
theorem does_in : Does K (rIn K false) gIn := fun x y F H Q a b d sh ra rb e q => by
  cases a <;> cases b <;> simp only [gIn] at e <;> try cases e
  rename_i i ds
  cases h : allInts ds with
  | none => rw [h] at e; cases e
  | some ms =>
    rw [h] at e
    cases e
    obtain ⟨p, us, rfl, h1, r2⟩ := rp_lst rb
    rw [rp_int ra]
    obtain ⟨k1, k2⟩ := in_ints (i := i) ds r2 h
    exact ⟨p, us, rfl, .inl (.inl (.inl (sh _ _ h1))), rfl, k1, by rw [if_neg Bool.false_ne_true, k2]; exact q _ _ _ (Gr.refl sh) Rp.B⟩
theorem c_in : CmpD X .In gIn := ⟨_, op_in_seq, does_in⟩
theorem t_isN {e : Expr} {f : SE} {j : Nat} {p pos : Pos} (ha : PE X e (uE X.K f)) : PT X (.Compare e [.Is] [.Constant .none j p] pos) (uB X.K (mB (mIsN f))) :=
  PT.imp (pt_cmpR op_isN ha pe_non rfl) fun σ H Q h => by
    obtain ⟨F, env, d, sh, re, e, q⟩ := h
    unfold mB mIsN at e
    cases ea : f env with
    | none => rw [ea] at e; contradiction
    | some a =>
      rw [ea] at e
      refine ⟨F, env, a, sh, re, ea, fun x F1 H1 s1 r1 => ⟨rfl, ?_⟩⟩
      cases a <;> simp only [gIsN, Option.bind_some] at e <;> try contradiction
      all_goals obtain rfl := Option.some.inj e
      · rw [rp_non r1]; exact ⟨_, rfl, q _ _ s1⟩
      · rw [rp_bl r1]; exact ⟨_, rfl, q _ _ s1⟩
      · rw [rp_int r1]; exact ⟨_, rfl, q _ _ s1⟩
      · rw [rp_str r1]; exact ⟨_, rfl, q _ _ s1⟩
      · obtain ⟨a, us, rfl, h1, r2⟩ := rp_lst r1
        exact ⟨_, rfl, q _ _ s1⟩
      · obtain ⟨a, us, rfl, h1, r2⟩ := rp_tup r1
        exact ⟨_, rfl, q _ _ s1⟩
theorem PW.imp {e : Expr} {t t' : TT} (h : PW X e t) (i : ∀ σ H Q, t' σ H Q → t σ H Q) : PW X e t' := ⟨fun w pins s σ H Q I q => h.run w pins s σ H Q I (i σ H Q q)⟩
theorem bind_some_of {α β : Type} {x : Option α} {f : α → Option β} {z : β} (e : x.bind f = some z) : ∃ a, x = some a ∧ f a = some z := by
  cases x with
  | none => contradiction
  | some a => exact ⟨a, rfl, e⟩
theorem map_some_of {α β : Type} {x : Option α} {f : α → β} {z : β} (e : x.map f = some z) : ∃ a, x = some a ∧ f a = z := by
  cases x with
  | none => contradiction
  | some a => exact ⟨a, rfl, Option.some.inj e⟩
theorem t_and {a b : Expr} {pos : Pos} {f g : SB} {rest : List Expr} (ha : PT X a (uB X.K f)) (hb : PW X (.BoolOp .And (b :: rest) pos) (uB X.K g)) : PW X (.BoolOp .And (a :: b :: rest) pos) (uB X.K (mAnd f g)) :=
  PW.imp (pw_and ha hb) fun σ H Q ⟨F, env, c, sh, re, e, q⟩ => by
    obtain ⟨c1, ea, e⟩ := bind_some_of e
    refine ⟨F, env, c1, sh, re, ea, fun F1 H1 s1 => ?_⟩
    cases c1 with
    | true =>
      rw [if_pos rfl] at e ⊢
      exact ⟨F1, env, c, s1.fh, re.mono s1.ff, e, fun F2 H2 s2 => q F2 H2 (s1.trans s2)⟩
    | false =>
      rw [if_neg Bool.false_ne_true] at e ⊢
      obtain rfl := Option.some.inj e
      exact q F1 H1 s1
theorem t_or {a b : Expr} {pos : Pos} {f g : SB} {rest : List Expr} (ha : PT X a (uB X.K f)) (hb : PW X (.BoolOp .Or (b :: rest) pos) (uB X.K g)) : PW X (.BoolOp .Or (a :: b :: rest) pos) (uB X.K (mOr f g)) :=
  PW.imp (pw_or ha hb) fun σ H Q ⟨F, env, c, sh, re, e, q⟩ => by
    obtain ⟨c1, ea, e⟩ := bind_some_of e
    refine ⟨F, env, c1, sh, re, ea, fun F1 H1 s1 => ?_⟩
    cases c1 with
    | true =>
      rw [if_pos rfl] at e ⊢
      obtain rfl := Option.some.inj e
      exact q F1 H1 s1
    | false =>
      rw [if_neg Bool.false_ne_true] at e ⊢
      exact ⟨F1, env, c, s1.fh, re.mono s1.ff, e, fun F2 H2 s2 => q F2 H2 (s1.trans s2)⟩
theorem t_not {a : Expr} {pos : Pos} {f : SB} (ha : PT X a (uB X.K f)) : PT X (.UnaryOp .Not a pos) (uB X.K (mNot f)) :=
  PT.imp (pt_not ha) fun σ H Q ⟨F, env, c, sh, re, e, q⟩ => by
    obtain ⟨c1, ea, rfl⟩ := map_some_of e
    exact ⟨F, env, c1, sh, re, ea, fun F1 H1 s1 => q F1 H1 s1⟩
/-- truths as values: and, not -/
theorem d_and {a b : Expr} {pos : Pos} {f : SE} {g' : SB} {rest : List Expr} (ha : PE X a (uE X.K f)) (hb : PE X (.BoolOp .And (b :: rest) pos) (uE X.K (mV g'))) : PE X (.BoolOp .And (a :: b :: rest) pos) (uE X.K (mV (mAnd (mB f) g'))) :=
  PE.imp (pe_and ha hb) fun σ H Q ⟨F, env, c, sh, re, e, q⟩ => by
    obtain ⟨c1, e1, rfl⟩ := map_some_of e
    obtain ⟨c2, e2, e3⟩ := bind_some_of e1
    obtain ⟨d, e4, e5⟩ := bind_some_of e2
    refine ⟨F, env, d, sh, re, e4, fun x F1 H1 s1 r1 => ?_⟩
    cases d <;> simp only at e5 <;> try contradiction
    obtain rfl := Option.some.inj e5
    rw [rp_bl r1]
    refine ⟨_, rfl, ?_⟩
    rename_i b2
    cases b2 with
    | true =>
      rw [if_pos rfl] at e3 ⊢
      exact ⟨F1, env, .bl c1, s1.fh, re.mono s1.ff, by unfold mV; rw [e3]; rfl, fun v F2 H2 s2 r2 => q v F2 H2 (s1.trans s2) r2⟩
    | false =>
      rw [if_neg Bool.false_ne_true] at e3 ⊢
      obtain rfl := Option.some.inj e3
      exact q _ F1 H1 s1 Rp.B
theorem d_one {a : Expr} {pos : Pos} {f : SE} (ha : PE X a (uE X.K f)) : PE X (.BoolOp .And [a] pos) (uE X.K (mV (mB f))) :=
  PE.imp (pe_one ha) fun σ H Q ⟨F, env, c, sh, re, e, q⟩ => by
    obtain ⟨c1, e1, rfl⟩ := map_some_of e
    obtain ⟨d, e4, e5⟩ := bind_some_of e1
    refine ⟨F, env, d, sh, re, e4, fun x F1 H1 s1 r1 => ?_⟩
    cases d <;> simp only at e5 <;> try contradiction
    obtain rfl := Option.some.inj e5
    exact q x F1 H1 s1 r1
theorem d_not {a : Expr} {pos : Pos} {f : SE} (ha : PE X a (uE X.K f)) : PE X (.UnaryOp .Not a pos) (uE X.K (mV (mNot (mB f)))) :=
  PE.imp (pe_not ha) fun σ H Q ⟨F, env, c, sh, re, e, q⟩ => by
    obtain ⟨c1, e1, rfl⟩ := map_some_of e
    obtain ⟨c2, e2, rfl⟩ := map_some_of e1
    obtain ⟨d, e4, e5⟩ := bind_some_of e2
    refine ⟨F, env, d, sh, re, e4, fun x F1 H1 s1 r1 => ?_⟩
    cases d <;> simp only at e5 <;> try contradiction
    obtain rfl := Option.some.inj e5
    rw [rp_bl r1]
    exact ⟨_, rfl, q _ F1 H1 s1 Rp.B⟩
/-! ### statements -/
theorem s_asg {e : Expr} {f : SE} {i : Nat} {x : Str} {p pos : Pos} (hN : X.N.Nodup) (he : PE X e (uE X.K f)) (hi : X.N[i]? = some x := by rfl) (hl : L2.Loc X.env.scope x := by first | exact Or.inl rfl | exact Or.inr rfl)
    (hf : X.fn x = true ∨ List.lookup x X.env.scope.names = some NameKind.local := by first | exact Or.inl rfl | exact Or.inr rfl)
    (h1 : swapsWithSole [.Name x p] e pos.line X.env = pure false := by rfl) (h2 : swappedStores [.Name x p] e X.env = pure none := by rfl) (h3 : List.map (fun x => x.snd) (assignEach [.Name x p] X.env) = [assign (.Name x p) X.env] := by rfl) :
    PS X (.Assign [.Name x p] e pos) (uS X.K (sAsg i f)) :=
  PS.imp (ps_asg he (pg_name hN hi hl hf) h1 h2 h3) fun T σ H ⟨F, env, o, sh, re, e, q⟩ => by
    obtain ⟨d, e1, rfl⟩ := map_some_of e
    exact ⟨F, env, d, sh, re, e1, fun v F1 H1 s1 r1 => q _ F1 H1 s1 ((re.mono s1.ff).set r1)⟩
theorem s_ret {e : Expr} {f : SE} {pos : Pos} (he : PE X e (uE X.K f)) : PS X (.Return (some e) pos) (uS X.K (sRet f)) :=
  PS.imp (ps_ret he) fun T σ H ⟨F, env, o, sh, re, e, q⟩ => by
    obtain ⟨d, e1, rfl⟩ := map_some_of e
    exact ⟨F, env, d, sh, re, e1, q⟩
theorem s_doc {x : Str} {j : Nat} {pos pos' : Pos} : PS X (.Expr (.Constant (.str x) j pos) pos') (uS X.K sNext) :=
  PS.imp ps_doc fun T σ H ⟨F, env, o, sh, re, e, q⟩ => by
    obtain rfl := Option.some.inj e
    exact q σ F H (Gr.refl sh) re
theorem ss_nil : PSs X [] (uS X.K sNext) := PSs.imp pss_nil fun T σ H ⟨F, env, o, sh, re, e, q⟩ => by
  obtain rfl := Option.some.inj e
  exact q σ F H (Gr.refl sh) re
theorem ss_one {st : Stmt} {f : SS} (h : PS X st (uS X.K f)) : PSs X [st] (uS X.K f) := pss_one h
/-- what a meaning asks, where more has been laid -/
theorem uS_after {f : SS} {T : Ends} {σ : L2.St} {F H F1 H1 : Hp} {env : En} {o : Out} (re : ER K F1 σ env) (s1 : Gr F H F1 H1) (e : f env = some o) (q : OutOk K T F H o) : uS K f T σ H1 := ⟨F1, env, o, s1.fh, re, e, q.later s1⟩
theorem ss_cons {st : Stmt} {rest : List Stmt} {f g : SS} (h : PS X st (uS X.K f)) (hs : PSs X rest (uS X.K g)) : PSs X (st :: rest) (uS X.K (sSeq f g)) :=
  PSs.imp (pss_cons h hs) fun T σ H ⟨F, env, o, sh, re, e, q⟩ => by
    obtain ⟨o1, e1, e2⟩ := bind_some_of e
    refine ⟨F, env, o1, sh, re, e1, ?_⟩
    cases o1 with
    | nx env1 => exact fun σ' F1 H1 s1 r1 => uS_after r1 s1 e2 q
    | rt d =>
      obtain rfl := Option.some.inj e2
      exact q
    | bk d =>
      obtain rfl := Option.some.inj e2
      exact q
    | ct d =>
      obtain rfl := Option.some.inj e2
      exact q
theorem s_if {c : Expr} {a b : List Stmt} {fc : SB} {f g : SS} {pos : Pos} (hc : PT X c (uB X.K fc)) (ha : PSs X a (uS X.K f)) (hb : PSs X b (uS X.K g)) : PS X (.If c a b pos) (uS X.K (sIf fc f g)) :=
  PS.imp (ps_if hc ha hb) fun T σ H ⟨F, env, o, sh, re, e, q⟩ => by
    obtain ⟨c1, e1, e2⟩ := bind_some_of e
    refine ⟨F, env, c1, sh, re, e1, fun F1 H1 s1 => ?_⟩
    cases c1 with
    | true =>
      rw [if_pos rfl] at e2 ⊢
      exact uS_after (re.mono s1.ff) s1 e2 q
    | false =>
      rw [if_neg Bool.false_ne_true] at e2 ⊢
      exact uS_after (re.mono s1.ff) s1 e2 q
end
end DL
namespace DL
open PySem PySem.Spec PyProof.Rows L2
/-- what is handled around: nothing, or an error whose chain of contexts ends at once or behind one more -/
def HotS (A : Around) (h : Heap) : Prop :=
  A.handled = none ∨ ∃ (a : Addr) (o : Obj) (vs : Array Value), A.handled = some (.ref a) ∧ h.get? a = some o ∧ o.data = .fields vs ∧
    (vs[2]? = some .none ∨ ∃ (b : Addr) (ob : Obj) (ws : Array Value), vs[2]? = some (.ref b) ∧ b ≠ a ∧ h.get? b = some ob ∧ ob.data = .fields ws ∧ ws[2]? = some .none)
theorem HotS.keeps {A : Around} {h h' : Heap} (x : HotS A h) (k : ∀ b o, h.get? b = some o → h'.get? b = some o) : HotS A h' := by
  rcases x with x | ⟨a, o, vs, h1, h2, h3, h4⟩
  · exact .inl x
  · refine .inr ⟨a, o, vs, h1, k _ _ h2, h3, ?_⟩
    rcases h4 with h4 | ⟨b, ob, ws, e1, e2, e3, e4⟩
    · exact .inl h4
    · exact .inr ⟨b, ob, ws, e1, e2, k _ _ e3, e4⟩
section
variable {prog : Program} {w : World} {A : Around} {E : Value → Shared → Prop} {s : Shared}
theorem ref_ne {a b : Addr} (h : a ≠ b) : (Value.ref a == Value.ref b) = false := by
  refine beq_eq_false_iff_ne.mpr fun z => h (Value.ref.inj z)
theorem unchain2 {x e : Addr} {o : Obj} {vs : Array Value} {Q : Value → Shared → Prop} (hx : s.heap.get? x = some o) (hd : o.data = .fields vs) (hne : e ≠ x)
    (hc : vs[2]? = some .none ∨ ∃ (b : Addr) (ob : Obj) (ws : Array Value), vs[2]? = some (.ref b) ∧ b ≠ x ∧ e ≠ b ∧ s.heap.get? b = some ob ∧ ob.data = .fields ws ∧ ws[2]? = some .none) (q : Q .none s) :
    wpAny (model prog w) A (holding [Value.ref e] (runValue (.builtin "proto.unchain" ⟨[.ref e, .ref x, .ref x, .bool false], []⟩))) Q E s := by
  rcases hc with hc | ⟨b, ob, ws, h1, h2, h3, h4, h5, h6⟩
  · exact HotX.unchained hx hd hc q
  · refine wpAny_holding (wpAny_runValue (codeAny_builtin HotX.entry_unchain ?_))
    show wpAny _ _ (field (.ref x) 2 >>= _) _ _ s
    refine wpAny_bind (wpAny_field hx hd h1 ?_)
    rw [if_neg (show ¬ ((Value.ref b == Value.none) = true) from Bool.false_ne_true)]
    rw [if_neg (show ¬ (Value.ref b == Value.ref e) = true by rw [ref_ne (Ne.symm h3)]; decide)]
    rw [if_neg (show ¬ (Value.ref b == Value.ref x) = true by rw [ref_ne h2]; decide)]
    refine wpAny_bind (wpAny_pure (wpAny_pure ⟨plainId_quiet (by decide +kernel) _, codeAny_builtin HotX.entry_unchain ?_⟩))
    show wpAny _ _ (field (.ref b) 2 >>= _) _ _ s
    refine wpAny_bind (wpAny_field h4 h5 h6 ?_)
    rw [if_pos (show (Value.none == Value.none) = true from rfl)]
    first
      | exact wpAny_pure q
      | exact wpAny_bind (wpAny_pure q)
      | exact wpAny_bind (wpAny_pure (wpAny_pure q))
/-- a new exception is raised there; nothing else is changed -/
theorem raise_hot {α : Type} {e : Addr} {oe : Obj} {fs : Array Value} {Q : α → Shared → Prop} (hot : HotS A s.heap) (fresh : ∀ x, A.handled = some (.ref x) → e ≠ x) (fr2 : ∀ (x b : Addr) (o : Obj) (vs : Array Value), A.handled = some (.ref x) → s.heap.get? x = some o → o.data = .fields vs → vs[2]? = some (.ref b) → e ≠ b)
    (he : s.heap.get? e = some oe) (de : oe.data = .fields fs) (hi : 2 < fs.size)
    (h : ∀ h', (∀ b, b ≠ e → h'.get? b = s.heap.get? b) → h'.get? e = some (oe.mapFields (·.setIfInBounds 2 (A.handled.getD .none))) ∨ (A.handled = none ∧ h' = s.heap) → E (.ref e) { s with heap := h' }) :
    wpAny (model prog w) A (raiseNew (.ref e) : Sem α) Q E s := by
  unfold raiseNew
  refine wpAny_bind (wpAny_handled ?_)
  rcases hot with hot | ⟨x, o, vs, h1, h2, h3, h4⟩
  · rw [hot]
    exact wpAny_bind (wpAny_pure (wpAny_throw (h s.heap (fun _ _ => rfl) (.inr ⟨hot, rfl⟩))))
  · rw [h1]
    have hb : (Value.ref x != Value.ref e) = true := by
      rw [bne, ref_ne (Ne.symm (fresh x h1))]
      rfl
    have fin : wpAny (model prog w) A (holding [Value.ref e] (runValue (.builtin "proto.unchain" ⟨[.ref e, .ref x, .ref x, .bool false], []⟩))) (fun _ s1 => wpAny (model prog w) A (updateField e 2 (.ref x)) (fun _ s2 => wpAny (model prog w) A (throw (.ref e) : Sem α) Q E s2) E s1) E s := by
      refine unchain2 h2 h3 (fresh x h1) ?_ ?_
      · rcases h4 with h4 | ⟨b, ob, ws, e1, e2, e3, e4⟩
        · exact .inl h4
        · exact .inr ⟨b, ob, ws, e1, e2, fr2 x b o vs h1 h2 h3 e1, e3, e4⟩
      · refine HotX.chained he de hi (wpAny_throw (h _ (fun b hb => Heap.get?_update_other _ _ (Ne.symm hb)) (.inl ?_)))
        rw [h1]
        exact Heap.get?_update_self _ he (Obj.isFreed_of_fields (Obj.data_mapFields de _))
    first
      | (show wpAny _ _ (if (Value.ref x != Value.ref e) = true then _ else _) _ _ _
         rw [if_pos hb]
         first
         | exact wpAny_bind (wpAny_mono fin (fun _ _ h => wpAny_bind h) fun _ _ h => h)
         | exact wpAny_bind (wpAny_bind fin))
      | (refine wpAny_bind ?_
         show wpAny _ _ (if (Value.ref x != Value.ref e) = true then _ else _) _ _ _
         rw [if_pos hb]
         exact wpAny_bind fin)
/-- StopIteration made and raised -/
theorem stop_hot {α : Type} {Q : α → Shared → Prop} (hot : HotS A s.heap)
    (h : ∀ (e : Addr) h', (∀ b o, s.heap.get? b = some o → h'.get? b = some o) → (∃ o, h'.get? e = some o ∧ o.cls = .type "StopIteration") → E (.ref e) { s with heap := h' }) :
    wpAny (model prog w) A (newExc (.type "StopIteration") [] >>= fun e => (raiseNew e : Sem α)) Q E s := by
  refine wpAny_bind ?_
  simp only [newExc, newTuple]
  refine wpAny_bind (wpAny_newObj_type ?_ (by size_fits))
  refine wpAny_bind (m := firstArgMember _ _) (wpAny_of_eq (a := Value.none) (by first | rfl | (simp only [firstArgMember]; rfl)) ?_)
  refine wpAny_newObj_type ?_ (by size_fits)
  have kk : ∀ b o, s.heap.get? b = some o → ∀ o1 o2, ((s.heap.push o1).push o2).get? b = some o := fun b o e o1 o2 => Heap.get?_push_of_some _ (Heap.get?_push_of_some _ e)
  have big : ∀ {b : Addr} {o : Obj} (o1 : Obj), s.heap.get? b = some o → (s.heap.push o1).objs.size ≠ b := fun {b o} o1 e => Nat.ne_of_gt (Heap.lt_size (Heap.get?_push_of_some o1 e))
  refine raise_hot (hot.keeps fun b o e => kk b o e _ _) (fun x hx => ?_) (fun x b o vs hx hg hd hv => ?_) (Heap.get?_push_size _ rfl) rfl (by first | (simp; done) | (simp; omega) | (simp only [Array.size_append]; simp; omega)) fun h' k r => ?_
  · rcases hot with hot | ⟨x', o, vs, h1, h2, h3, h4⟩
    · rw [hot] at hx; cases hx
    · rw [h1] at hx
      obtain rfl : x' = x := Value.ref.inj (Option.some.inj hx)
      exact big _ h2
  · rcases hot with hot | ⟨x', o', vs', h1, h2, h3, h4⟩
    · rw [hot] at hx; cases hx
    · rw [h1] at hx
      obtain rfl : x' = x := Value.ref.inj (Option.some.inj hx)
      obtain rfl := Option.some.inj ((kk _ _ h2 _ _).symm.trans hg)
      rw [h3] at hd
      cases hd
      rcases h4 with h4 | ⟨b', ob, ws, e1, e2, e3, e4⟩
      · rw [hv] at h4; cases h4
      · rw [e1] at hv
        cases hv
        exact big _ e3
  · refine h _ h' (fun b o e => (k b ?_).trans (kk b o e _ _)) ?_
    · exact fun z => big _ e z.symm
    · rcases r with r | ⟨_, rfl⟩
      · exact ⟨_, r, rfl⟩
      · exact ⟨_, Heap.get?_push_size _ rfl, rfl⟩
end
end DL
namespace DL
open PySem PySem.Spec PyProof.Rows L2
/-- the pins bear what is handled around, with its context and that one's context -/
def ChainIn (pn : List (Addr × Obj)) (A : Around) : Prop :=
  A.handled = none ∨ ∃ (p : Addr × Obj) (vs : Array Value), p ∈ pn ∧ A.handled = some (.ref p.1) ∧ p.2.data = .fields vs ∧
    (vs[2]? = some .none ∨ ∃ (q : Addr × Obj) (ws : Array Value), q ∈ pn ∧ vs[2]? = some (.ref q.1) ∧ q.1 ≠ p.1 ∧ q.2.data = .fields ws ∧ ws[2]? = some .none)
/-- the context bears what is handled -/
abbrev HC (X : Cx) : Prop := ChainIn X.pn X.A
theorem HC.at {X : Cx} {pins : List (Addr × Obj)} {σ : L2.St} {H : Hp} {s : Shared} (c : HC X) (I : Inv X pins σ H s) : HotS X.A s.heap := by
  rcases c with c | ⟨p, vs, h1, h2, h3, h4⟩
  · exact .inl c
  · refine .inr ⟨p.1, p.2, vs, h2, (I.pin p (List.mem_append_left _ h1)).1, h3, ?_⟩
    rcases h4 with h4 | ⟨q, ws, e1, e2, e3, e4, e5⟩
    · exact .inl h4
    · exact .inr ⟨q.1, q.2, ws, e2, e3, (I.pin q (List.mem_append_left _ e1)).1, e4, e5⟩
section
variable {prog : Program} {w : World} {A : Around} {E : Value → Shared → Prop} {s : Shared}
theorem next_range_end {it : Addr} {x left step : Int} {Q : Option Value → Shared → Prop} (hot : HotS A s.heap) (hit : IsRangeIter s.heap it x left step) (hleft : left ≤ 0)
    (hQ : ∀ h', (∀ b o, s.heap.get? b = some o → h'.get? b = some o) → Q none { s with heap := h' }) : wpAny (model prog w) A (pyNext (.ref it)) Q E s := by
  have hT : s.TypeIs (.ref it) "range_iterator" := ⟨_, hit, rfl⟩
  unfold pyNext
  refine wpAny_bind (wpAny_attempt (wpAny_callSpecial?_slot (name := Str.ofString "__next__") hT F.slot_range_iterator_next (wpAny_call_entry F.slot_range_iterator_next hT F.entry_range_iterator_next ?_ (F.args_range_iterator_next_1 _))))
  show wpAny _ _ (field (.ref it) 0 >>= _) _ _ s
  refine wpAny_bind (wpAny_field hit rfl (x := rawInt x) rfl ?_)
  show wpAny _ _ (field (.ref it) 1 >>= _) _ _ s
  refine wpAny_bind (wpAny_field hit rfl (x := rawInt left) rfl ?_)
  show wpAny _ _ (field (.ref it) 2 >>= _) _ _ s
  refine wpAny_bind (wpAny_field hit rfl (x := rawInt step) rfl ?_)
  show wpAny _ _ (if left ≤ 0 then _ else _) _ _ s
  rw [if_pos hleft]
  refine wpAny_bind (wpAny_rule (wpAny_bind ?_))
  show wpAny _ A.in1 (newExc (.type "StopIteration") [] >>= fun e => raiseNew e) _ _ s
  refine stop_hot (A := A.in1) (show HotS A.in1 s.heap from hot) fun e h' k z => ?_
  exact wpAny_bind (wpAny_isInstance (T := "StopIteration") (b := true) z isSubtype_stop (wpAny_pure (hQ h' k)))
theorem next_list_end {it l : Addr} {i : Nat} {items : Array Value} {Q : Option Value → Shared → Prop} (hot : HotS A s.heap) (hit : s.heap.IsListIter it l i) (hl : s.heap.IsList l items) (hx : items[i]? = none)
    (nit : ∀ x, A.handled = some (.ref x) → x ≠ it) (nit2 : ∀ (x b : Addr) (o : Obj) (vs : Array Value), A.handled = some (.ref x) → s.heap.get? x = some o → o.data = .fields vs → vs[2]? = some (.ref b) → b ≠ it)
    (hQ : ∀ h', (∀ b o, b ≠ it → s.heap.get? b = some o → h'.get? b = some o) → Q none { s with heap := h' }) : wpAny (model prog w) A (pyNext (.ref it)) Q E s := by
  obtain ⟨o, ho, hc, hd⟩ := id hit
  obtain ⟨ol, hol, _, nl, hdl⟩ := hl
  unfold pyNext
  refine wpAny_bind (wpAny_attempt (wpAny_callSpecial?_slot (name := Str.ofString "__next__") hit.typeIs slot_listiter_next (wpAny_call_entry slot_listiter_next hit.typeIs entry_listiter_next ?_ (args_listiter_next _))))
  show wpAny _ _ (field (.ref it) 0 >>= _) _ _ s
  refine wpAny_bind (wpAny_field ho hd (x := .ref l) rfl ?_)
  show wpAny _ _ (if (Value.ref l == Value.none) = true then _ else _) _ _ s
  rw [if_neg (show ¬ ((Value.ref l == Value.none) = true) from Bool.false_ne_true)]
  show wpAny _ _ (field (.ref it) 1 >>= _) _ _ s
  refine wpAny_bind (wpAny_field ho hd (x := .int i 0) rfl ?_)
  show wpAny _ _ (seqItems? (.ref l) >>= _) _ _ s
  refine wpAny_bind (wpAny_seqItems hol hdl ?_)
  simp only [Int.toNat_natCast, hx]
  refine wpAny_bind (wpAny_rule (wpAny_bind (wpAny_setField ho hd (by simp) ?_)))
  have kk : ∀ (f : Obj → Obj) b o, b ≠ it → s.heap.get? b = some o → (s.heap.update it f).get? b = some o := fun f b o hb e => (Heap.get?_update_other _ _ (Ne.symm hb)).trans e
  refine stop_hot (α := Fin) ?_ fun e h' k z => ?_
  · rcases hot with hot | ⟨x, o, vs, h1, h2, h3, h4⟩
    · exact .inl hot
    · refine .inr ⟨x, o, vs, h1, kk _ _ _ (nit x h1) h2, h3, ?_⟩
      rcases h4 with h4 | ⟨b, ob, ws, e1, e2, e3, e4, e5⟩
      · exact .inl h4
      · exact .inr ⟨b, ob, ws, e1, e2, kk _ _ _ (nit2 x b o vs h1 h2 h3 e1) e3, e4, e5⟩
  · exact wpAny_bind (wpAny_isInstance (T := "StopIteration") (b := true) z isSubtype_stop (wpAny_pure (hQ h' fun b o hb e => k b o (kk _ b o hb e))))
end
end DL
namespace DL
open PySem PySem.Spec PyProof.Rows L2
/-- an iterator at it that gives what stands for ds, whatever is handled -/
structure ItG (P : Program) (w : World) (K : PySem.W.Frag) (tg : Expr) (it : Addr) (ds : List D) (F0 : Hp) (tn : Nat → Heap → Prop) : Prop where
  obj : ∀ i h, tn i h → ∃ o, h.get? it = some o ∧ ∀ v, o.data ≠ .cell v
  keep : ∀ i h h', tn i h → (∀ o, h.get? it = some o → h'.get? it = some o) → tn i h'
  item : ∀ (X : Cx), X.prog = P → X.w = w → X.K = K → HC X → ∀ (i : Nat) (d : D) (pins : List (Addr × Obj)) (s : Shared) (σ : L2.St) (H : Hp) (E : Value → Shared → Prop), ds[i]? = some d → Inv X pins σ H s → Same F0 H → FpOk X pins H it → tn i s.heap →
    wpAny (model P w) X.A (pyNext (.ref it)) (fun r s1 => ∃ u, r = some u ∧ wpAny (model P w) X.A (letOwnedTupleGo tg (.ref it) u) (fun _ s2 => ∃ x, Inv X pins σ H s2 ∧ RelV x u ∧ Rp K F0 x d ∧ tn (i + 1) s2.heap) E s1) E s
  done : ∀ (X : Cx), X.prog = P → X.w = w → X.K = K → HC X → ∀ (i : Nat) (pins : List (Addr × Obj)) (s : Shared) (σ : L2.St) (H : Hp) (E : Value → Shared → Prop), ds.length ≤ i → Inv X pins σ H s → Same F0 H → FpOk X pins H it → tn i s.heap →
    wpAny (model P w) X.A (pyNext (.ref it)) (fun r s1 => r = none ∧ Inv X pins σ H s1) E s
  self : ∀ (A : Around) (i : Nat) (s : Shared) (Q : Value → Shared → Prop) (E : Value → Shared → Prop), tn i s.heap → Q (.ref it) s → wpAny (model P w) A (pyIter (.ref it)) Q E s
def rngD (n : Int) : List D := (List.range n.toNat).map fun i => D.int (i : Nat)
theorem rngD_get {n : Int} {i : Nat} {d : D} (h : (rngD n)[i]? = some d) : i < n.toNat ∧ d = .int (i : Nat) := by
  unfold rngD at h
  rw [List.getElem?_map] at h
  obtain ⟨a, h1, rfl⟩ := map_some_of h
  have hl : i < n.toNat := by
    have := (List.getElem?_eq_some_iff.mp h1).1
    simpa using this
  refine ⟨hl, ?_⟩
  have := (List.getElem?_eq_some_iff.mp h1).2
  rw [← this]
  simp
section
variable {P : Program} {w : World} {K : PySem.W.Frag} {tg : Expr}
theorem it_range (it : Addr) (n : Int) (F0 : Hp) : ItG P w K tg it (rngD n) F0 (fun i h => IsRangeIter h it ((0 : Int) + (i : Nat)) ((n.toNat : Int) - (i : Nat)) 1) where
  obj := fun i h st => ⟨_, st, fun v z => by
    have z' : Data.fields _ = Data.cell v := z
    cases z'⟩
  keep := fun i h h' st k => k _ st
  item := by
    intro X hP hw hK hc i d pins s σ H E hd I _ hf st
    subst hP hw hK
    obtain ⟨hlt, rfl⟩ := rngD_get hd
    obtain ⟨f0, f1, f2, f3, f4, f5⟩ := hf
    refine wpAny_pyNext_range_item st (by omega) fun h' st' sb => ?_
    have J : Inv X pins σ H { s with heap := h', toks := s.toks + 1 } := I.turned (fun b o hb e => (sb.2 b hb).trans e) f0 f1 f3 f4 f5
    have st2 : IsRangeIter h' it ((0 : Int) + ((i + 1 : Nat) : Int)) ((n.toNat : Int) - ((i + 1 : Nat) : Int)) 1 := by
      have e1 : (0 : Int) + ((i : Nat) : Int) + 1 = (0 : Int) + ((i + 1 : Nat) : Int) := by omega
      have e2 : (n.toNat : Int) - ((i : Nat) : Int) - 1 = (n.toNat : Int) - ((i + 1 : Nat) : Int) := by omega
      rw [← e1, ← e2]
      exact st'
    exact ⟨_, rfl, go_of (s := { s with heap := h', toks := s.toks + 1 }) (n := "range_iterator") st2 rfl rfl (by decide) ⟨.int (i : Nat), J, ⟨s.toks, by rw [Int.zero_add]⟩, Rp.I, st2⟩⟩
  done := by
    intro X hP hw hK hc i pins s σ H E hd I _ hf st
    subst hP hw hK
    have hd : n.toNat ≤ i := by simpa [rngD] using hd
    obtain ⟨f0, f1, f2, f3, f4, f5⟩ := hf
    exact next_range_end (hc.at I) st (by omega) fun h' k => ⟨rfl, I.turned (t' := s.toks) (fun b o _ e => k b o e) f0 f1 f3 f4 f5⟩
  self := fun _ _ _ _ _ st h => wpAny_pyIter_rangeiter st h
theorem it_list (it a : Addr) {vs : List V} {ds : List D} {F0 : Hp} (hl : vs.length = ds.length) (hq : SqL K F0 a vs) (hr : ∀ (i : Nat) (d : D), ds[i]? = some d → ∃ v, vs[i]? = some v ∧ Rp K F0 v d) :
    ItG P w K tg it ds F0 (fun i h => h.IsListIter it a i) where
  obj := fun i h ⟨o, e, _, d⟩ => ⟨o, e, fun v z => by rw [d] at z; cases z⟩
  keep := fun i h h' st k => st.at fun o e => k o e
  item := by
    intro X hP hw hK hc i d pins s σ H E hd I sm hf st
    subst hP hw hK
    obtain ⟨v, hv, rv⟩ := hr i d hd
    obtain ⟨its, rr, p, hz⟩ := I.list (sm.seq hq)
    obtain ⟨u, hu, ru⟩ := rr.get hv
    obtain ⟨f0, f1, f2, f3, f4, f5⟩ := hf
    refine wpAny_pyNext_list_item st p.isList (x := u) (by simpa using hu) fun h' st' sb => ?_
    have J : Inv X pins σ H { s with heap := h' } := I.turned (t' := s.toks) (fun b o hb e => (sb.2 b hb).trans e) f0 f1 f3 f4 f5
    obtain ⟨o, e, c, dd⟩ := id st'
    exact ⟨u, rfl, go_of (s := { s with heap := h' }) e c dd (by decide) ⟨v, J, ru, rv, st'⟩⟩
  done := by
    intro X hP hw hK hc i pins s σ H E hd I sm hf st
    subst hP hw hK
    obtain ⟨its, rr, p, hz⟩ := I.list (sm.seq hq)
    obtain ⟨f0, f1, f2, f3, f4, f5⟩ := hf
    have hll := rr.length
    have hcs : ∀ (x : Addr), X.A.handled = some (.ref x) → x ≠ it ∧ ∀ (b : Addr) (o : Obj) (ws : Array Value), s.heap.get? x = some o → o.data = .fields ws → ws[2]? = some (.ref b) → b ≠ it := fun x hx => by
      rcases hc with hc | ⟨q, ws, h1, h2, h3, h4⟩
      · rw [hc] at hx; cases hx
      · rw [h2] at hx
        obtain rfl : q.1 = x := Value.ref.inj (Option.some.inj hx)
        refine ⟨f5 q (List.mem_append_left _ h1), fun b o ws' e1 e2 e3 => ?_⟩
        rw [(I.pin q (List.mem_append_left _ h1)).1] at e1
        obtain rfl := Option.some.inj e1
        rw [h3] at e2
        cases e2
        rcases h4 with h4 | ⟨q2, _, g1, g2, _⟩
        · rw [h4] at e3; cases e3
        · rw [g2] at e3
          obtain rfl : q2.1 = b := Value.ref.inj (Option.some.inj e3)
          exact f5 q2 (List.mem_append_left _ g1)
    exact next_list_end (hc.at I) st p.isList (by simp; omega) (fun x hx => (hcs x hx).1) (fun x b o ws hx h1 h2 h3 => (hcs x hx).2 b o ws h1 h2 h3) fun h' k => ⟨rfl, I.turned (t' := s.toks) (fun b o hb e => k b o hb e) f0 f1 f3 f4 f5⟩
  self := fun _ _ _ _ _ st h => wpAny_pyIter_listiter st h
end
/-- what a for walks -/
def PIG (X : Cx) (tg iter : Expr) (fi : SA) : Prop :=
  ∀ (pins : List (Addr × Obj)) (s : Shared) (σ : L2.St) (F H : Hp) (env : En) (ds : List D), Inv X pins σ H s → Same F H → ER X.K F σ env → fi env = some ds →
    wpAny (model X.prog X.w) X.A (eval iter X.env) (fun v s1 => wpAny (model X.prog X.w) X.A (pyIter v) (fun itv s2 => ∃ (it : Addr) (tn : Nat → Heap → Prop) (F' H' : Hp), itv = .ref it ∧ Inv X pins σ H' s2 ∧ Gr F H F' H' ∧ ItG X.prog X.w X.K tg it ds F' tn ∧ tn 0 s2.heap ∧ FpOk X pins H' it) X.xe s1) X.xe s
def gRng : List D → Option (List D)
  | [.int n] => if n < 2 ^ 40 ∧ -(2 ^ 40) < n then some (rngD n) else none
  | _ => none
def mRng (fs : SA) : SA := fun env => (fs env).bind gRng
def gItems : D → Option (List D)
  | .lst ds => some ds
  | .scr ns => some (ns.map D.int)
  | _ => none
def mItems (f : SE) : SA := fun env => (f env).bind gItems
section
variable {X : Cx} {tg : Expr}
/-- a range object just made, walked -/
theorem rng_it {pins : List (Addr × Obj)} {σ : L2.St} {F H F1 H1 : Hp} {s : Shared} {E : Value → Shared → Prop} {n : Int} {t u v : Tok} {tk : Nat} (I : Inv X pins σ H1 s) (sm : Gr F H F1 H1) (h1 : n < 2 ^ 40) (h2 : -(2 ^ 40) < n) :
    wpAny (model X.prog X.w) X.A (pyIter (.ref s.heap.objs.size)) (fun itv s2 => ∃ (it : Addr) (tn : Nat → Heap → Prop) (F' H' : Hp), itv = .ref it ∧ Inv X pins σ H' s2 ∧ Gr F H F' H' ∧ ItG X.prog X.w X.K tg it (rngD n) F' tn ∧ tn 0 s2.heap ∧ FpOk X pins H' it) E
      { s with heap := s.heap.push { cls := .type "range", data := .fields #[.int 0 t, .int n u, .int 1 v] }, toks := tk } := by
  refine wpAny_pyIter_range (IsRange.new ..) (small_one (by omega) (by omega) (by omega) (by omega)) ?_
  have I1 : Inv X pins σ H1 { s with heap := s.heap.push { cls := .type "range", data := .fields #[.int 0 t, .int n u, .int 1 v] }, toks := tk } := I.kept fun b o e => Heap.get?_push_of_some _ e
  refine ⟨(s.heap.push { cls := .type "range", data := .fields #[.int 0 t, .int n u, .int 1 v] }).objs.size, _, F1, H1, rfl, I1.kept (t' := tk) fun b o e => Heap.get?_push_of_some _ e, sm, it_range _ n F1, ?_, I1.fpOk (Nat.le_refl _) (I1.hok.fresh (Nat.le_refl _))⟩
  have e3 : ((n.toNat : Int)) - ((0 : Nat) : Int) = Builtin.Range.rangeSize 0 n 1 := by rw [rangeSize_one]; split <;> omega
  show IsRangeIter _ _ ((0 : Int) + ((0 : Nat) : Int)) ((n.toNat : Int) - ((0 : Nat) : Int)) 1
  rw [e3]
  exact Heap.get?_push_size _ rfl
theorem i_range {a : Expr} {fs : SA} {p pos : Pos} (hm : X.mg "range" = none) (ha : PA X [a] (uA X.K fs)) (hg : Gl X "range" := by rfl) (hs : starEach [a] X.env = [(false, eval a X.env)] := by rfl) : PIG X tg (.Call (.Name "range" p) [a] [] pos) (mRng fs) := by
  intro pins s σ F H env ds I sh re e
  obtain ⟨as, e1, e2⟩ := bind_some_of e
  refine Call_ (ld_blt I hg hm boot_range (PyProof.Rows.callWith_type1 (thn (ha.run pos pins s σ H (fun vs H1 => ∃ F1, Gr F H F1 H1 ∧ Rps X.K F1 vs as) I ⟨F, env, as, sh, re, e1, fun vs F1 H1 s1 r1 => ⟨F1, s1, r1⟩⟩) fun us s1 ⟨vs, H1, I1, rv, F1, s1', r1⟩ => ?_) hs rfl))
  match as, e2, r1 with
  | [.int n], e2, r1 =>
    simp only [gRng] at e2
    split at e2
    · rename_i hn
      obtain rfl := Option.some.inj e2
      simp only [Rps] at r1
      obtain ⟨v, ws, rfl, r2, rfl⟩ := r1
      obtain rfl := rp_int r2
      cases rv with
      | cons r rr =>
        cases rr
        obtain ⟨t, rfl⟩ := r
        exact call_range_1 (rng_it I1 s1' hn.1 hn.2)
    · cases e2
theorem i_items {l : Expr} {f : SE} (hl : PE X l (uE X.K f)) : PIG X tg l (mItems f) := by
  intro pins s σ F H env ds I sh re e
  obtain ⟨d, e1, e2⟩ := bind_some_of e
  refine thn (hl.run pins s σ H (fun v H1 => ∃ F1, Gr F H F1 H1 ∧ Rp X.K F1 v d) I ⟨F, env, d, sh, re, e1, fun v F1 H1 s1 r1 => ⟨F1, s1, r1⟩⟩) fun u s1 ⟨x, H1, I1, ru, F1, sm, r1⟩ => ?_
  have fin : ∀ {a : Addr} {vs : List V}, x = .ref a → SqL X.K F1 a vs → vs.length = ds.length → (∀ (i : Nat) (d : D), ds[i]? = some d → ∃ v, vs[i]? = some v ∧ Rp X.K F1 v d) →
      wpAny (model X.prog X.w) X.A (pyIter u) (fun itv s2 => ∃ (it : Addr) (tn : Nat → Heap → Prop) (F' H' : Hp), itv = .ref it ∧ Inv X pins σ H' s2 ∧ Gr F H F' H' ∧ ItG X.prog X.w X.K tg it ds F' tn ∧ tn 0 s2.heap ∧ FpOk X pins H' it) X.xe s1 := fun {a vs} hx hq hlen hr => by
    subst hx
    obtain rfl : u = Value.ref a := ru
    obtain ⟨its, rv, p, hz⟩ := I1.list (sm.fh.seq hq)
    refine wpAny_pyIter_list p.isList ?_
    refine ⟨s1.heap.objs.size, _, F1, H1, rfl, I1.kept (t' := s1.toks) fun b o e => Heap.get?_push_of_some _ e, sm, it_list s1.heap.objs.size a hlen hq hr, ⟨_, Heap.get?_push_size _ rfl, rfl, rfl⟩, I1.fpOk (Nat.le_refl _) (I1.hok.fresh (Nat.le_refl _))⟩
  cases d <;> simp only [gItems] at e2 <;> try contradiction
  · obtain rfl := Option.some.inj e2
    obtain ⟨a, vs, hx, h1, r2⟩ := rp_lst r1
    exact fin hx (.inl (.inl h1)) r2.length fun i d h => r2.get h
  · obtain rfl := Option.some.inj e2
    obtain ⟨a, hx, h1⟩ := rp_scr r1
    refine fin hx h1 (by simp) fun i d h => ?_
    rw [List.getElem?_map] at h
    obtain ⟨z, h2, rfl⟩ := map_some_of h
    exact ⟨.int z, by rw [List.getElem?_map, h2]; rfl, Rp.I⟩
end
end DL
namespace DL
open PySem PySem.Spec PyProof.Rows L2
/-- a for's meaning: the body for each item, its name in slot i -/
def loop (i : Nat) (f : SS) : List D → SS
  | [], env => some (.nx env)
  | d :: ds, env => (f (env.set i (some d))).bind fun o => match o with
    | .nx e => loop i f ds e
    | .ct e => loop i f ds e
    | .bk e => some (.nx e)
    | .rt d => some (.rt d)
def sFor (i : Nat) (fi : SA) (f : SS) : SS := fun env => (fi env).bind fun ds => loop i f ds env
def mapO (f : D → Option D) : List D → Option (List D)
  | [] => some []
  | d :: ds => (f d).bind fun x => (mapO f ds).map (x :: ·)
/-- [elt for x in ..], x in slot i -/
def mLc (i : Nat) (fi : SA) (fe : SE) : SE := fun env => (fi env).bind fun ds => if ds.length ≤ 1000000 then (mapO (fun d => fe (env.set i (some d))) ds).map D.lst else none
theorem mapO_len {f : D → Option D} : ∀ {ds es : List D}, mapO f ds = some es → es.length = ds.length
  | [], es, h => by
    obtain rfl := Option.some.inj h
    rfl
  | d :: ds, es, h => by
    obtain ⟨x, h1, h2⟩ := bind_some_of h
    obtain ⟨ys, h3, rfl⟩ := map_some_of h2
    simp [mapO_len h3]
section
variable {X : Cx}
theorem pin1 {pins : List (Addr × Obj)} {σ : L2.St} {H : Hp} {s : Shared} {it : Addr} (I : Inv X pins σ H s) (hf : FpOk X pins H it) (ho : ∃ o, s.heap.get? it = some o ∧ ∀ v, o.data ≠ .cell v) : Inv X (pins ++ pinsAt [it] s.heap) σ H s :=
  I.pinned (fun b hb => by
    obtain rfl : b = it := by simpa using hb
    exact hf) fun b hb => by
    obtain rfl : b = it := by simpa using hb
    exact ho
theorem pinned_at {pins : List (Addr × Obj)} {σ : L2.St} {H : Hp} {s : Shared} {h : Heap} {it : Addr} {o : Obj} (I : Inv X (pins ++ pinsAt [it] h) σ H s) (e : h.get? it = some o) : s.heap.get? it = some o ∧ H it = none := by
  have z := I.pin (it, o) (List.mem_append_right _ (List.mem_append_right _ (mem_pinsAt (by simp) e)))
  exact ⟨z.1, z.2.1⟩
theorem s_for {x : Str} {px pos : Pos} {iter : Expr} {body : List Stmt} {i : Nat} {fi : SA} {f : SS} (hp : PassesOwn (model X.prog X.w) X.A X.env X.xe) (hc : HC X) (hN : X.N.Nodup) (hi : PIG X (.Name x px) iter fi) (hb : PSs X body (uS X.K f))
    (hx : X.N[i]? = some x := by rfl) (hl : L2.Loc X.env.scope x := by first | exact Or.inl rfl | exact Or.inr rfl) (hf : X.fn x = true ∨ List.lookup x X.env.scope.names = some NameKind.local := by first | exact Or.inl rfl | exact Or.inr rfl)
    (hs : ∀ z, foldedSetIterable iter X.env z = pure z := by intro _; rfl) : PS X (.For (.Name x px) iter body [] pos) (uS X.K (sFor i fi f)) := by
  refine ⟨fun pins s σ H T I h => ?_⟩
  obtain ⟨F, env, o, sh, re, e, q⟩ := h
  obtain ⟨ds, e1, e2⟩ := bind_some_of e
  refine wpAny_For (thn (hi pins s σ F H env ds I sh re e1) fun v s1 h1 => thn h1 fun itv s2 h2 => ?_) hs
  obtain ⟨it, tn, F2, H2, rfl, I2, sm2, G, st2, f2⟩ := h2
  -- what stays of the iterator's object
  have stat : ∀ {H' : Hp}, H' it = none → FpOk X pins H' it := fun hn => ⟨hn, f2.2⟩
  refine codeAny_forLoop_any (fun n s' => ∃ (j : Nat) (σ' : L2.St) (F' H' : Hp) (env' : En), Inv X pins σ' H' s' ∧ tn j s'.heap ∧ H' it = none ∧ Gr F2 H2 F' H' ∧ ER X.K F' σ' env' ∧ loop i f (ds.drop j) env' = some o ∧ n = ds.length - j ∧ j ≤ ds.length) ?_ ds.length
    ⟨0, σ, F2, H2, env, I2, st2, f2.1, Gr.refl sm2.fh, re.mono sm2.ff, by simpa using e2, by simp, Nat.zero_le _⟩
  rintro n s3 ⟨j, σ3, F3, H3, env3, I3, st3, n3, sm3, re3, lo3, rfl, hj⟩
  by_cases hlt : j < ds.length
  · have hd : ds[j]? = some ds[j] := by simp [hlt]
    rw [List.drop_eq_getElem_cons hlt] at lo3
    obtain ⟨o1, e3, e4⟩ := bind_some_of lo3
    refine wpAny_passesOwn hp (thn (G.item X rfl rfl rfl hc j ds[j] pins s3 σ3 H3 X.xe hd I3 (sm3.ff.trans sm3.fh) (stat n3) st3) fun r s4 ⟨u, hr, h4⟩ => ?_)
    subst hr
    refine wpAny_passesOwn hp (thn h4 fun _ s5 ⟨y, I5, r5, rp5, st5⟩ => ?_)
    have I5' := pin1 I5 (stat n3) (G.obj _ _ st5)
    obtain ⟨oi, eo, _⟩ := G.obj _ _ st5
    refine wpAny_passesOwn hp (thn ((pg_name hN hx hl hf).run _ s5 σ3 H3 y u (fun σ' H' => σ' = σ3.set i (some y) ∧ H' = H3) I5' r5 ⟨rfl, rfl⟩) fun _ s6 ⟨σ6, H6, I6, hs6, hh6⟩ => ?_)
    subst hs6
    obtain rfl : H3 = H6 := hh6.symm
    let T' : Ends := { nx := fun σ' H' => ∃ F' env', Gr F3 H3 F' H' ∧ ER X.K F' σ' env' ∧ loop i f (ds.drop (j + 1)) env' = some o, rt := T.rt, bk := T.nx, ct := fun σ' H' => ∃ F' env', Gr F3 H3 F' H' ∧ ER X.K F' σ' env' ∧ loop i f (ds.drop (j + 1)) env' = some o }
    have hq : uS X.K f T' (σ3.set i (some y)) H3 := by
      refine ⟨F3, _, o1, sm3.fh, re3.set (rp5.mono sm3.ff), e3, ?_⟩
      have qq : OutOk X.K T F3 H3 o := q.later (sm2.trans sm3)
      cases o1 with
      | nx e => exact fun σ' F' H' sm r => ⟨F', e, sm, r, e4⟩
      | ct e => exact fun σ' F' H' sm r => ⟨F', e, sm, r, e4⟩
      | bk e =>
        obtain rfl := Option.some.inj e4
        exact qq
      | rt d =>
        obtain rfl := Option.some.inj e4
        exact qq
    refine wpAny_passesOwn hp (thn (hb.run _ s6 _ H3 T' I6 hq) fun fl s7 q7 => ?_)
    have again : ∀ {σ7 : L2.St} {H7 : Hp}, Inv X (pins ++ pinsAt [it] s5.heap) σ7 H7 s7 → (∃ F' env', Gr F3 H3 F' H7 ∧ ER X.K F' σ7 env' ∧ loop i f (ds.drop (j + 1)) env' = some o) →
        ∃ m, m < ds.length - j ∧ ∃ (j : Nat) (σ' : L2.St) (F' H' : Hp) (env' : En), Inv X pins σ' H' s7 ∧ tn j s7.heap ∧ H' it = none ∧ Gr F2 H2 F' H' ∧ ER X.K F' σ' env' ∧ loop i f (ds.drop j) env' = some o ∧ m = ds.length - j ∧ j ≤ ds.length := fun {σ7 H7} I7 ⟨F7, env', sm, r, l⟩ => by
      obtain ⟨z1, z2⟩ := pinned_at I7 eo
      exact ⟨ds.length - (j + 1), by omega, j + 1, σ7, F7, H7, env', I7.unpinned, G.keep _ _ _ st5 fun o' ho' => by
        rw [eo] at ho'
        obtain rfl := Option.some.inj ho'
        exact z1, z2, sm3.trans sm, r, l, rfl, hlt⟩
    cases fl with
    | next => obtain ⟨σ7, H7, I7, n7⟩ := q7; exact again I7 n7
    | cont => obtain ⟨σ7, H7, I7, n7⟩ := q7; exact again I7 n7
    | brk => obtain ⟨σ7, H7, I7, q8⟩ := q7; exact ⟨σ7, H7, I7.unpinned, q8⟩
    | ret v => obtain ⟨x7, σ7, H7, I7, r7, q8⟩ := q7; exact ⟨x7, σ7, H7, I7.unpinned, r7, q8⟩
  · have hj' : j = ds.length := by omega
    subst hj'
    rw [List.drop_length] at lo3
    obtain rfl := Option.some.inj lo3
    refine wpAny_passesOwn hp (thn (G.done X rfl rfl rfl hc _ pins s3 σ3 H3 X.xe (Nat.le_refl _) I3 (sm3.ff.trans sm3.fh) (stat n3) st3) fun r s4 ⟨hr, I4⟩ => ?_)
    subst hr
    exact wpAny_execs_nil ⟨σ3, H3, I4, q _ _ _ (sm2.trans sm3) re3⟩
end
end DL
namespace DL
open PySem PySem.Spec PyProof.Rows L2
/-- a comprehension's block, with what is handled around -/
abbrev blkG (X : Cx) (s : Shared) (H : Hp) (scope : Scope) (cenv : Env) (it : Addr) : Cx := { X.blk s H scope cenv [it] with pn := X.pn }
theorem mapO_get {f : D → Option D} : ∀ {ds es : List D} {j : Nat} {d : D}, mapO f ds = some es → ds[j]? = some d → ∃ e, es[j]? = some e ∧ f d = some e
  | [], es, j, d, h, hd => by simp at hd
  | d :: ds, es, j, d', h, hd => by
    obtain ⟨x, h1, h2⟩ := bind_some_of h
    obtain ⟨ys, h3, rfl⟩ := map_some_of h2
    cases j with
    | zero =>
      simp at hd
      subst hd
      exact ⟨x, rfl, h1⟩
    | succ j =>
      obtain ⟨e, z1, z2⟩ := mapO_get (j := j) h3 (by simpa using hd)
      exact ⟨e, by simpa using z1, z2⟩
section
variable {X : Cx} {pins : List (Addr × Obj)} {σ : L2.St} {H : Hp} {s : Shared}
theorem block_G {scope : Scope} {own : List (Str × Nat)} {it : Addr} (I : Inv X pins σ H s) (ok : BlkOk X.N X.env.scope scope own) (hN : X.N.Nodup) (hf : FpOk X pins H it ∧ it < s.heap.objs.size) :
    Inv (blkG X s H scope (compEnvC scope (cellsFrom (s.heap.objs.size + 1) scope.names (cloFrom X.env.cells scope.names [])) s.heap.objs.size X.env) it) [] (wipe σ (own.map (·.2))) H { s with heap := pushCells (s.heap.push { cls := .type "dict", data := .dict #[] }) scope.names } := by
  have J := block_start (fp := [it]) I ok hN fun b hb => by
    obtain rfl : b = it := by simpa using hb
    exact hf
  have k := J.ok
  refine ⟨⟨k.mod, k.kind, k.glob, k.blt, k.above, k.inj, k.has, k.cab, k.hd, k.frames, k.stk, k.exf, k.bs, k.bsz, k.noex, k.exfs, k.funs, k.frf⟩, J.os, J.bare, J.base, J.loc, J.cell, J.free, J.freeC, fun p hp => ?_, J.hok, J.len⟩
  have hp' : p ∈ X.pn := by simpa using (show p ∈ X.pn ++ [] from hp)
  obtain ⟨p1, p2, p3, p4, p5⟩ := I.pin p (List.mem_append_left _ hp')
  refine ⟨pushCells_keeps _ _ _ _ (Heap.get?_push_of_some _ p1), p2, ?_, fun z => ?_, p5⟩
  · exact Nat.ne_of_lt (Heap.lt_size p1)
  · rcases List.mem_cons.mp (I.stkSub p.1 z) with z | z
    · exact p3 z
    · exact p4 z
end
section
variable {X : Cx}
theorem d_lc {elt iter : Expr} {x : Str} {px pos : Pos} {scope : Scope} {i : Nat} {fi : SA} {fe : SE} (hc : HC X) (hN : X.N.Nodup) (hi : PIG X (.Name x px) iter fi) (ok : BlkOk X.N X.env.scope scope [(x, i)])
    (hg : ∀ (s : Shared) (H : Hp) (C : Addr) (cl : List (Str × Addr)) (it : Addr), PG (blkG X s H scope (compEnvC scope cl C X.env) it) (.Name x px) (gName i))
    (he : ∀ (s : Shared) (H : Hp) (C : Addr) (cl : List (Str × Addr)) (it : Addr), PE (blkG X s H scope (compEnvC scope cl C X.env) it) elt (uE X.K fe)) (hs : ∀ z, foldedSetIterable iter X.env z = pure z := by intro _; rfl) :
    PE X (.ListComp elt [⟨.Name x px, iter, [], 0⟩] scope pos) (uE X.K (mLc i fi fe)) := by
  refine ⟨fun pins s σ H Q I h => ?_⟩
  obtain ⟨F, env, d0, sh, re, e, hQ⟩ := h
  obtain ⟨ds, e1, e2⟩ := bind_some_of e
  split at e2
  case isFalse => cases e2
  rename_i hlen
  obtain ⟨es, e3, rfl⟩ := map_some_of e2
  have hel := mapO_len e3
  rw [eval_ListComp]
  have hfree : ∀ y ∈ scope.names, y.2 = .free → ∃ c, X.env.cells.lookup y.1 = some c := fun y hy z => (ok.free y hy z).elim (fun k => I.ok.has _ (.inl k)) fun k => I.ok.has _ (.inr k)
  refine wpAny_comprehension_free (use := none) rfl hs (closure_ok hfree) ok.kind (fun y hy z => by rw [ok.uniq y hy, z]) (thn (hi pins s σ F H env ds I sh re e1) fun xv s1 hx => thn hx fun itv s2 h2 => ?_)
  obtain ⟨it, tn, F2, H2, rfl, I2, g2, G, st2, f2⟩ := h2
  refine wpAny_newObj_type (newEnv_comp ?_) (by show 0 ≤ sizeLine; decide)
  generalize hL : s2.heap.objs.size = L
  have hLn : H2 L = none := I2.hok.fresh (Nat.le_of_eq hL)
  generalize hs3 : ({ s2 with heap := s2.heap.push { cls := .type "list", data := .seq ([] : List Value).toArray } } : Shared) = s3
  have h3 : s3.heap = s2.heap.push { cls := .type "list", data := .seq ([] : List Value).toArray } := by rw [← hs3]
  have I3 : Inv X pins σ (upd H2 L (.lst [])) s3 := by
    rw [← hs3]
    refine I2.laid (t' := s2.toks) (fun b o z => Heap.get?_push_of_some _ z) (Nat.le_of_eq hL) ⟨Nat.zero_le _, [], 0, .nil, ?_⟩
    rw [← hL]
    exact Heap.get?_push_size _ rfl
  obtain ⟨oi, eoi, _⟩ := G.obj _ _ st2
  have itlt : it < s2.heap.objs.size := Heap.lt_size eoi
  have f3 : FpOk X pins (upd H2 L (.lst [])) it ∧ it < s3.heap.objs.size := by
    refine ⟨⟨?_, f2.2⟩, by rw [h3, Heap.size_push]; exact Nat.lt_succ_of_lt itlt⟩
    rw [upd_ne (by rw [← hL]; exact Nat.ne_of_lt itlt)]
    exact f2.1
  have st3 : tn 0 s3.heap := G.keep _ _ _ st2 fun o z => by rw [h3]; exact Heap.get?_push_of_some _ z
  have I4 := block_G I3 ok hN f3
  have pg := hg s3 (upd H2 L (.lst [])) s3.heap.objs.size (cellsFrom (s3.heap.objs.size + 1) scope.names (cloFrom X.env.cells scope.names [])) it
  have pe := he s3 (upd H2 L (.lst [])) s3.heap.objs.size (cellsFrom (s3.heap.objs.size + 1) scope.names (cloFrom X.env.cells scope.names [])) it
  show codeAny _ _ (.compStart (.ListComp elt [⟨.Name x px, iter, [], 0⟩] scope pos) 0 (.ref it) (.ref L) (compEnvC scope (cellsFrom (s3.heap.objs.size + 1) scope.names (cloFrom X.env.cells scope.names [])) s3.heap.objs.size X.env))
    (compPost (model X.prog X.w) X.A X.xe none (EP X pins σ Q) (.ref L) s3.heap.objs.size) { s3 with heap := pushCells (s3.heap.push { cls := .type "dict", data := .dict #[] }) scope.names }
  generalize hce : compEnvC scope (cellsFrom (s3.heap.objs.size + 1) scope.names (cloFrom X.env.cells scope.names [])) s3.heap.objs.size X.env = ce at I4 pg pe ⊢
  have cL : ce.locals = s3.heap.objs.size := by subst hce; rfl
  generalize hs4 : ({ s3 with heap := pushCells (s3.heap.push { cls := .type "dict", data := .dict #[] }) scope.names } : Shared) = s4 at I4 ⊢
  have st4 : tn 0 s4.heap := G.keep _ _ _ st3 fun o z => by rw [← hs4]; exact pushCells_keeps _ _ _ _ (Heap.get?_push_of_some _ z)
  have Lit : L ≠ it := by rw [← hL]; exact Nat.ne_of_gt itlt
  have stat : ∀ {σ' : L2.St} {H' : Hp} {s' : Shared}, Inv (blkG X s3 (upd H2 L (.lst [])) scope ce it) [] σ' H' s' → H' it = none → FpOk (blkG X s3 (upd H2 L (.lst [])) scope ce it) [] H' it := fun {σ' H' s'} I' hn => by
    have m : it ∈ (blkG X s3 (upd H2 L (.lst [])) scope ce it).ex := show it ∈ [it] by simp
    refine ⟨hn, (I'.ok.exf it m).1, I'.ok.exfs it m, .inl m, fun y c z => (I'.ok.exf it m).2 y c z, fun p hp => ?_⟩
    have hp' : p ∈ X.pn := by simpa using (show p ∈ X.pn ++ [] from hp)
    exact f2.2.2.2.2.2 p (List.mem_append_left _ hp')
  -- the words of the loop: what is made so far
  let W : Nat → Hp → Prop := fun j H' => ∃ (F' : Hp) (acc : List V), H' L = some (.lst acc) ∧ F' L = none ∧ Same F2 F' ∧ (∀ b o, b ≠ L → F' b = some o → H' b = some o) ∧ (∀ b o, H2 b = some o → H' b = some o) ∧ (∀ a, F2 a = none → F' a ≠ none → H2 a = none) ∧ Rps X.K F' acc (es.take j)
  have F2L : F2 L = none := g2.fh.free hLn
  have loop : codeAny (model X.prog X.w) X.A (.compLoop (.ListComp elt [⟨.Name x px, iter, [], 0⟩] scope pos) 0 (.ref it) (.ref L) ce) (compPost (model X.prog X.w) X.A X.xe none (EP X pins σ Q) (.ref L) s3.heap.objs.size) s4 := by
    refine compLoop_any (fun n s' => ∃ (j : Nat) (H' : Hp), Inv (blkG X s3 (upd H2 L (.lst [])) scope ce it) [] (wipe σ ([(x, i)].map (·.2))) H' s' ∧ tn j s'.heap ∧ H' it = none ∧ W j H' ∧ n = ds.length - j ∧ j ≤ ds.length) ?_ ds.length
      ⟨0, _, I4, st4, f3.1.1, ⟨F2, [], upd_same, F2L, Same.refl _, fun b o hb z => by rw [upd_ne hb]; exact g2.fh b o z, fun b o z => by rw [upd_ne (ne_of_none z hLn)]; exact z, fun a z n => absurd z n, by simp only [List.take_zero, Rps]⟩, by simp, Nat.zero_le _⟩
    rintro n s5 ⟨j, H5, I5, st5, n5, ⟨F5, acc, w1, w2, w3, w4, w5, w6, w7⟩, rfl, hj⟩
    have sm5 : Same F2 H5 := fun b o z => w5 b o (g2.fh b o z)
    by_cases hlt : j < ds.length
    · have hd : ds[j]? = some ds[j] := by simp [hlt]
      obtain ⟨ej, he1, he2⟩ := mapO_get e3 hd
      have ti := G.item (blkG X s3 (upd H2 L (.lst [])) scope ce it) rfl rfl rfl hc j ds[j] [] s5 _ H5 (fun _ _ => False) hd I5 sm5 (stat I5 n5) st5
      refine thnF ti fun r s6 ⟨u, hr, h6⟩ => ?_
      subst hr
      refine thnF h6 fun _ s7 ⟨y, I7, r7, rp7, st7⟩ => ?_
      have I7' := pin1 I7 (stat I7 n5) (G.obj _ _ st7)
      obtain ⟨oj, eoj, _⟩ := G.obj _ _ st7
      refine thnF (pg.run _ s7 _ H5 y u (fun σ' H' => σ' = (wipe σ ([(x, i)].map (·.2))).set i (some y) ∧ H' = H5) I7' r7 ⟨rfl, rfl⟩) fun _ s8 ⟨σ8, H8, I8, hs8, hh8⟩ => ?_
      subst hs8
      obtain rfl : H5 = H8 := hh8.symm
      refine wpAny_tests_nil ?_
      show wpAny _ _ _ _ _ _
      have F5H : Same F5 H5 := fun b o z => by
        by_cases hb : b = L
        · rw [hb, w2] at z; cases z
        · exact w4 b o hb z
      have re8 : ER X.K F5 ((wipe σ ([(x, i)].map (·.2))).set i (some y)) (env.set i (some ds[j])) := by
        have r0 : ER X.K F5 σ env := (re.mono g2.ff).mono w3
        have e0 : (wipe σ ([(x, i)].map (·.2))).set i (some y) = σ.set i (some y) := by
          show ((σ.set i none) : List (Option V)).set i (some y) = σ.set i (some y)
          simp
        rw [e0]
        exact r0.set (rp7.mono w3)
      refine thnF (pe.run _ s8 _ H5 (fun v H' => ∃ F', Gr F5 H5 F' H' ∧ Rp X.K F' v ej) I8 ⟨F5, _, ej, F5H, re8, he2, fun v F' H' g r => ⟨F', g, r⟩⟩) fun z s10 ⟨yv, H10, I10, r10, F10, g10, rp10⟩ => ?_
      have L10 : H10 L = some (.lst acc) := g10.hh _ _ w1
      have F10L : F10 L = none := by
        cases z : F10 L with
        | none => rfl
        | some o =>
          have := g10.new L w2 (by rw [z]; simp)
          rw [w1] at this
          cases this
      have hacc : acc.length = j := by rw [w7.length, List.length_take, hel]; omega
      refine app_ok (X := blkG X s3 (upd H2 L (.lst [])) scope ce it) I10 L10 (by rw [hacc, sizeLine_eq]; omega) r10 fun s11 I11 => ?_
      obtain ⟨z1, z2⟩ := pinned_at I11 eoj
      refine ⟨ds.length - (j + 1), by omega, j + 1, _, (I11.unpinned (pins := [])).weak (by simp [wipe]) (fun k v hk => ?_), G.keep _ _ _ st7 fun o' ho' => by
        rw [eoj] at ho'
        obtain rfl := Option.some.inj ho'
        exact z1, z2, ⟨F10, acc ++ [yv], upd_same, F10L, w3.trans g10.ff, fun b o hb zz => by rw [upd_ne hb]; exact g10.fh b o zz, fun b o zz => by rw [upd_ne (ne_of_none zz hLn)]; exact g10.hh b o (w5 b o zz), fun a za zn => ?_, ?_⟩, rfl, hlt⟩
      · have hk' : ((σ.set i none) : List (Option V))[k]? = some (some v) := hk
        show (((σ.set i none) : List (Option V)).set i (some y))[k]? = some (some v)
        by_cases hki : k = i
        · subst hki
          by_cases hl : k < σ.length
          · rw [List.getElem?_set_self hl] at hk'
            cases hk'
          · rw [List.getElem?_eq_none (by simpa using hl)] at hk'
            cases hk'
        · rw [List.getElem?_set_ne (Ne.symm hki)]
          exact hk'
      · by_cases h5 : F5 a = none
        · have q : H5 a = none := g10.new a h5 zn
          cases z : H2 a with
          | none => rfl
          | some o =>
            rw [w5 a o z] at q
            cases q
        · exact w6 a za h5
      · rw [List.take_succ, he1]
        refine (w7.mono g10.ff).append ?_
        simp only [Option.toList, Rps]
        exact ⟨yv, [], rfl, rp10, rfl⟩
    · obtain rfl : j = ds.length := by omega
      have td := G.done (blkG X s3 (upd H2 L (.lst [])) scope ce it) rfl rfl rfl hc ds.length [] s5 _ H5 (fun _ _ => False) (Nat.le_refl _) I5 sm5 (stat I5 n5) st5
      refine thnF td fun r s6 ⟨hr, I6⟩ => ?_
      subst hr
      have I7 : Inv X pins σ H5 s6 := I3.call' (ch := [it]) I6.os I6.base I6.hok I6.bare fun b hb => by
        obtain rfl : b = it := by simpa using hb
        exact ⟨f3.1.2.2.2.1, f3.1.2.1, f3.1.2.2.2.2.1, f3.1.2.2.2.2.2⟩
      have nC : H5 s3.heap.objs.size = none := by
        have z : H5 ce.locals = none := I6.free
        rw [cL] at z
        exact z
      obtain ⟨m, hn, _⟩ := I6.loc
      have hn : s6.heap.Ns ce.locals m := hn
      rw [cL] at hn
      obtain ⟨q0, q1, q2, q3, q4, q5⟩ := I3.fpOk (Nat.le_refl _) nC
      refine ⟨m, hn, fun h'' sb => ⟨.ref L, H5, I7.turned (t' := s6.toks) (fun b o hb z => (sb.2 b hb).trans z) q0 q1 q3 q4 q5, rfl, ?_⟩⟩
      have w7' : Rps X.K F5 acc es := by
        rw [← hel, List.take_length] at w7
        exact w7
      have smF : Same F5 (upd F5 L (.lst acc)) := same_upd w2
      refine hQ (.ref L) (upd F5 L (.lst acc)) H5 (g2.trans ⟨w3.trans smF, fun b o z => ?_, w5, fun a za zn => ?_⟩) (Rp.L upd_same (w7'.mono smF))
      · by_cases hb : b = L
        · subst hb
          rw [upd_same] at z
          obtain rfl := Option.some.inj z
          exact w1
        · rw [upd_ne hb] at z
          exact w4 b o hb z
      · by_cases hb : a = L
        · subst hb; exact hLn
        · rw [upd_ne hb] at zn
          exact w6 a za zn
  exact codeAny_compStart_list loop (G.self X.A 0 _ _ _ st4 loop)
end
end DL
namespace DL
open PySem PySem.Spec PyProof.Rows L2
open L2H (RoomH PinOk)
section
variable {P : Program} {w : World} {K : PySem.W.Frag} {mg : Str → Option Value} {base : Heap}
/-- a def's promise, whatever is handled around; CA: what leaves it by raising -/
structure FnGC (Ch : List (Addr × Obj) → Around → Prop) (P : Program) (w : World) (K : PySem.W.Frag) (mg : Str → Option Value) (base : Heap) (CA : Around → CXT) (k : Nat) (f : Addr) (fd : FuncData) (ps : List Str) (sp : Sp) : Prop where
  len : ∀ vs H Q E, sp vs H Q E → vs.length = ps.length
  run : ∀ (pn : List (Addr × Obj)) (A : Around) (outer : List Env) (s : Shared) (H : Hp) (args : Args) (us : List Value) (vs : List V) (Q : VK) (E : XK), RoomH k A → Ch pn A → (∀ p ∈ pn, PinOk outer H s p) → Env0 P w K mg base A outer s H → BindsTo s fd args (ps.zip us) → Vals vs us → sp vs H Q E →
    codeAny (model P w) A (.call (.ref f) args) (CR (CA A) outer P w H s Q E) s
abbrev FnG := FnGC ChainIn
variable {Ch : List (Addr × Obj) → Around → Prop}
theorem FnGC.less {Ch' : List (Addr × Obj) → Around → Prop} {CA : Around → CXT} {k : Nat} {f : Addr} {fd : FuncData} {ps : List Str} {sp : Sp} (F : FnGC Ch P w K mg base CA k f fd ps sp) (h : ∀ pn A, Ch' pn A → Ch pn A) : FnGC Ch' P w K mg base CA k f fd ps sp :=
  ⟨F.len, fun pn A outer s H args us vs Q E hr hc => F.run pn A outer s H args us vs Q E hr (h _ _ hc)⟩
theorem FnGC.mono {CA : Around → CXT} {j k : Nat} {f : Addr} {fd : FuncData} {ps : List Str} {sp : Sp} (F : FnGC Ch P w K mg base CA j f fd ps sp) (h : j ≤ k) : FnGC Ch P w K mg base CA k f fd ps sp :=
  ⟨F.len, fun pn A outer s H args us vs Q E hr => F.run pn A outer s H args us vs Q E (hr.mono h)⟩
theorem FnGC.imp {CA : Around → CXT} {k : Nat} {f : Addr} {fd : FuncData} {ps : List Str} {sp sp' : Sp} (F : FnGC Ch P w K mg base CA k f fd ps sp) (h : ∀ vs H Q E, sp' vs H Q E → sp vs H Q E) : FnGC Ch P w K mg base CA k f fd ps sp' :=
  ⟨fun vs H Q E q => F.len vs H Q E (h _ _ _ _ q), fun pn A outer s H args us vs Q E hr hc hp he hb hv hs => F.run pn A outer s H args us vs Q E hr hc hp he hb hv (h _ _ _ _ hs)⟩
/-- what is promised of no call -/
theorem FnGC.never {CA : Around → CXT} {k : Nat} {f : Addr} {fd : FuncData} {ps : List Str} {sp : Sp} (h : ∀ vs H Q E, ¬ sp vs H Q E) : FnGC Ch P w K mg base CA k f fd ps sp :=
  ⟨fun vs H Q E q => absurd q (h _ _ _ _), fun pn A outer s H args us vs Q E hr hc hp he hb hv hs => absurd hs (h _ _ _ _)⟩
/-- the context of a def's body -/
abbrev cxG (CX : CXT) (P : Program) (w : World) (K : PySem.W.Frag) (mg : Str → Option Value) (base : Heap) (N : List Str) (qual : Str) (scope : Scope) (f : Addr) (cd : Value) (A : Around) (outer : List Env) (s : Shared) (H : Hp) (E : XK) (pn : List (Addr × Obj)) : Cx :=
  { cxOf CX P w K mg base N qual scope f cd A outer s H E with calm := false, pn := pn }
theorem start_G {CX : CXT} {N ps : List Str} {qual : Str} {scope : Scope} {f : Addr} {cd : Value} {A : Around} {outer : List Env} {s s1 : Shared} {H : Hp} {E : XK} {us : List Value} {vs : List V} {pn : List (Addr × Obj)}
    (S : FnScope N ps scope) (hpin : ∀ p ∈ pn, PinOk outer H s p) (e0 : Env0 P w K mg base A outer s H) (hl : vs.length = ps.length) (r : Vals vs us)
    (x : InCallC s s.heap.objs.size (bindL (envOfC qual scope s.heap.objs.size f cd).kindOf (ps.zip us) fun _ => none) (cellsFrom (s.heap.objs.size + 1) scope.names []) (bindC (envOfC qual scope s.heap.objs.size f cd).kindOf (ps.zip us) fun _ => none) s1) :
    Inv (cxG CX P w K mg base N qual scope f cd A outer s H E pn) [] (L2.start N vs) H s1 := by
  -- the same entry with nothing handled
  have e1 : Env0 P w K mg base { A with handled := none } outer s H := ⟨e0.frames, e0.mod, e0.bs, e0.bsz, e0.funs, e0.frf, e0.hok, e0.bare⟩
  have J := inv_start (CX := CX) (E := E) S rfl e1 hl r x
  have k := J.ok
  obtain ⟨h1, tk, rfl, hk⟩ := x.done
  refine ⟨⟨k.mod, k.kind, k.glob, k.blt, k.above, k.inj, k.has, k.cab, (fun z => Bool.noConfusion (show false = true from z)), Around.frames_deeper e0.frames, k.stk, k.exf, k.bs, k.bsz, k.noex, k.exfs, k.funs, k.frf⟩, J.os, J.bare, J.base, J.loc, J.cell, J.free, J.freeC, fun p hp => ?_, J.hok, J.len⟩
  have hp' : p ∈ pn := by simpa using (show p ∈ pn ++ [] from hp)
  have z := hpin p hp'
  exact ⟨hk _ _ z.get, z.free, Nat.ne_of_lt (Heap.lt_size z.get), z.nofs, z.nocell⟩
theorem fn_G {CA : Around → CXT} {k : Nat} {f : Addr} {name qual : Str} {params : Arguments} {body : List Stmt} {scope : Scope} {dV kV doc pm cdv ct oc : Value} {an od : Option Addr} {osl : Array (Option Value)} {N ps : List Str} {sp : Sp}
    (lk : K.lookup f = some ⟨oc, od, .func (PySem.W.fnOf name qual params body scope dV kV doc pm an cdv ct), osl⟩) (hcd : PySem.W.codeIn K cdv qual = true) (S : FnScope N ps scope) (len : ∀ vs H Q E, sp vs H Q E → vs.length = ps.length)
    (hbody : ∀ (pn : List (Addr × Obj)) (A : Around) (outer : List Env) (s : Shared) (H : Hp) (vs : List V) (Q : VK) (E : XK), Ch pn A → RoomH k (A.deeper (envOfC qual scope s.heap.objs.size f cdv)) → sp vs H Q E →
      ∃ t, PSs (cxG (CA A) P w K mg base N qual scope f cdv A outer s H E pn) body t ∧ t { nx := fun _ H' => Q .non H', rt := Q } (L2.start N vs) H) :
    FnGC Ch P w K mg base CA (k + 1) f (PySem.W.fnOf name qual params body scope dV kV doc pm an cdv ct) ps sp := by
  refine ⟨len, fun pn A outer s H args us vs Q E hr hc hpin e0 hb r hsp => ?_⟩
  have hl := len _ _ _ _ hsp
  have KX : K.In s.heap := e0.mod.kin.keeps fun b o e => (e0.bs b o e).1
  have hkind : ∀ y ∈ ps.zip us, scope.names.lookup y.1 = some .local ∨ (scope.names.lookup y.1 = some .cell ∧ ((cellsFrom (s.heap.objs.size + 1) scope.names []).lookup y.1).isSome = true) := fun y hy =>
    (S.par y.1 (List.of_mem_zip (a := y.1) (b := y.2) hy).1).elim .inl fun q => .inr ⟨q, PySem.W.cellsFrom_some _ _ _ (.inl q)⟩
  refine codeAny_call_function hr.depth (KX _ _ lk) rfl S.co S.gen rfl (PySem.W.codeRec_of KX hcd) (hb _ _ _ _ ?_)
  refine wpAny_newFunctionEnv_cells S.kind hkind fun env he s1 x => ?_
  subst he
  refine ⟨(e0.mod.nolimit.keeps fun b o e => (e0.bs b o e).1).keeps x.toInCall.keep, codeAny_func ?_⟩
  obtain ⟨t, ht, hq⟩ := hbody pn A outer s H vs Q E hc (hr.deeper _) hsp
  have I := start_G (CX := CA A) (E := E) (pn := pn) S hpin e0 hl r x
  refine wpAny_mono (ht.run [] s1 (L2.start N vs) H _ I hq) (fun fl s' hs => ?_) fun e s' hs => hs
  cases fl with
  | ret u =>
    obtain ⟨v, σ', H', J, rv, q⟩ := hs
    exact ⟨v, H', J.os, J.bare, J.base, J.hok, rv, q⟩
  | next =>
    obtain ⟨σ', H', J, q⟩ := hs
    exact ⟨V.non, H', J.os, J.bare, J.base, J.hok, rfl, q⟩
  | brk =>
    obtain ⟨_, _, _, q⟩ := hs
    exact False.elim q
  | cont =>
    obtain ⟨_, _, _, q⟩ := hs
    exact False.elim q
/-- in a calm place it is the layer's own promise -/
theorem FnGC.ok {CX : CXT} {CA : Around → CXT} {k : Nat} {f : Addr} {fd : FuncData} {ps : List Str} {sp : Sp} (F : FnGC Ch P w K mg base CA k f fd ps sp) (hch : ∀ A, A.handled = none → Ch [] A) (h : ∀ A, A.handled = none → CA A = CX) : FnOk P w K mg base CX k f fd ps sp :=
  ⟨F.len, fun A outer s H args us vs Q E hr e0 hb r hsp => by
    have z := F.run [] A outer s H args us vs Q E (L2H.roomH_of hr) (hch A hr.hd) (fun p hp => nomatch hp) e0 hb r hsp
    rw [h A hr.hd] at z
    exact z⟩
end
/-! ### calls -/
section
variable {X : Cx} {Ch : List (Addr × Obj) → Around → Prop} {CA : Around → CXT} {k : Nat} {f : Addr} {fd : FuncData} {ps : List Str} {sp : Sp} {E : L2.St → XK} {x : Str} {q pos : Pos} {e : Expr} {es : List Expr} {t : TA}
theorem run_G {pins : List (Addr × Obj)} {σ : L2.St} {H : Hp} {s : Shared} {Q : VK} {us : List Value} {vs : List V} (F : FnGC Ch X.prog X.w X.K X.mg X.base CA k f fd ps sp) (hr : RoomH k X.A) (hc : Ch X.pn X.A) (hb : Binds X.K fd ps []) (hx : PassesAt (CA X.A) X σ (E σ))
    (I : Inv X pins σ H s) (r : Vals vs us) (h : sp vs H Q (E σ)) : wpAny (model X.prog X.w) X.A (call (.ref f) us) (EP X pins σ Q) X.xe s := by
  have hl : us.length = ps.length := by rw [← r.length]; exact F.len _ _ _ _ h
  have b := hb s us I.kIn (by rw [List.append_nil]; exact hl)
  rw [List.append_nil] at b
  have hpin : ∀ p ∈ X.pn, PinOk X.stack H s p := fun p hp => by
    have z := I.pin p (List.mem_append_left _ hp)
    exact ⟨z.1, z.2.1, fun hm => (List.mem_cons.mp (I.stkSub p.1 hm)).elim z.2.2.1 z.2.2.2.1, z.2.2.2.2⟩
  refine wpAny_call (codeAny_mono (F.run X.pn X.A X.stack s H ⟨us, []⟩ us vs Q (E σ) hr hc hpin I.env0 b r h) fun r s' hq => ?_)
  cases r with
  | error e => exact hx pins H s e s' I hq
  | ok fl =>
    cases fl with
    | ret u => exact I.after hq
    | next => exact False.elim hq
    | brk => exact False.elim hq
    | cont => exact False.elim hq
theorem pe_callG (F : FnGC Ch X.prog X.w X.K X.mg X.base CA k f fd ps sp) (hr : RoomH k X.A) (hc : Ch X.pn X.A) (hm : X.mg x = some (.ref f)) (hk : PySem.W.keepIn X.K (.ref f) = true) (hb : Binds X.K fd ps []) (hx : ∀ σ, PassesAt (CA X.A) X σ (E σ))
    (ha : PA X (e :: es) t) (hg : Gl X x := by rfl) (hdb : (x == ("__debug__" : Str)) = false := by decide) (he : starEach (e :: es) X.env = (false, eval e X.env) :: starEach es X.env := by rfl) (hpl : (backTo pos (starEach es X.env)).any (·.1) = false := by rfl) :
    PE X (.Call (.Name x q) (e :: es) [] pos) (tCallS sp E t) := by
  refine ⟨fun pins s σ H Q I h => ?_⟩
  refine wpAny_Call_Name_kw (ld_glob I hg hm ?_ hdb)
  exact PySem.W.callWith_K (h₀ := X.base) I.ok.mod.kin hk (thn (ha.run pos pins s σ H _ I h) fun us s1 ⟨vs, H1, I1, r, z⟩ => ⟨I1.kIn, run_G F hr hc hb (hx σ) I1 r z⟩) he hpl
end
/-! ### a def of plain data -/
/-- called with n values: what g tells -/
def spD (K : PySem.W.Frag) (n : Nat) (g : List D → Option D) : Sp := fun vs H Q _ => ∃ F ds d, Same F H ∧ Rps K F vs ds ∧ ds.length = n ∧ g ds = some d ∧ ∀ v F' H', Gr F H F' H' → Rp K F' v d → Q v H'
def res : Out → Option D
  | .rt d => some d
  | .nx _ => some .non
  | _ => none
/-- the meaning of a def of n parameters and m other names by its body's -/
def mean (n m : Nat) (f : SS) : List D → Option D := fun ds => if ds.length = n then (f (ds.map some ++ List.replicate m none)).bind res else none
abbrev CA0 : Around → CXT := fun _ => CX0
theorem spD_len {K : PySem.W.Frag} {n : Nat} {g : List D → Option D} {ps : List Str} (hn : ps.length = n) : ∀ vs H Q E, spD K n g vs H Q E → vs.length = ps.length := fun vs H Q E ⟨F, ds, d, _, r, hl, _, _⟩ => by rw [r.length, hl, hn]
theorem ER.start {K : PySem.W.Frag} {F : Hp} {vs : List V} {ds : List D} {N : List Str} {m : Nat} (r : Rps K F vs ds) (hN : N.length = ds.length + m) : ER K F (L2.start N vs) (ds.map some ++ List.replicate m none) := by
  have hl := r.length
  refine ⟨?_, fun i d e => ?_⟩
  · unfold L2.start
    simp
    omega
  · by_cases hi : i < ds.length
    · rw [List.getElem?_append_left (by simpa using hi), List.getElem?_map] at e
      cases z : ds[i]? with
      | none => rw [z] at e; cases e
      | some d' =>
        rw [z] at e
        cases e
        obtain ⟨v, h1, h2⟩ := r.get z
        refine ⟨v, ?_, h2⟩
        unfold L2.start
        rw [List.getElem?_append_left (by simp; omega), List.getElem?_map, h1]
        rfl
    · rw [List.getElem?_append_right (by simpa using hi), List.getElem?_replicate] at e
      split at e <;> cases e
section
variable {P : Program} {w : World} {K : PySem.W.Frag} {mg : Str → Option Value} {base : Heap}
theorem def_D {Ch : List (Addr × Obj) → Around → Prop} {x qual : Str} {st : Stmt} {f : Addr} {fd : FuncData} {N ps : List Str} {k n m : Nat} {g : SS} (F : Fun K x qual st f fd) (S : FnScope N ps (defScope st)) (hn : ps.length = n) (hN : N.length = n + m)
    (hbody : ∀ (pn : List (Addr × Obj)) (A : Around) (outer : List Env) (s : Shared) (H : Hp) (E : XK) (cdv : Value), Ch pn A → RoomH k (A.deeper (envOfC qual (defScope st) s.heap.objs.size f cdv)) →
      PSs (cxG CX0 P w K mg base N qual (defScope st) f cdv A outer s H E pn) (defBody st) (uS K g)) : FnGC Ch P w K mg base CA0 (k + 1) f fd ps (spD K n (mean n m g)) := by
  obtain ⟨oc, od, kV, doc, pm, an, cdv, ct, osl, rfl, lk, hcd⟩ := F.ex
  refine fn_G lk hcd S (spD_len hn) fun pn A outer s H vs Q E hc hr hsp => ⟨uS K g, hbody pn A outer s H E cdv hc hr, ?_⟩
  obtain ⟨F0, ds, d, sh, r, hl, e, q⟩ := hsp
  unfold mean at e
  rw [if_pos hl] at e
  obtain ⟨o, e1, e2⟩ := bind_some_of e
  refine ⟨F0, _, o, sh, ER.start r (by rw [hN, hl]), e1, ?_⟩
  cases o with
  | rt d' =>
    obtain rfl := Option.some.inj e2
    exact q
  | nx env =>
    obtain rfl := Option.some.inj e2
    exact fun σ' F' H' g r => q .non F' H' g Rp.N
  | bk _ => cases e2
  | ct _ => cases e2
/-- the meaning in other words -/
theorem FnGC.toD {Ch : List (Addr × Obj) → Around → Prop} {CA : Around → CXT} {k n : Nat} {f : Addr} {fd : FuncData} {ps : List Str} {g g' : List D → Option D} (F : FnGC Ch P w K mg base CA k f fd ps (spD K n g)) (h : ∀ ds d, g' ds = some d → g ds = some d) : FnGC Ch P w K mg base CA k f fd ps (spD K n g') :=
  F.imp fun vs H Q E ⟨F0, ds, d, sh, r, hl, e, q⟩ => ⟨F0, ds, d, sh, r, hl, h _ _ e, q⟩
end
section
variable {X : Cx}
theorem d_call {Ch : List (Addr × Obj) → Around → Prop} {k n : Nat} {f : Addr} {fd : FuncData} {ps : List Str} {g : List D → Option D} {x : Str} {q pos : Pos} {e : Expr} {es : List Expr} {fs : SA} (F : FnGC Ch X.prog X.w X.K X.mg X.base CA0 k f fd ps (spD X.K n g)) (hn : ps.length = n) (hr : RoomH k X.A) (hc : Ch X.pn X.A) (hm : X.mg x = some (.ref f))
    (hk : PySem.W.keepIn X.K (.ref f) = true) (hb : Binds X.K fd ps []) (ha : PA X (e :: es) (uA X.K fs)) (hg : Gl X x := by rfl) (hdb : (x == ("__debug__" : Str)) = false := by decide) (he : starEach (e :: es) X.env = (false, eval e X.env) :: starEach es X.env := by rfl)
    (hpl : (backTo pos (starEach es X.env)).any (·.1) = false := by rfl) : PE X (.Call (.Name x q) (e :: es) [] pos) (uE X.K (mFn (fun ds => if ds.length = n then g ds else none) fs)) :=
  PE.imp (pe_callG (E := fun _ => E0) F hr hc hm hk hb (fun σ _ _ _ _ _ _ z => z.elim) ha hg hdb he hpl) (uFn (r := fun vs H Q => spD X.K n g vs H Q E0) fun vs ds F H Q d sh r e q => by
    split at e
    · rename_i hl
      exact ⟨F, ds, d, sh, r, hl, e, q⟩
    · cases e)
end
end DL
namespace DL
open PySem PySem.Spec PyProof.Rows PySem.W PySem.HandSPX PySem.Calls
section
variable {prog : Program} {w : World} {A : Around} {E : Value → Shared → Prop} {h : Heap} {g : Array GenState} {d : Drawn} {t : Nat} {os : OsState}
variable {nm q : Str} {C N : Addr} {bs bm : List Value} {hdct : Bool} {sn : List Str} {sub : List Value} {ab : Bool} {col : Option Bool} {dd : Option Addr} {k0 k1 k2 k3 k5 : Option Value}
/-- ValueError.__init__ bound to the error at e, called -/
theorem call_bV {u e t0 : Addr} {rest : List Value} {Q : Value → Shared → Prop} (hC : h.get? C = some (excClassObj nm q C N bs bm hdct sn sub ab col dd k0 k1 k2 k3 k5 "ValueError.__new__")) (he : h.get? e = some (excO C t0))
    (hu : h.get? u = some (kxs_mw "ValueError.__init__" e)) (hrest : rest.length ≤ sizeLine) (hq : ∀ h' t1, (∀ b o, b ≠ e → h.get? b = some o → h'.get? b = some o) → h'.get? e = some (excO C t1) → Q .none ⟨h', g, d, t, os⟩) :
    wpAny (model prog w) A (call (.ref u) rest) Q E ⟨h, g, d, t, os⟩ := by
  refine wpAny_call (codeAny_of_tree (?_ : wpAny _ A.in1 (callAny (.ref u) ⟨rest, []⟩) _ _ _))
  simp only [callAny]
  refine wpAny_bind (wpAny_load hu ?_)
  simp only [kxs_mw, show (Value.type "method-wrapper" == Value.type "method" || Value.type "method-wrapper" == Value.type "builtin_function_or_method" || Value.type "method-wrapper" == Value.type "method-wrapper") = true by decide, if_true]
  refine KFB.if_so (by decide) (wpAny_bind (ESX.check_bound F.excBase_ValueError hC he rfl (wpAny_bind (wpAny_pure (wpAny_pure ⟨Code.quiet_builtin _ (by decide +kernel), codeAny_builtin F.excBase_ValueError.initEntry ?_⟩)))))
  rw [Around.under_plainId F.excBase_ValueError.init.plain _]
  wp_walk
  refine hq _ h.objs.size (fun b o hb ho => (Heap.get?_update_other _ _ (Ne.symm hb)).trans (Heap.get?_push_of_some _ ho)) ?_
  exact (Heap.get?_update_self _ (Heap.get?_push_of_some _ he) rfl).trans rfl
end
/-- an own error class over ValueError (at any depth), whose __init__ hands a text on by super() and keeps its arguments under their own names -/
structure XTxt (prog : Program) (K : Frag) (mg : Str → Option Value) (x : Str) (C fI : Addr) (st : Stmt) (fs : List Str) : Prop where
  gC : mg x = some (.ref C)
  cls : ∃ nm q N bs bm sn sub ab col dd k0 k1 k2 k3 k5, K.lookup C = some (excClassObj nm q C N bs bm true sn sub ab col dd k0 k1 k2 k3 k5 "ValueError.__new__") ∧ refsVE bm = true
  sa : findIn K (.ref C) "__setattr__" = some (some (.builtin "object.__setattr__"))
  no : ∀ f ∈ fs, findIn K (.ref C) f = some none
  iC : findIn K (.ref C) "__init__" = some (some (.ref fI))
  tC : typeIn K (.ref fI) = some (.type "function")
  kC : keepIn K (.ref C) = true
  exC : subIn K (.ref C) (.type "BaseException") = some true
  tyC : typeIn K (.ref C) = some (.type "type")
  isV : subIn K (.ref C) (.type "ValueError") = some true
  own : mroIn K C (.ref C) = some true
  sup : ks_superIn K C C "__init__" = some (some (.builtin "ValueError.__init__"))
  op : nsIn K cStatics "thirdparty.any" = some none
  ns : nsIn K mainGlobals "super" = some none
  fn : ∃ (oc : Value) (od : Option Addr) (osl : Array (Option Value)) (kV doc pm : Value) (an : Option Addr) (cda cc : Addr) (ct : Value) (q : Str), K.lookup fI = some ⟨oc, od, .func (ksFn "__init__" q (L2.defArgs st) (L2.defBody st) (L2.defScope st) .none kV doc pm an (.ref cda) ct cc), osl⟩ ∧ codeIn K (.ref cda) q = true ∧
    (∃ (ccl : Value) (cdd : Option Addr) (vs : Array Value) (ccs : Array (Option Value)) (file : Str) (tf : Tok), K.lookup cda = some ⟨ccl, cdd, .fields vs, ccs⟩ ∧ vs[2]? = some (.str file tf) ∧ ((prog.main.file : Str) == file) = true) ∧
    ∃ (cl : Value) (cld : Option Addr) (csl : Array (Option Value)), K.lookup cc = some ⟨cl, cld, .cell (some (.ref C)), csl⟩
/-- what __init__ leaves of the fresh error at x: its dict at dx -/
structure XEnd (h h' : Heap) (x C dx : Addr) (m : Str → Option Value) : Prop where
  keep : ∀ b o, b ≠ x → h.get? b = some o → h'.get? b = some o
  obj : ∃ t1 : Addr, h'.get? x = some ({ cls := .ref C, dict := some dx, data := .fields #[.ref t1, .none, .none, .none, .bool false, .none] } : Obj)
  dbig : h.objs.size ≤ dx
  dne : dx ≠ x
  ns : h'.Ns1 dx m
section
variable {prog : Program} {w : World} {A : Around} {E : Value → Shared → Prop} {K : Frag} {mg : Str → Option Value} {x : Str} {C fI : Addr} {st : Stmt} {fs : List Str}
theorem XTxt.cd (T : XTxt prog K mg x C fI st fs) : ∃ cd, clsIn K C = some cd ∧ refsVE cd.mro = true ∧ cd.hasDict = true := by
  obtain ⟨nm, q, N, bs, bm, sn, sub, ab, col, dd, k0, k1, k2, k3, k5, hC, hbm⟩ := T.cls
  refine ⟨{ name := nm, bases := bs, mro := .ref C :: bm, ns := N, qualname := q, hasDict := true, slotNames := sn, subclasses := sub, abstract := ab, collection := col, hasDel := false }, ?_, hbm, rfl⟩
  unfold clsIn; rw [hC] <;> rfl
/-- super().__init__('..') within it -/
theorem x_super (T : XTxt prog K mg x C fI st fs) {s : Shared} {sc : Scope} {L : Addr} {body : List Stmt} {e t0 : Addr} {m : Str → Option Value} {msg : Str} {j : Nat} {p0 p1 p2 p3 pos : Pos} {fd : FuncData} {ar : Arg} {oc : Value} {od : Option Addr} {osl : Array (Option Value)} {cda cc : Addr} {q : Str} {Q : Value → Shared → Prop} {pl : Sem Bool}
    (hev : eval (.Call (.Attribute (.Call (.Name "super" p0) [] [] p1) "__init__" p2) [.Constant (.str msg) j p3] [] pos) (ksEnv q sc L fI (.ref cda) cc) = (do
      let ov ← attributeBase (.Call (.Name "super" p0) [] [] p1) "__init__" (ksEnv q sc L fI (.ref cda) cc) (eval (.Call (.Name "super" p0) [] [] p1) (ksEnv q sc L fI (.ref cda) cc))
      standAt p2.atName
      let (f, first) ← holding [ov] (getMethod ov "__init__" pl)
      callWith pos f first (backTo pos (starEach [.Constant (.str msg) j p3] (ksEnv q sc L fI (.ref cda) cc))) []))
    (X : K.In s.heap) (G : s.heap.Ns mainGlobals mg) (hms : mg "super" = none) (Bl : ∃ mb, s.heap.Ns builtinsNs mb ∧ ∀ y : Str, y ≠ "__name__" → mb y = bootBuiltins y)
    (hf : K.lookup fI = some ⟨oc, od, .func fd, osl⟩) (hfa : (fd.params.posonlyargs ++ fd.params.args).head? = some ar) (hself : ar.arg = "self")
    (hcode : ∃ (ccl : Value) (cdd : Option Addr) (vs : Array Value) (ccs : Array (Option Value)) (file : Str) (tf : Tok), K.lookup cda = some ⟨ccl, cdd, .fields vs, ccs⟩ ∧ vs[2]? = some (.str file tf) ∧ ((prog.main.file : Str) == file) = true)
    (hcell : ∃ (cl : Value) (cld : Option Addr) (csl : Array (Option Value)), K.lookup cc = some ⟨cl, cld, .cell (some (.ref C)), csl⟩)
    (hns : s.heap.Ns L m) (hm : m "self" = some (.ref e)) (he : s.heap.get? e = some (excO C t0))
    (hks : sc.names.lookup ("super" : Str) = some .globalImplicit) (hkc : sc.names.lookup ("__class__" : Str) = some .free) (hka : sc.names.lookup ("self" : Str) = some .local) (hk : sc.kind = .function) (htop : (prog.main.scope.names.lookup ("super" : Str)).isSome = false)
    (hq : ∀ h' tk t1, (∀ b o, b ≠ e → s.heap.get? b = some o → h'.get? b = some o) → h'.get? e = some (excO C t1) → Q .none { s with heap := h', toks := tk }) :
    PySem.wpAt (model prog w) A (.func body (ksEnv q sc L fI (.ref cda) cc)) (eval (.Call (.Attribute (.Call (.Name "super" p0) [] [] p1) "__init__" p2) [.Constant (.str msg) j p3] [] pos) (ksEnv q sc L fI (.ref cda) cc)) Q E s := by
  obtain ⟨cd, hcd, hmro, _⟩ := T.cd
  obtain ⟨nm, qq, N, bs, bm, sn, sub, ab, col, dd, k0, k1, k2, k3, k5, hC, hbm⟩ := T.cls
  obtain ⟨ccl, cdd, vs, ccs, file, tf, hco, hvs, hfile⟩ := hcode
  obtain ⟨cl, cld, csl, hce⟩ := hcell
  obtain ⟨mb, hmb, hbt⟩ := Bl
  obtain ⟨hp, g, d, tk, os⟩ := s
  refine ks_wpAt_MethodCall (pl := pl) ?_ hev
  refine ks_wpAt_super_base (env := ksEnv q sc L fI (.ref cda) cc) hks hkc (by decide) rfl (X _ _ hf) rfl hfa rfl (X _ _ hco) rfl hvs hfile htop ?_
  refine ks_loadName_global hk hks (loadGlobal_builtin (env := ksEnv q sc L fI (.ref cda) cc) G hms hmb ((hbt _ (by decide)).trans (by first | boot_by_name | rfl | kernel_rfl)) ⟨rfl, ?_⟩)
  refine wpAny_loadName_free hk hkc rfl ⟨_, X _ _ hce, rfl⟩ ?_
  rw [hself]
  refine wpAny_loadName_local hk hka hns hm ?_
  refine ks_wpAny_isType_cls (X _ _ hC) rfl ⟨rfl, ?_⟩
  refine ks_wpAny_call_super (X _ _ hC) rfl he rfl (fun c z => by cases z) (looks_mroIn X T.own) fun h1 e1 kk1 => ?_
  have X1 : K.In h1 := X.keeps kk1
  have he1 := kk1 _ _ he
  have hIV : Looks (model prog w) h1 (isInstance (.ref e) (.type "ValueError")) true :=
    (show InstAt h1 e (excO C t0) C none from ⟨he1, rfl, rfl, trivial⟩).type.andThen (looks_subIn X1 T.isV)
  have hne : e ≠ C := ks_ne X1 (show InstAt h1 e (excO C t0) C none from ⟨he1, rfl, rfl, trivial⟩) hcd
  have hal : alongIn K "__init__" ((cd.mro.dropWhile (· != .ref C)).drop 1) = some (some (.builtin "ValueError.__init__")) := by
    have z := T.sup
    unfold ks_superIn at z
    rw [hcd] at z
    exact z
  refine kxs_getMethod kxs_ValueError e1 (looks_opaque X1 T.op) (l₀ := cd.mro) (fun A Q E s k z => wpAny_bind ((looks_clsIn X1 hcd) A _ E s k (wpAny_pure z))) rfl X1 hal hIV hne (by decide) ?_
  have hu : (h1.push (kxs_mw "ValueError.__init__" e)).get? h1.objs.size = some (kxs_mw "ValueError.__init__" e) := Heap.get?_push_size _ rfl
  have kk2 : ∀ b o, h1.get? b = some o → (h1.push (kxs_mw "ValueError.__init__" e)).get? b = some o := fun b o z => Heap.get?_push_of_some _ z
  refine kxs_callWith (i := "ValueError.__init__") (x := e) (by rfl) ?_
  refine Calls.evalArgs_plain (Calls.spliced_cons (@Calls.Constant_str (model prog w) A E _ _ msg j p3 _ (Calls.spliced_nil ⟨hu, ?_⟩)))
  refine call_bV (X1.keeps kk2 _ _ hC) (kk2 _ _ he1) hu (by show 1 ≤ sizeLine; rw [sizeLine_eq]; omega) fun h' t1 k' e' => ?_
  exact hq h' _ t1 (fun b o hb z => k' b o hb (kk2 _ _ (kk1 _ _ z))) e'
/-- a local of such an __init__ -/
theorem ld_ks {s : Shared} {q : Str} {sc : Scope} {L f cc : Addr} {cd : Value} {m : Str → Option Value} {y : Str} {pos : Pos} {v : Value} {Q : Value → Shared → Prop} (hn : s.heap.Ns L m) (hv : m y = some v) (h : Q v s) (hk : sc.kind = .function) (hl : sc.names.lookup y = some .local) (hd : (y == ("__debug__" : Str)) = false) :
    wpAny (model prog w) A (eval (.Name y pos) (ksEnv q sc L f cd cc)) Q E s := wpAny_Name (wpAny_loadName_local hk hl hn hv h) hd
/-- the text of such an __init__, as far as its statement tells -/
structure XDef (st : Stmt) (fs : List Str) : Prop where
  body : ∃ (msg : Str) (j : Nat) (p0 p1 p2 p3 pos pe : Pos) (qs : List (Str × Pos × Pos × Pos × Pos)), qs.map (·.1) = fs ∧ L2.defBody st = .Expr (.Call (.Attribute (.Call (.Name "super" p0) [] [] p1) "__init__" p2) [.Constant (.str msg) j p3] [] pos) pe :: qs.map (fun z => .Assign [.Attribute (.Name "self" z.2.1) z.1 z.2.2.1] (.Name z.1 z.2.2.2.1) z.2.2.2.2) ∧
    (∀ (q : Str) (L fI : Addr) (cda cc : Addr), ∃ pl : Sem Bool, eval (.Call (.Attribute (.Call (.Name "super" p0) [] [] p1) "__init__" p2) [.Constant (.str msg) j p3] [] pos) (ksEnv q (L2.defScope st) L fI (.ref cda) cc) = (do
      let ov ← attributeBase (.Call (.Name "super" p0) [] [] p1) "__init__" (ksEnv q (L2.defScope st) L fI (.ref cda) cc) (eval (.Call (.Name "super" p0) [] [] p1) (ksEnv q (L2.defScope st) L fI (.ref cda) cc))
      standAt p2.atName
      let (f, first) ← holding [ov] (getMethod ov "__init__" pl)
      callWith pos f first (backTo pos (starEach [.Constant (.str msg) j p3] (ksEnv q (L2.defScope st) L fI (.ref cda) cc))) [])) ∧
    (∀ (q : Str) (L fI : Addr) (cda cc : Addr), swapsWith (.Call (.Attribute (.Call (.Name "super" p0) [] [] p1) "__init__" p2) [.Constant (.str msg) j p3] [] pos) none pe.line (ksEnv q (L2.defScope st) L fI (.ref cda) cc) = pure false) ∧
    (∀ z ∈ qs, ∀ (q : Str) (L fI : Addr) (cda cc : Addr), swapsWith (.Name z.1 z.2.2.2.1) (some (.Attribute (.Name "self" z.2.1) z.1 z.2.2.1)) z.2.2.2.2.line (ksEnv q (L2.defScope st) L fI (.ref cda) cc) = pure false)
  arg : ∃ ar : Arg, ((L2.defArgs st).posonlyargs ++ (L2.defArgs st).args).head? = some ar ∧ ar.arg = "self"
  ks : (L2.defScope st).names.lookup ("super" : Str) = some .globalImplicit
  kc : (L2.defScope st).names.lookup ("__class__" : Str) = some .free
  ka : ∀ y ∈ ("self" : Str) :: fs, (L2.defScope st).names.lookup y = some .local ∧ (y == ("__debug__" : Str)) = false
  kd : (L2.defScope st).kind = .function
  inter : ∀ (q : Str) (L fI : Addr) (cda cc : Addr), interactive (ksEnv q (L2.defScope st) L fI (.ref cda) cc) = false
  co : (L2.defScope st).isCoroutine = false
  gen : (L2.defScope st).isGenerator = false
  cell : ∀ y ∈ (L2.defScope st).names, y.2 ≠ .cell
  nod : (("self" : Str) :: fs).Nodup
  bind : ∀ (q : Str) (kV doc pm : Value) (an : Option Addr) (cdv ct : Value) (cc : Addr) (s : Shared) (us : List Value), us.length = fs.length + 1 → BindsTo s (ksFn "__init__" q (L2.defArgs st) (L2.defBody st) (L2.defScope st) .none kV doc pm an cdv ct cc) ⟨us, []⟩ ((("self" : Str) :: fs).zip us)
theorem zip_look : ∀ {ys : List Str} {us : List Value} {y : Str} {i : Nat} {v : Value}, ys.Nodup → ys.length = us.length → ys[i]? = some y → us[i]? = some v → (ys.zip us).reverse.lookup y = some v := fun {ys us y i v} nd hl hy hu => by
  have hz : (ys.zip us)[i]? = some (y, v) := by
    rw [List.getElem?_zip_eq_some]
    exact ⟨hy, hu⟩
  have hm : (y, v) ∈ (ys.zip us).reverse := List.mem_reverse.mpr (List.mem_of_getElem? hz)
  have hnd : ((ys.zip us).reverse.map Prod.fst).Nodup := by
    have z : ((ys.zip us).map Prod.fst).Nodup := by
      rw [List.map_fst_zip (Nat.le_of_eq hl)]
      exact nd
    rw [List.map_reverse]
    unfold List.Nodup at z ⊢
    rw [List.pairwise_reverse]
    exact z.imp fun h => Ne.symm h
  generalize (ys.zip us).reverse = l at hm hnd
  induction l with
  | nil => cases hm
  | cons p r ih =>
    obtain ⟨a, b⟩ := p
    rw [List.map_cons, List.nodup_cons] at hnd
    rcases List.mem_cons.mp hm with e | e
    · cases e
      simp [List.lookup]
    · have hne : y ≠ a := fun z => hnd.1 (by rw [← z]; exact List.mem_map.mpr ⟨_, e, rfl⟩)
      have hb : (y == a) = false := by simpa using hne
      simp only [List.lookup, hb]
      exact ih e hnd.2
/-- the fields stored so far, the last one first -/
def stored : List (Str × Value) → Str → Option Value
  | [], _ => none
  | (f, v) :: r, y => if y = f then some v else stored r y
theorem stored_within : ∀ l : List (Str × Value), Within (stored l) (l.map (·.1))
  | [] => fun y hy => absurd rfl hy
  | (f, v) :: r => fun y hy => by
    by_cases h : y = f
    · subst h
      exact List.mem_cons_self
    · exact List.mem_cons_of_mem _ (stored_within r y (by
        have z : stored ((f, v) :: r) y = stored r y := by simp [stored, h]
        rw [z] at hy
        exact hy))
/-- the stores, the first one done or not -/
theorem x_stores (T : XTxt prog K mg x C fI st fs) (D : XDef st fs) {q : Str} {L : Addr} {cda cc e : Addr} {R : Flow → Shared → Prop} {us : List Value} (hus : us.length = fs.length + 1) (h0 : us[0]? = some (.ref e)) :
    ∀ (qs : List (Str × Pos × Pos × Pos × Pos)) (i : Nat) (s : Shared) (done : List (Str × Value)) (d? : Option Addr), (∀ k z, qs[k]? = some z → fs[i + k]? = some z.1 ∧ swapsWith (.Name z.1 z.2.2.2.1) (some (.Attribute (.Name "self" z.2.1) z.1 z.2.2.1)) z.2.2.2.2.line (ksEnv q (L2.defScope st) L fI (.ref cda) cc) = pure false) →
      K.In s.heap → s.heap.Ns L (fun y => ((("self" : Str) :: fs).zip us).reverse.lookup y) → L ≠ e → fs.length ≤ 900 → i + qs.length = fs.length → done.map (·.1) = (fs.take i).reverse →
      (match d? with
        | none => done = [] ∧ ∃ t1, s.heap.get? e = some (excO C t1)
        | some dx => dx ≠ e ∧ dx ≠ L ∧ s.heap.Ns1 dx (stored done) ∧ (∃ t1 : Addr, s.heap.get? e = some ({ cls := .ref C, dict := some dx, data := .fields #[.ref t1, .none, .none, .none, .bool false, .none] } : Obj)) ∧ K.lookup dx = none) → K.lookup e = none →
      (qs ≠ [] ∨ d?.isSome = true) →
      (∀ h' tk dx, (∀ b o, b ≠ e → d? ≠ some b → s.heap.get? b = some o → h'.get? b = some o) → (d? = none → s.heap.objs.size ≤ dx) → (∀ a, d? = some a → dx = a) → dx ≠ e → (∃ t1 : Addr, h'.get? e = some ({ cls := .ref C, dict := some dx, data := .fields #[.ref t1, .none, .none, .none, .bool false, .none] } : Obj)) →
        h'.Ns1 dx (stored (((fs.drop i).zip (us.drop (i + 1))).reverse ++ done)) → R .next { s with heap := h', toks := tk }) →
      wpAny (model prog w) A (execs (qs.map fun z => .Assign [.Attribute (.Name "self" z.2.1) z.1 z.2.2.1] (.Name z.1 z.2.2.2.1) z.2.2.2.2) (ksEnv q (L2.defScope st) L fI (.ref cda) cc)) R E s
  | [], i, s, done, d?, hqs, X, hn, hLe, hz, hi, hdn, hd, hKe, hne, hq => by
    obtain ⟨cd, hcd, hmro, hh⟩ := T.cd
    have hi' : i = fs.length := by simpa using hi
    subst hi'
    cases d? with
    | none => rcases hne with hne | hne <;> simp at hne
    | some dx =>
      obtain ⟨h1, h2, h3, h4, h5⟩ := hd
      refine wpAny_execs_nil (hq s.heap s.toks dx (fun b o _ _ z => z) (fun z => by cases z) (fun a z => Option.some.inj z) h1 h4 ?_)
      simpa using h3
  | z :: qs, i, s, done, d?, hqs, X, hn, hLe, hz, hi, hdn, hd, hKe, hne, hq => by
    obtain ⟨cd, hcd, hmro, hh⟩ := T.cd
    obtain ⟨hfi, hsw⟩ := hqs 0 z rfl
    have hfi : fs[i]? = some z.1 := by simpa using hfi
    have hil : i < fs.length := (List.getElem?_eq_some_iff.mp hfi).1
    obtain ⟨v, hv⟩ : ∃ v, us[i + 1]? = some v := ⟨us[i + 1]'(by omega), by simp [show i + 1 < us.length by omega]⟩
    have hnd := D.nod
    have hll : (("self" : Str) :: fs).length = us.length := by simp [hus]
    have lv : ((("self" : Str) :: fs).zip us).reverse.lookup z.1 = some v := zip_look (i := i + 1) hnd hll (by simpa using hfi) hv
    have ls : ((("self" : Str) :: fs).zip us).reverse.lookup ("self" : Str) = some (Value.ref e) := zip_look (i := 0) hnd hll rfl h0
    have hmem : z.1 ∈ fs := List.mem_of_getElem? hfi
    obtain ⟨kz1, kz2⟩ := D.ka z.1 (List.mem_cons_of_mem _ hmem)
    obtain ⟨ks1, ks2⟩ := D.ka ("self" : Str) List.mem_cons_self
    rw [List.map_cons]
    refine wpAny_execs_cons (plainObj_wpAny_Assign_Attribute ?_ hsw)
    refine ld_ks hn lv (ld_ks hn ls ?_ D.kd ks1 ks2) D.kd kz1 kz2
    have hdrop : (fs.drop i).zip (us.drop (i + 1)) = (z.1, v) :: (fs.drop (i + 1)).zip (us.drop (i + 1 + 1)) := by
      rw [List.drop_eq_getElem_cons hil, List.drop_eq_getElem_cons (show i + 1 < us.length by omega)]
      have e1 : fs[i] = z.1 := by
        have := List.getElem?_eq_getElem hil
        rw [this] at hfi
        exact Option.some.inj hfi
      have e2 : us[i + 1]'(by omega) = v := by
        have := List.getElem?_eq_getElem (show i + 1 < us.length by omega)
        rw [this] at hv
        exact Option.some.inj hv
      rw [e1, e2]
      rfl
    have hdn2 : ((z.1, v) :: done).map (·.1) = (fs.take (i + 1)).reverse := by
      rw [List.take_succ, hfi]
      simp [hdn]
    have hqs' : ∀ k z', qs[k]? = some z' → fs[(i + 1) + k]? = some z'.1 ∧ swapsWith (.Name z'.1 z'.2.2.2.1) (some (.Attribute (.Name "self" z'.2.1) z'.1 z'.2.2.1)) z'.2.2.2.2.line (ksEnv q (L2.defScope st) L fI (.ref cda) cc) = pure false := fun k z' hk => by
      have := hqs (k + 1) z' (by simpa using hk)
      rwa [show i + 1 + k = i + (k + 1) by omega]
    obtain ⟨hp, g, dr, tk, os⟩ := s
    cases d? with
    | none =>
      obtain ⟨rfl, t1, he⟩ := hd
      refine set_plain X (ox := excO C t1) (od := none) ⟨he, rfl, rfl, trivial⟩ T.sa ?_
      refine exc_osa X he hcd hmro hh (T.no _ hmem) fun h3 tk3 dx k3 dn dne hx3 hn3 => ?_
      have Llt : L < hp.objs.size := hn.lt
      have Kdx : K.lookup dx = none := by
        cases y : K.lookup dx with
        | none => rfl
        | some o => exact absurd (Nat.lt_of_lt_of_le (Heap.lt_size (X _ _ y)) dn) (Nat.lt_irrefl _)
      have X3 : K.In h3 := fun a o y => k3 a o (fun y2 => by rw [y2, hKe] at y; cases y) (X a o y)
      have hn3' : h3.Ns L (fun y => ((("self" : Str) :: fs).zip us).reverse.lookup y) := hn.at fun o y => k3 L o hLe y
      have st1 : h3.Ns1 dx (stored [(z.1, v)]) := by
        have e1 : stored [(z.1, v)] = fun y => if y = z.1 then some v else none := by funext y; simp [stored]
        rw [e1]; exact hn3
      refine x_stores T D hus h0 qs (i + 1) ⟨h3, g, dr, tk3, os⟩ [(z.1, v)] (some dx) hqs' X3 hn3' hLe hz (by simp at hi; omega) hdn2 ⟨dne, fun y => absurd (Nat.lt_of_lt_of_le Llt dn) (by rw [y]; exact Nat.lt_irrefl _), st1, ⟨t1, hx3⟩, Kdx⟩ hKe (.inr rfl) fun h' tk' dx' k' _ k2 k3' k4 k5 => ?_
      have edx := k2 dx rfl
      subst edx
      refine hq h' tk' dx' (fun b o hb _ y => k' b o hb (fun y2 => ?_) (k3 b o hb y)) (fun _ => dn) (fun a y => by cases y) k3' k4 ?_
      · have := Option.some.inj y2
        subst this
        exact absurd (Nat.lt_of_lt_of_le (Heap.lt_size y) dn) (Nat.lt_irrefl _)
      · rw [hdrop]
        simpa using k5
    | some dx =>
      obtain ⟨h1, h2, h3, ⟨t1, he⟩, h5⟩ := hd
      obtain ⟨oD, esD, epD, hoD, hdD, _⟩ := h3.count (stored_within done)
      have hlen : done.length = i := by
        have := congrArg List.length hdn
        simp at this
        omega
      refine set_plain X (ox := { cls := .ref C, dict := some dx, data := .fields #[.ref t1, .none, .none, .none, .bool false, .none] }) (od := some oD) ⟨he, rfl, rfl, hoD⟩ T.sa ?_
      refine OEX.osa_old X he h3 (stored_within done) (by rw [List.length_map, hlen]; omega) hcd hmro hh (T.no _ hmem) fun h4 tk4 k4 hn4 => ?_
      have X4 : K.In h4 := fun a o y => k4 a o (fun y2 => by rw [y2, h5] at y; cases y) (X a o y)
      have he4 := k4 e _ (Ne.symm h1) he
      have st1 : h4.Ns1 dx (stored ((z.1, v) :: done)) := by
        have e1 : stored ((z.1, v) :: done) = fun y => if y = z.1 then some v else stored done y := by funext y; simp [stored]
        rw [e1]; exact hn4
      refine x_stores T D hus h0 qs (i + 1) ⟨h4, g, dr, tk4, os⟩ ((z.1, v) :: done) (some dx) hqs' X4 (hn.at fun o y => k4 L o (Ne.symm h2) y) hLe hz (by simp at hi; omega) hdn2 ⟨h1, h2, st1, ⟨t1, he4⟩, h5⟩ hKe (.inr rfl) fun h' tk' dx' k' _ k2 k3' k4' k5 => ?_
      have edx := k2 dx rfl
      subst edx
      refine hq h' tk' dx' (fun b o hb hb2 y => k' b o hb hb2 (k4 b o (fun y2 => hb2 (by rw [y2])) y)) (fun y => by cases y) (fun a y => Option.some.inj y) k3' k4' ?_
      rw [hdrop]
      simpa using k5
end
end DL
namespace DL
open PySem PySem.Spec PyProof.Rows PySem.W PySem.HandSPX PySem.Calls
/-- a made error -/
structure XMade (h h' : Heap) (e C d : Addr) (m : Str → Option Value) : Prop where
  keep : ∀ b o, h.get? b = some o → h'.get? b = some o
  new : h.objs.size ≤ e
  obj : ∃ t1 : Addr, h'.get? e = some ({ cls := .ref C, dict := some d, data := .fields #[.ref t1, .none, .none, .none, .bool false, .none] } : Obj)
  dbig : h.objs.size ≤ d
  dne : d ≠ e
  ns : h'.Ns1 d m
section
variable {prog : Program} {w : World} {A : Around} {R : Result → Shared → Prop} {K : Frag} {mg : Str → Option Value} {x : Str} {C fI : Addr} {st : Stmt} {fs : List Str}
theorem x_made (T : XTxt prog K mg x C fI st fs) (D : XDef st fs) {s : Shared} {us : List Value} (X : K.In s.heap) (G : s.heap.Ns mainGlobals mg) (hms : mg "super" = none) (Bl : ∃ mb, s.heap.Ns builtinsNs mb ∧ ∀ y : Str, y ≠ "__name__" → mb y = bootBuiltins y)
    (lim : s.heap.NoLimit) (htop : (prog.main.scope.names.lookup ("super" : Str)).isSome = false) (hroom : A.depth + 1 < recursionLimit) (hl : us.length = fs.length) (h0 : fs ≠ []) (hz : fs.length ≤ 900)
    (hq : ∀ h' tk e d, XMade s.heap h' e C d (stored (fs.zip us).reverse) → R (.ok (.ret (.ref e))) { s with heap := h', toks := tk }) :
    codeAny (model prog w) A (.call (.ref C) ⟨us, []⟩) R s := by
  obtain ⟨nm, qq, N, bs, bm, sn, sub, ab, col, dd, k0, k1, k2, k3, k5, hC, hbm⟩ := T.cls
  obtain ⟨oc, od, osl, kV, doc, pm, an, cda, cc, ct, q, hf, hcd, hcode, hcell⟩ := T.fn
  obtain ⟨msg, j, p0, p1, p2, p3, pos, pe, qs, hqs, hbody, hev, hsw, hsws⟩ := D.body
  obtain ⟨ar, har, hara⟩ := D.arg
  obtain ⟨mb, hmb, hbt⟩ := Bl
  obtain ⟨hp, g, dr, tk, os⟩ := s
  have kk : ∀ b o, hp.get? b = some o → ((hp.push (kdv_tup us)).push (excO C hp.objs.size)).get? b = some o := fun b o e => Heap.get?_push_of_some _ (Heap.get?_push_of_some _ e)
  have hget : ((hp.push (kdv_tup us)).push (excO C hp.objs.size)).get? (hp.objs.size + 1) = some (excO C hp.objs.size) := by heap_get
  have big : ∀ {b : Addr} {o : Obj}, hp.get? b = some o → b < hp.objs.size := fun {b o} e => Heap.lt_size e
  have Knone : ∀ a, hp.objs.size ≤ a → K.lookup a = none := fun a ha => by
    cases y : K.lookup a with
    | none => rfl
    | some o => exact absurd (Nat.lt_of_lt_of_le (big (X _ _ y)) ha) (Nat.lt_irrefl _)
  generalize hE : hp.objs.size + 1 = e at hget
  have eE : hp.objs.size < e := by rw [← hE]; exact Nat.lt_succ_self _
  have hus : ((Value.ref e) :: us).length = fs.length + 1 := by simp [hl]
  refine call_own F.excBase_ValueError (fun Y => refsVE_contains Y bm hbm) (X _ _ hC) (looks_findIn X T.iC) (fun self => bind_fn X self T.tC) (by rw [hl, sizeLine_eq]; omega) ?_
  rw [hE]
  refine ks_codeAny_call_defAt (fd := ksFn "__init__" q (L2.defArgs st) (L2.defBody st) (L2.defScope st) .none kV doc pm an (.ref cda) ct cc) (body := L2.defBody st) (binds := (("self" : Str) :: fs).zip (Value.ref e :: us)) ?_ (X.keeps kk _ _ hf) rfl (lim.keeps kk) (codeRec_of (X.keeps kk) hcd) rfl
    (D.bind q kV doc pm an (.ref cda) ct cc _ _ hus) D.cell (fun y hy => ?_) (fun h0' hns hk0 => ?_) D.co D.gen D.kd
  · show A.depth + 1 < recursionLimit
    exact hroom
  · obtain ⟨a, b⟩ := y
    exact (D.ka a (List.of_mem_zip hy).1).1
  · -- the body
    generalize hLL : ((hp.push (kdv_tup us)).push (excO C hp.objs.size)).objs.size = L at hns
    have hL2 : L = hp.objs.size + 1 + 1 := by rw [← hLL, Heap.size_push, Heap.size_push]
    have X0 : K.In h0' := X.keeps fun b o y => hk0 b o (kk b o y)
    have he0 : h0'.get? e = some (excO C hp.objs.size) := hk0 _ _ hget
    have hLe : L ≠ e := by rw [hL2, ← hE]; exact Nat.succ_ne_self _
    have lself : ((("self" : Str) :: fs).zip (Value.ref e :: us)).reverse.lookup ("self" : Str) = some (Value.ref e) := zip_look (i := 0) D.nod (by simp [hl]) rfl rfl
    show PySem.wpAt _ _ _ (execs (L2.defBody st) (ksEnv q (L2.defScope st) _ fI (.ref cda) cc)) _ _ _
    rw [hbody]
    refine ks_wpAt_execs_cons (ks_wpAt_Expr_any ?_ (D.inter _ _ _ _ _) (hsw _ _ _ _ _))
    obtain ⟨pl, hev'⟩ := hev q L fI cda cc
    refine x_super T hev' X0 (G.keeps fun b o y => hk0 b o (kk b o y)) hms ⟨mb, hmb.keeps fun b o y => hk0 b o (kk b o y), hbt⟩ hf har hara hcode hcell hns lself he0 D.ks D.kc (D.ka _ List.mem_cons_self).1 D.kd htop fun h1 tk1 t1 k1' e1 => ?_
    refine wpAt_of_wpAny ?_
    have X1 : K.In h1 := fun a o y => k1' a o (fun z => by rw [z, Knone e (Nat.le_of_lt eE)] at y; cases y) (X0 a o y)
    refine x_stores T D hus rfl qs 0 _ [] none (fun k z hk => ?_) X1 (hns.at fun o y => k1' L o hLe y) hLe hz ?_ rfl ⟨rfl, t1, e1⟩ (Knone e (Nat.le_of_lt eE)) (.inl ?_) fun h2 tk2 dx k2' dn _ dne e2 n2 => ?_
    · refine ⟨?_, hsws z (List.mem_of_getElem? hk) _ _ _ _ _⟩
      rw [Nat.zero_add, ← hqs, List.getElem?_map, hk]
      rfl
    · rw [Nat.zero_add, ← hqs, List.length_map]
    · intro z
      subst z
      exact h0 hqs.symm
    · have dn' := dn rfl
      have hh1 : hp.objs.size ≤ h1.objs.size := by
        obtain ⟨oL, _, _, hoL, _⟩ := id hns
        have y := Heap.lt_size (k1' L _ hLe hoL)
        have y2 : L < h1.objs.size := y
        rw [hL2] at y2
        omega
      refine ⟨rfl, hq h2 _ e dx ⟨fun b o y => k2' b o (Nat.ne_of_lt (Nat.lt_trans (big y) eE)) (fun z => by cases z) (k1' b o (Nat.ne_of_lt (Nat.lt_trans (big y) eE)) (hk0 b o (kk b o y))), Nat.le_of_lt eE, e2, Nat.le_trans hh1 dn', dne, ?_⟩⟩
      simpa using n2
end
end DL
namespace DL
open PySem PySem.Spec PyProof.Rows L2
open L2H (RoomH PinOk)
/-! ### errors made, as expressions -/
theorem stored_rel : ∀ {fs : List Str} {vs : List V} {us : List Value}, Vals vs us → ∀ f, RelO (((fs.zip vs).reverse).lookup f) (stored (fs.zip us).reverse f) := by
  have key : ∀ (l : List (Str × V)) (l' : List (Str × Value)), Paired (fun (p : Str × V) (q : Str × Value) => p.1 = q.1 ∧ RelV p.2 q.2) l l' → ∀ f, RelO (l.lookup f) (stored l' f) := by
    intro l l' h
    induction h with
    | nil => exact fun f => True.intro
    | @cons p q r r' hp ht ih =>
      intro f
      obtain ⟨a, v⟩ := p
      obtain ⟨b, u⟩ := q
      obtain ⟨e, rv⟩ := hp
      have e : a = b := e
      subst e
      by_cases hf : f = a
      · subst hf
        simp [List.lookup, stored]
        exact rv
      · have hb : (f == a) = false := by simpa using hf
        simp [List.lookup, stored, hb, hf]
        exact ih f
  have app : ∀ {l1 l2 : List (Str × V)} {m1 m2 : List (Str × Value)}, Paired (fun (p : Str × V) (q : Str × Value) => p.1 = q.1 ∧ RelV p.2 q.2) l1 m1 → Paired (fun (p : Str × V) (q : Str × Value) => p.1 = q.1 ∧ RelV p.2 q.2) l2 m2 → Paired (fun (p : Str × V) (q : Str × Value) => p.1 = q.1 ∧ RelV p.2 q.2) (l1 ++ l2) (m1 ++ m2) := by
    intro l1 l2 m1 m2 h1 h2
    induction h1 with
    | nil => exact h2
    | cons r _ ih => exact .cons r ih
  have zz : ∀ (fs : List Str) (vs : List V) (us : List Value), Vals vs us → Paired (fun (p : Str × V) (q : Str × Value) => p.1 = q.1 ∧ RelV p.2 q.2) (fs.zip vs).reverse (fs.zip us).reverse := by
    intro fs
    induction fs with
    | nil => exact fun vs us _ => .nil
    | cons f fs ih =>
      intro vs us r
      cases r with
      | nil => exact .nil
      | cons a b =>
        simp only [List.zip_cons_cons, List.reverse_cons]
        exact app (ih _ _ b) (.cons ⟨rfl, a⟩ .nil)
  exact fun {fs vs us} r => key _ _ (zz fs vs us r)
section
variable {X : Cx} {x : Str} {C fI : Addr} {st : Stmt} {fs : List Str}
/-- C(e, ..): a new error, its arguments in its dict -/
def tMkX (C : Addr) (fs : List Str) (ta : TA) : L2.St → Hp → XK → Prop := fun σ H Q => ta σ H fun vs H1 => vs.length = fs.length ∧ ∀ d, H1 d = none → Q (.ref C) (some d) (upd H1 d (.xd (fs.zip vs).reverse))
theorem pmk_X {a : Expr} {es : List Expr} {ta : TA} {p pos : Pos} {k : Nat} (T : XTxt X.prog X.K X.mg x C fI st fs) (D : XDef st fs) (hms : X.mg "super" = none) (htop : (X.prog.main.scope.names.lookup ("super" : Str)).isSome = false) (hr : RoomH k X.A) (h0 : fs ≠ []) (hz : fs.length ≤ 900) (ha : PA X (a :: es) ta)
    (hg : Gl X x := by rfl) (hdb : (x == ("__debug__" : Str)) = false := by decide) (he : starEach (a :: es) X.env = (false, eval a X.env) :: starEach es X.env := by rfl) (hpl : (backTo pos (starEach es X.env)).any (·.1) = false := by rfl) :
    L2N.PMk X (.Call (.Name x p) (a :: es) [] pos) (tMkX C fs ta) := by
  intro pins s σ H Q I h
  refine wpAny_Call_Name_kw (ld_glob I hg T.gC ?_ hdb)
  refine PySem.W.callWith_K (h₀ := X.base) I.ok.mod.kin T.kC (thn (ha.run pos pins s σ H _ I h) fun us s1 ⟨vs, H1, I1, r1, hl, q1⟩ => ⟨I1.kIn, ?_⟩) he hpl
  show wpAny _ _ (call (.ref C) us) _ _ _
  have hlim := I1.nolimit
  have hG : s1.heap.Ns mainGlobals X.mg := I1.mod.glob.keeps I1.bk
  have hB : ∃ mb, s1.heap.Ns builtinsNs mb ∧ ∀ y : Str, y ≠ "__name__" → mb y = bootBuiltins y := by
    obtain ⟨mb, b1, b2⟩ := I1.mod.blt
    exact ⟨mb, b1.keeps I1.bk, b2⟩
  have hus : us.length = fs.length := by rw [← r1.length]; exact hl
  refine wpAny_call (x_made T D I1.kIn hG hms hB hlim htop (by have := hr.dp; omega) hus h0 hz fun h' tk' e d M => ?_)
  obtain ⟨hp, g, dr, tk, os⟩ := s1
  show L2N.MkP X pins σ Q (.ref e) ⟨h', g, dr, tk', os⟩
  obtain ⟨t1, hoe⟩ := M.obj
  have hns := M.ns
  obtain ⟨G', g1, g2⟩ := restrict h' fun b => decide (b ≠ e)
  have gk : ∀ b, b ≠ e → G'.get? b = h'.get? b := fun b hb => g1 b (decide_eq_true hb)
  have ge : G'.get? e = none := g2 e (by simp)
  have old : ∀ b o, hp.get? b = some o → G'.get? b = some o := fun b o q => (gk b (Nat.ne_of_lt (Nat.lt_of_lt_of_le (Heap.lt_size q) M.new))).trans (M.keep b o q)
  have ob : ObjOk X.prog X.w (upd H1 d (.xd (fs.zip vs).reverse)) G' d (.xd (fs.zip vs).reverse) := ⟨_, hns.at (fun o q => (gk d M.dne).trans q), stored_rel r1⟩
  have J : Inv X pins σ (upd H1 d (.xd (fs.zip vs).reverse)) ⟨G', g, dr, tk', os⟩ := I1.laid (t' := tk') old M.dbig ob
  refine ⟨e, _, _, ⟨G', g, dr, tk', os⟩, _, .ref C, some d, rfl, J, fun b o q => ?_, ge, hoe, ⟨rfl, rfl, fun ws z => by cases z; rfl⟩, rfl, rfl, ?_, rfl, I1.bare, raises_own T.exC T.tyC, q1 d (I1.hok.fresh M.dbig)⟩
  · by_cases hb : b = e
    · have q' : G'.get? b = some o := q
      rw [hb, ge] at q'; cases q'
    · exact (gk b hb).symm.trans q
  · rw [upd_ne (Ne.symm M.dne)]
    exact I1.hok.fresh M.new
/-- C(), C without an __init__ of its own -/
theorem pmk_0 {bmB : List Value} {B newId initId : String} {p pos : Pos} (F : ExcBaseFacts B newId initId bmB) (q : PySem.W.excIn X.K C bmB newId = true) (gC : X.mg x = some (.ref C)) (kC : PySem.W.keepIn X.K (.ref C) = true) (r : Raises X (.ref C)) (hg : Gl X x := by rfl)
    (hdb : (x == ("__debug__" : Str)) = false := by decide) : L2N.PMk X (.Call (.Name x p) [] [] pos) (fun _ H Q => Q (.ref C) none H) := by
  intro pins s σ H Q I h
  refine wpAny_Call_Name_kw (ld_glob I hg gC ?_ hdb)
  refine PySem.W.callWith_K0 I.kIn kC ?_
  show wpAny _ _ (call (.ref C) []) _ _ _
  obtain ⟨bm, N, nm, qn, bs, hdct, sn, sub, ab, col, dd, k0, k1, k2, k3, k5, mN, hC, hN, hni, T⟩ := exc_obj I.kIn q
  exact wpAny_call_exc_subT F T hC hN hni (fun h' e hm => L2N.mk_of I hm r h (I.hok.gone hm.new)) (by show 0 ≤ sizeLine; exact Nat.zero_le _)
end
end DL
namespace DL
open PySem PySem.Spec PyProof.Rows L2
open L2H (RoomH PinOk)
/-! ### errors with the context that they were raised in -/
/-- what was handled, as the context of an error raised there -/
def hv (A : Around) : Value := A.handled.getD .none
def CtxAt (c u : Value) (s' : Shared) : Prop := ∀ (a : Addr) (o : Obj) (vs : Array Value), u = .ref a → s'.heap.get? a = some o → o.data = .fields vs → vs[2]? = some c
def Zx (c cls : Value) (d : Option Addr) : Obj → Prop := fun o => o.cls = cls ∧ o.dict = d ∧ ∀ vs : Array Value, o.data = .fields vs → vs[2]? = some c
theorem Zx.steady {c cls : Value} {d : Option Addr} : PXN.Steady1 (Zx c cls d) := fun o v h => ⟨PXN.steady_cls o v h.1, PXN.steady_dict o v h.2.1, fun vs e => by
  obtain ⟨cl, dc, dt, sl⟩ := o
  cases dt with
  | fields ws =>
    have e' : (Data.fields (ws.setIfInBounds 1 v)) = .fields vs := e
    cases e'
    have z := h.2.2 ws rfl
    first
    | (rw [Array.getElem?_setIfInBounds_ne (by decide)]; exact z)
    | (simp [Array.getElem?_setIfInBounds]; exact z)
  | _ => exact h.2.2 vs e⟩
theorem Zx.zc {c cls : Value} {d : Option Addr} (o : Obj) (h : Zx c cls d o) : Zc cls d o := ⟨h.1, h.2.1⟩
theorem traced_add {h B : Heap} {a : Addr} {c cls : Value} {d : Option Addr} {fl : Value} (x : HandSPX.TracedZ h B a (Zc cls d) fl) (z : ∀ o vs, h.get? a = some o → o.data = .fields vs → vs[2]? = some c) : HandSPX.TracedZ h B a (Zx c cls d) fl := by
  obtain ⟨oe, vs, T, oT, ts, e1, e2, e3, r⟩ := x
  exact ⟨oe, vs, T, oT, ts, e1, ⟨e2.1, e2.2, fun ws e => z oe ws e1 e⟩, e3, r⟩
theorem sky_add {B h : Heap} {l : List Env} {a L : Addr} {c cls : Value} {d : Option Addr} (x : Sky B l a (Zc cls d) L h) (z : ∀ o vs, h.get? a = some o → o.data = .fields vs → vs[2]? = some c) : Sky B l a (Zx c cls d) L h := by
  rcases x with ⟨h1, h2, h3, oe, vs, e1, e2, e3, e4⟩ | fl | hd
  · exact .inl ⟨h1, h2, h3, oe, vs, e1, ⟨e2.1, e2.2, fun ws e => z oe ws e1 e⟩, e3, e4⟩
  · exact .inr (.inl ⟨fl.1, fl.2.1, fl.2.2.1, traced_add fl.2.2.2 z⟩)
  · exact .inr (.inr ⟨hd.1, hd.2.1, hd.2.2.1, traced_add hd.2.2.2 z⟩)
theorem ctx_of_traced {h B : Heap} {a : Addr} {c cls : Value} {d : Option Addr} {fl : Value} {s' : Shared} (x : HandSPX.TracedZ h B a (Zx c cls d) fl) (e : s'.heap = h) : CtxAt c (.ref a) s' := fun b o vs eb eo ev => by
  cases eb
  obtain ⟨oe, ws, T, oT, ts, e1, e2, e3, r⟩ := x
  rw [e, e1] at eo
  cases eo
  exact e2.2.2 vs ev
theorem fly_zc {B h : Heap} {l : List Env} {a : Addr} {c cls : Value} {d : Option Addr} (x : HandSPX.FlyingZ B l a (Zx c cls d) h) : HandSPX.FlyingZ B l a (Zc cls d) h := by
  obtain ⟨h1, h2, h3, oe, vs, T, oT, ts, e1, e2, r⟩ := x
  exact ⟨h1, h2, h3, oe, vs, T, oT, ts, e1, e2.zc, r⟩
theorem held_zc {B h : Heap} {l : List Env} {a L : Addr} {c cls : Value} {d : Option Addr} (x : HandSPX.HeldZ B l a (Zx c cls d) L h) : HandSPX.HeldZ B l a (Zc cls d) L h := by
  obtain ⟨h1, h2, h3, oe, vs, T, oT, ts, e1, e2, r⟩ := x
  exact ⟨h1, h2, h3, oe, vs, T, oT, ts, e1, e2.zc, r⟩
/-- in the air of X -/
def XEc (c : Value) (X : Cx) (W : WX) (u : Value) (s' : Shared) : Prop := XE X W u s' ∧ CtxAt c u s'
def TakesC (c : Value) (X : Cx) (W : WX) : Prop := ∀ u s', XEc c X W u s' → X.xe u s'
/-- behind a def that let an error out -/
def CXc (c : Value) (P : Program) (w : World) : CXT := fun outer H s E u s' => CX P w outer H s E u s' ∧ CtxAt c u s'
/-- the errors that leave a def called where A is around -/
abbrev CAc (P : Program) (w : World) : Around → CXT := fun A => CXc (hv A) P w
section
variable {X : Cx} {c : Value} {W : WX} {E : XK}
theorem XEc.leave (hs : X.stack = X.env :: X.outer) (hf : X.env.frame = some X.env.locals) (hex : X.ex = []) {E₁ : Value → Shared → Prop} (hW : ∀ cls d σ H, W cls d σ H → E cls d H) {u : Value} {s' : Shared} (x : XEc c X W u s') :
    wpAny (model X.prog X.w) X.A (leaving X.env u) (fun _ s'' => CXc c X.prog X.w X.outer X.H_0 X.s_0 E u s'') E₁ s' := by
  obtain ⟨⟨a, B, sI, pins, σ, H, cls, d, rfl, I, nb, up, sky, na, os, ag, w⟩, hc⟩ := x
  have sky2 := sky_add sky fun o vs e1 e2 => hc a o vs rfl e1 e2
  have hfr : X.A.frames = some (X.env :: X.outer) := by rw [I.ok.frames, hs]
  have hbe : ∀ b, b ∉ X.ex := fun b hb => by
    rw [hex] at hb
    cases hb
  have old : ∀ b o, X.s_0.heap.get? b = some o → b ∉ X.fs → b ∉ frs X.stack := fun b o e hb hm => (List.mem_cons.mp (I.stkSub b hm)).elim (fun z => by
    have q := Nat.lt_of_lt_of_le (Heap.lt_size e) I.ok.above
    rw [z] at q
    exact Nat.lt_irrefl _ q) hb
  have fin : ∀ h', HandSPX.FlyingZ B X.outer a (Zx c cls d) h' → s'.heap.UpToSlots h' → CXc c X.prog X.w X.outer X.H_0 X.s_0 E (.ref a) { s' with heap := h' } := fun h' fl up2 => by
    have ub : UB (frs X.outer) X.H_0 H X.s_0.heap B h' := by
      refine ⟨fun b o e n hb => nb b o (I.base.keep b o e n hb (hbe b)) (old b o e hb), fun b o e hb => ?_, fun b o e n => I.base.free b o e n (hbe b), fun b o e hb => ?_, I.base.tups, I.base.frzs, I.base.tbls⟩
      · obtain ⟨_, o2, e2, nf⟩ := I.ok.funs.mem hb
        obtain rfl := Option.some.inj (e2.symm.trans e)
        obtain ⟨l1, z1⟩ := I.base.slot b _ e (I.ok.frf b hb) hb (hbe b)
        obtain ⟨l2, z2⟩ := up b _ z1 nf
        obtain ⟨l3, z3⟩ := up2 b _ z2 nf
        exact ⟨l3, z3⟩
      · obtain ⟨o2, e2⟩ := I.base.there b o e (hbe b)
        exact ⟨o2, nb b o2 e2 (old b o e hb)⟩
    exact ⟨⟨a, B, H, cls, d, rfl, fly_zc fl, I.inGround nb, ub, na, os.trans I.os, ag, hW _ _ _ _ w⟩, ctx_of_traced fl.2.2.2 rfl⟩
  rw [hs] at sky2
  rcases sky2 with ⟨k1, k2, k3, oe, vs, k4, k5, k6, k7⟩ | k | k
  · exact PXN.leaving_firstZ Zx.steady hfr k3 hf k4 k1 k2 k6 k7 k5 fin
  · exact PXN.leaves_onZ Zx.steady hfr hf k fin
  · exact HandSPX.leaves_heldZ hf k fin
theorem takesC_of (hs : X.stack = X.env :: X.outer) (hf : X.env.frame = some X.env.locals) (hex : X.ex = []) {E₁ : Value → Shared → Prop}
    (hx : X.xe = fun e s' => wpAny (model X.prog X.w) X.A (leaving X.env e) (fun _ s'' => CXc c X.prog X.w X.outer X.H_0 X.s_0 E e s'') E₁ s') : TakesC c X (fun cls d _ H => E cls d H) := fun u s' x => by
  rw [hx]
  exact XEc.leave (W := fun cls d _ H => E cls d H) (E := E) hs hf hex (fun _ _ _ _ h => h) x
theorem passC {σ : L2.St} (tk : TakesC c X W) : PassesAt (CXc c X.prog X.w) X σ (WE W σ) := fun pins H s e s' I z => tk e s' ⟨XE.of_call I (fun _ _ _ h => h) z.1, z.2⟩
/-- raise e, whatever is handled around -/
theorem ps_raiseG {e : Expr} {t : L2.St → Hp → XK → Prop} {pos : Pos} (hc : HC X) (tk : TakesC (hv X.A) X W) (he : L2N.PMk X e t) : PS X (.Raise (some e) none pos) (fun _ σ H => t σ H fun cls d H' => W cls d σ H') := by
  refine ⟨fun pins s σ H T I h => ?_⟩
  show wpAny _ _ (do standAt pos; raiseStmt X.env (some (do let v ← eval e X.env; standAt pos; pure v)) none) _ _ _
  refine wpAny_bind (wpAny_standAt ?_)
  unfold raiseStmt
  refine wpAny_bind (wpAny_bind (wpAny_mono (he pins s σ H _ I h) (fun u s1 hu => wpAny_bind (wpAny_standAt (wpAny_pure ?_))) fun _ _ z => z))
  obtain ⟨a, oe, vs, sI, H', cls, d, rfl, J, k, hne, ha, hz, hd, h1, na, os, ag, r, q⟩ := hu
  obtain ⟨r1, r2⟩ := r (model X.prog X.w) s1.heap (J.kIn.keeps k)
  have hi : 2 < vs.size := (Array.getElem?_eq_some_iff.mp (hz.2.2 vs hd)).1
  have LT : PySem.W.Looks (model X.prog X.w) s1.heap (typeOf (.ref a)) cls := fun A Q E s kk z => wpAny_typeOf_ref (kk _ _ ha) (by rw [hz.1]; exact z)
  have LI : PySem.W.Looks (model X.prog X.w) s1.heap (isInstance (.ref a) (.type "BaseException")) true := LT.andThen r1
  have nt : ∀ {Q' : Bool → Shared → Prop}, Q' false s1 → wpAny (model X.prog X.w) X.A (isType (.ref a)) Q' X.xe s1 := by
    intro Q' hq
    simp only [isType, loadHead]
    refine wpAny_bind (wpAny_loadPart ha ?_)
    rw [hd]
    exact wpAny_pure hq
  dsimp only
  refine wpAny_bind (wpAny_pure ?_)
  dsimp only
  refine wpAny_bind (wpAny_holding ?_)
  unfold excFromValue isExcClass
  refine wpAny_bind (wpAny_bind (nt ?_))
  simp only [Bool.false_eq_true, if_false]
  refine wpAny_pure ?_
  simp only [Bool.false_eq_true, if_false]
  refine wpAny_bind (LI.here ?_)
  simp only [if_true]
  refine wpAny_pure (wpAny_bind (nt ?_))
  simp only [Bool.false_eq_true, if_false]
  unfold raisedInstance
  refine wpAny_bind (wpAny_bind (LT.here (wpAny_bind (r2.here ?_))))
  rw [if_pos (beq_self_eq_true _)]
  refine wpAny_pure ?_
  unfold setFlight
  refine wpAny_bind (wpAny_bind (wpAny_field ha hd h1 ?_))
  rw [if_neg (by decide)]
  refine wpAny_pure ?_
  have hot := (hc.at J).keeps k
  have fresh : ∀ y, X.A.handled = some (.ref y) → a ≠ y ∧ ∀ (b : Addr) (o : Obj) (ws : Array Value), s1.heap.get? y = some o → o.data = .fields ws → ws[2]? = some (.ref b) → a ≠ b := fun y hy => by
    rcases hc.at J with z | ⟨y', o', vs', z1, z2, z3, z4⟩
    · rw [z] at hy; cases hy
    · rw [z1] at hy
      obtain rfl : y' = y := Value.ref.inj (Option.some.inj hy)
      refine ⟨fun z => (by rw [← z, hne] at z2; cases z2), fun b o ws e1 e2 e3 => ?_⟩
      obtain rfl := Option.some.inj ((k _ _ z2).symm.trans e1)
      rw [z3] at e2
      cases e2
      rcases z4 with z4 | ⟨b', ob, ws', g1, g2, g3, _⟩
      · rw [e3] at z4; cases z4
      · rw [g1] at e3
        cases e3
        exact fun z => by rw [← z, hne] at g3; cases g3
  refine raise_hot hot (fun y hy => (fresh y hy).1) (fun y b o ws hy e1 e2 e3 => (fresh y hy).2 b o ws e1 e2 e3) ha hd hi fun h' kk rr => tk _ _ ?_
  -- the error as it stands now
  obtain ⟨oe', vs', ha', hz', hd', h1', hc'⟩ : ∃ oe' vs', h'.get? a = some oe' ∧ Zc cls d oe' ∧ oe'.data = .fields vs' ∧ vs'[1]? = some .none ∧ vs'[2]? = some (hv X.A) := by
    rcases rr with rr | ⟨rr, rfl⟩
    · refine ⟨_, vs.setIfInBounds 2 (hv X.A), rr, ⟨(Obj.cls_mapFields ..).trans hz.1, (HandSPX.dict_mapFields ..).trans hz.2.1⟩, Obj.data_mapFields hd _, ?_, ?_⟩
      · have z1 : (vs.setIfInBounds 2 (hv X.A))[1]? = vs[1]? := by
          first
            | exact Array.getElem?_setIfInBounds_ne (by decide)
            | simp [Array.getElem?_setIfInBounds]
        rw [z1]
        exact h1
      · simp [Array.getElem?_setIfInBounds, hi]
    · exact ⟨oe, vs, ha, hz.zc, hd, h1, by unfold hv; rw [rr]; exact hz.2.2 vs hd⟩
  refine ⟨XE.new J (fun b u z => ?_) hne ha' hz' hd' h1' na os ag q, fun b o ws eb eo ew => ?_⟩
  · have nab : b ≠ a := fun y => by rw [y, hne] at z; cases z
    exact (kk b nab).trans (k b u z)
  · cases eb
    rw [show h'.get? a = some oe' from ha'] at eo
    cases eo
    rw [hd'] at ew
    cases ew
    exact hc'
end
end DL
namespace DL
open PySem PySem.Spec PyProof.Rows L2
open L2H (RoomH PinOk)
/-- nothing is handled, or an error whose context is None -/
def Chain1 (pn : List (Addr × Obj)) (A : Around) : Prop := A.handled = none ∨ ∃ (p : Addr × Obj) (vs : Array Value), p ∈ pn ∧ A.handled = some (.ref p.1) ∧ p.2.data = .fields vs ∧ vs[2]? = some .none
theorem Chain1.chain {pn : List (Addr × Obj)} {A : Around} (c : Chain1 pn A) : ChainIn pn A := c.elim .inl fun ⟨p, vs, h1, h2, h3, h4⟩ => .inr ⟨p, vs, h1, h2, h3, .inl h4⟩
theorem Chain1.more {pn pn' : List (Addr × Obj)} {A : Around} (c : Chain1 pn A) (h : ∀ q ∈ pn, q ∈ pn') : Chain1 pn' A := c.elim .inl fun ⟨p, vs, h1, h2⟩ => .inr ⟨p, vs, h _ h1, h2⟩
/-- within the suite of such a place two are handled at most -/
theorem suite_chain {X : Cx} {pn : List (Addr × Obj)} {a : Addr} {oe : Obj} {vs : Array Value} {h : Heap} (c : Chain1 X.pn X.A) (hp : ∀ q ∈ X.pn, q ∈ pn ∧ h.get? q.1 = some q.2) (he : h.get? a = some oe) (hd : oe.data = .fields vs) (h2 : vs[2]? = some (hv X.A)) : HC (X.suite a ((a, oe) :: pn)) := by
  refine .inr ⟨(a, oe), vs, List.mem_cons_self, rfl, hd, ?_⟩
  rcases c with c | ⟨p, ws, m, z, e, n⟩
  · refine .inl (h2.trans ?_)
    unfold hv
    rw [c]
    rfl
  · have e2 : vs[2]? = some (.ref p.1) := by
      rw [h2]
      unfold hv
      rw [z]
      rfl
    refine .inr ⟨p, ws, List.mem_cons_of_mem _ (hp p m).1, e2, fun y => ?_, e, n⟩
    have y : p.1 = a := y
    have q := (hp p m).2
    rw [y, he] at q
    obtain rfl := Option.some.inj q
    rw [hd] at e
    cases e
    rw [e2] at n
    cases n
section
variable {X : Cx} {x n : Str} {c : Value} {i : Nat} {body rest : List Stmt} {b0 : Stmt} {np pos pos2 : Pos} {tb : WX → TS} {ts : Addr → Value → Option Addr → TS} {Wo : WX}
theorem ps_try_G (hs : X.stack = X.env :: X.outer) (hf : X.env.frame = some X.env.locals) (hN : X.N.Nodup) (hi : X.N[i]? = some n) (hln : X.env.kindOf n = some .local) (hnm : Names X x c) (hc1 : Chain1 X.pn X.A) (tk : TakesC (hv X.A) X Wo)
    (hb : ∀ (W : WX) (pn : List (Addr × Obj)) (xe : Value → Shared → Prop), (∀ q ∈ X.pn, q ∈ pn) → TakesC (hv X.A) (X.tr pn xe) W → PassesOwn (model X.prog X.w) X.A X.env xe → PSs (X.tr pn xe) body (tb W))
    (hsu : ∀ (a : Addr) (oe : Obj) (cls : Value) (d : Option Addr) (pn : List (Addr × Obj)), (∀ q ∈ X.pn, q ∈ pn) → Zc cls d oe → (∃ vs, oe.data = .fields vs) → HC (X.suite a ((a, oe) :: pn)) → (X.A.handled = none → Chain1 ((a, oe) :: pn) (X.suite a ((a, oe) :: pn)).A) → PSs (X.suite a ((a, oe) :: pn)) (b0 :: rest) (ts a cls d)) :
    PS X (.Try body [.ExceptHandler (some (.Name x np)) (some n) (b0 :: rest) pos2] [] [] pos) (fun T σ H => tb (wAs X.K c i ts Wo T) T σ H) := by
  refine ⟨fun pins s σ H T I h => ?_⟩
  have ok := I.ok
  have frA : X.A.frames = some (X.env :: X.outer) := ok.frames.trans (by rw [hs])
  have inPn : ∀ q ∈ X.pn, q ∈ X.pn ++ pins := fun q hq => List.mem_append_left _ hq
  refine wpAny_Try_except (wpAny_mono ((hb (wAs X.K c i ts Wo T) (X.pn ++ pins) (fun e s1 => wpAny (model X.prog X.w) X.A (noteFrame e X.env) (fun _ s2 => wpAny (model X.prog X.w) X.A (setFlight e none) (fun _ s3 => wpAny (model X.prog X.w) X.A
    (handleBy e X.env [.ExceptHandler (some (.Name x np)) (some n) (b0 :: rest) pos2]) (SP X pins T) X.xe s3) X.xe s2) X.xe s1) inPn (fun u s1 z => ?cA) PassesOwn.looking).run [] s σ H T (I.toTry _) h) (fun fl s1 q => ?cB) fun _ _ z => z)
  case cB =>
    match fl, q with
    | .next, ⟨σ1, H1, I1, q1⟩ => exact wpAny_execs_nil ⟨σ1, H1, I1.ofTry ok, q1⟩
    | .brk, ⟨σ1, H1, I1, q1⟩ => exact ⟨σ1, H1, I1.ofTry ok, q1⟩
    | .cont, ⟨σ1, H1, I1, q1⟩ => exact ⟨σ1, H1, I1.ofTry ok, q1⟩
    | .ret u, ⟨v, σ1, H1, I1, r1, q1⟩ => exact ⟨v, σ1, H1, I1.ofTry ok, r1, q1⟩
  case cA =>
    obtain ⟨⟨a, B, sI, pins1, σ1, H1, cls, d, rfl, J', nb, up, sky, na, os, ag, b, hb1, yes, no⟩, hctx⟩ := z
    have J : Inv X pins σ1 H1 sI := J'.ofTry ok
    have sky2 : Sky B (X.env :: X.outer) a (Zx (hv X.A) cls d) X.env.locals s1.heap := by
      rw [← hs]
      exact sky_add sky fun o vs e1 e2 => hctx a o vs rfl e1 e2
    refine L2N.Sky.land Zx.steady frA hf sky2 fun h3 fl3 up3 => ?_
    -- where the error lies it is out of the way
    have away : ∀ {g : Heap}, HandSPX.FlyingZ B (X.env :: X.outer) a (Zx (hv X.A) cls d) g → a ≠ X.env.locals ∧ a ∉ X.fs := fun {g} fl => by
      obtain ⟨oe, vs, e1, e2, e3⟩ := HandSPX.FlyingZ.there fl
      have nm : a ∉ frs (X.env :: X.outer) := fun m => by
        obtain ⟨_, o, e4, nf⟩ := fl.2.2.1.mem m
        rw [e1] at e4
        cases e4
        exact nf vs e3
      exact ⟨fun z => nm (List.mem_filterMap.mpr ⟨X.env, List.mem_cons_self, by rw [hf, z]⟩), fun m => nm (by
        obtain ⟨e, k1, k2⟩ := List.mem_filterMap.mp m
        exact List.mem_filterMap.mpr ⟨e, List.mem_cons_of_mem _ k1, k2⟩)⟩
    obtain ⟨aL, aF⟩ := away fl3
    obtain ⟨oe3, vs3, he3, hz3, hd3⟩ := HandSPX.FlyingZ.there fl3
    have J3 : Inv X pins σ1 H1 { s1 with heap := h3 } := J.landed nb fl3.1 (up.trans up3) os ag
    have S3 := J3.suite he3 hd3 na aL aF
    refine wpAny_handleBy_cons (codeAny_handlers_test ?_) (fun q => by cases q)
    have LT : PySem.W.Looks (model X.prog X.w) h3 (typeOf (.ref a)) cls := fun A Q E s k z => wpAny_typeOf_ref (k _ _ he3) (by rw [hz3.1]; exact z)
    have named : ∀ {Q E : Value → Shared → Prop}, Q c { s1 with heap := h3 } → wpAny (model X.prog X.w) (X.A.mark (some (.ref a))) (eval (.Name x np) X.env) Q E { s1 with heap := h3 } := fun {Q E} z => by
      obtain ⟨g1, g2, g3 | ⟨g3, g4, g5⟩⟩ := hnm
      · exact ld_glob (X := X.suite a ((a, oe3) :: (X.pn ++ pins))) S3 g1 g3 z g2
      · exact ld_blt (X := X.suite a ((a, oe3) :: (X.pn ++ pins))) S3 g1 g3 g4 z g5 g2
    refine named ((PySem.W.exm_one (M := model X.prog X.w) J3.kIn LT hb1).here ?_)
    cases b with
    | true =>
      refine codeAny_handlers_suite_as (HandSPX.lands_againZ fl3 fun h4 fl4 up4 => ?_)
      obtain ⟨oe4, vs4, he4, hz4, hd4⟩ := HandSPX.FlyingZ.there fl4
      have J4 : Inv X pins σ1 H1 { s1 with heap := h4 } := J.landed nb fl4.1 ((up.trans up3).trans up4) os ag
      have hcS : HC (X.suite a ((a, oe4) :: (X.pn ++ pins))) := suite_chain (h := h4) hc1 (fun q hq => ⟨inPn q hq, (J4.pin q (inPn q hq)).1⟩) he4 hd4 (hz4.2.2 vs4 hd4)
      refine store_ok (X := X.suite a ((a, oe4) :: (X.pn ++ pins))) (v := .ref a) (J4.suite he4 hd4 na aL aF) hN hi (.inl hln) rfl (fun s5 S5 => ?_) (.inr hln)
      refine wpAny_mono ((hsu a oe4 cls d (X.pn ++ pins) inPn hz4.zc ⟨_, hd4⟩ hcS (fun z => .inr ⟨(a, oe4), vs4, List.mem_cons_self, rfl, hd4, (hz4.2.2 vs4 hd4).trans (by unfold hv; rw [z]; rfl)⟩)).run [] s5 _ H1 _ S5 (yes rfl a na)) (fun fl s6 q6 => ?_) fun _ _ z => z.elim
      have back : ∀ {σ6 : L2.St} {H6 : Hp} {Q : Shared → Prop}, Inv (X.suite a ((a, oe4) :: (X.pn ++ pins))) [] σ6 H6 s6 → (∀ s7, Inv X pins (σ6.set i none) H6 s7 → Q s7) → wpAny (model X.prog X.w) X.A (do bindName X.env n .none; unbindBehindTheSuite X.env n pos2) (fun _ s7 => Q s7) X.xe s6 :=
        fun {σ6 H6 Q} S6 z => gone_ok (S6.unsuite ok) hN hi hln z
      match fl, q6 with
      | .next, ⟨σ6, H6, S6, z6⟩ => exact back S6 fun s7 J7 => ⟨_, _, J7, z6⟩
      | .brk, ⟨σ6, H6, S6, z6⟩ => exact back S6 fun s7 J7 => ⟨_, _, J7, z6⟩
      | .cont, ⟨σ6, H6, S6, z6⟩ => exact back S6 fun s7 J7 => ⟨_, _, J7, z6⟩
      | .ret u, ⟨v6, σ6, H6, S6, r6, z6⟩ => exact back S6 fun s7 J7 => ⟨_, _, _, J7, r6, z6⟩
    | false =>
      show wpAny _ X.A (handleBy (.ref a) X.env []) _ _ _
      refine wpAny_handleBy_nil ?_
      obtain ⟨w1, w2, w3, oe, vs, T1, oT, ts1, y1, y2, y3, y4, y5⟩ := id fl3
      unfold PySem.passOn
      refine wpAny_bind (wpAny_field y1 y3 y4 ?_)
      rw [if_neg (show ¬ ((Value.ref T1 == Value.none) = true) from Bool.false_ne_true)]
      have onward : wpAny (model X.prog X.w) X.A (setFlight (.ref a) X.env.frame) (fun _ s4 => wpAny (model X.prog X.w) X.A (throw (.ref a) : Sem Flow) (SP X pins T) X.xe s4) X.xe { s1 with heap := h3 } := by
        rw [hf]
        refine HandSPX.setFlight_upZ fl3 fun h4 hh4 up4 => wpAny_throw (tk _ _ ⟨⟨a, B, sI, pins, σ1, H1, cls, d, rfl, J, nb, (up.trans up3).trans up4, .inr (.inr (by rw [hs]; exact held_zc hh4)), na, os, ag, no rfl⟩, ctx_of_traced hh4.2.2.2 rfl⟩)
      first
        | exact wpAny_bind (wpAny_pure (wpAny_bind onward))
        | exact wpAny_bind onward
end
end DL
namespace DL
open PySem PySem.Spec PyProof.Rows L2
open L2H (RoomH PinOk)
/-! ### the error that a suite holds -/
/-- isinstance(e, c) -/
def rIsX (K : PySem.W.Frag) (a : Addr) (cls : Value) (d : Option Addr) : List V → Hp → VK → Prop := fun xs H Q => ∃ (C : Addr) (c : V) (cv : Value) (b : Bool), cls = .ref C ∧ ExcC K C ∧ xs = [.ref a, c] ∧ (∀ u, RelV c u → u = cv) ∧ PySem.W.kitOne K (.ref C) cv = some b ∧
  (d = none ∨ ∃ dd fs, d = some dd ∧ H dd = some (.xd fs)) ∧ Q (.bl b) H
theorem call_isX {X : Cx} {a : Addr} {oe : Obj} {cls : Value} {d : Option Addr} {pn : List (Addr × Obj)} (hz : Zc cls d oe) (hf : ∃ vs, oe.data = .fields vs) : CallR (X.suite a ((a, oe) :: pn)) (.builtin "isinstance") (rIsX X.K a cls d) := by
  intro pins s σ H xs us Q I r h
  obtain ⟨C, c, cv, b, rfl, T, rfl, hcv, e, hd, q⟩ := h
  match us, r with
  | [u1, u2], .cons rx (.cons rt .nil) =>
    cases rx
    obtain rfl := hcv _ rt
    obtain ⟨hget, _⟩ := I.pin (a, oe) (List.mem_append.mpr (.inl List.mem_cons_self))
    obtain ⟨vs, hv⟩ := hf
    have hcl : (PySem.W.clsIn X.K C).isSome = true := by
      obtain ⟨cd, hc, _⟩ := PySem.W.any_some T.hd
      rw [hc]
      rfl
    have J : ∃ od, PySem.W.InstAt s.heap a oe C od := by
      obtain ⟨oc, od, oda, osl⟩ := oe
      obtain ⟨h1, h2⟩ := hz
      dsimp only at h1 h2 hv
      subst h1 hv
      rcases hd with hd | ⟨dd, fs, hd, hx⟩
      · rw [hd] at h2
        subst h2
        exact ⟨none, hget, rfl, rfl, trivial⟩
      · rw [hd] at h2
        subst h2
        obtain ⟨mA, hns, _⟩ := (show ObjOk X.prog X.w H s.heap dd (.xd fs) from I.hok dd _ hx)
        obtain ⟨o, _, _, ho, _⟩ := hns
        exact ⟨some o, hget, rfl, rfl, ho⟩
    obtain ⟨od, J⟩ := J
    exact PySem.W.kia_one (PySem.W.kitx_exc (od := od) hcl T.hg T.hk T.hs T.ha T.hn T.ht T.hm) I.kIn J e (fun z => nomatch z) fun tk => ⟨.bl b, H, I.kept (t' := tk) fun _ _ z => z, rfl, q⟩
/-- what isinstance tells of the classes in L -/
def tab (K : PySem.W.Frag) (L : List Addr) (cls cv : Value) : Option Bool := match cls with
  | .ref C => if C ∈ L then PySem.W.kitOne K (.ref C) cv else none
  | _ => none
def isExn (a : Addr) (d : Option Addr) : D → Option D
  | .exn a' d' ks ds => if a' = a ∧ d' = d then some (.exn a' d' ks ds) else none
  | _ => none
def mIsX (K : PySem.W.Frag) (L : List Addr) (a : Addr) (cls : Value) (d : Option Addr) (cv : Value) (f : SE) : SE := fun env => (f env).bind fun x => (isExn a d x).bind fun _ => (tab K L cls cv).map D.bl
def mXf (a : Addr) (d : Option Addr) (ok : Bool) (n : Str) (f : SE) : SE := fun env => (f env).bind fun x => match isExn a d x with
  | some (.exn _ _ ks ds) => if ok = true then (ks.zip ds).lookup n else none
  | _ => none
theorem rp_exn {K : PySem.W.Frag} {H : Hp} {v : V} {a : Addr} {d : Option Addr} {ks : List Str} {ds : List D} (r : Rp K H v (.exn a d ks ds)) : v = .ref a ∧ ((d = none ∧ ks = [] ∧ ds = []) ∨ ∃ (dd : Addr) (vs : List V), d = some dd ∧ H dd = some (.xd (ks.zip vs)) ∧ vs.length = ks.length ∧ Rps K H vs ds) := by simpa only [Rp] using r
theorem Rp.E0 {K : PySem.W.Frag} {H : Hp} {a : Addr} : Rp K H (.ref a) (.exn a none [] []) := by simp [Rp]
theorem Rp.E1 {K : PySem.W.Frag} {H : Hp} {a dd : Addr} {ks : List Str} {vs : List V} {ds : List D} (h : H dd = some (.xd (ks.zip vs))) (hl : vs.length = ks.length) (r : Rps K H vs ds) : Rp K H (.ref a) (.exn a (some dd) ks ds) := by
  simp only [Rp]
  exact ⟨trivial, .inr ⟨dd, vs, rfl, h, hl, r⟩⟩
theorem zip_rev {α β : Type} : ∀ {xs : List α} {ys : List β}, xs.length = ys.length → (xs.zip ys).reverse = xs.reverse.zip ys.reverse
  | [], ys, h => by simp
  | x :: xs, [], h => by simp at h
  | x :: xs, y :: ys, h => by
    have h' : xs.length = ys.length := by simpa using h
    rw [List.zip_cons_cons, List.reverse_cons, List.reverse_cons, List.reverse_cons, List.zip_append (by simp [h']), zip_rev h']
    rfl
theorem isExn_of {a : Addr} {d : Option Addr} {x y : D} (h : isExn a d x = some y) : ∃ ks ds, x = .exn a d ks ds ∧ y = x := by
  cases x <;> simp only [isExn] at h <;> try contradiction
  split at h
  · rename_i hh
    obtain ⟨rfl, rfl⟩ := hh
    exact ⟨_, _, rfl, (Option.some.inj h).symm⟩
  · contradiction
theorem zip_lookup_rel {K : PySem.W.Frag} {H : Hp} {n : Str} : ∀ {ks : List Str} {vs : List V} {ds : List D} {y : D}, Rps K H vs ds → (ks.zip ds).lookup n = some y → ∃ v, (ks.zip vs).lookup n = some v ∧ Rp K H v y
  | [], vs, ds, y, r, h => by simp [List.lookup] at h
  | k :: ks, vs, [], y, r, h => by simp [List.lookup] at h
  | k :: ks, vs, d :: ds, y, r, h => by
    simp only [Rps] at r
    obtain ⟨v, ws, rfl, r1, r2⟩ := r
    simp only [List.zip_cons_cons, List.lookup] at h ⊢
    by_cases hk : n = k
    · subst hk
      simp at h ⊢
      subst h
      exact r1
    · have hb : (n == k) = false := by simpa using hk
      rw [hb] at h ⊢
      exact zip_lookup_rel r2 h
section
variable {X : Cx} {a : Addr} {oe : Obj} {cls : Value} {d : Option Addr} {pn : List (Addr × Obj)}
theorem d_isX {e c : Expr} {f : SE} {L : List Addr} {cV : V} {cv : Value} {p pos : Pos} (hz : Zc cls d oe) (hf : ∃ vs, oe.data = .fields vs) (hL : ∀ C ∈ L, ExcC X.K C) (hm : X.mg "isinstance" = none) (ha : PE (X.suite a ((a, oe) :: pn)) e (uE X.K f)) (hc : PE (X.suite a ((a, oe) :: pn)) c (tC cV)) (hcv : ∀ u, RelV cV u → u = cv)
    (hg : Gl (X.suite a ((a, oe) :: pn)) "isinstance" := by rfl) (hs : starEach [e, c] (X.suite a ((a, oe) :: pn)).env = (false, eval e (X.suite a ((a, oe) :: pn)).env) :: starEach [c] (X.suite a ((a, oe) :: pn)).env := by rfl)
    (hs2 : starEach [c] (X.suite a ((a, oe) :: pn)).env = (false, eval c (X.suite a ((a, oe) :: pn)).env) :: starEach [] (X.suite a ((a, oe) :: pn)).env := by rfl) (hp : (backTo pos (starEach [c] (X.suite a ((a, oe) :: pn)).env)).any (·.1) = false := by rfl) :
    PE (X.suite a ((a, oe) :: pn)) (.Call (.Name "isinstance" p) [e, c] [] pos) (uE X.K (mIsX X.K L a cls d cv f)) :=
  PE.imp (pe_callB (call_isX hz hf) hg hm boot_isinstance (pa_cons ha (pa_cons hc pa_nil hs2) hs) (by decide) (by decide) hs hp) fun σ H Q h => by
    obtain ⟨F, env, y, sh, re, e, q⟩ := h
    obtain ⟨x, e1, e2⟩ := bind_some_of e
    obtain ⟨x', e3, e4⟩ := bind_some_of e2
    obtain ⟨b, e5, rfl⟩ := map_some_of e4
    obtain ⟨ks, ds, rfl, _⟩ := isExn_of e3
    unfold tab at e5
    cases cls <;> simp only at e5 <;> try contradiction
    rename_i C
    split at e5
    · rename_i hC
      refine ⟨F, env, _, sh, re, e1, fun v F1 H1 s1 r1 => ?_⟩
      obtain ⟨rfl, r2⟩ := rp_exn r1
      refine ⟨C, cV, cv, b, rfl, hL C hC, rfl, hcv, e5, ?_, q _ F1 H1 s1 Rp.B⟩
      exact r2.elim (fun z => .inl z.1) fun ⟨dd, vs, z1, z2, _⟩ => .inr ⟨dd, _, z1, s1.fh _ _ z2⟩
    · contradiction
/-- e.f -/
theorem d_xf {e : Expr} {f : SE} {n : Str} {ok : Bool} {pos : Pos} (hz : Zc cls d oe) (hf : ∃ vs, oe.data = .fields vs) (hok : ok = true → ∃ C, cls = .ref C ∧ XfC X.K C ∧ PySem.W.findIn X.K (.ref C) n = some none) (he : PE (X.suite a ((a, oe) :: pn)) e (uE X.K f))
    (hb : attributeBase e n (X.suite a ((a, oe) :: pn)).env (eval e (X.suite a ((a, oe) :: pn)).env) = eval e (X.suite a ((a, oe) :: pn)).env := by rfl) : PE (X.suite a ((a, oe) :: pn)) (.Attribute e n pos) (uE X.K (mXf a d ok n f)) := by
  cases ok with
  | false =>
    refine ⟨fun pins s σ H Q I h => ?_⟩
    obtain ⟨F, env, y, sh, re, e, q⟩ := h
    obtain ⟨x, e1, e2⟩ := bind_some_of e
    split at e2
    · rw [if_neg Bool.false_ne_true] at e2
      contradiction
    · contradiction
  | true =>
    obtain ⟨C, hC, T, hno⟩ := hok rfl
    refine PE.imp (pe_xf (C := C) T hno hz hf he hb) fun σ H Q h => ?_
    obtain ⟨F, env, y, sh, re, e, q⟩ := h
    obtain ⟨x, e1, e2⟩ := bind_some_of e
    split at e2
    · rename_i ks ds ee
      rw [if_pos rfl] at e2
      obtain ⟨ks', ds', rfl, e4⟩ := isExn_of ee
      cases e4
      refine ⟨F, env, _, sh, re, e1, fun v F1 H1 s1 r1 => ?_⟩
      obtain ⟨rfl, r2⟩ := rp_exn r1
      refine ⟨rfl, hC, ?_⟩
      rcases r2 with ⟨_, rfl, rfl⟩ | ⟨dd, vs, z1, z2, z3, z4⟩
      · simp [List.lookup] at e2
      · obtain ⟨v, l1, l2⟩ := zip_lookup_rel z4 e2
        exact ⟨dd, _, v, z1, s1.fh _ _ z2, l1, q v F1 H1 s1 l2⟩
    · contradiction
end
/-! ### == of lists -/
mutual
def toP : D → Option PyData
  | .non => some .none
  | .bl b => some (.bool b)
  | .int i => some (.int i)
  | .str x => some (.str x)
  | .lst ds => (toPs ds).map .list
  | .tup ds => (toPs ds).map .tuple
  | .scr _ => none
  | .exn .. => none
def toPs : List D → Option (List PyData)
  | [] => some []
  | d :: ds => (toP d).bind fun p => (toPs ds).map (p :: ·)
end
mutual
theorem dp_of {K : PySem.W.Frag} {F H : Hp} (h : Same F H) : ∀ {d : D} {v : V} {p : PyData}, Rp K F v d → toP d = some p → Dp K H v p
  | .non, v, p, r, e => by
    simp only [toP] at e
    obtain rfl := Option.some.inj e
    rw [rp_non r]; exact .non
  | .bl b, v, p, r, e => by
    simp only [toP] at e
    obtain rfl := Option.some.inj e
    rw [rp_bl r]; exact .bl b
  | .int b, v, p, r, e => by
    simp only [toP] at e
    obtain rfl := Option.some.inj e
    rw [rp_int r]; exact .int b
  | .str b, v, p, r, e => by
    simp only [toP] at e
    obtain rfl := Option.some.inj e
    rw [rp_str r]; exact .str b
  | .lst ds, v, p, r, e => by
    simp only [toP] at e
    obtain ⟨ps, e1, rfl⟩ := map_some_of e
    obtain ⟨a, vs, rfl, h1, r1⟩ := rp_lst r
    exact .lst (.inl (.inl (h _ _ h1))) (dps_of h r1 e1)
  | .tup ds, v, p, r, e => by
    simp only [toP] at e
    obtain ⟨ps, e1, rfl⟩ := map_some_of e
    obtain ⟨a, vs, rfl, h1, r1⟩ := rp_tup r
    exact .tup (.inl (.inl (h _ _ h1))) (dps_of h r1 e1)
  | .scr _, v, p, r, e => by simp only [toP] at e; contradiction
  | .exn .., v, p, r, e => by simp only [toP] at e; contradiction
theorem dps_of {K : PySem.W.Frag} {F H : Hp} (h : Same F H) : ∀ {ds : List D} {vs : List V} {ps : List PyData}, Rps K F vs ds → toPs ds = some ps → DpAll K H vs ps
  | [], vs, ps, r, e => by
    simp only [toPs] at e
    obtain rfl := Option.some.inj e
    simp only [Rps] at r
    subst r
    exact .nil
  | d :: ds, vs, ps, r, e => by
    simp only [toPs] at e
    obtain ⟨p, e1, e2⟩ := bind_some_of e
    obtain ⟨qs, e3, rfl⟩ := map_some_of e2
    simp only [Rps] at r
    obtain ⟨v, ws, rfl, r1, r2⟩ := r
    exact .cons (dp_of h r1 e1) (dps_of h r2 e3)
end
def gEqL (x y : D) : Option D := (toP x).bind fun p => (toP y).bind fun q => if SeqAt.shaped p = true ∧ SeqAt.shaped q = true then some (.bl (PyData.eqv p q)) else none
section
variable {X : Cx}
theorem d_eqL {a b : Expr} {fa fb : SE} {pos : Pos} (hu : X.A.units + 64 < cLine) (ha : PE X a (uE X.K fa)) (hb : PE X b (uE X.K fb)) (hm : behindInMarks .Eq b = false) : PE X (.Compare a [.Eq] [b] pos) (uE X.K (m2 gEqL fa fb)) :=
  d_cmp (op_eqD hu) (fun x y F H Q a b d sh ra rb e q => by
    obtain ⟨p, e1, e2⟩ := bind_some_of e
    obtain ⟨p2, e3, e4⟩ := bind_some_of e2
    split at e4
    · rename_i hh
      obtain rfl := Option.some.inj e4
      exact ⟨p, p2, dp_of sh ra e1, dp_of sh rb e3, hh.1, hh.2, q _ _ _ (Gr.refl sh) Rp.B⟩
    · contradiction) ha hb hm
end
end DL
namespace DL
open PySem PySem.Spec PyProof.Rows L2
open L2H (RoomH PinOk)
/-- a def as its callers know it -/
structure Cal (K : PySem.W.Frag) (mg : Str → Option Value) (x : Str) (f : Addr) (fd : FuncData) (ps : List Str) : Prop where
  gl : mg x = some (.ref f)
  kp : PySem.W.keepIn K (.ref f) = true
  bi : Binds K fd ps []
/-- names that the module leaves built-in -/
structure Blt (mg : Str → Option Value) : Prop where
  b_len : mg "len" = none
  b_int : mg "int" = none
  b_range : mg "range" = none
  b_isinstance : mg "isinstance" = none
  b_list : mg "list" = none
  b_tuple : mg "tuple" = none
  b_bool : mg "bool" = none
  b_str : mg "str" = none
abbrev ap (n : Nat) (g : List D → Option D) : List D → Option D := fun ds => if ds.length = n then g ds else none
end DL
namespace K23
open PySem PySem.Spec PyProof.Rows L2 DL
open L2H (RoomH PinOk)
def topS (i : Nat) : Stmt := PySem.Challenge.pw_surelyseen_k23_errors_are_their_own.main.body.getD i (.Pass ⟨0, 0, 0, 0⟩)
section
variable {P : Program} {w : World} {K : PySem.W.Frag} {mg : Str → Option Value} {base : Heap}
abbrev s_law_cell : Stmt := topS 30
theorem sc_law_cell : FnScope ["script", "at", "mixed", "cell"] ["script", "at"] (defScope s_law_cell) := ⟨rfl, rfl, rfl, by decide +kernel, rfl, by decide +kernel, by decide +kernel⟩
def m_law_cell : SS :=
  (sSeq (sIf (mB (m2 gLt (mVar 1) (mFn gLen (mCons (mVar 0) mNil)))) (sRet (mFn gInt (mCons (m2 gIx (mVar 0) (mVar 1)) mNil))) sNext) (sSeq (sAsg 2 (m2 gAdd (mC (.int 11)) (m2 gMul (mC (.int 101)) (mVar 1)))) (sSeq (sFor 3 (mItems (mVar 0)) (sAsg 2 (m2 gMod (mFn gInt (mCons (m2 gAdd (m2 gMul (mVar 2) (mC (.int 31))) (mVar 3)) mNil)) (mC (.int 1000000007))))) (sRet (mVar 2)))))
theorem ok_law_cell {f : Addr} {fd : FuncData} (F : Fun K "_law_cell" "_law_cell" s_law_cell f fd) (B : Blt mg) :
    FnG P w K mg base CA0 1 f fd ["script", "at"] (spD K 2 (mean 2 2 (m_law_cell))) :=
  def_D F sc_law_cell rfl rfl fun pn A outer s H E cdv hc hr =>
    (ss_cons (s_if (t_cmp c_lt (d_var 1) (d_len B.b_len (a_cons (d_var 0) a_nil)) rfl) (ss_one (s_ret (d_toInt B.b_int (a_cons (d_ix (d_var 0) (d_var 1) (fun _ _ => rfl)) a_nil)))) ss_nil) (ss_cons (s_asg (i := 2) sc_law_cell.nd (d_add d_int (d_mul d_int (d_var 1)))) (ss_cons (s_for (i := 3) PassesOwn.leaving hc sc_law_cell.nd (i_items (d_var 0)) (ss_one (s_asg (i := 2) sc_law_cell.nd (d_mod (d_toInt B.b_int (a_cons (d_add (d_mul (d_var 2) d_int) (d_var 3)) a_nil)) d_int)))) (ss_one (s_ret (d_var 2))))))
abbrev s_law_draw : Stmt := topS 31
theorem sc_law_draw : FnScope ["script", "at", "k", "size", "cell", "mixed", "rest", "turn"] ["script", "at", "k", "size"] (defScope s_law_draw) := ⟨rfl, rfl, rfl, by decide +kernel, rfl, by decide +kernel, by decide +kernel⟩
def m_law_draw (G_law_cell : List D → Option D) : SS :=
  (sSeq (sAsg 4 (mFn (ap 2 G_law_cell) (mCons (mVar 0) (mCons (mVar 1) mNil)))) (sSeq (sIf (mB (m2 gGe (mVar 4) (m2 gPow (mC (.int 10)) (mC (.int 18))))) (sSeq (sAsg 6 (mVar 4)) (sSeq (sFor 7 (mRng (mCons (mVar 2) mNil)) (sAsg 6 (m2 gDiv (mVar 6) (mC (.int 1000003))))) (sIf (mB (m2 gGt (mVar 6) (mC (.int 0)))) (sRet (m2 gMod (m2 gMod (mFn gInt (mCons (mVar 6) mNil)) (mC (.int 1000003))) (mVar 3))) sNext))) sNext) (sSeq (sAsg 5 (m2 gMod (mFn gInt (mCons (m2 gAdd (m2 gAdd (mVar 4) (m2 gMul (mC (.int 7919)) (mVar 2))) (mC (.int 13))) mNil)) (mC (.int 2147483647)))) (sSeq (sAsg 5 (m2 gMod (mFn gInt (mCons (m2 gMul (mVar 5) (m2 gAdd (mVar 5) (mC (.int 48271)))) mNil)) (mC (.int 2147483629)))) (sSeq (sAsg 5 (m2 gMod (mFn gInt (mCons (m2 gAdd (m2 gMul (mVar 5) (m2 gAdd (mVar 5) (mC (.int 69621)))) (m2 gMul (mC (.int 31)) (mVar 2))) mNil)) (mC (.int 2147483647)))) (sRet (m2 gMod (mFn gInt (mCons (m2 gDiv (mVar 5) (mC (.int 9))) mNil)) (mVar 3))))))))
theorem ok_law_draw {f : Addr} {fd : FuncData} {f_law_cell : Addr} {fd_law_cell : FuncData} {G_law_cell : List D → Option D} (F : Fun K "_law_draw" "_law_draw" s_law_draw f fd) (B : Blt mg) (F_law_cell : FnG P w K mg base CA0 1 f_law_cell fd_law_cell ["script", "at"] (spD K 2 G_law_cell)) (C_law_cell : Cal K mg "_law_cell" f_law_cell fd_law_cell ["script", "at"]) :
    FnG P w K mg base CA0 2 f fd ["script", "at", "k", "size"] (spD K 4 (mean 4 4 (m_law_draw G_law_cell))) :=
  def_D F sc_law_draw rfl rfl fun pn A outer s H E cdv hc hr =>
    (ss_cons (s_asg (i := 4) sc_law_draw.nd (d_call F_law_cell rfl (hr.mono (by decide)) hc C_law_cell.gl C_law_cell.kp C_law_cell.bi (a_cons (d_var 0) (a_cons (d_var 1) a_nil)))) (ss_cons (s_if (t_cmp c_ge (d_var 4) (d_pow d_int d_int) rfl) (ss_cons (s_asg (i := 6) sc_law_draw.nd (d_var 4)) (ss_cons (s_for (i := 7) PassesOwn.leaving hc sc_law_draw.nd (i_range B.b_range (a_cons (d_var 2) a_nil)) (ss_one (s_asg (i := 6) sc_law_draw.nd (d_div (d_var 6) d_int)))) (ss_one (s_if (t_cmp c_gt (d_var 6) d_int rfl) (ss_one (s_ret (d_mod (d_mod (d_toInt B.b_int (a_cons (d_var 6) a_nil)) d_int) (d_var 3)))) ss_nil)))) ss_nil) (ss_cons (s_asg (i := 5) sc_law_draw.nd (d_mod (d_toInt B.b_int (a_cons (d_add (d_add (d_var 4) (d_mul d_int (d_var 2))) d_int) a_nil)) d_int)) (ss_cons (s_asg (i := 5) sc_law_draw.nd (d_mod (d_toInt B.b_int (a_cons (d_mul (d_var 5) (d_add (d_var 5) d_int)) a_nil)) d_int)) (ss_cons (s_asg (i := 5) sc_law_draw.nd (d_mod (d_toInt B.b_int (a_cons (d_add (d_mul (d_var 5) (d_add (d_var 5) d_int)) (d_mul d_int (d_var 2))) a_nil)) d_int)) (ss_one (s_ret (d_mod (d_toInt B.b_int (a_cons (d_div (d_var 5) d_int) a_nil)) (d_var 3)))))))))
abbrev s_law_words : Stmt := topS 33
theorem sc_law_words : FnScope ["script", "at", "k", "signs", "text", "j"] ["script", "at", "k"] (defScope s_law_words) := ⟨rfl, rfl, rfl, by decide +kernel, rfl, by decide +kernel, by decide +kernel⟩
def m_law_words (G_law_draw : List D → Option D) : SS :=
  (sSeq (sAsg 3 (mC (.str " !\"#$&'()*+,-./0123456789:;<=>?@ABCDEFGHIJKLMNOPQRSTUVWXYZ[\\]^_`"))) (sSeq (sAsg 3 (m2 gAdd (mVar 3) (mC (.str "abcdefghijklmnopqrstuvwxyz{|}~\n")))) (sSeq (sAsg 4 (mC (.str ""))) (sSeq (sFor 5 (mRng (mCons (mFn (ap 4 G_law_draw) (mCons (mVar 0) (mCons (mVar 1) (mCons (mVar 2) (mCons (mC (.int 20)) mNil))))) mNil)) (sAsg 4 (m2 gAdd (mVar 4) (m2 gIx (mVar 3) (mFn (ap 4 G_law_draw) (mCons (mVar 0) (mCons (mVar 1) (mCons (m2 gAdd (m2 gAdd (mVar 2) (mC (.int 1))) (mVar 5)) (mCons (mC (.int 95)) mNil))))))))) (sRet (mVar 4))))))
theorem ok_law_words {f : Addr} {fd : FuncData} {f_law_draw : Addr} {fd_law_draw : FuncData} {G_law_draw : List D → Option D} (F : Fun K "_law_words" "_law_words" s_law_words f fd) (B : Blt mg) (F_law_draw : FnG P w K mg base CA0 2 f_law_draw fd_law_draw ["script", "at", "k", "size"] (spD K 4 G_law_draw)) (C_law_draw : Cal K mg "_law_draw" f_law_draw fd_law_draw ["script", "at", "k", "size"]) :
    FnG P w K mg base CA0 3 f fd ["script", "at", "k"] (spD K 3 (mean 3 3 (m_law_words G_law_draw))) :=
  def_D F sc_law_words rfl rfl fun pn A outer s H E cdv hc hr =>
    (ss_cons (s_asg (i := 3) sc_law_words.nd d_str) (ss_cons (s_asg (i := 3) sc_law_words.nd (d_add (d_var 3) d_str)) (ss_cons (s_asg (i := 4) sc_law_words.nd d_str) (ss_cons (s_for (i := 5) PassesOwn.leaving hc sc_law_words.nd (i_range B.b_range (a_cons (d_call F_law_draw rfl (hr.mono (by decide)) hc C_law_draw.gl C_law_draw.kp C_law_draw.bi (a_cons (d_var 0) (a_cons (d_var 1) (a_cons (d_var 2) (a_cons d_int a_nil))))) a_nil)) (ss_one (s_asg (i := 4) sc_law_words.nd (d_add (d_var 4) (d_ix (d_var 3) (d_call F_law_draw rfl (hr.mono (by decide)) hc C_law_draw.gl C_law_draw.kp C_law_draw.bi (a_cons (d_var 0) (a_cons (d_var 1) (a_cons (d_add (d_add (d_var 2) d_int) (d_var 5)) (a_cons d_int a_nil))))) (fun _ _ => rfl)))))) (ss_one (s_ret (d_var 4)))))))
abbrev s_law_count : Stmt := topS 34
theorem sc_law_count : FnScope ["script", "at", "k"] ["script", "at", "k"] (defScope s_law_count) := ⟨rfl, rfl, rfl, by decide +kernel, rfl, by decide +kernel, by decide +kernel⟩
def m_law_count (G_law_draw : List D → Option D) : SS :=
  (sSeq (sIf (mB (m2 gEq (mFn (ap 4 G_law_draw) (mCons (mVar 0) (mCons (mVar 1) (mCons (mVar 2) (mCons (mC (.int 2)) mNil))))) (mC (.int 0)))) (sRet (mFn (ap 4 G_law_draw) (mCons (mVar 0) (mCons (mVar 1) (mCons (m2 gAdd (mVar 2) (mC (.int 1))) (mCons (mC (.int 20)) mNil)))))) sNext) (sRet (m2 gAdd (m2 gMul (mFn (ap 4 G_law_draw) (mCons (mVar 0) (mCons (mVar 1) (mCons (m2 gAdd (mVar 2) (mC (.int 1))) (mCons (mC (.int 1000000)) mNil))))) (mC (.int 1000000))) (mFn (ap 4 G_law_draw) (mCons (mVar 0) (mCons (mVar 1) (mCons (m2 gAdd (mVar 2) (mC (.int 2))) (mCons (mC (.int 1000001)) mNil))))))))
theorem ok_law_count {f : Addr} {fd : FuncData} {f_law_draw : Addr} {fd_law_draw : FuncData} {G_law_draw : List D → Option D} (F : Fun K "_law_count" "_law_count" s_law_count f fd) (B : Blt mg) (F_law_draw : FnG P w K mg base CA0 2 f_law_draw fd_law_draw ["script", "at", "k", "size"] (spD K 4 G_law_draw)) (C_law_draw : Cal K mg "_law_draw" f_law_draw fd_law_draw ["script", "at", "k", "size"]) :
    FnG P w K mg base CA0 3 f fd ["script", "at", "k"] (spD K 3 (mean 3 0 (m_law_count G_law_draw))) :=
  def_D F sc_law_count rfl rfl fun pn A outer s H E cdv hc hr =>
    (ss_cons (s_if (t_cmp c_eq (d_call F_law_draw rfl (hr.mono (by decide)) hc C_law_draw.gl C_law_draw.kp C_law_draw.bi (a_cons (d_var 0) (a_cons (d_var 1) (a_cons (d_var 2) (a_cons d_int a_nil))))) d_int rfl) (ss_one (s_ret (d_call F_law_draw rfl (hr.mono (by decide)) hc C_law_draw.gl C_law_draw.kp C_law_draw.bi (a_cons (d_var 0) (a_cons (d_var 1) (a_cons (d_add (d_var 2) d_int) (a_cons d_int a_nil))))))) ss_nil) (ss_one (s_ret (d_add (d_mul (d_call F_law_draw rfl (hr.mono (by decide)) hc C_law_draw.gl C_law_draw.kp C_law_draw.bi (a_cons (d_var 0) (a_cons (d_var 1) (a_cons (d_add (d_var 2) d_int) (a_cons d_int a_nil))))) d_int) (d_call F_law_draw rfl (hr.mono (by decide)) hc C_law_draw.gl C_law_draw.kp C_law_draw.bi (a_cons (d_var 0) (a_cons (d_var 1) (a_cons (d_add (d_var 2) d_int) (a_cons d_int a_nil)))))))))
abbrev s_law_sum : Stmt := topS 35
theorem sc_law_sum : FnScope ["script", "at", "k"] ["script", "at", "k"] (defScope s_law_sum) := ⟨rfl, rfl, rfl, by decide +kernel, rfl, by decide +kernel, by decide +kernel⟩
def m_law_sum (G_law_count : List D → Option D) (G_law_words : List D → Option D) : SS :=
  (sRet (mFn gTup (mCons (mFn (ap 3 G_law_words) (mCons (mVar 0) (mCons (mVar 1) (mCons (mVar 2) mNil)))) (mCons (mFn (ap 3 G_law_count) (mCons (mVar 0) (mCons (mVar 1) (mCons (m2 gAdd (mVar 2) (mC (.int 20))) mNil)))) (mCons (mFn (ap 3 G_law_count) (mCons (mVar 0) (mCons (mVar 1) (mCons (m2 gAdd (mVar 2) (mC (.int 23))) mNil)))) mNil)))))
theorem ok_law_sum {f : Addr} {fd : FuncData} {f_law_count : Addr} {fd_law_count : FuncData} {G_law_count : List D → Option D} {f_law_words : Addr} {fd_law_words : FuncData} {G_law_words : List D → Option D} (F : Fun K "_law_sum" "_law_sum" s_law_sum f fd) (B : Blt mg) (F_law_count : FnG P w K mg base CA0 3 f_law_count fd_law_count ["script", "at", "k"] (spD K 3 G_law_count)) (C_law_count : Cal K mg "_law_count" f_law_count fd_law_count ["script", "at", "k"]) (F_law_words : FnG P w K mg base CA0 3 f_law_words fd_law_words ["script", "at", "k"] (spD K 3 G_law_words)) (C_law_words : Cal K mg "_law_words" f_law_words fd_law_words ["script", "at", "k"]) :
    FnG P w K mg base CA0 4 f fd ["script", "at", "k"] (spD K 3 (mean 3 0 (m_law_sum G_law_count G_law_words))) :=
  def_D F sc_law_sum rfl rfl fun pn A outer s H E cdv hc hr =>
    (ss_one (s_ret (d_tup (a_cons (d_call F_law_words rfl (hr.mono (by decide)) hc C_law_words.gl C_law_words.kp C_law_words.bi (a_cons (d_var 0) (a_cons (d_var 1) (a_cons (d_var 2) a_nil)))) (a_cons (d_call F_law_count rfl (hr.mono (by decide)) hc C_law_count.gl C_law_count.kp C_law_count.bi (a_cons (d_var 0) (a_cons (d_var 1) (a_cons (d_add (d_var 2) d_int) a_nil)))) (a_cons (d_call F_law_count rfl (hr.mono (by decide)) hc C_law_count.gl C_law_count.kp C_law_count.bi (a_cons (d_var 0) (a_cons (d_var 1) (a_cons (d_add (d_var 2) d_int) a_nil)))) a_nil))))))
abbrev s_law_step : Stmt := topS 36
theorem sc_law_step : FnScope ["script", "at", "k"] ["script", "at", "k"] (defScope s_law_step) := ⟨rfl, rfl, rfl, by decide +kernel, rfl, by decide +kernel, by decide +kernel⟩
def m_law_step (G_law_draw : List D → Option D) : SS :=
  (sRet (mFn gTup (mCons (mFn (ap 4 G_law_draw) (mCons (mVar 0) (mCons (mVar 1) (mCons (mVar 2) (mCons (mC (.int 400)) mNil))))) (mCons (m2 gIx (mFn gLst (mCons (mC (.str "high")) (mCons (mC (.str "low")) mNil))) (mFn (ap 4 G_law_draw) (mCons (mVar 0) (mCons (mVar 1) (mCons (m2 gAdd (mVar 2) (mC (.int 1))) (mCons (mC (.int 2)) mNil)))))) mNil))))
theorem ok_law_step {f : Addr} {fd : FuncData} {f_law_draw : Addr} {fd_law_draw : FuncData} {G_law_draw : List D → Option D} (F : Fun K "_law_step" "_law_step" s_law_step f fd) (B : Blt mg) (F_law_draw : FnG P w K mg base CA0 2 f_law_draw fd_law_draw ["script", "at", "k", "size"] (spD K 4 G_law_draw)) (C_law_draw : Cal K mg "_law_draw" f_law_draw fd_law_draw ["script", "at", "k", "size"]) :
    FnG P w K mg base CA0 3 f fd ["script", "at", "k"] (spD K 3 (mean 3 0 (m_law_step G_law_draw))) :=
  def_D F sc_law_step rfl rfl fun pn A outer s H E cdv hc hr =>
    (ss_one (s_ret (d_tup (a_cons (d_call F_law_draw rfl (hr.mono (by decide)) hc C_law_draw.gl C_law_draw.kp C_law_draw.bi (a_cons (d_var 0) (a_cons (d_var 1) (a_cons (d_var 2) (a_cons d_int a_nil))))) (a_cons (d_ix (d_lst (a_cons d_str (a_cons d_str a_nil))) (d_call F_law_draw rfl (hr.mono (by decide)) hc C_law_draw.gl C_law_draw.kp C_law_draw.bi (a_cons (d_var 0) (a_cons (d_var 1) (a_cons (d_add (d_var 2) d_int) (a_cons d_int a_nil))))) (fun _ _ => rfl)) a_nil)))))
abbrev s_law_pair : Stmt := topS 37
theorem sc_law_pair : FnScope ["script", "at", "k", "size"] ["script", "at", "k"] (defScope s_law_pair) := ⟨rfl, rfl, rfl, by decide +kernel, rfl, by decide +kernel, by decide +kernel⟩
def m_law_pair (G_law_draw : List D → Option D) (G_law_sum : List D → Option D) : SS :=
  (sSeq (sAsg 3 (m2 gAdd (mC (.int 1)) (mFn (ap 4 G_law_draw) (mCons (mVar 0) (mCons (mVar 1) (mCons (m2 gAdd (mVar 2) (mC (.int 26))) (mCons (mC (.int 1000000)) mNil))))))) (sRet (mFn gTup (mCons (mFn (ap 3 G_law_sum) (mCons (mVar 0) (mCons (mVar 1) (mCons (mVar 2) mNil)))) (mCons (m2 gMul (mVar 3) (m2 gSub (mC (.int 1)) (m2 gMul (mC (.int 2)) (mFn (ap 4 G_law_draw) (mCons (mVar 0) (mCons (mVar 1) (mCons (m2 gAdd (mVar 2) (mC (.int 27))) (mCons (mC (.int 2)) mNil)))))))) mNil)))))
theorem ok_law_pair {f : Addr} {fd : FuncData} {f_law_draw : Addr} {fd_law_draw : FuncData} {G_law_draw : List D → Option D} {f_law_sum : Addr} {fd_law_sum : FuncData} {G_law_sum : List D → Option D} (F : Fun K "_law_pair" "_law_pair" s_law_pair f fd) (B : Blt mg) (F_law_draw : FnG P w K mg base CA0 2 f_law_draw fd_law_draw ["script", "at", "k", "size"] (spD K 4 G_law_draw)) (C_law_draw : Cal K mg "_law_draw" f_law_draw fd_law_draw ["script", "at", "k", "size"]) (F_law_sum : FnG P w K mg base CA0 4 f_law_sum fd_law_sum ["script", "at", "k"] (spD K 3 G_law_sum)) (C_law_sum : Cal K mg "_law_sum" f_law_sum fd_law_sum ["script", "at", "k"]) :
    FnG P w K mg base CA0 5 f fd ["script", "at", "k"] (spD K 3 (mean 3 1 (m_law_pair G_law_draw G_law_sum))) :=
  def_D F sc_law_pair rfl rfl fun pn A outer s H E cdv hc hr =>
    (ss_cons (s_asg (i := 3) sc_law_pair.nd (d_add d_int (d_call F_law_draw rfl (hr.mono (by decide)) hc C_law_draw.gl C_law_draw.kp C_law_draw.bi (a_cons (d_var 0) (a_cons (d_var 1) (a_cons (d_add (d_var 2) d_int) (a_cons d_int a_nil))))))) (ss_one (s_ret (d_tup (a_cons (d_call F_law_sum rfl (hr.mono (by decide)) hc C_law_sum.gl C_law_sum.kp C_law_sum.bi (a_cons (d_var 0) (a_cons (d_var 1) (a_cons (d_var 2) a_nil)))) (a_cons (d_mul (d_var 3) (d_sub d_int (d_mul d_int (d_call F_law_draw rfl (hr.mono (by decide)) hc C_law_draw.gl C_law_draw.kp C_law_draw.bi (a_cons (d_var 0) (a_cons (d_var 1) (a_cons (d_add (d_var 2) d_int) (a_cons d_int a_nil)))))))) a_nil))))))
abbrev s_law_item : Stmt := topS 38
theorem sc_law_item : FnScope ["script", "at", "word", "asked", "first", "second", "third", "items"] ["script", "at"] (defScope s_law_item) := ⟨rfl, rfl, rfl, by decide +kernel, rfl, by decide +kernel, by decide +kernel⟩
def m_law_item (G_law_words : List D → Option D) (G_law_sum : List D → Option D) (G_law_count : List D → Option D) (G_law_draw : List D → Option D) : SS :=
  (sSeq (sAsg 2 (mFn (ap 3 G_law_words) (mCons (mVar 0) (mCons (mVar 1) (mCons (mC (.int 1)) mNil))))) (sSeq (sAsg 3 (mFn (ap 3 G_law_sum) (mCons (mVar 0) (mCons (mVar 1) (mCons (mC (.int 21)) mNil))))) (sSeq (sAsg 4 (mFn (ap 3 G_law_count) (mCons (mVar 0) (mCons (mVar 1) (mCons (mC (.int 47)) mNil))))) (sSeq (sAsg 5 (mFn (ap 3 G_law_count) (mCons (mVar 0) (mCons (mVar 1) (mCons (mC (.int 50)) mNil))))) (sSeq (sAsg 6 (mFn (ap 3 G_law_count) (mCons (mVar 0) (mCons (mVar 1) (mCons (mC (.int 53)) mNil))))) (sSeq (sAsg 7 (mFn gLst (mCons (mFn gTup (mCons (mC (.str "count")) (mCons (mVar 2) (mCons (mVar 4) (mCons (mVar 5) (mCons (mVar 6) mNil)))))) (mCons (mFn gTup (mCons (mC (.str "close")) (mCons (mVar 2) (mCons (mVar 4) (mCons (mVar 5) mNil))))) (mCons (mFn gTup (mCons (mC (.str "total")) (mCons (mVar 3) (mCons (mVar 4) (mCons (mVar 5) mNil))))) mNil))))) (sSeq (sAsg 7 (m2 gAdd (mVar 7) (mFn gLst (mCons (mFn gTup (mCons (mC (.str "row")) (mCons (mVar 2) (mCons (mVar 4) (mCons (mVar 5) (mCons (m2 gIx (mVar 3) (mC (.int 0))) mNil)))))) (mCons (mFn gTup (mCons (mC (.str "rows")) (mCons (mVar 2) (mCons (mVar 4) (mCons (mFn gTup (mCons (mVar 5) (mCons (mVar 6) mNil))) mNil))))) mNil))))) (sRet (m2 gIx (mVar 7) (mFn (ap 4 G_law_draw) (mCons (mVar 0) (mCons (mVar 1) (mCons (mC (.int 0)) (mCons (mC (.int 5)) mNil))))))))))))))
theorem ok_law_item {f : Addr} {fd : FuncData} {f_law_words : Addr} {fd_law_words : FuncData} {G_law_words : List D → Option D} {f_law_sum : Addr} {fd_law_sum : FuncData} {G_law_sum : List D → Option D} {f_law_count : Addr} {fd_law_count : FuncData} {G_law_count : List D → Option D} {f_law_draw : Addr} {fd_law_draw : FuncData} {G_law_draw : List D → Option D} (F : Fun K "_law_item" "_law_item" s_law_item f fd) (B : Blt mg) (F_law_words : FnG P w K mg base CA0 3 f_law_words fd_law_words ["script", "at", "k"] (spD K 3 G_law_words)) (C_law_words : Cal K mg "_law_words" f_law_words fd_law_words ["script", "at", "k"]) (F_law_sum : FnG P w K mg base CA0 4 f_law_sum fd_law_sum ["script", "at", "k"] (spD K 3 G_law_sum)) (C_law_sum : Cal K mg "_law_sum" f_law_sum fd_law_sum ["script", "at", "k"]) (F_law_count : FnG P w K mg base CA0 3 f_law_count fd_law_count ["script", "at", "k"] (spD K 3 G_law_count)) (C_law_count : Cal K mg "_law_count" f_law_count fd_law_count ["script", "at", "k"]) (F_law_draw : FnG P w K mg base CA0 2 f_law_draw fd_law_draw ["script", "at", "k", "size"] (spD K 4 G_law_draw)) (C_law_draw : Cal K mg "_law_draw" f_law_draw fd_law_draw ["script", "at", "k", "size"]) :
    FnG P w K mg base CA0 5 f fd ["script", "at"] (spD K 2 (mean 2 6 (m_law_item G_law_words G_law_sum G_law_count G_law_draw))) :=
  def_D F sc_law_item rfl rfl fun pn A outer s H E cdv hc hr =>
    (ss_cons (s_asg (i := 2) sc_law_item.nd (d_call F_law_words rfl (hr.mono (by decide)) hc C_law_words.gl C_law_words.kp C_law_words.bi (a_cons (d_var 0) (a_cons (d_var 1) (a_cons d_int a_nil))))) (ss_cons (s_asg (i := 3) sc_law_item.nd (d_call F_law_sum rfl (hr.mono (by decide)) hc C_law_sum.gl C_law_sum.kp C_law_sum.bi (a_cons (d_var 0) (a_cons (d_var 1) (a_cons d_int a_nil))))) (ss_cons (s_asg (i := 4) sc_law_item.nd (d_call F_law_count rfl (hr.mono (by decide)) hc C_law_count.gl C_law_count.kp C_law_count.bi (a_cons (d_var 0) (a_cons (d_var 1) (a_cons d_int a_nil))))) (ss_cons (s_asg (i := 5) sc_law_item.nd (d_call F_law_count rfl (hr.mono (by decide)) hc C_law_count.gl C_law_count.kp C_law_count.bi (a_cons (d_var 0) (a_cons (d_var 1) (a_cons d_int a_nil))))) (ss_cons (s_asg (i := 6) sc_law_item.nd (d_call F_law_count rfl (hr.mono (by decide)) hc C_law_count.gl C_law_count.kp C_law_count.bi (a_cons (d_var 0) (a_cons (d_var 1) (a_cons d_int a_nil))))) (ss_cons (s_asg (i := 7) sc_law_item.nd (d_lst (a_cons (d_tup (a_cons d_str (a_cons (d_var 2) (a_cons (d_var 4) (a_cons (d_var 5) (a_cons (d_var 6) a_nil)))))) (a_cons (d_tup (a_cons d_str (a_cons (d_var 2) (a_cons (d_var 4) (a_cons (d_var 5) a_nil))))) (a_cons (d_tup (a_cons d_str (a_cons (d_var 3) (a_cons (d_var 4) (a_cons (d_var 5) a_nil))))) a_nil))))) (ss_cons (s_asg (i := 7) sc_law_item.nd (d_add (d_var 7) (d_lst (a_cons (d_tup (a_cons d_str (a_cons (d_var 2) (a_cons (d_var 4) (a_cons (d_var 5) (a_cons (d_ix (d_var 3) d_int (fun _ _ => rfl)) a_nil)))))) (a_cons (d_tup (a_cons d_str (a_cons (d_var 2) (a_cons (d_var 4) (a_cons (d_tup (a_cons (d_var 5) (a_cons (d_var 6) a_nil))) a_nil))))) a_nil))))) (ss_one (s_ret (d_ix (d_var 7) (d_call F_law_draw rfl (hr.mono (by decide)) hc C_law_draw.gl C_law_draw.kp C_law_draw.bi (a_cons (d_var 0) (a_cons (d_var 1) (a_cons d_int (a_cons d_int a_nil))))) (fun _ _ => rfl)))))))))))
abbrev s_law_part : Stmt := topS 39
theorem sc_law_part : FnScope ["script", "at", "sign", "asked", "first", "second", "third", "parts"] ["script", "at"] (defScope s_law_part) := ⟨rfl, rfl, rfl, by decide +kernel, rfl, by decide +kernel, by decide +kernel⟩
def m_law_part (G_law_draw : List D → Option D) (G_law_sum : List D → Option D) (G_law_count : List D → Option D) : SS :=
  (sSeq (sAsg 2 (m2 gIx (mFn gLst (mCons (mC (.str "<=")) (mCons (mC (.str ">=")) (mCons (mC (.str "=")) mNil)))) (mFn (ap 4 G_law_draw) (mCons (mVar 0) (mCons (mVar 1) (mCons (mC (.int 1)) (mCons (mC (.int 3)) mNil))))))) (sSeq (sAsg 3 (mFn (ap 3 G_law_sum) (mCons (mVar 0) (mCons (mVar 1) (mCons (mC (.int 21)) mNil))))) (sSeq (sAsg 4 (mFn (ap 3 G_law_count) (mCons (mVar 0) (mCons (mVar 1) (mCons (mC (.int 47)) mNil))))) (sSeq (sAsg 5 (mFn (ap 3 G_law_count) (mCons (mVar 0) (mCons (mVar 1) (mCons (mC (.int 50)) mNil))))) (sSeq (sAsg 6 (mFn (ap 3 G_law_count) (mCons (mVar 0) (mCons (mVar 1) (mCons (mC (.int 53)) mNil))))) (sSeq (sAsg 7 (mFn gLst (mCons (mFn gTup (mCons (mC (.str "is")) (mCons (mVar 3) (mCons (mVar 2) (mCons (mVar 4) mNil))))) (mCons (mFn gTup (mCons (mC (.str "some")) (mCons (m2 gIx (mVar 3) (mC (.int 0))) (mCons (mVar 4) (mCons (mVar 5) (mCons (mVar 6) (mCons (mVar 2) (mCons (mVar 4) mNil)))))))) mNil)))) (sSeq (sAsg 7 (m2 gAdd (mVar 7) (mFn gLst (mCons (mFn gTup (mCons (mC (.str "row")) (mCons (mVar 5) (mCons (m2 gIx (mVar 3) (mC (.int 0))) (mCons (mVar 4) (mCons (mVar 5) (mCons (mVar 6) (mCons (mVar 2) (mCons (mVar 4) mNil))))))))) (mCons (mFn gTup (mCons (mC (.str "not")) (mCons (mFn gTup (mCons (mC (.str "is")) (mCons (mVar 3) (mCons (mVar 2) (mCons (mVar 6) mNil))))) mNil))) mNil))))) (sRet (m2 gIx (mVar 7) (mFn (ap 4 G_law_draw) (mCons (mVar 0) (mCons (mVar 1) (mCons (mC (.int 0)) (mCons (mC (.int 4)) mNil))))))))))))))
theorem ok_law_part {f : Addr} {fd : FuncData} {f_law_draw : Addr} {fd_law_draw : FuncData} {G_law_draw : List D → Option D} {f_law_sum : Addr} {fd_law_sum : FuncData} {G_law_sum : List D → Option D} {f_law_count : Addr} {fd_law_count : FuncData} {G_law_count : List D → Option D} (F : Fun K "_law_part" "_law_part" s_law_part f fd) (B : Blt mg) (F_law_draw : FnG P w K mg base CA0 2 f_law_draw fd_law_draw ["script", "at", "k", "size"] (spD K 4 G_law_draw)) (C_law_draw : Cal K mg "_law_draw" f_law_draw fd_law_draw ["script", "at", "k", "size"]) (F_law_sum : FnG P w K mg base CA0 4 f_law_sum fd_law_sum ["script", "at", "k"] (spD K 3 G_law_sum)) (C_law_sum : Cal K mg "_law_sum" f_law_sum fd_law_sum ["script", "at", "k"]) (F_law_count : FnG P w K mg base CA0 3 f_law_count fd_law_count ["script", "at", "k"] (spD K 3 G_law_count)) (C_law_count : Cal K mg "_law_count" f_law_count fd_law_count ["script", "at", "k"]) :
    FnG P w K mg base CA0 5 f fd ["script", "at"] (spD K 2 (mean 2 6 (m_law_part G_law_draw G_law_sum G_law_count))) :=
  def_D F sc_law_part rfl rfl fun pn A outer s H E cdv hc hr =>
    (ss_cons (s_asg (i := 2) sc_law_part.nd (d_ix (d_lst (a_cons d_str (a_cons d_str (a_cons d_str a_nil)))) (d_call F_law_draw rfl (hr.mono (by decide)) hc C_law_draw.gl C_law_draw.kp C_law_draw.bi (a_cons (d_var 0) (a_cons (d_var 1) (a_cons d_int (a_cons d_int a_nil))))) (fun _ _ => rfl))) (ss_cons (s_asg (i := 3) sc_law_part.nd (d_call F_law_sum rfl (hr.mono (by decide)) hc C_law_sum.gl C_law_sum.kp C_law_sum.bi (a_cons (d_var 0) (a_cons (d_var 1) (a_cons d_int a_nil))))) (ss_cons (s_asg (i := 4) sc_law_part.nd (d_call F_law_count rfl (hr.mono (by decide)) hc C_law_count.gl C_law_count.kp C_law_count.bi (a_cons (d_var 0) (a_cons (d_var 1) (a_cons d_int a_nil))))) (ss_cons (s_asg (i := 5) sc_law_part.nd (d_call F_law_count rfl (hr.mono (by decide)) hc C_law_count.gl C_law_count.kp C_law_count.bi (a_cons (d_var 0) (a_cons (d_var 1) (a_cons d_int a_nil))))) (ss_cons (s_asg (i := 6) sc_law_part.nd (d_call F_law_count rfl (hr.mono (by decide)) hc C_law_count.gl C_law_count.kp C_law_count.bi (a_cons (d_var 0) (a_cons (d_var 1) (a_cons d_int a_nil))))) (ss_cons (s_asg (i := 7) sc_law_part.nd (d_lst (a_cons (d_tup (a_cons d_str (a_cons (d_var 3) (a_cons (d_var 2) (a_cons (d_var 4) a_nil))))) (a_cons (d_tup (a_cons d_str (a_cons (d_ix (d_var 3) d_int (fun _ _ => rfl)) (a_cons (d_var 4) (a_cons (d_var 5) (a_cons (d_var 6) (a_cons (d_var 2) (a_cons (d_var 4) a_nil)))))))) a_nil)))) (ss_cons (s_asg (i := 7) sc_law_part.nd (d_add (d_var 7) (d_lst (a_cons (d_tup (a_cons d_str (a_cons (d_var 5) (a_cons (d_ix (d_var 3) d_int (fun _ _ => rfl)) (a_cons (d_var 4) (a_cons (d_var 5) (a_cons (d_var 6) (a_cons (d_var 2) (a_cons (d_var 4) a_nil))))))))) (a_cons (d_tup (a_cons d_str (a_cons (d_tup (a_cons d_str (a_cons (d_var 3) (a_cons (d_var 2) (a_cons (d_var 6) a_nil))))) a_nil))) a_nil))))) (ss_one (s_ret (d_ix (d_var 7) (d_call F_law_draw rfl (hr.mono (by decide)) hc C_law_draw.gl C_law_draw.kp C_law_draw.bi (a_cons (d_var 0) (a_cons (d_var 1) (a_cons d_int (a_cons d_int a_nil))))) (fun _ _ => rfl)))))))))))
abbrev s_law_arguments : Stmt := topS 40
theorem sc_law_arguments : FnScope ["script", "at", "kind", "k"] ["script", "at", "kind"] (defScope s_law_arguments) := ⟨rfl, rfl, rfl, by decide +kernel, rfl, by decide +kernel, by decide +kernel⟩
def m_law_arguments (G_law_words : List D → Option D) (G_law_sum : List D → Option D) (G_law_draw : List D → Option D) (G_law_step : List D → Option D) (G_law_pair : List D → Option D) (G_law_count : List D → Option D) (G_law_item : List D → Option D) (G_law_part : List D → Option D) : SS :=
  (sSeq (sIf (mOr (mB (m2 gEq (mVar 2) (mC (.int 0)))) (mB (m2 gEq (mVar 2) (mC (.int 3))))) (sRet (mFn gLst (mCons (mFn (ap 3 G_law_words) (mCons (mVar 0) (mCons (mVar 1) (mCons (mC (.int 0)) mNil)))) mNil))) sNext) (sSeq (sIf (mOr (mB (m2 gEq (mVar 2) (mC (.int 2)))) (mB (m2 gEq (mVar 2) (mC (.int 25))))) (sRet (mFn gLst (mCons (mFn (ap 3 G_law_sum) (mCons (mVar 0) (mCons (mVar 1) (mCons (mC (.int 0)) mNil)))) mNil))) sNext) (sSeq (sIf (mB (m2 gEq (mVar 2) (mC (.int 5)))) (sRet (mFn gLst (mCons (mLc 3 (mRng (mCons (mFn (ap 4 G_law_draw) (mCons (mVar 0) (mCons (mVar 1) (mCons (mC (.int 0)) (mCons (mC (.int 5)) mNil))))) mNil)) (mFn (ap 3 G_law_step) (mCons (mVar 0) (mCons (mVar 1) (mCons (m2 gAdd (mC (.int 1)) (m2 gMul (mC (.int 2)) (mVar 3))) mNil))))) mNil))) sNext) (sSeq (sIf (mB (m2 gEq (mVar 2) (mC (.int 7)))) (sRet (mFn gLst (mCons (mLc 3 (mRng (mCons (mFn (ap 4 G_law_draw) (mCons (mVar 0) (mCons (mVar 1) (mCons (mC (.int 0)) (mCons (mC (.int 5)) mNil))))) mNil)) (mFn (ap 3 G_law_pair) (mCons (mVar 0) (mCons (mVar 1) (mCons (m2 gAdd (mC (.int 1)) (m2 gMul (mC (.int 30)) (mVar 3))) mNil))))) mNil))) sNext) (sSeq (sIf (mB (m2 gEq (mVar 2) (mC (.int 8)))) (sRet (mFn gLst (mCons (mFn (ap 3 G_law_count) (mCons (mVar 0) (mCons (mVar 1) (mCons (mC (.int 0)) mNil)))) (mCons (mFn (ap 3 G_law_count) (mCons (mVar 0) (mCons (mVar 1) (mCons (mC (.int 3)) mNil)))) mNil)))) sNext) (sSeq (sIf (mB (m2 gEq (mVar 2) (mC (.int 13)))) (sRet (mFn gLst (mCons (mFn (ap 2 G_law_item) (mCons (mVar 0) (mCons (mVar 1) mNil))) mNil))) sNext) (sSeq (sIf (mB (m2 gEq (mVar 2) (mC (.int 15)))) (sRet (mFn gLst (mCons (mFn (ap 2 G_law_part) (mCons (mVar 0) (mCons (mVar 1) mNil))) mNil))) sNext) (sSeq (sIf (mB (m2 gIn (mVar 2) (mFn gLst (mCons (mC (.int 10)) (mCons (mC (.int 11)) (mCons (mC (.int 14)) (mCons (mC (.int 16)) (mCons (mC (.int 17)) (mCons (mC (.int 20)) (mCons (mC (.int 21)) mNil)))))))))) (sRet (mFn gLst (mCons (mFn (ap 3 G_law_count) (mCons (mVar 0) (mCons (mVar 1) (mCons (mC (.int 0)) mNil)))) mNil))) sNext) (sRet (mFn gLst mNil))))))))))
theorem ok_law_arguments {f : Addr} {fd : FuncData} {f_law_words : Addr} {fd_law_words : FuncData} {G_law_words : List D → Option D} {f_law_sum : Addr} {fd_law_sum : FuncData} {G_law_sum : List D → Option D} {f_law_draw : Addr} {fd_law_draw : FuncData} {G_law_draw : List D → Option D} {f_law_step : Addr} {fd_law_step : FuncData} {G_law_step : List D → Option D} {f_law_pair : Addr} {fd_law_pair : FuncData} {G_law_pair : List D → Option D} {f_law_count : Addr} {fd_law_count : FuncData} {G_law_count : List D → Option D} {f_law_item : Addr} {fd_law_item : FuncData} {G_law_item : List D → Option D} {f_law_part : Addr} {fd_law_part : FuncData} {G_law_part : List D → Option D} (F : Fun K "_law_arguments" "_law_arguments" s_law_arguments f fd) (B : Blt mg) (F_law_words : FnG P w K mg base CA0 3 f_law_words fd_law_words ["script", "at", "k"] (spD K 3 G_law_words)) (C_law_words : Cal K mg "_law_words" f_law_words fd_law_words ["script", "at", "k"]) (F_law_sum : FnG P w K mg base CA0 4 f_law_sum fd_law_sum ["script", "at", "k"] (spD K 3 G_law_sum)) (C_law_sum : Cal K mg "_law_sum" f_law_sum fd_law_sum ["script", "at", "k"]) (F_law_draw : FnG P w K mg base CA0 2 f_law_draw fd_law_draw ["script", "at", "k", "size"] (spD K 4 G_law_draw)) (C_law_draw : Cal K mg "_law_draw" f_law_draw fd_law_draw ["script", "at", "k", "size"]) (F_law_step : FnG P w K mg base CA0 3 f_law_step fd_law_step ["script", "at", "k"] (spD K 3 G_law_step)) (C_law_step : Cal K mg "_law_step" f_law_step fd_law_step ["script", "at", "k"]) (F_law_pair : FnG P w K mg base CA0 5 f_law_pair fd_law_pair ["script", "at", "k"] (spD K 3 G_law_pair)) (C_law_pair : Cal K mg "_law_pair" f_law_pair fd_law_pair ["script", "at", "k"]) (F_law_count : FnG P w K mg base CA0 3 f_law_count fd_law_count ["script", "at", "k"] (spD K 3 G_law_count)) (C_law_count : Cal K mg "_law_count" f_law_count fd_law_count ["script", "at", "k"]) (F_law_item : FnG P w K mg base CA0 5 f_law_item fd_law_item ["script", "at"] (spD K 2 G_law_item)) (C_law_item : Cal K mg "_law_item" f_law_item fd_law_item ["script", "at"]) (F_law_part : FnG P w K mg base CA0 5 f_law_part fd_law_part ["script", "at"] (spD K 2 G_law_part)) (C_law_part : Cal K mg "_law_part" f_law_part fd_law_part ["script", "at"]) :
    FnG P w K mg base CA0 6 f fd ["script", "at", "kind"] (spD K 3 (mean 3 1 (m_law_arguments G_law_words G_law_sum G_law_draw G_law_step G_law_pair G_law_count G_law_item G_law_part))) :=
  def_D F sc_law_arguments rfl rfl fun pn A outer s H E cdv hc hr =>
    (ss_cons (s_if (PW.pt (t_or (t_cmp c_eq (d_var 2) d_int rfl) (pw_or1 (t_cmp c_eq (d_var 2) d_int rfl)))) (ss_one (s_ret (d_lst (a_cons (d_call F_law_words rfl (hr.mono (by decide)) hc C_law_words.gl C_law_words.kp C_law_words.bi (a_cons (d_var 0) (a_cons (d_var 1) (a_cons d_int a_nil)))) a_nil)))) ss_nil) (ss_cons (s_if (PW.pt (t_or (t_cmp c_eq (d_var 2) d_int rfl) (pw_or1 (t_cmp c_eq (d_var 2) d_int rfl)))) (ss_one (s_ret (d_lst (a_cons (d_call F_law_sum rfl (hr.mono (by decide)) hc C_law_sum.gl C_law_sum.kp C_law_sum.bi (a_cons (d_var 0) (a_cons (d_var 1) (a_cons d_int a_nil)))) a_nil)))) ss_nil) (ss_cons (s_if (t_cmp c_eq (d_var 2) d_int rfl) (ss_one (s_ret (d_lst (a_cons (d_lc (x := "k") (i := 3) hc sc_law_arguments.nd (i_range B.b_range (a_cons (d_call F_law_draw rfl (hr.mono (by decide)) hc C_law_draw.gl C_law_draw.kp C_law_draw.bi (a_cons (d_var 0) (a_cons (d_var 1) (a_cons d_int (a_cons d_int a_nil))))) a_nil)) (blkOk_by (N := ["script", "at", "kind", "k"]) (sc := defScope s_law_arguments) (by decide +kernel)) (fun _ _ _ _ _ => pg_name (i := 3) sc_law_arguments.nd rfl (Or.inl rfl)) (fun _ _ _ _ _ => (d_call F_law_step rfl (hr.mono (by decide)) hc C_law_step.gl C_law_step.kp C_law_step.bi (a_cons (d_var 0) (a_cons (d_var 1) (a_cons (d_add d_int (d_mul d_int (d_var 3))) a_nil)))))) a_nil)))) ss_nil) (ss_cons (s_if (t_cmp c_eq (d_var 2) d_int rfl) (ss_one (s_ret (d_lst (a_cons (d_lc (x := "k") (i := 3) hc sc_law_arguments.nd (i_range B.b_range (a_cons (d_call F_law_draw rfl (hr.mono (by decide)) hc C_law_draw.gl C_law_draw.kp C_law_draw.bi (a_cons (d_var 0) (a_cons (d_var 1) (a_cons d_int (a_cons d_int a_nil))))) a_nil)) (blkOk_by (N := ["script", "at", "kind", "k"]) (sc := defScope s_law_arguments) (by decide +kernel)) (fun _ _ _ _ _ => pg_name (i := 3) sc_law_arguments.nd rfl (Or.inl rfl)) (fun _ _ _ _ _ => (d_call F_law_pair rfl (hr.mono (by decide)) hc C_law_pair.gl C_law_pair.kp C_law_pair.bi (a_cons (d_var 0) (a_cons (d_var 1) (a_cons (d_add d_int (d_mul d_int (d_var 3))) a_nil)))))) a_nil)))) ss_nil) (ss_cons (s_if (t_cmp c_eq (d_var 2) d_int rfl) (ss_one (s_ret (d_lst (a_cons (d_call F_law_count rfl (hr.mono (by decide)) hc C_law_count.gl C_law_count.kp C_law_count.bi (a_cons (d_var 0) (a_cons (d_var 1) (a_cons d_int a_nil)))) (a_cons (d_call F_law_count rfl (hr.mono (by decide)) hc C_law_count.gl C_law_count.kp C_law_count.bi (a_cons (d_var 0) (a_cons (d_var 1) (a_cons d_int a_nil)))) a_nil))))) ss_nil) (ss_cons (s_if (t_cmp c_eq (d_var 2) d_int rfl) (ss_one (s_ret (d_lst (a_cons (d_call F_law_item rfl (hr.mono (by decide)) hc C_law_item.gl C_law_item.kp C_law_item.bi (a_cons (d_var 0) (a_cons (d_var 1) a_nil))) a_nil)))) ss_nil) (ss_cons (s_if (t_cmp c_eq (d_var 2) d_int rfl) (ss_one (s_ret (d_lst (a_cons (d_call F_law_part rfl (hr.mono (by decide)) hc C_law_part.gl C_law_part.kp C_law_part.bi (a_cons (d_var 0) (a_cons (d_var 1) a_nil))) a_nil)))) ss_nil) (ss_cons (s_if (t_cmp c_in (d_var 2) (d_lst (a_cons d_int (a_cons d_int (a_cons d_int (a_cons d_int (a_cons d_int (a_cons d_int (a_cons d_int a_nil)))))))) rfl) (ss_one (s_ret (d_lst (a_cons (d_call F_law_count rfl (hr.mono (by decide)) hc C_law_count.gl C_law_count.kp C_law_count.bi (a_cons (d_var 0) (a_cons (d_var 1) (a_cons d_int a_nil)))) a_nil)))) ss_nil) (ss_one (s_ret (d_lst a_nil)))))))))))
abbrev s_law_same : Stmt := topS 32
theorem sc_law_same : FnScope ["told", "due", "right", "k"] ["told", "due"] (defScope s_law_same) := ⟨rfl, rfl, rfl, by decide +kernel, rfl, by decide +kernel, by decide +kernel⟩
def m_law_same (G_law_same : List D → Option D) : SS :=
  (sSeq (sIf (mOr (mB (mIsi "list" (mVar 1))) (mB (mIsi "tuple" (mVar 1)))) (sSeq (sAsg 2 (mIsi "tuple" (mVar 0))) (sSeq (sIf (mB (mIsi "list" (mVar 1))) (sAsg 2 (mIsi "list" (mVar 0))) sNext) (sSeq (sIf (mOr (mNot (mB (mVar 2))) (mB (m2 gNe (mFn gLen (mCons (mVar 0) mNil)) (mFn gLen (mCons (mVar 1) mNil))))) (sRet (mC (.bl false))) sNext) (sSeq (sFor 3 (mRng (mCons (mFn gLen (mCons (mVar 1) mNil)) mNil)) (sIf (mNot (mB (mFn (ap 2 G_law_same) (mCons (m2 gIx (mVar 0) (mVar 3)) (mCons (m2 gIx (mVar 1) (mVar 3)) mNil))))) (sRet (mC (.bl false))) sNext)) (sRet (mC (.bl true))))))) sNext) (sSeq (sIf (mB (mIsN (mVar 1))) (sRet (mIsN (mVar 0))) sNext) (sSeq (sIf (mB (mIsi "bool" (mVar 1))) (sRet (mV (mAnd (mB (mIsi "bool" (mVar 0))) (mB (m2 gEq (mVar 0) (mVar 1)))))) sNext) (sSeq (sIf (mB (mIsi "int" (mVar 1))) (sRet (mV (mAnd (mB (mIsi "int" (mVar 0))) (mAnd (mB (mV (mNot (mB (mIsi "bool" (mVar 0)))))) (mB (m2 gEq (mVar 0) (mVar 1))))))) sNext) (sRet (mV (mAnd (mB (mIsi "str" (mVar 0))) (mB (m2 gEq (mVar 0) (mVar 1))))))))))
theorem ok_law_same {f : Addr} {fd : FuncData} {kk : Nat} {f_law_same : Addr} {fd_law_same : FuncData} {G_law_same : List D → Option D} (F : Fun K "_law_same" "_law_same" s_law_same f fd) (B : Blt mg) (F_law_same : FnG P w K mg base CA0 kk f_law_same fd_law_same ["told", "due"] (spD K 2 G_law_same)) (C_law_same : Cal K mg "_law_same" f_law_same fd_law_same ["told", "due"]) :
    FnG P w K mg base CA0 (max 0 kk + 1) f fd ["told", "due"] (spD K 2 (mean 2 2 (m_law_same G_law_same))) :=
  def_D F sc_law_same rfl rfl fun pn A outer s H E cdv hc hr =>
    (ss_cons (s_if (PW.pt (t_or (t_val (d_isi "list" (by decide) B.b_isinstance B.b_list (by decide +kernel) (d_var 1))) (pw_or1 (t_val (d_isi "tuple" (by decide) B.b_isinstance B.b_tuple (by decide +kernel) (d_var 1)))))) (ss_cons (s_asg (i := 2) sc_law_same.nd (d_isi "tuple" (by decide) B.b_isinstance B.b_tuple (by decide +kernel) (d_var 0))) (ss_cons (s_if (t_val (d_isi "list" (by decide) B.b_isinstance B.b_list (by decide +kernel) (d_var 1))) (ss_one (s_asg (i := 2) sc_law_same.nd (d_isi "list" (by decide) B.b_isinstance B.b_list (by decide +kernel) (d_var 0)))) ss_nil) (ss_cons (s_if (PW.pt (t_or (t_not (t_val (d_var 2))) (pw_or1 (t_cmp c_ne (d_len B.b_len (a_cons (d_var 0) a_nil)) (d_len B.b_len (a_cons (d_var 1) a_nil)) rfl)))) (ss_one (s_ret d_bl)) ss_nil) (ss_cons (s_for (i := 3) PassesOwn.leaving hc sc_law_same.nd (i_range B.b_range (a_cons (d_len B.b_len (a_cons (d_var 1) a_nil)) a_nil)) (ss_one (s_if (t_not (t_val (d_call F_law_same rfl (hr.mono (Nat.le_max_right _ _)) hc C_law_same.gl C_law_same.kp C_law_same.bi (a_cons (d_ix (d_var 0) (d_var 3) (fun _ _ => rfl)) (a_cons (d_ix (d_var 1) (d_var 3) (fun _ _ => rfl)) a_nil))))) (ss_one (s_ret d_bl)) ss_nil))) (ss_one (s_ret d_bl)))))) ss_nil) (ss_cons (s_if (t_isN (d_var 1)) (ss_one (s_ret (d_isN (d_var 0)))) ss_nil) (ss_cons (s_if (t_val (d_isi "bool" (by decide) B.b_isinstance B.b_bool (by decide +kernel) (d_var 1))) (ss_one (s_ret (d_and (d_isi "bool" (by decide) B.b_isinstance B.b_bool (by decide +kernel) (d_var 0)) (d_one (d_eq (d_var 0) (d_var 1) rfl))))) ss_nil) (ss_cons (s_if (t_val (d_isi "int" (by decide) B.b_isinstance B.b_int (by decide +kernel) (d_var 1))) (ss_one (s_ret (d_and (d_isi "int" (by decide) B.b_isinstance B.b_int (by decide +kernel) (d_var 0)) (d_and (d_not (d_isi "bool" (by decide) B.b_isinstance B.b_bool (by decide +kernel) (d_var 0))) (d_one (d_eq (d_var 0) (d_var 1) rfl)))))) ss_nil) (ss_one (s_ret (d_and (d_isi "str" (by decide) B.b_isinstance B.b_str (by decide +kernel) (d_var 0)) (d_one (d_eq (d_var 0) (d_var 1) rfl)))))))))
end
end K23
namespace K23
open PySem PySem.Spec PyProof.Rows L2 DL
open L2H (RoomH PinOk)
/-- an error class without an __init__ of its own -/
structure PTxt (K : PySem.W.Frag) (mg : Str → Option Value) (x : Str) (C : Addr) : Prop where
  gC : mg x = some (.ref C)
  q : PySem.W.excIn K C [.type "ValueError", .type "Exception", .type "BaseException", .type "object"] "ValueError.__new__" = true
  kC : PySem.W.keepIn K (.ref C) = true
  exC : PySem.W.subIn K (.ref C) (.type "BaseException") = some true
  tyC : PySem.W.typeIn K (.ref C) = some (.type "type")
theorem xd_0 : XDef (L2.inClass (topS 2) 0) ["name"] where
  body := ⟨_, _, _, _, _, _, _, _, [("name", _, _, _, _)], rfl, rfl, fun _ _ _ _ _ => ⟨_, rfl⟩, fun _ _ _ _ _ => rfl, fun z hz => by
    simp only [List.mem_cons, List.not_mem_nil, or_false] at hz
    subst hz
    exact fun _ _ _ _ _ => rfl⟩
  arg := ⟨_, rfl, rfl⟩
  ks := rfl
  kc := rfl
  ka := by decide +kernel
  kd := rfl
  inter := fun _ _ _ _ _ => rfl
  co := rfl
  gen := rfl
  cell := by decide +kernel
  nod := by decide
  bind := fun q kV doc pm an cdv ct cc s us hu => match us, hu with | [_, _], _ => .of_eq rfl
theorem xd_2 : XDef (L2.inClass (topS 4) 0) ["asked"] where
  body := ⟨_, _, _, _, _, _, _, _, [("asked", _, _, _, _)], rfl, rfl, fun _ _ _ _ _ => ⟨_, rfl⟩, fun _ _ _ _ _ => rfl, fun z hz => by
    simp only [List.mem_cons, List.not_mem_nil, or_false] at hz
    subst hz
    exact fun _ _ _ _ _ => rfl⟩
  arg := ⟨_, rfl, rfl⟩
  ks := rfl
  kc := rfl
  ka := by decide +kernel
  kd := rfl
  inter := fun _ _ _ _ _ => rfl
  co := rfl
  gen := rfl
  cell := by decide +kernel
  nod := by decide
  bind := fun q kV doc pm an cdv ct cc s us hu => match us, hu with | [_, _], _ => .of_eq rfl
theorem xd_3 : XDef (L2.inClass (topS 5) 0) ["text"] where
  body := ⟨_, _, _, _, _, _, _, _, [("text", _, _, _, _)], rfl, rfl, fun _ _ _ _ _ => ⟨_, rfl⟩, fun _ _ _ _ _ => rfl, fun z hz => by
    simp only [List.mem_cons, List.not_mem_nil, or_false] at hz
    subst hz
    exact fun _ _ _ _ _ => rfl⟩
  arg := ⟨_, rfl, rfl⟩
  ks := rfl
  kc := rfl
  ka := by decide +kernel
  kd := rfl
  inter := fun _ _ _ _ _ => rfl
  co := rfl
  gen := rfl
  cell := by decide +kernel
  nod := by decide
  bind := fun q kV doc pm an cdv ct cc s us hu => match us, hu with | [_, _], _ => .of_eq rfl
theorem xd_5 : XDef (L2.inClass (topS 7) 0) ["ring"] where
  body := ⟨_, _, _, _, _, _, _, _, [("ring", _, _, _, _)], rfl, rfl, fun _ _ _ _ _ => ⟨_, rfl⟩, fun _ _ _ _ _ => rfl, fun z hz => by
    simp only [List.mem_cons, List.not_mem_nil, or_false] at hz
    subst hz
    exact fun _ _ _ _ _ => rfl⟩
  arg := ⟨_, rfl, rfl⟩
  ks := rfl
  kc := rfl
  ka := by decide +kernel
  kd := rfl
  inter := fun _ _ _ _ _ => rfl
  co := rfl
  gen := rfl
  cell := by decide +kernel
  nod := by decide
  bind := fun q kV doc pm an cdv ct cc s us hu => match us, hu with | [_, _], _ => .of_eq rfl
theorem xd_7 : XDef (L2.inClass (topS 9) 0) ["balance"] where
  body := ⟨_, _, _, _, _, _, _, _, [("balance", _, _, _, _)], rfl, rfl, fun _ _ _ _ _ => ⟨_, rfl⟩, fun _ _ _ _ _ => rfl, fun z hz => by
    simp only [List.mem_cons, List.not_mem_nil, or_false] at hz
    subst hz
    exact fun _ _ _ _ _ => rfl⟩
  arg := ⟨_, rfl, rfl⟩
  ks := rfl
  kc := rfl
  ka := by decide +kernel
  kd := rfl
  inter := fun _ _ _ _ _ => rfl
  co := rfl
  gen := rfl
  cell := by decide +kernel
  nod := by decide
  bind := fun q kV doc pm an cdv ct cc s us hu => match us, hu with | [_, _], _ => .of_eq rfl
theorem xd_8 : XDef (L2.inClass (topS 10) 0) ["least", "greatest"] where
  body := ⟨_, _, _, _, _, _, _, _, [("least", _, _, _, _), ("greatest", _, _, _, _)], rfl, rfl, fun _ _ _ _ _ => ⟨_, rfl⟩, fun _ _ _ _ _ => rfl, fun z hz => by
    simp only [List.mem_cons, List.not_mem_nil, or_false] at hz
    rcases hz with hz | hz <;> (subst hz; exact fun _ _ _ _ _ => rfl)⟩
  arg := ⟨_, rfl, rfl⟩
  ks := rfl
  kc := rfl
  ka := by decide +kernel
  kd := rfl
  inter := fun _ _ _ _ _ => rfl
  co := rfl
  gen := rfl
  cell := by decide +kernel
  nod := by decide
  bind := fun q kV doc pm an cdv ct cc s us hu => match us, hu with | [_, _, _], _ => .of_eq rfl
theorem xd_10 : XDef (L2.inClass (topS 12) 0) ["number"] where
  body := ⟨_, _, _, _, _, _, _, _, [("number", _, _, _, _)], rfl, rfl, fun _ _ _ _ _ => ⟨_, rfl⟩, fun _ _ _ _ _ => rfl, fun z hz => by
    simp only [List.mem_cons, List.not_mem_nil, or_false] at hz
    subst hz
    exact fun _ _ _ _ _ => rfl⟩
  arg := ⟨_, rfl, rfl⟩
  ks := rfl
  kc := rfl
  ka := by decide +kernel
  kd := rfl
  inter := fun _ _ _ _ _ => rfl
  co := rfl
  gen := rfl
  cell := by decide +kernel
  nod := by decide
  bind := fun q kV doc pm an cdv ct cc s us hu => match us, hu with | [_, _], _ => .of_eq rfl
theorem xd_11 : XDef (L2.inClass (topS 13) 0) ["distance"] where
  body := ⟨_, _, _, _, _, _, _, _, [("distance", _, _, _, _)], rfl, rfl, fun _ _ _ _ _ => ⟨_, rfl⟩, fun _ _ _ _ _ => rfl, fun z hz => by
    simp only [List.mem_cons, List.not_mem_nil, or_false] at hz
    subst hz
    exact fun _ _ _ _ _ => rfl⟩
  arg := ⟨_, rfl, rfl⟩
  ks := rfl
  kc := rfl
  ka := by decide +kernel
  kd := rfl
  inter := fun _ _ _ _ _ => rfl
  co := rfl
  gen := rfl
  cell := by decide +kernel
  nod := by decide
  bind := fun q kV doc pm an cdv ct cc s us hu => match us, hu with | [_, _], _ => .of_eq rfl
theorem xd_13 : XDef (L2.inClass (topS 15) 0) ["item"] where
  body := ⟨_, _, _, _, _, _, _, _, [("item", _, _, _, _)], rfl, rfl, fun _ _ _ _ _ => ⟨_, rfl⟩, fun _ _ _ _ _ => rfl, fun z hz => by
    simp only [List.mem_cons, List.not_mem_nil, or_false] at hz
    subst hz
    exact fun _ _ _ _ _ => rfl⟩
  arg := ⟨_, rfl, rfl⟩
  ks := rfl
  kc := rfl
  ka := by decide +kernel
  kd := rfl
  inter := fun _ _ _ _ _ => rfl
  co := rfl
  gen := rfl
  cell := by decide +kernel
  nod := by decide
  bind := fun q kV doc pm an cdv ct cc s us hu => match us, hu with | [_, _], _ => .of_eq rfl
theorem xd_14 : XDef (L2.inClass (topS 16) 0) ["number"] where
  body := ⟨_, _, _, _, _, _, _, _, [("number", _, _, _, _)], rfl, rfl, fun _ _ _ _ _ => ⟨_, rfl⟩, fun _ _ _ _ _ => rfl, fun z hz => by
    simp only [List.mem_cons, List.not_mem_nil, or_false] at hz
    subst hz
    exact fun _ _ _ _ _ => rfl⟩
  arg := ⟨_, rfl, rfl⟩
  ks := rfl
  kc := rfl
  ka := by decide +kernel
  kd := rfl
  inter := fun _ _ _ _ _ => rfl
  co := rfl
  gen := rfl
  cell := by decide +kernel
  nod := by decide
  bind := fun q kV doc pm an cdv ct cc s us hu => match us, hu with | [_, _], _ => .of_eq rfl
theorem xd_15 : XDef (L2.inClass (topS 17) 0) ["part"] where
  body := ⟨_, _, _, _, _, _, _, _, [("part", _, _, _, _)], rfl, rfl, fun _ _ _ _ _ => ⟨_, rfl⟩, fun _ _ _ _ _ => rfl, fun z hz => by
    simp only [List.mem_cons, List.not_mem_nil, or_false] at hz
    subst hz
    exact fun _ _ _ _ _ => rfl⟩
  arg := ⟨_, rfl, rfl⟩
  ks := rfl
  kc := rfl
  ka := by decide +kernel
  kd := rfl
  inter := fun _ _ _ _ _ => rfl
  co := rfl
  gen := rfl
  cell := by decide +kernel
  nod := by decide
  bind := fun q kV doc pm an cdv ct cc s us hu => match us, hu with | [_, _], _ => .of_eq rfl
theorem xd_16 : XDef (L2.inClass (topS 18) 0) ["place"] where
  body := ⟨_, _, _, _, _, _, _, _, [("place", _, _, _, _)], rfl, rfl, fun _ _ _ _ _ => ⟨_, rfl⟩, fun _ _ _ _ _ => rfl, fun z hz => by
    simp only [List.mem_cons, List.not_mem_nil, or_false] at hz
    subst hz
    exact fun _ _ _ _ _ => rfl⟩
  arg := ⟨_, rfl, rfl⟩
  ks := rfl
  kc := rfl
  ka := by decide +kernel
  kd := rfl
  inter := fun _ _ _ _ _ => rfl
  co := rfl
  gen := rfl
  cell := by decide +kernel
  nod := by decide
  bind := fun q kV doc pm an cdv ct cc s us hu => match us, hu with | [_, _], _ => .of_eq rfl
theorem xd_17 : XDef (L2.inClass (topS 19) 0) ["many"] where
  body := ⟨_, _, _, _, _, _, _, _, [("many", _, _, _, _)], rfl, rfl, fun _ _ _ _ _ => ⟨_, rfl⟩, fun _ _ _ _ _ => rfl, fun z hz => by
    simp only [List.mem_cons, List.not_mem_nil, or_false] at hz
    subst hz
    exact fun _ _ _ _ _ => rfl⟩
  arg := ⟨_, rfl, rfl⟩
  ks := rfl
  kc := rfl
  ka := by decide +kernel
  kd := rfl
  inter := fun _ _ _ _ _ => rfl
  co := rfl
  gen := rfl
  cell := by decide +kernel
  nod := by decide
  bind := fun q kV doc pm an cdv ct cc s us hu => match us, hu with | [_, _], _ => .of_eq rfl
theorem xd_20 : XDef (L2.inClass (topS 22) 0) ["many"] where
  body := ⟨_, _, _, _, _, _, _, _, [("many", _, _, _, _)], rfl, rfl, fun _ _ _ _ _ => ⟨_, rfl⟩, fun _ _ _ _ _ => rfl, fun z hz => by
    simp only [List.mem_cons, List.not_mem_nil, or_false] at hz
    subst hz
    exact fun _ _ _ _ _ => rfl⟩
  arg := ⟨_, rfl, rfl⟩
  ks := rfl
  kc := rfl
  ka := by decide +kernel
  kd := rfl
  inter := fun _ _ _ _ _ => rfl
  co := rfl
  gen := rfl
  cell := by decide +kernel
  nod := by decide
  bind := fun q kV doc pm an cdv ct cc s us hu => match us, hu with | [_, _], _ => .of_eq rfl
theorem xd_21 : XDef (L2.inClass (topS 23) 0) ["many"] where
  body := ⟨_, _, _, _, _, _, _, _, [("many", _, _, _, _)], rfl, rfl, fun _ _ _ _ _ => ⟨_, rfl⟩, fun _ _ _ _ _ => rfl, fun z hz => by
    simp only [List.mem_cons, List.not_mem_nil, or_false] at hz
    subst hz
    exact fun _ _ _ _ _ => rfl⟩
  arg := ⟨_, rfl, rfl⟩
  ks := rfl
  kc := rfl
  ka := by decide +kernel
  kd := rfl
  inter := fun _ _ _ _ _ => rfl
  co := rfl
  gen := rfl
  cell := by decide +kernel
  nod := by decide
  bind := fun q kV doc pm an cdv ct cc s us hu => match us, hu with | [_, _], _ => .of_eq rfl
theorem xd_25 : XDef (L2.inClass (topS 27) 0) ["asked"] where
  body := ⟨_, _, _, _, _, _, _, _, [("asked", _, _, _, _)], rfl, rfl, fun _ _ _ _ _ => ⟨_, rfl⟩, fun _ _ _ _ _ => rfl, fun z hz => by
    simp only [List.mem_cons, List.not_mem_nil, or_false] at hz
    subst hz
    exact fun _ _ _ _ _ => rfl⟩
  arg := ⟨_, rfl, rfl⟩
  ks := rfl
  kc := rfl
  ka := by decide +kernel
  kd := rfl
  inter := fun _ _ _ _ _ => rfl
  co := rfl
  gen := rfl
  cell := by decide +kernel
  nod := by decide
  bind := fun q kV doc pm an cdv ct cc s us hu => match us, hu with | [_, _], _ => .of_eq rfl
def flds : Nat → List Str
  | 0 => ["name"]
  | 2 => ["asked"]
  | 3 => ["text"]
  | 5 => ["ring"]
  | 7 => ["balance"]
  | 8 => ["least", "greatest"]
  | 10 => ["number"]
  | 11 => ["distance"]
  | 13 => ["item"]
  | 14 => ["number"]
  | 15 => ["part"]
  | 16 => ["place"]
  | 17 => ["many"]
  | 20 => ["many"]
  | 21 => ["many"]
  | 25 => ["asked"]
  | _ => []
/-- the classes as the written part has them -/
structure Errs (prog : Program) (K : PySem.W.Frag) (mg : Str → Option Value) (C I : Nat → Addr) : Prop where
  e0 : XTxt prog K mg "BadName" (C 0) (I 0) (L2.inClass (topS 2) 0) ["name"]
  e1 : PTxt K mg "BadWorld" (C 1)
  e2 : XTxt prog K mg "NoSuchSum" (C 2) (I 2) (L2.inClass (topS 4) 0) ["asked"]
  e3 : XTxt prog K mg "BadText" (C 3) (I 3) (L2.inClass (topS 5) 0) ["text"]
  e4 : PTxt K mg "BadNet" (C 4)
  e5 : XTxt prog K mg "NoHeights" (C 5) (I 5) (L2.inClass (topS 7) 0) ["ring"]
  e6 : PTxt K mg "OtherWorld" (C 6)
  e7 : XTxt prog K mg "NoRun" (C 7) (I 7) (L2.inClass (topS 9) 0) ["balance"]
  e8 : XTxt prog K mg "OutOfRange" (C 8) (I 8) (L2.inClass (topS 10) 0) ["least", "greatest"]
  e9 : PTxt K mg "BadList" (C 9)
  e10 : XTxt prog K mg "NotFitting" (C 10) (I 10) (L2.inClass (topS 12) 0) ["number"]
  e11 : XTxt prog K mg "TooFar" (C 11) (I 11) (L2.inClass (topS 13) 0) ["distance"]
  e12 : PTxt K mg "BadSetup" (C 12)
  e13 : XTxt prog K mg "BadItem" (C 13) (I 13) (L2.inClass (topS 15) 0) ["item"]
  e14 : XTxt prog K mg "BadLine" (C 14) (I 14) (L2.inClass (topS 16) 0) ["number"]
  e15 : XTxt prog K mg "BadForm" (C 15) (I 15) (L2.inClass (topS 17) 0) ["part"]
  e16 : XTxt prog K mg "BadQuestion" (C 16) (I 16) (L2.inClass (topS 18) 0) ["place"]
  e17 : XTxt prog K mg "TooManyCases" (C 17) (I 17) (L2.inClass (topS 19) 0) ["many"]
  e18 : PTxt K mg "BadMachine" (C 18)
  e19 : PTxt K mg "BadRule" (C 19)
  e20 : XTxt prog K mg "TooManySets" (C 20) (I 20) (L2.inClass (topS 22) 0) ["many"]
  e21 : XTxt prog K mg "TooManyLots" (C 21) (I 21) (L2.inClass (topS 23) 0) ["many"]
  e22 : PTxt K mg "BadMeter" (C 22)
  e23 : PTxt K mg "BadTrace" (C 23)
  e24 : PTxt K mg "BadCauses" (C 24)
  e25 : XTxt prog K mg "WouldLose" (C 25) (I 25) (L2.inClass (topS 27) 0) ["asked"]
  e26 : PTxt K mg "NothingToUndo" (C 26)
/-! ### _law_raise -/
/-- what is wished of the error of the class kind, made of as, now and later -/
def RzOk (K : PySem.W.Frag) (C : Nat → Addr) (W : Value → Option Addr → Hp → Prop) (kind : Nat) (as : List D) (F H : Hp) : Prop := ∀ F1 H1, Gr F H F1 H1 → ∀ (us : List V) (d : Option Addr) (H' : Hp), Rps K F1 us as →
  ((flds kind = [] ∧ d = none ∧ H' = H1) ∨ ∃ dd, H1 dd = none ∧ d = some dd ∧ H' = upd H1 dd (.xd ((flds kind).zip us).reverse)) → W (.ref (C kind)) d H'
theorem RzOk.later {K : PySem.W.Frag} {C : Nat → Addr} {W : Value → Option Addr → Hp → Prop} {kind : Nat} {as : List D} {F H F1 H1 : Hp} (h : RzOk K C W kind as F H) (g : Gr F H F1 H1) : RzOk K C W kind as F1 H1 := fun F2 H2 g2 => h F2 H2 (g.trans g2)
def uRz (K : PySem.W.Frag) (C : Nat → Addr) (W : Value → Option Addr → Hp → Prop) (j : Nat) : TS := fun _ σ H => ∃ (F : Hp) (kind : Nat) (as : List D), Same F H ∧ ER K F σ [some (.int kind), some (.lst as)] ∧ j ≤ kind ∧ kind < 27 ∧ as.length = (flds kind).length ∧ RzOk K C W kind as F H
def uRzAt (K : PySem.W.Frag) (C : Nat → Addr) (W : Value → Option Addr → Hp → Prop) (j : Nat) : TS := fun _ σ H => ∃ (F : Hp) (as : List D), Same F H ∧ ER K F σ [some (.int j), some (.lst as)] ∧ as.length = (flds j).length ∧ RzOk K C W j as F H
section
variable {X : Cx} {C : Nat → Addr} {W : Value → Option Addr → Hp → Prop}
theorem rz_step {j : Nat} {c : Expr} {body rest : List Stmt} {pos : Pos} (hc : PT X c (uB X.K (mB (m2 gEq (mVar 0) (mC (.int j)))))) (hb : PSs X body (uRzAt X.K C W j)) (hr : PSs X rest (uRz X.K C W (j + 1))) : PSs X (.If c body [] pos :: rest) (uRz X.K C W j) :=
  PSs.imp (pss_cons (ps_if hc hb pss_nil) hr) fun T σ H ⟨F, kind, as, sh, re, h1, h2, h3, ok⟩ => by
    refine ⟨F, _, decide ((kind : Int) = j), sh, re, rfl, fun F1 H1 g => ?_⟩
    by_cases h : kind = j
    · subst h
      rw [decide_eq_true (show (kind : Int) = kind from rfl)]
      exact iteT ⟨F1, as, g.fh, re.mono g.ff, h3, ok.later g⟩
    · have hne : ¬ (kind : Int) = j := by omega
      rw [decide_eq_false hne]
      exact iteF ⟨F1, kind, as, g.fh, re.mono g.ff, by omega, h2, h3, ok.later g⟩
theorem rz_last {body : List Stmt} (hb : PSs X body (uRzAt X.K C W 26)) : PSs X body (uRz X.K C W 26) := PSs.imp hb fun T σ H ⟨F, kind, as, sh, re, h1, h2, h3, ok⟩ => by
  obtain rfl : kind = 26 := by omega
  exact ⟨F, as, sh, re, h3, ok⟩
theorem rz_0 {j : Nat} {x : Str} {p pos pos2 : Pos} (hc : Chain1 X.pn X.A) (tk : TakesC (hv X.A) X (fun cls d _ H => W cls d H)) (T : PTxt X.K X.mg x (C j)) (hf : flds j = []) (hg : Gl X x := by rfl) (hdb : (x == ("__debug__" : Str)) = false := by decide) :
    PSs X [.Raise (some (.Call (.Name x p) [] [] pos)) none pos2] (uRzAt X.K C W j) :=
  pss_one (PS.imp (ps_raiseG hc.chain tk (pmk_0 F.excBase_ValueError T.q T.gC T.kC (raises_own T.exC T.tyC) hg hdb)) fun _ σ H ⟨F, as, sh, re, hl, ok⟩ => by
    obtain rfl : as = [] := by
      rw [hf] at hl
      exact List.length_eq_zero_iff.mp hl
    exact ok F H (Gr.refl sh) [] none H (by simp only [Rps]) (.inl ⟨hf, rfl, rfl⟩))
theorem rz_X {j k : Nat} {x : Str} {I : Addr} {st : Stmt} {fs : List Str} {a : Expr} {es : List Expr} {fa : SA} {p pos pos2 : Pos} (hc : Chain1 X.pn X.A) (tk : TakesC (hv X.A) X (fun cls d _ H => W cls d H)) (hms : X.mg "super" = none) (htop : (X.prog.main.scope.names.lookup ("super" : Str)).isSome = false)
    (hr : RoomH k X.A) (T : XTxt X.prog X.K X.mg x (C j) I st fs) (D : XDef st fs) (h0 : fs ≠ []) (hz : fs.length ≤ 900) (hf : flds j = fs) (ha : PA X (a :: es) (uA X.K fa)) (hfa : ∀ as : List DL.D, as.length = fs.length → fa [some (.int j), some (.lst as)] = some as)
    (hg : Gl X x := by rfl) (hdb : (x == ("__debug__" : Str)) = false := by decide) (he : starEach (a :: es) X.env = (false, eval a X.env) :: starEach es X.env := by rfl) (hpl : (backTo pos (starEach es X.env)).any (·.1) = false := by rfl) :
    PSs X [.Raise (some (.Call (.Name x p) (a :: es) [] pos)) none pos2] (uRzAt X.K C W j) :=
  pss_one (PS.imp (ps_raiseG hc.chain tk (pmk_X T D hms htop hr h0 hz ha hg hdb he hpl)) fun _ σ H ⟨F, as, sh, re, hl, ok⟩ => by
    rw [hf] at hl
    refine ⟨F, _, as, sh, re, hfa as hl, fun vs F1 H1 g r => ⟨by rw [r.length, hl], fun d hd => ok F1 H1 g vs (some d) _ r (.inr ⟨d, hd, rfl, by rw [hf]⟩)⟩⟩)
end
def spRaise (K : PySem.W.Frag) (C : Nat → Addr) : Sp := fun vs H _ E => ∃ (F : Hp) (kind : Nat) (as : List D), Same F H ∧ Rps K F vs [.int kind, .lst as] ∧ kind < 27 ∧ as.length = (flds kind).length ∧ RzOk K C E kind as F H
abbrev s_raise : Stmt := topS 41
theorem sc_raise : FnScope ["kind", "passed"] ["kind", "passed"] (defScope s_raise) := ⟨rfl, rfl, rfl, by decide +kernel, rfl, by decide +kernel, by decide +kernel⟩
section
variable {P : Program} {w : World} {K : PySem.W.Frag} {mg : Str → Option Value} {base : Heap} {C I : Nat → Addr}
theorem ok_raise {f : Addr} {fd : FuncData} (F : Fun K "_law_raise" "_law_raise" s_raise f fd) (Es : Errs P K mg C I) (hms : mg "super" = none) (htop : (P.main.scope.names.lookup ("super" : Str)).isSome = false) : FnGC Chain1 P w K mg base (CAc P w) 1 f fd ["kind", "passed"] (spRaise K C) := by
  obtain ⟨oc, od, kV, doc, pm, an, cdv, ct, osl, rfl, lk, hcd⟩ := F.ex
  refine fn_G lk hcd sc_raise (fun vs H Q E ⟨F0, kind, as, _, r, _⟩ => r.length) fun pn A outer s H vs Q E hc hr hsp => ⟨uRz K C E 0, ?_, ?_⟩
  · have tk : TakesC (hv (cxG (CAc P w A) P w K mg base ["kind", "passed"] "_law_raise" (defScope s_raise) f cdv A outer s H E pn).A) (cxG (CAc P w A) P w K mg base ["kind", "passed"] "_law_raise" (defScope s_raise) f cdv A outer s H E pn) (fun cls d _ H => E cls d H) := takesC_of rfl rfl rfl rfl
    exact
    (rz_step (t_cmp c_eq (d_var 0) d_int rfl) (rz_X hc tk hms htop hr Es.e0 xd_0 (by decide) (by decide) rfl (a_cons (d_ix (d_var 1) d_int (fun _ _ => rfl)) a_nil) (fun as hl => match as, hl with | [_], _ => rfl))
    (rz_step (t_cmp c_eq (d_var 0) d_int rfl) (rz_0 hc tk Es.e1 rfl)
    (rz_step (t_cmp c_eq (d_var 0) d_int rfl) (rz_X hc tk hms htop hr Es.e2 xd_2 (by decide) (by decide) rfl (a_cons (d_ix (d_var 1) d_int (fun _ _ => rfl)) a_nil) (fun as hl => match as, hl with | [_], _ => rfl))
    (rz_step (t_cmp c_eq (d_var 0) d_int rfl) (rz_X hc tk hms htop hr Es.e3 xd_3 (by decide) (by decide) rfl (a_cons (d_ix (d_var 1) d_int (fun _ _ => rfl)) a_nil) (fun as hl => match as, hl with | [_], _ => rfl))
    (rz_step (t_cmp c_eq (d_var 0) d_int rfl) (rz_0 hc tk Es.e4 rfl)
    (rz_step (t_cmp c_eq (d_var 0) d_int rfl) (rz_X hc tk hms htop hr Es.e5 xd_5 (by decide) (by decide) rfl (a_cons (d_ix (d_var 1) d_int (fun _ _ => rfl)) a_nil) (fun as hl => match as, hl with | [_], _ => rfl))
    (rz_step (t_cmp c_eq (d_var 0) d_int rfl) (rz_0 hc tk Es.e6 rfl)
    (rz_step (t_cmp c_eq (d_var 0) d_int rfl) (rz_X hc tk hms htop hr Es.e7 xd_7 (by decide) (by decide) rfl (a_cons (d_ix (d_var 1) d_int (fun _ _ => rfl)) a_nil) (fun as hl => match as, hl with | [_], _ => rfl))
    (rz_step (t_cmp c_eq (d_var 0) d_int rfl) (rz_X hc tk hms htop hr Es.e8 xd_8 (by decide) (by decide) rfl (a_cons (d_ix (d_var 1) d_int (fun _ _ => rfl)) (a_cons (d_ix (d_var 1) d_int (fun _ _ => rfl)) a_nil)) (fun as hl => match as, hl with | [_, _], _ => rfl))
    (rz_step (t_cmp c_eq (d_var 0) d_int rfl) (rz_0 hc tk Es.e9 rfl)
    (rz_step (t_cmp c_eq (d_var 0) d_int rfl) (rz_X hc tk hms htop hr Es.e10 xd_10 (by decide) (by decide) rfl (a_cons (d_ix (d_var 1) d_int (fun _ _ => rfl)) a_nil) (fun as hl => match as, hl with | [_], _ => rfl))
    (rz_step (t_cmp c_eq (d_var 0) d_int rfl) (rz_X hc tk hms htop hr Es.e11 xd_11 (by decide) (by decide) rfl (a_cons (d_ix (d_var 1) d_int (fun _ _ => rfl)) a_nil) (fun as hl => match as, hl with | [_], _ => rfl))
    (rz_step (t_cmp c_eq (d_var 0) d_int rfl) (rz_0 hc tk Es.e12 rfl)
    (rz_step (t_cmp c_eq (d_var 0) d_int rfl) (rz_X hc tk hms htop hr Es.e13 xd_13 (by decide) (by decide) rfl (a_cons (d_ix (d_var 1) d_int (fun _ _ => rfl)) a_nil) (fun as hl => match as, hl with | [_], _ => rfl))
    (rz_step (t_cmp c_eq (d_var 0) d_int rfl) (rz_X hc tk hms htop hr Es.e14 xd_14 (by decide) (by decide) rfl (a_cons (d_ix (d_var 1) d_int (fun _ _ => rfl)) a_nil) (fun as hl => match as, hl with | [_], _ => rfl))
    (rz_step (t_cmp c_eq (d_var 0) d_int rfl) (rz_X hc tk hms htop hr Es.e15 xd_15 (by decide) (by decide) rfl (a_cons (d_ix (d_var 1) d_int (fun _ _ => rfl)) a_nil) (fun as hl => match as, hl with | [_], _ => rfl))
    (rz_step (t_cmp c_eq (d_var 0) d_int rfl) (rz_X hc tk hms htop hr Es.e16 xd_16 (by decide) (by decide) rfl (a_cons (d_ix (d_var 1) d_int (fun _ _ => rfl)) a_nil) (fun as hl => match as, hl with | [_], _ => rfl))
    (rz_step (t_cmp c_eq (d_var 0) d_int rfl) (rz_X hc tk hms htop hr Es.e17 xd_17 (by decide) (by decide) rfl (a_cons (d_ix (d_var 1) d_int (fun _ _ => rfl)) a_nil) (fun as hl => match as, hl with | [_], _ => rfl))
    (rz_step (t_cmp c_eq (d_var 0) d_int rfl) (rz_0 hc tk Es.e18 rfl)
    (rz_step (t_cmp c_eq (d_var 0) d_int rfl) (rz_0 hc tk Es.e19 rfl)
    (rz_step (t_cmp c_eq (d_var 0) d_int rfl) (rz_X hc tk hms htop hr Es.e20 xd_20 (by decide) (by decide) rfl (a_cons (d_ix (d_var 1) d_int (fun _ _ => rfl)) a_nil) (fun as hl => match as, hl with | [_], _ => rfl))
    (rz_step (t_cmp c_eq (d_var 0) d_int rfl) (rz_X hc tk hms htop hr Es.e21 xd_21 (by decide) (by decide) rfl (a_cons (d_ix (d_var 1) d_int (fun _ _ => rfl)) a_nil) (fun as hl => match as, hl with | [_], _ => rfl))
    (rz_step (t_cmp c_eq (d_var 0) d_int rfl) (rz_0 hc tk Es.e22 rfl)
    (rz_step (t_cmp c_eq (d_var 0) d_int rfl) (rz_0 hc tk Es.e23 rfl)
    (rz_step (t_cmp c_eq (d_var 0) d_int rfl) (rz_0 hc tk Es.e24 rfl)
    (rz_step (t_cmp c_eq (d_var 0) d_int rfl) (rz_X hc tk hms htop hr Es.e25 xd_25 (by decide) (by decide) rfl (a_cons (d_ix (d_var 1) d_int (fun _ _ => rfl)) a_nil) (fun as hl => match as, hl with | [_], _ => rfl))
    (rz_last (rz_0 hc tk Es.e26 rfl))))))))))))))))))))))))))))
  · obtain ⟨F0, kind, as, sh, r, h1, h2, ok⟩ := hsp
    exact ⟨F0, kind, as, sh, ER.start (m := 0) r rfl, Nat.zero_le _, h1, h2, ok⟩
end
end K23
namespace K23
open PySem PySem.Spec PyProof.Rows L2 DL
open L2H (RoomH PinOk)
/-- the module's names that _law_right reads -/
structure Mods (mg : Str → Option Value) (C : Nat → Addr) : Prop where
  ve : mg "ValueError" = none
  g0 : mg "BadName" = some (.ref (C 0))
  g1 : mg "BadWorld" = some (.ref (C 1))
  g2 : mg "NoSuchSum" = some (.ref (C 2))
  g3 : mg "BadText" = some (.ref (C 3))
  g4 : mg "BadNet" = some (.ref (C 4))
  g5 : mg "NoHeights" = some (.ref (C 5))
  g6 : mg "OtherWorld" = some (.ref (C 6))
  g7 : mg "NoRun" = some (.ref (C 7))
  g8 : mg "OutOfRange" = some (.ref (C 8))
  g9 : mg "BadList" = some (.ref (C 9))
  g10 : mg "NotFitting" = some (.ref (C 10))
  g11 : mg "TooFar" = some (.ref (C 11))
  g12 : mg "BadSetup" = some (.ref (C 12))
  g13 : mg "BadItem" = some (.ref (C 13))
  g14 : mg "BadLine" = some (.ref (C 14))
  g15 : mg "BadForm" = some (.ref (C 15))
  g16 : mg "BadQuestion" = some (.ref (C 16))
  g17 : mg "TooManyCases" = some (.ref (C 17))
  g18 : mg "BadMachine" = some (.ref (C 18))
  g19 : mg "BadRule" = some (.ref (C 19))
  g20 : mg "TooManySets" = some (.ref (C 20))
  g21 : mg "TooManyLots" = some (.ref (C 21))
  g22 : mg "BadMeter" = some (.ref (C 22))
  g23 : mg "BadTrace" = some (.ref (C 23))
  g24 : mg "BadCauses" = some (.ref (C 24))
  g25 : mg "WouldLose" = some (.ref (C 25))
  g26 : mg "NothingToUndo" = some (.ref (C 26))
/-- has the class cls the field n? -/
def okx (C : Nat → Addr) (cls : Value) (n : Str) : Bool := (List.range 27).any fun k => cls == .ref (C k) && decide (n ∈ flds k)
/-- the suite's meaning -/
def m_suite (K : PySem.W.Frag) (C : Nat → Addr) (L : List Addr) (G_law_same : List D → Option D) (gN : SE) (a : Addr) (cls : Value) (d : Option Addr) : SS :=
  (sSeq (sAsg 6 (mIsX K L a cls d (.type "ValueError") (mVar 5))) (sSeq (sIf (mB (m2 gEq (mVar 2) (mC (.int 0)))) (sAsg 6 (mV (mAnd (mB (mVar 6)) (mB gN)))) sNext) (sSeq (sAsg 7 (mFn gLst (mCons (mIsX K L a cls d (.ref (C 0)) (mVar 5)) (mCons (mIsX K L a cls d (.ref (C 1)) (mVar 5)) (mCons (mIsX K L a cls d (.ref (C 2)) (mVar 5)) (mCons (mIsX K L a cls d (.ref (C 3)) (mVar 5)) mNil)))))) (sSeq (sAsg 7 (m2 gAdd (mVar 7) (mFn gLst (mCons (mIsX K L a cls d (.ref (C 4)) (mVar 5)) (mCons (mIsX K L a cls d (.ref (C 5)) (mVar 5)) (mCons (mIsX K L a cls d (.ref (C 6)) (mVar 5)) mNil)))))) (sSeq (sAsg 7 (m2 gAdd (mVar 7) (mFn gLst (mCons (mIsX K L a cls d (.ref (C 7)) (mVar 5)) (mCons (mIsX K L a cls d (.ref (C 8)) (mVar 5)) (mCons (mIsX K L a cls d (.ref (C 9)) (mVar 5)) mNil)))))) (sSeq (sAsg 7 (m2 gAdd (mVar 7) (mFn gLst (mCons (mIsX K L a cls d (.ref (C 10)) (mVar 5)) (mCons (mIsX K L a cls d (.ref (C 11)) (mVar 5)) (mCons (mIsX K L a cls d (.ref (C 12)) (mVar 5)) mNil)))))) (sSeq (sAsg 7 (m2 gAdd (mVar 7) (mFn gLst (mCons (mIsX K L a cls d (.ref (C 13)) (mVar 5)) (mCons (mIsX K L a cls d (.ref (C 14)) (mVar 5)) (mCons (mIsX K L a cls d (.ref (C 15)) (mVar 5)) mNil)))))) (sSeq (sAsg 7 (m2 gAdd (mVar 7) (mFn gLst (mCons (mIsX K L a cls d (.ref (C 16)) (mVar 5)) (mCons (mIsX K L a cls d (.ref (C 17)) (mVar 5)) (mCons (mIsX K L a cls d (.ref (C 18)) (mVar 5)) mNil)))))) (sSeq (sAsg 7 (m2 gAdd (mVar 7) (mFn gLst (mCons (mIsX K L a cls d (.ref (C 19)) (mVar 5)) (mCons (mIsX K L a cls d (.ref (C 20)) (mVar 5)) (mCons (mIsX K L a cls d (.ref (C 21)) (mVar 5)) mNil)))))) (sSeq (sAsg 7 (m2 gAdd (mVar 7) (mFn gLst (mCons (mIsX K L a cls d (.ref (C 22)) (mVar 5)) (mCons (mIsX K L a cls d (.ref (C 23)) (mVar 5)) (mCons (mIsX K L a cls d (.ref (C 24)) (mVar 5)) mNil)))))) (sSeq (sAsg 7 (m2 gAdd (mVar 7) (mFn gLst (mCons (mIsX K L a cls d (.ref (C 25)) (mVar 5)) (mCons (mIsX K L a cls d (.ref (C 26)) (mVar 5)) mNil))))) (sSeq (sAsg 8 (mFn gLst mNil)) (sSeq (sIf (mB (m2 gEq (mVar 1) (mC (.int 0)))) (sAsg 8 (mFn gLst (mCons (mXf a d (okx C cls "name") "name" (mVar 5)) mNil))) sNext) (sSeq (sIf (mOr (mB (m2 gEq (mVar 1) (mC (.int 2)))) (mB (m2 gEq (mVar 1) (mC (.int 25))))) (sAsg 8 (mFn gLst (mCons (mXf a d (okx C cls "asked") "asked" (mVar 5)) mNil))) sNext) (sSeq (sIf (mB (m2 gEq (mVar 1) (mC (.int 3)))) (sAsg 8 (mFn gLst (mCons (mXf a d (okx C cls "text") "text" (mVar 5)) mNil))) sNext) (sSeq (sIf (mB (m2 gEq (mVar 1) (mC (.int 5)))) (sAsg 8 (mFn gLst (mCons (mXf a d (okx C cls "ring") "ring" (mVar 5)) mNil))) sNext) (sSeq (sIf (mB (m2 gEq (mVar 1) (mC (.int 7)))) (sAsg 8 (mFn gLst (mCons (mXf a d (okx C cls "balance") "balance" (mVar 5)) mNil))) sNext) (sSeq (sIf (mB (m2 gEq (mVar 1) (mC (.int 8)))) (sAsg 8 (mFn gLst (mCons (mXf a d (okx C cls "least") "least" (mVar 5)) (mCons (mXf a d (okx C cls "greatest") "greatest" (mVar 5)) mNil)))) sNext) (sSeq (sIf (mOr (mB (m2 gEq (mVar 1) (mC (.int 10)))) (mB (m2 gEq (mVar 1) (mC (.int 14))))) (sAsg 8 (mFn gLst (mCons (mXf a d (okx C cls "number") "number" (mVar 5)) mNil))) sNext) (sSeq (sIf (mB (m2 gEq (mVar 1) (mC (.int 11)))) (sAsg 8 (mFn gLst (mCons (mXf a d (okx C cls "distance") "distance" (mVar 5)) mNil))) sNext) (sSeq (sIf (mB (m2 gEq (mVar 1) (mC (.int 13)))) (sAsg 8 (mFn gLst (mCons (mXf a d (okx C cls "item") "item" (mVar 5)) mNil))) sNext) (sSeq (sIf (mB (m2 gEq (mVar 1) (mC (.int 15)))) (sAsg 8 (mFn gLst (mCons (mXf a d (okx C cls "part") "part" (mVar 5)) mNil))) sNext) (sSeq (sIf (mB (m2 gEq (mVar 1) (mC (.int 16)))) (sAsg 8 (mFn gLst (mCons (mXf a d (okx C cls "place") "place" (mVar 5)) mNil))) sNext) (sSeq (sIf (mOr (mB (m2 gEq (mVar 1) (mC (.int 17)))) (mOr (mB (m2 gEq (mVar 1) (mC (.int 20)))) (mB (m2 gEq (mVar 1) (mC (.int 21)))))) (sAsg 8 (mFn gLst (mCons (mXf a d (okx C cls "many") "many" (mVar 5)) mNil))) sNext) (sRet (mV (mAnd (mB (mVar 6)) (mAnd (mB (m2 gEqL (mVar 7) (mLc 9 (mRng (mCons (mC (.int 27)) mNil)) (m2 gEq (mVar 9) (mVar 1))))) (mB (mFn (ap 2 G_law_same) (mCons (mVar 8) (mCons (mVar 4) mNil))))))))))))))))))))))))))))))))
theorem d_never {X : Cx} {e : Expr} : PE X e (uE X.K fun _ => none) := ⟨fun _ _ _ _ _ _ h => by
  obtain ⟨F, env, d, _, _, e, _⟩ := h
  cases e⟩
abbrev s_law_right : Stmt := topS 42
theorem sc_law_right : FnScope ["script", "kind", "turn", "at", "due", "e", "good", "kinds", "told", "k"] ["script", "kind", "turn"] (defScope s_law_right) := ⟨rfl, rfl, rfl, by decide +kernel, rfl, by decide +kernel, by decide +kernel⟩
section
variable {P : Program} {w : World} {K : PySem.W.Frag} {mg : Str → Option Value} {base : Heap} {C I : Nat → Addr}
/-- what it tells: True, for every class -/
def gRight (t : Int) : List D → Option D := fun ds => match ds with
  | [.scr _, .int kind, .int turn] => if 0 ≤ kind ∧ kind < 27 ∧ turn = t then some (.bl true) else none
  | _ => none
theorem ok_law_right {Ch : List (Addr × Obj) → Around → Prop} (hCh : ∀ pn A, Ch pn A → Chain1 pn A) {k kA kS kR : Nat} {t : Int} {gN : SE} {CW : Addr} {L : List Addr} {f f_law_arguments f_law_same f_law_raise : Addr} {fd fd_law_arguments fd_law_same fd_law_raise : FuncData} {G_law_arguments G_law_same : List D → Option D}
    (F : Fun K "_law_right" "_law_right" s_law_right f fd) (B : Blt mg) (M : Mods mg C) (hW : mg "WatchError" = some (.ref CW)) (hkA : kA ≤ k) (hkS : kS ≤ k) (hkR : kR ≤ k)
    (F_law_arguments : FnG P w K mg base CA0 kA f_law_arguments fd_law_arguments ["script", "at", "kind"] (spD K 3 G_law_arguments)) (C_law_arguments : Cal K mg "_law_arguments" f_law_arguments fd_law_arguments ["script", "at", "kind"])
    (F_law_same : FnG P w K mg base CA0 kS f_law_same fd_law_same ["told", "due"] (spD K 2 G_law_same)) (C_law_same : Cal K mg "_law_same" f_law_same fd_law_same ["told", "due"])
    (F_law_raise : FnGC Chain1 P w K mg base (CAc P w) kR f_law_raise fd_law_raise ["kind", "passed"] (spRaise K C)) (C_law_raise : Cal K mg "_law_raise" f_law_raise fd_law_raise ["kind", "passed"])
    (hL : ∀ c ∈ L, ExcC K c) (hfld : ∀ kind n, kind < 27 → n ∈ flds kind → XfC K (C kind) ∧ PySem.W.findIn K (.ref (C kind)) n = some none) (hexm : ∀ kind, kind < 27 → PySem.W.exmOne K (.ref (C kind)) (.ref CW) = some true)
    (hn : ∀ (pn : List (Addr × Obj)) (A : Around) (outer : List Env) (s : Shared) (H : Hp) (E : XK) (cdv : Value), Ch pn A → RoomH k (A.deeper (envOfC "_law_right" (defScope s_law_right) s.heap.objs.size f cdv)) → ∀ (a : Addr) (oe : Obj) (pn2 : List (Addr × Obj)),
      (A.handled = none → Chain1 ((a, oe) :: pn2) ((cxG CX0 P w K mg base ["script", "kind", "turn", "at", "due", "e", "good", "kinds", "told", "k"] "_law_right" (defScope s_law_right) f cdv A outer s H E pn).suite a ((a, oe) :: pn2)).A) → ∀ (q q1 q2 q3 q4 : Pos) (j : Nat),
      PE ((cxG CX0 P w K mg base ["script", "kind", "turn", "at", "due", "e", "good", "kinds", "told", "k"] "_law_right" (defScope s_law_right) f cdv A outer s H E pn).suite a ((a, oe) :: pn2)) (.Call (.Name "_law_right" q) [.Name "script" q1, .Name "kind" q2, .Constant (.int 1) j q3] [] q4) (uE K gN))
    (hpure : ∀ (sc : List Int) (kind : Nat), kind < 27 → ∃ as, G_law_arguments [.scr sc, .int (2 * kind + t), .int kind] = some (.lst as) ∧ as.length = (flds kind).length ∧ ∀ (a : Addr) (d : Option Addr) (ks : List Str) (ds : List D), ((d = none ∧ ks = [] ∧ ds = [] ∧ flds kind = []) ∨ ks = (flds kind).reverse ∧ ds = as.reverse) →
      m_suite K C L G_law_same gN a (.ref (C kind)) d [some (.scr sc), some (.int kind), some (.int t), some (.int (2 * kind + t)), some (.lst as), some (.exn a d ks ds), none, none, none, none] = some (.rt (.bl true))) :
    FnGC Ch P w K mg base CA0 (k + 1) f fd ["script", "kind", "turn"] (spD K 3 (gRight t)) := by
  obtain ⟨oc, od, kV, doc, pm, an, cdv, ct, osl, rfl, lk, hcd⟩ := F.ex
  refine fn_G lk hcd sc_law_right (spD_len rfl) fun pn A outer s H vs Q E hch hr hsp => ?_
  have hc1 : Chain1 pn A := hCh _ _ hch
  have hcc := hc1.chain
  have hok : ∀ (cls : Value) (n : Str), okx C cls n = true → ∃ D, cls = .ref D ∧ XfC K D ∧ PySem.W.findIn K (.ref D) n = some none := fun cls n z => by
    unfold okx at z
    obtain ⟨kind, h1, h2⟩ := List.any_eq_true.mp z
    obtain ⟨h3, h4⟩ := Bool.and_eq_true_iff.mp h2
    exact ⟨C kind, beq_iff_eq.mp h3, hfld kind n (List.mem_range.mp h1) (of_decide_eq_true h4)⟩
  have hu : A.units + 3 + 64 < cLine := by have := hr.un; have h2 : (A.deeper (envOfC "_law_right" (defScope s_law_right) s.heap.objs.size f cdv)).units = A.units + 3 := rfl; rw [h2] at this; omega
  refine ⟨tSeq (uS K (sAsg 3 (m2 gAdd (m2 gMul (mC (.int 2)) (mVar 1)) (mVar 2)))) (tSeq (uS K (sAsg 4 (mFn (ap 3 G_law_arguments) (mCons (mVar 0) (mCons (mVar 3) (mCons (mVar 1) mNil)))))) (tSeq (fun T σ H => (fun (W : WX) => tDrop (tCallS (spRaise K C) (WE W) (uA K (mCons (mVar 1) (mCons (mFn (ap 3 G_law_arguments) (mCons (mVar 0) (mCons (mVar 3) (mCons (mVar 1) mNil)))) mNil))))) (wAs K (.ref CW) 5 (fun a cls d => uS K (m_suite K C L G_law_same gN a cls d)) (fun _ _ _ _ => False) T) T σ H) (uS K (sRet (mC (.bl false)))))), ?_, ?_⟩
  · refine pss_cons (s_asg (i := 3) sc_law_right.nd (d_add (d_mul d_int (d_var 1)) (d_var 2))) (pss_cons (s_asg (i := 4) sc_law_right.nd (d_call F_law_arguments rfl (hr.mono hkA) hcc C_law_arguments.gl C_law_arguments.kp C_law_arguments.bi (a_cons (d_var 0) (a_cons (d_var 3) (a_cons (d_var 1) a_nil))))) (pss_cons ?_ (pss_one (s_ret d_bl))))
    refine ps_try_G (i := 5) (tb := fun W => tDrop (tCallS (spRaise K C) (WE W) (uA K (mCons (mVar 1) (mCons (mFn (ap 3 G_law_arguments) (mCons (mVar 0) (mCons (mVar 3) (mCons (mVar 1) mNil)))) mNil))))) (ts := fun a cls d => uS K (m_suite K C L G_law_same gN a cls d)) (Wo := fun _ _ _ _ => False) rfl rfl sc_law_right.nd rfl rfl ⟨rfl, by decide, .inl hW⟩ hc1 (fun u s' z => ?_) (fun W pn2 xe hq tk _ => ?_) (fun a oe cls d pn2 hq hz hf hcS hc0 => ?_)
    · obtain ⟨⟨_, _, _, _, _, _, _, _, _, _, _, _, _, _, _, _, z⟩, _⟩ := z
      exact z.elim
    · exact pss_one (ps_expr (pe_callG F_law_raise (hr.mono hkR) (hc1.more hq) C_law_raise.gl C_law_raise.kp C_law_raise.bi (fun σ => passC tk) (a_cons (d_var 1) (a_cons (d_call F_law_arguments rfl (hr.mono hkA) (hc1.more hq).chain C_law_arguments.gl C_law_arguments.kp C_law_arguments.bi (a_cons (d_var 0) (a_cons (d_var 3) (a_cons (d_var 1) a_nil)))) a_nil))))
    · have hrS : RoomH k ((cxG CX0 P w K mg base ["script", "kind", "turn", "at", "due", "e", "good", "kinds", "told", "k"] "_law_right" (defScope s_law_right) f cdv A outer s H E pn).suite a ((a, oe) :: pn2)).A := ⟨hr.dp, hr.un⟩
      have hn := fun a oe pn2 hc0 => hn pn A outer s H E cdv hch hr a oe pn2 hc0
      have hok := hok cls
      exact (ss_cons (s_asg (i := 6) sc_law_right.nd (d_isX hz hf hL B.b_isinstance (d_var 5) (pe_bltn (v := .ty "ValueError") (u := .type "ValueError") (by rfl) M.ve (by decide +kernel) (by rfl)) (fun _ h => h))) (ss_cons (s_if (t_cmp c_eq (d_var 2) d_int rfl) (ss_one (s_asg (i := 6) sc_law_right.nd (d_and (d_var 6) (d_one (hn a oe pn2 hc0 _ _ _ _ _ _))))) ss_nil) (ss_cons (s_asg (i := 7) sc_law_right.nd (d_lst (a_cons (d_isX hz hf hL B.b_isinstance (d_var 5) (pe_glob (v := .ref (C 0)) (by rfl) M.g0 rfl) (fun _ h => h)) (a_cons (d_isX hz hf hL B.b_isinstance (d_var 5) (pe_glob (v := .ref (C 1)) (by rfl) M.g1 rfl) (fun _ h => h)) (a_cons (d_isX hz hf hL B.b_isinstance (d_var 5) (pe_glob (v := .ref (C 2)) (by rfl) M.g2 rfl) (fun _ h => h)) (a_cons (d_isX hz hf hL B.b_isinstance (d_var 5) (pe_glob (v := .ref (C 3)) (by rfl) M.g3 rfl) (fun _ h => h)) a_nil)))))) (ss_cons (s_asg (i := 7) sc_law_right.nd (d_add (d_var 7) (d_lst (a_cons (d_isX hz hf hL B.b_isinstance (d_var 5) (pe_glob (v := .ref (C 4)) (by rfl) M.g4 rfl) (fun _ h => h)) (a_cons (d_isX hz hf hL B.b_isinstance (d_var 5) (pe_glob (v := .ref (C 5)) (by rfl) M.g5 rfl) (fun _ h => h)) (a_cons (d_isX hz hf hL B.b_isinstance (d_var 5) (pe_glob (v := .ref (C 6)) (by rfl) M.g6 rfl) (fun _ h => h)) a_nil)))))) (ss_cons (s_asg (i := 7) sc_law_right.nd (d_add (d_var 7) (d_lst (a_cons (d_isX hz hf hL B.b_isinstance (d_var 5) (pe_glob (v := .ref (C 7)) (by rfl) M.g7 rfl) (fun _ h => h)) (a_cons (d_isX hz hf hL B.b_isinstance (d_var 5) (pe_glob (v := .ref (C 8)) (by rfl) M.g8 rfl) (fun _ h => h)) (a_cons (d_isX hz hf hL B.b_isinstance (d_var 5) (pe_glob (v := .ref (C 9)) (by rfl) M.g9 rfl) (fun _ h => h)) a_nil)))))) (ss_cons (s_asg (i := 7) sc_law_right.nd (d_add (d_var 7) (d_lst (a_cons (d_isX hz hf hL B.b_isinstance (d_var 5) (pe_glob (v := .ref (C 10)) (by rfl) M.g10 rfl) (fun _ h => h)) (a_cons (d_isX hz hf hL B.b_isinstance (d_var 5) (pe_glob (v := .ref (C 11)) (by rfl) M.g11 rfl) (fun _ h => h)) (a_cons (d_isX hz hf hL B.b_isinstance (d_var 5) (pe_glob (v := .ref (C 12)) (by rfl) M.g12 rfl) (fun _ h => h)) a_nil)))))) (ss_cons (s_asg (i := 7) sc_law_right.nd (d_add (d_var 7) (d_lst (a_cons (d_isX hz hf hL B.b_isinstance (d_var 5) (pe_glob (v := .ref (C 13)) (by rfl) M.g13 rfl) (fun _ h => h)) (a_cons (d_isX hz hf hL B.b_isinstance (d_var 5) (pe_glob (v := .ref (C 14)) (by rfl) M.g14 rfl) (fun _ h => h)) (a_cons (d_isX hz hf hL B.b_isinstance (d_var 5) (pe_glob (v := .ref (C 15)) (by rfl) M.g15 rfl) (fun _ h => h)) a_nil)))))) (ss_cons (s_asg (i := 7) sc_law_right.nd (d_add (d_var 7) (d_lst (a_cons (d_isX hz hf hL B.b_isinstance (d_var 5) (pe_glob (v := .ref (C 16)) (by rfl) M.g16 rfl) (fun _ h => h)) (a_cons (d_isX hz hf hL B.b_isinstance (d_var 5) (pe_glob (v := .ref (C 17)) (by rfl) M.g17 rfl) (fun _ h => h)) (a_cons (d_isX hz hf hL B.b_isinstance (d_var 5) (pe_glob (v := .ref (C 18)) (by rfl) M.g18 rfl) (fun _ h => h)) a_nil)))))) (ss_cons (s_asg (i := 7) sc_law_right.nd (d_add (d_var 7) (d_lst (a_cons (d_isX hz hf hL B.b_isinstance (d_var 5) (pe_glob (v := .ref (C 19)) (by rfl) M.g19 rfl) (fun _ h => h)) (a_cons (d_isX hz hf hL B.b_isinstance (d_var 5) (pe_glob (v := .ref (C 20)) (by rfl) M.g20 rfl) (fun _ h => h)) (a_cons (d_isX hz hf hL B.b_isinstance (d_var 5) (pe_glob (v := .ref (C 21)) (by rfl) M.g21 rfl) (fun _ h => h)) a_nil)))))) (ss_cons (s_asg (i := 7) sc_law_right.nd (d_add (d_var 7) (d_lst (a_cons (d_isX hz hf hL B.b_isinstance (d_var 5) (pe_glob (v := .ref (C 22)) (by rfl) M.g22 rfl) (fun _ h => h)) (a_cons (d_isX hz hf hL B.b_isinstance (d_var 5) (pe_glob (v := .ref (C 23)) (by rfl) M.g23 rfl) (fun _ h => h)) (a_cons (d_isX hz hf hL B.b_isinstance (d_var 5) (pe_glob (v := .ref (C 24)) (by rfl) M.g24 rfl) (fun _ h => h)) a_nil)))))) (ss_cons (s_asg (i := 7) sc_law_right.nd (d_add (d_var 7) (d_lst (a_cons (d_isX hz hf hL B.b_isinstance (d_var 5) (pe_glob (v := .ref (C 25)) (by rfl) M.g25 rfl) (fun _ h => h)) (a_cons (d_isX hz hf hL B.b_isinstance (d_var 5) (pe_glob (v := .ref (C 26)) (by rfl) M.g26 rfl) (fun _ h => h)) a_nil))))) (ss_cons (s_asg (i := 8) sc_law_right.nd (d_lst a_nil)) (ss_cons (s_if (t_cmp c_eq (d_var 1) d_int rfl) (ss_one (s_asg (i := 8) sc_law_right.nd (d_lst (a_cons (d_xf hz hf (hok "name") (d_var 5)) a_nil)))) ss_nil) (ss_cons (s_if (PW.pt (t_or (t_cmp c_eq (d_var 1) d_int rfl) (pw_or1 (t_cmp c_eq (d_var 1) d_int rfl)))) (ss_one (s_asg (i := 8) sc_law_right.nd (d_lst (a_cons (d_xf hz hf (hok "asked") (d_var 5)) a_nil)))) ss_nil) (ss_cons (s_if (t_cmp c_eq (d_var 1) d_int rfl) (ss_one (s_asg (i := 8) sc_law_right.nd (d_lst (a_cons (d_xf hz hf (hok "text") (d_var 5)) a_nil)))) ss_nil) (ss_cons (s_if (t_cmp c_eq (d_var 1) d_int rfl) (ss_one (s_asg (i := 8) sc_law_right.nd (d_lst (a_cons (d_xf hz hf (hok "ring") (d_var 5)) a_nil)))) ss_nil) (ss_cons (s_if (t_cmp c_eq (d_var 1) d_int rfl) (ss_one (s_asg (i := 8) sc_law_right.nd (d_lst (a_cons (d_xf hz hf (hok "balance") (d_var 5)) a_nil)))) ss_nil) (ss_cons (s_if (t_cmp c_eq (d_var 1) d_int rfl) (ss_one (s_asg (i := 8) sc_law_right.nd (d_lst (a_cons (d_xf hz hf (hok "least") (d_var 5)) (a_cons (d_xf hz hf (hok "greatest") (d_var 5)) a_nil))))) ss_nil) (ss_cons (s_if (PW.pt (t_or (t_cmp c_eq (d_var 1) d_int rfl) (pw_or1 (t_cmp c_eq (d_var 1) d_int rfl)))) (ss_one (s_asg (i := 8) sc_law_right.nd (d_lst (a_cons (d_xf hz hf (hok "number") (d_var 5)) a_nil)))) ss_nil) (ss_cons (s_if (t_cmp c_eq (d_var 1) d_int rfl) (ss_one (s_asg (i := 8) sc_law_right.nd (d_lst (a_cons (d_xf hz hf (hok "distance") (d_var 5)) a_nil)))) ss_nil) (ss_cons (s_if (t_cmp c_eq (d_var 1) d_int rfl) (ss_one (s_asg (i := 8) sc_law_right.nd (d_lst (a_cons (d_xf hz hf (hok "item") (d_var 5)) a_nil)))) ss_nil) (ss_cons (s_if (t_cmp c_eq (d_var 1) d_int rfl) (ss_one (s_asg (i := 8) sc_law_right.nd (d_lst (a_cons (d_xf hz hf (hok "part") (d_var 5)) a_nil)))) ss_nil) (ss_cons (s_if (t_cmp c_eq (d_var 1) d_int rfl) (ss_one (s_asg (i := 8) sc_law_right.nd (d_lst (a_cons (d_xf hz hf (hok "place") (d_var 5)) a_nil)))) ss_nil) (ss_cons (s_if (PW.pt (t_or (t_cmp c_eq (d_var 1) d_int rfl) (t_or (t_cmp c_eq (d_var 1) d_int rfl) (pw_or1 (t_cmp c_eq (d_var 1) d_int rfl))))) (ss_one (s_asg (i := 8) sc_law_right.nd (d_lst (a_cons (d_xf hz hf (hok "many") (d_var 5)) a_nil)))) ss_nil) (ss_one (s_ret (d_and (d_var 6) (d_and (d_eqL hu (d_var 7) (d_lc (x := "k") (i := 9) hcS sc_law_right.nd (i_range B.b_range (a_cons d_int a_nil)) (blkOk_by (N := ["script", "kind", "turn", "at", "due", "e", "good", "kinds", "told", "k"]) (sc := defScope s_law_right) (by decide +kernel)) (fun _ _ _ _ _ => pg_name (i := 9) sc_law_right.nd rfl (Or.inl rfl)) (fun _ _ _ _ _ => (d_eq (d_var 9) (d_var 1) rfl))) rfl) (d_one (d_call F_law_same rfl (hrS.mono hkS) hcS C_law_same.gl C_law_same.kp C_law_same.bi (a_cons (d_var 8) (a_cons (d_var 4) a_nil))))))))))))))))))))))))))))))))
  · obtain ⟨F0, ds, d0, sh, r0, hl, hg, q⟩ := hsp
    match ds, hg, r0 with
    | [.scr sc, .int kind', .int turn], hg, r0 =>
      simp only [gRight] at hg
      split at hg
      case isFalse => cases hg
      rename_i hdom
      obtain rfl := Option.some.inj hg
      obtain ⟨hk0, hk1, rfl⟩ := hdom
      obtain ⟨kind, rfl⟩ := Int.eq_ofNat_of_zero_le hk0
      have hk : kind < 27 := by omega
      obtain ⟨as, hargs, hlen, hsuite⟩ := hpure sc kind hk
      have hmul : gMul (.int 2) (.int kind) = some (.int (2 * kind)) := by
        simp only [gMul]
        rw [if_pos (by omega)]
      refine ⟨F0, [some (.scr sc), some (.int kind), some (.int turn), none, none, none, none, none, none, none], .nx [some (.scr sc), some (.int kind), some (.int turn), some (.int (2 * kind + turn)), none, none, none, none, none, none], sh, ER.start (m := 7) r0 rfl, ?_, fun σ1 F1 H1 g1 r1 => ?_⟩
      · show (m2 gAdd (m2 gMul (mC (.int 2)) (mVar 1)) (mVar 2) _).map _ = _
        simp [m2, mC, mVar, hmul, gAdd]
      refine ⟨F1, _, .nx [some (.scr sc), some (.int kind), some (.int turn), some (.int (2 * kind + turn)), some (.lst as), none, none, none, none, none], g1.fh, r1, ?_, fun σ2 F2 H2 g2 r2 => ?_⟩
      · show (mFn (ap 3 G_law_arguments) _ _).map _ = _
        simp only [mFn, mCons, mVar, mNil]
        simp [hargs]
      refine ⟨F2, _, [.int kind, .lst as], g2.fh, r2, ?_, fun vs3 F3 H3 g3 r3 => ?_⟩
      · simp only [mFn, mCons, mVar, mNil]
        simp [ap, hargs]
      refine ⟨F3, kind, as, g3.fh, r3, hk, hlen, fun F4 H4 g4 us d H5 rus hcase => ?_⟩
      refine ⟨true, hexm kind hk, fun _ a ha => ?_, fun z => Bool.noConfusion z⟩
      have r2' : ER K F4 σ2 [some (.scr sc), some (.int kind), some (.int turn), some (.int (2 * kind + turn)), some (.lst as), none, none, none, none, none] := r2.mono (g3.ff.trans g4.ff)
      have fin : ∀ (F5 : Hp) (ks : List Str) (es : List DL.D), Gr F4 H4 F5 H5 → Rp K F5 (.ref a) (.exn a d ks es) → ((d = none ∧ ks = [] ∧ es = [] ∧ flds kind = []) ∨ ks = (flds kind).reverse ∧ es = as.reverse) →
          uS K (m_suite K C L G_law_same gN a (.ref (C kind)) d) { nx := fun σ' H' => uS K (sRet (mC (.bl false))) { nx := fun _ H' => Q .non H', rt := Q } (σ'.set 5 none) H', rt := Q, bk := fun σ' H' => False, ct := fun σ' H' => False } (σ2.set 5 (some (.ref a))) H5 := fun F5 ks es g5 rx hks => by
        refine ⟨F5, _, .rt (.bl true), g5.fh, (r2'.mono g5.ff).set rx, hsuite a d ks es hks, fun v F6 H6 g6 r6 => ?_⟩
        exact q v F6 H6 ((((g1.trans g2).trans g3).trans g4).trans (g5.trans g6)) r6
      rcases hcase with ⟨c1, c2, c3⟩ | ⟨dd, c1, c2, c3⟩
      · subst c2 c3
        exact fin F4 [] [] (Gr.refl g4.fh) Rp.E0 (.inl ⟨rfl, rfl, rfl, c1⟩)
      · subst c2 c3
        have hn4 : F4 dd = none := g4.fh.free c1
        have hus : us.length = (flds kind).length := by rw [rus.length, hlen]
        refine fin (upd F4 dd (.xd ((flds kind).zip us).reverse)) (flds kind).reverse as.reverse (Gr.upd g4.fh c1) (Rp.E1 (vs := us.reverse) ?_ (by simp [hus]) (rus.mono (same_upd hn4)).reverse) (.inr ⟨rfl, rfl⟩)
        rw [upd_same, zip_rev hus.symm]
end
end K23
namespace DL
open PySem PySem.Spec PyProof.Rows L2
theorem loop_inv {i : Nat} {f : SS} (P : En → Prop) : ∀ {ds : List D} {env : En}, (∀ d ∈ ds, ∀ e, P e → ∃ e', f (e.set i (some d)) = some (.nx e') ∧ P e') → P env → ∃ e', loop i f ds env = some (.nx e') ∧ P e'
  | [], env, _, p => ⟨env, rfl, p⟩
  | d :: ds, env, h, p => by
    obtain ⟨e1, h1, p1⟩ := h d List.mem_cons_self env p
    obtain ⟨e2, h2, p2⟩ := loop_inv P (fun d' m => h d' (List.mem_cons_of_mem _ m)) p1
    refine ⟨e2, ?_, p2⟩
    show (f (env.set i (some d))).bind _ = _
    rw [h1]
    exact h2
theorem loop_ix {i : Nat} {f : SS} (P : Nat → En → Prop) {ds : List D} (h : ∀ (j : Nat) (d : D), ds[j]? = some d → ∀ e, P j e → ∃ e', f (e.set i (some d)) = some (.nx e') ∧ P (j + 1) e') {env : En} (p : P 0 env) : ∃ e', loop i f ds env = some (.nx e') ∧ P ds.length e' := by
  suffices H : ∀ (m j : Nat) (env : En), ds.length = j + m → P j env → ∃ e', loop i f (ds.drop j) env = some (.nx e') ∧ P ds.length e' by
    simpa using H ds.length 0 env (by omega) p
  intro m
  induction m with
  | zero =>
    intro j env hj p
    refine ⟨env, ?_, by rw [hj]; exact p⟩
    rw [List.drop_eq_nil_of_le (by omega)]
    rfl
  | succ m ih =>
    intro j env hj p
    have hl : j < ds.length := by omega
    obtain ⟨e1, h1, p1⟩ := h j ds[j] (by simp [hl]) env p
    obtain ⟨e2, h2, p2⟩ := ih (j + 1) e1 (by omega) p1
    refine ⟨e2, ?_, p2⟩
    rw [List.drop_eq_getElem_cons hl]
    show (f (env.set i (some ds[j]))).bind _ = _
    rw [h1]
    exact h2
theorem mem_rngD {n : Int} {d : D} (h : d ∈ rngD n) : ∃ i : Nat, (i : Int) < n ∧ d = .int i := by
  obtain ⟨i, hi⟩ := List.mem_iff_getElem?.mp h
  obtain ⟨h1, h2⟩ := rngD_get hi
  exact ⟨i, by omega, h2⟩
theorem rngD_length {n : Int} : (rngD n).length = n.toNat := by simp [rngD]
theorem mapO_all {f : D → Option D} {R : D → Prop} : ∀ {ds : List D}, (∀ d ∈ ds, ∃ e, f d = some e ∧ R e) → ∃ es, mapO f ds = some es ∧ es.length = ds.length ∧ ∀ e ∈ es, R e
  | [], _ => ⟨[], rfl, rfl, by simp⟩
  | d :: ds, h => by
    obtain ⟨e, h1, r1⟩ := h d List.mem_cons_self
    obtain ⟨es, h2, l2, r2⟩ := mapO_all (f := f) (R := R) (ds := ds) fun d' m => h d' (List.mem_cons_of_mem _ m)
    exact ⟨e :: es, by simp [mapO, h1, h2], by simp [l2], by
      intro x hx
      rcases List.mem_cons.mp hx with rfl | hx
      · exact r1
      · exact r2 x hx⟩
theorem atI_pos {α : Type} {xs : List α} {i : Int} (h : 0 ≤ i) (h2 : i < xs.length) : ∃ x, atI xs i = some x ∧ x ∈ xs := by
  obtain ⟨n, rfl⟩ := Int.eq_ofNat_of_zero_le h
  refine ⟨xs[n]'(by omega), ?_, List.getElem_mem _⟩
  unfold atI
  have : ixN xs.length (n : Int) = some n := by
    unfold ixN
    simp
    omega
  rw [this]
  simp
end DL
namespace K23
open PySem PySem.Spec PyProof.Rows L2 DL
def Gcell : List D → Option D := mean 2 2 m_law_cell
def Gdraw : List D → Option D := mean 4 4 (m_law_draw Gcell)
def Gwords : List D → Option D := mean 3 3 (m_law_words Gdraw)
def Gcount : List D → Option D := mean 3 0 (m_law_count Gdraw)
def Gsum : List D → Option D := mean 3 0 (m_law_sum Gcount Gwords)
def Gstep : List D → Option D := mean 3 0 (m_law_step Gdraw)
def Gpair : List D → Option D := mean 3 1 (m_law_pair Gdraw Gsum)
def Gitem : List D → Option D := mean 2 6 (m_law_item Gwords Gsum Gcount Gdraw)
def Gpart : List D → Option D := mean 2 6 (m_law_part Gdraw Gsum Gcount)
def Garg : List D → Option D := mean 3 1 (m_law_arguments Gwords Gsum Gdraw Gstep Gpair Gcount Gitem Gpart)
theorem cell_ok (ns : List Int) (at_ : Int) (h : 0 ≤ at_) : ∃ v, Gcell [.scr ns, .int at_] = some (.int v) := by
  unfold Gcell mean m_law_cell
  by_cases hl : at_ < ns.length
  · obtain ⟨x, hx, _⟩ := atI_pos h hl
    exact ⟨x, by simp [sSeq, sIf, mB, m2, mFn, mCons, mNil, mVar, gLt, gLen, hl, sRet, gInt, gIx, hx, res]⟩
  · obtain ⟨e', h1, v, h2⟩ := loop_inv (i := 3) (f := sAsg 2 (m2 gMod (mFn gInt (mCons (m2 gAdd (m2 gMul (mVar 2) (mC (.int 31))) (mVar 3)) mNil)) (mC (.int 1000000007)))) (fun e => ∃ v x, e = [some (.scr ns), some (.int at_), some (.int v), x]) (ds := ns.map D.int) (env := [some (.scr ns), some (.int at_), some (.int (11 + 101 * at_)), none]) (by
      intro d hd e ⟨v, x, he⟩
      obtain ⟨c, _, rfl⟩ := List.mem_map.mp hd
      subst he
      exact ⟨[some (.scr ns), some (.int at_), some (.int ((v * 31 + c) % 1000000007)), some (.int c)], by simp [sAsg, m2, mFn, mCons, mNil, mVar, mC, gMul, gAdd, gInt, gMod], _, _, rfl⟩) ⟨_, _, rfl⟩
    obtain ⟨x, rfl⟩ := h2
    exact ⟨v, by simp [sSeq, sIf, mB, m2, mFn, mCons, mNil, mVar, gLt, gLen, hl, sRet, sNext, sAsg, gMul, gAdd, mC, sFor, mItems, gItems, h1, res]⟩
theorem draw_tail (ns : List Int) (at_ k size c : Int) (x5 x6 x7 : Option D) (hs : 0 < size) : ∃ v : Int, (sSeq (sAsg 5 (m2 gMod (mFn gInt (mCons (m2 gAdd (m2 gAdd (mVar 4) (m2 gMul (mC (.int 7919)) (mVar 2))) (mC (.int 13))) mNil)) (mC (.int 2147483647)))) (sSeq (sAsg 5 (m2 gMod (mFn gInt (mCons (m2 gMul (mVar 5) (m2 gAdd (mVar 5) (mC (.int 48271)))) mNil)) (mC (.int 2147483629)))) (sSeq (sAsg 5 (m2 gMod (mFn gInt (mCons (m2 gAdd (m2 gMul (mVar 5) (m2 gAdd (mVar 5) (mC (.int 69621)))) (m2 gMul (mC (.int 31)) (mVar 2))) mNil)) (mC (.int 2147483647)))) (sRet (m2 gMod (mFn gInt (mCons (m2 gDiv (mVar 5) (mC (.int 9))) mNil)) (mVar 3))))))
    [some (.scr ns), some (.int at_), some (.int k), some (.int size), some (.int c), x5, x6, x7] = some (.rt (.int (v % size))) := by
  refine ⟨?_, ?_⟩
  case refine_2 =>
    have h1 : ∀ a b : Int, 0 < b → b < 2 ^ 62 → gMul (.int (a % b)) (.int (a % b + 48271)) = some (.int (a % b * (a % b + 48271))) := fun a b hb hb2 => by
      have := Int.emod_nonneg a (by omega : b ≠ 0)
      have := Int.emod_lt_of_pos a hb
      simp only [gMul]
      rw [if_pos (.inl ⟨by omega, by omega⟩)]
    have h2 : ∀ a b : Int, 0 < b → b < 2 ^ 62 → gMul (.int (a % b)) (.int (a % b + 69621)) = some (.int (a % b * (a % b + 69621))) := fun a b hb hb2 => by
      have := Int.emod_nonneg a (by omega : b ≠ 0)
      have := Int.emod_lt_of_pos a hb
      simp only [gMul]
      rw [if_pos (.inl ⟨by omega, by omega⟩)]
    have h3 : ∀ a : Int, gMul (.int 7919) (.int a) = some (.int (7919 * a)) := fun a => by simp [gMul]
    have h4 : ∀ a : Int, gMul (.int 31) (.int a) = some (.int (31 * a)) := fun a => by simp [gMul]
    have h5 : ∀ a : Int, gMod (.int a) (.int size) = some (.int (a % size)) := fun a => by simp [gMod, hs]
    have h6 : ∀ a : Int, gMod (.int a) (.int 2147483647) = some (.int (a % 2147483647)) := fun a => by simp [gMod]
    have h7 : ∀ a : Int, gMod (.int a) (.int 2147483629) = some (.int (a % 2147483629)) := fun a => by simp [gMod]
    have h8 : ∀ a : Int, gDiv (.int a) (.int 9) = some (.int (a / 9)) := fun a => by simp [gDiv]
    simp only [sSeq, sAsg, sRet, m2, mFn, mCons, mNil, mVar, mC, h3, h4, h5, h6, h7, h8, gAdd, gInt, Option.bind_some, Option.map_some, Option.join_some, List.getElem?_cons_zero, List.getElem?_cons_succ, List.set_cons_succ, List.set_cons_zero]
    rw [h1 _ _ (by decide) (by decide)]
    simp only [sSeq, sAsg, sRet, m2, mFn, mCons, mNil, mVar, mC, h3, h4, h5, h6, h7, h8, gAdd, gInt, Option.bind_some, Option.map_some, Option.join_some, List.getElem?_cons_zero, List.getElem?_cons_succ, List.set_cons_succ, List.set_cons_zero]
    rw [h2 _ _ (by decide) (by decide)]
    simp only [sSeq, sAsg, sRet, m2, mFn, mCons, mNil, mVar, mC, h3, h4, h5, h6, h7, h8, gAdd, gInt, Option.bind_some, Option.map_some, Option.join_some, List.getElem?_cons_zero, List.getElem?_cons_succ, List.set_cons_succ, List.set_cons_zero]
    rfl
theorem draw_ok (ns : List Int) (at_ k size : Int) (h : 0 ≤ at_) (hk : 0 ≤ k) (hk2 : k < 2 ^ 30) (hs : 0 < size) : ∃ v, Gdraw [.scr ns, .int at_, .int k, .int size] = some (.int v) ∧ 0 ≤ v ∧ v < size := by
  obtain ⟨c, hc⟩ := cell_ok ns at_ h
  have hp : gPow (.int 10) (.int 18) = some (.int 1000000000000000000) := by simp [gPow]
  by_cases hb : 1000000000000000000 ≤ c
  · obtain ⟨e', h1, x6, x7, rfl⟩ := loop_inv (i := 7) (f := sAsg 6 (m2 gDiv (mVar 6) (mC (.int 1000003)))) (fun e => ∃ v x, e = [some (.scr ns), some (.int at_), some (.int k), some (.int size), some (.int c), none, some (.int v), x]) (ds := rngD k) (env := [some (.scr ns), some (.int at_), some (.int k), some (.int size), some (.int c), none, some (.int c), none]) (by
      intro d hd e ⟨v, x, he⟩
      subst he
      exact ⟨[some (.scr ns), some (.int at_), some (.int k), some (.int size), some (.int c), none, some (.int (v / 1000003)), some d], by simp [sAsg, m2, mVar, mC, gDiv], _, _, rfl⟩) ⟨_, _, rfl⟩
    by_cases hr : 0 < x6
    · refine ⟨x6 % 1000003 % size, ?_, Int.emod_nonneg _ (by omega), Int.emod_lt_of_pos _ hs⟩
      unfold Gdraw mean m_law_draw
      simp [sSeq, sIf, mB, m2, mFn, mCons, mNil, mVar, mC, sRet, sNext, sAsg, ap, hc, hp, gGe, hb, sFor, mRng, gRng, (by omega : k < 1099511627776), (by omega : -1099511627776 < k), h1, gGt, hr, gInt, gMod, hs, res]
    · obtain ⟨v, v3⟩ := draw_tail ns at_ k size c none (some (.int x6)) x7 hs
      refine ⟨v % size, ?_, Int.emod_nonneg _ (by omega), Int.emod_lt_of_pos _ hs⟩
      unfold Gdraw mean m_law_draw
      have e1 : ∀ f : SS, sSeq (sAsg 4 (mFn (ap 2 Gcell) (mCons (mVar 0) (mCons (mVar 1) mNil)))) (sSeq (sIf (mB (m2 gGe (mVar 4) (m2 gPow (mC (.int 10)) (mC (.int 18))))) (sSeq (sAsg 6 (mVar 4)) (sSeq (sFor 7 (mRng (mCons (mVar 2) mNil)) (sAsg 6 (m2 gDiv (mVar 6) (mC (.int 1000003))))) (sIf (mB (m2 gGt (mVar 6) (mC (.int 0)))) (sRet (m2 gMod (m2 gMod (mFn gInt (mCons (mVar 6) mNil)) (mC (.int 1000003))) (mVar 3))) sNext))) sNext) f) [some (.scr ns), some (.int at_), some (.int k), some (.int size), none, none, none, none] = f [some (.scr ns), some (.int at_), some (.int k), some (.int size), some (.int c), none, some (.int x6), x7] := fun f => by
        simp [sSeq, sIf, mB, m2, mFn, mCons, mNil, mVar, mC, sRet, sNext, sAsg, ap, hc, hp, gGe, hb, sFor, mRng, gRng, (by omega : k < 1099511627776), (by omega : -1099511627776 < k), h1, gGt, hr]
      show Option.bind (sSeq _ _ [some (.scr ns), some (.int at_), some (.int k), some (.int size), none, none, none, none]) res = _
      rw [e1, v3]
      rfl
  · obtain ⟨v, v3⟩ := draw_tail ns at_ k size c none none none hs
    refine ⟨v % size, ?_, Int.emod_nonneg _ (by omega), Int.emod_lt_of_pos _ hs⟩
    unfold Gdraw mean m_law_draw
    have e1 : ∀ f : SS, sSeq (sAsg 4 (mFn (ap 2 Gcell) (mCons (mVar 0) (mCons (mVar 1) mNil)))) (sSeq (sIf (mB (m2 gGe (mVar 4) (m2 gPow (mC (.int 10)) (mC (.int 18))))) (sSeq (sAsg 6 (mVar 4)) (sSeq (sFor 7 (mRng (mCons (mVar 2) mNil)) (sAsg 6 (m2 gDiv (mVar 6) (mC (.int 1000003))))) (sIf (mB (m2 gGt (mVar 6) (mC (.int 0)))) (sRet (m2 gMod (m2 gMod (mFn gInt (mCons (mVar 6) mNil)) (mC (.int 1000003))) (mVar 3))) sNext))) sNext) f) [some (.scr ns), some (.int at_), some (.int k), some (.int size), none, none, none, none] = f [some (.scr ns), some (.int at_), some (.int k), some (.int size), some (.int c), none, none, none] := fun f => by
      simp [sSeq, sIf, mB, m2, mFn, mCons, mNil, mVar, mC, sRet, sNext, sAsg, ap, hc, hp, gGe, hb]
    show Option.bind (sSeq _ _ [some (.scr ns), some (.int at_), some (.int k), some (.int size), none, none, none, none]) res = _
    rw [e1, v3]
    rfl
def atom : D → Prop
  | .non => True
  | .bl _ => True
  | .int _ => True
  | .str _ => True
  | _ => False
/-- plain data, at most n deep -/
def Gd : Nat → D → Prop
  | 0, d => atom d
  | n + 1, d => atom d ∨ ∃ ds : List D, (d = .lst ds ∨ d = .tup ds) ∧ ds.length ≤ 1000 ∧ ∀ x ∈ ds, Gd n x
theorem Gd.up : ∀ {n : Nat} {d : D}, Gd n d → Gd (n + 1) d
  | 0, d, h => .inl h
  | n + 1, d, h => by
    rcases h with h | ⟨ds, h1, h2, h3⟩
    · exact .inl h
    · exact .inr ⟨ds, h1, h2, fun x hx => Gd.up (h3 x hx)⟩
theorem Gd.I {n : Nat} {i : Int} : Gd n (.int i) := by
  cases n
  · exact trivial
  · exact .inl trivial
theorem Gd.S {n : Nat} {i : Str} : Gd n (.str i) := by
  cases n
  · exact trivial
  · exact .inl trivial
theorem Gd.T {n : Nat} {ds : List D} (h : ds.length ≤ 1000) (h2 : ∀ x ∈ ds, Gd n x) : Gd (n + 1) (.tup ds) := .inr ⟨ds, .inr rfl, h, h2⟩
theorem Gd.L {n : Nat} {ds : List D} (h : ds.length ≤ 1000) (h2 : ∀ x ∈ ds, Gd n x) : Gd (n + 1) (.lst ds) := .inr ⟨ds, .inl rfl, h, h2⟩
theorem words_ok (ns : List Int) (at_ k : Int) (h : 0 ≤ at_) (hk : 0 ≤ k) (hk2 : k < 1000000) : ∃ z, Gwords [.scr ns, .int at_, .int k] = some (.str z) := by
  obtain ⟨n, hn, n0, n1⟩ := draw_ok ns at_ k 20 h hk (by omega) (by decide)
  have hsl : ((" !\"#$&'()*+,-./0123456789:;<=>?@ABCDEFGHIJKLMNOPQRSTUVWXYZ[\\]^_`" : Str) ++ ("abcdefghijklmnopqrstuvwxyz{|}~\n" : Str)).length = 95 := by decide +kernel
  have hl1 : (" !\"#$&'()*+,-./0123456789:;<=>?@ABCDEFGHIJKLMNOPQRSTUVWXYZ[\\]^_`" : Str).length + ("abcdefghijklmnopqrstuvwxyz{|}~\n" : Str).length = 95 := by decide +kernel
  generalize hA : (" !\"#$&'()*+,-./0123456789:;<=>?@ABCDEFGHIJKLMNOPQRSTUVWXYZ[\\]^_`" : Str) = A at hsl hl1
  generalize hB : ("abcdefghijklmnopqrstuvwxyz{|}~\n" : Str) = B at hsl hl1
  obtain ⟨e', h1, v, x, h2, h3⟩ := loop_ix (i := 5) (f := sAsg 4 (m2 gAdd (mVar 4) (m2 gIx (mVar 3) (mFn (ap 4 Gdraw) (mCons (mVar 0) (mCons (mVar 1) (mCons (m2 gAdd (m2 gAdd (mVar 2) (mC (.int 1))) (mVar 5)) (mCons (mC (.int 95)) mNil)))))))) (fun j e => ∃ (v : Str) (x : Option D), v.length = j ∧ e = [some (.scr ns), some (.int at_), some (.int k), some (.str (A ++ B)), some (.str v), x]) (ds := rngD n) (env := [some (.scr ns), some (.int at_), some (.int k), some (.str (A ++ B)), some (.str ("" : Str)), none]) (by
    intro j d hd e ⟨v, x, hv, he⟩
    subst he
    obtain ⟨j1, rfl⟩ := rngD_get hd
    obtain ⟨c, hc, c0, c1⟩ := draw_ok ns at_ (k + 1 + j) 95 h (by omega) (by omega) (by decide)
    obtain ⟨cc, hcc, _⟩ := atI_pos (xs := (A ++ B).cps.toList) c0 (by show _ < ((A ++ B).cps.toList.length : Int); rw [Array.length_toList]; show _ < (((A ++ B).length : Nat) : Int); omega)
    exact ⟨[some (.scr ns), some (.int at_), some (.int k), some (.str (A ++ B)), some (.str (v ++ (⟨#[cc]⟩ : Str))), some (.int j)], by
      have l1 : (⟨#[cc]⟩ : Str).length = 1 := rfl
      have l2 : v.length + 1 ≤ 1000000 := by omega
      simp [sAsg, m2, mFn, mCons, mNil, mVar, mC, ap, gAdd, hc, gIx, hsl, hcc, l1, l2], _, _, by rw [strLen_append, hv]; rfl, rfl⟩) ⟨_, _, rfl, rfl⟩
  subst h3
  refine ⟨v, ?_⟩
  unfold Gwords mean m_law_words
  rw [hA, hB]
  simp [sSeq, sAsg, m2, mFn, mCons, mNil, mVar, mC, ap, hn, gAdd, hl1, sFor, mRng, gRng, (by omega : n < 1099511627776), (by omega : -1099511627776 < n), h1, sRet, res]
theorem count_ok (ns : List Int) (at_ k : Int) (h : 0 ≤ at_) (hk : 0 ≤ k) (hk2 : k < 1000000) : ∃ z, Gcount [.scr ns, .int at_, .int k] = some (.int z) := by
  obtain ⟨n, hn, n0, n1⟩ := draw_ok ns at_ k 2 h hk (by omega) (by decide)
  obtain ⟨m, hm, m0, m1⟩ := draw_ok ns at_ (k + 1) 20 h (by omega) (by omega) (by decide)
  obtain ⟨p, hp, p0, p1⟩ := draw_ok ns at_ (k + 1) 1000000 h (by omega) (by omega) (by decide)
  obtain ⟨q, hq, q0, q1⟩ := draw_ok ns at_ (k + 2) 1000001 h (by omega) (by omega) (by decide)
  by_cases z : n = 0
  · exact ⟨m, by simp [Gcount, mean, m_law_count, sSeq, sIf, mB, m2, mFn, mCons, mNil, mVar, mC, ap, hn, hm, z, gEq, gAdd, sRet, res]⟩
  · exact ⟨p * 1000000 + q, by simp [Gcount, mean, m_law_count, sSeq, sIf, mB, m2, mFn, mCons, mNil, mVar, mC, ap, hn, hp, hq, z, gEq, gAdd, gMul, sRet, sNext, res]⟩
theorem sum_ok (ns : List Int) (at_ k : Int) (h : 0 ≤ at_) (hk : 0 ≤ k) (hk2 : k < 100000) : ∃ x y z, Gsum [.scr ns, .int at_, .int k] = some (.tup [.str x, .int y, .int z]) := by
  obtain ⟨x, hx⟩ := words_ok ns at_ k h hk (by omega)
  obtain ⟨y, hy⟩ := count_ok ns at_ (k + 20) h (by omega) (by omega)
  obtain ⟨z, hz⟩ := count_ok ns at_ (k + 23) h (by omega) (by omega)
  exact ⟨x, y, z, by simp [Gsum, mean, m_law_sum, mFn, mCons, mNil, mVar, mC, m2, ap, hx, hy, hz, gAdd, DL.gTup, sRet, res]⟩
theorem step_ok (ns : List Int) (at_ k : Int) (h : 0 ≤ at_) (hk : 0 ≤ k) (hk2 : k < 100000) : ∃ x y, Gstep [.scr ns, .int at_, .int k] = some (.tup [.int x, .str y]) := by
  obtain ⟨x, hx, _⟩ := draw_ok ns at_ k 400 h hk (by omega) (by decide)
  obtain ⟨y, hy, y0, y1⟩ := draw_ok ns at_ (k + 1) 2 h (by omega) (by omega) (by decide)
  have : y = 0 ∨ y = 1 := by omega
  rcases this with rfl | rfl
  · exact ⟨x, "high", by simp [Gstep, mean, m_law_step, mFn, mCons, mNil, mVar, mC, m2, ap, hx, hy, gAdd, DL.gTup, DL.gLst, gIx, atI, ixN, sRet, res]⟩
  · exact ⟨x, "low", by simp [Gstep, mean, m_law_step, mFn, mCons, mNil, mVar, mC, m2, ap, hx, hy, gAdd, DL.gTup, DL.gLst, gIx, atI, ixN, sRet, res]⟩
theorem pair_ok (ns : List Int) (at_ k : Int) (h : 0 ≤ at_) (hk : 0 ≤ k) (hk2 : k < 10000) : ∃ x y z u, Gpair [.scr ns, .int at_, .int k] = some (.tup [.tup [.str x, .int y, .int z], .int u]) := by
  obtain ⟨p, hp, p0, p1⟩ := draw_ok ns at_ (k + 26) 1000000 h (by omega) (by omega) (by decide)
  obtain ⟨q, hq, q0, q1⟩ := draw_ok ns at_ (k + 27) 2 h (by omega) (by omega) (by decide)
  obtain ⟨x, y, z, hs⟩ := sum_ok ns at_ k h hk (by omega)
  have e1 : gMul (.int 2) (.int q) = some (.int (2 * q)) := by simp [gMul]
  have e2 : gMul (.int (1 + p)) (.int (1 - 2 * q)) = some (.int ((1 + p) * (1 - 2 * q))) := by
    simp only [gMul]
    rw [if_pos (.inl ⟨by omega, by omega⟩)]
  exact ⟨x, y, z, (1 + p) * (1 - 2 * q), by simp [Gpair, mean, m_law_pair, mFn, mCons, mNil, mVar, mC, m2, ap, hp, hq, hs, gAdd, DL.gSub, e1, e2, DL.gTup, sSeq, sAsg, sRet, res]⟩
theorem item_ok (ns : List Int) (at_ : Int) (h : 0 ≤ at_) : ∃ d, Gitem [.scr ns, .int at_] = some d ∧ Gd 3 d := by
  obtain ⟨w, hw⟩ := words_ok ns at_ 1 h (by omega) (by omega)
  obtain ⟨x, y, z, hs⟩ := sum_ok ns at_ 21 h (by omega) (by omega)
  obtain ⟨a, ha⟩ := count_ok ns at_ 47 h (by omega) (by omega)
  obtain ⟨b, hb⟩ := count_ok ns at_ 50 h (by omega) (by omega)
  obtain ⟨c, hc⟩ := count_ok ns at_ 53 h (by omega) (by omega)
  obtain ⟨q, hq, q0, q1⟩ := draw_ok ns at_ 0 5 h (by omega) (by omega) (by decide)
  obtain ⟨d, hd, hm⟩ := atI_pos (xs := [D.tup [.str "count", .str w, .int a, .int b, .int c], .tup [.str "close", .str w, .int a, .int b], .tup [.str "total", .tup [.str x, .int y, .int z], .int a, .int b], .tup [.str "row", .str w, .int a, .int b, .str x], .tup [.str "rows", .str w, .int a, .tup [.int b, .int c]]]) q0 (by simpa using q1)
  refine ⟨d, ?_, ?_⟩
  · have e0 : atI [D.str x, D.int y, D.int z] 0 = some (.str x) := rfl
    simp [Gitem, mean, m_law_item, mFn, mCons, mNil, mVar, mC, m2, ap, hw, hs, ha, hb, hc, hq, gAdd, DL.gTup, DL.gLst, gIx, sSeq, sAsg, sRet, e0, hd, res]
  · simp only [List.mem_cons, List.not_mem_nil, or_false] at hm
    rcases hm with rfl | rfl | rfl | rfl | rfl <;> refine Gd.T (by simp) ?_ <;> simp [Gd.I, Gd.S] <;> exact Gd.T (by simp) (by simp [Gd.I, Gd.S])
theorem part_ok (ns : List Int) (at_ : Int) (h : 0 ≤ at_) : ∃ d, Gpart [.scr ns, .int at_] = some d ∧ Gd 4 d := by
  obtain ⟨s, hs0, s0, s1⟩ := draw_ok ns at_ 1 3 h (by omega) (by omega) (by decide)
  obtain ⟨sg, hsg, hsm⟩ := atI_pos (xs := [D.str "<=", .str ">=", .str "="]) s0 (by simpa using s1)
  obtain ⟨sz, rfl⟩ : ∃ z, sg = .str z := by
    simp only [List.mem_cons, List.not_mem_nil, or_false] at hsm
    rcases hsm with rfl | rfl | rfl <;> exact ⟨_, rfl⟩
  obtain ⟨x, y, z, hs⟩ := sum_ok ns at_ 21 h (by omega) (by omega)
  obtain ⟨a, ha⟩ := count_ok ns at_ 47 h (by omega) (by omega)
  obtain ⟨b, hb⟩ := count_ok ns at_ 50 h (by omega) (by omega)
  obtain ⟨c, hc⟩ := count_ok ns at_ 53 h (by omega) (by omega)
  obtain ⟨q, hq, q0, q1⟩ := draw_ok ns at_ 0 4 h (by omega) (by omega) (by decide)
  obtain ⟨d, hd, hm⟩ := atI_pos (xs := [D.tup [.str "is", .tup [.str x, .int y, .int z], .str sz, .int a], .tup [.str "some", .str x, .int a, .int b, .int c, .str sz, .int a], .tup [.str "row", .int b, .str x, .int a, .int b, .int c, .str sz, .int a], .tup [.str "not", .tup [.str "is", .tup [.str x, .int y, .int z], .str sz, .int c]]]) q0 (by simpa using q1)
  refine ⟨d, ?_, ?_⟩
  · have e0 : atI [D.str x, D.int y, D.int z] 0 = some (.str x) := rfl
    simp [Gpart, mean, m_law_part, mFn, mCons, mNil, mVar, mC, m2, ap, hs, hsg, hs0, ha, hb, hc, hq, gAdd, DL.gTup, DL.gLst, gIx, sSeq, sAsg, sRet, e0, hd, res]
  · have t : ∀ n, Gd (n + 1) (.tup [.str x, .int y, .int z]) := fun n => Gd.T (by simp) (by simp [Gd.I, Gd.S])
    simp only [List.mem_cons, List.not_mem_nil, or_false] at hm
    rcases hm with rfl | rfl | rfl | rfl <;> refine Gd.T (by simp) ?_ <;> simp [Gd.I, Gd.S, t]
    exact Gd.T (by simp) (by simp [Gd.I, Gd.S, t])
theorem tup3 {n : Nat} {x : Str} {y z : Int} : Gd (n + 1) (.tup [.str x, .int y, .int z]) := Gd.T (by simp) (by simp [Gd.I, Gd.S])
theorem args_ok (ns : List Int) (at_ : Int) (h : 0 ≤ at_) : ∀ (kind : Nat), kind < 27 → ∃ as, Garg [.scr ns, .int at_, .int kind] = some (.lst as) ∧ as.length = (flds kind).length ∧ ∀ a ∈ as, Gd 4 a
  | 0, _ => by
    obtain ⟨w, hw⟩ := words_ok ns at_ 0 h (by omega) (by omega)
    exact ⟨[.str w], by simp [Garg, mean, m_law_arguments, mFn, mCons, mNil, mVar, mC, m2, ap, hw, gEq, mB, mOr, gIn, allInts, DL.gLst, sSeq, sIf, sNext, sRet, res], by simp [flds], by simp [Gd.I, Gd.S]⟩
  | 1, _ => ⟨[], by simp [Garg, mean, m_law_arguments, mFn, mCons, mNil, mVar, mC, m2, ap, gEq, mB, mOr, gIn, allInts, DL.gLst, sSeq, sIf, sNext, sRet, res], rfl, by simp⟩
  | 2, _ => by
    obtain ⟨x, y, z, hs⟩ := sum_ok ns at_ 0 h (by omega) (by omega)
    exact ⟨[.tup [.str x, .int y, .int z]], by simp [Garg, mean, m_law_arguments, mFn, mCons, mNil, mVar, mC, m2, ap, hs, gEq, mB, mOr, gIn, allInts, DL.gLst, sSeq, sIf, sNext, sRet, res], by simp [flds], by simp [Gd.I, Gd.S, tup3]⟩
  | 3, _ => by
    obtain ⟨w, hw⟩ := words_ok ns at_ 0 h (by omega) (by omega)
    exact ⟨[.str w], by simp [Garg, mean, m_law_arguments, mFn, mCons, mNil, mVar, mC, m2, ap, hw, gEq, mB, mOr, gIn, allInts, DL.gLst, sSeq, sIf, sNext, sRet, res], by simp [flds], by simp [Gd.I, Gd.S]⟩
  | 4, _ => ⟨[], by simp [Garg, mean, m_law_arguments, mFn, mCons, mNil, mVar, mC, m2, ap, gEq, mB, mOr, gIn, allInts, DL.gLst, sSeq, sIf, sNext, sRet, res], rfl, by simp⟩
  | 5, _ => by
    obtain ⟨n, hn, n0, n1⟩ := draw_ok ns at_ 0 5 h (by omega) (by omega) (by decide)
    obtain ⟨es, h1, h2, h3⟩ := mapO_all (ds := rngD n) (f := fun d => mFn (ap 3 Gstep) (mCons (mVar 0) (mCons (mVar 1) (mCons (m2 gAdd (mC (.int 1)) (m2 gMul (mC (.int 2)) (mVar 3))) mNil))) [some (.scr ns), some (.int at_), some (.int 5), some d]) (R := Gd 2) (by
      intro d hd
      obtain ⟨i, hi, rfl⟩ := mem_rngD hd
      obtain ⟨x, y, hs⟩ := step_ok ns at_ (1 + 2 * i) h (by omega) (by omega)
      exact ⟨.tup [.int x, .str y], by simp [mFn, mCons, mNil, mVar, mC, m2, ap, gAdd, gMul, hs], Gd.T (by simp) (by simp [Gd.I, Gd.S])⟩)
    rw [rngD_length] at h2
    exact ⟨[.lst es], by simp [Garg, mean, m_law_arguments, mFn, mCons, mNil, mVar, mC, m2, ap, hn, gEq, mB, mOr, DL.gLst, sSeq, sIf, sNext, sRet, mLc, mRng, gRng, (by omega : n < 1099511627776), (by omega : -1099511627776 < n), rngD_length, (by omega : n ≤ 1000000)]; simp only [mFn, mCons, mNil, mVar, mC, m2] at h1; simp at h1; simp [h1, DL.gLst, res], by simp [flds], by simp; exact Gd.L (by omega) fun e he => (h3 e he).up⟩
  | 6, _ => ⟨[], by simp [Garg, mean, m_law_arguments, mFn, mCons, mNil, mVar, mC, m2, ap, gEq, mB, mOr, gIn, allInts, DL.gLst, sSeq, sIf, sNext, sRet, res], rfl, by simp⟩
  | 7, _ => by
    obtain ⟨n, hn, n0, n1⟩ := draw_ok ns at_ 0 5 h (by omega) (by omega) (by decide)
    obtain ⟨es, h1, h2, h3⟩ := mapO_all (ds := rngD n) (f := fun d => mFn (ap 3 Gpair) (mCons (mVar 0) (mCons (mVar 1) (mCons (m2 gAdd (mC (.int 1)) (m2 gMul (mC (.int 30)) (mVar 3))) mNil))) [some (.scr ns), some (.int at_), some (.int 7), some d]) (R := Gd 3) (by
      intro d hd
      obtain ⟨i, hi, rfl⟩ := mem_rngD hd
      obtain ⟨x, y, z, u, hs⟩ := pair_ok ns at_ (1 + 30 * i) h (by omega) (by omega)
      exact ⟨.tup [.tup [.str x, .int y, .int z], .int u], by simp [mFn, mCons, mNil, mVar, mC, m2, ap, gAdd, gMul, hs], Gd.T (by simp) (by simp [Gd.I, tup3])⟩)
    rw [rngD_length] at h2
    exact ⟨[.lst es], by simp [Garg, mean, m_law_arguments, mFn, mCons, mNil, mVar, mC, m2, ap, hn, gEq, mB, mOr, DL.gLst, sSeq, sIf, sNext, sRet, mLc, mRng, gRng, (by omega : n < 1099511627776), (by omega : -1099511627776 < n), rngD_length, (by omega : n ≤ 1000000)]; simp only [mFn, mCons, mNil, mVar, mC, m2] at h1; simp at h1; simp [h1, DL.gLst, res], by simp [flds], by simp; exact Gd.L (by omega) fun e he => h3 e he⟩
  | 8, _ => by
    obtain ⟨⟨a, ha⟩, b, hb⟩ := And.intro (count_ok ns at_ 0 h (by omega) (by omega)) (count_ok ns at_ 3 h (by omega) (by omega))
    exact ⟨[.int a, .int b], by simp [Garg, mean, m_law_arguments, mFn, mCons, mNil, mVar, mC, m2, ap, ha, hb, gEq, mB, mOr, gIn, allInts, DL.gLst, sSeq, sIf, sNext, sRet, res], by simp [flds], by simp [Gd.I, Gd.S]⟩
  | 9, _ => ⟨[], by simp [Garg, mean, m_law_arguments, mFn, mCons, mNil, mVar, mC, m2, ap, gEq, mB, mOr, gIn, allInts, DL.gLst, sSeq, sIf, sNext, sRet, res], rfl, by simp⟩
  | 10, _ => by
    obtain ⟨a, ha⟩ := count_ok ns at_ 0 h (by omega) (by omega)
    exact ⟨[.int a], by simp [Garg, mean, m_law_arguments, mFn, mCons, mNil, mVar, mC, m2, ap, ha, gEq, mB, mOr, gIn, allInts, DL.gLst, sSeq, sIf, sNext, sRet, res], by simp [flds], by simp [Gd.I, Gd.S]⟩
  | 11, _ => by
    obtain ⟨a, ha⟩ := count_ok ns at_ 0 h (by omega) (by omega)
    exact ⟨[.int a], by simp [Garg, mean, m_law_arguments, mFn, mCons, mNil, mVar, mC, m2, ap, ha, gEq, mB, mOr, gIn, allInts, DL.gLst, sSeq, sIf, sNext, sRet, res], by simp [flds], by simp [Gd.I, Gd.S]⟩
  | 12, _ => ⟨[], by simp [Garg, mean, m_law_arguments, mFn, mCons, mNil, mVar, mC, m2, ap, gEq, mB, mOr, gIn, allInts, DL.gLst, sSeq, sIf, sNext, sRet, res], rfl, by simp⟩
  | 13, _ => by
    obtain ⟨d, hd, gd⟩ := item_ok ns at_ h
    exact ⟨[d], by simp [Garg, mean, m_law_arguments, mFn, mCons, mNil, mVar, mC, m2, ap, hd, gEq, mB, mOr, gIn, allInts, DL.gLst, sSeq, sIf, sNext, sRet, res], by simp [flds], by simp [Gd.I, Gd.S, gd.up]⟩
  | 14, _ => by
    obtain ⟨a, ha⟩ := count_ok ns at_ 0 h (by omega) (by omega)
    exact ⟨[.int a], by simp [Garg, mean, m_law_arguments, mFn, mCons, mNil, mVar, mC, m2, ap, ha, gEq, mB, mOr, gIn, allInts, DL.gLst, sSeq, sIf, sNext, sRet, res], by simp [flds], by simp [Gd.I, Gd.S]⟩
  | 15, _ => by
    obtain ⟨d, hd, gd⟩ := part_ok ns at_ h
    exact ⟨[d], by simp [Garg, mean, m_law_arguments, mFn, mCons, mNil, mVar, mC, m2, ap, hd, gEq, mB, mOr, gIn, allInts, DL.gLst, sSeq, sIf, sNext, sRet, res], by simp [flds], by simp [Gd.I, Gd.S, gd]⟩
  | 16, _ => by
    obtain ⟨a, ha⟩ := count_ok ns at_ 0 h (by omega) (by omega)
    exact ⟨[.int a], by simp [Garg, mean, m_law_arguments, mFn, mCons, mNil, mVar, mC, m2, ap, ha, gEq, mB, mOr, gIn, allInts, DL.gLst, sSeq, sIf, sNext, sRet, res], by simp [flds], by simp [Gd.I, Gd.S]⟩
  | 17, _ => by
    obtain ⟨a, ha⟩ := count_ok ns at_ 0 h (by omega) (by omega)
    exact ⟨[.int a], by simp [Garg, mean, m_law_arguments, mFn, mCons, mNil, mVar, mC, m2, ap, ha, gEq, mB, mOr, gIn, allInts, DL.gLst, sSeq, sIf, sNext, sRet, res], by simp [flds], by simp [Gd.I, Gd.S]⟩
  | 18, _ => ⟨[], by simp [Garg, mean, m_law_arguments, mFn, mCons, mNil, mVar, mC, m2, ap, gEq, mB, mOr, gIn, allInts, DL.gLst, sSeq, sIf, sNext, sRet, res], rfl, by simp⟩
  | 19, _ => ⟨[], by simp [Garg, mean, m_law_arguments, mFn, mCons, mNil, mVar, mC, m2, ap, gEq, mB, mOr, gIn, allInts, DL.gLst, sSeq, sIf, sNext, sRet, res], rfl, by simp⟩
  | 20, _ => by
    obtain ⟨a, ha⟩ := count_ok ns at_ 0 h (by omega) (by omega)
    exact ⟨[.int a], by simp [Garg, mean, m_law_arguments, mFn, mCons, mNil, mVar, mC, m2, ap, ha, gEq, mB, mOr, gIn, allInts, DL.gLst, sSeq, sIf, sNext, sRet, res], by simp [flds], by simp [Gd.I, Gd.S]⟩
  | 21, _ => by
    obtain ⟨a, ha⟩ := count_ok ns at_ 0 h (by omega) (by omega)
    exact ⟨[.int a], by simp [Garg, mean, m_law_arguments, mFn, mCons, mNil, mVar, mC, m2, ap, ha, gEq, mB, mOr, gIn, allInts, DL.gLst, sSeq, sIf, sNext, sRet, res], by simp [flds], by simp [Gd.I, Gd.S]⟩
  | 22, _ => ⟨[], by simp [Garg, mean, m_law_arguments, mFn, mCons, mNil, mVar, mC, m2, ap, gEq, mB, mOr, gIn, allInts, DL.gLst, sSeq, sIf, sNext, sRet, res], rfl, by simp⟩
  | 23, _ => ⟨[], by simp [Garg, mean, m_law_arguments, mFn, mCons, mNil, mVar, mC, m2, ap, gEq, mB, mOr, gIn, allInts, DL.gLst, sSeq, sIf, sNext, sRet, res], rfl, by simp⟩
  | 24, _ => ⟨[], by simp [Garg, mean, m_law_arguments, mFn, mCons, mNil, mVar, mC, m2, ap, gEq, mB, mOr, gIn, allInts, DL.gLst, sSeq, sIf, sNext, sRet, res], rfl, by simp⟩
  | 25, _ => by
    obtain ⟨x, y, z, hs⟩ := sum_ok ns at_ 0 h (by omega) (by omega)
    exact ⟨[.tup [.str x, .int y, .int z]], by simp [Garg, mean, m_law_arguments, mFn, mCons, mNil, mVar, mC, m2, ap, hs, gEq, mB, mOr, gIn, allInts, DL.gLst, sSeq, sIf, sNext, sRet, res], by simp [flds], by simp [Gd.I, Gd.S, tup3]⟩
  | 26, _ => ⟨[], by simp [Garg, mean, m_law_arguments, mFn, mCons, mNil, mVar, mC, m2, ap, gEq, mB, mOr, gIn, allInts, DL.gLst, sSeq, sIf, sNext, sRet, res], rfl, by simp⟩
  | k + 27, hk => by omega
def Gsame : Nat → List D → Option D
  | 0 => fun _ => none
  | n + 1 => mean 2 2 (m_law_same (Gsame n))
theorem bind_at {α β : Type} {o : Option α} {x : α} {g : α → Option β} {y : Option β} (h : o = some x) (h2 : g x = y) : o.bind g = y := by
  subst h; exact h2
theorem rng_len {n : Nat} (h : n ≤ 1000) : gRng [D.int (n : Int)] = some (rngD n) := by
  simp only [gRng]
  rw [if_pos ⟨by omega, by omega⟩]
theorem len_seq {d : D} {ds : List D} (hd : d = .lst ds ∨ d = .tup ds) : gLen [d] = some (.int ds.length) := by rcases hd with rfl | rfl <;> rfl
theorem ne_seq {d : D} {m : Nat} {x : Option D} (hg : gLen [d] = some (.int m)) : m2 gNe (mFn gLen (mCons (mVar 0) mNil)) (mFn gLen (mCons (mVar 1) mNil)) [some d, some d, x, none] = some (.bl false) := by
  simp [m2, mFn, mCons, mVar, mNil, hg, gNe]
theorem for_seq {d : D} {m : Nat} {x : Option D} {f : SS} {q : Option Out} (hl : m ≤ 1000) (hg : gLen [d] = some (.int m)) (h1 : loop 3 f (rngD m) [some d, some d, x, none] = q) : sFor 3 (mRng (mCons (mFn gLen (mCons (mVar 1) mNil)) mNil)) f [some d, some d, x, none] = q := by
  have q0 : mCons (mFn gLen (mCons (mVar 1) mNil)) mNil [some d, some d, x, none] = some [.int m] := by simp [mCons, mFn, mVar, mNil, hg]
  exact bind_at (bind_at (g := gRng) q0 (rng_len hl)) h1
theorem at_seq {d v : D} {ds : List D} {i : Int} (hd : d = .lst ds ∨ d = .tup ds) (h : atI ds i = some v) : gIx d (.int i) = some v := by rcases hd with rfl | rfl <;> exact h
theorem fin_seq {n : SS} {d : D} {ds : List D} {x : Option D} {body : SS} (hd : d = .lst ds ∨ d = .tup ds) (hg : gLen [d] = some (.int ds.length)) (hF : body [some d, some d, some (.bl true), none] = some (.nx [some d, some d, some (.bl true), x])) :
    sSeq (sIf (mOr (mB (mIsi "list" (mVar 1))) (mB (mIsi "tuple" (mVar 1)))) (sSeq (sAsg 2 (mIsi "tuple" (mVar 0))) (sSeq (sIf (mB (mIsi "list" (mVar 1))) (sAsg 2 (mIsi "list" (mVar 0))) sNext) (sSeq (sIf (mOr (mNot (mB (mVar 2))) (mB (m2 gNe (mFn gLen (mCons (mVar 0) mNil)) (mFn gLen (mCons (mVar 1) mNil))))) (sRet (mC (.bl false))) sNext) (sSeq body (sRet (mC (.bl true))))))) sNext) n [some d, some d, none, none] = some (.rt (.bl true)) := by
  have hN := ne_seq (x := some (.bl true)) hg
  rcases hd with rfl | rfl <;> simp [sSeq, sIf, mOr, mNot, mB, mIsi, gIsi, tyD, isB, mVar, mC, hN, sAsg, sRet, sNext, hF]
theorem same_seq {n : Nat} {d : D} {ds : List D} (hd : d = .lst ds ∨ d = .tup ds) (hl : ds.length ≤ 1000) (h : ∀ x ∈ ds, Gsame n [x, x] = some (.bl true)) : Gsame (n + 1) [d, d] = some (.bl true) := by
  obtain ⟨e', h1, x, rfl⟩ := loop_inv (i := 3) (f := sIf (mNot (mB (mFn (ap 2 (Gsame n)) (mCons (m2 gIx (mVar 0) (mVar 3)) (mCons (m2 gIx (mVar 1) (mVar 3)) mNil))))) (sRet (mC (.bl false))) sNext) (fun e => ∃ x, e = [some d, some d, some (.bl true), x]) (ds := rngD ds.length) (env := [some d, some d, some (.bl true), none]) (by
    intro u hu e ⟨x, he⟩
    subst he
    obtain ⟨i, hi, rfl⟩ := mem_rngD hu
    obtain ⟨v, hv, hm⟩ := atI_pos (xs := ds) (i := (i : Int)) (by omega) hi
    have hv2 : gIx d (.int i) = some v := at_seq hd hv
    exact ⟨[some d, some d, some (.bl true), some (.int i)], by simp [sIf, mNot, mB, mFn, mCons, mNil, mVar, m2, hv2, ap, h v hm, sNext], _, rfl⟩) ⟨_, rfl⟩
  have hg := len_seq hd
  have e0 : Gsame (n + 1) [d, d] = (m_law_same (Gsame n) [some d, some d, none, none]).bind res := by simp [Gsame, mean]
  rw [e0]
  refine bind_at ?_ (rfl : res (.rt (.bl true)) = some (.bl true))
  exact fin_seq hd hg (for_seq hl hg h1)
theorem same_atom {n : Nat} : ∀ {d : D}, atom d → Gsame (n + 1) [d, d] = some (.bl true)
  | .non, _ => by simp [Gsame, mean, m_law_same, sSeq, sIf, mOr, mB, mIsi, gIsi, tyD, isB, mVar, sNext, mIsN, gIsN, sRet, res]
  | .bl b, _ => by simp [Gsame, mean, m_law_same, sSeq, sIf, mOr, mB, mIsi, gIsi, tyD, isB, mVar, sNext, mIsN, gIsN, sRet, mV, mAnd, m2, gEq, res]
  | .int b, _ => by simp [Gsame, mean, m_law_same, sSeq, sIf, mOr, mB, mIsi, gIsi, tyD, isB, mVar, sNext, mIsN, gIsN, sRet, mV, mAnd, mNot, m2, gEq, res]
  | .str b, _ => by simp [Gsame, mean, m_law_same, sSeq, sIf, mOr, mB, mIsi, gIsi, tyD, isB, mVar, sNext, mIsN, gIsN, sRet, mV, mAnd, m2, gEq, res]
theorem same_ok : ∀ {n : Nat} {d : D}, Gd n d → Gsame (n + 1) [d, d] = some (.bl true)
  | 0, d, h => same_atom h
  | n + 1, d, h => by
    rcases h with h | ⟨ds, h1, h2, h3⟩
    · exact same_atom h
    · exact same_seq h1 h2 fun x hx => same_ok (h3 x hx)
end K23
namespace K23
open PySem PySem.Spec PyProof.Rows L2 DL
theorem two_of {α : Type} : ∀ {l : List α}, l.length = 2 → ∃ x y, l = [x, y]
  | [x, y], _ => ⟨x, y, rfl⟩
theorem okx_of {C : Nat → Addr} {kind : Nat} {n : Str} (hk : kind < 27) (h : n ∈ flds kind) : okx C (.ref (C kind)) n = true := by
  unfold okx
  exact List.any_eq_true.mpr ⟨kind, List.mem_range.mpr hk, by simp [h]⟩
/-- the classes' table -/
structure Tabs (K : PySem.W.Frag) (L : List Addr) (C : Nat → Addr) : Prop where
  own : ∀ i j, i < 27 → j < 27 → tab K L (.ref (C i)) (.ref (C j)) = some (decide (i = j))
  ve : ∀ i, i < 27 → tab K L (.ref (C i)) (.type "ValueError") = some true
def m_told (C : Nat → Addr) (a : Addr) (cls : Value) (d : Option Addr) (R : SS) : SS :=
  (sSeq (sIf (mB (m2 gEq (mVar 1) (mC (.int 0)))) (sAsg 8 (mFn gLst (mCons (mXf a d (okx C cls "name") "name" (mVar 5)) mNil))) sNext) (sSeq (sIf (mOr (mB (m2 gEq (mVar 1) (mC (.int 2)))) (mB (m2 gEq (mVar 1) (mC (.int 25))))) (sAsg 8 (mFn gLst (mCons (mXf a d (okx C cls "asked") "asked" (mVar 5)) mNil))) sNext) (sSeq (sIf (mB (m2 gEq (mVar 1) (mC (.int 3)))) (sAsg 8 (mFn gLst (mCons (mXf a d (okx C cls "text") "text" (mVar 5)) mNil))) sNext) (sSeq (sIf (mB (m2 gEq (mVar 1) (mC (.int 5)))) (sAsg 8 (mFn gLst (mCons (mXf a d (okx C cls "ring") "ring" (mVar 5)) mNil))) sNext) (sSeq (sIf (mB (m2 gEq (mVar 1) (mC (.int 7)))) (sAsg 8 (mFn gLst (mCons (mXf a d (okx C cls "balance") "balance" (mVar 5)) mNil))) sNext) (sSeq (sIf (mB (m2 gEq (mVar 1) (mC (.int 8)))) (sAsg 8 (mFn gLst (mCons (mXf a d (okx C cls "least") "least" (mVar 5)) (mCons (mXf a d (okx C cls "greatest") "greatest" (mVar 5)) mNil)))) sNext) (sSeq (sIf (mOr (mB (m2 gEq (mVar 1) (mC (.int 10)))) (mB (m2 gEq (mVar 1) (mC (.int 14))))) (sAsg 8 (mFn gLst (mCons (mXf a d (okx C cls "number") "number" (mVar 5)) mNil))) sNext) (sSeq (sIf (mB (m2 gEq (mVar 1) (mC (.int 11)))) (sAsg 8 (mFn gLst (mCons (mXf a d (okx C cls "distance") "distance" (mVar 5)) mNil))) sNext) (sSeq (sIf (mB (m2 gEq (mVar 1) (mC (.int 13)))) (sAsg 8 (mFn gLst (mCons (mXf a d (okx C cls "item") "item" (mVar 5)) mNil))) sNext) (sSeq (sIf (mB (m2 gEq (mVar 1) (mC (.int 15)))) (sAsg 8 (mFn gLst (mCons (mXf a d (okx C cls "part") "part" (mVar 5)) mNil))) sNext) (sSeq (sIf (mB (m2 gEq (mVar 1) (mC (.int 16)))) (sAsg 8 (mFn gLst (mCons (mXf a d (okx C cls "place") "place" (mVar 5)) mNil))) sNext) (sSeq (sIf (mOr (mB (m2 gEq (mVar 1) (mC (.int 17)))) (mOr (mB (m2 gEq (mVar 1) (mC (.int 20)))) (mB (m2 gEq (mVar 1) (mC (.int 21)))))) (sAsg 8 (mFn gLst (mCons (mXf a d (okx C cls "many") "many" (mVar 5)) mNil))) sNext) R))))))))))))
def m_kin (K : PySem.W.Frag) (C : Nat → Addr) (L : List Addr) (a : Addr) (cls : Value) (d : Option Addr) (R : SS) : SS :=
  (sSeq (sAsg 7 (mFn gLst (mCons (mIsX K L a cls d (.ref (C 0)) (mVar 5)) (mCons (mIsX K L a cls d (.ref (C 1)) (mVar 5)) (mCons (mIsX K L a cls d (.ref (C 2)) (mVar 5)) (mCons (mIsX K L a cls d (.ref (C 3)) (mVar 5)) mNil)))))) (sSeq (sAsg 7 (m2 gAdd (mVar 7) (mFn gLst (mCons (mIsX K L a cls d (.ref (C 4)) (mVar 5)) (mCons (mIsX K L a cls d (.ref (C 5)) (mVar 5)) (mCons (mIsX K L a cls d (.ref (C 6)) (mVar 5)) mNil)))))) (sSeq (sAsg 7 (m2 gAdd (mVar 7) (mFn gLst (mCons (mIsX K L a cls d (.ref (C 7)) (mVar 5)) (mCons (mIsX K L a cls d (.ref (C 8)) (mVar 5)) (mCons (mIsX K L a cls d (.ref (C 9)) (mVar 5)) mNil)))))) (sSeq (sAsg 7 (m2 gAdd (mVar 7) (mFn gLst (mCons (mIsX K L a cls d (.ref (C 10)) (mVar 5)) (mCons (mIsX K L a cls d (.ref (C 11)) (mVar 5)) (mCons (mIsX K L a cls d (.ref (C 12)) (mVar 5)) mNil)))))) (sSeq (sAsg 7 (m2 gAdd (mVar 7) (mFn gLst (mCons (mIsX K L a cls d (.ref (C 13)) (mVar 5)) (mCons (mIsX K L a cls d (.ref (C 14)) (mVar 5)) (mCons (mIsX K L a cls d (.ref (C 15)) (mVar 5)) mNil)))))) (sSeq (sAsg 7 (m2 gAdd (mVar 7) (mFn gLst (mCons (mIsX K L a cls d (.ref (C 16)) (mVar 5)) (mCons (mIsX K L a cls d (.ref (C 17)) (mVar 5)) (mCons (mIsX K L a cls d (.ref (C 18)) (mVar 5)) mNil)))))) (sSeq (sAsg 7 (m2 gAdd (mVar 7) (mFn gLst (mCons (mIsX K L a cls d (.ref (C 19)) (mVar 5)) (mCons (mIsX K L a cls d (.ref (C 20)) (mVar 5)) (mCons (mIsX K L a cls d (.ref (C 21)) (mVar 5)) mNil)))))) (sSeq (sAsg 7 (m2 gAdd (mVar 7) (mFn gLst (mCons (mIsX K L a cls d (.ref (C 22)) (mVar 5)) (mCons (mIsX K L a cls d (.ref (C 23)) (mVar 5)) (mCons (mIsX K L a cls d (.ref (C 24)) (mVar 5)) mNil)))))) (sSeq (sAsg 7 (m2 gAdd (mVar 7) (mFn gLst (mCons (mIsX K L a cls d (.ref (C 25)) (mVar 5)) (mCons (mIsX K L a cls d (.ref (C 26)) (mVar 5)) mNil))))) R)))))))))
def m_last (G_law_same : List D → Option D) : SS :=
  (sRet (mV (mAnd (mB (mVar 6)) (mAnd (mB (m2 gEqL (mVar 7) (mLc 9 (mRng (mCons (mC (.int 27)) mNil)) (m2 gEq (mVar 9) (mVar 1))))) (mB (mFn (ap 2 G_law_same) (mCons (mVar 8) (mCons (mVar 4) mNil))))))))
theorem suite_eq {K : PySem.W.Frag} {C : Nat → Addr} {L : List Addr} {G : List D → Option D} {gN : SE} {a : Addr} {cls : Value} {d : Option Addr} : m_suite K C L G gN a cls d =
  (sSeq (sAsg 6 (mIsX K L a cls d (.type "ValueError") (mVar 5))) (sSeq (sIf (mB (m2 gEq (mVar 2) (mC (.int 0)))) (sAsg 6 (mV (mAnd (mB (mVar 6)) (mB gN)))) sNext) (m_kin K C L a cls d (sSeq (sAsg 8 (mFn gLst mNil)) (m_told C a cls d (m_last G)))))) := rfl
def bl27 (kind : Nat) : List D := (List.range 27).map fun j => .bl (decide (kind = j))
theorem kin_ok {K : PySem.W.Frag} {C : Nat → Addr} {L : List Addr} (T : Tabs K L C) {kind : Nat} (hk : kind < 27) {a : Addr} {d : Option Addr} {R : SS} {ks : List Str} {ds : List D} {e0 e1 e2 e3 e4 e6 e7 e8 e9 : Option D} :
    m_kin K C L a (.ref (C kind)) d R [e0, e1, e2, e3, e4, some (.exn a d ks ds), e6, e7, e8, e9] = R [e0, e1, e2, e3, e4, some (.exn a d ks ds), e6, some (.lst (bl27 kind)), e8, e9] := by
  have h : ∀ (j : Nat) (e7 : Option D), j < 27 → mIsX K L a (.ref (C kind)) d (.ref (C j)) (mVar 5) [e0, e1, e2, e3, e4, some (.exn a d ks ds), e6, e7, e8, e9] = some (.bl (decide (kind = j))) := fun j e7 hj => by
    simp [mIsX, mVar, isExn, T.own kind j hk hj]
  unfold m_kin
  have hs := h
  simp only [sSeq, sAsg, m2, mFn, mCons, mNil, h 0 _ (by decide), h 1 _ (by decide), h 2 _ (by decide), h 3 _ (by decide), h 4 _ (by decide), h 5 _ (by decide), h 6 _ (by decide), h 7 _ (by decide), h 8 _ (by decide), h 9 _ (by decide), h 10 _ (by decide), h 11 _ (by decide), h 12 _ (by decide), h 13 _ (by decide), h 14 _ (by decide), h 15 _ (by decide), h 16 _ (by decide), h 17 _ (by decide), h 18 _ (by decide), h 19 _ (by decide), h 20 _ (by decide), h 21 _ (by decide), h 22 _ (by decide), h 23 _ (by decide), h 24 _ (by decide), h 25 _ (by decide), h 26 _ (by decide), DL.gLst, gAdd, mVar, Option.bind_some, Option.map_some, Option.join_some, List.getElem?_cons_zero, List.getElem?_cons_succ, List.set_cons_succ, List.set_cons_zero, List.length_cons, List.length_nil, List.cons_append, List.nil_append, Nat.reduceAdd, Nat.reduceLeDiff, if_true, ite_true]
  rfl
theorem told_ok {C : Nat → Addr} {a : Addr} {d : Option Addr} {R : SS} {e0 e2 e3 e4 e6 e7 e9 : Option D} {ks : List Str} {ds as : List D} : ∀ {kind : Nat}, kind < 27 → as.length = (flds kind).length → (d = none ∧ ks = [] ∧ ds = [] ∧ flds kind = []) ∨ ks = (flds kind).reverse ∧ ds = as.reverse →
    m_told C a (.ref (C kind)) d R [e0, some (.int kind), e2, e3, e4, some (.exn a d ks ds), e6, e7, some (.lst []), e9] = R [e0, some (.int kind), e2, e3, e4, some (.exn a d ks ds), e6, e7, some (.lst as), e9]
  | 0, hk, hl, h => by
    obtain ⟨x, rfl⟩ := List.length_eq_one_iff.mp hl
    rcases h with ⟨_, _, _, h⟩ | ⟨rfl, rfl⟩
    · cases h
    simp [m_told, sSeq, sIf, sAsg, sNext, mB, mOr, m2, mFn, mCons, mNil, mVar, mC, gEq, DL.gLst, mXf, isExn, okx_of (C := C) (n := "name") hk (by decide), flds]
  | 1, hk, hl, h => by
    obtain rfl : as = [] := List.eq_nil_of_length_eq_zero hl
    simp [m_told, sSeq, sIf, sAsg, sNext, mB, mOr, m2, mFn, mCons, mNil, mVar, mC, gEq, DL.gLst]
  | 2, hk, hl, h => by
    obtain ⟨x, rfl⟩ := List.length_eq_one_iff.mp hl
    rcases h with ⟨_, _, _, h⟩ | ⟨rfl, rfl⟩
    · cases h
    simp [m_told, sSeq, sIf, sAsg, sNext, mB, mOr, m2, mFn, mCons, mNil, mVar, mC, gEq, DL.gLst, mXf, isExn, okx_of (C := C) (n := "asked") hk (by decide), flds]
  | 3, hk, hl, h => by
    obtain ⟨x, rfl⟩ := List.length_eq_one_iff.mp hl
    rcases h with ⟨_, _, _, h⟩ | ⟨rfl, rfl⟩
    · cases h
    simp [m_told, sSeq, sIf, sAsg, sNext, mB, mOr, m2, mFn, mCons, mNil, mVar, mC, gEq, DL.gLst, mXf, isExn, okx_of (C := C) (n := "text") hk (by decide), flds]
  | 4, hk, hl, h => by
    obtain rfl : as = [] := List.eq_nil_of_length_eq_zero hl
    simp [m_told, sSeq, sIf, sAsg, sNext, mB, mOr, m2, mFn, mCons, mNil, mVar, mC, gEq, DL.gLst]
  | 5, hk, hl, h => by
    obtain ⟨x, rfl⟩ := List.length_eq_one_iff.mp hl
    rcases h with ⟨_, _, _, h⟩ | ⟨rfl, rfl⟩
    · cases h
    simp [m_told, sSeq, sIf, sAsg, sNext, mB, mOr, m2, mFn, mCons, mNil, mVar, mC, gEq, DL.gLst, mXf, isExn, okx_of (C := C) (n := "ring") hk (by decide), flds]
  | 6, hk, hl, h => by
    obtain rfl : as = [] := List.eq_nil_of_length_eq_zero hl
    simp [m_told, sSeq, sIf, sAsg, sNext, mB, mOr, m2, mFn, mCons, mNil, mVar, mC, gEq, DL.gLst]
  | 7, hk, hl, h => by
    obtain ⟨x, rfl⟩ := List.length_eq_one_iff.mp hl
    rcases h with ⟨_, _, _, h⟩ | ⟨rfl, rfl⟩
    · cases h
    simp [m_told, sSeq, sIf, sAsg, sNext, mB, mOr, m2, mFn, mCons, mNil, mVar, mC, gEq, DL.gLst, mXf, isExn, okx_of (C := C) (n := "balance") hk (by decide), flds]
  | 8, hk, hl, h => by
    obtain ⟨x, y, rfl⟩ : ∃ x y, as = [x, y] := two_of hl
    rcases h with ⟨_, _, _, h⟩ | ⟨rfl, rfl⟩
    · cases h
    simp [m_told, sSeq, sIf, sAsg, sNext, mB, mOr, m2, mFn, mCons, mNil, mVar, mC, gEq, DL.gLst, mXf, isExn, okx_of (C := C) (n := "least") hk (by decide), okx_of (C := C) (n := "greatest") hk (by decide), flds, List.lookup]
    rfl
  | 9, hk, hl, h => by
    obtain rfl : as = [] := List.eq_nil_of_length_eq_zero hl
    simp [m_told, sSeq, sIf, sAsg, sNext, mB, mOr, m2, mFn, mCons, mNil, mVar, mC, gEq, DL.gLst]
  | 10, hk, hl, h => by
    obtain ⟨x, rfl⟩ := List.length_eq_one_iff.mp hl
    rcases h with ⟨_, _, _, h⟩ | ⟨rfl, rfl⟩
    · cases h
    simp [m_told, sSeq, sIf, sAsg, sNext, mB, mOr, m2, mFn, mCons, mNil, mVar, mC, gEq, DL.gLst, mXf, isExn, okx_of (C := C) (n := "number") hk (by decide), flds]
  | 11, hk, hl, h => by
    obtain ⟨x, rfl⟩ := List.length_eq_one_iff.mp hl
    rcases h with ⟨_, _, _, h⟩ | ⟨rfl, rfl⟩
    · cases h
    simp [m_told, sSeq, sIf, sAsg, sNext, mB, mOr, m2, mFn, mCons, mNil, mVar, mC, gEq, DL.gLst, mXf, isExn, okx_of (C := C) (n := "distance") hk (by decide), flds]
  | 12, hk, hl, h => by
    obtain rfl : as = [] := List.eq_nil_of_length_eq_zero hl
    simp [m_told, sSeq, sIf, sAsg, sNext, mB, mOr, m2, mFn, mCons, mNil, mVar, mC, gEq, DL.gLst]
  | 13, hk, hl, h => by
    obtain ⟨x, rfl⟩ := List.length_eq_one_iff.mp hl
    rcases h with ⟨_, _, _, h⟩ | ⟨rfl, rfl⟩
    · cases h
    simp [m_told, sSeq, sIf, sAsg, sNext, mB, mOr, m2, mFn, mCons, mNil, mVar, mC, gEq, DL.gLst, mXf, isExn, okx_of (C := C) (n := "item") hk (by decide), flds]
  | 14, hk, hl, h => by
    obtain ⟨x, rfl⟩ := List.length_eq_one_iff.mp hl
    rcases h with ⟨_, _, _, h⟩ | ⟨rfl, rfl⟩
    · cases h
    simp [m_told, sSeq, sIf, sAsg, sNext, mB, mOr, m2, mFn, mCons, mNil, mVar, mC, gEq, DL.gLst, mXf, isExn, okx_of (C := C) (n := "number") hk (by decide), flds]
  | 15, hk, hl, h => by
    obtain ⟨x, rfl⟩ := List.length_eq_one_iff.mp hl
    rcases h with ⟨_, _, _, h⟩ | ⟨rfl, rfl⟩
    · cases h
    simp [m_told, sSeq, sIf, sAsg, sNext, mB, mOr, m2, mFn, mCons, mNil, mVar, mC, gEq, DL.gLst, mXf, isExn, okx_of (C := C) (n := "part") hk (by decide), flds]
  | 16, hk, hl, h => by
    obtain ⟨x, rfl⟩ := List.length_eq_one_iff.mp hl
    rcases h with ⟨_, _, _, h⟩ | ⟨rfl, rfl⟩
    · cases h
    simp [m_told, sSeq, sIf, sAsg, sNext, mB, mOr, m2, mFn, mCons, mNil, mVar, mC, gEq, DL.gLst, mXf, isExn, okx_of (C := C) (n := "place") hk (by decide), flds]
  | 17, hk, hl, h => by
    obtain ⟨x, rfl⟩ := List.length_eq_one_iff.mp hl
    rcases h with ⟨_, _, _, h⟩ | ⟨rfl, rfl⟩
    · cases h
    simp [m_told, sSeq, sIf, sAsg, sNext, mB, mOr, m2, mFn, mCons, mNil, mVar, mC, gEq, DL.gLst, mXf, isExn, okx_of (C := C) (n := "many") hk (by decide), flds]
  | 18, hk, hl, h => by
    obtain rfl : as = [] := List.eq_nil_of_length_eq_zero hl
    simp [m_told, sSeq, sIf, sAsg, sNext, mB, mOr, m2, mFn, mCons, mNil, mVar, mC, gEq, DL.gLst]
  | 19, hk, hl, h => by
    obtain rfl : as = [] := List.eq_nil_of_length_eq_zero hl
    simp [m_told, sSeq, sIf, sAsg, sNext, mB, mOr, m2, mFn, mCons, mNil, mVar, mC, gEq, DL.gLst]
  | 20, hk, hl, h => by
    obtain ⟨x, rfl⟩ := List.length_eq_one_iff.mp hl
    rcases h with ⟨_, _, _, h⟩ | ⟨rfl, rfl⟩
    · cases h
    simp [m_told, sSeq, sIf, sAsg, sNext, mB, mOr, m2, mFn, mCons, mNil, mVar, mC, gEq, DL.gLst, mXf, isExn, okx_of (C := C) (n := "many") hk (by decide), flds]
  | 21, hk, hl, h => by
    obtain ⟨x, rfl⟩ := List.length_eq_one_iff.mp hl
    rcases h with ⟨_, _, _, h⟩ | ⟨rfl, rfl⟩
    · cases h
    simp [m_told, sSeq, sIf, sAsg, sNext, mB, mOr, m2, mFn, mCons, mNil, mVar, mC, gEq, DL.gLst, mXf, isExn, okx_of (C := C) (n := "many") hk (by decide), flds]
  | 22, hk, hl, h => by
    obtain rfl : as = [] := List.eq_nil_of_length_eq_zero hl
    simp [m_told, sSeq, sIf, sAsg, sNext, mB, mOr, m2, mFn, mCons, mNil, mVar, mC, gEq, DL.gLst]
  | 23, hk, hl, h => by
    obtain rfl : as = [] := List.eq_nil_of_length_eq_zero hl
    simp [m_told, sSeq, sIf, sAsg, sNext, mB, mOr, m2, mFn, mCons, mNil, mVar, mC, gEq, DL.gLst]
  | 24, hk, hl, h => by
    obtain rfl : as = [] := List.eq_nil_of_length_eq_zero hl
    simp [m_told, sSeq, sIf, sAsg, sNext, mB, mOr, m2, mFn, mCons, mNil, mVar, mC, gEq, DL.gLst]
  | 25, hk, hl, h => by
    obtain ⟨x, rfl⟩ := List.length_eq_one_iff.mp hl
    rcases h with ⟨_, _, _, h⟩ | ⟨rfl, rfl⟩
    · cases h
    simp [m_told, sSeq, sIf, sAsg, sNext, mB, mOr, m2, mFn, mCons, mNil, mVar, mC, gEq, DL.gLst, mXf, isExn, okx_of (C := C) (n := "asked") hk (by decide), flds]
  | 26, hk, hl, h => by
    obtain rfl : as = [] := List.eq_nil_of_length_eq_zero hl
    simp [m_told, sSeq, sIf, sAsg, sNext, mB, mOr, m2, mFn, mCons, mNil, mVar, mC, gEq, DL.gLst]
  | k + 27, hk, _, _ => by omega
theorem mapO_some {f : D → Option D} {g : D → D} : ∀ {ds : List D}, (∀ d ∈ ds, f d = some (g d)) → mapO f ds = some (ds.map g)
  | [], _ => rfl
  | d :: ds, h => by
    simp [mapO, h d List.mem_cons_self, mapO_some (f := f) (g := g) (ds := ds) fun x hx => h x (List.mem_cons_of_mem _ hx)]
theorem toPs_bl : ∀ {l : List Bool}, toPs (l.map D.bl) = some (l.map PyData.bool)
  | [] => by simp [toPs]
  | b :: l => by simp [toPs, toP, toPs_bl (l := l)]
def p27 (kind : Nat) : PyData := .list ((List.range 27).map fun j => .bool (decide (kind = j)))
theorem p27_ok : ∀ kind, kind < 27 → SeqAt.shaped (p27 kind) = true ∧ PyData.eqv (p27 kind) (p27 kind) = true := by decide +kernel
theorem toP_27 {kind : Nat} : toP (.lst (bl27 kind)) = some (p27 kind) := by
  have : bl27 kind = ((List.range 27).map fun j => decide (kind = j)).map D.bl := by simp [bl27]
  rw [toP, this, toPs_bl]
  simp [p27]
theorem eq27 {kind : Nat} (hk : kind < 27) : gEqL (.lst (bl27 kind)) (.lst (bl27 kind)) = some (.bl true) := by
  unfold gEqL
  rw [toP_27, Option.bind_some, Option.bind_some, if_pos ⟨(p27_ok kind hk).1, (p27_ok kind hk).1⟩, (p27_ok kind hk).2]
theorem lc27 {kind : Nat} {e0 e2 e3 e4 e5 e6 e7 e8 : Option D} : mLc 9 (mRng (mCons (mC (.int 27)) mNil)) (m2 gEq (mVar 9) (mVar 1)) [e0, some (.int kind), e2, e3, e4, e5, e6, e7, e8, none] = some (.lst (bl27 kind)) := by
  have q1 : gRng [.int 27] = some (rngD 27) := rng_len (n := 27) (by decide)
  have q2 : mapO (fun d => m2 gEq (mVar 9) (mVar 1) ([e0, some (.int kind), e2, e3, e4, e5, e6, e7, e8, none].set 9 (some d))) (rngD 27) = some (bl27 kind) := by
    have z : bl27 kind = (rngD 27).map fun d => match d with | .int i => .bl (decide (i = (kind : Int))) | _ => .non := by
      unfold bl27 rngD
      rw [List.map_map]
      refine List.map_congr_left fun j _ => ?_
      show D.bl _ = D.bl _
      congr 1
      exact decide_eq_decide.mpr ⟨fun h => by omega, fun h => by omega⟩
    rw [z]
    refine mapO_some fun d hd => ?_
    obtain ⟨i, _, rfl⟩ := mem_rngD hd
    simp [m2, mVar, gEq]
  unfold mLc
  refine bind_at (bind_at (g := gRng) (show _ = some [D.int 27] from rfl) q1) ?_
  rw [if_pos (by rw [rngD_length]; decide), q2]
  rfl
theorem last_ok {G : List D → Option D} {kind : Nat} (hk : kind < 27) {as : List D} (hG : G [.lst as, .lst as] = some (.bl true)) {e0 e2 e3 e5 : Option D} :
    m_last G [e0, some (.int kind), e2, e3, some (.lst as), e5, some (.bl true), some (.lst (bl27 kind)), some (.lst as), none] = some (.rt (.bl true)) := by
  have h1 := lc27 (kind := kind) (e0 := e0) (e2 := e2) (e3 := e3) (e4 := some (.lst as)) (e5 := e5) (e6 := some (.bl true)) (e7 := some (.lst (bl27 kind))) (e8 := some (.lst as))
  unfold m_last
  generalize mLc _ _ _ = f at h1 ⊢
  simp [sRet, mV, mAnd, mB, m2, mFn, mCons, mNil, mVar, h1, eq27 hk, ap, hG]
theorem suite_ok {K : PySem.W.Frag} {C : Nat → Addr} {L : List Addr} (T : Tabs K L C) {G : List D → Option D} {gN : SE} {kind : Nat} (hk : kind < 27) {as : List D} (hl : as.length = (flds kind).length) (hG : G [.lst as, .lst as] = some (.bl true)) {t : Int} {e0 e3 : Option D}
    (a : Addr) (d : Option Addr) (ks : List Str) (ds : List D) (h : (d = none ∧ ks = [] ∧ ds = [] ∧ flds kind = []) ∨ ks = (flds kind).reverse ∧ ds = as.reverse)
    (hN : t = 0 → gN [e0, some (.int kind), some (.int t), e3, some (.lst as), some (.exn a d ks ds), some (.bl true), none, none, none] = some (.bl true)) :
    m_suite K C L G gN a (.ref (C kind)) d [e0, some (.int kind), some (.int t), e3, some (.lst as), some (.exn a d ks ds), none, none, none, none] = some (.rt (.bl true)) := by
  rw [suite_eq]
  have q1 : sAsg 6 (mIsX K L a (.ref (C kind)) d (.type "ValueError") (mVar 5)) [e0, some (.int kind), some (.int t), e3, some (.lst as), some (.exn a d ks ds), none, none, none, none] = some (.nx [e0, some (.int kind), some (.int t), e3, some (.lst as), some (.exn a d ks ds), some (.bl true), none, none, none]) := by
    simp [sAsg, mIsX, mVar, isExn, T.ve kind hk]
  have q2 : sIf (mB (m2 gEq (mVar 2) (mC (.int 0)))) (sAsg 6 (mV (mAnd (mB (mVar 6)) (mB gN)))) sNext [e0, some (.int kind), some (.int t), e3, some (.lst as), some (.exn a d ks ds), some (.bl true), none, none, none] = some (.nx [e0, some (.int kind), some (.int t), e3, some (.lst as), some (.exn a d ks ds), some (.bl true), none, none, none]) := by
    by_cases ht : t = 0
    · subst ht
      simp [sIf, mB, m2, mVar, mC, gEq, sAsg, mV, mAnd, hN rfl]
    · simp [sIf, mB, m2, mVar, mC, gEq, sNext, ht]
  refine bind_at q1 (bind_at q2 ?_)
  show m_kin K C L a (.ref (C kind)) d _ _ = _
  rw [kin_ok T hk]
  refine bind_at (show sAsg 8 (mFn DL.gLst mNil) _ = some (.nx _) from rfl) ?_
  show m_told C a (.ref (C kind)) d _ _ = _
  rw [show (List.set [e0, some (D.int kind), some (D.int t), e3, some (D.lst as), some (D.exn a d ks ds), some (D.bl true), some (D.lst (bl27 kind)), none, none] 8 (some (D.lst []))) = [e0, some (D.int kind), some (D.int t), e3, some (D.lst as), some (D.exn a d ks ds), some (D.bl true), some (D.lst (bl27 kind)), some (D.lst []), none] from rfl]
  rw [told_ok hk hl h]
  exact last_ok hk hG
end K23
namespace K23
open PySem PySem.Spec PyProof.Rows L2 DL
open L2H (RoomH PinOk)
abbrev Ch0 : List (Addr × Obj) → Around → Prop := fun _ A => A.handled = none
/-- the inner call's meaning -/
abbrev gIn1 : SE := mFn (ap 3 (gRight 1)) (mCons (mVar 0) (mCons (mVar 1) (mCons (mC (.int 1)) mNil)))
section
variable {P : Program} {w : World} {K : PySem.W.Frag} {mg : Str → Option Value} {base : Heap} {C : Nat → Addr} {L : List Addr}
theorem flds_len : ∀ kind, kind < 27 → (flds kind).length ≤ 1000 := by decide +kernel
theorem same_G {f : Addr} {fd : FuncData} (F : Fun K "_law_same" "_law_same" s_law_same f fd) (B : Blt mg) (Cs : Cal K mg "_law_same" f fd ["told", "due"]) : ∀ n, FnG P w K mg base CA0 n f fd ["told", "due"] (spD K 2 (Gsame n))
  | 0 => FnGC.never fun vs H Q E ⟨_, _, _, _, _, _, e, _⟩ => by cases e
  | n + 1 => by
    have z := ok_law_same F B (same_G F B Cs n) Cs
    rw [Nat.zero_max] at z
    exact z
theorem pure_1 (T : Tabs K L C) (sc : List Int) (kind : Nat) (hk : kind < 27) : ∃ as, Garg [.scr sc, .int (2 * kind + 1), .int kind] = some (.lst as) ∧ as.length = (flds kind).length ∧ ∀ (a : Addr) (d : Option Addr) (ks : List Str) (ds : List D), ((d = none ∧ ks = [] ∧ ds = [] ∧ flds kind = []) ∨ ks = (flds kind).reverse ∧ ds = as.reverse) →
    m_suite K C L (Gsame 6) (fun _ => none) a (.ref (C kind)) d [some (.scr sc), some (.int kind), some (.int 1), some (.int (2 * kind + 1)), some (.lst as), some (.exn a d ks ds), none, none, none, none] = some (.rt (.bl true)) := by
  obtain ⟨as, h1, h2, h3⟩ := args_ok sc (2 * kind + 1) (by omega) kind hk
  refine ⟨as, h1, h2, fun a d ks ds h => suite_ok T hk h2 (same_ok (Gd.L ?_ h3)) a d ks ds h fun z => absurd z (by decide)⟩
  rw [h2]
  exact flds_len kind hk
theorem pure_0 (T : Tabs K L C) (sc : List Int) (kind : Nat) (hk : kind < 27) : ∃ as, Garg [.scr sc, .int (2 * kind + 0), .int kind] = some (.lst as) ∧ as.length = (flds kind).length ∧ ∀ (a : Addr) (d : Option Addr) (ks : List Str) (ds : List D), ((d = none ∧ ks = [] ∧ ds = [] ∧ flds kind = []) ∨ ks = (flds kind).reverse ∧ ds = as.reverse) →
    m_suite K C L (Gsame 6) gIn1 a (.ref (C kind)) d [some (.scr sc), some (.int kind), some (.int 0), some (.int (2 * kind + 0)), some (.lst as), some (.exn a d ks ds), none, none, none, none] = some (.rt (.bl true)) := by
  obtain ⟨as, h1, h2, h3⟩ := args_ok sc (2 * kind + 0) (by omega) kind hk
  refine ⟨as, h1, h2, fun a d ks ds h => suite_ok T hk h2 (same_ok (Gd.L ?_ h3)) a d ks ds h fun _ => ?_⟩
  · rw [h2]
    exact flds_len kind hk
  · have : gRight 1 [.scr sc, .int kind, .int 1] = some (.bl true) := by
      simp only [gRight]
      rw [if_pos ⟨by omega, by omega, trivial⟩]
    simp [gIn1, mFn, mCons, mNil, mVar, mC, ap, this]
abbrev s_law : Stmt := topS 43
theorem sc_law : FnScope ["script", "kind"] ["script"] (defScope s_law) := ⟨rfl, rfl, rfl, by decide +kernel, rfl, by decide +kernel, by decide +kernel⟩
def m_law (G : List D → Option D) : SS := sSeq (sFor 1 (mRng (mCons (mC (.int 27)) mNil)) (sIf (mNot (mB (mFn (ap 3 G) (mCons (mVar 0) (mCons (mVar 1) (mCons (mC (.int 0)) mNil)))))) (sRet (mC (.bl false))) sNext)) (sRet (mC (.bl true)))
theorem law_true (ns : List Int) : mean 1 1 (m_law (gRight 0)) [.scr ns] = some (.bl true) := by
  obtain ⟨e', h1, x, rfl⟩ := loop_inv (i := 1) (f := sIf (mNot (mB (mFn (ap 3 (gRight 0)) (mCons (mVar 0) (mCons (mVar 1) (mCons (mC (.int 0)) mNil)))))) (sRet (mC (.bl false))) sNext) (fun e => ∃ x, e = [some (.scr ns), x]) (ds := rngD 27) (env := [some (.scr ns), none]) (by
    intro u hu e ⟨x, he⟩
    subst he
    obtain ⟨i, hi, rfl⟩ := mem_rngD hu
    have : gRight 0 [.scr ns, .int i, .int 0] = some (.bl true) := by
      simp only [gRight]
      rw [if_pos ⟨by omega, by omega, trivial⟩]
    exact ⟨[some (.scr ns), some (.int i)], by simp [sIf, mNot, mB, mFn, mCons, mNil, mVar, mC, ap, this, sNext], _, rfl⟩) ⟨_, rfl⟩
  have e0 : mean 1 1 (m_law (gRight 0)) [.scr ns] = (m_law (gRight 0) [some (.scr ns), none]).bind res := by simp [mean]
  rw [e0]
  refine bind_at (x := .rt (.bl true)) ?_ rfl
  unfold m_law
  refine bind_at (x := .nx [some (.scr ns), x]) ?_ rfl
  exact bind_at (bind_at (g := gRng) (show _ = some [D.int 27] from rfl) (rng_len (n := 27) (by decide))) h1
/-- called with the script: True -/
def spLaw (K : PySem.W.Frag) : Sp := fun vs H Q _ => ∃ (a : Addr) (ns : List Int), vs = [.ref a] ∧ SqL K H a (ns.map V.int) ∧ ∀ H', Q (.bl true) H'
theorem ok_law {I : Nat → Addr} {CW : Addr} {f_cell f_draw f_words f_count f_sum f_step f_pair f_item f_part f_args f_same f_raise f_right f : Addr} {d_cell d_draw d_words d_count d_sum d_step d_pair d_item d_part d_args d_same d_raise d_right fd : FuncData}
    (B : Blt mg) (hms : mg "super" = none) (htop : (P.main.scope.names.lookup ("super" : Str)).isSome = false) (M : Mods mg C) (hW : mg "WatchError" = some (.ref CW)) (E : Errs P K mg C I) (T : Tabs K L C)
    (hL : ∀ c ∈ L, ExcC K c) (hfld : ∀ kind n, kind < 27 → n ∈ flds kind → XfC K (C kind) ∧ PySem.W.findIn K (.ref (C kind)) n = some none) (hexm : ∀ kind, kind < 27 → PySem.W.exmOne K (.ref (C kind)) (.ref CW) = some true)
    (F_cell : Fun K "_law_cell" "_law_cell" s_law_cell f_cell d_cell) (c_cell : Cal K mg "_law_cell" f_cell d_cell ["script", "at"])
    (F_draw : Fun K "_law_draw" "_law_draw" s_law_draw f_draw d_draw) (c_draw : Cal K mg "_law_draw" f_draw d_draw ["script", "at", "k", "size"])
    (F_words : Fun K "_law_words" "_law_words" s_law_words f_words d_words) (c_words : Cal K mg "_law_words" f_words d_words ["script", "at", "k"])
    (F_count : Fun K "_law_count" "_law_count" s_law_count f_count d_count) (c_count : Cal K mg "_law_count" f_count d_count ["script", "at", "k"])
    (F_sum : Fun K "_law_sum" "_law_sum" s_law_sum f_sum d_sum) (c_sum : Cal K mg "_law_sum" f_sum d_sum ["script", "at", "k"])
    (F_step : Fun K "_law_step" "_law_step" s_law_step f_step d_step) (c_step : Cal K mg "_law_step" f_step d_step ["script", "at", "k"])
    (F_pair : Fun K "_law_pair" "_law_pair" s_law_pair f_pair d_pair) (c_pair : Cal K mg "_law_pair" f_pair d_pair ["script", "at", "k"])
    (F_item : Fun K "_law_item" "_law_item" s_law_item f_item d_item) (c_item : Cal K mg "_law_item" f_item d_item ["script", "at"])
    (F_part : Fun K "_law_part" "_law_part" s_law_part f_part d_part) (c_part : Cal K mg "_law_part" f_part d_part ["script", "at"])
    (F_args : Fun K "_law_arguments" "_law_arguments" s_law_arguments f_args d_args) (c_args : Cal K mg "_law_arguments" f_args d_args ["script", "at", "kind"])
    (F_same : Fun K "_law_same" "_law_same" s_law_same f_same d_same) (c_same : Cal K mg "_law_same" f_same d_same ["told", "due"])
    (F_raise : Fun K "_law_raise" "_law_raise" s_raise f_raise d_raise) (c_raise : Cal K mg "_law_raise" f_raise d_raise ["kind", "passed"])
    (F_right : Fun K "_law_right" "_law_right" s_law_right f_right d_right) (c_right : Cal K mg "_law_right" f_right d_right ["script", "kind", "turn"])
    (F : Fun K "law" "law" s_law f fd) : FnOk P w K mg base CX0 9 f fd ["script"] (spLaw K) := by
  have g_cell := ok_law_cell (P := P) (w := w) (base := base) F_cell B
  have g_draw := ok_law_draw F_draw B (g_cell : FnG P w K mg base CA0 1 _ _ _ (spD K 2 Gcell)) c_cell
  have g_words := ok_law_words F_words B (g_draw : FnG P w K mg base CA0 2 _ _ _ (spD K 4 Gdraw)) c_draw
  have g_count := ok_law_count F_count B (g_draw : FnG P w K mg base CA0 2 _ _ _ (spD K 4 Gdraw)) c_draw
  have g_sum := ok_law_sum F_sum B (g_count : FnG P w K mg base CA0 3 _ _ _ (spD K 3 Gcount)) c_count (g_words : FnG P w K mg base CA0 3 _ _ _ (spD K 3 Gwords)) c_words
  have g_step := ok_law_step F_step B (g_draw : FnG P w K mg base CA0 2 _ _ _ (spD K 4 Gdraw)) c_draw
  have g_pair := ok_law_pair F_pair B (g_draw : FnG P w K mg base CA0 2 _ _ _ (spD K 4 Gdraw)) c_draw (g_sum : FnG P w K mg base CA0 4 _ _ _ (spD K 3 Gsum)) c_sum
  have g_item := ok_law_item F_item B (g_words : FnG P w K mg base CA0 3 _ _ _ (spD K 3 Gwords)) c_words (g_sum : FnG P w K mg base CA0 4 _ _ _ (spD K 3 Gsum)) c_sum (g_count : FnG P w K mg base CA0 3 _ _ _ (spD K 3 Gcount)) c_count (g_draw : FnG P w K mg base CA0 2 _ _ _ (spD K 4 Gdraw)) c_draw
  have g_part := ok_law_part F_part B (g_draw : FnG P w K mg base CA0 2 _ _ _ (spD K 4 Gdraw)) c_draw (g_sum : FnG P w K mg base CA0 4 _ _ _ (spD K 3 Gsum)) c_sum (g_count : FnG P w K mg base CA0 3 _ _ _ (spD K 3 Gcount)) c_count
  have g_args := ok_law_arguments F_args B (g_words : FnG P w K mg base CA0 3 _ _ _ (spD K 3 Gwords)) c_words (g_sum : FnG P w K mg base CA0 4 _ _ _ (spD K 3 Gsum)) c_sum (g_draw : FnG P w K mg base CA0 2 _ _ _ (spD K 4 Gdraw)) c_draw
    (g_step : FnG P w K mg base CA0 3 _ _ _ (spD K 3 Gstep)) c_step (g_pair : FnG P w K mg base CA0 5 _ _ _ (spD K 3 Gpair)) c_pair (g_count : FnG P w K mg base CA0 3 _ _ _ (spD K 3 Gcount)) c_count (g_item : FnG P w K mg base CA0 5 _ _ _ (spD K 2 Gitem)) c_item (g_part : FnG P w K mg base CA0 5 _ _ _ (spD K 2 Gpart)) c_part
  have g_same := same_G (P := P) (w := w) (base := base) F_same B c_same 6
  have g_raise := ok_raise (P := P) (w := w) (base := base) F_raise E hms htop
  have g_right1 := ok_law_right (P := P) (w := w) (base := base) (Ch := Chain1) (k := 6) (t := 1) (gN := fun _ => none) (L := L) (fun _ _ h => h) F_right B M hW (Nat.le_refl 6) (Nat.le_refl 6) (by decide) (g_args : FnG P w K mg base CA0 6 _ _ _ (spD K 3 Garg)) c_args g_same c_same g_raise c_raise hL hfld hexm
    (fun _ _ _ _ _ _ _ _ _ _ _ _ _ _ _ _ _ _ _ => d_never) (pure_1 T)
  have g_right0 := ok_law_right (P := P) (w := w) (base := base) (Ch := Ch0) (k := 7) (t := 0) (gN := gIn1) (L := L) (fun _ _ h => .inl h) F_right B M hW (by decide) (by decide) (by decide) (g_args : FnG P w K mg base CA0 6 _ _ _ (spD K 3 Garg)) c_args g_same c_same g_raise c_raise hL hfld hexm
    (fun pn A outer s H E cdv hch hr a oe pn2 hc0 q q1 q2 q3 q4 j => d_call g_right1 rfl ⟨hr.dp, hr.un⟩ (hc0 hch) c_right.gl c_right.kp c_right.bi (a_cons (d_var 0) (a_cons (d_var 1) (a_cons d_int a_nil)))) (pure_0 T)
  have g_law : FnGC Ch0 P w K mg base CA0 9 f fd ["script"] (spD K 1 (mean 1 1 (m_law (gRight 0)))) := def_D F sc_law rfl rfl fun pn A outer s H E cdv hc hr =>
    ss_cons (s_for (i := 1) PassesOwn.leaving (.inl hc) sc_law.nd (i_range B.b_range (a_cons d_int a_nil)) (ss_one (s_if (t_not (t_val (d_call g_right0 rfl hr hc c_right.gl c_right.kp c_right.bi (a_cons (d_var 0) (a_cons (d_var 1) (a_cons d_int a_nil)))))) (ss_one (s_ret d_bl)) ss_nil))) (ss_one (s_ret d_bl))
  refine FnGC.ok (CA := CA0) (g_law.imp fun vs H Q E ⟨a, ns, hv, hS, hQ⟩ => ?_) (fun _ h => h) fun _ _ => rfl
  subst hv
  exact ⟨H, [.scr ns], .bl true, Same.refl H, by simp only [Rps, Rp]; exact ⟨_, _, rfl, ⟨_, rfl, hS⟩, rfl⟩, rfl, law_true ns, fun v F' H' _ r => by rw [rp_bl r]; exact hQ H'⟩
end
end K23
namespace K23
open PySem PySem.Spec PyProof.Rows L2 DL
section
variable {prog : Program} {K : PySem.W.Frag} {mg : Str → Option Value}
/-- what a class of errors must be, as one test -/
def excB (K : PySem.W.Frag) (D : Addr) : Bool := decide (PySem.W.findIn K (.ref D) "__getattribute__" = some (some (.builtin "BaseException.__getattribute__"))) && (decide (PySem.W.findIn K (.ref D) "__getattr__" = some none) && (decide (PySem.W.subIn K (.ref D) (.type "BaseException") = some true) && (PySem.W.hasDictIn K D && (decide (PySem.W.findIn K (.ref D) "__class__" = some (some (.builtin "object.__class__"))) && decide (PySem.W.mroIn K D (.type "object") = some true)))))
/-- what is so of object.__class__ -/
def oneB (K : PySem.W.Frag) : Bool := decide (PySem.W.specialIn K (.builtin "object.__class__") "__get__" = some (some (.builtin "getset_descriptor.__get__"))) && decide (PySem.W.takesIn K (.builtin "object.__class__") = some true)
theorem excB_ok {D : Addr} (h : excB K D = true) (h2 : oneB K = true) : ExcC K D := by
  simp only [excB, oneB, Bool.and_eq_true, decide_eq_true_eq] at h h2
  exact ⟨h.1, h.2.1, h.2.2.1, h.2.2.2.1, h.2.2.2.2.1, h2.1, h2.2, h.2.2.2.2.2⟩
def clsB (K : PySem.W.Frag) (cs : List Addr) : Bool := cs.all (excB K)
def tabB (K : PySem.W.Frag) (cs : List Addr) : Bool := (List.range 27).all fun i => (List.range 27).all fun j => decide (PySem.W.kitOne K (.ref (cs.getD i 0)) (.ref (cs.getD j 0)) = some (decide (i = j)))
def veB (K : PySem.W.Frag) (cs : List Addr) (cw : Addr) : Bool := (List.range 27).all fun i => decide (cs.getD i 0 ∈ cs) && (decide (PySem.W.kitOne K (.ref (cs.getD i 0)) (.type "ValueError") = some true) && decide (PySem.W.exmOne K (.ref (cs.getD i 0)) (.ref cw) = some true))
def fldB (K : PySem.W.Frag) (cs : List Addr) : Bool := (List.range 27).all fun i => (flds i).all fun n => decide (PySem.W.findIn K (.ref (cs.getD i 0)) n = some none)
theorem tabs_of {cs : List Addr} {cw : Addr} (h1 : tabB K cs = true) (h2 : veB K cs cw = true) : Tabs K cs fun k => cs.getD k 0 where
  own := fun i j hi hj => by
    have m := List.all_eq_true.mp h2 i (List.mem_range.mpr hi)
    have t := List.all_eq_true.mp (List.all_eq_true.mp h1 i (List.mem_range.mpr hi)) j (List.mem_range.mpr hj)
    simp only [Bool.and_eq_true, decide_eq_true_eq] at m t
    show (if cs.getD i 0 ∈ cs then _ else _) = _
    rw [if_pos m.1, t]
  ve := fun i hi => by
    have m := List.all_eq_true.mp h2 i (List.mem_range.mpr hi)
    simp only [Bool.and_eq_true, decide_eq_true_eq] at m
    show (if cs.getD i 0 ∈ cs then _ else _) = _
    rw [if_pos m.1, m.2.1]
/-- an error class with an __init__ of its own: what is to be read off the heap -/
structure XCl (prog : Program) (K : PySem.W.Frag) (C fI : Addr) (st : Stmt) : Prop where
  cls : ∃ nm q N bs bm sn sub ab col dd k0 k1 k2 k3 k5, K.lookup C = some (excClassObj nm q C N bs bm true sn sub ab col dd k0 k1 k2 k3 k5 "ValueError.__new__") ∧ PySem.HandSPX.refsVE bm = true
  fn : ∃ (oc : Value) (od : Option Addr) (osl : Array (Option Value)) (kV doc pm : Value) (an : Option Addr) (cda cc : Addr) (ct : Value) (q : Str), K.lookup fI = some ⟨oc, od, .func (PySem.W.ksFn "__init__" q (L2.defArgs st) (L2.defBody st) (L2.defScope st) .none kV doc pm an (.ref cda) ct cc), osl⟩ ∧ PySem.W.codeIn K (.ref cda) q = true ∧
    (∃ (ccl : Value) (cdd : Option Addr) (vs : Array Value) (ccs : Array (Option Value)) (file : Str) (tf : Tok), K.lookup cda = some ⟨ccl, cdd, .fields vs, ccs⟩ ∧ vs[2]? = some (.str file tf) ∧ ((prog.main.file : Str) == file) = true) ∧
    ∃ (cl : Value) (cld : Option Addr) (csl : Array (Option Value)), K.lookup cc = some ⟨cl, cld, .cell (some (.ref C)), csl⟩
theorem xcl_mk {C fI : Addr} {st : Stmt} {nm q0 : Str} {N : Addr} {bs bm : List Value} {sn : List Str} {sub : List Value} {ab : Bool} {col : Option Bool} {dd : Option Addr} {k0 k1 k2 k3 k5 : Option Value} {oc : Value} {od : Option Addr} {osl : Array (Option Value)} {kV doc pm : Value} {an : Option Addr} {cda cc : Addr} {ct : Value} {q : Str}
    {ccl : Value} {cdd : Option Addr} {vs : Array Value} {ccs : Array (Option Value)} {file : Str} {tf : Tok} {cl : Value} {cld : Option Addr} {csl : Array (Option Value)}
    (l1 : K.lookup C = some (excClassObj nm q0 C N bs bm true sn sub ab col dd k0 k1 k2 k3 k5 "ValueError.__new__")) (h1 : PySem.HandSPX.refsVE bm = true)
    (l2 : K.lookup fI = some ⟨oc, od, .func (PySem.W.ksFn "__init__" q (L2.defArgs st) (L2.defBody st) (L2.defScope st) .none kV doc pm an (.ref cda) ct cc), osl⟩) (h2 : PySem.W.codeIn K (.ref cda) q = true)
    (l3 : K.lookup cda = some ⟨ccl, cdd, .fields vs, ccs⟩) (h3 : vs[2]? = some (.str file tf)) (h4 : ((prog.main.file : Str) == file) = true) (l4 : K.lookup cc = some ⟨cl, cld, .cell (some (.ref C)), csl⟩) : XCl prog K C fI st :=
  ⟨⟨nm, q0, N, bs, bm, sn, sub, ab, col, dd, k0, k1, k2, k3, k5, l1, h1⟩, ⟨oc, od, osl, kV, doc, pm, an, cda, cc, ct, q, l2, h2, ⟨ccl, cdd, vs, ccs, file, tf, l3, h3, h4⟩, ⟨cl, cld, csl, l4⟩⟩⟩
def xB (K : PySem.W.Frag) (ps : List (Addr × Addr)) : Bool := ps.all fun p => decide (PySem.W.findIn K (.ref p.1) "__setattr__" = some (some (.builtin "object.__setattr__"))) && (decide (PySem.W.typeIn K (.ref p.2) = some (.type "function")) && (PySem.W.keepIn K (.ref p.1) && (decide (PySem.W.subIn K (.ref p.1) (.type "BaseException") = some true) &&
  (decide (PySem.W.typeIn K (.ref p.1) = some (.type "type")) && (decide (PySem.W.subIn K (.ref p.1) (.type "ValueError") = some true) && (decide (PySem.W.mroIn K p.1 (.ref p.1) = some true) && decide (PySem.W.ks_superIn K p.1 p.1 "__init__" = some (some (.builtin "ValueError.__init__")))))))))
theorem xtxt_of {x : Str} {C fI : Addr} {st : Stmt} {fs : List Str} {ps : List (Addr × Addr)} (T : XCl prog K C fI st) (g : mg x = some (.ref C)) (iC : PySem.W.findIn K (.ref C) "__init__" = some (some (.ref fI))) (no : ∀ f ∈ fs, PySem.W.findIn K (.ref C) f = some none) (b : xB K ps = true) (m : (C, fI) ∈ ps)
    (op : PySem.W.nsIn K cStatics "thirdparty.any" = some none) (ns : PySem.W.nsIn K mainGlobals "super" = some none) : XTxt prog K mg x C fI st fs := by
  have z := List.all_eq_true.mp b _ m
  simp only [Bool.and_eq_true, decide_eq_true_eq] at z
  exact { gC := g, cls := T.cls, sa := z.1, no := no, iC := iC, tC := z.2.1, kC := z.2.2.1, exC := z.2.2.2.1, tyC := z.2.2.2.2.1, isV := z.2.2.2.2.2.1, own := z.2.2.2.2.2.2.1, sup := z.2.2.2.2.2.2.2, op := op, ns := ns, fn := T.fn }
def pB (K : PySem.W.Frag) (ps : List Addr) : Bool := ps.all fun C => PySem.W.excIn K C [.type "ValueError", .type "Exception", .type "BaseException", .type "object"] "ValueError.__new__" && (PySem.W.keepIn K (.ref C) && (decide (PySem.W.subIn K (.ref C) (.type "BaseException") = some true) && decide (PySem.W.typeIn K (.ref C) = some (.type "type"))))
theorem ptxt_of {x : Str} {C : Addr} {ps : List Addr} (g : mg x = some (.ref C)) (b : pB K ps = true) (m : C ∈ ps) : PTxt K mg x C := by
  have z := List.all_eq_true.mp b _ m
  simp only [Bool.and_eq_true, decide_eq_true_eq] at z
  exact ⟨g, z.1, z.2.1, z.2.2.1, z.2.2.2⟩
def bltB (K : PySem.W.Frag) (xs : List Str) : Bool := xs.all fun x => decide (PySem.W.nsIn K mainGlobals x = some none)
theorem blt_of {xs : List Str} {x : Str} (b : bltB K xs = true) (m : x ∈ xs) : PySem.W.nsIn K mainGlobals x = some none := of_decide_eq_true (List.all_eq_true.mp b _ m)
theorem all_mk {w : World} {h : Heap} {c0 c1 c2 c3 c4 c5 c6 c7 c8 c9 c10 c11 c12 c13 c14 c15 c16 c17 c18 c19 c20 c21 c22 c23 c24 c25 c26 cw i0 i2 i3 i5 i7 i8 i10 i11 i13 i14 i15 i16 i17 i20 i21 i25 f_cell f_draw f_words f_count f_sum f_step f_pair f_item f_part f_args f_same f_raise f_right f_law fa : Addr}
    {oc_cell kV_cell dc_cell pm_cell cd_cell ct_cell : Value} {od_cell an_cell : Option Addr} {sl_cell : Array (Option Value)}
    {oc_draw kV_draw dc_draw pm_draw cd_draw ct_draw : Value} {od_draw an_draw : Option Addr} {sl_draw : Array (Option Value)}
    {oc_words kV_words dc_words pm_words cd_words ct_words : Value} {od_words an_words : Option Addr} {sl_words : Array (Option Value)}
    {oc_count kV_count dc_count pm_count cd_count ct_count : Value} {od_count an_count : Option Addr} {sl_count : Array (Option Value)}
    {oc_sum kV_sum dc_sum pm_sum cd_sum ct_sum : Value} {od_sum an_sum : Option Addr} {sl_sum : Array (Option Value)}
    {oc_step kV_step dc_step pm_step cd_step ct_step : Value} {od_step an_step : Option Addr} {sl_step : Array (Option Value)}
    {oc_pair kV_pair dc_pair pm_pair cd_pair ct_pair : Value} {od_pair an_pair : Option Addr} {sl_pair : Array (Option Value)}
    {oc_item kV_item dc_item pm_item cd_item ct_item : Value} {od_item an_item : Option Addr} {sl_item : Array (Option Value)}
    {oc_part kV_part dc_part pm_part cd_part ct_part : Value} {od_part an_part : Option Addr} {sl_part : Array (Option Value)}
    {oc_args kV_args dc_args pm_args cd_args ct_args : Value} {od_args an_args : Option Addr} {sl_args : Array (Option Value)}
    {oc_same kV_same dc_same pm_same cd_same ct_same : Value} {od_same an_same : Option Addr} {sl_same : Array (Option Value)}
    {oc_raise kV_raise dc_raise pm_raise cd_raise ct_raise : Value} {od_raise an_raise : Option Addr} {sl_raise : Array (Option Value)}
    {oc_right kV_right dc_right pm_right cd_right ct_right : Value} {od_right an_right : Option Addr} {sl_right : Array (Option Value)}
    {oc_law kV_law dc_law pm_law cd_law ct_law : Value} {od_law an_law : Option Addr} {sl_law : Array (Option Value)}
    (X : K.In h) (G : h.Ns mainGlobals mg) (hfa : mg "law" = some (.ref fa))
    (n0 : PySem.W.nsIn K mainGlobals "BadName" = some (some (.ref c0)))
    (n1 : PySem.W.nsIn K mainGlobals "BadWorld" = some (some (.ref c1)))
    (n2 : PySem.W.nsIn K mainGlobals "NoSuchSum" = some (some (.ref c2)))
    (n3 : PySem.W.nsIn K mainGlobals "BadText" = some (some (.ref c3)))
    (n4 : PySem.W.nsIn K mainGlobals "BadNet" = some (some (.ref c4)))
    (n5 : PySem.W.nsIn K mainGlobals "NoHeights" = some (some (.ref c5)))
    (n6 : PySem.W.nsIn K mainGlobals "OtherWorld" = some (some (.ref c6)))
    (n7 : PySem.W.nsIn K mainGlobals "NoRun" = some (some (.ref c7)))
    (n8 : PySem.W.nsIn K mainGlobals "OutOfRange" = some (some (.ref c8)))
    (n9 : PySem.W.nsIn K mainGlobals "BadList" = some (some (.ref c9)))
    (n10 : PySem.W.nsIn K mainGlobals "NotFitting" = some (some (.ref c10)))
    (n11 : PySem.W.nsIn K mainGlobals "TooFar" = some (some (.ref c11)))
    (n12 : PySem.W.nsIn K mainGlobals "BadSetup" = some (some (.ref c12)))
    (n13 : PySem.W.nsIn K mainGlobals "BadItem" = some (some (.ref c13)))
    (n14 : PySem.W.nsIn K mainGlobals "BadLine" = some (some (.ref c14)))
    (n15 : PySem.W.nsIn K mainGlobals "BadForm" = some (some (.ref c15)))
    (n16 : PySem.W.nsIn K mainGlobals "BadQuestion" = some (some (.ref c16)))
    (n17 : PySem.W.nsIn K mainGlobals "TooManyCases" = some (some (.ref c17)))
    (n18 : PySem.W.nsIn K mainGlobals "BadMachine" = some (some (.ref c18)))
    (n19 : PySem.W.nsIn K mainGlobals "BadRule" = some (some (.ref c19)))
    (n20 : PySem.W.nsIn K mainGlobals "TooManySets" = some (some (.ref c20)))
    (n21 : PySem.W.nsIn K mainGlobals "TooManyLots" = some (some (.ref c21)))
    (n22 : PySem.W.nsIn K mainGlobals "BadMeter" = some (some (.ref c22)))
    (n23 : PySem.W.nsIn K mainGlobals "BadTrace" = some (some (.ref c23)))
    (n24 : PySem.W.nsIn K mainGlobals "BadCauses" = some (some (.ref c24)))
    (n25 : PySem.W.nsIn K mainGlobals "WouldLose" = some (some (.ref c25)))
    (n26 : PySem.W.nsIn K mainGlobals "NothingToUndo" = some (some (.ref c26)))
    (nw : PySem.W.nsIn K mainGlobals "WatchError" = some (some (.ref cw)))
    (j0 : PySem.W.findIn K (.ref c0) "__init__" = some (some (.ref i0)))
    (j2 : PySem.W.findIn K (.ref c2) "__init__" = some (some (.ref i2)))
    (j3 : PySem.W.findIn K (.ref c3) "__init__" = some (some (.ref i3)))
    (j5 : PySem.W.findIn K (.ref c5) "__init__" = some (some (.ref i5)))
    (j7 : PySem.W.findIn K (.ref c7) "__init__" = some (some (.ref i7)))
    (j8 : PySem.W.findIn K (.ref c8) "__init__" = some (some (.ref i8)))
    (j10 : PySem.W.findIn K (.ref c10) "__init__" = some (some (.ref i10)))
    (j11 : PySem.W.findIn K (.ref c11) "__init__" = some (some (.ref i11)))
    (j13 : PySem.W.findIn K (.ref c13) "__init__" = some (some (.ref i13)))
    (j14 : PySem.W.findIn K (.ref c14) "__init__" = some (some (.ref i14)))
    (j15 : PySem.W.findIn K (.ref c15) "__init__" = some (some (.ref i15)))
    (j16 : PySem.W.findIn K (.ref c16) "__init__" = some (some (.ref i16)))
    (j17 : PySem.W.findIn K (.ref c17) "__init__" = some (some (.ref i17)))
    (j20 : PySem.W.findIn K (.ref c20) "__init__" = some (some (.ref i20)))
    (j21 : PySem.W.findIn K (.ref c21) "__init__" = some (some (.ref i21)))
    (j25 : PySem.W.findIn K (.ref c25) "__init__" = some (some (.ref i25)))
    (x0 : XCl prog K c0 i0 (L2.inClass (topS 2) 0))
    (x2 : XCl prog K c2 i2 (L2.inClass (topS 4) 0))
    (x3 : XCl prog K c3 i3 (L2.inClass (topS 5) 0))
    (x5 : XCl prog K c5 i5 (L2.inClass (topS 7) 0))
    (x7 : XCl prog K c7 i7 (L2.inClass (topS 9) 0))
    (x8 : XCl prog K c8 i8 (L2.inClass (topS 10) 0))
    (x10 : XCl prog K c10 i10 (L2.inClass (topS 12) 0))
    (x11 : XCl prog K c11 i11 (L2.inClass (topS 13) 0))
    (x13 : XCl prog K c13 i13 (L2.inClass (topS 15) 0))
    (x14 : XCl prog K c14 i14 (L2.inClass (topS 16) 0))
    (x15 : XCl prog K c15 i15 (L2.inClass (topS 17) 0))
    (x16 : XCl prog K c16 i16 (L2.inClass (topS 18) 0))
    (x17 : XCl prog K c17 i17 (L2.inClass (topS 19) 0))
    (x20 : XCl prog K c20 i20 (L2.inClass (topS 22) 0))
    (x21 : XCl prog K c21 i21 (L2.inClass (topS 23) 0))
    (x25 : XCl prog K c25 i25 (L2.inClass (topS 27) 0))
    (b0 : oneB K = true)
    (b1 : clsB K [c0, c1, c2, c3, c4, c5, c6, c7, c8, c9, c10, c11, c12, c13, c14, c15, c16, c17, c18, c19, c20, c21, c22, c23, c24, c25, c26] = true)
    (b2 : tabB K [c0, c1, c2, c3, c4, c5, c6, c7, c8, c9, c10, c11, c12, c13, c14, c15, c16, c17, c18, c19, c20, c21, c22, c23, c24, c25, c26] = true)
    (b3 : veB K [c0, c1, c2, c3, c4, c5, c6, c7, c8, c9, c10, c11, c12, c13, c14, c15, c16, c17, c18, c19, c20, c21, c22, c23, c24, c25, c26] cw = true)
    (b4 : fldB K [c0, c1, c2, c3, c4, c5, c6, c7, c8, c9, c10, c11, c12, c13, c14, c15, c16, c17, c18, c19, c20, c21, c22, c23, c24, c25, c26] = true)
    (b5 : xB K [(c0, i0), (c2, i2), (c3, i3), (c5, i5), (c7, i7), (c8, i8), (c10, i10), (c11, i11), (c13, i13), (c14, i14), (c15, i15), (c16, i16), (c17, i17), (c20, i20), (c21, i21), (c25, i25)] = true)
    (b6 : pB K [c1, c4, c6, c9, c12, c18, c19, c22, c23, c24, c26] = true)
    (b7 : bltB K ["len", "int", "range", "isinstance", "list", "tuple", "bool", "str", "ValueError", "super"] = true)
    (b8 : PySem.W.nsIn K cStatics "thirdparty.any" = some none)
    (a_cell : PySem.W.nsIn K mainGlobals "_law_cell" = some (some (.ref f_cell)))
    (l_cell : K.lookup f_cell = some ⟨oc_cell, od_cell, .func (PySem.W.fnOf "_law_cell" "_law_cell" (defArgs s_law_cell) (defBody s_law_cell) (defScope s_law_cell) .none kV_cell dc_cell pm_cell an_cell cd_cell ct_cell), sl_cell⟩)
    (q_cell : PySem.W.codeIn K cd_cell "_law_cell" = true)
    (k_cell : PySem.W.keepIn K (.ref f_cell) = true)
    (a_draw : PySem.W.nsIn K mainGlobals "_law_draw" = some (some (.ref f_draw)))
    (l_draw : K.lookup f_draw = some ⟨oc_draw, od_draw, .func (PySem.W.fnOf "_law_draw" "_law_draw" (defArgs s_law_draw) (defBody s_law_draw) (defScope s_law_draw) .none kV_draw dc_draw pm_draw an_draw cd_draw ct_draw), sl_draw⟩)
    (q_draw : PySem.W.codeIn K cd_draw "_law_draw" = true)
    (k_draw : PySem.W.keepIn K (.ref f_draw) = true)
    (a_words : PySem.W.nsIn K mainGlobals "_law_words" = some (some (.ref f_words)))
    (l_words : K.lookup f_words = some ⟨oc_words, od_words, .func (PySem.W.fnOf "_law_words" "_law_words" (defArgs s_law_words) (defBody s_law_words) (defScope s_law_words) .none kV_words dc_words pm_words an_words cd_words ct_words), sl_words⟩)
    (q_words : PySem.W.codeIn K cd_words "_law_words" = true)
    (k_words : PySem.W.keepIn K (.ref f_words) = true)
    (a_count : PySem.W.nsIn K mainGlobals "_law_count" = some (some (.ref f_count)))
    (l_count : K.lookup f_count = some ⟨oc_count, od_count, .func (PySem.W.fnOf "_law_count" "_law_count" (defArgs s_law_count) (defBody s_law_count) (defScope s_law_count) .none kV_count dc_count pm_count an_count cd_count ct_count), sl_count⟩)
    (q_count : PySem.W.codeIn K cd_count "_law_count" = true)
    (k_count : PySem.W.keepIn K (.ref f_count) = true)
    (a_sum : PySem.W.nsIn K mainGlobals "_law_sum" = some (some (.ref f_sum)))
    (l_sum : K.lookup f_sum = some ⟨oc_sum, od_sum, .func (PySem.W.fnOf "_law_sum" "_law_sum" (defArgs s_law_sum) (defBody s_law_sum) (defScope s_law_sum) .none kV_sum dc_sum pm_sum an_sum cd_sum ct_sum), sl_sum⟩)
    (q_sum : PySem.W.codeIn K cd_sum "_law_sum" = true)
    (k_sum : PySem.W.keepIn K (.ref f_sum) = true)
    (a_step : PySem.W.nsIn K mainGlobals "_law_step" = some (some (.ref f_step)))
    (l_step : K.lookup f_step = some ⟨oc_step, od_step, .func (PySem.W.fnOf "_law_step" "_law_step" (defArgs s_law_step) (defBody s_law_step) (defScope s_law_step) .none kV_step dc_step pm_step an_step cd_step ct_step), sl_step⟩)
    (q_step : PySem.W.codeIn K cd_step "_law_step" = true)
    (k_step : PySem.W.keepIn K (.ref f_step) = true)
    (a_pair : PySem.W.nsIn K mainGlobals "_law_pair" = some (some (.ref f_pair)))
    (l_pair : K.lookup f_pair = some ⟨oc_pair, od_pair, .func (PySem.W.fnOf "_law_pair" "_law_pair" (defArgs s_law_pair) (defBody s_law_pair) (defScope s_law_pair) .none kV_pair dc_pair pm_pair an_pair cd_pair ct_pair), sl_pair⟩)
    (q_pair : PySem.W.codeIn K cd_pair "_law_pair" = true)
    (k_pair : PySem.W.keepIn K (.ref f_pair) = true)
    (a_item : PySem.W.nsIn K mainGlobals "_law_item" = some (some (.ref f_item)))
    (l_item : K.lookup f_item = some ⟨oc_item, od_item, .func (PySem.W.fnOf "_law_item" "_law_item" (defArgs s_law_item) (defBody s_law_item) (defScope s_law_item) .none kV_item dc_item pm_item an_item cd_item ct_item), sl_item⟩)
    (q_item : PySem.W.codeIn K cd_item "_law_item" = true)
    (k_item : PySem.W.keepIn K (.ref f_item) = true)
    (a_part : PySem.W.nsIn K mainGlobals "_law_part" = some (some (.ref f_part)))
    (l_part : K.lookup f_part = some ⟨oc_part, od_part, .func (PySem.W.fnOf "_law_part" "_law_part" (defArgs s_law_part) (defBody s_law_part) (defScope s_law_part) .none kV_part dc_part pm_part an_part cd_part ct_part), sl_part⟩)
    (q_part : PySem.W.codeIn K cd_part "_law_part" = true)
    (k_part : PySem.W.keepIn K (.ref f_part) = true)
    (a_args : PySem.W.nsIn K mainGlobals "_law_arguments" = some (some (.ref f_args)))
    (l_args : K.lookup f_args = some ⟨oc_args, od_args, .func (PySem.W.fnOf "_law_arguments" "_law_arguments" (defArgs s_law_arguments) (defBody s_law_arguments) (defScope s_law_arguments) .none kV_args dc_args pm_args an_args cd_args ct_args), sl_args⟩)
    (q_args : PySem.W.codeIn K cd_args "_law_arguments" = true)
    (k_args : PySem.W.keepIn K (.ref f_args) = true)
    (a_same : PySem.W.nsIn K mainGlobals "_law_same" = some (some (.ref f_same)))
    (l_same : K.lookup f_same = some ⟨oc_same, od_same, .func (PySem.W.fnOf "_law_same" "_law_same" (defArgs s_law_same) (defBody s_law_same) (defScope s_law_same) .none kV_same dc_same pm_same an_same cd_same ct_same), sl_same⟩)
    (q_same : PySem.W.codeIn K cd_same "_law_same" = true)
    (k_same : PySem.W.keepIn K (.ref f_same) = true)
    (a_raise : PySem.W.nsIn K mainGlobals "_law_raise" = some (some (.ref f_raise)))
    (l_raise : K.lookup f_raise = some ⟨oc_raise, od_raise, .func (PySem.W.fnOf "_law_raise" "_law_raise" (defArgs s_raise) (defBody s_raise) (defScope s_raise) .none kV_raise dc_raise pm_raise an_raise cd_raise ct_raise), sl_raise⟩)
    (q_raise : PySem.W.codeIn K cd_raise "_law_raise" = true)
    (k_raise : PySem.W.keepIn K (.ref f_raise) = true)
    (a_right : PySem.W.nsIn K mainGlobals "_law_right" = some (some (.ref f_right)))
    (l_right : K.lookup f_right = some ⟨oc_right, od_right, .func (PySem.W.fnOf "_law_right" "_law_right" (defArgs s_law_right) (defBody s_law_right) (defScope s_law_right) .none kV_right dc_right pm_right an_right cd_right ct_right), sl_right⟩)
    (q_right : PySem.W.codeIn K cd_right "_law_right" = true)
    (k_right : PySem.W.keepIn K (.ref f_right) = true)
    (a_law : PySem.W.nsIn K mainGlobals "law" = some (some (.ref f_law)))
    (l_law : K.lookup f_law = some ⟨oc_law, od_law, .func (PySem.W.fnOf "law" "law" (defArgs s_law) (defBody s_law) (defScope s_law) .none kV_law dc_law pm_law an_law cd_law ct_law), sl_law⟩)
    (q_law : PySem.W.codeIn K cd_law "law" = true)
    (k_law : PySem.W.keepIn K (.ref f_law) = true)
    (tp : (prog.main.scope.names.lookup ("super" : Str)).isSome = false) :
    ∃ fd : FuncData, (∀ (s : Shared) (v : Value), BindsTo s fd ⟨[v], []⟩ [("script", v)]) ∧ ∀ base : Heap, K.In base → base.Ns mainGlobals mg → FnOk prog w K mg base CX0 9 fa fd ["script"] (spLaw K) := by
  have e := hfa.symm.trans (PySem.W.mg_of X G a_law)
  cases e
  have gb : ∀ {x : Str} {c : Value}, PySem.W.nsIn K mainGlobals x = some (some c) → mg x = some c := fun e => PySem.W.mg_of X G e
  have gn : ∀ {x : Str}, PySem.W.nsIn K mainGlobals x = some none → mg x = none := fun e => PySem.W.mg_none_of X G e
  have bn : ∀ {x : Str}, x ∈ (["len", "int", "range", "isinstance", "list", "tuple", "bool", "str", "ValueError", "super"] : List Str) → mg x = none := fun m => gn (blt_of b7 m)
  have B : Blt mg := ⟨bn (by decide), bn (by decide), bn (by decide), bn (by decide), bn (by decide), bn (by decide), bn (by decide), bn (by decide)⟩
  have hno : ∀ kind n, kind < 27 → n ∈ flds kind → PySem.W.findIn K (.ref ([c0, c1, c2, c3, c4, c5, c6, c7, c8, c9, c10, c11, c12, c13, c14, c15, c16, c17, c18, c19, c20, c21, c22, c23, c24, c25, c26].getD kind 0)) n = some none := fun kind n hk hn => of_decide_eq_true (List.all_eq_true.mp (List.all_eq_true.mp b4 kind (List.mem_range.mpr hk)) n hn)
  have hsu : PySem.W.nsIn K mainGlobals "super" = some none := blt_of b7 (by decide)
  have E : Errs prog K mg (fun k => [c0, c1, c2, c3, c4, c5, c6, c7, c8, c9, c10, c11, c12, c13, c14, c15, c16, c17, c18, c19, c20, c21, c22, c23, c24, c25, c26].getD k 0) (fun k => [i0, 0, i2, i3, 0, i5, 0, i7, i8, 0, i10, i11, 0, i13, i14, i15, i16, i17, 0, 0, i20, i21, 0, 0, 0, i25, 0].getD k 0) := { 
    e0 := xtxt_of x0 (gb n0) j0 (fun f hf => hno 0 f (by decide) hf) b5 (by simp) b8 hsu
    e1 := ptxt_of (gb n1) b6 (by simp)
    e2 := xtxt_of x2 (gb n2) j2 (fun f hf => hno 2 f (by decide) hf) b5 (by simp) b8 hsu
    e3 := xtxt_of x3 (gb n3) j3 (fun f hf => hno 3 f (by decide) hf) b5 (by simp) b8 hsu
    e4 := ptxt_of (gb n4) b6 (by simp)
    e5 := xtxt_of x5 (gb n5) j5 (fun f hf => hno 5 f (by decide) hf) b5 (by simp) b8 hsu
    e6 := ptxt_of (gb n6) b6 (by simp)
    e7 := xtxt_of x7 (gb n7) j7 (fun f hf => hno 7 f (by decide) hf) b5 (by simp) b8 hsu
    e8 := xtxt_of x8 (gb n8) j8 (fun f hf => hno 8 f (by decide) hf) b5 (by simp) b8 hsu
    e9 := ptxt_of (gb n9) b6 (by simp)
    e10 := xtxt_of x10 (gb n10) j10 (fun f hf => hno 10 f (by decide) hf) b5 (by simp) b8 hsu
    e11 := xtxt_of x11 (gb n11) j11 (fun f hf => hno 11 f (by decide) hf) b5 (by simp) b8 hsu
    e12 := ptxt_of (gb n12) b6 (by simp)
    e13 := xtxt_of x13 (gb n13) j13 (fun f hf => hno 13 f (by decide) hf) b5 (by simp) b8 hsu
    e14 := xtxt_of x14 (gb n14) j14 (fun f hf => hno 14 f (by decide) hf) b5 (by simp) b8 hsu
    e15 := xtxt_of x15 (gb n15) j15 (fun f hf => hno 15 f (by decide) hf) b5 (by simp) b8 hsu
    e16 := xtxt_of x16 (gb n16) j16 (fun f hf => hno 16 f (by decide) hf) b5 (by simp) b8 hsu
    e17 := xtxt_of x17 (gb n17) j17 (fun f hf => hno 17 f (by decide) hf) b5 (by simp) b8 hsu
    e18 := ptxt_of (gb n18) b6 (by simp)
    e19 := ptxt_of (gb n19) b6 (by simp)
    e20 := xtxt_of x20 (gb n20) j20 (fun f hf => hno 20 f (by decide) hf) b5 (by simp) b8 hsu
    e21 := xtxt_of x21 (gb n21) j21 (fun f hf => hno 21 f (by decide) hf) b5 (by simp) b8 hsu
    e22 := ptxt_of (gb n22) b6 (by simp)
    e23 := ptxt_of (gb n23) b6 (by simp)
    e24 := ptxt_of (gb n24) b6 (by simp)
    e25 := xtxt_of x25 (gb n25) j25 (fun f hf => hno 25 f (by decide) hf) b5 (by simp) b8 hsu
    e26 := ptxt_of (gb n26) b6 (by simp)
  }
  have M : Mods mg (fun k => [c0, c1, c2, c3, c4, c5, c6, c7, c8, c9, c10, c11, c12, c13, c14, c15, c16, c17, c18, c19, c20, c21, c22, c23, c24, c25, c26].getD k 0) := ⟨bn (by decide), gb n0, gb n1, gb n2, gb n3, gb n4, gb n5, gb n6, gb n7, gb n8, gb n9, gb n10, gb n11, gb n12, gb n13, gb n14, gb n15, gb n16, gb n17, gb n18, gb n19, gb n20, gb n21, gb n22, gb n23, gb n24, gb n25, gb n26⟩
  have T := tabs_of b2 b3
  have hmem : ∀ kind, kind < 27 → [c0, c1, c2, c3, c4, c5, c6, c7, c8, c9, c10, c11, c12, c13, c14, c15, c16, c17, c18, c19, c20, c21, c22, c23, c24, c25, c26].getD kind 0 ∈ [c0, c1, c2, c3, c4, c5, c6, c7, c8, c9, c10, c11, c12, c13, c14, c15, c16, c17, c18, c19, c20, c21, c22, c23, c24, c25, c26] := fun kind hk => by
    have m := List.all_eq_true.mp b3 kind (List.mem_range.mpr hk)
    simp only [Bool.and_eq_true, decide_eq_true_eq] at m
    exact m.1
  have hL : ∀ c ∈ [c0, c1, c2, c3, c4, c5, c6, c7, c8, c9, c10, c11, c12, c13, c14, c15, c16, c17, c18, c19, c20, c21, c22, c23, c24, c25, c26], ExcC K c := fun c hc => excB_ok (List.all_eq_true.mp b1 c hc) b0
  have hexm : ∀ kind, kind < 27 → PySem.W.exmOne K (.ref ([c0, c1, c2, c3, c4, c5, c6, c7, c8, c9, c10, c11, c12, c13, c14, c15, c16, c17, c18, c19, c20, c21, c22, c23, c24, c25, c26].getD kind 0)) (.ref cw) = some true := fun kind hk => by
    have m := List.all_eq_true.mp b3 kind (List.mem_range.mpr hk)
    simp only [Bool.and_eq_true, decide_eq_true_eq] at m
    exact m.2.2
  have hfld : ∀ kind n, kind < 27 → n ∈ flds kind → XfC K ([c0, c1, c2, c3, c4, c5, c6, c7, c8, c9, c10, c11, c12, c13, c14, c15, c16, c17, c18, c19, c20, c21, c22, c23, c24, c25, c26].getD kind 0) ∧ PySem.W.findIn K (.ref ([c0, c1, c2, c3, c4, c5, c6, c7, c8, c9, c10, c11, c12, c13, c14, c15, c16, c17, c18, c19, c20, c21, c22, c23, c24, c25, c26].getD kind 0)) n = some none := fun kind n hk hn => by
    have z := hL _ (hmem kind hk)
    exact ⟨⟨z.hg, z.hk, z.hs, z.hd⟩, hno kind n hk hn⟩
  have F_cell := fun_mk (st := s_law_cell) l_cell q_cell k_cell
  have C_cell : DL.Cal K mg "_law_cell" f_cell _ ["script", "at"] := ⟨gb a_cell, k_cell, F_cell.binds (ps := ["script", "at"]) fun _ _ _ _ _ _ us hl => match us, hl with | [_, _], _ => rfl⟩
  have F_draw := fun_mk (st := s_law_draw) l_draw q_draw k_draw
  have C_draw : DL.Cal K mg "_law_draw" f_draw _ ["script", "at", "k", "size"] := ⟨gb a_draw, k_draw, F_draw.binds (ps := ["script", "at", "k", "size"]) fun _ _ _ _ _ _ us hl => match us, hl with | [_, _, _, _], _ => rfl⟩
  have F_words := fun_mk (st := s_law_words) l_words q_words k_words
  have C_words : DL.Cal K mg "_law_words" f_words _ ["script", "at", "k"] := ⟨gb a_words, k_words, F_words.binds (ps := ["script", "at", "k"]) fun _ _ _ _ _ _ us hl => match us, hl with | [_, _, _], _ => rfl⟩
  have F_count := fun_mk (st := s_law_count) l_count q_count k_count
  have C_count : DL.Cal K mg "_law_count" f_count _ ["script", "at", "k"] := ⟨gb a_count, k_count, F_count.binds (ps := ["script", "at", "k"]) fun _ _ _ _ _ _ us hl => match us, hl with | [_, _, _], _ => rfl⟩
  have F_sum := fun_mk (st := s_law_sum) l_sum q_sum k_sum
  have C_sum : DL.Cal K mg "_law_sum" f_sum _ ["script", "at", "k"] := ⟨gb a_sum, k_sum, F_sum.binds (ps := ["script", "at", "k"]) fun _ _ _ _ _ _ us hl => match us, hl with | [_, _, _], _ => rfl⟩
  have F_step := fun_mk (st := s_law_step) l_step q_step k_step
  have C_step : DL.Cal K mg "_law_step" f_step _ ["script", "at", "k"] := ⟨gb a_step, k_step, F_step.binds (ps := ["script", "at", "k"]) fun _ _ _ _ _ _ us hl => match us, hl with | [_, _, _], _ => rfl⟩
  have F_pair := fun_mk (st := s_law_pair) l_pair q_pair k_pair
  have C_pair : DL.Cal K mg "_law_pair" f_pair _ ["script", "at", "k"] := ⟨gb a_pair, k_pair, F_pair.binds (ps := ["script", "at", "k"]) fun _ _ _ _ _ _ us hl => match us, hl with | [_, _, _], _ => rfl⟩
  have F_item := fun_mk (st := s_law_item) l_item q_item k_item
  have C_item : DL.Cal K mg "_law_item" f_item _ ["script", "at"] := ⟨gb a_item, k_item, F_item.binds (ps := ["script", "at"]) fun _ _ _ _ _ _ us hl => match us, hl with | [_, _], _ => rfl⟩
  have F_part := fun_mk (st := s_law_part) l_part q_part k_part
  have C_part : DL.Cal K mg "_law_part" f_part _ ["script", "at"] := ⟨gb a_part, k_part, F_part.binds (ps := ["script", "at"]) fun _ _ _ _ _ _ us hl => match us, hl with | [_, _], _ => rfl⟩
  have F_args := fun_mk (st := s_law_arguments) l_args q_args k_args
  have C_args : DL.Cal K mg "_law_arguments" f_args _ ["script", "at", "kind"] := ⟨gb a_args, k_args, F_args.binds (ps := ["script", "at", "kind"]) fun _ _ _ _ _ _ us hl => match us, hl with | [_, _, _], _ => rfl⟩
  have F_same := fun_mk (st := s_law_same) l_same q_same k_same
  have C_same : DL.Cal K mg "_law_same" f_same _ ["told", "due"] := ⟨gb a_same, k_same, F_same.binds (ps := ["told", "due"]) fun _ _ _ _ _ _ us hl => match us, hl with | [_, _], _ => rfl⟩
  have F_raise := fun_mk (st := s_raise) l_raise q_raise k_raise
  have C_raise : DL.Cal K mg "_law_raise" f_raise _ ["kind", "passed"] := ⟨gb a_raise, k_raise, F_raise.binds (ps := ["kind", "passed"]) fun _ _ _ _ _ _ us hl => match us, hl with | [_, _], _ => rfl⟩
  have F_right := fun_mk (st := s_law_right) l_right q_right k_right
  have C_right : DL.Cal K mg "_law_right" f_right _ ["script", "kind", "turn"] := ⟨gb a_right, k_right, F_right.binds (ps := ["script", "kind", "turn"]) fun _ _ _ _ _ _ us hl => match us, hl with | [_, _, _], _ => rfl⟩
  have F_law := fun_mk (st := s_law) l_law q_law k_law
  exact ⟨_, fun s v => .of_eq rfl, fun base _ _ => ok_law (C := fun k => [c0, c1, c2, c3, c4, c5, c6, c7, c8, c9, c10, c11, c12, c13, c14, c15, c16, c17, c18, c19, c20, c21, c22, c23, c24, c25, c26].getD k 0) (L := [c0, c1, c2, c3, c4, c5, c6, c7, c8, c9, c10, c11, c12, c13, c14, c15, c16, c17, c18, c19, c20, c21, c22, c23, c24, c25, c26]) B (bn (by decide)) tp M (gb nw) E T hL hfld hexm F_cell C_cell F_draw C_draw F_words C_words F_count C_count F_sum C_sum F_step C_step F_pair C_pair F_item C_item F_part C_part F_args C_args F_same C_same F_raise C_raise F_right C_right F_law⟩
end
end K23
namespace K23
open PySem PySem.Spec PyProof.Rows L2 DL
theorem walk {l : PySem.W.OpenLaw} {q : Program} {loose : List Str} {XP : (Str → Option Value) → Heap → Prop} {YP : World → Heap → Prop} {d : DefRec} {K : Params → PySem.W.Frag} (hn : l.most = some 63) (hdf : d.params.defaults = [])
    (hY : ∀ (w : World) (h : Heap), YP w h → (K w.params).In h)
    (F : ∀ (w : World) (mg : Str → Option Value) (fa : Addr) (h : Heap), (K w.params).In h → h.Ns mainGlobals mg → mg d.name = some (.ref fa) →
      ∃ fd : FuncData, (∀ (s : Shared) (u : Value), BindsTo s fd ⟨[u], []⟩ [("script", u)]) ∧ ∀ base : Heap, (K w.params).In base → base.Ns mainGlobals mg → FnOk l.prog w (K w.params) mg base CX0 9 fa fd ["script"] (spLaw (K w.params))) :
    PySem.W.WalkO q loose XP YP l.row.toRowW d [] (fun f vs => PySem.call f vs) :=
  L2.walk_of (n := 63) (k := 9) (x := "script") (CX := fun _ => CX0) (sp := fun w => spLaw (K w.params)) hn (by decide) hdf ⟨rfl, by decide, by decide⟩ hY F (fun _ _ a ns hl _ hS => ⟨a, ns, rfl, hS, fun _ => rfl⟩) fun _ _ _ _ _ z => z
end K23
open PySem PySem.W PyProof.Rows
set_option maxRecDepth 100000 in
set_option maxHeartbeats 0 in
theorem PySem.Challenge.cw_surelyseen_k23_errors_are_their_own_holds : PySem.Challenge.rw_surelyseen_k23_errors_are_their_own.Holds := by
  w_on; o_law; k_head; (case hw => w_witness2)
  k_fill
  refine K23.walk (l := PySem.Challenge.rw_surelyseen_k23_errors_are_their_own) rfl rfl (fun w h Y => PySem.W.kIn_of Y) ?F
  case F =>
  intro w mg fa h KX G hmg
  refine' K23.all_mk KX G hmg ?n0 ?n1 ?n2 ?n3 ?n4 ?n5 ?n6 ?n7 ?n8 ?n9 ?n10 ?n11 ?n12 ?n13 ?n14 ?n15 ?n16 ?n17 ?n18 ?n19 ?n20 ?n21 ?n22 ?n23 ?n24 ?n25 ?n26 ?nw ?j0 ?j2 ?j3 ?j5 ?j7 ?j8 ?j10 ?j11 ?j13 ?j14 ?j15 ?j16 ?j17 ?j20 ?j21 ?j25 ?x0 ?x2 ?x3 ?x5 ?x7 ?x8 ?x10 ?x11 ?x13 ?x14 ?x15 ?x16 ?x17 ?x20 ?x21 ?x25 ?b0 ?b1 ?b2 ?b3 ?b4 ?b5 ?b6 ?b7 ?b8 ?a_cell ?l_cell ?q_cell ?k_cell ?a_draw ?l_draw ?q_draw ?k_draw ?a_words ?l_words ?q_words ?k_words ?a_count ?l_count ?q_count ?k_count ?a_sum ?l_sum ?q_sum ?k_sum ?a_step ?l_step ?q_step ?k_step ?a_pair ?l_pair ?q_pair ?k_pair ?a_item ?l_item ?q_item ?k_item ?a_part ?l_part ?q_part ?k_part ?a_args ?l_args ?q_args ?k_args ?a_same ?l_same ?q_same ?k_same ?a_raise ?l_raise ?q_raise ?k_raise ?a_right ?l_right ?q_right ?k_right ?a_law ?l_law ?q_law ?k_law ?tp
  (case n0 => k_is)
  (case n1 => k_is)
  (case n2 => k_is)
  (case n3 => k_is)
  (case n4 => k_is)
  (case n5 => k_is)
  (case n6 => k_is)
  (case n7 => k_is)
  (case n8 => k_is)
  (case n9 => k_is)
  (case n10 => k_is)
  (case n11 => k_is)
  (case n12 => k_is)
  (case n13 => k_is)
  (case n14 => k_is)
  (case n15 => k_is)
  (case n16 => k_is)
  (case n17 => k_is)
  (case n18 => k_is)
  (case n19 => k_is)
  (case n20 => k_is)
  (case n21 => k_is)
  (case n22 => k_is)
  (case n23 => k_is)
  (case n24 => k_is)
  (case n25 => k_is)
  (case n26 => k_is)
  (case nw => k_is)
  (case j0 => k_is)
  (case j2 => k_is)
  (case j3 => k_is)
  (case j5 => k_is)
  (case j7 => k_is)
  (case j8 => k_is)
  (case j10 => k_is)
  (case j11 => k_is)
  (case j13 => k_is)
  (case j14 => k_is)
  (case j15 => k_is)
  (case j16 => k_is)
  (case j17 => k_is)
  (case j20 => k_is)
  (case j21 => k_is)
  (case j25 => k_is)
  (case x0 => (refine' K23.xcl_mk ?l1 ?h1 ?l2 ?h2 ?l3 ?h3 ?h4 ?l4; (case l1 => k_is); (case h1 => rfl); (case l2 => k_is); (case h2 => k_is); (case l3 => k_is); (case h3 => rfl); (case h4 => rfl); (case l4 => k_is)))
  (case x2 => (refine' K23.xcl_mk ?l1 ?h1 ?l2 ?h2 ?l3 ?h3 ?h4 ?l4; (case l1 => k_is); (case h1 => rfl); (case l2 => k_is); (case h2 => k_is); (case l3 => k_is); (case h3 => rfl); (case h4 => rfl); (case l4 => k_is)))
  (case x3 => (refine' K23.xcl_mk ?l1 ?h1 ?l2 ?h2 ?l3 ?h3 ?h4 ?l4; (case l1 => k_is); (case h1 => rfl); (case l2 => k_is); (case h2 => k_is); (case l3 => k_is); (case h3 => rfl); (case h4 => rfl); (case l4 => k_is)))
  (case x5 => (refine' K23.xcl_mk ?l1 ?h1 ?l2 ?h2 ?l3 ?h3 ?h4 ?l4; (case l1 => k_is); (case h1 => rfl); (case l2 => k_is); (case h2 => k_is); (case l3 => k_is); (case h3 => rfl); (case h4 => rfl); (case l4 => k_is)))
  (case x7 => (refine' K23.xcl_mk ?l1 ?h1 ?l2 ?h2 ?l3 ?h3 ?h4 ?l4; (case l1 => k_is); (case h1 => rfl); (case l2 => k_is); (case h2 => k_is); (case l3 => k_is); (case h3 => rfl); (case h4 => rfl); (case l4 => k_is)))
  (case x8 => (refine' K23.xcl_mk ?l1 ?h1 ?l2 ?h2 ?l3 ?h3 ?h4 ?l4; (case l1 => k_is); (case h1 => rfl); (case l2 => k_is); (case h2 => k_is); (case l3 => k_is); (case h3 => rfl); (case h4 => rfl); (case l4 => k_is)))
  (case x10 => (refine' K23.xcl_mk ?l1 ?h1 ?l2 ?h2 ?l3 ?h3 ?h4 ?l4; (case l1 => k_is); (case h1 => rfl); (case l2 => k_is); (case h2 => k_is); (case l3 => k_is); (case h3 => rfl); (case h4 => rfl); (case l4 => k_is)))
  (case x11 => (refine' K23.xcl_mk ?l1 ?h1 ?l2 ?h2 ?l3 ?h3 ?h4 ?l4; (case l1 => k_is); (case h1 => rfl); (case l2 => k_is); (case h2 => k_is); (case l3 => k_is); (case h3 => rfl); (case h4 => rfl); (case l4 => k_is)))
  (case x13 => (refine' K23.xcl_mk ?l1 ?h1 ?l2 ?h2 ?l3 ?h3 ?h4 ?l4; (case l1 => k_is); (case h1 => rfl); (case l2 => k_is); (case h2 => k_is); (case l3 => k_is); (case h3 => rfl); (case h4 => rfl); (case l4 => k_is)))
  (case x14 => (refine' K23.xcl_mk ?l1 ?h1 ?l2 ?h2 ?l3 ?h3 ?h4 ?l4; (case l1 => k_is); (case h1 => rfl); (case l2 => k_is); (case h2 => k_is); (case l3 => k_is); (case h3 => rfl); (case h4 => rfl); (case l4 => k_is)))
  (case x15 => (refine' K23.xcl_mk ?l1 ?h1 ?l2 ?h2 ?l3 ?h3 ?h4 ?l4; (case l1 => k_is); (case h1 => rfl); (case l2 => k_is); (case h2 => k_is); (case l3 => k_is); (case h3 => rfl); (case h4 => rfl); (case l4 => k_is)))
  (case x16 => (refine' K23.xcl_mk ?l1 ?h1 ?l2 ?h2 ?l3 ?h3 ?h4 ?l4; (case l1 => k_is); (case h1 => rfl); (case l2 => k_is); (case h2 => k_is); (case l3 => k_is); (case h3 => rfl); (case h4 => rfl); (case l4 => k_is)))
  (case x17 => (refine' K23.xcl_mk ?l1 ?h1 ?l2 ?h2 ?l3 ?h3 ?h4 ?l4; (case l1 => k_is); (case h1 => rfl); (case l2 => k_is); (case h2 => k_is); (case l3 => k_is); (case h3 => rfl); (case h4 => rfl); (case l4 => k_is)))
  (case x20 => (refine' K23.xcl_mk ?l1 ?h1 ?l2 ?h2 ?l3 ?h3 ?h4 ?l4; (case l1 => k_is); (case h1 => rfl); (case l2 => k_is); (case h2 => k_is); (case l3 => k_is); (case h3 => rfl); (case h4 => rfl); (case l4 => k_is)))
  (case x21 => (refine' K23.xcl_mk ?l1 ?h1 ?l2 ?h2 ?l3 ?h3 ?h4 ?l4; (case l1 => k_is); (case h1 => rfl); (case l2 => k_is); (case h2 => k_is); (case l3 => k_is); (case h3 => rfl); (case h4 => rfl); (case l4 => k_is)))
  (case x25 => (refine' K23.xcl_mk ?l1 ?h1 ?l2 ?h2 ?l3 ?h3 ?h4 ?l4; (case l1 => k_is); (case h1 => rfl); (case l2 => k_is); (case h2 => k_is); (case l3 => k_is); (case h3 => rfl); (case h4 => rfl); (case l4 => k_is)))
  (case b0 => kernel_rfl)
  (case b1 => kernel_rfl)
  (case b2 => kernel_rfl)
  (case b3 => kernel_rfl)
  (case b4 => kernel_rfl)
  (case b5 => kernel_rfl)
  (case b6 => kernel_rfl)
  (case b7 => kernel_rfl)
  (case b8 => k_is)
  (case a_cell => k_is)
  (case l_cell => k_is)
  (case q_cell => k_is)
  (case k_cell => k_is)
  (case a_draw => k_is)
  (case l_draw => k_is)
  (case q_draw => k_is)
  (case k_draw => k_is)
  (case a_words => k_is)
  (case l_words => k_is)
  (case q_words => k_is)
  (case k_words => k_is)
  (case a_count => k_is)
  (case l_count => k_is)
  (case q_count => k_is)
  (case k_count => k_is)
  (case a_sum => k_is)
  (case l_sum => k_is)
  (case q_sum => k_is)
  (case k_sum => k_is)
  (case a_step => k_is)
  (case l_step => k_is)
  (case q_step => k_is)
  (case k_step => k_is)
  (case a_pair => k_is)
  (case l_pair => k_is)
  (case q_pair => k_is)
  (case k_pair => k_is)
  (case a_item => k_is)
  (case l_item => k_is)
  (case q_item => k_is)
  (case k_item => k_is)
  (case a_part => k_is)
  (case l_part => k_is)
  (case q_part => k_is)
  (case k_part => k_is)
  (case a_args => k_is)
  (case l_args => k_is)
  (case q_args => k_is)
  (case k_args => k_is)
  (case a_same => k_is)
  (case l_same => k_is)
  (case q_same => k_is)
  (case k_same => k_is)
  (case a_raise => k_is)
  (case l_raise => k_is)
  (case q_raise => k_is)
  (case k_raise => k_is)
  (case a_right => k_is)
  (case l_right => k_is)
  (case q_right => k_is)
  (case k_right => k_is)
  (case a_law => k_is)
  (case l_law => k_is)
  (case q_law => k_is)
  (case k_law => k_is)
  (case tp => rfl)
