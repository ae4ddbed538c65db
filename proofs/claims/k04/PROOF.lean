import PyProof.Rows.All
import Wide.All
import OpenK.AllK
import Wide.FinOn
import KE.KStateDown
import HandS.Base
import HandS.Call
import HandS.List
import HandS.Comp
import HandS.Dict
import HandS.Iter
import HandS.Text
import HandS.Ends
import HandS.More
import HandS.Words
import HandS.WordsList
import HandS.WordsDict
import HandS.WordsExc
import HandS.IsInst
import HandS.TupAny
import HandS.Defaults
import HandS.Head0
import HandS.Head1
import HandS.Head2
import HandS.HeadEnd
import HandS.HeadHook1
import HandS.HeadHook2
import HandS.FStr
import HandS.Style
import HandS.Zip
import HandS.Conv
import HandS.HeadNt
import HandS.Star
import KE.KRevSl
import PySem.Challenge.RW_signbysign_k04_fill_a_form
set_option Elab.async false
set_option linter.all false
set_option maxRecDepth 100000
set_option maxHeartbeats 4000000
/-! Lib: plain data D, what it is in the heap (Is), changes of the heap (Chg), the readings' steps (g_..), a def as a constant (Cl). -/
namespace My
open PySem PySem.Spec PyProof.Rows L2

/-! ### data -/
inductive D where
  | non | bl (b : Bool) | int (i : Int) | str (s : Str) | tup (ds : List D)
mutual
def Is (H : Hp) : D → V → Prop
  | .non, v => v = .non
  | .bl b, v => v = .bl b
  | .int i, v => v = .int i
  | .str s, v => v = .str s
  | .tup ds, v => ∃ a vs, v = .ref a ∧ H a = some (.tup vs) ∧ IsL H ds vs
def IsL (H : Hp) : List D → List V → Prop
  | [], vs => vs = []
  | d :: ds, vs => ∃ x xs, vs = x :: xs ∧ Is H d x ∧ IsL H ds xs
end
/-- all but what stands at S is as it was; no tuple changes -/
structure Chg (S : List Addr) (H H' : Hp) : Prop where
  ob : ∀ b o, b ∉ S → H b = some o → H' b = some o
  tp : ∀ b xs, H b = some (.tup xs) → H' b = some (.tup xs)
abbrev Ext (H H' : Hp) : Prop := Chg [] H H'
section
variable {S S' : List Addr} {H H1 H2 H' : Hp} {a b p l : Addr} {o u : HO} {xs ys : List V}
theorem Chg.refl (H : Hp) : Chg S H H := ⟨fun _ _ _ h => h, fun _ _ h => h⟩
theorem Chg.trans (c : Chg S H H1) (e : Chg S H1 H2) : Chg S H H2 := ⟨fun b o n h => e.ob b o n (c.ob b o n h), fun b xs h => e.tp b xs (c.tp b xs h)⟩
theorem Chg.wide (c : Chg S H H1) (h : ∀ b ∈ S, b ∈ S') : Chg S' H H1 := ⟨fun b o n q => c.ob b o (fun z => n (h b z)) q, c.tp⟩
theorem Chg.all (c : Chg [] H H1) : Chg S H H1 := c.wide fun _ z => nomatch z
theorem Chg.at (c : Chg [] H H1) (h : H a = some o) : H1 a = some o := c.ob a o (fun z => nomatch z) h
theorem Chg.same (c : Chg [] H H1) : L2.Same H H1 := fun _ _ h => Chg.at c h
theorem Ext.of (c : L2.Same H H1) : Ext H H1 := ⟨fun _ _ _ h => c _ _ h, fun _ _ h => c _ _ h⟩
/-- a new object is laid -/
theorem Chg.new (h : H p = none) (o : HO) : Chg S H (upd H p o) := ⟨fun b u _ q => by rw [upd_ne (ne_of_none q h)]; exact q, fun b u q => by rw [upd_ne (ne_of_none q h)]; exact q⟩
theorem Chg.free (c : Chg [] H H1) (h : H1 p = none) : H p = none := (Chg.same c).free h
/-- an object that H does not have is written -/
theorem Chg.own (c : Chg S H H1) (h : H p = none) (o : HO) : Chg S H (upd H1 p o) :=
  ⟨fun b u n q => by rw [upd_ne (ne_of_none q h)]; exact c.ob b u n q, fun b u q => by rw [upd_ne (ne_of_none q h)]; exact c.tp b u q⟩
/-- a changeable object of S is written -/
theorem Chg.set (c : Chg S H H1) (hm : l ∈ S) (h : H1 l = some u) (nt : ∀ xs, u ≠ .tup xs) (o : HO) : Chg S H (upd H1 l o) := by
  refine ⟨fun b w n q => ?_, fun b w q => ?_⟩
  · rw [upd_ne (fun z => n (by rw [z]; exact hm))]; exact c.ob b w n q
  · have q1 := c.tp b w q
    rw [upd_ne (fun z => by subst z; rw [h] at q1; exact nt w (Option.some.inj q1))]
    exact q1
theorem Chg.drop1 (c : Chg [p] H H1) (h : H p = none) : Ext H H1 := ⟨fun b o _ q => c.ob b o (by intro z; have := List.mem_singleton.mp z; subst this; rw [h] at q; cases q) q, c.tp⟩
mutual
theorem Is.up (c : Chg S H H') : ∀ {d : D} {v : V}, Is H d v → Is H' d v
  | .non, v, h => by simpa only [Is] using h
  | .bl b, v, h => by simpa only [Is] using h
  | .int i, v, h => by simpa only [Is] using h
  | .str s, v, h => by simpa only [Is] using h
  | .tup ds, v, h => by
    simp only [Is] at h ⊢
    obtain ⟨a, vs, e, h1, h2⟩ := h
    exact ⟨a, vs, e, c.tp _ _ h1, IsL.up c h2⟩
theorem IsL.up (c : Chg S H H') : ∀ {ds : List D} {vs : List V}, IsL H ds vs → IsL H' ds vs
  | [], vs, h => by simpa only [IsL] using h
  | d :: ds, vs, h => by
    simp only [IsL] at h ⊢
    obtain ⟨x, xs, e, h1, h2⟩ := h
    exact ⟨x, xs, e, Is.up c h1, IsL.up c h2⟩
end
theorem Is.non : Is H .non .non := by simp only [Is]
theorem Is.bl {b : Bool} : Is H (.bl b) (.bl b) := by simp only [Is]
theorem Is.int {i : Int} : Is H (.int i) (.int i) := by simp only [Is]
theorem Is.str {s : Str} : Is H (.str s) (.str s) := by simp only [Is]
theorem Is.tup {ds : List D} (h : H a = some (.tup xs)) (r : IsL H ds xs) : Is H (.tup ds) (.ref a) := by simp only [Is]; exact ⟨a, xs, rfl, h, r⟩
theorem Is.int_iff {i : Int} {v : V} : Is H (.int i) v ↔ v = .int i := by simp only [Is]
theorem Is.str_iff {i : Str} {v : V} : Is H (.str i) v ↔ v = .str i := by simp only [Is]
theorem Is.bl_iff {i : Bool} {v : V} : Is H (.bl i) v ↔ v = .bl i := by simp only [Is]
theorem Is.tup_iff {ds : List D} {v : V} : Is H (.tup ds) v ↔ ∃ a vs, v = .ref a ∧ H a = some (.tup vs) ∧ IsL H ds vs := by simp only [Is]
theorem IsL.nil : IsL H [] [] := by simp only [IsL]
theorem IsL.cons {d : D} {ds : List D} {v : V} {vs : List V} (h : Is H d v) (t : IsL H ds vs) : IsL H (d :: ds) (v :: vs) := by simp only [IsL]; exact ⟨v, vs, rfl, h, t⟩
theorem IsL.nil_iff {vs : List V} : IsL H [] vs ↔ vs = [] := by simp only [IsL]
theorem IsL.cons_iff {d : D} {ds : List D} {vs : List V} : IsL H (d :: ds) vs ↔ ∃ x xs, vs = x :: xs ∧ Is H d x ∧ IsL H ds xs := by simp only [IsL]
theorem IsL.length : ∀ {ds : List D} {vs : List V}, IsL H ds vs → vs.length = ds.length
  | [], vs, h => by rw [IsL.nil_iff] at h; subst h; rfl
  | d :: ds, vs, h => by
    rw [IsL.cons_iff] at h
    obtain ⟨x, xs, rfl, _, h2⟩ := h
    simp [IsL.length h2]
theorem IsL.append : ∀ {ds es : List D} {vs ws : List V}, IsL H ds vs → IsL H es ws → IsL H (ds ++ es) (vs ++ ws)
  | [], es, vs, ws, h, k => by rw [IsL.nil_iff] at h; subst h; exact k
  | d :: ds, es, vs, ws, h, k => by
    rw [IsL.cons_iff] at h
    obtain ⟨x, xs, rfl, h1, h2⟩ := h
    exact IsL.cons h1 (IsL.append h2 k)
theorem IsL.get : ∀ {ds : List D} {vs : List V} {i : Nat} {v : V}, IsL H ds vs → vs[i]? = some v → ∃ d, ds[i]? = some d ∧ Is H d v
  | [], vs, i, v, h, e => by rw [IsL.nil_iff] at h; subst h; simp at e
  | d :: ds, vs, i, v, h, e => by
    rw [IsL.cons_iff] at h
    obtain ⟨x, xs, rfl, h1, h2⟩ := h
    cases i with
    | zero => simp at e; subst e; exact ⟨d, rfl, h1⟩
    | succ i => simp at e; obtain ⟨d', q, k⟩ := IsL.get h2 e; exact ⟨d', by simpa using q, k⟩
theorem IsL.get' : ∀ {ds : List D} {vs : List V} {i : Nat} {d : D}, IsL H ds vs → ds[i]? = some d → ∃ v, vs[i]? = some v ∧ Is H d v
  | [], vs, i, v, h, e => by simp at e
  | d :: ds, vs, i, d', h, e => by
    rw [IsL.cons_iff] at h
    obtain ⟨x, xs, rfl, h1, h2⟩ := h
    cases i with
    | zero => simp at e; subst e; exact ⟨x, rfl, h1⟩
    | succ i => simp at e; obtain ⟨v, q, k⟩ := IsL.get' h2 e; exact ⟨v, by simpa using q, k⟩
theorem IsL.drop : ∀ {ds : List D} {vs : List V} (n : Nat), IsL H ds vs → IsL H (ds.drop n) (vs.drop n)
  | ds, vs, 0, h => h
  | [], vs, n + 1, h => by rw [IsL.nil_iff] at h; subst h; exact IsL.nil
  | d :: ds, vs, n + 1, h => by
    rw [IsL.cons_iff] at h
    obtain ⟨x, xs, rfl, h1, h2⟩ := h
    exact IsL.drop n h2
theorem IsL.take : ∀ {ds : List D} {vs : List V} (n : Nat), IsL H ds vs → IsL H (ds.take n) (vs.take n)
  | ds, vs, 0, h => by rw [List.take_zero, List.take_zero]; exact IsL.nil
  | [], vs, n + 1, h => by rw [IsL.nil_iff] at h; subst h; exact IsL.nil
  | d :: ds, vs, n + 1, h => by
    rw [IsL.cons_iff] at h
    obtain ⟨x, xs, rfl, h1, h2⟩ := h
    exact IsL.cons h1 (IsL.take n h2)
theorem IsL.one {d : D} {v : V} (h : Is H d v) : IsL H [d] [v] := IsL.cons h IsL.nil
theorem IsL.ints : ∀ {is : List Int}, IsL H (is.map D.int) (is.map V.int)
  | [] => IsL.nil
  | _ :: _ => IsL.cons Is.int IsL.ints
theorem IsL.strs : ∀ {is : List Str}, IsL H (is.map D.str) (is.map V.str)
  | [] => IsL.nil
  | _ :: _ => IsL.cons Is.str IsL.strs
theorem IsL.ints_inv : ∀ {is : List Int} {vs : List V}, IsL H (is.map D.int) vs → vs = is.map V.int
  | [], vs, h => IsL.nil_iff.mp h
  | i :: is, vs, h => by
    obtain ⟨x, xs, rfl, h1, h2⟩ := IsL.cons_iff.mp h
    rw [Is.int_iff.mp h1, IsL.ints_inv h2]; rfl
end

/-! ### the relations' names, as gen.py writes them -/
abbrev rAddI : R2 := rI0 fun i j => .int (i + j)
abbrev rSubI : R2 := rI0 fun i j => .int (i - j)
abbrev rMulI : R2 := rI CMul fun i j => .int (i * j)
abbrev rDivI : R2 := rI CDiv fun i j => .int (i / j)
abbrev rModI : R2 := rI (fun _ j => 0 < j) fun i j => .int (i % j)
abbrev rPowI : R2 := rI CPow fun i j => .int (i ^ j.toNat)
abbrev rLtI : R2 := rI0 fun i j => .bl (decide (i < j))
abbrev rLeI : R2 := rI0 fun i j => .bl (decide (i ≤ j))
abbrev rGtI : R2 := rI0 fun i j => .bl (decide (j < i))
abbrev rGeI : R2 := rI0 fun i j => .bl (decide (j ≤ i))
def rAddS_ : R2 := fun x y H Q => ∃ i j, x = .str i ∧ y = .str j ∧ i.length + j.length ≤ sizeLine ∧ Q (.str (i ++ j)) H
def rLtS_ : R2 := fun x y H Q => ∃ i j, x = .str i ∧ y = .str j ∧ Q (.bl (decide (i.cps.toList < j.cps.toList))) H
def rInS_ : R2 := fun x y H Q => ∃ (c : Nat) (z : Str), x = .str ⟨#[c]⟩ ∧ y = .str z ∧ Q (.bl (decide (c ∈ z.cps.toList))) H
def rNotInS_ : R2 := fun x y H Q => ∃ (c : Nat) (z : Str), x = .str ⟨#[c]⟩ ∧ y = .str z ∧ Q (.bl (!decide (c ∈ z.cps.toList))) H
def rIsN_ : R2 := fun x y H Q => y = .non ∧ Q (.bl (decide (x = .non))) H
def rNotN_ : R2 := fun x y H Q => y = .non ∧ Q (.bl (!decide (x = .non))) H
def rLenSeq (K : PySem.W.Frag) : List V → Hp → VK → Prop := fun xs H Q => ∃ p ys, xs = [.ref p] ∧ (SqL K H p ys ∨ SqT K H p ys) ∧ Q (.int ys.length) H
def rLenStr : List V → Hp → VK → Prop := fun xs H Q => ∃ z, xs = [.str z] ∧ z.length ≤ sizeLine ∧ Q (.int z.length) H
def rInt1 : List V → Hp → VK → Prop := fun xs H Q => (∃ i, xs = [.int i] ∧ Q (.int i) H) ∨ ∃ k, xs = [.bl k] ∧ Q (.int (if k then 1 else 0)) H
def rAbs : List V → Hp → VK → Prop := fun xs H Q => ∃ i, xs = [.int i] ∧ Q (.int (if i < 0 then -i else i)) H
def rTupleOf (K : PySem.W.Frag) : List V → Hp → VK → Prop := fun xs H Q => ∃ p ys, xs = [.ref p] ∧ ((SqL K H p ys ∧ ∀ l, H l = none → Q (.ref l) (upd H l (.tup ys))) ∨ (SqT K H p ys ∧ Q (.ref p) H))
def rListOf (K : PySem.W.Frag) : List V → Hp → VK → Prop := fun xs H Q => ∃ p ys, xs = [.ref p] ∧ (SqL K H p ys ∨ SqT K H p ys) ∧ ∀ l, H l = none → Q (.ref l) (upd H l (.lst ys))
def rStrInt : List V → Hp → VK → Prop := fun xs H Q => ∃ i, xs = [.int i] ∧ i.natAbs.log2 < 1920 ∧ Q (.str (toString i)) H
def rIntStr : List V → Hp → VK → Prop := fun xs H Q => ∃ a n, xs = [.str a] ∧ PySem.intText? a = some n ∧ a.length ≤ 640 ∧ Q (.int n) H
def rInsert : V → List V → Hp → VK → Prop := fun x vs H Q => ∃ (l : Addr) (xs : List V) (i : Int) (y : V), x = .ref l ∧ vs = [.int i, y] ∧ H l = some (.lst xs) ∧ xs.length < sizeLine ∧ 0 ≤ i ∧ i < 2 ^ 63 ∧ Q .non (upd H l (.lst (xs.take i.toNat ++ [y] ++ xs.drop i.toNat)))
def rJoin (K : PySem.W.Frag) : V → List V → Hp → VK → Prop := fun x xs H Q => ∃ a p, ∃ ys : List Str, x = .str a ∧ xs = [.ref p] ∧ (SqL K H p (ys.map V.str) ∨ SqT K H p (ys.map V.str)) ∧ (ys.map (·.length)).sum + ys.length * a.length ≤ 16777216 ∧ Q (.str (Txt.join a ys)) H
def tTru_ (K : PySem.W.Frag) (ta : TE) : TT := fun σ H Q => ta σ H fun x H' => ∃ k, TruV K x H' k ∧ Q k H'

/-- a statement, then the rest, with a word between them -/
def tCut (t u : TS) : TS := fun D σ H => ∃ Mid : L2.St → Hp → Prop, t { D with nx := Mid } σ H ∧ ∀ σ' H', Mid σ' H' → u D σ' H'
theorem pss_cut {X : Cx} {st : Stmt} {rest : List Stmt} {t u : TS} (h1 : PS X st t) (h2 : PSs X rest u) : PSs X (st :: rest) (tCut t u) := by
  refine ⟨fun pins s σ H D I h => ?_⟩
  obtain ⟨Mid, hm, hu⟩ := h
  refine wpAny_execs_cons (thn (h1.run pins s σ H { D with nx := Mid } I hm) fun f s1 q => ?_)
  cases f with
  | next =>
    obtain ⟨σ', H', I', q⟩ := q
    exact h2.run pins s1 σ' H' D I' (hu σ' H' q)
  | ret v => exact q
  | brk => exact q
  | cont => exact q
/-- a module's constant -/
theorem pe_gc {X : Cx} {x : Str} {pos : Pos} {v : V} (hg : Gl X x) (h : ∃ u, X.mg x = some u ∧ RelV v u) (hd : (x == ("__debug__" : Str)) = false := by decide) : PE X (.Name x pos) (tC v) := by
  obtain ⟨u, e, r⟩ := h
  exact pe_glob hg e r hd
/-- an f-string of two parts or more -/
def tJoined (ts : List TE) : TE := fun σ H Q => tJs ts Str.empty σ H fun out H1 => Q (.str out) H1
/-! ### the readings' steps -/
section
variable {K : PySem.W.Frag} {σ : L2.St} {H : Hp} {D : Ends}
theorem g_seq {t u : TS} (h : t { D with nx := u D } σ H) : tSeq t u D σ H := h
theorem g_cut {t u : TS} {M : L2.St → Hp → Prop} (h : t { D with nx := M } σ H) (k : ∀ σ' H', M σ' H' → u D σ' H') : tCut t u D σ H := ⟨M, h, k⟩
theorem g_asg {te : TE} {g : TG} (h : te σ H fun x H1 => g x σ H1 D.nx) : tAsg te g D σ H := h
theorem g_name {i : Nat} {v : V} {Q : L2.St → Hp → Prop} (h : Q (σ.set i (some v)) H) : gName i v σ H Q := h
theorem g_ret {te : TE} (h : te σ H D.rt) : tRet te D σ H := h
theorem g_retN (h : D.rt .non H) : tRetN D σ H := h
theorem g_drop {te : TE} (h : te σ H fun _ H1 => D.nx σ H1) : tDrop te D σ H := h
theorem g_next (h : D.nx σ H) : tNext D σ H := h
theorem g_brk (h : D.bk σ H) : tBreak D σ H := h
theorem g_cont (h : D.ct σ H) : tCont D σ H := h
theorem g_ifS {c : TT} {t u : TS} (h : c σ H fun b H1 => if b = true then t D σ H1 else u D σ H1) : tIfS c t u D σ H := h
variable {Q : VK} {QB : Bool → Hp → Prop} {QL : List V → Hp → Prop}
theorem g_var {i : Nat} {v : V} (e : σ[i]? = some (some v)) (h : Q v H) : tVar i σ H Q := ⟨v, e, h⟩
theorem g_c {v : V} (h : Q v H) : tC v σ H Q := h
theorem g_op {r : R2} {ta tb : TE} (h : ta σ H fun x H1 => tb σ H1 fun y H2 => r x y H2 Q) : tOp r ta tb σ H Q := h
theorem g_un {r : V → Hp → VK → Prop} {ta : TE} (h : ta σ H fun x H1 => r x H1 Q) : tUn r ta σ H Q := h
theorem g_cb {r : List V → Hp → VK → Prop} {t : TA} (h : t σ H fun vs H1 => r vs H1 Q) : tCB r t σ H Q := h
theorem g_nil (h : QL [] H) : tNil σ H QL := h
theorem g_cons {ta : TE} {tr : TA} (h : ta σ H fun x H1 => tr σ H1 fun xs H2 => QL (x :: xs) H2) : tCons ta tr σ H QL := h
theorem g_test {te : TE} (h : te σ H fun x H' => ∃ k, x = .bl k ∧ QB k H') : tTest te σ H QB := h
theorem g_B {te : TE} (h : te σ H fun x H' => ∃ k, x = .bl k ∧ QB k H') : tB te σ H QB := h
theorem g_bl {b : Bool} {P : Bool → Prop} (h : P b) : ∃ k, V.bl b = .bl k ∧ P k := ⟨b, rfl, h⟩
theorem g_not {t : TT} (h : t σ H fun c H1 => QB (!c) H1) : tNot t σ H QB := h
theorem g_and {t u : TT} (h : t σ H fun c H1 => if c = true then u σ H1 QB else QB false H1) : tAnd t u σ H QB := h
theorem g_or {t u : TT} (h : t σ H fun c H1 => if c = true then QB true H1 else u σ H1 QB) : tOr t u σ H QB := h
theorem g_andV {ta tb : TE} (h : ta σ H fun x H1 => ∃ c, x = .bl c ∧ if c = true then tb σ H1 Q else Q (.bl false) H1) : tAndV ta tb σ H Q := h
theorem g_orV {ta tb : TE} (h : ta σ H fun x H1 => ∃ c, x = .bl c ∧ if c = true then Q (.bl true) H1 else tb σ H1 Q) : tOrV ta tb σ H Q := h
theorem g_notV {ta : TE} (h : ta σ H fun x H1 => ∃ c, x = .bl c ∧ Q (.bl (!c)) H1) : tNotV ta σ H Q := h
theorem g_ifE {t : TT} {ta tb : TE} (h : t σ H fun c H1 => if c = true then ta σ H1 Q else tb σ H1 Q) : tIf t ta tb σ H Q := h
theorem g_chain {r r' : R2} {ta tb tc : TE} (h : ta σ H fun x H1 => tb σ H1 fun y H2 => r x y H2 fun z H3 => ∃ k, z = .bl k ∧ (if k = true then tc σ H3 fun w' H4 => r' y w' H4 Q else Q (.bl false) H3)) : tChain r r' ta tb tc σ H Q := h
theorem g_yes (h : QB true H) : tYes σ H QB := h
theorem g_call {sp : Sp} {E : XK} {t : TA} (h : t σ H fun vs H1 => sp (vs ++ []) H1 Q E) : tCall sp [] E t σ H Q := h
theorem g_part {te : TE} {QO : Option Int → Hp → Prop} (h : te σ H fun x H1 => ∃ i, x = .int i ∧ QO (some i) H1) : tPart te σ H QO := h
theorem g_nopart {QO : Option Int → Hp → Prop} (h : QO none H) : tNoPart σ H QO := h
theorem g_sl {r : V → Option Int → Option Int → Hp → VK → Prop} {te : TE} {tl th : TO} (h : te σ H fun x H1 => tl σ H1 fun l H2 => th σ H2 fun u H3 => r x l u H3 Q) : tSl r te tl th σ H Q := h
theorem g_exI {i : Int} {P : Int → Prop} (h : P i) : ∃ k, V.int i = .int k ∧ P k := ⟨i, rfl, h⟩
def NewT (Q : VK) (xs : List V) (H1 : Hp) : Prop := xs.length ≤ sizeLine ∧ ∀ p, H1 p = none → Q (.ref p) (upd H1 p (.tup xs))
def NewL (Q : VK) (xs : List V) (H1 : Hp) : Prop := xs.length ≤ sizeLine ∧ ∀ p, H1 p = none → Q (.ref p) (upd H1 p (.lst xs))
theorem g_tupT {t : TA} (h : t σ H fun xs H1 => NewT Q xs H1) : tTup t σ H Q := h
theorem g_lstT {t : TA} (h : t σ H fun xs H1 => NewL Q xs H1) : tLst t σ H Q := h
theorem g_newT {xs : List V} (hl : xs.length ≤ sizeLine) (k : ∀ p H', H p = none → Ext H H' → H' p = some (.tup xs) → Q (.ref p) H') : NewT Q xs H := ⟨hl, fun p hp => k p _ hp (Chg.new hp _) upd_same⟩
theorem g_newL {xs : List V} (hl : xs.length ≤ sizeLine) (k : ∀ p H', H p = none → Ext H H' → H' p = some (.lst xs) → Q (.ref p) H') : NewL Q xs H := ⟨hl, fun p hp => k p _ hp (Chg.new hp _) upd_same⟩
theorem g_bm {T : String} {r : V → List V → Hp → VK → Prop} {to : TE} {t : TA} (h : to σ H fun x H1 => tyV K T x H1 ∧ t σ H1 fun xs H2 => r x xs H2 Q) : tBM K T r to t σ H Q := h
theorem g_bm0 {T : String} {r : V → List V → Hp → VK → Prop} {to : TE} (h : to σ H fun x H1 => tyV K T x H1 ∧ r x [] H1 Q) : tBM0 K T r to σ H Q := h
/-! relations of ints -/
theorem g_rI0 {g : Int → Int → V} {i j : Int} (h : Q (g i j) H) : rI0 g (.int i) (.int j) H Q := ⟨i, j, rfl, rfl, h⟩
theorem g_rI {C : Int → Int → Prop} {g : Int → Int → V} {i j : Int} (c : C i j) (h : Q (g i j) H) : rI C g (.int i) (.int j) H Q := ⟨i, j, rfl, rfl, c, h⟩
theorem g_rU {g : Int → V} {i : Int} (h : Q (g i) H) : rU g (.int i) H Q := ⟨i, rfl, h⟩
theorem g_int1 {i : Int} (h : Q (.int i) H) : rInt1 [.int i] H Q := .inl ⟨i, rfl, h⟩
theorem g_int1b {k : Bool} (h : Q (.int (if k then 1 else 0)) H) : rInt1 [.bl k] H Q := .inr ⟨k, rfl, h⟩
theorem g_abs {i : Int} (h : Q (.int (if i < 0 then -i else i)) H) : rAbs [.int i] H Q := ⟨i, rfl, h⟩
theorem g_eqI {i j : Int} (h : Q (.bl (decide (i = j))) H) : rEq (.int i) (.int j) H Q := ⟨rfl, by
  have e : decide (V.int i = V.int j) = decide (i = j) := by simp
  rw [e]; exact h⟩
theorem g_neI {i j : Int} (h : Q (.bl (!decide (i = j))) H) : rNe (.int i) (.int j) H Q := ⟨rfl, by
  have e : decide (V.int i = V.int j) = decide (i = j) := by simp
  rw [e]; exact h⟩
theorem g_eqS {i j : Str} (h : Q (.bl (decide (i = j))) H) : rEq (.str i) (.str j) H Q := ⟨rfl, by
  have e : decide (V.str i = V.str j) = decide (i = j) := by simp
  rw [e]; exact h⟩
theorem g_neS {i j : Str} (h : Q (.bl (!decide (i = j))) H) : rNe (.str i) (.str j) H Q := ⟨rfl, by
  have e : decide (V.str i = V.str j) = decide (i = j) := by simp
  rw [e]; exact h⟩
theorem g_neB {i j : Bool} (h : Q (.bl (!decide (i = j))) H) : rNe (.bl i) (.bl j) H Q := ⟨rfl, by
  have e : decide (V.bl i = V.bl j) = decide (i = j) := by simp
  rw [e]; exact h⟩
theorem g_addS {i j : Str} (hl : i.length + j.length ≤ sizeLine) (h : Q (.str (i ++ j)) H) : rAddS_ (.str i) (.str j) H Q := ⟨i, j, rfl, rfl, hl, h⟩
theorem g_isN {x : V} (h : Q (.bl (decide (x = .non))) H) : rIsN_ x .non H Q := ⟨rfl, h⟩
theorem g_notN {x : V} (h : Q (.bl (!decide (x = .non))) H) : rNotN_ x .non H Q := ⟨rfl, h⟩
/-! new objects: the heap behind is a letter -/
theorem g_new {o : HO} {P : Addr → Hp → Prop} (k : ∀ p H', H p = none → Ext H H' → H' p = some o → P p H') : ∀ p, H p = none → P p (upd H p o) := fun p hp => k p _ hp (Chg.new hp o) upd_same
theorem g_newS {xs : List V} {o : HO} {P : Addr → Hp → Prop} (hl : xs.length ≤ sizeLine) (k : ∀ p H', H p = none → Ext H H' → H' p = some o → P p H') : xs.length ≤ sizeLine ∧ ∀ p, H p = none → P p (upd H p o) := ⟨hl, g_new k⟩
/-! lists, tuples -/
theorem g_lenL {p : Addr} {xs : List V} (h : H p = some (.lst xs)) (k : Q (.int xs.length) H) : rLenSeq K [.ref p] H Q := ⟨p, xs, rfl, .inl (.inl (.inl h)), k⟩
theorem g_lenLK {p : Addr} {xs : List V} (h : SqL K H p xs) (k : Q (.int xs.length) H) : rLenSeq K [.ref p] H Q := ⟨p, xs, rfl, .inl h, k⟩
theorem g_lenT {p : Addr} {xs : List V} (h : H p = some (.tup xs)) (k : Q (.int xs.length) H) : rLenSeq K [.ref p] H Q := ⟨p, xs, rfl, .inr (.inl (.inl h)), k⟩
theorem g_lenS {z : Str} (hl : z.length ≤ sizeLine) (k : Q (.int z.length) H) : rLenStr [.str z] H Q := ⟨z, rfl, hl, k⟩
theorem g_ixL {p : Addr} {xs : List V} {i : Int} {v : V} (h : H p = some (.lst xs)) (a : atI xs i = some v) (k : Q v H) : rIxL K (.ref p) (.int i) H Q := ⟨p, xs, i, v, rfl, rfl, .inl (.inl h), a, k⟩
theorem g_ixT {p : Addr} {xs : List V} {i : Int} {v : V} (h : H p = some (.tup xs)) (a : atI xs i = some v) (k : Q v H) : rIxT K (.ref p) (.int i) H Q := ⟨p, xs, i, v, rfl, rfl, .inl (.inl h), a, k⟩
theorem g_ixS {z : Str} {i : Int} {c : Nat} (hl : z.length ≤ sizeLine) (a : atI z.cps.toList i = some c) (k : Q (.str ⟨#[c]⟩) H) : rIxS (.str z) (.int i) H Q := ⟨z, i, c, rfl, rfl, hl, a, k⟩
theorem g_append {l : Addr} {xs : List V} {y : V} (h : H l = some (.lst xs)) (hz : xs.length < sizeLine) (k : Q .non (upd H l (.lst (xs ++ [y])))) : rAppend (.ref l) [y] H Q := ⟨l, xs, y, rfl, rfl, h, hz, k⟩
theorem g_tyL {p : Addr} {xs : List V} {P : Prop} (h : H p = some (.lst xs)) (k : P) : tyV K "list" (.ref p) H ∧ P := ⟨.inl ⟨rfl, xs, .inl (.inl h)⟩, k⟩
theorem g_slL {p : Addr} {xs : List V} {lo hi : Option Int} (h : SqL K H p xs) (k : ∀ q H', H q = none → Ext H H' → H' q = some (.lst (cutV xs lo hi)) → Q (.ref q) H') : rSlL K (.ref p) lo hi H Q := ⟨p, xs, rfl, h, g_new k⟩
theorem g_cat {l b : Addr} {xs ys : List V} (h : H l = some (.lst xs)) (h2 : H b = some (.lst ys)) (hz : xs.length + ys.length ≤ sizeLine) (k : ∀ q H', H q = none → Ext H H' → H' q = some (.lst (xs ++ ys)) → Q (.ref q) H') : rCat (.ref l) (.ref b) H Q := ⟨l, b, xs, ys, rfl, rfl, h, h2, hz, g_new k⟩
theorem g_tupOf {p : Addr} {xs : List V} (h : SqL K H p xs) (k : ∀ q H', H q = none → Ext H H' → H' q = some (.tup xs) → Q (.ref q) H') : rTupleOf K [.ref p] H Q := ⟨p, xs, rfl, .inl ⟨h, g_new k⟩⟩
theorem g_lstOf {p : Addr} {xs : List V} (h : SqL K H p xs) (k : ∀ q H', H q = none → Ext H H' → H' q = some (.lst xs) → Q (.ref q) H') : rListOf K [.ref p] H Q := ⟨p, xs, rfl, .inl h, g_new k⟩
theorem g_lstOfT {p : Addr} {xs : List V} (h : SqT K H p xs) (k : ∀ q H', H q = none → Ext H H' → H' q = some (.lst xs) → Q (.ref q) H') : rListOf K [.ref p] H Q := ⟨p, xs, rfl, .inr h, g_new k⟩
theorem g_joined {ts : List TE} (h : tJs ts Str.empty σ H fun out H1 => Q (.str out) H1) : tJoined ts σ H Q := h
theorem g_jn {acc : Str} {QS : Str → Hp → Prop} (h : QS acc H) : tJs [] acc σ H QS := h
theorem g_jc {t : TE} {ts : List TE} {acc : Str} {QS : Str → Hp → Prop} (h : t σ H fun x H1 => ∃ y : Str, x = .str y ∧ (acc ++ y).length ≤ sizeLine ∧ tJs ts (acc ++ y) σ H1 QS) : tJs (t :: ts) acc σ H QS := h
theorem g_exS {y : Str} {P : Str → Prop} (h : P y) : ∃ z : Str, V.str y = .str z ∧ P z := ⟨y, rfl, h⟩
theorem g_fmt {te : TE} (h : te σ H fun x H1 => (∃ y : Str, x = .str y ∧ y.length ≤ sizeLine ∧ Q (.str y) H1) ∨ ∃ i : Int, x = .int i ∧ i.natAbs.log2 < 1920 ∧ Q (.str (toString i)) H1) : tFmt te σ H Q := h
theorem g_m1 {r : V → List V → Hp → VK → Prop} {to te : TE} (h : to σ H fun x H1 => (∃ a, x = .str a) ∧ te σ H1 fun y H2 => r x [y] H2 Q) : tM1 r to te σ H Q := h
theorem g_m1s {a : Str} {P : Prop} (h : P) : (∃ b, V.str a = .str b) ∧ P := ⟨⟨a, rfl⟩, h⟩
theorem g_tr {A B : Prop} (h : A) : if true = true then A else B := by rw [if_pos rfl]; exact h
theorem g_fa {A B : Prop} (h : B) : if false = true then A else B := by rw [if_neg Bool.false_ne_true]; exact h
theorem g_ntr {A B : Prop} (h : B) : if (!true) = true then A else B := g_fa h
theorem g_nfa {A B : Prop} (h : A) : if (!false) = true then A else B := g_tr h
theorem g_2 {c : Bool} {A B : Prop} (h : c = true → A) (k : c = false → B) : if c = true then A else B := by
  cases c with
  | true => rw [if_pos rfl]; exact h rfl
  | false => rw [if_neg Bool.false_ne_true]; exact k rfl
end

/-! ### loops and comprehensions -/
/-- what a for leaves to be shown of its iterator -/
def ForB (g : TG) (tb : TS) (D : Ends) (σ : L2.St) : It → Hp → Prop := fun J H1 => ∃ W : Nat → Nat → L2.St → Hp → Prop, (∃ m, W 0 m σ H1) ∧ ∀ i m σ H, W i m σ H →
  (J.stop i H ∧ D.nx σ H) ∨ (J.go i H ∧ ∃ N : L2.St → Hp → Prop, (∀ σ' H', N σ' H' → ∃ m', m' < m ∧ W (i + 1) m' σ' H') ∧ ∀ x H', J.yld i H x H' → g x σ H' fun σ2 H2 => tb { D with nx := N, ct := N, bk := D.nx } σ2 H2)
/-- .. a comprehension -/
def LcB (g : TG) (tt : TT) (te : TE) (vs : List Nat) (σ : L2.St) (Q : VK) : It → Hp → Prop := fun J H1 => ∀ D, H1 D = none → ∃ W : Nat → Nat → Hp → Prop, (∃ m, W 0 m (upd H1 D (.lst []))) ∧ ∀ i m H, W i m H →
  (J.stop i H ∧ Q (.ref D) H) ∨ (J.go i H ∧ ∃ Nx : Hp → Prop, (∀ H', Nx H' → ∃ m', m' < m ∧ W (i + 1) m' H') ∧ ∀ x H', J.yld i H x H' → g x (wipe σ vs) H' fun σ2 H2 => wipe σ2 vs = wipe σ vs ∧ tt σ2 H2 fun b H3 =>
    if b = true then te σ2 H3 fun y H4 => ∃ acc, H4 D = some (.lst acc) ∧ acc.length < sizeLine ∧ Nx (upd H4 D (.lst (acc ++ [y]))) else Nx H3)
section
variable {K : PySem.W.Frag} {σ : L2.St} {H : Hp} {D : Ends} {wi : TI} {g : TG} {tb : TS} {R : It → Hp → Prop} {te : TE} {ta : TA} {tt : TT} {vs : List Nat} {Q : VK} {p : Addr} {xs : List V} {j : Nat} {S : List Addr}
theorem g_for (h : wi σ H (ForB g tb D σ)) : tFor wi g tb D σ H := h
theorem g_lc (h : wi σ H (LcB g tt te vs σ Q)) : tLc wi g tt te vs σ H Q := h
theorem g_iL (h : te σ H fun x H1 => ∃ a, x = .ref a ∧ (∃ xs, SqL K H1 a xs) ∧ R (Itl K a) H1) : iList K te σ H R := h
theorem g_iT (h : te σ H fun x H1 => ∃ a, x = .ref a ∧ (∃ xs, SqT K H1 a xs) ∧ R (Itt K a) H1) : iTup K te σ H R := h
theorem g_iR (h : ta σ H fun vs H1 => ∃ j : Int, vs = [.int j] ∧ -(2 ^ 62) ≤ j ∧ j < 2 ^ 62 ∧ R (Itr 0 j.toNat) H1) : iRng1 ta σ H R := h
theorem g_iR2 (h : ta σ H fun vs H1 => ∃ i j : Int, vs = [.int i, .int j] ∧ (-(2 ^ 62) ≤ i ∧ i < 2 ^ 62 ∧ -(2 ^ 62) ≤ j ∧ j < 2 ^ 62) ∧ R (Itr i (j - i).toNat) H1) : iRng2 ta σ H R := h
/-- for x in a list | a tuple | a range -/
theorem g_forL (h : SqL K H p xs) (Pv : Nat → L2.St → Hp → Prop) (h0 : Pv 0 σ H) (hl : ∀ i σ H, i ≤ xs.length → Pv i σ H → SqL K H p xs)
    (hs : ∀ i x σ H, xs[i]? = some x → Pv i σ H → g x σ H fun σ2 H2 => tb { D with nx := Pv (i + 1), ct := Pv (i + 1), bk := D.nx } σ2 H2) (hd : ∀ σ H, Pv xs.length σ H → D.nx σ H) :
    ∃ a, V.ref p = .ref a ∧ (∃ xs, SqL K H a xs) ∧ ForB g tb D σ (Itl K a) H := ⟨p, rfl, ⟨xs, h⟩, for_list Pv h0 hl hs hd⟩
theorem g_forT (h : SqT K H p xs) (Pv : Nat → L2.St → Hp → Prop) (h0 : Pv 0 σ H) (hl : ∀ i σ H, i ≤ xs.length → Pv i σ H → SqT K H p xs)
    (hs : ∀ i x σ H, xs[i]? = some x → Pv i σ H → g x σ H fun σ2 H2 => tb { D with nx := Pv (i + 1), ct := Pv (i + 1), bk := D.nx } σ2 H2) (hd : ∀ σ H, Pv xs.length σ H → D.nx σ H) :
    ∃ a, V.ref p = .ref a ∧ (∃ xs, SqT K H a xs) ∧ ForB g tb D σ (Itt K a) H := ⟨p, rfl, ⟨xs, h⟩, for_tup Pv h0 hl hs hd⟩
theorem g_forR {n : Int} (hn : -(2 ^ 62) ≤ n ∧ n < 2 ^ 62) (Pv : Nat → L2.St → Hp → Prop) (h0 : Pv 0 σ H)
    (hs : ∀ (i : Nat) σ H, (i : Int) < n → Pv i σ H → g (.int (i : Int)) σ H fun σ2 H2 => tb { D with nx := Pv (i + 1), ct := Pv (i + 1), bk := D.nx } σ2 H2) (hd : ∀ σ H, Pv n.toNat σ H → D.nx σ H) :
    ∃ j : Int, ([V.int n] : List V) = [.int j] ∧ -(2 ^ 62) ≤ j ∧ j < 2 ^ 62 ∧ ForB g tb D σ (Itr 0 j.toNat) H := by
  refine ⟨n, rfl, hn.1, hn.2, for_range Pv h0 (fun i σ H hi q => ?_) hd⟩
  rw [Int.zero_add]
  exact hs i σ H (by omega) q
theorem g_forR2 {lo n : Int} (hn : -(2 ^ 62) ≤ lo ∧ lo < 2 ^ 62 ∧ -(2 ^ 62) ≤ n ∧ n < 2 ^ 62) (Pv : Nat → L2.St → Hp → Prop) (h0 : Pv 0 σ H)
    (hs : ∀ (i : Nat) σ H, lo + (i : Int) < n → Pv i σ H → g (.int (lo + (i : Int))) σ H fun σ2 H2 => tb { D with nx := Pv (i + 1), ct := Pv (i + 1), bk := D.nx } σ2 H2) (hd : ∀ σ H, Pv (n - lo).toNat σ H → D.nx σ H) :
    ∃ i j : Int, ([V.int lo, V.int n] : List V) = [.int i, .int j] ∧ (-(2 ^ 62) ≤ i ∧ i < 2 ^ 62 ∧ -(2 ^ 62) ≤ j ∧ j < 2 ^ 62) ∧ ForB g tb D σ (Itr i (j - i).toNat) H :=
  ⟨lo, n, rfl, hn, for_range Pv h0 (fun i σ H hi q => hs i σ H (by omega) q) hd⟩
/-- a comprehension's turn, whatever walks: the list so far is acc -/
def LcT (S : List Addr) (H : Hp) (σ : L2.St) (vs : List Nat) (j : Nat) (tt : TT) (te : TE) (Acc : Nat → List V → Hp → Prop) (i : Nat) (x : V) : Prop :=
  ∀ (acc : List V) (H' : Hp) (Yes : VK) (No : Hp → Prop), Chg S H H' → Acc i acc H' → (∀ y H4, Chg S H' H4 → Acc (i + 1) (acc ++ [y]) H4 → Yes y H4) → (∀ H3, Chg S H' H3 → Acc (i + 1) acc H3 → No H3) →
    tt ((wipe σ vs).set j (some x)) H' fun b H3 => if b = true then te ((wipe σ vs).set j (some x)) H3 Yes else No H3
def LcI (S : List Addr) (H : Hp) (Dl : Addr) (Acc : Nat → List V → Hp → Prop) (i : Nat) (H' : Hp) : Prop := ∃ acc, H' Dl = some (.lst acc) ∧ Chg S H H' ∧ Acc i acc H'
theorem lc_turn {Dl : Addr} {Acc : Nat → List V → Hp → Prop} {i : Nat} {x : V} (hD : H Dl = none) (hS : ∀ s ∈ S, H s ≠ none) (mono : ∀ i acc Dl H1 H2, H Dl = none → Chg [Dl] H1 H2 → Acc i acc H1 → Acc i acc H2)
    (hz : ∀ i acc H', Acc i acc H' → acc.length < sizeLine) (t : LcT S H σ vs j tt te Acc i x) {H' : Hp} (q : LcI S H Dl Acc i H') :
    tt ((wipe σ vs).set j (some x)) H' fun b H3 => if b = true then te ((wipe σ vs).set j (some x)) H3 fun y H4 => ∃ acc, H4 Dl = some (.lst acc) ∧ acc.length < sizeLine ∧ LcI S H Dl Acc (i + 1) (upd H4 Dl (.lst (acc ++ [y]))) else LcI S H Dl Acc (i + 1) H3 := by
  obtain ⟨acc, h1, c, a⟩ := q
  have nS : Dl ∉ S := fun z => hS Dl z hD
  refine t acc H' _ _ c a (fun y H4 c4 a4 => ?_) (fun H3 c3 a3 => ⟨acc, c3.ob _ _ nS h1, c.trans c3, a3⟩)
  have h4 := c4.ob _ _ nS h1
  refine ⟨acc, h4, hz _ _ _ a, acc ++ [y], upd_same, (c.trans c4).own hD _, ?_⟩
  exact mono _ _ Dl H4 _ hD ((Chg.refl H4).set (List.mem_singleton.mpr rfl) h4 (by intro xs z; cases z) _) a4
theorem g_lcL (h : SqL K H p xs) (hS : ∀ s ∈ S, H s ≠ none) (Acc : Nat → List V → Hp → Prop) (mono : ∀ i acc Dl H1 H2, H Dl = none → Chg [Dl] H1 H2 → Acc i acc H1 → Acc i acc H2)
    (h0 : ∀ H', Ext H H' → Acc 0 [] H') (hl : ∀ i acc H', Chg S H H' → Acc i acc H' → SqL K H' p xs) (hz : ∀ i acc H', Acc i acc H' → acc.length < sizeLine)
    (hs : ∀ i x, xs[i]? = some x → LcT S H σ vs j tt te Acc i x)
    (hd : ∀ q acc H', H q = none → Chg S H H' → H' q = some (.lst acc) → Acc xs.length acc H' → Q (.ref q) H')
    (hw : ∀ x : V, wipe ((wipe σ vs).set j (some x)) vs = wipe σ vs := by intro _; rfl) :
    ∃ a, V.ref p = .ref a ∧ (∃ xs, SqL K H a xs) ∧ LcB (gName j) tt te vs σ Q (Itl K a) H := by
  refine ⟨p, rfl, ⟨xs, h⟩, fun Dl hD => lc_list (xs := xs) (LcI S H Dl Acc) ⟨[], upd_same, (Chg.new hD _), h0 _ (Chg.new hD _)⟩ (fun i H' _ ⟨acc, _, c, a⟩ => hl i acc H' c a) (fun i x H' hi q => ⟨hw x, ?_⟩) (fun H' ⟨acc, h1, c, a⟩ => hd Dl acc H' hD c h1 a)⟩
  exact lc_turn hD hS mono hz (hs i x hi) q
theorem g_lcT (h : SqT K H p xs) (hS : ∀ s ∈ S, H s ≠ none) (Acc : Nat → List V → Hp → Prop) (mono : ∀ i acc Dl H1 H2, H Dl = none → Chg [Dl] H1 H2 → Acc i acc H1 → Acc i acc H2)
    (h0 : ∀ H', Ext H H' → Acc 0 [] H') (hl : ∀ i acc H', Chg S H H' → Acc i acc H' → SqT K H' p xs) (hz : ∀ i acc H', Acc i acc H' → acc.length < sizeLine)
    (hs : ∀ i x, xs[i]? = some x → LcT S H σ vs j tt te Acc i x)
    (hd : ∀ q acc H', H q = none → Chg S H H' → H' q = some (.lst acc) → Acc xs.length acc H' → Q (.ref q) H')
    (hw : ∀ x : V, wipe ((wipe σ vs).set j (some x)) vs = wipe σ vs := by intro _; rfl) :
    ∃ a, V.ref p = .ref a ∧ (∃ xs, SqT K H a xs) ∧ LcB (gName j) tt te vs σ Q (Itt K a) H := by
  refine ⟨p, rfl, ⟨xs, h⟩, fun Dl hD => lc_tup (xs := xs) (LcI S H Dl Acc) ⟨[], upd_same, (Chg.new hD _), h0 _ (Chg.new hD _)⟩ (fun i H' _ ⟨acc, _, c, a⟩ => hl i acc H' c a) (fun i x H' hi q => ⟨hw x, ?_⟩) (fun H' ⟨acc, h1, c, a⟩ => hd Dl acc H' hD c h1 a)⟩
  exact lc_turn hD hS mono hz (hs i x hi) q
theorem g_lcR {n : Int} (hn : -(2 ^ 62) ≤ n ∧ n < 2 ^ 62) (hS : ∀ s ∈ S, H s ≠ none) (Acc : Nat → List V → Hp → Prop) (mono : ∀ i acc Dl H1 H2, H Dl = none → Chg [Dl] H1 H2 → Acc i acc H1 → Acc i acc H2)
    (h0 : ∀ H', Ext H H' → Acc 0 [] H') (hz : ∀ i acc H', Acc i acc H' → acc.length < sizeLine)
    (hs : ∀ i : Nat, (i : Int) < n → LcT S H σ vs j tt te Acc i (.int (i : Int)))
    (hd : ∀ q acc H', H q = none → Chg S H H' → H' q = some (.lst acc) → Acc n.toNat acc H' → Q (.ref q) H')
    (hw : ∀ x : V, wipe ((wipe σ vs).set j (some x)) vs = wipe σ vs := by intro _; rfl) :
    ∃ k : Int, ([V.int n] : List V) = [.int k] ∧ -(2 ^ 62) ≤ k ∧ k < 2 ^ 62 ∧ LcB (gName j) tt te vs σ Q (Itr 0 k.toNat) H := by
  refine ⟨n, rfl, hn.1, hn.2, fun Dl hD => lc_range (lo := 0) (n := n.toNat) (LcI S H Dl Acc) ⟨[], upd_same, (Chg.new hD _), h0 _ (Chg.new hD _)⟩ (fun i H' hi q => ?_) (fun H' ⟨acc, h1, c, a⟩ => hd Dl acc H' hD c h1 a)⟩
  rw [Int.zero_add]
  exact ⟨hw _, lc_turn hD hS mono hz (hs i (by omega)) q⟩
end
/-! ### a def as a constant -/
structure Cl (P : Program) (w : World) (K : PySem.W.Frag) (mg : Str → Option Value) (base : Heap) (CX : CXT) (k : Nat) (x : Str) (sp : Sp) : Prop where
  ex : ∃ f fd ps, FnOk P w K mg base CX k f fd ps sp ∧ mg x = some (.ref f) ∧ PySem.W.keepIn K (.ref f) = true ∧ Binds K fd ps []
section
variable {X : Cx} {CX : CXT} {k j : Nat} {x : Str} {sp : Sp} {E : XK} {e : Expr} {es : List Expr} {t : TA} {p pos : Pos}
theorem pe_cl (c : Cl X.prog X.w X.K X.mg X.base CX k x sp) (hr : Room j X.A) (hk : k ≤ j) (hx : Passes CX X E) (ha : PA X (e :: es) t) (hg : Gl X x := by rfl) (hdb : (x == ("__debug__" : Str)) = false := by decide)
    (he : starEach (e :: es) X.env = (false, eval e X.env) :: starEach es X.env := by rfl) (hpl : (backTo pos (starEach es X.env)).any (·.1) = false := by rfl) : PE X (.Call (.Name x p) (e :: es) [] pos) (tCall sp [] E t) := by
  obtain ⟨f, fd, ps, F, hm, hk2, hb⟩ := c.ex
  exact pe_call F (hr.mono hk) hg hm hk2 hb .nil hx ha hdb he hpl
theorem pe_cl0 (c : Cl X.prog X.w X.K X.mg X.base CX k x sp) (hr : Room j X.A) (hk : k ≤ j) (hx : Passes CX X E) (hg : Gl X x := by rfl) (hdb : (x == ("__debug__" : Str)) = false := by decide) : PE X (.Call (.Name x p) [] [] pos) (tCall sp [] E tNil) := by
  obtain ⟨f, fd, ps, F, hm, hk2, hb⟩ := c.ex
  exact pe_call0 F (hr.mono hk) hg hm hk2 hb .nil hx hdb
end
end My

/-! Hk: the head's facts read by a Hook of one's own: defs at any address, closures, Bools of one's own. -/
namespace My
open PySem PySem.Spec PyProof.Rows L2 He
abbrev FnM : Type := Option (Str × Str × Arguments × FuncBody × Scope × Addr × Addr)
def fnM (K : PySem.W.Frag) (a : Addr) : FnM := match K.lookup a with
  | some ⟨_, _, .func fd, _⟩ => some (fd.name, fd.qualname, fd.params, fd.body, fd.scope, fd.globals, fd.builtins)
  | _ => none
/-- one def: where it stands, its name, qualified name, parameters, body, scope, closure -/
structure DefM where
  at_ : PySem.W.Frag → Addr
  name : Str
  qual : Str
  params : Arguments
  body : List Stmt
  scope : Scope
  clo : List (Str × (PySem.W.Frag → Addr)) := []
def DefM.val (d : DefM) : FnM := some (d.name, d.qual, d.params, .stmts d.body, d.scope, mainGlobals, builtinsNs)
def DefM.cl (K : PySem.W.Frag) (d : DefM) : List (Str × Addr) := d.clo.map fun q => (q.1, q.2 K)
def noneB : Value → Bool
  | .none => true
  | _ => false
theorem noneB_ok {v : Value} (h : noneB v = true) : v = .none := by cases v <;> first | rfl | cases h
def DefM.ok (K : PySem.W.Frag) (d : DefM) : Bool := PySem.W.keepIn K (.ref (d.at_ K)) && (match K.lookup (d.at_ K) with
  | some ⟨_, _, .func fd, _⟩ => PySem.W.codeIn K fd.code d.qual && (noneB fd.defaults && decide (fd.closure = d.cl K))
  | _ => false)
/-- a def of K with a closure, without defaults -/
structure FunC (K : PySem.W.Frag) (x qual : Str) (params : Arguments) (body : List Stmt) (scope : Scope) (cl : List (Str × Addr)) (f : Addr) (fd : FuncData) : Prop where
  ex : ∃ (oc : Value) (od : Option Addr) (kV doc pm : Value) (an : Option Addr) (cdv ct : Value) (osl : Array (Option Value)),
    fd = { PySem.W.fnOf x qual params body scope .none kV doc pm an cdv ct with closure := cl } ∧ K.lookup f = some ⟨oc, od, .func fd, osl⟩ ∧ PySem.W.codeIn K cdv qual = true
  kp : PySem.W.keepIn K (.ref f) = true
theorem DefM.funC {K : PySem.W.Frag} {d : DefM} (e : fnM K (d.at_ K) = d.val) (c : d.ok K = true) : ∃ fd, FunC K d.name d.qual d.params d.body d.scope (d.cl K) (d.at_ K) fd := by
  obtain ⟨kp, c2⟩ := ba c
  unfold fnM at e
  cases q : K.lookup (d.at_ K) with
  | none =>
    rw [q] at c2
    cases c2
  | some o =>
    obtain ⟨oc, od, dt, osl⟩ := o
    rw [q] at c2 e
    cases dt with
    | func fd =>
      obtain ⟨n1, n2, n3, n4, n5, n6, n7, n8, n9, n10, n11, n12, n13, n14, n15⟩ := fd
      have e2 : (some (n1, n2, n3, n4, n5, n6, n15) : FnM) = some (d.name, d.qual, d.params, .stmts d.body, d.scope, mainGlobals, builtinsNs) := e
      simp only [Option.some.injEq, Prod.mk.injEq] at e2
      obtain ⟨h1, h2, h3, h4, h5, h6, h8⟩ := e2
      subst h1 h2 h3 h4 h5 h6 h8
      have c3 : (PySem.W.codeIn K n13 d.qual && (noneB n8 && decide (n7 = d.cl K))) = true := c2
      obtain ⟨k1, k2⟩ := ba c3
      obtain ⟨k3, k4⟩ := ba k2
      have e8 := noneB_ok k3
      have e7 : n7 = d.cl K := of_decide_eq_true k4
      subst e8 e7
      exact ⟨_, ⟨oc, od, n9, n10, n11, n12, n13, n14, osl, rfl, q, k1⟩, kp⟩
    | _ => cases c2
theorem FunC.funD {K : PySem.W.Frag} {x qual : Str} {params : Arguments} {body : List Stmt} {scope : Scope} {f : Addr} {fd : FuncData} (F : FunC K x qual params body scope [] f fd) : FunD K x qual params body scope [] [] f fd := by
  obtain ⟨oc, od, kV, doc, pm, an, cdv, ct, osl, e, lk, c⟩ := F.ex
  exact ⟨⟨oc, od, .none, kV, doc, pm, an, cdv, ct, osl, e, lk, c, .inl ⟨rfl, rfl⟩, .inl rfl⟩, F.kp⟩
/-! ### the Hook -/
abbrev AlM : Type := Bool × List FnM
abbrev Ex : Type := PySem.W.Frag → Bool
def obsM (fa : List Fa) (fn : List DefM) (ex : List Ex) (K : PySem.W.Frag) : AlM := ((fa.all fun f => f.ok K) && ((fn.all fun d => d.ok K) && ex.all fun x => x K), fn.map fun d => fnM K (d.at_ K))
def valM (fn : List DefM) : AlM := (true, fn.map DefM.val)
def SaysM (fa : List Fa) (fn : List DefM) (ex : List Ex) (K : PySem.W.Frag) : Prop := obsM fa fn ex K = valM fn
def obsMG (n : Nat) (fa : List Fa) (fn : List DefM) (ex : List Ex) (g : Addr → Option Obj) : AlM := obsM fa fn ex (frG g (He5.asA g n))
def hookM (n : Nat) (fa : List Fa) (fn : List DefM) (ex : List Ex) : PySem.W.Hook where
  α := AlM
  obs := fun s => obsMG n fa fn ex s.heap.get?
  val := fun _ => valM fn
  says := fun _ h => ∃ K : PySem.W.Frag, K.In h ∧ SaysM fa fn ex K
  of := fun _ _ e => ⟨_, frG_in, e⟩
  keeps := fun _ _ _ ⟨K, hK, c⟩ k => ⟨K, PySem.W.Frag.In.keeps hK k, c⟩
theorem obsMG_eq {n : Nat} {fa : List Fa} {fn : List DefM} {ex : List Ex} {g : Addr → Option Obj} {s : Shared} (h : ∀ a, g a = s.heap.get? a) : obsMG n fa fn ex g = (hookM n fa fn ex).obs s := by
  have e : g = s.heap.get? := funext h
  rw [e] <;> rfl
section
variable {fa : List Fa} {fn : List DefM} {ex : List Ex} {K : PySem.W.Frag}
theorem SaysM.fact (c : SaysM fa fn ex K) (i : Nat) {f : Fa} (h : fa[i]? = some f := by rfl) : f.ok K = true := by
  have c1 := (ba (show ((fa.all fun f => f.ok K) && ((fn.all fun d => d.ok K) && ex.all fun x => x K)) = true from congrArg (fun z : AlM => z.1) c)).1
  exact List.all_eq_true.mp c1 f (List.mem_of_getElem? h)
theorem SaysM.more (c : SaysM fa fn ex K) (i : Nat) {x : Ex} (h : ex[i]? = some x := by rfl) : x K = true := by
  have c1 := (ba (ba (show ((fa.all fun f => f.ok K) && ((fn.all fun d => d.ok K) && ex.all fun x => x K)) = true from congrArg (fun z : AlM => z.1) c)).2).2
  exact List.all_eq_true.mp c1 x (List.mem_of_getElem? h)
theorem SaysM.defC (c : SaysM fa fn ex K) (i : Nat) {d : DefM} (h : fn[i]? = some d := by rfl) : ∃ fd, FunC K d.name d.qual d.params d.body d.scope (d.cl K) (d.at_ K) fd := by
  have c2 := (ba (ba (show ((fa.all fun f => f.ok K) && ((fn.all fun d => d.ok K) && ex.all fun x => x K)) = true from congrArg (fun z : AlM => z.1) c)).2).1
  have e : fn.map (fun d => fnM K (d.at_ K)) = fn.map DefM.val := congrArg (fun z : AlM => z.2) c
  have e2 : (fn.map fun d => fnM K (d.at_ K))[i]? = (fn.map DefM.val)[i]? := by rw [e]
  rw [List.getElem?_map, List.getElem?_map, h] at e2
  exact DefM.funC (Option.some.inj e2) (List.all_eq_true.mp c2 d (List.mem_of_getElem? h))
theorem SaysM.def_ (c : SaysM fa fn ex K) (i : Nat) {d : DefM} (h : fn[i]? = some d := by rfl) (hc : d.clo = [] := by rfl) : ∃ fd, FunD K d.name d.qual d.params d.body d.scope [] [] (d.at_ K) fd := by
  obtain ⟨fd, F⟩ := c.defC i h
  have e : d.cl K = [] := by unfold DefM.cl; rw [hc]; rfl
  rw [e] at F
  exact ⟨fd, F.funD⟩
end
/-! ### where a def stands -/
abbrev wFn (x : Str) : PySem.W.Frag → Addr := fun K => fAd K (x, none)
abbrev wMt (C m : Str) : PySem.W.Frag → Addr := fun K => fAd K (C, some m)
abbrev wSm (C m : Str) : PySem.W.Frag → Addr := fun K => He5.wf K (ga K C) "staticmethod" m
abbrev wCm (C m : Str) : PySem.W.Frag → Addr := fun K => He5.wf K (ga K C) "classmethod" m
/-! ### a static method, read off its class -/
def smB (C m : Str) : Ex := fun K => PySem.W.readsIn K (ga K C) (.type "type") && He5.wrapB K (ga K C) "staticmethod" "staticmethod.__get__" m
def cmB (C m : Str) : Ex := fun K => PySem.W.readsIn K (ga K C) (.type "type") && (He5.wrapB K (ga K C) "classmethod" "classmethod.__get__" m && PySem.W.fnIn K (He5.wf K (ga K C) "classmethod" m))
theorem cread_of {K : PySem.W.Frag} {C : Addr} (h : PySem.W.readsIn K C (.type "type") = true) : ClX.CRead K C (.type "type") := by
  refine ⟨h, ?_⟩
  unfold PySem.W.readsIn at h
  obtain ⟨h, _⟩ := ba h
  obtain ⟨h, _⟩ := ba h
  obtain ⟨h, h3⟩ := ba h
  obtain ⟨_, h2⟩ := ba h
  unfold PySem.W.specialIn
  rw [beq_iff_eq.mp h2, Option.bind_some]
  exact beq_iff_eq.mp h3
/-- C.m, a static method -/
structure SMet (K : PySem.W.Frag) (C : Addr) (m : Str) (g : Addr) : Prop where
  rd : ClX.CRead K C (.type "type")
  ex : ∃ p rest, PySem.W.findCls K (.ref C) (.type "type") m = some (.get (.builtin "staticmethod.__get__") (.ref p) .none (.ref C)) ∧ PySem.W.recIn K p "staticmethod" = some (.ref g :: rest)
theorem smB_ok {K : PySem.W.Frag} {C m : Str} (h : smB C m K = true) : SMet K (ga K C) m (wSm C m K) := by
  obtain ⟨h1, h2⟩ := ba h
  obtain ⟨h3, rest, h4⟩ := He5.wrapB_ok h2
  exact ⟨cread_of h1, _, rest, h3, h4⟩
/-- a static method as a constant -/
structure ClS (P : Program) (w : World) (K : PySem.W.Frag) (mg : Str → Option Value) (base : Heap) (CX : CXT) (k : Nat) (C m : Str) (sp : Sp) : Prop where
  ex : ∃ c f fd ps, FnOk P w K mg base CX k f fd ps sp ∧ mg C = some (.ref c) ∧ SMet K c m f ∧ PySem.W.keepIn K (.ref f) = true ∧ Binds K fd ps []
section
variable {X : Cx} {CX : CXT} {k j : Nat} {C m : Str} {sp : Sp} {E : XK} {e : Expr} {es : List Expr} {t : TA} {p pos apos : Pos} {pl : Sem Bool}
theorem pe_sm (c : ClS X.prog X.w X.K X.mg X.base CX k C m sp) (hr : Room j X.A) (hk : k ≤ j) (hx : Passes CX X E) (ha : PA X (e :: es) t) (hg : Gl X C := by rfl) (hdb : (C == ("__debug__" : Str)) = false := by decide)
    (he : starEach (e :: es) X.env = (false, eval e X.env) :: starEach es X.env := by rfl) (hpl : (backTo pos (starEach es X.env)).any (·.1) = false := by rfl)
    (ht : eval (.Call (.Attribute (.Name C p) m apos) (e :: es) [] pos) X.env = (do
      let ov ← eval (.Name C p) X.env
      standAt apos.atName
      let (f, first) ← holding [ov] (getMethod ov m pl)
      callWith pos f first (backTo pos (starEach (e :: es) X.env)) (backToKw pos (keywordEach [] X.env))) := by rfl) :
    PE X (.Call (.Attribute (.Name C p) m apos) (e :: es) [] pos) (tCall sp [] E t) := by
  obtain ⟨ca, f, fd, ps, F, hm, M, kp, hb⟩ := c.ex
  obtain ⟨q, rest, hf, hp⟩ := M.ex
  refine ⟨fun pins s σ H Q I h => ?_⟩
  refine PySem.W.methodCall_KW (pl := pl) (thn ((pe_glob (v := .ref ca) hg hm rfl hdb).run pins s σ H (fun v H1 => v = .ref ca ∧ H1 = H) I ⟨rfl, rfl⟩) fun u s1 ⟨x, H1, I1, rx, ex, eh⟩ => ?_) ht
  subst ex eh
  obtain rfl : u = Value.ref ca := rx
  refine PySem.W.method_cls I1.kIn M.rd.ga (PySem.W.cls_bind I1.kIn M.rd.rd hf (wpAny_call (PySem.W.sm_get (s := { s1 with toks := s1.toks + 1 }) I1.kIn hp (PySem.W.handed_on rfl ?_))))
  refine PySem.W.callWith_K (h₀ := X.base) I1.ok.mod.kin kp (thn (ha.run pos pins _ σ H1 _ (I1.tok _) h) fun us s2 ⟨vs, H2, I2, r, q2⟩ => ⟨I2.kIn, ?_⟩) he hpl
  exact run_fn F (hr.mono hk) hb .nil hx I2 r q2
end
end My

/-! More: further steps of the readings. -/
namespace My
open PySem PySem.Spec PyProof.Rows L2
section
variable {K : PySem.W.Frag} {σ : L2.St} {H : Hp} {D : Ends} {g : TG} {tb : TS} {R : It → Hp → Prop} {te : TE} {Q : VK}
theorem g_iS (h : te σ H fun x H1 => ∃ z, x = .str z ∧ R (Its z) H1) : iStr te σ H R := h
/-- for c in a text -/
theorem g_forS {z : Str} (Pv : Nat → L2.St → Hp → Prop) (h0 : Pv 0 σ H)
    (hs : ∀ i c σ H, z.cps.toList[i]? = some c → Pv i σ H → g (.str ⟨#[c]⟩) σ H fun σ2 H2 => tb { D with nx := Pv (i + 1), ct := Pv (i + 1), bk := D.nx } σ2 H2) (hd : ∀ σ H, Pv z.cps.toList.length σ H → D.nx σ H) :
    ∃ y, V.str z = .str y ∧ ForB g tb D σ (Its y) H := by
  refine ⟨z, rfl, fun i m σ H => m = z.cps.toList.length - i ∧ i ≤ z.cps.toList.length ∧ Pv i σ H, ⟨z.cps.toList.length, by simp, Nat.zero_le _, h0⟩, ?_⟩
  rintro i m σ H ⟨rfl, hi, p⟩
  by_cases hlt : i < z.cps.toList.length
  · refine .inr ⟨by simpa [Its] using hlt, Pv (i + 1), fun σ' H' p' => ⟨z.cps.toList.length - (i + 1), by omega, rfl, hlt, p'⟩, fun x H' y => ?_⟩
    obtain ⟨e, c, hc, rfl⟩ := y
    subst e
    exact hs i c σ _ (by simpa using hc) p
  · have e : i = z.cps.toList.length := by omega
    subst e
    exact .inl ⟨by simp [Its], hd σ H p⟩
theorem g_notInS {c : Nat} {z : Str} (h : Q (.bl (!decide (c ∈ z.cps.toList))) H) : rNotInS_ (.str ⟨#[c]⟩) (.str z) H Q := ⟨c, z, rfl, rfl, h⟩
theorem g_inS {c : Nat} {z : Str} (h : Q (.bl (decide (c ∈ z.cps.toList))) H) : rInS_ (.str ⟨#[c]⟩) (.str z) H Q := ⟨c, z, rfl, rfl, h⟩
theorem kit_bool_bool : PySem.W.kitOne K (.type "bool") (.type "bool") = some true := kit_ty (by decide +kernel)
theorem g_isiBB {b : Bool} (k : Q (.bl true) H) : rIsi K [.bl b, .ty "bool"] H Q := ⟨_, _, _, _, true, rfl, .ty "bool", .base (.bl b), kit_bool_bool, k⟩
end
/-! ### xs[1::-1] of two or more -/
theorem rev2_pick (items : Array Value) (u v : Value) (r : List Value) (e : items.toList = u :: v :: r) : slicePick items (some 1) none (some (-1)) = #[v, u] := by
  have hs : items.size = r.length + 2 := by rw [← Array.length_toList, e]; simp
  unfold slicePick
  have hb : sliceBounds (some 1) none (some (-1)) items.size = (1, -1, -1) := by
    rw [hs]
    simp [sliceBounds]
    omega
  rw [hb]
  have hr : sliceRange 1 (-1) (-1) = [1, 0] := by decide +kernel
  show ((sliceRange 1 (-1) (-1)).filterMap (items[·]?)).toArray = _
  rw [hr]
  have h0 : items[0]? = some u := by rw [← Array.getElem?_toList, e]; rfl
  have h1 : items[1]? = some v := by rw [← Array.getElem?_toList, e]; rfl
  simp [h0, h1]
def tRev2 (K : PySem.W.Frag) (te : TE) : TE := fun σ H Q => te σ H fun x H1 => ∃ a x0 x1 xs, x = .ref a ∧ SqL K H1 a (x0 :: x1 :: xs) ∧ ∀ p, H1 p = none → Q (.ref p) (upd H1 p (.lst [x1, x0]))
theorem pe_rev2 {X : Cx} {e : Expr} {te : TE} {k k' : Nat} {p0 p1 p2 p3 pos : Pos} (he : PE X e te) : PE X (.Subscript e (.Slice (some (.Constant (.int 1) k' p0)) none (some (.UnaryOp .USub (.Constant (.int 1) k p1) p2)) p3) pos) (tRev2 X.K te) := by
  refine ⟨fun pins s σ H Q I h => ?_⟩
  refine Subscript_ (thn (he.run pins s σ H _ I h) fun v s1 ⟨x, H1, I1, r1, q1⟩ => ?_)
  obtain ⟨a, x0, x1, xs, ex, hx, q⟩ := q1
  subst ex
  cases r1
  have hlo : PO X (some (.Constant (.int 1) k' p0)) (tPart (tC (.int 1))) := po_some pe_int
  have hst : PO X (some (.UnaryOp .USub (.Constant (.int 1) k p1) p2)) (tPart (tUn (rU fun i => .int (-i)) (tC (.int 1)))) := po_some (pe_un un_neg pe_int)
  refine wpAny_Slice (thn (hlo.run pins s1 σ H1 (fun o H2 => o = some 1 ∧ H2 = H1) I1 ⟨1, rfl, rfl, rfl⟩) fun vl s2 ⟨l, H2, I2, pl, el, e2⟩ => ?_)
  subst el e2
  refine thn (po_none.run pins s2 σ H2 (fun o H3 => o = none ∧ H3 = H2) I2 ⟨rfl, rfl⟩) fun vu s3 ⟨u, H3, I3, pu, eu, e3⟩ => ?_
  subst eu e3
  refine thn (hst.run pins s3 σ H3 (fun o H4 => o = some (-1) ∧ H4 = H3) I3 ⟨1, rfl, -1, rfl, rfl, rfl⟩) fun vs s4 ⟨o, H4, I4, ps, eo, e4⟩ => ?_
  subst eo e4
  have I5 : Inv X pins σ H4 { s4 with heap := s4.heap.push { cls := .type "slice", data := .fields #[vl, vu, vs] } } := I4.kept (t' := s4.toks) fun b ob q => Heap.get?_push_of_some _ q
  obtain ⟨its, r, ht, hz⟩ := I5.list hx
  have hlen := r.length
  show wpAny (model X.prog X.w) X.A (subscriptTail e (.Slice (some (.Constant (.int 1) k' p0)) none (some (.UnaryOp .USub (.Constant (.int 1) k p1) p2)) p3) (.ref a) (.ref s4.heap.objs.size)) (EP X pins σ Q) X.xe { s4 with heap := s4.heap.push { cls := .type "slice", data := .fields #[vl, vu, vs] } }
  refine tail_any (ops := [.ref a, .ref s4.heap.objs.size]) ht.isList.typeIs (PySem.slot_list_getitem.lookup) ?_ (by with_unfolding_all rfl)
  refine wpAny_getItem_list_slice ht.isList (Heap.IsSliceOf.new _ vl vu vs) pl pu ps (by decide) ?_ (by rw [List.size_toArray]; omega)
  cases r with
  | @cons _ u0 _ us r0 rr =>
    cases rr with
    | @cons _ u1 _ us2 r1 rr2 =>
      rw [rev2_pick _ u0 u1 us2 (by simp)]
      refine ⟨.ref _, _, I5.laid (t' := s4.toks) (o := .lst [x1, x0]) (fun b ob q => Heap.get?_push_of_some _ q) (Nat.le_refl _) ?_, rfl, q _ (I5.hok.fresh (Nat.le_refl _))⟩
      exact ⟨by rw [sizeLine_eq]; simp, _, 0, .cons r1 (.cons r0 .nil), Heap.get?_push_size _ rfl⟩
/-! ### dicts with int and text keys -/
def rLenD : List V → Hp → VK → Prop := fun xs H Q => ∃ a kvs, xs = [V.ref a] ∧ H a = some (.dK kvs) ∧ Q (.int kvs.length) H
section
variable {K : PySem.W.Frag} {σ : L2.St} {H : Hp} {D : Ends} {Q : VK} {td ty tx tv te : TE}
theorem g_lenD {a : Addr} {kvs : List (Key × V)} (h : H a = some (.dK kvs)) (k : Q (.int kvs.length) H) : rLenD [.ref a] H Q := ⟨a, kvs, rfl, h, k⟩
theorem g_dget (h : td σ H fun x H1 => ty σ H1 fun y H2 => ∃ a v, x = .ref a ∧ DGet H2 a y (some v) ∧ Q v H2) : tDGet td ty σ H Q := h
theorem g_dget2 (h : td σ H fun x H1 => ∃ a, x = .ref a ∧ IsD H1 a ∧ ty σ H1 fun y H2 => tx σ H2 fun z H3 => ∃ o, DGet H3 a y o ∧ Q (o.getD z) H3) : tDGet2 td ty tx σ H Q := h
theorem g_din (h : ty σ H fun y H1 => td σ H1 fun x H2 => ∃ a o, x = .ref a ∧ DGet H2 a y o ∧ Q (.bl o.isSome) H2) : tDIn ty td σ H Q := h
theorem g_dnin (h : ty σ H fun y H1 => td σ H1 fun x H2 => ∃ a o, x = .ref a ∧ DGet H2 a y o ∧ Q (.bl (!o.isSome)) H2) : tDNotIn ty td σ H Q := h
theorem g_dput (h : tv σ H fun v H1 => td σ H1 fun x H2 => ty σ H2 fun y H3 => ∃ a H4, x = .ref a ∧ DPut H3 a y v H4 ∧ D.nx σ H4) : sDPut td ty tv D σ H := h
theorem g_star {t : TA} {QL : List V → Hp → Prop} (h : te σ H fun x H1 => ∃ p xs, x = V.ref p ∧ (SqT K H1 p xs ∨ SqL K H1 p xs) ∧ t σ H1 fun ys H2 => QL (xs ++ ys) H2) : StX.tStar K te t σ H QL := h
theorem g_rev2 (h : te σ H fun x H1 => ∃ a x0 x1 xs, x = .ref a ∧ SqL K H1 a (x0 :: x1 :: xs) ∧ ∀ p, H1 p = none → Q (.ref p) (upd H1 p (.lst [x1, x0]))) : tRev2 K te σ H Q := h
theorem g_dnew (k : ∀ p H', H p = none → Ext H H' → H' p = some (.dK []) → Q (.ref p) H') : tDNewK σ H Q := fun p hp => k p _ hp (Chg.new hp _) upd_same
end
theorem DGet.int {H : Hp} {a : Addr} {kvs : List (Key × V)} {n : Int} (h : H a = some (.dK kvs)) : DGet H a (.int n) (valV kvs (.inl n)) := .inl ⟨kvs, .inl n, .inl h, rfl, rfl⟩
theorem DGet.str {H : Hp} {a : Addr} {kvs : List (Key × V)} {n : Str} (h : H a = some (.dK kvs)) : DGet H a (.str n) (valV kvs (.inr n)) := .inl ⟨kvs, .inr n, .inl h, rfl, rfl⟩
theorem isD_of {H : Hp} {a : Addr} {kvs : List (Key × V)} (h : H a = some (.dK kvs)) : IsD H a := .inl ⟨kvs, .inl h⟩
end My

namespace My
open PySem PySem.Spec PyProof.Rows L2
local macro_rules | `(tactic| walk_at "g1") => `(tactic| first
  | with_reducible refine My.g_seq ?_
  | with_reducible refine My.g_asg ?_
  | with_reducible refine My.g_name ?_
  | ((with_reducible refine' My.g_var ?ga ?gb); (case ga => rfl))
  | with_reducible refine My.g_c ?_
  | with_reducible refine My.g_op ?_
  | with_reducible refine My.g_cb ?_
  | with_reducible refine My.g_cons ?_
  | with_reducible refine My.g_nil ?_
  | with_reducible refine My.g_ifS ?_
  | with_reducible refine My.g_ret ?_
  | with_reducible refine My.g_drop ?_
  | with_reducible refine My.g_test ?_
  | with_reducible refine My.g_B ?_
  | with_reducible refine My.g_bl ?_
  | with_reducible refine My.g_int1 ?_
  | with_reducible refine My.g_rI0 ?_
  | ((with_reducible refine My.g_rI ?ga ?gb); (case ga => first | decide | (unfold CMul; omega) | (unfold CDiv; omega) | (unfold CPow; decide) | (unfold CPow; omega) | omega))
  | with_reducible refine My.g_eqI ?_
  | with_reducible refine My.g_neI ?_
  | with_reducible refine My.g_eqS ?_
  | with_reducible refine My.g_neS ?_
  | with_reducible refine My.g_neB ?_
  | with_reducible refine My.g_tr ?_
  | with_reducible refine My.g_fa ?_
  | with_reducible refine My.g_ntr ?_
  | with_reducible refine My.g_nfa ?_
  | with_reducible refine My.g_next ?_
  | with_reducible refine My.g_bm ?_
  | with_reducible refine My.g_bm0 ?_
  | ((with_reducible refine' My.g_tyL ?ga ?gb); (case ga => assumption))
  | with_reducible refine My.g_not ?_
  | with_reducible refine My.g_and ?_
  | with_reducible refine My.g_or ?_
  | with_reducible refine My.g_andV ?_
  | with_reducible refine My.g_orV ?_
  | with_reducible refine My.g_notV ?_
  | with_reducible refine My.g_ifE ?_
  | with_reducible refine My.g_chain ?_
  | with_reducible refine My.g_un ?_
  | with_reducible refine My.g_rU ?_
  | with_reducible refine My.g_sl ?_
  | with_reducible refine My.g_part ?_
  | with_reducible refine My.g_nopart ?_
  | with_reducible refine My.g_exI ?_
  | with_reducible refine My.g_abs ?_
  | with_reducible refine My.g_int1b ?_
  | with_reducible refine My.g_tupT ?_
  | with_reducible refine My.g_lstT ?_
  | with_reducible refine My.g_yes ?_
  | with_reducible refine My.g_joined ?_
  | with_reducible refine My.g_jc ?_
  | with_reducible refine My.g_jn ?_
  | with_reducible refine My.g_fmt ?_
  | with_reducible refine My.g_m1 ?_
  | with_reducible refine My.g_m1s ?_
  | with_reducible refine My.g_for ?_
  | with_reducible refine My.g_lc ?_
  | with_reducible refine My.g_iL ?_
  | with_reducible refine My.g_iT ?_
  | with_reducible refine My.g_iR ?_
  | with_reducible refine My.g_iR2 ?_
  | with_reducible refine My.g_call ?_
  | with_reducible refine My.g_isN ?_
  | with_reducible refine My.g_notN ?_
  | with_reducible refine My.g_retN ?_
  | with_reducible refine My.g_iS ?_
  | with_reducible refine My.g_dget ?_
  | with_reducible refine My.g_dget2 ?_
  | with_reducible refine My.g_din ?_
  | with_reducible refine My.g_dnin ?_
  | with_reducible refine My.g_dput ?_
  | with_reducible refine My.g_star ?_
  | with_reducible refine My.g_rev2 ?_
  | ((with_reducible refine' My.g_lenL ?ga ?gb); (case ga => assumption))
  | ((with_reducible refine' My.g_lenT ?ga ?gb); (case ga => assumption)))
local macro_rules | `(tactic| walk_at "go") => `(tactic| repeat walk_at "g1")

def t_take (K : PySem.W.Frag) : TS := (tSeq (tIfS (tTest (tOp rEq (tCB (rLenSeq K) (tCons (tVar 0) tNil)) (tC (.int 0)))) (tRet (tC (.int 0)))
  tNext)
  (tRet (tOp rModI (tCB rInt1 (tCons (tBM K "list" rPopAt (tVar 0) (tCons (tC (.int 0)) tNil)) tNil)) (tVar 1))))
abbrev N_take : List Str := ["_law_draws", "_law_many"]
/-- the draws: a list of ints at d, not too long -/
def Dr (H : Hp) (d : Addr) : Prop := ∃ ds : List Int, H d = some (.lst (ds.map V.int)) ∧ ds.length ≤ 10000
theorem big {n : Nat} (h : n ≤ 100000) : n ≤ sizeLine := Nat.le_trans h (by decide)
theorem bigl {n : Nat} (h : n < 100000) : n < sizeLine := Nat.lt_of_lt_of_le h (by decide)
def sp_take (K : PySem.W.Frag) : Sp := fun vs H Q _ => ∃ (d : Addr) (m : Int), vs = [.ref d, .int m] ∧ Dr H d ∧ 0 < m ∧ ∀ (v : Int) (H' : Hp), 0 ≤ v → v < m → Chg [d] H H' → Dr H' d → Q (.int v) H'
theorem len_take {K : PySem.W.Frag} {vs : List V} {H : Hp} {Q : VK} {E : XK} (h : sp_take K vs H Q E) : vs.length = 2 := by obtain ⟨_, _, rfl, _⟩ := h; rfl
theorem rd_take {K : PySem.W.Frag} {vs : List V} {H : Hp} {Q : VK} {E : XK} (h : sp_take K vs H Q E) : t_take K { nx := fun _ H' => Q .non H', rt := Q } (start N_take vs) H := by
  obtain ⟨d, m, rfl, ⟨ds, hd, hl⟩, hm, k⟩ := h
  unfold t_take
  walk_at "go"
  refine g_2 (fun e => ?_) (fun e => ?_)
  · walk_at "go"
    exact k 0 H (Int.le_refl 0) hm (Chg.refl H) ⟨ds, hd, hl⟩
  · walk_at "go"
    cases ds with
    | nil => simp at e
    | cons n ds =>
      refine ⟨d, _, 0, 0, .int n, rfl, rfl, hd, by decide, by decide, by simp [seqIndex?], rfl, ?_⟩
      walk_at "go"
      refine k _ _ (Int.emod_nonneg _ (by omega)) (Int.emod_lt_of_pos _ hm) ((Chg.refl H).set (List.mem_singleton.mpr rfl) hd (by simp) _) ⟨ds, by rw [upd_same]; rfl, by simp at hl; omega⟩
def t_stream (K : PySem.W.Frag) : TS := (tSeq (tAsg (tLst tNil) (gName 1))
  (tSeq (tAsg (tC (.int 7)) (gName 2))
  (tSeq (tFor (iList K (tVar 0)) (gName 3)
  (tSeq (tAsg (tCB rAbs (tCons (tCB rInt1 (tCons (tVar 3) tNil)) tNil)) (gName 4))
  (tCut (tIfS (tTest (tOp rLtI (tVar 4) (tOp rPowI (tC (.int 10)) (tC (.int 18))))) (tSeq (tDrop (tBM K "list" rAppend (tVar 1) (tCons (tOp rModI (tCB rInt1 (tCons (tVar 3) tNil)) (tC (.int 1000))) tNil)))
  (tAsg (tC (.int 0)) (gName 4)))
  tNext)
  (tSeq (tFor (iRng1 (tCons (tC (.int 60)) tNil)) (gName 5)
  (tIfS (tTest (tOp rGtI (tVar 4) (tC (.int 0)))) (tSeq (tDrop (tBM K "list" rAppend (tVar 1) (tCons (tOp rModI (tCB rInt1 (tCons (tVar 4) tNil)) (tC (.int 1000))) tNil)))
  (tAsg (tOp rDivI (tVar 4) (tC (.int 1000))) (gName 4)))
  tNext))
  (tAsg (tOp rAddI (tOp rModI (tCB rInt1 (tCons (tOp rAddI (tOp rMulI (tVar 2) (tC (.int 31))) (tCB rInt1 (tCons (tVar 3) tNil))) tNil)) (tC (.int 1000003))) (tC (.int 1))) (gName 2))))))
  (tSeq (tAsg (tOp rAddI (tOp rMulI (tVar 2) (tC (.int 7))) (tC (.int 1))) (gName 6))
  (tSeq (tFor (iRng1 (tCons (tOp rMulI (tC (.int 600)) (tCB rInt1 (tCons (tOp rGtI (tCB (rLenSeq K) (tCons (tVar 0) tNil)) (tC (.int 0))) tNil))) tNil)) (gName 5)
  (tSeq (tAsg (tOp rModI (tCB rInt1 (tCons (tOp rMulI (tVar 2) (tC (.int 48271))) tNil)) (tC (.int 2147483647))) (gName 2))
  (tSeq (tAsg (tOp rModI (tCB rInt1 (tCons (tOp rMulI (tVar 6) (tC (.int 69621))) tNil)) (tC (.int 2147483629))) (gName 6))
  (tDrop (tBM K "list" rAppend (tVar 1) (tCons (tOp rModI (tCB rInt1 (tCons (tOp rAddI (tOp rDivI (tVar 2) (tC (.int 1009))) (tOp rDivI (tVar 6) (tC (.int 2003)))) tNil)) (tC (.int 1000))) tNil))))))
  (tRet (tSl (rSlL K) (tVar 1) tNoPart (tPart (tC (.int 900))))))))))
abbrev N_stream : List Str := ["_law_script", "_law_row", "_law_seed", "_law_cell", "_law_rest", "_law_k", "_law_turn"]
theorem len_app {xs : List Int} {n : Int} : (xs ++ [n]).map V.int = xs.map V.int ++ [V.int n] := by simp
def sp_stream (K : PySem.W.Frag) : Sp := fun vs H Q _ => ∃ (a : Addr) (ns : List Int), vs = [.ref a] ∧ SqL K H a (ns.map V.int) ∧ ns.length ≤ 63 ∧ ∀ (r : Addr) (H' : Hp), H r = none → Ext H H' → Dr H' r → Q (.ref r) H'
theorem len_stream {K : PySem.W.Frag} {vs : List V} {H : Hp} {Q : VK} {E : XK} (h : sp_stream K vs H Q E) : vs.length = 1 := by obtain ⟨_, _, rfl, _⟩ := h; rfl
theorem rd_stream {K : PySem.W.Frag} {vs : List V} {H : Hp} {Q : VK} {E : XK} (h : sp_stream K vs H Q E) : t_stream K { nx := fun _ H' => Q .non H', rt := Q } (start N_stream vs) H := by
  obtain ⟨a, ns, rfl, hS, h63, k⟩ := h
  unfold t_stream
  walk_at "go"
  refine g_newL (by decide) fun r H1 hr c1 h1 => ?_
  walk_at "go"
  -- for cell in script
  refine g_forL (xs := ns.map V.int) (c1.same.seq hS) (fun i σ H' => ∃ (ds : List Int) (seed : Int) (o3 o4 o5 : Option V), σ = [some (.ref a), some (.ref r), some (.int seed), o3, o4, o5, none] ∧ Ext H H' ∧ H' r = some (.lst (ds.map V.int)) ∧ ds.length ≤ 100 * i ∧ 0 ≤ seed ∧ seed ≤ 2000000)
    ⟨[], 7, none, none, none, rfl, c1, h1, Nat.zero_le _, by decide, by decide⟩ (fun i σ H' _ ⟨_, _, _, _, _, _, c, _⟩ => c.same.seq hS) ?_ ?_
  · rintro i x σ H' hi ⟨ds, seed, o3, o4, o5, rfl, c, hd, hl, s0, s1⟩
    obtain ⟨n, hn, rfl⟩ : ∃ n, ns[i]? = some n ∧ V.int n = x := by
      rw [List.getElem?_map] at hi
      cases e : ns[i]? with
      | none => rw [e] at hi; cases hi
      | some n => rw [e] at hi; exact ⟨n, rfl, Option.some.inj hi⟩
    have hi63 : i < ns.length := (List.getElem?_eq_some_iff.mp hn).1
    walk_at "go"
    refine g_cut (M := fun σ H' => ∃ (ds : List Int) (rest : Int), σ = [some (.ref a), some (.ref r), some (.int seed), some (.int n), some (.int rest), o5, none] ∧ Ext H H' ∧ H' r = some (.lst (ds.map V.int)) ∧ ds.length ≤ 100 * i + 1) ?_ ?_
    · walk_at "go"
      refine g_2 (fun _ => ?_) (fun _ => ?_)
      · walk_at "go"
        refine g_append hd (bigl (by simp; omega)) ?_
        walk_at "go"
        exact ⟨ds ++ [_], _, rfl, c.own hr _, by rw [upd_same, len_app], by simp; omega⟩
      · walk_at "go"
        exact ⟨ds, _, rfl, c, hd, by omega⟩
    · rintro σ H' ⟨ds, rest, rfl, c, hd, hl⟩
      walk_at "go"
      refine g_forR (by decide) (fun k σ H' => ∃ (ds : List Int) (rest : Int) (o5 : Option V), σ = [some (.ref a), some (.ref r), some (.int seed), some (.int n), some (.int rest), o5, none] ∧ Ext H H' ∧ H' r = some (.lst (ds.map V.int)) ∧ ds.length ≤ 100 * i + 1 + k) ⟨ds, rest, o5, rfl, c, hd, by omega⟩ ?_ ?_
      · rintro k σ H' hk ⟨ds, rest, o5, rfl, c, hd, hl⟩
        walk_at "go"
        refine g_2 (fun _ => ?_) (fun _ => ?_)
        · walk_at "go"
          refine g_append hd (bigl (by simp; omega)) ?_
          walk_at "go"
          exact ⟨ds ++ [_], _, _, rfl, c.own hr _, by rw [upd_same, len_app], by simp; omega⟩
        · walk_at "go"
          exact ⟨ds, rest, _, rfl, c, hd, by omega⟩
      · rintro σ H' ⟨ds, rest, o5, rfl, c, hd, hl⟩
        walk_at "go"
        refine ⟨ds, _, _, _, _, rfl, c, hd, by simp at hl; omega, ?_, ?_⟩
        · have := Int.emod_nonneg (seed * 31 + n) (b := 1000003) (by decide); omega
        · have := Int.emod_lt_of_pos (seed * 31 + n) (b := 1000003) (by decide); omega
  · rintro σ H' ⟨ds, seed, o3, o4, o5, rfl, c, hd, hl, s0, s1⟩
    walk_at "go"
    refine g_lenLK (c.same.seq hS) ?_
    walk_at "go"
    have hb : ∀ b : Bool, (if b = true then (1 : Int) else 0) = 0 ∨ (if b = true then (1 : Int) else 0) = 1 := by intro b; cases b <;> simp
    generalize he : (if decide (0 < ((List.map V.int ns).length : Int)) = true then (1 : Int) else 0) = e
    have he2 : e = 0 ∨ e = 1 := by rw [← he]; exact hb _
    refine g_forR (by omega) (fun k σ H' => ∃ (ds : List Int) (seed turn : Int) (o5 : Option V), σ = [some (.ref a), some (.ref r), some (.int seed), o3, o4, o5, some (.int turn)] ∧ Ext H H' ∧ H' r = some (.lst (ds.map V.int)) ∧ ds.length ≤ 6300 + k ∧ -5000000000 ≤ seed ∧ seed ≤ 5000000000 ∧ -5000000000 ≤ turn ∧ turn ≤ 5000000000) ⟨ds, seed, _, o5, rfl, c, hd, by simp at hl; omega, by omega, by omega, by omega, by omega⟩ ?_ ?_
    · rintro k σ H' hk ⟨ds, seed, turn, o5, rfl, c, hd, hl, a1, a2, a3, a4⟩
      walk_at "go"
      refine g_append hd (bigl (by simp; omega)) ?_
      refine ⟨ds ++ [_], _, _, _, rfl, c.own hr _, by rw [upd_same, len_app], by simp; omega, ?_, ?_, ?_, ?_⟩
      · have := Int.emod_nonneg (seed * 48271) (b := 2147483647) (by decide); omega
      · have := Int.emod_lt_of_pos (seed * 48271) (b := 2147483647) (by decide); omega
      · have := Int.emod_nonneg (turn * 69621) (b := 2147483629) (by decide); omega
      · have := Int.emod_lt_of_pos (turn * 69621) (b := 2147483629) (by decide); omega
    · rintro σ H' ⟨ds, seed, turn, o5, rfl, c, hd, hl, a1, a2, a3, a4⟩
      walk_at "go"
      refine g_slL (.inl (.inl hd)) fun q H2 hq c2 h2 => ?_
      refine k q H2 (c.free hq) (c.trans c2) ⟨ds.take 900, ?_, by simp; omega⟩
      rw [h2]
      simp [cutV, HT.sIx, List.map_take]
end My

namespace My
open PySem PySem.Spec PyProof.Rows L2
local macro_rules | `(tactic| walk_at "g1") => `(tactic| first
  | with_reducible refine My.g_seq ?_
  | with_reducible refine My.g_asg ?_
  | with_reducible refine My.g_name ?_
  | ((with_reducible refine' My.g_var ?ga ?gb); (case ga => rfl))
  | with_reducible refine My.g_c ?_
  | with_reducible refine My.g_op ?_
  | with_reducible refine My.g_cb ?_
  | with_reducible refine My.g_cons ?_
  | with_reducible refine My.g_nil ?_
  | with_reducible refine My.g_ifS ?_
  | with_reducible refine My.g_ret ?_
  | with_reducible refine My.g_drop ?_
  | with_reducible refine My.g_test ?_
  | with_reducible refine My.g_B ?_
  | with_reducible refine My.g_bl ?_
  | with_reducible refine My.g_int1 ?_
  | with_reducible refine My.g_rI0 ?_
  | ((with_reducible refine My.g_rI ?ga ?gb); (case ga => first | decide | (unfold CMul; omega) | (unfold CDiv; omega) | (unfold CPow; decide) | (unfold CPow; omega) | omega))
  | with_reducible refine My.g_eqI ?_
  | with_reducible refine My.g_neI ?_
  | with_reducible refine My.g_eqS ?_
  | with_reducible refine My.g_neS ?_
  | with_reducible refine My.g_neB ?_
  | with_reducible refine My.g_tr ?_
  | with_reducible refine My.g_fa ?_
  | with_reducible refine My.g_ntr ?_
  | with_reducible refine My.g_nfa ?_
  | with_reducible refine My.g_next ?_
  | with_reducible refine My.g_bm ?_
  | with_reducible refine My.g_bm0 ?_
  | ((with_reducible refine' My.g_tyL ?ga ?gb); (case ga => assumption))
  | with_reducible refine My.g_not ?_
  | with_reducible refine My.g_and ?_
  | with_reducible refine My.g_or ?_
  | with_reducible refine My.g_andV ?_
  | with_reducible refine My.g_orV ?_
  | with_reducible refine My.g_notV ?_
  | with_reducible refine My.g_ifE ?_
  | with_reducible refine My.g_chain ?_
  | with_reducible refine My.g_un ?_
  | with_reducible refine My.g_rU ?_
  | with_reducible refine My.g_sl ?_
  | with_reducible refine My.g_part ?_
  | with_reducible refine My.g_nopart ?_
  | with_reducible refine My.g_exI ?_
  | with_reducible refine My.g_abs ?_
  | with_reducible refine My.g_int1b ?_
  | with_reducible refine My.g_tupT ?_
  | with_reducible refine My.g_lstT ?_
  | with_reducible refine My.g_yes ?_
  | with_reducible refine My.g_joined ?_
  | with_reducible refine My.g_jc ?_
  | with_reducible refine My.g_jn ?_
  | with_reducible refine My.g_fmt ?_
  | with_reducible refine My.g_m1 ?_
  | with_reducible refine My.g_m1s ?_
  | with_reducible refine My.g_for ?_
  | with_reducible refine My.g_lc ?_
  | with_reducible refine My.g_iL ?_
  | with_reducible refine My.g_iT ?_
  | with_reducible refine My.g_iR ?_
  | with_reducible refine My.g_iR2 ?_
  | with_reducible refine My.g_call ?_
  | with_reducible refine My.g_isN ?_
  | with_reducible refine My.g_notN ?_
  | with_reducible refine My.g_retN ?_
  | with_reducible refine My.g_iS ?_
  | with_reducible refine My.g_dget ?_
  | with_reducible refine My.g_dget2 ?_
  | with_reducible refine My.g_din ?_
  | with_reducible refine My.g_dnin ?_
  | with_reducible refine My.g_dput ?_
  | with_reducible refine My.g_star ?_
  | with_reducible refine My.g_rev2 ?_
  | ((with_reducible refine' My.g_lenL ?ga ?gb); (case ga => assumption))
  | ((with_reducible refine' My.g_lenT ?ga ?gb); (case ga => assumption)))
local macro_rules | `(tactic| walk_at "go") => `(tactic| repeat walk_at "g1")

/-! ### texts -/
abbrev tl (s : Str) : List Nat := s.cps.toList
theorem tl_len (s : Str) : s.length = (tl s).length := by simp [tl, Str.length]
theorem tl_ext {x y : Str} (h : tl x = tl y) : x = y := Str.ext' (Array.toList_inj.mp h)
theorem tl_app (x y : Str) : tl (x ++ y) = tl x ++ tl y := TL.tl_append x y
theorem tl_cut (z : Str) (lo hi : Option Int) : tl (cutS z lo hi) = ((tl z).drop (HT.sIx z.length 0 lo)).take (HT.sIx z.length z.length hi - HT.sIx z.length 0 lo) := rfl
theorem tl_one (c : Nat) : tl ⟨#[c]⟩ = [c] := rfl
def Low (s : Str) : Prop := ∀ c ∈ tl s, 97 ≤ c ∧ c ≤ 122
/-- a name: 1 to 8 letters -/
structure Good (s : Str) : Prop where
  pos : 1 ≤ s.length
  most : s.length ≤ 8
  low : Low s
theorem letters_tl : tl ("abcdefghijklmnopqrstuvwxyz" : Str) = (List.range 26).map (97 + ·) := by decide +kernel
theorem letters_len : ("abcdefghijklmnopqrstuvwxyz" : Str).length = 26 := by decide +kernel
theorem letter_at {k : Nat} (h : k < 26) : atI ("abcdefghijklmnopqrstuvwxyz" : Str).cps.toList (k : Int) = some (97 + k) := by
  refine atI_nat ?_
  have := letters_tl
  unfold tl at this
  rw [this]
  simp [h]
theorem Low.app {x y : Str} (h : Low x) (k : Low y) : Low (x ++ y) := fun c hc => by
  rw [tl_app] at hc
  exact (List.mem_append.mp hc).elim (h c) (k c)
theorem Low.cut {z : Str} {lo hi : Option Int} (h : Low z) : Low (cutS z lo hi) := fun c hc => by
  rw [tl_cut] at hc
  exact h c (List.drop_subset _ _ (List.take_subset _ _ hc))
theorem letters_low : Low ("abcdefghijklmnopqrstuvwxyz" : Str) := fun c hc => by
  rw [letters_tl] at hc
  simp at hc
  omega
theorem app_len (x y : Str) : (x ++ y).length = x.length + y.length := by rw [tl_len, tl_app, List.length_append, ← tl_len, ← tl_len]
theorem one_len (c : Nat) : (⟨#[c]⟩ : Str).length = 1 := rfl
/-- the mark of a name: its first sign, or its last one -/
def Mk (front : Int) (s : Str) (c : Nat) : Prop := (front = 0 → (tl s).head? = some c) ∧ (front ≠ 0 → (tl s).getLast? = some c)
theorem Mk.inj {front : Int} {s : Str} {c d : Nat} (h : Mk front s c) (k : Mk front s d) : c = d := by
  by_cases e : front = 0
  · have := (h.1 e).symm.trans (k.1 e); exact Option.some.inj this
  · have := (h.2 e).symm.trans (k.2 e); exact Option.some.inj this
def more1 (k : Nat) : Str := ⟨#[97 + k % 26, 97 + (k * 7 + k / 26 + 3) % 26]⟩
theorem more_inj : ∀ i < 52, ∀ j < 52, more1 i = more1 j → i = j := by decide +kernel
theorem more_good : ∀ i < 52, Good (more1 i) := fun i _ => ⟨by show 1 ≤ 2; decide, by show 2 ≤ 8; decide, fun c hc => by
  have : c = 97 + i % 26 ∨ c = 97 + (i * 7 + i / 26 + 3) % 26 := by
    have h : c ∈ [97 + i % 26, 97 + (i * 7 + i / 26 + 3) % 26] := hc
    simpa using h
  omega⟩
/-- the names at l: all good, no two alike, at least 26 -/
structure NmOk (nms : List Str) : Prop where
  good : ∀ s ∈ nms, Good s
  nd : nms.Nodup
  least : 26 ≤ nms.length
  most : nms.length ≤ 78
def strides : List Int := [1, 3, 5, 7, 9, 11, 15, 17, 19, 21, 23, 25]
theorem strides_inj {st sh : Int} (hs : st ∈ strides) {i j : Nat} (hi : i < 26) (hj : j < 26) (e : ((i : Int) * st + sh) % 26 = ((j : Int) * st + sh) % 26) : i = j := by
  simp only [strides, List.mem_cons, List.not_mem_nil, or_false] at hs
  rcases hs with rfl | rfl | rfl | rfl | rfl | rfl | rfl | rfl | rfl | rfl | rfl | rfl <;> omega
theorem strides_bd {st : Int} (hs : st ∈ strides) : 1 ≤ st ∧ st ≤ 25 := by
  simp only [strides, List.mem_cons, List.not_mem_nil, or_false] at hs
  rcases hs with rfl | rfl | rfl | rfl | rfl | rfl | rfl | rfl | rfl | rfl | rfl | rfl <;> omega
theorem stride_at {r : Int} (h0 : 0 ≤ r) (h1 : r < 12) : ∃ st, st ∈ strides ∧ atI ([.int 1, .int 3, .int 5, .int 7, .int 9, .int 11, .int 15, .int 17, .int 19, .int 21, .int 23, .int 25] : List V) r = some (.int st) := by
  obtain ⟨k, rfl⟩ : ∃ k : Nat, r = (k : Int) := ⟨r.toNat, by omega⟩
  have hk : k < 12 := by omega
  have e : ([.int 1, .int 3, .int 5, .int 7, .int 9, .int 11, .int 15, .int 17, .int 19, .int 21, .int 23, .int 25] : List V) = strides.map V.int := rfl
  have hl : k < strides.length := hk
  refine ⟨strides[k], List.getElem_mem hl, ?_⟩
  rw [e]
  exact atI_nat (by rw [List.getElem?_map, List.getElem?_eq_getElem hl]; rfl)
theorem inV_str {s : Str} : ∀ {l : List Str}, inV (.str s) (l.map V.str) = decide (s ∈ l)
  | [] => by simp [inV]
  | a :: l => by
    have ih := inV_str (s := s) (l := l)
    unfold inV at ih ⊢
    rw [List.map_cons, List.any_cons, ih]
    show ((a == s) || decide (s ∈ l)) = decide (s ∈ a :: l)
    by_cases e : a = s
    · subst e; simp
    · have e2 : (a == s) = false := beq_eq_false_iff_ne.mpr e
      rw [e2]
      simp [show ¬ s = a from fun z => e z.symm]
theorem flat_strs : ∀ {l : List Str}, (l.map V.str).all flatV = true
  | [] => rfl
  | a :: l => by rw [List.map_cons, List.all_cons, flat_strs]; rfl
theorem nodup_of {α : Type} {l : List α} (h : ∀ (i j : Nat) (s : α), i < j → l[i]? = some s → l[j]? = some s → False) : l.Nodup := by
  refine List.pairwise_iff_getElem.mpr fun i j hi hj hij e => ?_
  exact h i j l[i] hij (List.getElem?_eq_getElem hi) (by rw [List.getElem?_eq_getElem hj, e])
/-- the loop's names so far -/
structure NmSo (front st sh : Int) (k : Nat) (nms : List Str) : Prop where
  len : nms.length = k
  at_ : ∀ i < k, ∃ s, nms[i]? = some s ∧ Good s ∧ ∃ c : Nat, (c : Int) = 97 + ((i : Int) * st + sh) % 26 ∧ Mk front s c
theorem NmSo.snoc {front st sh : Int} {k : Nat} {nms : List Str} (h : NmSo front st sh k nms) {s : Str} (g : Good s) {c : Nat} (hc : (c : Int) = 97 + ((k : Int) * st + sh) % 26) (m : Mk front s c) : NmSo front st sh (k + 1) (nms ++ [s]) := by
  refine ⟨by simp [h.len], fun i hi => ?_⟩
  by_cases e : i < k
  · obtain ⟨s', h1, h2⟩ := h.at_ i e
    exact ⟨s', by rw [List.getElem?_append_left (by rw [h.len]; exact e)]; exact h1, h2⟩
  · have e : i = k := by omega
    subst e
    exact ⟨s, by rw [← h.len]; simp, g, c, hc, m⟩
theorem NmSo.nd {front st sh : Int} {nms : List Str} (h : NmSo front st sh 26 nms) (hs : st ∈ strides) : nms.Nodup := by
  refine nodup_of fun i j s hij h1s h2s => ?_
  have hj : j < 26 := by rw [← h.len]; exact (List.getElem?_eq_some_iff.mp h2s).1
  have e := h1s.trans h2s.symm
  obtain ⟨s, h1, _, c, hc, m⟩ := h.at_ i (by omega)
  obtain ⟨s', h1', _, c', hc', m'⟩ := h.at_ j hj
  rw [h1, h1'] at e
  cases e
  have := m.inj m'
  have := strides_inj (sh := sh) hs (i := i) (j := j) (by omega) hj (by omega)
  omega
theorem NmSo.good {front st sh : Int} {k : Nat} {nms : List Str} (h : NmSo front st sh k nms) : ∀ s ∈ nms, Good s := fun s hs => by
  obtain ⟨i, hi, e⟩ := List.mem_iff_getElem.mp hs
  obtain ⟨s', h1, g, _⟩ := h.at_ i (by rw [← h.len]; exact hi)
  rw [List.getElem?_eq_getElem hi, e] at h1
  cases h1
  exact g
theorem names_end {front st sh : Int} {nms : List Str} (h : NmSo front st sh 26 nms) (hs : st ∈ strides) : NmOk (nms ++ ((List.range 52).map more1).filter fun s => !decide (s ∈ nms)) := by
  refine ⟨fun s hs => ?_, ?_, ?_, ?_⟩
  · rcases List.mem_append.mp hs with q | q
    · exact h.good s q
    · have q := (List.mem_filter.mp q).1
      obtain ⟨i, hi, rfl⟩ := List.mem_map.mp q
      exact more_good i (List.mem_range.mp hi)
  · rw [List.nodup_append]
    refine ⟨h.nd hs, ?_, ?_⟩
    · refine List.Pairwise.filter _ ?_
      refine nodup_of fun i j s hij h1s h2s => ?_
      have hj := (List.getElem?_eq_some_iff.mp h2s).1
      simp at hj
      have e := h1s.trans h2s.symm
      rw [List.getElem?_map, List.getElem?_map, List.getElem?_range (by omega), List.getElem?_range hj] at e
      have := more_inj i (by omega) j hj (by simpa using e)
      omega
    · intro a ha b hb e
      subst e
      have := (List.mem_filter.mp hb).2
      simp [ha] at this
  · rw [List.length_append, h.len]; omega
  · have : (((List.range 52).map more1).filter fun s => !decide (s ∈ nms)).length ≤ 52 := Nat.le_trans (List.length_filter_le _ _) (by simp)
    rw [List.length_append, h.len]; omega
theorem name_ok {front st sh rest : Int} {k : Nat} (hc0 : 0 ≤ ((k : Int) * st + sh) % 26) (hc1 : ((k : Int) * st + sh) % 26 < 26) {a m : Int} (ha0 : 0 ≤ a) (ha1 : a < 26) (hm0 : 0 ≤ m) (hm1 : m < 8) (tail : Str)
    (ht : tail = cutS (cutS (("abcdefghijklmnopqrstuvwxyz" : Str) ++ ("abcdefghijklmnopqrstuvwxyz" : Str)) (some a) none) none (some m)) (mark : Str) (c : Nat) (hc : (c : Int) = 97 + ((k : Int) * st + sh) % 26) (hmk : mark = ⟨#[c]⟩) :
    Good (mark ++ tail) ∧ Good (tail ++ mark) ∧ (tl (mark ++ tail)).head? = some c ∧ (tl (tail ++ mark)).getLast? = some c := by
  have hl : tail.length ≤ 7 := by
    rw [ht, tl_len, tl_cut, List.length_take]
    have : HT.sIx (cutS (("abcdefghijklmnopqrstuvwxyz" : Str) ++ ("abcdefghijklmnopqrstuvwxyz" : Str)) (some a) none).length (cutS (("abcdefghijklmnopqrstuvwxyz" : Str) ++ ("abcdefghijklmnopqrstuvwxyz" : Str)) (some a) none).length (some m) ≤ m.toNat := by
      show (if m < 0 then _ else _) ≤ _
      rw [if_neg (by omega)]
      exact Nat.min_le_left _ _
    omega
  have hlow : Low tail := by
    rw [ht]
    exact Low.cut (Low.cut (Low.app letters_low letters_low))
  have mlow : Low mark := by
    rw [hmk]
    intro d hd
    have : d = c := by simpa [tl] using hd
    omega
  have ml : mark.length = 1 := by rw [hmk]; rfl
  refine ⟨⟨by rw [app_len]; omega, by rw [app_len]; omega, mlow.app hlow⟩, ⟨by rw [app_len]; omega, by rw [app_len]; omega, hlow.app mlow⟩, ?_, ?_⟩
  · rw [tl_app, hmk]; rfl
  · rw [tl_app, hmk, tl_one]; simp
def t_names (K : PySem.W.Frag) : TS := (tSeq (tAsg (tC (.str "abcdefghijklmnopqrstuvwxyz")) (gName 1))
  (tSeq (tAsg (tCB rAbs (tCons (tCB (rSum K) (tCons (tLc (iList K (tVar 0)) (gName 12) tYes (tCB rInt1 (tCons (tVar 12) tNil)) [12]) tNil)) tNil)) (gName 2))
  (tCut (tIfS (tAnd (tTest (tOp rLtI (tC (.int 0)) (tVar 2))) (tTest (tOp rLtI (tVar 2) (tOp rPowI (tC (.int 10)) (tC (.int 18)))))) (tAsg (tOp rPowI (tOp rAddI (tVar 2) (tC (.int 12345677))) (tC (.int 9))) (gName 2))
  tNext)
  (tSeq (tAsg (tOp (rIxL K) (tLst (tCons (tC (.int 1)) (tCons (tC (.int 3)) (tCons (tC (.int 5)) (tCons (tC (.int 7)) (tCons (tC (.int 9)) (tCons (tC (.int 11)) (tCons (tC (.int 15)) (tCons (tC (.int 17)) (tCons (tC (.int 19)) (tCons (tC (.int 21)) (tCons (tC (.int 23)) (tCons (tC (.int 25)) tNil))))))))))))) (tOp rModI (tCB rInt1 (tCons (tVar 2) tNil)) (tC (.int 12)))) (gName 3))
  (tSeq (tAsg (tOp rModI (tCB rInt1 (tCons (tOp rDivI (tVar 2) (tC (.int 12))) tNil)) (tC (.int 26))) (gName 4))
  (tSeq (tAsg (tOp rModI (tCB rInt1 (tCons (tOp rDivI (tVar 2) (tC (.int 312))) tNil)) (tC (.int 2))) (gName 5))
  (tSeq (tAsg (tOp rDivI (tVar 2) (tC (.int 624))) (gName 2))
  (tSeq (tAsg (tLst tNil) (gName 6))
  (tSeq (tFor (iRng1 (tCons (tC (.int 26)) tNil)) (gName 7)
  (tSeq (tAsg (tOp rIxS (tVar 1) (tOp rModI (tCB rInt1 (tCons (tOp rAddI (tOp rMulI (tVar 7) (tVar 3)) (tVar 4)) tNil)) (tC (.int 26)))) (gName 8))
  (tSeq (tAsg (tSl rSlS (tSl rSlS (tOp rAddS_ (tVar 1) (tVar 1)) (tPart (tOp rModI (tCB rInt1 (tCons (tVar 2) tNil)) (tC (.int 26)))) tNoPart) tNoPart (tPart (tOp rModI (tCB rInt1 (tCons (tOp rDivI (tVar 2) (tC (.int 26))) tNil)) (tC (.int 8))))) (gName 9))
  (tSeq (tDrop (tBM K "list" rAppend (tVar 6) (tCons (tOp (rIxL K) (tLst (tCons (tOp rAddS_ (tVar 8) (tVar 9)) (tCons (tOp rAddS_ (tVar 9) (tVar 8)) tNil))) (tVar 5)) tNil)))
  (tAsg (tOp rDivI (tVar 2) (tC (.int 208))) (gName 2))))))
  (tSeq (tAsg (tLc (iRng1 (tCons (tC (.int 52)) tNil)) (gName 7) tYes (tOp rAddS_ (tOp rIxS (tVar 1) (tOp rModI (tCB rInt1 (tCons (tVar 7) tNil)) (tC (.int 26)))) (tOp rIxS (tVar 1) (tOp rModI (tCB rInt1 (tCons (tOp rAddI (tOp rAddI (tOp rMulI (tVar 7) (tC (.int 7))) (tOp rDivI (tVar 7) (tC (.int 26)))) (tC (.int 3))) tNil)) (tC (.int 26))))) [7]) (gName 10))
  (tRet (tOp rCat (tVar 6) (tLc (iList K (tVar 10)) (gName 11) (tTest (tOp (rIn K true) (tVar 11) (tVar 6))) (tVar 11) [11])))))))))))))
abbrev N_names : List Str := ["_law_cells", "_law_letters", "_law_rest", "_law_stride", "_law_shift", "_law_front", "_law_names_here", "_law_k", "_law_mark", "_law_tail", "_law_more", "_law_name", "_law_cell"]
def sp_names (K : PySem.W.Frag) : Sp := fun vs H Q _ => ∃ (a : Addr) (ns : List Int), vs = [.ref a] ∧ SqL K H a (ns.map V.int) ∧ ns.length ≤ 63 ∧ ∀ (r : Addr) (H' : Hp) (nms : List Str), H r = none → Ext H H' → H' r = some (.lst (nms.map V.str)) → NmOk nms → Q (.ref r) H'
theorem len_names {K : PySem.W.Frag} {vs : List V} {H : Hp} {Q : VK} {E : XK} (h : sp_names K vs H Q E) : vs.length = 1 := by obtain ⟨_, _, rfl, _⟩ := h; rfl
theorem rd_names {K : PySem.W.Frag} {vs : List V} {H : Hp} {Q : VK} {E : XK} (h : sp_names K vs H Q E) : t_names K { nx := fun _ H' => Q .non H', rt := Q } (start N_names vs) H := by
  obtain ⟨a, ns, rfl, hS, h63, k⟩ := h
  unfold t_names
  walk_at "go"
  refine g_lcL (S := []) hS (fun _ z => nomatch z) (fun i acc _ => acc = (ns.take i).map V.int) (fun _ _ _ _ _ _ _ q => q) (fun _ _ => rfl) (fun _ _ _ c _ => c.same.seq hS) (fun i acc _ e => bigl (by rw [e]; simp; omega)) (fun i x hi acc H' Yes No c e yes no => ?_) (fun q acc H1 hq c1 h1 e => ?_)
  · obtain ⟨n, hn, rfl⟩ : ∃ n, ns[i]? = some n ∧ V.int n = x := by
      rw [List.getElem?_map] at hi
      cases e : ns[i]? with
      | none => rw [e] at hi; cases hi
      | some n => rw [e] at hi; exact ⟨n, rfl, Option.some.inj hi⟩
    walk_at "go"
    refine yes _ _ (Chg.refl _) ?_
    show acc ++ [V.int n] = (ns.take (i + 1)).map V.int
    have e : acc = (ns.take i).map V.int := e
    rw [e, List.take_add_one, hn]
    simp
  have e : acc = (ns.take (ns.map V.int).length).map V.int := e
  rw [List.length_map, List.take_length] at e
  walk_at "go"
  refine ⟨q, ns, rfl, .inl (.inl (by rw [h1, e])), ?_⟩
  walk_at "go"
  generalize (if ns.sum < 0 then -ns.sum else ns.sum) = rest0
  refine g_cut (M := fun σ H' => ∃ rest, σ = [some (.ref a), some (.str "abcdefghijklmnopqrstuvwxyz"), some (.int rest), none, none, none, none, none, none, none, none, none, none] ∧ Ext H H') ?_ ?_
  · walk_at "go"
    refine g_2 (fun b1 => ?_) (fun _ => ?_)
    · walk_at "go"
      refine g_2 (fun b2 => ?_) (fun _ => ?_)
      · have b1 := of_decide_eq_true b1
        have b2 : rest0 < 10 ^ 18 := of_decide_eq_true b2
        walk_at "go"
        exact ⟨_, rfl, c1⟩
      · walk_at "go"
        exact ⟨_, rfl, c1⟩
    · walk_at "go"
      exact ⟨_, rfl, c1⟩
  rintro σ H2 ⟨rest, rfl, c2⟩
  walk_at "go"
  refine g_newL (by decide) fun p H3 hp c3 h3 => ?_
  walk_at "go"
  obtain ⟨st, hst, hat⟩ := stride_at (Int.emod_nonneg rest (b := 12) (by decide)) (Int.emod_lt_of_pos rest (b := 12) (by decide))
  refine g_ixL h3 hat ?_
  walk_at "go"
  have hsh0 := Int.emod_nonneg (rest / 12) (b := 26) (by decide)
  have hsh1 := Int.emod_lt_of_pos (rest / 12) (b := 26) (by decide)
  have hfr0 := Int.emod_nonneg (rest / 312) (b := 2) (by decide)
  have hfr1 := Int.emod_lt_of_pos (rest / 312) (b := 2) (by decide)
  generalize rest / 12 % 26 = sh at *
  generalize rest / 312 % 2 = front at *
  generalize rest / 624 = rest1
  refine g_newL (by decide) fun r H4 hr4 c4 h4 => ?_
  have hr : H r = none := (c2.trans c3).free hr4
  have hsb := strides_bd hst
  walk_at "go"
  refine g_forR (by decide) (fun i σ H' => ∃ (nms : List Str) (rest : Int) (o7 o8 o9 : Option V), σ = [some (.ref a), some (.str "abcdefghijklmnopqrstuvwxyz"), some (.int rest), some (.int st), some (.int sh), some (.int front), some (.ref r), o7, o8, o9, none, none, none] ∧ Ext H H' ∧ H' r = some (.lst (nms.map V.str)) ∧ NmSo front st sh i nms)
    ⟨[], rest1, none, none, none, rfl, c2.trans (c3.trans c4), h4, rfl, fun i hi => absurd hi (Nat.not_lt_zero i)⟩ ?_ ?_
  · rintro i σ H' hi ⟨nms, rest, o7, o8, o9, rfl, c, hd, so⟩
    walk_at "go"
    have hc0 := Int.emod_nonneg ((i : Int) * st + sh) (b := 26) (by decide)
    have hc1 := Int.emod_lt_of_pos ((i : Int) * st + sh) (b := 26) (by decide)
    have hat2 : atI ("abcdefghijklmnopqrstuvwxyz" : Str).cps.toList (((i : Int) * st + sh) % 26) = some (97 + (((i : Int) * st + sh) % 26).toNat) := by
      have := letter_at (k := (((i : Int) * st + sh) % 26).toNat) (by omega)
      rw [Int.toNat_of_nonneg hc0] at this
      exact this
    refine g_ixS (by decide +kernel) hat2 ?_
    walk_at "go"
    refine g_addS (by decide +kernel) ?_
    walk_at "go"
    refine ⟨_, rfl, by decide +kernel, ?_⟩
    walk_at "go"
    refine ⟨_, rfl, Nat.le_trans (cutS_length _ _ _) (by decide +kernel), ?_⟩
    walk_at "go"
    obtain ⟨g1, g2, m1, m2⟩ := name_ok (front := front) (rest := rest) (k := i) hc0 hc1 (Int.emod_nonneg rest (b := 26) (by decide)) (Int.emod_lt_of_pos rest (b := 26) (by decide)) (Int.emod_nonneg (rest / 26) (b := 8) (by decide)) (Int.emod_lt_of_pos (rest / 26) (b := 8) (by decide)) _ rfl _ (97 + (((i : Int) * st + sh) % 26).toNat) (by omega) rfl
    generalize hta : cutS (cutS (("abcdefghijklmnopqrstuvwxyz" : Str) ++ ("abcdefghijklmnopqrstuvwxyz" : Str)) (some (rest % 26)) none) none (some (rest / 26 % 8)) = tail at *
    generalize hma : (⟨#[97 + (((i : Int) * st + sh) % 26).toNat]⟩ : Str) = mark at *
    have l1 := g1.most
    have l2 := g2.most
    rw [app_len] at l1 l2
    refine g_addS (big (by omega)) ?_
    walk_at "go"
    refine g_addS (big (by omega)) ?_
    walk_at "go"
    refine g_newL (big (by simp)) fun p H5 hp5 c5 h5 => ?_
    walk_at "go"
    have hd5 := c5.at hd
    have nl := so.len
    by_cases ef : front = 0
    · subst ef
      refine g_ixL h5 (v := .str (mark ++ tail)) rfl ?_
      walk_at "go"
      refine g_append hd5 (bigl (by simp; omega)) ?_
      walk_at "go"
      exact ⟨nms ++ [mark ++ tail], _, _, _, _, rfl, (c.trans c5).own hr _, by rw [upd_same]; simp, so.snoc g1 (by omega) ⟨fun _ => m1, fun z => absurd rfl z⟩⟩
    · have ef1 : front = 1 := by omega
      subst ef1
      refine g_ixL h5 (v := .str (tail ++ mark)) rfl ?_
      walk_at "go"
      refine g_append hd5 (bigl (by simp; omega)) ?_
      walk_at "go"
      exact ⟨nms ++ [tail ++ mark], _, _, _, _, rfl, (c.trans c5).own hr _, by rw [upd_same]; simp, so.snoc g2 (by omega) ⟨fun z => absurd z ef, fun _ => m2⟩⟩
  rintro σ H5 ⟨nms, rest, o7, o8, o9, rfl, c, hd, so⟩
  have so : NmSo front st sh 26 nms := so
  have nl := so.len
  walk_at "go"
  refine g_lcR (S := []) (by decide) (fun _ z => nomatch z) (fun i acc _ => acc = ((List.range i).map more1).map V.str ∧ i ≤ 52) (fun _ _ _ _ _ _ _ q => q) (fun _ _ => ⟨rfl, by decide⟩) (fun i acc _ e => bigl (by rw [e.1]; simp; omega)) (fun i hi acc H' Yes No c e yes no => ?_) (fun q6 acc H6 hq6 c6 h6 e => ?_)
  · walk_at "go"
    have e1 : (i : Int) % 26 = ((i % 26 : Nat) : Int) := by omega
    have e2 : ((i : Int) * 7 + (i : Int) / 26 + 3) % 26 = (((i * 7 + i / 26 + 3) % 26 : Nat) : Int) := by omega
    refine g_ixS (by decide +kernel) (c := 97 + i % 26) (by rw [e1]; exact letter_at (by omega)) ?_
    walk_at "go"
    refine g_ixS (by decide +kernel) (c := 97 + (i * 7 + i / 26 + 3) % 26) (by rw [e2]; exact letter_at (by omega)) ?_
    refine g_addS (by rw [one_len, one_len]; decide) ?_
    refine yes _ _ (Chg.refl _) ⟨?_, by omega⟩
    show acc ++ [_] = ((List.range (i + 1)).map more1).map V.str
    have e := e.1
    rw [e, List.range_succ, List.map_append, List.map_append]
    congr 1
  have e : acc = ((List.range 52).map more1).map V.str := e.1
  walk_at "go"
  have hd6 := c6.at hd
  refine g_lcL (S := []) (xs := ((List.range 52).map more1).map V.str) (.inl (.inl (by rw [h6, e]))) (fun _ z => nomatch z) (fun i acc _ => acc = ((((List.range 52).map more1).take i).filter fun s => !decide (s ∈ nms)).map V.str) (fun _ _ _ _ _ _ _ q => q) (fun _ _ => rfl) (fun _ _ H' c _ => .inl (.inl (by rw [c.at h6, e]))) (fun i acc _ e => bigl (by
      rw [e, List.length_map]
      have := List.length_filter_le (fun s => !decide (s ∈ nms)) (((List.range 52).map more1).take i)
      simp only [List.length_take, List.length_map, List.length_range] at this
      omega)) (fun i x hi acc H' Yes No c e yes no => ?_) (fun q7 acc H7 hq7 c7 h7 e => ?_)
  · obtain ⟨s, hs, rfl⟩ : ∃ s, ((List.range 52).map more1)[i]? = some s ∧ V.str s = x := by
      rw [List.getElem?_map] at hi
      cases e : ((List.range 52).map more1)[i]? with
      | none => rw [e] at hi; cases hi
      | some n => rw [e] at hi; exact ⟨n, rfl, Option.some.inj hi⟩
    walk_at "go"
    refine ⟨r, nms.map V.str, rfl, .inl (.inl (.inl (c.at hd6))), rfl, flat_strs, ?_⟩
    walk_at "go"
    rw [if_pos rfl, inV_str]
    have e : acc = ((((List.range 52).map more1).take i).filter fun s => !decide (s ∈ nms)).map V.str := e
    have et : ((List.range 52).map more1).take (i + 1) = ((List.range 52).map more1).take i ++ [s] := by rw [List.take_add_one, hs]; rfl
    by_cases hm : s ∈ nms
    · rw [decide_eq_true hm]
      refine g_fa (no _ (Chg.refl _) ?_)
      show acc = ((((List.range 52).map more1).take (i + 1)).filter fun s => !decide (s ∈ nms)).map V.str
      rw [e, et, List.filter_append]
      simp [hm]
    · rw [decide_eq_false hm]
      refine g_tr ?_
      walk_at "go"
      refine yes _ _ (Chg.refl _) ?_
      show acc ++ [_] = ((((List.range 52).map more1).take (i + 1)).filter fun s => !decide (s ∈ nms)).map V.str
      rw [e, et, List.filter_append]
      simp [hm]
  have hd7 := c7.at hd6
  have el : (((List.range 52).map more1).map V.str).length = 52 := by simp
  have e : acc = ((((List.range 52).map more1).take (((List.range 52).map more1).map V.str).length).filter fun s => !decide (s ∈ nms)).map V.str := e
  rw [el, List.take_of_length_le (by simp)] at e
  have hk := names_end so hst
  refine g_cat hd7 h7 (big (by
    have := hk.most
    rw [List.length_append] at this
    rw [e, List.length_map, List.length_map]
    omega)) fun q8 H8 hq8 c8 h8 => ?_
  refine k q8 H8 _ ((c.trans (c6.trans c7)).free hq8) (c.trans (c6.trans (c7.trans c8))) ?_ hk
  rw [h8, e, List.map_append]
end My

namespace My
open PySem PySem.Spec PyProof.Rows L2
local macro_rules | `(tactic| walk_at "g1") => `(tactic| first
  | with_reducible refine My.g_seq ?_
  | with_reducible refine My.g_asg ?_
  | with_reducible refine My.g_name ?_
  | ((with_reducible refine' My.g_var ?ga ?gb); (case ga => rfl))
  | with_reducible refine My.g_c ?_
  | with_reducible refine My.g_op ?_
  | with_reducible refine My.g_cb ?_
  | with_reducible refine My.g_cons ?_
  | with_reducible refine My.g_nil ?_
  | with_reducible refine My.g_ifS ?_
  | with_reducible refine My.g_ret ?_
  | with_reducible refine My.g_drop ?_
  | with_reducible refine My.g_test ?_
  | with_reducible refine My.g_B ?_
  | with_reducible refine My.g_bl ?_
  | with_reducible refine My.g_int1 ?_
  | with_reducible refine My.g_rI0 ?_
  | ((with_reducible refine My.g_rI ?ga ?gb); (case ga => first | decide | (unfold CMul; omega) | (unfold CDiv; omega) | (unfold CPow; decide) | (unfold CPow; omega) | omega))
  | with_reducible refine My.g_eqI ?_
  | with_reducible refine My.g_neI ?_
  | with_reducible refine My.g_eqS ?_
  | with_reducible refine My.g_neS ?_
  | with_reducible refine My.g_neB ?_
  | with_reducible refine My.g_tr ?_
  | with_reducible refine My.g_fa ?_
  | with_reducible refine My.g_ntr ?_
  | with_reducible refine My.g_nfa ?_
  | with_reducible refine My.g_next ?_
  | with_reducible refine My.g_bm ?_
  | with_reducible refine My.g_bm0 ?_
  | ((with_reducible refine' My.g_tyL ?ga ?gb); (case ga => assumption))
  | with_reducible refine My.g_not ?_
  | with_reducible refine My.g_and ?_
  | with_reducible refine My.g_or ?_
  | with_reducible refine My.g_andV ?_
  | with_reducible refine My.g_orV ?_
  | with_reducible refine My.g_notV ?_
  | with_reducible refine My.g_ifE ?_
  | with_reducible refine My.g_chain ?_
  | with_reducible refine My.g_un ?_
  | with_reducible refine My.g_rU ?_
  | with_reducible refine My.g_sl ?_
  | with_reducible refine My.g_part ?_
  | with_reducible refine My.g_nopart ?_
  | with_reducible refine My.g_exI ?_
  | with_reducible refine My.g_abs ?_
  | with_reducible refine My.g_int1b ?_
  | with_reducible refine My.g_tupT ?_
  | with_reducible refine My.g_lstT ?_
  | with_reducible refine My.g_yes ?_
  | with_reducible refine My.g_joined ?_
  | with_reducible refine My.g_jc ?_
  | with_reducible refine My.g_jn ?_
  | with_reducible refine My.g_fmt ?_
  | with_reducible refine My.g_m1 ?_
  | with_reducible refine My.g_m1s ?_
  | with_reducible refine My.g_for ?_
  | with_reducible refine My.g_lc ?_
  | with_reducible refine My.g_iL ?_
  | with_reducible refine My.g_iT ?_
  | with_reducible refine My.g_iR ?_
  | with_reducible refine My.g_iR2 ?_
  | with_reducible refine My.g_call ?_
  | with_reducible refine My.g_isN ?_
  | with_reducible refine My.g_notN ?_
  | with_reducible refine My.g_retN ?_
  | with_reducible refine My.g_iS ?_
  | with_reducible refine My.g_dget ?_
  | with_reducible refine My.g_dget2 ?_
  | with_reducible refine My.g_din ?_
  | with_reducible refine My.g_dnin ?_
  | with_reducible refine My.g_dput ?_
  | with_reducible refine My.g_star ?_
  | with_reducible refine My.g_rev2 ?_
  | ((with_reducible refine' My.g_lenL ?ga ?gb); (case ga => assumption))
  | ((with_reducible refine' My.g_lenT ?ga ?gb); (case ga => assumption)))
local macro_rules | `(tactic| walk_at "go") => `(tactic| repeat walk_at "g1")

/-! ### forms -/
inductive Fm where
  | hole (n : Int) | node (s : Str) (ps : List Fm)
mutual
def Fm.d : Fm → D
  | .hole n => .int n
  | .node s ps => .tup (.str s :: Fm.ds ps)
def Fm.ds : List Fm → List D
  | [] => []
  | p :: ps => p.d :: Fm.ds ps
end
mutual
def Fm.size : Fm → Nat
  | .hole _ => 1
  | .node _ ps => 1 + Fm.sizes ps
def Fm.sizes : List Fm → Nat
  | [] => 0
  | p :: ps => p.size + Fm.sizes ps
end
mutual
def Fm.depth : Fm → Nat
  | .hole _ => 1
  | .node _ ps => 1 + Fm.depths ps
def Fm.depths : List Fm → Nat
  | [] => 0
  | p :: ps => max p.depth (Fm.depths ps)
end
mutual
def Fm.ok : Fm → Prop
  | .hole n => 0 ≤ n ∧ n ≤ 99
  | .node s ps => Good s ∧ Fm.oks ps
def Fm.oks : List Fm → Prop
  | [] => True
  | p :: ps => p.ok ∧ Fm.oks ps
end
def Fm.isHole : Fm → Bool
  | .hole _ => true
  | .node _ _ => false
theorem Fm.ds_append : ∀ (ps qs : List Fm), Fm.ds (ps ++ qs) = Fm.ds ps ++ Fm.ds qs
  | [], qs => rfl
  | p :: ps, qs => by simp only [List.cons_append, Fm.ds, Fm.ds_append ps qs]
theorem Fm.sizes_append : ∀ (ps qs : List Fm), Fm.sizes (ps ++ qs) = Fm.sizes ps + Fm.sizes qs
  | [], qs => by simp [Fm.sizes]
  | p :: ps, qs => by simp only [List.cons_append, Fm.sizes, Fm.sizes_append ps qs]; omega
theorem Fm.depths_append : ∀ (ps qs : List Fm), Fm.depths (ps ++ qs) = max (Fm.depths ps) (Fm.depths qs)
  | [], qs => by simp [Fm.depths]
  | p :: ps, qs => by simp only [List.cons_append, Fm.depths, Fm.depths_append ps qs]; omega
theorem Fm.oks_append : ∀ (ps qs : List Fm), Fm.oks (ps ++ qs) ↔ Fm.oks ps ∧ Fm.oks qs
  | [], qs => by simp [Fm.oks]
  | p :: ps, qs => by simp only [List.cons_append, Fm.oks, Fm.oks_append ps qs, and_assoc]
theorem Fm.ds_length : ∀ ps : List Fm, (Fm.ds ps).length = ps.length
  | [] => rfl
  | p :: ps => by simp only [Fm.ds, List.length_cons, Fm.ds_length ps]
theorem Fm.ds_get : ∀ (ps : List Fm) (i : Nat), (Fm.ds ps)[i]? = ps[i]?.map Fm.d
  | [], i => by simp [Fm.ds]
  | p :: ps, 0 => by simp [Fm.ds]
  | p :: ps, i + 1 => by simp only [Fm.ds, List.getElem?_cons_succ, Fm.ds_get ps i]
theorem Fm.depth_mem : ∀ {ps : List Fm} {p : Fm}, p ∈ ps → p.depth ≤ Fm.depths ps
  | q :: ps, p, h => by
    simp only [Fm.depths]
    rcases List.mem_cons.mp h with rfl | h
    · omega
    · have := Fm.depth_mem h; omega
theorem Fm.size_pos (f : Fm) : 1 ≤ f.size := by cases f <;> simp only [Fm.size] <;> omega
theorem Fm.depth_pos (f : Fm) : 1 ≤ f.depth := by cases f <;> simp only [Fm.depth] <;> omega
theorem Fm.ok_mem : ∀ {ps : List Fm} {p : Fm}, Fm.oks ps → p ∈ ps → p.ok
  | q :: ps, p, h, hm => by
    simp only [Fm.oks] at h
    rcases List.mem_cons.mp hm with rfl | hm
    · exact h.1
    · exact Fm.ok_mem h.2 hm
theorem Fm.len_sizes : ∀ ps : List Fm, ps.length ≤ Fm.sizes ps
  | [] => Nat.zero_le _
  | p :: ps => by
    have := p.size_pos
    have := Fm.len_sizes ps
    simp only [Fm.sizes, List.length_cons]
    omega
section
variable {K : PySem.W.Frag} {H H' : Hp} {Q : VK} {v : V} {S : List Addr}
abbrev IsF (H : Hp) (f : Fm) (v : V) : Prop := Is H f.d v
abbrev IsFs (H : Hp) (ps : List Fm) (vs : List V) : Prop := IsL H (Fm.ds ps) vs
theorem IsF.hole {n : Int} : IsF H (.hole n) v ↔ v = .int n := by unfold IsF; simp only [Fm.d]; exact Is.int_iff
theorem IsF.node {s : Str} {ps : List Fm} : IsF H (.node s ps) v ↔ ∃ a vs, v = .ref a ∧ H a = some (.tup (.str s :: vs)) ∧ IsFs H ps vs := by
  unfold IsF
  simp only [Fm.d]
  rw [Is.tup_iff]
  constructor
  · rintro ⟨a, vs, rfl, h1, h2⟩
    obtain ⟨x, xs, rfl, h3, h4⟩ := IsL.cons_iff.mp h2
    rw [Is.str_iff.mp h3] at h1
    exact ⟨a, xs, rfl, h1, h4⟩
  · rintro ⟨a, vs, rfl, h1, h2⟩
    exact ⟨a, _, rfl, h1, IsL.cons Is.str h2⟩
theorem IsFs.snoc {ps : List Fm} {vs : List V} {f : Fm} (h : IsFs H ps vs) (k : IsF H f v) : IsFs H (ps ++ [f]) (vs ++ [v]) := by
  unfold IsFs
  rw [Fm.ds_append]
  exact IsL.append h (by simp only [Fm.ds]; exact IsL.one k)
theorem IsFs.get {ps : List Fm} {vs : List V} {i : Nat} (h : IsFs H ps vs) (e : vs[i]? = some v) : ∃ f, ps[i]? = some f ∧ IsF H f v := by
  obtain ⟨d, h1, h2⟩ := IsL.get h e
  rw [Fm.ds_get] at h1
  cases q : ps[i]? with
  | none => rw [q] at h1; cases h1
  | some f =>
    rw [q] at h1
    have e : f.d = d := Option.some.inj h1
    subst e
    exact ⟨f, rfl, h2⟩
theorem IsFs.get' {ps : List Fm} {vs : List V} {i : Nat} {f : Fm} (h : IsFs H ps vs) (e : ps[i]? = some f) : ∃ v, vs[i]? = some v ∧ IsF H f v := by
  refine IsL.get' h ?_
  rw [Fm.ds_get, e]
  rfl
theorem IsFs.length {ps : List Fm} {vs : List V} (h : IsFs H ps vs) : vs.length = ps.length := by rw [IsL.length h, Fm.ds_length]
theorem kit_int_int : PySem.W.kitOne K (.type "int") (.type "int") = some true := kit_ty (by decide +kernel)
theorem kit_tup_int : PySem.W.kitOne K (.type "tuple") (.type "int") = some false := kit_ty (by decide +kernel)
theorem kit_int_bool : PySem.W.kitOne K (.type "int") (.type "bool") = some false := kit_ty (by decide +kernel)
/-- isinstance(form, int) -/
theorem g_isiF {f : Fm} (h : IsF H f v) (k : Q (.bl f.isHole) H) : rIsi K [v, .ty "int"] H Q := by
  cases f with
  | hole n =>
    obtain rfl := IsF.hole.mp h
    exact ⟨_, _, _, _, true, rfl, .ty "int", .base (.int n), kit_int_int, k⟩
  | node s ps =>
    obtain ⟨a, vs, rfl, h1, _⟩ := IsF.node.mp h
    exact ⟨_, _, _, _, false, rfl, .ty "int", .base (.tup h1), kit_tup_int, k⟩
theorem g_isiI {n : Int} (k : Q (.bl true) H) : rIsi K [.int n, .ty "int"] H Q := ⟨_, _, _, _, true, rfl, .ty "int", .base (.int n), kit_int_int, k⟩
theorem g_isiIb {n : Int} (k : Q (.bl false) H) : rIsi K [.int n, .ty "bool"] H Q := ⟨_, _, _, _, false, rfl, .ty "bool", .base (.int n), kit_int_bool, k⟩
/-- form[1:] -/
theorem g_parts {s : Str} {ps : List Fm} (h : IsF H (.node s ps) v) (k : ∀ p H' vs, H p = none → Ext H H' → H' p = some (.tup vs) → IsFs H' ps vs → Q (.ref p) H') : rSlT K v (some 1) none H Q := by
  obtain ⟨a, vs, rfl, h1, h2⟩ := IsF.node.mp h
  refine ⟨a, _, rfl, .inl (.inl h1), ?_, g_new fun p H' hp c hx => k p H' vs hp c ?_ (h2.up c)⟩
  · rintro ⟨z, _⟩
    simp [HT.sIx] at z
  · rw [hx]
    simp [cutV, HT.sIx]
end
/-! ### what draws give -/
section
variable {K : PySem.W.Frag} {H H' : Hp} {Q : VK} {E : XK} {d : Addr}
theorem g_take {m : Int} (hd : Dr H d) (hm : 0 < m) (k : ∀ (v : Int) (H' : Hp), 0 ≤ v → v < m → Chg [d] H H' → Dr H' d → Q (.int v) H') : sp_take K ([.ref d, .int m] ++ []) H Q E := ⟨d, m, rfl, hd, hm, k⟩
theorem nm_at {nms : List Str} (ok : NmOk nms) {i : Int} (h0 : 0 ≤ i) (h1 : i < 26) : ∃ s, s ∈ nms ∧ atI (nms.map V.str) i = some (.str s) := by
  obtain ⟨k, rfl⟩ : ∃ k : Nat, i = (k : Int) := ⟨i.toNat, by omega⟩
  have hk : k < nms.length := by have := ok.least; omega
  exact ⟨nms[k], List.getElem_mem hk, atI_nat (by rw [List.getElem?_map, List.getElem?_eq_getElem hk]; rfl)⟩
theorem Dr.ne {l : Addr} {xs : List V} {s : Str} (h : Dr H d) (k : H l = some (.lst (.str s :: xs))) : l ≠ d := fun e => by
  obtain ⟨ds, h1, _⟩ := h
  rw [e, h1] at k
  cases ds <;> simp at k
theorem Dr.nn (h : Dr H d) : H d ≠ none := fun e => by
  obtain ⟨ds, h1, _⟩ := h
  rw [h1] at e
  cases e
theorem Dr.keep (h : Dr H d) (c : Chg [] H H') : Dr H' d := by
  obtain ⟨ds, h1, h2⟩ := h
  exact ⟨ds, c.at h1, h2⟩
/-- the names' list, apart from the draws -/
structure Nms (H : Hp) (d r : Addr) (nms : List Str) : Prop where
  at_ : H r = some (.lst (nms.map V.str))
  ok : NmOk nms
  ne : r ∉ [d]
theorem Nms.keep {r : Addr} {nms : List Str} (h : Nms H d r nms) (c : Chg [d] H H') : Nms H' d r nms := ⟨c.ob _ _ h.ne h.at_, h.ok, h.ne⟩
theorem Nms.keep0 {r : Addr} {nms : List Str} (h : Nms H d r nms) (c : Chg [] H H') : Nms H' d r nms := ⟨c.at h.at_, h.ok, h.ne⟩
end
/-- a list of one's own grows -/
theorem g_appD {Q : VK} {H0 H' : Hp} {d l : Addr} {ws : List V} {v : V} (hl : H0 l = none) (ld : l ∉ [d]) (c : Chg [d] H0 H') (hd : Dr H' d) (hx : H' l = some (.lst ws)) (hz : ws.length < 100000)
    (k : ∀ H2, Chg [d] H0 H2 → Dr H2 d → H2 l = some (.lst (ws ++ [v])) → Chg [l] H' H2 → Q .non H2) : rAppend (.ref l) [v] H' Q := by
  refine g_append hx (bigl hz) (k _ (c.own hl _) ?_ upd_same ((Chg.refl _).set (List.mem_singleton.mpr rfl) hx (by intro xs z; cases z) _))
  obtain ⟨ds, h1, h2⟩ := hd
  exact ⟨ds, by rw [upd_ne (fun z => ld (List.mem_singleton.mpr z.symm))]; exact h1, h2⟩
theorem Dr.off {H : Hp} {d l : Addr} (h : Dr H d) (hl : H l = none) : l ∉ [d] := by
  intro z
  rw [List.mem_singleton.mp z] at hl
  exact h.nn hl
/-- one of five holes -/
theorem five_at {v i : Int} (hv : 0 ≤ v ∧ v ≤ 99) (h0 : 0 ≤ i) (h1 : i < 5) : ∃ x : Int, atI ([.int v, .int 0, .int 9, .int 10, .int 99] : List V) i = some (.int x) ∧ 0 ≤ x ∧ x ≤ 99 := by
  have h : i = 0 ∨ i = 1 ∨ i = 2 ∨ i = 3 ∨ i = 4 := by omega
  rcases h with rfl | rfl | rfl | rfl | rfl
  · exact ⟨v, rfl, hv.1, hv.2⟩
  · exact ⟨0, rfl, by decide, by decide⟩
  · exact ⟨9, rfl, by decide, by decide⟩
  · exact ⟨10, rfl, by decide, by decide⟩
  · exact ⟨99, rfl, by decide, by decide⟩
/-- a list of holes, apart from the draws -/
structure Hls (H : Hp) (d hs : Addr) (is : List Int) : Prop where
  at_ : H hs = some (.lst (is.map V.int))
  ne : hs ∉ [d]
  rng : ∀ i ∈ is, 0 ≤ i ∧ i ≤ 99
theorem Hls.keep {H H' : Hp} {d hs : Addr} {is : List Int} (h : Hls H d hs is) (c : Chg [d] H H') : Hls H' d hs is := ⟨c.ob _ _ h.ne h.at_, h.ne, h.rng⟩
theorem ints_at {is : List Int} {i : Int} (h0 : 0 ≤ i) (h1 : i < ((is.map V.int).length : Int)) : ∃ x, x ∈ is ∧ atI (is.map V.int) i = some (.int x) := by
  obtain ⟨k, rfl⟩ : ∃ k : Nat, i = (k : Int) := ⟨i.toNat, by omega⟩
  have hk : k < is.length := by simp at h1; omega
  exact ⟨is[k], List.getElem_mem hk, atI_nat (by rw [List.getElem?_map, List.getElem?_eq_getElem hk]; rfl)⟩
theorem Hls.get {H : Hp} {d hs : Addr} {is : List Int} (h : Hls H d hs is) {i : Int} (h0 : 0 ≤ i) (h1 : i < ((is.map V.int).length : Int)) : ∃ x, atI (is.map V.int) i = some (.int x) ∧ 0 ≤ x ∧ x ≤ 99 := by
  obtain ⟨x, hx, e⟩ := ints_at h0 h1
  exact ⟨x, e, (h.rng x hx).1, (h.rng x hx).2⟩
def spLaw (K : PySem.W.Frag) : Sp := fun vs H Q _ => ∃ (a : Addr) (ns : List Int), vs = [.ref a] ∧ SqL K H a (ns.map V.int) ∧ ns.length ≤ 63 ∧ ∀ H', Q (.bl true) H'
theorem len_law {K : PySem.W.Frag} {vs : List V} {H : Hp} {Q : VK} {E : XK} (h : spLaw K vs H Q E) : vs.length = 1 := by obtain ⟨_, _, rfl, _⟩ := h; rfl
theorem cut_head (ns : List Int) : cutV (ns.map V.int) none (some 1) = (ns.take 1).map V.int := by
  simp [cutV, HT.sIx]
theorem cut_tail (ns : List Int) : cutV (ns.map V.int) (some 1) none = (ns.drop 1).map V.int := by
  cases ns with
  | nil => rfl
  | cons n ns =>
    simp [cutV, HT.sIx]
    exact List.take_of_length_le (by simp)
end My

namespace My
open PySem PySem.Spec PyProof.Rows L2
local macro_rules | `(tactic| walk_at "g1") => `(tactic| first
  | with_reducible refine My.g_seq ?_
  | with_reducible refine My.g_asg ?_
  | with_reducible refine My.g_name ?_
  | ((with_reducible refine' My.g_var ?ga ?gb); (case ga => rfl))
  | with_reducible refine My.g_c ?_
  | with_reducible refine My.g_op ?_
  | with_reducible refine My.g_cb ?_
  | with_reducible refine My.g_cons ?_
  | with_reducible refine My.g_nil ?_
  | with_reducible refine My.g_ifS ?_
  | with_reducible refine My.g_ret ?_
  | with_reducible refine My.g_drop ?_
  | with_reducible refine My.g_test ?_
  | with_reducible refine My.g_B ?_
  | with_reducible refine My.g_bl ?_
  | with_reducible refine My.g_int1 ?_
  | with_reducible refine My.g_rI0 ?_
  | ((with_reducible refine My.g_rI ?ga ?gb); (case ga => first | decide | (unfold CMul; omega) | (unfold CDiv; omega) | (unfold CPow; decide) | (unfold CPow; omega) | omega))
  | with_reducible refine My.g_eqI ?_
  | with_reducible refine My.g_neI ?_
  | with_reducible refine My.g_eqS ?_
  | with_reducible refine My.g_neS ?_
  | with_reducible refine My.g_neB ?_
  | with_reducible refine My.g_tr ?_
  | with_reducible refine My.g_fa ?_
  | with_reducible refine My.g_ntr ?_
  | with_reducible refine My.g_nfa ?_
  | with_reducible refine My.g_next ?_
  | with_reducible refine My.g_bm ?_
  | with_reducible refine My.g_bm0 ?_
  | ((with_reducible refine' My.g_tyL ?ga ?gb); (case ga => assumption))
  | with_reducible refine My.g_not ?_
  | with_reducible refine My.g_and ?_
  | with_reducible refine My.g_or ?_
  | with_reducible refine My.g_andV ?_
  | with_reducible refine My.g_orV ?_
  | with_reducible refine My.g_notV ?_
  | with_reducible refine My.g_ifE ?_
  | with_reducible refine My.g_chain ?_
  | with_reducible refine My.g_un ?_
  | with_reducible refine My.g_rU ?_
  | with_reducible refine My.g_sl ?_
  | with_reducible refine My.g_part ?_
  | with_reducible refine My.g_nopart ?_
  | with_reducible refine My.g_exI ?_
  | with_reducible refine My.g_abs ?_
  | with_reducible refine My.g_int1b ?_
  | with_reducible refine My.g_tupT ?_
  | with_reducible refine My.g_lstT ?_
  | with_reducible refine My.g_yes ?_
  | with_reducible refine My.g_joined ?_
  | with_reducible refine My.g_jc ?_
  | with_reducible refine My.g_jn ?_
  | with_reducible refine My.g_fmt ?_
  | with_reducible refine My.g_m1 ?_
  | with_reducible refine My.g_m1s ?_
  | with_reducible refine My.g_for ?_
  | with_reducible refine My.g_lc ?_
  | with_reducible refine My.g_iL ?_
  | with_reducible refine My.g_iT ?_
  | with_reducible refine My.g_iR ?_
  | with_reducible refine My.g_iR2 ?_
  | with_reducible refine My.g_call ?_
  | with_reducible refine My.g_isN ?_
  | with_reducible refine My.g_notN ?_
  | with_reducible refine My.g_retN ?_
  | with_reducible refine My.g_iS ?_
  | with_reducible refine My.g_dget ?_
  | with_reducible refine My.g_dget2 ?_
  | with_reducible refine My.g_din ?_
  | with_reducible refine My.g_dnin ?_
  | with_reducible refine My.g_dput ?_
  | with_reducible refine My.g_star ?_
  | with_reducible refine My.g_rev2 ?_
  | ((with_reducible refine' My.g_lenL ?ga ?gb); (case ga => assumption))
  | ((with_reducible refine' My.g_lenT ?ga ?gb); (case ga => assumption)))
local macro_rules | `(tactic| walk_at "go") => `(tactic| repeat walk_at "g1")

/-! ### the holes of a form -/
mutual
def Fm.flat : Fm → List Int
  | .hole n => [n]
  | .node _ ps => Fm.flats ps
def Fm.flats : List Fm → List Int
  | [] => []
  | p :: ps => p.flat ++ Fm.flats ps
end
/-- what is new of l, behind acc -/
def ded (acc l : List Int) : List Int := l.foldl (fun a x => if x ∈ a then a else a ++ [x]) acc
/-- the holes, each once -/
def Fm.hs (f : Fm) : List Int := ded [] f.flat
theorem Fm.flats_app : ∀ (ps qs : List Fm), Fm.flats (ps ++ qs) = Fm.flats ps ++ Fm.flats qs
  | [], qs => by simp [Fm.flats]
  | p :: ps, qs => by simp only [List.cons_append, Fm.flats, Fm.flats_app ps qs, List.append_assoc]
theorem ded_app (acc l m : List Int) : ded acc (l ++ m) = ded (ded acc l) m := by simp only [ded, List.foldl_append]
theorem ded_cons (acc : List Int) (x : Int) (l : List Int) : ded acc (x :: l) = ded (if x ∈ acc then acc else acc ++ [x]) l := rfl
/-- ded in one stroke -/
theorem ded_split : ∀ (l acc b : List Int), ded (acc ++ b) l = acc ++ (ded b (l.filter fun x => !decide (x ∈ acc)))
  | [], acc, b => rfl
  | x :: l, acc, b => by
    rw [ded_cons]
    by_cases h : x ∈ acc
    · rw [if_pos (List.mem_append_left _ h), ded_split l acc b, List.filter_cons, if_neg (by simp [h])]
    · rw [List.filter_cons, if_pos (show (!decide (x ∈ acc)) = true by simp [h])]
      by_cases h2 : x ∈ b
      · rw [if_pos (List.mem_append_right _ h2), ded_cons, if_pos h2, ded_split l acc b]
      · rw [if_neg (by simp [h, h2]), ded_cons, if_neg h2, List.append_assoc, ded_split l acc (b ++ [x])]
theorem ded_filter (p : Int → Bool) : ∀ (l b : List Int), ded (b.filter p) (l.filter p) = (ded b l).filter p
  | [], b => rfl
  | x :: l, b => by
    rw [ded_cons]
    cases hp : p x with
    | true =>
      rw [List.filter_cons, if_pos hp, ded_cons]
      have e : (if x ∈ b.filter p then b.filter p else b.filter p ++ [x]) = (if x ∈ b then b else b ++ [x]).filter p := by
        by_cases h : x ∈ b
        · rw [if_pos h, if_pos (List.mem_filter.mpr ⟨h, hp⟩)]
        · rw [if_neg h, if_neg (fun z => h (List.mem_filter.mp z).1), List.filter_append]
          simp [hp]
      rw [e]
      exact ded_filter p l _
    | false =>
      rw [List.filter_cons, if_neg (by simp [hp])]
      have e : (if x ∈ b then b else b ++ [x]).filter p = b.filter p := by
        by_cases h : x ∈ b
        · rw [if_pos h]
        · rw [if_neg h, List.filter_append]; simp [hp]
      rw [← ded_filter p l, e]
/-- one part more: the new ones of its holes -/
theorem ded_hs (acc : List Int) (f : Fm) : acc ++ f.hs.filter (fun x => !decide (x ∈ acc)) = ded acc f.flat := by
  have h1 := ded_split f.flat acc []
  rw [List.append_nil] at h1
  rw [h1]
  unfold Fm.hs
  rw [← ded_filter]
  rfl
theorem ded_len : ∀ (l acc : List Int), (ded acc l).length ≤ acc.length + l.length
  | [], acc => Nat.le_refl _
  | x :: l, acc => by
    rw [ded_cons]
    have := ded_len l (if x ∈ acc then acc else acc ++ [x])
    rw [List.length_cons]
    by_cases h : x ∈ acc
    · rw [if_pos h] at this ⊢; omega
    · rw [if_neg h] at this ⊢; simp at this; omega
theorem ded_mem : ∀ (l acc : List Int) (x : Int), x ∈ ded acc l ↔ x ∈ acc ∨ x ∈ l
  | [], acc, x => by simp [ded]
  | y :: l, acc, x => by
    rw [ded_cons, ded_mem l]
    by_cases h : y ∈ acc
    · rw [if_pos h]
      constructor
      · rintro (z | z)
        · exact .inl z
        · exact .inr (List.mem_cons_of_mem _ z)
      · rintro (z | z)
        · exact .inl z
        · rcases List.mem_cons.mp z with rfl | z
          · exact .inl h
          · exact .inr z
    · rw [if_neg h]
      simp only [List.mem_append, List.mem_cons, List.not_mem_nil, or_false]
      constructor
      · rintro ((z | z) | z)
        · exact .inl z
        · exact .inr (.inl z)
        · exact .inr (.inr z)
      · rintro (z | z | z)
        · exact .inl (.inl z)
        · exact .inl (.inr z)
        · exact .inr z
mutual
theorem Fm.flat_len : ∀ f : Fm, f.flat.length ≤ f.size
  | .hole _ => by simp [Fm.flat, Fm.size]
  | .node _ ps => by
    have := Fm.flats_len ps
    simp only [Fm.flat, Fm.size]; omega
theorem Fm.flats_len : ∀ ps : List Fm, (Fm.flats ps).length ≤ Fm.sizes ps
  | [] => by simp [Fm.flats]
  | p :: ps => by
    have := Fm.flat_len p
    have := Fm.flats_len ps
    simp only [Fm.flats, Fm.sizes, List.length_append]; omega
end
theorem Fm.hs_len (f : Fm) : f.hs.length ≤ f.size := by
  have h1 := ded_len f.flat []
  have h2 := f.flat_len
  unfold Fm.hs
  simp at h1
  omega
theorem inV_int {n : Int} : ∀ {l : List Int}, inV (.int n) (l.map V.int) = decide (n ∈ l)
  | [] => by simp [inV]
  | a :: l => by
    have ih := inV_int (n := n) (l := l)
    unfold inV at ih ⊢
    rw [List.map_cons, List.any_cons, ih]
    show ((a == n) || decide (n ∈ l)) = decide (n ∈ a :: l)
    by_cases e : a = n
    · subst e; simp
    · have e2 : (a == n) = false := beq_eq_false_iff_ne.mpr e
      rw [e2]
      simp [show ¬ n = a from fun z => e z.symm]
theorem flat_ints : ∀ {l : List Int}, (l.map V.int).all flatV = true
  | [] => rfl
  | a :: l => by rw [List.map_cons, List.all_cons, flat_ints]; rfl
section
variable {K : PySem.W.Frag} {H : Hp} {Q : VK} {v : V}
theorem g_notInI {p : Addr} {l : List Int} {n : Int} (h : H p = some (.lst (l.map V.int))) (k : Q (.bl (!decide (n ∈ l))) H) : rIn K true (.int n) (.ref p) H Q := by
  refine ⟨p, l.map V.int, rfl, .inl (.inl (.inl h)), rfl, flat_ints, ?_⟩
  rw [if_pos rfl, inV_int]
  exact k
theorem g_inI {p : Addr} {l : List Int} {n : Int} (h : H p = some (.lst (l.map V.int))) (k : Q (.bl (decide (n ∈ l))) H) : rIn K false (.int n) (.ref p) H Q := by
  refine ⟨p, l.map V.int, rfl, .inl (.inl (.inl h)), rfl, flat_ints, ?_⟩
  rw [if_neg (by decide), inV_int]
  exact k
theorem g_aug {σ : L2.St} {D : Ends} {i : Nat} {te : TE} {ti : TIp} {x : V} (e : σ[i]? = some (some x)) (h : te σ H fun y H1 => ti x y H1 fun z H2 => D.nx (σ.set i (some z)) H2) : tAug i te ti D σ H := ⟨x, e, h⟩
theorem ints_get {l : List Int} {i : Nat} {x : V} (h : (l.map V.int)[i]? = some x) : ∃ n, l[i]? = some n ∧ x = .int n := by
  rw [List.getElem?_map] at h
  cases e : l[i]? with
  | none => rw [e] at h; cases h
  | some n => rw [e] at h; exact ⟨n, rfl, (Option.some.inj h).symm⟩
end
end My

namespace My
open PySem PySem.Spec PyProof.Rows L2
local macro_rules | `(tactic| walk_at "g1") => `(tactic| first
  | with_reducible refine My.g_seq ?_
  | with_reducible refine My.g_asg ?_
  | with_reducible refine My.g_name ?_
  | ((with_reducible refine' My.g_var ?ga ?gb); (case ga => rfl))
  | with_reducible refine My.g_c ?_
  | with_reducible refine My.g_op ?_
  | with_reducible refine My.g_cb ?_
  | with_reducible refine My.g_cons ?_
  | with_reducible refine My.g_nil ?_
  | with_reducible refine My.g_ifS ?_
  | with_reducible refine My.g_ret ?_
  | with_reducible refine My.g_drop ?_
  | with_reducible refine My.g_test ?_
  | with_reducible refine My.g_B ?_
  | with_reducible refine My.g_bl ?_
  | with_reducible refine My.g_int1 ?_
  | with_reducible refine My.g_rI0 ?_
  | ((with_reducible refine My.g_rI ?ga ?gb); (case ga => first | decide | (unfold CMul; omega) | (unfold CDiv; omega) | (unfold CPow; decide) | (unfold CPow; omega) | omega))
  | with_reducible refine My.g_eqI ?_
  | with_reducible refine My.g_neI ?_
  | with_reducible refine My.g_eqS ?_
  | with_reducible refine My.g_neS ?_
  | with_reducible refine My.g_neB ?_
  | with_reducible refine My.g_tr ?_
  | with_reducible refine My.g_fa ?_
  | with_reducible refine My.g_ntr ?_
  | with_reducible refine My.g_nfa ?_
  | with_reducible refine My.g_next ?_
  | with_reducible refine My.g_bm ?_
  | with_reducible refine My.g_bm0 ?_
  | ((with_reducible refine' My.g_tyL ?ga ?gb); (case ga => assumption))
  | with_reducible refine My.g_not ?_
  | with_reducible refine My.g_and ?_
  | with_reducible refine My.g_or ?_
  | with_reducible refine My.g_andV ?_
  | with_reducible refine My.g_orV ?_
  | with_reducible refine My.g_notV ?_
  | with_reducible refine My.g_ifE ?_
  | with_reducible refine My.g_chain ?_
  | with_reducible refine My.g_un ?_
  | with_reducible refine My.g_rU ?_
  | with_reducible refine My.g_sl ?_
  | with_reducible refine My.g_part ?_
  | with_reducible refine My.g_nopart ?_
  | with_reducible refine My.g_exI ?_
  | with_reducible refine My.g_abs ?_
  | with_reducible refine My.g_int1b ?_
  | with_reducible refine My.g_tupT ?_
  | with_reducible refine My.g_lstT ?_
  | with_reducible refine My.g_yes ?_
  | with_reducible refine My.g_joined ?_
  | with_reducible refine My.g_jc ?_
  | with_reducible refine My.g_jn ?_
  | with_reducible refine My.g_fmt ?_
  | with_reducible refine My.g_m1 ?_
  | with_reducible refine My.g_m1s ?_
  | with_reducible refine My.g_for ?_
  | with_reducible refine My.g_lc ?_
  | with_reducible refine My.g_iL ?_
  | with_reducible refine My.g_iT ?_
  | with_reducible refine My.g_iR ?_
  | with_reducible refine My.g_iR2 ?_
  | with_reducible refine My.g_call ?_
  | with_reducible refine My.g_isN ?_
  | with_reducible refine My.g_notN ?_
  | with_reducible refine My.g_retN ?_
  | with_reducible refine My.g_iS ?_
  | with_reducible refine My.g_dget ?_
  | with_reducible refine My.g_dget2 ?_
  | with_reducible refine My.g_din ?_
  | with_reducible refine My.g_dnin ?_
  | with_reducible refine My.g_dput ?_
  | with_reducible refine My.g_star ?_
  | with_reducible refine My.g_rev2 ?_
  | ((with_reducible refine' My.g_lenL ?ga ?gb); (case ga => assumption))
  | ((with_reducible refine' My.g_lenT ?ga ?gb); (case ga => assumption)))
local macro_rules | `(tactic| walk_at "go") => `(tactic| repeat walk_at "g1")

/-! ### filled forms -/
mutual
def Fm.fill (m : Int → Option Fm) : Fm → Fm
  | .hole n => (m n).getD (.hole n)
  | .node s ps => .node s (Fm.fills m ps)
def Fm.fills (m : Int → Option Fm) : List Fm → List Fm
  | [] => []
  | p :: ps => p.fill m :: Fm.fills m ps
end
theorem Fm.fills_app (m : Int → Option Fm) : ∀ (ps qs : List Fm), Fm.fills m (ps ++ qs) = Fm.fills m ps ++ Fm.fills m qs
  | [], qs => by simp [Fm.fills]
  | p :: ps, qs => by simp only [List.cons_append, Fm.fills, Fm.fills_app m ps qs]
theorem Fm.fills_len (m : Int → Option Fm) : ∀ ps : List Fm, (Fm.fills m ps).length = ps.length
  | [] => rfl
  | p :: ps => by simp only [Fm.fills, List.length_cons, Fm.fills_len m ps]
mutual
theorem Fm.fill_size {m : Int → Option Fm} {B : Nat} (hB : 1 ≤ B) (h : ∀ n g, m n = some g → g.size ≤ B) : ∀ f : Fm, (f.fill m).size ≤ f.size * B
  | .hole n => by
    simp only [Fm.fill, Fm.size, Nat.one_mul]
    cases e : m n with
    | none => simpa [Fm.size] using hB
    | some g => exact h n g e
  | .node s ps => by
    have := Fm.fills_size hB h ps
    simp only [Fm.fill, Fm.size, Nat.add_mul, Nat.one_mul]
    omega
theorem Fm.fills_size {m : Int → Option Fm} {B : Nat} (hB : 1 ≤ B) (h : ∀ n g, m n = some g → g.size ≤ B) : ∀ ps : List Fm, Fm.sizes (Fm.fills m ps) ≤ Fm.sizes ps * B
  | [] => by simp [Fm.fills, Fm.sizes]
  | p :: ps => by
    have h1 := Fm.fill_size hB h p
    have h2 := Fm.fills_size hB h ps
    simp only [Fm.fills, Fm.sizes, Nat.add_mul]
    omega
end
mutual
theorem Fm.fill_depth {m : Int → Option Fm} {B : Nat} (hB : 1 ≤ B) (h : ∀ n g, m n = some g → g.depth ≤ B) : ∀ f : Fm, (f.fill m).depth ≤ f.depth + B
  | .hole n => by
    simp only [Fm.fill, Fm.depth]
    cases e : m n with
    | none => simp [Fm.depth]
    | some g => have := h n g e; simp only [Option.getD_some]; omega
  | .node s ps => by
    have := Fm.fills_depth hB h ps
    simp only [Fm.fill, Fm.depth]
    omega
theorem Fm.fills_depth {m : Int → Option Fm} {B : Nat} (hB : 1 ≤ B) (h : ∀ n g, m n = some g → g.depth ≤ B) : ∀ ps : List Fm, Fm.depths (Fm.fills m ps) ≤ Fm.depths ps + B
  | [] => by simp [Fm.fills, Fm.depths]
  | p :: ps => by
    have h1 := Fm.fill_depth hB h p
    have h2 := Fm.fills_depth hB h ps
    simp only [Fm.fills, Fm.depths]
    omega
end
mutual
theorem Fm.fill_none : ∀ f : Fm, f.fill (fun _ => none) = f
  | .hole n => rfl
  | .node s ps => by simp only [Fm.fill, Fm.fills_none ps]
theorem Fm.fills_none : ∀ ps : List Fm, Fm.fills (fun _ => none) ps = ps
  | [] => rfl
  | p :: ps => by simp only [Fm.fills, Fm.fill_none p, Fm.fills_none ps]
end
mutual
theorem Fm.fill_eq {m m' : Int → Option Fm} (h : ∀ n, m n = m' n) : ∀ f : Fm, f.fill m = f.fill m'
  | .hole n => by simp only [Fm.fill, h]
  | .node s ps => by simp only [Fm.fill, Fm.fills_eq h ps]
theorem Fm.fills_eq {m m' : Int → Option Fm} (h : ∀ n, m n = m' n) : ∀ ps : List Fm, Fm.fills m ps = Fm.fills m' ps
  | [] => rfl
  | p :: ps => by simp only [Fm.fills, Fm.fill_eq h p, Fm.fills_eq h ps]
end
theorem Fm.sizes_mem : ∀ {ps : List Fm} {p : Fm}, p ∈ ps → p.size ≤ Fm.sizes ps
  | q :: ps, p, h => by
    simp only [Fm.sizes]
    rcases List.mem_cons.mp h with rfl | h
    · omega
    · have := Fm.sizes_mem h; omega
/-- a dict from holes to forms -/
def Dic (H : Hp) (a : Addr) (m : Int → Option Fm) : Prop := ∃ kvs : List (Key × V), H a = some (.dK kvs) ∧ ∀ n : Int, (valV kvs (.inl n) = none ∧ m n = none) ∨ ∃ v f, valV kvs (.inl n) = some v ∧ m n = some f ∧ IsF H f v
theorem Dic.keep {H H' : Hp} {a : Addr} {m : Int → Option Fm} (h : Dic H a m) (c : Ext H H') : Dic H' a m := by
  obtain ⟨kvs, h1, h2⟩ := h
  refine ⟨kvs, c.at h1, fun n => ?_⟩
  rcases h2 n with h | ⟨v, f, e1, e2, hf⟩
  · exact .inl h
  · exact .inr ⟨v, f, e1, e2, hf.up c⟩
section
variable {K : PySem.W.Frag} {H : Hp} {Q : VK} {v : V}
theorem kit_tup_tup : PySem.W.kitOne K (.type "tuple") (.type "tuple") = some true := kit_ty (by decide +kernel)
theorem kit_str_str : PySem.W.kitOne K (.type "str") (.type "str") = some true := kit_ty (by decide +kernel)
theorem g_isiT {a : Addr} {xs : List V} (h : H a = some (.tup xs)) (k : Q (.bl true) H) : rIsi K [.ref a, .ty "tuple"] H Q := ⟨_, _, _, _, true, rfl, .ty "tuple", .base (.tup h), kit_tup_tup, k⟩
theorem g_isiSS {s : Str} (k : Q (.bl true) H) : rIsi K [.str s, .ty "str"] H Q := ⟨_, _, _, _, true, rfl, .ty "str", .base (.str s), kit_str_str, k⟩
end
def t_fill (K : PySem.W.Frag) (r : Sp) : TS := (tSeq (tIfS (tB (tCB (rIsi K) (tCons (tVar 0) (tCons (tC (.ty "int")) tNil)))) (tRet (tDGet2 (tVar 1) (tVar 0) (tVar 0)))
  tNext)
  (tSeq (tAsg (tLc (iTup K (tSl (rSlT K) (tVar 0) (tPart (tC (.int 1))) tNoPart)) (gName 3) tYes (tCall r [] E0 (tCons (tVar 3) (tCons (tVar 1) tNil))) [3]) (gName 2))
  (tRet (tTup (tCons (tOp (rIxT K) (tVar 0) (tC (.int 0))) (StX.tStar K (tVar 2) tNil))))))
abbrev N_fill : List Str := ["form", "parts", "filled", "part"]
def sp_fill (K : PySem.W.Frag) (n : Nat) : Sp := fun vs H Q _ => ∃ (v : V) (a : Addr) (f : Fm) (m : Int → Option Fm), vs = [v, .ref a] ∧ IsF H f v ∧ Dic H a m ∧ f.size ≤ 10000 ∧ f.depth ≤ n ∧ ∀ (w : V) (H' : Hp), Ext H H' → IsF H' (f.fill m) w → Q w H'
theorem len_fill {K : PySem.W.Frag} {n : Nat} {vs : List V} {H : Hp} {Q : VK} {E : XK} (h : sp_fill K n vs H Q E) : vs.length = 2 := by obtain ⟨_, _, _, _, rfl, _⟩ := h; rfl
theorem no_fill {K : PySem.W.Frag} (vs : List V) (H : Hp) (Q : VK) (E : XK) : ¬ sp_fill K 0 vs H Q E := by
  rintro ⟨_, _, f, _, _, _, _, _, h, _⟩
  have := f.depth_pos
  omega
theorem rd_fill {K : PySem.W.Frag} {n : Nat} {vs : List V} {H : Hp} {Q : VK} {E : XK} (h : sp_fill K (n + 1) vs H Q E) : t_fill K (sp_fill K n) { nx := fun _ H' => Q .non H', rt := Q } (start N_fill vs) H := by
  obtain ⟨v, a, f, m, rfl, hf, hd, hz, hn, k⟩ := h
  unfold t_fill
  walk_at "go"
  refine g_isiF hf ?_
  walk_at "go"
  cases f with
  | hole i =>
    show (if true = true then _ else _)
    obtain rfl := IsF.hole.mp hf
    walk_at "go"
    obtain ⟨kvs, hk, hm⟩ := hd
    refine ⟨a, rfl, isD_of hk, ?_⟩
    walk_at "go"
    refine ⟨_, DGet.int hk, ?_⟩
    refine k _ H (Chg.refl _) ?_
    simp only [Fm.fill]
    rcases hm i with ⟨e1, e2⟩ | ⟨w, g, e1, e2, hg⟩
    · rw [e1, e2]; exact IsF.hole.mpr rfl
    · rw [e1, e2]; exact hg
  | node s ps =>
    show (if false = true then _ else _)
    simp only [Fm.size] at hz
    simp only [Fm.depth] at hn
    have hls := Fm.len_sizes ps
    walk_at "go"
    refine g_parts hf fun q H2 ws hq c2 h2 hw => ?_
    refine g_lcT (S := []) (xs := ws) (.inl (.inl h2)) (fun _ z => nomatch z) (fun i acc H' => IsFs H' (Fm.fills m (ps.take i)) acc ∧ acc.length ≤ i ∧ i ≤ ps.length) (fun i acc Dl H3 H4 _ c h => ⟨IsL.up c h.1, h.2⟩) (fun H' _ => ⟨by simp only [List.take_zero, Fm.fills]; exact IsL.nil, Nat.zero_le _, Nat.zero_le _⟩)
      (fun i acc H' c _ => .inl (.inl (c.at h2))) (fun i acc H' h => bigl (by have := h.2; omega)) (fun i x hi acc H4 Yes No c4 e yes no => ?_) (fun r5 acc H5 hr5 c5 h5 e => ?_)
    · obtain ⟨e1, e2, e3⟩ := e
      obtain ⟨g, hg1, hg2⟩ := hw.get hi
      have hmem := List.mem_of_getElem? hg1
      have hd1 := Fm.depth_mem hmem
      have hs1 := Fm.sizes_mem hmem
      have hlt : i < ps.length := (List.getElem?_eq_some_iff.mp hg1).1
      walk_at "go"
      refine ⟨x, a, g, m, rfl, hg2.up c4, (hd.keep c2).keep c4, by omega, by omega, fun w H6 c6 hw6 => ?_⟩
      refine yes _ _ c6 ⟨?_, by simp; omega, by omega⟩
      rw [List.take_add_one, hg1]
      simp only [Option.toList, Fm.fills_app, Fm.fills]
      exact IsFs.snoc (IsL.up c6 e1) hw6
    · obtain ⟨e1, e2, e3⟩ := e
      have hl := hw.length
      rw [hl, List.take_length] at e1
      walk_at "go"
      obtain ⟨b, vs, rfl, h1, h3⟩ := IsF.node.mp hf
      refine g_ixT (c5.at (c2.at h1)) (atI_nat (j := 0) rfl) ?_
      walk_at "go"
      refine ⟨r5, acc, rfl, .inr (.inl (.inl h5)), ?_⟩
      walk_at "go"
      refine g_newT (big (by simp; omega)) fun p H7 hp c7 h7 => ?_
      exact k _ H7 ((c2.trans c5).trans c7) (by simp only [Fm.fill]; exact IsF.node.mpr ⟨p, acc, rfl, by rw [h7]; simp, IsL.up c7 e1⟩)
end My

namespace My
open PySem PySem.Spec PyProof.Rows L2
local macro_rules | `(tactic| walk_at "g1") => `(tactic| first
  | with_reducible refine My.g_seq ?_
  | with_reducible refine My.g_asg ?_
  | with_reducible refine My.g_name ?_
  | ((with_reducible refine' My.g_var ?ga ?gb); (case ga => rfl))
  | with_reducible refine My.g_c ?_
  | with_reducible refine My.g_op ?_
  | with_reducible refine My.g_cb ?_
  | with_reducible refine My.g_cons ?_
  | with_reducible refine My.g_nil ?_
  | with_reducible refine My.g_ifS ?_
  | with_reducible refine My.g_ret ?_
  | with_reducible refine My.g_drop ?_
  | with_reducible refine My.g_test ?_
  | with_reducible refine My.g_B ?_
  | with_reducible refine My.g_bl ?_
  | with_reducible refine My.g_int1 ?_
  | with_reducible refine My.g_rI0 ?_
  | ((with_reducible refine My.g_rI ?ga ?gb); (case ga => first | decide | (unfold CMul; omega) | (unfold CDiv; omega) | (unfold CPow; decide) | (unfold CPow; omega) | omega))
  | with_reducible refine My.g_eqI ?_
  | with_reducible refine My.g_neI ?_
  | with_reducible refine My.g_eqS ?_
  | with_reducible refine My.g_neS ?_
  | with_reducible refine My.g_neB ?_
  | with_reducible refine My.g_tr ?_
  | with_reducible refine My.g_fa ?_
  | with_reducible refine My.g_ntr ?_
  | with_reducible refine My.g_nfa ?_
  | with_reducible refine My.g_next ?_
  | with_reducible refine My.g_bm ?_
  | with_reducible refine My.g_bm0 ?_
  | ((with_reducible refine' My.g_tyL ?ga ?gb); (case ga => assumption))
  | with_reducible refine My.g_not ?_
  | with_reducible refine My.g_and ?_
  | with_reducible refine My.g_or ?_
  | with_reducible refine My.g_andV ?_
  | with_reducible refine My.g_orV ?_
  | with_reducible refine My.g_notV ?_
  | with_reducible refine My.g_ifE ?_
  | with_reducible refine My.g_chain ?_
  | with_reducible refine My.g_un ?_
  | with_reducible refine My.g_rU ?_
  | with_reducible refine My.g_sl ?_
  | with_reducible refine My.g_part ?_
  | with_reducible refine My.g_nopart ?_
  | with_reducible refine My.g_exI ?_
  | with_reducible refine My.g_abs ?_
  | with_reducible refine My.g_int1b ?_
  | with_reducible refine My.g_tupT ?_
  | with_reducible refine My.g_lstT ?_
  | with_reducible refine My.g_yes ?_
  | with_reducible refine My.g_joined ?_
  | with_reducible refine My.g_jc ?_
  | with_reducible refine My.g_jn ?_
  | with_reducible refine My.g_fmt ?_
  | with_reducible refine My.g_m1 ?_
  | with_reducible refine My.g_m1s ?_
  | with_reducible refine My.g_for ?_
  | with_reducible refine My.g_lc ?_
  | with_reducible refine My.g_iL ?_
  | with_reducible refine My.g_iT ?_
  | with_reducible refine My.g_iR ?_
  | with_reducible refine My.g_iR2 ?_
  | with_reducible refine My.g_call ?_
  | with_reducible refine My.g_isN ?_
  | with_reducible refine My.g_notN ?_
  | with_reducible refine My.g_retN ?_
  | with_reducible refine My.g_iS ?_
  | with_reducible refine My.g_dget ?_
  | with_reducible refine My.g_dget2 ?_
  | with_reducible refine My.g_din ?_
  | with_reducible refine My.g_dnin ?_
  | with_reducible refine My.g_dput ?_
  | with_reducible refine My.g_star ?_
  | with_reducible refine My.g_rev2 ?_
  | ((with_reducible refine' My.g_lenL ?ga ?gb); (case ga => assumption))
  | ((with_reducible refine' My.g_lenT ?ga ?gb); (case ga => assumption)))
local macro_rules | `(tactic| walk_at "go") => `(tactic| repeat walk_at "g1")

/-! ### _law_same -/
def t_same (K : PySem.W.Frag) (r : Sp) : TS := (tSeq (tIfS (tB (tCB (rIsi K) (tCons (tVar 1) (tCons (tC (.ty "int")) tNil)))) (tRet (tAndV (tCB (rIsi K) (tCons (tVar 0) (tCons (tC (.ty "int")) tNil))) (tAndV (tNotV (tCB (rIsi K) (tCons (tVar 0) (tCons (tC (.ty "bool")) tNil)))) (tOp rEq (tVar 0) (tVar 1)))))
  tNext)
  (tSeq (tIfS (tOr (tNot (tB (tCB (rIsi K) (tCons (tVar 0) (tCons (tC (.ty "tuple")) tNil))))) (tTest (tOp rNe (tCB (rLenSeq K) (tCons (tVar 0) tNil)) (tCB (rLenSeq K) (tCons (tVar 1) tNil))))) (tRet (tC (.bl false)))
  tNext)
  (tSeq (tIfS (tOr (tNot (tB (tCB (rIsi K) (tCons (tOp (rIxT K) (tVar 0) (tC (.int 0))) (tCons (tC (.ty "str")) tNil))))) (tTest (tOp rNe (tOp (rIxT K) (tVar 0) (tC (.int 0))) (tOp (rIxT K) (tVar 1) (tC (.int 0)))))) (tRet (tC (.bl false)))
  tNext)
  (tSeq (tFor (iRng2 (tCons (tC (.int 1)) (tCons (tCB (rLenSeq K) (tCons (tVar 1) tNil)) tNil))) (gName 2)
  (tIfS (tNot (tB (tCall r [] E0 (tCons (tOp (rIxT K) (tVar 0) (tVar 2)) (tCons (tOp (rIxT K) (tVar 1) (tVar 2)) tNil))))) (tRet (tC (.bl false)))
  tNext))
  (tRet (tC (.bl true)))))))
abbrev N_same : List Str := ["_law_answer", "_law_due_here", "_law_k"]
def sp_same (K : PySem.W.Frag) (n : Nat) : Sp := fun vs H Q _ => ∃ (v w : V) (f : Fm), vs = [v, w] ∧ IsF H f v ∧ IsF H f w ∧ f.size ≤ 100000 ∧ f.depth ≤ n ∧ Q (.bl true) H
theorem len_same {K : PySem.W.Frag} {n : Nat} {vs : List V} {H : Hp} {Q : VK} {E : XK} (h : sp_same K n vs H Q E) : vs.length = 2 := by obtain ⟨_, _, _, rfl, _⟩ := h; rfl
theorem no_same {K : PySem.W.Frag} (vs : List V) (H : Hp) (Q : VK) (E : XK) : ¬ sp_same K 0 vs H Q E := by
  rintro ⟨_, _, f, _, _, _, _, h, _⟩
  have := f.depth_pos
  omega
theorem rd_same {K : PySem.W.Frag} {n : Nat} {vs : List V} {H : Hp} {Q : VK} {E : XK} (h : sp_same K (n + 1) vs H Q E) : t_same K (sp_same K n) { nx := fun _ H' => Q .non H', rt := Q } (start N_same vs) H := by
  obtain ⟨v, w, f, rfl, hf, hg, hz, hn, k⟩ := h
  unfold t_same
  walk_at "go"
  refine g_isiF hg ?_
  walk_at "go"
  cases f with
  | hole i =>
    show (if true = true then _ else _)
    obtain rfl := IsF.hole.mp hf
    obtain rfl := IsF.hole.mp hg
    walk_at "go"
    refine g_isiI ?_
    refine ⟨true, rfl, ?_⟩
    walk_at "go"
    refine g_isiIb ?_
    refine ⟨false, rfl, ?_⟩
    refine ⟨true, rfl, ?_⟩
    walk_at "go"
    rw [decide_eq_true rfl]
    exact k
  | node s ps =>
    show (if false = true then _ else _)
    simp only [Fm.size] at hz
    simp only [Fm.depth] at hn
    obtain ⟨a, xs, rfl, ha, hxs⟩ := IsF.node.mp hf
    obtain ⟨b, ys, rfl, hb, hys⟩ := IsF.node.mp hg
    have lx := hxs.length
    have ly := hys.length
    have hls := Fm.len_sizes ps
    walk_at "go"
    refine g_isiT ha ?_
    walk_at "go"
    rw [decide_eq_true (show (((V.str s :: xs).length : Nat) : Int) = ((V.str s :: ys).length : Nat) by simp [lx, ly])]
    walk_at "go"
    refine g_ixT ha (atI_nat (j := 0) rfl) ?_
    walk_at "go"
    refine g_isiSS ?_
    walk_at "go"
    refine g_ixT ha (atI_nat (j := 0) rfl) ?_
    walk_at "go"
    refine g_ixT hb (atI_nat (j := 0) rfl) ?_
    walk_at "go"
    rw [decide_eq_true rfl]
    walk_at "go"
    have l2 : (((V.str s :: ys).length : Nat) : Int) = (ps.length : Int) + 1 := by simp [ly]
    refine g_forR2 (by omega) (fun i σ H' => ∃ o : Option V, σ = [some (.ref a), some (.ref b), o] ∧ H' = H) ⟨none, rfl, rfl⟩ ?_ ?_
    · rintro i σ H' hi ⟨o, rfl, rfl⟩
      have hlt : i < ps.length := by omega
      obtain ⟨g, hg1⟩ : ∃ g, ps[i]? = some g := ⟨ps[i], List.getElem?_eq_getElem hlt⟩
      obtain ⟨x, hx1, hx2⟩ := hxs.get' hg1
      obtain ⟨y, hy1, hy2⟩ := hys.get' hg1
      have hmem := List.mem_of_getElem? hg1
      have hd1 := Fm.depth_mem hmem
      have hs1 := Fm.sizes_mem hmem
      have e1 : (1 : Int) + (i : Int) = ((i + 1 : Nat) : Int) := by omega
      rw [e1]
      walk_at "go"
      refine g_ixT ha (atI_nat (by rw [List.getElem?_cons_succ]; exact hx1)) ?_
      walk_at "go"
      refine g_ixT hb (atI_nat (by rw [List.getElem?_cons_succ]; exact hy1)) ?_
      walk_at "go"
      refine ⟨x, y, g, rfl, hx2, hy2, by omega, by omega, ?_⟩
      walk_at "go"
      exact ⟨_, rfl, rfl⟩
    · rintro σ H' ⟨o, rfl, rfl⟩
      walk_at "go"
      exact k
end My

namespace My
open PySem PySem.Spec PyProof.Rows L2
local macro_rules | `(tactic| walk_at "g1") => `(tactic| first
  | with_reducible refine My.g_seq ?_
  | with_reducible refine My.g_asg ?_
  | with_reducible refine My.g_name ?_
  | ((with_reducible refine' My.g_var ?ga ?gb); (case ga => rfl))
  | with_reducible refine My.g_c ?_
  | with_reducible refine My.g_op ?_
  | with_reducible refine My.g_cb ?_
  | with_reducible refine My.g_cons ?_
  | with_reducible refine My.g_nil ?_
  | with_reducible refine My.g_ifS ?_
  | with_reducible refine My.g_ret ?_
  | with_reducible refine My.g_drop ?_
  | with_reducible refine My.g_test ?_
  | with_reducible refine My.g_B ?_
  | with_reducible refine My.g_bl ?_
  | with_reducible refine My.g_int1 ?_
  | with_reducible refine My.g_rI0 ?_
  | ((with_reducible refine My.g_rI ?ga ?gb); (case ga => first | decide | (unfold CMul; omega) | (unfold CDiv; omega) | (unfold CPow; decide) | (unfold CPow; omega) | omega))
  | with_reducible refine My.g_eqI ?_
  | with_reducible refine My.g_neI ?_
  | with_reducible refine My.g_eqS ?_
  | with_reducible refine My.g_neS ?_
  | with_reducible refine My.g_neB ?_
  | with_reducible refine My.g_tr ?_
  | with_reducible refine My.g_fa ?_
  | with_reducible refine My.g_ntr ?_
  | with_reducible refine My.g_nfa ?_
  | with_reducible refine My.g_next ?_
  | with_reducible refine My.g_bm ?_
  | with_reducible refine My.g_bm0 ?_
  | ((with_reducible refine' My.g_tyL ?ga ?gb); (case ga => assumption))
  | with_reducible refine My.g_not ?_
  | with_reducible refine My.g_and ?_
  | with_reducible refine My.g_or ?_
  | with_reducible refine My.g_andV ?_
  | with_reducible refine My.g_orV ?_
  | with_reducible refine My.g_notV ?_
  | with_reducible refine My.g_ifE ?_
  | with_reducible refine My.g_chain ?_
  | with_reducible refine My.g_un ?_
  | with_reducible refine My.g_rU ?_
  | with_reducible refine My.g_sl ?_
  | with_reducible refine My.g_part ?_
  | with_reducible refine My.g_nopart ?_
  | with_reducible refine My.g_exI ?_
  | with_reducible refine My.g_abs ?_
  | with_reducible refine My.g_int1b ?_
  | with_reducible refine My.g_tupT ?_
  | with_reducible refine My.g_lstT ?_
  | with_reducible refine My.g_yes ?_
  | with_reducible refine My.g_joined ?_
  | with_reducible refine My.g_jc ?_
  | with_reducible refine My.g_jn ?_
  | with_reducible refine My.g_fmt ?_
  | with_reducible refine My.g_m1 ?_
  | with_reducible refine My.g_m1s ?_
  | with_reducible refine My.g_for ?_
  | with_reducible refine My.g_lc ?_
  | with_reducible refine My.g_iL ?_
  | with_reducible refine My.g_iT ?_
  | with_reducible refine My.g_iR ?_
  | with_reducible refine My.g_iR2 ?_
  | with_reducible refine My.g_call ?_
  | with_reducible refine My.g_isN ?_
  | with_reducible refine My.g_notN ?_
  | with_reducible refine My.g_retN ?_
  | with_reducible refine My.g_iS ?_
  | with_reducible refine My.g_dget ?_
  | with_reducible refine My.g_dget2 ?_
  | with_reducible refine My.g_din ?_
  | with_reducible refine My.g_dnin ?_
  | with_reducible refine My.g_dput ?_
  | with_reducible refine My.g_star ?_
  | with_reducible refine My.g_rev2 ?_
  | ((with_reducible refine' My.g_lenL ?ga ?gb); (case ga => assumption))
  | ((with_reducible refine' My.g_lenT ?ga ?gb); (case ga => assumption)))
local macro_rules | `(tactic| walk_at "go") => `(tactic| repeat walk_at "g1")

def t_wide (K : PySem.W.Frag) (r : Sp) : TS := (tSeq (tIfS (tOr (tTest (tOp rEq (tVar 3) (tC (.int 0)))) (tTest (tOp rEq (tCall (sp_take K) [] E0 (tCons (tVar 0) (tCons (tC (.int 3)) tNil))) (tC (.int 0))))) (tSeq (tIfS (tAnd (tTest (tOp rGtI (tCB (rLenSeq K) (tCons (tVar 2) tNil)) (tC (.int 0)))) (tTest (tOp rGtI (tCall (sp_take K) [] E0 (tCons (tVar 0) (tCons (tC (.int 4)) tNil))) (tC (.int 0))))) (tRet (tOp (rIxL K) (tVar 2) (tCall (sp_take K) [] E0 (tCons (tVar 0) (tCons (tCB (rLenSeq K) (tCons (tVar 2) tNil)) tNil)))))
  tNext)
  (tRet (tTup (tCons (tOp (rIxL K) (tVar 1) (tCall (sp_take K) [] E0 (tCons (tVar 0) (tCons (tC (.int 26)) tNil)))) tNil))))
  tNext)
  (tSeq (tAsg (tLst (tCons (tOp (rIxL K) (tVar 1) (tCall (sp_take K) [] E0 (tCons (tVar 0) (tCons (tC (.int 26)) tNil)))) tNil)) (gName 4))
  (tSeq (tFor (iRng1 (tCons (tCall (sp_take K) [] E0 (tCons (tVar 0) (tCons (tC (.int 4)) tNil))) tNil)) (gName 5)
  (tDrop (tBM K "list" rAppend (tVar 4) (tCons (tCall r [] E0 (tCons (tVar 0) (tCons (tVar 1) (tCons (tVar 2) (tCons (tOp rSubI (tVar 3) (tC (.int 1))) tNil))))) tNil))))
  (tRet (tCB (rTupleOf K) (tCons (tVar 4) tNil))))))
abbrev N_wide : List Str := ["_law_draws", "_law_names_here", "_law_holes", "_law_depth", "_law_form", "_law_k"]
def wideB : Nat → Nat
  | 0 => 1
  | n + 1 => 1 + 3 * wideB n
def sp_wide (K : PySem.W.Frag) (n : Nat) : Sp := fun vs H Q _ => ∃ (d r : Addr) (hs : Addr) (is : List Int) (m : Nat) (nms : List Str), vs = [.ref d, .ref r, .ref hs, .int (m : Int)] ∧ m < n ∧ Dr H d ∧ Nms H d r nms ∧ Hls H d hs is ∧ ∀ (v : V) (H' : Hp) (f : Fm), Chg [d] H H' → Dr H' d → IsF H' f v → f.ok → f.size ≤ wideB m → f.depth ≤ m + 1 → Q v H'
theorem len_wide {K : PySem.W.Frag} {n : Nat} {vs : List V} {H : Hp} {Q : VK} {E : XK} (h : sp_wide K n vs H Q E) : vs.length = 4 := by obtain ⟨_, _, _, _, _, _, rfl, _⟩ := h; rfl
theorem no_wide {K : PySem.W.Frag} (vs : List V) (H : Hp) (Q : VK) (E : XK) : ¬ sp_wide K 0 vs H Q E := by
  rintro ⟨_, _, _, _, m, _, _, h, _⟩
  omega
theorem wideB_pos : ∀ n, 1 ≤ wideB n
  | 0 => Nat.le_refl _
  | n + 1 => by simp only [wideB]; omega
theorem rd_wide {K : PySem.W.Frag} {n : Nat} {vs : List V} {H : Hp} {Q : VK} {E : XK} (h : sp_wide K (n + 1) vs H Q E) : t_wide K (sp_wide K n) { nx := fun _ H' => Q .non H', rt := Q } (start N_wide vs) H := by
  obtain ⟨d, r, hs, is, m, nms, rfl, hm, hd, hn, hh, k⟩ := h
  -- what a small form gives
  have small : ∀ (D : Ends) (H0 : Hp), D.rt = Q → Chg [d] H H0 → Dr H0 d → tSeq (tIfS (tAnd (tTest (tOp rGtI (tCB (rLenSeq K) (tCons (tVar 2) tNil)) (tC (.int 0)))) (tTest (tOp rGtI (tCall (sp_take K) [] E0 (tCons (tVar 0) (tCons (tC (.int 4)) tNil))) (tC (.int 0))))) (tRet (tOp (rIxL K) (tVar 2) (tCall (sp_take K) [] E0 (tCons (tVar 0) (tCons (tCB (rLenSeq K) (tCons (tVar 2) tNil)) tNil))))) tNext)
      (tRet (tTup (tCons (tOp (rIxL K) (tVar 1) (tCall (sp_take K) [] E0 (tCons (tVar 0) (tCons (tC (.int 26)) tNil)))) tNil))) D (start N_wide [.ref d, .ref r, .ref hs, .int (m : Int)]) H0 := by
    intro D H0 hD c0 hd
    subst hD
    have hn := hn.keep c0
    have hh := hh.keep c0
    have name : ∀ (H1 : Hp), Chg [d] H0 H1 → Dr H1 d → (tRet (tTup (tCons (tOp (rIxL K) (tVar 1) (tCall (sp_take K) [] E0 (tCons (tVar 0) (tCons (tC (.int 26)) tNil)))) tNil))) D (start N_wide [.ref d, .ref r, .ref hs, .int (m : Int)]) H1 := by
      intro H1 c1 hd
      walk_at "go"
      refine g_take hd (by decide) fun v2 H2 a0 a1 c2 hd => ?_
      have hn2 := (hn.keep c1).keep c2
      obtain ⟨s, hs, hat⟩ := nm_at hn2.ok a0 a1
      refine g_ixL hn2.at_ hat ?_
      walk_at "go"
      refine g_newT (big (by simp)) fun p H3 hp c3 h3 => ?_
      exact k _ H3 (.node s []) (((c0.trans c1).trans c2).trans c3.all) (hd.keep c3) (IsF.node.mpr ⟨p, [], rfl, h3, IsL.nil⟩) (by simp only [Fm.ok, Fm.oks]; exact ⟨hn2.ok.good s hs, trivial⟩) (by simp only [Fm.size, Fm.sizes]; exact wideB_pos m) (by simp only [Fm.depth, Fm.depths]; omega)
    walk_at "go"
    refine g_lenL hh.at_ ?_
    walk_at "go"
    refine g_2 (fun b => ?_) (fun b => ?_)
    · have b : (0 : Int) < ((is.map V.int).length : Int) := of_decide_eq_true b
      walk_at "go"
      refine g_take hd (by decide) fun v1 H1 _ _ c1 hd => ?_
      have hh := hh.keep c1
      walk_at "go"
      refine g_2 (fun b9 => ?_) (fun b9 => ?_)
      · walk_at "go"
        refine g_lenL hh.at_ ?_
        walk_at "go"
        refine g_take hd b fun v2 H2 a0 a1 c2 hd => ?_
        have hh := hh.keep c2
        obtain ⟨x, hx, x0, x1⟩ := hh.get a0 a1
        refine g_ixL hh.at_ hx ?_
        exact k _ H2 (.hole x) ((c0.trans c1).trans c2) hd (IsF.hole.mpr rfl) (by simp only [Fm.ok]; omega) (by simp only [Fm.size]; exact wideB_pos m) (by simp only [Fm.depth]; omega)
      · walk_at "g1"
        exact name _ c1 hd
    · walk_at "g1"
      walk_at "g1"
      exact name _ (Chg.refl _) hd
  unfold t_wide
  walk_at "go"
  refine g_2 (fun b => ?_) (fun b => ?_)
  · walk_at "g1"
    exact small _ H rfl (Chg.refl _) hd
  have b := of_decide_eq_false b
  walk_at "go"
  refine g_take hd (by decide) fun v1 H1 _ _ c1 hd => ?_
  walk_at "go"
  refine g_2 (fun b2 => ?_) (fun b2 => ?_)
  · exact small _ H1 rfl c1 hd
  walk_at "go"
  have hn1 := hn.keep c1
  refine g_take hd (by decide) fun v2 H2 a0 a1 c2 hd => ?_
  have hn2 := hn1.keep c2
  obtain ⟨s, hs_, hat⟩ := nm_at hn2.ok a0 a1
  refine g_ixL hn2.at_ hat ?_
  walk_at "go"
  refine g_newL (big (by simp)) fun p H3 hp c3 h3 => ?_
  walk_at "go"
  have hd3 := hd.keep c3
  have c03 : Chg [d] H H3 := (c1.trans c2).trans c3.all
  have pd : p ∉ [d] := hd.off hp
  have hp0 : H p = none := by
    cases q : H p with
    | none => rfl
    | some o =>
      have := (c1.trans c2).ob p o pd q
      rw [hp] at this
      cases this
  refine g_take hd3 (by decide) fun w H4 w0 w1 c4 hd4 => ?_
  refine g_forR (by omega) (fun i σ H' => ∃ (ws : List V) (ps : List Fm) (o4 : Option V), σ = [some (.ref d), some (.ref r), some (.ref hs), some (.int (m : Int)), some (.ref p), o4] ∧ Chg [d] H H' ∧ Dr H' d ∧ H' p = some (.lst (.str s :: ws)) ∧ IsFs H' ps ws ∧ Fm.oks ps ∧ Fm.sizes ps ≤ i * wideB (m - 1) ∧ Fm.depths ps ≤ m ∧ ps.length = i)
    ⟨[], [], none, rfl, c03.trans c4, hd4, c4.ob _ _ pd h3, IsL.nil, by simp [Fm.oks], by simp [Fm.sizes], by simp [Fm.depths], rfl⟩ ?_ ?_
  · rintro i σ H' hi ⟨ws, ps, o4, rfl, c, hd, hp', hw, hk, hz, hdp, hlen⟩
    walk_at "go"
    refine ⟨d, r, hs, is, m - 1, nms, ?_, by omega, hd, hn.keep c, hh.keep c, fun v H5 f c5 hd5 hf fk fz fd => ?_⟩
    · have : ((m - 1 : Nat) : Int) = (m : Int) - 1 := by omega
      rw [this]
      rfl
    walk_at "go"
    have hl := hw.length
    refine g_appD hp0 pd (c.trans c5) hd5 (c5.ob _ _ pd hp') (by simp; omega) fun H6 c6 hd6 h6 c56 => ?_
    refine ⟨ws ++ [v], ps ++ [f], _, rfl, c6, hd6, h6, IsFs.snoc (IsL.up c56 (IsL.up c5 hw)) (hf.up c56), ?_, ?_, ?_, ?_⟩
    · rw [Fm.oks_append]; simp only [Fm.oks]; exact ⟨hk, fk, trivial⟩
    · rw [Fm.sizes_append]; simp only [Fm.sizes]
      have : (i + 1) * wideB (m - 1) = i * wideB (m - 1) + wideB (m - 1) := by rw [Nat.add_mul]; omega
      omega
    · rw [Fm.depths_append]; simp only [Fm.depths]; omega
    · simp [hlen]
  · rintro σ H' ⟨ws, ps, o4, rfl, c, hd, hp', hw, hk, hz, hdp, hlen⟩
    walk_at "go"
    refine g_tupOf (.inl (.inl hp')) fun q H5 hq c5 h5 => ?_
    have hw4 : w.toNat ≤ 3 := by omega
    refine k _ H5 (.node s ps) (c.trans c5.all) (hd.keep c5) (IsF.node.mpr ⟨q, ws, rfl, h5, IsL.up c5 hw⟩) (by simp only [Fm.ok]; exact ⟨hn2.ok.good s hs_, hk⟩) ?_ (by simp only [Fm.depth]; omega)
    have hm1 : m = (m - 1) + 1 := by omega
    rw [hm1]
    simp only [Fm.size, wideB]
    have : w.toNat * wideB (m - 1) ≤ 3 * wideB (m - 1) := Nat.mul_le_mul_right _ hw4
    omega
/-! ### the first key that is equal -/
def look : List Int → List Fm → Int → Option Fm
  | i :: is, g :: gs, n => if i = n then some g else look is gs n
  | _, _, _ => none
theorem look_mem : ∀ {is : List Int} {gs : List Fm} {n : Int} {g : Fm}, look is gs n = some g → g ∈ gs
  | i :: is, h :: gs, n, g, e => by
    unfold look at e
    by_cases q : i = n
    · rw [if_pos q] at e; rw [← Option.some.inj e]; exact List.mem_cons_self
    · rw [if_neg q] at e; exact List.mem_cons_of_mem _ (look_mem e)
  | [], _, _, _, e => by simp [look] at e
  | _ :: _, [], _, _, e => by simp [look] at e
def kvsOf (is : List Int) (ws : List V) : List (Key × V) := (is.zip ws).map fun p => (Sum.inl p.1, p.2)
theorem kvsOf_cons (i : Int) (is : List Int) (w : V) (ws : List V) : kvsOf (i :: is) (w :: ws) = (Sum.inl i, w) :: kvsOf is ws := rfl
theorem kvsOf_len {is : List Int} {ws : List V} (h : is.length = ws.length) : (kvsOf is ws).length = is.length := by simp [kvsOf, h]
theorem kvsOf_snoc : ∀ {is : List Int} {ws : List V} (i : Int) (w : V), is.length = ws.length → kvsOf (is ++ [i]) (ws ++ [w]) = kvsOf is ws ++ [(Sum.inl i, w)]
  | [], [], i, w, _ => rfl
  | j :: is, x :: ws, i, w, h => by
    simp only [List.cons_append, kvsOf_cons]
    rw [kvsOf_snoc i w (by simpa using h)]
  | [], _ :: _, _, _, h => by simp at h
  | _ :: _, [], _, _, h => by simp at h
theorem inl_ne {i n : Int} (h : ¬ i = n) : ¬ ((Sum.inl i : Key) = Sum.inl n) := fun z => h (Sum.inl.inj z)
theorem kvsOf_none : ∀ {is : List Int} {ws : List V} {n : Int}, n ∉ is → valV (kvsOf is ws) (.inl n) = none
  | [], _, _, _ => rfl
  | i :: is, [], n, h => rfl
  | i :: is, w :: ws, n, h => by
    rw [kvsOf_cons, valV_neg (inl_ne (i := i) (n := n) fun z => h (by rw [z]; exact List.mem_cons_self))]
    exact kvsOf_none fun z => h (List.mem_cons_of_mem _ z)
theorem kvsOf_get : ∀ {is : List Int} {ws : List V} {j : Nat} {n : Int} {w : V}, is.Nodup → is[j]? = some n → ws[j]? = some w → valV (kvsOf is ws) (.inl n) = some w
  | i :: is, x :: ws, 0, n, w, _, e1, e2 => by
    simp at e1 e2
    subst e1 e2
    rw [kvsOf_cons]
    exact valV_pos rfl
  | i :: is, x :: ws, j + 1, n, w, hn, e1, e2 => by
    simp at e1 e2
    have hm := List.mem_of_getElem? e1
    rw [kvsOf_cons, valV_neg (inl_ne (i := i) (n := n) fun z => (List.nodup_cons.mp hn).1 (by rw [z]; exact hm))]
    exact kvsOf_get (List.nodup_cons.mp hn).2 e1 e2
  | [], _, _, _, _, _, e1, _ => by simp at e1
  | _ :: _, [], _, _, _, _, _, e2 => by simp at e2
theorem kvsOf_look {H : Hp} : ∀ {is : List Int} {ws : List V} {gs : List Fm}, IsFs H gs ws → is.length = gs.length → ∀ n : Int, (valV (kvsOf is ws) (.inl n) = none ∧ look is gs n = none) ∨ ∃ v f, valV (kvsOf is ws) (.inl n) = some v ∧ look is gs n = some f ∧ IsF H f v
  | [], ws, gs, _, _, n => .inl ⟨rfl, by simp [look]⟩
  | i :: is, ws, [], _, h, n => by simp at h
  | i :: is, ws, g :: gs, hw, h, n => by
    unfold IsFs at hw
    simp only [Fm.ds] at hw
    obtain ⟨x, xs, rfl, h1, h2⟩ := IsL.cons_iff.mp hw
    rw [kvsOf_cons]
    unfold look
    by_cases e : i = n
    · subst e
      rw [valV_pos rfl, if_pos rfl]
      exact .inr ⟨x, g, rfl, rfl, h1⟩
    · rw [valV_neg (inl_ne e), if_neg e]
      exact kvsOf_look h2 (by simpa using h) n
theorem atI_last {ws : List V} {v : V} : atI (ws ++ [v]) (-1) = some v := by
  have : ixN (ws ++ [v]).length (-1) = some ws.length := by
    unfold ixN
    rw [if_neg (by decide), if_pos (by simp; omega)]
    simp
    omega
  unfold atI
  rw [this]
  simp
def t_ldue (K : PySem.W.Frag) (r : Sp) : TS := (tSeq (tIfS (tB (tCB (rIsi K) (tCons (tVar 0) (tCons (tC (.ty "int")) tNil)))) (tSeq (tFor (iRng1 (tCons (tCB (rLenSeq K) (tCons (tVar 1) tNil)) tNil)) (gName 3)
  (tIfS (tTest (tOp rEq (tOp (rIxL K) (tVar 1) (tVar 3)) (tVar 0))) (tRet (tOp (rIxL K) (tVar 2) (tVar 3)))
  tNext))
  (tRet (tVar 0)))
  tNext)
  (tSeq (tAsg (tLst (tCons (tOp (rIxT K) (tVar 0) (tC (.int 0))) tNil)) (gName 4))
  (tSeq (tFor (iTup K (tSl (rSlT K) (tVar 0) (tPart (tC (.int 1))) tNoPart)) (gName 5)
  (tDrop (tBM K "list" rAppend (tVar 4) (tCons (tCall r [] E0 (tCons (tVar 5) (tCons (tVar 1) (tCons (tVar 2) tNil)))) tNil))))
  (tRet (tCB (rTupleOf K) (tCons (tVar 4) tNil))))))
abbrev N_ldue : List Str := ["_law_form", "_law_keys", "_law_values", "_law_k", "_law_due_here", "_law_part"]
def sp_ldue (K : PySem.W.Frag) (n : Nat) : Sp := fun vs H Q _ => ∃ (v : V) (a b : Addr) (f : Fm) (is : List Int) (ws : List V) (gs : List Fm), vs = [v, .ref a, .ref b] ∧ IsF H f v ∧ f.size ≤ 10000 ∧ f.depth ≤ n ∧ H a = some (.lst (is.map V.int)) ∧ H b = some (.lst ws) ∧ IsFs H gs ws ∧ is.length = gs.length ∧ is.length ≤ 1000 ∧
  ∀ (w : V) (H' : Hp), Ext H H' → IsF H' (f.fill (look is gs)) w → Q w H'
theorem len_ldue {K : PySem.W.Frag} {n : Nat} {vs : List V} {H : Hp} {Q : VK} {E : XK} (h : sp_ldue K n vs H Q E) : vs.length = 3 := by obtain ⟨_, _, _, _, _, _, _, rfl, _⟩ := h; rfl
theorem no_ldue {K : PySem.W.Frag} (vs : List V) (H : Hp) (Q : VK) (E : XK) : ¬ sp_ldue K 0 vs H Q E := by
  rintro ⟨_, _, _, f, _, _, _, _, _, _, h, _⟩
  have := f.depth_pos
  omega
theorem look_drop {is : List Int} {gs : List Fm} {i : Nat} {x : Int} {g : Fm} (h1 : is[i]? = some x) (h2 : gs[i]? = some g) (n : Int) : look (is.drop i) (gs.drop i) n = if x = n then some g else look (is.drop (i + 1)) (gs.drop (i + 1)) n := by
  obtain ⟨l1, e1⟩ := List.getElem?_eq_some_iff.mp h1
  obtain ⟨l2, e2⟩ := List.getElem?_eq_some_iff.mp h2
  rw [List.drop_eq_getElem_cons l1, List.drop_eq_getElem_cons l2, e1, e2]
  rfl
theorem rd_ldue {K : PySem.W.Frag} {n : Nat} {vs : List V} {H : Hp} {Q : VK} {E : XK} (h : sp_ldue K (n + 1) vs H Q E) : t_ldue K (sp_ldue K n) { nx := fun _ H' => Q .non H', rt := Q } (start N_ldue vs) H := by
  obtain ⟨v, a, b, f, is, ws, gs, rfl, hf, hz, hn, ha, hb, hg, hig, hi1, k⟩ := h
  unfold t_ldue
  walk_at "go"
  refine g_isiF hf ?_
  walk_at "go"
  cases f with
  | hole m =>
    show (if true = true then _ else _)
    obtain rfl := IsF.hole.mp hf
    walk_at "go"
    have hwl := hg.length
    have hli : (is.map V.int).length = is.length := by simp
    refine g_forR (by omega) (fun i σ H' => ∃ o : Option V, σ = [some (.int m), some (.ref a), some (.ref b), o, none, none] ∧ H' = H ∧ look (is.drop i) (gs.drop i) m = look is gs m) ⟨none, rfl, rfl, rfl⟩ ?_ ?_
    · rintro i σ H' hi ⟨o, rfl, rfl, e⟩
      have hlt : i < is.length := by omega
      have hx : is[i]? = some is[i] := List.getElem?_eq_getElem hlt
      have hgi : gs[i]? = some (gs[i]'(by omega)) := List.getElem?_eq_getElem _
      obtain ⟨w, hw1, hw2⟩ := hg.get' hgi
      rw [look_drop hx hgi] at e
      walk_at "go"
      refine g_ixL ha (atI_nat (by rw [List.getElem?_map, hx]; rfl)) ?_
      walk_at "go"
      refine g_2 (fun q => ?_) (fun q => ?_)
      · have q : is[i] = m := of_decide_eq_true q
        rw [if_pos q] at e
        walk_at "go"
        refine g_ixL hb (atI_nat hw1) ?_
        refine k _ _ (Chg.refl _) ?_
        simp only [Fm.fill, ← e, Option.getD_some]
        exact hw2
      · have q : ¬ is[i] = m := of_decide_eq_false q
        rw [if_neg q] at e
        walk_at "go"
        exact ⟨_, rfl, rfl, e⟩
    · rintro σ H' ⟨o, rfl, rfl, e⟩
      walk_at "go"
      refine k _ _ (Chg.refl _) ?_
      have e2 : look is gs m = none := by
        rw [← e]
        have : is.drop (Int.toNat ((is.map V.int).length : Int)) = [] := List.drop_eq_nil_iff.mpr (by simp)
        rw [this]
        simp [look]
      simp only [Fm.fill, e2, Option.getD_none]
      exact IsF.hole.mpr rfl
  | node s ps =>
    show (if false = true then _ else _)
    simp only [Fm.size] at hz
    simp only [Fm.depth] at hn
    have hls := Fm.len_sizes ps
    obtain ⟨t, xs, rfl, ht, hxs⟩ := IsF.node.mp hf
    walk_at "go"
    refine g_ixT ht (atI_nat (j := 0) rfl) ?_
    walk_at "go"
    refine g_newL (big (by simp)) fun p H1 hp c1 h1 => ?_
    walk_at "go"
    refine g_parts (hf.up c1) fun q H2 ys hq c2 h2 hw => ?_
    have hl := hw.length
    refine g_forT (xs := ys) (.inl (.inl h2)) (fun i σ H' => ∃ (acc : List V) (o5 : Option V), σ = [some (.ref t), some (.ref a), some (.ref b), none, some (.ref p), o5] ∧ Ext H H' ∧ Chg [p] H2 H' ∧ H' p = some (.lst (.str s :: acc)) ∧ IsFs H' (Fm.fills (look is gs) (ps.take i)) acc ∧ acc.length ≤ i)
      ⟨[], none, rfl, c1.trans c2, Chg.refl _, c2.at h1, by simp only [List.take_zero, Fm.fills]; exact IsL.nil, Nat.le_refl _⟩ (fun i σ H' _ ⟨_, _, _, _, c, _⟩ => .inl (.inl (c.tp _ _ h2))) ?_ ?_
    · rintro i x σ H' hi ⟨acc, o5, rfl, c, c', hp', hacc, hla⟩
      obtain ⟨g, hg1, hg2⟩ := hw.get hi
      have hmem := List.mem_of_getElem? hg1
      have hd1 := Fm.depth_mem hmem
      have hs1 := Fm.sizes_mem hmem
      have hlt : i < ps.length := (List.getElem?_eq_some_iff.mp hg1).1
      walk_at "go"
      refine ⟨x, a, b, g, is, ws, gs, rfl, hg2.up c', by omega, by omega, c.at ha, c.at hb, IsL.up c hg, hig, hi1, fun w H6 c6 hw6 => ?_⟩
      walk_at "go"
      have hp6 := c6.at hp'
      refine g_append hp6 (bigl (by simp; omega)) ?_
      have c7 : Chg [p] H6 (upd H6 p (.lst (.str s :: acc ++ [w]))) := (Chg.refl _).set (List.mem_singleton.mpr rfl) hp6 (by intro xs z; cases z) _
      refine ⟨acc ++ [w], _, rfl, (c.trans c6).own hp _, (c'.trans c6.all).trans c7, upd_same, ?_, by simp; omega⟩
      rw [List.take_add_one, hg1]
      simp only [Option.toList, Fm.fills_app, Fm.fills]
      exact IsFs.snoc (IsL.up c7 (IsL.up c6 hacc)) (hw6.up c7)
    · rintro σ H' ⟨acc, o5, rfl, c, c', hp', hacc, hla⟩
      rw [hl, List.take_length] at hacc
      walk_at "go"
      refine g_tupOf (.inl (.inl hp')) fun u H5 hu c5 h5 => ?_
      exact k _ H5 (c.trans c5) (by simp only [Fm.fill]; exact IsF.node.mpr ⟨u, acc, rfl, h5, IsL.up c5 hacc⟩)
theorem putK_none {kvs : List (Key × V)} {k : Key} {v : V} (h : valV kvs k = none) : putK kvs k v = kvs ++ [(k, v)] := by
  unfold putK
  rw [valV_any, h]
  rfl
theorem disp_one {k : Key} {v : V} : mergeK [] [(k, v)] = [(k, v)] := by
  show putK [] k v = _
  unfold putK
  rw [if_neg (by simp)]
  rfl
theorem g_disp {trs : List (TE × TE)} {σ : L2.St} {H : Hp} {Q : VK} (k : ∀ p H', H p = none → Ext H H' → H' p = some (.dK []) → tPairs trs σ H' fun ps H2 => H2 p = some (.dK []) ∧ ∃ kvs : List (Key × V), ps = kvs.map (fun kv => (kV kv.1, kv.2)) ∧ kvs.length ≤ 15 ∧ Q (.ref p) (upd H2 p (.dK (mergeK [] kvs)))) : tDisp trs σ H Q :=
  fun p hp => k p _ hp (Chg.new hp _) upd_same
theorem Chg.offS {S : List Addr} {H H' : Hp} {p : Addr} {o u : HO} (c : Chg S H H') (hp : p ∉ S) (h : H p = some o) (h' : H' p = some u) : o = u := by
  have := c.ob _ _ hp h
  rw [this] at h'
  exact Option.some.inj h'
/-- what the law keeps: keys, values, the dict -/
structure KVD (H : Hp) (kp vp gp : Addr) (ks : List Int) (ws : List V) (gs : List Fm) : Prop where
  k : H kp = some (.lst (ks.map V.int))
  v : H vp = some (.lst ws)
  g : H gp = some (.dK (kvsOf ks ws))
  f : IsFs H gs ws
  l : ks.length = gs.length
  nd : ks.Nodup
  sz : ∀ g ∈ gs, g.size ≤ 13 ∧ g.depth ≤ 3
theorem KVD.wl {H : Hp} {kp vp gp : Addr} {ks : List Int} {ws : List V} {gs : List Fm} (h : KVD H kp vp gp ks ws gs) : ks.length = ws.length := by rw [h.l, h.f.length]
theorem KVD.dic {H : Hp} {kp vp gp : Addr} {ks : List Int} {ws : List V} {gs : List Fm} (h : KVD H kp vp gp ks ws gs) : Dic H gp (look ks gs) := ⟨_, h.g, kvsOf_look h.f h.l⟩
theorem KVD.keep {S : List Addr} {H H' : Hp} {kp vp gp : Addr} {ks : List Int} {ws : List V} {gs : List Fm} (h : KVD H kp vp gp ks ws gs) (c : Chg S H H') (h1 : kp ∉ S) (h2 : vp ∉ S) (h3 : gp ∉ S) : KVD H' kp vp gp ks ws gs :=
  ⟨c.ob _ _ h1 h.k, c.ob _ _ h2 h.v, c.ob _ _ h3 h.g, IsL.up c h.f, h.l, h.nd, h.sz⟩
def t_law (K : PySem.W.Frag) : TS := (tSeq (tAsg (tCall (sp_names K) [] E0 (tCons (tSl (rSlL K) (tVar 0) tNoPart (tPart (tC (.int 1)))) tNil)) (gName 1))
  (tSeq (tAsg (tCall (sp_stream K) [] E0 (tCons (tSl (rSlL K) (tVar 0) (tPart (tC (.int 1))) tNoPart) tNil)) (gName 2))
  (tSeq (tAsg (tLc (iRng1 (tCons (tCall (sp_take K) [] E0 (tCons (tVar 2) (tCons (tC (.int 7)) tNil))) tNil)) (gName 3) tYes (tOp (rIxL K) (tLst (tCons (tCall (sp_take K) [] E0 (tCons (tVar 2) (tCons (tC (.int 100)) tNil))) (tCons (tC (.int 0)) (tCons (tC (.int 99)) tNil)))) (tCall (sp_take K) [] E0 (tCons (tVar 2) (tCons (tC (.int 3)) tNil)))) [3]) (gName 4))
  (tSeq (tAsg (tCall (sp_wide K 6) [] E0 (tCons (tVar 2) (tCons (tVar 1) (tCons (tVar 4) (tCons (tC (.int 3)) tNil))))) (gName 5))
  (tSeq (tAsg (tLst tNil) (gName 6))
  (tSeq (tAsg (tLst tNil) (gName 7))
  (tSeq (tAsg tDNewK (gName 8))
  (tCut (tFor (iList K (tOp rCat (tVar 4) (tLst (tCons (tCall (sp_take K) [] E0 (tCons (tVar 2) (tCons (tC (.int 100)) tNil))) tNil)))) (gName 9)
  (tIfS (tAnd (tTest (tOp (rIn K true) (tVar 9) (tVar 6))) (tTest (tOp rGtI (tCall (sp_take K) [] E0 (tCons (tVar 2) (tCons (tC (.int 3)) tNil))) (tC (.int 0))))) (tSeq (tDrop (tBM K "list" rAppend (tVar 6) (tCons (tVar 9) tNil)))
  (tSeq (tDrop (tBM K "list" rAppend (tVar 7) (tCons (tCall (sp_wide K 6) [] E0 (tCons (tVar 2) (tCons (tVar 1) (tCons (tVar 4) (tCons (tC (.int 2)) tNil))))) tNil)))
  (sDPut (tVar 8) (tVar 9) (tOp (rIxL K) (tVar 7) (tUn (rU fun i => .int (-i)) (tC (.int 1)))))))
  tNext))
  (tCut (tFor (iRng1 (tCons (tC (.int 2)) tNil)) (gName 3)
  (tSeq (tIfS (tNot (tB (tCall (sp_same K 30) [] E0 (tCons (tCall (sp_fill K 30) [] E0 (tCons (tVar 5) (tCons (tVar 8) tNil))) (tCons (tCall (sp_ldue K 30) [] E0 (tCons (tVar 5) (tCons (tVar 6) (tCons (tVar 7) tNil)))) tNil))))) (tRet (tC (.bl false)))
  tNext)
  (tSeq (tIfS (tTest (tOp rNe (tCB rLenD (tCons (tVar 8) tNil)) (tCB (rLenSeq K) (tCons (tVar 6) tNil)))) (tRet (tC (.bl false)))
  tNext)
  (tFor (iRng1 (tCons (tCB (rLenSeq K) (tCons (tVar 6) tNil)) tNil)) (gName 10)
  (tIfS (tOr (tB (tDNotIn (tOp (rIxL K) (tVar 6) (tVar 10)) (tVar 8))) (tNot (tB (tCall (sp_same K 30) [] E0 (tCons (tDGet (tVar 8) (tOp (rIxL K) (tVar 6) (tVar 10))) (tCons (tOp (rIxL K) (tVar 7) (tVar 10)) tNil)))))) (tRet (tC (.bl false)))
  tNext)))))
  (tSeq (tIfS (tTest (tOp rGtI (tCB (rLenSeq K) (tCons (tVar 4) tNil)) (tC (.int 1)))) (tSeq (tAsg (tDisp [((tOp (rIxL K) (tVar 4) (tC (.int 0))), (tOp (rIxL K) (tVar 4) (tC (.int 1))))]) (gName 11))
  (tSeq (sDPut (tVar 11) (tOp (rIxL K) (tVar 4) (tC (.int 1))) (tOp (rIxL K) (tVar 4) (tC (.int 0))))
  (tSeq (tAsg (tCall (sp_ldue K 30) [] E0 (tCons (tVar 5) (tCons (tRev2 K (tVar 4)) (tCons (tSl (rSlL K) (tVar 4) tNoPart (tPart (tC (.int 2)))) tNil)))) (gName 12))
  (tIfS (tNot (tB (tCall (sp_same K 30) [] E0 (tCons (tCall (sp_fill K 30) [] E0 (tCons (tVar 5) (tCons (tVar 11) tNil))) (tCons (tVar 12) tNil))))) (tRet (tC (.bl false)))
  tNext))))
  tNext)
  (tRet (tCall (sp_same K 30) [] E0 (tCons (tCall (sp_fill K 30) [] E0 (tCons (tVar 5) (tCons tDNewK tNil))) (tCons (tVar 5) tNil))))))))))))))
abbrev N_law : List Str := ["_law_script", "_law_names_here", "_law_draws", "_law_k", "_law_holes", "_law_form", "_law_keys", "_law_values", "_law_given", "_law_hole", "_law_n", "_law_swap", "_law_due_here"]
theorem rd_law {K : PySem.W.Frag} {vs : List V} {H : Hp} {Q : VK} {E : XK} (h : spLaw K vs H Q E) : t_law K { nx := fun _ H' => Q .non H', rt := Q } (start N_law vs) H := by
  obtain ⟨a, ns, rfl, hS, h63, k⟩ := h
  unfold t_law
  walk_at "go"
  refine g_slL hS fun p1 H1 hp1 c1 h1 => ?_
  walk_at "go"
  refine ⟨p1, ns.take 1, rfl, .inl (.inl (by rw [h1, cut_head])), by simp; omega, fun r H2 nms hr c2 h2 ok => ?_⟩
  walk_at "go"
  refine g_slL ((c1.trans c2).same.seq hS) fun p3 H3 hp3 c3 h3 => ?_
  walk_at "go"
  refine ⟨p3, ns.drop 1, rfl, .inl (.inl (by rw [h3, cut_tail])), by simp; omega, fun d H4 hd4 c4 hd => ?_⟩
  have hr4 := (c3.trans c4).at h2
  have rd : r ∉ [d] := by
    intro z
    have := c3.at h2
    rw [List.mem_singleton.mp z, hd4] at this
    cases this
  have hn : Nms H4 d r nms := ⟨hr4, ok, rd⟩
  have e3 : wideB 3 = 40 := rfl
  have e2 : wideB 2 = 13 := rfl
  walk_at "go"
  refine g_take hd (by decide) fun w H5 w0 w1 c5 hd => ?_
  refine g_lcR (S := [d]) (by omega) (fun s hs => by rw [List.mem_singleton.mp hs]; exact hd.nn) (fun i acc H' => Dr H' d ∧ ∃ is : List Int, acc = is.map V.int ∧ is.length = i ∧ i ≤ 7 ∧ ∀ x ∈ is, 0 ≤ x ∧ x ≤ 99) (fun i acc Dl HA HB hDl cAB ⟨q1, q2⟩ => ⟨?_, q2⟩) (fun H' c => ⟨hd.keep c, [], rfl, rfl, by decide, fun _ z => nomatch z⟩) (fun i acc _ ⟨_, is, e, e2, e3, _⟩ => bigl (by rw [e]; simp; omega)) (fun i hi acc H' Yes No c q yes no => ?_) (fun hs acc H6 hhs c6 h6 q => ?_)
  · obtain ⟨ds, z1, z2⟩ := q1
    exact ⟨ds, cAB.ob _ _ (hd.off hDl |> fun z y => z (List.mem_singleton.mpr (List.mem_singleton.mp y).symm)) z1, z2⟩
  · obtain ⟨hd, is, e, e2, e3, e4⟩ := q
    walk_at "go"
    refine g_take hd (by decide) fun v1 H6 a0 a1 c6 hd => ?_
    walk_at "go"
    refine g_newL (big (by simp)) fun q H7 hq c7 h7 => ?_
    walk_at "go"
    refine g_take (hd.keep c7) (by decide) fun v2 H8 b0 b1 c8 hd8 => ?_
    obtain ⟨x, hx, x0, x1⟩ : ∃ x : Int, atI ([.int v1, .int 0, .int 99] : List V) v2 = some (.int x) ∧ 0 ≤ x ∧ x ≤ 99 := by
      have h : v2 = 0 ∨ v2 = 1 ∨ v2 = 2 := by omega
      rcases h with rfl | rfl | rfl
      · exact ⟨v1, rfl, by omega, by omega⟩
      · exact ⟨0, rfl, by decide, by decide⟩
      · exact ⟨99, rfl, by decide, by decide⟩
    refine g_ixL (c8.ob _ _ (hd.off hq) h7) hx ?_
    refine yes _ _ ((c6.trans c7.all).trans c8) ⟨hd8, is ++ [x], by rw [e]; simp, by simp [e2], by omega, fun y hy => ?_⟩
    rcases List.mem_append.mp hy with z | z
    · exact e4 y z
    · rw [List.mem_singleton.mp z]; exact ⟨x0, x1⟩
  obtain ⟨hd6, is, rfl, hisl, hisl2, hrng⟩ := q
  have hh : Hls H6 d hs is := ⟨h6, hd.off hhs, hrng⟩
  have hd := hd6
  have hn := (hn.keep c5).keep c6
  walk_at "go"
  refine ⟨d, r, hs, is, 3, nms, rfl, by decide, hd, hn, hh, fun vf H7 f c7 hd hf okf fz fd => ?_⟩
  have hn := hn.keep c7
  have hh := hh.keep c7
  walk_at "go"
  refine g_newL (big (by simp)) fun kp H8 hkp c8 h8 => ?_
  walk_at "go"
  refine g_newL (big (by simp)) fun vp H9 hvp c9 h9 => ?_
  walk_at "go"
  refine g_dnew fun gp HA hgp cA hA => ?_
  have hd := ((hd.keep c8).keep c9).keep cA
  have hn7 := hn
  have hn := ((hn.keep0 c8).keep0 c9).keep0 cA
  have hf7 := hf
  have hf := ((hf.up c8).up c9).up cA
  have hkd : kp ∉ [d] := by intro z; rw [List.mem_singleton.mp z] at hkp; exact (Dr.nn ‹Dr H7 d›) hkp
  have hvd : vp ∉ [d] := by
    intro z; rw [List.mem_singleton.mp z] at hvp
    exact (Dr.nn (Dr.keep ‹Dr H7 d› c8)) hvp
  have hgd : gp ∉ [d] := by
    intro z; rw [List.mem_singleton.mp z] at hgp
    exact (Dr.nn (Dr.keep (Dr.keep ‹Dr H7 d› c8) c9)) hgp
  have kv : kp ≠ vp := ne_of_none h8 hvp
  have kg : kp ≠ gp := ne_of_none (c9.at h8) hgp
  have vg : vp ≠ gp := ne_of_none h9 hgp
  have hvp7 := c8.free hvp
  have hgp7 := c8.free (c9.free hgp)
  have hhA : Hls HA d hs is := ((hh.keep c8.all).keep c9.all).keep cA.all
  have kvd0 : KVD HA kp vp gp [] [] [] := ⟨cA.at (c9.at h8), cA.at h9, hA, IsL.nil, rfl, List.nodup_nil, fun _ z => nomatch z⟩
  have c7A : Ext H7 HA := (c8.trans c9).trans cA
  walk_at "go"
  refine g_cut (M := fun σ H' => ∃ (ks : List Int) (ws : List V) (gs : List Fm) (o9 : Option V), σ = [some (.ref a), some (.ref r), some (.ref d), none, some (.ref hs), some vf, some (.ref kp), some (.ref vp), some (.ref gp), o9, none, none, none] ∧ IsF H' f vf ∧ KVD H' kp vp gp ks ws gs ∧ ks.length ≤ 20 ∧ H' hs = some (.lst (is.map V.int))) ?_ ?_
  · walk_at "go"
    refine g_take (m := 100) hd (by decide) fun z HB z0 z1 cB hd => ?_
    walk_at "go"
    refine g_newL (big (by simp)) fun q HC hq cC hC => ?_
    have hhC : Hls HC d hs is := (hhA.keep cB).keep cC.all
    have hi7 : is.length ≤ 7 := by omega
    refine g_cat hhC.at_ hC (by rw [sizeLine_eq]; simp; omega) fun t HD ht cD hDt => ?_
    have hxs : is.map V.int ++ [V.int z] = (is ++ [z]).map V.int := by simp
    rw [hxs] at hDt
    have hdD := (hd.keep cC).keep cD
    have cAD : Chg [d] HA HD := (cB.trans cC.all).trans cD.all
    have kvdD := kvd0.keep cAD hkd hvd hgd
    have tk : kp ≠ t := ne_of_none (cC.at ((kvd0.keep cB hkd hvd hgd).k)) ht
    have tv : vp ≠ t := ne_of_none (cC.at ((kvd0.keep cB hkd hvd hgd).v)) ht
    have tg : gp ≠ t := ne_of_none (cC.at ((kvd0.keep cB hkd hvd hgd).g)) ht
    have td : t ∉ [d] := (hd.keep cC).off ht
    refine g_forL (xs := (is ++ [z]).map V.int) (.inl (.inl hDt)) (fun i σ H' => ∃ (ks : List Int) (ws : List V) (gs : List Fm) (o9 : Option V), σ = [some (.ref a), some (.ref r), some (.ref d), none, some (.ref hs), some vf, some (.ref kp), some (.ref vp), some (.ref gp), o9, none, none, none] ∧ Chg [d] H7 H' ∧ Dr H' d ∧ KVD H' kp vp gp ks ws gs ∧ ks.length ≤ i ∧ H' t = some (.lst ((is ++ [z]).map V.int))) ⟨[], [], [], none, rfl, c7A.all.trans cAD, hdD, kvdD, Nat.zero_le _, hDt⟩ (fun i σ H' _ ⟨_, _, _, _, _, _, _, _, _, e⟩ => .inl (.inl e)) ?_ ?_
    · rintro i x σ H' hi ⟨ks, ws, gs, o9, rfl, c, hd, kd, kl, ht'⟩
      obtain ⟨n, hn1, rfl⟩ := ints_get hi
      have hi8 : i < 8 := by
        have := (List.getElem?_eq_some_iff.mp hn1).1
        simp at this; omega
      walk_at "go"
      refine g_notInI kd.k ?_
      walk_at "go"
      by_cases hm : n ∈ ks
      · rw [decide_eq_true hm]
        walk_at "go"
        exact ⟨ks, ws, gs, _, rfl, c, hd, kd, by omega, ht'⟩
      rw [decide_eq_false hm]
      walk_at "go"
      refine g_take hd (by decide) fun u HE u0 u1 cE hd => ?_
      have kd := kd.keep cE hkd hvd hgd
      have ht' := cE.ob _ _ td ht'
      have cE7 := c.trans cE
      have hkE := kd.k
      walk_at "go"
      refine g_2 (fun b => ?_) (fun b => ?_)
      · walk_at "go"
        refine g_appD hkp hkd cE7 hd kd.k (by simp; omega) fun HF cF hd hF cEF => ?_
        have hvF := cEF.ob _ _ (by intro z; exact kv (List.mem_singleton.mp z).symm) kd.v
        have hgF := cEF.ob _ _ (by intro z; exact kg (List.mem_singleton.mp z).symm) kd.g
        have htF := cEF.ob _ _ (by intro z; exact tk (List.mem_singleton.mp z).symm) ht'
        walk_at "go"
        refine ⟨d, r, hs, is, 2, nms, rfl, by decide, hd, hn7.keep cF, hh.keep cF, fun v HG g cG hd hg okg gz gd => ?_⟩
        have hkG := cG.ob _ _ hkd hF
        have hvG := cG.ob _ _ hvd hvF
        have hgG := cG.ob _ _ hgd hgF
        have htG := cG.ob _ _ td htF
        walk_at "go"
        refine g_appD hvp7 hvd (cF.trans cG) hd hvG (by have := kd.wl; omega) fun HI cI hd hI cGI => ?_
        have hkI := cGI.ob _ _ (by intro z; exact kv (List.mem_singleton.mp z)) hkG
        have hgI := cGI.ob _ _ (by intro z; exact vg (List.mem_singleton.mp z).symm) hgG
        have htI := cGI.ob _ _ (by intro z; exact tv (List.mem_singleton.mp z).symm) htG
        walk_at "go"
        refine g_ixL hI atI_last ?_
        walk_at "go"
        refine ⟨gp, _, rfl, .inl ⟨_, .inl n, hgI, rfl, bigl (by rw [kvsOf_len kd.wl]; omega), rfl⟩, ?_⟩
        rw [putK_none (kvsOf_none hm), ← kvsOf_snoc n v kd.wl]
        have cJ : Chg [gp] HI (upd HI gp (.dK (kvsOf (ks ++ [n]) (ws ++ [v])))) := (Chg.refl _).set (List.mem_singleton.mpr rfl) hgI (by intro xs z; cases z) _
        have cK := cI.own hgp7 (.dK (kvsOf (ks ++ [n]) (ws ++ [v])))
        have hgJ : upd HI gp (.dK (kvsOf (ks ++ [n]) (ws ++ [v]))) gp = _ := upd_same
        generalize upd HI gp (.dK (kvsOf (ks ++ [n]) (ws ++ [v]))) = HJ at *
        have hdJ : Dr HJ d := by
          obtain ⟨ds, e1, e2⟩ := hd
          exact ⟨ds, cJ.ob _ _ (by intro z; rw [List.mem_singleton.mp z] at hgd; exact hgd (List.mem_singleton.mpr rfl)) e1, e2⟩
        refine ⟨ks ++ [n], ws ++ [v], gs ++ [g], _, rfl, cK, hdJ, ⟨?_, ?_, hgJ, ?_, by simp [kd.l], ?_, ?_⟩, by simp; omega, ?_⟩
        · rw [List.map_append]; exact cJ.ob _ _ (by intro z; exact kg (List.mem_singleton.mp z)) hkI
        · exact cJ.ob _ _ (by intro z; exact vg (List.mem_singleton.mp z)) hI
        · exact IsFs.snoc (IsL.up cJ (IsL.up cGI (IsL.up cG (IsL.up cEF kd.f)))) ((hg.up cGI).up cJ)
        · exact List.nodup_append.mpr ⟨kd.nd, List.nodup_cons.mpr ⟨by simp, List.nodup_nil⟩, by
            intro x hx y hy
            rw [List.mem_singleton.mp hy]
            intro z
            exact hm (z ▸ hx)⟩
        · intro x hx
          rcases List.mem_append.mp hx with z | z
          · exact kd.sz x z
          · rw [List.mem_singleton.mp z]; exact ⟨by omega, by omega⟩
        · exact cJ.ob _ _ (by intro z; exact tg (List.mem_singleton.mp z).symm) htI
      · walk_at "go"
        exact ⟨ks, ws, gs, _, rfl, cE7, hd, kd, by omega, ht'⟩
    · rintro σ H' ⟨ks, ws, gs, o9, rfl, c, hd, kd, kl, ht'⟩
      walk_at "go"
      refine ⟨ks, ws, gs, o9, rfl, ?_, kd, ?_, c.ob _ _ hh.ne hh.at_⟩
      · exact hf7.up c
      · simp at kl; omega
  · rintro σ H' ⟨ks, ws, gs, o9, rfl, hf, kd, kl, hhs'⟩
    have fillz : (f.fill (look ks gs)).size ≤ 100000 := by
      have := Fm.fill_size (m := look ks gs) (B := 13) (by decide) (fun n g e => (kd.sz g (look_mem e)).1) f
      omega
    have filld : (f.fill (look ks gs)).depth ≤ 30 := by
      have := Fm.fill_depth (m := look ks gs) (B := 3) (by decide) (fun n g e => (kd.sz g (look_mem e)).2) f
      omega
    refine g_cut (M := fun σ H2 => ∃ (o3 o9 oA : Option V), σ = [some (.ref a), some (.ref r), some (.ref d), o3, some (.ref hs), some vf, some (.ref kp), some (.ref vp), some (.ref gp), o9, oA, none, none] ∧ Ext H' H2) ?_ ?_
    · walk_at "go"
      refine g_forR (by decide) (fun i σ H2 => ∃ (o3 o9 oA : Option V), σ = [some (.ref a), some (.ref r), some (.ref d), o3, some (.ref hs), some vf, some (.ref kp), some (.ref vp), some (.ref gp), o9, oA, none, none] ∧ Ext H' H2) ⟨none, o9, none, rfl, Chg.refl _⟩ ?_ ?_
      · rintro i σ H2 hi ⟨o3, o9, oA, rfl, c⟩
        have kd := kd.keep c (by simp) (by simp) (by simp)
        walk_at "go"
        refine ⟨vf, gp, f, look ks gs, rfl, hf.up c, kd.dic, by omega, by omega, fun w1 H3 c3 hw1 => ?_⟩
        have kd := kd.keep c3 (by simp) (by simp) (by simp)
        walk_at "go"
        refine ⟨vf, kp, vp, f, ks, ws, gs, rfl, (hf.up c).up c3, by omega, by omega, kd.k, kd.v, kd.f, kd.l, by omega, fun w2 H4 c4 hw2 => ?_⟩
        have kd := kd.keep c4 (by simp) (by simp) (by simp)
        refine ⟨w1, w2, f.fill (look ks gs), rfl, hw1.up c4, hw2, fillz, filld, ?_⟩
        have hk4 := kd.k
        have hv4 := kd.v
        walk_at "go"
        refine g_lenD kd.g ?_
        walk_at "go"
        rw [decide_eq_true (show (((kvsOf ks ws).length : Nat) : Int) = ((ks.map V.int).length : Nat) by rw [kvsOf_len kd.wl]; simp)]
        walk_at "go"
        have hll : (((ks.map V.int).length : Nat) : Int) = (ks.length : Int) := by simp
        have c14 := (c.trans c3).trans c4
        refine g_forR (by omega) (fun j σ H5 => ∃ (oA : Option V), σ = [some (.ref a), some (.ref r), some (.ref d), some (.int (i : Int)), some (.ref hs), some vf, some (.ref kp), some (.ref vp), some (.ref gp), o9, oA, none, none] ∧ H5 = H4) ⟨oA, rfl, rfl⟩ ?_ ?_
        · rintro j σ H5 hj ⟨oA, rfl, rfl⟩
          have hjk : j < ks.length := by omega
          have hx : ks[j]? = some ks[j] := List.getElem?_eq_getElem hjk
          have hgj : gs[j]? = some (gs[j]'(by have := kd.l; omega)) := List.getElem?_eq_getElem _
          obtain ⟨w, hw1, hw2⟩ := kd.f.get' hgj
          have hsz := kd.sz _ (List.mem_of_getElem? hgj)
          walk_at "go"
          refine g_ixL hk4 (atI_nat (by rw [List.getElem?_map, hx]; rfl)) ?_
          walk_at "go"
          have hget := kvsOf_get kd.nd hx hw1
          refine ⟨gp, _, rfl, DGet.int kd.g, ?_⟩
          rw [hget]
          show ∃ k, V.bl (!true) = .bl k ∧ _
          walk_at "go"
          refine g_ixL hk4 (atI_nat (by rw [List.getElem?_map, hx]; rfl)) ?_
          refine ⟨gp, w, rfl, by rw [← hget]; exact DGet.int kd.g, ?_⟩
          walk_at "go"
          refine g_ixL hv4 (atI_nat hw1) ?_
          walk_at "go"
          refine ⟨w, w, _, rfl, hw2, hw2, by omega, by omega, ?_⟩
          walk_at "go"
          exact ⟨_, rfl, rfl⟩
        · rintro σ H5 ⟨oA, rfl, rfl⟩
          exact ⟨_, o9, oA, rfl, c14⟩
      · rintro σ H2 ⟨o3, o9, oA, rfl, c⟩
        exact ⟨o3, o9, oA, rfl, c⟩
    · rintro σ H2 ⟨o3, o9, oA, rfl, c⟩
      have hf := hf.up c
      have hh2 := c.at hhs'
      -- the end: the empty dict
      have fin : ∀ (D : Ends) (oB oC : Option V) (H5 : Hp), D.rt = Q → IsF H5 f vf →
          (tRet (tCall (sp_same K 30) [] E0 (tCons (tCall (sp_fill K 30) [] E0 (tCons (tVar 5) (tCons tDNewK tNil))) (tCons (tVar 5) tNil)))) D [some (.ref a), some (.ref r), some (.ref d), o3, some (.ref hs), some vf, some (.ref kp), some (.ref vp), some (.ref gp), o9, oA, oB, oC] H5 := by
        intro D oB oC H5 hD hf
        subst hD
        walk_at "go"
        refine g_dnew fun e H6 he c6 h6 => ?_
        walk_at "go"
        refine ⟨vf, e, f, fun _ => none, rfl, hf.up c6, ⟨[], h6, fun n => .inl ⟨rfl, rfl⟩⟩, by omega, by omega, fun w H7 c7 hw => ?_⟩
        walk_at "go"
        rw [Fm.fill_none] at hw
        exact ⟨w, vf, f, rfl, hw, (hf.up c6).up c7, by omega, by omega, k H7⟩
      walk_at "go"
      refine g_2 (fun b => ?_) (fun b => ?_)
      · have b : (1 : Int) < ((is.map V.int).length : Nat) := of_decide_eq_true b
        obtain ⟨h0, h1, is2, rfl⟩ : ∃ x y r, is = x :: y :: r := by
          match is, b with
          | x :: y :: r, _ => exact ⟨x, y, r, rfl⟩
          | [x], b => simp at b
          | [], b => simp at b
        walk_at "go"
        refine g_disp fun e H5 he c5 h5 => ?_
        have hh5 := c5.at hh2
        show tOp (rIxL K) (tVar 4) (tC (.int 0)) _ H5 _
        walk_at "go"
        refine g_ixL hh5 (atI_nat (j := 0) rfl) ?_
        show tOp (rIxL K) (tVar 4) (tC (.int 1)) _ H5 _
        walk_at "go"
        refine g_ixL hh5 (atI_nat (j := 1) rfl) ?_
        refine ⟨h5, [(.inl h0, .int h1)], rfl, by simp, ?_⟩
        rw [disp_one]
        have c6 : Chg [] H2 (upd H5 e (.dK [(.inl h0, .int h1)])) := c5.own he _
        have h6 : upd H5 e (.dK [(.inl h0, .int h1)]) e = _ := upd_same
        generalize upd H5 e (.dK [(.inl h0, .int h1)]) = H6 at *
        have hh6 := c6.at hh2
        walk_at "go"
        refine g_ixL hh6 (atI_nat (j := 0) rfl) ?_
        walk_at "go"
        refine g_ixL hh6 (atI_nat (j := 1) rfl) ?_
        refine ⟨e, _, rfl, .inl ⟨_, .inl h1, h6, rfl, by rw [sizeLine_eq]; simp, rfl⟩, ?_⟩
        have c7 : Chg [] H2 (upd H6 e (.dK (putK [(.inl h0, .int h1)] (.inl h1) (.int h0)))) := c6.own he _
        have h7 : upd H6 e (.dK (putK [(.inl h0, .int h1)] (.inl h1) (.int h0))) e = _ := upd_same
        generalize upd H6 e (.dK (putK [(.inl h0, .int h1)] (.inl h1) (.int h0))) = H7 at *
        have hh7 := c7.at hh2
        have hf7 := hf.up c7
        have dic : Dic H7 e (look [h1, h0] [.hole h0, .hole h1]) := by
          refine ⟨_, h7, fun n => ?_⟩
          rw [valV_put]
          unfold look
          by_cases e1 : h1 = n
          · subst e1
            rw [if_pos rfl, if_pos rfl]
            exact .inr ⟨_, _, rfl, rfl, IsF.hole.mpr rfl⟩
          · rw [if_neg (fun z => e1 (Sum.inl.inj z).symm), if_neg e1]
            unfold look
            by_cases e2 : h0 = n
            · subst e2
              rw [if_pos rfl, valV_pos rfl]
              exact .inr ⟨_, _, rfl, rfl, IsF.hole.mpr rfl⟩
            · rw [if_neg e2, valV_neg (inl_ne e2)]
              exact .inl ⟨rfl, by simp [look]⟩
        walk_at "go"
        refine ⟨hs, .int h0, .int h1, is2.map V.int, rfl, .inl (.inl hh7), fun u hu => ?_⟩
        have c8 : Ext H7 (upd H7 u (.lst [.int h1, .int h0])) := Chg.new hu _
        have h8 : upd H7 u (.lst [.int h1, .int h0]) u = _ := upd_same
        generalize upd H7 u (.lst [.int h1, .int h0]) = H8 at *
        walk_at "go"
        refine g_slL (.inl (.inl (c8.at hh7))) fun y H9 hy c9 h9 => ?_
        have h9 : H9 y = some (.lst [.int h0, .int h1]) := by rw [h9]; simp [cutV, HT.sIx]
        walk_at "go"
        have c79 := c8.trans c9
        refine ⟨vf, u, y, f, [h1, h0], [.int h0, .int h1], [.hole h0, .hole h1], rfl, hf7.up c79, by omega, by omega, c9.at h8, h9, ?_, rfl, by simp, fun w1 HA cA hw1 => ?_⟩
        · unfold IsFs; simp only [Fm.ds]; exact IsL.cons (IsF.hole.mpr rfl) (IsL.one (IsF.hole.mpr rfl))
        have hb : ∀ n g, look [h1, h0] [.hole h0, .hole h1] n = some g → g.size ≤ 1 ∧ g.depth ≤ 1 := by
          intro n g e
          have := look_mem e
          simp only [List.mem_cons, List.not_mem_nil, or_false] at this
          rcases this with rfl | rfl <;> exact ⟨Nat.le_refl _, Nat.le_refl _⟩
        have z1 := Fm.fill_size (B := 1) (by decide) (fun n g e => (hb n g e).1) f
        have z2 := Fm.fill_depth (B := 1) (by decide) (fun n g e => (hb n g e).2) f
        have c7A := c79.trans cA
        walk_at "go"
        refine ⟨vf, e, f, _, rfl, hf7.up c7A, dic.keep c7A, by omega, by omega, fun w2 HB cB hw2 => ?_⟩
        walk_at "go"
        refine ⟨w2, w1, _, rfl, hw2, hw1.up cB, by omega, by omega, ?_⟩
        walk_at "g1"
        walk_at "g1"
        walk_at "g1"
        walk_at "g1"
        exact fin _ _ _ _ rfl (hf7.up (c7A.trans cB))
      · walk_at "g1"
        exact fin _ none none _ rfl hf
end My

namespace Prog
open PySem PySem.Spec PyProof.Rows L2 My
def top (i : Nat) : Stmt := PySem.Challenge.pw_signbysign_k04_fill_a_form.main.body.getD i (.Pass ⟨0, 0, 0, 0⟩)
abbrev FnP (K : PySem.W.Frag) (x q : Str) (st : Stmt) (f : Addr) (fd : FuncData) : Prop := FunD K x q (defArgs st) (defBody st) (defScope st) [] [] f fd
abbrev s_take : Stmt := (top 4)
theorem sc_take : FnScope N_take ["_law_draws", "_law_many"] (defScope s_take) := ⟨rfl, rfl, rfl, by decide +kernel, rfl, by decide +kernel, by decide +kernel⟩
def d_take : DefM := ⟨wFn "_law_take", "_law_take", "_law_take", defArgs s_take, defBody s_take, defScope s_take, []⟩
abbrev s_stream : Stmt := (top 3)
theorem sc_stream : FnScope N_stream ["_law_script"] (defScope s_stream) := ⟨rfl, rfl, rfl, by decide +kernel, rfl, by decide +kernel, by decide +kernel⟩
def d_stream : DefM := ⟨wFn "_law_stream", "_law_stream", "_law_stream", defArgs s_stream, defBody s_stream, defScope s_stream, []⟩
abbrev s_names : Stmt := (top 5)
theorem sc_names : FnScope N_names ["_law_cells"] (defScope s_names) := ⟨rfl, rfl, rfl, by decide +kernel, rfl, by decide +kernel, by decide +kernel⟩
def d_names : DefM := ⟨wFn "_law_names", "_law_names", "_law_names", defArgs s_names, defBody s_names, defScope s_names, []⟩
abbrev s_fill : Stmt := (top 1)
theorem sc_fill : FnScope N_fill ["form", "parts"] (defScope s_fill) := ⟨rfl, rfl, rfl, by decide +kernel, rfl, by decide +kernel, by decide +kernel⟩
def d_fill : DefM := ⟨wFn "fill_form", "fill_form", "fill_form", defArgs s_fill, defBody s_fill, defScope s_fill, []⟩
abbrev s_same : Stmt := (top 6)
theorem sc_same : FnScope N_same ["_law_answer", "_law_due_here"] (defScope s_same) := ⟨rfl, rfl, rfl, by decide +kernel, rfl, by decide +kernel, by decide +kernel⟩
def d_same : DefM := ⟨wFn "_law_same", "_law_same", "_law_same", defArgs s_same, defBody s_same, defScope s_same, []⟩
abbrev s_wide : Stmt := (top 7)
theorem sc_wide : FnScope N_wide ["_law_draws", "_law_names_here", "_law_holes", "_law_depth"] (defScope s_wide) := ⟨rfl, rfl, rfl, by decide +kernel, rfl, by decide +kernel, by decide +kernel⟩
def d_wide : DefM := ⟨wFn "_law_wide", "_law_wide", "_law_wide", defArgs s_wide, defBody s_wide, defScope s_wide, []⟩
abbrev s_ldue : Stmt := (top 8)
theorem sc_ldue : FnScope N_ldue ["_law_form", "_law_keys", "_law_values"] (defScope s_ldue) := ⟨rfl, rfl, rfl, by decide +kernel, rfl, by decide +kernel, by decide +kernel⟩
def d_ldue : DefM := ⟨wFn "_law_due", "_law_due", "_law_due", defArgs s_ldue, defBody s_ldue, defScope s_ldue, []⟩
abbrev s_law : Stmt := (top 9)
theorem sc_law : FnScope N_law ["_law_script"] (defScope s_law) := ⟨rfl, rfl, rfl, by decide +kernel, rfl, by decide +kernel, by decide +kernel⟩
def d_law : DefM := ⟨wFn "law", "law", "law", defArgs s_law, defBody s_law, defScope s_law, []⟩
def fn : List DefM := [d_take, d_stream, d_names, d_fill, d_same, d_wide, d_ldue, d_law]
def ex : List Ex := []
def fa : List He.Fa := [.glo "_law_take", .glo "_law_stream", .glo "_law_names", .glo "fill_form", .glo "_law_same", .glo "_law_wide", .glo "_law_due", .glo "law", .free "int", .free "len", .free "abs", .free "range", .free "sum", .free "isinstance", .free "bool", .free "str", .free "tuple"]
section
variable {P : Program} {w : World} {K : PySem.W.Frag} {mg : Str → Option Value} {base : Heap} {h : Heap}
theorem ok_take (X : K.In h) (G : h.Ns mainGlobals mg) (c : SaysM fa fn ex K) : Cl P w K mg base CX0 1 "_law_take" (sp_take K) := by
  obtain ⟨fd, F⟩ := c.def_ 0 (d := d_take) rfl
  have f_int := He.free_ok X G (c.fact 8 (f := .free "int") rfl)
  have f_len := He.free_ok X G (c.fact 9 (f := .free "len") rfl)
  refine ⟨_, fd, ["_law_draws", "_law_many"], F.ok sc_take (fun vs H Q E h => len_take h) (fun cdv A outer s H vs Q E hr h => ⟨t_take K, PSs.nox ?_, rd_take h⟩), He.glo_ok X G (c.fact 0 (f := .glo "_law_take") rfl), F.kp, FunD.bindsN F (fun _ _ _ _ _ _ us hl => match us, hl with | [_, _], _ => rfl)⟩
  exact (pss_cons (ps_if (pt_cmpR op_eq (pe_callB call_len_seq rfl f_len boot_len (pa_cons (pv 0) pa_nil)) pe_int (nomark _)) (pss_one (ps_ret pe_int))
    pss_nil)
    (pss_one (ps_ret (pe_op op_mod (pe_callTy call_int1 rfl f_int boot_int (pa_cons (pe_bm PySem.F.plainAttrs_list PySem.F.slot_list_pop PySem.F.type_list_pop mt_popAt (pv 0) (pa_cons pe_int pa_nil)) pa_nil)) (pv 1)))))
theorem ok_stream (X : K.In h) (G : h.Ns mainGlobals mg) (c : SaysM fa fn ex K) : Cl P w K mg base CX0 1 "_law_stream" (sp_stream K) := by
  obtain ⟨fd, F⟩ := c.def_ 1 (d := d_stream) rfl
  have f_abs := He.free_ok X G (c.fact 10 (f := .free "abs") rfl)
  have f_int := He.free_ok X G (c.fact 8 (f := .free "int") rfl)
  have f_len := He.free_ok X G (c.fact 9 (f := .free "len") rfl)
  have f_range := He.free_ok X G (c.fact 11 (f := .free "range") rfl)
  refine ⟨_, fd, ["_law_script"], F.ok sc_stream (fun vs H Q E h => len_stream h) (fun cdv A outer s H vs Q E hr h => ⟨t_stream K, PSs.nox ?_, rd_stream h⟩), He.glo_ok X G (c.fact 1 (f := .glo "_law_stream") rfl), F.kp, FunD.bindsN F (fun _ _ _ _ _ _ us hl => match us, hl with | [_], _ => rfl)⟩
  exact (pss_cons (ps_set (i := 1) sc_stream.nd rfl (Or.inl rfl) (pe_lst pa_nil))
    (pss_cons (ps_set (i := 2) sc_stream.nd rfl (Or.inl rfl) pe_int)
    (pss_cons (ps_for PassesOwn.never rfl (pi_list (pv 0)) (pg_name (i := 3) sc_stream.nd rfl (Or.inl rfl))
    (pss_cons (ps_set (i := 4) sc_stream.nd rfl (Or.inl rfl) (pe_callB call_abs rfl f_abs boot_abs (pa_cons (pe_callTy call_int1 rfl f_int boot_int (pa_cons (pv 3) pa_nil)) pa_nil)))
    (pss_cut (ps_if (pt_cmpR op_lt (pv 4) (pe_op op_pow pe_int pe_int) (nomark _)) (pss_cons (ps_expr (pe_bm PySem.F.plainAttrs_list PySem.F.slot_list_append PySem.F.type_list_append mt_append (pv 1) (pa_cons (pe_op op_mod (pe_callTy call_int1 rfl f_int boot_int (pa_cons (pv 3) pa_nil)) pe_int) pa_nil)))
    (pss_one (ps_set (i := 4) sc_stream.nd rfl (Or.inl rfl) pe_int)))
    pss_nil)
    (pss_cons (ps_for PassesOwn.never rfl (pi_range1 rfl f_range (pa_cons pe_int pa_nil)) (pg_name (i := 5) sc_stream.nd rfl (Or.inl rfl))
    (pss_one (ps_if (pt_cmpR op_gt (pv 4) pe_int (nomark _)) (pss_cons (ps_expr (pe_bm PySem.F.plainAttrs_list PySem.F.slot_list_append PySem.F.type_list_append mt_append (pv 1) (pa_cons (pe_op op_mod (pe_callTy call_int1 rfl f_int boot_int (pa_cons (pv 4) pa_nil)) pe_int) pa_nil)))
    (pss_one (ps_set (i := 4) sc_stream.nd rfl (Or.inl rfl) (pe_op op_fdiv (pv 4) pe_int))))
    pss_nil)))
    (pss_one (ps_set (i := 2) sc_stream.nd rfl (Or.inl rfl) (pe_op op_add (pe_op op_mod (pe_callTy call_int1 rfl f_int boot_int (pa_cons (pe_op op_add (pe_op op_mul (pv 2) pe_int) (pe_callTy call_int1 rfl f_int boot_int (pa_cons (pv 3) pa_nil))) pa_nil)) pe_int) pe_int)))))))
    (pss_cons (ps_set (i := 6) sc_stream.nd rfl (Or.inl rfl) (pe_op op_add (pe_op op_mul (pv 2) pe_int) pe_int))
    (pss_cons (ps_for PassesOwn.never rfl (pi_range1 rfl f_range (pa_cons (pe_op op_mul pe_int (pe_callTy call_int1 rfl f_int boot_int (pa_cons (pe_cmpR op_gt (pe_callB call_len_seq rfl f_len boot_len (pa_cons (pv 0) pa_nil)) pe_int (nomark _)) pa_nil))) pa_nil)) (pg_name (i := 5) sc_stream.nd rfl (Or.inl rfl))
    (pss_cons (ps_set (i := 2) sc_stream.nd rfl (Or.inl rfl) (pe_op op_mod (pe_callTy call_int1 rfl f_int boot_int (pa_cons (pe_op op_mul (pv 2) pe_int) pa_nil)) pe_int))
    (pss_cons (ps_set (i := 6) sc_stream.nd rfl (Or.inl rfl) (pe_op op_mod (pe_callTy call_int1 rfl f_int boot_int (pa_cons (pe_op op_mul (pv 6) pe_int) pa_nil)) pe_int))
    (pss_one (ps_expr (pe_bm PySem.F.plainAttrs_list PySem.F.slot_list_append PySem.F.type_list_append mt_append (pv 1) (pa_cons (pe_op op_mod (pe_callTy call_int1 rfl f_int boot_int (pa_cons (pe_op op_add (pe_op op_fdiv (pv 2) pe_int) (pe_op op_fdiv (pv 6) pe_int)) pa_nil)) pe_int) pa_nil)))))))
    (pss_one (ps_ret (pe_slice sl_list (pv 1) po_none (po_some pe_int)))))))))
theorem ok_names (X : K.In h) (G : h.Ns mainGlobals mg) (c : SaysM fa fn ex K) : Cl P w K mg base CX0 1 "_law_names" (sp_names K) := by
  obtain ⟨fd, F⟩ := c.def_ 2 (d := d_names) rfl
  have f_abs := He.free_ok X G (c.fact 10 (f := .free "abs") rfl)
  have f_int := He.free_ok X G (c.fact 8 (f := .free "int") rfl)
  have f_range := He.free_ok X G (c.fact 11 (f := .free "range") rfl)
  have f_sum := He.free_ok X G (c.fact 12 (f := .free "sum") rfl)
  refine ⟨_, fd, ["_law_cells"], F.ok sc_names (fun vs H Q E h => len_names h) (fun cdv A outer s H vs Q E hr h => ⟨t_names K, PSs.nox ?_, rd_names h⟩), He.glo_ok X G (c.fact 2 (f := .glo "_law_names") rfl), F.kp, FunD.bindsN F (fun _ _ _ _ _ _ us hl => match us, hl with | [_], _ => rfl)⟩
  exact (pss_cons (ps_set (i := 1) sc_names.nd rfl (Or.inr rfl) pe_str)
    (pss_cons (ps_set (i := 2) sc_names.nd rfl (Or.inl rfl) (pe_callB call_abs rfl f_abs boot_abs (pa_cons (pe_callB (cr_sum rfl) rfl f_sum boot_sum (pa_cons (pe_lc (own := [("_law_cell", 12)]) (g := (gName 12)) (tt := tYes) rfl sc_names.nd  (pi_list (pv 0)) (blkOk_by (own := [("_law_cell", 12)]) (N := N_names) (sc := defScope s_names) (by decide +kernel)) (fun _ _ _ _ _ => pg_name (i := 12) sc_names.nd rfl (Or.inl rfl)) (fun _ _ _ _ _ => pts_nil) (fun _ _ _ _ _ => (pe_callTy call_int1 rfl f_int boot_int (pa_cons (pv 12) pa_nil)))) pa_nil)) pa_nil)))
    (pss_cut (ps_if (PW.pt (pw_and (pt_cmpR op_lt pe_int (pv 2) (nomark _)) (pw_and1 (pt_cmpR op_lt (pv 2) (pe_op op_pow pe_int pe_int) (nomark _))))) (pss_one (ps_set (i := 2) sc_names.nd rfl (Or.inl rfl) (pe_op op_pow (pe_op op_add (pv 2) pe_int) pe_int)))
    pss_nil)
    (pss_cons (ps_set (i := 3) sc_names.nd rfl (Or.inl rfl) (pe_ix ix_list (pe_lst (pa_cons pe_int (pa_cons pe_int (pa_cons pe_int (pa_cons pe_int (pa_cons pe_int (pa_cons pe_int (pa_cons pe_int (pa_cons pe_int (pa_cons pe_int (pa_cons pe_int (pa_cons pe_int (pa_cons pe_int pa_nil))))))))))))) (pe_op op_mod (pe_callTy call_int1 rfl f_int boot_int (pa_cons (pv 2) pa_nil)) pe_int) (fun _ _ => rfl)))
    (pss_cons (ps_set (i := 4) sc_names.nd rfl (Or.inl rfl) (pe_op op_mod (pe_callTy call_int1 rfl f_int boot_int (pa_cons (pe_op op_fdiv (pv 2) pe_int) pa_nil)) pe_int))
    (pss_cons (ps_set (i := 5) sc_names.nd rfl (Or.inl rfl) (pe_op op_mod (pe_callTy call_int1 rfl f_int boot_int (pa_cons (pe_op op_fdiv (pv 2) pe_int) pa_nil)) pe_int))
    (pss_cons (ps_set (i := 2) sc_names.nd rfl (Or.inl rfl) (pe_op op_fdiv (pv 2) pe_int))
    (pss_cons (ps_set (i := 6) sc_names.nd rfl (Or.inr rfl) (pe_lst pa_nil))
    (pss_cons (ps_for PassesOwn.never rfl (pi_range1 rfl f_range (pa_cons pe_int pa_nil)) (pg_name (i := 7) sc_names.nd rfl (Or.inl rfl))
    (pss_cons (ps_set (i := 8) sc_names.nd rfl (Or.inl rfl) (pe_ix ix_str (pv 1) (pe_op op_mod (pe_callTy call_int1 rfl f_int boot_int (pa_cons (pe_op op_add (pe_op op_mul (pv 7) (pv 3)) (pv 4)) pa_nil)) pe_int) (fun _ _ => rfl)))
    (pss_cons (ps_set (i := 9) sc_names.nd rfl (Or.inl rfl) (pe_slice sl_str (pe_slice sl_str (pe_op op_add_str (pv 1) (pv 1)) (po_some (pe_op op_mod (pe_callTy call_int1 rfl f_int boot_int (pa_cons (pv 2) pa_nil)) pe_int)) po_none) po_none (po_some (pe_op op_mod (pe_callTy call_int1 rfl f_int boot_int (pa_cons (pe_op op_fdiv (pv 2) pe_int) pa_nil)) pe_int))))
    (pss_cons (ps_expr (pe_bm PySem.F.plainAttrs_list PySem.F.slot_list_append PySem.F.type_list_append mt_append (pv 6) (pa_cons (pe_ix ix_list (pe_lst (pa_cons (pe_op op_add_str (pv 8) (pv 9)) (pa_cons (pe_op op_add_str (pv 9) (pv 8)) pa_nil))) (pv 5) (fun _ _ => rfl)) pa_nil)))
    (pss_one (ps_set (i := 2) sc_names.nd rfl (Or.inl rfl) (pe_op op_fdiv (pv 2) pe_int)))))))
    (pss_cons (ps_setLc (i := 10) (own := [("_law_k", 7)]) (g := (gName 7)) (tt := tYes) rfl sc_names.nd rfl rfl (sw_true rfl rfl rfl (by decide +kernel)) (pi_range1 rfl f_range (pa_cons pe_int pa_nil)) (blkOk_by (own := [("_law_k", 7)]) (N := N_names) (sc := defScope s_names) (by decide +kernel)) (fun _ _ _ _ _ => pg_name (i := 7) sc_names.nd rfl (Or.inl rfl)) (fun _ _ _ _ _ => pts_nil) (fun _ _ _ _ _ => (pe_op op_add_str (pe_ix ix_str (pv 1) (pe_op op_mod (pe_callTy call_int1 rfl f_int boot_int (pa_cons (pv 7) pa_nil)) pe_int) (fun _ _ => rfl)) (pe_ix ix_str (pv 1) (pe_op op_mod (pe_callTy call_int1 rfl f_int boot_int (pa_cons (pe_op op_add (pe_op op_add (pe_op op_mul (pv 7) pe_int) (pe_op op_fdiv (pv 7) pe_int)) pe_int) pa_nil)) pe_int) (fun _ _ => rfl)))))
    (pss_one (ps_ret (pe_op op_cat (pv 6) (pe_lc (own := [("_law_name", 11)]) (g := (gName 11)) (tt := (tTest (tOp (rIn K true) (tVar 11) (tVar 6)))) rfl sc_names.nd  (pi_list (pv 10)) (blkOk_by (own := [("_law_name", 11)]) (N := N_names) (sc := defScope s_names) (by decide +kernel)) (fun _ _ _ _ _ => pg_name (i := 11) sc_names.nd rfl (Or.inl rfl)) (fun _ _ _ _ _ => pts_one (pt_cmpR op_notIn_seq (pv 11) (pv 6) (by with_unfolding_all rfl))) (fun _ _ _ _ _ => (pv 11))))))))))))))))
theorem ok_fill (X : K.In h) (G : h.Ns mainGlobals mg) (c : SaysM fa fn ex K) : ∀ n : Nat, Cl P w K mg base CX0 (0 + n) "fill_form" (sp_fill K n) := by
  obtain ⟨fd, F⟩ := c.def_ 3 (d := d_fill) rfl
  have f_int := He.free_ok X G (c.fact 8 (f := .free "int") rfl)
  have f_isinstance := He.free_ok X G (c.fact 13 (f := .free "isinstance") rfl)
  have gl := He.glo_ok X G (c.fact 3 (f := .glo "fill_form") rfl)
  have bd := FunD.bindsN (ps := ["form", "parts"]) F (fun _ _ _ _ _ _ us hl => match us, hl with | [_, _], _ => rfl)
  intro n
  induction n with
  | zero => exact ⟨_, fd, ["form", "parts"], ⟨fun vs H Q E h => absurd h (no_fill vs H Q E), fun A outer s H args us vs Q E _ _ _ _ h => absurd h (no_fill vs H Q E)⟩, gl, F.kp, bd⟩
  | succ n ih =>
    refine ⟨_, fd, ["form", "parts"], F.ok (k := 0 + n) sc_fill (fun vs H Q E h => len_fill h) (fun cdv A outer s H vs Q E hr h => ⟨t_fill K (sp_fill K n), PSs.nox ?_, rd_fill h⟩), gl, F.kp, bd⟩
    exact (pss_cons (ps_if (pt_val (pe_callB call_isi rfl f_isinstance boot_isinstance (pa_cons (pv 0) (pa_cons (pe_bltn rfl f_int boot_int rfl) pa_nil)))) (pss_one (ps_ret (pe_dget2 (hu_of hr) (pv 1) (pv 0) (pv 0) ⟨rfl, rfl, rfl, rfl⟩)))
    pss_nil)
    (pss_cons (ps_setLc (i := 2) (own := [("part", 3)]) (g := (gName 3)) (tt := tYes) rfl sc_fill.nd rfl rfl (sw_true rfl rfl rfl (by decide +kernel)) (pi_tup (pe_slice sl_tup (pv 0) (po_some pe_int) po_none)) (blkOk_by (own := [("part", 3)]) (N := N_fill) (sc := defScope s_fill) (by decide +kernel)) (fun _ _ _ _ _ => pg_name (i := 3) sc_fill.nd rfl (Or.inl rfl)) (fun _ _ _ _ _ => pts_nil) (fun _ _ _ _ _ => (pe_cl ih hr (by omega) pass0 (pa_cons (pv 3) (pa_cons (pv 1) pa_nil)))))
    (pss_one (ps_ret (pe_tup (pa_cons (pe_ix ix_tup (pv 0) pe_int (fun _ _ => rfl)) (StX.pa_star (pv 2) pa_nil)))))))
theorem ok_same (X : K.In h) (G : h.Ns mainGlobals mg) (c : SaysM fa fn ex K) : ∀ n : Nat, Cl P w K mg base CX0 (0 + n) "_law_same" (sp_same K n) := by
  obtain ⟨fd, F⟩ := c.def_ 4 (d := d_same) rfl
  have f_bool := He.free_ok X G (c.fact 14 (f := .free "bool") rfl)
  have f_int := He.free_ok X G (c.fact 8 (f := .free "int") rfl)
  have f_isinstance := He.free_ok X G (c.fact 13 (f := .free "isinstance") rfl)
  have f_len := He.free_ok X G (c.fact 9 (f := .free "len") rfl)
  have f_range := He.free_ok X G (c.fact 11 (f := .free "range") rfl)
  have f_str := He.free_ok X G (c.fact 15 (f := .free "str") rfl)
  have f_tuple := He.free_ok X G (c.fact 16 (f := .free "tuple") rfl)
  have gl := He.glo_ok X G (c.fact 4 (f := .glo "_law_same") rfl)
  have bd := FunD.bindsN (ps := ["_law_answer", "_law_due_here"]) F (fun _ _ _ _ _ _ us hl => match us, hl with | [_, _], _ => rfl)
  intro n
  induction n with
  | zero => exact ⟨_, fd, ["_law_answer", "_law_due_here"], ⟨fun vs H Q E h => absurd h (no_same vs H Q E), fun A outer s H args us vs Q E _ _ _ _ h => absurd h (no_same vs H Q E)⟩, gl, F.kp, bd⟩
  | succ n ih =>
    refine ⟨_, fd, ["_law_answer", "_law_due_here"], F.ok (k := 0 + n) sc_same (fun vs H Q E h => len_same h) (fun cdv A outer s H vs Q E hr h => ⟨t_same K (sp_same K n), PSs.nox ?_, rd_same h⟩), gl, F.kp, bd⟩
    exact (pss_cons (ps_if (pt_val (pe_callB call_isi rfl f_isinstance boot_isinstance (pa_cons (pv 1) (pa_cons (pe_bltn rfl f_int boot_int rfl) pa_nil)))) (pss_one (ps_ret (pe_and (pe_callB call_isi rfl f_isinstance boot_isinstance (pa_cons (pv 0) (pa_cons (pe_bltn rfl f_int boot_int rfl) pa_nil))) (pe_and (pe_not (pe_callB call_isi rfl f_isinstance boot_isinstance (pa_cons (pv 0) (pa_cons (pe_bltn rfl f_bool boot_bool rfl) pa_nil)))) (pe_one (pe_cmpR op_eq (pv 0) (pv 1) (nomark _)))))))
    pss_nil)
    (pss_cons (ps_if (PW.pt (pw_or (pt_not (pt_val (pe_callB call_isi rfl f_isinstance boot_isinstance (pa_cons (pv 0) (pa_cons (pe_bltn rfl f_tuple boot_tuple rfl) pa_nil))))) (pw_or1 (pt_cmpR op_ne (pe_callB call_len_seq rfl f_len boot_len (pa_cons (pv 0) pa_nil)) (pe_callB call_len_seq rfl f_len boot_len (pa_cons (pv 1) pa_nil)) (nomark _))))) (pss_one (ps_ret pe_bl))
    pss_nil)
    (pss_cons (ps_if (PW.pt (pw_or (pt_not (pt_val (pe_callB call_isi rfl f_isinstance boot_isinstance (pa_cons (pe_ix ix_tup (pv 0) pe_int (fun _ _ => rfl)) (pa_cons (pe_bltn rfl f_str boot_str rfl) pa_nil))))) (pw_or1 (pt_cmpR op_ne (pe_ix ix_tup (pv 0) pe_int (fun _ _ => rfl)) (pe_ix ix_tup (pv 1) pe_int (fun _ _ => rfl)) (nomark _))))) (pss_one (ps_ret pe_bl))
    pss_nil)
    (pss_cons (ps_for PassesOwn.never rfl (pi_range2 rfl f_range (pa_cons pe_int (pa_cons (pe_callB call_len_seq rfl f_len boot_len (pa_cons (pv 1) pa_nil)) pa_nil))) (pg_name (i := 2) sc_same.nd rfl (Or.inl rfl))
    (pss_one (ps_if (pt_not (pt_val (pe_cl ih hr (by omega) pass0 (pa_cons (pe_ix ix_tup (pv 0) (pv 2) (fun _ _ => rfl)) (pa_cons (pe_ix ix_tup (pv 1) (pv 2) (fun _ _ => rfl)) pa_nil))))) (pss_one (ps_ret pe_bl))
    pss_nil)))
    (pss_one (ps_ret pe_bl))))))
theorem ok_wide (X : K.In h) (G : h.Ns mainGlobals mg) (c : SaysM fa fn ex K) : ∀ n : Nat, Cl P w K mg base CX0 (1 + n) "_law_wide" (sp_wide K n) := by
  obtain ⟨fd, F⟩ := c.def_ 5 (d := d_wide) rfl
  have f_len := He.free_ok X G (c.fact 9 (f := .free "len") rfl)
  have f_range := He.free_ok X G (c.fact 11 (f := .free "range") rfl)
  have f_tuple := He.free_ok X G (c.fact 16 (f := .free "tuple") rfl)
  have c_take := ok_take (P := P) (w := w) (base := base) X G c
  have gl := He.glo_ok X G (c.fact 5 (f := .glo "_law_wide") rfl)
  have bd := FunD.bindsN (ps := ["_law_draws", "_law_names_here", "_law_holes", "_law_depth"]) F (fun _ _ _ _ _ _ us hl => match us, hl with | [_, _, _, _], _ => rfl)
  intro n
  induction n with
  | zero => exact ⟨_, fd, ["_law_draws", "_law_names_here", "_law_holes", "_law_depth"], ⟨fun vs H Q E h => absurd h (no_wide vs H Q E), fun A outer s H args us vs Q E _ _ _ _ h => absurd h (no_wide vs H Q E)⟩, gl, F.kp, bd⟩
  | succ n ih =>
    refine ⟨_, fd, ["_law_draws", "_law_names_here", "_law_holes", "_law_depth"], F.ok (k := 1 + n) sc_wide (fun vs H Q E h => len_wide h) (fun cdv A outer s H vs Q E hr h => ⟨t_wide K (sp_wide K n), PSs.nox ?_, rd_wide h⟩), gl, F.kp, bd⟩
    exact (pss_cons (ps_if (PW.pt (pw_or (pt_cmpR op_eq (pv 3) pe_int (nomark _)) (pw_or1 (pt_cmpR op_eq (pe_cl c_take hr (by omega) pass0 (pa_cons (pv 0) (pa_cons pe_int pa_nil))) pe_int (nomark _))))) (pss_cons (ps_if (PW.pt (pw_and (pt_cmpR op_gt (pe_callB call_len_seq rfl f_len boot_len (pa_cons (pv 2) pa_nil)) pe_int (nomark _)) (pw_and1 (pt_cmpR op_gt (pe_cl c_take hr (by omega) pass0 (pa_cons (pv 0) (pa_cons pe_int pa_nil))) pe_int (nomark _))))) (pss_one (ps_ret (pe_ix ix_list (pv 2) (pe_cl c_take hr (by omega) pass0 (pa_cons (pv 0) (pa_cons (pe_callB call_len_seq rfl f_len boot_len (pa_cons (pv 2) pa_nil)) pa_nil))) (fun _ _ => rfl))))
    pss_nil)
    (pss_one (ps_ret (pe_tup (pa_cons (pe_ix ix_list (pv 1) (pe_cl c_take hr (by omega) pass0 (pa_cons (pv 0) (pa_cons pe_int pa_nil))) (fun _ _ => rfl)) pa_nil)))))
    pss_nil)
    (pss_cons (ps_set (i := 4) sc_wide.nd rfl (Or.inl rfl) (pe_lst (pa_cons (pe_ix ix_list (pv 1) (pe_cl c_take hr (by omega) pass0 (pa_cons (pv 0) (pa_cons pe_int pa_nil))) (fun _ _ => rfl)) pa_nil)))
    (pss_cons (ps_for PassesOwn.never rfl (pi_range1 rfl f_range (pa_cons (pe_cl c_take hr (by omega) pass0 (pa_cons (pv 0) (pa_cons pe_int pa_nil))) pa_nil)) (pg_name (i := 5) sc_wide.nd rfl (Or.inl rfl))
    (pss_one (ps_expr (pe_bm PySem.F.plainAttrs_list PySem.F.slot_list_append PySem.F.type_list_append mt_append (pv 4) (pa_cons (pe_cl ih hr (by omega) pass0 (pa_cons (pv 0) (pa_cons (pv 1) (pa_cons (pv 2) (pa_cons (pe_op op_sub (pv 3) pe_int) pa_nil))))) pa_nil)))))
    (pss_one (ps_ret (pe_callTy call_tuple_of rfl f_tuple boot_tuple (pa_cons (pv 4) pa_nil)))))))
theorem ok_ldue (X : K.In h) (G : h.Ns mainGlobals mg) (c : SaysM fa fn ex K) : ∀ n : Nat, Cl P w K mg base CX0 (0 + n) "_law_due" (sp_ldue K n) := by
  obtain ⟨fd, F⟩ := c.def_ 6 (d := d_ldue) rfl
  have f_int := He.free_ok X G (c.fact 8 (f := .free "int") rfl)
  have f_isinstance := He.free_ok X G (c.fact 13 (f := .free "isinstance") rfl)
  have f_len := He.free_ok X G (c.fact 9 (f := .free "len") rfl)
  have f_range := He.free_ok X G (c.fact 11 (f := .free "range") rfl)
  have f_tuple := He.free_ok X G (c.fact 16 (f := .free "tuple") rfl)
  have gl := He.glo_ok X G (c.fact 6 (f := .glo "_law_due") rfl)
  have bd := FunD.bindsN (ps := ["_law_form", "_law_keys", "_law_values"]) F (fun _ _ _ _ _ _ us hl => match us, hl with | [_, _, _], _ => rfl)
  intro n
  induction n with
  | zero => exact ⟨_, fd, ["_law_form", "_law_keys", "_law_values"], ⟨fun vs H Q E h => absurd h (no_ldue vs H Q E), fun A outer s H args us vs Q E _ _ _ _ h => absurd h (no_ldue vs H Q E)⟩, gl, F.kp, bd⟩
  | succ n ih =>
    refine ⟨_, fd, ["_law_form", "_law_keys", "_law_values"], F.ok (k := 0 + n) sc_ldue (fun vs H Q E h => len_ldue h) (fun cdv A outer s H vs Q E hr h => ⟨t_ldue K (sp_ldue K n), PSs.nox ?_, rd_ldue h⟩), gl, F.kp, bd⟩
    exact (pss_cons (ps_if (pt_val (pe_callB call_isi rfl f_isinstance boot_isinstance (pa_cons (pv 0) (pa_cons (pe_bltn rfl f_int boot_int rfl) pa_nil)))) (pss_cons (ps_for PassesOwn.never rfl (pi_range1 rfl f_range (pa_cons (pe_callB call_len_seq rfl f_len boot_len (pa_cons (pv 1) pa_nil)) pa_nil)) (pg_name (i := 3) sc_ldue.nd rfl (Or.inl rfl))
    (pss_one (ps_if (pt_cmpR op_eq (pe_ix ix_list (pv 1) (pv 3) (fun _ _ => rfl)) (pv 0) (nomark _)) (pss_one (ps_ret (pe_ix ix_list (pv 2) (pv 3) (fun _ _ => rfl))))
    pss_nil)))
    (pss_one (ps_ret (pv 0))))
    pss_nil)
    (pss_cons (ps_set (i := 4) sc_ldue.nd rfl (Or.inl rfl) (pe_lst (pa_cons (pe_ix ix_tup (pv 0) pe_int (fun _ _ => rfl)) pa_nil)))
    (pss_cons (ps_for PassesOwn.never rfl (pi_tup (pe_slice sl_tup (pv 0) (po_some pe_int) po_none)) (pg_name (i := 5) sc_ldue.nd rfl (Or.inl rfl))
    (pss_one (ps_expr (pe_bm PySem.F.plainAttrs_list PySem.F.slot_list_append PySem.F.type_list_append mt_append (pv 4) (pa_cons (pe_cl ih hr (by omega) pass0 (pa_cons (pv 5) (pa_cons (pv 1) (pa_cons (pv 2) pa_nil)))) pa_nil)))))
    (pss_one (ps_ret (pe_callTy call_tuple_of rfl f_tuple boot_tuple (pa_cons (pv 4) pa_nil)))))))
theorem ok_law_fn (X : K.In h) (G : h.Ns mainGlobals mg) (c : SaysM fa fn ex K) {f : Addr} {fd : FuncData} (F : FnP K "law" "law" s_law f fd) : FnOk P w K mg base CX0 31 f fd ["_law_script"] (spLaw K) := by
  have f_len := He.free_ok X G (c.fact 9 (f := .free "len") rfl)
  have f_range := He.free_ok X G (c.fact 11 (f := .free "range") rfl)
  have c_take := ok_take (P := P) (w := w) (base := base) X G c
  have c_stream := ok_stream (P := P) (w := w) (base := base) X G c
  have c_names := ok_names (P := P) (w := w) (base := base) X G c
  have c_fill := ok_fill (P := P) (w := w) (base := base) X G c 30
  have c_same := ok_same (P := P) (w := w) (base := base) X G c 30
  have c_wide := ok_wide (P := P) (w := w) (base := base) X G c 6
  have c_ldue := ok_ldue (P := P) (w := w) (base := base) X G c 30
  refine F.ok sc_law (fun vs H Q E h => len_law h) (fun cdv A outer s H vs Q E hr h => ⟨t_law K, PSs.nox ?_, rd_law h⟩)
  exact (pss_cons (ps_set (i := 1) sc_law.nd rfl (Or.inl rfl) (pe_cl c_names hr (by omega) pass0 (pa_cons (pe_slice sl_list (pv 0) po_none (po_some pe_int)) pa_nil)))
    (pss_cons (ps_set (i := 2) sc_law.nd rfl (Or.inr rfl) (pe_cl c_stream hr (by omega) pass0 (pa_cons (pe_slice sl_list (pv 0) (po_some pe_int) po_none) pa_nil)))
    (pss_cons (ps_setLc (i := 4) (own := [("_law_k", 3)]) (g := (gName 3)) (tt := tYes) rfl sc_law.nd rfl rfl (sw_true rfl rfl rfl (by decide +kernel)) (pi_range1 rfl f_range (pa_cons (pe_cl c_take hr (by omega) pass0 (pa_cons (pv 2) (pa_cons pe_int pa_nil))) pa_nil)) (blkOk_by (own := [("_law_k", 3)]) (N := N_law) (sc := defScope s_law) (by decide +kernel)) (fun _ _ _ _ _ => pg_name (i := 3) sc_law.nd rfl (Or.inl rfl)) (fun _ _ _ _ _ => pts_nil) (fun _ _ _ _ _ => (pe_ix ix_list (pe_lst (pa_cons (pe_cl c_take hr (by omega) pass0 (pa_cons (pv 2) (pa_cons pe_int pa_nil))) (pa_cons pe_int (pa_cons pe_int pa_nil)))) (pe_cl c_take hr (by omega) pass0 (pa_cons (pv 2) (pa_cons pe_int pa_nil))) (fun _ _ => rfl))))
    (pss_cons (ps_set (i := 5) sc_law.nd rfl (Or.inl rfl) (pe_cl c_wide hr (by omega) pass0 (pa_cons (pv 2) (pa_cons (pv 1) (pa_cons (pv 4) (pa_cons pe_int pa_nil))))))
    (pss_cons (ps_set (i := 6) sc_law.nd rfl (Or.inl rfl) (pe_lst pa_nil))
    (pss_cons (ps_set (i := 7) sc_law.nd rfl (Or.inl rfl) (pe_lst pa_nil))
    (pss_cons (ps_set (i := 8) sc_law.nd rfl (Or.inl rfl) pe_dnewK)
    (pss_cut (ps_for PassesOwn.never rfl (pi_list (pe_op op_cat (pv 4) (pe_lst (pa_cons (pe_cl c_take hr (by omega) pass0 (pa_cons (pv 2) (pa_cons pe_int pa_nil))) pa_nil)))) (pg_name (i := 9) sc_law.nd rfl (Or.inl rfl))
    (pss_one (ps_if (PW.pt (pw_and (pt_cmpR op_notIn_seq (pv 9) (pv 6) (by with_unfolding_all rfl)) (pw_and1 (pt_cmpR op_gt (pe_cl c_take hr (by omega) pass0 (pa_cons (pv 2) (pa_cons pe_int pa_nil))) pe_int (nomark _))))) (pss_cons (ps_expr (pe_bm PySem.F.plainAttrs_list PySem.F.slot_list_append PySem.F.type_list_append mt_append (pv 6) (pa_cons (pv 9) pa_nil)))
    (pss_cons (ps_expr (pe_bm PySem.F.plainAttrs_list PySem.F.slot_list_append PySem.F.type_list_append mt_append (pv 7) (pa_cons (pe_cl c_wide hr (by omega) pass0 (pa_cons (pv 2) (pa_cons (pv 1) (pa_cons (pv 4) (pa_cons pe_int pa_nil))))) pa_nil)))
    (pss_one (ps_dput (hu_of hr) (pv 8) (pv 9) (pe_ix ix_list (pv 7) (pe_un un_neg pe_int) (fun _ _ => rfl)) rfl))))
    pss_nil)))
    (pss_cut (ps_for PassesOwn.never rfl (pi_range1 rfl f_range (pa_cons pe_int pa_nil)) (pg_name (i := 3) sc_law.nd rfl (Or.inl rfl))
    (pss_cons (ps_if (pt_not (pt_val (pe_cl c_same hr (by omega) pass0 (pa_cons (pe_cl c_fill hr (by omega) pass0 (pa_cons (pv 5) (pa_cons (pv 8) pa_nil))) (pa_cons (pe_cl c_ldue hr (by omega) pass0 (pa_cons (pv 5) (pa_cons (pv 6) (pa_cons (pv 7) pa_nil)))) pa_nil))))) (pss_one (ps_ret pe_bl))
    pss_nil)
    (pss_cons (ps_if (pt_cmpR op_ne (pe_callB call_lenD rfl f_len boot_len (pa_cons (pv 8) pa_nil)) (pe_callB call_len_seq rfl f_len boot_len (pa_cons (pv 6) pa_nil)) (nomark _)) (pss_one (ps_ret pe_bl))
    pss_nil)
    (pss_one (ps_for PassesOwn.never rfl (pi_range1 rfl f_range (pa_cons (pe_callB call_len_seq rfl f_len boot_len (pa_cons (pv 6) pa_nil)) pa_nil)) (pg_name (i := 10) sc_law.nd rfl (Or.inl rfl))
    (pss_one (ps_if (PW.pt (pw_or (pt_cmp (pc_dnotin (hu_of hr) (pe_ix ix_list (pv 6) (pv 10) (fun _ _ => rfl)) (pv 8))) (pw_or1 (pt_not (pt_val (pe_cl c_same hr (by omega) pass0 (pa_cons (pe_dget (hu_of hr) (pv 8) (pe_ix ix_list (pv 6) (pv 10) (fun _ _ => rfl)) (fun _ _ => rfl)) (pa_cons (pe_ix ix_list (pv 7) (pv 10) (fun _ _ => rfl)) pa_nil)))))))) (pss_one (ps_ret pe_bl))
    pss_nil)))))))
    (pss_cons (ps_if (pt_cmpR op_gt (pe_callB call_len_seq rfl f_len boot_len (pa_cons (pv 4) pa_nil)) pe_int (nomark _)) (pss_cons (ps_set (i := 11) sc_law.nd rfl (Or.inl rfl) (pe_disp (pps_cons (pe_ix ix_list (pv 4) pe_int (fun _ _ => rfl)) (pe_ix ix_list (pv 4) pe_int (fun _ _ => rfl)) pps_nil) rfl rfl (by simp) (by decide)))
    (pss_cons (ps_dput (hu_of hr) (pv 11) (pe_ix ix_list (pv 4) pe_int (fun _ _ => rfl)) (pe_ix ix_list (pv 4) pe_int (fun _ _ => rfl)) rfl)
    (pss_cons (ps_set (i := 12) sc_law.nd rfl (Or.inl rfl) (pe_cl c_ldue hr (by omega) pass0 (pa_cons (pv 5) (pa_cons (pe_rev2 (pv 4)) (pa_cons (pe_slice sl_list (pv 4) po_none (po_some pe_int)) pa_nil)))))
    (pss_one (ps_if (pt_not (pt_val (pe_cl c_same hr (by omega) pass0 (pa_cons (pe_cl c_fill hr (by omega) pass0 (pa_cons (pv 5) (pa_cons (pv 11) pa_nil))) (pa_cons (pv 12) pa_nil))))) (pss_one (ps_ret pe_bl))
    pss_nil)))))
    pss_nil)
    (pss_one (ps_ret (pe_cl c_same hr (by omega) pass0 (pa_cons (pe_cl c_fill hr (by omega) pass0 (pa_cons (pv 5) (pa_cons pe_dnewK pa_nil))) (pa_cons (pv 5) pa_nil)))))))))))))))
end
abbrev R : PySem.W.OpenRow := PySem.W.OpenLaw.row PySem.Challenge.rw_signbysign_k04_fill_a_form
abbrev hk : PySem.W.Hook := hookM 4 fa fn ex
def ob (s : PySem.W.SharedT) : AlM := obsMG 4 fa fn ex (HandSHeadRun.getT s)
theorem ob_eq (s : PySem.W.SharedT) : ob s = hk.obs s.abs := obsMG_eq (HandSHeadRun.getT_eq s)
def names : List PySem.Str := ["fill_form", "_law_stream", "_law_take", "_law_names", "_law_same", "_law_wide", "_law_due"]
theorem run (w : World) : HandSHeadRun.RunEq R (PySem.W.view R.prog [9]) hk ob 20000 names w := by
  intro os
  kernel_rfl
theorem facts {P : Program} {w : World} {K : PySem.W.Frag} {h : Heap} {mg : Str → Option Value} {f : Addr} (X : K.In h) (G : h.Ns mainGlobals mg) (hfa : mg ("law" : Str) = some (.ref f)) (c : SaysM fa fn ex K) :
    ∃ fd : FuncData, (∀ (s : Shared) (v : Value), BindsTo s fd ⟨[v], []⟩ [("_law_script", v)]) ∧ ∀ base : Heap, K.In base → base.Ns mainGlobals mg → FnOk P w K mg base CX0 31 f fd ["_law_script"] (spLaw K) := by
  obtain ⟨fd, F⟩ := c.def_ 7 (d := d_law) rfl
  have b := FunD.bindsA (ps := ["_law_script"]) F fun _ _ _ _ _ _ us hl => match us, hl with | [_], _ => rfl
  have e := hfa.symm.trans (He.glo_ok X G (c.fact 7 (f := .glo "law") rfl))
  cases e
  refine ⟨fd, fun s v => b s [v] rfl, fun base KB GB => ?_⟩
  exact ok_law_fn (P := P) (w := w) (base := base) X G c F
end Prog

open PySem PySem.W PySem.Calls PyProof.Rows
set_option maxRecDepth 100000 in
set_option maxHeartbeats 0 in
theorem PySem.Challenge.cw_signbysign_k04_fill_a_form_holds : PySem.Challenge.rw_signbysign_k04_fill_a_form.Holds := by
  w_on; o_law
  refine HandSHeadRun.head_any (r := OpenLaw.row PySem.Challenge.rw_signbysign_k04_fill_a_form) (q := view (OpenLaw.row PySem.Challenge.rw_signbysign_k04_fill_a_form).prog [9]) (H := Prog.hk) (ob := Prog.ob) (M := 20000) (loose := Prog.names) (d := HandSHeadRun.topDef (OpenLaw.row PySem.Challenge.rw_signbysign_k04_fill_a_form).prog 9) (kwd := []) Prog.ob_eq
    (by kernel_rfl) (fun s => by kernel_rfl) Prog.run (by kernel_rfl) (by kernel_rfl) (by kernel_rfl) (by rfl) (by first | assumption | decide +kernel) (by decide +kernel) ⟨rfl, rfl, rfl, rfl, rfl, by decide +kernel⟩ ?hw ?hc
  case hw => w_witness2
  case hc =>
    refine L2.walk_ofE (l := PySem.Challenge.rw_signbysign_k04_fill_a_form) (n := 63) (k := 31) (x := "_law_script") (CX := L2.CX0) rfl (by decide) (by kernel_rfl) ⟨rfl, by decide, by decide⟩ ?F (fun _ _ _ _ z => z)
    intro w mg fa h Y G hmg0
    obtain ⟨K, KX, c⟩ := Y
    have hmg : mg ("law" : PySem.Str) = some (.ref fa) := by
      have e : (HandSHeadRun.topDef (OpenLaw.row PySem.Challenge.rw_signbysign_k04_fill_a_form).prog 9).name = ("law" : PySem.Str) := by kernel_rfl
      rw [← e]
      exact hmg0
    obtain ⟨fd, hb, hF⟩ := Prog.facts (P := (PySem.Challenge.rw_signbysign_k04_fill_a_form).prog) (w := w) KX G hmg c
    exact ⟨K, fd, My.spLaw K, KX, hb, fun H a ns hl _ hS => ⟨a, ns, rfl, hS, hl, fun _ => rfl⟩, hF⟩
