import PyProof.Rows.All
import Wide.All
import OpenK.AllK
import Wide.FinOn
import KE.KStateDown
import HandS.Base
import HandS.Call
import HandS.List
import HandS.Comp
import HandS.Dict
import HandS.Iter
import HandS.Text
import HandS.Ends
import HandS.More
import HandS.Words
import HandS.WordsList
import HandS.WordsDict
import HandS.WordsExc
import HandS.IsInst
import HandS.TupAny
import HandS.Defaults
import HandS.Head0
import HandS.Head1
import HandS.Head2
import HandS.HeadEnd
import HandS.HeadHook1
import HandS.HeadHook2
import HandS.FStr
import HandS.Style
import HandS.Zip
import HandS.Conv
import HandS.HeadNt
import HandS.Star
import KE.KRevSl
import PySem.Challenge.RW_signbysign_k08_names
set_option Elab.async false
set_option linter.all false
set_option maxRecDepth 100000
set_option maxHeartbeats 4000000
/-! Lib: plain data D, what it is in the heap (Is), changes of the heap (Chg), the readings' steps (g_..), a def as a constant (Cl). -/
namespace My
open PySem PySem.Spec PyProof.Rows L2

/-! ### data -/
inductive D where
  | non | bl (b : Bool) | int (i : Int) | str (s : Str) | tup (ds : List D)
mutual
def Is (H : Hp) : D → V → Prop
  | .non, v => v = .non
  | .bl b, v => v = .bl b
  | .int i, v => v = .int i
  | .str s, v => v = .str s
  | .tup ds, v => ∃ a vs, v = .ref a ∧ H a = some (.tup vs) ∧ IsL H ds vs
def IsL (H : Hp) : List D → List V → Prop
  | [], vs => vs = []
  | d :: ds, vs => ∃ x xs, vs = x :: xs ∧ Is H d x ∧ IsL H ds xs
end
/-- all but what stands at S is as it was; no tuple changes -/
structure Chg (S : List Addr) (H H' : Hp) : Prop where
  ob : ∀ b o, b ∉ S → H b = some o → H' b = some o
  tp : ∀ b xs, H b = some (.tup xs) → H' b = some (.tup xs)
abbrev Ext (H H' : Hp) : Prop := Chg [] H H'
section
variable {S S' : List Addr} {H H1 H2 H' : Hp} {a b p l : Addr} {o u : HO} {xs ys : List V}
theorem Chg.refl (H : Hp) : Chg S H H := ⟨fun _ _ _ h => h, fun _ _ h => h⟩
theorem Chg.trans (c : Chg S H H1) (e : Chg S H1 H2) : Chg S H H2 := ⟨fun b o n h => e.ob b o n (c.ob b o n h), fun b xs h => e.tp b xs (c.tp b xs h)⟩
theorem Chg.wide (c : Chg S H H1) (h : ∀ b ∈ S, b ∈ S') : Chg S' H H1 := ⟨fun b o n q => c.ob b o (fun z => n (h b z)) q, c.tp⟩
theorem Chg.all (c : Chg [] H H1) : Chg S H H1 := c.wide fun _ z => nomatch z
theorem Chg.at (c : Chg [] H H1) (h : H a = some o) : H1 a = some o := c.ob a o (fun z => nomatch z) h
theorem Chg.same (c : Chg [] H H1) : L2.Same H H1 := fun _ _ h => Chg.at c h
theorem Ext.of (c : L2.Same H H1) : Ext H H1 := ⟨fun _ _ _ h => c _ _ h, fun _ _ h => c _ _ h⟩
/-- a new object is laid -/
theorem Chg.new (h : H p = none) (o : HO) : Chg S H (upd H p o) := ⟨fun b u _ q => by rw [upd_ne (ne_of_none q h)]; exact q, fun b u q => by rw [upd_ne (ne_of_none q h)]; exact q⟩
theorem Chg.free (c : Chg [] H H1) (h : H1 p = none) : H p = none := (Chg.same c).free h
/-- an object that H does not have is written -/
theorem Chg.own (c : Chg S H H1) (h : H p = none) (o : HO) : Chg S H (upd H1 p o) :=
  ⟨fun b u n q => by rw [upd_ne (ne_of_none q h)]; exact c.ob b u n q, fun b u q => by rw [upd_ne (ne_of_none q h)]; exact c.tp b u q⟩
/-- a changeable object of S is written -/
theorem Chg.set (c : Chg S H H1) (hm : l ∈ S) (h : H1 l = some u) (nt : ∀ xs, u ≠ .tup xs) (o : HO) : Chg S H (upd H1 l o) := by
  refine ⟨fun b w n q => ?_, fun b w q => ?_⟩
  · rw [upd_ne (fun z => n (by rw [z]; exact hm))]; exact c.ob b w n q
  · have q1 := c.tp b w q
    rw [upd_ne (fun z => by subst z; rw [h] at q1; exact nt w (Option.some.inj q1))]
    exact q1
theorem Chg.drop1 (c : Chg [p] H H1) (h : H p = none) : Ext H H1 := ⟨fun b o _ q => c.ob b o (by intro z; have := List.mem_singleton.mp z; subst this; rw [h] at q; cases q) q, c.tp⟩
mutual
theorem Is.up (c : Chg S H H') : ∀ {d : D} {v : V}, Is H d v → Is H' d v
  | .non, v, h => by simpa only [Is] using h
  | .bl b, v, h => by simpa only [Is] using h
  | .int i, v, h => by simpa only [Is] using h
  | .str s, v, h => by simpa only [Is] using h
  | .tup ds, v, h => by
    simp only [Is] at h ⊢
    obtain ⟨a, vs, e, h1, h2⟩ := h
    exact ⟨a, vs, e, c.tp _ _ h1, IsL.up c h2⟩
theorem IsL.up (c : Chg S H H') : ∀ {ds : List D} {vs : List V}, IsL H ds vs → IsL H' ds vs
  | [], vs, h => by simpa only [IsL] using h
  | d :: ds, vs, h => by
    simp only [IsL] at h ⊢
    obtain ⟨x, xs, e, h1, h2⟩ := h
    exact ⟨x, xs, e, Is.up c h1, IsL.up c h2⟩
end
theorem Is.non : Is H .non .non := by simp only [Is]
theorem Is.bl {b : Bool} : Is H (.bl b) (.bl b) := by simp only [Is]
theorem Is.int {i : Int} : Is H (.int i) (.int i) := by simp only [Is]
theorem Is.str {s : Str} : Is H (.str s) (.str s) := by simp only [Is]
theorem Is.tup {ds : List D} (h : H a = some (.tup xs)) (r : IsL H ds xs) : Is H (.tup ds) (.ref a) := by simp only [Is]; exact ⟨a, xs, rfl, h, r⟩
theorem Is.int_iff {i : Int} {v : V} : Is H (.int i) v ↔ v = .int i := by simp only [Is]
theorem Is.str_iff {i : Str} {v : V} : Is H (.str i) v ↔ v = .str i := by simp only [Is]
theorem Is.bl_iff {i : Bool} {v : V} : Is H (.bl i) v ↔ v = .bl i := by simp only [Is]
theorem Is.tup_iff {ds : List D} {v : V} : Is H (.tup ds) v ↔ ∃ a vs, v = .ref a ∧ H a = some (.tup vs) ∧ IsL H ds vs := by simp only [Is]
theorem IsL.nil : IsL H [] [] := by simp only [IsL]
theorem IsL.cons {d : D} {ds : List D} {v : V} {vs : List V} (h : Is H d v) (t : IsL H ds vs) : IsL H (d :: ds) (v :: vs) := by simp only [IsL]; exact ⟨v, vs, rfl, h, t⟩
theorem IsL.nil_iff {vs : List V} : IsL H [] vs ↔ vs = [] := by simp only [IsL]
theorem IsL.cons_iff {d : D} {ds : List D} {vs : List V} : IsL H (d :: ds) vs ↔ ∃ x xs, vs = x :: xs ∧ Is H d x ∧ IsL H ds xs := by simp only [IsL]
theorem IsL.length : ∀ {ds : List D} {vs : List V}, IsL H ds vs → vs.length = ds.length
  | [], vs, h => by rw [IsL.nil_iff] at h; subst h; rfl
  | d :: ds, vs, h => by
    rw [IsL.cons_iff] at h
    obtain ⟨x, xs, rfl, _, h2⟩ := h
    simp [IsL.length h2]
theorem IsL.append : ∀ {ds es : List D} {vs ws : List V}, IsL H ds vs → IsL H es ws → IsL H (ds ++ es) (vs ++ ws)
  | [], es, vs, ws, h, k => by rw [IsL.nil_iff] at h; subst h; exact k
  | d :: ds, es, vs, ws, h, k => by
    rw [IsL.cons_iff] at h
    obtain ⟨x, xs, rfl, h1, h2⟩ := h
    exact IsL.cons h1 (IsL.append h2 k)
theorem IsL.get : ∀ {ds : List D} {vs : List V} {i : Nat} {v : V}, IsL H ds vs → vs[i]? = some v → ∃ d, ds[i]? = some d ∧ Is H d v
  | [], vs, i, v, h, e => by rw [IsL.nil_iff] at h; subst h; simp at e
  | d :: ds, vs, i, v, h, e => by
    rw [IsL.cons_iff] at h
    obtain ⟨x, xs, rfl, h1, h2⟩ := h
    cases i with
    | zero => simp at e; subst e; exact ⟨d, rfl, h1⟩
    | succ i => simp at e; obtain ⟨d', q, k⟩ := IsL.get h2 e; exact ⟨d', by simpa using q, k⟩
theorem IsL.get' : ∀ {ds : List D} {vs : List V} {i : Nat} {d : D}, IsL H ds vs → ds[i]? = some d → ∃ v, vs[i]? = some v ∧ Is H d v
  | [], vs, i, v, h, e => by simp at e
  | d :: ds, vs, i, d', h, e => by
    rw [IsL.cons_iff] at h
    obtain ⟨x, xs, rfl, h1, h2⟩ := h
    cases i with
    | zero => simp at e; subst e; exact ⟨x, rfl, h1⟩
    | succ i => simp at e; obtain ⟨v, q, k⟩ := IsL.get' h2 e; exact ⟨v, by simpa using q, k⟩
theorem IsL.drop : ∀ {ds : List D} {vs : List V} (n : Nat), IsL H ds vs → IsL H (ds.drop n) (vs.drop n)
  | ds, vs, 0, h => h
  | [], vs, n + 1, h => by rw [IsL.nil_iff] at h; subst h; exact IsL.nil
  | d :: ds, vs, n + 1, h => by
    rw [IsL.cons_iff] at h
    obtain ⟨x, xs, rfl, h1, h2⟩ := h
    exact IsL.drop n h2
theorem IsL.take : ∀ {ds : List D} {vs : List V} (n : Nat), IsL H ds vs → IsL H (ds.take n) (vs.take n)
  | ds, vs, 0, h => by rw [List.take_zero, List.take_zero]; exact IsL.nil
  | [], vs, n + 1, h => by rw [IsL.nil_iff] at h; subst h; exact IsL.nil
  | d :: ds, vs, n + 1, h => by
    rw [IsL.cons_iff] at h
    obtain ⟨x, xs, rfl, h1, h2⟩ := h
    exact IsL.cons h1 (IsL.take n h2)
theorem IsL.one {d : D} {v : V} (h : Is H d v) : IsL H [d] [v] := IsL.cons h IsL.nil
theorem IsL.ints : ∀ {is : List Int}, IsL H (is.map D.int) (is.map V.int)
  | [] => IsL.nil
  | _ :: _ => IsL.cons Is.int IsL.ints
theorem IsL.strs : ∀ {is : List Str}, IsL H (is.map D.str) (is.map V.str)
  | [] => IsL.nil
  | _ :: _ => IsL.cons Is.str IsL.strs
theorem IsL.ints_inv : ∀ {is : List Int} {vs : List V}, IsL H (is.map D.int) vs → vs = is.map V.int
  | [], vs, h => IsL.nil_iff.mp h
  | i :: is, vs, h => by
    obtain ⟨x, xs, rfl, h1, h2⟩ := IsL.cons_iff.mp h
    rw [Is.int_iff.mp h1, IsL.ints_inv h2]; rfl
end

/-! ### the relations' names, as gen.py writes them -/
abbrev rAddI : R2 := rI0 fun i j => .int (i + j)
abbrev rSubI : R2 := rI0 fun i j => .int (i - j)
abbrev rMulI : R2 := rI CMul fun i j => .int (i * j)
abbrev rDivI : R2 := rI CDiv fun i j => .int (i / j)
abbrev rModI : R2 := rI (fun _ j => 0 < j) fun i j => .int (i % j)
abbrev rPowI : R2 := rI CPow fun i j => .int (i ^ j.toNat)
abbrev rLtI : R2 := rI0 fun i j => .bl (decide (i < j))
abbrev rLeI : R2 := rI0 fun i j => .bl (decide (i ≤ j))
abbrev rGtI : R2 := rI0 fun i j => .bl (decide (j < i))
abbrev rGeI : R2 := rI0 fun i j => .bl (decide (j ≤ i))
def rAddS_ : R2 := fun x y H Q => ∃ i j, x = .str i ∧ y = .str j ∧ i.length + j.length ≤ sizeLine ∧ Q (.str (i ++ j)) H
def rLtS_ : R2 := fun x y H Q => ∃ i j, x = .str i ∧ y = .str j ∧ Q (.bl (decide (i.cps.toList < j.cps.toList))) H
def rInS_ : R2 := fun x y H Q => ∃ (c : Nat) (z : Str), x = .str ⟨#[c]⟩ ∧ y = .str z ∧ Q (.bl (decide (c ∈ z.cps.toList))) H
def rNotInS_ : R2 := fun x y H Q => ∃ (c : Nat) (z : Str), x = .str ⟨#[c]⟩ ∧ y = .str z ∧ Q (.bl (!decide (c ∈ z.cps.toList))) H
def rIsN_ : R2 := fun x y H Q => y = .non ∧ Q (.bl (decide (x = .non))) H
def rNotN_ : R2 := fun x y H Q => y = .non ∧ Q (.bl (!decide (x = .non))) H
def rLenSeq (K : PySem.W.Frag) : List V → Hp → VK → Prop := fun xs H Q => ∃ p ys, xs = [.ref p] ∧ (SqL K H p ys ∨ SqT K H p ys) ∧ Q (.int ys.length) H
def rLenStr : List V → Hp → VK → Prop := fun xs H Q => ∃ z, xs = [.str z] ∧ z.length ≤ sizeLine ∧ Q (.int z.length) H
def rInt1 : List V → Hp → VK → Prop := fun xs H Q => (∃ i, xs = [.int i] ∧ Q (.int i) H) ∨ ∃ k, xs = [.bl k] ∧ Q (.int (if k then 1 else 0)) H
def rAbs : List V → Hp → VK → Prop := fun xs H Q => ∃ i, xs = [.int i] ∧ Q (.int (if i < 0 then -i else i)) H
def rTupleOf (K : PySem.W.Frag) : List V → Hp → VK → Prop := fun xs H Q => ∃ p ys, xs = [.ref p] ∧ ((SqL K H p ys ∧ ∀ l, H l = none → Q (.ref l) (upd H l (.tup ys))) ∨ (SqT K H p ys ∧ Q (.ref p) H))
def rListOf (K : PySem.W.Frag) : List V → Hp → VK → Prop := fun xs H Q => ∃ p ys, xs = [.ref p] ∧ (SqL K H p ys ∨ SqT K H p ys) ∧ ∀ l, H l = none → Q (.ref l) (upd H l (.lst ys))
def rStrInt : List V → Hp → VK → Prop := fun xs H Q => ∃ i, xs = [.int i] ∧ i.natAbs.log2 < 1920 ∧ Q (.str (toString i)) H
def rIntStr : List V → Hp → VK → Prop := fun xs H Q => ∃ a n, xs = [.str a] ∧ PySem.intText? a = some n ∧ a.length ≤ 640 ∧ Q (.int n) H
def rInsert : V → List V → Hp → VK → Prop := fun x vs H Q => ∃ (l : Addr) (xs : List V) (i : Int) (y : V), x = .ref l ∧ vs = [.int i, y] ∧ H l = some (.lst xs) ∧ xs.length < sizeLine ∧ 0 ≤ i ∧ i < 2 ^ 63 ∧ Q .non (upd H l (.lst (xs.take i.toNat ++ [y] ++ xs.drop i.toNat)))
def rJoin (K : PySem.W.Frag) : V → List V → Hp → VK → Prop := fun x xs H Q => ∃ a p, ∃ ys : List Str, x = .str a ∧ xs = [.ref p] ∧ (SqL K H p (ys.map V.str) ∨ SqT K H p (ys.map V.str)) ∧ (ys.map (·.length)).sum + ys.length * a.length ≤ 16777216 ∧ Q (.str (Txt.join a ys)) H
def tTru_ (K : PySem.W.Frag) (ta : TE) : TT := fun σ H Q => ta σ H fun x H' => ∃ k, TruV K x H' k ∧ Q k H'

/-- a statement, then the rest, with a word between them -/
def tCut (t u : TS) : TS := fun D σ H => ∃ Mid : L2.St → Hp → Prop, t { D with nx := Mid } σ H ∧ ∀ σ' H', Mid σ' H' → u D σ' H'
theorem pss_cut {X : Cx} {st : Stmt} {rest : List Stmt} {t u : TS} (h1 : PS X st t) (h2 : PSs X rest u) : PSs X (st :: rest) (tCut t u) := by
  refine ⟨fun pins s σ H D I h => ?_⟩
  obtain ⟨Mid, hm, hu⟩ := h
  refine wpAny_execs_cons (thn (h1.run pins s σ H { D with nx := Mid } I hm) fun f s1 q => ?_)
  cases f with
  | next =>
    obtain ⟨σ', H', I', q⟩ := q
    exact h2.run pins s1 σ' H' D I' (hu σ' H' q)
  | ret v => exact q
  | brk => exact q
  | cont => exact q
/-- a module's constant -/
theorem pe_gc {X : Cx} {x : Str} {pos : Pos} {v : V} (hg : Gl X x) (h : ∃ u, X.mg x = some u ∧ RelV v u) (hd : (x == ("__debug__" : Str)) = false := by decide) : PE X (.Name x pos) (tC v) := by
  obtain ⟨u, e, r⟩ := h
  exact pe_glob hg e r hd
/-- an f-string of two parts or more -/
def tJoined (ts : List TE) : TE := fun σ H Q => tJs ts Str.empty σ H fun out H1 => Q (.str out) H1
/-! ### the readings' steps -/
section
variable {K : PySem.W.Frag} {σ : L2.St} {H : Hp} {D : Ends}
theorem g_seq {t u : TS} (h : t { D with nx := u D } σ H) : tSeq t u D σ H := h
theorem g_cut {t u : TS} {M : L2.St → Hp → Prop} (h : t { D with nx := M } σ H) (k : ∀ σ' H', M σ' H' → u D σ' H') : tCut t u D σ H := ⟨M, h, k⟩
theorem g_asg {te : TE} {g : TG} (h : te σ H fun x H1 => g x σ H1 D.nx) : tAsg te g D σ H := h
theorem g_name {i : Nat} {v : V} {Q : L2.St → Hp → Prop} (h : Q (σ.set i (some v)) H) : gName i v σ H Q := h
theorem g_ret {te : TE} (h : te σ H D.rt) : tRet te D σ H := h
theorem g_retN (h : D.rt .non H) : tRetN D σ H := h
theorem g_drop {te : TE} (h : te σ H fun _ H1 => D.nx σ H1) : tDrop te D σ H := h
theorem g_next (h : D.nx σ H) : tNext D σ H := h
theorem g_brk (h : D.bk σ H) : tBreak D σ H := h
theorem g_cont (h : D.ct σ H) : tCont D σ H := h
theorem g_ifS {c : TT} {t u : TS} (h : c σ H fun b H1 => if b = true then t D σ H1 else u D σ H1) : tIfS c t u D σ H := h
variable {Q : VK} {QB : Bool → Hp → Prop} {QL : List V → Hp → Prop}
theorem g_var {i : Nat} {v : V} (e : σ[i]? = some (some v)) (h : Q v H) : tVar i σ H Q := ⟨v, e, h⟩
theorem g_c {v : V} (h : Q v H) : tC v σ H Q := h
theorem g_op {r : R2} {ta tb : TE} (h : ta σ H fun x H1 => tb σ H1 fun y H2 => r x y H2 Q) : tOp r ta tb σ H Q := h
theorem g_un {r : V → Hp → VK → Prop} {ta : TE} (h : ta σ H fun x H1 => r x H1 Q) : tUn r ta σ H Q := h
theorem g_cb {r : List V → Hp → VK → Prop} {t : TA} (h : t σ H fun vs H1 => r vs H1 Q) : tCB r t σ H Q := h
theorem g_nil (h : QL [] H) : tNil σ H QL := h
theorem g_cons {ta : TE} {tr : TA} (h : ta σ H fun x H1 => tr σ H1 fun xs H2 => QL (x :: xs) H2) : tCons ta tr σ H QL := h
theorem g_test {te : TE} (h : te σ H fun x H' => ∃ k, x = .bl k ∧ QB k H') : tTest te σ H QB := h
theorem g_B {te : TE} (h : te σ H fun x H' => ∃ k, x = .bl k ∧ QB k H') : tB te σ H QB := h
theorem g_bl {b : Bool} {P : Bool → Prop} (h : P b) : ∃ k, V.bl b = .bl k ∧ P k := ⟨b, rfl, h⟩
theorem g_not {t : TT} (h : t σ H fun c H1 => QB (!c) H1) : tNot t σ H QB := h
theorem g_and {t u : TT} (h : t σ H fun c H1 => if c = true then u σ H1 QB else QB false H1) : tAnd t u σ H QB := h
theorem g_or {t u : TT} (h : t σ H fun c H1 => if c = true then QB true H1 else u σ H1 QB) : tOr t u σ H QB := h
theorem g_andV {ta tb : TE} (h : ta σ H fun x H1 => ∃ c, x = .bl c ∧ if c = true then tb σ H1 Q else Q (.bl false) H1) : tAndV ta tb σ H Q := h
theorem g_orV {ta tb : TE} (h : ta σ H fun x H1 => ∃ c, x = .bl c ∧ if c = true then Q (.bl true) H1 else tb σ H1 Q) : tOrV ta tb σ H Q := h
theorem g_notV {ta : TE} (h : ta σ H fun x H1 => ∃ c, x = .bl c ∧ Q (.bl (!c)) H1) : tNotV ta σ H Q := h
theorem g_ifE {t : TT} {ta tb : TE} (h : t σ H fun c H1 => if c = true then ta σ H1 Q else tb σ H1 Q) : tIf t ta tb σ H Q := h
theorem g_chain {r r' : R2} {ta tb tc : TE} (h : ta σ H fun x H1 => tb σ H1 fun y H2 => r x y H2 fun z H3 => ∃ k, z = .bl k ∧ (if k = true then tc σ H3 fun w' H4 => r' y w' H4 Q else Q (.bl false) H3)) : tChain r r' ta tb tc σ H Q := h
theorem g_yes (h : QB true H) : tYes σ H QB := h
theorem g_call {sp : Sp} {E : XK} {t : TA} (h : t σ H fun vs H1 => sp (vs ++ []) H1 Q E) : tCall sp [] E t σ H Q := h
theorem g_part {te : TE} {QO : Option Int → Hp → Prop} (h : te σ H fun x H1 => ∃ i, x = .int i ∧ QO (some i) H1) : tPart te σ H QO := h
theorem g_nopart {QO : Option Int → Hp → Prop} (h : QO none H) : tNoPart σ H QO := h
theorem g_sl {r : V → Option Int → Option Int → Hp → VK → Prop} {te : TE} {tl th : TO} (h : te σ H fun x H1 => tl σ H1 fun l H2 => th σ H2 fun u H3 => r x l u H3 Q) : tSl r te tl th σ H Q := h
theorem g_exI {i : Int} {P : Int → Prop} (h : P i) : ∃ k, V.int i = .int k ∧ P k := ⟨i, rfl, h⟩
def NewT (Q : VK) (xs : List V) (H1 : Hp) : Prop := xs.length ≤ sizeLine ∧ ∀ p, H1 p = none → Q (.ref p) (upd H1 p (.tup xs))
def NewL (Q : VK) (xs : List V) (H1 : Hp) : Prop := xs.length ≤ sizeLine ∧ ∀ p, H1 p = none → Q (.ref p) (upd H1 p (.lst xs))
theorem g_tupT {t : TA} (h : t σ H fun xs H1 => NewT Q xs H1) : tTup t σ H Q := h
theorem g_lstT {t : TA} (h : t σ H fun xs H1 => NewL Q xs H1) : tLst t σ H Q := h
theorem g_newT {xs : List V} (hl : xs.length ≤ sizeLine) (k : ∀ p H', H p = none → Ext H H' → H' p = some (.tup xs) → Q (.ref p) H') : NewT Q xs H := ⟨hl, fun p hp => k p _ hp (Chg.new hp _) upd_same⟩
theorem g_newL {xs : List V} (hl : xs.length ≤ sizeLine) (k : ∀ p H', H p = none → Ext H H' → H' p = some (.lst xs) → Q (.ref p) H') : NewL Q xs H := ⟨hl, fun p hp => k p _ hp (Chg.new hp _) upd_same⟩
theorem g_bm {T : String} {r : V → List V → Hp → VK → Prop} {to : TE} {t : TA} (h : to σ H fun x H1 => tyV K T x H1 ∧ t σ H1 fun xs H2 => r x xs H2 Q) : tBM K T r to t σ H Q := h
theorem g_bm0 {T : String} {r : V → List V → Hp → VK → Prop} {to : TE} (h : to σ H fun x H1 => tyV K T x H1 ∧ r x [] H1 Q) : tBM0 K T r to σ H Q := h
/-! relations of ints -/
theorem g_rI0 {g : Int → Int → V} {i j : Int} (h : Q (g i j) H) : rI0 g (.int i) (.int j) H Q := ⟨i, j, rfl, rfl, h⟩
theorem g_rI {C : Int → Int → Prop} {g : Int → Int → V} {i j : Int} (c : C i j) (h : Q (g i j) H) : rI C g (.int i) (.int j) H Q := ⟨i, j, rfl, rfl, c, h⟩
theorem g_rU {g : Int → V} {i : Int} (h : Q (g i) H) : rU g (.int i) H Q := ⟨i, rfl, h⟩
theorem g_int1 {i : Int} (h : Q (.int i) H) : rInt1 [.int i] H Q := .inl ⟨i, rfl, h⟩
theorem g_int1b {k : Bool} (h : Q (.int (if k then 1 else 0)) H) : rInt1 [.bl k] H Q := .inr ⟨k, rfl, h⟩
theorem g_abs {i : Int} (h : Q (.int (if i < 0 then -i else i)) H) : rAbs [.int i] H Q := ⟨i, rfl, h⟩
theorem g_eqI {i j : Int} (h : Q (.bl (decide (i = j))) H) : rEq (.int i) (.int j) H Q := ⟨rfl, by
  have e : decide (V.int i = V.int j) = decide (i = j) := by simp
  rw [e]; exact h⟩
theorem g_neI {i j : Int} (h : Q (.bl (!decide (i = j))) H) : rNe (.int i) (.int j) H Q := ⟨rfl, by
  have e : decide (V.int i = V.int j) = decide (i = j) := by simp
  rw [e]; exact h⟩
theorem g_eqS {i j : Str} (h : Q (.bl (decide (i = j))) H) : rEq (.str i) (.str j) H Q := ⟨rfl, by
  have e : decide (V.str i = V.str j) = decide (i = j) := by simp
  rw [e]; exact h⟩
theorem g_neS {i j : Str} (h : Q (.bl (!decide (i = j))) H) : rNe (.str i) (.str j) H Q := ⟨rfl, by
  have e : decide (V.str i = V.str j) = decide (i = j) := by simp
  rw [e]; exact h⟩
theorem g_neB {i j : Bool} (h : Q (.bl (!decide (i = j))) H) : rNe (.bl i) (.bl j) H Q := ⟨rfl, by
  have e : decide (V.bl i = V.bl j) = decide (i = j) := by simp
  rw [e]; exact h⟩
theorem g_addS {i j : Str} (hl : i.length + j.length ≤ sizeLine) (h : Q (.str (i ++ j)) H) : rAddS_ (.str i) (.str j) H Q := ⟨i, j, rfl, rfl, hl, h⟩
theorem g_isN {x : V} (h : Q (.bl (decide (x = .non))) H) : rIsN_ x .non H Q := ⟨rfl, h⟩
theorem g_notN {x : V} (h : Q (.bl (!decide (x = .non))) H) : rNotN_ x .non H Q := ⟨rfl, h⟩
/-! new objects: the heap behind is a letter -/
theorem g_new {o : HO} {P : Addr → Hp → Prop} (k : ∀ p H', H p = none → Ext H H' → H' p = some o → P p H') : ∀ p, H p = none → P p (upd H p o) := fun p hp => k p _ hp (Chg.new hp o) upd_same
theorem g_newS {xs : List V} {o : HO} {P : Addr → Hp → Prop} (hl : xs.length ≤ sizeLine) (k : ∀ p H', H p = none → Ext H H' → H' p = some o → P p H') : xs.length ≤ sizeLine ∧ ∀ p, H p = none → P p (upd H p o) := ⟨hl, g_new k⟩
/-! lists, tuples -/
theorem g_lenL {p : Addr} {xs : List V} (h : H p = some (.lst xs)) (k : Q (.int xs.length) H) : rLenSeq K [.ref p] H Q := ⟨p, xs, rfl, .inl (.inl (.inl h)), k⟩
theorem g_lenLK {p : Addr} {xs : List V} (h : SqL K H p xs) (k : Q (.int xs.length) H) : rLenSeq K [.ref p] H Q := ⟨p, xs, rfl, .inl h, k⟩
theorem g_lenT {p : Addr} {xs : List V} (h : H p = some (.tup xs)) (k : Q (.int xs.length) H) : rLenSeq K [.ref p] H Q := ⟨p, xs, rfl, .inr (.inl (.inl h)), k⟩
theorem g_lenS {z : Str} (hl : z.length ≤ sizeLine) (k : Q (.int z.length) H) : rLenStr [.str z] H Q := ⟨z, rfl, hl, k⟩
theorem g_ixL {p : Addr} {xs : List V} {i : Int} {v : V} (h : H p = some (.lst xs)) (a : atI xs i = some v) (k : Q v H) : rIxL K (.ref p) (.int i) H Q := ⟨p, xs, i, v, rfl, rfl, .inl (.inl h), a, k⟩
theorem g_ixT {p : Addr} {xs : List V} {i : Int} {v : V} (h : H p = some (.tup xs)) (a : atI xs i = some v) (k : Q v H) : rIxT K (.ref p) (.int i) H Q := ⟨p, xs, i, v, rfl, rfl, .inl (.inl h), a, k⟩
theorem g_ixS {z : Str} {i : Int} {c : Nat} (hl : z.length ≤ sizeLine) (a : atI z.cps.toList i = some c) (k : Q (.str ⟨#[c]⟩) H) : rIxS (.str z) (.int i) H Q := ⟨z, i, c, rfl, rfl, hl, a, k⟩
theorem g_append {l : Addr} {xs : List V} {y : V} (h : H l = some (.lst xs)) (hz : xs.length < sizeLine) (k : Q .non (upd H l (.lst (xs ++ [y])))) : rAppend (.ref l) [y] H Q := ⟨l, xs, y, rfl, rfl, h, hz, k⟩
theorem g_tyL {p : Addr} {xs : List V} {P : Prop} (h : H p = some (.lst xs)) (k : P) : tyV K "list" (.ref p) H ∧ P := ⟨.inl ⟨rfl, xs, .inl (.inl h)⟩, k⟩
theorem g_slL {p : Addr} {xs : List V} {lo hi : Option Int} (h : SqL K H p xs) (k : ∀ q H', H q = none → Ext H H' → H' q = some (.lst (cutV xs lo hi)) → Q (.ref q) H') : rSlL K (.ref p) lo hi H Q := ⟨p, xs, rfl, h, g_new k⟩
theorem g_cat {l b : Addr} {xs ys : List V} (h : H l = some (.lst xs)) (h2 : H b = some (.lst ys)) (hz : xs.length + ys.length ≤ sizeLine) (k : ∀ q H', H q = none → Ext H H' → H' q = some (.lst (xs ++ ys)) → Q (.ref q) H') : rCat (.ref l) (.ref b) H Q := ⟨l, b, xs, ys, rfl, rfl, h, h2, hz, g_new k⟩
theorem g_tupOf {p : Addr} {xs : List V} (h : SqL K H p xs) (k : ∀ q H', H q = none → Ext H H' → H' q = some (.tup xs) → Q (.ref q) H') : rTupleOf K [.ref p] H Q := ⟨p, xs, rfl, .inl ⟨h, g_new k⟩⟩
theorem g_lstOf {p : Addr} {xs : List V} (h : SqL K H p xs) (k : ∀ q H', H q = none → Ext H H' → H' q = some (.lst xs) → Q (.ref q) H') : rListOf K [.ref p] H Q := ⟨p, xs, rfl, .inl h, g_new k⟩
theorem g_lstOfT {p : Addr} {xs : List V} (h : SqT K H p xs) (k : ∀ q H', H q = none → Ext H H' → H' q = some (.lst xs) → Q (.ref q) H') : rListOf K [.ref p] H Q := ⟨p, xs, rfl, .inr h, g_new k⟩
theorem g_joined {ts : List TE} (h : tJs ts Str.empty σ H fun out H1 => Q (.str out) H1) : tJoined ts σ H Q := h
theorem g_jn {acc : Str} {QS : Str → Hp → Prop} (h : QS acc H) : tJs [] acc σ H QS := h
theorem g_jc {t : TE} {ts : List TE} {acc : Str} {QS : Str → Hp → Prop} (h : t σ H fun x H1 => ∃ y : Str, x = .str y ∧ (acc ++ y).length ≤ sizeLine ∧ tJs ts (acc ++ y) σ H1 QS) : tJs (t :: ts) acc σ H QS := h
theorem g_exS {y : Str} {P : Str → Prop} (h : P y) : ∃ z : Str, V.str y = .str z ∧ P z := ⟨y, rfl, h⟩
theorem g_fmt {te : TE} (h : te σ H fun x H1 => (∃ y : Str, x = .str y ∧ y.length ≤ sizeLine ∧ Q (.str y) H1) ∨ ∃ i : Int, x = .int i ∧ i.natAbs.log2 < 1920 ∧ Q (.str (toString i)) H1) : tFmt te σ H Q := h
theorem g_m1 {r : V → List V → Hp → VK → Prop} {to te : TE} (h : to σ H fun x H1 => (∃ a, x = .str a) ∧ te σ H1 fun y H2 => r x [y] H2 Q) : tM1 r to te σ H Q := h
theorem g_m1s {a : Str} {P : Prop} (h : P) : (∃ b, V.str a = .str b) ∧ P := ⟨⟨a, rfl⟩, h⟩
theorem g_tr {A B : Prop} (h : A) : if true = true then A else B := by rw [if_pos rfl]; exact h
theorem g_fa {A B : Prop} (h : B) : if false = true then A else B := by rw [if_neg Bool.false_ne_true]; exact h
theorem g_ntr {A B : Prop} (h : B) : if (!true) = true then A else B := g_fa h
theorem g_nfa {A B : Prop} (h : A) : if (!false) = true then A else B := g_tr h
theorem g_2 {c : Bool} {A B : Prop} (h : c = true → A) (k : c = false → B) : if c = true then A else B := by
  cases c with
  | true => rw [if_pos rfl]; exact h rfl
  | false => rw [if_neg Bool.false_ne_true]; exact k rfl
end

/-! ### loops and comprehensions -/
/-- what a for leaves to be shown of its iterator -/
def ForB (g : TG) (tb : TS) (D : Ends) (σ : L2.St) : It → Hp → Prop := fun J H1 => ∃ W : Nat → Nat → L2.St → Hp → Prop, (∃ m, W 0 m σ H1) ∧ ∀ i m σ H, W i m σ H →
  (J.stop i H ∧ D.nx σ H) ∨ (J.go i H ∧ ∃ N : L2.St → Hp → Prop, (∀ σ' H', N σ' H' → ∃ m', m' < m ∧ W (i + 1) m' σ' H') ∧ ∀ x H', J.yld i H x H' → g x σ H' fun σ2 H2 => tb { D with nx := N, ct := N, bk := D.nx } σ2 H2)
/-- .. a comprehension -/
def LcB (g : TG) (tt : TT) (te : TE) (vs : List Nat) (σ : L2.St) (Q : VK) : It → Hp → Prop := fun J H1 => ∀ D, H1 D = none → ∃ W : Nat → Nat → Hp → Prop, (∃ m, W 0 m (upd H1 D (.lst []))) ∧ ∀ i m H, W i m H →
  (J.stop i H ∧ Q (.ref D) H) ∨ (J.go i H ∧ ∃ Nx : Hp → Prop, (∀ H', Nx H' → ∃ m', m' < m ∧ W (i + 1) m' H') ∧ ∀ x H', J.yld i H x H' → g x (wipe σ vs) H' fun σ2 H2 => wipe σ2 vs = wipe σ vs ∧ tt σ2 H2 fun b H3 =>
    if b = true then te σ2 H3 fun y H4 => ∃ acc, H4 D = some (.lst acc) ∧ acc.length < sizeLine ∧ Nx (upd H4 D (.lst (acc ++ [y]))) else Nx H3)
section
variable {K : PySem.W.Frag} {σ : L2.St} {H : Hp} {D : Ends} {wi : TI} {g : TG} {tb : TS} {R : It → Hp → Prop} {te : TE} {ta : TA} {tt : TT} {vs : List Nat} {Q : VK} {p : Addr} {xs : List V} {j : Nat} {S : List Addr}
theorem g_for (h : wi σ H (ForB g tb D σ)) : tFor wi g tb D σ H := h
theorem g_lc (h : wi σ H (LcB g tt te vs σ Q)) : tLc wi g tt te vs σ H Q := h
theorem g_iL (h : te σ H fun x H1 => ∃ a, x = .ref a ∧ (∃ xs, SqL K H1 a xs) ∧ R (Itl K a) H1) : iList K te σ H R := h
theorem g_iT (h : te σ H fun x H1 => ∃ a, x = .ref a ∧ (∃ xs, SqT K H1 a xs) ∧ R (Itt K a) H1) : iTup K te σ H R := h
theorem g_iR (h : ta σ H fun vs H1 => ∃ j : Int, vs = [.int j] ∧ -(2 ^ 62) ≤ j ∧ j < 2 ^ 62 ∧ R (Itr 0 j.toNat) H1) : iRng1 ta σ H R := h
theorem g_iR2 (h : ta σ H fun vs H1 => ∃ i j : Int, vs = [.int i, .int j] ∧ (-(2 ^ 62) ≤ i ∧ i < 2 ^ 62 ∧ -(2 ^ 62) ≤ j ∧ j < 2 ^ 62) ∧ R (Itr i (j - i).toNat) H1) : iRng2 ta σ H R := h
/-- for x in a list | a tuple | a range -/
theorem g_forL (h : SqL K H p xs) (Pv : Nat → L2.St → Hp → Prop) (h0 : Pv 0 σ H) (hl : ∀ i σ H, i ≤ xs.length → Pv i σ H → SqL K H p xs)
    (hs : ∀ i x σ H, xs[i]? = some x → Pv i σ H → g x σ H fun σ2 H2 => tb { D with nx := Pv (i + 1), ct := Pv (i + 1), bk := D.nx } σ2 H2) (hd : ∀ σ H, Pv xs.length σ H → D.nx σ H) :
    ∃ a, V.ref p = .ref a ∧ (∃ xs, SqL K H a xs) ∧ ForB g tb D σ (Itl K a) H := ⟨p, rfl, ⟨xs, h⟩, for_list Pv h0 hl hs hd⟩
theorem g_forT (h : SqT K H p xs) (Pv : Nat → L2.St → Hp → Prop) (h0 : Pv 0 σ H) (hl : ∀ i σ H, i ≤ xs.length → Pv i σ H → SqT K H p xs)
    (hs : ∀ i x σ H, xs[i]? = some x → Pv i σ H → g x σ H fun σ2 H2 => tb { D with nx := Pv (i + 1), ct := Pv (i + 1), bk := D.nx } σ2 H2) (hd : ∀ σ H, Pv xs.length σ H → D.nx σ H) :
    ∃ a, V.ref p = .ref a ∧ (∃ xs, SqT K H a xs) ∧ ForB g tb D σ (Itt K a) H := ⟨p, rfl, ⟨xs, h⟩, for_tup Pv h0 hl hs hd⟩
theorem g_forR {n : Int} (hn : -(2 ^ 62) ≤ n ∧ n < 2 ^ 62) (Pv : Nat → L2.St → Hp → Prop) (h0 : Pv 0 σ H)
    (hs : ∀ (i : Nat) σ H, (i : Int) < n → Pv i σ H → g (.int (i : Int)) σ H fun σ2 H2 => tb { D with nx := Pv (i + 1), ct := Pv (i + 1), bk := D.nx } σ2 H2) (hd : ∀ σ H, Pv n.toNat σ H → D.nx σ H) :
    ∃ j : Int, ([V.int n] : List V) = [.int j] ∧ -(2 ^ 62) ≤ j ∧ j < 2 ^ 62 ∧ ForB g tb D σ (Itr 0 j.toNat) H := by
  refine ⟨n, rfl, hn.1, hn.2, for_range Pv h0 (fun i σ H hi q => ?_) hd⟩
  rw [Int.zero_add]
  exact hs i σ H (by omega) q
theorem g_forR2 {lo n : Int} (hn : -(2 ^ 62) ≤ lo ∧ lo < 2 ^ 62 ∧ -(2 ^ 62) ≤ n ∧ n < 2 ^ 62) (Pv : Nat → L2.St → Hp → Prop) (h0 : Pv 0 σ H)
    (hs : ∀ (i : Nat) σ H, lo + (i : Int) < n → Pv i σ H → g (.int (lo + (i : Int))) σ H fun σ2 H2 => tb { D with nx := Pv (i + 1), ct := Pv (i + 1), bk := D.nx } σ2 H2) (hd : ∀ σ H, Pv (n - lo).toNat σ H → D.nx σ H) :
    ∃ i j : Int, ([V.int lo, V.int n] : List V) = [.int i, .int j] ∧ (-(2 ^ 62) ≤ i ∧ i < 2 ^ 62 ∧ -(2 ^ 62) ≤ j ∧ j < 2 ^ 62) ∧ ForB g tb D σ (Itr i (j - i).toNat) H :=
  ⟨lo, n, rfl, hn, for_range Pv h0 (fun i σ H hi q => hs i σ H (by omega) q) hd⟩
/-- a comprehension's turn, whatever walks: the list so far is acc -/
def LcT (S : List Addr) (H : Hp) (σ : L2.St) (vs : List Nat) (j : Nat) (tt : TT) (te : TE) (Acc : Nat → List V → Hp → Prop) (i : Nat) (x : V) : Prop :=
  ∀ (acc : List V) (H' : Hp) (Yes : VK) (No : Hp → Prop), Chg S H H' → Acc i acc H' → (∀ y H4, Chg S H' H4 → Acc (i + 1) (acc ++ [y]) H4 → Yes y H4) → (∀ H3, Chg S H' H3 → Acc (i + 1) acc H3 → No H3) →
    tt ((wipe σ vs).set j (some x)) H' fun b H3 => if b = true then te ((wipe σ vs).set j (some x)) H3 Yes else No H3
def LcI (S : List Addr) (H : Hp) (Dl : Addr) (Acc : Nat → List V → Hp → Prop) (i : Nat) (H' : Hp) : Prop := ∃ acc, H' Dl = some (.lst acc) ∧ Chg S H H' ∧ Acc i acc H'
theorem lc_turn {Dl : Addr} {Acc : Nat → List V → Hp → Prop} {i : Nat} {x : V} (hD : H Dl = none) (hS : ∀ s ∈ S, H s ≠ none) (mono : ∀ i acc Dl H1 H2, H Dl = none → Chg [Dl] H1 H2 → Acc i acc H1 → Acc i acc H2)
    (hz : ∀ i acc H', Acc i acc H' → acc.length < sizeLine) (t : LcT S H σ vs j tt te Acc i x) {H' : Hp} (q : LcI S H Dl Acc i H') :
    tt ((wipe σ vs).set j (some x)) H' fun b H3 => if b = true then te ((wipe σ vs).set j (some x)) H3 fun y H4 => ∃ acc, H4 Dl = some (.lst acc) ∧ acc.length < sizeLine ∧ LcI S H Dl Acc (i + 1) (upd H4 Dl (.lst (acc ++ [y]))) else LcI S H Dl Acc (i + 1) H3 := by
  obtain ⟨acc, h1, c, a⟩ := q
  have nS : Dl ∉ S := fun z => hS Dl z hD
  refine t acc H' _ _ c a (fun y H4 c4 a4 => ?_) (fun H3 c3 a3 => ⟨acc, c3.ob _ _ nS h1, c.trans c3, a3⟩)
  have h4 := c4.ob _ _ nS h1
  refine ⟨acc, h4, hz _ _ _ a, acc ++ [y], upd_same, (c.trans c4).own hD _, ?_⟩
  exact mono _ _ Dl H4 _ hD ((Chg.refl H4).set (List.mem_singleton.mpr rfl) h4 (by intro xs z; cases z) _) a4
theorem g_lcL (h : SqL K H p xs) (hS : ∀ s ∈ S, H s ≠ none) (Acc : Nat → List V → Hp → Prop) (mono : ∀ i acc Dl H1 H2, H Dl = none → Chg [Dl] H1 H2 → Acc i acc H1 → Acc i acc H2)
    (h0 : ∀ H', Ext H H' → Acc 0 [] H') (hl : ∀ i acc H', Chg S H H' → Acc i acc H' → SqL K H' p xs) (hz : ∀ i acc H', Acc i acc H' → acc.length < sizeLine)
    (hs : ∀ i x, xs[i]? = some x → LcT S H σ vs j tt te Acc i x)
    (hd : ∀ q acc H', H q = none → Chg S H H' → H' q = some (.lst acc) → Acc xs.length acc H' → Q (.ref q) H')
    (hw : ∀ x : V, wipe ((wipe σ vs).set j (some x)) vs = wipe σ vs := by intro _; rfl) :
    ∃ a, V.ref p = .ref a ∧ (∃ xs, SqL K H a xs) ∧ LcB (gName j) tt te vs σ Q (Itl K a) H := by
  refine ⟨p, rfl, ⟨xs, h⟩, fun Dl hD => lc_list (xs := xs) (LcI S H Dl Acc) ⟨[], upd_same, (Chg.new hD _), h0 _ (Chg.new hD _)⟩ (fun i H' _ ⟨acc, _, c, a⟩ => hl i acc H' c a) (fun i x H' hi q => ⟨hw x, ?_⟩) (fun H' ⟨acc, h1, c, a⟩ => hd Dl acc H' hD c h1 a)⟩
  exact lc_turn hD hS mono hz (hs i x hi) q
theorem g_lcT (h : SqT K H p xs) (hS : ∀ s ∈ S, H s ≠ none) (Acc : Nat → List V → Hp → Prop) (mono : ∀ i acc Dl H1 H2, H Dl = none → Chg [Dl] H1 H2 → Acc i acc H1 → Acc i acc H2)
    (h0 : ∀ H', Ext H H' → Acc 0 [] H') (hl : ∀ i acc H', Chg S H H' → Acc i acc H' → SqT K H' p xs) (hz : ∀ i acc H', Acc i acc H' → acc.length < sizeLine)
    (hs : ∀ i x, xs[i]? = some x → LcT S H σ vs j tt te Acc i x)
    (hd : ∀ q acc H', H q = none → Chg S H H' → H' q = some (.lst acc) → Acc xs.length acc H' → Q (.ref q) H')
    (hw : ∀ x : V, wipe ((wipe σ vs).set j (some x)) vs = wipe σ vs := by intro _; rfl) :
    ∃ a, V.ref p = .ref a ∧ (∃ xs, SqT K H a xs) ∧ LcB (gName j) tt te vs σ Q (Itt K a) H := by
  refine ⟨p, rfl, ⟨xs, h⟩, fun Dl hD => lc_tup (xs := xs) (LcI S H Dl Acc) ⟨[], upd_same, (Chg.new hD _), h0 _ (Chg.new hD _)⟩ (fun i H' _ ⟨acc, _, c, a⟩ => hl i acc H' c a) (fun i x H' hi q => ⟨hw x, ?_⟩) (fun H' ⟨acc, h1, c, a⟩ => hd Dl acc H' hD c h1 a)⟩
  exact lc_turn hD hS mono hz (hs i x hi) q
theorem g_lcR {n : Int} (hn : -(2 ^ 62) ≤ n ∧ n < 2 ^ 62) (hS : ∀ s ∈ S, H s ≠ none) (Acc : Nat → List V → Hp → Prop) (mono : ∀ i acc Dl H1 H2, H Dl = none → Chg [Dl] H1 H2 → Acc i acc H1 → Acc i acc H2)
    (h0 : ∀ H', Ext H H' → Acc 0 [] H') (hz : ∀ i acc H', Acc i acc H' → acc.length < sizeLine)
    (hs : ∀ i : Nat, (i : Int) < n → LcT S H σ vs j tt te Acc i (.int (i : Int)))
    (hd : ∀ q acc H', H q = none → Chg S H H' → H' q = some (.lst acc) → Acc n.toNat acc H' → Q (.ref q) H')
    (hw : ∀ x : V, wipe ((wipe σ vs).set j (some x)) vs = wipe σ vs := by intro _; rfl) :
    ∃ k : Int, ([V.int n] : List V) = [.int k] ∧ -(2 ^ 62) ≤ k ∧ k < 2 ^ 62 ∧ LcB (gName j) tt te vs σ Q (Itr 0 k.toNat) H := by
  refine ⟨n, rfl, hn.1, hn.2, fun Dl hD => lc_range (lo := 0) (n := n.toNat) (LcI S H Dl Acc) ⟨[], upd_same, (Chg.new hD _), h0 _ (Chg.new hD _)⟩ (fun i H' hi q => ?_) (fun H' ⟨acc, h1, c, a⟩ => hd Dl acc H' hD c h1 a)⟩
  rw [Int.zero_add]
  exact ⟨hw _, lc_turn hD hS mono hz (hs i (by omega)) q⟩
end
/-! ### a def as a constant -/
structure Cl (P : Program) (w : World) (K : PySem.W.Frag) (mg : Str → Option Value) (base : Heap) (CX : CXT) (k : Nat) (x : Str) (sp : Sp) : Prop where
  ex : ∃ f fd ps, FnOk P w K mg base CX k f fd ps sp ∧ mg x = some (.ref f) ∧ PySem.W.keepIn K (.ref f) = true ∧ Binds K fd ps []
section
variable {X : Cx} {CX : CXT} {k j : Nat} {x : Str} {sp : Sp} {E : XK} {e : Expr} {es : List Expr} {t : TA} {p pos : Pos}
theorem pe_cl (c : Cl X.prog X.w X.K X.mg X.base CX k x sp) (hr : Room j X.A) (hk : k ≤ j) (hx : Passes CX X E) (ha : PA X (e :: es) t) (hg : Gl X x := by rfl) (hdb : (x == ("__debug__" : Str)) = false := by decide)
    (he : starEach (e :: es) X.env = (false, eval e X.env) :: starEach es X.env := by rfl) (hpl : (backTo pos (starEach es X.env)).any (·.1) = false := by rfl) : PE X (.Call (.Name x p) (e :: es) [] pos) (tCall sp [] E t) := by
  obtain ⟨f, fd, ps, F, hm, hk2, hb⟩ := c.ex
  exact pe_call F (hr.mono hk) hg hm hk2 hb .nil hx ha hdb he hpl
theorem pe_cl0 (c : Cl X.prog X.w X.K X.mg X.base CX k x sp) (hr : Room j X.A) (hk : k ≤ j) (hx : Passes CX X E) (hg : Gl X x := by rfl) (hdb : (x == ("__debug__" : Str)) = false := by decide) : PE X (.Call (.Name x p) [] [] pos) (tCall sp [] E tNil) := by
  obtain ⟨f, fd, ps, F, hm, hk2, hb⟩ := c.ex
  exact pe_call0 F (hr.mono hk) hg hm hk2 hb .nil hx hdb
end
end My

/-! Hk: the head's facts read by a Hook of one's own: defs at any address, closures, Bools of one's own. -/
namespace My
open PySem PySem.Spec PyProof.Rows L2 He
abbrev FnM : Type := Option (Str × Str × Arguments × FuncBody × Scope × Addr × Addr)
def fnM (K : PySem.W.Frag) (a : Addr) : FnM := match K.lookup a with
  | some ⟨_, _, .func fd, _⟩ => some (fd.name, fd.qualname, fd.params, fd.body, fd.scope, fd.globals, fd.builtins)
  | _ => none
/-- one def: where it stands, its name, qualified name, parameters, body, scope, closure -/
structure DefM where
  at_ : PySem.W.Frag → Addr
  name : Str
  qual : Str
  params : Arguments
  body : List Stmt
  scope : Scope
  clo : List (Str × (PySem.W.Frag → Addr)) := []
def DefM.val (d : DefM) : FnM := some (d.name, d.qual, d.params, .stmts d.body, d.scope, mainGlobals, builtinsNs)
def DefM.cl (K : PySem.W.Frag) (d : DefM) : List (Str × Addr) := d.clo.map fun q => (q.1, q.2 K)
def noneB : Value → Bool
  | .none => true
  | _ => false
theorem noneB_ok {v : Value} (h : noneB v = true) : v = .none := by cases v <;> first | rfl | cases h
def DefM.ok (K : PySem.W.Frag) (d : DefM) : Bool := PySem.W.keepIn K (.ref (d.at_ K)) && (match K.lookup (d.at_ K) with
  | some ⟨_, _, .func fd, _⟩ => PySem.W.codeIn K fd.code d.qual && (noneB fd.defaults && decide (fd.closure = d.cl K))
  | _ => false)
/-- a def of K with a closure, without defaults -/
structure FunC (K : PySem.W.Frag) (x qual : Str) (params : Arguments) (body : List Stmt) (scope : Scope) (cl : List (Str × Addr)) (f : Addr) (fd : FuncData) : Prop where
  ex : ∃ (oc : Value) (od : Option Addr) (kV doc pm : Value) (an : Option Addr) (cdv ct : Value) (osl : Array (Option Value)),
    fd = { PySem.W.fnOf x qual params body scope .none kV doc pm an cdv ct with closure := cl } ∧ K.lookup f = some ⟨oc, od, .func fd, osl⟩ ∧ PySem.W.codeIn K cdv qual = true
  kp : PySem.W.keepIn K (.ref f) = true
theorem DefM.funC {K : PySem.W.Frag} {d : DefM} (e : fnM K (d.at_ K) = d.val) (c : d.ok K = true) : ∃ fd, FunC K d.name d.qual d.params d.body d.scope (d.cl K) (d.at_ K) fd := by
  obtain ⟨kp, c2⟩ := ba c
  unfold fnM at e
  cases q : K.lookup (d.at_ K) with
  | none =>
    rw [q] at c2
    cases c2
  | some o =>
    obtain ⟨oc, od, dt, osl⟩ := o
    rw [q] at c2 e
    cases dt with
    | func fd =>
      obtain ⟨n1, n2, n3, n4, n5, n6, n7, n8, n9, n10, n11, n12, n13, n14, n15⟩ := fd
      have e2 : (some (n1, n2, n3, n4, n5, n6, n15) : FnM) = some (d.name, d.qual, d.params, .stmts d.body, d.scope, mainGlobals, builtinsNs) := e
      simp only [Option.some.injEq, Prod.mk.injEq] at e2
      obtain ⟨h1, h2, h3, h4, h5, h6, h8⟩ := e2
      subst h1 h2 h3 h4 h5 h6 h8
      have c3 : (PySem.W.codeIn K n13 d.qual && (noneB n8 && decide (n7 = d.cl K))) = true := c2
      obtain ⟨k1, k2⟩ := ba c3
      obtain ⟨k3, k4⟩ := ba k2
      have e8 := noneB_ok k3
      have e7 : n7 = d.cl K := of_decide_eq_true k4
      subst e8 e7
      exact ⟨_, ⟨oc, od, n9, n10, n11, n12, n13, n14, osl, rfl, q, k1⟩, kp⟩
    | _ => cases c2
theorem FunC.funD {K : PySem.W.Frag} {x qual : Str} {params : Arguments} {body : List Stmt} {scope : Scope} {f : Addr} {fd : FuncData} (F : FunC K x qual params body scope [] f fd) : FunD K x qual params body scope [] [] f fd := by
  obtain ⟨oc, od, kV, doc, pm, an, cdv, ct, osl, e, lk, c⟩ := F.ex
  exact ⟨⟨oc, od, .none, kV, doc, pm, an, cdv, ct, osl, e, lk, c, .inl ⟨rfl, rfl⟩, .inl rfl⟩, F.kp⟩
/-! ### the Hook -/
abbrev AlM : Type := Bool × List FnM
abbrev Ex : Type := PySem.W.Frag → Bool
def obsM (fa : List Fa) (fn : List DefM) (ex : List Ex) (K : PySem.W.Frag) : AlM := ((fa.all fun f => f.ok K) && ((fn.all fun d => d.ok K) && ex.all fun x => x K), fn.map fun d => fnM K (d.at_ K))
def valM (fn : List DefM) : AlM := (true, fn.map DefM.val)
def SaysM (fa : List Fa) (fn : List DefM) (ex : List Ex) (K : PySem.W.Frag) : Prop := obsM fa fn ex K = valM fn
def obsMG (n : Nat) (fa : List Fa) (fn : List DefM) (ex : List Ex) (g : Addr → Option Obj) : AlM := obsM fa fn ex (frG g (He5.asA g n))
def hookM (n : Nat) (fa : List Fa) (fn : List DefM) (ex : List Ex) : PySem.W.Hook where
  α := AlM
  obs := fun s => obsMG n fa fn ex s.heap.get?
  val := fun _ => valM fn
  says := fun _ h => ∃ K : PySem.W.Frag, K.In h ∧ SaysM fa fn ex K
  of := fun _ _ e => ⟨_, frG_in, e⟩
  keeps := fun _ _ _ ⟨K, hK, c⟩ k => ⟨K, PySem.W.Frag.In.keeps hK k, c⟩
theorem obsMG_eq {n : Nat} {fa : List Fa} {fn : List DefM} {ex : List Ex} {g : Addr → Option Obj} {s : Shared} (h : ∀ a, g a = s.heap.get? a) : obsMG n fa fn ex g = (hookM n fa fn ex).obs s := by
  have e : g = s.heap.get? := funext h
  rw [e] <;> rfl
section
variable {fa : List Fa} {fn : List DefM} {ex : List Ex} {K : PySem.W.Frag}
theorem SaysM.fact (c : SaysM fa fn ex K) (i : Nat) {f : Fa} (h : fa[i]? = some f := by rfl) : f.ok K = true := by
  have c1 := (ba (show ((fa.all fun f => f.ok K) && ((fn.all fun d => d.ok K) && ex.all fun x => x K)) = true from congrArg (fun z : AlM => z.1) c)).1
  exact List.all_eq_true.mp c1 f (List.mem_of_getElem? h)
theorem SaysM.more (c : SaysM fa fn ex K) (i : Nat) {x : Ex} (h : ex[i]? = some x := by rfl) : x K = true := by
  have c1 := (ba (ba (show ((fa.all fun f => f.ok K) && ((fn.all fun d => d.ok K) && ex.all fun x => x K)) = true from congrArg (fun z : AlM => z.1) c)).2).2
  exact List.all_eq_true.mp c1 x (List.mem_of_getElem? h)
theorem SaysM.defC (c : SaysM fa fn ex K) (i : Nat) {d : DefM} (h : fn[i]? = some d := by rfl) : ∃ fd, FunC K d.name d.qual d.params d.body d.scope (d.cl K) (d.at_ K) fd := by
  have c2 := (ba (ba (show ((fa.all fun f => f.ok K) && ((fn.all fun d => d.ok K) && ex.all fun x => x K)) = true from congrArg (fun z : AlM => z.1) c)).2).1
  have e : fn.map (fun d => fnM K (d.at_ K)) = fn.map DefM.val := congrArg (fun z : AlM => z.2) c
  have e2 : (fn.map fun d => fnM K (d.at_ K))[i]? = (fn.map DefM.val)[i]? := by rw [e]
  rw [List.getElem?_map, List.getElem?_map, h] at e2
  exact DefM.funC (Option.some.inj e2) (List.all_eq_true.mp c2 d (List.mem_of_getElem? h))
theorem SaysM.def_ (c : SaysM fa fn ex K) (i : Nat) {d : DefM} (h : fn[i]? = some d := by rfl) (hc : d.clo = [] := by rfl) : ∃ fd, FunD K d.name d.qual d.params d.body d.scope [] [] (d.at_ K) fd := by
  obtain ⟨fd, F⟩ := c.defC i h
  have e : d.cl K = [] := by unfold DefM.cl; rw [hc]; rfl
  rw [e] at F
  exact ⟨fd, F.funD⟩
end
/-! ### where a def stands -/
abbrev wFn (x : Str) : PySem.W.Frag → Addr := fun K => fAd K (x, none)
abbrev wMt (C m : Str) : PySem.W.Frag → Addr := fun K => fAd K (C, some m)
abbrev wSm (C m : Str) : PySem.W.Frag → Addr := fun K => He5.wf K (ga K C) "staticmethod" m
abbrev wCm (C m : Str) : PySem.W.Frag → Addr := fun K => He5.wf K (ga K C) "classmethod" m
/-! ### a static method, read off its class -/
def smB (C m : Str) : Ex := fun K => PySem.W.readsIn K (ga K C) (.type "type") && He5.wrapB K (ga K C) "staticmethod" "staticmethod.__get__" m
def cmB (C m : Str) : Ex := fun K => PySem.W.readsIn K (ga K C) (.type "type") && (He5.wrapB K (ga K C) "classmethod" "classmethod.__get__" m && PySem.W.fnIn K (He5.wf K (ga K C) "classmethod" m))
theorem cread_of {K : PySem.W.Frag} {C : Addr} (h : PySem.W.readsIn K C (.type "type") = true) : ClX.CRead K C (.type "type") := by
  refine ⟨h, ?_⟩
  unfold PySem.W.readsIn at h
  obtain ⟨h, _⟩ := ba h
  obtain ⟨h, _⟩ := ba h
  obtain ⟨h, h3⟩ := ba h
  obtain ⟨_, h2⟩ := ba h
  unfold PySem.W.specialIn
  rw [beq_iff_eq.mp h2, Option.bind_some]
  exact beq_iff_eq.mp h3
/-- C.m, a static method -/
structure SMet (K : PySem.W.Frag) (C : Addr) (m : Str) (g : Addr) : Prop where
  rd : ClX.CRead K C (.type "type")
  ex : ∃ p rest, PySem.W.findCls K (.ref C) (.type "type") m = some (.get (.builtin "staticmethod.__get__") (.ref p) .none (.ref C)) ∧ PySem.W.recIn K p "staticmethod" = some (.ref g :: rest)
theorem smB_ok {K : PySem.W.Frag} {C m : Str} (h : smB C m K = true) : SMet K (ga K C) m (wSm C m K) := by
  obtain ⟨h1, h2⟩ := ba h
  obtain ⟨h3, rest, h4⟩ := He5.wrapB_ok h2
  exact ⟨cread_of h1, _, rest, h3, h4⟩
/-- a static method as a constant -/
structure ClS (P : Program) (w : World) (K : PySem.W.Frag) (mg : Str → Option Value) (base : Heap) (CX : CXT) (k : Nat) (C m : Str) (sp : Sp) : Prop where
  ex : ∃ c f fd ps, FnOk P w K mg base CX k f fd ps sp ∧ mg C = some (.ref c) ∧ SMet K c m f ∧ PySem.W.keepIn K (.ref f) = true ∧ Binds K fd ps []
section
variable {X : Cx} {CX : CXT} {k j : Nat} {C m : Str} {sp : Sp} {E : XK} {e : Expr} {es : List Expr} {t : TA} {p pos apos : Pos} {pl : Sem Bool}
theorem pe_sm (c : ClS X.prog X.w X.K X.mg X.base CX k C m sp) (hr : Room j X.A) (hk : k ≤ j) (hx : Passes CX X E) (ha : PA X (e :: es) t) (hg : Gl X C := by rfl) (hdb : (C == ("__debug__" : Str)) = false := by decide)
    (he : starEach (e :: es) X.env = (false, eval e X.env) :: starEach es X.env := by rfl) (hpl : (backTo pos (starEach es X.env)).any (·.1) = false := by rfl)
    (ht : eval (.Call (.Attribute (.Name C p) m apos) (e :: es) [] pos) X.env = (do
      let ov ← eval (.Name C p) X.env
      standAt apos.atName
      let (f, first) ← holding [ov] (getMethod ov m pl)
      callWith pos f first (backTo pos (starEach (e :: es) X.env)) (backToKw pos (keywordEach [] X.env))) := by rfl) :
    PE X (.Call (.Attribute (.Name C p) m apos) (e :: es) [] pos) (tCall sp [] E t) := by
  obtain ⟨ca, f, fd, ps, F, hm, M, kp, hb⟩ := c.ex
  obtain ⟨q, rest, hf, hp⟩ := M.ex
  refine ⟨fun pins s σ H Q I h => ?_⟩
  refine PySem.W.methodCall_KW (pl := pl) (thn ((pe_glob (v := .ref ca) hg hm rfl hdb).run pins s σ H (fun v H1 => v = .ref ca ∧ H1 = H) I ⟨rfl, rfl⟩) fun u s1 ⟨x, H1, I1, rx, ex, eh⟩ => ?_) ht
  subst ex eh
  obtain rfl : u = Value.ref ca := rx
  refine PySem.W.method_cls I1.kIn M.rd.ga (PySem.W.cls_bind I1.kIn M.rd.rd hf (wpAny_call (PySem.W.sm_get (s := { s1 with toks := s1.toks + 1 }) I1.kIn hp (PySem.W.handed_on rfl ?_))))
  refine PySem.W.callWith_K (h₀ := X.base) I1.ok.mod.kin kp (thn (ha.run pos pins _ σ H1 _ (I1.tok _) h) fun us s2 ⟨vs, H2, I2, r, q2⟩ => ⟨I2.kIn, ?_⟩) he hpl
  exact run_fn F (hr.mono hk) hb .nil hx I2 r q2
end
end My

/-! More: further steps of the readings. -/
namespace My
open PySem PySem.Spec PyProof.Rows L2
section
variable {K : PySem.W.Frag} {σ : L2.St} {H : Hp} {D : Ends} {g : TG} {tb : TS} {R : It → Hp → Prop} {te : TE} {Q : VK}
theorem g_iS (h : te σ H fun x H1 => ∃ z, x = .str z ∧ R (Its z) H1) : iStr te σ H R := h
/-- for c in a text -/
theorem g_forS {z : Str} (Pv : Nat → L2.St → Hp → Prop) (h0 : Pv 0 σ H)
    (hs : ∀ i c σ H, z.cps.toList[i]? = some c → Pv i σ H → g (.str ⟨#[c]⟩) σ H fun σ2 H2 => tb { D with nx := Pv (i + 1), ct := Pv (i + 1), bk := D.nx } σ2 H2) (hd : ∀ σ H, Pv z.cps.toList.length σ H → D.nx σ H) :
    ∃ y, V.str z = .str y ∧ ForB g tb D σ (Its y) H := by
  refine ⟨z, rfl, fun i m σ H => m = z.cps.toList.length - i ∧ i ≤ z.cps.toList.length ∧ Pv i σ H, ⟨z.cps.toList.length, by simp, Nat.zero_le _, h0⟩, ?_⟩
  rintro i m σ H ⟨rfl, hi, p⟩
  by_cases hlt : i < z.cps.toList.length
  · refine .inr ⟨by simpa [Its] using hlt, Pv (i + 1), fun σ' H' p' => ⟨z.cps.toList.length - (i + 1), by omega, rfl, hlt, p'⟩, fun x H' y => ?_⟩
    obtain ⟨e, c, hc, rfl⟩ := y
    subst e
    exact hs i c σ _ (by simpa using hc) p
  · have e : i = z.cps.toList.length := by omega
    subst e
    exact .inl ⟨by simp [Its], hd σ H p⟩
theorem g_notInS {c : Nat} {z : Str} (h : Q (.bl (!decide (c ∈ z.cps.toList))) H) : rNotInS_ (.str ⟨#[c]⟩) (.str z) H Q := ⟨c, z, rfl, rfl, h⟩
theorem g_inS {c : Nat} {z : Str} (h : Q (.bl (decide (c ∈ z.cps.toList))) H) : rInS_ (.str ⟨#[c]⟩) (.str z) H Q := ⟨c, z, rfl, rfl, h⟩
theorem kit_bool_bool : PySem.W.kitOne K (.type "bool") (.type "bool") = some true := kit_ty (by decide +kernel)
theorem g_isiBB {b : Bool} (k : Q (.bl true) H) : rIsi K [.bl b, .ty "bool"] H Q := ⟨_, _, _, _, true, rfl, .ty "bool", .base (.bl b), kit_bool_bool, k⟩
end
/-! ### xs[1::-1] of two or more -/
theorem rev2_pick (items : Array Value) (u v : Value) (r : List Value) (e : items.toList = u :: v :: r) : slicePick items (some 1) none (some (-1)) = #[v, u] := by
  have hs : items.size = r.length + 2 := by rw [← Array.length_toList, e]; simp
  unfold slicePick
  have hb : sliceBounds (some 1) none (some (-1)) items.size = (1, -1, -1) := by
    rw [hs]
    simp [sliceBounds]
    omega
  rw [hb]
  have hr : sliceRange 1 (-1) (-1) = [1, 0] := by decide +kernel
  show ((sliceRange 1 (-1) (-1)).filterMap (items[·]?)).toArray = _
  rw [hr]
  have h0 : items[0]? = some u := by rw [← Array.getElem?_toList, e]; rfl
  have h1 : items[1]? = some v := by rw [← Array.getElem?_toList, e]; rfl
  simp [h0, h1]
def tRev2 (K : PySem.W.Frag) (te : TE) : TE := fun σ H Q => te σ H fun x H1 => ∃ a x0 x1 xs, x = .ref a ∧ SqL K H1 a (x0 :: x1 :: xs) ∧ ∀ p, H1 p = none → Q (.ref p) (upd H1 p (.lst [x1, x0]))
theorem pe_rev2 {X : Cx} {e : Expr} {te : TE} {k k' : Nat} {p0 p1 p2 p3 pos : Pos} (he : PE X e te) : PE X (.Subscript e (.Slice (some (.Constant (.int 1) k' p0)) none (some (.UnaryOp .USub (.Constant (.int 1) k p1) p2)) p3) pos) (tRev2 X.K te) := by
  refine ⟨fun pins s σ H Q I h => ?_⟩
  refine Subscript_ (thn (he.run pins s σ H _ I h) fun v s1 ⟨x, H1, I1, r1, q1⟩ => ?_)
  obtain ⟨a, x0, x1, xs, ex, hx, q⟩ := q1
  subst ex
  cases r1
  have hlo : PO X (some (.Constant (.int 1) k' p0)) (tPart (tC (.int 1))) := po_some pe_int
  have hst : PO X (some (.UnaryOp .USub (.Constant (.int 1) k p1) p2)) (tPart (tUn (rU fun i => .int (-i)) (tC (.int 1)))) := po_some (pe_un un_neg pe_int)
  refine wpAny_Slice (thn (hlo.run pins s1 σ H1 (fun o H2 => o = some 1 ∧ H2 = H1) I1 ⟨1, rfl, rfl, rfl⟩) fun vl s2 ⟨l, H2, I2, pl, el, e2⟩ => ?_)
  subst el e2
  refine thn (po_none.run pins s2 σ H2 (fun o H3 => o = none ∧ H3 = H2) I2 ⟨rfl, rfl⟩) fun vu s3 ⟨u, H3, I3, pu, eu, e3⟩ => ?_
  subst eu e3
  refine thn (hst.run pins s3 σ H3 (fun o H4 => o = some (-1) ∧ H4 = H3) I3 ⟨1, rfl, -1, rfl, rfl, rfl⟩) fun vs s4 ⟨o, H4, I4, ps, eo, e4⟩ => ?_
  subst eo e4
  have I5 : Inv X pins σ H4 { s4 with heap := s4.heap.push { cls := .type "slice", data := .fields #[vl, vu, vs] } } := I4.kept (t' := s4.toks) fun b ob q => Heap.get?_push_of_some _ q
  obtain ⟨its, r, ht, hz⟩ := I5.list hx
  have hlen := r.length
  show wpAny (model X.prog X.w) X.A (subscriptTail e (.Slice (some (.Constant (.int 1) k' p0)) none (some (.UnaryOp .USub (.Constant (.int 1) k p1) p2)) p3) (.ref a) (.ref s4.heap.objs.size)) (EP X pins σ Q) X.xe { s4 with heap := s4.heap.push { cls := .type "slice", data := .fields #[vl, vu, vs] } }
  refine tail_any (ops := [.ref a, .ref s4.heap.objs.size]) ht.isList.typeIs (PySem.slot_list_getitem.lookup) ?_ (by with_unfolding_all rfl)
  refine wpAny_getItem_list_slice ht.isList (Heap.IsSliceOf.new _ vl vu vs) pl pu ps (by decide) ?_ (by rw [List.size_toArray]; omega)
  cases r with
  | @cons _ u0 _ us r0 rr =>
    cases rr with
    | @cons _ u1 _ us2 r1 rr2 =>
      rw [rev2_pick _ u0 u1 us2 (by simp)]
      refine ⟨.ref _, _, I5.laid (t' := s4.toks) (o := .lst [x1, x0]) (fun b ob q => Heap.get?_push_of_some _ q) (Nat.le_refl _) ?_, rfl, q _ (I5.hok.fresh (Nat.le_refl _))⟩
      exact ⟨by rw [sizeLine_eq]; simp, _, 0, .cons r1 (.cons r0 .nil), Heap.get?_push_size _ rfl⟩
/-! ### dicts with int and text keys -/
def rLenD : List V → Hp → VK → Prop := fun xs H Q => ∃ a kvs, xs = [V.ref a] ∧ H a = some (.dK kvs) ∧ Q (.int kvs.length) H
section
variable {K : PySem.W.Frag} {σ : L2.St} {H : Hp} {D : Ends} {Q : VK} {td ty tx tv te : TE}
theorem g_lenD {a : Addr} {kvs : List (Key × V)} (h : H a = some (.dK kvs)) (k : Q (.int kvs.length) H) : rLenD [.ref a] H Q := ⟨a, kvs, rfl, h, k⟩
theorem g_dget (h : td σ H fun x H1 => ty σ H1 fun y H2 => ∃ a v, x = .ref a ∧ DGet H2 a y (some v) ∧ Q v H2) : tDGet td ty σ H Q := h
theorem g_dget2 (h : td σ H fun x H1 => ∃ a, x = .ref a ∧ IsD H1 a ∧ ty σ H1 fun y H2 => tx σ H2 fun z H3 => ∃ o, DGet H3 a y o ∧ Q (o.getD z) H3) : tDGet2 td ty tx σ H Q := h
theorem g_din (h : ty σ H fun y H1 => td σ H1 fun x H2 => ∃ a o, x = .ref a ∧ DGet H2 a y o ∧ Q (.bl o.isSome) H2) : tDIn ty td σ H Q := h
theorem g_dnin (h : ty σ H fun y H1 => td σ H1 fun x H2 => ∃ a o, x = .ref a ∧ DGet H2 a y o ∧ Q (.bl (!o.isSome)) H2) : tDNotIn ty td σ H Q := h
theorem g_dput (h : tv σ H fun v H1 => td σ H1 fun x H2 => ty σ H2 fun y H3 => ∃ a H4, x = .ref a ∧ DPut H3 a y v H4 ∧ D.nx σ H4) : sDPut td ty tv D σ H := h
theorem g_star {t : TA} {QL : List V → Hp → Prop} (h : te σ H fun x H1 => ∃ p xs, x = V.ref p ∧ (SqT K H1 p xs ∨ SqL K H1 p xs) ∧ t σ H1 fun ys H2 => QL (xs ++ ys) H2) : StX.tStar K te t σ H QL := h
theorem g_rev2 (h : te σ H fun x H1 => ∃ a x0 x1 xs, x = .ref a ∧ SqL K H1 a (x0 :: x1 :: xs) ∧ ∀ p, H1 p = none → Q (.ref p) (upd H1 p (.lst [x1, x0]))) : tRev2 K te σ H Q := h
theorem g_dnew (k : ∀ p H', H p = none → Ext H H' → H' p = some (.dK []) → Q (.ref p) H') : tDNewK σ H Q := fun p hp => k p _ hp (Chg.new hp _) upd_same
end
theorem DGet.int {H : Hp} {a : Addr} {kvs : List (Key × V)} {n : Int} (h : H a = some (.dK kvs)) : DGet H a (.int n) (valV kvs (.inl n)) := .inl ⟨kvs, .inl n, .inl h, rfl, rfl⟩
theorem DGet.str {H : Hp} {a : Addr} {kvs : List (Key × V)} {n : Str} (h : H a = some (.dK kvs)) : DGet H a (.str n) (valV kvs (.inr n)) := .inl ⟨kvs, .inr n, .inl h, rfl, rfl⟩
theorem isD_of {H : Hp} {a : Addr} {kvs : List (Key × V)} (h : H a = some (.dK kvs)) : IsD H a := .inl ⟨kvs, .inl h⟩
end My

namespace My
open PySem PySem.Spec PyProof.Rows L2
local macro_rules | `(tactic| walk_at "g1") => `(tactic| first
  | with_reducible refine My.g_seq ?_
  | with_reducible refine My.g_asg ?_
  | with_reducible refine My.g_name ?_
  | ((with_reducible refine' My.g_var ?ga ?gb); (case ga => rfl))
  | with_reducible refine My.g_c ?_
  | with_reducible refine My.g_op ?_
  | with_reducible refine My.g_cb ?_
  | with_reducible refine My.g_cons ?_
  | with_reducible refine My.g_nil ?_
  | with_reducible refine My.g_ifS ?_
  | with_reducible refine My.g_ret ?_
  | with_reducible refine My.g_drop ?_
  | with_reducible refine My.g_test ?_
  | with_reducible refine My.g_B ?_
  | with_reducible refine My.g_bl ?_
  | with_reducible refine My.g_int1 ?_
  | with_reducible refine My.g_rI0 ?_
  | ((with_reducible refine My.g_rI ?ga ?gb); (case ga => first | decide | (unfold CMul; omega) | (unfold CDiv; omega) | (unfold CPow; decide) | (unfold CPow; omega) | omega))
  | with_reducible refine My.g_eqI ?_
  | with_reducible refine My.g_neI ?_
  | with_reducible refine My.g_eqS ?_
  | with_reducible refine My.g_neS ?_
  | with_reducible refine My.g_neB ?_
  | with_reducible refine My.g_tr ?_
  | with_reducible refine My.g_fa ?_
  | with_reducible refine My.g_ntr ?_
  | with_reducible refine My.g_nfa ?_
  | with_reducible refine My.g_next ?_
  | with_reducible refine My.g_bm ?_
  | with_reducible refine My.g_bm0 ?_
  | ((with_reducible refine' My.g_tyL ?ga ?gb); (case ga => assumption))
  | with_reducible refine My.g_not ?_
  | with_reducible refine My.g_and ?_
  | with_reducible refine My.g_or ?_
  | with_reducible refine My.g_andV ?_
  | with_reducible refine My.g_orV ?_
  | with_reducible refine My.g_notV ?_
  | with_reducible refine My.g_ifE ?_
  | with_reducible refine My.g_chain ?_
  | with_reducible refine My.g_un ?_
  | with_reducible refine My.g_rU ?_
  | with_reducible refine My.g_sl ?_
  | with_reducible refine My.g_part ?_
  | with_reducible refine My.g_nopart ?_
  | with_reducible refine My.g_exI ?_
  | with_reducible refine My.g_abs ?_
  | with_reducible refine My.g_int1b ?_
  | with_reducible refine My.g_tupT ?_
  | with_reducible refine My.g_lstT ?_
  | with_reducible refine My.g_yes ?_
  | with_reducible refine My.g_joined ?_
  | with_reducible refine My.g_jc ?_
  | with_reducible refine My.g_jn ?_
  | with_reducible refine My.g_fmt ?_
  | with_reducible refine My.g_m1 ?_
  | with_reducible refine My.g_m1s ?_
  | with_reducible refine My.g_for ?_
  | with_reducible refine My.g_lc ?_
  | with_reducible refine My.g_iL ?_
  | with_reducible refine My.g_iT ?_
  | with_reducible refine My.g_iR ?_
  | with_reducible refine My.g_iR2 ?_
  | with_reducible refine My.g_call ?_
  | with_reducible refine My.g_isN ?_
  | with_reducible refine My.g_notN ?_
  | with_reducible refine My.g_retN ?_
  | with_reducible refine My.g_iS ?_
  | with_reducible refine My.g_dget ?_
  | with_reducible refine My.g_dget2 ?_
  | with_reducible refine My.g_din ?_
  | with_reducible refine My.g_dnin ?_
  | with_reducible refine My.g_dput ?_
  | with_reducible refine My.g_star ?_
  | with_reducible refine My.g_rev2 ?_
  | ((with_reducible refine' My.g_lenL ?ga ?gb); (case ga => assumption))
  | ((with_reducible refine' My.g_lenT ?ga ?gb); (case ga => assumption)))
local macro_rules | `(tactic| walk_at "go") => `(tactic| repeat walk_at "g1")

def t_take (K : PySem.W.Frag) : TS := (tSeq (tIfS (tTest (tOp rEq (tCB (rLenSeq K) (tCons (tVar 0) tNil)) (tC (.int 0)))) (tRet (tC (.int 0)))
  tNext)
  (tRet (tOp rModI (tCB rInt1 (tCons (tBM K "list" rPopAt (tVar 0) (tCons (tC (.int 0)) tNil)) tNil)) (tVar 1))))
abbrev N_take : List Str := ["_law_draws", "_law_many"]
/-- the draws: a list of ints at d, not too long -/
def Dr (H : Hp) (d : Addr) : Prop := ∃ ds : List Int, H d = some (.lst (ds.map V.int)) ∧ ds.length ≤ 10000
theorem big {n : Nat} (h : n ≤ 100000) : n ≤ sizeLine := Nat.le_trans h (by decide)
theorem bigl {n : Nat} (h : n < 100000) : n < sizeLine := Nat.lt_of_lt_of_le h (by decide)
def sp_take (K : PySem.W.Frag) : Sp := fun vs H Q _ => ∃ (d : Addr) (m : Int), vs = [.ref d, .int m] ∧ Dr H d ∧ 0 < m ∧ ∀ (v : Int) (H' : Hp), 0 ≤ v → v < m → Chg [d] H H' → Dr H' d → Q (.int v) H'
theorem len_take {K : PySem.W.Frag} {vs : List V} {H : Hp} {Q : VK} {E : XK} (h : sp_take K vs H Q E) : vs.length = 2 := by obtain ⟨_, _, rfl, _⟩ := h; rfl
theorem rd_take {K : PySem.W.Frag} {vs : List V} {H : Hp} {Q : VK} {E : XK} (h : sp_take K vs H Q E) : t_take K { nx := fun _ H' => Q .non H', rt := Q } (start N_take vs) H := by
  obtain ⟨d, m, rfl, ⟨ds, hd, hl⟩, hm, k⟩ := h
  unfold t_take
  walk_at "go"
  refine g_2 (fun e => ?_) (fun e => ?_)
  · walk_at "go"
    exact k 0 H (Int.le_refl 0) hm (Chg.refl H) ⟨ds, hd, hl⟩
  · walk_at "go"
    cases ds with
    | nil => simp at e
    | cons n ds =>
      refine ⟨d, _, 0, 0, .int n, rfl, rfl, hd, by decide, by decide, by simp [seqIndex?], rfl, ?_⟩
      walk_at "go"
      refine k _ _ (Int.emod_nonneg _ (by omega)) (Int.emod_lt_of_pos _ hm) ((Chg.refl H).set (List.mem_singleton.mpr rfl) hd (by simp) _) ⟨ds, by rw [upd_same]; rfl, by simp at hl; omega⟩
def t_stream (K : PySem.W.Frag) : TS := (tSeq (tAsg (tLst tNil) (gName 1))
  (tSeq (tAsg (tC (.int 7)) (gName 2))
  (tSeq (tFor (iList K (tVar 0)) (gName 3)
  (tSeq (tAsg (tCB rAbs (tCons (tCB rInt1 (tCons (tVar 3) tNil)) tNil)) (gName 4))
  (tCut (tIfS (tTest (tOp rLtI (tVar 4) (tOp rPowI (tC (.int 10)) (tC (.int 18))))) (tSeq (tDrop (tBM K "list" rAppend (tVar 1) (tCons (tOp rModI (tCB rInt1 (tCons (tVar 3) tNil)) (tC (.int 1000))) tNil)))
  (tAsg (tC (.int 0)) (gName 4)))
  tNext)
  (tSeq (tFor (iRng1 (tCons (tC (.int 60)) tNil)) (gName 5)
  (tIfS (tTest (tOp rGtI (tVar 4) (tC (.int 0)))) (tSeq (tDrop (tBM K "list" rAppend (tVar 1) (tCons (tOp rModI (tCB rInt1 (tCons (tVar 4) tNil)) (tC (.int 1000))) tNil)))
  (tAsg (tOp rDivI (tVar 4) (tC (.int 1000))) (gName 4)))
  tNext))
  (tAsg (tOp rAddI (tOp rModI (tCB rInt1 (tCons (tOp rAddI (tOp rMulI (tVar 2) (tC (.int 31))) (tCB rInt1 (tCons (tVar 3) tNil))) tNil)) (tC (.int 1000003))) (tC (.int 1))) (gName 2))))))
  (tSeq (tAsg (tOp rAddI (tOp rMulI (tVar 2) (tC (.int 7))) (tC (.int 1))) (gName 6))
  (tSeq (tFor (iRng1 (tCons (tOp rMulI (tC (.int 600)) (tCB rInt1 (tCons (tOp rGtI (tCB (rLenSeq K) (tCons (tVar 0) tNil)) (tC (.int 0))) tNil))) tNil)) (gName 5)
  (tSeq (tAsg (tOp rModI (tCB rInt1 (tCons (tOp rMulI (tVar 2) (tC (.int 48271))) tNil)) (tC (.int 2147483647))) (gName 2))
  (tSeq (tAsg (tOp rModI (tCB rInt1 (tCons (tOp rMulI (tVar 6) (tC (.int 69621))) tNil)) (tC (.int 2147483629))) (gName 6))
  (tDrop (tBM K "list" rAppend (tVar 1) (tCons (tOp rModI (tCB rInt1 (tCons (tOp rAddI (tOp rDivI (tVar 2) (tC (.int 1009))) (tOp rDivI (tVar 6) (tC (.int 2003)))) tNil)) (tC (.int 1000))) tNil))))))
  (tRet (tSl (rSlL K) (tVar 1) tNoPart (tPart (tC (.int 900))))))))))
abbrev N_stream : List Str := ["_law_script", "_law_row", "_law_seed", "_law_cell", "_law_rest", "_law_k", "_law_turn"]
theorem len_app {xs : List Int} {n : Int} : (xs ++ [n]).map V.int = xs.map V.int ++ [V.int n] := by simp
def sp_stream (K : PySem.W.Frag) : Sp := fun vs H Q _ => ∃ (a : Addr) (ns : List Int), vs = [.ref a] ∧ SqL K H a (ns.map V.int) ∧ ns.length ≤ 63 ∧ ∀ (r : Addr) (H' : Hp), H r = none → Ext H H' → Dr H' r → Q (.ref r) H'
theorem len_stream {K : PySem.W.Frag} {vs : List V} {H : Hp} {Q : VK} {E : XK} (h : sp_stream K vs H Q E) : vs.length = 1 := by obtain ⟨_, _, rfl, _⟩ := h; rfl
theorem rd_stream {K : PySem.W.Frag} {vs : List V} {H : Hp} {Q : VK} {E : XK} (h : sp_stream K vs H Q E) : t_stream K { nx := fun _ H' => Q .non H', rt := Q } (start N_stream vs) H := by
  obtain ⟨a, ns, rfl, hS, h63, k⟩ := h
  unfold t_stream
  walk_at "go"
  refine g_newL (by decide) fun r H1 hr c1 h1 => ?_
  walk_at "go"
  -- for cell in script
  refine g_forL (xs := ns.map V.int) (c1.same.seq hS) (fun i σ H' => ∃ (ds : List Int) (seed : Int) (o3 o4 o5 : Option V), σ = [some (.ref a), some (.ref r), some (.int seed), o3, o4, o5, none] ∧ Ext H H' ∧ H' r = some (.lst (ds.map V.int)) ∧ ds.length ≤ 100 * i ∧ 0 ≤ seed ∧ seed ≤ 2000000)
    ⟨[], 7, none, none, none, rfl, c1, h1, Nat.zero_le _, by decide, by decide⟩ (fun i σ H' _ ⟨_, _, _, _, _, _, c, _⟩ => c.same.seq hS) ?_ ?_
  · rintro i x σ H' hi ⟨ds, seed, o3, o4, o5, rfl, c, hd, hl, s0, s1⟩
    obtain ⟨n, hn, rfl⟩ : ∃ n, ns[i]? = some n ∧ V.int n = x := by
      rw [List.getElem?_map] at hi
      cases e : ns[i]? with
      | none => rw [e] at hi; cases hi
      | some n => rw [e] at hi; exact ⟨n, rfl, Option.some.inj hi⟩
    have hi63 : i < ns.length := (List.getElem?_eq_some_iff.mp hn).1
    walk_at "go"
    refine g_cut (M := fun σ H' => ∃ (ds : List Int) (rest : Int), σ = [some (.ref a), some (.ref r), some (.int seed), some (.int n), some (.int rest), o5, none] ∧ Ext H H' ∧ H' r = some (.lst (ds.map V.int)) ∧ ds.length ≤ 100 * i + 1) ?_ ?_
    · walk_at "go"
      refine g_2 (fun _ => ?_) (fun _ => ?_)
      · walk_at "go"
        refine g_append hd (bigl (by simp; omega)) ?_
        walk_at "go"
        exact ⟨ds ++ [_], _, rfl, c.own hr _, by rw [upd_same, len_app], by simp; omega⟩
      · walk_at "go"
        exact ⟨ds, _, rfl, c, hd, by omega⟩
    · rintro σ H' ⟨ds, rest, rfl, c, hd, hl⟩
      walk_at "go"
      refine g_forR (by decide) (fun k σ H' => ∃ (ds : List Int) (rest : Int) (o5 : Option V), σ = [some (.ref a), some (.ref r), some (.int seed), some (.int n), some (.int rest), o5, none] ∧ Ext H H' ∧ H' r = some (.lst (ds.map V.int)) ∧ ds.length ≤ 100 * i + 1 + k) ⟨ds, rest, o5, rfl, c, hd, by omega⟩ ?_ ?_
      · rintro k σ H' hk ⟨ds, rest, o5, rfl, c, hd, hl⟩
        walk_at "go"
        refine g_2 (fun _ => ?_) (fun _ => ?_)
        · walk_at "go"
          refine g_append hd (bigl (by simp; omega)) ?_
          walk_at "go"
          exact ⟨ds ++ [_], _, _, rfl, c.own hr _, by rw [upd_same, len_app], by simp; omega⟩
        · walk_at "go"
          exact ⟨ds, rest, _, rfl, c, hd, by omega⟩
      · rintro σ H' ⟨ds, rest, o5, rfl, c, hd, hl⟩
        walk_at "go"
        refine ⟨ds, _, _, _, _, rfl, c, hd, by simp at hl; omega, ?_, ?_⟩
        · have := Int.emod_nonneg (seed * 31 + n) (b := 1000003) (by decide); omega
        · have := Int.emod_lt_of_pos (seed * 31 + n) (b := 1000003) (by decide); omega
  · rintro σ H' ⟨ds, seed, o3, o4, o5, rfl, c, hd, hl, s0, s1⟩
    walk_at "go"
    refine g_lenLK (c.same.seq hS) ?_
    walk_at "go"
    have hb : ∀ b : Bool, (if b = true then (1 : Int) else 0) = 0 ∨ (if b = true then (1 : Int) else 0) = 1 := by intro b; cases b <;> simp
    generalize he : (if decide (0 < ((List.map V.int ns).length : Int)) = true then (1 : Int) else 0) = e
    have he2 : e = 0 ∨ e = 1 := by rw [← he]; exact hb _
    refine g_forR (by omega) (fun k σ H' => ∃ (ds : List Int) (seed turn : Int) (o5 : Option V), σ = [some (.ref a), some (.ref r), some (.int seed), o3, o4, o5, some (.int turn)] ∧ Ext H H' ∧ H' r = some (.lst (ds.map V.int)) ∧ ds.length ≤ 6300 + k ∧ -5000000000 ≤ seed ∧ seed ≤ 5000000000 ∧ -5000000000 ≤ turn ∧ turn ≤ 5000000000) ⟨ds, seed, _, o5, rfl, c, hd, by simp at hl; omega, by omega, by omega, by omega, by omega⟩ ?_ ?_
    · rintro k σ H' hk ⟨ds, seed, turn, o5, rfl, c, hd, hl, a1, a2, a3, a4⟩
      walk_at "go"
      refine g_append hd (bigl (by simp; omega)) ?_
      refine ⟨ds ++ [_], _, _, _, rfl, c.own hr _, by rw [upd_same, len_app], by simp; omega, ?_, ?_, ?_, ?_⟩
      · have := Int.emod_nonneg (seed * 48271) (b := 2147483647) (by decide); omega
      · have := Int.emod_lt_of_pos (seed * 48271) (b := 2147483647) (by decide); omega
      · have := Int.emod_nonneg (turn * 69621) (b := 2147483629) (by decide); omega
      · have := Int.emod_lt_of_pos (turn * 69621) (b := 2147483629) (by decide); omega
    · rintro σ H' ⟨ds, seed, turn, o5, rfl, c, hd, hl, a1, a2, a3, a4⟩
      walk_at "go"
      refine g_slL (.inl (.inl hd)) fun q H2 hq c2 h2 => ?_
      refine k q H2 (c.free hq) (c.trans c2) ⟨ds.take 900, ?_, by simp; omega⟩
      rw [h2]
      simp [cutV, HT.sIx, List.map_take]
end My

namespace My
open PySem PySem.Spec PyProof.Rows L2
local macro_rules | `(tactic| walk_at "g1") => `(tactic| first
  | with_reducible refine My.g_seq ?_
  | with_reducible refine My.g_asg ?_
  | with_reducible refine My.g_name ?_
  | ((with_reducible refine' My.g_var ?ga ?gb); (case ga => rfl))
  | with_reducible refine My.g_c ?_
  | with_reducible refine My.g_op ?_
  | with_reducible refine My.g_cb ?_
  | with_reducible refine My.g_cons ?_
  | with_reducible refine My.g_nil ?_
  | with_reducible refine My.g_ifS ?_
  | with_reducible refine My.g_ret ?_
  | with_reducible refine My.g_drop ?_
  | with_reducible refine My.g_test ?_
  | with_reducible refine My.g_B ?_
  | with_reducible refine My.g_bl ?_
  | with_reducible refine My.g_int1 ?_
  | with_reducible refine My.g_rI0 ?_
  | ((with_reducible refine My.g_rI ?ga ?gb); (case ga => first | decide | (unfold CMul; omega) | (unfold CDiv; omega) | (unfold CPow; decide) | (unfold CPow; omega) | omega))
  | with_reducible refine My.g_eqI ?_
  | with_reducible refine My.g_neI ?_
  | with_reducible refine My.g_eqS ?_
  | with_reducible refine My.g_neS ?_
  | with_reducible refine My.g_neB ?_
  | with_reducible refine My.g_tr ?_
  | with_reducible refine My.g_fa ?_
  | with_reducible refine My.g_ntr ?_
  | with_reducible refine My.g_nfa ?_
  | with_reducible refine My.g_next ?_
  | with_reducible refine My.g_bm ?_
  | with_reducible refine My.g_bm0 ?_
  | ((with_reducible refine' My.g_tyL ?ga ?gb); (case ga => assumption))
  | with_reducible refine My.g_not ?_
  | with_reducible refine My.g_and ?_
  | with_reducible refine My.g_or ?_
  | with_reducible refine My.g_andV ?_
  | with_reducible refine My.g_orV ?_
  | with_reducible refine My.g_notV ?_
  | with_reducible refine My.g_ifE ?_
  | with_reducible refine My.g_chain ?_
  | with_reducible refine My.g_un ?_
  | with_reducible refine My.g_rU ?_
  | with_reducible refine My.g_sl ?_
  | with_reducible refine My.g_part ?_
  | with_reducible refine My.g_nopart ?_
  | with_reducible refine My.g_exI ?_
  | with_reducible refine My.g_abs ?_
  | with_reducible refine My.g_int1b ?_
  | with_reducible refine My.g_tupT ?_
  | with_reducible refine My.g_lstT ?_
  | with_reducible refine My.g_yes ?_
  | with_reducible refine My.g_joined ?_
  | with_reducible refine My.g_jc ?_
  | with_reducible refine My.g_jn ?_
  | with_reducible refine My.g_fmt ?_
  | with_reducible refine My.g_m1 ?_
  | with_reducible refine My.g_m1s ?_
  | with_reducible refine My.g_for ?_
  | with_reducible refine My.g_lc ?_
  | with_reducible refine My.g_iL ?_
  | with_reducible refine My.g_iT ?_
  | with_reducible refine My.g_iR ?_
  | with_reducible refine My.g_iR2 ?_
  | with_reducible refine My.g_call ?_
  | with_reducible refine My.g_isN ?_
  | with_reducible refine My.g_notN ?_
  | with_reducible refine My.g_retN ?_
  | with_reducible refine My.g_iS ?_
  | with_reducible refine My.g_dget ?_
  | with_reducible refine My.g_dget2 ?_
  | with_reducible refine My.g_din ?_
  | with_reducible refine My.g_dnin ?_
  | with_reducible refine My.g_dput ?_
  | with_reducible refine My.g_star ?_
  | with_reducible refine My.g_rev2 ?_
  | ((with_reducible refine' My.g_lenL ?ga ?gb); (case ga => assumption))
  | ((with_reducible refine' My.g_lenT ?ga ?gb); (case ga => assumption)))
local macro_rules | `(tactic| walk_at "go") => `(tactic| repeat walk_at "g1")

/-! ### names -/
abbrev abc : Str := "abcdefghijklmnopqrstuvwxyz"
def isWord (s : Str) : Bool := (decide (1 ≤ s.length) && decide (s.length ≤ 8)) && s.cps.toList.all fun c => decide (c ∈ abc.cps.toList)
theorem all_take {l : List Nat} {p : Nat → Bool} {i c : Nat} (h : l[i]? = some c) : (l.take (i + 1)).all p = ((l.take i).all p && p c) := by
  rw [List.take_add_one, h, List.all_append]
  simp
def t_word (K : PySem.W.Frag) : TS := (tSeq (tIfS (tNot (tTest (tChain rLeI rLeI (tC (.int 1)) (tCB rLenStr (tCons (tVar 0) tNil)) (tC (.int 8))))) (tRet (tC (.bl false)))
  tNext)
  (tSeq (tFor (iStr (tVar 0)) (gName 1)
  (tIfS (tTest (tOp rNotInS_ (tVar 1) (tC (.str "abcdefghijklmnopqrstuvwxyz")))) (tRet (tC (.bl false)))
  tNext))
  (tRet (tC (.bl true)))))
abbrev N_word : List Str := ["text", "char"]
def sp_word (K : PySem.W.Frag) : Sp := fun vs H Q _ => ∃ s : Str, vs = [.str s] ∧ s.length ≤ 100000 ∧ Q (.bl (isWord s)) H
theorem len_word {K : PySem.W.Frag} {vs : List V} {H : Hp} {Q : VK} {E : XK} (h : sp_word K vs H Q E) : vs.length = 1 := by obtain ⟨_, rfl, _⟩ := h; rfl
theorem rd_word {K : PySem.W.Frag} {vs : List V} {H : Hp} {Q : VK} {E : XK} (h : sp_word K vs H Q E) : t_word K { nx := fun _ H' => Q .non H', rt := Q } (start N_word vs) H := by
  obtain ⟨s, rfl, hl, k⟩ := h
  unfold t_word
  walk_at "go"
  refine g_lenS (big hl) ?_
  walk_at "go"
  refine g_2 (fun b => ?_) (fun b => ?_)
  · have b : (1 : Int) ≤ s.length := of_decide_eq_true b
    walk_at "go"
    refine g_2 (fun c => ?_) (fun c => ?_)
    · have c : ¬ (s.length : Int) ≤ 8 := of_decide_eq_false (by simpa using c)
      walk_at "go"
      have e : isWord s = false := by unfold isWord; rw [decide_eq_false (show ¬ s.length ≤ 8 by omega), Bool.and_false, Bool.false_and]
      rw [e] at k
      exact k
    · have c : (s.length : Int) ≤ 8 := of_decide_eq_true (by simpa using c)
      walk_at "go"
      have e0 : isWord s = s.cps.toList.all fun c => decide (c ∈ abc.cps.toList) := by
        unfold isWord
        rw [decide_eq_true (show 1 ≤ s.length by omega), decide_eq_true (show s.length ≤ 8 by omega)]
        rfl
      rw [e0] at k
      refine g_forS (fun i σ H' => ∃ o : Option V, σ = [some (.str s), o] ∧ H' = H ∧ (s.cps.toList.take i).all (fun c => decide (c ∈ abc.cps.toList)) = true) ⟨none, rfl, rfl, rfl⟩ ?_ ?_
      · rintro i c σ H' hi ⟨o, rfl, rfl, ha⟩
        walk_at "go"
        refine g_notInS ?_
        walk_at "go"
        refine g_2 (fun b => ?_) (fun b => ?_)
        · have b : ¬ c ∈ abc.cps.toList := of_decide_eq_false (by simpa using b)
          walk_at "go"
          have : (s.cps.toList.all fun c => decide (c ∈ abc.cps.toList)) = false := by
            rw [List.all_eq_false]
            exact ⟨c, List.mem_of_getElem? hi, by simp [b]⟩
          rw [this] at k
          exact k
        · have b : c ∈ abc.cps.toList := of_decide_eq_true (by simpa using b)
          walk_at "go"
          exact ⟨_, rfl, rfl, by rw [all_take hi, ha, decide_eq_true b]; rfl⟩
      · rintro σ H' ⟨o, rfl, rfl, ha⟩
        walk_at "go"
        rw [List.take_length] at ha
        rw [ha] at k
        exact k
  · have b : ¬ (1 : Int) ≤ s.length := of_decide_eq_false b
    walk_at "go"
    have e : isWord s = false := by unfold isWord; rw [decide_eq_false (show ¬ 1 ≤ s.length by omega), Bool.false_and, Bool.false_and]
    rw [e] at k
    exact k
end My

namespace My
open PySem PySem.Spec PyProof.Rows L2
local macro_rules | `(tactic| walk_at "g1") => `(tactic| first
  | with_reducible refine My.g_seq ?_
  | with_reducible refine My.g_asg ?_
  | with_reducible refine My.g_name ?_
  | ((with_reducible refine' My.g_var ?ga ?gb); (case ga => rfl))
  | with_reducible refine My.g_c ?_
  | with_reducible refine My.g_op ?_
  | with_reducible refine My.g_cb ?_
  | with_reducible refine My.g_cons ?_
  | with_reducible refine My.g_nil ?_
  | with_reducible refine My.g_ifS ?_
  | with_reducible refine My.g_ret ?_
  | with_reducible refine My.g_drop ?_
  | with_reducible refine My.g_test ?_
  | with_reducible refine My.g_B ?_
  | with_reducible refine My.g_bl ?_
  | with_reducible refine My.g_int1 ?_
  | with_reducible refine My.g_rI0 ?_
  | ((with_reducible refine My.g_rI ?ga ?gb); (case ga => first | decide | (unfold CMul; omega) | (unfold CDiv; omega) | (unfold CPow; decide) | (unfold CPow; omega) | omega))
  | with_reducible refine My.g_eqI ?_
  | with_reducible refine My.g_neI ?_
  | with_reducible refine My.g_eqS ?_
  | with_reducible refine My.g_neS ?_
  | with_reducible refine My.g_neB ?_
  | with_reducible refine My.g_tr ?_
  | with_reducible refine My.g_fa ?_
  | with_reducible refine My.g_ntr ?_
  | with_reducible refine My.g_nfa ?_
  | with_reducible refine My.g_next ?_
  | with_reducible refine My.g_bm ?_
  | with_reducible refine My.g_bm0 ?_
  | ((with_reducible refine' My.g_tyL ?ga ?gb); (case ga => assumption))
  | with_reducible refine My.g_not ?_
  | with_reducible refine My.g_and ?_
  | with_reducible refine My.g_or ?_
  | with_reducible refine My.g_andV ?_
  | with_reducible refine My.g_orV ?_
  | with_reducible refine My.g_notV ?_
  | with_reducible refine My.g_ifE ?_
  | with_reducible refine My.g_chain ?_
  | with_reducible refine My.g_un ?_
  | with_reducible refine My.g_rU ?_
  | with_reducible refine My.g_sl ?_
  | with_reducible refine My.g_part ?_
  | with_reducible refine My.g_nopart ?_
  | with_reducible refine My.g_exI ?_
  | with_reducible refine My.g_abs ?_
  | with_reducible refine My.g_int1b ?_
  | with_reducible refine My.g_tupT ?_
  | with_reducible refine My.g_lstT ?_
  | with_reducible refine My.g_yes ?_
  | with_reducible refine My.g_joined ?_
  | with_reducible refine My.g_jc ?_
  | with_reducible refine My.g_jn ?_
  | with_reducible refine My.g_fmt ?_
  | with_reducible refine My.g_m1 ?_
  | with_reducible refine My.g_m1s ?_
  | with_reducible refine My.g_for ?_
  | with_reducible refine My.g_lc ?_
  | with_reducible refine My.g_iL ?_
  | with_reducible refine My.g_iT ?_
  | with_reducible refine My.g_iR ?_
  | with_reducible refine My.g_iR2 ?_
  | with_reducible refine My.g_call ?_
  | with_reducible refine My.g_isN ?_
  | with_reducible refine My.g_notN ?_
  | with_reducible refine My.g_retN ?_
  | with_reducible refine My.g_iS ?_
  | with_reducible refine My.g_dget ?_
  | with_reducible refine My.g_dget2 ?_
  | with_reducible refine My.g_din ?_
  | with_reducible refine My.g_dnin ?_
  | with_reducible refine My.g_dput ?_
  | with_reducible refine My.g_star ?_
  | with_reducible refine My.g_rev2 ?_
  | ((with_reducible refine' My.g_lenL ?ga ?gb); (case ga => assumption))
  | ((with_reducible refine' My.g_lenT ?ga ?gb); (case ga => assumption)))
local macro_rules | `(tactic| walk_at "go") => `(tactic| repeat walk_at "g1")

theorem str_at {z : Str} {i : Int} (h0 : 0 ≤ i) (h1 : i < z.length) : ∃ c, atI z.cps.toList i = some c := by
  obtain ⟨k, rfl⟩ : ∃ k : Nat, i = (k : Int) := ⟨i.toNat, by omega⟩
  have hk : k < z.cps.toList.length := by
    have : z.cps.toList.length = z.length := by simp [Str.length]
    omega
  exact ⟨z.cps.toList[k], atI_nat (List.getElem?_eq_getElem hk)⟩
theorem app_len2 (a b : Str) : (a ++ b).length = a.length + b.length := by
  show (a.cps ++ b.cps).size = _
  rw [Array.size_append]; rfl
theorem g_take {K : PySem.W.Frag} {H : Hp} {Q : VK} {E : XK} {d : Addr} {m : Int} (hd : Dr H d) (hm : 0 < m) (k : ∀ (v : Int) (H' : Hp), 0 ≤ v → v < m → Chg [d] H H' → Dr H' d → Q (.int v) H') : sp_take K ([.ref d, .int m] ++ []) H Q E := ⟨d, m, rfl, hd, hm, k⟩
theorem Dr.keep {H H' : Hp} {d : Addr} (h : Dr H d) (c : Chg [] H H') : Dr H' d := by
  obtain ⟨ds, h1, h2⟩ := h
  exact ⟨ds, c.at h1, h2⟩
theorem Dr.off {H : Hp} {d l : Addr} (h : Dr H d) (hl : H l = none) : l ∉ [d] := by
  intro z
  rw [List.mem_singleton.mp z] at hl
  obtain ⟨ds, h1, _⟩ := h
  rw [hl] at h1
  cases h1
def spLaw (K : PySem.W.Frag) : Sp := fun vs H Q _ => ∃ (a : Addr) (ns : List Int), vs = [.ref a] ∧ SqL K H a (ns.map V.int) ∧ ns.length ≤ 63 ∧ ∀ H', Q (.bl true) H'
theorem len_law {K : PySem.W.Frag} {vs : List V} {H : Hp} {Q : VK} {E : XK} (h : spLaw K vs H Q E) : vs.length = 1 := by obtain ⟨_, _, rfl, _⟩ := h; rfl
def t_isname (K : PySem.W.Frag) : TS := (tRet (tCall (sp_word K) [] E0 (tCons (tVar 0) tNil)))
abbrev N_isname : List Str := ["text"]
def sp_isname (K : PySem.W.Frag) : Sp := sp_word K
theorem len_isname {K : PySem.W.Frag} {vs : List V} {H : Hp} {Q : VK} {E : XK} (h : sp_isname K vs H Q E) : vs.length = 1 := len_word h
theorem rd_isname {K : PySem.W.Frag} {vs : List V} {H : Hp} {Q : VK} {E : XK} (h : sp_isname K vs H Q E) : t_isname K { nx := fun _ H' => Q .non H', rt := Q } (start N_isname vs) H := by
  obtain ⟨s, rfl, hl, k⟩ := h
  unfold t_isname
  walk_at "go"
  exact ⟨s, rfl, hl, k⟩
def t_lword (K : PySem.W.Frag) : TS := (tSeq (tAsg (tC (.str "abcdefghijklmnopqrstuvwxyz")) (gName 1))
  (tSeq (tAsg (tC (.str " !\"#$&'()*+,-./0123456789:;<=>?@ABCDEFGHIJKLMNOPQRSTUVWXYZ[\\]^_`{|}~\n")) (gName 2))
  (tSeq (tAsg (tC (.str "")) (gName 3))
  (tSeq (tFor (iRng1 (tCons (tOp (rIxL K) (tLst (tCons (tC (.int 1)) (tCons (tC (.int 8)) (tCons (tC (.int 9)) (tCons (tCall (sp_take K) [] E0 (tCons (tVar 0) (tCons (tC (.int 12)) tNil))) tNil))))) (tCall (sp_take K) [] E0 (tCons (tVar 0) (tCons (tC (.int 4)) tNil)))) tNil)) (gName 4)
  (tAsg (tOp rAddS_ (tVar 3) (tOp rIxS (tVar 1) (tCall (sp_take K) [] E0 (tCons (tVar 0) (tCons (tC (.int 26)) tNil))))) (gName 3)))
  (tSeq (tIfS (tAnd (tTest (tOp rGtI (tCB rLenStr (tCons (tVar 3) tNil)) (tC (.int 0)))) (tTest (tOp rEq (tCall (sp_take K) [] E0 (tCons (tVar 0) (tCons (tC (.int 2)) tNil))) (tC (.int 1))))) (tFor (iRng1 (tCons (tOp rAddI (tC (.int 1)) (tCall (sp_take K) [] E0 (tCons (tVar 0) (tCons (tC (.int 3)) tNil)))) tNil)) (gName 4)
  (tSeq (tAsg (tCall (sp_take K) [] E0 (tCons (tVar 0) (tCons (tCB rLenStr (tCons (tVar 3) tNil)) tNil))) (gName 5))
  (tAsg (tOp rAddS_ (tOp rAddS_ (tSl rSlS (tVar 3) tNoPart (tPart (tVar 5))) (tOp rIxS (tVar 2) (tCall (sp_take K) [] E0 (tCons (tVar 0) (tCons (tCB rLenStr (tCons (tVar 2) tNil)) tNil))))) (tSl rSlS (tVar 3) (tPart (tOp rAddI (tVar 5) (tC (.int 1)))) tNoPart)) (gName 3))))
  tNext)
  (tRet (tVar 3)))))))
abbrev N_lword : List Str := ["_law_draws", "_law_letters", "_law_others", "_law_text", "_law_k", "_law_at"]
def sp_lword (K : PySem.W.Frag) : Sp := fun vs H Q _ => ∃ (d : Addr), vs = [.ref d] ∧ Dr H d ∧ ∀ (s : Str) (H' : Hp), s.length ≤ 1000 → Chg [d] H H' → Dr H' d → Q (.str s) H'
theorem len_lword {K : PySem.W.Frag} {vs : List V} {H : Hp} {Q : VK} {E : XK} (h : sp_lword K vs H Q E) : vs.length = 1 := by obtain ⟨_, rfl, _⟩ := h; rfl
theorem four_at {v i : Int} (hv : 0 ≤ v ∧ v < 12) (h0 : 0 ≤ i) (h1 : i < 4) : ∃ x : Int, atI ([.int 1, .int 8, .int 9, .int v] : List V) i = some (.int x) ∧ 0 ≤ x ∧ x ≤ 11 := by
  have h : i = 0 ∨ i = 1 ∨ i = 2 ∨ i = 3 := by omega
  rcases h with rfl | rfl | rfl | rfl
  · exact ⟨1, rfl, by decide, by decide⟩
  · exact ⟨8, rfl, by decide, by decide⟩
  · exact ⟨9, rfl, by decide, by decide⟩
  · exact ⟨v, rfl, by omega, by omega⟩
theorem rd_lword {K : PySem.W.Frag} {vs : List V} {H : Hp} {Q : VK} {E : XK} (h : sp_lword K vs H Q E) : t_lword K { nx := fun _ H' => Q .non H', rt := Q } (start N_lword vs) H := by
  obtain ⟨d, rfl, hd, k⟩ := h
  unfold t_lword
  walk_at "go"
  refine g_take hd (by decide) fun v H1 v0 v1 c1 hd1 => ?_
  walk_at "go"
  refine g_newL (big (by simp)) fun p H2 hp c2 h2 => ?_
  walk_at "go"
  refine g_take (hd1.keep c2) (by decide) fun w H3 w0 w1 c3 hd3 => ?_
  obtain ⟨x, hx, x0, x1⟩ := four_at ⟨v0, v1⟩ w0 w1
  refine g_ixL (c3.ob _ _ (hd1.off hp) h2) hx ?_
  walk_at "go"
  refine g_forR (by omega) (fun i σ H' => ∃ (s : Str) (ok : Option V), σ = [some (.ref d), some (.str "abcdefghijklmnopqrstuvwxyz"), some (.str " !\"#$&'()*+,-./0123456789:;<=>?@ABCDEFGHIJKLMNOPQRSTUVWXYZ[\\]^_`{|}~\n"), some (.str s), ok, none] ∧ Chg [d] H H' ∧ Dr H' d ∧ s.length ≤ i) ⟨_, none, rfl, (c1.trans c2.all).trans c3, hd3, by decide⟩ ?_ ?_
  · rintro i σ H' hi ⟨s, ok, rfl, c, hd, hl⟩
    walk_at "go"
    refine g_take hd (by decide) fun u H4 u0 u1 c4 hd4 => ?_
    obtain ⟨ch, hc⟩ := str_at (z := "abcdefghijklmnopqrstuvwxyz") u0 (by rw [show ("abcdefghijklmnopqrstuvwxyz" : Str).length = 26 by decide +kernel]; exact u1)
    refine g_ixS (by decide +kernel) hc ?_
    walk_at "go"
    have e1 : (⟨#[ch]⟩ : Str).length = 1 := rfl
    refine g_addS (big (by omega)) ?_
    walk_at "go"
    exact ⟨_, _, rfl, c.trans c4, hd4, by rw [app_len2, e1]; omega⟩
  · rintro σ H' ⟨s, ok, rfl, c, hd, hl⟩
    walk_at "go"
    refine g_lenS (big (by omega)) ?_
    walk_at "go"
    refine g_2 (fun b => ?_) (fun b => ?_)
    · have b : (0 : Int) < s.length := of_decide_eq_true b
      walk_at "go"
      refine g_take hd (by decide) fun u H4 u0 u1 c4 hd4 => ?_
      walk_at "go"
      refine g_2 (fun b2 => ?_) (fun b2 => ?_)
      · walk_at "go"
        refine g_take hd4 (by decide) fun n H5 n0 n1 c5 hd5 => ?_
        walk_at "go"
        refine g_forR (by omega) (fun i σ H' => ∃ (s : Str) (ok oa : Option V), σ = [some (.ref d), some (.str "abcdefghijklmnopqrstuvwxyz"), some (.str " !\"#$&'()*+,-./0123456789:;<=>?@ABCDEFGHIJKLMNOPQRSTUVWXYZ[\\]^_`{|}~\n"), some (.str s), ok, oa] ∧ Chg [d] H H' ∧ Dr H' d ∧ 1 ≤ s.length ∧ s.length ≤ 16 * 3 ^ i) ⟨s, ok, none, rfl, (c.trans c4).trans c5, hd5, by omega, by omega⟩ ?_ ?_
        · rintro i σ H' hi ⟨s, ok, oa, rfl, c, hd, hl1, hl2⟩
          have hi3 : i = 0 ∨ i = 1 ∨ i = 2 := by omega
          have p8 : 3 ^ i ≤ 9 := by rcases hi3 with rfl | rfl | rfl <;> decide
          have pi : 3 ^ (i + 1) = 3 * 3 ^ i := by rw [Nat.pow_succ]; omega
          walk_at "go"
          refine g_lenS (big (by omega)) ?_
          walk_at "go"
          refine g_take hd (by omega) fun a H6 a0 a1 c6 hd6 => ?_
          walk_at "go"
          refine ⟨_, rfl, big (by omega), ?_⟩
          walk_at "go"
          refine g_lenS (by decide +kernel) ?_
          walk_at "go"
          have hol : (" !\"#$&'()*+,-./0123456789:;<=>?@ABCDEFGHIJKLMNOPQRSTUVWXYZ[\\]^_`{|}~\n" : Str).length = 69 := by decide +kernel
          refine g_take hd6 (by rw [hol]; decide) fun e H7 e0 e1 c7 hd7 => ?_
          obtain ⟨ch, hc⟩ := str_at e0 e1
          refine g_ixS (by decide +kernel) hc ?_
          walk_at "go"
          have e1 : (⟨#[ch]⟩ : Str).length = 1 := rfl
          have q1 := cutS_length s none (some a)
          refine g_addS (big (by omega)) ?_
          walk_at "go"
          refine ⟨_, rfl, big (by omega), ?_⟩
          have q2 := cutS_length s (some (a + 1)) none
          refine g_addS (big (by rw [app_len2, e1]; omega)) ?_
          walk_at "go"
          exact ⟨_, _, _, rfl, (c.trans c6).trans c7, hd7, by rw [app_len2, app_len2, e1]; omega, by rw [app_len2, app_len2, e1]; omega⟩
        · rintro σ H' ⟨s, ok, oa, rfl, c, hd, hl1, hl2⟩
          walk_at "go"
          refine k s _ ?_ c hd
          have h3 : (1 + n).toNat = 0 ∨ (1 + n).toNat = 1 ∨ (1 + n).toNat = 2 ∨ (1 + n).toNat = 3 := by omega
          rcases h3 with h | h | h | h <;> rw [h] at hl2 <;> omega
      · walk_at "go"
        exact k s _ (by omega) (c.trans c4) hd4
    · walk_at "go"
      exact k s _ (by omega) c hd
def t_due (K : PySem.W.Frag) : TS := (tSeq (tAsg (tAndV (tOp rLeI (tC (.int 1)) (tCB rLenStr (tCons (tVar 0) tNil))) (tOp rLeI (tCB rLenStr (tCons (tVar 0) tNil)) (tC (.int 8)))) (gName 1))
  (tCut (tFor (iStr (tVar 0)) (gName 2)
  (tIfS (tTest (tOp rNotInS_ (tVar 2) (tC (.str "abcdefghijklmnopqrstuvwxyz")))) (tAsg (tC (.bl false)) (gName 1))
  tNext))
  (tRet (tVar 1))))
abbrev N_due : List Str := ["_law_text", "_law_good", "_law_char"]
def sp_due (K : PySem.W.Frag) : Sp := sp_word K
theorem len_due {K : PySem.W.Frag} {vs : List V} {H : Hp} {Q : VK} {E : XK} (h : sp_due K vs H Q E) : vs.length = 1 := len_word h
theorem rd_due {K : PySem.W.Frag} {vs : List V} {H : Hp} {Q : VK} {E : XK} (h : sp_due K vs H Q E) : t_due K { nx := fun _ H' => Q .non H', rt := Q } (start N_due vs) H := by
  obtain ⟨s, rfl, hl, k⟩ := h
  have rest : ∀ (b : Bool) (D : Ends), D.rt = Q → b = (decide (1 ≤ s.length) && decide (s.length ≤ 8)) →
      (tCut (tFor (iStr (tVar 0)) (gName 2) (tIfS (tTest (tOp rNotInS_ (tVar 2) (tC (.str "abcdefghijklmnopqrstuvwxyz")))) (tAsg (tC (.bl false)) (gName 1)) tNext)) (tRet (tVar 1))) D [some (.str s), some (.bl b), none] H := by
    intro b D hD hb
    subst hD
    refine g_cut (M := fun σ H' => ∃ o : Option V, σ = [some (.str s), some (.bl (isWord s)), o] ∧ H' = H) ?_ (by
      rintro σ H' ⟨o, rfl, rfl⟩
      walk_at "go"
      exact k)
    walk_at "go"
    refine g_forS (fun i σ H' => ∃ o : Option V, σ = [some (.str s), some (.bl (b && (s.cps.toList.take i).all fun c => decide (c ∈ abc.cps.toList))), o] ∧ H' = H) ⟨none, by simp, rfl⟩ ?_ ?_
    · rintro i c σ H' hi ⟨o, rfl, rfl⟩
      walk_at "go"
      refine g_notInS ?_
      walk_at "go"
      refine g_2 (fun b => ?_) (fun b => ?_)
      · have b : ¬ c ∈ abc.cps.toList := of_decide_eq_false (by simpa using b)
        walk_at "go"
        exact ⟨some (.str ⟨#[c]⟩), by rw [all_take hi, decide_eq_false b]; simp [List.set], rfl⟩
      · have b : c ∈ abc.cps.toList := of_decide_eq_true (by simpa using b)
        walk_at "go"
        exact ⟨some (.str ⟨#[c]⟩), by rw [all_take hi, decide_eq_true b]; simp [List.set], rfl⟩
    · rintro σ H' ⟨o, rfl, rfl⟩
      rw [List.take_length]
      have e : (b && s.cps.toList.all fun c => decide (c ∈ abc.cps.toList)) = isWord s := by rw [hb]; rfl
      rw [e]
      exact ⟨o, rfl, rfl⟩
  unfold t_due
  walk_at "go"
  refine g_lenS (big hl) ?_
  walk_at "go"
  refine g_2 (fun b => ?_) (fun b => ?_)
  · have b : (1 : Int) ≤ s.length := of_decide_eq_true b
    walk_at "go"
    refine g_lenS (big hl) ?_
    walk_at "go"
    refine rest _ _ rfl ?_
    rw [decide_eq_true (show 1 ≤ s.length by omega), Bool.true_and]
    by_cases h : s.length ≤ 8
    · rw [decide_eq_true h, decide_eq_true (by omega)]
    · rw [decide_eq_false h, decide_eq_false (by omega)]
  · have b : ¬ (1 : Int) ≤ s.length := of_decide_eq_false b
    walk_at "go"
    refine rest _ _ rfl ?_
    rw [decide_eq_false (show ¬ 1 ≤ s.length by omega), Bool.false_and]
def t_law (K : PySem.W.Frag) : TS := (tSeq (tAsg (tCall (sp_stream K) [] E0 (tCons (tVar 0) tNil)) (gName 1))
  (tSeq (tAsg (tCall (sp_lword K) [] E0 (tCons (tVar 1) tNil)) (gName 2))
  (tSeq (tAsg (tCall (sp_lword K) [] E0 (tCons (tVar 1) tNil)) (gName 3))
  (tSeq (tFor (iList K (tLst (tCons (tVar 2) (tCons (tVar 3) (tCons (tC (.str "")) (tCons (tVar 2) tNil)))))) (gName 4)
  (tSeq (tAsg (tCall (sp_isname K) [] E0 (tCons (tVar 4) tNil)) (gName 5))
  (tIfS (tOr (tNot (tB (tCB (rIsi K) (tCons (tVar 5) (tCons (tC (.ty "bool")) tNil))))) (tTest (tOp rNe (tVar 5) (tCall (sp_due K) [] E0 (tCons (tVar 4) tNil))))) (tRet (tC (.bl false)))
  tNext)))
  (tRet (tC (.bl true)))))))
abbrev N_law : List Str := ["_law_script", "_law_draws", "_law_first", "_law_second", "_law_text", "_law_answer"]
theorem rd_law {K : PySem.W.Frag} {vs : List V} {H : Hp} {Q : VK} {E : XK} (h : spLaw K vs H Q E) : t_law K { nx := fun _ H' => Q .non H', rt := Q } (start N_law vs) H := by
  obtain ⟨a, ns, rfl, hS, h63, k⟩ := h
  unfold t_law
  walk_at "go"
  refine ⟨a, ns, rfl, hS, h63, fun d H1 hd1 c1 hd => ?_⟩
  walk_at "go"
  refine ⟨d, rfl, hd, fun s1 H2 l1 c2 hd => ?_⟩
  walk_at "go"
  refine ⟨d, rfl, hd, fun s2 H3 l2 c3 hd => ?_⟩
  walk_at "go"
  refine g_newL (big (by simp)) fun p H4 hp c4 h4 => ?_
  walk_at "go"
  refine g_forL (.inl (.inl h4)) (fun i σ H' => ∃ o1 o2 : Option V, σ = [some (.ref a), some (.ref d), some (.str s1), some (.str s2), o1, o2] ∧ H' = H4) ⟨none, none, rfl, rfl⟩ (fun i σ H' _ ⟨_, _, _, e⟩ => by rw [e]; exact .inl (.inl h4)) ?_ ?_
  · rintro i x σ H' hi ⟨o1, o2, rfl, rfl⟩
    obtain ⟨z, rfl, hz⟩ : ∃ z : Str, x = .str z ∧ z.length ≤ 1000 := by
      have : x = .str s1 ∨ x = .str s2 ∨ x = .str "" := by
        have hm := List.mem_of_getElem? hi
        simp only [List.mem_cons, List.not_mem_nil, or_false] at hm
        rcases hm with h | h | h | h
        · exact .inl h
        · exact .inr (.inl h)
        · exact .inr (.inr h)
        · exact .inl h
      rcases this with rfl | rfl | rfl
      · exact ⟨s1, rfl, l1⟩
      · exact ⟨s2, rfl, l2⟩
      · exact ⟨"", rfl, by decide⟩
    walk_at "go"
    refine ⟨z, rfl, by omega, ?_⟩
    walk_at "go"
    refine g_isiBB ?_
    walk_at "go"
    refine ⟨z, rfl, by omega, ?_⟩
    walk_at "go"
    rw [decide_eq_true rfl]
    walk_at "go"
    exact ⟨_, _, rfl, rfl⟩
  · rintro σ H' ⟨o1, o2, rfl, rfl⟩
    walk_at "go"
    exact k _
end My

namespace Prog
open PySem PySem.Spec PyProof.Rows L2 My
def top (i : Nat) : Stmt := PySem.Challenge.pw_signbysign_k08_names.main.body.getD i (.Pass ⟨0, 0, 0, 0⟩)
abbrev FnP (K : PySem.W.Frag) (x q : Str) (st : Stmt) (f : Addr) (fd : FuncData) : Prop := FunD K x q (defArgs st) (defBody st) (defScope st) [] [] f fd
abbrev s_take : Stmt := (top 19)
theorem sc_take : FnScope N_take ["_law_draws", "_law_many"] (defScope s_take) := ⟨rfl, rfl, rfl, by decide +kernel, rfl, by decide +kernel, by decide +kernel⟩
def d_take : DefM := ⟨wFn "_law_take", "_law_take", "_law_take", defArgs s_take, defBody s_take, defScope s_take, []⟩
abbrev s_stream : Stmt := (top 18)
theorem sc_stream : FnScope N_stream ["_law_script"] (defScope s_stream) := ⟨rfl, rfl, rfl, by decide +kernel, rfl, by decide +kernel, by decide +kernel⟩
def d_stream : DefM := ⟨wFn "_law_stream", "_law_stream", "_law_stream", defArgs s_stream, defBody s_stream, defScope s_stream, []⟩
abbrev s_word : Stmt := (top 9)
theorem sc_word : FnScope N_word ["text"] (defScope s_word) := ⟨rfl, rfl, rfl, by decide +kernel, rfl, by decide +kernel, by decide +kernel⟩
def d_word : DefM := ⟨wFn "is_word", "is_word", "is_word", defArgs s_word, defBody s_word, defScope s_word, []⟩
abbrev s_isname : Stmt := (inClass (top 16) 2)
theorem sc_isname : FnScope N_isname ["text"] (defScope s_isname) := ⟨rfl, rfl, rfl, by decide +kernel, rfl, by decide +kernel, by decide +kernel⟩
def d_isname : DefM := ⟨wSm "Language" "is_name", "is_name", "Language.is_name", defArgs s_isname, defBody s_isname, defScope s_isname, []⟩
abbrev s_lword : Stmt := (top 20)
theorem sc_lword : FnScope N_lword ["_law_draws"] (defScope s_lword) := ⟨rfl, rfl, rfl, by decide +kernel, rfl, by decide +kernel, by decide +kernel⟩
def d_lword : DefM := ⟨wFn "_law_word", "_law_word", "_law_word", defArgs s_lword, defBody s_lword, defScope s_lword, []⟩
abbrev s_due : Stmt := (top 21)
theorem sc_due : FnScope N_due ["_law_text"] (defScope s_due) := ⟨rfl, rfl, rfl, by decide +kernel, rfl, by decide +kernel, by decide +kernel⟩
def d_due : DefM := ⟨wFn "_law_due", "_law_due", "_law_due", defArgs s_due, defBody s_due, defScope s_due, []⟩
abbrev s_law : Stmt := (top 22)
theorem sc_law : FnScope N_law ["_law_script"] (defScope s_law) := ⟨rfl, rfl, rfl, by decide +kernel, rfl, by decide +kernel, by decide +kernel⟩
def d_law : DefM := ⟨wFn "law", "law", "law", defArgs s_law, defBody s_law, defScope s_law, []⟩
def fn : List DefM := [d_take, d_stream, d_word, d_isname, d_lword, d_due, d_law]
def ex : List Ex := [smB "Language" "is_name"]
def fa : List He.Fa := [.glo "_law_take", .glo "_law_stream", .glo "is_word", .glo "Language", .glo "_law_word", .glo "_law_due", .glo "law", .free "int", .free "len", .free "abs", .free "range", .str "LETTERS" "abcdefghijklmnopqrstuvwxyz", .free "bool", .free "isinstance"]
section
variable {P : Program} {w : World} {K : PySem.W.Frag} {mg : Str → Option Value} {base : Heap} {h : Heap}
theorem ok_take (X : K.In h) (G : h.Ns mainGlobals mg) (c : SaysM fa fn ex K) : Cl P w K mg base CX0 1 "_law_take" (sp_take K) := by
  obtain ⟨fd, F⟩ := c.def_ 0 (d := d_take) rfl
  have f_int := He.free_ok X G (c.fact 7 (f := .free "int") rfl)
  have f_len := He.free_ok X G (c.fact 8 (f := .free "len") rfl)
  refine ⟨_, fd, ["_law_draws", "_law_many"], F.ok sc_take (fun vs H Q E h => len_take h) (fun cdv A outer s H vs Q E hr h => ⟨t_take K, PSs.nox ?_, rd_take h⟩), He.glo_ok X G (c.fact 0 (f := .glo "_law_take") rfl), F.kp, FunD.bindsN F (fun _ _ _ _ _ _ us hl => match us, hl with | [_, _], _ => rfl)⟩
  exact (pss_cons (ps_if (pt_cmpR op_eq (pe_callB call_len_seq rfl f_len boot_len (pa_cons (pv 0) pa_nil)) pe_int (nomark _)) (pss_one (ps_ret pe_int))
    pss_nil)
    (pss_one (ps_ret (pe_op op_mod (pe_callTy call_int1 rfl f_int boot_int (pa_cons (pe_bm PySem.F.plainAttrs_list PySem.F.slot_list_pop PySem.F.type_list_pop mt_popAt (pv 0) (pa_cons pe_int pa_nil)) pa_nil)) (pv 1)))))
theorem ok_stream (X : K.In h) (G : h.Ns mainGlobals mg) (c : SaysM fa fn ex K) : Cl P w K mg base CX0 1 "_law_stream" (sp_stream K) := by
  obtain ⟨fd, F⟩ := c.def_ 1 (d := d_stream) rfl
  have f_abs := He.free_ok X G (c.fact 9 (f := .free "abs") rfl)
  have f_int := He.free_ok X G (c.fact 7 (f := .free "int") rfl)
  have f_len := He.free_ok X G (c.fact 8 (f := .free "len") rfl)
  have f_range := He.free_ok X G (c.fact 10 (f := .free "range") rfl)
  refine ⟨_, fd, ["_law_script"], F.ok sc_stream (fun vs H Q E h => len_stream h) (fun cdv A outer s H vs Q E hr h => ⟨t_stream K, PSs.nox ?_, rd_stream h⟩), He.glo_ok X G (c.fact 1 (f := .glo "_law_stream") rfl), F.kp, FunD.bindsN F (fun _ _ _ _ _ _ us hl => match us, hl with | [_], _ => rfl)⟩
  exact (pss_cons (ps_set (i := 1) sc_stream.nd rfl (Or.inl rfl) (pe_lst pa_nil))
    (pss_cons (ps_set (i := 2) sc_stream.nd rfl (Or.inl rfl) pe_int)
    (pss_cons (ps_for PassesOwn.never rfl (pi_list (pv 0)) (pg_name (i := 3) sc_stream.nd rfl (Or.inl rfl))
    (pss_cons (ps_set (i := 4) sc_stream.nd rfl (Or.inl rfl) (pe_callB call_abs rfl f_abs boot_abs (pa_cons (pe_callTy call_int1 rfl f_int boot_int (pa_cons (pv 3) pa_nil)) pa_nil)))
    (pss_cut (ps_if (pt_cmpR op_lt (pv 4) (pe_op op_pow pe_int pe_int) (nomark _)) (pss_cons (ps_expr (pe_bm PySem.F.plainAttrs_list PySem.F.slot_list_append PySem.F.type_list_append mt_append (pv 1) (pa_cons (pe_op op_mod (pe_callTy call_int1 rfl f_int boot_int (pa_cons (pv 3) pa_nil)) pe_int) pa_nil)))
    (pss_one (ps_set (i := 4) sc_stream.nd rfl (Or.inl rfl) pe_int)))
    pss_nil)
    (pss_cons (ps_for PassesOwn.never rfl (pi_range1 rfl f_range (pa_cons pe_int pa_nil)) (pg_name (i := 5) sc_stream.nd rfl (Or.inl rfl))
    (pss_one (ps_if (pt_cmpR op_gt (pv 4) pe_int (nomark _)) (pss_cons (ps_expr (pe_bm PySem.F.plainAttrs_list PySem.F.slot_list_append PySem.F.type_list_append mt_append (pv 1) (pa_cons (pe_op op_mod (pe_callTy call_int1 rfl f_int boot_int (pa_cons (pv 4) pa_nil)) pe_int) pa_nil)))
    (pss_one (ps_set (i := 4) sc_stream.nd rfl (Or.inl rfl) (pe_op op_fdiv (pv 4) pe_int))))
    pss_nil)))
    (pss_one (ps_set (i := 2) sc_stream.nd rfl (Or.inl rfl) (pe_op op_add (pe_op op_mod (pe_callTy call_int1 rfl f_int boot_int (pa_cons (pe_op op_add (pe_op op_mul (pv 2) pe_int) (pe_callTy call_int1 rfl f_int boot_int (pa_cons (pv 3) pa_nil))) pa_nil)) pe_int) pe_int)))))))
    (pss_cons (ps_set (i := 6) sc_stream.nd rfl (Or.inl rfl) (pe_op op_add (pe_op op_mul (pv 2) pe_int) pe_int))
    (pss_cons (ps_for PassesOwn.never rfl (pi_range1 rfl f_range (pa_cons (pe_op op_mul pe_int (pe_callTy call_int1 rfl f_int boot_int (pa_cons (pe_cmpR op_gt (pe_callB call_len_seq rfl f_len boot_len (pa_cons (pv 0) pa_nil)) pe_int (nomark _)) pa_nil))) pa_nil)) (pg_name (i := 5) sc_stream.nd rfl (Or.inl rfl))
    (pss_cons (ps_set (i := 2) sc_stream.nd rfl (Or.inl rfl) (pe_op op_mod (pe_callTy call_int1 rfl f_int boot_int (pa_cons (pe_op op_mul (pv 2) pe_int) pa_nil)) pe_int))
    (pss_cons (ps_set (i := 6) sc_stream.nd rfl (Or.inl rfl) (pe_op op_mod (pe_callTy call_int1 rfl f_int boot_int (pa_cons (pe_op op_mul (pv 6) pe_int) pa_nil)) pe_int))
    (pss_one (ps_expr (pe_bm PySem.F.plainAttrs_list PySem.F.slot_list_append PySem.F.type_list_append mt_append (pv 1) (pa_cons (pe_op op_mod (pe_callTy call_int1 rfl f_int boot_int (pa_cons (pe_op op_add (pe_op op_fdiv (pv 2) pe_int) (pe_op op_fdiv (pv 6) pe_int)) pa_nil)) pe_int) pa_nil)))))))
    (pss_one (ps_ret (pe_slice sl_list (pv 1) po_none (po_some pe_int)))))))))
theorem ok_word (X : K.In h) (G : h.Ns mainGlobals mg) (c : SaysM fa fn ex K) : Cl P w K mg base CX0 1 "is_word" (sp_word K) := by
  obtain ⟨fd, F⟩ := c.def_ 2 (d := d_word) rfl
  have k_LETTERS : ∃ u, mg "LETTERS" = some u ∧ RelV (.str "abcdefghijklmnopqrstuvwxyz") u := by
    obtain ⟨t, e⟩ := He.str_ok X G (c.fact 11 (f := .str "LETTERS" "abcdefghijklmnopqrstuvwxyz") rfl)
    exact ⟨_, e, ⟨t, rfl⟩⟩
  have f_len := He.free_ok X G (c.fact 8 (f := .free "len") rfl)
  refine ⟨_, fd, ["text"], F.ok sc_word (fun vs H Q E h => len_word h) (fun cdv A outer s H vs Q E hr h => ⟨t_word K, PSs.nox ?_, rd_word h⟩), He.glo_ok X G (c.fact 2 (f := .glo "is_word") rfl), F.kp, FunD.bindsN F (fun _ _ _ _ _ _ us hl => match us, hl with | [_], _ => rfl)⟩
  exact (pss_cons (ps_if (pt_not (pt_chain op_le op_le pe_int (pe_callB call_len_str rfl f_len boot_len (pa_cons (pv 0) pa_nil)) pe_int)) (pss_one (ps_ret pe_bl))
    pss_nil)
    (pss_cons (ps_for PassesOwn.never rfl (pi_str (pv 0)) (pg_name (i := 1) sc_word.nd rfl (Or.inl rfl))
    (pss_one (ps_if (pt_cmpR op_notIn_sign (pv 1) (pe_gc rfl k_LETTERS) (by with_unfolding_all rfl)) (pss_one (ps_ret pe_bl))
    pss_nil)))
    (pss_one (ps_ret pe_bl))))
theorem ok_isname (X : K.In h) (G : h.Ns mainGlobals mg) (c : SaysM fa fn ex K) : ClS P w K mg base CX0 2 "Language" "is_name" (sp_isname K) := by
  obtain ⟨fd, F⟩ := c.def_ 3 (d := d_isname) rfl
  have c_word := ok_word (P := P) (w := w) (base := base) X G c
  refine ⟨_, _, fd, ["text"], F.ok sc_isname (fun vs H Q E h => len_isname h) (fun cdv A outer s H vs Q E hr h => ⟨t_isname K, PSs.nox ?_, rd_isname h⟩), He.glo_ok X G (c.fact 3 (f := .glo "Language") rfl), smB_ok (c.more 0 (x := smB "Language" "is_name") rfl), F.kp, FunD.bindsN F (fun _ _ _ _ _ _ us hl => match us, hl with | [_], _ => rfl)⟩
  exact (pss_one (ps_ret (pe_cl c_word hr (by omega) pass0 (pa_cons (pv 0) pa_nil))))
theorem ok_lword (X : K.In h) (G : h.Ns mainGlobals mg) (c : SaysM fa fn ex K) : Cl P w K mg base CX0 2 "_law_word" (sp_lword K) := by
  obtain ⟨fd, F⟩ := c.def_ 4 (d := d_lword) rfl
  have f_len := He.free_ok X G (c.fact 8 (f := .free "len") rfl)
  have f_range := He.free_ok X G (c.fact 10 (f := .free "range") rfl)
  have c_take := ok_take (P := P) (w := w) (base := base) X G c
  refine ⟨_, fd, ["_law_draws"], F.ok sc_lword (fun vs H Q E h => len_lword h) (fun cdv A outer s H vs Q E hr h => ⟨t_lword K, PSs.nox ?_, rd_lword h⟩), He.glo_ok X G (c.fact 4 (f := .glo "_law_word") rfl), F.kp, FunD.bindsN F (fun _ _ _ _ _ _ us hl => match us, hl with | [_], _ => rfl)⟩
  exact (pss_cons (ps_set (i := 1) sc_lword.nd rfl (Or.inl rfl) pe_str)
    (pss_cons (ps_set (i := 2) sc_lword.nd rfl (Or.inl rfl) pe_str)
    (pss_cons (ps_set (i := 3) sc_lword.nd rfl (Or.inl rfl) pe_str)
    (pss_cons (ps_for PassesOwn.never rfl (pi_range1 rfl f_range (pa_cons (pe_ix ix_list (pe_lst (pa_cons pe_int (pa_cons pe_int (pa_cons pe_int (pa_cons (pe_cl c_take hr (by omega) pass0 (pa_cons (pv 0) (pa_cons pe_int pa_nil))) pa_nil))))) (pe_cl c_take hr (by omega) pass0 (pa_cons (pv 0) (pa_cons pe_int pa_nil))) (fun _ _ => rfl)) pa_nil)) (pg_name (i := 4) sc_lword.nd rfl (Or.inl rfl))
    (pss_one (ps_set (i := 3) sc_lword.nd rfl (Or.inl rfl) (pe_op op_add_str (pv 3) (pe_ix ix_str (pv 1) (pe_cl c_take hr (by omega) pass0 (pa_cons (pv 0) (pa_cons pe_int pa_nil))) (fun _ _ => rfl))))))
    (pss_cons (ps_if (PW.pt (pw_and (pt_cmpR op_gt (pe_callB call_len_str rfl f_len boot_len (pa_cons (pv 3) pa_nil)) pe_int (nomark _)) (pw_and1 (pt_cmpR op_eq (pe_cl c_take hr (by omega) pass0 (pa_cons (pv 0) (pa_cons pe_int pa_nil))) pe_int (nomark _))))) (pss_one (ps_for PassesOwn.never rfl (pi_range1 rfl f_range (pa_cons (pe_op op_add pe_int (pe_cl c_take hr (by omega) pass0 (pa_cons (pv 0) (pa_cons pe_int pa_nil)))) pa_nil)) (pg_name (i := 4) sc_lword.nd rfl (Or.inl rfl))
    (pss_cons (ps_set (i := 5) sc_lword.nd rfl (Or.inl rfl) (pe_cl c_take hr (by omega) pass0 (pa_cons (pv 0) (pa_cons (pe_callB call_len_str rfl f_len boot_len (pa_cons (pv 3) pa_nil)) pa_nil))))
    (pss_one (ps_set (i := 3) sc_lword.nd rfl (Or.inl rfl) (pe_op op_add_str (pe_op op_add_str (pe_slice sl_str (pv 3) po_none (po_some (pv 5))) (pe_ix ix_str (pv 2) (pe_cl c_take hr (by omega) pass0 (pa_cons (pv 0) (pa_cons (pe_callB call_len_str rfl f_len boot_len (pa_cons (pv 2) pa_nil)) pa_nil))) (fun _ _ => rfl))) (pe_slice sl_str (pv 3) (po_some (pe_op op_add (pv 5) pe_int)) po_none)))))))
    pss_nil)
    (pss_one (ps_ret (pv 3))))))))
theorem ok_due (X : K.In h) (G : h.Ns mainGlobals mg) (c : SaysM fa fn ex K) : Cl P w K mg base CX0 1 "_law_due" (sp_due K) := by
  obtain ⟨fd, F⟩ := c.def_ 5 (d := d_due) rfl
  have f_len := He.free_ok X G (c.fact 8 (f := .free "len") rfl)
  refine ⟨_, fd, ["_law_text"], F.ok sc_due (fun vs H Q E h => len_due h) (fun cdv A outer s H vs Q E hr h => ⟨t_due K, PSs.nox ?_, rd_due h⟩), He.glo_ok X G (c.fact 5 (f := .glo "_law_due") rfl), F.kp, FunD.bindsN F (fun _ _ _ _ _ _ us hl => match us, hl with | [_], _ => rfl)⟩
  exact (pss_cons (ps_set (i := 1) sc_due.nd rfl (Or.inl rfl) (pe_and (pe_cmpR op_le pe_int (pe_callB call_len_str rfl f_len boot_len (pa_cons (pv 0) pa_nil)) (nomark _)) (pe_one (pe_cmpR op_le (pe_callB call_len_str rfl f_len boot_len (pa_cons (pv 0) pa_nil)) pe_int (nomark _)))))
    (pss_cut (ps_for PassesOwn.never rfl (pi_str (pv 0)) (pg_name (i := 2) sc_due.nd rfl (Or.inl rfl))
    (pss_one (ps_if (pt_cmpR op_notIn_sign (pv 2) pe_str (by with_unfolding_all rfl)) (pss_one (ps_set (i := 1) sc_due.nd rfl (Or.inl rfl) pe_bl))
    pss_nil)))
    (pss_one (ps_ret (pv 1)))))
theorem ok_law_fn (X : K.In h) (G : h.Ns mainGlobals mg) (c : SaysM fa fn ex K) {f : Addr} {fd : FuncData} (F : FnP K "law" "law" s_law f fd) : FnOk P w K mg base CX0 3 f fd ["_law_script"] (spLaw K) := by
  have f_bool := He.free_ok X G (c.fact 12 (f := .free "bool") rfl)
  have f_isinstance := He.free_ok X G (c.fact 13 (f := .free "isinstance") rfl)
  have c_stream := ok_stream (P := P) (w := w) (base := base) X G c
  have c_lword := ok_lword (P := P) (w := w) (base := base) X G c
  have c_isname := ok_isname (P := P) (w := w) (base := base) X G c
  have c_due := ok_due (P := P) (w := w) (base := base) X G c
  refine F.ok sc_law (fun vs H Q E h => len_law h) (fun cdv A outer s H vs Q E hr h => ⟨t_law K, PSs.nox ?_, rd_law h⟩)
  exact (pss_cons (ps_set (i := 1) sc_law.nd rfl (Or.inl rfl) (pe_cl c_stream hr (by omega) pass0 (pa_cons (pv 0) pa_nil)))
    (pss_cons (ps_set (i := 2) sc_law.nd rfl (Or.inl rfl) (pe_cl c_lword hr (by omega) pass0 (pa_cons (pv 1) pa_nil)))
    (pss_cons (ps_set (i := 3) sc_law.nd rfl (Or.inl rfl) (pe_cl c_lword hr (by omega) pass0 (pa_cons (pv 1) pa_nil)))
    (pss_cons (ps_for PassesOwn.never rfl (pi_list (pe_lst (pa_cons (pv 2) (pa_cons (pv 3) (pa_cons pe_str (pa_cons (pv 2) pa_nil)))))) (pg_name (i := 4) sc_law.nd rfl (Or.inl rfl))
    (pss_cons (ps_set (i := 5) sc_law.nd rfl (Or.inl rfl) (pe_sm c_isname hr (by omega) pass0 (pa_cons (pv 4) pa_nil)))
    (pss_one (ps_if (PW.pt (pw_or (pt_not (pt_val (pe_callB call_isi rfl f_isinstance boot_isinstance (pa_cons (pv 5) (pa_cons (pe_bltn rfl f_bool boot_bool rfl) pa_nil))))) (pw_or1 (pt_cmpR op_ne (pv 5) (pe_cl c_due hr (by omega) pass0 (pa_cons (pv 4) pa_nil)) (nomark _))))) (pss_one (ps_ret pe_bl))
    pss_nil))))
    (pss_one (ps_ret pe_bl))))))
end
abbrev R : PySem.W.OpenRow := PySem.W.OpenLaw.row PySem.Challenge.rw_signbysign_k08_names
abbrev hk : PySem.W.Hook := hookM 6 fa fn ex
def ob (s : PySem.W.SharedT) : AlM := obsMG 6 fa fn ex (HandSHeadRun.getT s)
theorem ob_eq (s : PySem.W.SharedT) : ob s = hk.obs s.abs := obsMG_eq (HandSHeadRun.getT_eq s)
def names : List PySem.Str := ["_wall", "TableError", "BadSign", "BadRule", "Overlap", "LETTERS", "LAST_HOLE", "is_word", "form_holes", "row_allowed", "known", "rule_allowed", "overlapping", "Language", "_law_stream", "_law_take", "_law_word", "_law_due"]
theorem run (w : World) : HandSHeadRun.RunEq R (PySem.W.view R.prog [22]) hk ob 20000 names w := by
  intro os
  kernel_rfl
theorem facts {P : Program} {w : World} {K : PySem.W.Frag} {h : Heap} {mg : Str → Option Value} {f : Addr} (X : K.In h) (G : h.Ns mainGlobals mg) (hfa : mg ("law" : Str) = some (.ref f)) (c : SaysM fa fn ex K) :
    ∃ fd : FuncData, (∀ (s : Shared) (v : Value), BindsTo s fd ⟨[v], []⟩ [("_law_script", v)]) ∧ ∀ base : Heap, K.In base → base.Ns mainGlobals mg → FnOk P w K mg base CX0 3 f fd ["_law_script"] (spLaw K) := by
  obtain ⟨fd, F⟩ := c.def_ 6 (d := d_law) rfl
  have b := FunD.bindsA (ps := ["_law_script"]) F fun _ _ _ _ _ _ us hl => match us, hl with | [_], _ => rfl
  have e := hfa.symm.trans (He.glo_ok X G (c.fact 6 (f := .glo "law") rfl))
  cases e
  refine ⟨fd, fun s v => b s [v] rfl, fun base KB GB => ?_⟩
  exact ok_law_fn (P := P) (w := w) (base := base) X G c F
end Prog

open PySem PySem.W PySem.Calls PyProof.Rows
set_option maxRecDepth 100000 in
set_option maxHeartbeats 0 in
theorem PySem.Challenge.cw_signbysign_k08_names_holds : PySem.Challenge.rw_signbysign_k08_names.Holds := by
  w_on; o_law
  refine HandSHeadRun.head_any (r := OpenLaw.row PySem.Challenge.rw_signbysign_k08_names) (q := view (OpenLaw.row PySem.Challenge.rw_signbysign_k08_names).prog [22]) (H := Prog.hk) (ob := Prog.ob) (M := 20000) (loose := Prog.names) (d := HandSHeadRun.topDef (OpenLaw.row PySem.Challenge.rw_signbysign_k08_names).prog 22) (kwd := []) Prog.ob_eq
    (by kernel_rfl) (fun s => by kernel_rfl) Prog.run (by kernel_rfl) (by kernel_rfl) (by kernel_rfl) (by rfl) (by first | assumption | decide +kernel) (by decide +kernel) ⟨rfl, rfl, rfl, rfl, rfl, by decide +kernel⟩ ?hw ?hc
  case hw => w_witness2
  case hc =>
    refine L2.walk_ofE (l := PySem.Challenge.rw_signbysign_k08_names) (n := 63) (k := 3) (x := "_law_script") (CX := L2.CX0) rfl (by decide) (by kernel_rfl) ⟨rfl, by decide, by decide⟩ ?F (fun _ _ _ _ z => z)
    intro w mg fa h Y G hmg0
    obtain ⟨K, KX, c⟩ := Y
    have hmg : mg ("law" : PySem.Str) = some (.ref fa) := by
      have e : (HandSHeadRun.topDef (OpenLaw.row PySem.Challenge.rw_signbysign_k08_names).prog 22).name = ("law" : PySem.Str) := by kernel_rfl
      rw [← e]
      exact hmg0
    obtain ⟨fd, hb, hF⟩ := Prog.facts (P := (PySem.Challenge.rw_signbysign_k08_names).prog) (w := w) KX G hmg c
    exact ⟨K, fd, My.spLaw K, KX, hb, fun H a ns hl _ hS => ⟨a, ns, rfl, hS, hl, fun _ => rfl⟩, hF⟩
