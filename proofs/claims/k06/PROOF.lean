import PyProof.Rows.All
import Wide.All
import OpenK.AllK
import Wide.FinOn
import KE.KStateDown
import HandS.Base
import HandS.Call
import HandS.List
import HandS.Comp
import HandS.Dict
import HandS.Iter
import HandS.Text
import HandS.Ends
import HandS.More
import HandS.Words
import HandS.WordsList
import HandS.WordsDict
import HandS.WordsExc
import HandS.IsInst
import HandS.TupAny
import HandS.Defaults
import HandS.Head0
import HandS.Head1
import HandS.Head2
import HandS.HeadEnd
import HandS.HeadHook1
import HandS.HeadHook2
import HandS.FStr
import HandS.Style
import HandS.Zip
import HandS.Conv
import HandS.HeadNt
import HandS.Star
import KE.KRevSl
import PySem.Challenge.RW_signbysign_k06_read_what_is_written
set_option Elab.async false
set_option linter.all false
set_option maxRecDepth 100000
set_option maxHeartbeats 4000000
/-! Lib: plain data D, what it is in the heap (Is), changes of the heap (Chg), the readings' steps (g_..), a def as a constant (Cl). -/
namespace My
open PySem PySem.Spec PyProof.Rows L2

/-! ### data -/
inductive D where
  | non | bl (b : Bool) | int (i : Int) | str (s : Str) | tup (ds : List D)
mutual
def Is (H : Hp) : D → V → Prop
  | .non, v => v = .non
  | .bl b, v => v = .bl b
  | .int i, v => v = .int i
  | .str s, v => v = .str s
  | .tup ds, v => ∃ a vs, v = .ref a ∧ H a = some (.tup vs) ∧ IsL H ds vs
def IsL (H : Hp) : List D → List V → Prop
  | [], vs => vs = []
  | d :: ds, vs => ∃ x xs, vs = x :: xs ∧ Is H d x ∧ IsL H ds xs
end
/-- all but what stands at S is as it was; no tuple changes -/
structure Chg (S : List Addr) (H H' : Hp) : Prop where
  ob : ∀ b o, b ∉ S → H b = some o → H' b = some o
  tp : ∀ b xs, H b = some (.tup xs) → H' b = some (.tup xs)
abbrev Ext (H H' : Hp) : Prop := Chg [] H H'
section
variable {S S' : List Addr} {H H1 H2 H' : Hp} {a b p l : Addr} {o u : HO} {xs ys : List V}
theorem Chg.refl (H : Hp) : Chg S H H := ⟨fun _ _ _ h => h, fun _ _ h => h⟩
theorem Chg.trans (c : Chg S H H1) (e : Chg S H1 H2) : Chg S H H2 := ⟨fun b o n h => e.ob b o n (c.ob b o n h), fun b xs h => e.tp b xs (c.tp b xs h)⟩
theorem Chg.wide (c : Chg S H H1) (h : ∀ b ∈ S, b ∈ S') : Chg S' H H1 := ⟨fun b o n q => c.ob b o (fun z => n (h b z)) q, c.tp⟩
theorem Chg.all (c : Chg [] H H1) : Chg S H H1 := c.wide fun _ z => nomatch z
theorem Chg.at (c : Chg [] H H1) (h : H a = some o) : H1 a = some o := c.ob a o (fun z => nomatch z) h
theorem Chg.same (c : Chg [] H H1) : L2.Same H H1 := fun _ _ h => Chg.at c h
theorem Ext.of (c : L2.Same H H1) : Ext H H1 := ⟨fun _ _ _ h => c _ _ h, fun _ _ h => c _ _ h⟩
/-- a new object is laid -/
theorem Chg.new (h : H p = none) (o : HO) : Chg S H (upd H p o) := ⟨fun b u _ q => by rw [upd_ne (ne_of_none q h)]; exact q, fun b u q => by rw [upd_ne (ne_of_none q h)]; exact q⟩
theorem Chg.free (c : Chg [] H H1) (h : H1 p = none) : H p = none := (Chg.same c).free h
/-- an object that H does not have is written -/
theorem Chg.own (c : Chg S H H1) (h : H p = none) (o : HO) : Chg S H (upd H1 p o) :=
  ⟨fun b u n q => by rw [upd_ne (ne_of_none q h)]; exact c.ob b u n q, fun b u q => by rw [upd_ne (ne_of_none q h)]; exact c.tp b u q⟩
/-- a changeable object of S is written -/
theorem Chg.set (c : Chg S H H1) (hm : l ∈ S) (h : H1 l = some u) (nt : ∀ xs, u ≠ .tup xs) (o : HO) : Chg S H (upd H1 l o) := by
  refine ⟨fun b w n q => ?_, fun b w q => ?_⟩
  · rw [upd_ne (fun z => n (by rw [z]; exact hm))]; exact c.ob b w n q
  · have q1 := c.tp b w q
    rw [upd_ne (fun z => by subst z; rw [h] at q1; exact nt w (Option.some.inj q1))]
    exact q1
theorem Chg.drop1 (c : Chg [p] H H1) (h : H p = none) : Ext H H1 := ⟨fun b o _ q => c.ob b o (by intro z; have := List.mem_singleton.mp z; subst this; rw [h] at q; cases q) q, c.tp⟩
mutual
theorem Is.up (c : Chg S H H') : ∀ {d : D} {v : V}, Is H d v → Is H' d v
  | .non, v, h => by simpa only [Is] using h
  | .bl b, v, h => by simpa only [Is] using h
  | .int i, v, h => by simpa only [Is] using h
  | .str s, v, h => by simpa only [Is] using h
  | .tup ds, v, h => by
    simp only [Is] at h ⊢
    obtain ⟨a, vs, e, h1, h2⟩ := h
    exact ⟨a, vs, e, c.tp _ _ h1, IsL.up c h2⟩
theorem IsL.up (c : Chg S H H') : ∀ {ds : List D} {vs : List V}, IsL H ds vs → IsL H' ds vs
  | [], vs, h => by simpa only [IsL] using h
  | d :: ds, vs, h => by
    simp only [IsL] at h ⊢
    obtain ⟨x, xs, e, h1, h2⟩ := h
    exact ⟨x, xs, e, Is.up c h1, IsL.up c h2⟩
end
theorem Is.non : Is H .non .non := by simp only [Is]
theorem Is.bl {b : Bool} : Is H (.bl b) (.bl b) := by simp only [Is]
theorem Is.int {i : Int} : Is H (.int i) (.int i) := by simp only [Is]
theorem Is.str {s : Str} : Is H (.str s) (.str s) := by simp only [Is]
theorem Is.tup {ds : List D} (h : H a = some (.tup xs)) (r : IsL H ds xs) : Is H (.tup ds) (.ref a) := by simp only [Is]; exact ⟨a, xs, rfl, h, r⟩
theorem Is.int_iff {i : Int} {v : V} : Is H (.int i) v ↔ v = .int i := by simp only [Is]
theorem Is.str_iff {i : Str} {v : V} : Is H (.str i) v ↔ v = .str i := by simp only [Is]
theorem Is.bl_iff {i : Bool} {v : V} : Is H (.bl i) v ↔ v = .bl i := by simp only [Is]
theorem Is.tup_iff {ds : List D} {v : V} : Is H (.tup ds) v ↔ ∃ a vs, v = .ref a ∧ H a = some (.tup vs) ∧ IsL H ds vs := by simp only [Is]
theorem IsL.nil : IsL H [] [] := by simp only [IsL]
theorem IsL.cons {d : D} {ds : List D} {v : V} {vs : List V} (h : Is H d v) (t : IsL H ds vs) : IsL H (d :: ds) (v :: vs) := by simp only [IsL]; exact ⟨v, vs, rfl, h, t⟩
theorem IsL.nil_iff {vs : List V} : IsL H [] vs ↔ vs = [] := by simp only [IsL]
theorem IsL.cons_iff {d : D} {ds : List D} {vs : List V} : IsL H (d :: ds) vs ↔ ∃ x xs, vs = x :: xs ∧ Is H d x ∧ IsL H ds xs := by simp only [IsL]
theorem IsL.length : ∀ {ds : List D} {vs : List V}, IsL H ds vs → vs.length = ds.length
  | [], vs, h => by rw [IsL.nil_iff] at h; subst h; rfl
  | d :: ds, vs, h => by
    rw [IsL.cons_iff] at h
    obtain ⟨x, xs, rfl, _, h2⟩ := h
    simp [IsL.length h2]
theorem IsL.append : ∀ {ds es : List D} {vs ws : List V}, IsL H ds vs → IsL H es ws → IsL H (ds ++ es) (vs ++ ws)
  | [], es, vs, ws, h, k => by rw [IsL.nil_iff] at h; subst h; exact k
  | d :: ds, es, vs, ws, h, k => by
    rw [IsL.cons_iff] at h
    obtain ⟨x, xs, rfl, h1, h2⟩ := h
    exact IsL.cons h1 (IsL.append h2 k)
theorem IsL.get : ∀ {ds : List D} {vs : List V} {i : Nat} {v : V}, IsL H ds vs → vs[i]? = some v → ∃ d, ds[i]? = some d ∧ Is H d v
  | [], vs, i, v, h, e => by rw [IsL.nil_iff] at h; subst h; simp at e
  | d :: ds, vs, i, v, h, e => by
    rw [IsL.cons_iff] at h
    obtain ⟨x, xs, rfl, h1, h2⟩ := h
    cases i with
    | zero => simp at e; subst e; exact ⟨d, rfl, h1⟩
    | succ i => simp at e; obtain ⟨d', q, k⟩ := IsL.get h2 e; exact ⟨d', by simpa using q, k⟩
theorem IsL.get' : ∀ {ds : List D} {vs : List V} {i : Nat} {d : D}, IsL H ds vs → ds[i]? = some d → ∃ v, vs[i]? = some v ∧ Is H d v
  | [], vs, i, v, h, e => by simp at e
  | d :: ds, vs, i, d', h, e => by
    rw [IsL.cons_iff] at h
    obtain ⟨x, xs, rfl, h1, h2⟩ := h
    cases i with
    | zero => simp at e; subst e; exact ⟨x, rfl, h1⟩
    | succ i => simp at e; obtain ⟨v, q, k⟩ := IsL.get' h2 e; exact ⟨v, by simpa using q, k⟩
theorem IsL.drop : ∀ {ds : List D} {vs : List V} (n : Nat), IsL H ds vs → IsL H (ds.drop n) (vs.drop n)
  | ds, vs, 0, h => h
  | [], vs, n + 1, h => by rw [IsL.nil_iff] at h; subst h; exact IsL.nil
  | d :: ds, vs, n + 1, h => by
    rw [IsL.cons_iff] at h
    obtain ⟨x, xs, rfl, h1, h2⟩ := h
    exact IsL.drop n h2
theorem IsL.take : ∀ {ds : List D} {vs : List V} (n : Nat), IsL H ds vs → IsL H (ds.take n) (vs.take n)
  | ds, vs, 0, h => by rw [List.take_zero, List.take_zero]; exact IsL.nil
  | [], vs, n + 1, h => by rw [IsL.nil_iff] at h; subst h; exact IsL.nil
  | d :: ds, vs, n + 1, h => by
    rw [IsL.cons_iff] at h
    obtain ⟨x, xs, rfl, h1, h2⟩ := h
    exact IsL.cons h1 (IsL.take n h2)
theorem IsL.one {d : D} {v : V} (h : Is H d v) : IsL H [d] [v] := IsL.cons h IsL.nil
theorem IsL.ints : ∀ {is : List Int}, IsL H (is.map D.int) (is.map V.int)
  | [] => IsL.nil
  | _ :: _ => IsL.cons Is.int IsL.ints
theorem IsL.strs : ∀ {is : List Str}, IsL H (is.map D.str) (is.map V.str)
  | [] => IsL.nil
  | _ :: _ => IsL.cons Is.str IsL.strs
theorem IsL.ints_inv : ∀ {is : List Int} {vs : List V}, IsL H (is.map D.int) vs → vs = is.map V.int
  | [], vs, h => IsL.nil_iff.mp h
  | i :: is, vs, h => by
    obtain ⟨x, xs, rfl, h1, h2⟩ := IsL.cons_iff.mp h
    rw [Is.int_iff.mp h1, IsL.ints_inv h2]; rfl
end

/-! ### the relations' names, as gen.py writes them -/
abbrev rAddI : R2 := rI0 fun i j => .int (i + j)
abbrev rSubI : R2 := rI0 fun i j => .int (i - j)
abbrev rMulI : R2 := rI CMul fun i j => .int (i * j)
abbrev rDivI : R2 := rI CDiv fun i j => .int (i / j)
abbrev rModI : R2 := rI (fun _ j => 0 < j) fun i j => .int (i % j)
abbrev rPowI : R2 := rI CPow fun i j => .int (i ^ j.toNat)
abbrev rLtI : R2 := rI0 fun i j => .bl (decide (i < j))
abbrev rLeI : R2 := rI0 fun i j => .bl (decide (i ≤ j))
abbrev rGtI : R2 := rI0 fun i j => .bl (decide (j < i))
abbrev rGeI : R2 := rI0 fun i j => .bl (decide (j ≤ i))
def rAddS_ : R2 := fun x y H Q => ∃ i j, x = .str i ∧ y = .str j ∧ i.length + j.length ≤ sizeLine ∧ Q (.str (i ++ j)) H
def rLtS_ : R2 := fun x y H Q => ∃ i j, x = .str i ∧ y = .str j ∧ Q (.bl (decide (i.cps.toList < j.cps.toList))) H
def rInS_ : R2 := fun x y H Q => ∃ (c : Nat) (z : Str), x = .str ⟨#[c]⟩ ∧ y = .str z ∧ Q (.bl (decide (c ∈ z.cps.toList))) H
def rNotInS_ : R2 := fun x y H Q => ∃ (c : Nat) (z : Str), x = .str ⟨#[c]⟩ ∧ y = .str z ∧ Q (.bl (!decide (c ∈ z.cps.toList))) H
def rIsN_ : R2 := fun x y H Q => y = .non ∧ Q (.bl (decide (x = .non))) H
def rNotN_ : R2 := fun x y H Q => y = .non ∧ Q (.bl (!decide (x = .non))) H
def rLenSeq (K : PySem.W.Frag) : List V → Hp → VK → Prop := fun xs H Q => ∃ p ys, xs = [.ref p] ∧ (SqL K H p ys ∨ SqT K H p ys) ∧ Q (.int ys.length) H
def rLenStr : List V → Hp → VK → Prop := fun xs H Q => ∃ z, xs = [.str z] ∧ z.length ≤ sizeLine ∧ Q (.int z.length) H
def rInt1 : List V → Hp → VK → Prop := fun xs H Q => (∃ i, xs = [.int i] ∧ Q (.int i) H) ∨ ∃ k, xs = [.bl k] ∧ Q (.int (if k then 1 else 0)) H
def rAbs : List V → Hp → VK → Prop := fun xs H Q => ∃ i, xs = [.int i] ∧ Q (.int (if i < 0 then -i else i)) H
def rTupleOf (K : PySem.W.Frag) : List V → Hp → VK → Prop := fun xs H Q => ∃ p ys, xs = [.ref p] ∧ ((SqL K H p ys ∧ ∀ l, H l = none → Q (.ref l) (upd H l (.tup ys))) ∨ (SqT K H p ys ∧ Q (.ref p) H))
def rListOf (K : PySem.W.Frag) : List V → Hp → VK → Prop := fun xs H Q => ∃ p ys, xs = [.ref p] ∧ (SqL K H p ys ∨ SqT K H p ys) ∧ ∀ l, H l = none → Q (.ref l) (upd H l (.lst ys))
def rStrInt : List V → Hp → VK → Prop := fun xs H Q => ∃ i, xs = [.int i] ∧ i.natAbs.log2 < 1920 ∧ Q (.str (toString i)) H
def rIntStr : List V → Hp → VK → Prop := fun xs H Q => ∃ a n, xs = [.str a] ∧ PySem.intText? a = some n ∧ a.length ≤ 640 ∧ Q (.int n) H
def rInsert : V → List V → Hp → VK → Prop := fun x vs H Q => ∃ (l : Addr) (xs : List V) (i : Int) (y : V), x = .ref l ∧ vs = [.int i, y] ∧ H l = some (.lst xs) ∧ xs.length < sizeLine ∧ 0 ≤ i ∧ i < 2 ^ 63 ∧ Q .non (upd H l (.lst (xs.take i.toNat ++ [y] ++ xs.drop i.toNat)))
def rJoin (K : PySem.W.Frag) : V → List V → Hp → VK → Prop := fun x xs H Q => ∃ a p, ∃ ys : List Str, x = .str a ∧ xs = [.ref p] ∧ (SqL K H p (ys.map V.str) ∨ SqT K H p (ys.map V.str)) ∧ (ys.map (·.length)).sum + ys.length * a.length ≤ 16777216 ∧ Q (.str (Txt.join a ys)) H
def tTru_ (K : PySem.W.Frag) (ta : TE) : TT := fun σ H Q => ta σ H fun x H' => ∃ k, TruV K x H' k ∧ Q k H'

/-- a statement, then the rest, with a word between them -/
def tCut (t u : TS) : TS := fun D σ H => ∃ Mid : L2.St → Hp → Prop, t { D with nx := Mid } σ H ∧ ∀ σ' H', Mid σ' H' → u D σ' H'
theorem pss_cut {X : Cx} {st : Stmt} {rest : List Stmt} {t u : TS} (h1 : PS X st t) (h2 : PSs X rest u) : PSs X (st :: rest) (tCut t u) := by
  refine ⟨fun pins s σ H D I h => ?_⟩
  obtain ⟨Mid, hm, hu⟩ := h
  refine wpAny_execs_cons (thn (h1.run pins s σ H { D with nx := Mid } I hm) fun f s1 q => ?_)
  cases f with
  | next =>
    obtain ⟨σ', H', I', q⟩ := q
    exact h2.run pins s1 σ' H' D I' (hu σ' H' q)
  | ret v => exact q
  | brk => exact q
  | cont => exact q
/-- a module's constant -/
theorem pe_gc {X : Cx} {x : Str} {pos : Pos} {v : V} (hg : Gl X x) (h : ∃ u, X.mg x = some u ∧ RelV v u) (hd : (x == ("__debug__" : Str)) = false := by decide) : PE X (.Name x pos) (tC v) := by
  obtain ⟨u, e, r⟩ := h
  exact pe_glob hg e r hd
/-- an f-string of two parts or more -/
def tJoined (ts : List TE) : TE := fun σ H Q => tJs ts Str.empty σ H fun out H1 => Q (.str out) H1
/-! ### the readings' steps -/
section
variable {K : PySem.W.Frag} {σ : L2.St} {H : Hp} {D : Ends}
theorem g_seq {t u : TS} (h : t { D with nx := u D } σ H) : tSeq t u D σ H := h
theorem g_cut {t u : TS} {M : L2.St → Hp → Prop} (h : t { D with nx := M } σ H) (k : ∀ σ' H', M σ' H' → u D σ' H') : tCut t u D σ H := ⟨M, h, k⟩
theorem g_asg {te : TE} {g : TG} (h : te σ H fun x H1 => g x σ H1 D.nx) : tAsg te g D σ H := h
theorem g_name {i : Nat} {v : V} {Q : L2.St → Hp → Prop} (h : Q (σ.set i (some v)) H) : gName i v σ H Q := h
theorem g_ret {te : TE} (h : te σ H D.rt) : tRet te D σ H := h
theorem g_retN (h : D.rt .non H) : tRetN D σ H := h
theorem g_drop {te : TE} (h : te σ H fun _ H1 => D.nx σ H1) : tDrop te D σ H := h
theorem g_next (h : D.nx σ H) : tNext D σ H := h
theorem g_brk (h : D.bk σ H) : tBreak D σ H := h
theorem g_cont (h : D.ct σ H) : tCont D σ H := h
theorem g_ifS {c : TT} {t u : TS} (h : c σ H fun b H1 => if b = true then t D σ H1 else u D σ H1) : tIfS c t u D σ H := h
variable {Q : VK} {QB : Bool → Hp → Prop} {QL : List V → Hp → Prop}
theorem g_var {i : Nat} {v : V} (e : σ[i]? = some (some v)) (h : Q v H) : tVar i σ H Q := ⟨v, e, h⟩
theorem g_c {v : V} (h : Q v H) : tC v σ H Q := h
theorem g_op {r : R2} {ta tb : TE} (h : ta σ H fun x H1 => tb σ H1 fun y H2 => r x y H2 Q) : tOp r ta tb σ H Q := h
theorem g_un {r : V → Hp → VK → Prop} {ta : TE} (h : ta σ H fun x H1 => r x H1 Q) : tUn r ta σ H Q := h
theorem g_cb {r : List V → Hp → VK → Prop} {t : TA} (h : t σ H fun vs H1 => r vs H1 Q) : tCB r t σ H Q := h
theorem g_nil (h : QL [] H) : tNil σ H QL := h
theorem g_cons {ta : TE} {tr : TA} (h : ta σ H fun x H1 => tr σ H1 fun xs H2 => QL (x :: xs) H2) : tCons ta tr σ H QL := h
theorem g_test {te : TE} (h : te σ H fun x H' => ∃ k, x = .bl k ∧ QB k H') : tTest te σ H QB := h
theorem g_B {te : TE} (h : te σ H fun x H' => ∃ k, x = .bl k ∧ QB k H') : tB te σ H QB := h
theorem g_bl {b : Bool} {P : Bool → Prop} (h : P b) : ∃ k, V.bl b = .bl k ∧ P k := ⟨b, rfl, h⟩
theorem g_not {t : TT} (h : t σ H fun c H1 => QB (!c) H1) : tNot t σ H QB := h
theorem g_and {t u : TT} (h : t σ H fun c H1 => if c = true then u σ H1 QB else QB false H1) : tAnd t u σ H QB := h
theorem g_or {t u : TT} (h : t σ H fun c H1 => if c = true then QB true H1 else u σ H1 QB) : tOr t u σ H QB := h
theorem g_andV {ta tb : TE} (h : ta σ H fun x H1 => ∃ c, x = .bl c ∧ if c = true then tb σ H1 Q else Q (.bl false) H1) : tAndV ta tb σ H Q := h
theorem g_orV {ta tb : TE} (h : ta σ H fun x H1 => ∃ c, x = .bl c ∧ if c = true then Q (.bl true) H1 else tb σ H1 Q) : tOrV ta tb σ H Q := h
theorem g_notV {ta : TE} (h : ta σ H fun x H1 => ∃ c, x = .bl c ∧ Q (.bl (!c)) H1) : tNotV ta σ H Q := h
theorem g_ifE {t : TT} {ta tb : TE} (h : t σ H fun c H1 => if c = true then ta σ H1 Q else tb σ H1 Q) : tIf t ta tb σ H Q := h
theorem g_chain {r r' : R2} {ta tb tc : TE} (h : ta σ H fun x H1 => tb σ H1 fun y H2 => r x y H2 fun z H3 => ∃ k, z = .bl k ∧ (if k = true then tc σ H3 fun w' H4 => r' y w' H4 Q else Q (.bl false) H3)) : tChain r r' ta tb tc σ H Q := h
theorem g_yes (h : QB true H) : tYes σ H QB := h
theorem g_call {sp : Sp} {E : XK} {t : TA} (h : t σ H fun vs H1 => sp (vs ++ []) H1 Q E) : tCall sp [] E t σ H Q := h
theorem g_part {te : TE} {QO : Option Int → Hp → Prop} (h : te σ H fun x H1 => ∃ i, x = .int i ∧ QO (some i) H1) : tPart te σ H QO := h
theorem g_nopart {QO : Option Int → Hp → Prop} (h : QO none H) : tNoPart σ H QO := h
theorem g_sl {r : V → Option Int → Option Int → Hp → VK → Prop} {te : TE} {tl th : TO} (h : te σ H fun x H1 => tl σ H1 fun l H2 => th σ H2 fun u H3 => r x l u H3 Q) : tSl r te tl th σ H Q := h
theorem g_exI {i : Int} {P : Int → Prop} (h : P i) : ∃ k, V.int i = .int k ∧ P k := ⟨i, rfl, h⟩
def NewT (Q : VK) (xs : List V) (H1 : Hp) : Prop := xs.length ≤ sizeLine ∧ ∀ p, H1 p = none → Q (.ref p) (upd H1 p (.tup xs))
def NewL (Q : VK) (xs : List V) (H1 : Hp) : Prop := xs.length ≤ sizeLine ∧ ∀ p, H1 p = none → Q (.ref p) (upd H1 p (.lst xs))
theorem g_tupT {t : TA} (h : t σ H fun xs H1 => NewT Q xs H1) : tTup t σ H Q := h
theorem g_lstT {t : TA} (h : t σ H fun xs H1 => NewL Q xs H1) : tLst t σ H Q := h
theorem g_newT {xs : List V} (hl : xs.length ≤ sizeLine) (k : ∀ p H', H p = none → Ext H H' → H' p = some (.tup xs) → Q (.ref p) H') : NewT Q xs H := ⟨hl, fun p hp => k p _ hp (Chg.new hp _) upd_same⟩
theorem g_newL {xs : List V} (hl : xs.length ≤ sizeLine) (k : ∀ p H', H p = none → Ext H H' → H' p = some (.lst xs) → Q (.ref p) H') : NewL Q xs H := ⟨hl, fun p hp => k p _ hp (Chg.new hp _) upd_same⟩
theorem g_bm {T : String} {r : V → List V → Hp → VK → Prop} {to : TE} {t : TA} (h : to σ H fun x H1 => tyV K T x H1 ∧ t σ H1 fun xs H2 => r x xs H2 Q) : tBM K T r to t σ H Q := h
theorem g_bm0 {T : String} {r : V → List V → Hp → VK → Prop} {to : TE} (h : to σ H fun x H1 => tyV K T x H1 ∧ r x [] H1 Q) : tBM0 K T r to σ H Q := h
/-! relations of ints -/
theorem g_rI0 {g : Int → Int → V} {i j : Int} (h : Q (g i j) H) : rI0 g (.int i) (.int j) H Q := ⟨i, j, rfl, rfl, h⟩
theorem g_rI {C : Int → Int → Prop} {g : Int → Int → V} {i j : Int} (c : C i j) (h : Q (g i j) H) : rI C g (.int i) (.int j) H Q := ⟨i, j, rfl, rfl, c, h⟩
theorem g_rU {g : Int → V} {i : Int} (h : Q (g i) H) : rU g (.int i) H Q := ⟨i, rfl, h⟩
theorem g_int1 {i : Int} (h : Q (.int i) H) : rInt1 [.int i] H Q := .inl ⟨i, rfl, h⟩
theorem g_int1b {k : Bool} (h : Q (.int (if k then 1 else 0)) H) : rInt1 [.bl k] H Q := .inr ⟨k, rfl, h⟩
theorem g_abs {i : Int} (h : Q (.int (if i < 0 then -i else i)) H) : rAbs [.int i] H Q := ⟨i, rfl, h⟩
theorem g_eqI {i j : Int} (h : Q (.bl (decide (i = j))) H) : rEq (.int i) (.int j) H Q := ⟨rfl, by
  have e : decide (V.int i = V.int j) = decide (i = j) := by simp
  rw [e]; exact h⟩
theorem g_neI {i j : Int} (h : Q (.bl (!decide (i = j))) H) : rNe (.int i) (.int j) H Q := ⟨rfl, by
  have e : decide (V.int i = V.int j) = decide (i = j) := by simp
  rw [e]; exact h⟩
theorem g_eqS {i j : Str} (h : Q (.bl (decide (i = j))) H) : rEq (.str i) (.str j) H Q := ⟨rfl, by
  have e : decide (V.str i = V.str j) = decide (i = j) := by simp
  rw [e]; exact h⟩
theorem g_neS {i j : Str} (h : Q (.bl (!decide (i = j))) H) : rNe (.str i) (.str j) H Q := ⟨rfl, by
  have e : decide (V.str i = V.str j) = decide (i = j) := by simp
  rw [e]; exact h⟩
theorem g_neB {i j : Bool} (h : Q (.bl (!decide (i = j))) H) : rNe (.bl i) (.bl j) H Q := ⟨rfl, by
  have e : decide (V.bl i = V.bl j) = decide (i = j) := by simp
  rw [e]; exact h⟩
theorem g_addS {i j : Str} (hl : i.length + j.length ≤ sizeLine) (h : Q (.str (i ++ j)) H) : rAddS_ (.str i) (.str j) H Q := ⟨i, j, rfl, rfl, hl, h⟩
theorem g_isN {x : V} (h : Q (.bl (decide (x = .non))) H) : rIsN_ x .non H Q := ⟨rfl, h⟩
theorem g_notN {x : V} (h : Q (.bl (!decide (x = .non))) H) : rNotN_ x .non H Q := ⟨rfl, h⟩
/-! new objects: the heap behind is a letter -/
theorem g_new {o : HO} {P : Addr → Hp → Prop} (k : ∀ p H', H p = none → Ext H H' → H' p = some o → P p H') : ∀ p, H p = none → P p (upd H p o) := fun p hp => k p _ hp (Chg.new hp o) upd_same
theorem g_newS {xs : List V} {o : HO} {P : Addr → Hp → Prop} (hl : xs.length ≤ sizeLine) (k : ∀ p H', H p = none → Ext H H' → H' p = some o → P p H') : xs.length ≤ sizeLine ∧ ∀ p, H p = none → P p (upd H p o) := ⟨hl, g_new k⟩
/-! lists, tuples -/
theorem g_lenL {p : Addr} {xs : List V} (h : H p = some (.lst xs)) (k : Q (.int xs.length) H) : rLenSeq K [.ref p] H Q := ⟨p, xs, rfl, .inl (.inl (.inl h)), k⟩
theorem g_lenLK {p : Addr} {xs : List V} (h : SqL K H p xs) (k : Q (.int xs.length) H) : rLenSeq K [.ref p] H Q := ⟨p, xs, rfl, .inl h, k⟩
theorem g_lenT {p : Addr} {xs : List V} (h : H p = some (.tup xs)) (k : Q (.int xs.length) H) : rLenSeq K [.ref p] H Q := ⟨p, xs, rfl, .inr (.inl (.inl h)), k⟩
theorem g_lenS {z : Str} (hl : z.length ≤ sizeLine) (k : Q (.int z.length) H) : rLenStr [.str z] H Q := ⟨z, rfl, hl, k⟩
theorem g_ixL {p : Addr} {xs : List V} {i : Int} {v : V} (h : H p = some (.lst xs)) (a : atI xs i = some v) (k : Q v H) : rIxL K (.ref p) (.int i) H Q := ⟨p, xs, i, v, rfl, rfl, .inl (.inl h), a, k⟩
theorem g_ixT {p : Addr} {xs : List V} {i : Int} {v : V} (h : H p = some (.tup xs)) (a : atI xs i = some v) (k : Q v H) : rIxT K (.ref p) (.int i) H Q := ⟨p, xs, i, v, rfl, rfl, .inl (.inl h), a, k⟩
theorem g_ixS {z : Str} {i : Int} {c : Nat} (hl : z.length ≤ sizeLine) (a : atI z.cps.toList i = some c) (k : Q (.str ⟨#[c]⟩) H) : rIxS (.str z) (.int i) H Q := ⟨z, i, c, rfl, rfl, hl, a, k⟩
theorem g_append {l : Addr} {xs : List V} {y : V} (h : H l = some (.lst xs)) (hz : xs.length < sizeLine) (k : Q .non (upd H l (.lst (xs ++ [y])))) : rAppend (.ref l) [y] H Q := ⟨l, xs, y, rfl, rfl, h, hz, k⟩
theorem g_tyL {p : Addr} {xs : List V} {P : Prop} (h : H p = some (.lst xs)) (k : P) : tyV K "list" (.ref p) H ∧ P := ⟨.inl ⟨rfl, xs, .inl (.inl h)⟩, k⟩
theorem g_slL {p : Addr} {xs : List V} {lo hi : Option Int} (h : SqL K H p xs) (k : ∀ q H', H q = none → Ext H H' → H' q = some (.lst (cutV xs lo hi)) → Q (.ref q) H') : rSlL K (.ref p) lo hi H Q := ⟨p, xs, rfl, h, g_new k⟩
theorem g_cat {l b : Addr} {xs ys : List V} (h : H l = some (.lst xs)) (h2 : H b = some (.lst ys)) (hz : xs.length + ys.length ≤ sizeLine) (k : ∀ q H', H q = none → Ext H H' → H' q = some (.lst (xs ++ ys)) → Q (.ref q) H') : rCat (.ref l) (.ref b) H Q := ⟨l, b, xs, ys, rfl, rfl, h, h2, hz, g_new k⟩
theorem g_tupOf {p : Addr} {xs : List V} (h : SqL K H p xs) (k : ∀ q H', H q = none → Ext H H' → H' q = some (.tup xs) → Q (.ref q) H') : rTupleOf K [.ref p] H Q := ⟨p, xs, rfl, .inl ⟨h, g_new k⟩⟩
theorem g_lstOf {p : Addr} {xs : List V} (h : SqL K H p xs) (k : ∀ q H', H q = none → Ext H H' → H' q = some (.lst xs) → Q (.ref q) H') : rListOf K [.ref p] H Q := ⟨p, xs, rfl, .inl h, g_new k⟩
theorem g_lstOfT {p : Addr} {xs : List V} (h : SqT K H p xs) (k : ∀ q H', H q = none → Ext H H' → H' q = some (.lst xs) → Q (.ref q) H') : rListOf K [.ref p] H Q := ⟨p, xs, rfl, .inr h, g_new k⟩
theorem g_joined {ts : List TE} (h : tJs ts Str.empty σ H fun out H1 => Q (.str out) H1) : tJoined ts σ H Q := h
theorem g_jn {acc : Str} {QS : Str → Hp → Prop} (h : QS acc H) : tJs [] acc σ H QS := h
theorem g_jc {t : TE} {ts : List TE} {acc : Str} {QS : Str → Hp → Prop} (h : t σ H fun x H1 => ∃ y : Str, x = .str y ∧ (acc ++ y).length ≤ sizeLine ∧ tJs ts (acc ++ y) σ H1 QS) : tJs (t :: ts) acc σ H QS := h
theorem g_exS {y : Str} {P : Str → Prop} (h : P y) : ∃ z : Str, V.str y = .str z ∧ P z := ⟨y, rfl, h⟩
theorem g_fmt {te : TE} (h : te σ H fun x H1 => (∃ y : Str, x = .str y ∧ y.length ≤ sizeLine ∧ Q (.str y) H1) ∨ ∃ i : Int, x = .int i ∧ i.natAbs.log2 < 1920 ∧ Q (.str (toString i)) H1) : tFmt te σ H Q := h
theorem g_m1 {r : V → List V → Hp → VK → Prop} {to te : TE} (h : to σ H fun x H1 => (∃ a, x = .str a) ∧ te σ H1 fun y H2 => r x [y] H2 Q) : tM1 r to te σ H Q := h
theorem g_m1s {a : Str} {P : Prop} (h : P) : (∃ b, V.str a = .str b) ∧ P := ⟨⟨a, rfl⟩, h⟩
theorem g_tr {A B : Prop} (h : A) : if true = true then A else B := by rw [if_pos rfl]; exact h
theorem g_fa {A B : Prop} (h : B) : if false = true then A else B := by rw [if_neg Bool.false_ne_true]; exact h
theorem g_ntr {A B : Prop} (h : B) : if (!true) = true then A else B := g_fa h
theorem g_nfa {A B : Prop} (h : A) : if (!false) = true then A else B := g_tr h
theorem g_2 {c : Bool} {A B : Prop} (h : c = true → A) (k : c = false → B) : if c = true then A else B := by
  cases c with
  | true => rw [if_pos rfl]; exact h rfl
  | false => rw [if_neg Bool.false_ne_true]; exact k rfl
end

/-! ### loops and comprehensions -/
/-- what a for leaves to be shown of its iterator -/
def ForB (g : TG) (tb : TS) (D : Ends) (σ : L2.St) : It → Hp → Prop := fun J H1 => ∃ W : Nat → Nat → L2.St → Hp → Prop, (∃ m, W 0 m σ H1) ∧ ∀ i m σ H, W i m σ H →
  (J.stop i H ∧ D.nx σ H) ∨ (J.go i H ∧ ∃ N : L2.St → Hp → Prop, (∀ σ' H', N σ' H' → ∃ m', m' < m ∧ W (i + 1) m' σ' H') ∧ ∀ x H', J.yld i H x H' → g x σ H' fun σ2 H2 => tb { D with nx := N, ct := N, bk := D.nx } σ2 H2)
/-- .. a comprehension -/
def LcB (g : TG) (tt : TT) (te : TE) (vs : List Nat) (σ : L2.St) (Q : VK) : It → Hp → Prop := fun J H1 => ∀ D, H1 D = none → ∃ W : Nat → Nat → Hp → Prop, (∃ m, W 0 m (upd H1 D (.lst []))) ∧ ∀ i m H, W i m H →
  (J.stop i H ∧ Q (.ref D) H) ∨ (J.go i H ∧ ∃ Nx : Hp → Prop, (∀ H', Nx H' → ∃ m', m' < m ∧ W (i + 1) m' H') ∧ ∀ x H', J.yld i H x H' → g x (wipe σ vs) H' fun σ2 H2 => wipe σ2 vs = wipe σ vs ∧ tt σ2 H2 fun b H3 =>
    if b = true then te σ2 H3 fun y H4 => ∃ acc, H4 D = some (.lst acc) ∧ acc.length < sizeLine ∧ Nx (upd H4 D (.lst (acc ++ [y]))) else Nx H3)
section
variable {K : PySem.W.Frag} {σ : L2.St} {H : Hp} {D : Ends} {wi : TI} {g : TG} {tb : TS} {R : It → Hp → Prop} {te : TE} {ta : TA} {tt : TT} {vs : List Nat} {Q : VK} {p : Addr} {xs : List V} {j : Nat} {S : List Addr}
theorem g_for (h : wi σ H (ForB g tb D σ)) : tFor wi g tb D σ H := h
theorem g_lc (h : wi σ H (LcB g tt te vs σ Q)) : tLc wi g tt te vs σ H Q := h
theorem g_iL (h : te σ H fun x H1 => ∃ a, x = .ref a ∧ (∃ xs, SqL K H1 a xs) ∧ R (Itl K a) H1) : iList K te σ H R := h
theorem g_iT (h : te σ H fun x H1 => ∃ a, x = .ref a ∧ (∃ xs, SqT K H1 a xs) ∧ R (Itt K a) H1) : iTup K te σ H R := h
theorem g_iR (h : ta σ H fun vs H1 => ∃ j : Int, vs = [.int j] ∧ -(2 ^ 62) ≤ j ∧ j < 2 ^ 62 ∧ R (Itr 0 j.toNat) H1) : iRng1 ta σ H R := h
theorem g_iR2 (h : ta σ H fun vs H1 => ∃ i j : Int, vs = [.int i, .int j] ∧ (-(2 ^ 62) ≤ i ∧ i < 2 ^ 62 ∧ -(2 ^ 62) ≤ j ∧ j < 2 ^ 62) ∧ R (Itr i (j - i).toNat) H1) : iRng2 ta σ H R := h
/-- for x in a list | a tuple | a range -/
theorem g_forL (h : SqL K H p xs) (Pv : Nat → L2.St → Hp → Prop) (h0 : Pv 0 σ H) (hl : ∀ i σ H, i ≤ xs.length → Pv i σ H → SqL K H p xs)
    (hs : ∀ i x σ H, xs[i]? = some x → Pv i σ H → g x σ H fun σ2 H2 => tb { D with nx := Pv (i + 1), ct := Pv (i + 1), bk := D.nx } σ2 H2) (hd : ∀ σ H, Pv xs.length σ H → D.nx σ H) :
    ∃ a, V.ref p = .ref a ∧ (∃ xs, SqL K H a xs) ∧ ForB g tb D σ (Itl K a) H := ⟨p, rfl, ⟨xs, h⟩, for_list Pv h0 hl hs hd⟩
theorem g_forT (h : SqT K H p xs) (Pv : Nat → L2.St → Hp → Prop) (h0 : Pv 0 σ H) (hl : ∀ i σ H, i ≤ xs.length → Pv i σ H → SqT K H p xs)
    (hs : ∀ i x σ H, xs[i]? = some x → Pv i σ H → g x σ H fun σ2 H2 => tb { D with nx := Pv (i + 1), ct := Pv (i + 1), bk := D.nx } σ2 H2) (hd : ∀ σ H, Pv xs.length σ H → D.nx σ H) :
    ∃ a, V.ref p = .ref a ∧ (∃ xs, SqT K H a xs) ∧ ForB g tb D σ (Itt K a) H := ⟨p, rfl, ⟨xs, h⟩, for_tup Pv h0 hl hs hd⟩
theorem g_forR {n : Int} (hn : -(2 ^ 62) ≤ n ∧ n < 2 ^ 62) (Pv : Nat → L2.St → Hp → Prop) (h0 : Pv 0 σ H)
    (hs : ∀ (i : Nat) σ H, (i : Int) < n → Pv i σ H → g (.int (i : Int)) σ H fun σ2 H2 => tb { D with nx := Pv (i + 1), ct := Pv (i + 1), bk := D.nx } σ2 H2) (hd : ∀ σ H, Pv n.toNat σ H → D.nx σ H) :
    ∃ j : Int, ([V.int n] : List V) = [.int j] ∧ -(2 ^ 62) ≤ j ∧ j < 2 ^ 62 ∧ ForB g tb D σ (Itr 0 j.toNat) H := by
  refine ⟨n, rfl, hn.1, hn.2, for_range Pv h0 (fun i σ H hi q => ?_) hd⟩
  rw [Int.zero_add]
  exact hs i σ H (by omega) q
theorem g_forR2 {lo n : Int} (hn : -(2 ^ 62) ≤ lo ∧ lo < 2 ^ 62 ∧ -(2 ^ 62) ≤ n ∧ n < 2 ^ 62) (Pv : Nat → L2.St → Hp → Prop) (h0 : Pv 0 σ H)
    (hs : ∀ (i : Nat) σ H, lo + (i : Int) < n → Pv i σ H → g (.int (lo + (i : Int))) σ H fun σ2 H2 => tb { D with nx := Pv (i + 1), ct := Pv (i + 1), bk := D.nx } σ2 H2) (hd : ∀ σ H, Pv (n - lo).toNat σ H → D.nx σ H) :
    ∃ i j : Int, ([V.int lo, V.int n] : List V) = [.int i, .int j] ∧ (-(2 ^ 62) ≤ i ∧ i < 2 ^ 62 ∧ -(2 ^ 62) ≤ j ∧ j < 2 ^ 62) ∧ ForB g tb D σ (Itr i (j - i).toNat) H :=
  ⟨lo, n, rfl, hn, for_range Pv h0 (fun i σ H hi q => hs i σ H (by omega) q) hd⟩
/-- a comprehension's turn, whatever walks: the list so far is acc -/
def LcT (S : List Addr) (H : Hp) (σ : L2.St) (vs : List Nat) (j : Nat) (tt : TT) (te : TE) (Acc : Nat → List V → Hp → Prop) (i : Nat) (x : V) : Prop :=
  ∀ (acc : List V) (H' : Hp) (Yes : VK) (No : Hp → Prop), Chg S H H' → Acc i acc H' → (∀ y H4, Chg S H' H4 → Acc (i + 1) (acc ++ [y]) H4 → Yes y H4) → (∀ H3, Chg S H' H3 → Acc (i + 1) acc H3 → No H3) →
    tt ((wipe σ vs).set j (some x)) H' fun b H3 => if b = true then te ((wipe σ vs).set j (some x)) H3 Yes else No H3
def LcI (S : List Addr) (H : Hp) (Dl : Addr) (Acc : Nat → List V → Hp → Prop) (i : Nat) (H' : Hp) : Prop := ∃ acc, H' Dl = some (.lst acc) ∧ Chg S H H' ∧ Acc i acc H'
theorem lc_turn {Dl : Addr} {Acc : Nat → List V → Hp → Prop} {i : Nat} {x : V} (hD : H Dl = none) (hS : ∀ s ∈ S, H s ≠ none) (mono : ∀ i acc Dl H1 H2, H Dl = none → Chg [Dl] H1 H2 → Acc i acc H1 → Acc i acc H2)
    (hz : ∀ i acc H', Acc i acc H' → acc.length < sizeLine) (t : LcT S H σ vs j tt te Acc i x) {H' : Hp} (q : LcI S H Dl Acc i H') :
    tt ((wipe σ vs).set j (some x)) H' fun b H3 => if b = true then te ((wipe σ vs).set j (some x)) H3 fun y H4 => ∃ acc, H4 Dl = some (.lst acc) ∧ acc.length < sizeLine ∧ LcI S H Dl Acc (i + 1) (upd H4 Dl (.lst (acc ++ [y]))) else LcI S H Dl Acc (i + 1) H3 := by
  obtain ⟨acc, h1, c, a⟩ := q
  have nS : Dl ∉ S := fun z => hS Dl z hD
  refine t acc H' _ _ c a (fun y H4 c4 a4 => ?_) (fun H3 c3 a3 => ⟨acc, c3.ob _ _ nS h1, c.trans c3, a3⟩)
  have h4 := c4.ob _ _ nS h1
  refine ⟨acc, h4, hz _ _ _ a, acc ++ [y], upd_same, (c.trans c4).own hD _, ?_⟩
  exact mono _ _ Dl H4 _ hD ((Chg.refl H4).set (List.mem_singleton.mpr rfl) h4 (by intro xs z; cases z) _) a4
theorem g_lcL (h : SqL K H p xs) (hS : ∀ s ∈ S, H s ≠ none) (Acc : Nat → List V → Hp → Prop) (mono : ∀ i acc Dl H1 H2, H Dl = none → Chg [Dl] H1 H2 → Acc i acc H1 → Acc i acc H2)
    (h0 : ∀ H', Ext H H' → Acc 0 [] H') (hl : ∀ i acc H', Chg S H H' → Acc i acc H' → SqL K H' p xs) (hz : ∀ i acc H', Acc i acc H' → acc.length < sizeLine)
    (hs : ∀ i x, xs[i]? = some x → LcT S H σ vs j tt te Acc i x)
    (hd : ∀ q acc H', H q = none → Chg S H H' → H' q = some (.lst acc) → Acc xs.length acc H' → Q (.ref q) H')
    (hw : ∀ x : V, wipe ((wipe σ vs).set j (some x)) vs = wipe σ vs := by intro _; rfl) :
    ∃ a, V.ref p = .ref a ∧ (∃ xs, SqL K H a xs) ∧ LcB (gName j) tt te vs σ Q (Itl K a) H := by
  refine ⟨p, rfl, ⟨xs, h⟩, fun Dl hD => lc_list (xs := xs) (LcI S H Dl Acc) ⟨[], upd_same, (Chg.new hD _), h0 _ (Chg.new hD _)⟩ (fun i H' _ ⟨acc, _, c, a⟩ => hl i acc H' c a) (fun i x H' hi q => ⟨hw x, ?_⟩) (fun H' ⟨acc, h1, c, a⟩ => hd Dl acc H' hD c h1 a)⟩
  exact lc_turn hD hS mono hz (hs i x hi) q
theorem g_lcT (h : SqT K H p xs) (hS : ∀ s ∈ S, H s ≠ none) (Acc : Nat → List V → Hp → Prop) (mono : ∀ i acc Dl H1 H2, H Dl = none → Chg [Dl] H1 H2 → Acc i acc H1 → Acc i acc H2)
    (h0 : ∀ H', Ext H H' → Acc 0 [] H') (hl : ∀ i acc H', Chg S H H' → Acc i acc H' → SqT K H' p xs) (hz : ∀ i acc H', Acc i acc H' → acc.length < sizeLine)
    (hs : ∀ i x, xs[i]? = some x → LcT S H σ vs j tt te Acc i x)
    (hd : ∀ q acc H', H q = none → Chg S H H' → H' q = some (.lst acc) → Acc xs.length acc H' → Q (.ref q) H')
    (hw : ∀ x : V, wipe ((wipe σ vs).set j (some x)) vs = wipe σ vs := by intro _; rfl) :
    ∃ a, V.ref p = .ref a ∧ (∃ xs, SqT K H a xs) ∧ LcB (gName j) tt te vs σ Q (Itt K a) H := by
  refine ⟨p, rfl, ⟨xs, h⟩, fun Dl hD => lc_tup (xs := xs) (LcI S H Dl Acc) ⟨[], upd_same, (Chg.new hD _), h0 _ (Chg.new hD _)⟩ (fun i H' _ ⟨acc, _, c, a⟩ => hl i acc H' c a) (fun i x H' hi q => ⟨hw x, ?_⟩) (fun H' ⟨acc, h1, c, a⟩ => hd Dl acc H' hD c h1 a)⟩
  exact lc_turn hD hS mono hz (hs i x hi) q
theorem g_lcR {n : Int} (hn : -(2 ^ 62) ≤ n ∧ n < 2 ^ 62) (hS : ∀ s ∈ S, H s ≠ none) (Acc : Nat → List V → Hp → Prop) (mono : ∀ i acc Dl H1 H2, H Dl = none → Chg [Dl] H1 H2 → Acc i acc H1 → Acc i acc H2)
    (h0 : ∀ H', Ext H H' → Acc 0 [] H') (hz : ∀ i acc H', Acc i acc H' → acc.length < sizeLine)
    (hs : ∀ i : Nat, (i : Int) < n → LcT S H σ vs j tt te Acc i (.int (i : Int)))
    (hd : ∀ q acc H', H q = none → Chg S H H' → H' q = some (.lst acc) → Acc n.toNat acc H' → Q (.ref q) H')
    (hw : ∀ x : V, wipe ((wipe σ vs).set j (some x)) vs = wipe σ vs := by intro _; rfl) :
    ∃ k : Int, ([V.int n] : List V) = [.int k] ∧ -(2 ^ 62) ≤ k ∧ k < 2 ^ 62 ∧ LcB (gName j) tt te vs σ Q (Itr 0 k.toNat) H := by
  refine ⟨n, rfl, hn.1, hn.2, fun Dl hD => lc_range (lo := 0) (n := n.toNat) (LcI S H Dl Acc) ⟨[], upd_same, (Chg.new hD _), h0 _ (Chg.new hD _)⟩ (fun i H' hi q => ?_) (fun H' ⟨acc, h1, c, a⟩ => hd Dl acc H' hD c h1 a)⟩
  rw [Int.zero_add]
  exact ⟨hw _, lc_turn hD hS mono hz (hs i (by omega)) q⟩
end
/-! ### a def as a constant -/
structure Cl (P : Program) (w : World) (K : PySem.W.Frag) (mg : Str → Option Value) (base : Heap) (CX : CXT) (k : Nat) (x : Str) (sp : Sp) : Prop where
  ex : ∃ f fd ps, FnOk P w K mg base CX k f fd ps sp ∧ mg x = some (.ref f) ∧ PySem.W.keepIn K (.ref f) = true ∧ Binds K fd ps []
section
variable {X : Cx} {CX : CXT} {k j : Nat} {x : Str} {sp : Sp} {E : XK} {e : Expr} {es : List Expr} {t : TA} {p pos : Pos}
theorem pe_cl (c : Cl X.prog X.w X.K X.mg X.base CX k x sp) (hr : Room j X.A) (hk : k ≤ j) (hx : Passes CX X E) (ha : PA X (e :: es) t) (hg : Gl X x := by rfl) (hdb : (x == ("__debug__" : Str)) = false := by decide)
    (he : starEach (e :: es) X.env = (false, eval e X.env) :: starEach es X.env := by rfl) (hpl : (backTo pos (starEach es X.env)).any (·.1) = false := by rfl) : PE X (.Call (.Name x p) (e :: es) [] pos) (tCall sp [] E t) := by
  obtain ⟨f, fd, ps, F, hm, hk2, hb⟩ := c.ex
  exact pe_call F (hr.mono hk) hg hm hk2 hb .nil hx ha hdb he hpl
theorem pe_cl0 (c : Cl X.prog X.w X.K X.mg X.base CX k x sp) (hr : Room j X.A) (hk : k ≤ j) (hx : Passes CX X E) (hg : Gl X x := by rfl) (hdb : (x == ("__debug__" : Str)) = false := by decide) : PE X (.Call (.Name x p) [] [] pos) (tCall sp [] E tNil) := by
  obtain ⟨f, fd, ps, F, hm, hk2, hb⟩ := c.ex
  exact pe_call0 F (hr.mono hk) hg hm hk2 hb .nil hx hdb
end
end My

/-! Hk: the head's facts read by a Hook of one's own: defs at any address, closures, Bools of one's own. -/
namespace My
open PySem PySem.Spec PyProof.Rows L2 He
abbrev FnM : Type := Option (Str × Str × Arguments × FuncBody × Scope × Addr × Addr)
def fnM (K : PySem.W.Frag) (a : Addr) : FnM := match K.lookup a with
  | some ⟨_, _, .func fd, _⟩ => some (fd.name, fd.qualname, fd.params, fd.body, fd.scope, fd.globals, fd.builtins)
  | _ => none
/-- one def: where it stands, its name, qualified name, parameters, body, scope, closure -/
structure DefM where
  at_ : PySem.W.Frag → Addr
  name : Str
  qual : Str
  params : Arguments
  body : List Stmt
  scope : Scope
  clo : List (Str × (PySem.W.Frag → Addr)) := []
def DefM.val (d : DefM) : FnM := some (d.name, d.qual, d.params, .stmts d.body, d.scope, mainGlobals, builtinsNs)
def DefM.cl (K : PySem.W.Frag) (d : DefM) : List (Str × Addr) := d.clo.map fun q => (q.1, q.2 K)
def noneB : Value → Bool
  | .none => true
  | _ => false
theorem noneB_ok {v : Value} (h : noneB v = true) : v = .none := by cases v <;> first | rfl | cases h
def DefM.ok (K : PySem.W.Frag) (d : DefM) : Bool := PySem.W.keepIn K (.ref (d.at_ K)) && (match K.lookup (d.at_ K) with
  | some ⟨_, _, .func fd, _⟩ => PySem.W.codeIn K fd.code d.qual && (noneB fd.defaults && decide (fd.closure = d.cl K))
  | _ => false)
/-- a def of K with a closure, without defaults -/
structure FunC (K : PySem.W.Frag) (x qual : Str) (params : Arguments) (body : List Stmt) (scope : Scope) (cl : List (Str × Addr)) (f : Addr) (fd : FuncData) : Prop where
  ex : ∃ (oc : Value) (od : Option Addr) (kV doc pm : Value) (an : Option Addr) (cdv ct : Value) (osl : Array (Option Value)),
    fd = { PySem.W.fnOf x qual params body scope .none kV doc pm an cdv ct with closure := cl } ∧ K.lookup f = some ⟨oc, od, .func fd, osl⟩ ∧ PySem.W.codeIn K cdv qual = true
  kp : PySem.W.keepIn K (.ref f) = true
theorem DefM.funC {K : PySem.W.Frag} {d : DefM} (e : fnM K (d.at_ K) = d.val) (c : d.ok K = true) : ∃ fd, FunC K d.name d.qual d.params d.body d.scope (d.cl K) (d.at_ K) fd := by
  obtain ⟨kp, c2⟩ := ba c
  unfold fnM at e
  cases q : K.lookup (d.at_ K) with
  | none =>
    rw [q] at c2
    cases c2
  | some o =>
    obtain ⟨oc, od, dt, osl⟩ := o
    rw [q] at c2 e
    cases dt with
    | func fd =>
      obtain ⟨n1, n2, n3, n4, n5, n6, n7, n8, n9, n10, n11, n12, n13, n14, n15⟩ := fd
      have e2 : (some (n1, n2, n3, n4, n5, n6, n15) : FnM) = some (d.name, d.qual, d.params, .stmts d.body, d.scope, mainGlobals, builtinsNs) := e
      simp only [Option.some.injEq, Prod.mk.injEq] at e2
      obtain ⟨h1, h2, h3, h4, h5, h6, h8⟩ := e2
      subst h1 h2 h3 h4 h5 h6 h8
      have c3 : (PySem.W.codeIn K n13 d.qual && (noneB n8 && decide (n7 = d.cl K))) = true := c2
      obtain ⟨k1, k2⟩ := ba c3
      obtain ⟨k3, k4⟩ := ba k2
      have e8 := noneB_ok k3
      have e7 : n7 = d.cl K := of_decide_eq_true k4
      subst e8 e7
      exact ⟨_, ⟨oc, od, n9, n10, n11, n12, n13, n14, osl, rfl, q, k1⟩, kp⟩
    | _ => cases c2
theorem FunC.funD {K : PySem.W.Frag} {x qual : Str} {params : Arguments} {body : List Stmt} {scope : Scope} {f : Addr} {fd : FuncData} (F : FunC K x qual params body scope [] f fd) : FunD K x qual params body scope [] [] f fd := by
  obtain ⟨oc, od, kV, doc, pm, an, cdv, ct, osl, e, lk, c⟩ := F.ex
  exact ⟨⟨oc, od, .none, kV, doc, pm, an, cdv, ct, osl, e, lk, c, .inl ⟨rfl, rfl⟩, .inl rfl⟩, F.kp⟩
/-! ### the Hook -/
abbrev AlM : Type := Bool × List FnM
abbrev Ex : Type := PySem.W.Frag → Bool
def obsM (fa : List Fa) (fn : List DefM) (ex : List Ex) (K : PySem.W.Frag) : AlM := ((fa.all fun f => f.ok K) && ((fn.all fun d => d.ok K) && ex.all fun x => x K), fn.map fun d => fnM K (d.at_ K))
def valM (fn : List DefM) : AlM := (true, fn.map DefM.val)
def SaysM (fa : List Fa) (fn : List DefM) (ex : List Ex) (K : PySem.W.Frag) : Prop := obsM fa fn ex K = valM fn
def obsMG (n : Nat) (fa : List Fa) (fn : List DefM) (ex : List Ex) (g : Addr → Option Obj) : AlM := obsM fa fn ex (frG g (He5.asA g n))
def hookM (n : Nat) (fa : List Fa) (fn : List DefM) (ex : List Ex) : PySem.W.Hook where
  α := AlM
  obs := fun s => obsMG n fa fn ex s.heap.get?
  val := fun _ => valM fn
  says := fun _ h => ∃ K : PySem.W.Frag, K.In h ∧ SaysM fa fn ex K
  of := fun _ _ e => ⟨_, frG_in, e⟩
  keeps := fun _ _ _ ⟨K, hK, c⟩ k => ⟨K, PySem.W.Frag.In.keeps hK k, c⟩
theorem obsMG_eq {n : Nat} {fa : List Fa} {fn : List DefM} {ex : List Ex} {g : Addr → Option Obj} {s : Shared} (h : ∀ a, g a = s.heap.get? a) : obsMG n fa fn ex g = (hookM n fa fn ex).obs s := by
  have e : g = s.heap.get? := funext h
  rw [e] <;> rfl
section
variable {fa : List Fa} {fn : List DefM} {ex : List Ex} {K : PySem.W.Frag}
theorem SaysM.fact (c : SaysM fa fn ex K) (i : Nat) {f : Fa} (h : fa[i]? = some f := by rfl) : f.ok K = true := by
  have c1 := (ba (show ((fa.all fun f => f.ok K) && ((fn.all fun d => d.ok K) && ex.all fun x => x K)) = true from congrArg (fun z : AlM => z.1) c)).1
  exact List.all_eq_true.mp c1 f (List.mem_of_getElem? h)
theorem SaysM.more (c : SaysM fa fn ex K) (i : Nat) {x : Ex} (h : ex[i]? = some x := by rfl) : x K = true := by
  have c1 := (ba (ba (show ((fa.all fun f => f.ok K) && ((fn.all fun d => d.ok K) && ex.all fun x => x K)) = true from congrArg (fun z : AlM => z.1) c)).2).2
  exact List.all_eq_true.mp c1 x (List.mem_of_getElem? h)
theorem SaysM.defC (c : SaysM fa fn ex K) (i : Nat) {d : DefM} (h : fn[i]? = some d := by rfl) : ∃ fd, FunC K d.name d.qual d.params d.body d.scope (d.cl K) (d.at_ K) fd := by
  have c2 := (ba (ba (show ((fa.all fun f => f.ok K) && ((fn.all fun d => d.ok K) && ex.all fun x => x K)) = true from congrArg (fun z : AlM => z.1) c)).2).1
  have e : fn.map (fun d => fnM K (d.at_ K)) = fn.map DefM.val := congrArg (fun z : AlM => z.2) c
  have e2 : (fn.map fun d => fnM K (d.at_ K))[i]? = (fn.map DefM.val)[i]? := by rw [e]
  rw [List.getElem?_map, List.getElem?_map, h] at e2
  exact DefM.funC (Option.some.inj e2) (List.all_eq_true.mp c2 d (List.mem_of_getElem? h))
theorem SaysM.def_ (c : SaysM fa fn ex K) (i : Nat) {d : DefM} (h : fn[i]? = some d := by rfl) (hc : d.clo = [] := by rfl) : ∃ fd, FunD K d.name d.qual d.params d.body d.scope [] [] (d.at_ K) fd := by
  obtain ⟨fd, F⟩ := c.defC i h
  have e : d.cl K = [] := by unfold DefM.cl; rw [hc]; rfl
  rw [e] at F
  exact ⟨fd, F.funD⟩
end
/-! ### where a def stands -/
abbrev wFn (x : Str) : PySem.W.Frag → Addr := fun K => fAd K (x, none)
abbrev wMt (C m : Str) : PySem.W.Frag → Addr := fun K => fAd K (C, some m)
abbrev wSm (C m : Str) : PySem.W.Frag → Addr := fun K => He5.wf K (ga K C) "staticmethod" m
abbrev wCm (C m : Str) : PySem.W.Frag → Addr := fun K => He5.wf K (ga K C) "classmethod" m
/-! ### a static method, read off its class -/
def smB (C m : Str) : Ex := fun K => PySem.W.readsIn K (ga K C) (.type "type") && He5.wrapB K (ga K C) "staticmethod" "staticmethod.__get__" m
def cmB (C m : Str) : Ex := fun K => PySem.W.readsIn K (ga K C) (.type "type") && (He5.wrapB K (ga K C) "classmethod" "classmethod.__get__" m && PySem.W.fnIn K (He5.wf K (ga K C) "classmethod" m))
theorem cread_of {K : PySem.W.Frag} {C : Addr} (h : PySem.W.readsIn K C (.type "type") = true) : ClX.CRead K C (.type "type") := by
  refine ⟨h, ?_⟩
  unfold PySem.W.readsIn at h
  obtain ⟨h, _⟩ := ba h
  obtain ⟨h, _⟩ := ba h
  obtain ⟨h, h3⟩ := ba h
  obtain ⟨_, h2⟩ := ba h
  unfold PySem.W.specialIn
  rw [beq_iff_eq.mp h2, Option.bind_some]
  exact beq_iff_eq.mp h3
/-- C.m, a static method -/
structure SMet (K : PySem.W.Frag) (C : Addr) (m : Str) (g : Addr) : Prop where
  rd : ClX.CRead K C (.type "type")
  ex : ∃ p rest, PySem.W.findCls K (.ref C) (.type "type") m = some (.get (.builtin "staticmethod.__get__") (.ref p) .none (.ref C)) ∧ PySem.W.recIn K p "staticmethod" = some (.ref g :: rest)
theorem smB_ok {K : PySem.W.Frag} {C m : Str} (h : smB C m K = true) : SMet K (ga K C) m (wSm C m K) := by
  obtain ⟨h1, h2⟩ := ba h
  obtain ⟨h3, rest, h4⟩ := He5.wrapB_ok h2
  exact ⟨cread_of h1, _, rest, h3, h4⟩
/-- a static method as a constant -/
structure ClS (P : Program) (w : World) (K : PySem.W.Frag) (mg : Str → Option Value) (base : Heap) (CX : CXT) (k : Nat) (C m : Str) (sp : Sp) : Prop where
  ex : ∃ c f fd ps, FnOk P w K mg base CX k f fd ps sp ∧ mg C = some (.ref c) ∧ SMet K c m f ∧ PySem.W.keepIn K (.ref f) = true ∧ Binds K fd ps []
section
variable {X : Cx} {CX : CXT} {k j : Nat} {C m : Str} {sp : Sp} {E : XK} {e : Expr} {es : List Expr} {t : TA} {p pos apos : Pos} {pl : Sem Bool}
theorem pe_sm (c : ClS X.prog X.w X.K X.mg X.base CX k C m sp) (hr : Room j X.A) (hk : k ≤ j) (hx : Passes CX X E) (ha : PA X (e :: es) t) (hg : Gl X C := by rfl) (hdb : (C == ("__debug__" : Str)) = false := by decide)
    (he : starEach (e :: es) X.env = (false, eval e X.env) :: starEach es X.env := by rfl) (hpl : (backTo pos (starEach es X.env)).any (·.1) = false := by rfl)
    (ht : eval (.Call (.Attribute (.Name C p) m apos) (e :: es) [] pos) X.env = (do
      let ov ← eval (.Name C p) X.env
      standAt apos.atName
      let (f, first) ← holding [ov] (getMethod ov m pl)
      callWith pos f first (backTo pos (starEach (e :: es) X.env)) (backToKw pos (keywordEach [] X.env))) := by rfl) :
    PE X (.Call (.Attribute (.Name C p) m apos) (e :: es) [] pos) (tCall sp [] E t) := by
  obtain ⟨ca, f, fd, ps, F, hm, M, kp, hb⟩ := c.ex
  obtain ⟨q, rest, hf, hp⟩ := M.ex
  refine ⟨fun pins s σ H Q I h => ?_⟩
  refine PySem.W.methodCall_KW (pl := pl) (thn ((pe_glob (v := .ref ca) hg hm rfl hdb).run pins s σ H (fun v H1 => v = .ref ca ∧ H1 = H) I ⟨rfl, rfl⟩) fun u s1 ⟨x, H1, I1, rx, ex, eh⟩ => ?_) ht
  subst ex eh
  obtain rfl : u = Value.ref ca := rx
  refine PySem.W.method_cls I1.kIn M.rd.ga (PySem.W.cls_bind I1.kIn M.rd.rd hf (wpAny_call (PySem.W.sm_get (s := { s1 with toks := s1.toks + 1 }) I1.kIn hp (PySem.W.handed_on rfl ?_))))
  refine PySem.W.callWith_K (h₀ := X.base) I1.ok.mod.kin kp (thn (ha.run pos pins _ σ H1 _ (I1.tok _) h) fun us s2 ⟨vs, H2, I2, r, q2⟩ => ⟨I2.kIn, ?_⟩) he hpl
  exact run_fn F (hr.mono hk) hb .nil hx I2 r q2
end
end My

/-! More: further steps of the readings. -/
namespace My
open PySem PySem.Spec PyProof.Rows L2
section
variable {K : PySem.W.Frag} {σ : L2.St} {H : Hp} {D : Ends} {g : TG} {tb : TS} {R : It → Hp → Prop} {te : TE} {Q : VK}
theorem g_iS (h : te σ H fun x H1 => ∃ z, x = .str z ∧ R (Its z) H1) : iStr te σ H R := h
/-- for c in a text -/
theorem g_forS {z : Str} (Pv : Nat → L2.St → Hp → Prop) (h0 : Pv 0 σ H)
    (hs : ∀ i c σ H, z.cps.toList[i]? = some c → Pv i σ H → g (.str ⟨#[c]⟩) σ H fun σ2 H2 => tb { D with nx := Pv (i + 1), ct := Pv (i + 1), bk := D.nx } σ2 H2) (hd : ∀ σ H, Pv z.cps.toList.length σ H → D.nx σ H) :
    ∃ y, V.str z = .str y ∧ ForB g tb D σ (Its y) H := by
  refine ⟨z, rfl, fun i m σ H => m = z.cps.toList.length - i ∧ i ≤ z.cps.toList.length ∧ Pv i σ H, ⟨z.cps.toList.length, by simp, Nat.zero_le _, h0⟩, ?_⟩
  rintro i m σ H ⟨rfl, hi, p⟩
  by_cases hlt : i < z.cps.toList.length
  · refine .inr ⟨by simpa [Its] using hlt, Pv (i + 1), fun σ' H' p' => ⟨z.cps.toList.length - (i + 1), by omega, rfl, hlt, p'⟩, fun x H' y => ?_⟩
    obtain ⟨e, c, hc, rfl⟩ := y
    subst e
    exact hs i c σ _ (by simpa using hc) p
  · have e : i = z.cps.toList.length := by omega
    subst e
    exact .inl ⟨by simp [Its], hd σ H p⟩
theorem g_notInS {c : Nat} {z : Str} (h : Q (.bl (!decide (c ∈ z.cps.toList))) H) : rNotInS_ (.str ⟨#[c]⟩) (.str z) H Q := ⟨c, z, rfl, rfl, h⟩
theorem g_inS {c : Nat} {z : Str} (h : Q (.bl (decide (c ∈ z.cps.toList))) H) : rInS_ (.str ⟨#[c]⟩) (.str z) H Q := ⟨c, z, rfl, rfl, h⟩
theorem kit_bool_bool : PySem.W.kitOne K (.type "bool") (.type "bool") = some true := kit_ty (by decide +kernel)
theorem g_isiBB {b : Bool} (k : Q (.bl true) H) : rIsi K [.bl b, .ty "bool"] H Q := ⟨_, _, _, _, true, rfl, .ty "bool", .base (.bl b), kit_bool_bool, k⟩
end
/-! ### xs[1::-1] of two or more -/
theorem rev2_pick (items : Array Value) (u v : Value) (r : List Value) (e : items.toList = u :: v :: r) : slicePick items (some 1) none (some (-1)) = #[v, u] := by
  have hs : items.size = r.length + 2 := by rw [← Array.length_toList, e]; simp
  unfold slicePick
  have hb : sliceBounds (some 1) none (some (-1)) items.size = (1, -1, -1) := by
    rw [hs]
    simp [sliceBounds]
    omega
  rw [hb]
  have hr : sliceRange 1 (-1) (-1) = [1, 0] := by decide +kernel
  show ((sliceRange 1 (-1) (-1)).filterMap (items[·]?)).toArray = _
  rw [hr]
  have h0 : items[0]? = some u := by rw [← Array.getElem?_toList, e]; rfl
  have h1 : items[1]? = some v := by rw [← Array.getElem?_toList, e]; rfl
  simp [h0, h1]
def tRev2 (K : PySem.W.Frag) (te : TE) : TE := fun σ H Q => te σ H fun x H1 => ∃ a x0 x1 xs, x = .ref a ∧ SqL K H1 a (x0 :: x1 :: xs) ∧ ∀ p, H1 p = none → Q (.ref p) (upd H1 p (.lst [x1, x0]))
theorem pe_rev2 {X : Cx} {e : Expr} {te : TE} {k k' : Nat} {p0 p1 p2 p3 pos : Pos} (he : PE X e te) : PE X (.Subscript e (.Slice (some (.Constant (.int 1) k' p0)) none (some (.UnaryOp .USub (.Constant (.int 1) k p1) p2)) p3) pos) (tRev2 X.K te) := by
  refine ⟨fun pins s σ H Q I h => ?_⟩
  refine Subscript_ (thn (he.run pins s σ H _ I h) fun v s1 ⟨x, H1, I1, r1, q1⟩ => ?_)
  obtain ⟨a, x0, x1, xs, ex, hx, q⟩ := q1
  subst ex
  cases r1
  have hlo : PO X (some (.Constant (.int 1) k' p0)) (tPart (tC (.int 1))) := po_some pe_int
  have hst : PO X (some (.UnaryOp .USub (.Constant (.int 1) k p1) p2)) (tPart (tUn (rU fun i => .int (-i)) (tC (.int 1)))) := po_some (pe_un un_neg pe_int)
  refine wpAny_Slice (thn (hlo.run pins s1 σ H1 (fun o H2 => o = some 1 ∧ H2 = H1) I1 ⟨1, rfl, rfl, rfl⟩) fun vl s2 ⟨l, H2, I2, pl, el, e2⟩ => ?_)
  subst el e2
  refine thn (po_none.run pins s2 σ H2 (fun o H3 => o = none ∧ H3 = H2) I2 ⟨rfl, rfl⟩) fun vu s3 ⟨u, H3, I3, pu, eu, e3⟩ => ?_
  subst eu e3
  refine thn (hst.run pins s3 σ H3 (fun o H4 => o = some (-1) ∧ H4 = H3) I3 ⟨1, rfl, -1, rfl, rfl, rfl⟩) fun vs s4 ⟨o, H4, I4, ps, eo, e4⟩ => ?_
  subst eo e4
  have I5 : Inv X pins σ H4 { s4 with heap := s4.heap.push { cls := .type "slice", data := .fields #[vl, vu, vs] } } := I4.kept (t' := s4.toks) fun b ob q => Heap.get?_push_of_some _ q
  obtain ⟨its, r, ht, hz⟩ := I5.list hx
  have hlen := r.length
  show wpAny (model X.prog X.w) X.A (subscriptTail e (.Slice (some (.Constant (.int 1) k' p0)) none (some (.UnaryOp .USub (.Constant (.int 1) k p1) p2)) p3) (.ref a) (.ref s4.heap.objs.size)) (EP X pins σ Q) X.xe { s4 with heap := s4.heap.push { cls := .type "slice", data := .fields #[vl, vu, vs] } }
  refine tail_any (ops := [.ref a, .ref s4.heap.objs.size]) ht.isList.typeIs (PySem.slot_list_getitem.lookup) ?_ (by with_unfolding_all rfl)
  refine wpAny_getItem_list_slice ht.isList (Heap.IsSliceOf.new _ vl vu vs) pl pu ps (by decide) ?_ (by rw [List.size_toArray]; omega)
  cases r with
  | @cons _ u0 _ us r0 rr =>
    cases rr with
    | @cons _ u1 _ us2 r1 rr2 =>
      rw [rev2_pick _ u0 u1 us2 (by simp)]
      refine ⟨.ref _, _, I5.laid (t' := s4.toks) (o := .lst [x1, x0]) (fun b ob q => Heap.get?_push_of_some _ q) (Nat.le_refl _) ?_, rfl, q _ (I5.hok.fresh (Nat.le_refl _))⟩
      exact ⟨by rw [sizeLine_eq]; simp, _, 0, .cons r1 (.cons r0 .nil), Heap.get?_push_size _ rfl⟩
/-! ### dicts with int and text keys -/
def rLenD : List V → Hp → VK → Prop := fun xs H Q => ∃ a kvs, xs = [V.ref a] ∧ H a = some (.dK kvs) ∧ Q (.int kvs.length) H
section
variable {K : PySem.W.Frag} {σ : L2.St} {H : Hp} {D : Ends} {Q : VK} {td ty tx tv te : TE}
theorem g_lenD {a : Addr} {kvs : List (Key × V)} (h : H a = some (.dK kvs)) (k : Q (.int kvs.length) H) : rLenD [.ref a] H Q := ⟨a, kvs, rfl, h, k⟩
theorem g_dget (h : td σ H fun x H1 => ty σ H1 fun y H2 => ∃ a v, x = .ref a ∧ DGet H2 a y (some v) ∧ Q v H2) : tDGet td ty σ H Q := h
theorem g_dget2 (h : td σ H fun x H1 => ∃ a, x = .ref a ∧ IsD H1 a ∧ ty σ H1 fun y H2 => tx σ H2 fun z H3 => ∃ o, DGet H3 a y o ∧ Q (o.getD z) H3) : tDGet2 td ty tx σ H Q := h
theorem g_din (h : ty σ H fun y H1 => td σ H1 fun x H2 => ∃ a o, x = .ref a ∧ DGet H2 a y o ∧ Q (.bl o.isSome) H2) : tDIn ty td σ H Q := h
theorem g_dnin (h : ty σ H fun y H1 => td σ H1 fun x H2 => ∃ a o, x = .ref a ∧ DGet H2 a y o ∧ Q (.bl (!o.isSome)) H2) : tDNotIn ty td σ H Q := h
theorem g_dput (h : tv σ H fun v H1 => td σ H1 fun x H2 => ty σ H2 fun y H3 => ∃ a H4, x = .ref a ∧ DPut H3 a y v H4 ∧ D.nx σ H4) : sDPut td ty tv D σ H := h
theorem g_star {t : TA} {QL : List V → Hp → Prop} (h : te σ H fun x H1 => ∃ p xs, x = V.ref p ∧ (SqT K H1 p xs ∨ SqL K H1 p xs) ∧ t σ H1 fun ys H2 => QL (xs ++ ys) H2) : StX.tStar K te t σ H QL := h
theorem g_rev2 (h : te σ H fun x H1 => ∃ a x0 x1 xs, x = .ref a ∧ SqL K H1 a (x0 :: x1 :: xs) ∧ ∀ p, H1 p = none → Q (.ref p) (upd H1 p (.lst [x1, x0]))) : tRev2 K te σ H Q := h
theorem g_dnew (k : ∀ p H', H p = none → Ext H H' → H' p = some (.dK []) → Q (.ref p) H') : tDNewK σ H Q := fun p hp => k p _ hp (Chg.new hp _) upd_same
end
theorem DGet.int {H : Hp} {a : Addr} {kvs : List (Key × V)} {n : Int} (h : H a = some (.dK kvs)) : DGet H a (.int n) (valV kvs (.inl n)) := .inl ⟨kvs, .inl n, .inl h, rfl, rfl⟩
theorem DGet.str {H : Hp} {a : Addr} {kvs : List (Key × V)} {n : Str} (h : H a = some (.dK kvs)) : DGet H a (.str n) (valV kvs (.inr n)) := .inl ⟨kvs, .inr n, .inl h, rfl, rfl⟩
theorem isD_of {H : Hp} {a : Addr} {kvs : List (Key × V)} (h : H a = some (.dK kvs)) : IsD H a := .inl ⟨kvs, .inl h⟩
/-! ### more -/
def tNever : TS := fun _ _ _ => False
theorem ps_never {X : Cx} {st : Stmt} : PS X st tNever := ⟨fun _ _ _ _ _ _ h => h.elim⟩
section
variable {K : PySem.W.Frag} {σ : L2.St} {H : Hp} {D : Ends} {Q : VK} {te : TE} {QB : Bool → Hp → Prop}
theorem g_gtup {a : Addr} {xs : List V} {n : Nat} {t : TGs} {QS : L2.St → Hp → Prop} (h : H a = some (.tup xs)) (hl : xs.length = n) (k : t xs σ H QS) : gTup K n t (.ref a) σ H QS := ⟨a, xs, rfl, .inl (.inl h), hl, k⟩
theorem g_gcons {v : V} {r : List V} {t : TG} {u : TGs} {QS : L2.St → Hp → Prop} (h : t v σ H fun σ' H' => u r σ' H' QS) : gCons t u (v :: r) σ H QS := ⟨v, r, rfl, h⟩
theorem g_gnil {QS : L2.St → Hp → Prop} (h : QS σ H) : gNil [] σ H QS := ⟨rfl, h⟩
theorem g_ipI {f : Int → Int → Int} {i j : Int} (h : Q (.int (f i j)) H) : ipI f (.int i) (.int j) H Q := ⟨i, j, rfl, rfl, h⟩
theorem g_augV {i : Nat} {ti : TIp} {x : V} (e : σ[i]? = some (some x)) (h : te σ H fun y H1 => ti x y H1 fun z H2 => D.nx (σ.set i (some z)) H2) : tAug i te ti D σ H := ⟨x, e, h⟩
theorem g_while {c : TT} {tb : TS} {m0 : Nat} (Pv : Nat → L2.St → Hp → Prop) (h0 : Pv m0 σ H)
    (hs : ∀ m σ H, Pv m σ H → c σ H fun b H1 => if b = true then ∃ N : L2.St → Hp → Prop, (∀ σ' H', N σ' H' → ∃ m', m' < m ∧ Pv m' σ' H') ∧ tb { D with nx := N, ct := N, bk := D.nx } σ H1 else D.nx σ H1) : tWhile c tb D σ H := ⟨Pv, ⟨_, h0⟩, hs⟩
theorem g_truL {p : Addr} {xs : List V} (h : H p = some (.lst xs)) (k : QB (!xs.isEmpty) H) : ∃ b, TruV K (.ref p) H b ∧ QB b H := ⟨_, .inl ⟨xs, .inl (.inl h), rfl⟩, k⟩
theorem g_tru (h : te σ H fun x H' => ∃ k, TruV K x H' k ∧ QB k H') : tTru_ K te σ H QB := h
end
end My

namespace My
open PySem PySem.Spec PyProof.Rows L2
local macro_rules | `(tactic| walk_at "g1") => `(tactic| first
  | with_reducible refine My.g_seq ?_
  | with_reducible refine My.g_asg ?_
  | with_reducible refine My.g_name ?_
  | ((with_reducible refine' My.g_var ?ga ?gb); (case ga => rfl))
  | with_reducible refine My.g_c ?_
  | with_reducible refine My.g_op ?_
  | with_reducible refine My.g_cb ?_
  | with_reducible refine My.g_cons ?_
  | with_reducible refine My.g_nil ?_
  | with_reducible refine My.g_ifS ?_
  | with_reducible refine My.g_ret ?_
  | with_reducible refine My.g_drop ?_
  | with_reducible refine My.g_test ?_
  | with_reducible refine My.g_B ?_
  | with_reducible refine My.g_bl ?_
  | with_reducible refine My.g_int1 ?_
  | with_reducible refine My.g_rI0 ?_
  | ((with_reducible refine My.g_rI ?ga ?gb); (case ga => first | decide | (unfold CMul; omega) | (unfold CDiv; omega) | (unfold CPow; decide) | (unfold CPow; omega) | omega))
  | with_reducible refine My.g_eqI ?_
  | with_reducible refine My.g_neI ?_
  | with_reducible refine My.g_eqS ?_
  | with_reducible refine My.g_neS ?_
  | with_reducible refine My.g_neB ?_
  | with_reducible refine My.g_tr ?_
  | with_reducible refine My.g_fa ?_
  | with_reducible refine My.g_ntr ?_
  | with_reducible refine My.g_nfa ?_
  | with_reducible refine My.g_next ?_
  | with_reducible refine My.g_bm ?_
  | with_reducible refine My.g_bm0 ?_
  | ((with_reducible refine' My.g_tyL ?ga ?gb); (case ga => assumption))
  | with_reducible refine My.g_not ?_
  | with_reducible refine My.g_and ?_
  | with_reducible refine My.g_or ?_
  | with_reducible refine My.g_andV ?_
  | with_reducible refine My.g_orV ?_
  | with_reducible refine My.g_notV ?_
  | with_reducible refine My.g_ifE ?_
  | with_reducible refine My.g_chain ?_
  | with_reducible refine My.g_un ?_
  | with_reducible refine My.g_rU ?_
  | with_reducible refine My.g_sl ?_
  | with_reducible refine My.g_part ?_
  | with_reducible refine My.g_nopart ?_
  | with_reducible refine My.g_exI ?_
  | with_reducible refine My.g_abs ?_
  | with_reducible refine My.g_int1b ?_
  | with_reducible refine My.g_tupT ?_
  | with_reducible refine My.g_lstT ?_
  | with_reducible refine My.g_yes ?_
  | with_reducible refine My.g_joined ?_
  | with_reducible refine My.g_jc ?_
  | with_reducible refine My.g_jn ?_
  | with_reducible refine My.g_fmt ?_
  | with_reducible refine My.g_m1 ?_
  | with_reducible refine My.g_m1s ?_
  | with_reducible refine My.g_for ?_
  | with_reducible refine My.g_lc ?_
  | with_reducible refine My.g_iL ?_
  | with_reducible refine My.g_iT ?_
  | with_reducible refine My.g_iR ?_
  | with_reducible refine My.g_iR2 ?_
  | with_reducible refine My.g_call ?_
  | with_reducible refine My.g_isN ?_
  | with_reducible refine My.g_notN ?_
  | with_reducible refine My.g_retN ?_
  | with_reducible refine My.g_iS ?_
  | with_reducible refine My.g_gcons ?_
  | with_reducible refine My.g_gnil ?_
  | with_reducible refine My.g_ipI ?_
  | with_reducible refine My.g_tru ?_
  | ((with_reducible refine' My.g_augV ?ga ?gb); (case ga => rfl))
  | with_reducible refine My.g_dget ?_
  | with_reducible refine My.g_dget2 ?_
  | with_reducible refine My.g_din ?_
  | with_reducible refine My.g_dnin ?_
  | with_reducible refine My.g_dput ?_
  | with_reducible refine My.g_star ?_
  | with_reducible refine My.g_rev2 ?_
  | ((with_reducible refine' My.g_lenL ?ga ?gb); (case ga => assumption))
  | ((with_reducible refine' My.g_lenT ?ga ?gb); (case ga => assumption)))
local macro_rules | `(tactic| walk_at "go") => `(tactic| repeat walk_at "g1")

def t_take (K : PySem.W.Frag) : TS := (tSeq (tIfS (tTest (tOp rEq (tCB (rLenSeq K) (tCons (tVar 0) tNil)) (tC (.int 0)))) (tRet (tC (.int 0)))
  tNext)
  (tRet (tOp rModI (tCB rInt1 (tCons (tBM K "list" rPopAt (tVar 0) (tCons (tC (.int 0)) tNil)) tNil)) (tVar 1))))
abbrev N_take : List Str := ["_law_draws", "_law_many"]
/-- the draws: a list of ints at d, not too long -/
def Dr (H : Hp) (d : Addr) : Prop := ∃ ds : List Int, H d = some (.lst (ds.map V.int)) ∧ ds.length ≤ 10000
theorem big {n : Nat} (h : n ≤ 100000) : n ≤ sizeLine := Nat.le_trans h (by decide)
theorem bigl {n : Nat} (h : n < 100000) : n < sizeLine := Nat.lt_of_lt_of_le h (by decide)
def sp_take (K : PySem.W.Frag) : Sp := fun vs H Q _ => ∃ (d : Addr) (m : Int), vs = [.ref d, .int m] ∧ Dr H d ∧ 0 < m ∧ ∀ (v : Int) (H' : Hp), 0 ≤ v → v < m → Chg [d] H H' → Dr H' d → Q (.int v) H'
theorem len_take {K : PySem.W.Frag} {vs : List V} {H : Hp} {Q : VK} {E : XK} (h : sp_take K vs H Q E) : vs.length = 2 := by obtain ⟨_, _, rfl, _⟩ := h; rfl
theorem rd_take {K : PySem.W.Frag} {vs : List V} {H : Hp} {Q : VK} {E : XK} (h : sp_take K vs H Q E) : t_take K { nx := fun _ H' => Q .non H', rt := Q } (start N_take vs) H := by
  obtain ⟨d, m, rfl, ⟨ds, hd, hl⟩, hm, k⟩ := h
  unfold t_take
  walk_at "go"
  refine g_2 (fun e => ?_) (fun e => ?_)
  · walk_at "go"
    exact k 0 H (Int.le_refl 0) hm (Chg.refl H) ⟨ds, hd, hl⟩
  · walk_at "go"
    cases ds with
    | nil => simp at e
    | cons n ds =>
      refine ⟨d, _, 0, 0, .int n, rfl, rfl, hd, by decide, by decide, by simp [seqIndex?], rfl, ?_⟩
      walk_at "go"
      refine k _ _ (Int.emod_nonneg _ (by omega)) (Int.emod_lt_of_pos _ hm) ((Chg.refl H).set (List.mem_singleton.mpr rfl) hd (by simp) _) ⟨ds, by rw [upd_same]; rfl, by simp at hl; omega⟩
def t_stream (K : PySem.W.Frag) : TS := (tSeq (tAsg (tLst tNil) (gName 1))
  (tSeq (tAsg (tC (.int 7)) (gName 2))
  (tSeq (tFor (iList K (tVar 0)) (gName 3)
  (tSeq (tAsg (tCB rAbs (tCons (tCB rInt1 (tCons (tVar 3) tNil)) tNil)) (gName 4))
  (tCut (tIfS (tTest (tOp rLtI (tVar 4) (tOp rPowI (tC (.int 10)) (tC (.int 18))))) (tSeq (tDrop (tBM K "list" rAppend (tVar 1) (tCons (tOp rModI (tCB rInt1 (tCons (tVar 3) tNil)) (tC (.int 1000))) tNil)))
  (tAsg (tC (.int 0)) (gName 4)))
  tNext)
  (tSeq (tFor (iRng1 (tCons (tC (.int 60)) tNil)) (gName 5)
  (tIfS (tTest (tOp rGtI (tVar 4) (tC (.int 0)))) (tSeq (tDrop (tBM K "list" rAppend (tVar 1) (tCons (tOp rModI (tCB rInt1 (tCons (tVar 4) tNil)) (tC (.int 1000))) tNil)))
  (tAsg (tOp rDivI (tVar 4) (tC (.int 1000))) (gName 4)))
  tNext))
  (tAsg (tOp rAddI (tOp rModI (tCB rInt1 (tCons (tOp rAddI (tOp rMulI (tVar 2) (tC (.int 31))) (tCB rInt1 (tCons (tVar 3) tNil))) tNil)) (tC (.int 1000003))) (tC (.int 1))) (gName 2))))))
  (tSeq (tAsg (tOp rAddI (tOp rMulI (tVar 2) (tC (.int 7))) (tC (.int 1))) (gName 6))
  (tSeq (tFor (iRng1 (tCons (tOp rMulI (tC (.int 600)) (tCB rInt1 (tCons (tOp rGtI (tCB (rLenSeq K) (tCons (tVar 0) tNil)) (tC (.int 0))) tNil))) tNil)) (gName 5)
  (tSeq (tAsg (tOp rModI (tCB rInt1 (tCons (tOp rMulI (tVar 2) (tC (.int 48271))) tNil)) (tC (.int 2147483647))) (gName 2))
  (tSeq (tAsg (tOp rModI (tCB rInt1 (tCons (tOp rMulI (tVar 6) (tC (.int 69621))) tNil)) (tC (.int 2147483629))) (gName 6))
  (tDrop (tBM K "list" rAppend (tVar 1) (tCons (tOp rModI (tCB rInt1 (tCons (tOp rAddI (tOp rDivI (tVar 2) (tC (.int 1009))) (tOp rDivI (tVar 6) (tC (.int 2003)))) tNil)) (tC (.int 1000))) tNil))))))
  (tRet (tSl (rSlL K) (tVar 1) tNoPart (tPart (tC (.int 900))))))))))
abbrev N_stream : List Str := ["_law_script", "_law_row", "_law_seed", "_law_cell", "_law_rest", "_law_k", "_law_turn"]
theorem len_app {xs : List Int} {n : Int} : (xs ++ [n]).map V.int = xs.map V.int ++ [V.int n] := by simp
def sp_stream (K : PySem.W.Frag) : Sp := fun vs H Q _ => ∃ (a : Addr) (ns : List Int), vs = [.ref a] ∧ SqL K H a (ns.map V.int) ∧ ns.length ≤ 63 ∧ ∀ (r : Addr) (H' : Hp), H r = none → Ext H H' → Dr H' r → Q (.ref r) H'
theorem len_stream {K : PySem.W.Frag} {vs : List V} {H : Hp} {Q : VK} {E : XK} (h : sp_stream K vs H Q E) : vs.length = 1 := by obtain ⟨_, _, rfl, _⟩ := h; rfl
theorem rd_stream {K : PySem.W.Frag} {vs : List V} {H : Hp} {Q : VK} {E : XK} (h : sp_stream K vs H Q E) : t_stream K { nx := fun _ H' => Q .non H', rt := Q } (start N_stream vs) H := by
  obtain ⟨a, ns, rfl, hS, h63, k⟩ := h
  unfold t_stream
  walk_at "go"
  refine g_newL (by decide) fun r H1 hr c1 h1 => ?_
  walk_at "go"
  -- for cell in script
  refine g_forL (xs := ns.map V.int) (c1.same.seq hS) (fun i σ H' => ∃ (ds : List Int) (seed : Int) (o3 o4 o5 : Option V), σ = [some (.ref a), some (.ref r), some (.int seed), o3, o4, o5, none] ∧ Ext H H' ∧ H' r = some (.lst (ds.map V.int)) ∧ ds.length ≤ 100 * i ∧ 0 ≤ seed ∧ seed ≤ 2000000)
    ⟨[], 7, none, none, none, rfl, c1, h1, Nat.zero_le _, by decide, by decide⟩ (fun i σ H' _ ⟨_, _, _, _, _, _, c, _⟩ => c.same.seq hS) ?_ ?_
  · rintro i x σ H' hi ⟨ds, seed, o3, o4, o5, rfl, c, hd, hl, s0, s1⟩
    obtain ⟨n, hn, rfl⟩ : ∃ n, ns[i]? = some n ∧ V.int n = x := by
      rw [List.getElem?_map] at hi
      cases e : ns[i]? with
      | none => rw [e] at hi; cases hi
      | some n => rw [e] at hi; exact ⟨n, rfl, Option.some.inj hi⟩
    have hi63 : i < ns.length := (List.getElem?_eq_some_iff.mp hn).1
    walk_at "go"
    refine g_cut (M := fun σ H' => ∃ (ds : List Int) (rest : Int), σ = [some (.ref a), some (.ref r), some (.int seed), some (.int n), some (.int rest), o5, none] ∧ Ext H H' ∧ H' r = some (.lst (ds.map V.int)) ∧ ds.length ≤ 100 * i + 1) ?_ ?_
    · walk_at "go"
      refine g_2 (fun _ => ?_) (fun _ => ?_)
      · walk_at "go"
        refine g_append hd (bigl (by simp; omega)) ?_
        walk_at "go"
        exact ⟨ds ++ [_], _, rfl, c.own hr _, by rw [upd_same, len_app], by simp; omega⟩
      · walk_at "go"
        exact ⟨ds, _, rfl, c, hd, by omega⟩
    · rintro σ H' ⟨ds, rest, rfl, c, hd, hl⟩
      walk_at "go"
      refine g_forR (by decide) (fun k σ H' => ∃ (ds : List Int) (rest : Int) (o5 : Option V), σ = [some (.ref a), some (.ref r), some (.int seed), some (.int n), some (.int rest), o5, none] ∧ Ext H H' ∧ H' r = some (.lst (ds.map V.int)) ∧ ds.length ≤ 100 * i + 1 + k) ⟨ds, rest, o5, rfl, c, hd, by omega⟩ ?_ ?_
      · rintro k σ H' hk ⟨ds, rest, o5, rfl, c, hd, hl⟩
        walk_at "go"
        refine g_2 (fun _ => ?_) (fun _ => ?_)
        · walk_at "go"
          refine g_append hd (bigl (by simp; omega)) ?_
          walk_at "go"
          exact ⟨ds ++ [_], _, _, rfl, c.own hr _, by rw [upd_same, len_app], by simp; omega⟩
        · walk_at "go"
          exact ⟨ds, rest, _, rfl, c, hd, by omega⟩
      · rintro σ H' ⟨ds, rest, o5, rfl, c, hd, hl⟩
        walk_at "go"
        refine ⟨ds, _, _, _, _, rfl, c, hd, by simp at hl; omega, ?_, ?_⟩
        · have := Int.emod_nonneg (seed * 31 + n) (b := 1000003) (by decide); omega
        · have := Int.emod_lt_of_pos (seed * 31 + n) (b := 1000003) (by decide); omega
  · rintro σ H' ⟨ds, seed, o3, o4, o5, rfl, c, hd, hl, s0, s1⟩
    walk_at "go"
    refine g_lenLK (c.same.seq hS) ?_
    walk_at "go"
    have hb : ∀ b : Bool, (if b = true then (1 : Int) else 0) = 0 ∨ (if b = true then (1 : Int) else 0) = 1 := by intro b; cases b <;> simp
    generalize he : (if decide (0 < ((List.map V.int ns).length : Int)) = true then (1 : Int) else 0) = e
    have he2 : e = 0 ∨ e = 1 := by rw [← he]; exact hb _
    refine g_forR (by omega) (fun k σ H' => ∃ (ds : List Int) (seed turn : Int) (o5 : Option V), σ = [some (.ref a), some (.ref r), some (.int seed), o3, o4, o5, some (.int turn)] ∧ Ext H H' ∧ H' r = some (.lst (ds.map V.int)) ∧ ds.length ≤ 6300 + k ∧ -5000000000 ≤ seed ∧ seed ≤ 5000000000 ∧ -5000000000 ≤ turn ∧ turn ≤ 5000000000) ⟨ds, seed, _, o5, rfl, c, hd, by simp at hl; omega, by omega, by omega, by omega, by omega⟩ ?_ ?_
    · rintro k σ H' hk ⟨ds, seed, turn, o5, rfl, c, hd, hl, a1, a2, a3, a4⟩
      walk_at "go"
      refine g_append hd (bigl (by simp; omega)) ?_
      refine ⟨ds ++ [_], _, _, _, rfl, c.own hr _, by rw [upd_same, len_app], by simp; omega, ?_, ?_, ?_, ?_⟩
      · have := Int.emod_nonneg (seed * 48271) (b := 2147483647) (by decide); omega
      · have := Int.emod_lt_of_pos (seed * 48271) (b := 2147483647) (by decide); omega
      · have := Int.emod_nonneg (turn * 69621) (b := 2147483629) (by decide); omega
      · have := Int.emod_lt_of_pos (turn * 69621) (b := 2147483629) (by decide); omega
    · rintro σ H' ⟨ds, seed, turn, o5, rfl, c, hd, hl, a1, a2, a3, a4⟩
      walk_at "go"
      refine g_slL (.inl (.inl hd)) fun q H2 hq c2 h2 => ?_
      refine k q H2 (c.free hq) (c.trans c2) ⟨ds.take 900, ?_, by simp; omega⟩
      rw [h2]
      simp [cutV, HT.sIx, List.map_take]
end My

namespace My
open PySem PySem.Spec PyProof.Rows L2
local macro_rules | `(tactic| walk_at "g1") => `(tactic| first
  | with_reducible refine My.g_seq ?_
  | with_reducible refine My.g_asg ?_
  | with_reducible refine My.g_name ?_
  | ((with_reducible refine' My.g_var ?ga ?gb); (case ga => rfl))
  | with_reducible refine My.g_c ?_
  | with_reducible refine My.g_op ?_
  | with_reducible refine My.g_cb ?_
  | with_reducible refine My.g_cons ?_
  | with_reducible refine My.g_nil ?_
  | with_reducible refine My.g_ifS ?_
  | with_reducible refine My.g_ret ?_
  | with_reducible refine My.g_drop ?_
  | with_reducible refine My.g_test ?_
  | with_reducible refine My.g_B ?_
  | with_reducible refine My.g_bl ?_
  | with_reducible refine My.g_int1 ?_
  | with_reducible refine My.g_rI0 ?_
  | ((with_reducible refine My.g_rI ?ga ?gb); (case ga => first | decide | (unfold CMul; omega) | (unfold CDiv; omega) | (unfold CPow; decide) | (unfold CPow; omega) | omega))
  | with_reducible refine My.g_eqI ?_
  | with_reducible refine My.g_neI ?_
  | with_reducible refine My.g_eqS ?_
  | with_reducible refine My.g_neS ?_
  | with_reducible refine My.g_neB ?_
  | with_reducible refine My.g_tr ?_
  | with_reducible refine My.g_fa ?_
  | with_reducible refine My.g_ntr ?_
  | with_reducible refine My.g_nfa ?_
  | with_reducible refine My.g_next ?_
  | with_reducible refine My.g_bm ?_
  | with_reducible refine My.g_bm0 ?_
  | ((with_reducible refine' My.g_tyL ?ga ?gb); (case ga => assumption))
  | with_reducible refine My.g_not ?_
  | with_reducible refine My.g_and ?_
  | with_reducible refine My.g_or ?_
  | with_reducible refine My.g_andV ?_
  | with_reducible refine My.g_orV ?_
  | with_reducible refine My.g_notV ?_
  | with_reducible refine My.g_ifE ?_
  | with_reducible refine My.g_chain ?_
  | with_reducible refine My.g_un ?_
  | with_reducible refine My.g_rU ?_
  | with_reducible refine My.g_sl ?_
  | with_reducible refine My.g_part ?_
  | with_reducible refine My.g_nopart ?_
  | with_reducible refine My.g_exI ?_
  | with_reducible refine My.g_abs ?_
  | with_reducible refine My.g_int1b ?_
  | with_reducible refine My.g_tupT ?_
  | with_reducible refine My.g_lstT ?_
  | with_reducible refine My.g_yes ?_
  | with_reducible refine My.g_joined ?_
  | with_reducible refine My.g_jc ?_
  | with_reducible refine My.g_jn ?_
  | with_reducible refine My.g_fmt ?_
  | with_reducible refine My.g_m1 ?_
  | with_reducible refine My.g_m1s ?_
  | with_reducible refine My.g_for ?_
  | with_reducible refine My.g_lc ?_
  | with_reducible refine My.g_iL ?_
  | with_reducible refine My.g_iT ?_
  | with_reducible refine My.g_iR ?_
  | with_reducible refine My.g_iR2 ?_
  | with_reducible refine My.g_call ?_
  | with_reducible refine My.g_isN ?_
  | with_reducible refine My.g_notN ?_
  | with_reducible refine My.g_retN ?_
  | with_reducible refine My.g_iS ?_
  | with_reducible refine My.g_gcons ?_
  | with_reducible refine My.g_gnil ?_
  | with_reducible refine My.g_ipI ?_
  | with_reducible refine My.g_tru ?_
  | ((with_reducible refine' My.g_augV ?ga ?gb); (case ga => rfl))
  | with_reducible refine My.g_dget ?_
  | with_reducible refine My.g_dget2 ?_
  | with_reducible refine My.g_din ?_
  | with_reducible refine My.g_dnin ?_
  | with_reducible refine My.g_dput ?_
  | with_reducible refine My.g_star ?_
  | with_reducible refine My.g_rev2 ?_
  | ((with_reducible refine' My.g_lenL ?ga ?gb); (case ga => assumption))
  | ((with_reducible refine' My.g_lenT ?ga ?gb); (case ga => assumption)))
local macro_rules | `(tactic| walk_at "go") => `(tactic| repeat walk_at "g1")

/-! ### names -/
abbrev abc : Str := "abcdefghijklmnopqrstuvwxyz"
def isWord (s : Str) : Bool := (decide (1 ≤ s.length) && decide (s.length ≤ 8)) && s.cps.toList.all fun c => decide (c ∈ abc.cps.toList)
theorem all_take {l : List Nat} {p : Nat → Bool} {i c : Nat} (h : l[i]? = some c) : (l.take (i + 1)).all p = ((l.take i).all p && p c) := by
  rw [List.take_add_one, h, List.all_append]
  simp
def t_word (K : PySem.W.Frag) : TS := (tSeq (tIfS (tNot (tTest (tChain rLeI rLeI (tC (.int 1)) (tCB rLenStr (tCons (tVar 0) tNil)) (tC (.int 8))))) (tRet (tC (.bl false)))
  tNext)
  (tSeq (tFor (iStr (tVar 0)) (gName 1)
  (tIfS (tTest (tOp rNotInS_ (tVar 1) (tC (.str "abcdefghijklmnopqrstuvwxyz")))) (tRet (tC (.bl false)))
  tNext))
  (tRet (tC (.bl true)))))
abbrev N_word : List Str := ["text", "char"]
def sp_word (K : PySem.W.Frag) : Sp := fun vs H Q _ => ∃ s : Str, vs = [.str s] ∧ s.length ≤ 100000 ∧ Q (.bl (isWord s)) H
theorem len_word {K : PySem.W.Frag} {vs : List V} {H : Hp} {Q : VK} {E : XK} (h : sp_word K vs H Q E) : vs.length = 1 := by obtain ⟨_, rfl, _⟩ := h; rfl
theorem rd_word {K : PySem.W.Frag} {vs : List V} {H : Hp} {Q : VK} {E : XK} (h : sp_word K vs H Q E) : t_word K { nx := fun _ H' => Q .non H', rt := Q } (start N_word vs) H := by
  obtain ⟨s, rfl, hl, k⟩ := h
  unfold t_word
  walk_at "go"
  refine g_lenS (big hl) ?_
  walk_at "go"
  refine g_2 (fun b => ?_) (fun b => ?_)
  · have b : (1 : Int) ≤ s.length := of_decide_eq_true b
    walk_at "go"
    refine g_2 (fun c => ?_) (fun c => ?_)
    · have c : ¬ (s.length : Int) ≤ 8 := of_decide_eq_false (by simpa using c)
      walk_at "go"
      have e : isWord s = false := by unfold isWord; rw [decide_eq_false (show ¬ s.length ≤ 8 by omega), Bool.and_false, Bool.false_and]
      rw [e] at k
      exact k
    · have c : (s.length : Int) ≤ 8 := of_decide_eq_true (by simpa using c)
      walk_at "go"
      have e0 : isWord s = s.cps.toList.all fun c => decide (c ∈ abc.cps.toList) := by
        unfold isWord
        rw [decide_eq_true (show 1 ≤ s.length by omega), decide_eq_true (show s.length ≤ 8 by omega)]
        rfl
      rw [e0] at k
      refine g_forS (fun i σ H' => ∃ o : Option V, σ = [some (.str s), o] ∧ H' = H ∧ (s.cps.toList.take i).all (fun c => decide (c ∈ abc.cps.toList)) = true) ⟨none, rfl, rfl, rfl⟩ ?_ ?_
      · rintro i c σ H' hi ⟨o, rfl, rfl, ha⟩
        walk_at "go"
        refine g_notInS ?_
        walk_at "go"
        refine g_2 (fun b => ?_) (fun b => ?_)
        · have b : ¬ c ∈ abc.cps.toList := of_decide_eq_false (by simpa using b)
          walk_at "go"
          have : (s.cps.toList.all fun c => decide (c ∈ abc.cps.toList)) = false := by
            rw [List.all_eq_false]
            exact ⟨c, List.mem_of_getElem? hi, by simp [b]⟩
          rw [this] at k
          exact k
        · have b : c ∈ abc.cps.toList := of_decide_eq_true (by simpa using b)
          walk_at "go"
          exact ⟨_, rfl, rfl, by rw [all_take hi, ha, decide_eq_true b]; rfl⟩
      · rintro σ H' ⟨o, rfl, rfl, ha⟩
        walk_at "go"
        rw [List.take_length] at ha
        rw [ha] at k
        exact k
  · have b : ¬ (1 : Int) ≤ s.length := of_decide_eq_false b
    walk_at "go"
    have e : isWord s = false := by unfold isWord; rw [decide_eq_false (show ¬ 1 ≤ s.length by omega), Bool.false_and, Bool.false_and]
    rw [e] at k
    exact k
end My

namespace My
open PySem PySem.Spec PyProof.Rows L2
local macro_rules | `(tactic| walk_at "g1") => `(tactic| first
  | with_reducible refine My.g_seq ?_
  | with_reducible refine My.g_asg ?_
  | with_reducible refine My.g_name ?_
  | ((with_reducible refine' My.g_var ?ga ?gb); (case ga => rfl))
  | with_reducible refine My.g_c ?_
  | with_reducible refine My.g_op ?_
  | with_reducible refine My.g_cb ?_
  | with_reducible refine My.g_cons ?_
  | with_reducible refine My.g_nil ?_
  | with_reducible refine My.g_ifS ?_
  | with_reducible refine My.g_ret ?_
  | with_reducible refine My.g_drop ?_
  | with_reducible refine My.g_test ?_
  | with_reducible refine My.g_B ?_
  | with_reducible refine My.g_bl ?_
  | with_reducible refine My.g_int1 ?_
  | with_reducible refine My.g_rI0 ?_
  | ((with_reducible refine My.g_rI ?ga ?gb); (case ga => first | decide | (unfold CMul; omega) | (unfold CDiv; omega) | (unfold CPow; decide) | (unfold CPow; omega) | omega))
  | with_reducible refine My.g_eqI ?_
  | with_reducible refine My.g_neI ?_
  | with_reducible refine My.g_eqS ?_
  | with_reducible refine My.g_neS ?_
  | with_reducible refine My.g_neB ?_
  | with_reducible refine My.g_tr ?_
  | with_reducible refine My.g_fa ?_
  | with_reducible refine My.g_ntr ?_
  | with_reducible refine My.g_nfa ?_
  | with_reducible refine My.g_next ?_
  | with_reducible refine My.g_bm ?_
  | with_reducible refine My.g_bm0 ?_
  | ((with_reducible refine' My.g_tyL ?ga ?gb); (case ga => assumption))
  | with_reducible refine My.g_not ?_
  | with_reducible refine My.g_and ?_
  | with_reducible refine My.g_or ?_
  | with_reducible refine My.g_andV ?_
  | with_reducible refine My.g_orV ?_
  | with_reducible refine My.g_notV ?_
  | with_reducible refine My.g_ifE ?_
  | with_reducible refine My.g_chain ?_
  | with_reducible refine My.g_un ?_
  | with_reducible refine My.g_rU ?_
  | with_reducible refine My.g_sl ?_
  | with_reducible refine My.g_part ?_
  | with_reducible refine My.g_nopart ?_
  | with_reducible refine My.g_exI ?_
  | with_reducible refine My.g_abs ?_
  | with_reducible refine My.g_int1b ?_
  | with_reducible refine My.g_tupT ?_
  | with_reducible refine My.g_lstT ?_
  | with_reducible refine My.g_yes ?_
  | with_reducible refine My.g_joined ?_
  | with_reducible refine My.g_jc ?_
  | with_reducible refine My.g_jn ?_
  | with_reducible refine My.g_fmt ?_
  | with_reducible refine My.g_m1 ?_
  | with_reducible refine My.g_m1s ?_
  | with_reducible refine My.g_for ?_
  | with_reducible refine My.g_lc ?_
  | with_reducible refine My.g_iL ?_
  | with_reducible refine My.g_iT ?_
  | with_reducible refine My.g_iR ?_
  | with_reducible refine My.g_iR2 ?_
  | with_reducible refine My.g_call ?_
  | with_reducible refine My.g_isN ?_
  | with_reducible refine My.g_notN ?_
  | with_reducible refine My.g_retN ?_
  | with_reducible refine My.g_iS ?_
  | with_reducible refine My.g_gcons ?_
  | with_reducible refine My.g_gnil ?_
  | with_reducible refine My.g_ipI ?_
  | with_reducible refine My.g_tru ?_
  | ((with_reducible refine' My.g_augV ?ga ?gb); (case ga => rfl))
  | with_reducible refine My.g_dget ?_
  | with_reducible refine My.g_dget2 ?_
  | with_reducible refine My.g_din ?_
  | with_reducible refine My.g_dnin ?_
  | with_reducible refine My.g_dput ?_
  | with_reducible refine My.g_star ?_
  | with_reducible refine My.g_rev2 ?_
  | ((with_reducible refine' My.g_lenL ?ga ?gb); (case ga => assumption))
  | ((with_reducible refine' My.g_lenT ?ga ?gb); (case ga => assumption)))
local macro_rules | `(tactic| walk_at "go") => `(tactic| repeat walk_at "g1")

/-! ### texts -/
abbrev tl (s : Str) : List Nat := s.cps.toList
theorem tl_len (s : Str) : s.length = (tl s).length := by simp [tl, Str.length]
theorem tl_ext {x y : Str} (h : tl x = tl y) : x = y := Str.ext' (Array.toList_inj.mp h)
theorem tl_app (x y : Str) : tl (x ++ y) = tl x ++ tl y := TL.tl_append x y
theorem tl_cut (z : Str) (lo hi : Option Int) : tl (cutS z lo hi) = ((tl z).drop (HT.sIx z.length 0 lo)).take (HT.sIx z.length z.length hi - HT.sIx z.length 0 lo) := rfl
theorem tl_one (c : Nat) : tl ⟨#[c]⟩ = [c] := rfl
def Low (s : Str) : Prop := ∀ c ∈ tl s, 97 ≤ c ∧ c ≤ 122
/-- a name: 1 to 8 letters -/
structure Good (s : Str) : Prop where
  pos : 1 ≤ s.length
  most : s.length ≤ 8
  low : Low s
theorem letters_tl : tl ("abcdefghijklmnopqrstuvwxyz" : Str) = (List.range 26).map (97 + ·) := by decide +kernel
theorem letters_len : ("abcdefghijklmnopqrstuvwxyz" : Str).length = 26 := by decide +kernel
theorem letter_at {k : Nat} (h : k < 26) : atI ("abcdefghijklmnopqrstuvwxyz" : Str).cps.toList (k : Int) = some (97 + k) := by
  refine atI_nat ?_
  have := letters_tl
  unfold tl at this
  rw [this]
  simp [h]
theorem Low.app {x y : Str} (h : Low x) (k : Low y) : Low (x ++ y) := fun c hc => by
  rw [tl_app] at hc
  exact (List.mem_append.mp hc).elim (h c) (k c)
theorem Low.cut {z : Str} {lo hi : Option Int} (h : Low z) : Low (cutS z lo hi) := fun c hc => by
  rw [tl_cut] at hc
  exact h c (List.drop_subset _ _ (List.take_subset _ _ hc))
theorem letters_low : Low ("abcdefghijklmnopqrstuvwxyz" : Str) := fun c hc => by
  rw [letters_tl] at hc
  simp at hc
  omega
theorem app_len (x y : Str) : (x ++ y).length = x.length + y.length := by rw [tl_len, tl_app, List.length_append, ← tl_len, ← tl_len]
theorem one_len (c : Nat) : (⟨#[c]⟩ : Str).length = 1 := rfl
/-- the mark of a name: its first sign, or its last one -/
def Mk (front : Int) (s : Str) (c : Nat) : Prop := (front = 0 → (tl s).head? = some c) ∧ (front ≠ 0 → (tl s).getLast? = some c)
theorem Mk.inj {front : Int} {s : Str} {c d : Nat} (h : Mk front s c) (k : Mk front s d) : c = d := by
  by_cases e : front = 0
  · have := (h.1 e).symm.trans (k.1 e); exact Option.some.inj this
  · have := (h.2 e).symm.trans (k.2 e); exact Option.some.inj this
def more1 (k : Nat) : Str := ⟨#[97 + k % 26, 97 + (k * 7 + k / 26 + 3) % 26]⟩
theorem more_inj : ∀ i < 52, ∀ j < 52, more1 i = more1 j → i = j := by decide +kernel
theorem more_good : ∀ i < 52, Good (more1 i) := fun i _ => ⟨by show 1 ≤ 2; decide, by show 2 ≤ 8; decide, fun c hc => by
  have : c = 97 + i % 26 ∨ c = 97 + (i * 7 + i / 26 + 3) % 26 := by
    have h : c ∈ [97 + i % 26, 97 + (i * 7 + i / 26 + 3) % 26] := hc
    simpa using h
  omega⟩
/-- the names at l: all good, no two alike, at least 26 -/
structure NmOk (nms : List Str) : Prop where
  good : ∀ s ∈ nms, Good s
  nd : nms.Nodup
  least : 26 ≤ nms.length
  most : nms.length ≤ 78
def strides : List Int := [1, 3, 5, 7, 9, 11, 15, 17, 19, 21, 23, 25]
theorem strides_inj {st sh : Int} (hs : st ∈ strides) {i j : Nat} (hi : i < 26) (hj : j < 26) (e : ((i : Int) * st + sh) % 26 = ((j : Int) * st + sh) % 26) : i = j := by
  simp only [strides, List.mem_cons, List.not_mem_nil, or_false] at hs
  rcases hs with rfl | rfl | rfl | rfl | rfl | rfl | rfl | rfl | rfl | rfl | rfl | rfl <;> omega
theorem strides_bd {st : Int} (hs : st ∈ strides) : 1 ≤ st ∧ st ≤ 25 := by
  simp only [strides, List.mem_cons, List.not_mem_nil, or_false] at hs
  rcases hs with rfl | rfl | rfl | rfl | rfl | rfl | rfl | rfl | rfl | rfl | rfl | rfl <;> omega
theorem stride_at {r : Int} (h0 : 0 ≤ r) (h1 : r < 12) : ∃ st, st ∈ strides ∧ atI ([.int 1, .int 3, .int 5, .int 7, .int 9, .int 11, .int 15, .int 17, .int 19, .int 21, .int 23, .int 25] : List V) r = some (.int st) := by
  obtain ⟨k, rfl⟩ : ∃ k : Nat, r = (k : Int) := ⟨r.toNat, by omega⟩
  have hk : k < 12 := by omega
  have e : ([.int 1, .int 3, .int 5, .int 7, .int 9, .int 11, .int 15, .int 17, .int 19, .int 21, .int 23, .int 25] : List V) = strides.map V.int := rfl
  have hl : k < strides.length := hk
  refine ⟨strides[k], List.getElem_mem hl, ?_⟩
  rw [e]
  exact atI_nat (by rw [List.getElem?_map, List.getElem?_eq_getElem hl]; rfl)
theorem inV_str {s : Str} : ∀ {l : List Str}, inV (.str s) (l.map V.str) = decide (s ∈ l)
  | [] => by simp [inV]
  | a :: l => by
    have ih := inV_str (s := s) (l := l)
    unfold inV at ih ⊢
    rw [List.map_cons, List.any_cons, ih]
    show ((a == s) || decide (s ∈ l)) = decide (s ∈ a :: l)
    by_cases e : a = s
    · subst e; simp
    · have e2 : (a == s) = false := beq_eq_false_iff_ne.mpr e
      rw [e2]
      simp [show ¬ s = a from fun z => e z.symm]
theorem flat_strs : ∀ {l : List Str}, (l.map V.str).all flatV = true
  | [] => rfl
  | a :: l => by rw [List.map_cons, List.all_cons, flat_strs]; rfl
theorem nodup_of {α : Type} {l : List α} (h : ∀ (i j : Nat) (s : α), i < j → l[i]? = some s → l[j]? = some s → False) : l.Nodup := by
  refine List.pairwise_iff_getElem.mpr fun i j hi hj hij e => ?_
  exact h i j l[i] hij (List.getElem?_eq_getElem hi) (by rw [List.getElem?_eq_getElem hj, e])
/-- the loop's names so far -/
structure NmSo (front st sh : Int) (k : Nat) (nms : List Str) : Prop where
  len : nms.length = k
  at_ : ∀ i < k, ∃ s, nms[i]? = some s ∧ Good s ∧ ∃ c : Nat, (c : Int) = 97 + ((i : Int) * st + sh) % 26 ∧ Mk front s c
theorem NmSo.snoc {front st sh : Int} {k : Nat} {nms : List Str} (h : NmSo front st sh k nms) {s : Str} (g : Good s) {c : Nat} (hc : (c : Int) = 97 + ((k : Int) * st + sh) % 26) (m : Mk front s c) : NmSo front st sh (k + 1) (nms ++ [s]) := by
  refine ⟨by simp [h.len], fun i hi => ?_⟩
  by_cases e : i < k
  · obtain ⟨s', h1, h2⟩ := h.at_ i e
    exact ⟨s', by rw [List.getElem?_append_left (by rw [h.len]; exact e)]; exact h1, h2⟩
  · have e : i = k := by omega
    subst e
    exact ⟨s, by rw [← h.len]; simp, g, c, hc, m⟩
theorem NmSo.nd {front st sh : Int} {nms : List Str} (h : NmSo front st sh 26 nms) (hs : st ∈ strides) : nms.Nodup := by
  refine nodup_of fun i j s hij h1s h2s => ?_
  have hj : j < 26 := by rw [← h.len]; exact (List.getElem?_eq_some_iff.mp h2s).1
  have e := h1s.trans h2s.symm
  obtain ⟨s, h1, _, c, hc, m⟩ := h.at_ i (by omega)
  obtain ⟨s', h1', _, c', hc', m'⟩ := h.at_ j hj
  rw [h1, h1'] at e
  cases e
  have := m.inj m'
  have := strides_inj (sh := sh) hs (i := i) (j := j) (by omega) hj (by omega)
  omega
theorem NmSo.good {front st sh : Int} {k : Nat} {nms : List Str} (h : NmSo front st sh k nms) : ∀ s ∈ nms, Good s := fun s hs => by
  obtain ⟨i, hi, e⟩ := List.mem_iff_getElem.mp hs
  obtain ⟨s', h1, g, _⟩ := h.at_ i (by rw [← h.len]; exact hi)
  rw [List.getElem?_eq_getElem hi, e] at h1
  cases h1
  exact g
theorem names_end {front st sh : Int} {nms : List Str} (h : NmSo front st sh 26 nms) (hs : st ∈ strides) : NmOk (nms ++ ((List.range 52).map more1).filter fun s => !decide (s ∈ nms)) := by
  refine ⟨fun s hs => ?_, ?_, ?_, ?_⟩
  · rcases List.mem_append.mp hs with q | q
    · exact h.good s q
    · have q := (List.mem_filter.mp q).1
      obtain ⟨i, hi, rfl⟩ := List.mem_map.mp q
      exact more_good i (List.mem_range.mp hi)
  · rw [List.nodup_append]
    refine ⟨h.nd hs, ?_, ?_⟩
    · refine List.Pairwise.filter _ ?_
      refine nodup_of fun i j s hij h1s h2s => ?_
      have hj := (List.getElem?_eq_some_iff.mp h2s).1
      simp at hj
      have e := h1s.trans h2s.symm
      rw [List.getElem?_map, List.getElem?_map, List.getElem?_range (by omega), List.getElem?_range hj] at e
      have := more_inj i (by omega) j hj (by simpa using e)
      omega
    · intro a ha b hb e
      subst e
      have := (List.mem_filter.mp hb).2
      simp [ha] at this
  · rw [List.length_append, h.len]; omega
  · have : (((List.range 52).map more1).filter fun s => !decide (s ∈ nms)).length ≤ 52 := Nat.le_trans (List.length_filter_le _ _) (by simp)
    rw [List.length_append, h.len]; omega
theorem name_ok {front st sh rest : Int} {k : Nat} (hc0 : 0 ≤ ((k : Int) * st + sh) % 26) (hc1 : ((k : Int) * st + sh) % 26 < 26) {a m : Int} (ha0 : 0 ≤ a) (ha1 : a < 26) (hm0 : 0 ≤ m) (hm1 : m < 8) (tail : Str)
    (ht : tail = cutS (cutS (("abcdefghijklmnopqrstuvwxyz" : Str) ++ ("abcdefghijklmnopqrstuvwxyz" : Str)) (some a) none) none (some m)) (mark : Str) (c : Nat) (hc : (c : Int) = 97 + ((k : Int) * st + sh) % 26) (hmk : mark = ⟨#[c]⟩) :
    Good (mark ++ tail) ∧ Good (tail ++ mark) ∧ (tl (mark ++ tail)).head? = some c ∧ (tl (tail ++ mark)).getLast? = some c := by
  have hl : tail.length ≤ 7 := by
    rw [ht, tl_len, tl_cut, List.length_take]
    have : HT.sIx (cutS (("abcdefghijklmnopqrstuvwxyz" : Str) ++ ("abcdefghijklmnopqrstuvwxyz" : Str)) (some a) none).length (cutS (("abcdefghijklmnopqrstuvwxyz" : Str) ++ ("abcdefghijklmnopqrstuvwxyz" : Str)) (some a) none).length (some m) ≤ m.toNat := by
      show (if m < 0 then _ else _) ≤ _
      rw [if_neg (by omega)]
      exact Nat.min_le_left _ _
    omega
  have hlow : Low tail := by
    rw [ht]
    exact Low.cut (Low.cut (Low.app letters_low letters_low))
  have mlow : Low mark := by
    rw [hmk]
    intro d hd
    have : d = c := by simpa [tl] using hd
    omega
  have ml : mark.length = 1 := by rw [hmk]; rfl
  refine ⟨⟨by rw [app_len]; omega, by rw [app_len]; omega, mlow.app hlow⟩, ⟨by rw [app_len]; omega, by rw [app_len]; omega, hlow.app mlow⟩, ?_, ?_⟩
  · rw [tl_app, hmk]; rfl
  · rw [tl_app, hmk, tl_one]; simp
def t_names (K : PySem.W.Frag) : TS := (tSeq (tAsg (tC (.str "abcdefghijklmnopqrstuvwxyz")) (gName 1))
  (tSeq (tAsg (tCB rAbs (tCons (tCB (rSum K) (tCons (tLc (iList K (tVar 0)) (gName 12) tYes (tCB rInt1 (tCons (tVar 12) tNil)) [12]) tNil)) tNil)) (gName 2))
  (tCut (tIfS (tAnd (tTest (tOp rLtI (tC (.int 0)) (tVar 2))) (tTest (tOp rLtI (tVar 2) (tOp rPowI (tC (.int 10)) (tC (.int 18)))))) (tAsg (tOp rPowI (tOp rAddI (tVar 2) (tC (.int 12345677))) (tC (.int 9))) (gName 2))
  tNext)
  (tSeq (tAsg (tOp (rIxL K) (tLst (tCons (tC (.int 1)) (tCons (tC (.int 3)) (tCons (tC (.int 5)) (tCons (tC (.int 7)) (tCons (tC (.int 9)) (tCons (tC (.int 11)) (tCons (tC (.int 15)) (tCons (tC (.int 17)) (tCons (tC (.int 19)) (tCons (tC (.int 21)) (tCons (tC (.int 23)) (tCons (tC (.int 25)) tNil))))))))))))) (tOp rModI (tCB rInt1 (tCons (tVar 2) tNil)) (tC (.int 12)))) (gName 3))
  (tSeq (tAsg (tOp rModI (tCB rInt1 (tCons (tOp rDivI (tVar 2) (tC (.int 12))) tNil)) (tC (.int 26))) (gName 4))
  (tSeq (tAsg (tOp rModI (tCB rInt1 (tCons (tOp rDivI (tVar 2) (tC (.int 312))) tNil)) (tC (.int 2))) (gName 5))
  (tSeq (tAsg (tOp rDivI (tVar 2) (tC (.int 624))) (gName 2))
  (tSeq (tAsg (tLst tNil) (gName 6))
  (tSeq (tFor (iRng1 (tCons (tC (.int 26)) tNil)) (gName 7)
  (tSeq (tAsg (tOp rIxS (tVar 1) (tOp rModI (tCB rInt1 (tCons (tOp rAddI (tOp rMulI (tVar 7) (tVar 3)) (tVar 4)) tNil)) (tC (.int 26)))) (gName 8))
  (tSeq (tAsg (tSl rSlS (tSl rSlS (tOp rAddS_ (tVar 1) (tVar 1)) (tPart (tOp rModI (tCB rInt1 (tCons (tVar 2) tNil)) (tC (.int 26)))) tNoPart) tNoPart (tPart (tOp rModI (tCB rInt1 (tCons (tOp rDivI (tVar 2) (tC (.int 26))) tNil)) (tC (.int 8))))) (gName 9))
  (tSeq (tDrop (tBM K "list" rAppend (tVar 6) (tCons (tOp (rIxL K) (tLst (tCons (tOp rAddS_ (tVar 8) (tVar 9)) (tCons (tOp rAddS_ (tVar 9) (tVar 8)) tNil))) (tVar 5)) tNil)))
  (tAsg (tOp rDivI (tVar 2) (tC (.int 208))) (gName 2))))))
  (tSeq (tAsg (tLc (iRng1 (tCons (tC (.int 52)) tNil)) (gName 7) tYes (tOp rAddS_ (tOp rIxS (tVar 1) (tOp rModI (tCB rInt1 (tCons (tVar 7) tNil)) (tC (.int 26)))) (tOp rIxS (tVar 1) (tOp rModI (tCB rInt1 (tCons (tOp rAddI (tOp rAddI (tOp rMulI (tVar 7) (tC (.int 7))) (tOp rDivI (tVar 7) (tC (.int 26)))) (tC (.int 3))) tNil)) (tC (.int 26))))) [7]) (gName 10))
  (tRet (tOp rCat (tVar 6) (tLc (iList K (tVar 10)) (gName 11) (tTest (tOp (rIn K true) (tVar 11) (tVar 6))) (tVar 11) [11])))))))))))))
abbrev N_names : List Str := ["_law_cells", "_law_letters", "_law_rest", "_law_stride", "_law_shift", "_law_front", "_law_names_here", "_law_k", "_law_mark", "_law_tail", "_law_more", "_law_name", "_law_cell"]
def sp_names (K : PySem.W.Frag) : Sp := fun vs H Q _ => ∃ (a : Addr) (ns : List Int), vs = [.ref a] ∧ SqL K H a (ns.map V.int) ∧ ns.length ≤ 63 ∧ ∀ (r : Addr) (H' : Hp) (nms : List Str), H r = none → Ext H H' → H' r = some (.lst (nms.map V.str)) → NmOk nms → Q (.ref r) H'
theorem len_names {K : PySem.W.Frag} {vs : List V} {H : Hp} {Q : VK} {E : XK} (h : sp_names K vs H Q E) : vs.length = 1 := by obtain ⟨_, _, rfl, _⟩ := h; rfl
theorem rd_names {K : PySem.W.Frag} {vs : List V} {H : Hp} {Q : VK} {E : XK} (h : sp_names K vs H Q E) : t_names K { nx := fun _ H' => Q .non H', rt := Q } (start N_names vs) H := by
  obtain ⟨a, ns, rfl, hS, h63, k⟩ := h
  unfold t_names
  walk_at "go"
  refine g_lcL (S := []) hS (fun _ z => nomatch z) (fun i acc _ => acc = (ns.take i).map V.int) (fun _ _ _ _ _ _ _ q => q) (fun _ _ => rfl) (fun _ _ _ c _ => c.same.seq hS) (fun i acc _ e => bigl (by rw [e]; simp; omega)) (fun i x hi acc H' Yes No c e yes no => ?_) (fun q acc H1 hq c1 h1 e => ?_)
  · obtain ⟨n, hn, rfl⟩ : ∃ n, ns[i]? = some n ∧ V.int n = x := by
      rw [List.getElem?_map] at hi
      cases e : ns[i]? with
      | none => rw [e] at hi; cases hi
      | some n => rw [e] at hi; exact ⟨n, rfl, Option.some.inj hi⟩
    walk_at "go"
    refine yes _ _ (Chg.refl _) ?_
    show acc ++ [V.int n] = (ns.take (i + 1)).map V.int
    have e : acc = (ns.take i).map V.int := e
    rw [e, List.take_add_one, hn]
    simp
  have e : acc = (ns.take (ns.map V.int).length).map V.int := e
  rw [List.length_map, List.take_length] at e
  walk_at "go"
  refine ⟨q, ns, rfl, .inl (.inl (by rw [h1, e])), ?_⟩
  walk_at "go"
  generalize (if ns.sum < 0 then -ns.sum else ns.sum) = rest0
  refine g_cut (M := fun σ H' => ∃ rest, σ = [some (.ref a), some (.str "abcdefghijklmnopqrstuvwxyz"), some (.int rest), none, none, none, none, none, none, none, none, none, none] ∧ Ext H H') ?_ ?_
  · walk_at "go"
    refine g_2 (fun b1 => ?_) (fun _ => ?_)
    · walk_at "go"
      refine g_2 (fun b2 => ?_) (fun _ => ?_)
      · have b1 := of_decide_eq_true b1
        have b2 : rest0 < 10 ^ 18 := of_decide_eq_true b2
        walk_at "go"
        exact ⟨_, rfl, c1⟩
      · walk_at "go"
        exact ⟨_, rfl, c1⟩
    · walk_at "go"
      exact ⟨_, rfl, c1⟩
  rintro σ H2 ⟨rest, rfl, c2⟩
  walk_at "go"
  refine g_newL (by decide) fun p H3 hp c3 h3 => ?_
  walk_at "go"
  obtain ⟨st, hst, hat⟩ := stride_at (Int.emod_nonneg rest (b := 12) (by decide)) (Int.emod_lt_of_pos rest (b := 12) (by decide))
  refine g_ixL h3 hat ?_
  walk_at "go"
  have hsh0 := Int.emod_nonneg (rest / 12) (b := 26) (by decide)
  have hsh1 := Int.emod_lt_of_pos (rest / 12) (b := 26) (by decide)
  have hfr0 := Int.emod_nonneg (rest / 312) (b := 2) (by decide)
  have hfr1 := Int.emod_lt_of_pos (rest / 312) (b := 2) (by decide)
  generalize rest / 12 % 26 = sh at *
  generalize rest / 312 % 2 = front at *
  generalize rest / 624 = rest1
  refine g_newL (by decide) fun r H4 hr4 c4 h4 => ?_
  have hr : H r = none := (c2.trans c3).free hr4
  have hsb := strides_bd hst
  walk_at "go"
  refine g_forR (by decide) (fun i σ H' => ∃ (nms : List Str) (rest : Int) (o7 o8 o9 : Option V), σ = [some (.ref a), some (.str "abcdefghijklmnopqrstuvwxyz"), some (.int rest), some (.int st), some (.int sh), some (.int front), some (.ref r), o7, o8, o9, none, none, none] ∧ Ext H H' ∧ H' r = some (.lst (nms.map V.str)) ∧ NmSo front st sh i nms)
    ⟨[], rest1, none, none, none, rfl, c2.trans (c3.trans c4), h4, rfl, fun i hi => absurd hi (Nat.not_lt_zero i)⟩ ?_ ?_
  · rintro i σ H' hi ⟨nms, rest, o7, o8, o9, rfl, c, hd, so⟩
    walk_at "go"
    have hc0 := Int.emod_nonneg ((i : Int) * st + sh) (b := 26) (by decide)
    have hc1 := Int.emod_lt_of_pos ((i : Int) * st + sh) (b := 26) (by decide)
    have hat2 : atI ("abcdefghijklmnopqrstuvwxyz" : Str).cps.toList (((i : Int) * st + sh) % 26) = some (97 + (((i : Int) * st + sh) % 26).toNat) := by
      have := letter_at (k := (((i : Int) * st + sh) % 26).toNat) (by omega)
      rw [Int.toNat_of_nonneg hc0] at this
      exact this
    refine g_ixS (by decide +kernel) hat2 ?_
    walk_at "go"
    refine g_addS (by decide +kernel) ?_
    walk_at "go"
    refine ⟨_, rfl, by decide +kernel, ?_⟩
    walk_at "go"
    refine ⟨_, rfl, Nat.le_trans (cutS_length _ _ _) (by decide +kernel), ?_⟩
    walk_at "go"
    obtain ⟨g1, g2, m1, m2⟩ := name_ok (front := front) (rest := rest) (k := i) hc0 hc1 (Int.emod_nonneg rest (b := 26) (by decide)) (Int.emod_lt_of_pos rest (b := 26) (by decide)) (Int.emod_nonneg (rest / 26) (b := 8) (by decide)) (Int.emod_lt_of_pos (rest / 26) (b := 8) (by decide)) _ rfl _ (97 + (((i : Int) * st + sh) % 26).toNat) (by omega) rfl
    generalize hta : cutS (cutS (("abcdefghijklmnopqrstuvwxyz" : Str) ++ ("abcdefghijklmnopqrstuvwxyz" : Str)) (some (rest % 26)) none) none (some (rest / 26 % 8)) = tail at *
    generalize hma : (⟨#[97 + (((i : Int) * st + sh) % 26).toNat]⟩ : Str) = mark at *
    have l1 := g1.most
    have l2 := g2.most
    rw [app_len] at l1 l2
    refine g_addS (big (by omega)) ?_
    walk_at "go"
    refine g_addS (big (by omega)) ?_
    walk_at "go"
    refine g_newL (big (by simp)) fun p H5 hp5 c5 h5 => ?_
    walk_at "go"
    have hd5 := c5.at hd
    have nl := so.len
    by_cases ef : front = 0
    · subst ef
      refine g_ixL h5 (v := .str (mark ++ tail)) rfl ?_
      walk_at "go"
      refine g_append hd5 (bigl (by simp; omega)) ?_
      walk_at "go"
      exact ⟨nms ++ [mark ++ tail], _, _, _, _, rfl, (c.trans c5).own hr _, by rw [upd_same]; simp, so.snoc g1 (by omega) ⟨fun _ => m1, fun z => absurd rfl z⟩⟩
    · have ef1 : front = 1 := by omega
      subst ef1
      refine g_ixL h5 (v := .str (tail ++ mark)) rfl ?_
      walk_at "go"
      refine g_append hd5 (bigl (by simp; omega)) ?_
      walk_at "go"
      exact ⟨nms ++ [tail ++ mark], _, _, _, _, rfl, (c.trans c5).own hr _, by rw [upd_same]; simp, so.snoc g2 (by omega) ⟨fun z => absurd z ef, fun _ => m2⟩⟩
  rintro σ H5 ⟨nms, rest, o7, o8, o9, rfl, c, hd, so⟩
  have so : NmSo front st sh 26 nms := so
  have nl := so.len
  walk_at "go"
  refine g_lcR (S := []) (by decide) (fun _ z => nomatch z) (fun i acc _ => acc = ((List.range i).map more1).map V.str ∧ i ≤ 52) (fun _ _ _ _ _ _ _ q => q) (fun _ _ => ⟨rfl, by decide⟩) (fun i acc _ e => bigl (by rw [e.1]; simp; omega)) (fun i hi acc H' Yes No c e yes no => ?_) (fun q6 acc H6 hq6 c6 h6 e => ?_)
  · walk_at "go"
    have e1 : (i : Int) % 26 = ((i % 26 : Nat) : Int) := by omega
    have e2 : ((i : Int) * 7 + (i : Int) / 26 + 3) % 26 = (((i * 7 + i / 26 + 3) % 26 : Nat) : Int) := by omega
    refine g_ixS (by decide +kernel) (c := 97 + i % 26) (by rw [e1]; exact letter_at (by omega)) ?_
    walk_at "go"
    refine g_ixS (by decide +kernel) (c := 97 + (i * 7 + i / 26 + 3) % 26) (by rw [e2]; exact letter_at (by omega)) ?_
    refine g_addS (by rw [one_len, one_len]; decide) ?_
    refine yes _ _ (Chg.refl _) ⟨?_, by omega⟩
    show acc ++ [_] = ((List.range (i + 1)).map more1).map V.str
    have e := e.1
    rw [e, List.range_succ, List.map_append, List.map_append]
    congr 1
  have e : acc = ((List.range 52).map more1).map V.str := e.1
  walk_at "go"
  have hd6 := c6.at hd
  refine g_lcL (S := []) (xs := ((List.range 52).map more1).map V.str) (.inl (.inl (by rw [h6, e]))) (fun _ z => nomatch z) (fun i acc _ => acc = ((((List.range 52).map more1).take i).filter fun s => !decide (s ∈ nms)).map V.str) (fun _ _ _ _ _ _ _ q => q) (fun _ _ => rfl) (fun _ _ H' c _ => .inl (.inl (by rw [c.at h6, e]))) (fun i acc _ e => bigl (by
      rw [e, List.length_map]
      have := List.length_filter_le (fun s => !decide (s ∈ nms)) (((List.range 52).map more1).take i)
      simp only [List.length_take, List.length_map, List.length_range] at this
      omega)) (fun i x hi acc H' Yes No c e yes no => ?_) (fun q7 acc H7 hq7 c7 h7 e => ?_)
  · obtain ⟨s, hs, rfl⟩ : ∃ s, ((List.range 52).map more1)[i]? = some s ∧ V.str s = x := by
      rw [List.getElem?_map] at hi
      cases e : ((List.range 52).map more1)[i]? with
      | none => rw [e] at hi; cases hi
      | some n => rw [e] at hi; exact ⟨n, rfl, Option.some.inj hi⟩
    walk_at "go"
    refine ⟨r, nms.map V.str, rfl, .inl (.inl (.inl (c.at hd6))), rfl, flat_strs, ?_⟩
    walk_at "go"
    rw [if_pos rfl, inV_str]
    have e : acc = ((((List.range 52).map more1).take i).filter fun s => !decide (s ∈ nms)).map V.str := e
    have et : ((List.range 52).map more1).take (i + 1) = ((List.range 52).map more1).take i ++ [s] := by rw [List.take_add_one, hs]; rfl
    by_cases hm : s ∈ nms
    · rw [decide_eq_true hm]
      refine g_fa (no _ (Chg.refl _) ?_)
      show acc = ((((List.range 52).map more1).take (i + 1)).filter fun s => !decide (s ∈ nms)).map V.str
      rw [e, et, List.filter_append]
      simp [hm]
    · rw [decide_eq_false hm]
      refine g_tr ?_
      walk_at "go"
      refine yes _ _ (Chg.refl _) ?_
      show acc ++ [_] = ((((List.range 52).map more1).take (i + 1)).filter fun s => !decide (s ∈ nms)).map V.str
      rw [e, et, List.filter_append]
      simp [hm]
  have hd7 := c7.at hd6
  have el : (((List.range 52).map more1).map V.str).length = 52 := by simp
  have e : acc = ((((List.range 52).map more1).take (((List.range 52).map more1).map V.str).length).filter fun s => !decide (s ∈ nms)).map V.str := e
  rw [el, List.take_of_length_le (by simp)] at e
  have hk := names_end so hst
  refine g_cat hd7 h7 (big (by
    have := hk.most
    rw [List.length_append] at this
    rw [e, List.length_map, List.length_map]
    omega)) fun q8 H8 hq8 c8 h8 => ?_
  refine k q8 H8 _ ((c.trans (c6.trans c7)).free hq8) (c.trans (c6.trans (c7.trans c8))) ?_ hk
  rw [h8, e, List.map_append]
end My

namespace My
open PySem PySem.Spec PyProof.Rows L2
local macro_rules | `(tactic| walk_at "g1") => `(tactic| first
  | with_reducible refine My.g_seq ?_
  | with_reducible refine My.g_asg ?_
  | with_reducible refine My.g_name ?_
  | ((with_reducible refine' My.g_var ?ga ?gb); (case ga => rfl))
  | with_reducible refine My.g_c ?_
  | with_reducible refine My.g_op ?_
  | with_reducible refine My.g_cb ?_
  | with_reducible refine My.g_cons ?_
  | with_reducible refine My.g_nil ?_
  | with_reducible refine My.g_ifS ?_
  | with_reducible refine My.g_ret ?_
  | with_reducible refine My.g_drop ?_
  | with_reducible refine My.g_test ?_
  | with_reducible refine My.g_B ?_
  | with_reducible refine My.g_bl ?_
  | with_reducible refine My.g_int1 ?_
  | with_reducible refine My.g_rI0 ?_
  | ((with_reducible refine My.g_rI ?ga ?gb); (case ga => first | decide | (unfold CMul; omega) | (unfold CDiv; omega) | (unfold CPow; decide) | (unfold CPow; omega) | omega))
  | with_reducible refine My.g_eqI ?_
  | with_reducible refine My.g_neI ?_
  | with_reducible refine My.g_eqS ?_
  | with_reducible refine My.g_neS ?_
  | with_reducible refine My.g_neB ?_
  | with_reducible refine My.g_tr ?_
  | with_reducible refine My.g_fa ?_
  | with_reducible refine My.g_ntr ?_
  | with_reducible refine My.g_nfa ?_
  | with_reducible refine My.g_next ?_
  | with_reducible refine My.g_bm ?_
  | with_reducible refine My.g_bm0 ?_
  | ((with_reducible refine' My.g_tyL ?ga ?gb); (case ga => assumption))
  | with_reducible refine My.g_not ?_
  | with_reducible refine My.g_and ?_
  | with_reducible refine My.g_or ?_
  | with_reducible refine My.g_andV ?_
  | with_reducible refine My.g_orV ?_
  | with_reducible refine My.g_notV ?_
  | with_reducible refine My.g_ifE ?_
  | with_reducible refine My.g_chain ?_
  | with_reducible refine My.g_un ?_
  | with_reducible refine My.g_rU ?_
  | with_reducible refine My.g_sl ?_
  | with_reducible refine My.g_part ?_
  | with_reducible refine My.g_nopart ?_
  | with_reducible refine My.g_exI ?_
  | with_reducible refine My.g_abs ?_
  | with_reducible refine My.g_int1b ?_
  | with_reducible refine My.g_tupT ?_
  | with_reducible refine My.g_lstT ?_
  | with_reducible refine My.g_yes ?_
  | with_reducible refine My.g_joined ?_
  | with_reducible refine My.g_jc ?_
  | with_reducible refine My.g_jn ?_
  | with_reducible refine My.g_fmt ?_
  | with_reducible refine My.g_m1 ?_
  | with_reducible refine My.g_m1s ?_
  | with_reducible refine My.g_for ?_
  | with_reducible refine My.g_lc ?_
  | with_reducible refine My.g_iL ?_
  | with_reducible refine My.g_iT ?_
  | with_reducible refine My.g_iR ?_
  | with_reducible refine My.g_iR2 ?_
  | with_reducible refine My.g_call ?_
  | with_reducible refine My.g_isN ?_
  | with_reducible refine My.g_notN ?_
  | with_reducible refine My.g_retN ?_
  | with_reducible refine My.g_iS ?_
  | with_reducible refine My.g_gcons ?_
  | with_reducible refine My.g_gnil ?_
  | with_reducible refine My.g_ipI ?_
  | with_reducible refine My.g_tru ?_
  | ((with_reducible refine' My.g_augV ?ga ?gb); (case ga => rfl))
  | with_reducible refine My.g_dget ?_
  | with_reducible refine My.g_dget2 ?_
  | with_reducible refine My.g_din ?_
  | with_reducible refine My.g_dnin ?_
  | with_reducible refine My.g_dput ?_
  | with_reducible refine My.g_star ?_
  | with_reducible refine My.g_rev2 ?_
  | ((with_reducible refine' My.g_lenL ?ga ?gb); (case ga => assumption))
  | ((with_reducible refine' My.g_lenT ?ga ?gb); (case ga => assumption)))
local macro_rules | `(tactic| walk_at "go") => `(tactic| repeat walk_at "g1")

/-! ### forms -/
inductive Fm where
  | hole (n : Int) | node (s : Str) (ps : List Fm)
mutual
def Fm.d : Fm → D
  | .hole n => .int n
  | .node s ps => .tup (.str s :: Fm.ds ps)
def Fm.ds : List Fm → List D
  | [] => []
  | p :: ps => p.d :: Fm.ds ps
end
mutual
def Fm.size : Fm → Nat
  | .hole _ => 1
  | .node _ ps => 1 + Fm.sizes ps
def Fm.sizes : List Fm → Nat
  | [] => 0
  | p :: ps => p.size + Fm.sizes ps
end
mutual
def Fm.depth : Fm → Nat
  | .hole _ => 1
  | .node _ ps => 1 + Fm.depths ps
def Fm.depths : List Fm → Nat
  | [] => 0
  | p :: ps => max p.depth (Fm.depths ps)
end
mutual
def Fm.ok : Fm → Prop
  | .hole n => 0 ≤ n ∧ n ≤ 99
  | .node s ps => Good s ∧ Fm.oks ps
def Fm.oks : List Fm → Prop
  | [] => True
  | p :: ps => p.ok ∧ Fm.oks ps
end
def Fm.isHole : Fm → Bool
  | .hole _ => true
  | .node _ _ => false
theorem Fm.ds_append : ∀ (ps qs : List Fm), Fm.ds (ps ++ qs) = Fm.ds ps ++ Fm.ds qs
  | [], qs => rfl
  | p :: ps, qs => by simp only [List.cons_append, Fm.ds, Fm.ds_append ps qs]
theorem Fm.sizes_append : ∀ (ps qs : List Fm), Fm.sizes (ps ++ qs) = Fm.sizes ps + Fm.sizes qs
  | [], qs => by simp [Fm.sizes]
  | p :: ps, qs => by simp only [List.cons_append, Fm.sizes, Fm.sizes_append ps qs]; omega
theorem Fm.depths_append : ∀ (ps qs : List Fm), Fm.depths (ps ++ qs) = max (Fm.depths ps) (Fm.depths qs)
  | [], qs => by simp [Fm.depths]
  | p :: ps, qs => by simp only [List.cons_append, Fm.depths, Fm.depths_append ps qs]; omega
theorem Fm.oks_append : ∀ (ps qs : List Fm), Fm.oks (ps ++ qs) ↔ Fm.oks ps ∧ Fm.oks qs
  | [], qs => by simp [Fm.oks]
  | p :: ps, qs => by simp only [List.cons_append, Fm.oks, Fm.oks_append ps qs, and_assoc]
theorem Fm.ds_length : ∀ ps : List Fm, (Fm.ds ps).length = ps.length
  | [] => rfl
  | p :: ps => by simp only [Fm.ds, List.length_cons, Fm.ds_length ps]
theorem Fm.ds_get : ∀ (ps : List Fm) (i : Nat), (Fm.ds ps)[i]? = ps[i]?.map Fm.d
  | [], i => by simp [Fm.ds]
  | p :: ps, 0 => by simp [Fm.ds]
  | p :: ps, i + 1 => by simp only [Fm.ds, List.getElem?_cons_succ, Fm.ds_get ps i]
theorem Fm.depth_mem : ∀ {ps : List Fm} {p : Fm}, p ∈ ps → p.depth ≤ Fm.depths ps
  | q :: ps, p, h => by
    simp only [Fm.depths]
    rcases List.mem_cons.mp h with rfl | h
    · omega
    · have := Fm.depth_mem h; omega
theorem Fm.size_pos (f : Fm) : 1 ≤ f.size := by cases f <;> simp only [Fm.size] <;> omega
theorem Fm.depth_pos (f : Fm) : 1 ≤ f.depth := by cases f <;> simp only [Fm.depth] <;> omega
theorem Fm.ok_mem : ∀ {ps : List Fm} {p : Fm}, Fm.oks ps → p ∈ ps → p.ok
  | q :: ps, p, h, hm => by
    simp only [Fm.oks] at h
    rcases List.mem_cons.mp hm with rfl | hm
    · exact h.1
    · exact Fm.ok_mem h.2 hm
theorem Fm.len_sizes : ∀ ps : List Fm, ps.length ≤ Fm.sizes ps
  | [] => Nat.zero_le _
  | p :: ps => by
    have := p.size_pos
    have := Fm.len_sizes ps
    simp only [Fm.sizes, List.length_cons]
    omega
section
variable {K : PySem.W.Frag} {H H' : Hp} {Q : VK} {v : V} {S : List Addr}
abbrev IsF (H : Hp) (f : Fm) (v : V) : Prop := Is H f.d v
abbrev IsFs (H : Hp) (ps : List Fm) (vs : List V) : Prop := IsL H (Fm.ds ps) vs
theorem IsF.hole {n : Int} : IsF H (.hole n) v ↔ v = .int n := by unfold IsF; simp only [Fm.d]; exact Is.int_iff
theorem IsF.node {s : Str} {ps : List Fm} : IsF H (.node s ps) v ↔ ∃ a vs, v = .ref a ∧ H a = some (.tup (.str s :: vs)) ∧ IsFs H ps vs := by
  unfold IsF
  simp only [Fm.d]
  rw [Is.tup_iff]
  constructor
  · rintro ⟨a, vs, rfl, h1, h2⟩
    obtain ⟨x, xs, rfl, h3, h4⟩ := IsL.cons_iff.mp h2
    rw [Is.str_iff.mp h3] at h1
    exact ⟨a, xs, rfl, h1, h4⟩
  · rintro ⟨a, vs, rfl, h1, h2⟩
    exact ⟨a, _, rfl, h1, IsL.cons Is.str h2⟩
theorem IsFs.snoc {ps : List Fm} {vs : List V} {f : Fm} (h : IsFs H ps vs) (k : IsF H f v) : IsFs H (ps ++ [f]) (vs ++ [v]) := by
  unfold IsFs
  rw [Fm.ds_append]
  exact IsL.append h (by simp only [Fm.ds]; exact IsL.one k)
theorem IsFs.get {ps : List Fm} {vs : List V} {i : Nat} (h : IsFs H ps vs) (e : vs[i]? = some v) : ∃ f, ps[i]? = some f ∧ IsF H f v := by
  obtain ⟨d, h1, h2⟩ := IsL.get h e
  rw [Fm.ds_get] at h1
  cases q : ps[i]? with
  | none => rw [q] at h1; cases h1
  | some f =>
    rw [q] at h1
    have e : f.d = d := Option.some.inj h1
    subst e
    exact ⟨f, rfl, h2⟩
theorem IsFs.get' {ps : List Fm} {vs : List V} {i : Nat} {f : Fm} (h : IsFs H ps vs) (e : ps[i]? = some f) : ∃ v, vs[i]? = some v ∧ IsF H f v := by
  refine IsL.get' h ?_
  rw [Fm.ds_get, e]
  rfl
theorem IsFs.length {ps : List Fm} {vs : List V} (h : IsFs H ps vs) : vs.length = ps.length := by rw [IsL.length h, Fm.ds_length]
theorem kit_int_int : PySem.W.kitOne K (.type "int") (.type "int") = some true := kit_ty (by decide +kernel)
theorem kit_tup_int : PySem.W.kitOne K (.type "tuple") (.type "int") = some false := kit_ty (by decide +kernel)
theorem kit_int_bool : PySem.W.kitOne K (.type "int") (.type "bool") = some false := kit_ty (by decide +kernel)
/-- isinstance(form, int) -/
theorem g_isiF {f : Fm} (h : IsF H f v) (k : Q (.bl f.isHole) H) : rIsi K [v, .ty "int"] H Q := by
  cases f with
  | hole n =>
    obtain rfl := IsF.hole.mp h
    exact ⟨_, _, _, _, true, rfl, .ty "int", .base (.int n), kit_int_int, k⟩
  | node s ps =>
    obtain ⟨a, vs, rfl, h1, _⟩ := IsF.node.mp h
    exact ⟨_, _, _, _, false, rfl, .ty "int", .base (.tup h1), kit_tup_int, k⟩
theorem g_isiI {n : Int} (k : Q (.bl true) H) : rIsi K [.int n, .ty "int"] H Q := ⟨_, _, _, _, true, rfl, .ty "int", .base (.int n), kit_int_int, k⟩
theorem g_isiIb {n : Int} (k : Q (.bl false) H) : rIsi K [.int n, .ty "bool"] H Q := ⟨_, _, _, _, false, rfl, .ty "bool", .base (.int n), kit_int_bool, k⟩
/-- form[1:] -/
theorem g_parts {s : Str} {ps : List Fm} (h : IsF H (.node s ps) v) (k : ∀ p H' vs, H p = none → Ext H H' → H' p = some (.tup vs) → IsFs H' ps vs → Q (.ref p) H') : rSlT K v (some 1) none H Q := by
  obtain ⟨a, vs, rfl, h1, h2⟩ := IsF.node.mp h
  refine ⟨a, _, rfl, .inl (.inl h1), ?_, g_new fun p H' hp c hx => k p H' vs hp c ?_ (h2.up c)⟩
  · rintro ⟨z, _⟩
    simp [HT.sIx] at z
  · rw [hx]
    simp [cutV, HT.sIx]
end
/-! ### what draws give -/
section
variable {K : PySem.W.Frag} {H H' : Hp} {Q : VK} {E : XK} {d : Addr}
theorem g_take {m : Int} (hd : Dr H d) (hm : 0 < m) (k : ∀ (v : Int) (H' : Hp), 0 ≤ v → v < m → Chg [d] H H' → Dr H' d → Q (.int v) H') : sp_take K ([.ref d, .int m] ++ []) H Q E := ⟨d, m, rfl, hd, hm, k⟩
theorem nm_at {nms : List Str} (ok : NmOk nms) {i : Int} (h0 : 0 ≤ i) (h1 : i < 26) : ∃ s, s ∈ nms ∧ atI (nms.map V.str) i = some (.str s) := by
  obtain ⟨k, rfl⟩ : ∃ k : Nat, i = (k : Int) := ⟨i.toNat, by omega⟩
  have hk : k < nms.length := by have := ok.least; omega
  exact ⟨nms[k], List.getElem_mem hk, atI_nat (by rw [List.getElem?_map, List.getElem?_eq_getElem hk]; rfl)⟩
theorem Dr.ne {l : Addr} {xs : List V} {s : Str} (h : Dr H d) (k : H l = some (.lst (.str s :: xs))) : l ≠ d := fun e => by
  obtain ⟨ds, h1, _⟩ := h
  rw [e, h1] at k
  cases ds <;> simp at k
theorem Dr.nn (h : Dr H d) : H d ≠ none := fun e => by
  obtain ⟨ds, h1, _⟩ := h
  rw [h1] at e
  cases e
theorem Dr.keep (h : Dr H d) (c : Chg [] H H') : Dr H' d := by
  obtain ⟨ds, h1, h2⟩ := h
  exact ⟨ds, c.at h1, h2⟩
/-- the names' list, apart from the draws -/
structure Nms (H : Hp) (d r : Addr) (nms : List Str) : Prop where
  at_ : H r = some (.lst (nms.map V.str))
  ok : NmOk nms
  ne : r ∉ [d]
theorem Nms.keep {r : Addr} {nms : List Str} (h : Nms H d r nms) (c : Chg [d] H H') : Nms H' d r nms := ⟨c.ob _ _ h.ne h.at_, h.ok, h.ne⟩
theorem Nms.keep0 {r : Addr} {nms : List Str} (h : Nms H d r nms) (c : Chg [] H H') : Nms H' d r nms := ⟨c.at h.at_, h.ok, h.ne⟩
end
/-- a list of one's own grows -/
theorem g_appD {Q : VK} {H0 H' : Hp} {d l : Addr} {ws : List V} {v : V} (hl : H0 l = none) (ld : l ∉ [d]) (c : Chg [d] H0 H') (hd : Dr H' d) (hx : H' l = some (.lst ws)) (hz : ws.length < 100000)
    (k : ∀ H2, Chg [d] H0 H2 → Dr H2 d → H2 l = some (.lst (ws ++ [v])) → Chg [l] H' H2 → Q .non H2) : rAppend (.ref l) [v] H' Q := by
  refine g_append hx (bigl hz) (k _ (c.own hl _) ?_ upd_same ((Chg.refl _).set (List.mem_singleton.mpr rfl) hx (by intro xs z; cases z) _))
  obtain ⟨ds, h1, h2⟩ := hd
  exact ⟨ds, by rw [upd_ne (fun z => ld (List.mem_singleton.mpr z.symm))]; exact h1, h2⟩
theorem Dr.off {H : Hp} {d l : Addr} (h : Dr H d) (hl : H l = none) : l ∉ [d] := by
  intro z
  rw [List.mem_singleton.mp z] at hl
  exact h.nn hl
/-- one of five holes -/
theorem five_at {v i : Int} (hv : 0 ≤ v ∧ v ≤ 99) (h0 : 0 ≤ i) (h1 : i < 5) : ∃ x : Int, atI ([.int v, .int 0, .int 9, .int 10, .int 99] : List V) i = some (.int x) ∧ 0 ≤ x ∧ x ≤ 99 := by
  have h : i = 0 ∨ i = 1 ∨ i = 2 ∨ i = 3 ∨ i = 4 := by omega
  rcases h with rfl | rfl | rfl | rfl | rfl
  · exact ⟨v, rfl, hv.1, hv.2⟩
  · exact ⟨0, rfl, by decide, by decide⟩
  · exact ⟨9, rfl, by decide, by decide⟩
  · exact ⟨10, rfl, by decide, by decide⟩
  · exact ⟨99, rfl, by decide, by decide⟩
/-- a list of holes, apart from the draws -/
structure Hls (H : Hp) (d hs : Addr) (is : List Int) : Prop where
  at_ : H hs = some (.lst (is.map V.int))
  ne : hs ∉ [d]
  rng : ∀ i ∈ is, 0 ≤ i ∧ i ≤ 99
theorem Hls.keep {H H' : Hp} {d hs : Addr} {is : List Int} (h : Hls H d hs is) (c : Chg [d] H H') : Hls H' d hs is := ⟨c.ob _ _ h.ne h.at_, h.ne, h.rng⟩
theorem ints_at {is : List Int} {i : Int} (h0 : 0 ≤ i) (h1 : i < ((is.map V.int).length : Int)) : ∃ x, x ∈ is ∧ atI (is.map V.int) i = some (.int x) := by
  obtain ⟨k, rfl⟩ : ∃ k : Nat, i = (k : Int) := ⟨i.toNat, by omega⟩
  have hk : k < is.length := by simp at h1; omega
  exact ⟨is[k], List.getElem_mem hk, atI_nat (by rw [List.getElem?_map, List.getElem?_eq_getElem hk]; rfl)⟩
theorem Hls.get {H : Hp} {d hs : Addr} {is : List Int} (h : Hls H d hs is) {i : Int} (h0 : 0 ≤ i) (h1 : i < ((is.map V.int).length : Int)) : ∃ x, atI (is.map V.int) i = some (.int x) ∧ 0 ≤ x ∧ x ≤ 99 := by
  obtain ⟨x, hx, e⟩ := ints_at h0 h1
  exact ⟨x, e, (h.rng x hx).1, (h.rng x hx).2⟩
def spLaw (K : PySem.W.Frag) : Sp := fun vs H Q _ => ∃ (a : Addr) (ns : List Int), vs = [.ref a] ∧ SqL K H a (ns.map V.int) ∧ ns.length ≤ 63 ∧ ∀ H', Q (.bl true) H'
theorem len_law {K : PySem.W.Frag} {vs : List V} {H : Hp} {Q : VK} {E : XK} (h : spLaw K vs H Q E) : vs.length = 1 := by obtain ⟨_, _, rfl, _⟩ := h; rfl
theorem cut_head (ns : List Int) : cutV (ns.map V.int) none (some 1) = (ns.take 1).map V.int := by
  simp [cutV, HT.sIx]
theorem cut_tail (ns : List Int) : cutV (ns.map V.int) (some 1) none = (ns.drop 1).map V.int := by
  cases ns with
  | nil => rfl
  | cons n ns =>
    simp [cutV, HT.sIx]
    exact List.take_of_length_le (by simp)
end My

namespace My
open PySem PySem.Spec PyProof.Rows L2
local macro_rules | `(tactic| walk_at "g1") => `(tactic| first
  | with_reducible refine My.g_seq ?_
  | with_reducible refine My.g_asg ?_
  | with_reducible refine My.g_name ?_
  | ((with_reducible refine' My.g_var ?ga ?gb); (case ga => rfl))
  | with_reducible refine My.g_c ?_
  | with_reducible refine My.g_op ?_
  | with_reducible refine My.g_cb ?_
  | with_reducible refine My.g_cons ?_
  | with_reducible refine My.g_nil ?_
  | with_reducible refine My.g_ifS ?_
  | with_reducible refine My.g_ret ?_
  | with_reducible refine My.g_drop ?_
  | with_reducible refine My.g_test ?_
  | with_reducible refine My.g_B ?_
  | with_reducible refine My.g_bl ?_
  | with_reducible refine My.g_int1 ?_
  | with_reducible refine My.g_rI0 ?_
  | ((with_reducible refine My.g_rI ?ga ?gb); (case ga => first | decide | (unfold CMul; omega) | (unfold CDiv; omega) | (unfold CPow; decide) | (unfold CPow; omega) | omega))
  | with_reducible refine My.g_eqI ?_
  | with_reducible refine My.g_neI ?_
  | with_reducible refine My.g_eqS ?_
  | with_reducible refine My.g_neS ?_
  | with_reducible refine My.g_neB ?_
  | with_reducible refine My.g_tr ?_
  | with_reducible refine My.g_fa ?_
  | with_reducible refine My.g_ntr ?_
  | with_reducible refine My.g_nfa ?_
  | with_reducible refine My.g_next ?_
  | with_reducible refine My.g_bm ?_
  | with_reducible refine My.g_bm0 ?_
  | ((with_reducible refine' My.g_tyL ?ga ?gb); (case ga => assumption))
  | with_reducible refine My.g_not ?_
  | with_reducible refine My.g_and ?_
  | with_reducible refine My.g_or ?_
  | with_reducible refine My.g_andV ?_
  | with_reducible refine My.g_orV ?_
  | with_reducible refine My.g_notV ?_
  | with_reducible refine My.g_ifE ?_
  | with_reducible refine My.g_chain ?_
  | with_reducible refine My.g_un ?_
  | with_reducible refine My.g_rU ?_
  | with_reducible refine My.g_sl ?_
  | with_reducible refine My.g_part ?_
  | with_reducible refine My.g_nopart ?_
  | with_reducible refine My.g_exI ?_
  | with_reducible refine My.g_abs ?_
  | with_reducible refine My.g_int1b ?_
  | with_reducible refine My.g_tupT ?_
  | with_reducible refine My.g_lstT ?_
  | with_reducible refine My.g_yes ?_
  | with_reducible refine My.g_joined ?_
  | with_reducible refine My.g_jc ?_
  | with_reducible refine My.g_jn ?_
  | with_reducible refine My.g_fmt ?_
  | with_reducible refine My.g_m1 ?_
  | with_reducible refine My.g_m1s ?_
  | with_reducible refine My.g_for ?_
  | with_reducible refine My.g_lc ?_
  | with_reducible refine My.g_iL ?_
  | with_reducible refine My.g_iT ?_
  | with_reducible refine My.g_iR ?_
  | with_reducible refine My.g_iR2 ?_
  | with_reducible refine My.g_call ?_
  | with_reducible refine My.g_isN ?_
  | with_reducible refine My.g_notN ?_
  | with_reducible refine My.g_retN ?_
  | with_reducible refine My.g_iS ?_
  | with_reducible refine My.g_gcons ?_
  | with_reducible refine My.g_gnil ?_
  | with_reducible refine My.g_ipI ?_
  | with_reducible refine My.g_tru ?_
  | ((with_reducible refine' My.g_augV ?ga ?gb); (case ga => rfl))
  | with_reducible refine My.g_dget ?_
  | with_reducible refine My.g_dget2 ?_
  | with_reducible refine My.g_din ?_
  | with_reducible refine My.g_dnin ?_
  | with_reducible refine My.g_dput ?_
  | with_reducible refine My.g_star ?_
  | with_reducible refine My.g_rev2 ?_
  | ((with_reducible refine' My.g_lenL ?ga ?gb); (case ga => assumption))
  | ((with_reducible refine' My.g_lenT ?ga ?gb); (case ga => assumption)))
local macro_rules | `(tactic| walk_at "go") => `(tactic| repeat walk_at "g1")

/-! ### the written form -/
mutual
def Fm.wl : Fm → List Nat
  | .hole n => TL.numL n.toNat
  | .node s ps => tl s ++ Fm.wa ps
def Fm.wa : List Fm → List Nat
  | [] => []
  | p :: ps => 40 :: (p.wl ++ (Fm.wt ps ++ [41]))
def Fm.wt : List Fm → List Nat
  | [] => []
  | p :: ps => 44 :: 32 :: (p.wl ++ Fm.wt ps)
end
/-- the parts with ", " between them -/
def Fm.mid : List Fm → List Nat
  | [] => []
  | p :: ps => p.wl ++ Fm.wt ps
theorem Fm.wt_app : ∀ (ps qs : List Fm), Fm.wt (ps ++ qs) = Fm.wt ps ++ Fm.wt qs
  | [], qs => by simp [Fm.wt]
  | p :: ps, qs => by simp only [List.cons_append, Fm.wt, Fm.wt_app ps qs, List.append_assoc]
theorem Fm.mid_snoc (ps : List Fm) (q : Fm) : Fm.mid (ps ++ [q]) = if ps = [] then q.wl else Fm.mid ps ++ [44, 32] ++ q.wl := by
  cases ps with
  | nil => simp [Fm.mid, Fm.wt]
  | cons p ps =>
    rw [if_neg (by simp)]
    simp only [List.cons_append, Fm.mid, Fm.wt_app, Fm.wt, List.append_assoc, List.append_nil, List.nil_append]
theorem Fm.wa_mid {ps : List Fm} (h : ps ≠ []) : Fm.wa ps = 40 :: (Fm.mid ps ++ [41]) := by
  cases ps with
  | nil => exact absurd rfl h
  | cons p ps => simp only [Fm.wa, Fm.mid, List.append_assoc]
theorem Fm.mid_join : ∀ ps : List Fm, TL.joinL [44, 32] (ps.map Fm.wl) = Fm.mid ps
  | [] => rfl
  | [p] => by simp [TL.joinL, Fm.mid, Fm.wt]
  | p :: q :: ps => by
    have ih := Fm.mid_join (q :: ps)
    rw [List.map_cons] at ih
    simp only [List.map_cons, TL.joinL, Fm.mid, Fm.wt]
    rw [ih]
    simp [Fm.mid]
theorem numL_le : ∀ n < 100, (TL.numL n).length ≤ 2 := by
  intro n h
  by_cases h1 : n < 10
  · rw [TL.numL_lt h1]; simp
  · rw [TL.numL_step (by omega), TL.numL_lt (by omega)]; simp
mutual
theorem Fm.wl_len : ∀ (f : Fm), f.ok → f.wl.length + 2 ≤ 12 * f.size
  | .hole n, h => by
    simp only [Fm.ok] at h
    simp only [Fm.wl, Fm.size]
    have := numL_le n.toNat (by omega)
    omega
  | .node s ps, h => by
    simp only [Fm.ok] at h
    have h1 := h.1.most
    rw [tl_len] at h1
    have h2 := Fm.wa_len ps h.2
    simp only [Fm.wl, Fm.size, List.length_append]
    omega
theorem Fm.wa_len : ∀ (ps : List Fm), Fm.oks ps → (Fm.wa ps).length ≤ 2 + 12 * Fm.sizes ps
  | [], _ => by simp [Fm.wa]
  | p :: ps, h => by
    simp only [Fm.oks] at h
    have h1 := Fm.wl_len p h.1
    have h2 := Fm.wt_len ps h.2
    simp only [Fm.wa, Fm.sizes, List.length_append, List.length_cons, List.length_nil]
    omega
theorem Fm.wt_len : ∀ (ps : List Fm), Fm.oks ps → (Fm.wt ps).length ≤ 12 * Fm.sizes ps
  | [], _ => by simp [Fm.wt]
  | p :: ps, h => by
    simp only [Fm.oks] at h
    have h1 := Fm.wl_len p h.1
    have h2 := Fm.wt_len ps h.2
    simp only [Fm.wt, Fm.sizes, List.length_append, List.length_cons]
    omega
end
theorem Fm.mid_len (ps : List Fm) (h : Fm.oks ps) : (Fm.mid ps).length ≤ 12 * Fm.sizes ps := by
  cases ps with
  | nil => simp [Fm.mid]
  | cons p ps =>
    simp only [Fm.oks] at h
    have h1 := Fm.wl_len p h.1
    have h2 := Fm.wt_len ps h.2
    simp only [Fm.mid, Fm.sizes, List.length_append]
    omega
theorem Fm.size_mem : ∀ {ps : List Fm} {p : Fm}, p ∈ ps → p.size ≤ Fm.sizes ps
  | q :: ps, p, h => by
    simp only [Fm.sizes]
    rcases List.mem_cons.mp h with rfl | h
    · omega
    · have := Fm.size_mem h; omega
theorem Fm.sum_len : ∀ (ps : List Fm), Fm.oks ps → (ps.map (fun f => f.wl.length)).sum ≤ 12 * Fm.sizes ps
  | [], _ => by simp
  | p :: ps, h => by
    simp only [Fm.oks] at h
    have h1 := Fm.wl_len p h.1
    have h2 := Fm.sum_len ps h.2
    simp only [List.map_cons, List.sum_cons, Fm.sizes]
    omega
theorem Fm.oks_take {ps : List Fm} (h : Fm.oks ps) (n : Nat) : Fm.oks (ps.take n) := by
  have : Fm.oks (ps.take n ++ ps.drop n) := by rw [List.take_append_drop]; exact h
  exact ((Fm.oks_append _ _).mp this).1
theorem Fm.sizes_take (ps : List Fm) (n : Nat) : Fm.sizes (ps.take n) ≤ Fm.sizes ps := by
  have : Fm.sizes (ps.take n ++ ps.drop n) = Fm.sizes ps := by rw [List.take_append_drop]
  rw [Fm.sizes_append] at this
  omega
theorem num_log {n : Int} (h0 : 0 ≤ n) (h1 : n ≤ 99) : n.natAbs.log2 < 1920 := by
  have h : n.natAbs < 2 ^ 7 := by omega
  by_cases e : n.natAbs = 0
  · rw [e]; decide
  · have := (Nat.log2_lt e).mpr h
    omega
theorem tl_int {n : Int} (h0 : 0 ≤ n) : tl (Str.ofString (toString n)) = TL.numL n.toNat := by
  have := TL.tl_num n.toNat
  rw [Int.toNat_of_nonneg h0] at this
  exact this
/-! form[0], len(form) -/
section
variable {K : PySem.W.Frag} {H : Hp} {Q : VK} {v : V}
theorem g_sign {s : Str} {ps : List Fm} (h : IsF H (.node s ps) v) (k : Q (.str s) H) : rIxT K v (.int 0) H Q := by
  obtain ⟨a, vs, rfl, h1, _⟩ := IsF.node.mp h
  exact g_ixT h1 (atI_nat (j := 0) rfl) k
theorem g_lenF {s : Str} {ps : List Fm} (h : IsF H (.node s ps) v) (k : Q (.int ((ps.length + 1 : Nat) : Int)) H) : rLenSeq K [v] H Q := by
  obtain ⟨a, vs, rfl, h1, h2⟩ := IsF.node.mp h
  refine g_lenT h1 ?_
  rw [List.length_cons, h2.length]
  exact k
theorem g_part_at {s : Str} {ps : List Fm} {i : Nat} {f : Fm} (h : IsF H (.node s ps) v) (hf : ps[i]? = some f) (k : ∀ x, IsF H f x → Q x H) : rIxT K v (.int ((i + 1 : Nat) : Int)) H Q := by
  obtain ⟨a, vs, rfl, h1, h2⟩ := IsF.node.mp h
  obtain ⟨x, h3, h4⟩ := h2.get' hf
  exact g_ixT h1 (atI_nat (by rw [List.getElem?_cons_succ]; exact h3)) (k x h4)
theorem kit_str_str : PySem.W.kitOne K (.type "str") (.type "str") = some true := kit_ty (by decide +kernel)
theorem g_isiS {z : Str} (k : Q (.bl true) H) : rIsi K [.str z, .ty "str"] H Q := ⟨_, _, _, _, true, rfl, .ty "str", .base (.str z), kit_str_str, k⟩
end
def t_write (K : PySem.W.Frag) (r : Sp) : TS := (tSeq (tIfS (tB (tCB (rIsi K) (tCons (tVar 0) (tCons (tC (.ty "int")) tNil)))) (tRet (tCB rStrInt (tCons (tVar 0) tNil)))
  tNext)
  (tSeq (tIfS (tTest (tOp rEq (tCB (rLenSeq K) (tCons (tVar 0) tNil)) (tC (.int 1)))) (tRet (tOp (rIxT K) (tVar 0) (tC (.int 0))))
  tNext)
  (tSeq (tAsg (tM1 (rJoin K) (tC (.str ", ")) (tLc (iTup K (tSl (rSlT K) (tVar 0) (tPart (tC (.int 1))) tNoPart)) (gName 2) tYes (tCall r [] E0 (tCons (tVar 2) tNil)) [2])) (gName 1))
  (tRet (tJoined [(tFmt (tOp (rIxT K) (tVar 0) (tC (.int 0)))), (tC (.str "(")), (tFmt (tVar 1)), (tC (.str ")"))])))))
abbrev N_write : List Str := ["form", "inner", "part"]
def sp_write (K : PySem.W.Frag) (n : Nat) : Sp := fun vs H Q _ => ∃ (v : V) (f : Fm), vs = [v] ∧ IsF H f v ∧ f.ok ∧ f.size ≤ 2000 ∧ f.depth ≤ n ∧ ∀ (z : Str) (H' : Hp), Ext H H' → tl z = f.wl → Q (.str z) H'
theorem len_write {K : PySem.W.Frag} {n : Nat} {vs : List V} {H : Hp} {Q : VK} {E : XK} (h : sp_write K n vs H Q E) : vs.length = 1 := by obtain ⟨_, _, rfl, _⟩ := h; rfl
theorem no_write {K : PySem.W.Frag} (vs : List V) (H : Hp) (Q : VK) (E : XK) : ¬ sp_write K 0 vs H Q E := by
  rintro ⟨_, f, _, _, _, _, h, _⟩
  have := f.depth_pos
  omega
theorem rd_write {K : PySem.W.Frag} {n : Nat} {vs : List V} {H : Hp} {Q : VK} {E : XK} (h : sp_write K (n + 1) vs H Q E) : t_write K (sp_write K n) { nx := fun _ H' => Q .non H', rt := Q } (start N_write vs) H := by
  obtain ⟨v, f, rfl, hf, hok, hz, hn, k⟩ := h
  unfold t_write
  walk_at "go"
  refine g_isiF hf ?_
  walk_at "go"
  cases f with
  | hole m =>
    show (if true = true then _ else _)
    simp only [Fm.ok] at hok
    obtain rfl := IsF.hole.mp hf
    walk_at "go"
    exact ⟨m, rfl, num_log hok.1 hok.2, k _ H (Chg.refl H) (by simp only [Fm.wl]; exact tl_int hok.1)⟩
  | node s ps =>
    show (if false = true then _ else _)
    simp only [Fm.ok] at hok
    simp only [Fm.size] at hz
    simp only [Fm.depth] at hn
    walk_at "go"
    refine g_lenF hf ?_
    walk_at "go"
    refine g_2 (fun b => ?_) (fun b => ?_)
    · have b : ((ps.length + 1 : Nat) : Int) = 1 := of_decide_eq_true b
      obtain rfl : ps = [] := List.eq_nil_of_length_eq_zero (by omega)
      walk_at "go"
      refine g_sign hf ?_
      exact k s H (Chg.refl H) (by simp [Fm.wl, Fm.wa])
    · have b : ¬ ((ps.length + 1 : Nat) : Int) = 1 := of_decide_eq_false b
      have hne : ps ≠ [] := by intro z; rw [z] at b; simp at b
      walk_at "go"
      refine g_parts hf fun p H1 ws hp c1 h1 hw => ?_
      have hl := hw.length
      have hsz := Fm.len_sizes ps
      refine g_lcT (S := []) (xs := ws) (.inl (.inl h1)) (fun _ z => nomatch z) (fun i acc _ => ∃ ys : List Str, acc = ys.map V.str ∧ ys.map tl = (ps.take i).map Fm.wl) (fun _ _ _ _ _ _ _ q => q) (fun _ _ => ⟨[], rfl, by simp⟩) (fun _ _ H' c _ => .inl (.inl (c.at h1)))
        (fun i acc _ ⟨ys, e1, e2⟩ => bigl (by
          have := congrArg List.length e2
          simp at this
          rw [e1, List.length_map]; omega)) (fun i x hi acc H' Yes No c hacc yes no => ?_) (fun q acc H2 hq c2 h2 hacc => ?_)
      · obtain ⟨f, hf1, hf2⟩ := hw.get hi
        obtain ⟨ys, e1, e2⟩ := hacc
        walk_at "go"
        refine ⟨x, f, rfl, hf2.up c, Fm.ok_mem hok.2 (List.mem_of_getElem? hf1), ?_, ?_, fun z H3 c3 ez => yes _ _ c3 ⟨ys ++ [z], by rw [e1]; simp, ?_⟩⟩
        · have := Fm.size_mem (List.mem_of_getElem? hf1); omega
        · have := Fm.depth_mem (List.mem_of_getElem? hf1); omega
        · rw [List.take_add_one, hf1]
          simp [e2, ez]
      obtain ⟨ys, e1, e2⟩ := hacc
      rw [hl, List.take_length] at e2
      have ej : tl (Txt.join (", " : Str) ys) = Fm.mid ps := by
        rw [TL.join_eq]
        have := TL.tl_join (", " : Str) ys
        have e3 : ys.map TL.tl = ps.map Fm.wl := e2
        rw [e3, show TL.tl (", " : Str) = [44, 32] by decide +kernel, Fm.mid_join] at this
        exact this
      have hml := Fm.mid_len ps hok.2
      have hlen : (Txt.join (", " : Str) ys).length ≤ 12 * Fm.sizes ps := by rw [tl_len, ej]; exact hml
      refine ⟨_, q, ys, rfl, rfl, .inl (.inl (.inl (by rw [h2, e1]))), ?_, ?_⟩
      · have h3 : (ys.map (·.length)).sum ≤ 12 * Fm.sizes ps := by
          have e4 : ys.map (·.length) = ps.map (fun f => f.wl.length) := by
            have := congrArg (List.map List.length) e2
            rw [List.map_map, List.map_map] at this
            have e5 : (List.length ∘ tl : Str → Nat) = fun y => y.length := by funext y; exact (tl_len y).symm
            rw [e5] at this
            exact this
          rw [e4]
          exact Fm.sum_len ps hok.2
        have e6 : (", " : Str).length = 2 := by decide +kernel
        have e7 := congrArg List.length e2
        simp at e7
        rw [e6]
        omega
      walk_at "go"
      refine g_sign (hf.up (c1.trans c2)) ?_
      have hsl := hok.1.most
      have e8 : (Str.empty ++ s).length = s.length := by rw [app_len]; show 0 + _ = _; omega
      refine .inl ⟨s, rfl, big (by omega), g_exS ⟨big (by omega), ?_⟩⟩
      walk_at "go"
      refine g_exS ⟨big (by rw [app_len, e8, show ("(" : Str).length = 1 by decide +kernel]; omega), ?_⟩
      walk_at "go"
      refine .inl ⟨_, rfl, big (by omega), g_exS ⟨big (by rw [app_len, app_len, e8, show ("(" : Str).length = 1 by decide +kernel]; omega), ?_⟩⟩
      walk_at "go"
      refine g_exS ⟨big (by rw [app_len, app_len, app_len, e8, show ("(" : Str).length = 1 by decide +kernel, show (")" : Str).length = 1 by decide +kernel]; omega), ?_⟩
      walk_at "go"
      refine k _ H2 (c1.trans c2) ?_
      rw [tl_app, tl_app, tl_app, tl_app, ej]
      simp only [Fm.wl]
      rw [Fm.wa_mid hne, show tl Str.empty = [] by decide +kernel, show tl ("(" : Str) = [40] by decide +kernel, show tl (")" : Str) = [41] by decide +kernel]
      simp
def t_written (K : PySem.W.Frag) (r : Sp) : TS := (tSeq (tIfS (tB (tCB (rIsi K) (tCons (tVar 0) (tCons (tC (.ty "int")) tNil)))) (tRet (tCB rStrInt (tCons (tVar 0) tNil)))
  tNext)
  (tSeq (tIfS (tTest (tOp rEq (tCB (rLenSeq K) (tCons (tVar 0) tNil)) (tC (.int 1)))) (tRet (tOp (rIxT K) (tVar 0) (tC (.int 0))))
  tNext)
  (tSeq (tAsg (tOp rAddS_ (tOp (rIxT K) (tVar 0) (tC (.int 0))) (tC (.str "("))) (gName 1))
  (tSeq (tFor (iRng2 (tCons (tC (.int 1)) (tCons (tCB (rLenSeq K) (tCons (tVar 0) tNil)) tNil))) (gName 2)
  (tSeq (tIfS (tTest (tOp rGtI (tVar 2) (tC (.int 1)))) (tAsg (tOp rAddS_ (tVar 1) (tC (.str ", "))) (gName 1))
  tNext)
  (tAsg (tOp rAddS_ (tVar 1) (tCall r [] E0 (tCons (tOp (rIxT K) (tVar 0) (tVar 2)) tNil))) (gName 1))))
  (tRet (tOp rAddS_ (tVar 1) (tC (.str ")"))))))))
abbrev N_written : List Str := ["_law_form", "_law_text", "_law_k"]
def sp_written (K : PySem.W.Frag) (n : Nat) : Sp := sp_write K n
theorem len_written {K : PySem.W.Frag} {n : Nat} {vs : List V} {H : Hp} {Q : VK} {E : XK} (h : sp_written K n vs H Q E) : vs.length = 1 := len_write h
theorem no_written {K : PySem.W.Frag} (vs : List V) (H : Hp) (Q : VK) (E : XK) : ¬ sp_written K 0 vs H Q E := no_write vs H Q E
theorem rd_written {K : PySem.W.Frag} {n : Nat} {vs : List V} {H : Hp} {Q : VK} {E : XK} (h : sp_written K (n + 1) vs H Q E) : t_written K (sp_written K n) { nx := fun _ H' => Q .non H', rt := Q } (start N_written vs) H := by
  obtain ⟨v, f, rfl, hf, hok, hz, hn, k⟩ := h
  unfold t_written
  walk_at "go"
  refine g_isiF hf ?_
  walk_at "go"
  cases f with
  | hole m =>
    show (if true = true then _ else _)
    simp only [Fm.ok] at hok
    obtain rfl := IsF.hole.mp hf
    walk_at "go"
    exact ⟨m, rfl, num_log hok.1 hok.2, k _ H (Chg.refl H) (by simp only [Fm.wl]; exact tl_int hok.1)⟩
  | node s ps =>
    show (if false = true then _ else _)
    simp only [Fm.ok] at hok
    simp only [Fm.size] at hz
    simp only [Fm.depth] at hn
    walk_at "go"
    refine g_lenF hf ?_
    walk_at "go"
    refine g_2 (fun b => ?_) (fun b => ?_)
    · have b : ((ps.length + 1 : Nat) : Int) = 1 := of_decide_eq_true b
      obtain rfl : ps = [] := List.eq_nil_of_length_eq_zero (by omega)
      walk_at "go"
      refine g_sign hf ?_
      exact k s H (Chg.refl H) (by simp [Fm.wl, Fm.wa])
    · have b : ¬ ((ps.length + 1 : Nat) : Int) = 1 := of_decide_eq_false b
      have hne : ps ≠ [] := by intro z; rw [z] at b; simp at b
      have hsl := hok.1.most
      have hsz := Fm.len_sizes ps
      walk_at "go"
      refine g_sign hf ?_
      walk_at "go"
      have o1 : ("(" : Str).length = 1 := by decide +kernel
      have o2 : (")" : Str).length = 1 := by decide +kernel
      have o3 : (", " : Str).length = 2 := by decide +kernel
      have e1 : tl ("(" : Str) = [40] := by decide +kernel
      have e2 : tl (")" : Str) = [41] := by decide +kernel
      have e3 : tl (", " : Str) = [44, 32] := by decide +kernel
      refine g_addS (big (by omega)) ?_
      walk_at "go"
      refine g_lenF hf ?_
      refine g_forR2 (by omega) (fun i σ H' => ∃ (z : Str) (o2 : Option V), σ = [some v, some (.str z), o2] ∧ Ext H H' ∧ tl z = tl s ++ (40 :: Fm.mid (ps.take i))) ⟨_, none, rfl, Chg.refl _, by rw [tl_app, e1]; simp [Fm.mid]⟩ ?_ ?_
      · rintro i σ H' hi ⟨z, o2, rfl, c, ez⟩
        have hi : i < ps.length := by omega
        obtain ⟨f, hf1⟩ : ∃ f, ps[i]? = some f := ⟨ps[i], List.getElem?_eq_getElem hi⟩
        have hzl : z.length ≤ 9 + 12 * Fm.sizes ps := by
          have h1 := Fm.mid_len (ps.take i) (Fm.oks_take hok.2 i)
          have h2 := Fm.sizes_take ps i
          rw [tl_len] at hsl
          rw [tl_len, ez, List.length_append, List.length_cons]
          omega
        have fin : ∀ (y : Str), y.length ≤ 11 + 12 * Fm.sizes ps → (tl y ++ f.wl = tl s ++ (40 :: Fm.mid (ps.take (i + 1)))) → tAsg (tOp rAddS_ (tVar 1) (tCall (sp_written K n) [] E0 (tCons (tOp (rIxT K) (tVar 0) (tVar 2)) tNil))) (gName 1)
            ⟨fun σ H' => ∃ (z : Str) (o2 : Option V), σ = [some v, some (.str z), o2] ∧ Ext H H' ∧ tl z = tl s ++ (40 :: Fm.mid (ps.take (i + 1))), fun _ _ => False, fun _ _ => False, fun _ _ => False⟩ [some v, some (.str y), some (.int (1 + (i : Int)))] H' := by
          intro y hy ey
          walk_at "go"
          have ei : (1 + (i : Int)) = ((i + 1 : Nat) : Int) := by omega
          rw [ei]
          refine g_part_at (hf.up c) hf1 fun x hx => ?_
          walk_at "go"
          have hfs := Fm.size_mem (List.mem_of_getElem? hf1)
          have fok := Fm.ok_mem hok.2 (List.mem_of_getElem? hf1)
          refine ⟨x, f, rfl, hx, fok, by omega, by have := Fm.depth_mem (List.mem_of_getElem? hf1); omega, fun w H3 c3 ew => ?_⟩
          have hwl : w.length ≤ 12 * f.size := by rw [tl_len, ew]; have := Fm.wl_len f fok; omega
          refine g_addS (big (by omega)) ?_
          walk_at "go"
          exact ⟨_, _, rfl, c.trans c3, by rw [tl_app, ew, ey]⟩
        have et : ps.take (i + 1) = ps.take i ++ [f] := by rw [List.take_add_one, hf1]; rfl
        walk_at "go"
        refine g_2 (fun b => ?_) (fun b => ?_)
        · have b : (1 : Int) < 1 + (i : Int) := of_decide_eq_true b
          walk_at "go"
          refine g_addS (big (by omega)) ?_
          refine fin (z ++ ", ") (by rw [app_len]; omega) ?_
          rw [tl_app, ez, e3, et, Fm.mid_snoc, if_neg (by intro q; have := congrArg List.length q; rw [List.length_take, List.length_nil] at this; omega)]
          simp
        · have b : ¬ (1 : Int) < 1 + (i : Int) := of_decide_eq_false b
          walk_at "g1"
          refine fin z (by omega) ?_
          have hi0 : i = 0 := by omega
          subst hi0
          rw [ez, et, Fm.mid_snoc, if_pos (by simp)]
          simp [Fm.mid]
      · rintro σ H' ⟨z, o2, rfl, c, ez⟩
        have ez : tl z = tl s ++ (40 :: Fm.mid (ps.take (((ps.length + 1 : Nat) : Int) - 1).toNat)) := ez
        have et : (((ps.length + 1 : Nat) : Int) - 1).toNat = ps.length := by omega
        rw [et, List.take_length] at ez
        walk_at "go"
        have h1 := Fm.mid_len ps hok.2
        refine g_addS (big (by
          rw [tl_len] at hsl
          rw [tl_len z, ez, List.length_append, List.length_cons]
          omega)) ?_
        refine k _ H' c ?_
        rw [tl_app, ez, e2]
        simp only [Fm.wl]
        rw [Fm.wa_mid hne]
        simp
end My

namespace My
open PySem PySem.Spec PyProof.Rows L2
local macro_rules | `(tactic| walk_at "g1") => `(tactic| first
  | with_reducible refine My.g_seq ?_
  | with_reducible refine My.g_asg ?_
  | with_reducible refine My.g_name ?_
  | ((with_reducible refine' My.g_var ?ga ?gb); (case ga => rfl))
  | with_reducible refine My.g_c ?_
  | with_reducible refine My.g_op ?_
  | with_reducible refine My.g_cb ?_
  | with_reducible refine My.g_cons ?_
  | with_reducible refine My.g_nil ?_
  | with_reducible refine My.g_ifS ?_
  | with_reducible refine My.g_ret ?_
  | with_reducible refine My.g_drop ?_
  | with_reducible refine My.g_test ?_
  | with_reducible refine My.g_B ?_
  | with_reducible refine My.g_bl ?_
  | with_reducible refine My.g_int1 ?_
  | with_reducible refine My.g_rI0 ?_
  | ((with_reducible refine My.g_rI ?ga ?gb); (case ga => first | decide | (unfold CMul; omega) | (unfold CDiv; omega) | (unfold CPow; decide) | (unfold CPow; omega) | omega))
  | with_reducible refine My.g_eqI ?_
  | with_reducible refine My.g_neI ?_
  | with_reducible refine My.g_eqS ?_
  | with_reducible refine My.g_neS ?_
  | with_reducible refine My.g_neB ?_
  | with_reducible refine My.g_tr ?_
  | with_reducible refine My.g_fa ?_
  | with_reducible refine My.g_ntr ?_
  | with_reducible refine My.g_nfa ?_
  | with_reducible refine My.g_next ?_
  | with_reducible refine My.g_bm ?_
  | with_reducible refine My.g_bm0 ?_
  | ((with_reducible refine' My.g_tyL ?ga ?gb); (case ga => assumption))
  | with_reducible refine My.g_not ?_
  | with_reducible refine My.g_and ?_
  | with_reducible refine My.g_or ?_
  | with_reducible refine My.g_andV ?_
  | with_reducible refine My.g_orV ?_
  | with_reducible refine My.g_notV ?_
  | with_reducible refine My.g_ifE ?_
  | with_reducible refine My.g_chain ?_
  | with_reducible refine My.g_un ?_
  | with_reducible refine My.g_rU ?_
  | with_reducible refine My.g_sl ?_
  | with_reducible refine My.g_part ?_
  | with_reducible refine My.g_nopart ?_
  | with_reducible refine My.g_exI ?_
  | with_reducible refine My.g_abs ?_
  | with_reducible refine My.g_int1b ?_
  | with_reducible refine My.g_tupT ?_
  | with_reducible refine My.g_lstT ?_
  | with_reducible refine My.g_yes ?_
  | with_reducible refine My.g_joined ?_
  | with_reducible refine My.g_jc ?_
  | with_reducible refine My.g_jn ?_
  | with_reducible refine My.g_fmt ?_
  | with_reducible refine My.g_m1 ?_
  | with_reducible refine My.g_m1s ?_
  | with_reducible refine My.g_for ?_
  | with_reducible refine My.g_lc ?_
  | with_reducible refine My.g_iL ?_
  | with_reducible refine My.g_iT ?_
  | with_reducible refine My.g_iR ?_
  | with_reducible refine My.g_iR2 ?_
  | with_reducible refine My.g_call ?_
  | with_reducible refine My.g_isN ?_
  | with_reducible refine My.g_notN ?_
  | with_reducible refine My.g_retN ?_
  | with_reducible refine My.g_iS ?_
  | with_reducible refine My.g_gcons ?_
  | with_reducible refine My.g_gnil ?_
  | with_reducible refine My.g_ipI ?_
  | with_reducible refine My.g_tru ?_
  | ((with_reducible refine' My.g_augV ?ga ?gb); (case ga => rfl))
  | with_reducible refine My.g_dget ?_
  | with_reducible refine My.g_dget2 ?_
  | with_reducible refine My.g_din ?_
  | with_reducible refine My.g_dnin ?_
  | with_reducible refine My.g_dput ?_
  | with_reducible refine My.g_star ?_
  | with_reducible refine My.g_rev2 ?_
  | ((with_reducible refine' My.g_lenL ?ga ?gb); (case ga => assumption))
  | ((with_reducible refine' My.g_lenT ?ga ?gb); (case ga => assumption)))
local macro_rules | `(tactic| walk_at "go") => `(tactic| repeat walk_at "g1")

/-! ### the holes of a form -/
mutual
def Fm.flat : Fm → List Int
  | .hole n => [n]
  | .node _ ps => Fm.flats ps
def Fm.flats : List Fm → List Int
  | [] => []
  | p :: ps => p.flat ++ Fm.flats ps
end
/-- what is new of l, behind acc -/
def ded (acc l : List Int) : List Int := l.foldl (fun a x => if x ∈ a then a else a ++ [x]) acc
/-- the holes, each once -/
def Fm.hs (f : Fm) : List Int := ded [] f.flat
theorem Fm.flats_app : ∀ (ps qs : List Fm), Fm.flats (ps ++ qs) = Fm.flats ps ++ Fm.flats qs
  | [], qs => by simp [Fm.flats]
  | p :: ps, qs => by simp only [List.cons_append, Fm.flats, Fm.flats_app ps qs, List.append_assoc]
theorem ded_app (acc l m : List Int) : ded acc (l ++ m) = ded (ded acc l) m := by simp only [ded, List.foldl_append]
theorem ded_cons (acc : List Int) (x : Int) (l : List Int) : ded acc (x :: l) = ded (if x ∈ acc then acc else acc ++ [x]) l := rfl
/-- ded in one stroke -/
theorem ded_split : ∀ (l acc b : List Int), ded (acc ++ b) l = acc ++ (ded b (l.filter fun x => !decide (x ∈ acc)))
  | [], acc, b => rfl
  | x :: l, acc, b => by
    rw [ded_cons]
    by_cases h : x ∈ acc
    · rw [if_pos (List.mem_append_left _ h), ded_split l acc b, List.filter_cons, if_neg (by simp [h])]
    · rw [List.filter_cons, if_pos (show (!decide (x ∈ acc)) = true by simp [h])]
      by_cases h2 : x ∈ b
      · rw [if_pos (List.mem_append_right _ h2), ded_cons, if_pos h2, ded_split l acc b]
      · rw [if_neg (by simp [h, h2]), ded_cons, if_neg h2, List.append_assoc, ded_split l acc (b ++ [x])]
theorem ded_filter (p : Int → Bool) : ∀ (l b : List Int), ded (b.filter p) (l.filter p) = (ded b l).filter p
  | [], b => rfl
  | x :: l, b => by
    rw [ded_cons]
    cases hp : p x with
    | true =>
      rw [List.filter_cons, if_pos hp, ded_cons]
      have e : (if x ∈ b.filter p then b.filter p else b.filter p ++ [x]) = (if x ∈ b then b else b ++ [x]).filter p := by
        by_cases h : x ∈ b
        · rw [if_pos h, if_pos (List.mem_filter.mpr ⟨h, hp⟩)]
        · rw [if_neg h, if_neg (fun z => h (List.mem_filter.mp z).1), List.filter_append]
          simp [hp]
      rw [e]
      exact ded_filter p l _
    | false =>
      rw [List.filter_cons, if_neg (by simp [hp])]
      have e : (if x ∈ b then b else b ++ [x]).filter p = b.filter p := by
        by_cases h : x ∈ b
        · rw [if_pos h]
        · rw [if_neg h, List.filter_append]; simp [hp]
      rw [← ded_filter p l, e]
/-- one part more: the new ones of its holes -/
theorem ded_hs (acc : List Int) (f : Fm) : acc ++ f.hs.filter (fun x => !decide (x ∈ acc)) = ded acc f.flat := by
  have h1 := ded_split f.flat acc []
  rw [List.append_nil] at h1
  rw [h1]
  unfold Fm.hs
  rw [← ded_filter]
  rfl
theorem ded_len : ∀ (l acc : List Int), (ded acc l).length ≤ acc.length + l.length
  | [], acc => Nat.le_refl _
  | x :: l, acc => by
    rw [ded_cons]
    have := ded_len l (if x ∈ acc then acc else acc ++ [x])
    rw [List.length_cons]
    by_cases h : x ∈ acc
    · rw [if_pos h] at this ⊢; omega
    · rw [if_neg h] at this ⊢; simp at this; omega
theorem ded_mem : ∀ (l acc : List Int) (x : Int), x ∈ ded acc l ↔ x ∈ acc ∨ x ∈ l
  | [], acc, x => by simp [ded]
  | y :: l, acc, x => by
    rw [ded_cons, ded_mem l]
    by_cases h : y ∈ acc
    · rw [if_pos h]
      constructor
      · rintro (z | z)
        · exact .inl z
        · exact .inr (List.mem_cons_of_mem _ z)
      · rintro (z | z)
        · exact .inl z
        · rcases List.mem_cons.mp z with rfl | z
          · exact .inl h
          · exact .inr z
    · rw [if_neg h]
      simp only [List.mem_append, List.mem_cons, List.not_mem_nil, or_false]
      constructor
      · rintro ((z | z) | z)
        · exact .inl z
        · exact .inr (.inl z)
        · exact .inr (.inr z)
      · rintro (z | z | z)
        · exact .inl (.inl z)
        · exact .inl (.inr z)
        · exact .inr z
mutual
theorem Fm.flat_len : ∀ f : Fm, f.flat.length ≤ f.size
  | .hole _ => by simp [Fm.flat, Fm.size]
  | .node _ ps => by
    have := Fm.flats_len ps
    simp only [Fm.flat, Fm.size]; omega
theorem Fm.flats_len : ∀ ps : List Fm, (Fm.flats ps).length ≤ Fm.sizes ps
  | [] => by simp [Fm.flats]
  | p :: ps => by
    have := Fm.flat_len p
    have := Fm.flats_len ps
    simp only [Fm.flats, Fm.sizes, List.length_append]; omega
end
theorem Fm.hs_len (f : Fm) : f.hs.length ≤ f.size := by
  have h1 := ded_len f.flat []
  have h2 := f.flat_len
  unfold Fm.hs
  simp at h1
  omega
theorem inV_int {n : Int} : ∀ {l : List Int}, inV (.int n) (l.map V.int) = decide (n ∈ l)
  | [] => by simp [inV]
  | a :: l => by
    have ih := inV_int (n := n) (l := l)
    unfold inV at ih ⊢
    rw [List.map_cons, List.any_cons, ih]
    show ((a == n) || decide (n ∈ l)) = decide (n ∈ a :: l)
    by_cases e : a = n
    · subst e; simp
    · have e2 : (a == n) = false := beq_eq_false_iff_ne.mpr e
      rw [e2]
      simp [show ¬ n = a from fun z => e z.symm]
theorem flat_ints : ∀ {l : List Int}, (l.map V.int).all flatV = true
  | [] => rfl
  | a :: l => by rw [List.map_cons, List.all_cons, flat_ints]; rfl
section
variable {K : PySem.W.Frag} {H : Hp} {Q : VK} {v : V}
theorem g_notInI {p : Addr} {l : List Int} {n : Int} (h : H p = some (.lst (l.map V.int))) (k : Q (.bl (!decide (n ∈ l))) H) : rIn K true (.int n) (.ref p) H Q := by
  refine ⟨p, l.map V.int, rfl, .inl (.inl (.inl h)), rfl, flat_ints, ?_⟩
  rw [if_pos rfl, inV_int]
  exact k
theorem g_inI {p : Addr} {l : List Int} {n : Int} (h : H p = some (.lst (l.map V.int))) (k : Q (.bl (decide (n ∈ l))) H) : rIn K false (.int n) (.ref p) H Q := by
  refine ⟨p, l.map V.int, rfl, .inl (.inl (.inl h)), rfl, flat_ints, ?_⟩
  rw [if_neg (by decide), inV_int]
  exact k
theorem g_aug {σ : L2.St} {D : Ends} {i : Nat} {te : TE} {ti : TIp} {x : V} (e : σ[i]? = some (some x)) (h : te σ H fun y H1 => ti x y H1 fun z H2 => D.nx (σ.set i (some z)) H2) : tAug i te ti D σ H := ⟨x, e, h⟩
theorem ints_get {l : List Int} {i : Nat} {x : V} (h : (l.map V.int)[i]? = some x) : ∃ n, l[i]? = some n ∧ x = .int n := by
  rw [List.getElem?_map] at h
  cases e : l[i]? with
  | none => rw [e] at h; cases h
  | some n => rw [e] at h; exact ⟨n, rfl, (Option.some.inj h).symm⟩
end
end My

namespace My
open PySem PySem.Spec PyProof.Rows L2
local macro_rules | `(tactic| walk_at "g1") => `(tactic| first
  | with_reducible refine My.g_seq ?_
  | with_reducible refine My.g_asg ?_
  | with_reducible refine My.g_name ?_
  | ((with_reducible refine' My.g_var ?ga ?gb); (case ga => rfl))
  | with_reducible refine My.g_c ?_
  | with_reducible refine My.g_op ?_
  | with_reducible refine My.g_cb ?_
  | with_reducible refine My.g_cons ?_
  | with_reducible refine My.g_nil ?_
  | with_reducible refine My.g_ifS ?_
  | with_reducible refine My.g_ret ?_
  | with_reducible refine My.g_drop ?_
  | with_reducible refine My.g_test ?_
  | with_reducible refine My.g_B ?_
  | with_reducible refine My.g_bl ?_
  | with_reducible refine My.g_int1 ?_
  | with_reducible refine My.g_rI0 ?_
  | ((with_reducible refine My.g_rI ?ga ?gb); (case ga => first | decide | (unfold CMul; omega) | (unfold CDiv; omega) | (unfold CPow; decide) | (unfold CPow; omega) | omega))
  | with_reducible refine My.g_eqI ?_
  | with_reducible refine My.g_neI ?_
  | with_reducible refine My.g_eqS ?_
  | with_reducible refine My.g_neS ?_
  | with_reducible refine My.g_neB ?_
  | with_reducible refine My.g_tr ?_
  | with_reducible refine My.g_fa ?_
  | with_reducible refine My.g_ntr ?_
  | with_reducible refine My.g_nfa ?_
  | with_reducible refine My.g_next ?_
  | with_reducible refine My.g_bm ?_
  | with_reducible refine My.g_bm0 ?_
  | ((with_reducible refine' My.g_tyL ?ga ?gb); (case ga => assumption))
  | with_reducible refine My.g_not ?_
  | with_reducible refine My.g_and ?_
  | with_reducible refine My.g_or ?_
  | with_reducible refine My.g_andV ?_
  | with_reducible refine My.g_orV ?_
  | with_reducible refine My.g_notV ?_
  | with_reducible refine My.g_ifE ?_
  | with_reducible refine My.g_chain ?_
  | with_reducible refine My.g_un ?_
  | with_reducible refine My.g_rU ?_
  | with_reducible refine My.g_sl ?_
  | with_reducible refine My.g_part ?_
  | with_reducible refine My.g_nopart ?_
  | with_reducible refine My.g_exI ?_
  | with_reducible refine My.g_abs ?_
  | with_reducible refine My.g_int1b ?_
  | with_reducible refine My.g_tupT ?_
  | with_reducible refine My.g_lstT ?_
  | with_reducible refine My.g_yes ?_
  | with_reducible refine My.g_joined ?_
  | with_reducible refine My.g_jc ?_
  | with_reducible refine My.g_jn ?_
  | with_reducible refine My.g_fmt ?_
  | with_reducible refine My.g_m1 ?_
  | with_reducible refine My.g_m1s ?_
  | with_reducible refine My.g_for ?_
  | with_reducible refine My.g_lc ?_
  | with_reducible refine My.g_iL ?_
  | with_reducible refine My.g_iT ?_
  | with_reducible refine My.g_iR ?_
  | with_reducible refine My.g_iR2 ?_
  | with_reducible refine My.g_call ?_
  | with_reducible refine My.g_isN ?_
  | with_reducible refine My.g_notN ?_
  | with_reducible refine My.g_retN ?_
  | with_reducible refine My.g_iS ?_
  | with_reducible refine My.g_gcons ?_
  | with_reducible refine My.g_gnil ?_
  | with_reducible refine My.g_ipI ?_
  | with_reducible refine My.g_tru ?_
  | ((with_reducible refine' My.g_augV ?ga ?gb); (case ga => rfl))
  | with_reducible refine My.g_dget ?_
  | with_reducible refine My.g_dget2 ?_
  | with_reducible refine My.g_din ?_
  | with_reducible refine My.g_dnin ?_
  | with_reducible refine My.g_dput ?_
  | with_reducible refine My.g_star ?_
  | with_reducible refine My.g_rev2 ?_
  | ((with_reducible refine' My.g_lenL ?ga ?gb); (case ga => assumption))
  | ((with_reducible refine' My.g_lenT ?ga ?gb); (case ga => assumption)))
local macro_rules | `(tactic| walk_at "go") => `(tactic| repeat walk_at "g1")

/-! ### filled forms -/
mutual
def Fm.fill (m : Int → Option Fm) : Fm → Fm
  | .hole n => (m n).getD (.hole n)
  | .node s ps => .node s (Fm.fills m ps)
def Fm.fills (m : Int → Option Fm) : List Fm → List Fm
  | [] => []
  | p :: ps => p.fill m :: Fm.fills m ps
end
theorem Fm.fills_app (m : Int → Option Fm) : ∀ (ps qs : List Fm), Fm.fills m (ps ++ qs) = Fm.fills m ps ++ Fm.fills m qs
  | [], qs => by simp [Fm.fills]
  | p :: ps, qs => by simp only [List.cons_append, Fm.fills, Fm.fills_app m ps qs]
theorem Fm.fills_len (m : Int → Option Fm) : ∀ ps : List Fm, (Fm.fills m ps).length = ps.length
  | [] => rfl
  | p :: ps => by simp only [Fm.fills, List.length_cons, Fm.fills_len m ps]
mutual
theorem Fm.fill_size {m : Int → Option Fm} {B : Nat} (hB : 1 ≤ B) (h : ∀ n g, m n = some g → g.size ≤ B) : ∀ f : Fm, (f.fill m).size ≤ f.size * B
  | .hole n => by
    simp only [Fm.fill, Fm.size, Nat.one_mul]
    cases e : m n with
    | none => simpa [Fm.size] using hB
    | some g => exact h n g e
  | .node s ps => by
    have := Fm.fills_size hB h ps
    simp only [Fm.fill, Fm.size, Nat.add_mul, Nat.one_mul]
    omega
theorem Fm.fills_size {m : Int → Option Fm} {B : Nat} (hB : 1 ≤ B) (h : ∀ n g, m n = some g → g.size ≤ B) : ∀ ps : List Fm, Fm.sizes (Fm.fills m ps) ≤ Fm.sizes ps * B
  | [] => by simp [Fm.fills, Fm.sizes]
  | p :: ps => by
    have h1 := Fm.fill_size hB h p
    have h2 := Fm.fills_size hB h ps
    simp only [Fm.fills, Fm.sizes, Nat.add_mul]
    omega
end
mutual
theorem Fm.fill_depth {m : Int → Option Fm} {B : Nat} (hB : 1 ≤ B) (h : ∀ n g, m n = some g → g.depth ≤ B) : ∀ f : Fm, (f.fill m).depth ≤ f.depth + B
  | .hole n => by
    simp only [Fm.fill, Fm.depth]
    cases e : m n with
    | none => simp [Fm.depth]
    | some g => have := h n g e; simp only [Option.getD_some]; omega
  | .node s ps => by
    have := Fm.fills_depth hB h ps
    simp only [Fm.fill, Fm.depth]
    omega
theorem Fm.fills_depth {m : Int → Option Fm} {B : Nat} (hB : 1 ≤ B) (h : ∀ n g, m n = some g → g.depth ≤ B) : ∀ ps : List Fm, Fm.depths (Fm.fills m ps) ≤ Fm.depths ps + B
  | [] => by simp [Fm.fills, Fm.depths]
  | p :: ps => by
    have h1 := Fm.fill_depth hB h p
    have h2 := Fm.fills_depth hB h ps
    simp only [Fm.fills, Fm.depths]
    omega
end
mutual
theorem Fm.fill_none : ∀ f : Fm, f.fill (fun _ => none) = f
  | .hole n => rfl
  | .node s ps => by simp only [Fm.fill, Fm.fills_none ps]
theorem Fm.fills_none : ∀ ps : List Fm, Fm.fills (fun _ => none) ps = ps
  | [] => rfl
  | p :: ps => by simp only [Fm.fills, Fm.fill_none p, Fm.fills_none ps]
end
mutual
theorem Fm.fill_eq {m m' : Int → Option Fm} (h : ∀ n, m n = m' n) : ∀ f : Fm, f.fill m = f.fill m'
  | .hole n => by simp only [Fm.fill, h]
  | .node s ps => by simp only [Fm.fill, Fm.fills_eq h ps]
theorem Fm.fills_eq {m m' : Int → Option Fm} (h : ∀ n, m n = m' n) : ∀ ps : List Fm, Fm.fills m ps = Fm.fills m' ps
  | [] => rfl
  | p :: ps => by simp only [Fm.fills, Fm.fill_eq h p, Fm.fills_eq h ps]
end
theorem Fm.sizes_mem : ∀ {ps : List Fm} {p : Fm}, p ∈ ps → p.size ≤ Fm.sizes ps
  | q :: ps, p, h => by
    simp only [Fm.sizes]
    rcases List.mem_cons.mp h with rfl | h
    · omega
    · have := Fm.sizes_mem h; omega
/-- a dict from holes to forms -/
def Dic (H : Hp) (a : Addr) (m : Int → Option Fm) : Prop := ∃ kvs : List (Key × V), H a = some (.dK kvs) ∧ ∀ n : Int, (valV kvs (.inl n) = none ∧ m n = none) ∨ ∃ v f, valV kvs (.inl n) = some v ∧ m n = some f ∧ IsF H f v
theorem Dic.keep {H H' : Hp} {a : Addr} {m : Int → Option Fm} (h : Dic H a m) (c : Ext H H') : Dic H' a m := by
  obtain ⟨kvs, h1, h2⟩ := h
  refine ⟨kvs, c.at h1, fun n => ?_⟩
  rcases h2 n with h | ⟨v, f, e1, e2, hf⟩
  · exact .inl h
  · exact .inr ⟨v, f, e1, e2, hf.up c⟩
section
variable {K : PySem.W.Frag} {H : Hp} {Q : VK} {v : V}
theorem kit_tup_tup : PySem.W.kitOne K (.type "tuple") (.type "tuple") = some true := kit_ty (by decide +kernel)
theorem kit_str_str4 : PySem.W.kitOne K (.type "str") (.type "str") = some true := kit_ty (by decide +kernel)
theorem g_isiT {a : Addr} {xs : List V} (h : H a = some (.tup xs)) (k : Q (.bl true) H) : rIsi K [.ref a, .ty "tuple"] H Q := ⟨_, _, _, _, true, rfl, .ty "tuple", .base (.tup h), kit_tup_tup, k⟩
theorem g_isiSS {s : Str} (k : Q (.bl true) H) : rIsi K [.str s, .ty "str"] H Q := ⟨_, _, _, _, true, rfl, .ty "str", .base (.str s), kit_str_str4, k⟩
end
end My

namespace My
open PySem PySem.Spec PyProof.Rows L2
local macro_rules | `(tactic| walk_at "g1") => `(tactic| first
  | with_reducible refine My.g_seq ?_
  | with_reducible refine My.g_asg ?_
  | with_reducible refine My.g_name ?_
  | ((with_reducible refine' My.g_var ?ga ?gb); (case ga => rfl))
  | with_reducible refine My.g_c ?_
  | with_reducible refine My.g_op ?_
  | with_reducible refine My.g_cb ?_
  | with_reducible refine My.g_cons ?_
  | with_reducible refine My.g_nil ?_
  | with_reducible refine My.g_ifS ?_
  | with_reducible refine My.g_ret ?_
  | with_reducible refine My.g_drop ?_
  | with_reducible refine My.g_test ?_
  | with_reducible refine My.g_B ?_
  | with_reducible refine My.g_bl ?_
  | with_reducible refine My.g_int1 ?_
  | with_reducible refine My.g_rI0 ?_
  | ((with_reducible refine My.g_rI ?ga ?gb); (case ga => first | decide | (unfold CMul; omega) | (unfold CDiv; omega) | (unfold CPow; decide) | (unfold CPow; omega) | omega))
  | with_reducible refine My.g_eqI ?_
  | with_reducible refine My.g_neI ?_
  | with_reducible refine My.g_eqS ?_
  | with_reducible refine My.g_neS ?_
  | with_reducible refine My.g_neB ?_
  | with_reducible refine My.g_tr ?_
  | with_reducible refine My.g_fa ?_
  | with_reducible refine My.g_ntr ?_
  | with_reducible refine My.g_nfa ?_
  | with_reducible refine My.g_next ?_
  | with_reducible refine My.g_bm ?_
  | with_reducible refine My.g_bm0 ?_
  | ((with_reducible refine' My.g_tyL ?ga ?gb); (case ga => assumption))
  | with_reducible refine My.g_not ?_
  | with_reducible refine My.g_and ?_
  | with_reducible refine My.g_or ?_
  | with_reducible refine My.g_andV ?_
  | with_reducible refine My.g_orV ?_
  | with_reducible refine My.g_notV ?_
  | with_reducible refine My.g_ifE ?_
  | with_reducible refine My.g_chain ?_
  | with_reducible refine My.g_un ?_
  | with_reducible refine My.g_rU ?_
  | with_reducible refine My.g_sl ?_
  | with_reducible refine My.g_part ?_
  | with_reducible refine My.g_nopart ?_
  | with_reducible refine My.g_exI ?_
  | with_reducible refine My.g_abs ?_
  | with_reducible refine My.g_int1b ?_
  | with_reducible refine My.g_tupT ?_
  | with_reducible refine My.g_lstT ?_
  | with_reducible refine My.g_yes ?_
  | with_reducible refine My.g_joined ?_
  | with_reducible refine My.g_jc ?_
  | with_reducible refine My.g_jn ?_
  | with_reducible refine My.g_fmt ?_
  | with_reducible refine My.g_m1 ?_
  | with_reducible refine My.g_m1s ?_
  | with_reducible refine My.g_for ?_
  | with_reducible refine My.g_lc ?_
  | with_reducible refine My.g_iL ?_
  | with_reducible refine My.g_iT ?_
  | with_reducible refine My.g_iR ?_
  | with_reducible refine My.g_iR2 ?_
  | with_reducible refine My.g_call ?_
  | with_reducible refine My.g_isN ?_
  | with_reducible refine My.g_notN ?_
  | with_reducible refine My.g_retN ?_
  | with_reducible refine My.g_iS ?_
  | with_reducible refine My.g_gcons ?_
  | with_reducible refine My.g_gnil ?_
  | with_reducible refine My.g_ipI ?_
  | with_reducible refine My.g_tru ?_
  | ((with_reducible refine' My.g_augV ?ga ?gb); (case ga => rfl))
  | with_reducible refine My.g_dget ?_
  | with_reducible refine My.g_dget2 ?_
  | with_reducible refine My.g_din ?_
  | with_reducible refine My.g_dnin ?_
  | with_reducible refine My.g_dput ?_
  | with_reducible refine My.g_star ?_
  | with_reducible refine My.g_rev2 ?_
  | ((with_reducible refine' My.g_lenL ?ga ?gb); (case ga => assumption))
  | ((with_reducible refine' My.g_lenT ?ga ?gb); (case ga => assumption)))
local macro_rules | `(tactic| walk_at "go") => `(tactic| repeat walk_at "g1")

/-! ### _law_same -/
def t_same (K : PySem.W.Frag) (r : Sp) : TS := (tSeq (tIfS (tB (tCB (rIsi K) (tCons (tVar 1) (tCons (tC (.ty "int")) tNil)))) (tRet (tAndV (tCB (rIsi K) (tCons (tVar 0) (tCons (tC (.ty "int")) tNil))) (tAndV (tNotV (tCB (rIsi K) (tCons (tVar 0) (tCons (tC (.ty "bool")) tNil)))) (tOp rEq (tVar 0) (tVar 1)))))
  tNext)
  (tSeq (tIfS (tOr (tNot (tB (tCB (rIsi K) (tCons (tVar 0) (tCons (tC (.ty "tuple")) tNil))))) (tTest (tOp rNe (tCB (rLenSeq K) (tCons (tVar 0) tNil)) (tCB (rLenSeq K) (tCons (tVar 1) tNil))))) (tRet (tC (.bl false)))
  tNext)
  (tSeq (tIfS (tOr (tNot (tB (tCB (rIsi K) (tCons (tOp (rIxT K) (tVar 0) (tC (.int 0))) (tCons (tC (.ty "str")) tNil))))) (tTest (tOp rNe (tOp (rIxT K) (tVar 0) (tC (.int 0))) (tOp (rIxT K) (tVar 1) (tC (.int 0)))))) (tRet (tC (.bl false)))
  tNext)
  (tSeq (tFor (iRng2 (tCons (tC (.int 1)) (tCons (tCB (rLenSeq K) (tCons (tVar 1) tNil)) tNil))) (gName 2)
  (tIfS (tNot (tB (tCall r [] E0 (tCons (tOp (rIxT K) (tVar 0) (tVar 2)) (tCons (tOp (rIxT K) (tVar 1) (tVar 2)) tNil))))) (tRet (tC (.bl false)))
  tNext))
  (tRet (tC (.bl true)))))))
abbrev N_same : List Str := ["_law_answer", "_law_due", "_law_k"]
def sp_same (K : PySem.W.Frag) (n : Nat) : Sp := fun vs H Q _ => ∃ (v w : V) (f : Fm), vs = [v, w] ∧ IsF H f v ∧ IsF H f w ∧ f.size ≤ 100000 ∧ f.depth ≤ n ∧ Q (.bl true) H
theorem len_same {K : PySem.W.Frag} {n : Nat} {vs : List V} {H : Hp} {Q : VK} {E : XK} (h : sp_same K n vs H Q E) : vs.length = 2 := by obtain ⟨_, _, _, rfl, _⟩ := h; rfl
theorem no_same {K : PySem.W.Frag} (vs : List V) (H : Hp) (Q : VK) (E : XK) : ¬ sp_same K 0 vs H Q E := by
  rintro ⟨_, _, f, _, _, _, _, h, _⟩
  have := f.depth_pos
  omega
theorem rd_same {K : PySem.W.Frag} {n : Nat} {vs : List V} {H : Hp} {Q : VK} {E : XK} (h : sp_same K (n + 1) vs H Q E) : t_same K (sp_same K n) { nx := fun _ H' => Q .non H', rt := Q } (start N_same vs) H := by
  obtain ⟨v, w, f, rfl, hf, hg, hz, hn, k⟩ := h
  unfold t_same
  walk_at "go"
  refine g_isiF hg ?_
  walk_at "go"
  cases f with
  | hole i =>
    show (if true = true then _ else _)
    obtain rfl := IsF.hole.mp hf
    obtain rfl := IsF.hole.mp hg
    walk_at "go"
    refine g_isiI ?_
    refine ⟨true, rfl, ?_⟩
    walk_at "go"
    refine g_isiIb ?_
    refine ⟨false, rfl, ?_⟩
    refine ⟨true, rfl, ?_⟩
    walk_at "go"
    rw [decide_eq_true rfl]
    exact k
  | node s ps =>
    show (if false = true then _ else _)
    simp only [Fm.size] at hz
    simp only [Fm.depth] at hn
    obtain ⟨a, xs, rfl, ha, hxs⟩ := IsF.node.mp hf
    obtain ⟨b, ys, rfl, hb, hys⟩ := IsF.node.mp hg
    have lx := hxs.length
    have ly := hys.length
    have hls := Fm.len_sizes ps
    walk_at "go"
    refine g_isiT ha ?_
    walk_at "go"
    rw [decide_eq_true (show (((V.str s :: xs).length : Nat) : Int) = ((V.str s :: ys).length : Nat) by simp [lx, ly])]
    walk_at "go"
    refine g_ixT ha (atI_nat (j := 0) rfl) ?_
    walk_at "go"
    refine g_isiSS ?_
    walk_at "go"
    refine g_ixT ha (atI_nat (j := 0) rfl) ?_
    walk_at "go"
    refine g_ixT hb (atI_nat (j := 0) rfl) ?_
    walk_at "go"
    rw [decide_eq_true rfl]
    walk_at "go"
    have l2 : (((V.str s :: ys).length : Nat) : Int) = (ps.length : Int) + 1 := by simp [ly]
    refine g_forR2 (by omega) (fun i σ H' => ∃ o : Option V, σ = [some (.ref a), some (.ref b), o] ∧ H' = H) ⟨none, rfl, rfl⟩ ?_ ?_
    · rintro i σ H' hi ⟨o, rfl, rfl⟩
      have hlt : i < ps.length := by omega
      obtain ⟨g, hg1⟩ : ∃ g, ps[i]? = some g := ⟨ps[i], List.getElem?_eq_getElem hlt⟩
      obtain ⟨x, hx1, hx2⟩ := hxs.get' hg1
      obtain ⟨y, hy1, hy2⟩ := hys.get' hg1
      have hmem := List.mem_of_getElem? hg1
      have hd1 := Fm.depth_mem hmem
      have hs1 := Fm.sizes_mem hmem
      have e1 : (1 : Int) + (i : Int) = ((i + 1 : Nat) : Int) := by omega
      rw [e1]
      walk_at "go"
      refine g_ixT ha (atI_nat (by rw [List.getElem?_cons_succ]; exact hx1)) ?_
      walk_at "go"
      refine g_ixT hb (atI_nat (by rw [List.getElem?_cons_succ]; exact hy1)) ?_
      walk_at "go"
      refine ⟨x, y, g, rfl, hx2, hy2, by omega, by omega, ?_⟩
      walk_at "go"
      exact ⟨_, rfl, rfl⟩
    · rintro σ H' ⟨o, rfl, rfl⟩
      walk_at "go"
      exact k
end My

namespace My
open PySem PySem.Spec PyProof.Rows L2
/-! ### reading, plainly -/
def isDg (c : Nat) : Bool := decide (c ∈ tl ("0123456789" : Str))
def isLt (c : Nat) : Bool := decide (c ∈ tl ("abcdefghijklmnopqrstuvwxyz" : Str))
theorem digits_tl : tl ("0123456789" : Str) = [48, 49, 50, 51, 52, 53, 54, 55, 56, 57] := by decide +kernel
theorem isDg_iff {c : Nat} : isDg c = true ↔ 48 ≤ c ∧ c ≤ 57 := by
  unfold isDg
  rw [digits_tl, decide_eq_true_iff]
  simp
  omega
theorem isLt_iff {c : Nat} : isLt c = true ↔ 97 ≤ c ∧ c ≤ 122 := by
  unfold isLt
  rw [letters_tl, decide_eq_true_iff]
  simp
  constructor
  · rintro ⟨a, h, rfl⟩; omega
  · intro h; exact ⟨c - 97, by omega, by omega⟩
def endOf (p : Nat → Bool) (L : List Nat) (e : Nat) : Nat := e + ((L.drop e).takeWhile p).length
theorem endOf_ge (p : Nat → Bool) (L : List Nat) (e : Nat) : e ≤ endOf p L e := Nat.le_add_right _ _
theorem tw_len (p : Nat → Bool) : ∀ l : List Nat, (l.takeWhile p).length ≤ l.length
  | [] => Nat.le_refl _
  | x :: l => by
    rw [List.takeWhile_cons]
    cases p x
    · simp
    · simp; exact tw_len p l
theorem endOf_le {p : Nat → Bool} {L : List Nat} {e : Nat} (h : e ≤ L.length) : endOf p L e ≤ L.length := by
  have := tw_len p (L.drop e)
  rw [List.length_drop] at this
  unfold endOf
  omega
theorem tw_take (p : Nat → Bool) : ∀ l : List Nat, l.take (l.takeWhile p).length = l.takeWhile p
  | [] => rfl
  | x :: l => by
    rw [List.takeWhile_cons]
    cases p x
    · simp
    · simp; exact tw_take p l
def cutL (L : List Nat) (s e : Nat) : List Nat := (L.drop s).take (e - s)
theorem cutL_end (p : Nat → Bool) (L : List Nat) (s : Nat) : cutL L s (endOf p L s) = (L.drop s).takeWhile p := by
  unfold cutL endOf
  rw [show s + ((L.drop s).takeWhile p).length - s = ((L.drop s).takeWhile p).length by omega, tw_take]
def numOf (l : List Nat) : Int := l.foldl (fun (a : Int) (c : Nat) => 10 * a + ((c : Int) - 48)) 0
def loopP (P : Nat → Option (Fm × Nat)) (L : List Nat) : Nat → List Nat → Nat → Option (List Fm × Nat)
  | 0, _, e => some ([], e)
  | m + 1, mark, e => if (L.drop e).take mark.length = mark then (match P (e + mark.length) with
      | none => none
      | some q => (loopP P L m [44, 32] q.2).map fun r => (q.1 :: r.1, r.2))
    else some ([], e)
/-- what follows the parts -/
def closeP (w : Str) (L : List Nat) : Option (List Fm × Nat) → Option (Fm × Nat)
  | none => none
  | some ([], e) => some (.node w [], e)
  | some (p :: ps, e) => if L[e]? = some 41 then some (.node w (p :: ps), e + 1) else none
def parse (L : List Nat) : Nat → Nat → Option (Fm × Nat)
  | 0, _ => none
  | n + 1, s => if s < endOf isDg L s ∧ endOf isDg L s ≤ s + 2 then some (.hole (numOf (cutL L s (endOf isDg L s))), endOf isDg L s)
    else if 1 ≤ endOf isLt L s - s ∧ endOf isLt L s - s ≤ 8 then closeP ⟨(cutL L s (endOf isLt L s)).toArray⟩ L (loopP (parse L n) L (L.length + 1) [40] (endOf isLt L s))
    else none
/-! what is read is a form -/
structure POk (L : List Nat) (n s : Nat) (f : Fm) (e : Nat) : Prop where
  ok : f.ok
  ge : s < e
  le : e ≤ L.length
  sz : f.size ≤ e - s
  dp : f.depth ≤ n
theorem numOf_rng {l : List Nat} (h : ∀ c ∈ l, isDg c = true) (h1 : 1 ≤ l.length) (h2 : l.length ≤ 2) : 0 ≤ numOf l ∧ numOf l ≤ 99 := by
  match l, h1, h2 with
  | [a], _, _ =>
    have := isDg_iff.mp (h a (by simp))
    simp [numOf]; omega
  | [a, b], _, _ =>
    have := isDg_iff.mp (h a (by simp))
    have := isDg_iff.mp (h b (by simp))
    simp [numOf]; omega
theorem tw_all (p : Nat → Bool) : ∀ (l : List Nat) (c : Nat), c ∈ l.takeWhile p → p c = true
  | x :: l, c, h => by
    rw [List.takeWhile_cons] at h
    cases e : p x with
    | false => rw [e] at h; simp at h
    | true =>
      rw [e] at h
      simp at h
      rcases h with rfl | h
      · exact e
      · exact tw_all p l c h
theorem take_mark {L : List Nat} {e : Nat} {mark : List Nat} (h : (L.drop e).take mark.length = mark) (h1 : 1 ≤ mark.length) : e + mark.length ≤ L.length := by
  have := congrArg List.length h
  rw [List.length_take, List.length_drop] at this
  omega
theorem loopP_ok {P : Nat → Option (Fm × Nat)} {L : List Nat} {n : Nat} (hP : ∀ s f e, s ≤ L.length → P s = some (f, e) → POk L n s f e) : ∀ (m : Nat) (mark : List Nat) (e : Nat) (ps : List Fm) (e' : Nat), 1 ≤ mark.length → e ≤ L.length → loopP P L m mark e = some (ps, e') → Fm.oks ps ∧ e ≤ e' ∧ e' ≤ L.length ∧ Fm.sizes ps ≤ e' - e ∧ Fm.depths ps ≤ n
  | 0, mark, e, ps, e', _, he, h => by
    simp only [loopP] at h
    cases h
    simp [Fm.oks, Fm.sizes, Fm.depths, he]
  | m + 1, mark, e, ps, e', hm, he, h => by
    simp only [loopP] at h
    by_cases q : (L.drop e).take mark.length = mark
    · rw [if_pos q] at h
      cases q2 : P (e + mark.length) with
      | none => rw [q2] at h; cases h
      | some r =>
        obtain ⟨f, e1⟩ := r
        rw [q2] at h
        have h1 := hP _ f e1 (take_mark q hm) q2
        cases q3 : loopP P L m [44, 32] e1 with
        | none => simp [q3] at h
        | some t =>
          obtain ⟨qs, e2⟩ := t
          simp [q3] at h
          obtain ⟨rfl, rfl⟩ := h
          have h2 := loopP_ok hP m [44, 32] e1 qs e2 (by decide) h1.le q3
          have := h1.ge
          have := h1.sz
          have := h1.dp
          simp only [Fm.oks, Fm.sizes, Fm.depths]
          exact ⟨⟨h1.ok, h2.1⟩, by omega, by omega, by omega, by omega⟩
    · rw [if_neg q] at h
      cases h
      simp [Fm.oks, Fm.sizes, Fm.depths, he]
theorem word_good {L : List Nat} {s : Nat} (h1 : 1 ≤ endOf isLt L s - s) (h2 : endOf isLt L s - s ≤ 8) : Good ⟨(cutL L s (endOf isLt L s)).toArray⟩ := by
  have e : tl ⟨(cutL L s (endOf isLt L s)).toArray⟩ = (L.drop s).takeWhile isLt := by show (cutL L s (endOf isLt L s)).toArray.toList = _; rw [← cutL_end]
  have hl : ((L.drop s).takeWhile isLt).length = endOf isLt L s - s := by unfold endOf; omega
  refine ⟨?_, ?_, fun c hc => ?_⟩
  · rw [tl_len, e, hl]; exact h1
  · rw [tl_len, e, hl]; exact h2
  · rw [e] at hc
    exact isLt_iff.mp (tw_all _ _ _ hc)
theorem parse_ok {L : List Nat} : ∀ (n s : Nat) (f : Fm) (e : Nat), s ≤ L.length → parse L n s = some (f, e) → POk L n s f e
  | 0, s, f, e, _, h => by simp [parse] at h
  | n + 1, s, f, e, hs, h => by
    simp only [parse] at h
    by_cases q : s < endOf isDg L s ∧ endOf isDg L s ≤ s + 2
    · rw [if_pos q] at h
      cases h
      have hl : (cutL L s (endOf isDg L s)).length = endOf isDg L s - s := by rw [cutL_end]; unfold endOf; omega
      have := numOf_rng (l := cutL L s (endOf isDg L s)) (fun c hc => by rw [cutL_end] at hc; exact tw_all _ _ _ hc) (by omega) (by omega)
      exact ⟨by simp only [Fm.ok]; omega, q.1, endOf_le hs, by simp only [Fm.size]; omega, by simp only [Fm.depth]; omega⟩
    · rw [if_neg q] at h
      by_cases q2 : 1 ≤ endOf isLt L s - s ∧ endOf isLt L s - s ≤ 8
      · rw [if_pos q2] at h
        have hg := word_good q2.1 q2.2
        cases q3 : loopP (parse L n) L (L.length + 1) [40] (endOf isLt L s) with
        | none => rw [q3] at h; simp [closeP] at h
        | some t =>
          obtain ⟨ps, e1⟩ := t
          have h2 := loopP_ok (fun s f e hs h => parse_ok n s f e hs h) (L.length + 1) [40] _ ps e1 (by decide) (endOf_le hs) q3
          rw [q3] at h
          cases ps with
          | nil =>
            simp only [closeP] at h
            cases h
            exact ⟨by simp only [Fm.ok, Fm.oks]; exact ⟨hg, trivial⟩, by omega, h2.2.2.1, by simp only [Fm.size, Fm.sizes]; omega, by simp only [Fm.depth, Fm.depths]; omega⟩
          | cons p ps =>
            simp only [closeP] at h
            by_cases q4 : L[e1]? = some 41
            · rw [if_pos q4] at h
              cases h
              have := (List.getElem?_eq_some_iff.mp q4).1
              exact ⟨by simp only [Fm.ok]; exact ⟨hg, h2.1⟩, by omega, by omega, by simp only [Fm.size]; omega, by simp only [Fm.depth]; omega⟩
            · rw [if_neg q4] at h; cases h
      · rw [if_neg q2] at h; cases h
/-! a written form is read -/
def Fin (r : List Nat) : Prop := ∀ c, r.head? = some c → c = 41 ∨ c = 44
theorem tw_app {p : Nat → Bool} : ∀ (l r : List Nat), (∀ c ∈ l, p c = true) → (∀ c, r.head? = some c → p c = false) → (l ++ r).takeWhile p = l
  | [], r, _, h => by
    cases r with
    | nil => rfl
    | cons c r => simp [List.takeWhile_cons, h c rfl]
  | x :: l, r, h, h2 => by
    simp only [List.cons_append, List.takeWhile_cons, h x (by simp), if_true]
    rw [tw_app l r (fun c hc => h c (List.mem_cons_of_mem _ hc)) h2]
theorem endOf_app {p : Nat → Bool} {L : List Nat} {s : Nat} {l r : List Nat} (e : L.drop s = l ++ r) (h : ∀ c ∈ l, p c = true) (h2 : ∀ c, r.head? = some c → p c = false) : endOf p L s = s + l.length := by
  unfold endOf
  rw [e, tw_app l r h h2]
theorem cutL_app {L : List Nat} {s : Nat} {l r : List Nat} (e : L.drop s = l ++ r) : cutL L s (s + l.length) = l := by
  unfold cutL
  rw [e, show s + l.length - s = l.length by omega, List.take_left]
theorem drop_app {L : List Nat} {s : Nat} {l r : List Nat} (e : L.drop s = l ++ r) : L.drop (s + l.length) = r := by
  rw [← List.drop_drop, e, List.drop_left]
theorem numL_dg {n : Nat} (h : n < 100) : (∀ c ∈ TL.numL n, isDg c = true) ∧ numOf (TL.numL n) = n ∧ 1 ≤ (TL.numL n).length := by
  by_cases h1 : n < 10
  · rw [TL.numL_lt h1]
    refine ⟨fun c hc => ?_, ?_, by simp⟩
    · simp at hc; subst hc; exact isDg_iff.mpr (by omega)
    · simp [numOf]; omega
  · rw [TL.numL_step (by omega), TL.numL_lt (by omega)]
    refine ⟨fun c hc => ?_, ?_, by simp⟩
    · simp at hc
      rcases hc with rfl | rfl <;> exact isDg_iff.mpr (by omega)
    · simp [numOf]; omega
theorem fin_not {p : Nat → Bool} (h41 : p 41 = false) (h44 : p 44 = false) {r : List Nat} (h : Fin r) : ∀ c, r.head? = some c → p c = false := fun c hc => by
  rcases h c hc with rfl | rfl
  · exact h41
  · exact h44
theorem dg41 : isDg 41 = false := by decide +kernel
theorem dg44 : isDg 44 = false := by decide +kernel
theorem lt41 : isLt 41 = false := by decide +kernel
theorem lt44 : isLt 44 = false := by decide +kernel
theorem lt40 : isLt 40 = false := by decide +kernel
theorem fin_wt {ps : List Fm} {r : List Nat} : Fin (Fm.wt ps ++ 41 :: r) := fun c hc => by
  cases ps with
  | nil => simp [Fm.wt] at hc; exact .inl hc.symm
  | cons p ps => simp [Fm.wt] at hc; exact .inr hc.symm
theorem loopP_wt {P : Nat → Option (Fm × Nat)} {L : List Nat} : ∀ (ps : List Fm) (m e : Nat) (r : List Nat), (∀ p ∈ ps, ∀ s r, L.drop s = p.wl ++ r → Fin r → P s = some (p, s + p.wl.length)) → ps.length < m →
    L.drop e = Fm.wt ps ++ 41 :: r → loopP P L m [44, 32] e = some (ps, e + (Fm.wt ps).length)
  | [], 0, e, r, _, h, _ => by simp at h
  | [], m + 1, e, r, _, _, h => by
    simp only [loopP]
    rw [h]
    simp [Fm.wt]
  | p :: ps, 0, e, r, _, h, _ => by simp at h
  | p :: ps, m + 1, e, r, hP, hm, h => by
    have h0 : L.drop e = [44, 32] ++ (p.wl ++ (Fm.wt ps ++ 41 :: r)) := by rw [h]; simp [Fm.wt]
    simp only [loopP]
    rw [if_pos (by rw [h0]; simp)]
    have h1 := drop_app h0
    have h2 := hP p (by simp) (e + 2) _ h1 fin_wt
    rw [show e + ([44, 32] : List Nat).length = e + 2 from rfl, h2]
    simp only
    have h3 : L.drop (e + 2 + p.wl.length) = Fm.wt ps ++ 41 :: r := drop_app h1
    rw [loopP_wt ps m _ r (fun q hq => hP q (by simp [hq])) (by simp at hm; omega) h3]
    simp [Fm.wt]
    omega
theorem parse_wl {L : List Nat} : ∀ (n : Nat) (f : Fm) (s : Nat) (r : List Nat), f.ok → f.depth ≤ n → L.drop s = f.wl ++ r → Fin r → parse L n s = some (f, s + f.wl.length)
  | 0, f, s, r, _, h, _, _ => by have := f.depth_pos; omega
  | n + 1, .hole i, s, r, hok, hd, h, hr => by
    simp only [Fm.ok] at hok
    simp only [Fm.wl] at h ⊢
    obtain ⟨d1, d2, d3⟩ := numL_dg (n := i.toNat) (by omega)
    have hl := numL_le i.toNat (by omega)
    have e1 := endOf_app h d1 (fin_not dg41 dg44 hr)
    simp only [parse]
    rw [e1, if_pos ⟨by omega, by omega⟩, cutL_app h, d2, Int.toNat_of_nonneg hok.1]
  | n + 1, .node w ps, s, r, hok, hd, h, hr => by
    simp only [Fm.ok] at hok
    simp only [Fm.depth] at hd
    simp only [Fm.wl, List.append_assoc] at h ⊢
    have hlow := hok.1.low
    have hpos := hok.1.pos
    have hmost := hok.1.most
    rw [tl_len] at hpos hmost
    have hw : ∀ c ∈ tl w, isLt c = true := fun c hc => isLt_iff.mpr (hlow c hc)
    have e1 : endOf isDg L s = s := by
      have := endOf_app (p := isDg) (L := L) (s := s) (l := []) (r := tl w ++ (Fm.wa ps ++ r)) h (fun c hc => nomatch hc) (fun c hc => by
        cases q : tl w with
        | nil => rw [q] at hpos; simp at hpos
        | cons x xs =>
          rw [q] at hc
          simp at hc
          subst hc
          have := hlow x (by rw [q]; simp)
          cases q2 : isDg x with
          | false => rfl
          | true => have := isDg_iff.mp q2; omega)
      simpa using this
    have hnl : ∀ c, (Fm.wa ps ++ r).head? = some c → isLt c = false := fun c hc => by
      cases ps with
      | nil => simp [Fm.wa] at hc; exact fin_not lt41 lt44 hr c hc
      | cons p ps => simp [Fm.wa] at hc; rw [← hc]; exact lt40
    have e2 := endOf_app h hw hnl
    have h2 := drop_app h
    have ew : (⟨(cutL L s (s + (tl w).length)).toArray⟩ : Str) = w := tl_ext (by show (cutL L s (s + (tl w).length)).toArray.toList = _; rw [cutL_app h])
    simp only [parse]
    rw [e1, if_neg (by omega), e2, if_pos ⟨by omega, by omega⟩, ew]
    cases ps with
    | nil =>
      have : loopP (parse L n) L (L.length + 1) [40] (s + (tl w).length) = some ([], s + (tl w).length) := by
        simp only [loopP]
        rw [if_neg]
        rw [h2]
        intro z
        have hh : (Fm.wa [] ++ r).head? = some 40 := by
          cases q : (Fm.wa [] ++ r) with
          | nil => rw [q] at z; simp at z
          | cons x xs => rw [q] at z; simp at z; simp [z]
        have := hr 40 (by simpa [Fm.wa] using hh)
        omega
      rw [this]
      simp [closeP, Fm.wa]
    | cons p ps =>
      simp only [Fm.oks] at hok
      simp only [Fm.depths] at hd
      have h3 : L.drop (s + (tl w).length) = [40] ++ (p.wl ++ (Fm.wt ps ++ 41 :: r)) := by rw [h2]; simp [Fm.wa]
      have h4 := drop_app h3
      have h5 := parse_wl n p _ _ hok.2.1 (by omega) h4 fin_wt
      have h6 := drop_app h4
      have hlen : ps.length < L.length := by
        have := congrArg List.length h3
        rw [List.length_drop] at this
        have l2 : ∀ qs : List Fm, qs.length ≤ (Fm.wt qs).length := by
          intro qs
          induction qs with
          | nil => simp
          | cons q qs ih => simp [Fm.wt]; omega
        have := l2 ps
        simp at *
        omega
      have h7 := loopP_wt (P := parse L n) ps L.length _ r (fun q hq s r h hr => parse_wl n q s r (Fm.ok_mem hok.2.2 hq) (by have := Fm.depth_mem hq; omega) h hr) hlen h6
      have h8 := drop_app h6
      have : loopP (parse L n) L (L.length + 1) [40] (s + (tl w).length) = some (p :: ps, s + (tl w).length + 1 + p.wl.length + (Fm.wt ps).length) := by
        simp only [loopP]
        rw [if_pos (by rw [h3]; simp), show s + (tl w).length + ([40] : List Nat).length = s + (tl w).length + 1 from rfl]
        have h5' : parse L n (s + (tl w).length + 1) = some (p, s + (tl w).length + 1 + p.wl.length) := h5
        rw [h5']
        simp only
        have h7' : loopP (parse L n) L L.length [44, 32] (s + (tl w).length + 1 + p.wl.length) = some (ps, s + (tl w).length + 1 + p.wl.length + (Fm.wt ps).length) := h7
        rw [h7']
        rfl
      rw [this]
      have h9 : L[s + (tl w).length + 1 + p.wl.length + (Fm.wt ps).length]? = some 41 := by
        have h8' : L.drop (s + (tl w).length + 1 + p.wl.length + (Fm.wt ps).length) = 41 :: r := h8
        rw [← List.head?_drop, h8']
        rfl
      simp only [closeP]
      rw [if_pos h9]
      simp [Fm.wa]
      omega
end My

namespace My
open PySem PySem.Spec PyProof.Rows L2
local macro_rules | `(tactic| walk_at "g1") => `(tactic| first
  | with_reducible refine My.g_seq ?_
  | with_reducible refine My.g_asg ?_
  | with_reducible refine My.g_name ?_
  | ((with_reducible refine' My.g_var ?ga ?gb); (case ga => rfl))
  | with_reducible refine My.g_c ?_
  | with_reducible refine My.g_op ?_
  | with_reducible refine My.g_cb ?_
  | with_reducible refine My.g_cons ?_
  | with_reducible refine My.g_nil ?_
  | with_reducible refine My.g_ifS ?_
  | with_reducible refine My.g_ret ?_
  | with_reducible refine My.g_drop ?_
  | with_reducible refine My.g_test ?_
  | with_reducible refine My.g_B ?_
  | with_reducible refine My.g_bl ?_
  | with_reducible refine My.g_int1 ?_
  | with_reducible refine My.g_rI0 ?_
  | ((with_reducible refine My.g_rI ?ga ?gb); (case ga => first | decide | (unfold CMul; omega) | (unfold CDiv; omega) | (unfold CPow; decide) | (unfold CPow; omega) | omega))
  | with_reducible refine My.g_eqI ?_
  | with_reducible refine My.g_neI ?_
  | with_reducible refine My.g_eqS ?_
  | with_reducible refine My.g_neS ?_
  | with_reducible refine My.g_neB ?_
  | with_reducible refine My.g_tr ?_
  | with_reducible refine My.g_fa ?_
  | with_reducible refine My.g_ntr ?_
  | with_reducible refine My.g_nfa ?_
  | with_reducible refine My.g_next ?_
  | with_reducible refine My.g_bm ?_
  | with_reducible refine My.g_bm0 ?_
  | ((with_reducible refine' My.g_tyL ?ga ?gb); (case ga => assumption))
  | with_reducible refine My.g_not ?_
  | with_reducible refine My.g_and ?_
  | with_reducible refine My.g_or ?_
  | with_reducible refine My.g_andV ?_
  | with_reducible refine My.g_orV ?_
  | with_reducible refine My.g_notV ?_
  | with_reducible refine My.g_ifE ?_
  | with_reducible refine My.g_chain ?_
  | with_reducible refine My.g_un ?_
  | with_reducible refine My.g_rU ?_
  | with_reducible refine My.g_sl ?_
  | with_reducible refine My.g_part ?_
  | with_reducible refine My.g_nopart ?_
  | with_reducible refine My.g_exI ?_
  | with_reducible refine My.g_abs ?_
  | with_reducible refine My.g_int1b ?_
  | with_reducible refine My.g_tupT ?_
  | with_reducible refine My.g_lstT ?_
  | with_reducible refine My.g_yes ?_
  | with_reducible refine My.g_joined ?_
  | with_reducible refine My.g_jc ?_
  | with_reducible refine My.g_jn ?_
  | with_reducible refine My.g_fmt ?_
  | with_reducible refine My.g_m1 ?_
  | with_reducible refine My.g_m1s ?_
  | with_reducible refine My.g_for ?_
  | with_reducible refine My.g_lc ?_
  | with_reducible refine My.g_iL ?_
  | with_reducible refine My.g_iT ?_
  | with_reducible refine My.g_iR ?_
  | with_reducible refine My.g_iR2 ?_
  | with_reducible refine My.g_call ?_
  | with_reducible refine My.g_isN ?_
  | with_reducible refine My.g_notN ?_
  | with_reducible refine My.g_retN ?_
  | with_reducible refine My.g_iS ?_
  | with_reducible refine My.g_gcons ?_
  | with_reducible refine My.g_gnil ?_
  | with_reducible refine My.g_ipI ?_
  | with_reducible refine My.g_tru ?_
  | ((with_reducible refine' My.g_augV ?ga ?gb); (case ga => rfl))
  | with_reducible refine My.g_dget ?_
  | with_reducible refine My.g_dget2 ?_
  | with_reducible refine My.g_din ?_
  | with_reducible refine My.g_dnin ?_
  | with_reducible refine My.g_dput ?_
  | with_reducible refine My.g_star ?_
  | with_reducible refine My.g_rev2 ?_
  | ((with_reducible refine' My.g_lenL ?ga ?gb); (case ga => assumption))
  | ((with_reducible refine' My.g_lenT ?ga ?gb); (case ga => assumption)))
local macro_rules | `(tactic| walk_at "go") => `(tactic| repeat walk_at "g1")

theorem str_get {z : Str} {i : Nat} {c : Nat} (h : (tl z)[i]? = some c) : atI z.cps.toList (i : Int) = some c := atI_nat h
theorem endOf_step {p : Nat → Bool} {L : List Nat} {e c : Nat} (h : L[e]? = some c) (hp : p c = true) : endOf p L (e + 1) = endOf p L e := by
  obtain ⟨h1, h2⟩ := List.getElem?_eq_some_iff.mp h
  unfold endOf
  rw [List.drop_eq_getElem_cons h1, h2, List.takeWhile_cons, hp]
  simp
  omega
theorem endOf_stop {p : Nat → Bool} {L : List Nat} {e c : Nat} (h : L[e]? = some c) (hp : p c = false) : endOf p L e = e := by
  obtain ⟨h1, h2⟩ := List.getElem?_eq_some_iff.mp h
  unfold endOf
  rw [List.drop_eq_getElem_cons h1, h2, List.takeWhile_cons, hp]
  simp
theorem endOf_end {p : Nat → Bool} {L : List Nat} {e : Nat} (h : L.length ≤ e) : endOf p L e = e := by
  unfold endOf
  rw [List.drop_eq_nil_iff.mpr h]
  simp
def t_endof (K : PySem.W.Frag) : TS := (tSeq (tAsg (tVar 1) (gName 3))
  (tSeq (tWhile (tAnd (tTest (tOp rLtI (tVar 3) (tCB rLenStr (tCons (tVar 0) tNil)))) (tTest (tOp rInS_ (tOp rIxS (tVar 0) (tVar 3)) (tVar 2))))
  (tAug 3 (tC (.int 1)) (ipI fun i j => i + j)))
  (tRet (tVar 3))))
abbrev N_endof : List Str := ["text", "start", "chars", "end"]
def sp_endof (K : PySem.W.Frag) : Sp := fun vs H Q _ => ∃ (z ch : Str) (s : Nat), vs = [.str z, .int (s : Int), .str ch] ∧ s ≤ z.length ∧ z.length ≤ 100000 ∧ Q (.int ((endOf (fun c => decide (c ∈ tl ch)) (tl z) s : Nat) : Int)) H
theorem len_endof {K : PySem.W.Frag} {vs : List V} {H : Hp} {Q : VK} {E : XK} (h : sp_endof K vs H Q E) : vs.length = 3 := by obtain ⟨_, _, _, rfl, _⟩ := h; rfl
theorem rd_endof {K : PySem.W.Frag} {vs : List V} {H : Hp} {Q : VK} {E : XK} (h : sp_endof K vs H Q E) : t_endof K { nx := fun _ H' => Q .non H', rt := Q } (start N_endof vs) H := by
  obtain ⟨z, ch, s, rfl, hs, hz, k⟩ := h
  unfold t_endof
  walk_at "go"
  refine g_while (fun m σ H' => ∃ e : Nat, m = z.length - e ∧ e ≤ z.length ∧ σ = [some (.str z), some (.int (s : Int)), some (.str ch), some (.int (e : Int))] ∧ H' = H ∧ endOf (fun c => decide (c ∈ tl ch)) (tl z) e = endOf (fun c => decide (c ∈ tl ch)) (tl z) s) ⟨s, rfl, hs, rfl, rfl, rfl⟩ ?_
  rintro m σ H' ⟨e, rfl, he, rfl, rfl, ee⟩
  walk_at "go"
  refine g_lenS (big (by omega)) ?_
  walk_at "go"
  refine g_2 (fun b => ?_) (fun b => ?_)
  · have b : (e : Int) < (z.length : Int) := of_decide_eq_true b
    have hlt : e < (tl z).length := by rw [← tl_len]; omega
    have hc : (tl z)[e]? = some (tl z)[e] := List.getElem?_eq_getElem hlt
    walk_at "go"
    refine g_ixS (big (by omega)) (str_get hc) ?_
    walk_at "go"
    refine g_inS ?_
    walk_at "go"
    refine g_2 (fun b2 => ?_) (fun b2 => ?_)
    · refine ⟨_, fun _ _ q => q, ?_⟩
      walk_at "go"
      exact ⟨_, by omega, e + 1, rfl, by omega, by simp [List.set], rfl, by rw [endOf_step hc b2]; exact ee⟩
    · walk_at "go"
      rw [← ee, endOf_stop hc b2] at k
      exact k
  · have b : ¬ (e : Int) < (z.length : Int) := of_decide_eq_false b
    walk_at "go"
    rw [← ee, endOf_end (by rw [← tl_len]; omega)] at k
    exact k
/-! ### numbers of one or two digits -/
theorem int_1 : ∀ a < 10, PySem.intText? ⟨#[48 + a]⟩ = some ((a : Nat) : Int) := by decide +kernel
theorem int_2 : ∀ a < 10, ∀ b < 10, PySem.intText? ⟨#[48 + a, 48 + b]⟩ = some ((10 * a + b : Nat) : Int) := by decide +kernel
theorem int_of {x : Str} (h : ∀ c ∈ tl x, isDg c = true) (h1 : 1 ≤ (tl x).length) (h2 : (tl x).length ≤ 2) : PySem.intText? x = some (numOf (tl x)) := by
  match e : tl x, h1, h2 with
  | [a], _, _ =>
    have ha := isDg_iff.mp (h a (by rw [e]; simp))
    have : x = ⟨#[48 + (a - 48)]⟩ := tl_ext (by rw [e]; show [a] = [48 + (a - 48)]; rw [show 48 + (a - 48) = a by omega])
    rw [this, int_1 _ (by omega)]
    simp [numOf]; omega
  | [a, b], _, _ =>
    have ha := isDg_iff.mp (h a (by rw [e]; simp))
    have hb := isDg_iff.mp (h b (by rw [e]; simp))
    have : x = ⟨#[48 + (a - 48), 48 + (b - 48)]⟩ := tl_ext (by rw [e]; show [a, b] = [48 + (a - 48), 48 + (b - 48)]; rw [show 48 + (a - 48) = a by omega, show 48 + (b - 48) = b by omega])
    rw [this, int_2 _ (by omega) _ (by omega)]
    simp [numOf]; omega
theorem sIx_nat {n d i : Nat} : HT.sIx n d (some (i : Int)) = min i n := by
  simp only [HT.sIx]
  rw [if_neg (by omega)]
  simp
theorem cut_any {z : Str} {s e : Nat} : tl (cutS z (some (s : Int)) (some (e : Int))) = ((tl z).drop s).take (e - s) := by
  rw [tl_cut, sIx_nat, sIx_nat]
  have hl := tl_len z
  by_cases hs : s ≤ z.length
  · rw [Nat.min_eq_left hs]
    by_cases he : e ≤ z.length
    · rw [Nat.min_eq_left he]
    · rw [Nat.min_eq_right (by omega), List.take_of_length_le (by rw [List.length_drop]; omega), List.take_of_length_le (by rw [List.length_drop]; omega)]
  · have h : min s z.length = z.length := by omega
    rw [h, List.drop_eq_nil_iff.mpr (by omega), List.drop_eq_nil_iff.mpr (by omega)]
    simp
theorem cut_tl {z : Str} {s e : Nat} : tl (cutS z (some (s : Int)) (some (e : Int))) = cutL (tl z) s e := cut_any
def cnt (L : List Nat) (e : Nat) : Nat := (L.drop e).count 40
theorem cnt_mono (L : List Nat) {s e : Nat} (h : s ≤ e) : cnt L e ≤ cnt L s := by
  unfold cnt
  obtain ⟨k, rfl⟩ : ∃ k, e = s + k := ⟨e - s, by omega⟩
  rw [← List.drop_drop]
  exact (List.drop_sublist k _).count_le 40
theorem cnt_hit {L : List Nat} {e : Nat} (h : (L.drop e).take 1 = [40]) : cnt L (e + 1) + 1 = cnt L e := by
  unfold cnt
  cases q : L.drop e with
  | nil => rw [q] at h; simp at h
  | cons x xs =>
    rw [q] at h
    simp at h
    subst h
    rw [← List.drop_drop, q]
    simp
theorem par_tl : tl ("(" : Str) = [40] := by decide +kernel
theorem sep_tl : tl (", " : Str) = [44, 32] := by decide +kernel
theorem cls_tl : tl (")" : Str) = [41] := by decide +kernel
/-- what stands at the text's end when the reading fails -/
def Bad (K : PySem.W.Frag) (H : Hp) (E : XK) (z : Str) : Prop := False
def t_part (K : PySem.W.Frag) (r : Sp) : TS := (tSeq (tAsg (tCall (sp_endof K) [] E0 (tCons (tVar 0) (tCons (tVar 1) (tCons (tC (.str "0123456789")) tNil)))) (gName 2))
  (tCut (tIfS (tTest (tChain rLtI rLeI (tVar 1) (tVar 2) (tOp rAddI (tVar 1) (tC (.int 2))))) (tRet (tTup (tCons (tCB rIntStr (tCons (tSl rSlS (tVar 0) (tPart (tVar 1)) (tPart (tVar 2))) tNil)) (tCons (tVar 2) tNil))))
  tNext)
  (tSeq (tAsg (tCall (sp_endof K) [] E0 (tCons (tVar 0) (tCons (tVar 1) (tCons (tC (.str "abcdefghijklmnopqrstuvwxyz")) tNil)))) (gName 2))
  (tCut (tIfS (tNot (tB (tCall (sp_word K) [] E0 (tCons (tSl rSlS (tVar 0) (tPart (tVar 1)) (tPart (tVar 2))) tNil)))) My.tNever
  tNext)
  (tSeq (tAsg (tLst tNil) (gName 3))
  (tSeq (tAsg (tC (.str "(")) (gName 4))
  (tCut (tWhile (tTest (tOp rEq (tSl rSlS (tVar 0) (tPart (tVar 2)) (tPart (tOp rAddI (tVar 2) (tCB rLenStr (tCons (tVar 4) tNil))))) (tVar 4)))
  (tSeq (tAsg (tCall r [] E0 (tCons (tVar 0) (tCons (tOp rAddI (tVar 2) (tCB rLenStr (tCons (tVar 4) tNil))) tNil))) (gTup K 2 (gCons (gName 5) (gCons (gName 2) gNil))))
  (tSeq (tDrop (tBM K "list" rAppend (tVar 3) (tCons (tVar 5) tNil)))
  (tAsg (tC (.str ", ")) (gName 4)))))
  (tCut (tIfS (tTru_ K (tVar 3)) (tSeq (tIfS (tTest (tOp rNe (tSl rSlS (tVar 0) (tPart (tVar 2)) (tPart (tOp rAddI (tVar 2) (tC (.int 1))))) (tC (.str ")")))) My.tNever
  tNext)
  (tAug 2 (tC (.int 1)) (ipI fun i j => i + j)))
  tNext)
  (tRet (tTup (tCons (tTup (tCons (tSl rSlS (tVar 0) (tPart (tVar 1)) (tPart (tCall (sp_endof K) [] E0 (tCons (tVar 0) (tCons (tVar 1) (tCons (tC (.str "abcdefghijklmnopqrstuvwxyz")) tNil)))))) (StX.tStar K (tVar 3) tNil))) (tCons (tVar 2) tNil))))))))))))
abbrev N_part : List Str := ["text", "start", "end", "parts", "mark", "part"]
def sp_part (K : PySem.W.Frag) (n : Nat) : Sp := fun vs H Q E => ∃ (z : Str) (s : Nat), vs = [.str z, .int (s : Int)] ∧ s ≤ z.length ∧ z.length ≤ 100000 ∧ cnt (tl z) s < n ∧
  (∀ f e, parse (tl z) n s = some (f, e) → ∀ (v : V) (p : Addr) (H' : Hp), Ext H H' → IsF H' f v → H' p = some (.tup [v, .int (e : Int)]) → Q (.ref p) H') ∧ (parse (tl z) n s = none → Bad K H E z)
theorem len_part {K : PySem.W.Frag} {n : Nat} {vs : List V} {H : Hp} {Q : VK} {E : XK} (h : sp_part K n vs H Q E) : vs.length = 2 := by obtain ⟨_, _, rfl, _⟩ := h; rfl
theorem no_part {K : PySem.W.Frag} (vs : List V) (H : Hp) (Q : VK) (E : XK) : ¬ sp_part K 0 vs H Q E := by
  rintro ⟨_, _, _, _, _, h, _⟩
  omega
theorem closeP_none {w : Str} {L : List Nat} : closeP w L none = none := rfl
theorem rd_part {K : PySem.W.Frag} {n : Nat} {vs : List V} {H : Hp} {Q : VK} {E : XK} (h : sp_part K (n + 1) vs H Q E) : t_part K (sp_part K n) { nx := fun _ H' => Q .non H', rt := Q } (start N_part vs) H := by
  obtain ⟨z, s, rfl, hs, hz, hc, k, kb⟩ := h
  have hL : (tl z).length = z.length := (tl_len z).symm
  have bad_up : ∀ {H' : Hp}, Bad K H E z → Ext H H' → Bad K H' E z := fun h _ => h
  unfold t_part
  walk_at "go"
  have e1 := endOf_ge isDg (tl z) s
  have e2 : endOf isDg (tl z) s ≤ z.length := by rw [← hL]; exact endOf_le (by omega)
  have e3 := endOf_ge isLt (tl z) s
  have e4 : endOf isLt (tl z) s ≤ z.length := by rw [← hL]; exact endOf_le (by omega)
  refine ⟨z, "0123456789", s, rfl, hs, hz, ?_⟩
  show _
  have hd : endOf (fun c => decide (c ∈ tl ("0123456789" : Str))) (tl z) s = endOf isDg (tl z) s := rfl
  rw [hd]
  walk_at "go"
  refine g_cut (M := fun σ H' => σ = [some (.str z), some (.int (s : Int)), some (.int ((endOf isDg (tl z) s : Nat) : Int)), none, none, none] ∧ H' = H ∧ ¬ (s < endOf isDg (tl z) s ∧ endOf isDg (tl z) s ≤ s + 2)) ?_ ?_
  · walk_at "go"
    refine g_2 (fun b => ?_) (fun b => ?_)
    · have b : (s : Int) < ((endOf isDg (tl z) s : Nat) : Int) := of_decide_eq_true b
      walk_at "go"
      refine g_2 (fun b2 => ?_) (fun b2 => ?_)
      · have b2 : ((endOf isDg (tl z) s : Nat) : Int) ≤ (s : Int) + 2 := of_decide_eq_true b2
        walk_at "go"
        refine ⟨_, rfl, big (by omega), ?_⟩
        walk_at "go"
        have ht := cut_tl (z := z) (s := s) (e := endOf isDg (tl z) s)
        have hl : (cutL (tl z) s (endOf isDg (tl z) s)).length = endOf isDg (tl z) s - s := by rw [cutL_end]; unfold endOf; omega
        have hi := int_of (x := cutS z (some (s : Int)) (some ((endOf isDg (tl z) s : Nat) : Int))) (fun c hc => by rw [ht, cutL_end] at hc; exact tw_all _ _ _ hc) (by rw [ht]; omega) (by rw [ht]; omega)
        refine ⟨_, _, rfl, hi, by rw [tl_len, ht]; omega, ?_⟩
        walk_at "go"
        refine g_newT (big (by simp)) fun p H1 hp c1 h1 => ?_
        refine k _ _ (by simp only [parse]; rw [if_pos ⟨by omega, by omega⟩]) _ p H1 c1 (IsF.hole.mpr rfl) ?_
        rw [h1, ht]
      · have b2 : ¬ ((endOf isDg (tl z) s : Nat) : Int) ≤ (s : Int) + 2 := of_decide_eq_false b2
        walk_at "go"
        exact ⟨rfl, rfl, by omega⟩
    · have b : ¬ (s : Int) < ((endOf isDg (tl z) s : Nat) : Int) := of_decide_eq_false b
      walk_at "go"
      exact ⟨rfl, rfl, by omega⟩
  rintro σ H' ⟨rfl, rfl, hnd⟩
  walk_at "go"
  refine ⟨z, "abcdefghijklmnopqrstuvwxyz", s, rfl, hs, hz, ?_⟩
  show _
  have hd : endOf (fun c => decide (c ∈ tl ("abcdefghijklmnopqrstuvwxyz" : Str))) (tl z) s = endOf isLt (tl z) s := rfl
  rw [hd]
  simp only [parse] at k kb
  rw [if_neg hnd] at k kb
  generalize hE : endOf isLt (tl z) s = ew at *
  have hcl : cutL (tl z) s ew = ((tl z).drop s).takeWhile isLt := by rw [← hE, cutL_end]
  have hcll : (cutL (tl z) s ew).length = ew - s := by rw [hcl, ← hE]; unfold endOf; omega
  walk_at "go"
  refine g_cut (M := fun σ H1 => σ = [some (.str z), some (.int (s : Int)), some (.int (ew : Int)), none, none, none] ∧ H1 = H' ∧ (1 ≤ ew - s ∧ ew - s ≤ 8)) ?_ ?_
  · walk_at "go"
    refine ⟨_, rfl, big (by omega), ?_⟩
    walk_at "go"
    have ht := cut_tl (z := z) (s := s) (e := ew)
    have hiw : isWord (cutS z (some (s : Int)) (some (ew : Int))) = (decide (1 ≤ ew - s) && decide (ew - s ≤ 8)) := by
      unfold isWord
      have ha : (cutS z (some (s : Int)) (some (ew : Int))).cps.toList.all (fun c => decide (c ∈ abc.cps.toList)) = true := by
        rw [List.all_eq_true]
        intro c hc
        have hc : c ∈ tl (cutS z (some (s : Int)) (some (ew : Int))) := hc
        rw [ht, hcl] at hc
        exact tw_all _ _ _ hc
      rw [ha, Bool.and_true, tl_len, ht, hcll]
    refine ⟨_, rfl, by rw [tl_len, ht, hcll]; omega, ?_⟩
    rw [hiw]
    walk_at "go"
    by_cases hw : 1 ≤ ew - s ∧ ew - s ≤ 8
    · rw [decide_eq_true hw.1, decide_eq_true hw.2]
      walk_at "go"
      exact ⟨rfl, rfl, hw⟩
    · have : (decide (1 ≤ ew - s) && decide (ew - s ≤ 8)) = false := by
        rw [Bool.and_eq_false_iff]
        by_cases h1 : 1 ≤ ew - s
        · exact .inr (decide_eq_false fun z => hw ⟨h1, z⟩)
        · exact .inl (decide_eq_false h1)
      rw [this]
      walk_at "go"
      have hb := kb (by rw [if_neg hw])
      exact hb
  rintro σ H1 ⟨rfl, rfl, hw⟩
  rw [if_pos hw] at k kb
  generalize hR : loopP (parse (tl z) n) (tl z) ((tl z).length + 1) [40] ew = R at k kb
  walk_at "go"
  refine g_newL (big (by simp)) fun q H2 hq c2 h2 => ?_
  walk_at "go"
  refine g_cut (M := fun σ H3 => ∃ (ps : List Fm) (vs : List V) (e : Nat) (o4 o5 : Option V), σ = [some (.str z), some (.int (s : Int)), some (.int (e : Int)), some (.ref q), o4, o5] ∧ Ext H1 H3 ∧ H3 q = some (.lst vs) ∧ IsFs H3 ps vs ∧ e ≤ z.length ∧ ps.length ≤ z.length ∧ R = some (ps, e)) ?_ ?_
  · walk_at "go"
    refine g_while (fun m σ H3 => ∃ (ps : List Fm) (vs : List V) (e : Nat) (mk : Str) (o5 : Option V), m = z.length - e ∧ σ = [some (.str z), some (.int (s : Int)), some (.int (e : Int)), some (.ref q), some (.str mk), o5] ∧ Ext H1 H3 ∧ H3 q = some (.lst vs) ∧ IsFs H3 ps vs ∧ e ≤ z.length ∧ ps.length + ew ≤ e ∧
      R = (loopP (parse (tl z) n) (tl z) ((tl z).length + 1 - ps.length) (tl mk) e).map (fun r => (ps ++ r.1, r.2)) ∧ ((tl mk = [40] ∧ cnt (tl z) e ≤ cnt (tl z) s) ∨ (tl mk = [44, 32] ∧ cnt (tl z) e < cnt (tl z) s)))
      ⟨[], [], ew, "(", none, rfl, rfl, c2, h2, IsL.nil, by omega, by simp, by
        rw [par_tl, ← hR]
        simp only [List.length_nil, Nat.sub_zero, List.nil_append]
        cases loopP (parse (tl z) n) (tl z) ((tl z).length + 1) [40] ew <;> rfl, .inl ⟨par_tl, cnt_mono _ (by omega)⟩⟩ ?_
    rintro m σ H3 ⟨ps, vs, e, mk, o5, rfl, rfl, c3, h3, hps, he, hpe, hloop, hmk⟩
    have hml : 1 ≤ (tl mk).length ∧ (tl mk).length ≤ 2 := by rcases hmk with ⟨h, _⟩ | ⟨h, _⟩ <;> rw [h] <;> simp
    have hmk1 := tl_len mk
    obtain ⟨j, hj⟩ : ∃ j, (tl z).length + 1 - ps.length = j + 1 := ⟨(tl z).length - ps.length, by omega⟩
    rw [hj] at hloop
    simp only [loopP] at hloop
    walk_at "go"
    refine g_lenS (big (by omega)) ?_
    walk_at "go"
    refine ⟨_, rfl, big (by omega), ?_⟩
    walk_at "go"
    have hcut : tl (cutS z (some (e : Int)) (some ((e : Int) + (mk.length : Int)))) = ((tl z).drop e).take (tl mk).length := by
      have := cut_any (z := z) (s := e) (e := e + mk.length)
      rw [show ((e + mk.length : Nat) : Int) = (e : Int) + (mk.length : Int) by omega] at this
      rw [this, hmk1]
      congr 1
      omega
    refine g_2 (fun b => ?_) (fun b => ?_)
    · have b : ((tl z).drop e).take (tl mk).length = tl mk := by rw [← hcut, of_decide_eq_true b]
      rw [if_pos b] at hloop
      have hin := take_mark b hml.1
      refine ⟨_, fun _ _ q => q, ?_⟩
      walk_at "go"
      refine g_lenS (big (by omega)) ?_
      walk_at "go"
      have hcnt : cnt (tl z) (e + mk.length) < cnt (tl z) s := by
        rcases hmk with ⟨h, h5⟩ | ⟨h, h5⟩
        · have h1 : mk.length = 1 := by rw [hmk1, h]; rfl
          rw [h] at b
          have := cnt_hit (L := tl z) (e := e) b
          rw [h1]
          omega
        · have := cnt_mono (tl z) (show e ≤ e + mk.length by omega)
          omega
      refine ⟨z, e + mk.length, ?_, by omega, hz, by omega, fun f e1 hp v p H4 c4 hf h4 => ?_, fun hn => ?_⟩
      · simp
      · have pok := parse_ok n _ f e1 (by omega) hp
        have hge := pok.ge
        have hle := pok.le
        rw [← hmk1, hp] at hloop
        have h3' := c4.at h3
        refine g_gtup h4 rfl ?_
        walk_at "go"
        refine g_append h3' (bigl (by have := hps.length; omega)) ?_
        walk_at "go"
        have c5 : Chg [q] H4 (upd H4 q (.lst (vs ++ [v]))) := (Chg.refl _).set (List.mem_singleton.mpr rfl) h3' (by intro xs z; cases z) _
        refine ⟨_, ?_, ps ++ [f], vs ++ [v], e1, ", ", some v, rfl, rfl, (c3.trans c4).own hq _, upd_same, IsFs.snoc (IsL.up c5 (IsL.up c4 hps)) (hf.up c5), by omega, by simp; omega, ?_, .inr ⟨sep_tl, ?_⟩⟩
        · omega
        · rw [hloop, sep_tl]
          have : (tl z).length + 1 - (ps ++ [f]).length = j := by rw [List.length_append, List.length_singleton]; omega
          rw [this]
          simp only [Option.map_map]
          cases loopP (parse (tl z) n) (tl z) j [44, 32] e1 with
          | none => rfl
          | some r => simp [List.append_assoc]
        · have := cnt_mono (tl z) (show e + mk.length ≤ e1 by omega)
          omega
      · rw [← hmk1, hn] at hloop
        have hb := kb (by rw [hloop]; rfl)
        exact bad_up hb c3
    · have b : ¬ ((tl z).drop e).take (tl mk).length = tl mk := fun h => (of_decide_eq_false b) (tl_ext (by rw [hcut]; exact h))
      rw [if_neg b] at hloop
      exact ⟨ps, vs, e, _, o5, rfl, c3, h3, hps, he, by omega, by rw [hloop]; simp⟩
  rintro σ H3 ⟨ps, vs, e, o4, o5, rfl, c3, h3, hps, he, hpl, hloop⟩
  rw [hloop] at k kb
  have hvl := hps.length
  have ew2 : cutS z (some (s : Int)) (some (ew : Int)) = (⟨(cutL (tl z) s ew).toArray⟩ : Str) := tl_ext cut_tl
  refine g_cut (M := fun σ H4 => ∃ e2 : Nat, σ = [some (.str z), some (.int (s : Int)), some (.int (e2 : Int)), some (.ref q), o4, o5] ∧ H4 = H3 ∧ closeP ⟨(cutL (tl z) s ew).toArray⟩ (tl z) (some (ps, e)) = some (.node ⟨(cutL (tl z) s ew).toArray⟩ ps, e2)) ?_ ?_
  · walk_at "go"
    refine ⟨_, .inl ⟨vs, .inl (.inl h3), rfl⟩, ?_⟩
    cases ps with
    | nil =>
      obtain rfl : vs = [] := List.eq_nil_of_length_eq_zero hvl
      show (if false = true then _ else _)
      walk_at "go"
      exact ⟨e, rfl, rfl, rfl⟩
    | cons f fs =>
      obtain ⟨v, vs2, rfl⟩ : ∃ v r, vs = v :: r := by
        cases vs with
        | nil => simp at hvl
        | cons v r => exact ⟨v, r, rfl⟩
      show (if true = true then _ else _)
      walk_at "go"
      refine ⟨_, rfl, big (by omega), ?_⟩
      walk_at "go"
      have hcut : tl (cutS z (some (e : Int)) (some ((e : Int) + 1))) = ((tl z).drop e).take 1 := by
        have := cut_any (z := z) (s := e) (e := e + 1)
        rw [show ((e + 1 : Nat) : Int) = (e : Int) + 1 by omega] at this
        rw [this, show e + 1 - e = 1 by omega]
      have hd1 : ((tl z).drop e).take 1 = [41] ↔ (tl z)[e]? = some 41 := by
        rw [← List.head?_drop]
        cases (tl z).drop e with
        | nil => simp
        | cons x xs => simp
      by_cases h41 : (tl z)[e]? = some 41
      · have : cutS z (some (e : Int)) (some ((e : Int) + 1)) = (")" : Str) := tl_ext (by rw [hcut, cls_tl]; exact hd1.mpr h41)
        rw [decide_eq_true this]
        walk_at "go"
        exact ⟨e + 1, by simp [List.set], rfl, by simp only [closeP]; rw [if_pos h41]⟩
      · have : ¬ cutS z (some (e : Int)) (some ((e : Int) + 1)) = (")" : Str) := fun h => h41 (hd1.mp (by rw [← hcut, h, cls_tl]))
        rw [decide_eq_false this]
        walk_at "go"
        have hb := bad_up (kb (by simp only [closeP]; rw [if_neg h41])) c3
        exact hb
  rintro σ H4 ⟨e2, rfl, rfl, hcl2⟩
  rw [hcl2] at k
  walk_at "go"
  refine ⟨z, "abcdefghijklmnopqrstuvwxyz", s, rfl, hs, hz, ?_⟩
  have hd' : endOf (fun c => decide (c ∈ tl ("abcdefghijklmnopqrstuvwxyz" : Str))) (tl z) s = ew := hE
  rw [hd']
  refine ⟨_, rfl, ?_⟩
  refine ⟨_, rfl, big (by omega), ?_⟩
  walk_at "go"
  refine ⟨q, vs, rfl, .inr (.inl (.inl h3)), ?_⟩
  walk_at "go"
  refine g_newT (by rw [sizeLine_eq]; simp; omega) fun u H5 hu c5 h5 => ?_
  walk_at "go"
  refine g_newT (big (by simp)) fun p H6 hp c6 h6 => ?_
  refine k _ e2 rfl _ p H6 ((c3.trans c5).trans c6) (IsF.node.mpr ⟨u, vs, rfl, ?_, IsL.up c6 (IsL.up c5 hps)⟩) h6
  rw [c6.at h5, ew2]
  first | rfl | simp
mutual
theorem Fm.depth_cnt : ∀ f : Fm, f.depth ≤ f.wl.count 40 + 1
  | .hole n => by simp only [Fm.depth]; omega
  | .node s ps => by
    have h := Fm.depths_cnt ps
    simp only [Fm.depth, Fm.wl, List.count_append]
    cases ps with
    | nil => simp [Fm.depths]
    | cons p ps =>
      simp only [Fm.depths, Fm.wt, Fm.wa, List.count_cons, List.count_append] at h ⊢
      simp at h ⊢
      omega
theorem Fm.depths_cnt : ∀ ps : List Fm, Fm.depths ps ≤ (Fm.wt ps).count 40 + 1
  | [] => by simp [Fm.depths]
  | p :: ps => by
    have h1 := Fm.depth_cnt p
    have h2 := Fm.depths_cnt ps
    simp only [Fm.depths, Fm.wt, List.count_cons, List.count_append]
    simp
    omega
end
theorem parse_all {z : Str} {g : Fm} (hc : cnt (tl z) 0 < 100) (ok : g.ok) (h : g.wl = tl z) : parse (tl z) 100 0 = some (g, z.length) := by
  have hd := g.depth_cnt
  rw [h] at hd
  have hc : (tl z).count 40 < 100 := hc
  have := parse_wl (L := tl z) 100 g 0 [] ok (by omega) (by rw [h]; simp) (fun c hc => by simp at hc)
  rw [this, h, tl_len]
  simp
mutual
theorem Fm.cnt_size : ∀ f : Fm, f.ok → f.wl.count 40 ≤ f.size
  | .hole n, h => by
    simp only [Fm.ok] at h
    simp only [Fm.wl, Fm.size]
    rw [List.count_eq_zero.mpr]
    · omega
    · intro z
      have := isDg_iff.mp ((numL_dg (n := n.toNat) (by omega)).1 40 z)
      omega
  | .node s ps, h => by
    simp only [Fm.ok] at h
    have h1 : (tl s).count 40 = 0 := List.count_eq_zero.mpr fun z => by have := h.1.low 40 z; omega
    simp only [Fm.wl, Fm.size, List.count_append]
    rw [h1]
    cases ps with
    | nil => simp only [Fm.wa, List.count_nil]; omega
    | cons p ps =>
      have h2 := Fm.cnts_size (p :: ps) h.2
      simp only [Fm.wt, Fm.wa, Fm.sizes, List.count_cons, List.count_append] at h2 ⊢
      simp at h2 ⊢
      omega
theorem Fm.cnts_size : ∀ ps : List Fm, Fm.oks ps → (Fm.wt ps).count 40 ≤ Fm.sizes ps
  | [], _ => by simp [Fm.wt]
  | p :: ps, h => by
    simp only [Fm.oks] at h
    have h1 := Fm.cnt_size p h.1
    have h2 := Fm.cnts_size ps h.2
    simp only [Fm.wt, Fm.sizes, List.count_cons, List.count_append]
    simp
    omega
end
def t_rform (K : PySem.W.Frag) : TS := (tSeq (tAsg (tCall (sp_part K 100) [] E0 (tCons (tVar 0) (tCons (tC (.int 0)) tNil))) (gTup K 2 (gCons (gName 1) (gCons (gName 2) gNil))))
  (tSeq (tIfS (tOr (tTest (tOp rNe (tVar 2) (tCB rLenStr (tCons (tVar 0) tNil)))) (tTest (tOp rNe (tCall (sp_write K 100) [] E0 (tCons (tVar 1) tNil)) (tVar 0)))) My.tNever
  tNext)
  (tRet (tVar 1))))
abbrev N_rform : List Str := ["text", "form", "end"]
def sp_rform (K : PySem.W.Frag) : Sp := fun vs H Q E => ∃ z : Str, vs = [.str z] ∧ z.length ≤ 2000 ∧ cnt (tl z) 0 < 100 ∧
  (∀ f : Fm, f.ok → f.wl = tl z → ∀ (v : V) (H' : Hp), Ext H H' → IsF H' f v → Q v H') ∧ ((∀ f : Fm, f.ok → f.wl ≠ tl z) → Bad K H E z)
theorem len_rform {K : PySem.W.Frag} {vs : List V} {H : Hp} {Q : VK} {E : XK} (h : sp_rform K vs H Q E) : vs.length = 1 := by obtain ⟨_, rfl, _⟩ := h; rfl
theorem rd_rform {K : PySem.W.Frag} {vs : List V} {H : Hp} {Q : VK} {E : XK} (h : sp_rform K vs H Q E) : t_rform K { nx := fun _ H' => Q .non H', rt := Q } (start N_rform vs) H := by
  obtain ⟨z, rfl, hz, hc, k, kb⟩ := h
  have bad_up : ∀ {H' : Hp}, Bad K H E z → Ext H H' → Bad K H' E z := fun h _ => h
  have hL : (tl z).length = z.length := (tl_len z).symm
  unfold t_rform
  walk_at "go"
  refine ⟨z, 0, rfl, Nat.zero_le _, by omega, hc, fun f e hp v p H1 c1 hf h1 => ?_, fun hn => ?_⟩
  · have pok := parse_ok 100 0 f e (Nat.zero_le _) hp
    have hsz := pok.sz
    have hle := pok.le
    have hde := pok.dp
    refine g_gtup h1 rfl ?_
    walk_at "go"
    refine g_lenS (big (by omega)) ?_
    walk_at "go"
    by_cases he : e = z.length
    · rw [decide_eq_true (show ((e : Nat) : Int) = (z.length : Int) by omega)]
      walk_at "go"
      refine ⟨v, f, rfl, hf, pok.ok, by omega, hde, fun w H2 c2 ew => ?_⟩
      walk_at "go"
      by_cases hw : w = z
      · rw [decide_eq_true hw]
        walk_at "go"
        exact k f pok.ok (by rw [← ew, hw]) v H2 (c1.trans c2) (hf.up c2)
      · rw [decide_eq_false hw]
        walk_at "go"
        have hb := bad_up (kb fun g gok hg => hw (by
          have := parse_all hc gok hg
          rw [hp] at this
          have e1 : f = g := congrArg Prod.fst (Option.some.inj this)
          exact tl_ext (by rw [ew, e1, hg]))) (c1.trans c2)
        exact hb
    · rw [decide_eq_false (show ¬ ((e : Nat) : Int) = (z.length : Int) by omega)]
      walk_at "go"
      have hb := bad_up (kb fun g gok hg => he (by
        have := parse_all hc gok hg
        rw [hp] at this
        exact congrArg Prod.snd (Option.some.inj this))) c1
      exact hb
  · have hb := kb fun g gok hg => by
      have := parse_all hc gok hg
      rw [hn] at this
      cases this
    exact hb
end My

namespace My
open PySem PySem.Spec PyProof.Rows L2
local macro_rules | `(tactic| walk_at "g1") => `(tactic| first
  | with_reducible refine My.g_seq ?_
  | with_reducible refine My.g_asg ?_
  | with_reducible refine My.g_name ?_
  | ((with_reducible refine' My.g_var ?ga ?gb); (case ga => rfl))
  | with_reducible refine My.g_c ?_
  | with_reducible refine My.g_op ?_
  | with_reducible refine My.g_cb ?_
  | with_reducible refine My.g_cons ?_
  | with_reducible refine My.g_nil ?_
  | with_reducible refine My.g_ifS ?_
  | with_reducible refine My.g_ret ?_
  | with_reducible refine My.g_drop ?_
  | with_reducible refine My.g_test ?_
  | with_reducible refine My.g_B ?_
  | with_reducible refine My.g_bl ?_
  | with_reducible refine My.g_int1 ?_
  | with_reducible refine My.g_rI0 ?_
  | ((with_reducible refine My.g_rI ?ga ?gb); (case ga => first | decide | (unfold CMul; omega) | (unfold CDiv; omega) | (unfold CPow; decide) | (unfold CPow; omega) | omega))
  | with_reducible refine My.g_eqI ?_
  | with_reducible refine My.g_neI ?_
  | with_reducible refine My.g_eqS ?_
  | with_reducible refine My.g_neS ?_
  | with_reducible refine My.g_neB ?_
  | with_reducible refine My.g_tr ?_
  | with_reducible refine My.g_fa ?_
  | with_reducible refine My.g_ntr ?_
  | with_reducible refine My.g_nfa ?_
  | with_reducible refine My.g_next ?_
  | with_reducible refine My.g_bm ?_
  | with_reducible refine My.g_bm0 ?_
  | ((with_reducible refine' My.g_tyL ?ga ?gb); (case ga => assumption))
  | with_reducible refine My.g_not ?_
  | with_reducible refine My.g_and ?_
  | with_reducible refine My.g_or ?_
  | with_reducible refine My.g_andV ?_
  | with_reducible refine My.g_orV ?_
  | with_reducible refine My.g_notV ?_
  | with_reducible refine My.g_ifE ?_
  | with_reducible refine My.g_chain ?_
  | with_reducible refine My.g_un ?_
  | with_reducible refine My.g_rU ?_
  | with_reducible refine My.g_sl ?_
  | with_reducible refine My.g_part ?_
  | with_reducible refine My.g_nopart ?_
  | with_reducible refine My.g_exI ?_
  | with_reducible refine My.g_abs ?_
  | with_reducible refine My.g_int1b ?_
  | with_reducible refine My.g_tupT ?_
  | with_reducible refine My.g_lstT ?_
  | with_reducible refine My.g_yes ?_
  | with_reducible refine My.g_joined ?_
  | with_reducible refine My.g_jc ?_
  | with_reducible refine My.g_jn ?_
  | with_reducible refine My.g_fmt ?_
  | with_reducible refine My.g_m1 ?_
  | with_reducible refine My.g_m1s ?_
  | with_reducible refine My.g_for ?_
  | with_reducible refine My.g_lc ?_
  | with_reducible refine My.g_iL ?_
  | with_reducible refine My.g_iT ?_
  | with_reducible refine My.g_iR ?_
  | with_reducible refine My.g_iR2 ?_
  | with_reducible refine My.g_call ?_
  | with_reducible refine My.g_isN ?_
  | with_reducible refine My.g_notN ?_
  | with_reducible refine My.g_retN ?_
  | with_reducible refine My.g_iS ?_
  | with_reducible refine My.g_gcons ?_
  | with_reducible refine My.g_gnil ?_
  | with_reducible refine My.g_ipI ?_
  | with_reducible refine My.g_tru ?_
  | ((with_reducible refine' My.g_augV ?ga ?gb); (case ga => rfl))
  | with_reducible refine My.g_dget ?_
  | with_reducible refine My.g_dget2 ?_
  | with_reducible refine My.g_din ?_
  | with_reducible refine My.g_dnin ?_
  | with_reducible refine My.g_dput ?_
  | with_reducible refine My.g_star ?_
  | with_reducible refine My.g_rev2 ?_
  | ((with_reducible refine' My.g_lenL ?ga ?gb); (case ga => assumption))
  | ((with_reducible refine' My.g_lenT ?ga ?gb); (case ga => assumption)))
local macro_rules | `(tactic| walk_at "go") => `(tactic| repeat walk_at "g1")

def t_wide (K : PySem.W.Frag) (r : Sp) : TS := (tSeq (tIfS (tOr (tTest (tOp rEq (tVar 2) (tC (.int 0)))) (tTest (tOp rEq (tCall (sp_take K) [] E0 (tCons (tVar 0) (tCons (tC (.int 3)) tNil))) (tC (.int 0))))) (tSeq (tIfS (tTest (tOp rEq (tCall (sp_take K) [] E0 (tCons (tVar 0) (tCons (tC (.int 2)) tNil))) (tC (.int 0)))) (tRet (tOp (rIxL K) (tLst (tCons (tCall (sp_take K) [] E0 (tCons (tVar 0) (tCons (tC (.int 100)) tNil))) (tCons (tC (.int 0)) (tCons (tC (.int 9)) (tCons (tC (.int 10)) (tCons (tC (.int 99)) tNil)))))) (tCall (sp_take K) [] E0 (tCons (tVar 0) (tCons (tC (.int 5)) tNil)))))
  tNext)
  (tRet (tTup (tCons (tOp (rIxL K) (tVar 1) (tCall (sp_take K) [] E0 (tCons (tVar 0) (tCons (tC (.int 26)) tNil)))) tNil))))
  tNext)
  (tSeq (tAsg (tLst (tCons (tOp (rIxL K) (tVar 1) (tCall (sp_take K) [] E0 (tCons (tVar 0) (tCons (tC (.int 26)) tNil)))) tNil)) (gName 3))
  (tSeq (tFor (iRng1 (tCons (tCall (sp_take K) [] E0 (tCons (tVar 0) (tCons (tC (.int 5)) tNil))) tNil)) (gName 4)
  (tDrop (tBM K "list" rAppend (tVar 3) (tCons (tCall r [] E0 (tCons (tVar 0) (tCons (tVar 1) (tCons (tOp rSubI (tVar 2) (tC (.int 1))) tNil)))) tNil))))
  (tRet (tCB (rTupleOf K) (tCons (tVar 3) tNil))))))
abbrev N_wide : List Str := ["_law_draws", "_law_names_here", "_law_depth", "_law_form", "_law_k"]
def wideB : Nat → Nat
  | 0 => 1
  | n + 1 => 1 + 4 * wideB n
def sp_wide (K : PySem.W.Frag) (n : Nat) : Sp := fun vs H Q _ => ∃ (d r : Addr) (m : Nat) (nms : List Str), vs = [.ref d, .ref r, .int (m : Int)] ∧ m < n ∧ Dr H d ∧ Nms H d r nms ∧ ∀ (v : V) (H' : Hp) (f : Fm), Chg [d] H H' → Dr H' d → IsF H' f v → f.ok → f.size ≤ wideB m → f.depth ≤ m + 1 → Q v H'
theorem len_wide {K : PySem.W.Frag} {n : Nat} {vs : List V} {H : Hp} {Q : VK} {E : XK} (h : sp_wide K n vs H Q E) : vs.length = 3 := by obtain ⟨_, _, _, _, rfl, _⟩ := h; rfl
theorem no_wide {K : PySem.W.Frag} (vs : List V) (H : Hp) (Q : VK) (E : XK) : ¬ sp_wide K 0 vs H Q E := by
  rintro ⟨_, _, m, _, _, h, _⟩
  omega
theorem wideB_pos : ∀ n, 1 ≤ wideB n
  | 0 => Nat.le_refl _
  | n + 1 => by simp only [wideB]; omega
theorem rd_wide {K : PySem.W.Frag} {n : Nat} {vs : List V} {H : Hp} {Q : VK} {E : XK} (h : sp_wide K (n + 1) vs H Q E) : t_wide K (sp_wide K n) { nx := fun _ H' => Q .non H', rt := Q } (start N_wide vs) H := by
  obtain ⟨d, r, m, nms, rfl, hm, hd, hn, k⟩ := h
  -- what a small form gives
  have small : ∀ (D : Ends) (H0 : Hp), D.rt = Q → Chg [d] H H0 → Dr H0 d → tSeq (tIfS (tTest (tOp rEq (tCall (sp_take K) [] E0 (tCons (tVar 0) (tCons (tC (.int 2)) tNil))) (tC (.int 0)))) (tRet (tOp (rIxL K) (tLst (tCons (tCall (sp_take K) [] E0 (tCons (tVar 0) (tCons (tC (.int 100)) tNil))) (tCons (tC (.int 0)) (tCons (tC (.int 9)) (tCons (tC (.int 10)) (tCons (tC (.int 99)) tNil)))))) (tCall (sp_take K) [] E0 (tCons (tVar 0) (tCons (tC (.int 5)) tNil))))) tNext)
      (tRet (tTup (tCons (tOp (rIxL K) (tVar 1) (tCall (sp_take K) [] E0 (tCons (tVar 0) (tCons (tC (.int 26)) tNil)))) tNil))) D (start N_wide [.ref d, .ref r, .int (m : Int)]) H0 := by
    intro D H0 hD c0 hd
    subst hD
    have hn := hn.keep c0
    walk_at "go"
    refine g_take hd (by decide) fun v1 H1 _ _ c1 hd => ?_
    walk_at "go"
    refine g_2 (fun b => ?_) (fun b => ?_)
    · walk_at "go"
      refine g_take hd (by decide) fun v2 H2 a0 a1 c2 hd => ?_
      walk_at "go"
      refine g_newL (big (by simp)) fun q H3 hq c3 h3 => ?_
      walk_at "go"
      refine g_take (hd.keep c3) (by decide) fun v4 H4 b0 b1 c4 hd4 => ?_
      obtain ⟨x, hx, x0, x1⟩ := five_at (v := v2) (by omega) b0 b1
      refine g_ixL (c4.ob _ _ (hd.off hq) h3) hx ?_
      exact k _ H4 (.hole x) ((((c0.trans c1).trans c2).trans c3.all).trans c4) hd4 (IsF.hole.mpr rfl) (by simp only [Fm.ok]; omega) (by simp only [Fm.size]; exact wideB_pos m) (by simp only [Fm.depth]; omega)
    · walk_at "go"
      refine g_take hd (by decide) fun v2 H2 a0 a1 c2 hd => ?_
      have hn2 := (hn.keep c1).keep c2
      obtain ⟨s, hs, hat⟩ := nm_at hn2.ok a0 a1
      refine g_ixL hn2.at_ hat ?_
      walk_at "go"
      refine g_newT (big (by simp)) fun p H3 hp c3 h3 => ?_
      exact k _ H3 (.node s []) (((c0.trans c1).trans c2).trans c3.all) (hd.keep c3) (IsF.node.mpr ⟨p, [], rfl, h3, IsL.nil⟩) (by simp only [Fm.ok, Fm.oks]; exact ⟨hn2.ok.good s hs, trivial⟩) (by simp only [Fm.size, Fm.sizes]; exact wideB_pos m) (by simp only [Fm.depth, Fm.depths]; omega)
  unfold t_wide
  walk_at "go"
  refine g_2 (fun b => ?_) (fun b => ?_)
  · walk_at "g1"
    exact small _ H rfl (Chg.refl _) hd
  have b := of_decide_eq_false b
  walk_at "go"
  refine g_take hd (by decide) fun v1 H1 _ _ c1 hd => ?_
  walk_at "go"
  refine g_2 (fun b2 => ?_) (fun b2 => ?_)
  · exact small _ H1 rfl c1 hd
  walk_at "go"
  have hn1 := hn.keep c1
  refine g_take hd (by decide) fun v2 H2 a0 a1 c2 hd => ?_
  have hn2 := hn1.keep c2
  obtain ⟨s, hs_, hat⟩ := nm_at hn2.ok a0 a1
  refine g_ixL hn2.at_ hat ?_
  walk_at "go"
  refine g_newL (big (by simp)) fun p H3 hp c3 h3 => ?_
  walk_at "go"
  have hd3 := hd.keep c3
  have c03 : Chg [d] H H3 := (c1.trans c2).trans c3.all
  have pd : p ∉ [d] := hd.off hp
  have hp0 : H p = none := by
    cases q : H p with
    | none => rfl
    | some o =>
      have := (c1.trans c2).ob p o pd q
      rw [hp] at this
      cases this
  refine g_take hd3 (by decide) fun w H4 w0 w1 c4 hd4 => ?_
  refine g_forR (by omega) (fun i σ H' => ∃ (ws : List V) (ps : List Fm) (o4 : Option V), σ = [some (.ref d), some (.ref r), some (.int (m : Int)), some (.ref p), o4] ∧ Chg [d] H H' ∧ Dr H' d ∧ H' p = some (.lst (.str s :: ws)) ∧ IsFs H' ps ws ∧ Fm.oks ps ∧ Fm.sizes ps ≤ i * wideB (m - 1) ∧ Fm.depths ps ≤ m ∧ ps.length = i)
    ⟨[], [], none, rfl, c03.trans c4, hd4, c4.ob _ _ pd h3, IsL.nil, by simp [Fm.oks], by simp [Fm.sizes], by simp [Fm.depths], rfl⟩ ?_ ?_
  · rintro i σ H' hi ⟨ws, ps, o4, rfl, c, hd, hp', hw, hk, hz, hdp, hlen⟩
    walk_at "go"
    refine ⟨d, r, m - 1, nms, ?_, by omega, hd, hn.keep c, fun v H5 f c5 hd5 hf fk fz fd => ?_⟩
    · have : ((m - 1 : Nat) : Int) = (m : Int) - 1 := by omega
      rw [this]
      rfl
    walk_at "go"
    have hl := hw.length
    refine g_appD hp0 pd (c.trans c5) hd5 (c5.ob _ _ pd hp') (by simp; omega) fun H6 c6 hd6 h6 c56 => ?_
    refine ⟨ws ++ [v], ps ++ [f], _, rfl, c6, hd6, h6, IsFs.snoc (IsL.up c56 (IsL.up c5 hw)) (hf.up c56), ?_, ?_, ?_, ?_⟩
    · rw [Fm.oks_append]; simp only [Fm.oks]; exact ⟨hk, fk, trivial⟩
    · rw [Fm.sizes_append]; simp only [Fm.sizes]
      have : (i + 1) * wideB (m - 1) = i * wideB (m - 1) + wideB (m - 1) := by rw [Nat.add_mul]; omega
      omega
    · rw [Fm.depths_append]; simp only [Fm.depths]; omega
    · simp [hlen]
  · rintro σ H' ⟨ws, ps, o4, rfl, c, hd, hp', hw, hk, hz, hdp, hlen⟩
    walk_at "go"
    refine g_tupOf (.inl (.inl hp')) fun q H5 hq c5 h5 => ?_
    have hw4 : w.toNat ≤ 4 := by omega
    refine k _ H5 (.node s ps) (c.trans c5.all) (hd.keep c5) (IsF.node.mpr ⟨q, ws, rfl, h5, IsL.up c5 hw⟩) (by simp only [Fm.ok]; exact ⟨hn2.ok.good s hs_, hk⟩) ?_ (by simp only [Fm.depth]; omega)
    have hm1 : m = (m - 1) + 1 := by omega
    rw [hm1]
    simp only [Fm.size, wideB]
    have : w.toNat * wideB (m - 1) ≤ 4 * wideB (m - 1) := Nat.mul_le_mul_right _ hw4
    omega
def t_deep (K : PySem.W.Frag) : TS := (tSeq (tAsg (tCall (sp_take K) [] E0 (tCons (tVar 0) (tCons (tC (.int 100)) tNil))) (gName 2))
  (tSeq (tFor (iRng1 (tCons (tCall (sp_take K) [] E0 (tCons (tVar 0) (tCons (tC (.int 24)) tNil))) tNil)) (gName 3)
  (tIfS (tTest (tOp rEq (tCall (sp_take K) [] E0 (tCons (tVar 0) (tCons (tC (.int 3)) tNil))) (tC (.int 0)))) (tAsg (tTup (tCons (tOp (rIxL K) (tVar 1) (tCall (sp_take K) [] E0 (tCons (tVar 0) (tCons (tC (.int 26)) tNil)))) (tCons (tVar 2) (tCons (tCall (sp_take K) [] E0 (tCons (tVar 0) (tCons (tC (.int 100)) tNil))) tNil)))) (gName 2))
  (tAsg (tTup (tCons (tOp (rIxL K) (tVar 1) (tCall (sp_take K) [] E0 (tCons (tVar 0) (tCons (tC (.int 26)) tNil)))) (tCons (tVar 2) tNil))) (gName 2))))
  (tRet (tVar 2))))
abbrev N_deep : List Str := ["_law_draws", "_law_names_here", "_law_form", "_law_k"]
def sp_deep (K : PySem.W.Frag) : Sp := fun vs H Q _ => ∃ (d r : Addr) (nms : List Str), vs = [.ref d, .ref r] ∧ Dr H d ∧ Nms H d r nms ∧ ∀ (v : V) (H' : Hp) (f : Fm), Chg [d] H H' → Dr H' d → IsF H' f v → f.ok → f.size ≤ 47 → f.depth ≤ 24 → Q v H'
theorem len_deep {K : PySem.W.Frag} {vs : List V} {H : Hp} {Q : VK} {E : XK} (h : sp_deep K vs H Q E) : vs.length = 2 := by obtain ⟨_, _, _, rfl, _⟩ := h; rfl
theorem rd_deep {K : PySem.W.Frag} {vs : List V} {H : Hp} {Q : VK} {E : XK} (h : sp_deep K vs H Q E) : t_deep K { nx := fun _ H' => Q .non H', rt := Q } (start N_deep vs) H := by
  obtain ⟨d, r, nms, rfl, hd, hn, k⟩ := h
  unfold t_deep
  walk_at "go"
  refine g_take hd (by decide) fun v1 H1 a0 a1 c1 hd => ?_
  walk_at "go"
  refine g_take hd (by decide) fun v2 H2 b0 b1 c2 hd => ?_
  refine g_forR (by omega) (fun i σ H' => ∃ (v : V) (f : Fm) (o3 : Option V), σ = [some (.ref d), some (.ref r), some v, o3] ∧ Chg [d] H H' ∧ Dr H' d ∧ IsF H' f v ∧ f.ok ∧ f.size ≤ 1 + 2 * i ∧ f.depth ≤ 1 + i)
    ⟨_, .hole v1, none, rfl, c1.trans c2, hd, IsF.hole.mpr rfl, by simp only [Fm.ok]; omega, by simp only [Fm.size]; omega, by simp only [Fm.depth]; omega⟩ ?_ ?_
  · rintro i σ H' hi ⟨v, f, o3, rfl, c, hd, hf, fk, fz, fd⟩
    have hn1 := hn.keep c
    walk_at "go"
    refine g_take hd (by decide) fun v3 H3 _ _ c3 hd => ?_
    walk_at "go"
    refine g_2 (fun b => ?_) (fun b => ?_)
    · walk_at "go"
      refine g_take hd (by decide) fun v4 H4 x0 x1 c4 hd => ?_
      have hn4 := (hn1.keep c3).keep c4
      obtain ⟨s, hs, hat⟩ := nm_at hn4.ok x0 x1
      refine g_ixL hn4.at_ hat ?_
      walk_at "go"
      refine g_take hd (by decide) fun v5 H5 y0 y1 c5 hd => ?_
      walk_at "go"
      refine g_newT (big (by simp)) fun p H6 hp c6 h6 => ?_
      walk_at "go"
      refine ⟨_, .node s [f, .hole v5], _, rfl, (((c.trans c3).trans c4).trans c5).trans c6.all, hd.keep c6, IsF.node.mpr ⟨p, _, rfl, h6, ?_⟩, ?_, ?_, ?_⟩
      · unfold IsFs
        simp only [Fm.ds]
        exact IsL.cons (hf.up (((c3.trans c4).trans c5).trans c6.all)) (IsL.one Is.int)
      · simp only [Fm.ok, Fm.oks]; exact ⟨hn4.ok.good s hs, fk, by omega, trivial⟩
      · simp only [Fm.size, Fm.sizes]; omega
      · simp only [Fm.depth, Fm.depths]; omega
    · walk_at "go"
      refine g_take hd (by decide) fun v4 H4 x0 x1 c4 hd => ?_
      have hn4 := (hn1.keep c3).keep c4
      obtain ⟨s, hs, hat⟩ := nm_at hn4.ok x0 x1
      refine g_ixL hn4.at_ hat ?_
      walk_at "go"
      refine g_newT (big (by simp)) fun p H6 hp c6 h6 => ?_
      walk_at "go"
      refine ⟨_, .node s [f], _, rfl, ((c.trans c3).trans c4).trans c6.all, hd.keep c6, IsF.node.mpr ⟨p, _, rfl, h6, ?_⟩, ?_, ?_, ?_⟩
      · unfold IsFs
        simp only [Fm.ds]
        exact IsL.one (hf.up ((c3.trans c4).trans c6.all))
      · simp only [Fm.ok, Fm.oks]; exact ⟨hn4.ok.good s hs, fk, trivial⟩
      · simp only [Fm.size, Fm.sizes]; omega
      · simp only [Fm.depth, Fm.depths]; omega
  · rintro σ H' ⟨v, f, o3, rfl, c, hd, hf, fk, fz, fd⟩
    walk_at "go"
    exact k v H' f c hd hf fk (by omega) (by omega)
def t_law (K : PySem.W.Frag) : TS := (tSeq (tAsg (tCall (sp_names K) [] E0 (tCons (tSl (rSlL K) (tVar 0) tNoPart (tPart (tC (.int 1)))) tNil)) (gName 1))
  (tSeq (tAsg (tCall (sp_stream K) [] E0 (tCons (tSl (rSlL K) (tVar 0) (tPart (tC (.int 1))) tNoPart) tNil)) (gName 2))
  (tSeq (tAsg (tLst tNil) (gName 3))
  (tSeq (tFor (iRng1 (tCons (tC (.int 2)) tNil)) (gName 4)
  (tIfS (tTest (tOp rEq (tCall (sp_take K) [] E0 (tCons (tVar 2) (tCons (tC (.int 3)) tNil))) (tC (.int 1)))) (tDrop (tBM K "list" rAppend (tVar 3) (tCons (tCall (sp_deep K) [] E0 (tCons (tVar 2) (tCons (tVar 1) tNil))) tNil)))
  (tDrop (tBM K "list" rAppend (tVar 3) (tCons (tCall (sp_wide K 6) [] E0 (tCons (tVar 2) (tCons (tVar 1) (tCons (tC (.int 3)) tNil)))) tNil)))))
  (tSeq (tFor (iList K (tLst (tCons (tOp (rIxL K) (tVar 3) (tC (.int 0))) (tCons (tOp (rIxL K) (tVar 3) (tC (.int 1))) (tCons (tOp (rIxL K) (tVar 3) (tC (.int 0))) (tCons (tCall (sp_take K) [] E0 (tCons (tVar 2) (tCons (tC (.int 100)) tNil))) tNil)))))) (gName 5)
  (tIfS (tNot (tB (tCall (sp_same K 30) [] E0 (tCons (tCall (sp_rform K) [] E0 (tCons (tCall (sp_written K 30) [] E0 (tCons (tVar 5) tNil)) tNil)) (tCons (tVar 5) tNil))))) (tRet (tC (.bl false)))
  tNext))
  (tRet (tC (.bl true))))))))
abbrev N_law : List Str := ["_law_script", "_law_names_here", "_law_draws", "_law_forms", "_law_k", "_law_form"]
theorem rd_law {K : PySem.W.Frag} {vs : List V} {H : Hp} {Q : VK} {E : XK} (h : spLaw K vs H Q E) : t_law K { nx := fun _ H' => Q .non H', rt := Q } (start N_law vs) H := by
  obtain ⟨a, ns, rfl, hS, h63, k⟩ := h
  unfold t_law
  walk_at "go"
  refine g_slL hS fun p1 H1 hp1 c1 h1 => ?_
  walk_at "go"
  refine ⟨p1, ns.take 1, rfl, .inl (.inl (by rw [h1, cut_head])), by simp; omega, fun r H2 nms hr c2 h2 ok => ?_⟩
  walk_at "go"
  refine g_slL ((c1.trans c2).same.seq hS) fun p3 H3 hp3 c3 h3 => ?_
  walk_at "go"
  refine ⟨p3, ns.drop 1, rfl, .inl (.inl (by rw [h3, cut_tail])), by simp; omega, fun d H4 hd4 c4 hd => ?_⟩
  have hr4 := (c3.trans c4).at h2
  have rd : r ∉ [d] := by
    intro z
    have := c3.at h2
    rw [List.mem_singleton.mp z, hd4] at this
    cases this
  have hn : Nms H4 d r nms := ⟨hr4, ok, rd⟩
  have e1 : wideB 3 = 85 := rfl
  walk_at "go"
  refine g_newL (big (by simp)) fun l H5 hl c5 h5 => ?_
  have ld := hd.off hl
  walk_at "go"
  refine g_forR (by decide) (fun i σ H' => ∃ (ws : List V) (fs : List Fm) (o4 : Option V), σ = [some (.ref a), some (.ref r), some (.ref d), some (.ref l), o4, none] ∧ Chg [d] H4 H' ∧ Dr H' d ∧ H' l = some (.lst ws) ∧ IsFs H' fs ws ∧ fs.length = i ∧ (∀ f ∈ fs, f.size ≤ 85 ∧ f.depth ≤ 30 ∧ f.ok))
    ⟨[], [], none, rfl, c5.all, hd.keep c5, h5, IsL.nil, rfl, fun _ z => nomatch z⟩ ?_ ?_
  · rintro i σ H' hi ⟨ws, fs, o4, rfl, c, hd, hl', hw, hlen, hz⟩
    have hn' := hn.keep c
    have hwl := hw.length
    have fin : ∀ (v : V) (f : Fm) (H6 H7 : Hp), Chg [d] H' H6 → IsF H6 f v → f.size ≤ 85 → f.depth ≤ 30 → f.ok → Chg [d] H4 H7 → Dr H7 d → H7 l = some (.lst (ws ++ [v])) → Chg [l] H6 H7 →
        ∃ (ws : List V) (fs : List Fm) (o4' : Option V), ([some (.ref a), some (.ref r), some (.ref d), some (.ref l), o4, none] : L2.St).set 4 (some (.int (i : Int))) = [some (.ref a), some (.ref r), some (.ref d), some (.ref l), o4', none] ∧ Chg [d] H4 H7 ∧ Dr H7 d ∧ H7 l = some (.lst ws) ∧ IsFs H7 fs ws ∧ fs.length = i + 1 ∧ (∀ f ∈ fs, f.size ≤ 85 ∧ f.depth ≤ 30 ∧ f.ok) :=
      fun v f H6 H7 c6 hf fz fd fk c7 hd7 h7 c67 => ⟨_, fs ++ [f], _, rfl, c7, hd7, h7, IsFs.snoc (IsL.up c67 (IsL.up c6 hw)) (hf.up c67), by simp [hlen], fun g hg => by
        rcases List.mem_append.mp hg with q | q
        · exact hz g q
        · rw [List.mem_singleton.mp q]; exact ⟨fz, fd, fk⟩⟩
    walk_at "go"
    refine g_take hd (by decide) fun v1 H6 _ _ c6 hd6 => ?_
    walk_at "go"
    refine g_2 (fun b => ?_) (fun b => ?_)
    · have hl6 := c6.ob _ _ ld hl'
      walk_at "go"
      refine ⟨d, r, nms, rfl, hd6, hn'.keep c6, fun v H7 f c7 hd7 hf fk fz fd => ?_⟩
      walk_at "go"
      refine g_appD hl ld ((c.trans c6).trans c7) hd7 (c7.ob _ _ ld hl6) (by omega) fun H8 c8 hd8 h8 c78 => ?_
      exact fin v f H7 H8 (c6.trans c7) hf (by omega) (by omega) fk c8 hd8 h8 c78
    · have hl6 := c6.ob _ _ ld hl'
      walk_at "go"
      refine ⟨d, r, 3, nms, rfl, by decide, hd6, hn'.keep c6, fun v H7 f c7 hd7 hf fk fz fd => ?_⟩
      walk_at "go"
      refine g_appD hl ld ((c.trans c6).trans c7) hd7 (c7.ob _ _ ld hl6) (by omega) fun H8 c8 hd8 h8 c78 => ?_
      exact fin v f H7 H8 (c6.trans c7) hf (by omega) (by omega) fk c8 hd8 h8 c78
  · rintro σ H' ⟨ws, fs, o4, rfl, c, hd, hl', hw, hlen, hz⟩
    have hlen : fs.length = 2 := hlen
    obtain ⟨f0, f1, rfl⟩ : ∃ f0 f1, fs = [f0, f1] := by
      match fs, hlen with
      | [f0, f1], _ => exact ⟨f0, f1, rfl⟩
    unfold IsFs at hw
    simp only [Fm.ds] at hw
    obtain ⟨w0, ws, rfl, hw0, hw⟩ := IsL.cons_iff.mp hw
    obtain ⟨w1, ws, rfl, hw1, hw⟩ := IsL.cons_iff.mp hw
    obtain rfl := IsL.nil_iff.mp hw
    walk_at "go"
    refine g_ixL hl' (v := w0) rfl ?_
    walk_at "go"
    refine g_ixL hl' (v := w1) rfl ?_
    walk_at "go"
    refine g_ixL hl' (v := w0) rfl ?_
    walk_at "go"
    refine g_take hd (by decide) fun v1 H6 b0 b1 c6 hd6 => ?_
    walk_at "go"
    refine g_newL (big (by simp)) fun q H7 hq c7 h7 => ?_
    have hz0 := hz f0 (by simp)
    have hz1 := hz f1 (by simp)
    refine g_forL (xs := [w0, w1, w0, .int v1]) (.inl (.inl h7)) (fun i σ H' => ∃ (o5 : Option V), σ = [some (.ref a), some (.ref r), some (.ref d), some (.ref l), o4, o5] ∧ Ext H7 H') ⟨none, rfl, Chg.refl _⟩ (fun i σ H' _ ⟨_, _, c⟩ => .inl (.inl (c.at h7))) ?_ ?_
    · rintro i x σ H8 hi ⟨o5, rfl, c8⟩
      obtain ⟨f, hf, fz, fd, fk⟩ : ∃ f, IsF H7 f x ∧ f.size ≤ 85 ∧ f.depth ≤ 30 ∧ f.ok := by
        have hx : x = w0 ∨ x = w1 ∨ x = .int v1 := by
          have := List.mem_of_getElem? hi
          simp at this
          rcases this with h | h | h | h <;> simp [h]
        rcases hx with rfl | rfl | rfl
        · exact ⟨f0, hw0.up (c6.trans c7.all), hz0⟩
        · exact ⟨f1, hw1.up (c6.trans c7.all), hz1⟩
        · exact ⟨.hole v1, IsF.hole.mpr rfl, by simp only [Fm.size]; omega, by simp only [Fm.depth]; omega, by simp only [Fm.ok]; omega⟩
      have hf := hf.up c8
      walk_at "go"
      refine ⟨x, f, rfl, hf, fk, by omega, fd, fun z H9 c9 ez => ?_⟩
      have hwl := Fm.wl_len f fk
      have hcs := Fm.cnt_size f fk
      refine ⟨z, rfl, by rw [tl_len, ez]; omega, by rw [ez]; show f.wl.count 40 < 100; omega, fun g gok hg v HA cA hv => ?_, fun hb => (hb f fk ez.symm).elim⟩
      have eg : g = f := by
        have h1 := parse_all (z := z) (by rw [ez]; show f.wl.count 40 < 100; omega) gok hg
        have h2 := parse_all (z := z) (by rw [ez]; show f.wl.count 40 < 100; omega) fk ez.symm
        rw [h1] at h2
        exact congrArg Prod.fst (Option.some.inj h2)
      subst eg
      walk_at "go"
      refine ⟨v, x, g, rfl, hv, (hf.up c9).up cA, by omega, fd, ?_⟩
      walk_at "go"
      exact ⟨_, rfl, (c8.trans c9).trans cA⟩
    · rintro σ H8 ⟨o5, rfl, c8⟩
      walk_at "go"
      exact k _
end My

namespace Prog
open PySem PySem.Spec PyProof.Rows L2 My
def top (i : Nat) : Stmt := PySem.Challenge.pw_signbysign_k06_read_what_is_written.main.body.getD i (.Pass ⟨0, 0, 0, 0⟩)
abbrev FnP (K : PySem.W.Frag) (x q : Str) (st : Stmt) (f : Addr) (fd : FuncData) : Prop := FunD K x q (defArgs st) (defBody st) (defScope st) [] [] f fd
abbrev s_take : Stmt := (top 13)
theorem sc_take : FnScope N_take ["_law_draws", "_law_many"] (defScope s_take) := ⟨rfl, rfl, rfl, by decide +kernel, rfl, by decide +kernel, by decide +kernel⟩
def d_take : DefM := ⟨wFn "_law_take", "_law_take", "_law_take", defArgs s_take, defBody s_take, defScope s_take, []⟩
abbrev s_stream : Stmt := (top 12)
theorem sc_stream : FnScope N_stream ["_law_script"] (defScope s_stream) := ⟨rfl, rfl, rfl, by decide +kernel, rfl, by decide +kernel, by decide +kernel⟩
def d_stream : DefM := ⟨wFn "_law_stream", "_law_stream", "_law_stream", defArgs s_stream, defBody s_stream, defScope s_stream, []⟩
abbrev s_names : Stmt := (top 14)
theorem sc_names : FnScope N_names ["_law_cells"] (defScope s_names) := ⟨rfl, rfl, rfl, by decide +kernel, rfl, by decide +kernel, by decide +kernel⟩
def d_names : DefM := ⟨wFn "_law_names", "_law_names", "_law_names", defArgs s_names, defBody s_names, defScope s_names, []⟩
abbrev s_word : Stmt := (top 6)
theorem sc_word : FnScope N_word ["text"] (defScope s_word) := ⟨rfl, rfl, rfl, by decide +kernel, rfl, by decide +kernel, by decide +kernel⟩
def d_word : DefM := ⟨wFn "is_word", "is_word", "is_word", defArgs s_word, defBody s_word, defScope s_word, []⟩
abbrev s_write : Stmt := (top 7)
theorem sc_write : FnScope N_write ["form"] (defScope s_write) := ⟨rfl, rfl, rfl, by decide +kernel, rfl, by decide +kernel, by decide +kernel⟩
def d_write : DefM := ⟨wFn "write_form", "write_form", "write_form", defArgs s_write, defBody s_write, defScope s_write, []⟩
abbrev s_written : Stmt := (top 15)
theorem sc_written : FnScope N_written ["_law_form"] (defScope s_written) := ⟨rfl, rfl, rfl, by decide +kernel, rfl, by decide +kernel, by decide +kernel⟩
def d_written : DefM := ⟨wFn "_law_written", "_law_written", "_law_written", defArgs s_written, defBody s_written, defScope s_written, []⟩
abbrev s_endof : Stmt := (top 8)
theorem sc_endof : FnScope N_endof ["text", "start", "chars"] (defScope s_endof) := ⟨rfl, rfl, rfl, by decide +kernel, rfl, by decide +kernel, by decide +kernel⟩
def d_endof : DefM := ⟨wFn "end_of", "end_of", "end_of", defArgs s_endof, defBody s_endof, defScope s_endof, []⟩
abbrev s_part : Stmt := (top 9)
theorem sc_part : FnScope N_part ["text", "start"] (defScope s_part) := ⟨rfl, rfl, rfl, by decide +kernel, rfl, by decide +kernel, by decide +kernel⟩
def d_part : DefM := ⟨wFn "read_part", "read_part", "read_part", defArgs s_part, defBody s_part, defScope s_part, []⟩
abbrev s_rform : Stmt := (top 10)
theorem sc_rform : FnScope N_rform ["text"] (defScope s_rform) := ⟨rfl, rfl, rfl, by decide +kernel, rfl, by decide +kernel, by decide +kernel⟩
def d_rform : DefM := ⟨wFn "read_form", "read_form", "read_form", defArgs s_rform, defBody s_rform, defScope s_rform, []⟩
abbrev s_same : Stmt := (top 16)
theorem sc_same : FnScope N_same ["_law_answer", "_law_due"] (defScope s_same) := ⟨rfl, rfl, rfl, by decide +kernel, rfl, by decide +kernel, by decide +kernel⟩
def d_same : DefM := ⟨wFn "_law_same", "_law_same", "_law_same", defArgs s_same, defBody s_same, defScope s_same, []⟩
abbrev s_wide : Stmt := (top 17)
theorem sc_wide : FnScope N_wide ["_law_draws", "_law_names_here", "_law_depth"] (defScope s_wide) := ⟨rfl, rfl, rfl, by decide +kernel, rfl, by decide +kernel, by decide +kernel⟩
def d_wide : DefM := ⟨wFn "_law_wide", "_law_wide", "_law_wide", defArgs s_wide, defBody s_wide, defScope s_wide, []⟩
abbrev s_deep : Stmt := (top 18)
theorem sc_deep : FnScope N_deep ["_law_draws", "_law_names_here"] (defScope s_deep) := ⟨rfl, rfl, rfl, by decide +kernel, rfl, by decide +kernel, by decide +kernel⟩
def d_deep : DefM := ⟨wFn "_law_deep", "_law_deep", "_law_deep", defArgs s_deep, defBody s_deep, defScope s_deep, []⟩
abbrev s_law : Stmt := (top 19)
theorem sc_law : FnScope N_law ["_law_script"] (defScope s_law) := ⟨rfl, rfl, rfl, by decide +kernel, rfl, by decide +kernel, by decide +kernel⟩
def d_law : DefM := ⟨wFn "law", "law", "law", defArgs s_law, defBody s_law, defScope s_law, []⟩
def fn : List DefM := [d_take, d_stream, d_names, d_word, d_write, d_written, d_endof, d_part, d_rform, d_same, d_wide, d_deep, d_law]
def ex : List Ex := []
def fa : List He.Fa := [.glo "_law_take", .glo "_law_stream", .glo "_law_names", .glo "is_word", .glo "write_form", .glo "_law_written", .glo "end_of", .glo "read_part", .glo "read_form", .glo "_law_same", .glo "_law_wide", .glo "_law_deep", .glo "law", .free "int", .free "len", .free "abs", .free "range", .free "sum", .str "LETTERS" "abcdefghijklmnopqrstuvwxyz", .free "isinstance", .free "str", .str "DIGITS" "0123456789", .free "bool", .free "tuple"]
section
variable {P : Program} {w : World} {K : PySem.W.Frag} {mg : Str → Option Value} {base : Heap} {h : Heap}
theorem ok_take (X : K.In h) (G : h.Ns mainGlobals mg) (c : SaysM fa fn ex K) : Cl P w K mg base CX0 1 "_law_take" (sp_take K) := by
  obtain ⟨fd, F⟩ := c.def_ 0 (d := d_take) rfl
  have f_int := He.free_ok X G (c.fact 13 (f := .free "int") rfl)
  have f_len := He.free_ok X G (c.fact 14 (f := .free "len") rfl)
  refine ⟨_, fd, ["_law_draws", "_law_many"], F.ok sc_take (fun vs H Q E h => len_take h) (fun cdv A outer s H vs Q E hr h => ⟨t_take K, PSs.nox ?_, rd_take h⟩), He.glo_ok X G (c.fact 0 (f := .glo "_law_take") rfl), F.kp, FunD.bindsN F (fun _ _ _ _ _ _ us hl => match us, hl with | [_, _], _ => rfl)⟩
  exact (pss_cons (ps_if (pt_cmpR op_eq (pe_callB call_len_seq rfl f_len boot_len (pa_cons (pv 0) pa_nil)) pe_int (nomark _)) (pss_one (ps_ret pe_int))
    pss_nil)
    (pss_one (ps_ret (pe_op op_mod (pe_callTy call_int1 rfl f_int boot_int (pa_cons (pe_bm PySem.F.plainAttrs_list PySem.F.slot_list_pop PySem.F.type_list_pop mt_popAt (pv 0) (pa_cons pe_int pa_nil)) pa_nil)) (pv 1)))))
theorem ok_stream (X : K.In h) (G : h.Ns mainGlobals mg) (c : SaysM fa fn ex K) : Cl P w K mg base CX0 1 "_law_stream" (sp_stream K) := by
  obtain ⟨fd, F⟩ := c.def_ 1 (d := d_stream) rfl
  have f_abs := He.free_ok X G (c.fact 15 (f := .free "abs") rfl)
  have f_int := He.free_ok X G (c.fact 13 (f := .free "int") rfl)
  have f_len := He.free_ok X G (c.fact 14 (f := .free "len") rfl)
  have f_range := He.free_ok X G (c.fact 16 (f := .free "range") rfl)
  refine ⟨_, fd, ["_law_script"], F.ok sc_stream (fun vs H Q E h => len_stream h) (fun cdv A outer s H vs Q E hr h => ⟨t_stream K, PSs.nox ?_, rd_stream h⟩), He.glo_ok X G (c.fact 1 (f := .glo "_law_stream") rfl), F.kp, FunD.bindsN F (fun _ _ _ _ _ _ us hl => match us, hl with | [_], _ => rfl)⟩
  exact (pss_cons (ps_set (i := 1) sc_stream.nd rfl (Or.inl rfl) (pe_lst pa_nil))
    (pss_cons (ps_set (i := 2) sc_stream.nd rfl (Or.inl rfl) pe_int)
    (pss_cons (ps_for PassesOwn.never rfl (pi_list (pv 0)) (pg_name (i := 3) sc_stream.nd rfl (Or.inl rfl))
    (pss_cons (ps_set (i := 4) sc_stream.nd rfl (Or.inl rfl) (pe_callB call_abs rfl f_abs boot_abs (pa_cons (pe_callTy call_int1 rfl f_int boot_int (pa_cons (pv 3) pa_nil)) pa_nil)))
    (pss_cut (ps_if (pt_cmpR op_lt (pv 4) (pe_op op_pow pe_int pe_int) (nomark _)) (pss_cons (ps_expr (pe_bm PySem.F.plainAttrs_list PySem.F.slot_list_append PySem.F.type_list_append mt_append (pv 1) (pa_cons (pe_op op_mod (pe_callTy call_int1 rfl f_int boot_int (pa_cons (pv 3) pa_nil)) pe_int) pa_nil)))
    (pss_one (ps_set (i := 4) sc_stream.nd rfl (Or.inl rfl) pe_int)))
    pss_nil)
    (pss_cons (ps_for PassesOwn.never rfl (pi_range1 rfl f_range (pa_cons pe_int pa_nil)) (pg_name (i := 5) sc_stream.nd rfl (Or.inl rfl))
    (pss_one (ps_if (pt_cmpR op_gt (pv 4) pe_int (nomark _)) (pss_cons (ps_expr (pe_bm PySem.F.plainAttrs_list PySem.F.slot_list_append PySem.F.type_list_append mt_append (pv 1) (pa_cons (pe_op op_mod (pe_callTy call_int1 rfl f_int boot_int (pa_cons (pv 4) pa_nil)) pe_int) pa_nil)))
    (pss_one (ps_set (i := 4) sc_stream.nd rfl (Or.inl rfl) (pe_op op_fdiv (pv 4) pe_int))))
    pss_nil)))
    (pss_one (ps_set (i := 2) sc_stream.nd rfl (Or.inl rfl) (pe_op op_add (pe_op op_mod (pe_callTy call_int1 rfl f_int boot_int (pa_cons (pe_op op_add (pe_op op_mul (pv 2) pe_int) (pe_callTy call_int1 rfl f_int boot_int (pa_cons (pv 3) pa_nil))) pa_nil)) pe_int) pe_int)))))))
    (pss_cons (ps_set (i := 6) sc_stream.nd rfl (Or.inl rfl) (pe_op op_add (pe_op op_mul (pv 2) pe_int) pe_int))
    (pss_cons (ps_for PassesOwn.never rfl (pi_range1 rfl f_range (pa_cons (pe_op op_mul pe_int (pe_callTy call_int1 rfl f_int boot_int (pa_cons (pe_cmpR op_gt (pe_callB call_len_seq rfl f_len boot_len (pa_cons (pv 0) pa_nil)) pe_int (nomark _)) pa_nil))) pa_nil)) (pg_name (i := 5) sc_stream.nd rfl (Or.inl rfl))
    (pss_cons (ps_set (i := 2) sc_stream.nd rfl (Or.inl rfl) (pe_op op_mod (pe_callTy call_int1 rfl f_int boot_int (pa_cons (pe_op op_mul (pv 2) pe_int) pa_nil)) pe_int))
    (pss_cons (ps_set (i := 6) sc_stream.nd rfl (Or.inl rfl) (pe_op op_mod (pe_callTy call_int1 rfl f_int boot_int (pa_cons (pe_op op_mul (pv 6) pe_int) pa_nil)) pe_int))
    (pss_one (ps_expr (pe_bm PySem.F.plainAttrs_list PySem.F.slot_list_append PySem.F.type_list_append mt_append (pv 1) (pa_cons (pe_op op_mod (pe_callTy call_int1 rfl f_int boot_int (pa_cons (pe_op op_add (pe_op op_fdiv (pv 2) pe_int) (pe_op op_fdiv (pv 6) pe_int)) pa_nil)) pe_int) pa_nil)))))))
    (pss_one (ps_ret (pe_slice sl_list (pv 1) po_none (po_some pe_int)))))))))
theorem ok_names (X : K.In h) (G : h.Ns mainGlobals mg) (c : SaysM fa fn ex K) : Cl P w K mg base CX0 1 "_law_names" (sp_names K) := by
  obtain ⟨fd, F⟩ := c.def_ 2 (d := d_names) rfl
  have f_abs := He.free_ok X G (c.fact 15 (f := .free "abs") rfl)
  have f_int := He.free_ok X G (c.fact 13 (f := .free "int") rfl)
  have f_range := He.free_ok X G (c.fact 16 (f := .free "range") rfl)
  have f_sum := He.free_ok X G (c.fact 17 (f := .free "sum") rfl)
  refine ⟨_, fd, ["_law_cells"], F.ok sc_names (fun vs H Q E h => len_names h) (fun cdv A outer s H vs Q E hr h => ⟨t_names K, PSs.nox ?_, rd_names h⟩), He.glo_ok X G (c.fact 2 (f := .glo "_law_names") rfl), F.kp, FunD.bindsN F (fun _ _ _ _ _ _ us hl => match us, hl with | [_], _ => rfl)⟩
  exact (pss_cons (ps_set (i := 1) sc_names.nd rfl (Or.inr rfl) pe_str)
    (pss_cons (ps_set (i := 2) sc_names.nd rfl (Or.inl rfl) (pe_callB call_abs rfl f_abs boot_abs (pa_cons (pe_callB (cr_sum rfl) rfl f_sum boot_sum (pa_cons (pe_lc (own := [("_law_cell", 12)]) (g := (gName 12)) (tt := tYes) rfl sc_names.nd  (pi_list (pv 0)) (blkOk_by (own := [("_law_cell", 12)]) (N := N_names) (sc := defScope s_names) (by decide +kernel)) (fun _ _ _ _ _ => pg_name (i := 12) sc_names.nd rfl (Or.inl rfl)) (fun _ _ _ _ _ => pts_nil) (fun _ _ _ _ _ => (pe_callTy call_int1 rfl f_int boot_int (pa_cons (pv 12) pa_nil)))) pa_nil)) pa_nil)))
    (pss_cut (ps_if (PW.pt (pw_and (pt_cmpR op_lt pe_int (pv 2) (nomark _)) (pw_and1 (pt_cmpR op_lt (pv 2) (pe_op op_pow pe_int pe_int) (nomark _))))) (pss_one (ps_set (i := 2) sc_names.nd rfl (Or.inl rfl) (pe_op op_pow (pe_op op_add (pv 2) pe_int) pe_int)))
    pss_nil)
    (pss_cons (ps_set (i := 3) sc_names.nd rfl (Or.inl rfl) (pe_ix ix_list (pe_lst (pa_cons pe_int (pa_cons pe_int (pa_cons pe_int (pa_cons pe_int (pa_cons pe_int (pa_cons pe_int (pa_cons pe_int (pa_cons pe_int (pa_cons pe_int (pa_cons pe_int (pa_cons pe_int (pa_cons pe_int pa_nil))))))))))))) (pe_op op_mod (pe_callTy call_int1 rfl f_int boot_int (pa_cons (pv 2) pa_nil)) pe_int) (fun _ _ => rfl)))
    (pss_cons (ps_set (i := 4) sc_names.nd rfl (Or.inl rfl) (pe_op op_mod (pe_callTy call_int1 rfl f_int boot_int (pa_cons (pe_op op_fdiv (pv 2) pe_int) pa_nil)) pe_int))
    (pss_cons (ps_set (i := 5) sc_names.nd rfl (Or.inl rfl) (pe_op op_mod (pe_callTy call_int1 rfl f_int boot_int (pa_cons (pe_op op_fdiv (pv 2) pe_int) pa_nil)) pe_int))
    (pss_cons (ps_set (i := 2) sc_names.nd rfl (Or.inl rfl) (pe_op op_fdiv (pv 2) pe_int))
    (pss_cons (ps_set (i := 6) sc_names.nd rfl (Or.inr rfl) (pe_lst pa_nil))
    (pss_cons (ps_for PassesOwn.never rfl (pi_range1 rfl f_range (pa_cons pe_int pa_nil)) (pg_name (i := 7) sc_names.nd rfl (Or.inl rfl))
    (pss_cons (ps_set (i := 8) sc_names.nd rfl (Or.inl rfl) (pe_ix ix_str (pv 1) (pe_op op_mod (pe_callTy call_int1 rfl f_int boot_int (pa_cons (pe_op op_add (pe_op op_mul (pv 7) (pv 3)) (pv 4)) pa_nil)) pe_int) (fun _ _ => rfl)))
    (pss_cons (ps_set (i := 9) sc_names.nd rfl (Or.inl rfl) (pe_slice sl_str (pe_slice sl_str (pe_op op_add_str (pv 1) (pv 1)) (po_some (pe_op op_mod (pe_callTy call_int1 rfl f_int boot_int (pa_cons (pv 2) pa_nil)) pe_int)) po_none) po_none (po_some (pe_op op_mod (pe_callTy call_int1 rfl f_int boot_int (pa_cons (pe_op op_fdiv (pv 2) pe_int) pa_nil)) pe_int))))
    (pss_cons (ps_expr (pe_bm PySem.F.plainAttrs_list PySem.F.slot_list_append PySem.F.type_list_append mt_append (pv 6) (pa_cons (pe_ix ix_list (pe_lst (pa_cons (pe_op op_add_str (pv 8) (pv 9)) (pa_cons (pe_op op_add_str (pv 9) (pv 8)) pa_nil))) (pv 5) (fun _ _ => rfl)) pa_nil)))
    (pss_one (ps_set (i := 2) sc_names.nd rfl (Or.inl rfl) (pe_op op_fdiv (pv 2) pe_int)))))))
    (pss_cons (ps_setLc (i := 10) (own := [("_law_k", 7)]) (g := (gName 7)) (tt := tYes) rfl sc_names.nd rfl rfl (sw_true rfl rfl rfl (by decide +kernel)) (pi_range1 rfl f_range (pa_cons pe_int pa_nil)) (blkOk_by (own := [("_law_k", 7)]) (N := N_names) (sc := defScope s_names) (by decide +kernel)) (fun _ _ _ _ _ => pg_name (i := 7) sc_names.nd rfl (Or.inl rfl)) (fun _ _ _ _ _ => pts_nil) (fun _ _ _ _ _ => (pe_op op_add_str (pe_ix ix_str (pv 1) (pe_op op_mod (pe_callTy call_int1 rfl f_int boot_int (pa_cons (pv 7) pa_nil)) pe_int) (fun _ _ => rfl)) (pe_ix ix_str (pv 1) (pe_op op_mod (pe_callTy call_int1 rfl f_int boot_int (pa_cons (pe_op op_add (pe_op op_add (pe_op op_mul (pv 7) pe_int) (pe_op op_fdiv (pv 7) pe_int)) pe_int) pa_nil)) pe_int) (fun _ _ => rfl)))))
    (pss_one (ps_ret (pe_op op_cat (pv 6) (pe_lc (own := [("_law_name", 11)]) (g := (gName 11)) (tt := (tTest (tOp (rIn K true) (tVar 11) (tVar 6)))) rfl sc_names.nd  (pi_list (pv 10)) (blkOk_by (own := [("_law_name", 11)]) (N := N_names) (sc := defScope s_names) (by decide +kernel)) (fun _ _ _ _ _ => pg_name (i := 11) sc_names.nd rfl (Or.inl rfl)) (fun _ _ _ _ _ => pts_one (pt_cmpR op_notIn_seq (pv 11) (pv 6) (by with_unfolding_all rfl))) (fun _ _ _ _ _ => (pv 11))))))))))))))))
theorem ok_word (X : K.In h) (G : h.Ns mainGlobals mg) (c : SaysM fa fn ex K) : Cl P w K mg base CX0 1 "is_word" (sp_word K) := by
  obtain ⟨fd, F⟩ := c.def_ 3 (d := d_word) rfl
  have k_LETTERS : ∃ u, mg "LETTERS" = some u ∧ RelV (.str "abcdefghijklmnopqrstuvwxyz") u := by
    obtain ⟨t, e⟩ := He.str_ok X G (c.fact 18 (f := .str "LETTERS" "abcdefghijklmnopqrstuvwxyz") rfl)
    exact ⟨_, e, ⟨t, rfl⟩⟩
  have f_len := He.free_ok X G (c.fact 14 (f := .free "len") rfl)
  refine ⟨_, fd, ["text"], F.ok sc_word (fun vs H Q E h => len_word h) (fun cdv A outer s H vs Q E hr h => ⟨t_word K, PSs.nox ?_, rd_word h⟩), He.glo_ok X G (c.fact 3 (f := .glo "is_word") rfl), F.kp, FunD.bindsN F (fun _ _ _ _ _ _ us hl => match us, hl with | [_], _ => rfl)⟩
  exact (pss_cons (ps_if (pt_not (pt_chain op_le op_le pe_int (pe_callB call_len_str rfl f_len boot_len (pa_cons (pv 0) pa_nil)) pe_int)) (pss_one (ps_ret pe_bl))
    pss_nil)
    (pss_cons (ps_for PassesOwn.never rfl (pi_str (pv 0)) (pg_name (i := 1) sc_word.nd rfl (Or.inl rfl))
    (pss_one (ps_if (pt_cmpR op_notIn_sign (pv 1) (pe_gc rfl k_LETTERS) (by with_unfolding_all rfl)) (pss_one (ps_ret pe_bl))
    pss_nil)))
    (pss_one (ps_ret pe_bl))))
theorem ok_write (X : K.In h) (G : h.Ns mainGlobals mg) (c : SaysM fa fn ex K) : ∀ n : Nat, Cl P w K mg base CX0 (0 + n) "write_form" (sp_write K n) := by
  obtain ⟨fd, F⟩ := c.def_ 4 (d := d_write) rfl
  have f_int := He.free_ok X G (c.fact 13 (f := .free "int") rfl)
  have f_isinstance := He.free_ok X G (c.fact 19 (f := .free "isinstance") rfl)
  have f_len := He.free_ok X G (c.fact 14 (f := .free "len") rfl)
  have f_str := He.free_ok X G (c.fact 20 (f := .free "str") rfl)
  have gl := He.glo_ok X G (c.fact 4 (f := .glo "write_form") rfl)
  have bd := FunD.bindsN (ps := ["form"]) F (fun _ _ _ _ _ _ us hl => match us, hl with | [_], _ => rfl)
  intro n
  induction n with
  | zero => exact ⟨_, fd, ["form"], ⟨fun vs H Q E h => absurd h (no_write vs H Q E), fun A outer s H args us vs Q E _ _ _ _ h => absurd h (no_write vs H Q E)⟩, gl, F.kp, bd⟩
  | succ n ih =>
    refine ⟨_, fd, ["form"], F.ok (k := 0 + n) sc_write (fun vs H Q E h => len_write h) (fun cdv A outer s H vs Q E hr h => ⟨t_write K (sp_write K n), PSs.nox ?_, rd_write h⟩), gl, F.kp, bd⟩
    exact (pss_cons (ps_if (pt_val (pe_callB call_isi rfl f_isinstance boot_isinstance (pa_cons (pv 0) (pa_cons (pe_bltn rfl f_int boot_int rfl) pa_nil)))) (pss_one (ps_ret (pe_callTy call_str_int rfl f_str boot_str (pa_cons (pv 0) pa_nil))))
    pss_nil)
    (pss_cons (ps_if (pt_cmpR op_eq (pe_callB call_len_seq rfl f_len boot_len (pa_cons (pv 0) pa_nil)) pe_int (nomark _)) (pss_one (ps_ret (pe_ix ix_tup (pv 0) pe_int (fun _ _ => rfl))))
    pss_nil)
    (pss_cons (ps_set (i := 1) sc_write.nd rfl (Or.inl rfl) (pe_join pe_str (pe_lc (own := [("part", 2)]) (g := (gName 2)) (tt := tYes) rfl sc_write.nd  (pi_tup (pe_slice sl_tup (pv 0) (po_some pe_int) po_none)) (blkOk_by (own := [("part", 2)]) (N := N_write) (sc := defScope s_write) (by decide +kernel)) (fun _ _ _ _ _ => pg_name (i := 2) sc_write.nd rfl (Or.inl rfl)) (fun _ _ _ _ _ => pts_nil) (fun _ _ _ _ _ => (pe_cl ih hr (by omega) pass0 (pa_cons (pv 2) pa_nil))))))
    (pss_one (ps_ret (pe_joined (.cons (pe_fmt (pe_ix ix_tup (pv 0) pe_int (fun _ _ => rfl))) (.cons pe_str (.cons (pe_fmt (pv 1)) (.cons pe_str .nil))))))))))
theorem ok_written (X : K.In h) (G : h.Ns mainGlobals mg) (c : SaysM fa fn ex K) : ∀ n : Nat, Cl P w K mg base CX0 (0 + n) "_law_written" (sp_written K n) := by
  obtain ⟨fd, F⟩ := c.def_ 5 (d := d_written) rfl
  have f_int := He.free_ok X G (c.fact 13 (f := .free "int") rfl)
  have f_isinstance := He.free_ok X G (c.fact 19 (f := .free "isinstance") rfl)
  have f_len := He.free_ok X G (c.fact 14 (f := .free "len") rfl)
  have f_range := He.free_ok X G (c.fact 16 (f := .free "range") rfl)
  have f_str := He.free_ok X G (c.fact 20 (f := .free "str") rfl)
  have gl := He.glo_ok X G (c.fact 5 (f := .glo "_law_written") rfl)
  have bd := FunD.bindsN (ps := ["_law_form"]) F (fun _ _ _ _ _ _ us hl => match us, hl with | [_], _ => rfl)
  intro n
  induction n with
  | zero => exact ⟨_, fd, ["_law_form"], ⟨fun vs H Q E h => absurd h (no_written vs H Q E), fun A outer s H args us vs Q E _ _ _ _ h => absurd h (no_written vs H Q E)⟩, gl, F.kp, bd⟩
  | succ n ih =>
    refine ⟨_, fd, ["_law_form"], F.ok (k := 0 + n) sc_written (fun vs H Q E h => len_written h) (fun cdv A outer s H vs Q E hr h => ⟨t_written K (sp_written K n), PSs.nox ?_, rd_written h⟩), gl, F.kp, bd⟩
    exact (pss_cons (ps_if (pt_val (pe_callB call_isi rfl f_isinstance boot_isinstance (pa_cons (pv 0) (pa_cons (pe_bltn rfl f_int boot_int rfl) pa_nil)))) (pss_one (ps_ret (pe_callTy call_str_int rfl f_str boot_str (pa_cons (pv 0) pa_nil))))
    pss_nil)
    (pss_cons (ps_if (pt_cmpR op_eq (pe_callB call_len_seq rfl f_len boot_len (pa_cons (pv 0) pa_nil)) pe_int (nomark _)) (pss_one (ps_ret (pe_ix ix_tup (pv 0) pe_int (fun _ _ => rfl))))
    pss_nil)
    (pss_cons (ps_set (i := 1) sc_written.nd rfl (Or.inl rfl) (pe_op op_add_str (pe_ix ix_tup (pv 0) pe_int (fun _ _ => rfl)) pe_str))
    (pss_cons (ps_for PassesOwn.never rfl (pi_range2 rfl f_range (pa_cons pe_int (pa_cons (pe_callB call_len_seq rfl f_len boot_len (pa_cons (pv 0) pa_nil)) pa_nil))) (pg_name (i := 2) sc_written.nd rfl (Or.inl rfl))
    (pss_cons (ps_if (pt_cmpR op_gt (pv 2) pe_int (nomark _)) (pss_one (ps_set (i := 1) sc_written.nd rfl (Or.inl rfl) (pe_op op_add_str (pv 1) pe_str)))
    pss_nil)
    (pss_one (ps_set (i := 1) sc_written.nd rfl (Or.inl rfl) (pe_op op_add_str (pv 1) (pe_cl ih hr (by omega) pass0 (pa_cons (pe_ix ix_tup (pv 0) (pv 2) (fun _ _ => rfl)) pa_nil)))))))
    (pss_one (ps_ret (pe_op op_add_str (pv 1) pe_str)))))))
theorem ok_endof (X : K.In h) (G : h.Ns mainGlobals mg) (c : SaysM fa fn ex K) : Cl P w K mg base CX0 1 "end_of" (sp_endof K) := by
  obtain ⟨fd, F⟩ := c.def_ 6 (d := d_endof) rfl
  have f_len := He.free_ok X G (c.fact 14 (f := .free "len") rfl)
  refine ⟨_, fd, ["text", "start", "chars"], F.ok sc_endof (fun vs H Q E h => len_endof h) (fun cdv A outer s H vs Q E hr h => ⟨t_endof K, PSs.nox ?_, rd_endof h⟩), He.glo_ok X G (c.fact 6 (f := .glo "end_of") rfl), F.kp, FunD.bindsN F (fun _ _ _ _ _ _ us hl => match us, hl with | [_, _, _], _ => rfl)⟩
  exact (pss_cons (ps_set (i := 3) sc_endof.nd rfl (Or.inl rfl) (pv 1))
    (pss_cons (ps_while PassesOwn.never (PW.pt (pw_and (pt_cmpR op_lt (pv 3) (pe_callB call_len_str rfl f_len boot_len (pa_cons (pv 0) pa_nil)) (nomark _)) (pw_and1 (pt_cmpR op_in_sign (pe_ix ix_str (pv 0) (pv 3) (fun _ _ => rfl)) (pv 2) (by with_unfolding_all rfl)))))
    (pss_one (ps_aug (i := 3) sc_endof.nd rfl (Or.inl rfl) pe_int ip_add)))
    (pss_one (ps_ret (pv 3)))))
theorem ok_part (X : K.In h) (G : h.Ns mainGlobals mg) (c : SaysM fa fn ex K) : ∀ n : Nat, Cl P w K mg base CX0 (1 + n) "read_part" (sp_part K n) := by
  obtain ⟨fd, F⟩ := c.def_ 7 (d := d_part) rfl
  have k_DIGITS : ∃ u, mg "DIGITS" = some u ∧ RelV (.str "0123456789") u := by
    obtain ⟨t, e⟩ := He.str_ok X G (c.fact 21 (f := .str "DIGITS" "0123456789") rfl)
    exact ⟨_, e, ⟨t, rfl⟩⟩
  have k_LETTERS : ∃ u, mg "LETTERS" = some u ∧ RelV (.str "abcdefghijklmnopqrstuvwxyz") u := by
    obtain ⟨t, e⟩ := He.str_ok X G (c.fact 18 (f := .str "LETTERS" "abcdefghijklmnopqrstuvwxyz") rfl)
    exact ⟨_, e, ⟨t, rfl⟩⟩
  have f_int := He.free_ok X G (c.fact 13 (f := .free "int") rfl)
  have f_len := He.free_ok X G (c.fact 14 (f := .free "len") rfl)
  have c_endof := ok_endof (P := P) (w := w) (base := base) X G c
  have c_word := ok_word (P := P) (w := w) (base := base) X G c
  have gl := He.glo_ok X G (c.fact 7 (f := .glo "read_part") rfl)
  have bd := FunD.bindsN (ps := ["text", "start"]) F (fun _ _ _ _ _ _ us hl => match us, hl with | [_, _], _ => rfl)
  intro n
  induction n with
  | zero => exact ⟨_, fd, ["text", "start"], ⟨fun vs H Q E h => absurd h (no_part vs H Q E), fun A outer s H args us vs Q E _ _ _ _ h => absurd h (no_part vs H Q E)⟩, gl, F.kp, bd⟩
  | succ n ih =>
    refine ⟨_, fd, ["text", "start"], F.ok (k := 1 + n) sc_part (fun vs H Q E h => len_part h) (fun cdv A outer s H vs Q E hr h => ⟨t_part K (sp_part K n), PSs.nox ?_, rd_part h⟩), gl, F.kp, bd⟩
    exact (pss_cons (ps_set (i := 2) sc_part.nd rfl (Or.inl rfl) (pe_cl c_endof hr (by omega) pass0 (pa_cons (pv 0) (pa_cons (pv 1) (pa_cons (pe_gc rfl k_DIGITS) pa_nil)))))
    (pss_cut (ps_if (pt_chain op_lt op_le (pv 1) (pv 2) (pe_op op_add (pv 1) pe_int)) (pss_one (ps_ret (pe_tup (pa_cons (pe_callTy call_int_str rfl f_int boot_int (pa_cons (pe_slice sl_str (pv 0) (po_some (pv 1)) (po_some (pv 2))) pa_nil)) (pa_cons (pv 2) pa_nil)))))
    pss_nil)
    (pss_cons (ps_set (i := 2) sc_part.nd rfl (Or.inl rfl) (pe_cl c_endof hr (by omega) pass0 (pa_cons (pv 0) (pa_cons (pv 1) (pa_cons (pe_gc rfl k_LETTERS) pa_nil)))))
    (pss_cut (ps_if (pt_not (pt_val (pe_cl c_word hr (by omega) pass0 (pa_cons (pe_slice sl_str (pv 0) (po_some (pv 1)) (po_some (pv 2))) pa_nil)))) (pss_one My.ps_never)
    pss_nil)
    (pss_cons (ps_set (i := 3) sc_part.nd rfl (Or.inl rfl) (pe_lst pa_nil))
    (pss_cons (ps_set (i := 4) sc_part.nd rfl (Or.inl rfl) pe_str)
    (pss_cut (ps_while PassesOwn.never (pt_cmpR op_eq (pe_slice sl_str (pv 0) (po_some (pv 2)) (po_some (pe_op op_add (pv 2) (pe_callB call_len_str rfl f_len boot_len (pa_cons (pv 4) pa_nil))))) (pv 4) (nomark _))
    (pss_cons (ps_asg (pe_cl ih hr (by omega) pass0 (pa_cons (pv 0) (pa_cons (pe_op op_add (pv 2) (pe_callB call_len_str rfl f_len boot_len (pa_cons (pv 4) pa_nil))) pa_nil))) (pg_tup rfl (pgs_cons (pg_name (i := 5) sc_part.nd rfl (Or.inl rfl)) (pgs_cons (pg_name (i := 2) sc_part.nd rfl (Or.inl rfl)) pgs_nil))))
    (pss_cons (ps_expr (pe_bm PySem.F.plainAttrs_list PySem.F.slot_list_append PySem.F.type_list_append mt_append (pv 3) (pa_cons (pv 5) pa_nil)))
    (pss_one (ps_set (i := 4) sc_part.nd rfl (Or.inl rfl) pe_str)))))
    (pss_cut (ps_if (pt_truth (pv 3) (by intro _; rfl)) (pss_cons (ps_if (pt_cmpR op_ne (pe_slice sl_str (pv 0) (po_some (pv 2)) (po_some (pe_op op_add (pv 2) pe_int))) pe_str (nomark _)) (pss_one My.ps_never)
    pss_nil)
    (pss_one (ps_aug (i := 2) sc_part.nd rfl (Or.inl rfl) pe_int ip_add)))
    pss_nil)
    (pss_one (ps_ret (pe_tup (pa_cons (pe_tup (pa_cons (pe_slice sl_str (pv 0) (po_some (pv 1)) (po_some (pe_cl c_endof hr (by omega) pass0 (pa_cons (pv 0) (pa_cons (pv 1) (pa_cons (pe_gc rfl k_LETTERS) pa_nil)))))) (StX.pa_star (pv 3) pa_nil))) (pa_cons (pv 2) pa_nil)))))))))))))
theorem ok_rform (X : K.In h) (G : h.Ns mainGlobals mg) (c : SaysM fa fn ex K) : Cl P w K mg base CX0 102 "read_form" (sp_rform K) := by
  obtain ⟨fd, F⟩ := c.def_ 8 (d := d_rform) rfl
  have f_len := He.free_ok X G (c.fact 14 (f := .free "len") rfl)
  have c_part := ok_part (P := P) (w := w) (base := base) X G c 100
  have c_write := ok_write (P := P) (w := w) (base := base) X G c 100
  refine ⟨_, fd, ["text"], F.ok sc_rform (fun vs H Q E h => len_rform h) (fun cdv A outer s H vs Q E hr h => ⟨t_rform K, PSs.nox ?_, rd_rform h⟩), He.glo_ok X G (c.fact 8 (f := .glo "read_form") rfl), F.kp, FunD.bindsN F (fun _ _ _ _ _ _ us hl => match us, hl with | [_], _ => rfl)⟩
  exact (pss_cons (ps_asg (pe_cl c_part hr (by omega) pass0 (pa_cons (pv 0) (pa_cons pe_int pa_nil))) (pg_tup rfl (pgs_cons (pg_name (i := 1) sc_rform.nd rfl (Or.inl rfl)) (pgs_cons (pg_name (i := 2) sc_rform.nd rfl (Or.inl rfl)) pgs_nil))))
    (pss_cons (ps_if (PW.pt (pw_or (pt_cmpR op_ne (pv 2) (pe_callB call_len_str rfl f_len boot_len (pa_cons (pv 0) pa_nil)) (nomark _)) (pw_or1 (pt_cmpR op_ne (pe_cl c_write hr (by omega) pass0 (pa_cons (pv 1) pa_nil)) (pv 0) (nomark _))))) (pss_one My.ps_never)
    pss_nil)
    (pss_one (ps_ret (pv 1)))))
theorem ok_same (X : K.In h) (G : h.Ns mainGlobals mg) (c : SaysM fa fn ex K) : ∀ n : Nat, Cl P w K mg base CX0 (0 + n) "_law_same" (sp_same K n) := by
  obtain ⟨fd, F⟩ := c.def_ 9 (d := d_same) rfl
  have f_bool := He.free_ok X G (c.fact 22 (f := .free "bool") rfl)
  have f_int := He.free_ok X G (c.fact 13 (f := .free "int") rfl)
  have f_isinstance := He.free_ok X G (c.fact 19 (f := .free "isinstance") rfl)
  have f_len := He.free_ok X G (c.fact 14 (f := .free "len") rfl)
  have f_range := He.free_ok X G (c.fact 16 (f := .free "range") rfl)
  have f_str := He.free_ok X G (c.fact 20 (f := .free "str") rfl)
  have f_tuple := He.free_ok X G (c.fact 23 (f := .free "tuple") rfl)
  have gl := He.glo_ok X G (c.fact 9 (f := .glo "_law_same") rfl)
  have bd := FunD.bindsN (ps := ["_law_answer", "_law_due"]) F (fun _ _ _ _ _ _ us hl => match us, hl with | [_, _], _ => rfl)
  intro n
  induction n with
  | zero => exact ⟨_, fd, ["_law_answer", "_law_due"], ⟨fun vs H Q E h => absurd h (no_same vs H Q E), fun A outer s H args us vs Q E _ _ _ _ h => absurd h (no_same vs H Q E)⟩, gl, F.kp, bd⟩
  | succ n ih =>
    refine ⟨_, fd, ["_law_answer", "_law_due"], F.ok (k := 0 + n) sc_same (fun vs H Q E h => len_same h) (fun cdv A outer s H vs Q E hr h => ⟨t_same K (sp_same K n), PSs.nox ?_, rd_same h⟩), gl, F.kp, bd⟩
    exact (pss_cons (ps_if (pt_val (pe_callB call_isi rfl f_isinstance boot_isinstance (pa_cons (pv 1) (pa_cons (pe_bltn rfl f_int boot_int rfl) pa_nil)))) (pss_one (ps_ret (pe_and (pe_callB call_isi rfl f_isinstance boot_isinstance (pa_cons (pv 0) (pa_cons (pe_bltn rfl f_int boot_int rfl) pa_nil))) (pe_and (pe_not (pe_callB call_isi rfl f_isinstance boot_isinstance (pa_cons (pv 0) (pa_cons (pe_bltn rfl f_bool boot_bool rfl) pa_nil)))) (pe_one (pe_cmpR op_eq (pv 0) (pv 1) (nomark _)))))))
    pss_nil)
    (pss_cons (ps_if (PW.pt (pw_or (pt_not (pt_val (pe_callB call_isi rfl f_isinstance boot_isinstance (pa_cons (pv 0) (pa_cons (pe_bltn rfl f_tuple boot_tuple rfl) pa_nil))))) (pw_or1 (pt_cmpR op_ne (pe_callB call_len_seq rfl f_len boot_len (pa_cons (pv 0) pa_nil)) (pe_callB call_len_seq rfl f_len boot_len (pa_cons (pv 1) pa_nil)) (nomark _))))) (pss_one (ps_ret pe_bl))
    pss_nil)
    (pss_cons (ps_if (PW.pt (pw_or (pt_not (pt_val (pe_callB call_isi rfl f_isinstance boot_isinstance (pa_cons (pe_ix ix_tup (pv 0) pe_int (fun _ _ => rfl)) (pa_cons (pe_bltn rfl f_str boot_str rfl) pa_nil))))) (pw_or1 (pt_cmpR op_ne (pe_ix ix_tup (pv 0) pe_int (fun _ _ => rfl)) (pe_ix ix_tup (pv 1) pe_int (fun _ _ => rfl)) (nomark _))))) (pss_one (ps_ret pe_bl))
    pss_nil)
    (pss_cons (ps_for PassesOwn.never rfl (pi_range2 rfl f_range (pa_cons pe_int (pa_cons (pe_callB call_len_seq rfl f_len boot_len (pa_cons (pv 1) pa_nil)) pa_nil))) (pg_name (i := 2) sc_same.nd rfl (Or.inl rfl))
    (pss_one (ps_if (pt_not (pt_val (pe_cl ih hr (by omega) pass0 (pa_cons (pe_ix ix_tup (pv 0) (pv 2) (fun _ _ => rfl)) (pa_cons (pe_ix ix_tup (pv 1) (pv 2) (fun _ _ => rfl)) pa_nil))))) (pss_one (ps_ret pe_bl))
    pss_nil)))
    (pss_one (ps_ret pe_bl))))))
theorem ok_wide (X : K.In h) (G : h.Ns mainGlobals mg) (c : SaysM fa fn ex K) : ∀ n : Nat, Cl P w K mg base CX0 (1 + n) "_law_wide" (sp_wide K n) := by
  obtain ⟨fd, F⟩ := c.def_ 10 (d := d_wide) rfl
  have f_range := He.free_ok X G (c.fact 16 (f := .free "range") rfl)
  have f_tuple := He.free_ok X G (c.fact 23 (f := .free "tuple") rfl)
  have c_take := ok_take (P := P) (w := w) (base := base) X G c
  have gl := He.glo_ok X G (c.fact 10 (f := .glo "_law_wide") rfl)
  have bd := FunD.bindsN (ps := ["_law_draws", "_law_names_here", "_law_depth"]) F (fun _ _ _ _ _ _ us hl => match us, hl with | [_, _, _], _ => rfl)
  intro n
  induction n with
  | zero => exact ⟨_, fd, ["_law_draws", "_law_names_here", "_law_depth"], ⟨fun vs H Q E h => absurd h (no_wide vs H Q E), fun A outer s H args us vs Q E _ _ _ _ h => absurd h (no_wide vs H Q E)⟩, gl, F.kp, bd⟩
  | succ n ih =>
    refine ⟨_, fd, ["_law_draws", "_law_names_here", "_law_depth"], F.ok (k := 1 + n) sc_wide (fun vs H Q E h => len_wide h) (fun cdv A outer s H vs Q E hr h => ⟨t_wide K (sp_wide K n), PSs.nox ?_, rd_wide h⟩), gl, F.kp, bd⟩
    exact (pss_cons (ps_if (PW.pt (pw_or (pt_cmpR op_eq (pv 2) pe_int (nomark _)) (pw_or1 (pt_cmpR op_eq (pe_cl c_take hr (by omega) pass0 (pa_cons (pv 0) (pa_cons pe_int pa_nil))) pe_int (nomark _))))) (pss_cons (ps_if (pt_cmpR op_eq (pe_cl c_take hr (by omega) pass0 (pa_cons (pv 0) (pa_cons pe_int pa_nil))) pe_int (nomark _)) (pss_one (ps_ret (pe_ix ix_list (pe_lst (pa_cons (pe_cl c_take hr (by omega) pass0 (pa_cons (pv 0) (pa_cons pe_int pa_nil))) (pa_cons pe_int (pa_cons pe_int (pa_cons pe_int (pa_cons pe_int pa_nil)))))) (pe_cl c_take hr (by omega) pass0 (pa_cons (pv 0) (pa_cons pe_int pa_nil))) (fun _ _ => rfl))))
    pss_nil)
    (pss_one (ps_ret (pe_tup (pa_cons (pe_ix ix_list (pv 1) (pe_cl c_take hr (by omega) pass0 (pa_cons (pv 0) (pa_cons pe_int pa_nil))) (fun _ _ => rfl)) pa_nil)))))
    pss_nil)
    (pss_cons (ps_set (i := 3) sc_wide.nd rfl (Or.inl rfl) (pe_lst (pa_cons (pe_ix ix_list (pv 1) (pe_cl c_take hr (by omega) pass0 (pa_cons (pv 0) (pa_cons pe_int pa_nil))) (fun _ _ => rfl)) pa_nil)))
    (pss_cons (ps_for PassesOwn.never rfl (pi_range1 rfl f_range (pa_cons (pe_cl c_take hr (by omega) pass0 (pa_cons (pv 0) (pa_cons pe_int pa_nil))) pa_nil)) (pg_name (i := 4) sc_wide.nd rfl (Or.inl rfl))
    (pss_one (ps_expr (pe_bm PySem.F.plainAttrs_list PySem.F.slot_list_append PySem.F.type_list_append mt_append (pv 3) (pa_cons (pe_cl ih hr (by omega) pass0 (pa_cons (pv 0) (pa_cons (pv 1) (pa_cons (pe_op op_sub (pv 2) pe_int) pa_nil)))) pa_nil)))))
    (pss_one (ps_ret (pe_callTy call_tuple_of rfl f_tuple boot_tuple (pa_cons (pv 3) pa_nil)))))))
theorem ok_deep (X : K.In h) (G : h.Ns mainGlobals mg) (c : SaysM fa fn ex K) : Cl P w K mg base CX0 2 "_law_deep" (sp_deep K) := by
  obtain ⟨fd, F⟩ := c.def_ 11 (d := d_deep) rfl
  have f_range := He.free_ok X G (c.fact 16 (f := .free "range") rfl)
  have c_take := ok_take (P := P) (w := w) (base := base) X G c
  refine ⟨_, fd, ["_law_draws", "_law_names_here"], F.ok sc_deep (fun vs H Q E h => len_deep h) (fun cdv A outer s H vs Q E hr h => ⟨t_deep K, PSs.nox ?_, rd_deep h⟩), He.glo_ok X G (c.fact 11 (f := .glo "_law_deep") rfl), F.kp, FunD.bindsN F (fun _ _ _ _ _ _ us hl => match us, hl with | [_, _], _ => rfl)⟩
  exact (pss_cons (ps_set (i := 2) sc_deep.nd rfl (Or.inl rfl) (pe_cl c_take hr (by omega) pass0 (pa_cons (pv 0) (pa_cons pe_int pa_nil))))
    (pss_cons (ps_for PassesOwn.never rfl (pi_range1 rfl f_range (pa_cons (pe_cl c_take hr (by omega) pass0 (pa_cons (pv 0) (pa_cons pe_int pa_nil))) pa_nil)) (pg_name (i := 3) sc_deep.nd rfl (Or.inl rfl))
    (pss_one (ps_if (pt_cmpR op_eq (pe_cl c_take hr (by omega) pass0 (pa_cons (pv 0) (pa_cons pe_int pa_nil))) pe_int (nomark _)) (pss_one (ps_set (i := 2) sc_deep.nd rfl (Or.inl rfl) (pe_tup (pa_cons (pe_ix ix_list (pv 1) (pe_cl c_take hr (by omega) pass0 (pa_cons (pv 0) (pa_cons pe_int pa_nil))) (fun _ _ => rfl)) (pa_cons (pv 2) (pa_cons (pe_cl c_take hr (by omega) pass0 (pa_cons (pv 0) (pa_cons pe_int pa_nil))) pa_nil))))))
    (pss_one (ps_set (i := 2) sc_deep.nd rfl (Or.inl rfl) (pe_tup (pa_cons (pe_ix ix_list (pv 1) (pe_cl c_take hr (by omega) pass0 (pa_cons (pv 0) (pa_cons pe_int pa_nil))) (fun _ _ => rfl)) (pa_cons (pv 2) pa_nil))))))))
    (pss_one (ps_ret (pv 2)))))
theorem ok_law_fn (X : K.In h) (G : h.Ns mainGlobals mg) (c : SaysM fa fn ex K) {f : Addr} {fd : FuncData} (F : FnP K "law" "law" s_law f fd) : FnOk P w K mg base CX0 103 f fd ["_law_script"] (spLaw K) := by
  have f_range := He.free_ok X G (c.fact 16 (f := .free "range") rfl)
  have c_take := ok_take (P := P) (w := w) (base := base) X G c
  have c_stream := ok_stream (P := P) (w := w) (base := base) X G c
  have c_names := ok_names (P := P) (w := w) (base := base) X G c
  have c_written := ok_written (P := P) (w := w) (base := base) X G c 30
  have c_rform := ok_rform (P := P) (w := w) (base := base) X G c
  have c_same := ok_same (P := P) (w := w) (base := base) X G c 30
  have c_wide := ok_wide (P := P) (w := w) (base := base) X G c 6
  have c_deep := ok_deep (P := P) (w := w) (base := base) X G c
  refine F.ok sc_law (fun vs H Q E h => len_law h) (fun cdv A outer s H vs Q E hr h => ⟨t_law K, PSs.nox ?_, rd_law h⟩)
  exact (pss_cons (ps_set (i := 1) sc_law.nd rfl (Or.inl rfl) (pe_cl c_names hr (by omega) pass0 (pa_cons (pe_slice sl_list (pv 0) po_none (po_some pe_int)) pa_nil)))
    (pss_cons (ps_set (i := 2) sc_law.nd rfl (Or.inl rfl) (pe_cl c_stream hr (by omega) pass0 (pa_cons (pe_slice sl_list (pv 0) (po_some pe_int) po_none) pa_nil)))
    (pss_cons (ps_set (i := 3) sc_law.nd rfl (Or.inl rfl) (pe_lst pa_nil))
    (pss_cons (ps_for PassesOwn.never rfl (pi_range1 rfl f_range (pa_cons pe_int pa_nil)) (pg_name (i := 4) sc_law.nd rfl (Or.inl rfl))
    (pss_one (ps_if (pt_cmpR op_eq (pe_cl c_take hr (by omega) pass0 (pa_cons (pv 2) (pa_cons pe_int pa_nil))) pe_int (nomark _)) (pss_one (ps_expr (pe_bm PySem.F.plainAttrs_list PySem.F.slot_list_append PySem.F.type_list_append mt_append (pv 3) (pa_cons (pe_cl c_deep hr (by omega) pass0 (pa_cons (pv 2) (pa_cons (pv 1) pa_nil))) pa_nil))))
    (pss_one (ps_expr (pe_bm PySem.F.plainAttrs_list PySem.F.slot_list_append PySem.F.type_list_append mt_append (pv 3) (pa_cons (pe_cl c_wide hr (by omega) pass0 (pa_cons (pv 2) (pa_cons (pv 1) (pa_cons pe_int pa_nil)))) pa_nil)))))))
    (pss_cons (ps_for PassesOwn.never rfl (pi_list (pe_lst (pa_cons (pe_ix ix_list (pv 3) pe_int (fun _ _ => rfl)) (pa_cons (pe_ix ix_list (pv 3) pe_int (fun _ _ => rfl)) (pa_cons (pe_ix ix_list (pv 3) pe_int (fun _ _ => rfl)) (pa_cons (pe_cl c_take hr (by omega) pass0 (pa_cons (pv 2) (pa_cons pe_int pa_nil))) pa_nil)))))) (pg_name (i := 5) sc_law.nd rfl (Or.inl rfl))
    (pss_one (ps_if (pt_not (pt_val (pe_cl c_same hr (by omega) pass0 (pa_cons (pe_cl c_rform hr (by omega) pass0 (pa_cons (pe_cl c_written hr (by omega) pass0 (pa_cons (pv 5) pa_nil)) pa_nil)) (pa_cons (pv 5) pa_nil))))) (pss_one (ps_ret pe_bl))
    pss_nil)))
    (pss_one (ps_ret pe_bl)))))))
end
abbrev R : PySem.W.OpenRow := PySem.W.OpenLaw.row PySem.Challenge.rw_signbysign_k06_read_what_is_written
abbrev hk : PySem.W.Hook := hookM 4 fa fn ex
def ob (s : PySem.W.SharedT) : AlM := obsMG 4 fa fn ex (HandSHeadRun.getT s)
theorem ob_eq (s : PySem.W.SharedT) : ob s = hk.obs s.abs := obsMG_eq (HandSHeadRun.getT_eq s)
def names : List PySem.Str := ["TableError", "BadText", "LETTERS", "DIGITS", "is_word", "write_form", "end_of", "read_part", "read_form", "_law_stream", "_law_take", "_law_names", "_law_written", "_law_same", "_law_wide", "_law_deep"]
theorem run (w : World) : HandSHeadRun.RunEq R (PySem.W.view R.prog [19]) hk ob 20000 names w := by
  intro os
  kernel_rfl
theorem facts {P : Program} {w : World} {K : PySem.W.Frag} {h : Heap} {mg : Str → Option Value} {f : Addr} (X : K.In h) (G : h.Ns mainGlobals mg) (hfa : mg ("law" : Str) = some (.ref f)) (c : SaysM fa fn ex K) :
    ∃ fd : FuncData, (∀ (s : Shared) (v : Value), BindsTo s fd ⟨[v], []⟩ [("_law_script", v)]) ∧ ∀ base : Heap, K.In base → base.Ns mainGlobals mg → FnOk P w K mg base CX0 103 f fd ["_law_script"] (spLaw K) := by
  obtain ⟨fd, F⟩ := c.def_ 12 (d := d_law) rfl
  have b := FunD.bindsA (ps := ["_law_script"]) F fun _ _ _ _ _ _ us hl => match us, hl with | [_], _ => rfl
  have e := hfa.symm.trans (He.glo_ok X G (c.fact 12 (f := .glo "law") rfl))
  cases e
  refine ⟨fd, fun s v => b s [v] rfl, fun base KB GB => ?_⟩
  exact ok_law_fn (P := P) (w := w) (base := base) X G c F
end Prog

open PySem PySem.W PySem.Calls PyProof.Rows
set_option maxRecDepth 100000 in
set_option maxHeartbeats 0 in
theorem PySem.Challenge.cw_signbysign_k06_read_what_is_written_holds : PySem.Challenge.rw_signbysign_k06_read_what_is_written.Holds := by
  w_on; o_law
  refine HandSHeadRun.head_any (r := OpenLaw.row PySem.Challenge.rw_signbysign_k06_read_what_is_written) (q := view (OpenLaw.row PySem.Challenge.rw_signbysign_k06_read_what_is_written).prog [19]) (H := Prog.hk) (ob := Prog.ob) (M := 20000) (loose := Prog.names) (d := HandSHeadRun.topDef (OpenLaw.row PySem.Challenge.rw_signbysign_k06_read_what_is_written).prog 19) (kwd := []) Prog.ob_eq
    (by kernel_rfl) (fun s => by kernel_rfl) Prog.run (by kernel_rfl) (by kernel_rfl) (by kernel_rfl) (by rfl) (by first | assumption | decide +kernel) (by decide +kernel) ⟨rfl, rfl, rfl, rfl, rfl, by decide +kernel⟩ ?hw ?hc
  case hw => w_witness2
  case hc =>
    refine L2.walk_ofE (l := PySem.Challenge.rw_signbysign_k06_read_what_is_written) (n := 63) (k := 103) (x := "_law_script") (CX := L2.CX0) rfl (by decide) (by kernel_rfl) ⟨rfl, by decide, by decide⟩ ?F (fun _ _ _ _ z => z)
    intro w mg fa h Y G hmg0
    obtain ⟨K, KX, c⟩ := Y
    have hmg : mg ("law" : PySem.Str) = some (.ref fa) := by
      have e : (HandSHeadRun.topDef (OpenLaw.row PySem.Challenge.rw_signbysign_k06_read_what_is_written).prog 19).name = ("law" : PySem.Str) := by kernel_rfl
      rw [← e]
      exact hmg0
    obtain ⟨fd, hb, hF⟩ := Prog.facts (P := (PySem.Challenge.rw_signbysign_k06_read_what_is_written).prog) (w := w) KX G hmg c
    exact ⟨K, fd, My.spLaw K, KX, hb, fun H a ns hl _ hS => ⟨a, ns, rfl, hS, hl, fun _ => rfl⟩, hF⟩
