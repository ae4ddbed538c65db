import PyProof.Rows.All
import Wide.All
import OpenK.AllK
import Wide.FinOn
import KE.KStateDown
import HandS.Base
import HandS.Call
import HandS.List
import HandS.Comp
import HandS.Dict
import HandS.Iter
import HandS.Text
import HandS.Ends
import HandS.More
import HandS.Words
import HandS.WordsList
import HandS.WordsDict
import HandS.WordsExc
import HandS.IsInst
import HandS.TupAny
import HandS.Defaults
import HandS.Head0
import HandS.Head1
import HandS.Head2
import HandS.HeadEnd
import HandS.HeadHook1
import HandS.HeadHook2
import HandS.FStr
import HandS.Style
import HandS.Zip
import HandS.Conv
import HandS.HeadNt
import HandS.Star
import KE.KRevSl
import HandS.Exc
import HandS.ExcInit
import HandS.ExcCtx
import HandS.ExcField
import HandS.ExcIs
import KE.KSuper
import KE.KExcSuper
import HandS.ExcOwn
import KE.GoesEnum
import KE.GoesMore
import OpenK.KMeth
import HandS.CallSlots
import HandS.Replace
import HandS.ReplaceLit
import HandS.StrMore
import PyProof.ToksMono
import PyProof.Rows.StrLawsPart
import HandS.ReplaceList
import PySem.Challenge.RW_signbysign_k07_read_refuses_other_texts
set_option Elab.async false
set_option linter.all false
set_option maxRecDepth 100000
set_option maxHeartbeats 4000000
/-! Lib: plain data D, what it is in the heap (Is), changes of the heap (Chg), the readings' steps (g_..), a def as a constant (Cl). -/
namespace My
open PySem PySem.Spec PyProof.Rows L2

/-! ### data -/
inductive D where
  | non | bl (b : Bool) | int (i : Int) | str (s : Str) | tup (ds : List D)
mutual
def Is (H : Hp) : D → V → Prop
  | .non, v => v = .non
  | .bl b, v => v = .bl b
  | .int i, v => v = .int i
  | .str s, v => v = .str s
  | .tup ds, v => ∃ a vs, v = .ref a ∧ H a = some (.tup vs) ∧ IsL H ds vs
def IsL (H : Hp) : List D → List V → Prop
  | [], vs => vs = []
  | d :: ds, vs => ∃ x xs, vs = x :: xs ∧ Is H d x ∧ IsL H ds xs
end
/-- all but what stands at S is as it was; no tuple changes -/
structure Chg (S : List Addr) (H H' : Hp) : Prop where
  ob : ∀ b o, b ∉ S → H b = some o → H' b = some o
  tp : ∀ b xs, H b = some (.tup xs) → H' b = some (.tup xs)
abbrev Ext (H H' : Hp) : Prop := Chg [] H H'
section
variable {S S' : List Addr} {H H1 H2 H' : Hp} {a b p l : Addr} {o u : HO} {xs ys : List V}
theorem Chg.refl (H : Hp) : Chg S H H := ⟨fun _ _ _ h => h, fun _ _ h => h⟩
theorem Chg.trans (c : Chg S H H1) (e : Chg S H1 H2) : Chg S H H2 := ⟨fun b o n h => e.ob b o n (c.ob b o n h), fun b xs h => e.tp b xs (c.tp b xs h)⟩
theorem Chg.wide (c : Chg S H H1) (h : ∀ b ∈ S, b ∈ S') : Chg S' H H1 := ⟨fun b o n q => c.ob b o (fun z => n (h b z)) q, c.tp⟩
theorem Chg.all (c : Chg [] H H1) : Chg S H H1 := c.wide fun _ z => nomatch z
theorem Chg.at (c : Chg [] H H1) (h : H a = some o) : H1 a = some o := c.ob a o (fun z => nomatch z) h
theorem Chg.same (c : Chg [] H H1) : L2.Same H H1 := fun _ _ h => Chg.at c h
theorem Ext.of (c : L2.Same H H1) : Ext H H1 := ⟨fun _ _ _ h => c _ _ h, fun _ _ h => c _ _ h⟩
/-- a new object is laid -/
theorem Chg.new (h : H p = none) (o : HO) : Chg S H (upd H p o) := ⟨fun b u _ q => by rw [upd_ne (ne_of_none q h)]; exact q, fun b u q => by rw [upd_ne (ne_of_none q h)]; exact q⟩
theorem Chg.free (c : Chg [] H H1) (h : H1 p = none) : H p = none := (Chg.same c).free h
/-- an object that H does not have is written -/
theorem Chg.own (c : Chg S H H1) (h : H p = none) (o : HO) : Chg S H (upd H1 p o) :=
  ⟨fun b u n q => by rw [upd_ne (ne_of_none q h)]; exact c.ob b u n q, fun b u q => by rw [upd_ne (ne_of_none q h)]; exact c.tp b u q⟩
/-- a changeable object of S is written -/
theorem Chg.set (c : Chg S H H1) (hm : l ∈ S) (h : H1 l = some u) (nt : ∀ xs, u ≠ .tup xs) (o : HO) : Chg S H (upd H1 l o) := by
  refine ⟨fun b w n q => ?_, fun b w q => ?_⟩
  · rw [upd_ne (fun z => n (by rw [z]; exact hm))]; exact c.ob b w n q
  · have q1 := c.tp b w q
    rw [upd_ne (fun z => by subst z; rw [h] at q1; exact nt w (Option.some.inj q1))]
    exact q1
theorem Chg.drop1 (c : Chg [p] H H1) (h : H p = none) : Ext H H1 := ⟨fun b o _ q => c.ob b o (by intro z; have := List.mem_singleton.mp z; subst this; rw [h] at q; cases q) q, c.tp⟩
mutual
theorem Is.up (c : Chg S H H') : ∀ {d : D} {v : V}, Is H d v → Is H' d v
  | .non, v, h => by simpa only [Is] using h
  | .bl b, v, h => by simpa only [Is] using h
  | .int i, v, h => by simpa only [Is] using h
  | .str s, v, h => by simpa only [Is] using h
  | .tup ds, v, h => by
    simp only [Is] at h ⊢
    obtain ⟨a, vs, e, h1, h2⟩ := h
    exact ⟨a, vs, e, c.tp _ _ h1, IsL.up c h2⟩
theorem IsL.up (c : Chg S H H') : ∀ {ds : List D} {vs : List V}, IsL H ds vs → IsL H' ds vs
  | [], vs, h => by simpa only [IsL] using h
  | d :: ds, vs, h => by
    simp only [IsL] at h ⊢
    obtain ⟨x, xs, e, h1, h2⟩ := h
    exact ⟨x, xs, e, Is.up c h1, IsL.up c h2⟩
end
theorem Is.non : Is H .non .non := by simp only [Is]
theorem Is.bl {b : Bool} : Is H (.bl b) (.bl b) := by simp only [Is]
theorem Is.int {i : Int} : Is H (.int i) (.int i) := by simp only [Is]
theorem Is.str {s : Str} : Is H (.str s) (.str s) := by simp only [Is]
theorem Is.tup {ds : List D} (h : H a = some (.tup xs)) (r : IsL H ds xs) : Is H (.tup ds) (.ref a) := by simp only [Is]; exact ⟨a, xs, rfl, h, r⟩
theorem Is.int_iff {i : Int} {v : V} : Is H (.int i) v ↔ v = .int i := by simp only [Is]
theorem Is.str_iff {i : Str} {v : V} : Is H (.str i) v ↔ v = .str i := by simp only [Is]
theorem Is.bl_iff {i : Bool} {v : V} : Is H (.bl i) v ↔ v = .bl i := by simp only [Is]
theorem Is.tup_iff {ds : List D} {v : V} : Is H (.tup ds) v ↔ ∃ a vs, v = .ref a ∧ H a = some (.tup vs) ∧ IsL H ds vs := by simp only [Is]
theorem IsL.nil : IsL H [] [] := by simp only [IsL]
theorem IsL.cons {d : D} {ds : List D} {v : V} {vs : List V} (h : Is H d v) (t : IsL H ds vs) : IsL H (d :: ds) (v :: vs) := by simp only [IsL]; exact ⟨v, vs, rfl, h, t⟩
theorem IsL.nil_iff {vs : List V} : IsL H [] vs ↔ vs = [] := by simp only [IsL]
theorem IsL.cons_iff {d : D} {ds : List D} {vs : List V} : IsL H (d :: ds) vs ↔ ∃ x xs, vs = x :: xs ∧ Is H d x ∧ IsL H ds xs := by simp only [IsL]
theorem IsL.length : ∀ {ds : List D} {vs : List V}, IsL H ds vs → vs.length = ds.length
  | [], vs, h => by rw [IsL.nil_iff] at h; subst h; rfl
  | d :: ds, vs, h => by
    rw [IsL.cons_iff] at h
    obtain ⟨x, xs, rfl, _, h2⟩ := h
    simp [IsL.length h2]
theorem IsL.append : ∀ {ds es : List D} {vs ws : List V}, IsL H ds vs → IsL H es ws → IsL H (ds ++ es) (vs ++ ws)
  | [], es, vs, ws, h, k => by rw [IsL.nil_iff] at h; subst h; exact k
  | d :: ds, es, vs, ws, h, k => by
    rw [IsL.cons_iff] at h
    obtain ⟨x, xs, rfl, h1, h2⟩ := h
    exact IsL.cons h1 (IsL.append h2 k)
theorem IsL.get : ∀ {ds : List D} {vs : List V} {i : Nat} {v : V}, IsL H ds vs → vs[i]? = some v → ∃ d, ds[i]? = some d ∧ Is H d v
  | [], vs, i, v, h, e => by rw [IsL.nil_iff] at h; subst h; simp at e
  | d :: ds, vs, i, v, h, e => by
    rw [IsL.cons_iff] at h
    obtain ⟨x, xs, rfl, h1, h2⟩ := h
    cases i with
    | zero => simp at e; subst e; exact ⟨d, rfl, h1⟩
    | succ i => simp at e; obtain ⟨d', q, k⟩ := IsL.get h2 e; exact ⟨d', by simpa using q, k⟩
theorem IsL.get' : ∀ {ds : List D} {vs : List V} {i : Nat} {d : D}, IsL H ds vs → ds[i]? = some d → ∃ v, vs[i]? = some v ∧ Is H d v
  | [], vs, i, v, h, e => by simp at e
  | d :: ds, vs, i, d', h, e => by
    rw [IsL.cons_iff] at h
    obtain ⟨x, xs, rfl, h1, h2⟩ := h
    cases i with
    | zero => simp at e; subst e; exact ⟨x, rfl, h1⟩
    | succ i => simp at e; obtain ⟨v, q, k⟩ := IsL.get' h2 e; exact ⟨v, by simpa using q, k⟩
theorem IsL.drop : ∀ {ds : List D} {vs : List V} (n : Nat), IsL H ds vs → IsL H (ds.drop n) (vs.drop n)
  | ds, vs, 0, h => h
  | [], vs, n + 1, h => by rw [IsL.nil_iff] at h; subst h; exact IsL.nil
  | d :: ds, vs, n + 1, h => by
    rw [IsL.cons_iff] at h
    obtain ⟨x, xs, rfl, h1, h2⟩ := h
    exact IsL.drop n h2
theorem IsL.take : ∀ {ds : List D} {vs : List V} (n : Nat), IsL H ds vs → IsL H (ds.take n) (vs.take n)
  | ds, vs, 0, h => by rw [List.take_zero, List.take_zero]; exact IsL.nil
  | [], vs, n + 1, h => by rw [IsL.nil_iff] at h; subst h; exact IsL.nil
  | d :: ds, vs, n + 1, h => by
    rw [IsL.cons_iff] at h
    obtain ⟨x, xs, rfl, h1, h2⟩ := h
    exact IsL.cons h1 (IsL.take n h2)
theorem IsL.one {d : D} {v : V} (h : Is H d v) : IsL H [d] [v] := IsL.cons h IsL.nil
theorem IsL.ints : ∀ {is : List Int}, IsL H (is.map D.int) (is.map V.int)
  | [] => IsL.nil
  | _ :: _ => IsL.cons Is.int IsL.ints
theorem IsL.strs : ∀ {is : List Str}, IsL H (is.map D.str) (is.map V.str)
  | [] => IsL.nil
  | _ :: _ => IsL.cons Is.str IsL.strs
theorem IsL.ints_inv : ∀ {is : List Int} {vs : List V}, IsL H (is.map D.int) vs → vs = is.map V.int
  | [], vs, h => IsL.nil_iff.mp h
  | i :: is, vs, h => by
    obtain ⟨x, xs, rfl, h1, h2⟩ := IsL.cons_iff.mp h
    rw [Is.int_iff.mp h1, IsL.ints_inv h2]; rfl
end

/-! ### the relations' names, as gen.py writes them -/
abbrev rAddI : R2 := rI0 fun i j => .int (i + j)
abbrev rSubI : R2 := rI0 fun i j => .int (i - j)
abbrev rMulI : R2 := rI CMul fun i j => .int (i * j)
abbrev rDivI : R2 := rI CDiv fun i j => .int (i / j)
abbrev rModI : R2 := rI (fun _ j => 0 < j) fun i j => .int (i % j)
abbrev rPowI : R2 := rI CPow fun i j => .int (i ^ j.toNat)
abbrev rLtI : R2 := rI0 fun i j => .bl (decide (i < j))
abbrev rLeI : R2 := rI0 fun i j => .bl (decide (i ≤ j))
abbrev rGtI : R2 := rI0 fun i j => .bl (decide (j < i))
abbrev rGeI : R2 := rI0 fun i j => .bl (decide (j ≤ i))
def rAddS_ : R2 := fun x y H Q => ∃ i j, x = .str i ∧ y = .str j ∧ i.length + j.length ≤ sizeLine ∧ Q (.str (i ++ j)) H
def rLtS_ : R2 := fun x y H Q => ∃ i j, x = .str i ∧ y = .str j ∧ Q (.bl (decide (i.cps.toList < j.cps.toList))) H
def rInS_ : R2 := fun x y H Q => ∃ (c : Nat) (z : Str), x = .str ⟨#[c]⟩ ∧ y = .str z ∧ Q (.bl (decide (c ∈ z.cps.toList))) H
def rNotInS_ : R2 := fun x y H Q => ∃ (c : Nat) (z : Str), x = .str ⟨#[c]⟩ ∧ y = .str z ∧ Q (.bl (!decide (c ∈ z.cps.toList))) H
def rIsN_ : R2 := fun x y H Q => y = .non ∧ Q (.bl (decide (x = .non))) H
def rNotN_ : R2 := fun x y H Q => y = .non ∧ Q (.bl (!decide (x = .non))) H
def rLenSeq (K : PySem.W.Frag) : List V → Hp → VK → Prop := fun xs H Q => ∃ p ys, xs = [.ref p] ∧ (SqL K H p ys ∨ SqT K H p ys) ∧ Q (.int ys.length) H
def rLenStr : List V → Hp → VK → Prop := fun xs H Q => ∃ z, xs = [.str z] ∧ z.length ≤ sizeLine ∧ Q (.int z.length) H
def rInt1 : List V → Hp → VK → Prop := fun xs H Q => (∃ i, xs = [.int i] ∧ Q (.int i) H) ∨ ∃ k, xs = [.bl k] ∧ Q (.int (if k then 1 else 0)) H
def rAbs : List V → Hp → VK → Prop := fun xs H Q => ∃ i, xs = [.int i] ∧ Q (.int (if i < 0 then -i else i)) H
def rTupleOf (K : PySem.W.Frag) : List V → Hp → VK → Prop := fun xs H Q => ∃ p ys, xs = [.ref p] ∧ ((SqL K H p ys ∧ ∀ l, H l = none → Q (.ref l) (upd H l (.tup ys))) ∨ (SqT K H p ys ∧ Q (.ref p) H))
def rListOf (K : PySem.W.Frag) : List V → Hp → VK → Prop := fun xs H Q => ∃ p ys, xs = [.ref p] ∧ (SqL K H p ys ∨ SqT K H p ys) ∧ ∀ l, H l = none → Q (.ref l) (upd H l (.lst ys))
def rStrInt : List V → Hp → VK → Prop := fun xs H Q => ∃ i, xs = [.int i] ∧ i.natAbs.log2 < 1920 ∧ Q (.str (toString i)) H
def rIntStr : List V → Hp → VK → Prop := fun xs H Q => ∃ a n, xs = [.str a] ∧ PySem.intText? a = some n ∧ a.length ≤ 640 ∧ Q (.int n) H
def rInsert : V → List V → Hp → VK → Prop := fun x vs H Q => ∃ (l : Addr) (xs : List V) (i : Int) (y : V), x = .ref l ∧ vs = [.int i, y] ∧ H l = some (.lst xs) ∧ xs.length < sizeLine ∧ 0 ≤ i ∧ i < 2 ^ 63 ∧ Q .non (upd H l (.lst (xs.take i.toNat ++ [y] ++ xs.drop i.toNat)))
def rJoin (K : PySem.W.Frag) : V → List V → Hp → VK → Prop := fun x xs H Q => ∃ a p, ∃ ys : List Str, x = .str a ∧ xs = [.ref p] ∧ (SqL K H p (ys.map V.str) ∨ SqT K H p (ys.map V.str)) ∧ (ys.map (·.length)).sum + ys.length * a.length ≤ 16777216 ∧ Q (.str (Txt.join a ys)) H
def tTru_ (K : PySem.W.Frag) (ta : TE) : TT := fun σ H Q => ta σ H fun x H' => ∃ k, TruV K x H' k ∧ Q k H'

/-- a statement, then the rest, with a word between them -/
def tCut (t u : TS) : TS := fun D σ H => ∃ Mid : L2.St → Hp → Prop, t { D with nx := Mid } σ H ∧ ∀ σ' H', Mid σ' H' → u D σ' H'
theorem pss_cut {X : Cx} {st : Stmt} {rest : List Stmt} {t u : TS} (h1 : PS X st t) (h2 : PSs X rest u) : PSs X (st :: rest) (tCut t u) := by
  refine ⟨fun pins s σ H D I h => ?_⟩
  obtain ⟨Mid, hm, hu⟩ := h
  refine wpAny_execs_cons (thn (h1.run pins s σ H { D with nx := Mid } I hm) fun f s1 q => ?_)
  cases f with
  | next =>
    obtain ⟨σ', H', I', q⟩ := q
    exact h2.run pins s1 σ' H' D I' (hu σ' H' q)
  | ret v => exact q
  | brk => exact q
  | cont => exact q
/-- a module's constant -/
theorem pe_gc {X : Cx} {x : Str} {pos : Pos} {v : V} (hg : Gl X x) (h : ∃ u, X.mg x = some u ∧ RelV v u) (hd : (x == ("__debug__" : Str)) = false := by decide) : PE X (.Name x pos) (tC v) := by
  obtain ⟨u, e, r⟩ := h
  exact pe_glob hg e r hd
/-- an f-string of two parts or more -/
def tJoined (ts : List TE) : TE := fun σ H Q => tJs ts Str.empty σ H fun out H1 => Q (.str out) H1
/-! ### the readings' steps -/
section
variable {K : PySem.W.Frag} {σ : L2.St} {H : Hp} {D : Ends}
theorem g_seq {t u : TS} (h : t { D with nx := u D } σ H) : tSeq t u D σ H := h
theorem g_cut {t u : TS} {M : L2.St → Hp → Prop} (h : t { D with nx := M } σ H) (k : ∀ σ' H', M σ' H' → u D σ' H') : tCut t u D σ H := ⟨M, h, k⟩
theorem g_asg {te : TE} {g : TG} (h : te σ H fun x H1 => g x σ H1 D.nx) : tAsg te g D σ H := h
theorem g_name {i : Nat} {v : V} {Q : L2.St → Hp → Prop} (h : Q (σ.set i (some v)) H) : gName i v σ H Q := h
theorem g_ret {te : TE} (h : te σ H D.rt) : tRet te D σ H := h
theorem g_retN (h : D.rt .non H) : tRetN D σ H := h
theorem g_drop {te : TE} (h : te σ H fun _ H1 => D.nx σ H1) : tDrop te D σ H := h
theorem g_next (h : D.nx σ H) : tNext D σ H := h
theorem g_brk (h : D.bk σ H) : tBreak D σ H := h
theorem g_cont (h : D.ct σ H) : tCont D σ H := h
theorem g_ifS {c : TT} {t u : TS} (h : c σ H fun b H1 => if b = true then t D σ H1 else u D σ H1) : tIfS c t u D σ H := h
variable {Q : VK} {QB : Bool → Hp → Prop} {QL : List V → Hp → Prop}
theorem g_var {i : Nat} {v : V} (e : σ[i]? = some (some v)) (h : Q v H) : tVar i σ H Q := ⟨v, e, h⟩
theorem g_c {v : V} (h : Q v H) : tC v σ H Q := h
theorem g_op {r : R2} {ta tb : TE} (h : ta σ H fun x H1 => tb σ H1 fun y H2 => r x y H2 Q) : tOp r ta tb σ H Q := h
theorem g_un {r : V → Hp → VK → Prop} {ta : TE} (h : ta σ H fun x H1 => r x H1 Q) : tUn r ta σ H Q := h
theorem g_cb {r : List V → Hp → VK → Prop} {t : TA} (h : t σ H fun vs H1 => r vs H1 Q) : tCB r t σ H Q := h
theorem g_nil (h : QL [] H) : tNil σ H QL := h
theorem g_cons {ta : TE} {tr : TA} (h : ta σ H fun x H1 => tr σ H1 fun xs H2 => QL (x :: xs) H2) : tCons ta tr σ H QL := h
theorem g_test {te : TE} (h : te σ H fun x H' => ∃ k, x = .bl k ∧ QB k H') : tTest te σ H QB := h
theorem g_B {te : TE} (h : te σ H fun x H' => ∃ k, x = .bl k ∧ QB k H') : tB te σ H QB := h
theorem g_bl {b : Bool} {P : Bool → Prop} (h : P b) : ∃ k, V.bl b = .bl k ∧ P k := ⟨b, rfl, h⟩
theorem g_not {t : TT} (h : t σ H fun c H1 => QB (!c) H1) : tNot t σ H QB := h
theorem g_and {t u : TT} (h : t σ H fun c H1 => if c = true then u σ H1 QB else QB false H1) : tAnd t u σ H QB := h
theorem g_or {t u : TT} (h : t σ H fun c H1 => if c = true then QB true H1 else u σ H1 QB) : tOr t u σ H QB := h
theorem g_andV {ta tb : TE} (h : ta σ H fun x H1 => ∃ c, x = .bl c ∧ if c = true then tb σ H1 Q else Q (.bl false) H1) : tAndV ta tb σ H Q := h
theorem g_orV {ta tb : TE} (h : ta σ H fun x H1 => ∃ c, x = .bl c ∧ if c = true then Q (.bl true) H1 else tb σ H1 Q) : tOrV ta tb σ H Q := h
theorem g_notV {ta : TE} (h : ta σ H fun x H1 => ∃ c, x = .bl c ∧ Q (.bl (!c)) H1) : tNotV ta σ H Q := h
theorem g_ifE {t : TT} {ta tb : TE} (h : t σ H fun c H1 => if c = true then ta σ H1 Q else tb σ H1 Q) : tIf t ta tb σ H Q := h
theorem g_chain {r r' : R2} {ta tb tc : TE} (h : ta σ H fun x H1 => tb σ H1 fun y H2 => r x y H2 fun z H3 => ∃ k, z = .bl k ∧ (if k = true then tc σ H3 fun w' H4 => r' y w' H4 Q else Q (.bl false) H3)) : tChain r r' ta tb tc σ H Q := h
theorem g_yes (h : QB true H) : tYes σ H QB := h
theorem g_call {sp : Sp} {E : XK} {t : TA} (h : t σ H fun vs H1 => sp (vs ++ []) H1 Q E) : tCall sp [] E t σ H Q := h
theorem g_part {te : TE} {QO : Option Int → Hp → Prop} (h : te σ H fun x H1 => ∃ i, x = .int i ∧ QO (some i) H1) : tPart te σ H QO := h
theorem g_nopart {QO : Option Int → Hp → Prop} (h : QO none H) : tNoPart σ H QO := h
theorem g_sl {r : V → Option Int → Option Int → Hp → VK → Prop} {te : TE} {tl th : TO} (h : te σ H fun x H1 => tl σ H1 fun l H2 => th σ H2 fun u H3 => r x l u H3 Q) : tSl r te tl th σ H Q := h
theorem g_exI {i : Int} {P : Int → Prop} (h : P i) : ∃ k, V.int i = .int k ∧ P k := ⟨i, rfl, h⟩
def NewT (Q : VK) (xs : List V) (H1 : Hp) : Prop := xs.length ≤ sizeLine ∧ ∀ p, H1 p = none → Q (.ref p) (upd H1 p (.tup xs))
def NewL (Q : VK) (xs : List V) (H1 : Hp) : Prop := xs.length ≤ sizeLine ∧ ∀ p, H1 p = none → Q (.ref p) (upd H1 p (.lst xs))
theorem g_tupT {t : TA} (h : t σ H fun xs H1 => NewT Q xs H1) : tTup t σ H Q := h
theorem g_lstT {t : TA} (h : t σ H fun xs H1 => NewL Q xs H1) : tLst t σ H Q := h
theorem g_newT {xs : List V} (hl : xs.length ≤ sizeLine) (k : ∀ p H', H p = none → Ext H H' → H' p = some (.tup xs) → Q (.ref p) H') : NewT Q xs H := ⟨hl, fun p hp => k p _ hp (Chg.new hp _) upd_same⟩
theorem g_newL {xs : List V} (hl : xs.length ≤ sizeLine) (k : ∀ p H', H p = none → Ext H H' → H' p = some (.lst xs) → Q (.ref p) H') : NewL Q xs H := ⟨hl, fun p hp => k p _ hp (Chg.new hp _) upd_same⟩
theorem g_bm {T : String} {r : V → List V → Hp → VK → Prop} {to : TE} {t : TA} (h : to σ H fun x H1 => tyV K T x H1 ∧ t σ H1 fun xs H2 => r x xs H2 Q) : tBM K T r to t σ H Q := h
theorem g_bm0 {T : String} {r : V → List V → Hp → VK → Prop} {to : TE} (h : to σ H fun x H1 => tyV K T x H1 ∧ r x [] H1 Q) : tBM0 K T r to σ H Q := h
/-! relations of ints -/
theorem g_rI0 {g : Int → Int → V} {i j : Int} (h : Q (g i j) H) : rI0 g (.int i) (.int j) H Q := ⟨i, j, rfl, rfl, h⟩
theorem g_rI {C : Int → Int → Prop} {g : Int → Int → V} {i j : Int} (c : C i j) (h : Q (g i j) H) : rI C g (.int i) (.int j) H Q := ⟨i, j, rfl, rfl, c, h⟩
theorem g_rU {g : Int → V} {i : Int} (h : Q (g i) H) : rU g (.int i) H Q := ⟨i, rfl, h⟩
theorem g_int1 {i : Int} (h : Q (.int i) H) : rInt1 [.int i] H Q := .inl ⟨i, rfl, h⟩
theorem g_int1b {k : Bool} (h : Q (.int (if k then 1 else 0)) H) : rInt1 [.bl k] H Q := .inr ⟨k, rfl, h⟩
theorem g_abs {i : Int} (h : Q (.int (if i < 0 then -i else i)) H) : rAbs [.int i] H Q := ⟨i, rfl, h⟩
theorem g_eqI {i j : Int} (h : Q (.bl (decide (i = j))) H) : rEq (.int i) (.int j) H Q := ⟨rfl, by
  have e : decide (V.int i = V.int j) = decide (i = j) := by simp
  rw [e]; exact h⟩
theorem g_neI {i j : Int} (h : Q (.bl (!decide (i = j))) H) : rNe (.int i) (.int j) H Q := ⟨rfl, by
  have e : decide (V.int i = V.int j) = decide (i = j) := by simp
  rw [e]; exact h⟩
theorem g_eqS {i j : Str} (h : Q (.bl (decide (i = j))) H) : rEq (.str i) (.str j) H Q := ⟨rfl, by
  have e : decide (V.str i = V.str j) = decide (i = j) := by simp
  rw [e]; exact h⟩
theorem g_neS {i j : Str} (h : Q (.bl (!decide (i = j))) H) : rNe (.str i) (.str j) H Q := ⟨rfl, by
  have e : decide (V.str i = V.str j) = decide (i = j) := by simp
  rw [e]; exact h⟩
theorem g_neB {i j : Bool} (h : Q (.bl (!decide (i = j))) H) : rNe (.bl i) (.bl j) H Q := ⟨rfl, by
  have e : decide (V.bl i = V.bl j) = decide (i = j) := by simp
  rw [e]; exact h⟩
theorem g_addS {i j : Str} (hl : i.length + j.length ≤ sizeLine) (h : Q (.str (i ++ j)) H) : rAddS_ (.str i) (.str j) H Q := ⟨i, j, rfl, rfl, hl, h⟩
theorem g_isN {x : V} (h : Q (.bl (decide (x = .non))) H) : rIsN_ x .non H Q := ⟨rfl, h⟩
theorem g_notN {x : V} (h : Q (.bl (!decide (x = .non))) H) : rNotN_ x .non H Q := ⟨rfl, h⟩
/-! new objects: the heap behind is a letter -/
theorem g_new {o : HO} {P : Addr → Hp → Prop} (k : ∀ p H', H p = none → Ext H H' → H' p = some o → P p H') : ∀ p, H p = none → P p (upd H p o) := fun p hp => k p _ hp (Chg.new hp o) upd_same
theorem g_newS {xs : List V} {o : HO} {P : Addr → Hp → Prop} (hl : xs.length ≤ sizeLine) (k : ∀ p H', H p = none → Ext H H' → H' p = some o → P p H') : xs.length ≤ sizeLine ∧ ∀ p, H p = none → P p (upd H p o) := ⟨hl, g_new k⟩
/-! lists, tuples -/
theorem g_lenL {p : Addr} {xs : List V} (h : H p = some (.lst xs)) (k : Q (.int xs.length) H) : rLenSeq K [.ref p] H Q := ⟨p, xs, rfl, .inl (.inl (.inl h)), k⟩
theorem g_lenLK {p : Addr} {xs : List V} (h : SqL K H p xs) (k : Q (.int xs.length) H) : rLenSeq K [.ref p] H Q := ⟨p, xs, rfl, .inl h, k⟩
theorem g_lenT {p : Addr} {xs : List V} (h : H p = some (.tup xs)) (k : Q (.int xs.length) H) : rLenSeq K [.ref p] H Q := ⟨p, xs, rfl, .inr (.inl (.inl h)), k⟩
theorem g_lenS {z : Str} (hl : z.length ≤ sizeLine) (k : Q (.int z.length) H) : rLenStr [.str z] H Q := ⟨z, rfl, hl, k⟩
theorem g_ixL {p : Addr} {xs : List V} {i : Int} {v : V} (h : H p = some (.lst xs)) (a : atI xs i = some v) (k : Q v H) : rIxL K (.ref p) (.int i) H Q := ⟨p, xs, i, v, rfl, rfl, .inl (.inl h), a, k⟩
theorem g_ixT {p : Addr} {xs : List V} {i : Int} {v : V} (h : H p = some (.tup xs)) (a : atI xs i = some v) (k : Q v H) : rIxT K (.ref p) (.int i) H Q := ⟨p, xs, i, v, rfl, rfl, .inl (.inl h), a, k⟩
theorem g_ixS {z : Str} {i : Int} {c : Nat} (hl : z.length ≤ sizeLine) (a : atI z.cps.toList i = some c) (k : Q (.str ⟨#[c]⟩) H) : rIxS (.str z) (.int i) H Q := ⟨z, i, c, rfl, rfl, hl, a, k⟩
theorem g_append {l : Addr} {xs : List V} {y : V} (h : H l = some (.lst xs)) (hz : xs.length < sizeLine) (k : Q .non (upd H l (.lst (xs ++ [y])))) : rAppend (.ref l) [y] H Q := ⟨l, xs, y, rfl, rfl, h, hz, k⟩
theorem g_tyL {p : Addr} {xs : List V} {P : Prop} (h : H p = some (.lst xs)) (k : P) : tyV K "list" (.ref p) H ∧ P := ⟨.inl ⟨rfl, xs, .inl (.inl h)⟩, k⟩
theorem g_slL {p : Addr} {xs : List V} {lo hi : Option Int} (h : SqL K H p xs) (k : ∀ q H', H q = none → Ext H H' → H' q = some (.lst (cutV xs lo hi)) → Q (.ref q) H') : rSlL K (.ref p) lo hi H Q := ⟨p, xs, rfl, h, g_new k⟩
theorem g_cat {l b : Addr} {xs ys : List V} (h : H l = some (.lst xs)) (h2 : H b = some (.lst ys)) (hz : xs.length + ys.length ≤ sizeLine) (k : ∀ q H', H q = none → Ext H H' → H' q = some (.lst (xs ++ ys)) → Q (.ref q) H') : rCat (.ref l) (.ref b) H Q := ⟨l, b, xs, ys, rfl, rfl, h, h2, hz, g_new k⟩
theorem g_tupOf {p : Addr} {xs : List V} (h : SqL K H p xs) (k : ∀ q H', H q = none → Ext H H' → H' q = some (.tup xs) → Q (.ref q) H') : rTupleOf K [.ref p] H Q := ⟨p, xs, rfl, .inl ⟨h, g_new k⟩⟩
theorem g_lstOf {p : Addr} {xs : List V} (h : SqL K H p xs) (k : ∀ q H', H q = none → Ext H H' → H' q = some (.lst xs) → Q (.ref q) H') : rListOf K [.ref p] H Q := ⟨p, xs, rfl, .inl h, g_new k⟩
theorem g_lstOfT {p : Addr} {xs : List V} (h : SqT K H p xs) (k : ∀ q H', H q = none → Ext H H' → H' q = some (.lst xs) → Q (.ref q) H') : rListOf K [.ref p] H Q := ⟨p, xs, rfl, .inr h, g_new k⟩
theorem g_joined {ts : List TE} (h : tJs ts Str.empty σ H fun out H1 => Q (.str out) H1) : tJoined ts σ H Q := h
theorem g_jn {acc : Str} {QS : Str → Hp → Prop} (h : QS acc H) : tJs [] acc σ H QS := h
theorem g_jc {t : TE} {ts : List TE} {acc : Str} {QS : Str → Hp → Prop} (h : t σ H fun x H1 => ∃ y : Str, x = .str y ∧ (acc ++ y).length ≤ sizeLine ∧ tJs ts (acc ++ y) σ H1 QS) : tJs (t :: ts) acc σ H QS := h
theorem g_exS {y : Str} {P : Str → Prop} (h : P y) : ∃ z : Str, V.str y = .str z ∧ P z := ⟨y, rfl, h⟩
theorem g_fmt {te : TE} (h : te σ H fun x H1 => (∃ y : Str, x = .str y ∧ y.length ≤ sizeLine ∧ Q (.str y) H1) ∨ ∃ i : Int, x = .int i ∧ i.natAbs.log2 < 1920 ∧ Q (.str (toString i)) H1) : tFmt te σ H Q := h
theorem g_m1 {r : V → List V → Hp → VK → Prop} {to te : TE} (h : to σ H fun x H1 => (∃ a, x = .str a) ∧ te σ H1 fun y H2 => r x [y] H2 Q) : tM1 r to te σ H Q := h
theorem g_m1s {a : Str} {P : Prop} (h : P) : (∃ b, V.str a = .str b) ∧ P := ⟨⟨a, rfl⟩, h⟩
theorem g_tr {A B : Prop} (h : A) : if true = true then A else B := by rw [if_pos rfl]; exact h
theorem g_fa {A B : Prop} (h : B) : if false = true then A else B := by rw [if_neg Bool.false_ne_true]; exact h
theorem g_ntr {A B : Prop} (h : B) : if (!true) = true then A else B := g_fa h
theorem g_nfa {A B : Prop} (h : A) : if (!false) = true then A else B := g_tr h
theorem g_2 {c : Bool} {A B : Prop} (h : c = true → A) (k : c = false → B) : if c = true then A else B := by
  cases c with
  | true => rw [if_pos rfl]; exact h rfl
  | false => rw [if_neg Bool.false_ne_true]; exact k rfl
end

/-! ### loops and comprehensions -/
/-- what a for leaves to be shown of its iterator -/
def ForB (g : TG) (tb : TS) (D : Ends) (σ : L2.St) : It → Hp → Prop := fun J H1 => ∃ W : Nat → Nat → L2.St → Hp → Prop, (∃ m, W 0 m σ H1) ∧ ∀ i m σ H, W i m σ H →
  (J.stop i H ∧ D.nx σ H) ∨ (J.go i H ∧ ∃ N : L2.St → Hp → Prop, (∀ σ' H', N σ' H' → ∃ m', m' < m ∧ W (i + 1) m' σ' H') ∧ ∀ x H', J.yld i H x H' → g x σ H' fun σ2 H2 => tb { D with nx := N, ct := N, bk := D.nx } σ2 H2)
/-- .. a comprehension -/
def LcB (g : TG) (tt : TT) (te : TE) (vs : List Nat) (σ : L2.St) (Q : VK) : It → Hp → Prop := fun J H1 => ∀ D, H1 D = none → ∃ W : Nat → Nat → Hp → Prop, (∃ m, W 0 m (upd H1 D (.lst []))) ∧ ∀ i m H, W i m H →
  (J.stop i H ∧ Q (.ref D) H) ∨ (J.go i H ∧ ∃ Nx : Hp → Prop, (∀ H', Nx H' → ∃ m', m' < m ∧ W (i + 1) m' H') ∧ ∀ x H', J.yld i H x H' → g x (wipe σ vs) H' fun σ2 H2 => wipe σ2 vs = wipe σ vs ∧ tt σ2 H2 fun b H3 =>
    if b = true then te σ2 H3 fun y H4 => ∃ acc, H4 D = some (.lst acc) ∧ acc.length < sizeLine ∧ Nx (upd H4 D (.lst (acc ++ [y]))) else Nx H3)
section
variable {K : PySem.W.Frag} {σ : L2.St} {H : Hp} {D : Ends} {wi : TI} {g : TG} {tb : TS} {R : It → Hp → Prop} {te : TE} {ta : TA} {tt : TT} {vs : List Nat} {Q : VK} {p : Addr} {xs : List V} {j : Nat} {S : List Addr}
theorem g_for (h : wi σ H (ForB g tb D σ)) : tFor wi g tb D σ H := h
theorem g_lc (h : wi σ H (LcB g tt te vs σ Q)) : tLc wi g tt te vs σ H Q := h
theorem g_iL (h : te σ H fun x H1 => ∃ a, x = .ref a ∧ (∃ xs, SqL K H1 a xs) ∧ R (Itl K a) H1) : iList K te σ H R := h
theorem g_iT (h : te σ H fun x H1 => ∃ a, x = .ref a ∧ (∃ xs, SqT K H1 a xs) ∧ R (Itt K a) H1) : iTup K te σ H R := h
theorem g_iR (h : ta σ H fun vs H1 => ∃ j : Int, vs = [.int j] ∧ -(2 ^ 62) ≤ j ∧ j < 2 ^ 62 ∧ R (Itr 0 j.toNat) H1) : iRng1 ta σ H R := h
theorem g_iR2 (h : ta σ H fun vs H1 => ∃ i j : Int, vs = [.int i, .int j] ∧ (-(2 ^ 62) ≤ i ∧ i < 2 ^ 62 ∧ -(2 ^ 62) ≤ j ∧ j < 2 ^ 62) ∧ R (Itr i (j - i).toNat) H1) : iRng2 ta σ H R := h
/-- for x in a list | a tuple | a range -/
theorem g_forL (h : SqL K H p xs) (Pv : Nat → L2.St → Hp → Prop) (h0 : Pv 0 σ H) (hl : ∀ i σ H, i ≤ xs.length → Pv i σ H → SqL K H p xs)
    (hs : ∀ i x σ H, xs[i]? = some x → Pv i σ H → g x σ H fun σ2 H2 => tb { D with nx := Pv (i + 1), ct := Pv (i + 1), bk := D.nx } σ2 H2) (hd : ∀ σ H, Pv xs.length σ H → D.nx σ H) :
    ∃ a, V.ref p = .ref a ∧ (∃ xs, SqL K H a xs) ∧ ForB g tb D σ (Itl K a) H := ⟨p, rfl, ⟨xs, h⟩, for_list Pv h0 hl hs hd⟩
theorem g_forT (h : SqT K H p xs) (Pv : Nat → L2.St → Hp → Prop) (h0 : Pv 0 σ H) (hl : ∀ i σ H, i ≤ xs.length → Pv i σ H → SqT K H p xs)
    (hs : ∀ i x σ H, xs[i]? = some x → Pv i σ H → g x σ H fun σ2 H2 => tb { D with nx := Pv (i + 1), ct := Pv (i + 1), bk := D.nx } σ2 H2) (hd : ∀ σ H, Pv xs.length σ H → D.nx σ H) :
    ∃ a, V.ref p = .ref a ∧ (∃ xs, SqT K H a xs) ∧ ForB g tb D σ (Itt K a) H := ⟨p, rfl, ⟨xs, h⟩, for_tup Pv h0 hl hs hd⟩
theorem g_forR {n : Int} (hn : -(2 ^ 62) ≤ n ∧ n < 2 ^ 62) (Pv : Nat → L2.St → Hp → Prop) (h0 : Pv 0 σ H)
    (hs : ∀ (i : Nat) σ H, (i : Int) < n → Pv i σ H → g (.int (i : Int)) σ H fun σ2 H2 => tb { D with nx := Pv (i + 1), ct := Pv (i + 1), bk := D.nx } σ2 H2) (hd : ∀ σ H, Pv n.toNat σ H → D.nx σ H) :
    ∃ j : Int, ([V.int n] : List V) = [.int j] ∧ -(2 ^ 62) ≤ j ∧ j < 2 ^ 62 ∧ ForB g tb D σ (Itr 0 j.toNat) H := by
  refine ⟨n, rfl, hn.1, hn.2, for_range Pv h0 (fun i σ H hi q => ?_) hd⟩
  rw [Int.zero_add]
  exact hs i σ H (by omega) q
theorem g_forR2 {lo n : Int} (hn : -(2 ^ 62) ≤ lo ∧ lo < 2 ^ 62 ∧ -(2 ^ 62) ≤ n ∧ n < 2 ^ 62) (Pv : Nat → L2.St → Hp → Prop) (h0 : Pv 0 σ H)
    (hs : ∀ (i : Nat) σ H, lo + (i : Int) < n → Pv i σ H → g (.int (lo + (i : Int))) σ H fun σ2 H2 => tb { D with nx := Pv (i + 1), ct := Pv (i + 1), bk := D.nx } σ2 H2) (hd : ∀ σ H, Pv (n - lo).toNat σ H → D.nx σ H) :
    ∃ i j : Int, ([V.int lo, V.int n] : List V) = [.int i, .int j] ∧ (-(2 ^ 62) ≤ i ∧ i < 2 ^ 62 ∧ -(2 ^ 62) ≤ j ∧ j < 2 ^ 62) ∧ ForB g tb D σ (Itr i (j - i).toNat) H :=
  ⟨lo, n, rfl, hn, for_range Pv h0 (fun i σ H hi q => hs i σ H (by omega) q) hd⟩
/-- a comprehension's turn, whatever walks: the list so far is acc -/
def LcT (S : List Addr) (H : Hp) (σ : L2.St) (vs : List Nat) (j : Nat) (tt : TT) (te : TE) (Acc : Nat → List V → Hp → Prop) (i : Nat) (x : V) : Prop :=
  ∀ (acc : List V) (H' : Hp) (Yes : VK) (No : Hp → Prop), Chg S H H' → Acc i acc H' → (∀ y H4, Chg S H' H4 → Acc (i + 1) (acc ++ [y]) H4 → Yes y H4) → (∀ H3, Chg S H' H3 → Acc (i + 1) acc H3 → No H3) →
    tt ((wipe σ vs).set j (some x)) H' fun b H3 => if b = true then te ((wipe σ vs).set j (some x)) H3 Yes else No H3
def LcI (S : List Addr) (H : Hp) (Dl : Addr) (Acc : Nat → List V → Hp → Prop) (i : Nat) (H' : Hp) : Prop := ∃ acc, H' Dl = some (.lst acc) ∧ Chg S H H' ∧ Acc i acc H'
theorem lc_turn {Dl : Addr} {Acc : Nat → List V → Hp → Prop} {i : Nat} {x : V} (hD : H Dl = none) (hS : ∀ s ∈ S, H s ≠ none) (mono : ∀ i acc Dl H1 H2, H Dl = none → Chg [Dl] H1 H2 → Acc i acc H1 → Acc i acc H2)
    (hz : ∀ i acc H', Acc i acc H' → acc.length < sizeLine) (t : LcT S H σ vs j tt te Acc i x) {H' : Hp} (q : LcI S H Dl Acc i H') :
    tt ((wipe σ vs).set j (some x)) H' fun b H3 => if b = true then te ((wipe σ vs).set j (some x)) H3 fun y H4 => ∃ acc, H4 Dl = some (.lst acc) ∧ acc.length < sizeLine ∧ LcI S H Dl Acc (i + 1) (upd H4 Dl (.lst (acc ++ [y]))) else LcI S H Dl Acc (i + 1) H3 := by
  obtain ⟨acc, h1, c, a⟩ := q
  have nS : Dl ∉ S := fun z => hS Dl z hD
  refine t acc H' _ _ c a (fun y H4 c4 a4 => ?_) (fun H3 c3 a3 => ⟨acc, c3.ob _ _ nS h1, c.trans c3, a3⟩)
  have h4 := c4.ob _ _ nS h1
  refine ⟨acc, h4, hz _ _ _ a, acc ++ [y], upd_same, (c.trans c4).own hD _, ?_⟩
  exact mono _ _ Dl H4 _ hD ((Chg.refl H4).set (List.mem_singleton.mpr rfl) h4 (by intro xs z; cases z) _) a4
theorem g_lcL (h : SqL K H p xs) (hS : ∀ s ∈ S, H s ≠ none) (Acc : Nat → List V → Hp → Prop) (mono : ∀ i acc Dl H1 H2, H Dl = none → Chg [Dl] H1 H2 → Acc i acc H1 → Acc i acc H2)
    (h0 : ∀ H', Ext H H' → Acc 0 [] H') (hl : ∀ i acc H', Chg S H H' → Acc i acc H' → SqL K H' p xs) (hz : ∀ i acc H', Acc i acc H' → acc.length < sizeLine)
    (hs : ∀ i x, xs[i]? = some x → LcT S H σ vs j tt te Acc i x)
    (hd : ∀ q acc H', H q = none → Chg S H H' → H' q = some (.lst acc) → Acc xs.length acc H' → Q (.ref q) H')
    (hw : ∀ x : V, wipe ((wipe σ vs).set j (some x)) vs = wipe σ vs := by intro _; rfl) :
    ∃ a, V.ref p = .ref a ∧ (∃ xs, SqL K H a xs) ∧ LcB (gName j) tt te vs σ Q (Itl K a) H := by
  refine ⟨p, rfl, ⟨xs, h⟩, fun Dl hD => lc_list (xs := xs) (LcI S H Dl Acc) ⟨[], upd_same, (Chg.new hD _), h0 _ (Chg.new hD _)⟩ (fun i H' _ ⟨acc, _, c, a⟩ => hl i acc H' c a) (fun i x H' hi q => ⟨hw x, ?_⟩) (fun H' ⟨acc, h1, c, a⟩ => hd Dl acc H' hD c h1 a)⟩
  exact lc_turn hD hS mono hz (hs i x hi) q
theorem g_lcT (h : SqT K H p xs) (hS : ∀ s ∈ S, H s ≠ none) (Acc : Nat → List V → Hp → Prop) (mono : ∀ i acc Dl H1 H2, H Dl = none → Chg [Dl] H1 H2 → Acc i acc H1 → Acc i acc H2)
    (h0 : ∀ H', Ext H H' → Acc 0 [] H') (hl : ∀ i acc H', Chg S H H' → Acc i acc H' → SqT K H' p xs) (hz : ∀ i acc H', Acc i acc H' → acc.length < sizeLine)
    (hs : ∀ i x, xs[i]? = some x → LcT S H σ vs j tt te Acc i x)
    (hd : ∀ q acc H', H q = none → Chg S H H' → H' q = some (.lst acc) → Acc xs.length acc H' → Q (.ref q) H')
    (hw : ∀ x : V, wipe ((wipe σ vs).set j (some x)) vs = wipe σ vs := by intro _; rfl) :
    ∃ a, V.ref p = .ref a ∧ (∃ xs, SqT K H a xs) ∧ LcB (gName j) tt te vs σ Q (Itt K a) H := by
  refine ⟨p, rfl, ⟨xs, h⟩, fun Dl hD => lc_tup (xs := xs) (LcI S H Dl Acc) ⟨[], upd_same, (Chg.new hD _), h0 _ (Chg.new hD _)⟩ (fun i H' _ ⟨acc, _, c, a⟩ => hl i acc H' c a) (fun i x H' hi q => ⟨hw x, ?_⟩) (fun H' ⟨acc, h1, c, a⟩ => hd Dl acc H' hD c h1 a)⟩
  exact lc_turn hD hS mono hz (hs i x hi) q
theorem g_lcR {n : Int} (hn : -(2 ^ 62) ≤ n ∧ n < 2 ^ 62) (hS : ∀ s ∈ S, H s ≠ none) (Acc : Nat → List V → Hp → Prop) (mono : ∀ i acc Dl H1 H2, H Dl = none → Chg [Dl] H1 H2 → Acc i acc H1 → Acc i acc H2)
    (h0 : ∀ H', Ext H H' → Acc 0 [] H') (hz : ∀ i acc H', Acc i acc H' → acc.length < sizeLine)
    (hs : ∀ i : Nat, (i : Int) < n → LcT S H σ vs j tt te Acc i (.int (i : Int)))
    (hd : ∀ q acc H', H q = none → Chg S H H' → H' q = some (.lst acc) → Acc n.toNat acc H' → Q (.ref q) H')
    (hw : ∀ x : V, wipe ((wipe σ vs).set j (some x)) vs = wipe σ vs := by intro _; rfl) :
    ∃ k : Int, ([V.int n] : List V) = [.int k] ∧ -(2 ^ 62) ≤ k ∧ k < 2 ^ 62 ∧ LcB (gName j) tt te vs σ Q (Itr 0 k.toNat) H := by
  refine ⟨n, rfl, hn.1, hn.2, fun Dl hD => lc_range (lo := 0) (n := n.toNat) (LcI S H Dl Acc) ⟨[], upd_same, (Chg.new hD _), h0 _ (Chg.new hD _)⟩ (fun i H' hi q => ?_) (fun H' ⟨acc, h1, c, a⟩ => hd Dl acc H' hD c h1 a)⟩
  rw [Int.zero_add]
  exact ⟨hw _, lc_turn hD hS mono hz (hs i (by omega)) q⟩
end
/-! ### a def as a constant -/
structure Cl (P : Program) (w : World) (K : PySem.W.Frag) (mg : Str → Option Value) (base : Heap) (CX : CXT) (k : Nat) (x : Str) (sp : Sp) : Prop where
  ex : ∃ f fd ps, FnOk P w K mg base CX k f fd ps sp ∧ mg x = some (.ref f) ∧ PySem.W.keepIn K (.ref f) = true ∧ Binds K fd ps []
section
variable {X : Cx} {CX : CXT} {k j : Nat} {x : Str} {sp : Sp} {E : XK} {e : Expr} {es : List Expr} {t : TA} {p pos : Pos}
theorem pe_cl (c : Cl X.prog X.w X.K X.mg X.base CX k x sp) (hr : Room j X.A) (hk : k ≤ j) (hx : Passes CX X E) (ha : PA X (e :: es) t) (hg : Gl X x := by rfl) (hdb : (x == ("__debug__" : Str)) = false := by decide)
    (he : starEach (e :: es) X.env = (false, eval e X.env) :: starEach es X.env := by rfl) (hpl : (backTo pos (starEach es X.env)).any (·.1) = false := by rfl) : PE X (.Call (.Name x p) (e :: es) [] pos) (tCall sp [] E t) := by
  obtain ⟨f, fd, ps, F, hm, hk2, hb⟩ := c.ex
  exact pe_call F (hr.mono hk) hg hm hk2 hb .nil hx ha hdb he hpl
theorem pe_cl0 (c : Cl X.prog X.w X.K X.mg X.base CX k x sp) (hr : Room j X.A) (hk : k ≤ j) (hx : Passes CX X E) (hg : Gl X x := by rfl) (hdb : (x == ("__debug__" : Str)) = false := by decide) : PE X (.Call (.Name x p) [] [] pos) (tCall sp [] E tNil) := by
  obtain ⟨f, fd, ps, F, hm, hk2, hb⟩ := c.ex
  exact pe_call0 F (hr.mono hk) hg hm hk2 hb .nil hx hdb
end
end My

/-! Hk: the head's facts read by a Hook of one's own: defs at any address, closures, Bools of one's own. -/
namespace My
open PySem PySem.Spec PyProof.Rows L2 He
abbrev FnM : Type := Option (Str × Str × Arguments × FuncBody × Scope × Addr × Addr)
def fnM (K : PySem.W.Frag) (a : Addr) : FnM := match K.lookup a with
  | some ⟨_, _, .func fd, _⟩ => some (fd.name, fd.qualname, fd.params, fd.body, fd.scope, fd.globals, fd.builtins)
  | _ => none
/-- one def: where it stands, its name, qualified name, parameters, body, scope, closure -/
structure DefM where
  at_ : PySem.W.Frag → Addr
  name : Str
  qual : Str
  params : Arguments
  body : List Stmt
  scope : Scope
  clo : List (Str × (PySem.W.Frag → Addr)) := []
def DefM.val (d : DefM) : FnM := some (d.name, d.qual, d.params, .stmts d.body, d.scope, mainGlobals, builtinsNs)
def DefM.cl (K : PySem.W.Frag) (d : DefM) : List (Str × Addr) := d.clo.map fun q => (q.1, q.2 K)
def noneB : Value → Bool
  | .none => true
  | _ => false
theorem noneB_ok {v : Value} (h : noneB v = true) : v = .none := by cases v <;> first | rfl | cases h
def DefM.ok (K : PySem.W.Frag) (d : DefM) : Bool := PySem.W.keepIn K (.ref (d.at_ K)) && (match K.lookup (d.at_ K) with
  | some ⟨_, _, .func fd, _⟩ => PySem.W.codeIn K fd.code d.qual && (noneB fd.defaults && decide (fd.closure = d.cl K))
  | _ => false)
/-- a def of K with a closure, without defaults -/
structure FunC (K : PySem.W.Frag) (x qual : Str) (params : Arguments) (body : List Stmt) (scope : Scope) (cl : List (Str × Addr)) (f : Addr) (fd : FuncData) : Prop where
  ex : ∃ (oc : Value) (od : Option Addr) (kV doc pm : Value) (an : Option Addr) (cdv ct : Value) (osl : Array (Option Value)),
    fd = { PySem.W.fnOf x qual params body scope .none kV doc pm an cdv ct with closure := cl } ∧ K.lookup f = some ⟨oc, od, .func fd, osl⟩ ∧ PySem.W.codeIn K cdv qual = true
  kp : PySem.W.keepIn K (.ref f) = true
theorem DefM.funC {K : PySem.W.Frag} {d : DefM} (e : fnM K (d.at_ K) = d.val) (c : d.ok K = true) : ∃ fd, FunC K d.name d.qual d.params d.body d.scope (d.cl K) (d.at_ K) fd := by
  obtain ⟨kp, c2⟩ := ba c
  unfold fnM at e
  cases q : K.lookup (d.at_ K) with
  | none =>
    rw [q] at c2
    cases c2
  | some o =>
    obtain ⟨oc, od, dt, osl⟩ := o
    rw [q] at c2 e
    cases dt with
    | func fd =>
      obtain ⟨n1, n2, n3, n4, n5, n6, n7, n8, n9, n10, n11, n12, n13, n14, n15⟩ := fd
      have e2 : (some (n1, n2, n3, n4, n5, n6, n15) : FnM) = some (d.name, d.qual, d.params, .stmts d.body, d.scope, mainGlobals, builtinsNs) := e
      simp only [Option.some.injEq, Prod.mk.injEq] at e2
      obtain ⟨h1, h2, h3, h4, h5, h6, h8⟩ := e2
      subst h1 h2 h3 h4 h5 h6 h8
      have c3 : (PySem.W.codeIn K n13 d.qual && (noneB n8 && decide (n7 = d.cl K))) = true := c2
      obtain ⟨k1, k2⟩ := ba c3
      obtain ⟨k3, k4⟩ := ba k2
      have e8 := noneB_ok k3
      have e7 : n7 = d.cl K := of_decide_eq_true k4
      subst e8 e7
      exact ⟨_, ⟨oc, od, n9, n10, n11, n12, n13, n14, osl, rfl, q, k1⟩, kp⟩
    | _ => cases c2
theorem FunC.funD {K : PySem.W.Frag} {x qual : Str} {params : Arguments} {body : List Stmt} {scope : Scope} {f : Addr} {fd : FuncData} (F : FunC K x qual params body scope [] f fd) : FunD K x qual params body scope [] [] f fd := by
  obtain ⟨oc, od, kV, doc, pm, an, cdv, ct, osl, e, lk, c⟩ := F.ex
  exact ⟨⟨oc, od, .none, kV, doc, pm, an, cdv, ct, osl, e, lk, c, .inl ⟨rfl, rfl⟩, .inl rfl⟩, F.kp⟩
/-! ### the Hook -/
abbrev AlM : Type := Bool × List FnM
abbrev Ex : Type := PySem.W.Frag → Bool
def obsM (fa : List Fa) (fn : List DefM) (ex : List Ex) (K : PySem.W.Frag) : AlM := ((fa.all fun f => f.ok K) && ((fn.all fun d => d.ok K) && ex.all fun x => x K), fn.map fun d => fnM K (d.at_ K))
def valM (fn : List DefM) : AlM := (true, fn.map DefM.val)
def SaysM (fa : List Fa) (fn : List DefM) (ex : List Ex) (K : PySem.W.Frag) : Prop := obsM fa fn ex K = valM fn
def obsMG (n : Nat) (fa : List Fa) (fn : List DefM) (ex : List Ex) (g : Addr → Option Obj) : AlM := obsM fa fn ex (frG g (He5.asA g n))
def hookM (n : Nat) (fa : List Fa) (fn : List DefM) (ex : List Ex) : PySem.W.Hook where
  α := AlM
  obs := fun s => obsMG n fa fn ex s.heap.get?
  val := fun _ => valM fn
  says := fun _ h => ∃ K : PySem.W.Frag, K.In h ∧ SaysM fa fn ex K
  of := fun _ _ e => ⟨_, frG_in, e⟩
  keeps := fun _ _ _ ⟨K, hK, c⟩ k => ⟨K, PySem.W.Frag.In.keeps hK k, c⟩
theorem obsMG_eq {n : Nat} {fa : List Fa} {fn : List DefM} {ex : List Ex} {g : Addr → Option Obj} {s : Shared} (h : ∀ a, g a = s.heap.get? a) : obsMG n fa fn ex g = (hookM n fa fn ex).obs s := by
  have e : g = s.heap.get? := funext h
  rw [e] <;> rfl
section
variable {fa : List Fa} {fn : List DefM} {ex : List Ex} {K : PySem.W.Frag}
theorem SaysM.fact (c : SaysM fa fn ex K) (i : Nat) {f : Fa} (h : fa[i]? = some f := by rfl) : f.ok K = true := by
  have c1 := (ba (show ((fa.all fun f => f.ok K) && ((fn.all fun d => d.ok K) && ex.all fun x => x K)) = true from congrArg (fun z : AlM => z.1) c)).1
  exact List.all_eq_true.mp c1 f (List.mem_of_getElem? h)
theorem SaysM.more (c : SaysM fa fn ex K) (i : Nat) {x : Ex} (h : ex[i]? = some x := by rfl) : x K = true := by
  have c1 := (ba (ba (show ((fa.all fun f => f.ok K) && ((fn.all fun d => d.ok K) && ex.all fun x => x K)) = true from congrArg (fun z : AlM => z.1) c)).2).2
  exact List.all_eq_true.mp c1 x (List.mem_of_getElem? h)
theorem SaysM.defC (c : SaysM fa fn ex K) (i : Nat) {d : DefM} (h : fn[i]? = some d := by rfl) : ∃ fd, FunC K d.name d.qual d.params d.body d.scope (d.cl K) (d.at_ K) fd := by
  have c2 := (ba (ba (show ((fa.all fun f => f.ok K) && ((fn.all fun d => d.ok K) && ex.all fun x => x K)) = true from congrArg (fun z : AlM => z.1) c)).2).1
  have e : fn.map (fun d => fnM K (d.at_ K)) = fn.map DefM.val := congrArg (fun z : AlM => z.2) c
  have e2 : (fn.map fun d => fnM K (d.at_ K))[i]? = (fn.map DefM.val)[i]? := by rw [e]
  rw [List.getElem?_map, List.getElem?_map, h] at e2
  exact DefM.funC (Option.some.inj e2) (List.all_eq_true.mp c2 d (List.mem_of_getElem? h))
theorem SaysM.def_ (c : SaysM fa fn ex K) (i : Nat) {d : DefM} (h : fn[i]? = some d := by rfl) (hc : d.clo = [] := by rfl) : ∃ fd, FunD K d.name d.qual d.params d.body d.scope [] [] (d.at_ K) fd := by
  obtain ⟨fd, F⟩ := c.defC i h
  have e : d.cl K = [] := by unfold DefM.cl; rw [hc]; rfl
  rw [e] at F
  exact ⟨fd, F.funD⟩
end
/-! ### where a def stands -/
abbrev wFn (x : Str) : PySem.W.Frag → Addr := fun K => fAd K (x, none)
abbrev wMt (C m : Str) : PySem.W.Frag → Addr := fun K => fAd K (C, some m)
abbrev wSm (C m : Str) : PySem.W.Frag → Addr := fun K => He5.wf K (ga K C) "staticmethod" m
abbrev wCm (C m : Str) : PySem.W.Frag → Addr := fun K => He5.wf K (ga K C) "classmethod" m
/-! ### a static method, read off its class -/
def smB (C m : Str) : Ex := fun K => PySem.W.readsIn K (ga K C) (.type "type") && He5.wrapB K (ga K C) "staticmethod" "staticmethod.__get__" m
def cmB (C m : Str) : Ex := fun K => PySem.W.readsIn K (ga K C) (.type "type") && (He5.wrapB K (ga K C) "classmethod" "classmethod.__get__" m && PySem.W.fnIn K (He5.wf K (ga K C) "classmethod" m))
theorem cread_of {K : PySem.W.Frag} {C : Addr} (h : PySem.W.readsIn K C (.type "type") = true) : ClX.CRead K C (.type "type") := by
  refine ⟨h, ?_⟩
  unfold PySem.W.readsIn at h
  obtain ⟨h, _⟩ := ba h
  obtain ⟨h, _⟩ := ba h
  obtain ⟨h, h3⟩ := ba h
  obtain ⟨_, h2⟩ := ba h
  unfold PySem.W.specialIn
  rw [beq_iff_eq.mp h2, Option.bind_some]
  exact beq_iff_eq.mp h3
/-- C.m, a static method -/
structure SMet (K : PySem.W.Frag) (C : Addr) (m : Str) (g : Addr) : Prop where
  rd : ClX.CRead K C (.type "type")
  ex : ∃ p rest, PySem.W.findCls K (.ref C) (.type "type") m = some (.get (.builtin "staticmethod.__get__") (.ref p) .none (.ref C)) ∧ PySem.W.recIn K p "staticmethod" = some (.ref g :: rest)
theorem smB_ok {K : PySem.W.Frag} {C m : Str} (h : smB C m K = true) : SMet K (ga K C) m (wSm C m K) := by
  obtain ⟨h1, h2⟩ := ba h
  obtain ⟨h3, rest, h4⟩ := He5.wrapB_ok h2
  exact ⟨cread_of h1, _, rest, h3, h4⟩
/-- a static method as a constant -/
structure ClS (P : Program) (w : World) (K : PySem.W.Frag) (mg : Str → Option Value) (base : Heap) (CX : CXT) (k : Nat) (C m : Str) (sp : Sp) : Prop where
  ex : ∃ c f fd ps, FnOk P w K mg base CX k f fd ps sp ∧ mg C = some (.ref c) ∧ SMet K c m f ∧ PySem.W.keepIn K (.ref f) = true ∧ Binds K fd ps []
section
variable {X : Cx} {CX : CXT} {k j : Nat} {C m : Str} {sp : Sp} {E : XK} {e : Expr} {es : List Expr} {t : TA} {p pos apos : Pos} {pl : Sem Bool}
theorem pe_sm (c : ClS X.prog X.w X.K X.mg X.base CX k C m sp) (hr : Room j X.A) (hk : k ≤ j) (hx : Passes CX X E) (ha : PA X (e :: es) t) (hg : Gl X C := by rfl) (hdb : (C == ("__debug__" : Str)) = false := by decide)
    (he : starEach (e :: es) X.env = (false, eval e X.env) :: starEach es X.env := by rfl) (hpl : (backTo pos (starEach es X.env)).any (·.1) = false := by rfl)
    (ht : eval (.Call (.Attribute (.Name C p) m apos) (e :: es) [] pos) X.env = (do
      let ov ← eval (.Name C p) X.env
      standAt apos.atName
      let (f, first) ← holding [ov] (getMethod ov m pl)
      callWith pos f first (backTo pos (starEach (e :: es) X.env)) (backToKw pos (keywordEach [] X.env))) := by rfl) :
    PE X (.Call (.Attribute (.Name C p) m apos) (e :: es) [] pos) (tCall sp [] E t) := by
  obtain ⟨ca, f, fd, ps, F, hm, M, kp, hb⟩ := c.ex
  obtain ⟨q, rest, hf, hp⟩ := M.ex
  refine ⟨fun pins s σ H Q I h => ?_⟩
  refine PySem.W.methodCall_KW (pl := pl) (thn ((pe_glob (v := .ref ca) hg hm rfl hdb).run pins s σ H (fun v H1 => v = .ref ca ∧ H1 = H) I ⟨rfl, rfl⟩) fun u s1 ⟨x, H1, I1, rx, ex, eh⟩ => ?_) ht
  subst ex eh
  obtain rfl : u = Value.ref ca := rx
  refine PySem.W.method_cls I1.kIn M.rd.ga (PySem.W.cls_bind I1.kIn M.rd.rd hf (wpAny_call (PySem.W.sm_get (s := { s1 with toks := s1.toks + 1 }) I1.kIn hp (PySem.W.handed_on rfl ?_))))
  refine PySem.W.callWith_K (h₀ := X.base) I1.ok.mod.kin kp (thn (ha.run pos pins _ σ H1 _ (I1.tok _) h) fun us s2 ⟨vs, H2, I2, r, q2⟩ => ⟨I2.kIn, ?_⟩) he hpl
  exact run_fn F (hr.mono hk) hb .nil hx I2 r q2
end
end My

/-! More: further steps of the readings. -/
namespace My
open PySem PySem.Spec PyProof.Rows L2
section
variable {K : PySem.W.Frag} {σ : L2.St} {H : Hp} {D : Ends} {g : TG} {tb : TS} {R : It → Hp → Prop} {te : TE} {Q : VK}
theorem g_iS (h : te σ H fun x H1 => ∃ z, x = .str z ∧ R (Its z) H1) : iStr te σ H R := h
/-- for c in a text -/
theorem g_forS {z : Str} (Pv : Nat → L2.St → Hp → Prop) (h0 : Pv 0 σ H)
    (hs : ∀ i c σ H, z.cps.toList[i]? = some c → Pv i σ H → g (.str ⟨#[c]⟩) σ H fun σ2 H2 => tb { D with nx := Pv (i + 1), ct := Pv (i + 1), bk := D.nx } σ2 H2) (hd : ∀ σ H, Pv z.cps.toList.length σ H → D.nx σ H) :
    ∃ y, V.str z = .str y ∧ ForB g tb D σ (Its y) H := by
  refine ⟨z, rfl, fun i m σ H => m = z.cps.toList.length - i ∧ i ≤ z.cps.toList.length ∧ Pv i σ H, ⟨z.cps.toList.length, by simp, Nat.zero_le _, h0⟩, ?_⟩
  rintro i m σ H ⟨rfl, hi, p⟩
  by_cases hlt : i < z.cps.toList.length
  · refine .inr ⟨by simpa [Its] using hlt, Pv (i + 1), fun σ' H' p' => ⟨z.cps.toList.length - (i + 1), by omega, rfl, hlt, p'⟩, fun x H' y => ?_⟩
    obtain ⟨e, c, hc, rfl⟩ := y
    subst e
    exact hs i c σ _ (by simpa using hc) p
  · have e : i = z.cps.toList.length := by omega
    subst e
    exact .inl ⟨by simp [Its], hd σ H p⟩
theorem g_notInS {c : Nat} {z : Str} (h : Q (.bl (!decide (c ∈ z.cps.toList))) H) : rNotInS_ (.str ⟨#[c]⟩) (.str z) H Q := ⟨c, z, rfl, rfl, h⟩
theorem g_inS {c : Nat} {z : Str} (h : Q (.bl (decide (c ∈ z.cps.toList))) H) : rInS_ (.str ⟨#[c]⟩) (.str z) H Q := ⟨c, z, rfl, rfl, h⟩
theorem kit_bool_bool : PySem.W.kitOne K (.type "bool") (.type "bool") = some true := kit_ty (by decide +kernel)
theorem g_isiBB {b : Bool} (k : Q (.bl true) H) : rIsi K [.bl b, .ty "bool"] H Q := ⟨_, _, _, _, true, rfl, .ty "bool", .base (.bl b), kit_bool_bool, k⟩
end
/-! ### xs[1::-1] of two or more -/
theorem rev2_pick (items : Array Value) (u v : Value) (r : List Value) (e : items.toList = u :: v :: r) : slicePick items (some 1) none (some (-1)) = #[v, u] := by
  have hs : items.size = r.length + 2 := by rw [← Array.length_toList, e]; simp
  unfold slicePick
  have hb : sliceBounds (some 1) none (some (-1)) items.size = (1, -1, -1) := by
    rw [hs]
    simp [sliceBounds]
    omega
  rw [hb]
  have hr : sliceRange 1 (-1) (-1) = [1, 0] := by decide +kernel
  show ((sliceRange 1 (-1) (-1)).filterMap (items[·]?)).toArray = _
  rw [hr]
  have h0 : items[0]? = some u := by rw [← Array.getElem?_toList, e]; rfl
  have h1 : items[1]? = some v := by rw [← Array.getElem?_toList, e]; rfl
  simp [h0, h1]
def tRev2 (K : PySem.W.Frag) (te : TE) : TE := fun σ H Q => te σ H fun x H1 => ∃ a x0 x1 xs, x = .ref a ∧ SqL K H1 a (x0 :: x1 :: xs) ∧ ∀ p, H1 p = none → Q (.ref p) (upd H1 p (.lst [x1, x0]))
theorem pe_rev2 {X : Cx} {e : Expr} {te : TE} {k k' : Nat} {p0 p1 p2 p3 pos : Pos} (he : PE X e te) : PE X (.Subscript e (.Slice (some (.Constant (.int 1) k' p0)) none (some (.UnaryOp .USub (.Constant (.int 1) k p1) p2)) p3) pos) (tRev2 X.K te) := by
  refine ⟨fun pins s σ H Q I h => ?_⟩
  refine Subscript_ (thn (he.run pins s σ H _ I h) fun v s1 ⟨x, H1, I1, r1, q1⟩ => ?_)
  obtain ⟨a, x0, x1, xs, ex, hx, q⟩ := q1
  subst ex
  cases r1
  have hlo : PO X (some (.Constant (.int 1) k' p0)) (tPart (tC (.int 1))) := po_some pe_int
  have hst : PO X (some (.UnaryOp .USub (.Constant (.int 1) k p1) p2)) (tPart (tUn (rU fun i => .int (-i)) (tC (.int 1)))) := po_some (pe_un un_neg pe_int)
  refine wpAny_Slice (thn (hlo.run pins s1 σ H1 (fun o H2 => o = some 1 ∧ H2 = H1) I1 ⟨1, rfl, rfl, rfl⟩) fun vl s2 ⟨l, H2, I2, pl, el, e2⟩ => ?_)
  subst el e2
  refine thn (po_none.run pins s2 σ H2 (fun o H3 => o = none ∧ H3 = H2) I2 ⟨rfl, rfl⟩) fun vu s3 ⟨u, H3, I3, pu, eu, e3⟩ => ?_
  subst eu e3
  refine thn (hst.run pins s3 σ H3 (fun o H4 => o = some (-1) ∧ H4 = H3) I3 ⟨1, rfl, -1, rfl, rfl, rfl⟩) fun vs s4 ⟨o, H4, I4, ps, eo, e4⟩ => ?_
  subst eo e4
  have I5 : Inv X pins σ H4 { s4 with heap := s4.heap.push { cls := .type "slice", data := .fields #[vl, vu, vs] } } := I4.kept (t' := s4.toks) fun b ob q => Heap.get?_push_of_some _ q
  obtain ⟨its, r, ht, hz⟩ := I5.list hx
  have hlen := r.length
  show wpAny (model X.prog X.w) X.A (subscriptTail e (.Slice (some (.Constant (.int 1) k' p0)) none (some (.UnaryOp .USub (.Constant (.int 1) k p1) p2)) p3) (.ref a) (.ref s4.heap.objs.size)) (EP X pins σ Q) X.xe { s4 with heap := s4.heap.push { cls := .type "slice", data := .fields #[vl, vu, vs] } }
  refine tail_any (ops := [.ref a, .ref s4.heap.objs.size]) ht.isList.typeIs (PySem.slot_list_getitem.lookup) ?_ (by with_unfolding_all rfl)
  refine wpAny_getItem_list_slice ht.isList (Heap.IsSliceOf.new _ vl vu vs) pl pu ps (by decide) ?_ (by rw [List.size_toArray]; omega)
  cases r with
  | @cons _ u0 _ us r0 rr =>
    cases rr with
    | @cons _ u1 _ us2 r1 rr2 =>
      rw [rev2_pick _ u0 u1 us2 (by simp)]
      refine ⟨.ref _, _, I5.laid (t' := s4.toks) (o := .lst [x1, x0]) (fun b ob q => Heap.get?_push_of_some _ q) (Nat.le_refl _) ?_, rfl, q _ (I5.hok.fresh (Nat.le_refl _))⟩
      exact ⟨by rw [sizeLine_eq]; simp, _, 0, .cons r1 (.cons r0 .nil), Heap.get?_push_size _ rfl⟩
/-! ### dicts with int and text keys -/
def rLenD : List V → Hp → VK → Prop := fun xs H Q => ∃ a kvs, xs = [V.ref a] ∧ H a = some (.dK kvs) ∧ Q (.int kvs.length) H
section
variable {K : PySem.W.Frag} {σ : L2.St} {H : Hp} {D : Ends} {Q : VK} {td ty tx tv te : TE}
theorem g_lenD {a : Addr} {kvs : List (Key × V)} (h : H a = some (.dK kvs)) (k : Q (.int kvs.length) H) : rLenD [.ref a] H Q := ⟨a, kvs, rfl, h, k⟩
theorem g_dget (h : td σ H fun x H1 => ty σ H1 fun y H2 => ∃ a v, x = .ref a ∧ DGet H2 a y (some v) ∧ Q v H2) : tDGet td ty σ H Q := h
theorem g_dget2 (h : td σ H fun x H1 => ∃ a, x = .ref a ∧ IsD H1 a ∧ ty σ H1 fun y H2 => tx σ H2 fun z H3 => ∃ o, DGet H3 a y o ∧ Q (o.getD z) H3) : tDGet2 td ty tx σ H Q := h
theorem g_din (h : ty σ H fun y H1 => td σ H1 fun x H2 => ∃ a o, x = .ref a ∧ DGet H2 a y o ∧ Q (.bl o.isSome) H2) : tDIn ty td σ H Q := h
theorem g_dnin (h : ty σ H fun y H1 => td σ H1 fun x H2 => ∃ a o, x = .ref a ∧ DGet H2 a y o ∧ Q (.bl (!o.isSome)) H2) : tDNotIn ty td σ H Q := h
theorem g_dput (h : tv σ H fun v H1 => td σ H1 fun x H2 => ty σ H2 fun y H3 => ∃ a H4, x = .ref a ∧ DPut H3 a y v H4 ∧ D.nx σ H4) : sDPut td ty tv D σ H := h
theorem g_star {t : TA} {QL : List V → Hp → Prop} (h : te σ H fun x H1 => ∃ p xs, x = V.ref p ∧ (SqT K H1 p xs ∨ SqL K H1 p xs) ∧ t σ H1 fun ys H2 => QL (xs ++ ys) H2) : StX.tStar K te t σ H QL := h
theorem g_rev2 (h : te σ H fun x H1 => ∃ a x0 x1 xs, x = .ref a ∧ SqL K H1 a (x0 :: x1 :: xs) ∧ ∀ p, H1 p = none → Q (.ref p) (upd H1 p (.lst [x1, x0]))) : tRev2 K te σ H Q := h
theorem g_dnew (k : ∀ p H', H p = none → Ext H H' → H' p = some (.dK []) → Q (.ref p) H') : tDNewK σ H Q := fun p hp => k p _ hp (Chg.new hp _) upd_same
end
theorem DGet.int {H : Hp} {a : Addr} {kvs : List (Key × V)} {n : Int} (h : H a = some (.dK kvs)) : DGet H a (.int n) (valV kvs (.inl n)) := .inl ⟨kvs, .inl n, .inl h, rfl, rfl⟩
theorem DGet.str {H : Hp} {a : Addr} {kvs : List (Key × V)} {n : Str} (h : H a = some (.dK kvs)) : DGet H a (.str n) (valV kvs (.inr n)) := .inl ⟨kvs, .inr n, .inl h, rfl, rfl⟩
theorem isD_of {H : Hp} {a : Addr} {kvs : List (Key × V)} (h : H a = some (.dK kvs)) : IsD H a := .inl ⟨kvs, .inl h⟩
/-! ### more -/
def tNever : TS := fun _ _ _ => False
theorem ps_never {X : Cx} {st : Stmt} : PS X st tNever := ⟨fun _ _ _ _ _ _ h => h.elim⟩
section
variable {K : PySem.W.Frag} {σ : L2.St} {H : Hp} {D : Ends} {Q : VK} {te : TE} {QB : Bool → Hp → Prop}
theorem g_gtup {a : Addr} {xs : List V} {n : Nat} {t : TGs} {QS : L2.St → Hp → Prop} (h : H a = some (.tup xs)) (hl : xs.length = n) (k : t xs σ H QS) : gTup K n t (.ref a) σ H QS := ⟨a, xs, rfl, .inl (.inl h), hl, k⟩
theorem g_gcons {v : V} {r : List V} {t : TG} {u : TGs} {QS : L2.St → Hp → Prop} (h : t v σ H fun σ' H' => u r σ' H' QS) : gCons t u (v :: r) σ H QS := ⟨v, r, rfl, h⟩
theorem g_gnil {QS : L2.St → Hp → Prop} (h : QS σ H) : gNil [] σ H QS := ⟨rfl, h⟩
theorem g_ipI {f : Int → Int → Int} {i j : Int} (h : Q (.int (f i j)) H) : ipI f (.int i) (.int j) H Q := ⟨i, j, rfl, rfl, h⟩
theorem g_augV {i : Nat} {ti : TIp} {x : V} (e : σ[i]? = some (some x)) (h : te σ H fun y H1 => ti x y H1 fun z H2 => D.nx (σ.set i (some z)) H2) : tAug i te ti D σ H := ⟨x, e, h⟩
theorem g_while {c : TT} {tb : TS} {m0 : Nat} (Pv : Nat → L2.St → Hp → Prop) (h0 : Pv m0 σ H)
    (hs : ∀ m σ H, Pv m σ H → c σ H fun b H1 => if b = true then ∃ N : L2.St → Hp → Prop, (∀ σ' H', N σ' H' → ∃ m', m' < m ∧ Pv m' σ' H') ∧ tb { D with nx := N, ct := N, bk := D.nx } σ H1 else D.nx σ H1) : tWhile c tb D σ H := ⟨Pv, ⟨_, h0⟩, hs⟩
theorem g_truL {p : Addr} {xs : List V} (h : H p = some (.lst xs)) (k : QB (!xs.isEmpty) H) : ∃ b, TruV K (.ref p) H b ∧ QB b H := ⟨_, .inl ⟨xs, .inl (.inl h), rfl⟩, k⟩
theorem g_tru (h : te σ H fun x H' => ∃ k, TruV K x H' k ∧ QB k H') : tTru_ K te σ H QB := h
end
end My

/-! Sup: own error classes whose __init__ says super().__init__("..") and stores fields. -/
namespace My
open PySem PySem.Spec PyProof.Rows L2
/-! ### a def whose closure is the class's cell -/
structure SupScope (N ps : List Str) (sc : Scope) : Prop where
  kind : sc.kind = .function
  co : sc.isCoroutine = false
  gen : sc.isGenerator = false
  nd : N.Nodup
  pre : N.take ps.length = ps
  par : ∀ x ∈ ps, sc.names.lookup x = some .local
  nocell : ∀ y ∈ sc.names, y.2 ≠ .cell
  free : ∀ y ∈ sc.names, y.2 = .free → y.1 = ("__class__" : Str)
  sup : sc.names.lookup ("super" : Str) = some .globalImplicit
  cls : sc.names.lookup ("__class__" : Str) = some .free
abbrev envS (qual : Str) (scope : Scope) (L f : Addr) (cd : Value) (cc : Addr) : Env := PySem.W.ksEnv qual scope L f cd cc
def cxS (CX : CXT) (P : Program) (w : World) (K : PySem.W.Frag) (mg : Str → Option Value) (base : Heap) (N : List Str) (qual : Str) (scope : Scope) (f : Addr) (cd : Value) (cc : Addr) (A : Around) (outer : List Env) (s : Shared) (H : Hp) (E : XK) : Cx where
  prog := P
  w := w
  K := K
  mg := mg
  base := base
  A := A.deeper (envS qual scope s.heap.objs.size f cd cc)
  N := N
  s_0 := s
  H_0 := H
  env := envS qual scope s.heap.objs.size f cd cc
  outer := outer
  stack := envS qual scope s.heap.objs.size f cd cc :: outer
  ex := []
  calm := true
  fn := fun x => !(x == ("__class__" : Str))
  pn := []
  xe := fun e s' => wpAny (model P w) (A.deeper (envS qual scope s.heap.objs.size f cd cc)) (leaving (envS qual scope s.heap.objs.size f cd cc) e) (fun _ s'' => CX outer H s E e s'') (fun e' s'' => CX outer H s E e' s'') s'
theorem one_lookup {x : Str} {cc c : Addr} (h : ([(("__class__" : Str), cc)] : List (Str × Addr)).lookup x = some c) : x = ("__class__" : Str) ∧ c = cc := by
  simp only [List.lookup] at h
  split at h
  · rename_i e
    exact ⟨by simpa using e, (Option.some.inj h).symm⟩
  · cases h
theorem lookup_nodup {α : Type} : ∀ {l : List (Str × α)} {y : Str} {u : α}, (l.map (·.1)).Nodup → (y, u) ∈ l → l.lookup y = some u
  | (x, v) :: l, y, u, hn, hm => by
    rw [List.map_cons] at hn
    rcases List.mem_cons.mp hm with e | hm
    · cases e
      simp [List.lookup]
    · have hne : ¬ y = x := fun e => (List.nodup_cons.mp hn).1 (by rw [← e]; exact List.mem_map_of_mem (f := (·.1)) hm)
      have : (y == x) = false := by simpa using hne
      simp only [List.lookup, this]
      exact lookup_nodup (List.nodup_cons.mp hn).2 hm
theorem inv_startS {CX : CXT} {P : Program} {w : World} {K : PySem.W.Frag} {mg : Str → Option Value} {base : Heap} {N ps : List Str} {qual : Str} {scope : Scope} {f cc : Addr} {cd : Value} {A : Around} {outer : List Env} {s : Shared} {h₀ : Heap} {tk : Nat} {H : Hp} {E : XK} {us : List Value} {vs : List V}
    {oc : Obj} {cv : Option Value} (S : SupScope N ps scope) (hd : A.handled = none) (e0 : Env0 P w K mg base A outer s H) (hl : vs.length = ps.length) (r : Vals vs us) (hc : K.lookup cc = some oc) (hcv : oc.data = .cell cv)
    (hns : h₀.Ns s.heap.objs.size (fun x => (ps.zip us).reverse.lookup x)) (hk : ∀ b o, s.heap.get? b = some o → h₀.get? b = some o) :
    Inv (cxS CX P w K mg base N qual scope f cd cc A outer s H E) [] (L2.start N vs) H { s with heap := h₀, toks := tk } := by
  have noA : ∀ b : Addr, b ∉ (cxS CX P w K mg base N qual scope f cd cc A outer s H E).ex := fun b z => absurd (show b ∈ ([] : List Addr) from z) (by simp)
  have hbc : base.get? cc = some oc := e0.mod.kin _ _ hc
  refine ⟨⟨e0.mod, S.kind, rfl, rfl, Nat.le_refl _, fun x y c h1 h2 => ?_, fun x hx => ?_, fun x c h1 h2 => ?_, fun _ => hd, Around.frames_deeper e0.frames, .inr ⟨rfl, rfl⟩, fun b z => absurd z (noA b), e0.bs, e0.bsz, fun b _ _ => noA b, fun b z => absurd z (noA b), e0.funs, e0.frf⟩,
    rfl, e0.bare, Un.kept hk, ⟨_, hns, fun i y v h1 h2 h3 => ?_⟩, fun x c h => ?_, e0.hok.fresh (Nat.le_refl _), fun x c h => ?_, fun p hp => absurd (show p ∈ ([] : List (Addr × Obj)) from hp) (by simp), e0.hok.kept hk, ?_⟩
  · exact (one_lookup h1).1.trans (one_lookup h2).1.symm
  · rcases hx with hx | hx
    · exact absurd rfl (S.nocell _ (PySem.mem_of_lookup hx))
    · have := S.free _ (PySem.mem_of_lookup hx) rfl
      have e : x = ("__class__" : Str) := this
      subst e
      exact ⟨cc, rfl⟩
  · have e := (one_lookup h2).1
    subst e
    exact absurd h1 (by show ¬ (!(("__class__" : Str) == "__class__")) = true; simp)
  · have hi : i < vs.length := by
      unfold L2.start at h2
      by_cases hi : i < vs.length
      · exact hi
      · rw [List.getElem?_append_right (by simpa using hi)] at h2
        rw [List.getElem?_replicate] at h2
        split at h2 <;> cases h2
    have ha : vs[i]? = some v := by
      unfold L2.start at h2
      rw [List.getElem?_append_left (by simpa using hi), List.getElem?_map] at h2
      cases e : vs[i]? with
      | none => rw [e] at h2; cases h2
      | some a => rw [e] at h2; cases h2; rfl
    obtain ⟨u, hu, rv⟩ := r.get ha
    have hp : ps[i]? = some y := by
      rw [← S.pre, List.getElem?_take_of_lt (by omega)]; exact h1
    have ndP : ps.Nodup := by rw [← S.pre]; exact S.nd.sublist (List.take_sublist _ _)
    refine ⟨u, rv, .inl ⟨S.par y (List.mem_of_getElem? hp), ?_⟩⟩
    have hm : (y, u) ∈ ps.zip us := List.mem_of_getElem? (i := i) (by rw [List.getElem?_zip_eq_some]; exact ⟨hp, hu⟩)
    have hlu : us.length = ps.length := by rw [← r.length]; exact hl
    refine lookup_nodup ?_ (List.mem_reverse.mpr hm)
    rw [List.map_reverse, List.map_fst_zip (by omega)]
    exact List.pairwise_reverse.mpr (List.Pairwise.imp (fun h => Ne.symm h) ndP)
  · rw [(one_lookup h).2]
    exact ⟨cv, oc, hk _ _ (e0.bs _ _ hbc).1, hcv⟩
  · rw [(one_lookup h).2]
    exact (e0.bs _ _ hbc).2
  · have hpl : ps.length ≤ N.length := by have := congrArg List.length S.pre; rw [List.length_take] at this; omega
    unfold L2.start
    show _ = N.length
    rw [List.length_append, List.length_map, List.length_replicate]
    omega
theorem fn_ofS {CX : CXT} {P : Program} {w : World} {K : PySem.W.Frag} {mg : Str → Option Value} {base : Heap} {k : Nat} {f cc : Addr} {x qual : Str} {params : Arguments} {body : List Stmt} {scope : Scope} {fd : FuncData} {N ps : List Str} {sp : Sp} {oc : Obj} {cv : Option Value}
    (F : FunC K x qual params body scope [("__class__", cc)] f fd) (S : SupScope N ps scope) (hc : K.lookup cc = some oc) (hcv : oc.data = .cell cv) (len : ∀ vs H Q E, sp vs H Q E → vs.length = ps.length)
    (hbody : ∀ (cdv : Value) (A : Around) (outer : List Env) (s : Shared) (H : Hp) (vs : List V) (Q : VK) (E : XK) (s1 : Shared), Room k (A.deeper (envS qual scope s.heap.objs.size f cdv cc)) → PySem.W.codeIn K cdv qual = true → (∃ oc od fd osl, K.lookup f = some ⟨oc, od, .func fd, osl⟩ ∧ fd.code = cdv ∧ fd.params = params) → sp vs H Q E →
      Inv (cxS CX P w K mg base N qual scope f cdv cc A outer s H E) [] (L2.start N vs) H s1 →
      PySem.wpAt (model P w) (A.deeper (envS qual scope s.heap.objs.size f cdv cc)) (.func body (envS qual scope s.heap.objs.size f cdv cc)) (execs body (envS qual scope s.heap.objs.size f cdv cc))
        (SP (cxS CX P w K mg base N qual scope f cdv cc A outer s H E) [] { nx := fun _ H' => Q .non H', rt := Q }) (cxS CX P w K mg base N qual scope f cdv cc A outer s H E).xe s1) : FnOk P w K mg base CX (k + 1) f fd ps sp := by
  obtain ⟨oc', od, kV, doc, pm, an, cdv, ct, osl, rfl, lk, hcd⟩ := F.ex
  refine ⟨len, fun A outer s H args us vs Q E hr e0 hb r hsp => ?_⟩
  have hl := len _ _ _ _ hsp
  have KX : K.In s.heap := e0.mod.kin.keeps fun b o e => (e0.bs b o e).1
  have lim : s.heap.NoLimit := e0.mod.nolimit.keeps fun b o e => (e0.bs b o e).1
  refine PySem.ks_codeAny_call_defAt (body := body) (binds := ps.zip us) hr.depth (KX _ _ lk) rfl lim (PySem.W.codeRec_of KX hcd) rfl hb S.nocell (fun ⟨n, v⟩ hy => S.par n (List.of_mem_zip hy).1) (fun h₀ hns hk => ?_) S.co S.gen S.kind
  have I := inv_startS (CX := CX) (P := P) (w := w) (K := K) (mg := mg) (base := base) (qual := qual) (f := f) (cd := cdv) (A := A) (outer := outer) (tk := s.toks + (ps.zip us).length) (E := E) S hr.hd e0 hl r hc hcv hns hk
  refine PySem.ks_wpAt_mono (hbody cdv A outer s H vs Q E _ (hr.deeper _) hcd ⟨_, _, _, _, lk, rfl, rfl⟩ hsp I) (fun fl s' hs => ?_) fun e s' hs => hs
  have fin : ∀ {σ' : L2.St} {H' : Hp} {v : V} {u : Value}, Inv (cxS CX P w K mg base N qual scope f cdv cc A outer s H E) [] σ' H' s' → RelV v u → Q v H' → CE outer P w H s Q u s' :=
    fun {σ' H' v u} J rv q => ⟨v, H', J.os, J.bare, J.base, J.hok, rv, q⟩
  cases fl with
  | ret u =>
    obtain ⟨v, σ', H', J, rv, q⟩ := hs
    exact fin J rv q
  | next =>
    obtain ⟨σ', H', J, q⟩ := hs
    exact fin (v := V.non) (u := Value.none) J rfl q
  | brk =>
    obtain ⟨_, _, _, q⟩ := hs
    exact False.elim q
  | cont =>
    obtain ⟨_, _, _, q⟩ := hs
    exact False.elim q
/-! ### super().__init__("..") -/
abbrev ve : String := "ValueError.__init__"
section
variable {X : Cx} {pins : List (Addr × Obj)} {σ : L2.St} {H : Hp} {s : Shared} {a C u : Addr} {A : Around} {E : Value → Shared → Prop}
theorem call_mw {us : List Value} {Q : Value → Shared → Prop} (T : OexC X.K C) (I : Inv X ((u, PySem.W.kxs_mw ve a) :: pins) σ H s) (e : H a = some (exo a C none)) (hl : us.length ≤ sizeLine) (h : ∀ s', Inv X pins σ H s' → Q .none s') :
    wpAny (model X.prog X.w) A (call (.ref u) us) Q E s := by
  obtain ⟨nm, q, N, bs, bm, sn, sub, ab, col, dd, k0, k1, k2, k3, k5, hC, hbm⟩ := T.cls
  obtain ⟨t1, ho⟩ := exo_at I.hok e
  have hu := ClX.pin_at I
  have I := ClX.unpin I
  obtain ⟨hp, g, d, t, os⟩ := s
  refine wpAny_call (codeAny_of_tree ?_)
  show wpAny _ A.in1 (callAny (.ref u) ⟨us, []⟩) _ _ _
  simp only [callAny]
  refine wpAny_bind (wpAny_load hu ?_)
  simp only [PySem.W.kxs_mw, show (Value.type "method-wrapper" == Value.type "method" || Value.type "method-wrapper" == Value.type "builtin_function_or_method" || Value.type "method-wrapper" == Value.type "method-wrapper") = true by decide, if_true]
  refine PySem.W.KFB.if_so (by decide) ?_
  refine wpAny_bind (PySem.W.check_bound_init PySem.F.excBase_ValueError.toExcCallFacts (I.kIn _ _ hC) ho rfl ?_)
  refine wpAny_bind (wpAny_pure (wpAny_pure ?_))
  refine ⟨plainId_quiet PySem.F.excBase_ValueError.init.plain _, codeAny_builtin PySem.F.excBase_ValueError.initEntry ?_⟩
  refine PySem.W.exc_init_tree (cls := .ref C) (t0 := t1) (dv := none) (c2 := .none) (c3 := .none) (b4 := .bool false) ho hl fun h' k hx _ => ?_
  have J := I.write (t' := t) (x := a) (e := a) (o := exo a C none) (by rw [e]; exact True.intro) (.inl rfl) k ⟨_, hx⟩ (exo_ok hx)
  have eu : upd H a (exo a C none) = H := by
    funext b
    by_cases hb : b = a
    · rw [hb, upd_same, e]
    · rw [upd_ne hb]
  rw [eu] at J
  exact h _ J
end
theorem boot_sup : bootBuiltins "super" = some (.type "super") := by first | rfl | kernel_rfl | decide +kernel
/-- what K says of super() in a def at f, self's class C, the def's class D -/
structure SupF (P : Program) (K : PySem.W.Frag) (f : Addr) (cdv : Value) (cc C D : Addr) (sf : Str) (scope : Scope) : Prop where
  fn : ∃ oc od fd osl ar, K.lookup f = some ⟨oc, od, .func fd, osl⟩ ∧ (fd.params.posonlyargs ++ fd.params.args).head? = some ar ∧ ar.arg = sf
  code : ∃ cda ccl cdd vs ccs file tf, cdv = .ref cda ∧ K.lookup cda = some ⟨ccl, cdd, .fields vs, ccs⟩ ∧ vs[2]? = some (.str file tf) ∧ ((P.main.file : Str) == file) = true
  cell : ∃ cl cld csl, K.lookup cc = some ⟨cl, cld, .cell (some (.ref D)), csl⟩
  cls : ∃ cd, PySem.W.clsIn K D = some cd
  clsC : ∃ cd, PySem.W.clsIn K C = some cd
  sub : PySem.W.mroIn K C (.ref D) = some true
  nos : PySem.W.nsIn K mainGlobals "super" = some none
  stat : PySem.W.nsIn K cStatics "thirdparty.any" = some none
  ini : PySem.W.ks_superIn K C D "__init__" = some (some (.builtin ve))
  veC : PySem.W.subIn K (.ref C) (.type "ValueError") = some true
  selfL : scope.names.lookup sf = some .local
  top : (P.main.scope.names.lookup ("super" : Str)).isSome = false
section
variable {CX : CXT} {P : Program} {w : World} {K : PySem.W.Frag} {mg : Str → Option Value} {base : Heap} {N ps : List Str} {qual : Str} {scope : Scope} {f cc a C D : Addr} {cdv : Value} {A : Around} {outer : List Env} {s0 s : Shared} {H0 H : Hp} {E : XK} {σ : L2.St} {body : List Stmt} {sf z : Str} {j : Nat} {p0 p1 p2 p3 p4 p5 : Pos} {pl : Sem Bool}
theorem at_super (S : SupScope N ps scope) (T : OexC K C) (G : SupF P K f cdv cc C D sf scope) (hN0 : N[0]? = some sf) (I : Inv (cxS CX P w K mg base N qual scope f cdv cc A outer s0 H0 E) [] σ H s) (hσ : σ[0]? = some (some (.ref a))) (e : H a = some (exo a C none))
    (hev : eval (.Call (.Attribute (.Call (.Name "super" p0) [] [] p1) "__init__" p2) [.Constant (.str z) j p3] [] p4) (envS qual scope s0.heap.objs.size f cdv cc) = (do
      let ov ← attributeBase (.Call (.Name "super" p0) [] [] p1) "__init__" (envS qual scope s0.heap.objs.size f cdv cc) (eval (.Call (.Name "super" p0) [] [] p1) (envS qual scope s0.heap.objs.size f cdv cc))
      standAt p2.atName
      let (fx, first) ← holding [ov] (getMethod ov "__init__" pl)
      callWith p4 fx first (backTo p4 (starEach [.Constant (.str z) j p3] (envS qual scope s0.heap.objs.size f cdv cc))) [])) :
    PySem.wpAt (model P w) (A.deeper (envS qual scope s0.heap.objs.size f cdv cc)) (.func body (envS qual scope s0.heap.objs.size f cdv cc))
      (exec (.Expr (.Call (.Attribute (.Call (.Name "super" p0) [] [] p1) "__init__" p2) [.Constant (.str z) j p3] [] p4) p5) (envS qual scope s0.heap.objs.size f cdv cc))
      (fun fl s' => fl = .next ∧ Inv (cxS CX P w K mg base N qual scope f cdv cc A outer s0 H0 E) [] σ H s') (cxS CX P w K mg base N qual scope f cdv cc A outer s0 H0 E).xe s := by
  obtain ⟨oc, od, fd, osl, ar, hf, hp, har⟩ := G.fn
  obtain ⟨cda, ccl, cdd, vs, ccs, file, tf, rfl, hcode, hvs, hfile⟩ := G.code
  obtain ⟨cl, cld, csl, hcell⟩ := G.cell
  obtain ⟨cdD, hD⟩ := G.cls
  obtain ⟨cdC, hCc⟩ := G.clsC
  obtain ⟨t1, ho⟩ := exo_at I.hok e
  have X : K.In s.heap := I.kIn
  obtain ⟨oD, hD1, hD2⟩ : ∃ oD, s.heap.get? D = some oD ∧ oD.data = .cls cdD := by
    unfold PySem.W.clsIn at hD
    split at hD
    · rename_i c d cd' sl ho'
      cases hD
      exact ⟨_, X _ _ ho', rfl⟩
    · cases hD
  obtain ⟨m, hns, look⟩ := I.loc
  have hself : m sf = some (.ref a) := by
    obtain ⟨u, ru, lk⟩ := look 0 sf (.ref a) hN0 hσ (.inl G.selfL)
    obtain rfl : u = Value.ref a := ru
    rcases lk with ⟨_, h⟩ | ⟨h, _⟩
    · exact h
    · rcases h with h | h
      · have h : scope.names.lookup sf = some .cell := h
        rw [G.selfL] at h
        cases h
      · have h : scope.names.lookup sf = some .free := h
        rw [G.selfL] at h
        cases h
  have J : PySem.W.InstAt s.heap a { cls := .ref C, dict := none, data := .fields #[.ref t1, .none, .none, .none, .bool false, .none] } C none := ⟨ho, rfl, rfl, trivial⟩
  obtain ⟨hh, g, d, t, os⟩ := s
  refine PySem.ks_wpAt_Expr_any (hi := by unfold interactive; first | rfl | (simp [S.kind]; done)) ?_
  refine PySem.ks_wpAt_MethodCall (pl := pl) ?_ hev
  refine PySem.ks_wpAt_super_base (env := envS qual scope s0.heap.objs.size f (.ref cda) cc) S.sup S.cls (by decide) rfl (X _ _ hf) rfl hp rfl (X _ _ hcode) rfl hvs hfile G.top ?_
  refine PySem.W.ks_loadName_global S.kind S.sup ?_
  obtain ⟨mb, b1, b2⟩ := I.mod.blt
  refine Calls.loadGlobal_builtin (env := envS qual scope s0.heap.objs.size f (.ref cda) cc) (I.mod.glob.keeps I.bk) (PySem.W.mg_none_of I.mod.kin I.mod.glob G.nos) (b1.keeps I.bk) ((b2 _ (by decide)).trans boot_sup) ⟨rfl, ?_⟩
  refine wpAny_loadName_free S.kind S.cls rfl ⟨_, X _ _ hcell, rfl⟩ ?_
  rw [har]
  refine wpAny_loadName_local S.kind G.selfL hns hself ?_
  refine PySem.ks_wpAny_isType_cls hD1 hD2 ⟨rfl, ?_⟩
  refine PySem.ks_wpAny_call_super hD1 hD2 ho rfl (fun c z => by cases z) (PySem.W.looks_mroIn X G.sub) (fun h1 e1 k1 => ?_)
  have I1 := I.kept (t' := t) k1
  have J1 : PySem.W.InstAt h1 a { cls := .ref C, dict := none, data := .fields #[.ref t1, .none, .none, .none, .bool false, .none] } C none := ⟨k1 _ _ ho, rfl, rfl, trivial⟩
  refine PySem.W.kxs_getMethod PySem.W.kxs_ValueError e1 (PySem.W.looks_opaque I1.kIn G.stat) (l₀ := cdC.mro) ((PySem.W.looks_clsIn I1.kIn hCc).andThen .now) rfl I1.kIn ?_ (J1.type.andThen (PySem.W.looks_subIn I1.kIn G.veC)) (PySem.W.ks_ne I1.kIn J1 hCc) (by decide) ?_
  · have q := G.ini
    unfold PySem.W.ks_superIn at q
    rw [hCc] at q
    exact q
  have I2 : Inv (cxS CX P w K mg base N qual scope f (.ref cda) cc A outer s0 H0 E) [(h1.objs.size, PySem.W.kxs_mw ve a)] σ H ⟨h1.push (PySem.W.kxs_mw ve a), g, d, t + 1, os⟩ :=
    ClX.pin_new I1 (fun _ _ z => Heap.get?_push_of_some _ z) (Nat.le_refl _) (Heap.get?_push_size _ rfl) (fun v z => nomatch z)
  have pa : PA (cxS CX P w K mg base N qual scope f (.ref cda) cc A outer s0 H0 E) [.Constant (.str z) j p3] (tCons (tC (.str z)) tNil) := pa_cons pe_str pa_nil
  refine PySem.W.kxs_callWith (i := ve) (x := a) rfl (Calls.evalArgs_plain (thn (pa.run p4 _ _ σ H (fun vs H1 => vs = [.str z] ∧ H1 = H) I2 ⟨rfl, rfl⟩) fun us s3 hq => ?_))
  obtain ⟨vs', H3, I3, rv, ev, eH⟩ := hq
  subst ev eH
  refine ⟨ClX.pin_at I3, ?_⟩
  refine call_mw (X := cxS CX P w K mg base N qual scope f (.ref cda) cc A outer s0 H0 E) T I3 e ?_ fun s4 I4 => ⟨rfl, I4⟩
  have := rv.length
  simp at this
  simp only [List.nil_append]
  rw [← this, sizeLine_eq]
  decide
end
/-! ### the facts, as Bools -/
def wCell (D : Str) : PySem.W.Frag → Addr := fun K => match K.lookup (He.fAd K (D, some "__init__")) with
  | some ⟨_, _, .func fd, _⟩ => (match fd.closure with
    | (_, c) :: _ => c
    | _ => 0)
  | _ => 0
def fileB (D file : Str) : Ex := fun K => match K.lookup (He.fAd K (D, some "__init__")) with
  | some ⟨_, _, .func fd, _⟩ => (match fd.code with
    | .ref c => (match K.lookup c with
      | some ⟨_, _, .fields vs, _⟩ => (match (vs[2]? : Option Value) with
        | some (.str y _) => decide (y = file)
        | _ => false)
      | _ => false)
    | _ => false)
  | _ => false
theorem fileB_ok {D file : Str} {K : PySem.W.Frag} (h : fileB D file K = true) {oc : Value} {od : Option Addr} {fd : FuncData} {osl : Array (Option Value)} (lk : K.lookup (He.fAd K (D, some "__init__")) = some ⟨oc, od, .func fd, osl⟩) :
    ∃ cda ccl cdd vs ccs tf, fd.code = .ref cda ∧ K.lookup cda = some ⟨ccl, cdd, .fields vs, ccs⟩ ∧ vs[2]? = some (.str file tf) := by
  unfold fileB at h
  rw [lk] at h
  dsimp only at h
  split at h
  · rename_i c hc
    split at h
    · rename_i a b vs sl hl
      split at h
      · rename_i y t hv
        have e := of_decide_eq_true h
        rw [e] at hv
        exact ⟨c, a, b, vs, sl, t, hc, hl, hv⟩
      · cases h
    · cases h
  · cases h
def oexB (K : PySem.W.Frag) (C : Addr) : Bool := (match K.lookup C with
  | some ⟨.type "type", _, .cls cd, sl⟩ => (match cd.mro, sl.toList with
    | .ref C' :: bm, [_, _, _, _, some (.builtin n), _] => C' == C && n == "ValueError.__new__" && !cd.hasDel && cd.hasDict && PySem.HandSPX.refsVE bm
    | _, _ => false)
  | _ => false) && (He.eqO (PySem.W.findIn K (.ref C) "__setattr__") (some (some (.builtin "object.__setattr__"))) && (decide (PySem.W.subIn K (.ref C) (.type "BaseException") = some true) && (decide (PySem.W.typeIn K (.ref C) = some (.type "type")) && PySem.W.keepIn K (.ref C))))
theorem oexB_ok {K : PySem.W.Frag} {C : Addr} (h : oexB K C = true) : OexC K C := by
  obtain ⟨q, h⟩ := He.ba h
  obtain ⟨h1, h⟩ := He.ba h
  obtain ⟨h2, h⟩ := He.ba h
  obtain ⟨h3, h4⟩ := He.ba h
  refine ⟨?_, He.eqO_ok h1, of_decide_eq_true h2, of_decide_eq_true h3, h4⟩
  split at q
  · rename_i dd cd sl ho
    split at q
    · rename_i C' bm k0 k1 k2 k3 n k5 hm hs
      simp only [Bool.and_eq_true, beq_iff_eq, Bool.not_eq_true'] at q
      obtain ⟨⟨⟨⟨rfl, rfl⟩, hdel⟩, hdct⟩, ht⟩ := q
      obtain ⟨nm, bs, mro, ns, qn, hd, sn, sub, ab, col, del⟩ := cd
      dsimp only at hm hdel hdct
      subst hm hdel hdct
      have hsl : sl = #[k0, k1, k2, k3, some (.builtin "ValueError.__new__"), k5] := by
        obtain ⟨l⟩ := sl
        simp only at hs
        rw [hs]
      subst hsl
      exact ⟨nm, qn, ns, bs, bm, sn, sub, ab, col, dd, k0, k1, k2, k3, k5, ho, ht⟩
    · cases q
  · cases q
/-- the class C, whose __init__ is that of D -/
def errB (C D : Str) : Ex := fun K => oexB K (He.ga K C) && ((match K.lookup (wCell D K) with
    | some ⟨_, _, .cell (some (.ref x)), _⟩ => decide (x = He.ga K D)
    | _ => false) && ((PySem.W.clsIn K (He.ga K D)).isSome && ((PySem.W.clsIn K (He.ga K C)).isSome && (decide (PySem.W.mroIn K (He.ga K C) (.ref (He.ga K D)) = some true) && (He.eqO (PySem.W.nsIn K mainGlobals "super") (some none) &&
    (He.eqO (PySem.W.nsIn K cStatics "thirdparty.any") (some none) && (He.eqO (PySem.W.ks_superIn K (He.ga K C) (He.ga K D) "__init__") (some (some (.builtin ve))) && decide (PySem.W.subIn K (.ref (He.ga K C)) (.type "ValueError") = some true))))))))
structure ErrC (K : PySem.W.Frag) (C D : Str) : Prop where
  oex : OexC K (He.ga K C)
  cell : ∃ cl cld csl, K.lookup (wCell D K) = some ⟨cl, cld, .cell (some (.ref (He.ga K D))), csl⟩
  cls : ∃ cd, PySem.W.clsIn K (He.ga K D) = some cd
  clsC : ∃ cd, PySem.W.clsIn K (He.ga K C) = some cd
  sub : PySem.W.mroIn K (He.ga K C) (.ref (He.ga K D)) = some true
  nos : PySem.W.nsIn K mainGlobals "super" = some none
  stat : PySem.W.nsIn K cStatics "thirdparty.any" = some none
  ini : PySem.W.ks_superIn K (He.ga K C) (He.ga K D) "__init__" = some (some (.builtin ve))
  veC : PySem.W.subIn K (.ref (He.ga K C)) (.type "ValueError") = some true
theorem errB_ok {C D : Str} {K : PySem.W.Frag} (h : errB C D K = true) : ErrC K C D := by
  obtain ⟨h1, h⟩ := He.ba h
  obtain ⟨h2, h⟩ := He.ba h
  obtain ⟨h3, h⟩ := He.ba h
  obtain ⟨h4, h⟩ := He.ba h
  obtain ⟨h5, h⟩ := He.ba h
  obtain ⟨h6, h⟩ := He.ba h
  obtain ⟨h7, h⟩ := He.ba h
  obtain ⟨h8, h9⟩ := He.ba h
  refine ⟨oexB_ok h1, ?_, Option.isSome_iff_exists.mp h3, Option.isSome_iff_exists.mp h4, of_decide_eq_true h5, He.eqO_ok h6, He.eqO_ok h7, He.eqO_ok h8, of_decide_eq_true h9⟩
  split at h2
  · rename_i a b x c hl
    have e := of_decide_eq_true h2
    rw [e] at hl
    exact ⟨_, _, _, hl⟩
  · cases h2
/-! ### such an __init__ as a def -/
theorem fn_init {CX : CXT} {P : Program} {w : World} {K : PySem.W.Frag} {mg : Str → Option Value} {base : Heap} {k : Nat} {D x qual file z : Str} {params : Arguments} {rest : List Stmt} {scope : Scope} {fd : FuncData} {N ps : List Str} {sp : Sp} {ar : Arg} {j : Nat} {p0 p1 p2 p3 p4 p5 : Pos} {pl : Sem Bool} {t : TS}
    (F : FunC K x qual params (.Expr (.Call (.Attribute (.Call (.Name "super" p0) [] [] p1) "__init__" p2) [.Constant (.str z) j p3] [] p4) p5 :: rest) scope [("__class__", wCell D K)] (He.fAd K (D, some "__init__")) fd) (S : SupScope N ps scope)
    (hcell : ∃ oc cv, K.lookup (wCell D K) = some oc ∧ oc.data = .cell cv) (hfile : fileB D file K = true) (hPf : ((P.main.file : Str) == file) = true) (hPt : (P.main.scope.names.lookup ("super" : Str)).isSome = false) (hpar : (params.posonlyargs ++ params.args).head? = some ar) (har : N[0]? = some ar.arg) (hloc : scope.names.lookup ar.arg = some .local)
    (len : ∀ vs H Q E, sp vs H Q E → vs.length = ps.length)
    (hsp : ∀ vs H Q E, sp vs H Q E → ∃ a C ws, vs = .ref a :: ws ∧ ErrC K C D ∧ H a = some (exo a (He.ga K C) none) ∧ t { nx := fun _ H' => Q .non H', rt := Q } (L2.start N vs) H)
    (hrest : ∀ (cdv : Value) (A : Around) (outer : List Env) (s : Shared) (H : Hp) (E : XK), PSs (cxS CX P w K mg base N qual scope (He.fAd K (D, some "__init__")) cdv (wCell D K) A outer s H E) rest t)
    (hev : ∀ (L : Addr) (cdv : Value), eval (.Call (.Attribute (.Call (.Name "super" p0) [] [] p1) "__init__" p2) [.Constant (.str z) j p3] [] p4) (envS qual scope L (He.fAd K (D, some "__init__")) cdv (wCell D K)) = (do
      let ov ← attributeBase (.Call (.Name "super" p0) [] [] p1) "__init__" (envS qual scope L (He.fAd K (D, some "__init__")) cdv (wCell D K)) (eval (.Call (.Name "super" p0) [] [] p1) (envS qual scope L (He.fAd K (D, some "__init__")) cdv (wCell D K)))
      standAt p2.atName
      let (fx, first) ← holding [ov] (getMethod ov "__init__" pl)
      callWith p4 fx first (backTo p4 (starEach [.Constant (.str z) j p3] (envS qual scope L (He.fAd K (D, some "__init__")) cdv (wCell D K)))) [])) :
    FnOk P w K mg base CX (k + 1) (He.fAd K (D, some "__init__")) fd ps sp := by
  obtain ⟨oc, cv, hc, hcv⟩ := hcell
  refine fn_ofS F S hc hcv len fun cdv A outer s H vs Q E s1 hr hcd hlk hs I => ?_
  obtain ⟨a, C, ws, rfl, G, e, ht⟩ := hsp _ _ _ _ hs
  obtain ⟨oc1, od1, fd1, osl1, lk, ec, ep⟩ := hlk
  obtain ⟨cda, ccl, cdd, vs1, ccs, tf, hcd1, hl1, hv1⟩ := fileB_ok hfile lk
  have SF : SupF P K (He.fAd K (D, some "__init__")) cdv (wCell D K) (He.ga K C) (He.ga K D) ar.arg scope :=
    ⟨⟨oc1, od1, fd1, osl1, ar, lk, by rw [ep]; exact hpar, rfl⟩, ⟨cda, ccl, cdd, vs1, ccs, file, tf, by rw [← ec]; exact hcd1, hl1, hv1, hPf⟩, G.cell, G.cls, G.clsC, G.sub, G.nos, G.stat, G.ini, G.veC, hloc, hPt⟩
  refine PySem.ks_wpAt_execs_cons (PySem.ks_wpAt_mono (at_super (pl := pl) S G.oex SF har I rfl e (hev _ _)) (fun fl s' hq => ?_) (fun _ _ h => h))
  obtain ⟨rfl, I'⟩ := hq
  exact PySem.wpAt_of_wpAny ((hrest cdv A outer s H E).run [] s' _ H _ I' ht)
/-- one field -/
def spInit1 (K : PySem.W.Frag) (D f : Str) : Sp := fun vs H Q _ => ∃ (a : Addr) (C : Str) (y : V), vs = [.ref a, y] ∧ ErrC K C D ∧ PySem.W.findIn K (.ref (He.ga K C)) f = some none ∧ H a = some (exo a (He.ga K C) none) ∧
  ∀ dx, H dx = none → dx ≠ a → Q .non (upd (upd H dx (exd dx [(f, y)])) a (exo a (He.ga K C) (some dx)))
theorem init1_len {K : PySem.W.Frag} {D f : Str} (vs : List V) (H : Hp) (Q : VK) (E : XK) (h : spInit1 K D f vs H Q E) : vs.length = 2 := by obtain ⟨_, _, _, rfl, _⟩ := h; rfl
theorem init1_sp {K : PySem.W.Frag} {D f : Str} {N : List Str} (hN : N.length = 2) (vs : List V) (H : Hp) (Q : VK) (E : XK) (h : spInit1 K D f vs H Q E) :
    ∃ a C ws, vs = .ref a :: ws ∧ ErrC K C D ∧ H a = some (exo a (He.ga K C) none) ∧ tOst K f (tVar 0) (tVar 1) { nx := fun _ H' => Q .non H', rt := Q } (L2.start N vs) H := by
  obtain ⟨a, C, y, rfl, G, hno, e, k⟩ := h
  exact ⟨a, C, [y], rfl, G, e, y, by simp [L2.start], .ref a, by simp [L2.start], a, _, rfl, G.oex, hno, .inl ⟨e, fun dx h1 h2 => k dx h1 h2⟩⟩
/-- two fields -/
def spInit2 (K : PySem.W.Frag) (D f g : Str) : Sp := fun vs H Q _ => ∃ (a : Addr) (C : Str) (y z : V), vs = [.ref a, y, z] ∧ ErrC K C D ∧ PySem.W.findIn K (.ref (He.ga K C)) f = some none ∧ PySem.W.findIn K (.ref (He.ga K C)) g = some none ∧ H a = some (exo a (He.ga K C) none) ∧
  ∀ dx, H dx = none → dx ≠ a → Q .non (upd (upd (upd H dx (exd dx [(f, y)])) a (exo a (He.ga K C) (some dx))) dx (exd dx [(g, z), (f, y)]))
theorem init2_len {K : PySem.W.Frag} {D f g : Str} (vs : List V) (H : Hp) (Q : VK) (E : XK) (h : spInit2 K D f g vs H Q E) : vs.length = 3 := by obtain ⟨_, _, _, _, rfl, _⟩ := h; rfl
theorem init2_sp {K : PySem.W.Frag} {D f g : Str} {N : List Str} (hN : N.length = 3) (vs : List V) (H : Hp) (Q : VK) (E : XK) (h : spInit2 K D f g vs H Q E) :
    ∃ a C ws, vs = .ref a :: ws ∧ ErrC K C D ∧ H a = some (exo a (He.ga K C) none) ∧ tSeq (tOst K f (tVar 0) (tVar 1)) (tOst K g (tVar 0) (tVar 2)) { nx := fun _ H' => Q .non H', rt := Q } (L2.start N vs) H := by
  obtain ⟨a, C, y, z, rfl, G, hno, hno2, e, k⟩ := h
  refine ⟨a, C, [y, z], rfl, G, e, y, by simp [L2.start], .ref a, by simp [L2.start], a, _, rfl, G.oex, hno, .inl ⟨e, fun dx h1 h2 => ?_⟩⟩
  exact ⟨z, by simp [L2.start], .ref a, by simp [L2.start], a, _, rfl, G.oex, hno2, .inr ⟨dx, [(f, y)], upd_same, by rw [upd_ne h2, upd_same], by simp, k dx h1 h2⟩⟩
/-! ### C(e, ..), an exception whose context is None -/
theorem pmkN {X : Cx} {CX : CXT} {x : Str} {e : Expr} {es : List Expr} {ta : TA} {p pos : Pos} {C fI : Addr} {k j : Nat} {fd : FuncData} {ps : List Str} {sp : Sp} (T : OexC X.K C) (iC : PySem.W.findIn X.K (.ref C) "__init__" = some (some (.ref fI))) (tI : PySem.W.typeIn X.K (.ref fI) = some (.type "function"))
    (F1 : FnOk X.prog X.w X.K X.mg X.base CX k fI fd ps sp) (hr : Room j X.A) (hk : k + 1 ≤ j) (hb : Binds X.K fd ps []) (hx : Passes CX X (fun _ _ _ => False)) (hm : X.mg x = some (.ref C)) (ha : PA X (e :: es) ta) (hg : Gl X x := by rfl)
    (hdb : (x == ("__debug__" : Str)) = false := by decide) (he : starEach (e :: es) X.env = (false, eval e X.env) :: starEach es X.env := by rfl) (hpl : (backTo pos (starEach es X.env)).any (·.1) = false := by rfl) :
    L2N.PMk X (.Call (.Name x p) (e :: es) [] pos) (tMkO C sp [] ta) := by
  intro pins s σ H Q I h
  obtain ⟨nm, q, N, bs, bm, sn, sub, ab, col, dd, k0, k1, k2, k3, k5, hC, hbm⟩ := T.cls
  refine wpAny_Call_Name_kw (ld_glob I hg hm ?_ hdb)
  refine PySem.W.callWith_K (h₀ := X.base) I.ok.mod.kin T.kC (thn (ha.run pos pins s σ H _ I h) fun us s1 ⟨vs, H1, I1, r1, hz, q1⟩ => ⟨I1.kIn, ?_⟩) he hpl
  show wpAny _ _ (call (.ref C) us) _ _ _
  obtain ⟨hp, g, dr, tk, os⟩ := s1
  have hsz : hp.objs.size ≤ hp.objs.size + 1 := Nat.le_succ _
  have hn : H1 (hp.objs.size + 1) = none := I1.hok.fresh hsz
  have hq := q1 (hp.objs.size + 1) hn
  rw [List.append_nil] at hq
  have kk : ∀ b o, hp.get? b = some o → ((hp.push (PySem.W.kdv_tup us)).push (PySem.HandSPX.excO C hp.objs.size)).get? b = some o := fun b o e => Heap.get?_push_of_some _ (Heap.get?_push_of_some _ e)
  have hget : ((hp.push (PySem.W.kdv_tup us)).push (PySem.HandSPX.excO C hp.objs.size)).get? (hp.objs.size + 1) = some (PySem.HandSPX.excO C hp.objs.size) := by heap_get
  have I2 : Inv X pins σ (upd H1 (hp.objs.size + 1) (exo (hp.objs.size + 1) C none)) ⟨(hp.push (PySem.W.kdv_tup us)).push (PySem.HandSPX.excO C hp.objs.size), g, dr, tk, os⟩ :=
    I1.laid (t' := tk) (a := hp.objs.size + 1) (o := exo (hp.objs.size + 1) C none) (h' := (hp.push (PySem.W.kdv_tup us)).push (PySem.HandSPX.excO C hp.objs.size)) kk hsz (exo_ok hget)
  have r2 : Vals (V.ref (hp.objs.size + 1) :: vs) (Value.ref (hp.objs.size + 1) :: us) := .cons rfl r1
  have hl : (Value.ref (hp.objs.size + 1) :: us ++ []).length = ps.length := by
    have e := r2.length
    rw [F1.len _ _ _ _ hq] at e
    rw [List.append_nil]
    exact e.symm
  have hus : us.length ≤ sizeLine := by
    rw [← Paired.length r1, sizeLine_eq]
    omega
  have b2 := hb _ (Value.ref (hp.objs.size + 1) :: us) I2.kIn hl
  rw [List.append_nil] at b2
  refine wpAny_call (PySem.HandSPX.call_own F.excBase_ValueError (fun Y => PySem.HandSPX.refsVE_contains Y bm hbm) (I1.kIn _ _ hC) (PySem.W.looks_findIn I1.kIn iC) (fun self => PySem.W.bind_fn I1.kIn self tI) hus
    (codeAny_mono (F1.run _ X.stack _ _ ⟨Value.ref (hp.objs.size + 1) :: us, []⟩ (Value.ref (hp.objs.size + 1) :: us) _ _ (fun _ _ _ => False) ((hr.mono hk).make C us []) (I2.env0.make C us []) b2 r2 hq) fun r s' hq' => ?_))
  cases r with
  | error er => exact hx pins σ _ _ er s' I2 hq'
  | ok fl =>
    cases fl with
    | ret u =>
      obtain ⟨v, H2, os2, bare2, un2, hok2, rv, ev, d, fs, ea, ed, hd1, q2⟩ := hq'
      subst ev
      obtain ⟨h2, g2, d2, t2, os'⟩ := s'
      obtain ⟨t0, G, J, kG, ge, hoe, na⟩ := mk_end0 (d2 := d2) (t2 := t2) I1 hsz kk un2 hok2 os2 bare2 ea ed hd1
      refine ⟨rv, ⟨hp.objs.size + 1, _, _, ⟨G, g2, d2, t2, os'⟩, _, .ref C, some d, rfl, J, kG, ge, hoe, ⟨rfl, rfl, fun vs hv => ?_⟩, rfl, rfl, na, rfl, bare2, raises_own T.exC T.tyC, q2⟩⟩
      cases hv
      rfl
    | next => exact False.elim hq'
    | brk => exact False.elim hq'
    | cont => exact False.elim hq'
/-! ### raise C(e), one field -/
structure ErrK (P : Program) (w : World) (K : PySem.W.Frag) (mg : Str → Option Value) (base : Heap) (k : Nat) (C D f : Str) : Prop where
  err : ErrC K C D
  hno : PySem.W.findIn K (.ref (He.ga K C)) f = some none
  iC : PySem.W.findIn K (.ref (He.ga K C)) "__init__" = some (some (.ref (He.fAd K (D, some "__init__"))))
  tI : PySem.W.typeIn K (.ref (He.fAd K (D, some "__init__"))) = some (.type "function")
  gl : mg C = some (.ref (He.ga K C))
  fn : ∃ fd ps, FnOk P w K mg base CX0 k (He.fAd K (D, some "__init__")) fd ps (spInit1 K D f) ∧ Binds K fd ps []
def RaiseG (K : PySem.W.Frag) (C D f : Str) (σ : L2.St) (W : WX) (y : V) (H1 : Hp) : Prop := ([y] : List V).length ≤ 1000 ∧ ∀ a, H1 a = none → spInit1 K D f (.ref a :: ([y] ++ [])) (upd H1 a (exo a (He.ga K C) none))
  (fun v H2 => v = .non ∧ ∃ (d : Addr) (fs : List (Str × V)), H2 a = some (exo a (He.ga K C) (some d)) ∧ H2 d = some (exd d fs) ∧ H1 d = none ∧ W (.ref (He.ga K C)) (some d) σ (upd (del H2 a) d (.xd fs))) (fun _ _ _ => False)
def tRaise1 (K : PySem.W.Frag) (C D f : Str) (W : WX) (te : TE) : TS := fun _ σ H => te σ H fun y H1 => RaiseG K C D f σ W y H1
abbrev WF (E : XK) : WX := fun cls d _ H => E cls d H
theorem g_rs {K : PySem.W.Frag} {C D f : Str} {W : WX} {te : TE} {De : Ends} {σ : L2.St} {H : Hp} (h : te σ H fun y H1 => RaiseG K C D f σ W y H1) : tRaise1 K C D f W te De σ H := h
theorem ps_raise1 {X : Cx} {W : WX} {C D f : Str} {k j : Nat} {e : Expr} {te : TE} {p pos pos' : Pos} (T : ErrK X.prog X.w X.K X.mg X.base k C D f) (hc : X.calm = true) (tk : L2N.Takes X W) (hr : Room j X.A) (hk : k + 1 ≤ j) (he : PE X e te)
    (hg : Gl X C := by rfl) (hdb : (C == ("__debug__" : Str)) = false := by decide) (hs : starEach [e] X.env = (false, eval e X.env) :: starEach [] X.env := by rfl) (hpl : (backTo pos (starEach [] X.env)).any (·.1) = false := by rfl) :
    PS X (.Raise (some (.Call (.Name C p) [e] [] pos)) none pos') (tRaise1 X.K C D f W te) := by
  obtain ⟨fd, ps, F, hb⟩ := T.fn
  have base := L2N.ps_raise (pos := pos') hc tk (pmkN (p := p) (pos := pos) T.err.oex T.iC T.tI F hr hk hb (fun _ _ _ _ _ _ _ h => h.elim) T.gl (pa_cons he pa_nil hs) hg hdb hs hpl)
  exact ⟨fun pins s σ H D I h => base.run pins s σ H D I h⟩
theorem g_raise1 {K : PySem.W.Frag} {C D f : Str} {σ : L2.St} {W : WX} {y : V} {H1 : Hp} (G : ErrC K C D) (hno : PySem.W.findIn K (.ref (He.ga K C)) f = some none)
    (k : ∀ d H2, H1 d = none → Ext H1 H2 → H2 d = some (.xd [(f, y)]) → W (.ref (He.ga K C)) (some d) σ H2) : RaiseG K C D f σ W y H1 := by
  refine ⟨by simp, fun a ha => ⟨a, C, y, rfl, G, hno, upd_same, fun dx hd hda => ⟨rfl, dx, [(f, y)], upd_same, ?_, ?_, ?_⟩⟩⟩
  · rw [upd_ne hda, upd_same]
  · rw [upd_ne hda] at hd
    exact hd
  · rw [upd_ne hda] at hd
    have e : upd (del (upd (upd (upd H1 a (exo a (He.ga K C) none)) dx (exd dx [(f, y)])) a (exo a (He.ga K C) (some dx))) a) dx (.xd [(f, y)]) = upd H1 dx (.xd [(f, y)]) := by
      funext b
      by_cases h1 : b = dx
      · rw [h1, upd_same, upd_same]
      · rw [upd_ne h1, upd_ne h1]
        by_cases h2 : b = a
        · rw [h2, del_same, ha]
        · rw [del_ne h2, upd_ne h2, upd_ne h1, upd_ne h2]
    rw [e]
    exact k dx _ hd (Chg.new hd _) upd_same
/-- all that raise C(e) wants of K -/
def errM (C D f file : Str) : Ex := fun K => errB C D K && (He.eqO (PySem.W.findIn K (.ref (He.ga K C)) f) (some none) && (He.eqO (PySem.W.findIn K (.ref (He.ga K C)) "__init__") (some (some (.ref (He.fAd K (D, some "__init__"))))) &&
  (decide (PySem.W.typeIn K (.ref (He.fAd K (D, some "__init__"))) = some (.type "function")) && fileB D file K)))
theorem errM_ok {C D f file : Str} {K : PySem.W.Frag} (h : errM C D f file K = true) : ErrC K C D ∧ PySem.W.findIn K (.ref (He.ga K C)) f = some none ∧ PySem.W.findIn K (.ref (He.ga K C)) "__init__" = some (some (.ref (He.fAd K (D, some "__init__")))) ∧
    PySem.W.typeIn K (.ref (He.fAd K (D, some "__init__"))) = some (.type "function") ∧ fileB D file K = true := by
  obtain ⟨h1, h⟩ := He.ba h
  obtain ⟨h2, h⟩ := He.ba h
  obtain ⟨h3, h⟩ := He.ba h
  obtain ⟨h4, h5⟩ := He.ba h
  exact ⟨errB_ok h1, He.eqO_ok h2, He.eqO_ok h3, of_decide_eq_true h4, h5⟩
theorem FunC.bindsN {K : PySem.W.Frag} {x qual : Str} {params : Arguments} {body : List Stmt} {scope : Scope} {cl : List (Str × Addr)} {f : Addr} {fd : FuncData} {ps : List Str} (F : FunC K x qual params body scope cl f fd)
    (h : ∀ (kV doc pm : Value) (an : Option Addr) (cdv ct : Value) (us : List Value), us.length = ps.length → bindArgs { PySem.W.fnOf x qual params body scope .none kV doc pm an cdv ct with closure := cl } ⟨us, []⟩ = pure (ps.zip us)) : L2.Binds K fd ps [] := by
  obtain ⟨oc, od, kV, doc, pm, an, cdv, ct, osl, rfl, lk, hcd⟩ := F.ex
  exact .all (h kV doc pm an cdv ct)
theorem ErrC.cellAt {K : PySem.W.Frag} {C D : Str} (G : ErrC K C D) : ∃ oc cv, K.lookup (wCell D K) = some oc ∧ oc.data = .cell cv := by
  obtain ⟨cl, cld, csl, h⟩ := G.cell
  exact ⟨_, _, h, rfl⟩
end My

/-! Sup2: isinstance of a caught error that has fields (after HandS.ExcIs, which serves errors without a dict). -/
namespace PySem.W
open PySem PySem.Spec PySem.Calls PyProof.Rows
section
variable {prog : Program} {w : World} {A : Around} {E : Value → Shared → Prop} {s : Shared} {K : Frag} {x D : Addr} {ox : Obj} {odx : Option Obj}
theorem my_data {C : Addr} {name : Str} {a g : Value} (hc : (clsIn K C).isSome = true) (ha : findIn K (.ref C) name = some (some a)) (hg : specialIn K a "__get__" = some (some g)) (ht : takesIn K a = some true) : findObj K C odx name = some (.bind g a) := by
  obtain ⟨cd, hc⟩ := Option.isSome_iff_exists.mp hc
  unfold findObj
  rw [hc, Option.bind_some, ha, Option.bind_some]
  simp [hg, ht]
theorem my_class {Q : Option Value → Shared → Prop} (hga : findIn K (.ref D) "__getattribute__" = some (some (.builtin "BaseException.__getattribute__"))) (hgt : findIn K (.ref D) "__getattr__" = some none) (hsub : subIn K (.ref D) (.type "BaseException") = some true)
    (hdct : hasDictIn K D = true) (ha : findIn K (.ref D) "__class__" = some (some (.builtin "object.__class__")))
    (hn : specialIn K (.builtin "object.__class__") "__get__" = some (some (.builtin "getset_descriptor.__get__"))) (htk : takesIn K (.builtin "object.__class__") = some true) (hm : mroIn K D (.type "object") = some true)
    (X : K.In s.heap) (I : InstAt s.heap x ox D odx) (h : Q (some (.ref D)) { s with toks := s.toks + 1 }) : wpAny (model prog w) A (getAttr? (.ref x) "__class__") Q E s := by
  have hf : findObj K D odx "__class__" = some (.bind (.builtin "getset_descriptor.__get__") (.builtin "object.__class__")) := my_data (by obtain ⟨cd, hc, _⟩ := any_some hdct; rw [hc]; rfl) ha hn htk
  obtain ⟨hp, g, d, t, os⟩ := s
  have L0 := I.type (M := model prog w)
  have L3 := looks_find (M := model prog w) X I hf
  have sub : Looks (model prog w) hp (isInstance (.ref x) (.type "BaseException")) true := L0.andThen (looks_subIn X hsub)
  have hx2 : (Value.builtin "BaseException.__getattribute__" == Value.builtin "object.__getattribute__") = false := by decide +kernel
  have hx1 : (onTheHeap (Value.ref D) && Value.builtin "BaseException.__getattribute__" == Value.builtin "object.__getattribute__") = false := by rw [hx2]; rfl
  unfold getAttr? getAttrBy? getAttrBy
  refine wpAny_bind (wpAny_mkText (wpAny_bind (wpAny_attempt (wpAny_holding (wpAny_bind (L0.at (wpAny_bind ((looks_findIn (M := model prog w) X hga).at ?_))))))))
  show wpAny _ _ (if (onTheHeap (Value.ref D) && Value.builtin "BaseException.__getattribute__" == Value.builtin "object.__getattribute__") = true then _ else _) _ _ _
  rw [hx1, if_neg Bool.false_ne_true]
  unfold getAttrByItsOwn hookBefore
  refine wpAny_bind ?_
  rw [if_pos (show onTheHeap (Value.ref D) = true from rfl)]
  refine (looks_findIn (M := model prog w) X hgt).at ?_
  refine wpAny_bind (wpAny_attempt (wpAny_holding ?_))
  unfold callGetattribute
  rw [show (false && onTheHeap (Value.builtin "BaseException.__getattribute__")) = false from rfl, if_neg Bool.false_ne_true]
  unfold boundAndCalled
  rw [PySem.F.excAttr_ValueError.ga.bind (.ref x)]
  refine wpAny_bind (wpAny_pure ?_)
  show wpAny _ _ (call (.builtin "BaseException.__getattribute__") [.ref x, .str "__class__" t]) _ _ _
  refine wpAny_call (codeAny_call_builtin PySem.F.excAttr_ValueError.ga.plain PySem.F.entry_bexc_ga ?_)
  refine @check_slot (model prog w) _ _ ⟨hp, g, d, t + 1, os⟩ "BaseException.__getattribute__" "BaseException" "__getattribute__" (.ref x) [.str "__class__" t] [] _ (by decide +kernel) (by decide +kernel) sub (PySem.F.args_bexc_ga (.ref x) (.str "__class__" t)) ?_
  unfold Builtin.«object.__getattribute__»
  refine wpAny_bind (wpAny_of_eq (a := ((Value.ref x : Value), [Value.str "__class__" t])) (by first | rfl | (simp only [slotArgs]; rfl)) ?_)
  refine wpAny_bind (wpAny_pure (wpAny_bind (L0.at (wpAny_bind (L3.at ?_)))))
  show wpAny _ _ (holding [Value.builtin "object.__class__"] (call (.builtin "getset_descriptor.__get__") [.builtin "object.__class__", .ref x, .ref D]) >>= ret) _ _ _
  refine wpAny_bind (wpAny_holding (wpAny_call (class_get (s := ⟨hp, g, d, t + 1, os⟩) (ox := ox) (od := odx) X I hm ?_)))
  refine wpAny_pure ?_
  show wpAny _ _ (handedOut (.ref D)) _ _ _
  rw [handedOut_of (v := .ref D) rfl]
  first
    | exact wpAny_pure (wpAny_pure h)
    | exact wpAny_pure h
    | exact wpAny_pure (wpAny_bind (wpAny_pure (wpAny_pure h)))
theorem my_kitx (hga : findIn K (.ref D) "__getattribute__" = some (some (.builtin "BaseException.__getattribute__"))) (hgt : findIn K (.ref D) "__getattr__" = some none) (hsub : subIn K (.ref D) (.type "BaseException") = some true) (hdct : hasDictIn K D = true) (ha : findIn K (.ref D) "__class__" = some (some (.builtin "object.__class__")))
    (hn : specialIn K (.builtin "object.__class__") "__get__" = some (some (.builtin "getset_descriptor.__get__"))) (htk : takesIn K (.builtin "object.__class__") = some true) (hm : mroIn K D (.type "object") = some true) :
    KitX K (.ref x) (.ref D) (fun h => InstAt h x ox D odx) where
  ty := fun _ _ _ I => I.type
  it := fun _ _ X _ => by
    obtain ⟨cdD, hcD, _⟩ := any_some hdct
    unfold clsIn at hcD
    split at hcD
    · rename_i c' d' cd' sl' ho
      intro A' Q' E' s' k q
      unfold isType loadHead
      exact wpAny_bind (wpAny_loadPart (k _ _ (X _ _ ho)) (wpAny_pure q))
    · cases hcD
  ne := (handS_kitx_exc (x := x) (ox := ox) hga hgt hsub hdct ha hn htk hm).ne
  ca := fun X I k => my_class hga hgt hsub hdct ha hn htk hm X I k
end
end PySem.W
namespace My
open PySem PySem.Spec PyProof.Rows L2
/-- isinstance(e, c), e the exception that the suite holds, with fields -/
def rIsD (K : PySem.W.Frag) (cls : Value) (d : Option Addr) (a : Addr) : List V → Hp → VK → Prop := fun xs H Q => ∃ (D : Addr) (c : V) (cv : Value) (b : Bool) (dd : Addr) (fs : List (Str × V)), cls = .ref D ∧ d = some dd ∧ H dd = some (.xd fs) ∧ ExcC K D ∧ xs = [.ref a, c] ∧ (∀ u, RelV c u → u = cv) ∧ PySem.W.kitOne K (.ref D) cv = some b ∧ Q (.bl b) H
theorem call_isD {X : Cx} {a : Addr} {oe : Obj} {cls : Value} {d : Option Addr} {pn : List (Addr × Obj)} (hz : Zc cls d oe) (hf : ∃ vs, oe.data = .fields vs) : CallR (X.suite a ((a, oe) :: pn)) (.builtin "isinstance") (rIsD X.K cls d a) := by
  intro pins s σ H xs us Q I r h
  obtain ⟨D, c, cv, b, dd, fs, rfl, rfl, hd, C, rfl, hcv, e, q⟩ := h
  cases r with
  | cons rx rr =>
    cases rr with
    | cons rt rr =>
      cases rr
      cases rx
      have ec := hcv _ rt
      subst ec
      obtain ⟨hget, _⟩ := I.pin (a, oe) (List.mem_append.mpr (.inl List.mem_cons_self))
      obtain ⟨vs, hv⟩ := hf
      have hx : ObjOk X.prog X.w H s.heap dd (.xd fs) := I.hok dd _ hd
      obtain ⟨mA, hns, hr⟩ := hx
      obtain ⟨od, ho, hl⟩ := lookIn_ns hns
      have J : PySem.W.InstAt s.heap a oe D (some od) := ⟨hget, hz.1, by unfold PySem.W.notCls; rw [hv] <;> rfl, by rw [hz.2]; exact ho⟩
      exact PySem.W.kia_one (PySem.W.my_kitx C.hg C.hk C.hs C.hd C.ha C.hn C.ht C.hm) I.kIn J e (fun z => nomatch z) fun tk => ⟨.bl b, H, I.kept (t' := tk) fun _ _ z => z, rfl, q⟩
/-! ### try: body, except T as e: suite -/
theorem takesN {X : Cx} : L2N.Takes X (fun _ _ _ _ => False) := fun _ _ x => by
  obtain ⟨_, _, _, _, _, _, _, _, _, _, _, _, _, _, _, _, z⟩ := x
  exact z.elim
def tTry (K : PySem.W.Frag) (c : Value) (i : Nat) (tb : WX → TS) (ts : Addr → Value → Option Addr → TS) : TS := fun D σ H => tb (wAs K c i ts (fun _ _ _ _ => False) D) D σ H
theorem g_try {K : PySem.W.Frag} {c : Value} {i : Nat} {tb : WX → TS} {ts : Addr → Value → Option Addr → TS} {D : Ends} {σ : L2.St} {H : Hp} (h : tb (wAs K c i ts (fun _ _ _ _ => False) D) D σ H) : tTry K c i tb ts D σ H := h
section
variable {X : Cx} {CX : CXT} {k j : Nat} {x : Str} {sp : Sp} {E : L2.St → XK} {e : Expr} {es : List Expr} {t : TA} {p pos : Pos}
theorem pe_clS (c : Cl X.prog X.w X.K X.mg X.base CX k x sp) (hr : Room j X.A) (hk : k ≤ j) (hx : ∀ σ, PassesAt CX X σ (E σ)) (ha : PA X (e :: es) t) (hg : Gl X x := by rfl) (hdb : (x == ("__debug__" : Str)) = false := by decide)
    (he : starEach (e :: es) X.env = (false, eval e X.env) :: starEach es X.env := by rfl) (hpl : (backTo pos (starEach es X.env)).any (·.1) = false := by rfl) : PE X (.Call (.Name x p) (e :: es) [] pos) (tCallS sp E t) := by
  obtain ⟨f, fd, ps, F, hm, hk2, hb⟩ := c.ex
  exact pe_callS F (hr.mono hk) hg hm hk2 hb hx ha hdb he hpl
theorem g_callS {QV : VK} {σ : L2.St} {H : Hp} (h : t σ H fun vs H1 => sp vs H1 QV (E σ)) : tCallS sp E t σ H QV := h
end
/-! ### facts of error classes, as Bools -/
def excE (C : Str) : Ex := fun K => xfB K (He.ga K C) && (He.eqO (PySem.W.findIn K (.ref (He.ga K C)) "__class__") (some (some (.builtin "object.__class__"))) && (He.eqO (PySem.W.specialIn K (.builtin "object.__class__") "__get__") (some (some (.builtin "getset_descriptor.__get__"))) &&
  (decide (PySem.W.takesIn K (.builtin "object.__class__") = some true) && decide (PySem.W.mroIn K (He.ga K C) (.type "object") = some true))))
theorem excE_ok {C : Str} {K : PySem.W.Frag} (h : excE C K = true) : ExcC K (He.ga K C) ∧ XfC K (He.ga K C) := by
  obtain ⟨h1, h⟩ := He.ba h
  obtain ⟨h2, h⟩ := He.ba h
  obtain ⟨h3, h⟩ := He.ba h
  obtain ⟨h4, h5⟩ := He.ba h
  have x := xfB_ok h1
  exact ⟨⟨x.ga, x.gg, x.exC, x.hdC, He.eqO_ok h2, He.eqO_ok h3, of_decide_eq_true h4, of_decide_eq_true h5⟩, x⟩
def kitE (C T : Str) (b : Bool) : Ex := fun K => decide (PySem.W.kitOne K (.ref (He.ga K C)) (.ref (He.ga K T)) = some b)
theorem kitE_ok {C T : Str} {b : Bool} {K : PySem.W.Frag} (h : kitE C T b K = true) : PySem.W.kitOne K (.ref (He.ga K C)) (.ref (He.ga K T)) = some b := of_decide_eq_true h
def kitT (C : Str) (T : String) (b : Bool) : Ex := fun K => decide (PySem.W.kitOne K (.ref (He.ga K C)) (.type T) = some b)
theorem kitT_ok {C : Str} {T : String} {b : Bool} {K : PySem.W.Frag} (h : kitT C T b K = true) : PySem.W.kitOne K (.ref (He.ga K C)) (.type T) = some b := of_decide_eq_true h
def exmE (C T : Str) (b : Bool) : Ex := fun K => decide (PySem.W.exmOne K (.ref (He.ga K C)) (.ref (He.ga K T)) = some b)
theorem exmE_ok {C T : Str} {b : Bool} {K : PySem.W.Frag} (h : exmE C T b K = true) : PySem.W.exmOne K (.ref (He.ga K C)) (.ref (He.ga K T)) = some b := of_decide_eq_true h
theorem g_xf {a : Addr} {cls : Value} {d : Option Addr} {C : Addr} {f : Str} {te : TE} {σ : L2.St} {H : Hp} {Q : VK} (h : te σ H fun x H1 => x = .ref a ∧ cls = .ref C ∧ ∃ (dd : Addr) (fs : List (Str × V)) (v : V), d = some dd ∧ H1 dd = some (.xd fs) ∧ fs.lookup f = some v ∧ Q v H1) : tXf a cls d C f te σ H Q := h
end My

/-! Ab: the readings once more over plain data. Tuples are values (A.tup), what changes stands in a memory AM; a reading over these (same names, namespace My.Ab) gives the reading over the heap (Rf). -/
namespace My
open PySem PySem.Spec PyProof.Rows L2
inductive A where
  | non | bl (b : Bool) | int (i : Int) | str (s : Str) | ref (a : Addr) | ty (t : String) | tup (as : List A)
mutual
def RV (H : Hp) : A → V → Prop
  | .non, v => v = .non
  | .bl b, v => v = .bl b
  | .int i, v => v = .int i
  | .str s, v => v = .str s
  | .ref a, v => v = .ref a
  | .ty t, v => v = .ty t
  | .tup as, v => ∃ a vs, v = .ref a ∧ H a = some (.tup vs) ∧ RL H as vs
def RL (H : Hp) : List A → List V → Prop
  | [], vs => vs = []
  | d :: ds, vs => ∃ x xs, vs = x :: xs ∧ RV H d x ∧ RL H ds xs
end
/-- tuples stay -/
def Tp (H H' : Hp) : Prop := ∀ b xs, H b = some (.tup xs) → H' b = some (.tup xs)
inductive AO where
  | lst (as : List A) | draws | dK (kvs : List (Key × A)) | ins (C : Addr) (fs : List (Str × A)) | xd (fs : List (Str × A)) | fz (u : HO) (kvs : List (Key × A))
abbrev AM := Addr → Option AO
def aupd (M : AM) (a : Addr) (o : AO) : AM := fun b => if b = a then some o else M b
section
variable {K : PySem.W.Frag} {H H' H1 H2 : Hp} {a b p l : Addr} {v : V} {xs vs : List V} {M M' : AM} {o o' : AO}
theorem aupd_same : aupd M a o a = some o := by unfold aupd; rw [if_pos rfl]
theorem aupd_ne (h : b ≠ a) : aupd M a o b = M b := by unfold aupd; rw [if_neg h]
theorem aupd_twice : aupd (aupd M a o) a o' = aupd M a o' := by funext b; unfold aupd; by_cases h : b = a <;> simp [h]
theorem ne_of_anone (h : M b = some o) (k : M a = none) : b ≠ a := fun z => by rw [z, k] at h; cases h
theorem Tp.refl (H : Hp) : Tp H H := fun _ _ h => h
theorem Tp.trans (c : Tp H H1) (e : Tp H1 H2) : Tp H H2 := fun b xs h => e b xs (c b xs h)
theorem Tp.new (h : H p = none) (o : HO) : Tp H (upd H p o) := fun b u q => by rw [upd_ne (ne_of_none q h)]; exact q
theorem Tp.set {u : HO} (h : H l = some u) (nt : ∀ xs, u ≠ .tup xs) (o : HO) : Tp H (upd H l o) := fun b w q => by
  rw [upd_ne (fun z => by subst z; rw [h] at q; exact nt w (Option.some.inj q))]
  exact q
theorem Tp.of {S : List Addr} (c : Chg S H H') : Tp H H' := c.tp
mutual
theorem RV.up (c : Tp H H') : ∀ {d : A} {v : V}, RV H d v → RV H' d v
  | .non, v, h => by simpa only [RV] using h
  | .bl b, v, h => by simpa only [RV] using h
  | .int i, v, h => by simpa only [RV] using h
  | .str s, v, h => by simpa only [RV] using h
  | .ref s, v, h => by simpa only [RV] using h
  | .ty s, v, h => by simpa only [RV] using h
  | .tup ds, v, h => by
    simp only [RV] at h ⊢
    obtain ⟨a, vs, e, h1, h2⟩ := h
    exact ⟨a, vs, e, c _ _ h1, RL.up c h2⟩
theorem RL.up (c : Tp H H') : ∀ {ds : List A} {vs : List V}, RL H ds vs → RL H' ds vs
  | [], vs, h => by simpa only [RL] using h
  | d :: ds, vs, h => by
    simp only [RL] at h ⊢
    obtain ⟨x, xs, e, h1, h2⟩ := h
    exact ⟨x, xs, e, RV.up c h1, RL.up c h2⟩
end
theorem RV.non_iff : RV H .non v ↔ v = .non := by simp only [RV]
theorem RV.bl_iff {i : Bool} : RV H (.bl i) v ↔ v = .bl i := by simp only [RV]
theorem RV.int_iff {i : Int} : RV H (.int i) v ↔ v = .int i := by simp only [RV]
theorem RV.str_iff {i : Str} : RV H (.str i) v ↔ v = .str i := by simp only [RV]
theorem RV.ref_iff {i : Addr} : RV H (.ref i) v ↔ v = .ref i := by simp only [RV]
theorem RV.ty_iff {i : String} : RV H (.ty i) v ↔ v = .ty i := by simp only [RV]
theorem RV.tup_iff {ds : List A} : RV H (.tup ds) v ↔ ∃ a vs, v = .ref a ∧ H a = some (.tup vs) ∧ RL H ds vs := by simp only [RV]
theorem RL.nil_iff {vs : List V} : RL H [] vs ↔ vs = [] := by simp only [RL]
theorem RL.cons_iff {d : A} {ds : List A} {vs : List V} : RL H (d :: ds) vs ↔ ∃ x xs, vs = x :: xs ∧ RV H d x ∧ RL H ds xs := by simp only [RL]
theorem RL.nil : RL H [] [] := by simp only [RL]
theorem RL.cons {d : A} {ds : List A} {v : V} {vs : List V} (h : RV H d v) (t : RL H ds vs) : RL H (d :: ds) (v :: vs) := by simp only [RL]; exact ⟨v, vs, rfl, h, t⟩
theorem RL.one {d : A} {v : V} (h : RV H d v) : RL H [d] [v] := RL.cons h RL.nil
theorem RL.length : ∀ {ds : List A} {vs : List V}, RL H ds vs → vs.length = ds.length
  | [], vs, h => by rw [RL.nil_iff] at h; subst h; rfl
  | d :: ds, vs, h => by
    rw [RL.cons_iff] at h
    obtain ⟨x, xs, rfl, _, h2⟩ := h
    simp [RL.length h2]
theorem RL.append : ∀ {ds es : List A} {vs ws : List V}, RL H ds vs → RL H es ws → RL H (ds ++ es) (vs ++ ws)
  | [], es, vs, ws, h, k => by rw [RL.nil_iff] at h; subst h; exact k
  | d :: ds, es, vs, ws, h, k => by
    rw [RL.cons_iff] at h
    obtain ⟨x, xs, rfl, h1, h2⟩ := h
    exact RL.cons h1 (RL.append h2 k)
theorem RL.get' : ∀ {ds : List A} {vs : List V} {i : Nat} {d : A}, RL H ds vs → ds[i]? = some d → ∃ v, vs[i]? = some v ∧ RV H d v
  | [], vs, i, v, h, e => by simp at e
  | d :: ds, vs, i, d', h, e => by
    rw [RL.cons_iff] at h
    obtain ⟨x, xs, rfl, h1, h2⟩ := h
    cases i with
    | zero => simp at e; subst e; exact ⟨x, rfl, h1⟩
    | succ i => simp at e; obtain ⟨v, q, k⟩ := RL.get' h2 e; exact ⟨v, by simpa using q, k⟩
theorem RL.get : ∀ {ds : List A} {vs : List V} {i : Nat} {v : V}, RL H ds vs → vs[i]? = some v → ∃ d, ds[i]? = some d ∧ RV H d v
  | [], vs, i, v, h, e => by rw [RL.nil_iff] at h; subst h; simp at e
  | d :: ds, vs, i, v, h, e => by
    rw [RL.cons_iff] at h
    obtain ⟨x, xs, rfl, h1, h2⟩ := h
    cases i with
    | zero => simp at e; subst e; exact ⟨d, rfl, h1⟩
    | succ i => simp at e; obtain ⟨d', q, k⟩ := RL.get h2 e; exact ⟨d', by simpa using q, k⟩
theorem RL.drop : ∀ {ds : List A} {vs : List V} (n : Nat), RL H ds vs → RL H (ds.drop n) (vs.drop n)
  | ds, vs, 0, h => h
  | [], vs, n + 1, h => by rw [RL.nil_iff] at h; subst h; exact RL.nil
  | d :: ds, vs, n + 1, h => by
    rw [RL.cons_iff] at h
    obtain ⟨x, xs, rfl, h1, h2⟩ := h
    exact RL.drop n h2
theorem RL.take : ∀ {ds : List A} {vs : List V} (n : Nat), RL H ds vs → RL H (ds.take n) (vs.take n)
  | ds, vs, 0, h => by rw [List.take_zero, List.take_zero]; exact RL.nil
  | [], vs, n + 1, h => by rw [RL.nil_iff] at h; subst h; exact RL.nil
  | d :: ds, vs, n + 1, h => by
    rw [RL.cons_iff] at h
    obtain ⟨x, xs, rfl, h1, h2⟩ := h
    exact RL.cons h1 (RL.take n h2)
theorem RL.eraseIdx : ∀ {ds : List A} {vs : List V} (n : Nat), RL H ds vs → RL H (ds.eraseIdx n) (vs.eraseIdx n)
  | [], vs, n, h => by rw [RL.nil_iff] at h; subst h; exact RL.nil
  | d :: ds, vs, 0, h => by
    rw [RL.cons_iff] at h
    obtain ⟨x, xs, rfl, h1, h2⟩ := h
    exact h2
  | d :: ds, vs, n + 1, h => by
    rw [RL.cons_iff] at h
    obtain ⟨x, xs, rfl, h1, h2⟩ := h
    exact RL.cons h1 (RL.eraseIdx n h2)
theorem RL.set : ∀ {ds : List A} {vs : List V} (n : Nat) {d : A} {v : V}, RV H d v → RL H ds vs → RL H (ds.set n d) (vs.set n v)
  | [], vs, n, d, v, _, h => by rw [RL.nil_iff] at h; subst h; exact RL.nil
  | _ :: ds, vs, 0, d, v, k, h => by
    rw [RL.cons_iff] at h
    obtain ⟨x, xs, rfl, h1, h2⟩ := h
    exact RL.cons k h2
  | _ :: ds, vs, n + 1, d, v, k, h => by
    rw [RL.cons_iff] at h
    obtain ⟨x, xs, rfl, h1, h2⟩ := h
    exact RL.cons h1 (RL.set n k h2)
theorem RL.ints : ∀ {is : List Int}, RL H (is.map A.int) (is.map V.int)
  | [] => RL.nil
  | _ :: _ => RL.cons (RV.int_iff.mpr rfl) RL.ints
theorem RL.ints_inv : ∀ {is : List Int} {vs : List V}, RL H (is.map A.int) vs → vs = is.map V.int
  | [], vs, h => RL.nil_iff.mp h
  | i :: is, vs, h => by
    obtain ⟨x, xs, rfl, h1, h2⟩ := RL.cons_iff.mp h
    rw [RV.int_iff.mp h1, RL.ints_inv h2]; rfl
theorem RL.bools_inv : ∀ {is : List Bool} {vs : List V}, RL H (is.map A.bl) vs → vs = is.map V.bl
  | [], vs, h => RL.nil_iff.mp h
  | i :: is, vs, h => by
    obtain ⟨x, xs, rfl, h1, h2⟩ := RL.cons_iff.mp h
    rw [RV.bl_iff.mp h1, RL.bools_inv h2]; rfl
theorem RL.strs : ∀ {is : List Str}, RL H (is.map A.str) (is.map V.str)
  | [] => RL.nil
  | _ :: _ => RL.cons (RV.str_iff.mpr rfl) RL.strs
theorem RL.strs_inv : ∀ {is : List Str} {vs : List V}, RL H (is.map A.str) vs → vs = is.map V.str
  | [], vs, h => RL.nil_iff.mp h
  | i :: is, vs, h => by
    obtain ⟨x, xs, rfl, h1, h2⟩ := RL.cons_iff.mp h
    rw [RV.str_iff.mp h1, RL.strs_inv h2]; rfl
/-! ### pairs by keys -/
def RK {κ : Type} (H : Hp) : List (κ × A) → List (κ × V) → Prop
  | [], ys => ys = []
  | x :: xs, ys => ∃ z zs, ys = z :: zs ∧ x.1 = z.1 ∧ RV H x.2 z.2 ∧ RK H xs zs
theorem RK.up {κ : Type} (c : Tp H H') : ∀ {xs : List (κ × A)} {ys : List (κ × V)}, RK H xs ys → RK H' xs ys
  | [], ys, h => h
  | x :: xs, ys, h => by
    obtain ⟨z, zs, e, h1, h2, h3⟩ := h
    exact ⟨z, zs, e, h1, h2.up c, RK.up c h3⟩
theorem RK.length {κ : Type} : ∀ {xs : List (κ × A)} {ys : List (κ × V)}, RK H xs ys → ys.length = xs.length
  | [], ys, h => by rw [show ys = [] from h]; rfl
  | x :: xs, ys, h => by
    obtain ⟨z, zs, rfl, h1, h2, h3⟩ := h
    simp [RK.length h3]
theorem RK.append {κ : Type} : ∀ {xs xs' : List (κ × A)} {ys ys' : List (κ × V)}, RK H xs ys → RK H xs' ys' → RK H (xs ++ xs') (ys ++ ys')
  | [], _, ys, _, h, k => by rw [show ys = [] from h]; exact k
  | x :: xs, _, ys, _, h, k => by
    obtain ⟨z, zs, rfl, h1, h2, h3⟩ := h
    exact ⟨z, _, rfl, h1, h2, RK.append h3 k⟩
theorem RK.one {κ : Type} {k : κ} {x : A} {v : V} (h : RV H x v) : RK H [(k, x)] [(k, v)] := ⟨_, [], rfl, rfl, h, rfl⟩
end
section
variable {κ : Type} [DecidableEq κ] {H : Hp}
def valA (kvs : List (κ × A)) (k : κ) : Option A := (kvs.find? fun kv => decide (kv.1 = k)).map (·.2)
def putA (kvs : List (κ × A)) (k : κ) (v : A) : List (κ × A) :=
  if (kvs.any fun kv => decide (kv.1 = k)) = true then kvs.map (fun kv => if kv.1 = k then (kv.1, v) else kv) else kvs ++ [(k, v)]
theorem RK.val : ∀ {xs : List (κ × A)} {ys : List (κ × V)} {k : κ}, RK H xs ys → (∃ a v, valA xs k = some a ∧ valV ys k = some v ∧ RV H a v) ∨ (valA xs k = none ∧ valV ys k = none)
  | [], ys, k, h => by
    rw [show ys = [] from h]
    exact .inr ⟨rfl, rfl⟩
  | x :: xs, ys, k, h => by
    obtain ⟨z, zs, rfl, h1, h2, h3⟩ := h
    unfold valA valV
    rw [List.find?_cons, List.find?_cons, ← h1]
    by_cases e : x.1 = k
    · simp only [e, decide_true]
      exact .inl ⟨_, _, rfl, rfl, h2⟩
    · simp only [e, decide_false]
      exact RK.val h3
theorem RK.put {k : κ} {a : A} {v : V} (ha : RV H a v) {xs : List (κ × A)} {ys : List (κ × V)} (h : RK H xs ys) : RK H (putA xs k a) (putK ys k v) := by
  have h0 : ∀ {xs : List (κ × A)} {ys : List (κ × V)}, RK H xs ys → (xs.any fun kv => decide (kv.1 = k)) = (ys.any fun kv => decide (kv.1 = k)) := by
    intro xs
    induction xs with
    | nil => intro ys h; rw [show ys = [] from h]; rfl
    | cons x xs ih =>
      rintro ys ⟨z, zs, rfl, h1, h2, h3⟩
      rw [List.any_cons, List.any_cons, ih h3, h1]
  have h4 : ∀ {xs : List (κ × A)} {ys : List (κ × V)}, RK H xs ys → RK H (xs.map (fun kv => if kv.1 = k then (kv.1, a) else kv)) (ys.map (fun kv => if kv.1 = k then (kv.1, v) else kv)) := by
    intro xs
    induction xs with
    | nil => intro ys h; rw [show ys = [] from h]; rfl
    | cons x xs ih =>
      rintro ys ⟨z, zs, rfl, h1, h2, h3⟩
      refine ⟨_, _, rfl, ?_, ?_, ih h3⟩
      · simp only [h1]; by_cases e : z.1 = k <;> simp [e, h1]
      · simp only [h1]; by_cases e : z.1 = k <;> simp [e, h2, ha]
  unfold putA putK
  rw [h0 h]
  by_cases e : (ys.any fun kv => decide (kv.1 = k)) = true
  · rw [if_pos e, if_pos e]; exact h4 h
  · rw [if_neg e, if_neg e]; exact h.append (RK.one ha)
end
/-! ### the memory and the heap -/
def DrA (H : Hp) (d : Addr) : Prop := ∃ ds : List Int, H d = some (.lst (ds.map V.int)) ∧ ds.length ≤ 10000
def RO (K : PySem.W.Frag) (H : Hp) (a : Addr) : AO → Prop
  | .lst as => ∃ vs, H a = some (.lst vs) ∧ RL H as vs
  | .draws => DrA H a
  | .dK kvs => ∃ ys, H a = some (.dK ys) ∧ RK H kvs ys
  | .ins C fs => ∃ dx ys, H a = some (.ins C dx ys) ∧ H dx = some (.own a) ∧ RK H fs ys
  | .xd fs => ∃ ys, H a = some (.xd ys) ∧ RK H fs ys
  | .fz u kvs => H a = some u ∧ ∃ o ys, u = .frz o (.dK ys) ∧ RK H kvs ys
/-- M tells of H; F: what stands besides, untouched -/
structure Rep (K : PySem.W.Frag) (F H : Hp) (M : AM) : Prop where
  at_ : ∀ a o, M a = some o → RO K H a o
  fr : ∀ a o, F a = some o → H a = some o ∧ M a = none
section
variable {K : PySem.W.Frag} {F H H' H1 H2 : Hp} {a b p l : Addr} {v : V} {xs vs : List V} {M M' : AM} {o o' : AO} {u : HO}
theorem RO.keep {l : Addr} (hb : ∀ b o, b ≠ l → H b = some o → H' b = some o) (ho : ∀ x, H l ≠ some (.own x)) (c : Tp H H') (n : a ≠ l) (h : RO K H a o) : RO K H' a o := by
  cases o with
  | lst as =>
    obtain ⟨vs, h1, h2⟩ := h
    exact ⟨vs, hb _ _ n h1, h2.up c⟩
  | draws =>
    obtain ⟨ds, h1, h2⟩ := h
    exact ⟨ds, hb _ _ n h1, h2⟩
  | dK kvs =>
    obtain ⟨ys, h1, h2⟩ := h
    exact ⟨ys, hb _ _ n h1, h2.up c⟩
  | ins C fs =>
    obtain ⟨dx, ys, h1, h2, h3⟩ := h
    exact ⟨dx, ys, hb _ _ n h1, hb _ _ (fun z => ho a (by rw [← z]; exact h2)) h2, h3.up c⟩
  | xd fs =>
    obtain ⟨ys, h1, h2⟩ := h
    exact ⟨ys, hb _ _ n h1, h2.up c⟩
  | fz u kvs =>
    obtain ⟨h1, o, ys, e, h2⟩ := h
    exact ⟨hb _ _ n h1, o, ys, e, h2.up c⟩
theorem RO.some (h : RO K H a o) : H a ≠ none := by
  intro z
  cases o with
  | lst as => obtain ⟨vs, h1, h2⟩ := h; rw [z] at h1; cases h1
  | draws => obtain ⟨vs, h1, h2⟩ := h; rw [z] at h1; cases h1
  | dK as => obtain ⟨vs, h1, h2⟩ := h; rw [z] at h1; cases h1
  | ins C fs => obtain ⟨dx, vs, h1, h2⟩ := h; rw [z] at h1; cases h1
  | xd as => obtain ⟨vs, h1, h2⟩ := h; rw [z] at h1; cases h1
  | fz u as => obtain ⟨h1, h2⟩ := h; rw [z] at h1; cases h1
/-- an object that M does not tell of is laid -/
theorem Rep.new (r : Rep K F H M) (h : H p = none) (u : HO) : Rep K F (upd H p u) M := by
  have hb : ∀ b o, H b = some o → upd H p u b = some o := fun b o q => by rw [upd_ne (ne_of_none q h)]; exact q
  refine ⟨fun a o e => ?_, fun a o e => ⟨hb _ _ (r.fr a o e).1, (r.fr a o e).2⟩⟩
  have c := Tp.new h u
  have q := r.at_ a o e
  cases o with
  | lst as =>
    obtain ⟨vs, h1, h2⟩ := q
    exact ⟨vs, hb _ _ h1, h2.up c⟩
  | draws =>
    obtain ⟨ds, h1, h2⟩ := q
    exact ⟨ds, hb _ _ h1, h2⟩
  | dK kvs =>
    obtain ⟨ys, h1, h2⟩ := q
    exact ⟨ys, hb _ _ h1, h2.up c⟩
  | ins C fs =>
    obtain ⟨dx, ys, h1, h2, h3⟩ := q
    exact ⟨dx, ys, hb _ _ h1, hb _ _ h2, h3.up c⟩
  | xd fs =>
    obtain ⟨ys, h1, h2⟩ := q
    exact ⟨ys, hb _ _ h1, h2.up c⟩
  | fz u kvs =>
    obtain ⟨h1, o, ys, e, h2⟩ := q
    exact ⟨hb _ _ h1, o, ys, e, h2.up c⟩
/-- .. and told of -/
theorem Rep.tell (r : Rep K F H M) (hf : F p = none) (h : RO K H p o) : Rep K F H (aupd M p o) := by
  refine ⟨fun a o' e => ?_, fun a o' e => ⟨(r.fr a o' e).1, ?_⟩⟩
  · by_cases z : a = p
    · subst z
      rw [aupd_same] at e
      cases e
      exact h
    · rw [aupd_ne z] at e
      exact r.at_ _ _ e
  · rw [aupd_ne (ne_of_none e hf)]
    exact (r.fr a o' e).2
theorem Rep.free (r : Rep K F H M) (h : H p = none) : F p = none := by
  cases e : F p with
  | none => rfl
  | some o => rw [(r.fr p o e).1] at h; cases h
theorem Rep.off (r : Rep K F H M) (h : M p = some o) : F p = none := by
  cases e : F p with
  | none => rfl
  | some o => rw [(r.fr p o e).2] at h; cases h
theorem Rep.newL {as : List A} (r : Rep K F H M) (h : H p = none) (q : RL H as vs) : Rep K F (upd H p (.lst vs)) (aupd M p (.lst as)) :=
  (r.new h _).tell (r.free h) ⟨vs, upd_same, q.up (Tp.new h _)⟩
/-- a changeable object that M tells of is written -/
theorem Rep.set (r : Rep K F H M) (h : M l = some o) (hl : H l = some u) (nt : ∀ xs, u ≠ .tup xs) (no : ∀ x, u ≠ .own x) (w : HO) (q : RO K (upd H l w) l o') : Rep K F (upd H l w) (aupd M l o') := by
  have hb : ∀ b o, b ≠ l → H b = some o → upd H l w b = some o := fun b o n q => by rw [upd_ne n]; exact q
  have fl := r.off h
  refine ⟨fun a o2 e => ?_, fun a o2 e => ⟨hb _ _ (ne_of_none e fl) (r.fr a o2 e).1, ?_⟩⟩
  · by_cases z : a = l
    · subst z
      rw [aupd_same] at e
      cases e
      exact q
    · rw [aupd_ne z] at e
      exact (r.at_ _ _ e).keep hb (fun x y => no x (by rw [hl] at y; exact Option.some.inj y)) (Tp.set hl nt w) z
  · rw [aupd_ne (ne_of_none e fl)]
    exact (r.fr a o2 e).2
/-- less is told -/
def Sub (M0 M : AM) : Prop := ∀ a o, M0 a = some o → M a = some o
theorem Sub.at {M0 M : AM} {a : Addr} {o : AO} (s : Sub M0 M) (h : M0 a = some o) : M a = some o := s a o h
theorem Sub.refl (M : AM) : Sub M M := fun _ _ h => h
theorem Sub.trans {M0 M1 M2 : AM} (h : Sub M0 M1) (k : Sub M1 M2) : Sub M0 M2 := fun a o e => k a o (h a o e)
theorem Sub.new {M0 : AM} (h : M p = none) (k : Sub M0 M) : Sub M0 (aupd M p o) := fun a o' e => by
  have := k a o' e
  rw [aupd_ne (ne_of_anone this h)]
  exact this
/-- all but what is told of p -/
def adel (M : AM) (p : Addr) : AM := fun a => if a = p then none else M a
theorem adel_at (h : M a = some o) (n : a ≠ p) : adel M p a = some o := by unfold adel; rw [if_neg n]; exact h
theorem adel_none : adel M p p = none := by unfold adel; rw [if_pos rfl]
theorem adel_sub : Sub (adel M p) M := fun a o h => by
  unfold adel at h
  by_cases e : a = p
  · rw [if_pos e] at h; cases h
  · rw [if_neg e] at h; exact h
theorem adel_of {M0 : AM} (s : Sub M0 M) (h : M0 p = none) : Sub M0 (adel M p) := fun a o e => adel_at (s a o e) (ne_of_anone e h)
theorem lk_new_ (n : M b = none) (h : M a = some o) : aupd M b o' a = some o := by rw [aupd_ne (ne_of_anone h n)]; exact h
theorem Rep.sub (r : Rep K F H M) (s : Sub M' M) : Rep K F H M' := ⟨fun a o e => r.at_ a o (s a o e), fun a o e => ⟨(r.fr a o e).1, by
  cases q : M' a with
  | none => rfl
  | some o' =>
    have := s a o' q
    rw [(r.fr a o e).2] at this
    cases this⟩⟩
theorem Rep.nn (r : Rep K F H M) (h : M a = some o) : H a ≠ none := (r.at_ a o h).some
theorem Rep.no (r : Rep K F H M) (h : H p = none) : M p = none := by
  cases e : M p with
  | none => rfl
  | some o => exact absurd h (r.nn e)
end
end My

/-! AbT: the transformers over plain data, by the names of those over the heap. -/
namespace My
open PySem PySem.Spec PyProof.Rows L2
abbrev AS := List (Option A)
abbrev AK := A → AM → Prop
abbrev AX := Addr → List (PySem.Str × A) → AM → Prop
abbrev ASp := List A → AM → AK → AX → Prop
namespace Ab
open PySem PySem.Spec PyProof.Rows L2
abbrev TE := AS → AM → AK → Prop
abbrev TT := AS → AM → (Bool → AM → Prop) → Prop
abbrev TA := AS → AM → (List A → AM → Prop) → Prop
abbrev TO := AS → AM → (Option Int → AM → Prop) → Prop
structure Ends where
  nx : AS → AM → Prop
  rt : AK
  bk : AS → AM → Prop := fun _ _ => False
  ct : AS → AM → Prop := fun _ _ => False
abbrev TS := Ends → AS → AM → Prop
abbrev TG := A → AS → AM → (AS → AM → Prop) → Prop
abbrev TGs := List A → AS → AM → (AS → AM → Prop) → Prop
abbrev TI := AS → AM → (List A → (AM → Prop) → AM → Prop) → Prop
abbrev R1 := A → AM → AK → Prop
abbrev R2 := A → A → AM → AK → Prop
abbrev RB := List A → AM → AK → Prop
abbrev RM := A → List A → AM → AK → Prop
def start (N : List Str) (as : List A) : AS := as.map some ++ List.replicate (N.length - as.length) none
abbrev E0 : AX := fun _ _ _ => False
/-! expressions -/
def tVar (i : Nat) : TE := fun s M P => ∃ a, s[i]? = some (some a) ∧ P a M
def tC (a : A) : TE := fun _ M P => P a M
def tOp (r : R2) (ta tb : TE) : TE := fun s M P => ta s M fun x M1 => tb s M1 fun y M2 => r x y M2 P
def tUn (r : R1) (ta : TE) : TE := fun s M P => ta s M fun x M1 => r x M1 P
def tCB (r : RB) (t : TA) : TE := fun s M P => t s M fun xs M1 => r xs M1 P
def tNil : TA := fun _ M P => P [] M
def tCons (ta : TE) (tr : TA) : TA := fun s M P => ta s M fun x M1 => tr s M1 fun xs M2 => P (x :: xs) M2
def isL (a : A) (M : AM) : Prop := ∃ p xs, a = .ref p ∧ M p = some (.lst xs)
def tStar (K : PySem.W.Frag) (ta : TE) (t : TA) : TA := fun s M P => ta s M fun x M1 => (∃ xs, x = .tup xs ∧ t s M1 fun ys M2 => P (xs ++ ys) M2) ∨ ∃ p xs, x = .ref p ∧ M1 p = some (.lst xs) ∧ t s M1 fun ys M2 => P (xs ++ ys) M2
def tTest (t : TE) : TT := fun s M P => t s M fun x M1 => ∃ k, x = .bl k ∧ P k M1
def tB (t : TE) : TT := fun s M P => t s M fun x M1 => ∃ k, x = .bl k ∧ P k M1
def tTru_ (K : PySem.W.Frag) (t : TE) : TT := fun s M P => t s M fun x M1 => (∃ p xs, x = .ref p ∧ M1 p = some (.lst xs) ∧ P (!xs.isEmpty) M1) ∨ ∃ xs, x = .tup xs ∧ P (!xs.isEmpty) M1
def tYes : TT := fun _ M P => P true M
def tNot (t : TT) : TT := fun s M P => t s M fun c M1 => P (!c) M1
def tAnd (t u : TT) : TT := fun s M P => t s M fun c M1 => if c = true then u s M1 P else P false M1
def tOr (t u : TT) : TT := fun s M P => t s M fun c M1 => if c = true then P true M1 else u s M1 P
def tAndV (ta tb : TE) : TE := fun s M P => ta s M fun x M1 => ∃ c, x = .bl c ∧ if c = true then tb s M1 P else P (.bl false) M1
def tOrV (ta tb : TE) : TE := fun s M P => ta s M fun x M1 => ∃ c, x = .bl c ∧ if c = true then P (.bl true) M1 else tb s M1 P
def tNotV (ta : TE) : TE := fun s M P => ta s M fun x M1 => ∃ c, x = .bl c ∧ P (.bl (!c)) M1
def tIf (t : TT) (ta tb : TE) : TE := fun s M P => t s M fun c M1 => if c = true then ta s M1 P else tb s M1 P
def tChain (r r' : R2) (ta tb tc : TE) : TE := fun s M P => ta s M fun x M1 => tb s M1 fun y M2 => r x y M2 fun z M3 => ∃ k, z = .bl k ∧ if k = true then tc s M3 fun w M4 => r' y w M4 P else P (.bl false) M3
def tCall (sp : ASp) (dvs : List A) (E : AX) (t : TA) : TE := fun s M P => t s M fun vs M1 => sp (vs ++ dvs) M1 P E
def tMeth (C : Addr) (m : Str) (sp : ASp) (dvs : List A) (E : AX) (ta : TE) (t : TA) : TE := fun s M P => ta s M fun x M1 => ∃ a fs, x = .ref a ∧ M1 a = some (.ins C fs) ∧ (valA fs m = none) ∧ t s M1 fun vs M2 => sp (x :: (vs ++ dvs)) M2 P E
def tMake (C : Addr) (sp : ASp) (dvs : List A) (E : AX) (t : TA) : TE := fun s M P => t s M fun vs M1 => ∀ x, M1 x = none → sp (.ref x :: (vs ++ dvs)) (aupd M1 x (.ins C [])) (fun v M2 => v = .non ∧ P (.ref x) M2) E
def tPart (t : TE) : TO := fun s M P => t s M fun x M1 => ∃ i, x = .int i ∧ P (some i) M1
def tNoPart : TO := fun _ M P => P none M
def tSl (r : A → Option Int → Option Int → AM → AK → Prop) (te : TE) (tl th : TO) : TE := fun s M P => te s M fun x M1 => tl s M1 fun l M2 => th s M2 fun u M3 => r x l u M3 P
def tTup (t : TA) : TE := fun s M P => t s M fun xs M1 => xs.length ≤ sizeLine ∧ P (.tup xs) M1
def newL (xs : List A) (M : AM) (P : AK) : Prop := ∀ p, M p = none → P (.ref p) (aupd M p (.lst xs))
def tLst (t : TA) : TE := fun s M P => t s M fun xs M1 => xs.length ≤ sizeLine ∧ newL xs M1 P
def isT (T : String) (x : A) (M : AM) : Prop := (T = "list" ∧ isL x M) ∨ (T = "dict" ∧ ∃ p kvs, x = .ref p ∧ M p = some (.dK kvs)) ∨ (T = "str" ∧ ∃ z, x = .str z)
def tBM (K : PySem.W.Frag) (T : String) (r : RM) (to : TE) (t : TA) : TE := fun s M P => to s M fun x M1 => isT T x M1 ∧ t s M1 fun xs M2 => r x xs M2 P
def tBM0 (K : PySem.W.Frag) (T : String) (r : RM) (to : TE) : TE := fun s M P => to s M fun x M1 => isT T x M1 ∧ r x [] M1 P
def tM1 (r : RM) (to te : TE) : TE := fun s M P => to s M fun x M1 => (∃ a, x = .str a) ∧ te s M1 fun y M2 => r x [y] M2 P
def tFld (K : PySem.W.Frag) (ta : TE) (f : Str) : TE := fun s M P => ta s M fun x M1 => ∃ a C fs v, x = .ref a ∧ M1 a = some (.ins C fs) ∧ Cls K C ∧ NoAttr K C f ∧ valA fs f = some v ∧ P v M1
def tDNewK : TE := fun _ M P => ∀ p, M p = none → P (.ref p) (aupd M p (.dK []))
def keyA : A → Option Key
  | .int i => some (.inl i)
  | .str x => some (.inr x)
  | _ => none
def tDGet (td ty : TE) : TE := fun s M P => td s M fun x M1 => ty s M1 fun y M2 => ∃ a kvs k v, x = .ref a ∧ M2 a = some (.dK kvs) ∧ keyA y = some k ∧ valA kvs k = some v ∧ P v M2
def tDGet2 (td ty tx : TE) : TE := fun s M P => td s M fun x M1 => ∃ a kvs0, x = .ref a ∧ M1 a = some (.dK kvs0) ∧ ty s M1 fun y M2 => tx s M2 fun z M3 => ∃ kvs k, M3 a = some (.dK kvs) ∧ keyA y = some k ∧ P ((valA kvs k).getD z) M3
def tDIn (ty td : TE) : TE := fun s M P => ty s M fun y M1 => td s M1 fun x M2 => ∃ a kvs k, x = .ref a ∧ M2 a = some (.dK kvs) ∧ keyA y = some k ∧ P (.bl (valA kvs k).isSome) M2
def tDNotIn (ty td : TE) : TE := fun s M P => ty s M fun y M1 => td s M1 fun x M2 => ∃ a kvs k, x = .ref a ∧ M2 a = some (.dK kvs) ∧ keyA y = some k ∧ P (.bl (!(valA kvs k).isSome)) M2
def tJs : List TE → Str → AS → AM → (Str → AM → Prop) → Prop
  | [], acc, _, M, P => P acc M
  | t :: ts, acc, s, M, P => t s M fun x M1 => ∃ y : Str, x = .str y ∧ (acc ++ y).length ≤ sizeLine ∧ tJs ts (acc ++ y) s M1 P
def tJoined (ts : List TE) : TE := fun s M P => tJs ts Str.empty s M fun out M1 => P (.str out) M1
def tFmt (te : TE) : TE := fun s M P => te s M fun x M1 => (∃ y : Str, x = .str y ∧ y.length ≤ sizeLine ∧ P (.str y) M1) ∨ ∃ i : Int, x = .int i ∧ i.natAbs.log2 < 1920 ∧ P (.str (toString i)) M1
/-! relations -/
def rI (C : Int → Int → Prop) (g : Int → Int → A) : R2 := fun x y M P => ∃ i j, x = .int i ∧ y = .int j ∧ C i j ∧ P (g i j) M
def rI0 (g : Int → Int → A) : R2 := fun x y M P => ∃ i j, x = .int i ∧ y = .int j ∧ P (g i j) M
def rU (g : Int → A) : R1 := fun x M P => ∃ i, x = .int i ∧ P (g i) M
abbrev rAddI : R2 := rI0 fun i j => .int (i + j)
abbrev rSubI : R2 := rI0 fun i j => .int (i - j)
abbrev rMulI : R2 := rI L2.CMul fun i j => .int (i * j)
abbrev rDivI : R2 := rI L2.CDiv fun i j => .int (i / j)
abbrev rModI : R2 := rI (fun _ j => 0 < j) fun i j => .int (i % j)
abbrev rPowI : R2 := rI L2.CPow fun i j => .int (i ^ j.toNat)
abbrev rLtI : R2 := rI0 fun i j => .bl (decide (i < j))
abbrev rLeI : R2 := rI0 fun i j => .bl (decide (i ≤ j))
abbrev rGtI : R2 := rI0 fun i j => .bl (decide (j < i))
abbrev rGeI : R2 := rI0 fun i j => .bl (decide (j ≤ i))
def rAddS_ : R2 := fun x y M P => ∃ i j, x = .str i ∧ y = .str j ∧ i.length + j.length ≤ sizeLine ∧ P (.str (i ++ j)) M
def rInS_ : R2 := fun x y M P => ∃ (c : Nat) (z : Str), x = .str ⟨#[c]⟩ ∧ y = .str z ∧ P (.bl (decide (c ∈ z.cps.toList))) M
def rNotInS_ : R2 := fun x y M P => ∃ (c : Nat) (z : Str), x = .str ⟨#[c]⟩ ∧ y = .str z ∧ P (.bl (!decide (c ∈ z.cps.toList))) M
def eqA : A → A → Option Bool
  | .int i, .int j => some (decide (i = j))
  | .str i, .str j => some (decide (i = j))
  | .bl i, .bl j => some (decide (i = j))
  | _, _ => none
def rEq : R2 := fun x y M P => ∃ b, eqA x y = some b ∧ P (.bl b) M
def rNe : R2 := fun x y M P => ∃ b, eqA x y = some b ∧ P (.bl (!b)) M
def rIsN_ : R2 := fun x y M P => y = .non ∧ ((x = .non ∧ P (.bl true) M) ∨ ((x ≠ .non) ∧ P (.bl false) M))
def rNotN_ : R2 := fun x y M P => y = .non ∧ ((x = .non ∧ P (.bl false) M) ∨ ((x ≠ .non) ∧ P (.bl true) M))
/-- the items of a list or a tuple -/
def itemsA (x : A) (M : AM) (xs : List A) : Prop := x = .tup xs ∨ ∃ p, x = .ref p ∧ M p = some (.lst xs)
def rIn (K : PySem.W.Frag) (neg : Bool) : R2 := fun x y M P => (∃ (i : Int) (is : List Int), x = .int i ∧ itemsA y M (is.map A.int) ∧ P (.bl (if neg then !decide (i ∈ is) else decide (i ∈ is))) M) ∨
  ∃ (i : Str) (is : List Str), x = .str i ∧ itemsA y M (is.map A.str) ∧ P (.bl (if neg then !decide (i ∈ is) else decide (i ∈ is))) M
def rIxL (K : PySem.W.Frag) : R2 := fun x y M P => ∃ p xs i v, x = .ref p ∧ y = .int i ∧ M p = some (.lst xs) ∧ L2.atI xs i = some v ∧ P v M
def rIxT (K : PySem.W.Frag) : R2 := fun x y M P => ∃ xs i v, x = .tup xs ∧ y = .int i ∧ L2.atI xs i = some v ∧ P v M
def rIxS : R2 := fun x y M P => ∃ z i c, x = .str z ∧ y = .int i ∧ z.length ≤ sizeLine ∧ L2.atI z.cps.toList i = some c ∧ P (.str ⟨#[c]⟩) M
def cutA (xs : List A) (lo hi : Option Int) : List A := (xs.drop (HT.sIx xs.length 0 lo)).take (HT.sIx xs.length xs.length hi - HT.sIx xs.length 0 lo)
def rSlL (K : PySem.W.Frag) : A → Option Int → Option Int → AM → AK → Prop := fun x lo hi M P => ∃ p xs, x = .ref p ∧ M p = some (.lst xs) ∧ newL (cutA xs lo hi) M P
def rSlA (K : PySem.W.Frag) : A → Option Int → Option Int → AM → AK → Prop := fun x lo hi M P => ∃ xs, x = .tup xs ∧ P (.tup (cutA xs lo hi)) M
def rSlT (K : PySem.W.Frag) : A → Option Int → Option Int → AM → AK → Prop := fun x lo hi M P => ∃ xs, x = .tup xs ∧ lo = some 1 ∧ hi = none ∧ xs ≠ [] ∧ P (.tup (xs.drop 1)) M
def rSlS : A → Option Int → Option Int → AM → AK → Prop := fun x lo hi M P => ∃ z, x = .str z ∧ z.length ≤ sizeLine ∧ P (.str (L2.cutS z lo hi)) M
def rCat : R2 := fun x y M P => ∃ l b xs ys, x = .ref l ∧ y = .ref b ∧ M l = some (.lst xs) ∧ M b = some (.lst ys) ∧ xs.length + ys.length ≤ sizeLine ∧ newL (xs ++ ys) M P
def rCatA (K : PySem.W.Frag) : R2 := fun x y M P => ∃ xs ys, x = .tup xs ∧ y = .tup ys ∧ xs.length + ys.length ≤ sizeLine ∧ P (.tup (xs ++ ys)) M
def rExt2 : R2 := fun x y M P => ∃ l b xs ys, x = .ref l ∧ y = .ref b ∧ M l = some (.lst xs) ∧ M b = some (.lst ys) ∧ xs.length + ys.length ≤ sizeLine ∧ P (.ref l) (aupd M l (.lst (xs ++ ys)))
def ipI (f : Int → Int → Int) : R2 := fun x y M P => ∃ i j, x = .int i ∧ y = .int j ∧ P (.int (f i j)) M
def rLenSeq (K : PySem.W.Frag) : RB := fun xs M P => ∃ x ys, xs = [x] ∧ itemsA x M ys ∧ P (.int ys.length) M
def rLenStr : RB := fun xs M P => ∃ z, xs = [.str z] ∧ z.length ≤ sizeLine ∧ P (.int z.length) M
def rLenD : RB := fun xs M P => ∃ p kvs, xs = [.ref p] ∧ M p = some (.dK kvs) ∧ P (.int kvs.length) M
def rInt1 : RB := fun xs M P => (∃ i, xs = [.int i] ∧ P (.int i) M) ∨ ∃ k, xs = [.bl k] ∧ P (.int (if k then 1 else 0)) M
def rAbs : RB := fun xs M P => ∃ i, xs = [.int i] ∧ P (.int (if i < 0 then -i else i)) M
def rSum (K : PySem.W.Frag) : RB := fun xs M P => ∃ (x : A) (ns : List Int), xs = [x] ∧ (∃ p, x = .ref p ∧ M p = some (.lst (ns.map A.int))) ∧ P (.int ns.sum) M
def rTupleOf (K : PySem.W.Frag) : RB := fun xs M P => ∃ x ys, xs = [x] ∧ itemsA x M ys ∧ P (.tup ys) M
def rListOf (K : PySem.W.Frag) : RB := fun xs M P => ∃ x ys, xs = [x] ∧ itemsA x M ys ∧ newL ys M P
def rStrInt : RB := fun xs M P => ∃ i, xs = [.int i] ∧ i.natAbs.log2 < 1920 ∧ P (.str (toString i)) M
def isiA : A → String → Option Bool
  | .int _, "int" => some true
  | .int _, "bool" => some false
  | .int _, "str" => some false
  | .int _, "tuple" => some false
  | .tup _, "int" => some false
  | .tup _, "tuple" => some true
  | .tup _, "str" => some false
  | .str _, "int" => some false
  | .str _, "str" => some true
  | .str _, "tuple" => some false
  | .bl _, "bool" => some true
  | .non, "int" => some false
  | .non, "tuple" => some false
  | _, _ => none
def rIsi (K : PySem.W.Frag) : RB := fun xs M P => (∃ x t b, xs = [x, .ty t] ∧ isiA x t = some b ∧ P (.bl b) M) ∨ ∃ p ys, xs = [.ref p, .ty "list"] ∧ M p = some (.lst ys) ∧ P (.bl true) M
def rAll (K : PySem.W.Frag) : RB := fun xs M P => ∃ (x : A) (bs : List Bool), xs = [x] ∧ (∃ p, x = .ref p ∧ M p = some (.lst (bs.map A.bl))) ∧ P (.bl (bs.all id)) M
def rAny (K : PySem.W.Frag) : RB := fun xs M P => ∃ (x : A) (bs : List Bool), xs = [x] ∧ (∃ p, x = .ref p ∧ M p = some (.lst (bs.map A.bl))) ∧ P (.bl (bs.any id)) M
def rAppend : RM := fun x vs M P => ∃ l xs y, x = .ref l ∧ vs = [y] ∧ M l = some (.lst xs) ∧ xs.length < sizeLine ∧ P .non (aupd M l (.lst (xs ++ [y])))
def rInsert : RM := fun x vs M P => ∃ (l : Addr) (xs : List A) (i : Int) (y : A), x = .ref l ∧ vs = [.int i, y] ∧ M l = some (.lst xs) ∧ xs.length < sizeLine ∧ 0 ≤ i ∧ i < 2 ^ 63 ∧ P .non (aupd M l (.lst (xs.take i.toNat ++ [y] ++ xs.drop i.toNat)))
def rPopAt : RM := fun x vs M P => ∃ l xs i k y, x = .ref l ∧ vs = [.int i] ∧ M l = some (.lst xs) ∧ -(2 ^ 63) ≤ i ∧ i < 2 ^ 63 ∧ seqIndex? i xs.length = some k ∧ xs[k]? = some y ∧ P y (aupd M l (.lst (xs.eraseIdx k)))
def rPop : RM := fun x vs M P => ∃ l xs y, x = .ref l ∧ vs = [] ∧ M l = some (.lst xs) ∧ xs[xs.length - 1]? = some y ∧ P y (aupd M l (.lst xs.dropLast))
def rClear : RM := fun x vs M P => ∃ l xs, x = .ref l ∧ vs = [] ∧ M l = some (.lst xs) ∧ P .non (aupd M l (.lst []))
def rExtend : RM := fun x vs M P => ∃ l b xs ys, x = .ref l ∧ vs = [.ref b] ∧ M l = some (.lst xs) ∧ M b = some (.lst ys) ∧ xs.length + ys.length ≤ sizeLine ∧ P .non (aupd M l (.lst (xs ++ ys)))
/-! targets -/
def gName (i : Nat) : TG := fun v s M P => P (s.set i (some v)) M
def gNil : TGs := fun vs s M P => vs = [] ∧ P s M
def gCons (t : TG) (u : TGs) : TGs := fun vs s M P => ∃ v r, vs = v :: r ∧ t v s M fun s' M' => u r s' M' P
def gTup (K : PySem.W.Frag) (n : Nat) (t : TGs) : TG := fun v s M P => ∃ xs, v = .tup xs ∧ xs.length = n ∧ t xs s M P
def rSetL : A → A → A → AM → (AM → Prop) → Prop := fun o i v M P => ∃ p xs k j, o = .ref p ∧ i = .int k ∧ M p = some (.lst xs) ∧ L2.ixN xs.length k = some j ∧ P (aupd M p (.lst (xs.set j v)))
def gSub (to ti : TE) (t : A → A → A → AM → (AM → Prop) → Prop) : TG := fun v s M P => to s M fun o M1 => ti s M1 fun i M2 => t o i v M2 fun M3 => P s M3
/-! statements -/
def tNext : TS := fun D s M => D.nx s M
def tSeq (t u : TS) : TS := fun D s M => t { D with nx := u D } s M
def tCut (t u : TS) : TS := fun D s M => ∃ Mid : AS → AM → Prop, t { D with nx := Mid } s M ∧ ∀ s' M', Mid s' M' → u D s' M'
def tBreak : TS := fun D s M => D.bk s M
def tCont : TS := fun D s M => D.ct s M
def tDrop (te : TE) : TS := fun D s M => te s M fun _ M1 => D.nx s M1
def tRet (te : TE) : TS := fun D s M => te s M D.rt
def tRetN : TS := fun D _ M => D.rt .non M
def tIfS (c : TT) (t u : TS) : TS := fun D s M => c s M fun b M1 => if b = true then t D s M1 else u D s M1
def tNever : TS := fun _ _ _ => False
def tAsg (te : TE) (g : TG) : TS := fun D s M => te s M fun x M1 => g x s M1 D.nx
def tAug (i : Nat) (te : TE) (ti : R2) : TS := fun D s M => ∃ x, s[i]? = some (some x) ∧ te s M fun y M1 => ti x y M1 fun z M2 => D.nx (s.set i (some z)) M2
def sDPut (td ty tv : TE) : TS := fun D s M => tv s M fun v M1 => td s M1 fun x M2 => ty s M2 fun y M3 => ∃ a kvs k, x = .ref a ∧ M3 a = some (.dK kvs) ∧ keyA y = some k ∧ kvs.length < sizeLine ∧ D.nx s (aupd M3 a (.dK (putA kvs k v)))
def putFA (f : Str) (v : A) : List (Str × A) → List (Str × A)
  | [] => [(f, v)]
  | (g, x) :: r => if g = f then (g, v) :: r else (g, x) :: putFA f v r
def sFld (K : PySem.W.Frag) (ta tv : TE) (f : Str) : TS := fun D s M => tv s M fun y M1 => ta s M1 fun x M2 => ∃ a C fs, x = .ref a ∧ M2 a = some (.ins C fs) ∧ Cls K C ∧ NoAttr K C f ∧ fs.length < 1000 ∧ D.nx s (aupd M2 a (.ins C (putFA f y fs)))
/-! what is walked: its items, and what must stay -/
def iList (K : PySem.W.Frag) (te : TE) : TI := fun s M R => te s M fun x M1 => ∃ p xs, x = .ref p ∧ M1 p = some (.lst xs) ∧ R xs (fun M' => M' p = some (.lst xs)) M1
def iTup (K : PySem.W.Frag) (te : TE) : TI := fun s M R => te s M fun x M1 => ∃ xs, x = .tup xs ∧ R xs (fun _ => True) M1
def intsA (lo : Int) (n : Nat) : List A := (List.range n).map fun (k : Nat) => A.int (lo + (k : Int))
def iRng1 (ta : TA) : TI := fun s M R => ta s M fun vs M1 => ∃ j : Int, vs = [.int j] ∧ -(2 ^ 62) ≤ j ∧ j < 2 ^ 62 ∧ R (intsA 0 j.toNat) (fun _ => True) M1
def iRng2 (ta : TA) : TI := fun s M R => ta s M fun vs M1 => ∃ i j : Int, vs = [.int i, .int j] ∧ (-(2 ^ 62) ≤ i ∧ i < 2 ^ 62 ∧ -(2 ^ 62) ≤ j ∧ j < 2 ^ 62) ∧ R (intsA i (j - i).toNat) (fun _ => True) M1
def iStr (te : TE) : TI := fun s M R => te s M fun x M1 => ∃ z : Str, x = .str z ∧ R (z.cps.toList.map fun c => A.str ⟨#[c]⟩) (fun _ => True) M1
def enumA (xs : List A) : List A := (List.range xs.length).zipWith (fun (i : Nat) x => A.tup [.int (i : Int), x]) xs
def iEnum (K : PySem.W.Frag) (ta : TA) : TI := fun s M R => ta s M fun vs M1 => ∃ p xs, vs = [.ref p] ∧ M1 p = some (.lst xs) ∧ R (enumA xs) (fun M' => M' p = some (.lst xs)) M1
def iEnumT (K : PySem.W.Frag) (ta : TA) : TI := fun s M R => ta s M fun vs M1 => ∃ xs, vs = [.tup xs] ∧ R (enumA xs) (fun _ => True) M1
def zipA (xs ys : List A) : List A := xs.zipWith (fun x y => A.tup [x, y]) ys
def iZipA (K : PySem.W.Frag) (ta : TA) : TI := fun s M R => ta s M fun vs M1 => (∃ xs ys, vs = [.tup xs, .tup ys] ∧ R (zipA xs ys) (fun _ => True) M1) ∨
  ∃ p q xs ys, vs = [.ref p, .ref q] ∧ M1 p = some (.lst xs) ∧ M1 q = some (.lst ys) ∧ R (zipA xs ys) (fun M' => M' p = some (.lst xs) ∧ M' q = some (.lst ys)) M1
/-- what a for leaves to be shown -/
def ForA (g : TG) (tb : TS) (D : Ends) (s : AS) (xs : List A) (ok : AM → Prop) (M : AM) : Prop := ∃ Inv : Nat → AS → AM → Prop, Inv 0 s M ∧ (∀ i s M, i ≤ xs.length → Inv i s M → ok M) ∧
  (∀ i x s M, xs[i]? = some x → Inv i s M → g x s M fun s2 M2 => tb { D with nx := Inv (i + 1), ct := Inv (i + 1), bk := D.nx } s2 M2) ∧ ∀ s M, Inv xs.length s M → D.nx s M
def tFor (wi : TI) (g : TG) (tb : TS) : TS := fun D s M => wi s M (ForA g tb D s)
def wipeA (s : AS) : List Nat → AS
  | [] => s
  | v :: vs => (wipeA s vs).set v none
/-- what a comprehension leaves to be shown: acc the items so far -/
def LcA (g : TG) (tt : TT) (te : TE) (vs : List Nat) (s : AS) (P : AK) (xs : List A) (ok : AM → Prop) (M : AM) : Prop := ∃ Inv : Nat → List A → AM → Prop, Inv 0 [] M ∧ (∀ i acc M, Inv i acc M → ok M ∧ acc.length < sizeLine) ∧
  (∀ i x acc M, xs[i]? = some x → Inv i acc M → g x (wipeA s vs) M fun s2 M2 => tt s2 M2 fun b M3 => if b = true then te s2 M3 fun y M4 => Inv (i + 1) (acc ++ [y]) M4 else Inv (i + 1) acc M3) ∧
  ∀ acc M, Inv xs.length acc M → newL acc M P
def tLc (wi : TI) (g : TG) (tt : TT) (te : TE) (vs : List Nat) : TE := fun s M P => wi s M (LcA g tt te vs s P)
def tWhile (c : TT) (tb : TS) : TS := fun D s M => ∃ W : Nat → AS → AM → Prop, (∃ m, W m s M) ∧ ∀ m s M, W m s M →
  c s M fun b M1 => if b = true then ∃ N : AS → AM → Prop, (∀ s' M', N s' M' → ∃ m', m' < m ∧ W m' s' M') ∧ tb { D with nx := N, ct := N, bk := D.nx } s M1 else D.nx s M1
end Ab
end My

/-! Rf: a reading over plain data gives the reading over the heap. -/
namespace My
open PySem PySem.Spec PyProof.Rows L2
set_option autoImplicit false
/-- the slots; what the plain side does not know may be anything -/
structure RS (H : Hp) (s : AS) (σ : L2.St) : Prop where
  len : s.length = σ.length
  at_ : ∀ (i : Nat) (a : A), s[i]? = some (some a) → ∃ v, σ[i]? = some (some v) ∧ RV H a v
structure XOk (K : PySem.W.Frag) (F H : Hp) (E : XK) (X : AX) : Prop where
  run : ∀ C fs M d ys H', X C fs M → Rep K F H' M → F d = none → M d = none → H' d = some (.xd ys) → RK H' fs ys → Tp H H' → E (.ref C) (some d) H'
section
variable {K : PySem.W.Frag} {F F' H H1 H' : Hp} {s : AS} {σ : L2.St} {E : XK} {X : AX} {M : AM}
theorem RS.up (r : RS H s σ) (c : Tp H H') : RS H' s σ := ⟨r.len, fun i a e => by
  obtain ⟨v, h1, h2⟩ := r.at_ i a e
  exact ⟨v, h1, h2.up c⟩⟩
theorem RS.nil : RS H [] [] := ⟨rfl, fun i a e => by simp at e⟩
theorem RS.skip {y : Option V} (r : RS H s σ) : RS H (none :: s) (y :: σ) := ⟨by simp [r.len], fun i a e => by
  cases i with
  | zero => simp at e
  | succ i => exact r.at_ i a (by simpa using e)⟩
theorem RS.keep {a : A} {v : V} (h : RV H a v) (r : RS H s σ) : RS H (some a :: s) (some v :: σ) := ⟨by simp [r.len], fun i b e => by
  cases i with
  | zero => simp at e; subst e; exact ⟨v, rfl, h⟩
  | succ i => exact r.at_ i b (by simpa using e)⟩
theorem RS.set {i : Nat} {a : A} {v : V} (r : RS H s σ) (h : RV H a v) : RS H (s.set i (some a)) (σ.set i (some v)) := by
  refine ⟨by rw [List.length_set, List.length_set, r.len], fun j b e => ?_⟩
  rw [List.getElem?_set] at e ⊢
  by_cases z : i = j
  · subst z
    rw [if_pos rfl] at e ⊢
    by_cases l : i < s.length
    · rw [if_pos l] at e
      rw [← r.len, if_pos l]
      cases e
      exact ⟨v, rfl, h⟩
    · rw [if_neg l] at e; cases e
  · rw [if_neg z] at e ⊢
    exact r.at_ j b e
theorem RS.unset {i : Nat} (r : RS H s σ) : RS H (s.set i none) (σ.set i none) := by
  refine ⟨by rw [List.length_set, List.length_set, r.len], fun j b e => ?_⟩
  rw [List.getElem?_set] at e ⊢
  by_cases z : i = j
  · subst z
    rw [if_pos rfl] at e
    by_cases l : i < s.length
    · rw [if_pos l] at e; cases e
    · rw [if_neg l] at e; cases e
  · rw [if_neg z] at e ⊢
    exact r.at_ j b e
theorem RS.wipe (r : RS H s σ) : ∀ vs : List Nat, RS H (Ab.wipeA s vs) (wipe σ vs)
  | [] => r
  | v :: vs => RS.unset (RS.wipe r vs)
theorem RS.startOf {as : List A} {vs : List V} (N : List Str) (h : RL H as vs) : RS H (Ab.start N as) (L2.start N vs) := by
  have hl := h.length
  refine ⟨by unfold Ab.start L2.start; simp [hl], fun i a e => ?_⟩
  unfold Ab.start at e
  unfold L2.start
  by_cases l : i < as.length
  · rw [List.getElem?_append_left (by simpa using l), List.getElem?_map] at e
    cases q : as[i]? with
    | none => rw [q] at e; cases e
    | some b =>
      rw [q] at e
      have e2 : b = a := Option.some.inj (Option.some.inj e)
      subst e2
      obtain ⟨v, h1, h2⟩ := h.get' q
      exact ⟨v, by rw [List.getElem?_append_left (by simp; omega), List.getElem?_map, h1]; rfl, h2⟩
  · rw [List.getElem?_append_right (by simp; omega)] at e
    have := List.mem_of_getElem? e
    rw [List.mem_replicate] at this
    cases this.2
theorem XOk.up (x : XOk K F H E X) (c : Tp H H1) : XOk K F H1 E X := ⟨fun C fs M d ys H' h r n1 n2 e k t => x.run C fs M d ys H' h r n1 n2 e k (c.trans t)⟩
theorem Rep.less (r : Rep K F' H M) (h : ∀ a o, F a = some o → F' a = some o) : Rep K F H M := ⟨r.at_, fun a o e => r.fr a o (h a o e)⟩
theorem XOk.frame (x : XOk K F H E X) (h : ∀ a o, F a = some o → F' a = some o) : XOk K F' H E X := ⟨fun C fs M d ys H' hx r n1 n2 e k t => x.run C fs M d ys H' hx (r.less h) (by
  cases q : F d with
  | none => rfl
  | some o => rw [h d o q] at n1; cases n1) n2 e k t⟩
theorem XOk.no : XOk K F H E Ab.E0 := ⟨fun _ _ _ _ _ _ h => h.elim⟩
end
/-- what follows, on both sides -/
def KOk (K : PySem.W.Frag) (F H : Hp) (P : AK) (Q : VK) : Prop := ∀ a M' x H', P a M' → Rep K F H' M' → RV H' a x → Tp H H' → Q x H'
structure DOk (K : PySem.W.Frag) (F H : Hp) (B : Ab.Ends) (D : L2.Ends) : Prop where
  nx : ∀ s M σ H', B.nx s M → RS H' s σ → Rep K F H' M → Tp H H' → D.nx σ H'
  rt : ∀ a M' x H', B.rt a M' → Rep K F H' M' → RV H' a x → Tp H H' → D.rt x H'
  bk : ∀ s M σ H', B.bk s M → RS H' s σ → Rep K F H' M → Tp H H' → D.bk σ H'
  ct : ∀ s M σ H', B.ct s M → RS H' s σ → Rep K F H' M → Tp H H' → D.ct σ H'
theorem DOk.up {K : PySem.W.Frag} {F H H1 : Hp} {B : Ab.Ends} {D : L2.Ends} (d : DOk K F H B D) (c : Tp H H1) : DOk K F H1 B D :=
  ⟨fun s M σ H' h r p t => d.nx s M σ H' h r p (c.trans t), fun s M σ H' h r p t => d.rt s M σ H' h r p (c.trans t), fun s M σ H' h r p t => d.bk s M σ H' h r p (c.trans t), fun s M σ H' h r p t => d.ct s M σ H' h r p (c.trans t)⟩
section
variable (K : PySem.W.Frag) (E : XK) (X : AX)
structure RE (t : L2.TE) (u : Ab.TE) : Prop where
  run : ∀ F σ H s M Q P, XOk K F H E X → RS H s σ → Rep K F H M → u s M P → (∀ a M' x H', P a M' → Rep K F H' M' → RV H' a x → Tp H H' → Q x H') → t σ H Q
structure RT (t : L2.TT) (u : Ab.TT) : Prop where
  run : ∀ F σ H s M Q P, XOk K F H E X → RS H s σ → Rep K F H M → u s M P → (∀ b M' H', P b M' → Rep K F H' M' → Tp H H' → Q b H') → t σ H Q
structure RA (t : L2.TA) (u : Ab.TA) : Prop where
  run : ∀ F σ H s M Q P, XOk K F H E X → RS H s σ → Rep K F H M → u s M P → (∀ as M' xs H', P as M' → Rep K F H' M' → RL H' as xs → Tp H H' → Q xs H') → t σ H Q
structure RP (t : L2.TO) (u : Ab.TO) : Prop where
  run : ∀ F σ H s M Q P, XOk K F H E X → RS H s σ → Rep K F H M → u s M P → (∀ b M' H', P b M' → Rep K F H' M' → Tp H H' → Q b H') → t σ H Q
structure RSt (t : L2.TS) (u : Ab.TS) : Prop where
  run : ∀ F σ H s M D B, XOk K F H E X → RS H s σ → Rep K F H M → u B s M → DOk K F H B D → t D σ H
structure RG (t : L2.TG) (u : Ab.TG) : Prop where
  run : ∀ F σ H s M v a Q P, XOk K F H E X → RV H a v → RS H s σ → Rep K F H M → u a s M P → (∀ s' M' σ' H', P s' M' → RS H' s' σ' → Rep K F H' M' → Tp H H' → Q σ' H') → t v σ H Q
structure RGs (t : L2.TGs) (u : Ab.TGs) : Prop where
  run : ∀ F σ H s M vs as Q P, XOk K F H E X → RL H as vs → RS H s σ → Rep K F H M → u as s M P → (∀ s' M' σ' H', P s' M' → RS H' s' σ' → Rep K F H' M' → Tp H H' → Q σ' H') → t vs σ H Q
/-- J walks xs as long as ok holds -/
structure Walks (F H0 : Hp) (J : It) (xs : List A) (ok : AM → Prop) : Prop where
  stop : ∀ H M, Tp H0 H → Rep K F H M → ok M → J.stop xs.length H
  go : ∀ i a H M, Tp H0 H → Rep K F H M → ok M → xs[i]? = some a → J.go i H ∧ ∀ x H', J.yld i H x H' → Rep K F H' M ∧ Tp H H' ∧ RV H' a x ∧ ∀ b o, H b = some o → H' b = some o
structure RI (t : L2.TI) (u : Ab.TI) : Prop where
  run : ∀ F σ H s M Q P, XOk K F H E X → RS H s σ → Rep K F H M → u s M P → (∀ xs ok M' J H', P xs ok M' → Rep K F H' M' → Tp H H' → (∀ F', (∀ a o, F a = some o → F' a = some o) → Walks K F' H' J xs ok) → Q J H') → t σ H Q
end
inductive REs (K : PySem.W.Frag) (E : XK) (X : AX) : List L2.TE → List Ab.TE → Prop where
  | nil : REs K E X [] []
  | cons {t : L2.TE} {u : Ab.TE} {ts : List L2.TE} {us : List Ab.TE} (h : RE K E X t u) (r : REs K E X ts us) : REs K E X (t :: ts) (u :: us)
section
variable (K : PySem.W.Frag)
structure RO2 (t : L2.R2) (u : Ab.R2) : Prop where
  run : ∀ F H M x y a b Q P, RV H a x → RV H b y → Rep K F H M → u a b M P → (∀ c M' z H', P c M' → Rep K F H' M' → RV H' c z → Tp H H' → Q z H') → t x y H Q
structure RO1 (t : V → Hp → VK → Prop) (u : Ab.R1) : Prop where
  run : ∀ F H M x a Q P, RV H a x → Rep K F H M → u a M P → (∀ c M' z H', P c M' → Rep K F H' M' → RV H' c z → Tp H H' → Q z H') → t x H Q
structure ROB (t : List V → Hp → VK → Prop) (u : Ab.RB) : Prop where
  run : ∀ F H M xs as Q P, RL H as xs → Rep K F H M → u as M P → (∀ c M' z H', P c M' → Rep K F H' M' → RV H' c z → Tp H H' → Q z H') → t xs H Q
structure ROM (t : V → List V → Hp → VK → Prop) (u : Ab.RM) : Prop where
  run : ∀ F H M x a xs as Q P, RV H a x → RL H as xs → Rep K F H M → u a as M P → (∀ c M' z H', P c M' → Rep K F H' M' → RV H' c z → Tp H H' → Q z H') → t x xs H Q
structure ROS (t : V → Option Int → Option Int → Hp → VK → Prop) (u : A → Option Int → Option Int → AM → AK → Prop) : Prop where
  run : ∀ F H M x a lo hi Q P, RV H a x → Rep K F H M → u a lo hi M P → (∀ c M' z H', P c M' → Rep K F H' M' → RV H' c z → Tp H H' → Q z H') → t x lo hi H Q
structure RSp (sp : Sp) (asp : ASp) : Prop where
  run : ∀ F vs as H M Q P E X, RL H as vs → Rep K F H M → asp as M P X → (∀ a M' x H', P a M' → Rep K F H' M' → RV H' a x → Tp H H' → Q x H') → XOk K F H E X → sp vs H Q E
end
/-- a promise over plain data, as one over the heap -/
def lift (K : PySem.W.Frag) (asp : ASp) : Sp := fun vs H Q E => ∃ F as M P X, RL H as vs ∧ Rep K F H M ∧ asp as M P X ∧ (∀ a M' x H', P a M' → Rep K F H' M' → RV H' a x → Tp H H' → Q x H') ∧ XOk K F H E X
theorem RSp.lift {K : PySem.W.Frag} {asp : ASp} : RSp K (lift K asp) asp := ⟨fun F vs as H M Q P E X h r a k x => ⟨F, as, M, P, X, h, r, a, k, x⟩⟩
def Wk (P : AK) : AK := fun a M => ∃ M0, Sub M0 M ∧ P a M0
/-- a body's reading from the one over plain data -/
theorem rd_of {K : PySem.W.Frag} {asp : ASp} {N : List Str} {t : L2.TS} {u : Ab.TS} {vs : List V} {H : Hp} {Q : VK} {E : XK} (rf : ∀ X, RSt K E X t u)
    (ab : ∀ as M P X, asp as M P X → u { nx := fun _ M' => Wk P .non M', rt := Wk P } (Ab.start N as) M) (h : lift K asp vs H Q E) : t { nx := fun _ H' => Q .non H', rt := Q } (L2.start N vs) H := by
  obtain ⟨F, as, M, P, X, hv, r, a, k, x⟩ := h
  refine (rf X).run F _ H _ M _ _ x (RS.startOf N hv) r (ab as M P X a) ⟨?_, ?_, fun _ _ _ _ h => h.elim, fun _ _ _ _ h => h.elim⟩
  · rintro s M' σ H' ⟨M0, h0, p⟩ _ r' c
    exact k _ M0 _ H' p (r'.sub h0) (RV.non_iff.mpr rfl) c
  · rintro a M' x H' ⟨M0, h0, p⟩ r' rv c
    exact k _ M0 _ H' p (r'.sub h0) rv c
/-- .. of a def that raises -/
theorem rd_ofX {K : PySem.W.Frag} {asp : ASp} {N : List Str} {t : XK → L2.TS} {u : AX → Ab.TS} {vs : List V} {H : Hp} {Q : VK} {E : XK} (rf : ∀ E X, RSt K E X (t E) (u X))
    (ab : ∀ as M P X, asp as M P X → u X { nx := fun _ M' => Wk P .non M', rt := Wk P } (Ab.start N as) M) (h : lift K asp vs H Q E) : t E { nx := fun _ H' => Q .non H', rt := Q } (L2.start N vs) H := by
  obtain ⟨F, as, M, P, X, hv, r, a, k, x⟩ := h
  refine (rf E X).run F _ H _ M _ _ x (RS.startOf N hv) r (ab as M P X a) ⟨?_, ?_, fun _ _ _ _ h => h.elim, fun _ _ _ _ h => h.elim⟩
  · rintro s M' σ H' ⟨M0, h0, p⟩ _ r' c
    exact k _ M0 _ H' p (r'.sub h0) (RV.non_iff.mpr rfl) c
  · rintro a M' x H' ⟨M0, h0, p⟩ r' rv c
    exact k _ M0 _ H' p (r'.sub h0) rv c
theorem lift_len {K : PySem.W.Frag} {asp : ASp} {n : Nat} {vs : List V} {H : Hp} {Q : VK} {E : XK} (l : ∀ as M P X, asp as M P X → as.length = n) (h : lift K asp vs H Q E) : vs.length = n := by
  obtain ⟨F, as, M, P, X, hv, r, a, k, x⟩ := h
  rw [hv.length]
  exact l _ _ _ _ a
theorem lift_no {K : PySem.W.Frag} {asp : ASp} (l : ∀ as M P X, ¬ asp as M P X) (vs : List V) (H : Hp) (Q : VK) (E : XK) : ¬ lift K asp vs H Q E := by
  rintro ⟨F, as, M, P, X, hv, r, a, k, x⟩
  exact l _ _ _ _ a
namespace Rf
section
variable {K : PySem.W.Frag} {E : XK} {X : AX}
/-! ### expressions -/
theorem tVar (i : Nat) : RE K E X (L2.tVar i) (Ab.tVar i) := ⟨fun F σ H s M Q P x r m ⟨a, e, p⟩ k => by
  obtain ⟨v, h1, h2⟩ := r.at_ i a e
  exact ⟨v, h1, k a M v H p m h2 (Tp.refl _)⟩⟩
theorem tC {v : V} {a : A} (h : ∀ H, RV H a v) : RE K E X (L2.tC v) (Ab.tC a) := ⟨fun F σ H s M Q P x r m p k => k a M v H p m (h H) (Tp.refl _)⟩
theorem tCint {i : Int} : RE K E X (L2.tC (.int i)) (Ab.tC (.int i)) := tC fun _ => RV.int_iff.mpr rfl
theorem tCstr {i : Str} : RE K E X (L2.tC (.str i)) (Ab.tC (.str i)) := tC fun _ => RV.str_iff.mpr rfl
theorem tCbl {i : Bool} : RE K E X (L2.tC (.bl i)) (Ab.tC (.bl i)) := tC fun _ => RV.bl_iff.mpr rfl
theorem tCnon : RE K E X (L2.tC .non) (Ab.tC .non) := tC fun _ => RV.non_iff.mpr rfl
theorem tCty {i : String} : RE K E X (L2.tC (.ty i)) (Ab.tC (.ty i)) := tC fun _ => RV.ty_iff.mpr rfl
theorem tCref {i : Addr} : RE K E X (L2.tC (.ref i)) (Ab.tC (.ref i)) := tC fun _ => RV.ref_iff.mpr rfl
theorem tOp {r : L2.R2} {r' : Ab.R2} {ta tb : L2.TE} {ua ub : Ab.TE} (h : RO2 K r r') (ha : RE K E X ta ua) (hb : RE K E X tb ub) : RE K E X (L2.tOp r ta tb) (Ab.tOp r' ua ub) := ⟨fun F σ H s M Q P x rs m p k =>
  ha.run F σ H s M _ _ x rs m p fun a M1 v H1 p1 m1 rv c1 => hb.run F σ H1 s M1 _ _ (x.up c1) (rs.up c1) m1 p1 fun b M2 w H2 p2 m2 rw c2 =>
    h.run F H2 M2 v w a b _ _ (rv.up c2) rw m2 p2 fun c M3 z H3 p3 m3 rz c3 => k c M3 z H3 p3 m3 rz ((c1.trans c2).trans c3)⟩
theorem tUn {r : V → Hp → VK → Prop} {r' : Ab.R1} {ta : L2.TE} {ua : Ab.TE} (h : RO1 K r r') (ha : RE K E X ta ua) : RE K E X (L2.tUn r ta) (Ab.tUn r' ua) := ⟨fun F σ H s M Q P x rs m p k =>
  ha.run F σ H s M _ _ x rs m p fun a M1 v H1 p1 m1 rv c1 => h.run F H1 M1 v a _ _ rv m1 p1 fun c M3 z H3 p3 m3 rz c3 => k c M3 z H3 p3 m3 rz (c1.trans c3)⟩
theorem tCB {r : List V → Hp → VK → Prop} {r' : Ab.RB} {t : L2.TA} {u : Ab.TA} (h : ROB K r r') (ha : RA K E X t u) : RE K E X (L2.tCB r t) (Ab.tCB r' u) := ⟨fun F σ H s M Q P x rs m p k =>
  ha.run F σ H s M _ _ x rs m p fun a M1 v H1 p1 m1 rv c1 => h.run F H1 M1 v a _ _ rv m1 p1 fun c M3 z H3 p3 m3 rz c3 => k c M3 z H3 p3 m3 rz (c1.trans c3)⟩
theorem tNil : RA K E X L2.tNil Ab.tNil := ⟨fun F σ H s M Q P x rs m p k => k [] M [] H p m RL.nil (Tp.refl _)⟩
theorem tCons {ta : L2.TE} {ua : Ab.TE} {tr : L2.TA} {ur : Ab.TA} (ha : RE K E X ta ua) (hr : RA K E X tr ur) : RA K E X (L2.tCons ta tr) (Ab.tCons ua ur) := ⟨fun F σ H s M Q P x rs m p k =>
  ha.run F σ H s M _ _ x rs m p fun a M1 v H1 p1 m1 rv c1 => hr.run F σ H1 s M1 _ _ (x.up c1) (rs.up c1) m1 p1 fun as M2 vs H2 p2 m2 rw c2 => k _ M2 _ H2 p2 m2 (RL.cons (rv.up c2) rw) (c1.trans c2)⟩
theorem tStar {ta : L2.TE} {ua : Ab.TE} {tr : L2.TA} {ur : Ab.TA} (ha : RE K E X ta ua) (hr : RA K E X tr ur) : RA K E X (StX.tStar K ta tr) (Ab.tStar K ua ur) := ⟨fun F σ H s M Q P x rs m p k =>
  ha.run F σ H s M _ _ x rs m p fun a M1 v H1 p1 m1 rv c1 => by
    rcases p1 with ⟨xs, rfl, p1⟩ | ⟨q, xs, rfl, hq, p1⟩
    · obtain ⟨b, vs, rfl, hb, rl⟩ := RV.tup_iff.mp rv
      exact ⟨b, vs, rfl, .inl (.inl (.inl hb)), hr.run F σ H1 s M1 _ _ (x.up c1) (rs.up c1) m1 p1 fun as M2 ws H2 p2 m2 rw c2 => k _ M2 _ H2 p2 m2 (RL.append (rl.up c2) rw) (c1.trans c2)⟩
    · cases RV.ref_iff.mp rv
      obtain ⟨vs, hb, rl⟩ := m1.at_ _ _ hq
      exact ⟨q, vs, rfl, .inr (.inl (.inl hb)), hr.run F σ H1 s M1 _ _ (x.up c1) (rs.up c1) m1 p1 fun as M2 ws H2 p2 m2 rw c2 => k _ M2 _ H2 p2 m2 (RL.append (rl.up c2) rw) (c1.trans c2)⟩⟩
theorem tTest {t : L2.TE} {u : Ab.TE} (h : RE K E X t u) : RT K E X (L2.tTest t) (Ab.tTest u) := ⟨fun F σ H s M Q P x rs m p k => h.run F σ H s M _ _ x rs m p fun a M1 v H1 ⟨b, e, p1⟩ m1 rv c1 => by
  subst e
  exact ⟨b, RV.bl_iff.mp rv, k b M1 H1 p1 m1 c1⟩⟩
theorem tB {t : L2.TE} {u : Ab.TE} (h : RE K E X t u) : RT K E X (L2.tB t) (Ab.tB u) := ⟨fun F σ H s M Q P x rs m p k => h.run F σ H s M _ _ x rs m p fun a M1 v H1 ⟨b, e, p1⟩ m1 rv c1 => by
  subst e
  exact ⟨b, RV.bl_iff.mp rv, k b M1 H1 p1 m1 c1⟩⟩
theorem tTru_ {t : L2.TE} {u : Ab.TE} (h : RE K E X t u) : RT K E X (My.tTru_ K t) (Ab.tTru_ K u) := ⟨fun F σ H s M Q P x rs m p k => h.run F σ H s M _ _ x rs m p fun a M1 v H1 p1 m1 rv c1 => by
  rcases p1 with ⟨q, xs, rfl, hq, p1⟩ | ⟨xs, rfl, p1⟩
  · cases RV.ref_iff.mp rv
    obtain ⟨vs, hb, rl⟩ := m1.at_ _ _ hq
    refine ⟨!vs.isEmpty, .inl ⟨vs, .inl (.inl hb), rfl⟩, ?_⟩
    have : vs.isEmpty = xs.isEmpty := by have := rl.length; cases vs <;> cases xs <;> simp_all
    rw [this]
    exact k _ M1 H1 p1 m1 c1
  · obtain ⟨b, vs, rfl, hb, rl⟩ := RV.tup_iff.mp rv
    refine ⟨!vs.isEmpty, .inr (.inl ⟨vs, .inl (.inl hb), rfl⟩), ?_⟩
    have : vs.isEmpty = xs.isEmpty := by have := rl.length; cases vs <;> cases xs <;> simp_all
    rw [this]
    exact k _ M1 H1 p1 m1 c1⟩
theorem tYes : RT K E X L2.tYes Ab.tYes := ⟨fun F σ H s M Q P x rs m p k => k true M H p m (Tp.refl _)⟩
theorem tNot {t : L2.TT} {u : Ab.TT} (h : RT K E X t u) : RT K E X (L2.tNot t) (Ab.tNot u) := ⟨fun F σ H s M Q P x rs m p k => h.run F σ H s M _ _ x rs m p fun b M1 H1 p1 m1 c1 => k _ M1 H1 p1 m1 c1⟩
theorem tAnd {t t' : L2.TT} {u u' : Ab.TT} (h : RT K E X t u) (h' : RT K E X t' u') : RT K E X (L2.tAnd t t') (Ab.tAnd u u') := ⟨fun F σ H s M Q P x rs m p k => h.run F σ H s M _ _ x rs m p fun b M1 H1 p1 m1 c1 => by
  cases b with
  | true =>
    rw [if_pos rfl] at p1 ⊢
    exact h'.run F σ H1 s M1 _ _ (x.up c1) (rs.up c1) m1 p1 fun b M2 H2 p2 m2 c2 => k _ M2 H2 p2 m2 (c1.trans c2)
  | false =>
    rw [if_neg Bool.false_ne_true] at p1 ⊢
    exact k _ M1 H1 p1 m1 c1⟩
theorem tOr {t t' : L2.TT} {u u' : Ab.TT} (h : RT K E X t u) (h' : RT K E X t' u') : RT K E X (L2.tOr t t') (Ab.tOr u u') := ⟨fun F σ H s M Q P x rs m p k => h.run F σ H s M _ _ x rs m p fun b M1 H1 p1 m1 c1 => by
  cases b with
  | true =>
    rw [if_pos rfl] at p1 ⊢
    exact k _ M1 H1 p1 m1 c1
  | false =>
    rw [if_neg Bool.false_ne_true] at p1 ⊢
    exact h'.run F σ H1 s M1 _ _ (x.up c1) (rs.up c1) m1 p1 fun b M2 H2 p2 m2 c2 => k _ M2 H2 p2 m2 (c1.trans c2)⟩
theorem tAndV {ta tb : L2.TE} {ua ub : Ab.TE} (ha : RE K E X ta ua) (hb : RE K E X tb ub) : RE K E X (L2.tAndV ta tb) (Ab.tAndV ua ub) := ⟨fun F σ H s M Q P x rs m p k => ha.run F σ H s M _ _ x rs m p fun a M1 v H1 ⟨b, e, p1⟩ m1 rv c1 => by
  subst e
  refine ⟨b, RV.bl_iff.mp rv, ?_⟩
  cases b with
  | true =>
    rw [if_pos rfl] at p1 ⊢
    exact hb.run F σ H1 s M1 _ _ (x.up c1) (rs.up c1) m1 p1 fun b M2 y H2 p2 m2 ry c2 => k _ M2 y H2 p2 m2 ry (c1.trans c2)
  | false =>
    rw [if_neg Bool.false_ne_true] at p1 ⊢
    exact k _ M1 _ H1 p1 m1 (RV.bl_iff.mpr rfl) c1⟩
theorem tOrV {ta tb : L2.TE} {ua ub : Ab.TE} (ha : RE K E X ta ua) (hb : RE K E X tb ub) : RE K E X (L2.tOrV ta tb) (Ab.tOrV ua ub) := ⟨fun F σ H s M Q P x rs m p k => ha.run F σ H s M _ _ x rs m p fun a M1 v H1 ⟨b, e, p1⟩ m1 rv c1 => by
  subst e
  refine ⟨b, RV.bl_iff.mp rv, ?_⟩
  cases b with
  | true =>
    rw [if_pos rfl] at p1 ⊢
    exact k _ M1 _ H1 p1 m1 (RV.bl_iff.mpr rfl) c1
  | false =>
    rw [if_neg Bool.false_ne_true] at p1 ⊢
    exact hb.run F σ H1 s M1 _ _ (x.up c1) (rs.up c1) m1 p1 fun b M2 y H2 p2 m2 ry c2 => k _ M2 y H2 p2 m2 ry (c1.trans c2)⟩
theorem tNotV {ta : L2.TE} {ua : Ab.TE} (ha : RE K E X ta ua) : RE K E X (L2.tNotV ta) (Ab.tNotV ua) := ⟨fun F σ H s M Q P x rs m p k => ha.run F σ H s M _ _ x rs m p fun a M1 v H1 ⟨b, e, p1⟩ m1 rv c1 => by
  subst e
  exact ⟨b, RV.bl_iff.mp rv, k _ M1 _ H1 p1 m1 (RV.bl_iff.mpr rfl) c1⟩⟩
theorem tIf {t : L2.TT} {u : Ab.TT} {ta tb : L2.TE} {ua ub : Ab.TE} (h : RT K E X t u) (ha : RE K E X ta ua) (hb : RE K E X tb ub) : RE K E X (L2.tIf t ta tb) (Ab.tIf u ua ub) := ⟨fun F σ H s M Q P x rs m p k => h.run F σ H s M _ _ x rs m p fun b M1 H1 p1 m1 c1 => by
  cases b with
  | true =>
    rw [if_pos rfl] at p1 ⊢
    exact ha.run F σ H1 s M1 _ _ (x.up c1) (rs.up c1) m1 p1 fun b M2 y H2 p2 m2 ry c2 => k _ M2 y H2 p2 m2 ry (c1.trans c2)
  | false =>
    rw [if_neg Bool.false_ne_true] at p1 ⊢
    exact hb.run F σ H1 s M1 _ _ (x.up c1) (rs.up c1) m1 p1 fun b M2 y H2 p2 m2 ry c2 => k _ M2 y H2 p2 m2 ry (c1.trans c2)⟩
theorem tChain {r r' : L2.R2} {q q' : Ab.R2} {ta tb tc : L2.TE} {ua ub uc : Ab.TE} (h : RO2 K r q) (h' : RO2 K r' q') (ha : RE K E X ta ua) (hb : RE K E X tb ub) (hc : RE K E X tc uc) : RE K E X (L2.tChain r r' ta tb tc) (Ab.tChain q q' ua ub uc) := ⟨fun F σ H s M Q P x rs m p k =>
  ha.run F σ H s M _ _ x rs m p fun a M1 v H1 p1 m1 rv c1 => hb.run F σ H1 s M1 _ _ (x.up c1) (rs.up c1) m1 p1 fun b M2 w H2 p2 m2 rw c2 =>
    h.run F H2 M2 v w a b _ _ (rv.up c2) rw m2 p2 fun c M3 z H3 ⟨e, e', p3⟩ m3 rz c3 => by
      subst e'
      have c13 := (c1.trans c2).trans c3
      refine ⟨e, RV.bl_iff.mp rz, ?_⟩
      cases e with
      | true =>
        rw [if_pos rfl] at p3 ⊢
        exact hc.run F σ H3 s M3 _ _ (x.up c13) (rs.up c13) m3 p3 fun d M4 y H4 p4 m4 ry c4 => h'.run F H4 M4 w y b d _ _ (rw.up (c3.trans c4)) ry m4 p4 fun d M5 y H5 p5 m5 ry c5 => k _ M5 y H5 p5 m5 ry (c13.trans (c4.trans c5))
      | false =>
        rw [if_neg Bool.false_ne_true] at p3 ⊢
        exact k _ M3 _ H3 p3 m3 (RV.bl_iff.mpr rfl) c13⟩
theorem tCall {sp : Sp} {asp : ASp} {t : L2.TA} {u : Ab.TA} (h : RSp K sp asp) (ha : RA K E X t u) : RE K E X (L2.tCall sp [] L2.E0 t) (Ab.tCall asp [] Ab.E0 u) := ⟨fun F σ H s M Q P x rs m p k =>
  ha.run F σ H s M _ _ x rs m p fun as M1 vs H1 p1 m1 rv c1 => by
    have e1 : vs ++ [] = vs := List.append_nil _
    have e2 : as ++ [] = as := List.append_nil _
    rw [e2] at p1
    rw [e1]
    exact h.run F vs as H1 M1 _ _ _ _ rv m1 p1 (fun a M2 z H2 p2 m2 rz c2 => k a M2 z H2 p2 m2 rz (c1.trans c2)) XOk.no⟩
theorem tCallX {sp : Sp} {asp : ASp} {t : L2.TA} {u : Ab.TA} (h : RSp K sp asp) (ha : RA K E X t u) : RE K E X (L2.tCall sp [] E t) (Ab.tCall asp [] X u) := ⟨fun F σ H s M Q P x rs m p k =>
  ha.run F σ H s M _ _ x rs m p fun as M1 vs H1 p1 m1 rv c1 => by
    have e1 : vs ++ [] = vs := List.append_nil _
    have e2 : as ++ [] = as := List.append_nil _
    rw [e2] at p1
    rw [e1]
    exact h.run F vs as H1 M1 _ _ _ _ rv m1 p1 (fun a M2 z H2 p2 m2 rz c2 => k a M2 z H2 p2 m2 rz (c1.trans c2)) (x.up c1)⟩
theorem tPart {t : L2.TE} {u : Ab.TE} (h : RE K E X t u) : RP K E X (L2.tPart t) (Ab.tPart u) := ⟨fun F σ H s M Q P x rs m p k => h.run F σ H s M _ _ x rs m p fun a M1 v H1 ⟨i, e, p1⟩ m1 rv c1 => by
  subst e
  exact ⟨i, RV.int_iff.mp rv, k _ M1 H1 p1 m1 c1⟩⟩
theorem tNoPart : RP K E X L2.tNoPart Ab.tNoPart := ⟨fun F σ H s M Q P x rs m p k => k none M H p m (Tp.refl _)⟩
theorem tSl {r : V → Option Int → Option Int → Hp → VK → Prop} {q : A → Option Int → Option Int → AM → AK → Prop} {te : L2.TE} {ue : Ab.TE} {tl th : L2.TO} {ul uh : Ab.TO} (h : ROS K r q) (ha : RE K E X te ue) (hl : RP K E X tl ul) (hh : RP K E X th uh) : RE K E X (L2.tSl r te tl th) (Ab.tSl q ue ul uh) := ⟨fun F σ H s M Q P x rs m p k =>
  ha.run F σ H s M _ _ x rs m p fun a M1 v H1 p1 m1 rv c1 => hl.run F σ H1 s M1 _ _ (x.up c1) (rs.up c1) m1 p1 fun lo M2 H2 p2 m2 c2 =>
    hh.run F σ H2 s M2 _ _ (x.up (c1.trans c2)) (rs.up (c1.trans c2)) m2 p2 fun hi M3 H3 p3 m3 c3 => h.run F H3 M3 v a lo hi _ _ (rv.up (c2.trans c3)) m3 p3 fun c M4 z H4 p4 m4 rz c4 => k c M4 z H4 p4 m4 rz ((c1.trans c2).trans (c3.trans c4))⟩
theorem tTup {t : L2.TA} {u : Ab.TA} (h : RA K E X t u) : RE K E X (L2.tTup t) (Ab.tTup u) := ⟨fun F σ H s M Q P x rs m p k => h.run F σ H s M _ _ x rs m p fun as M1 vs H1 ⟨l, p1⟩ m1 rv c1 => ⟨by rw [rv.length]; exact l, fun p hp =>
  k _ M1 _ _ p1 (m1.new hp _) (RV.tup_iff.mpr ⟨p, vs, rfl, upd_same, rv.up (Tp.new hp _)⟩) (c1.trans (Tp.new hp _))⟩⟩
theorem newL {F H : Hp} {M : AM} {as : List A} {vs : List V} {P : AK} {Q : VK} (m : Rep K F H M) (rv : RL H as vs) (h : Ab.newL as M P) (k : ∀ a M' x H', P a M' → Rep K F H' M' → RV H' a x → Tp H H' → Q x H') : ∀ p, H p = none → Q (.ref p) (upd H p (.lst vs)) := fun p hp =>
  k _ _ _ _ (h p (m.no hp)) (m.newL hp rv) (RV.ref_iff.mpr rfl) (Tp.new hp _)
theorem tLst {t : L2.TA} {u : Ab.TA} (h : RA K E X t u) : RE K E X (L2.tLst t) (Ab.tLst u) := ⟨fun F σ H s M Q P x rs m p k => h.run F σ H s M _ _ x rs m p fun as M1 vs H1 ⟨l, p1⟩ m1 rv c1 => ⟨by rw [rv.length]; exact l,
  newL m1 rv p1 fun a M2 z H2 p2 m2 rz c2 => k a M2 z H2 p2 m2 rz (c1.trans c2)⟩⟩
theorem isT {T : String} {a : A} {v : V} {M : AM} {F H : Hp} (m : Rep K F H M) (rv : RV H a v) (h : Ab.isT T a M) : tyV K T v H := by
  rcases h with ⟨rfl, p, xs, rfl, hp⟩ | ⟨rfl, p, kvs, rfl, hp⟩ | ⟨rfl, z, rfl⟩
  · cases RV.ref_iff.mp rv
    obtain ⟨vs, hb, rl⟩ := m.at_ _ _ hp
    exact .inl ⟨rfl, vs, .inl (.inl hb)⟩
  · cases RV.ref_iff.mp rv
    obtain ⟨vs, hb, rl⟩ := m.at_ _ _ hp
    exact .inr (.inr (.inl ⟨rfl, .inl ⟨vs, hb⟩⟩))
  · cases RV.str_iff.mp rv
    exact rfl
theorem tBM {T : String} {r : V → List V → Hp → VK → Prop} {q : Ab.RM} {to : L2.TE} {uo : Ab.TE} {t : L2.TA} {u : Ab.TA} (h : ROM K r q) (ho : RE K E X to uo) (ha : RA K E X t u) : RE K E X (L2.tBM K T r to t) (Ab.tBM K T q uo u) := ⟨fun F σ H s M Q P x rs m p k =>
  ho.run F σ H s M _ _ x rs m p fun a M1 v H1 ⟨hT, p1⟩ m1 rv c1 => ⟨isT m1 rv hT, ha.run F σ H1 s M1 _ _ (x.up c1) (rs.up c1) m1 p1 fun as M2 ws H2 p2 m2 rw c2 =>
    h.run F H2 M2 v a ws as _ _ (rv.up c2) rw m2 p2 fun c M3 z H3 p3 m3 rz c3 => k c M3 z H3 p3 m3 rz ((c1.trans c2).trans c3)⟩⟩
theorem tBM0 {T : String} {r : V → List V → Hp → VK → Prop} {q : Ab.RM} {to : L2.TE} {uo : Ab.TE} (h : ROM K r q) (ho : RE K E X to uo) : RE K E X (L2.tBM0 K T r to) (Ab.tBM0 K T q uo) := ⟨fun F σ H s M Q P x rs m p k =>
  ho.run F σ H s M _ _ x rs m p fun a M1 v H1 ⟨hT, p1⟩ m1 rv c1 => ⟨isT m1 rv hT, h.run F H1 M1 v a [] [] _ _ rv RL.nil m1 p1 fun c M3 z H3 p3 m3 rz c3 => k c M3 z H3 p3 m3 rz (c1.trans c3)⟩⟩
theorem tM1 {r : V → List V → Hp → VK → Prop} {q : Ab.RM} {to te : L2.TE} {uo ue : Ab.TE} (h : ROM K r q) (ho : RE K E X to uo) (ha : RE K E X te ue) : RE K E X (L2.tM1 r to te) (Ab.tM1 q uo ue) := ⟨fun F σ H s M Q P x rs m p k =>
  ho.run F σ H s M _ _ x rs m p fun a M1 v H1 ⟨⟨z, e⟩, p1⟩ m1 rv c1 => by
    subst e
    cases RV.str_iff.mp rv
    exact ⟨⟨z, rfl⟩, ha.run F σ H1 s M1 _ _ (x.up c1) (rs.up c1) m1 p1 fun as M2 ws H2 p2 m2 rw c2 =>
      h.run F H2 M2 _ _ [ws] [as] _ _ (RV.str_iff.mpr rfl) (RL.one rw) m2 p2 fun c M3 z H3 p3 m3 rz c3 => k c M3 z H3 p3 m3 rz ((c1.trans c2).trans c3)⟩⟩
theorem look {H : Hp} : ∀ {fs : List (Str × A)} {ys : List (Str × V)} {f : Str} {v : A}, RK H fs ys → valA fs f = some v → ∃ w, ys.lookup f = some w ∧ RV H v w
  | [], ys, f, v, h, e => by cases e
  | x :: xs, ys, f, v, h, e => by
    obtain ⟨⟨z1, z2⟩, zs, rfl, h1, h2, h3⟩ := h
    have h1 : x.1 = z1 := h1
    unfold valA at e
    rw [List.find?_cons] at e
    by_cases q : x.1 = f
    · simp only [q, decide_true, Option.map_some, Option.some.injEq] at e
      subst e
      refine ⟨z2, ?_, h2⟩
      rw [List.lookup_cons, ← h1, q]
      simp
    · simp only [q, decide_false] at e
      obtain ⟨w, h4, h5⟩ := look h3 e
      refine ⟨w, ?_, h5⟩
      rw [List.lookup_cons, ← h1]
      have : (f == x.1) = false := by simpa using fun z => q z.symm
      rw [this]
      exact h4
theorem lookN {H : Hp} : ∀ {fs : List (Str × A)} {ys : List (Str × V)} {f : Str}, RK H fs ys → valA fs f = none → ys.lookup f = none
  | [], ys, f, h, e => by rw [show ys = [] from h]; rfl
  | x :: xs, ys, f, h, e => by
    obtain ⟨⟨z1, z2⟩, zs, rfl, h1, h2, h3⟩ := h
    have h1 : x.1 = z1 := h1
    unfold valA at e
    rw [List.find?_cons] at e
    by_cases q : x.1 = f
    · simp only [q, decide_true, Option.map_some] at e
      cases e
    · simp only [q, decide_false] at e
      rw [List.lookup_cons, ← h1]
      have : (f == x.1) = false := by simpa using fun z => q z.symm
      rw [this]
      exact lookN h3 e
theorem tFld {ta : L2.TE} {ua : Ab.TE} {f : Str} (h : RE K E X ta ua) : RE K E X (L2.tFld K ta f) (Ab.tFld K ua f) := ⟨fun F σ H s M Q P x rs m p k =>
  h.run F σ H s M _ _ x rs m p fun a M1 v H1 ⟨l, C, fs, w, e, hl, hc, hn, hv, p1⟩ m1 rv c1 => by
    subst e
    cases RV.ref_iff.mp rv
    obtain ⟨dx, ys, h1, h2, h3⟩ := m1.at_ _ _ hl
    obtain ⟨w', h4, h5⟩ := look h3 hv
    exact ⟨l, C, dx, ys, w', rfl, h1, hc, hn, h4, k _ M1 _ H1 p1 m1 h5 c1⟩⟩
theorem tMeth {C : Addr} {mm : Str} {sp : Sp} {asp : ASp} {ta : L2.TE} {ua : Ab.TE} {t : L2.TA} {u : Ab.TA} (h : RSp K sp asp) (hs : RE K E X ta ua) (ha : RA K E X t u) : RE K E X (L2.tMeth C mm sp [] L2.E0 ta t) (Ab.tMeth C mm asp [] Ab.E0 ua u) := ⟨fun F σ H s M Q P x rs m p k =>
  hs.run F σ H s M _ _ x rs m p fun a M1 v H1 ⟨l, fs, e, hl, hn, p1⟩ m1 rv c1 => by
    subst e
    cases RV.ref_iff.mp rv
    obtain ⟨dx, ys, h1, h2, h3⟩ := m1.at_ _ _ hl
    refine ⟨l, dx, ys, rfl, h1, lookN h3 hn, ha.run F σ H1 s M1 _ _ (x.up c1) (rs.up c1) m1 p1 fun as M2 vs H2 p2 m2 rw c2 => ?_⟩
    have e1 : vs ++ [] = vs := List.append_nil _
    have e2 : as ++ [] = as := List.append_nil _
    rw [e2] at p2
    rw [e1]
    exact h.run F _ _ H2 M2 _ _ _ _ (RL.cons (RV.ref_iff.mpr rfl) rw) m2 p2 (fun a M2 z H2 p2 m2 rz c3 => k a M2 z H2 p2 m2 rz ((c1.trans c2).trans c3)) XOk.no⟩
theorem tMethX {C : Addr} {mm : Str} {sp : Sp} {asp : ASp} {ta : L2.TE} {ua : Ab.TE} {t : L2.TA} {u : Ab.TA} (h : RSp K sp asp) (hs : RE K E X ta ua) (ha : RA K E X t u) : RE K E X (L2.tMeth C mm sp [] E ta t) (Ab.tMeth C mm asp [] X ua u) := ⟨fun F σ H s M Q P x rs m p k =>
  hs.run F σ H s M _ _ x rs m p fun a M1 v H1 ⟨l, fs, e, hl, hn, p1⟩ m1 rv c1 => by
    subst e
    cases RV.ref_iff.mp rv
    obtain ⟨dx, ys, h1, h2, h3⟩ := m1.at_ _ _ hl
    refine ⟨l, dx, ys, rfl, h1, lookN h3 hn, ha.run F σ H1 s M1 _ _ (x.up c1) (rs.up c1) m1 p1 fun as M2 vs H2 p2 m2 rw c2 => ?_⟩
    have e1 : vs ++ [] = vs := List.append_nil _
    have e2 : as ++ [] = as := List.append_nil _
    rw [e2] at p2
    rw [e1]
    exact h.run F _ _ H2 M2 _ _ _ _ (RL.cons (RV.ref_iff.mpr rfl) rw) m2 p2 (fun a M2 z H2 p2 m2 rz c3 => k a M2 z H2 p2 m2 rz ((c1.trans c2).trans c3)) (x.up (c1.trans c2))⟩
theorem mk {F H : Hp} {M : AM} {x dx C : Addr} (m : Rep K F H M) (hx : H x = none) (hd : H dx = none) (n : dx ≠ x) : Rep K F (upd (upd H dx (.own x)) x (.ins C dx [])) (aupd M x (.ins C [])) ∧ Tp H (upd (upd H dx (.own x)) x (.ins C dx [])) := by
  have c1 := Tp.new hd (.own x)
  have m1 := m.new hd (.own x)
  have hx1 : upd H dx (.own x) x = none := by rw [upd_ne (fun z => n z.symm)]; exact hx
  have c2 := Tp.new hx1 (.ins C dx [])
  refine ⟨(m1.new hx1 _).tell (m1.free hx1) ⟨dx, [], upd_same, ?_, rfl⟩, c1.trans c2⟩
  rw [upd_ne n, upd_same]
theorem tMake {C : Addr} {sp : Sp} {asp : ASp} {t : L2.TA} {u : Ab.TA} (h : RSp K sp asp) (ha : RA K E X t u) : RE K E X (L2.tMake C sp [] L2.E0 t) (Ab.tMake C asp [] Ab.E0 u) := ⟨fun F σ H s M Q P x rs m p k =>
  ha.run F σ H s M _ _ x rs m p fun as M1 vs H1 p1 m1 rv c1 l dx hl hdx n => by
    have e1 : vs ++ [] = vs := List.append_nil _
    obtain ⟨m2, c2⟩ := mk (C := C) m1 hl hdx n
    have p2 := p1 l (m1.no hl)
    have e2 : as ++ [] = as := List.append_nil _
    rw [e2] at p2
    rw [e1]
    refine h.run F _ _ _ _ _ _ _ _ (RL.cons (RV.ref_iff.mpr rfl) (rv.up c2)) m2 p2 (fun a M3 z H3 ⟨e, p3⟩ m3 rz c3 => ?_) XOk.no
    subst e
    exact ⟨RV.non_iff.mp rz, k _ M3 _ H3 p3 m3 (RV.ref_iff.mpr rfl) ((c1.trans c2).trans c3)⟩⟩
theorem tMakeX {C : Addr} {sp : Sp} {asp : ASp} {t : L2.TA} {u : Ab.TA} (h : RSp K sp asp) (ha : RA K E X t u) : RE K E X (L2.tMake C sp [] E t) (Ab.tMake C asp [] X u) := ⟨fun F σ H s M Q P x rs m p k =>
  ha.run F σ H s M _ _ x rs m p fun as M1 vs H1 p1 m1 rv c1 l dx hl hdx n => by
    have e1 : vs ++ [] = vs := List.append_nil _
    obtain ⟨m2, c2⟩ := mk (C := C) m1 hl hdx n
    have p2 := p1 l (m1.no hl)
    have e2 : as ++ [] = as := List.append_nil _
    rw [e2] at p2
    rw [e1]
    refine h.run F _ _ _ _ _ _ _ _ (RL.cons (RV.ref_iff.mpr rfl) (rv.up c2)) m2 p2 (fun a M3 z H3 ⟨e, p3⟩ m3 rz c3 => ?_) (x.up (c1.trans c2))
    subst e
    exact ⟨RV.non_iff.mp rz, k _ M3 _ H3 p3 m3 (RV.ref_iff.mpr rfl) ((c1.trans c2).trans c3)⟩⟩
/-! dicts -/
theorem tDNewK : RE K E X L2.tDNewK Ab.tDNewK := ⟨fun F σ H s M Q P x rs m p k q hq => k _ _ _ _ (p q (m.no hq)) ((m.new hq _).tell (m.free hq) ⟨[], upd_same, rfl⟩) (RV.ref_iff.mpr rfl) (Tp.new hq _)⟩
theorem key {H : Hp} {y : A} {v : V} {k : Key} (h : RV H y v) (e : Ab.keyA y = some k) : v = kV k := by
  cases y <;> simp only [Ab.keyA, Option.some.injEq, reduceCtorEq] at e
  · subst e; exact RV.int_iff.mp h
  · subst e; exact RV.str_iff.mp h
theorem tDGet {td ty : L2.TE} {ud uy : Ab.TE} (hd : RE K E X td ud) (hy : RE K E X ty uy) : RE K E X (L2.tDGet td ty) (Ab.tDGet ud uy) := ⟨fun F σ H s M Q P x rs m p k =>
  hd.run F σ H s M _ _ x rs m p fun a M1 v H1 p1 m1 rv c1 => hy.run F σ H1 s M1 _ _ (x.up c1) (rs.up c1) m1 p1 fun b M2 w H2 ⟨l, kvs, kk, val, e, hl, hk, hv, p2⟩ m2 rw c2 => by
    subst e
    cases RV.ref_iff.mp rv
    obtain ⟨ys, h1, h2⟩ := m2.at_ _ _ hl
    rcases h2.val (k := kk) with ⟨a', v', e1, e2, r⟩ | ⟨e1, e2⟩
    · rw [hv] at e1
      cases e1
      refine ⟨l, v', rfl, .inl ⟨ys, kk, .inl h1, key rw hk, e2.symm⟩, k _ M2 _ H2 p2 m2 r (c1.trans c2)⟩
    · rw [hv] at e1; cases e1⟩
theorem tDIn {td ty : L2.TE} {ud uy : Ab.TE} (hy : RE K E X ty uy) (hd : RE K E X td ud) : RE K E X (L2.tDIn ty td) (Ab.tDIn uy ud) := ⟨fun F σ H s M Q P x rs m p k =>
  hy.run F σ H s M _ _ x rs m p fun a M1 v H1 p1 m1 rv c1 => hd.run F σ H1 s M1 _ _ (x.up c1) (rs.up c1) m1 p1 fun b M2 w H2 ⟨l, kvs, kk, e, hl, hk, p2⟩ m2 rw c2 => by
    subst e
    cases RV.ref_iff.mp rw
    obtain ⟨ys, h1, h2⟩ := m2.at_ _ _ hl
    refine ⟨l, valV ys kk, rfl, .inl ⟨ys, kk, .inl h1, key (rv.up c2) hk, rfl⟩, ?_⟩
    rcases h2.val (k := kk) with ⟨a', v', e1, e2, r⟩ | ⟨e1, e2⟩
    · rw [e1] at p2; rw [e2]; exact k _ M2 _ H2 p2 m2 (RV.bl_iff.mpr rfl) (c1.trans c2)
    · rw [e1] at p2; rw [e2]; exact k _ M2 _ H2 p2 m2 (RV.bl_iff.mpr rfl) (c1.trans c2)⟩
theorem tDNotIn {td ty : L2.TE} {ud uy : Ab.TE} (hy : RE K E X ty uy) (hd : RE K E X td ud) : RE K E X (L2.tDNotIn ty td) (Ab.tDNotIn uy ud) := ⟨fun F σ H s M Q P x rs m p k =>
  hy.run F σ H s M _ _ x rs m p fun a M1 v H1 p1 m1 rv c1 => hd.run F σ H1 s M1 _ _ (x.up c1) (rs.up c1) m1 p1 fun b M2 w H2 ⟨l, kvs, kk, e, hl, hk, p2⟩ m2 rw c2 => by
    subst e
    cases RV.ref_iff.mp rw
    obtain ⟨ys, h1, h2⟩ := m2.at_ _ _ hl
    refine ⟨l, valV ys kk, rfl, .inl ⟨ys, kk, .inl h1, key (rv.up c2) hk, rfl⟩, ?_⟩
    rcases h2.val (k := kk) with ⟨a', v', e1, e2, r⟩ | ⟨e1, e2⟩
    · rw [e1] at p2; rw [e2]; exact k _ M2 _ H2 p2 m2 (RV.bl_iff.mpr rfl) (c1.trans c2)
    · rw [e1] at p2; rw [e2]; exact k _ M2 _ H2 p2 m2 (RV.bl_iff.mpr rfl) (c1.trans c2)⟩
theorem tDGet2 {td ty tx : L2.TE} {ud uy ux : Ab.TE} (hd : RE K E X td ud) (hy : RE K E X ty uy) (hx : RE K E X tx ux) : RE K E X (L2.tDGet2 td ty tx) (Ab.tDGet2 ud uy ux) := ⟨fun F σ H s M Q P x rs m p k =>
  hd.run F σ H s M _ _ x rs m p fun a M1 v H1 ⟨l, kvs0, e, hl0, p1⟩ m1 rv c1 => by
    subst e
    cases RV.ref_iff.mp rv
    obtain ⟨ys0, h0, _⟩ := m1.at_ _ _ hl0
    refine ⟨l, rfl, isD_of h0, hy.run F σ H1 s M1 _ _ (x.up c1) (rs.up c1) m1 p1 fun b M2 w H2 p2 m2 rw c2 => hx.run F σ H2 s M2 _ _ (x.up (c1.trans c2)) (rs.up (c1.trans c2)) m2 p2 fun d M3 z H3 ⟨kvs, kk, hl, hk, p3⟩ m3 rz c3 => ?_⟩
    obtain ⟨ys, h1, h2⟩ := m3.at_ _ _ hl
    refine ⟨valV ys kk, .inl ⟨ys, kk, .inl h1, key (rw.up c3) hk, rfl⟩, ?_⟩
    rcases h2.val (k := kk) with ⟨a', v', e1, e2, r⟩ | ⟨e1, e2⟩
    · rw [e1] at p3; rw [e2]; exact k _ M3 _ H3 p3 m3 r ((c1.trans c2).trans c3)
    · rw [e1] at p3; rw [e2]; exact k _ M3 _ H3 p3 m3 rz ((c1.trans c2).trans c3)⟩
theorem sDPut {td ty tv : L2.TE} {ud uy uv : Ab.TE} (hd : RE K E X td ud) (hy : RE K E X ty uy) (hv : RE K E X tv uv) : RSt K E X (L2.sDPut td ty tv) (Ab.sDPut ud uy uv) := ⟨fun F σ H s M D B x rs m p k =>
  hv.run F σ H s M _ _ x rs m p fun a M1 v H1 p1 m1 rv c1 => hd.run F σ H1 s M1 _ _ (x.up c1) (rs.up c1) m1 p1 fun b M2 w H2 p2 m2 rw c2 => hy.run F σ H2 s M2 _ _ (x.up (c1.trans c2)) (rs.up (c1.trans c2)) m2 p2 fun d M3 z H3 ⟨l, kvs, kk, e, hl, hk, hz, p3⟩ m3 rz c3 => by
    subst e
    cases RV.ref_iff.mp (rw.up c3)
    obtain ⟨ys, h1, h2⟩ := m3.at_ _ _ hl
    have hc : Tp H3 (upd H3 l (.dK (putK ys kk v))) := Tp.set h1 (fun _ z => nomatch z) _
    refine ⟨l, _, rfl, .inl ⟨ys, kk, h1, key rz hk, by rw [h2.length]; exact hz, rfl⟩, k.nx _ _ _ _ p3 (rs.up (((c1.trans c2).trans c3).trans hc)) ?_ (((c1.trans c2).trans c3).trans hc)⟩
    exact m3.set hl h1 (fun _ z => nomatch z) (fun _ z => nomatch z) _ ⟨_, upd_same, (RK.put ((rv.up (c2.trans c3))) h2).up hc⟩⟩
/-! f-strings -/
theorem tJs {ts : List L2.TE} {us : List Ab.TE} (h : REs K E X ts us) : ∀ (acc : Str) F σ H s M Q P, XOk K F H E X → RS H s σ → Rep K F H M → Ab.tJs us acc s M P → (∀ z M' H', P z M' → Rep K F H' M' → Tp H H' → Q z H') → L2.tJs ts acc σ H Q := by
  induction h with
  | nil => exact fun acc F σ H s M Q P x rs m p k => k acc M H p m (Tp.refl _)
  | cons h _ ih =>
    exact fun acc F σ H s M Q P x rs m p k => h.run F σ H s M _ _ x rs m p fun a M1 v H1 ⟨y, e, hz, p1⟩ m1 rv c1 => by
      subst e
      exact ⟨y, RV.str_iff.mp rv, hz, ih _ F σ H1 s M1 _ _ (x.up c1) (rs.up c1) m1 p1 fun z M2 H2 p2 m2 c2 => k z M2 H2 p2 m2 (c1.trans c2)⟩
theorem tJoined {ts : List L2.TE} {us : List Ab.TE} (h : REs K E X ts us) : RE K E X (My.tJoined ts) (Ab.tJoined us) := ⟨fun F σ H s M Q P x rs m p k => tJs h _ F σ H s M _ _ x rs m p fun z M1 H1 p1 m1 c1 => k _ M1 _ H1 p1 m1 (RV.str_iff.mpr rfl) c1⟩
theorem tFmt {te : L2.TE} {ue : Ab.TE} (h : RE K E X te ue) : RE K E X (L2.tFmt te) (Ab.tFmt ue) := ⟨fun F σ H s M Q P x rs m p k => h.run F σ H s M _ _ x rs m p fun a M1 v H1 p1 m1 rv c1 => by
  rcases p1 with ⟨y, rfl, hz, p1⟩ | ⟨i, rfl, hz, p1⟩
  · exact .inl ⟨y, RV.str_iff.mp rv, hz, k _ M1 _ H1 p1 m1 (RV.str_iff.mpr rfl) c1⟩
  · exact .inr ⟨i, RV.int_iff.mp rv, hz, k _ M1 _ H1 p1 m1 (RV.str_iff.mpr rfl) c1⟩⟩
end
end Rf
end My

/-! Rf2: relations, targets, statements, loops, comprehensions. -/
namespace My
open PySem PySem.Spec PyProof.Rows L2
set_option autoImplicit false
namespace Rf
section
variable {K : PySem.W.Frag} {E : XK} {X : AX}
theorem rI {C : Int → Int → Prop} {g : Int → Int → V} {g' : Int → Int → A} (h : ∀ i j H, RV H (g' i j) (g i j)) : RO2 K (L2.rI C g) (Ab.rI C g') := ⟨fun F H M x y a b Q P ra rb m ⟨i, j, e1, e2, c, p⟩ k => by
  subst e1 e2
  exact ⟨i, j, RV.int_iff.mp ra, RV.int_iff.mp rb, c, k _ M _ H p m (h i j H) (Tp.refl _)⟩⟩
theorem rI0 {g : Int → Int → V} {g' : Int → Int → A} (h : ∀ i j H, RV H (g' i j) (g i j)) : RO2 K (L2.rI0 g) (Ab.rI0 g') := ⟨fun F H M x y a b Q P ra rb m ⟨i, j, e1, e2, p⟩ k => by
  subst e1 e2
  exact ⟨i, j, RV.int_iff.mp ra, RV.int_iff.mp rb, k _ M _ H p m (h i j H) (Tp.refl _)⟩⟩
theorem rU {g : Int → V} {g' : Int → A} (h : ∀ i H, RV H (g' i) (g i)) : RO1 K (L2.rU g) (Ab.rU g') := ⟨fun F H M x a Q P ra m ⟨i, e1, p⟩ k => by
  subst e1
  exact ⟨i, RV.int_iff.mp ra, k _ M _ H p m (h i H) (Tp.refl _)⟩⟩
theorem ipI {g : Int → Int → Int} : RO2 K (L2.ipI g) (Ab.ipI g) := ⟨fun F H M x y a b Q P ra rb m ⟨i, j, e1, e2, p⟩ k => by
  subst e1 e2
  exact ⟨i, j, RV.int_iff.mp ra, RV.int_iff.mp rb, k _ M _ H p m (RV.int_iff.mpr rfl) (Tp.refl _)⟩⟩
theorem rAddS_ : RO2 K My.rAddS_ Ab.rAddS_ := ⟨fun F H M x y a b Q P ra rb m ⟨i, j, e1, e2, c, p⟩ k => by
  subst e1 e2
  exact ⟨i, j, RV.str_iff.mp ra, RV.str_iff.mp rb, c, k _ M _ H p m (RV.str_iff.mpr rfl) (Tp.refl _)⟩⟩
theorem rInS_ : RO2 K My.rInS_ Ab.rInS_ := ⟨fun F H M x y a b Q P ra rb m ⟨i, j, e1, e2, p⟩ k => by
  subst e1 e2
  exact ⟨i, j, RV.str_iff.mp ra, RV.str_iff.mp rb, k _ M _ H p m (RV.bl_iff.mpr rfl) (Tp.refl _)⟩⟩
theorem rNotInS_ : RO2 K My.rNotInS_ Ab.rNotInS_ := ⟨fun F H M x y a b Q P ra rb m ⟨i, j, e1, e2, p⟩ k => by
  subst e1 e2
  exact ⟨i, j, RV.str_iff.mp ra, RV.str_iff.mp rb, k _ M _ H p m (RV.bl_iff.mpr rfl) (Tp.refl _)⟩⟩
theorem eqA {H : Hp} {x y : V} {a b : A} {c : Bool} (ra : RV H a x) (rb : RV H b y) (e : Ab.eqA a b = some c) : scal x y = true ∧ decide (x = y) = c := by
  cases a <;> cases b <;> simp only [Ab.eqA, Option.some.injEq, reduceCtorEq] at e
  · cases RV.bl_iff.mp ra; cases RV.bl_iff.mp rb; exact ⟨rfl, by rw [← e]; simp⟩
  · cases RV.int_iff.mp ra; cases RV.int_iff.mp rb; exact ⟨rfl, by rw [← e]; simp⟩
  · cases RV.str_iff.mp ra; cases RV.str_iff.mp rb; exact ⟨rfl, by rw [← e]; simp⟩
theorem rEq : RO2 K L2.rEq Ab.rEq := ⟨fun F H M x y a b Q P ra rb m ⟨c, e, p⟩ k => by
  obtain ⟨h1, h2⟩ := eqA ra rb e
  exact ⟨h1, by rw [h2]; exact k _ M _ H p m (RV.bl_iff.mpr rfl) (Tp.refl _)⟩⟩
theorem rNe : RO2 K L2.rNe Ab.rNe := ⟨fun F H M x y a b Q P ra rb m ⟨c, e, p⟩ k => by
  obtain ⟨h1, h2⟩ := eqA ra rb e
  exact ⟨h1, by rw [h2]; exact k _ M _ H p m (RV.bl_iff.mpr rfl) (Tp.refl _)⟩⟩
theorem non_ne {H : Hp} {x : V} {a : A} (ra : RV H a x) (h : a ≠ .non) : x ≠ .non := by
  intro e
  subst e
  cases a with
  | non => exact h rfl
  | tup as => obtain ⟨b, vs, e, _⟩ := RV.tup_iff.mp ra; cases e
  | _ => simp only [RV] at ra; cases ra
theorem rIsN_ : RO2 K My.rIsN_ Ab.rIsN_ := ⟨fun F H M x y a b Q P ra rb m ⟨e, p⟩ k => by
  subst e
  refine ⟨RV.non_iff.mp rb, ?_⟩
  rcases p with ⟨rfl, p⟩ | ⟨n, p⟩
  · cases RV.non_iff.mp ra
    exact k _ M _ H p m (RV.bl_iff.mpr rfl) (Tp.refl _)
  · exact k _ M _ H p m (RV.bl_iff.mpr (by simp [non_ne ra n])) (Tp.refl _)⟩
theorem rNotN_ : RO2 K My.rNotN_ Ab.rNotN_ := ⟨fun F H M x y a b Q P ra rb m ⟨e, p⟩ k => by
  subst e
  refine ⟨RV.non_iff.mp rb, ?_⟩
  rcases p with ⟨rfl, p⟩ | ⟨n, p⟩
  · cases RV.non_iff.mp ra
    exact k _ M _ H p m (RV.bl_iff.mpr rfl) (Tp.refl _)
  · exact k _ M _ H p m (RV.bl_iff.mpr (by simp [non_ne ra n])) (Tp.refl _)⟩
theorem items {F H : Hp} {M : AM} {a : A} {x : V} {xs : List A} (m : Rep K F H M) (ra : RV H a x) (h : Ab.itemsA a M xs) : ∃ p vs, x = .ref p ∧ (SqL K H p vs ∨ SqT K H p vs) ∧ RL H xs vs ∧ ((∃ q, a = .ref q) → H p = some (.lst vs)) ∧ ((∃ as, a = .tup as) → H p = some (.tup vs)) := by
  rcases h with rfl | ⟨p, rfl, hp⟩
  · obtain ⟨p, vs, rfl, h1, h2⟩ := RV.tup_iff.mp ra
    exact ⟨p, vs, rfl, .inr (.inl (.inl h1)), h2, (fun ⟨_, z⟩ => nomatch z), fun _ => h1⟩
  · cases RV.ref_iff.mp ra
    obtain ⟨vs, h1, h2⟩ := m.at_ _ _ hp
    exact ⟨p, vs, rfl, .inl (.inl (.inl h1)), h2, (fun _ => h1), fun ⟨_, z⟩ => nomatch z⟩
theorem in_int {i : Int} (is : List Int) : inV (.int i) (is.map V.int) = decide (i ∈ is) := by
  induction is with
  | nil => rfl
  | cons j is ih =>
    have : inV (.int i) ((j :: is).map V.int) = (eqV (.int j) (.int i) || inV (.int i) (is.map V.int)) := rfl
    rw [this, ih]
    by_cases e : j = i
    · subst e; simp [eqV]
    · have e2 : ¬ i = j := fun z => e z.symm
      have : eqV (.int j) (.int i) = false := by simp [eqV, e]
      rw [this]
      simp [e2]
theorem in_str {i : Str} (is : List Str) : inV (.str i) (is.map V.str) = decide (i ∈ is) := by
  induction is with
  | nil => rfl
  | cons j is ih =>
    have : inV (.str i) ((j :: is).map V.str) = (eqV (.str j) (.str i) || inV (.str i) (is.map V.str)) := rfl
    rw [this, ih]
    by_cases e : j = i
    · subst e; simp [eqV]
    · have e2 : ¬ i = j := fun z => e z.symm
      have : eqV (.str j) (.str i) = false := by simp [eqV, e]
      rw [this]
      simp [e2]
theorem flat_ints (is : List Int) : (is.map V.int).all flatV = true := by simp [List.all_map, flatV]
theorem flat_strs (is : List Str) : (is.map V.str).all flatV = true := by simp [List.all_map, flatV]
theorem rIn {neg : Bool} : RO2 K (L2.rIn K neg) (Ab.rIn K neg) := ⟨fun F H M x y a b Q P ra rb m p k => by
  rcases p with ⟨i, is, rfl, hi, p⟩ | ⟨i, is, rfl, hi, p⟩
  · cases RV.int_iff.mp ra
    obtain ⟨q, vs, rfl, h1, h2, _⟩ := items m rb hi
    cases RL.ints_inv h2
    exact ⟨q, _, rfl, h1, rfl, flat_ints is, by rw [in_int]; exact k _ M _ H p m (RV.bl_iff.mpr rfl) (Tp.refl _)⟩
  · cases RV.str_iff.mp ra
    obtain ⟨q, vs, rfl, h1, h2, _⟩ := items m rb hi
    cases RL.strs_inv h2
    exact ⟨q, _, rfl, h1, rfl, flat_strs is, by rw [in_str]; exact k _ M _ H p m (RV.bl_iff.mpr rfl) (Tp.refl _)⟩⟩
theorem atI {H : Hp} {as : List A} {vs : List V} {i : Int} {a : A} (r : RL H as vs) (h : L2.atI as i = some a) : ∃ v, L2.atI vs i = some v ∧ RV H a v := by
  unfold L2.atI at h ⊢
  rw [r.length]
  cases q : ixN as.length i with
  | none => rw [q] at h; cases h
  | some j => rw [q] at h; exact r.get' h
theorem rIxL : RO2 K (L2.rIxL K) (Ab.rIxL K) := ⟨fun F H M x y a b Q P ra rb m ⟨l, xs, i, v, e1, e2, hl, hi, p⟩ k => by
  subst e1 e2
  cases RV.ref_iff.mp ra
  cases RV.int_iff.mp rb
  obtain ⟨vs, h1, h2⟩ := m.at_ _ _ hl
  obtain ⟨w, h3, h4⟩ := atI h2 hi
  exact ⟨l, vs, i, w, rfl, rfl, .inl (.inl h1), h3, k _ M _ H p m h4 (Tp.refl _)⟩⟩
theorem rIxT : RO2 K (L2.rIxT K) (Ab.rIxT K) := ⟨fun F H M x y a b Q P ra rb m ⟨xs, i, v, e1, e2, hi, p⟩ k => by
  subst e1 e2
  obtain ⟨l, vs, rfl, h1, h2⟩ := RV.tup_iff.mp ra
  cases RV.int_iff.mp rb
  obtain ⟨w, h3, h4⟩ := atI h2 hi
  exact ⟨l, vs, i, w, rfl, rfl, .inl (.inl h1), h3, k _ M _ H p m h4 (Tp.refl _)⟩⟩
theorem rIxS : RO2 K L2.rIxS Ab.rIxS := ⟨fun F H M x y a b Q P ra rb m ⟨z, i, c, e1, e2, hz, hi, p⟩ k => by
  subst e1 e2
  cases RV.str_iff.mp ra
  cases RV.int_iff.mp rb
  exact ⟨z, i, c, rfl, rfl, hz, hi, k _ M _ H p m (RV.str_iff.mpr rfl) (Tp.refl _)⟩⟩
theorem cut {H : Hp} {as : List A} {vs : List V} (lo hi : Option Int) (r : RL H as vs) : RL H (Ab.cutA as lo hi) (cutV vs lo hi) := by
  unfold Ab.cutA cutV
  rw [r.length]
  exact (r.drop _).take _
theorem rSlL : ROS K (L2.rSlL K) (Ab.rSlL K) := ⟨fun F H M x a lo hi Q P ra m ⟨l, xs, e1, hl, p⟩ k => by
  subst e1
  cases RV.ref_iff.mp ra
  obtain ⟨vs, h1, h2⟩ := m.at_ _ _ hl
  exact ⟨l, vs, rfl, .inl (.inl h1), newL m (cut lo hi h2) p k⟩⟩
theorem newT {F H : Hp} {M : AM} {as : List A} {vs : List V} {P : AK} {Q : VK} (m : Rep K F H M) (rv : RL H as vs) (h : P (.tup as) M) (k : ∀ a M' x H', P a M' → Rep K F H' M' → RV H' a x → Tp H H' → Q x H') : ∀ p, H p = none → Q (.ref p) (upd H p (.tup vs)) := fun p hp =>
  k _ M _ _ h (m.new hp _) (RV.tup_iff.mpr ⟨p, vs, rfl, upd_same, rv.up (Tp.new hp _)⟩) (Tp.new hp _)
theorem rSlA : ROS K (L2.rSlA K) (Ab.rSlA K) := ⟨fun F H M x a lo hi Q P ra m ⟨xs, e1, p⟩ k => by
  subst e1
  obtain ⟨l, vs, rfl, h1, h2⟩ := RV.tup_iff.mp ra
  refine ⟨l, vs, rfl, .inl (.inl h1), fun ⟨w1, w2⟩ => ?_, fun _ => newT m (cut lo hi h2) p k⟩
  have : Ab.cutA xs lo hi = xs := by
    unfold Ab.cutA
    rw [h2.length] at w1 w2
    rw [w1, w2]
    simp
  rw [this] at p
  exact k _ M _ H p m ra (Tp.refl _)⟩
theorem rSlT : ROS K (L2.rSlT K) (Ab.rSlT K) := ⟨fun F H M x a lo hi Q P ra m ⟨xs, e1, e2, e3, ne, p⟩ k => by
  subst e1 e2 e3
  obtain ⟨l, vs, rfl, h1, h2⟩ := RV.tup_iff.mp ra
  have hs : HT.sIx vs.length 0 (some 1) = min 1 vs.length := HT.sIx_nat _ _ 1
  have hl := h2.length
  have hv : 1 ≤ vs.length := by
    cases xs with
    | nil => exact absurd rfl ne
    | cons _ _ => rw [hl]; simp
  refine ⟨l, vs, rfl, .inl (.inl h1), ?_, ?_⟩
  · rintro ⟨z, _⟩
    rw [hs] at z
    omega
  · have hc : cutV vs (some 1) none = vs.drop 1 := by
      unfold cutV
      rw [hs, HT.sIx_none]
      have : min 1 vs.length = 1 := by omega
      rw [this]
      exact List.take_of_length_le (by simp)
    rw [hc]
    exact newT m (h2.drop 1) p k⟩
theorem rSlS : ROS K L2.rSlS Ab.rSlS := ⟨fun F H M x a lo hi Q P ra m ⟨z, e1, hz, p⟩ k => by
  subst e1
  exact ⟨z, RV.str_iff.mp ra, hz, k _ M _ H p m (RV.str_iff.mpr rfl) (Tp.refl _)⟩⟩
theorem rCat : RO2 K L2.rCat Ab.rCat := ⟨fun F H M x y a b Q P ra rb m ⟨l, q, xs, ys, e1, e2, hl, hq, hz, p⟩ k => by
  subst e1 e2
  cases RV.ref_iff.mp ra
  cases RV.ref_iff.mp rb
  obtain ⟨vs, h1, h2⟩ := m.at_ _ _ hl
  obtain ⟨ws, h3, h4⟩ := m.at_ _ _ hq
  exact ⟨l, q, vs, ws, rfl, rfl, h1, h3, by rw [h2.length, h4.length]; exact hz, newL m (h2.append h4) p k⟩⟩
theorem rCatA : RO2 K (L2.rCatA K) (Ab.rCatA K) := ⟨fun F H M x y a b Q P ra rb m ⟨xs, ys, e1, e2, hz, p⟩ k => by
  subst e1 e2
  obtain ⟨l, vs, rfl, h1, h2⟩ := RV.tup_iff.mp ra
  obtain ⟨q, ws, rfl, h3, h4⟩ := RV.tup_iff.mp rb
  refine ⟨l, q, vs, ws, rfl, rfl, .inl (.inl h1), .inl (.inl h3), by rw [h2.length, h4.length]; exact hz, fun e => ?_, fun _ e => ?_, fun _ _ => newT m (h2.append h4) p k⟩
  · subst e
    have : xs = [] := List.eq_nil_of_length_eq_zero (by rw [← h2.length]; rfl)
    subst this
    exact k _ M _ H p m rb (Tp.refl _)
  · subst e
    have : ys = [] := List.eq_nil_of_length_eq_zero (by rw [← h4.length]; rfl)
    subst this
    rw [List.append_nil] at p
    exact k _ M _ H p m ra (Tp.refl _)⟩
theorem setL {F H : Hp} {M : AM} {l : Addr} {as as' : List A} {vs vs' : List V} (m : Rep K F H M) (hl : M l = some (.lst as)) (h1 : H l = some (.lst vs)) (r : RL H as' vs') : Rep K F (upd H l (.lst vs')) (aupd M l (.lst as')) ∧ Tp H (upd H l (.lst vs')) := by
  have c : Tp H (upd H l (.lst vs')) := Tp.set h1 (fun _ z => nomatch z) _
  exact ⟨m.set hl h1 (fun _ z => nomatch z) (fun _ z => nomatch z) _ ⟨vs', upd_same, r.up c⟩, c⟩
theorem rExt2 : RO2 K L2.rExt2 Ab.rExt2 := ⟨fun F H M x y a b Q P ra rb m ⟨l, q, xs, ys, e1, e2, hl, hq, hz, p⟩ k => by
  subst e1 e2
  cases RV.ref_iff.mp ra
  cases RV.ref_iff.mp rb
  obtain ⟨vs, h1, h2⟩ := m.at_ _ _ hl
  obtain ⟨ws, h3, h4⟩ := m.at_ _ _ hq
  obtain ⟨m2, c2⟩ := setL m hl h1 (h2.append h4)
  exact ⟨l, q, vs, ws, rfl, rfl, h1, h3, by rw [h2.length, h4.length]; exact hz, k _ _ _ _ p m2 (RV.ref_iff.mpr rfl) c2⟩⟩
theorem one {H : Hp} {a : A} {xs : List V} (r : RL H [a] xs) : ∃ v, xs = [v] ∧ RV H a v := by
  obtain ⟨v, vs, rfl, h1, h2⟩ := RL.cons_iff.mp r
  cases RL.nil_iff.mp h2
  exact ⟨v, rfl, h1⟩
theorem two {H : Hp} {a b : A} {xs : List V} (r : RL H [a, b] xs) : ∃ v w, xs = [v, w] ∧ RV H a v ∧ RV H b w := by
  obtain ⟨v, vs, rfl, h1, h2⟩ := RL.cons_iff.mp r
  obtain ⟨w, rfl, h3⟩ := one h2
  exact ⟨v, w, rfl, h1, h3⟩
theorem rLenSeq : ROB K (My.rLenSeq K) (Ab.rLenSeq K) := ⟨fun F H M xs as Q P r m ⟨x, ys, e, hi, p⟩ k => by
  subst e
  obtain ⟨v, rfl, rv⟩ := one r
  obtain ⟨q, vs, rfl, h1, h2, _⟩ := items m rv hi
  exact ⟨q, vs, rfl, h1, by rw [h2.length]; exact k _ M _ H p m (RV.int_iff.mpr rfl) (Tp.refl _)⟩⟩
theorem rLenStr : ROB K My.rLenStr Ab.rLenStr := ⟨fun F H M xs as Q P r m ⟨z, e, hz, p⟩ k => by
  subst e
  obtain ⟨v, rfl, rv⟩ := one r
  cases RV.str_iff.mp rv
  exact ⟨z, rfl, hz, k _ M _ H p m (RV.int_iff.mpr rfl) (Tp.refl _)⟩⟩
theorem rLenD : ROB K My.rLenD Ab.rLenD := ⟨fun F H M xs as Q P r m ⟨l, kvs, e, hl, p⟩ k => by
  subst e
  obtain ⟨v, rfl, rv⟩ := one r
  cases RV.ref_iff.mp rv
  obtain ⟨ys, h1, h2⟩ := m.at_ _ _ hl
  exact ⟨l, ys, rfl, h1, by rw [h2.length]; exact k _ M _ H p m (RV.int_iff.mpr rfl) (Tp.refl _)⟩⟩
theorem rInt1 : ROB K My.rInt1 Ab.rInt1 := ⟨fun F H M xs as Q P r m p k => by
  rcases p with ⟨i, rfl, p⟩ | ⟨i, rfl, p⟩
  · obtain ⟨v, rfl, rv⟩ := one r
    cases RV.int_iff.mp rv
    exact .inl ⟨i, rfl, k _ M _ H p m (RV.int_iff.mpr rfl) (Tp.refl _)⟩
  · obtain ⟨v, rfl, rv⟩ := one r
    cases RV.bl_iff.mp rv
    exact .inr ⟨i, rfl, k _ M _ H p m (RV.int_iff.mpr rfl) (Tp.refl _)⟩⟩
theorem rAbs : ROB K My.rAbs Ab.rAbs := ⟨fun F H M xs as Q P r m ⟨i, e, p⟩ k => by
  subst e
  obtain ⟨v, rfl, rv⟩ := one r
  cases RV.int_iff.mp rv
  exact ⟨i, rfl, k _ M _ H p m (RV.int_iff.mpr rfl) (Tp.refl _)⟩⟩
theorem rSum : ROB K (L2.rSum K) (Ab.rSum K) := ⟨fun F H M xs as Q P r m ⟨x, ns, e, ⟨l, e2, hl⟩, p⟩ k => by
  subst e e2
  obtain ⟨v, rfl, rv⟩ := one r
  cases RV.ref_iff.mp rv
  obtain ⟨vs, h1, h2⟩ := m.at_ _ _ hl
  cases RL.ints_inv h2
  exact ⟨l, ns, rfl, .inl (.inl h1), k _ M _ H p m (RV.int_iff.mpr rfl) (Tp.refl _)⟩⟩
theorem rAll : ROB K (L2.rAll K) (Ab.rAll K) := ⟨fun F H M xs as Q P r m ⟨x, ns, e, ⟨l, e2, hl⟩, p⟩ k => by
  subst e e2
  obtain ⟨v, rfl, rv⟩ := one r
  cases RV.ref_iff.mp rv
  obtain ⟨vs, h1, h2⟩ := m.at_ _ _ hl
  cases RL.bools_inv h2
  exact ⟨l, ns, rfl, .inl (.inl h1), k _ M _ H p m (RV.bl_iff.mpr rfl) (Tp.refl _)⟩⟩
theorem rAny : ROB K (L2.rAny K) (Ab.rAny K) := ⟨fun F H M xs as Q P r m ⟨x, ns, e, ⟨l, e2, hl⟩, p⟩ k => by
  subst e e2
  obtain ⟨v, rfl, rv⟩ := one r
  cases RV.ref_iff.mp rv
  obtain ⟨vs, h1, h2⟩ := m.at_ _ _ hl
  cases RL.bools_inv h2
  exact ⟨l, ns, rfl, .inl (.inl h1), k _ M _ H p m (RV.bl_iff.mpr rfl) (Tp.refl _)⟩⟩
theorem rTupleOf : ROB K (My.rTupleOf K) (Ab.rTupleOf K) := ⟨fun F H M xs as Q P r m ⟨x, ys, e, hi, p⟩ k => by
  subst e
  obtain ⟨v, rfl, rv⟩ := one r
  rcases hi with rfl | ⟨q, rfl, hq⟩
  · obtain ⟨l, vs, rfl, h1, h2⟩ := RV.tup_iff.mp rv
    exact ⟨l, vs, rfl, .inr ⟨.inl (.inl h1), k _ M _ H p m rv (Tp.refl _)⟩⟩
  · cases RV.ref_iff.mp rv
    obtain ⟨vs, h1, h2⟩ := m.at_ _ _ hq
    exact ⟨q, vs, rfl, .inl ⟨.inl (.inl h1), newT m h2 p k⟩⟩⟩
theorem rListOf : ROB K (My.rListOf K) (Ab.rListOf K) := ⟨fun F H M xs as Q P r m ⟨x, ys, e, hi, p⟩ k => by
  subst e
  obtain ⟨v, rfl, rv⟩ := one r
  obtain ⟨q, vs, rfl, h1, h2, _⟩ := items m rv hi
  exact ⟨q, vs, rfl, h1, newL m h2 p k⟩⟩
theorem rStrInt : ROB K My.rStrInt Ab.rStrInt := ⟨fun F H M xs as Q P r m ⟨i, e, hz, p⟩ k => by
  subst e
  obtain ⟨v, rfl, rv⟩ := one r
  cases RV.int_iff.mp rv
  exact ⟨i, rfl, hz, k _ M _ H p m (RV.str_iff.mpr rfl) (Tp.refl _)⟩⟩
theorem kit (a b : String) (c : Bool) (h : PySem.W.kitOne K (.type a) (.type b) = some c) {F H : Hp} {M : AM} {x : A} {v : V} {Q : VK} {P : AK} (m : Rep K F H M) (ty : TyOf K H v (.type a)) (hc : P (.bl c) M) (k : ∀ c M' z H', P c M' → Rep K F H' M' → RV H' c z → Tp H H' → Q z H') : L2.rIsi K [v, .ty b] H Q :=
  ⟨v, _, _, _, c, rfl, .ty b, .base ty, h, k _ M _ H hc m (RV.bl_iff.mpr rfl) (Tp.refl _)⟩
theorem rIsi : ROB K (L2.rIsi K) (Ab.rIsi K) := ⟨fun F H M xs as Q P r m p k => by
  rcases p with ⟨x, t, b, rfl, e, p⟩ | ⟨l, ys, rfl, hl, p⟩
  · obtain ⟨v, w, rfl, rv, rw⟩ := two r
    cases RV.ty_iff.mp rw
    unfold Ab.isiA at e
    split at e <;> simp only [Option.some.injEq, reduceCtorEq] at e <;> subst e
    · cases RV.int_iff.mp rv; exact kit (x := .non) "int" "int" _ (kit_ty (by decide +kernel)) m (.int _) p k
    · cases RV.int_iff.mp rv; exact kit (x := .non) "int" "bool" _ (kit_ty (by decide +kernel)) m (.int _) p k
    · cases RV.int_iff.mp rv; exact kit (x := .non) "int" "str" _ (kit_ty (by decide +kernel)) m (.int _) p k
    · cases RV.int_iff.mp rv; exact kit (x := .non) "int" "tuple" _ (kit_ty (by decide +kernel)) m (.int _) p k
    · obtain ⟨l, vs, rfl, h1, h2⟩ := RV.tup_iff.mp rv; exact kit (x := .non) "tuple" "int" _ (kit_ty (by decide +kernel)) m (.tup h1) p k
    · obtain ⟨l, vs, rfl, h1, h2⟩ := RV.tup_iff.mp rv; exact kit (x := .non) "tuple" "tuple" _ (kit_ty (by decide +kernel)) m (.tup h1) p k
    · obtain ⟨l, vs, rfl, h1, h2⟩ := RV.tup_iff.mp rv; exact kit (x := .non) "tuple" "str" _ (kit_ty (by decide +kernel)) m (.tup h1) p k
    · cases RV.str_iff.mp rv; exact kit (x := .non) "str" "int" _ (kit_ty (by decide +kernel)) m (.str _) p k
    · cases RV.str_iff.mp rv; exact kit (x := .non) "str" "str" _ (kit_ty (by decide +kernel)) m (.str _) p k
    · cases RV.str_iff.mp rv; exact kit (x := .non) "str" "tuple" _ (kit_ty (by decide +kernel)) m (.str _) p k
    · cases RV.bl_iff.mp rv; exact kit (x := .non) "bool" "bool" _ (kit_ty (by decide +kernel)) m (.bl _) p k
    · cases RV.non_iff.mp rv; exact kit (x := .non) "NoneType" "int" _ (kit_ty (by decide +kernel)) m .non p k
    · cases RV.non_iff.mp rv; exact kit (x := .non) "NoneType" "tuple" _ (kit_ty (by decide +kernel)) m .non p k
  · obtain ⟨v, w, rfl, rv, rw⟩ := two r
    cases RV.ty_iff.mp rw
    cases RV.ref_iff.mp rv
    obtain ⟨vs, h1, h2⟩ := m.at_ _ _ hl
    exact kit (x := .non) "list" "list" _ (kit_ty (by decide +kernel)) m (.lst h1) p k⟩
/-! methods -/
theorem rAppend : ROM K L2.rAppend Ab.rAppend := ⟨fun F H M x a xs as Q P ra r m ⟨l, zs, y, e1, e2, hl, hz, p⟩ k => by
  subst e1 e2
  cases RV.ref_iff.mp ra
  obtain ⟨v, rfl, rv⟩ := one r
  obtain ⟨vs, h1, h2⟩ := m.at_ _ _ hl
  obtain ⟨m2, c2⟩ := setL m hl h1 (h2.append (RL.one rv))
  exact ⟨l, vs, v, rfl, rfl, h1, by rw [h2.length]; exact hz, k _ _ _ _ p m2 (RV.non_iff.mpr rfl) c2⟩⟩
theorem rInsert : ROM K My.rInsert Ab.rInsert := ⟨fun F H M x a xs as Q P ra r m ⟨l, zs, i, y, e1, e2, hl, hz, h0, hi, p⟩ k => by
  subst e1 e2
  cases RV.ref_iff.mp ra
  obtain ⟨w, v, rfl, rw, rv⟩ := two r
  cases RV.int_iff.mp rw
  obtain ⟨vs, h1, h2⟩ := m.at_ _ _ hl
  obtain ⟨m2, c2⟩ := setL m hl h1 (((h2.take i.toNat).append (RL.one rv)).append (h2.drop i.toNat))
  exact ⟨l, vs, i, v, rfl, rfl, h1, by rw [h2.length]; exact hz, h0, hi, k _ _ _ _ p m2 (RV.non_iff.mpr rfl) c2⟩⟩
theorem rPopAt : ROM K L2.rPopAt Ab.rPopAt := ⟨fun F H M x a xs as Q P ra r m ⟨l, zs, i, j, y, e1, e2, hl, h0, hi, hj, hy, p⟩ k => by
  subst e1 e2
  cases RV.ref_iff.mp ra
  obtain ⟨w, rfl, rw⟩ := one r
  cases RV.int_iff.mp rw
  obtain ⟨vs, h1, h2⟩ := m.at_ _ _ hl
  obtain ⟨v, h3, h4⟩ := h2.get' hy
  obtain ⟨m2, c2⟩ := setL m hl h1 (h2.eraseIdx j)
  exact ⟨l, vs, i, j, v, rfl, rfl, h1, h0, hi, by rw [h2.length]; exact hj, h3, k _ _ _ _ p m2 (h4.up c2) c2⟩⟩
theorem rPop : ROM K L2.rPop Ab.rPop := ⟨fun F H M x a xs as Q P ra r m ⟨l, zs, y, e1, e2, hl, hy, p⟩ k => by
  subst e1 e2
  cases RV.ref_iff.mp ra
  cases RL.nil_iff.mp r
  obtain ⟨vs, h1, h2⟩ := m.at_ _ _ hl
  obtain ⟨v, h3, h4⟩ := h2.get' hy
  have hd : RL H zs.dropLast vs.dropLast := by
    rw [List.dropLast_eq_take, List.dropLast_eq_take, h2.length]
    exact h2.take _
  obtain ⟨m2, c2⟩ := setL m hl h1 hd
  exact ⟨l, vs, v, rfl, rfl, h1, by rw [h2.length]; exact h3, k _ _ _ _ p m2 (h4.up c2) c2⟩⟩
theorem rClear : ROM K L2.rClear Ab.rClear := ⟨fun F H M x a xs as Q P ra r m ⟨l, zs, e1, e2, hl, p⟩ k => by
  subst e1 e2
  cases RV.ref_iff.mp ra
  cases RL.nil_iff.mp r
  obtain ⟨vs, h1, h2⟩ := m.at_ _ _ hl
  obtain ⟨m2, c2⟩ := setL m hl h1 RL.nil
  exact ⟨l, vs, rfl, rfl, h1, k _ _ _ _ p m2 (RV.non_iff.mpr rfl) c2⟩⟩
theorem rExtend : ROM K L2.rExtend Ab.rExtend := ⟨fun F H M x a xs as Q P ra r m ⟨l, q, zs, ys, e1, e2, hl, hq, hz, p⟩ k => by
  subst e1 e2
  cases RV.ref_iff.mp ra
  obtain ⟨w, rfl, rw⟩ := one r
  cases RV.ref_iff.mp rw
  obtain ⟨vs, h1, h2⟩ := m.at_ _ _ hl
  obtain ⟨ws, h3, h4⟩ := m.at_ _ _ hq
  obtain ⟨m2, c2⟩ := setL m hl h1 (h2.append h4)
  exact ⟨l, q, vs, ws, rfl, rfl, h1, h3, by rw [h2.length, h4.length]; exact hz, k _ _ _ _ p m2 (RV.non_iff.mpr rfl) c2⟩⟩
/-! targets -/
theorem gName {i : Nat} : RG K E X (L2.gName i) (Ab.gName i) := ⟨fun F σ H s M v a Q P x rv rs m p k => k _ M _ H p (rs.set rv) m (Tp.refl _)⟩
theorem gNil : RGs K E X L2.gNil Ab.gNil := ⟨fun F σ H s M vs as Q P x rv rs m ⟨e, p⟩ k => by
  subst e
  exact ⟨RL.nil_iff.mp rv, k _ M _ H p rs m (Tp.refl _)⟩⟩
theorem gCons {t : L2.TG} {u : Ab.TG} {ts : L2.TGs} {us : Ab.TGs} (h : RG K E X t u) (h' : RGs K E X ts us) : RGs K E X (L2.gCons t ts) (Ab.gCons u us) := ⟨fun F σ H s M vs as Q P x rv rs m ⟨a, r, e, p⟩ k => by
  subst e
  obtain ⟨v, ws, rfl, h1, h2⟩ := RL.cons_iff.mp rv
  exact ⟨v, ws, rfl, h.run F σ H s M _ _ _ _ x h1 rs m p fun s1 M1 σ1 H1 p1 rs1 m1 c1 => h'.run F σ1 H1 s1 M1 _ _ _ _ (x.up c1) (h2.up c1) rs1 m1 p1 fun s2 M2 σ2 H2 p2 rs2 m2 c2 => k s2 M2 σ2 H2 p2 rs2 m2 (c1.trans c2)⟩⟩
theorem gTup {n : Nat} {t : L2.TGs} {u : Ab.TGs} (h : RGs K E X t u) : RG K E X (L2.gTup K n t) (Ab.gTup K n u) := ⟨fun F σ H s M v a Q P x rv rs m ⟨xs, e, hn, p⟩ k => by
  subst e
  obtain ⟨l, vs, rfl, h1, h2⟩ := RV.tup_iff.mp rv
  exact ⟨l, vs, rfl, .inl (.inl h1), by rw [h2.length]; exact hn, h.run F σ H s M _ _ _ _ x h2 rs m p k⟩⟩
theorem gSub {to ti : L2.TE} {uo ui : Ab.TE} (ho : RE K E X to uo) (hi : RE K E X ti ui) : RG K E X (L2.gSub to ti L2.rSetL) (Ab.gSub uo ui Ab.rSetL) := ⟨fun F σ H s M v a Q P x rv rs m p k =>
  ho.run F σ H s M _ _ x rs m p fun o M1 vo H1 p1 m1 ro c1 => hi.run F σ H1 s M1 _ _ (x.up c1) (rs.up c1) m1 p1 fun i M2 vi H2 p2 m2 ri c2 => by
    obtain ⟨l, xs, j, n, rfl, rfl, hl, hn, p3⟩ := p2
    cases RV.ref_iff.mp ro
    cases RV.int_iff.mp ri
    obtain ⟨vs, h1, h2⟩ := m2.at_ _ _ hl
    obtain ⟨m3, c3⟩ := setL m2 hl h1 (h2.set n (rv.up (c1.trans c2)))
    exact ⟨l, vs, j, n, rfl, rfl, h1, by rw [h2.length]; exact hn, k _ _ _ _ p3 (rs.up ((c1.trans c2).trans c3)) m3 ((c1.trans c2).trans c3)⟩⟩
/-! statements -/
theorem tNext : RSt K E X L2.tNext Ab.tNext := ⟨fun F σ H s M D B x rs m p d => d.nx _ _ _ _ p rs m (Tp.refl _)⟩
theorem tBreak : RSt K E X L2.tBreak Ab.tBreak := ⟨fun F σ H s M D B x rs m p d => d.bk _ _ _ _ p rs m (Tp.refl _)⟩
theorem tCont : RSt K E X L2.tCont Ab.tCont := ⟨fun F σ H s M D B x rs m p d => d.ct _ _ _ _ p rs m (Tp.refl _)⟩
theorem tNever : RSt K E X My.tNever Ab.tNever := ⟨fun F σ H s M D B x rs m p d => p.elim⟩
theorem tSeq {t t' : L2.TS} {u u' : Ab.TS} (h : RSt K E X t u) (h' : RSt K E X t' u') : RSt K E X (L2.tSeq t t') (Ab.tSeq u u') := ⟨fun F σ H s M D B x rs m p d =>
  h.run F σ H s M _ _ x rs m p ⟨fun s1 M1 σ1 H1 p1 rs1 m1 c1 => h'.run F σ1 H1 s1 M1 _ _ (x.up c1) rs1 m1 p1 (d.up c1), d.rt, d.bk, d.ct⟩⟩
theorem tCut {t t' : L2.TS} {u u' : Ab.TS} (h : RSt K E X t u) (h' : RSt K E X t' u') : RSt K E X (My.tCut t t') (Ab.tCut u u') := ⟨fun F σ H s M D B x rs m ⟨Mid, p, p'⟩ d =>
  ⟨fun σ1 H1 => ∃ s1 M1, Mid s1 M1 ∧ RS H1 s1 σ1 ∧ Rep K F H1 M1 ∧ Tp H H1, h.run F σ H s M _ _ x rs m p ⟨fun s1 M1 σ1 H1 p1 rs1 m1 c1 => ⟨s1, M1, p1, rs1, m1, c1⟩, d.rt, d.bk, d.ct⟩,
    fun σ1 H1 ⟨s1, M1, p1, rs1, m1, c1⟩ => h'.run F σ1 H1 s1 M1 _ _ (x.up c1) rs1 m1 (p' s1 M1 p1) (d.up c1)⟩⟩
theorem tDrop {te : L2.TE} {ue : Ab.TE} (h : RE K E X te ue) : RSt K E X (L2.tDrop te) (Ab.tDrop ue) := ⟨fun F σ H s M D B x rs m p d => h.run F σ H s M _ _ x rs m p fun a M1 v H1 p1 m1 rv c1 => d.nx _ _ _ _ p1 (rs.up c1) m1 c1⟩
theorem tRet {te : L2.TE} {ue : Ab.TE} (h : RE K E X te ue) : RSt K E X (L2.tRet te) (Ab.tRet ue) := ⟨fun F σ H s M D B x rs m p d => h.run F σ H s M _ _ x rs m p fun a M1 v H1 p1 m1 rv c1 => d.rt _ _ _ _ p1 m1 rv c1⟩
theorem tRetN : RSt K E X L2.tRetN Ab.tRetN := ⟨fun F σ H s M D B x rs m p d => d.rt _ _ _ _ p m (RV.non_iff.mpr rfl) (Tp.refl _)⟩
theorem tIfS {c : L2.TT} {uc : Ab.TT} {t t' : L2.TS} {u u' : Ab.TS} (hc : RT K E X c uc) (h : RSt K E X t u) (h' : RSt K E X t' u') : RSt K E X (L2.tIfS c t t') (Ab.tIfS uc u u') := ⟨fun F σ H s M D B x rs m p d => hc.run F σ H s M _ _ x rs m p fun b M1 H1 p1 m1 c1 => by
  cases b with
  | true =>
    rw [if_pos rfl] at p1 ⊢
    exact h.run F σ H1 s M1 _ _ (x.up c1) (rs.up c1) m1 p1 (d.up c1)
  | false =>
    rw [if_neg Bool.false_ne_true] at p1 ⊢
    exact h'.run F σ H1 s M1 _ _ (x.up c1) (rs.up c1) m1 p1 (d.up c1)⟩
theorem tAsg {te : L2.TE} {ue : Ab.TE} {g : L2.TG} {ug : Ab.TG} (h : RE K E X te ue) (hg : RG K E X g ug) : RSt K E X (L2.tAsg te g) (Ab.tAsg ue ug) := ⟨fun F σ H s M D B x rs m p d => h.run F σ H s M _ _ x rs m p fun a M1 v H1 p1 m1 rv c1 =>
  hg.run F σ H1 s M1 _ _ _ _ (x.up c1) rv (rs.up c1) m1 p1 fun s2 M2 σ2 H2 p2 rs2 m2 c2 => d.nx _ _ _ _ p2 rs2 m2 (c1.trans c2)⟩
theorem tAug {i : Nat} {te : L2.TE} {ue : Ab.TE} {r : TIp} {q : Ab.R2} (h : RE K E X te ue) (hr : RO2 K r q) : RSt K E X (L2.tAug i te r) (Ab.tAug i ue q) := ⟨fun F σ H s M D B x rs m ⟨a, e, p⟩ d => by
  obtain ⟨v, h1, h2⟩ := rs.at_ i a e
  refine ⟨v, h1, h.run F σ H s M _ _ x rs m p fun b M1 w H1 p1 m1 rw c1 => hr.run F H1 M1 _ _ _ _ _ _ (h2.up c1) rw m1 p1 fun c M2 z H2 p2 m2 rz c2 => d.nx _ _ _ _ p2 ((rs.up (c1.trans c2)).set rz) m2 (c1.trans c2)⟩⟩
theorem putF {H : Hp} {f : Str} {v : A} {w : V} (hv : RV H v w) : ∀ {fs : List (Str × A)} {ys : List (Str × V)}, RK H fs ys → RK H (Ab.putFA f v fs) (L2.putF f w ys)
  | [], ys, h => by rw [show ys = [] from h]; exact RK.one hv
  | (g, x) :: r, ys, h => by
    obtain ⟨⟨z1, z2⟩, zs, rfl, h1, h2, h3⟩ := h
    have h1 : g = z1 := h1
    subst h1
    unfold Ab.putFA L2.putF
    by_cases e : g = f
    · rw [if_pos e, if_pos e]; exact ⟨_, _, rfl, rfl, hv, h3⟩
    · rw [if_neg e, if_neg e]; exact ⟨_, _, rfl, rfl, h2, putF hv h3⟩
theorem sFld {ta tv : L2.TE} {ua uv : Ab.TE} {f : Str} (ha : RE K E X ta ua) (hv : RE K E X tv uv) : RSt K E X (L2.sFld K ta tv f) (Ab.sFld K ua uv f) := ⟨fun F σ H s M D B x rs m p d =>
  hv.run F σ H s M _ _ x rs m p fun b M1 w H1 p1 m1 rw c1 => ha.run F σ H1 s M1 _ _ (x.up c1) (rs.up c1) m1 p1 fun a M2 v H2 ⟨l, C, fs, e, hl, hc, hn, hz, p2⟩ m2 rv c2 => by
    subst e
    cases RV.ref_iff.mp rv
    obtain ⟨dx, ys, h1, h2, h3⟩ := m2.at_ _ _ hl
    have c3 : Tp H2 (upd H2 l (.ins C dx (L2.putF f w ys))) := Tp.set h1 (fun _ z => nomatch z) _
    refine ⟨l, C, dx, ys, rfl, h1, hc, hn, by rw [h3.length]; exact hz, d.nx _ _ _ _ p2 (rs.up ((c1.trans c2).trans c3)) ?_ ((c1.trans c2).trans c3)⟩
    refine m2.set hl h1 (fun _ z => nomatch z) (fun _ z => nomatch z) _ ⟨dx, _, upd_same, ?_, (putF (rw.up c2) h3).up c3⟩
    rw [upd_ne (fun z => by rw [z, h1] at h2; cases h2)]
    exact h2⟩
end
end Rf
end My

/-! Rf3: what is walked, loops, comprehensions. -/
namespace My
open PySem PySem.Spec PyProof.Rows L2
set_option autoImplicit false
/-- enumerate of a tuple: the tuple at a, each item in a new pair -/
def ItEt (K : PySem.W.Frag) (a : Addr) : It :=
  ⟨fun i H => ∃ (xs : List V) (x : V), SqT K H a xs ∧ xs[i]? = some x,
   fun i H v H' => ∃ l x, H l = none ∧ v = .ref l ∧ H' = upd H l (.tup [.int (i : Nat), x]) ∧ ∀ xs, SqT K H a xs → xs[i]? = some x,
   fun i H => ∃ xs : List V, SqT K H a xs ∧ xs.length = i⟩
def iEnumT (K : PySem.W.Frag) (ta : TA) : TI := fun σ H R => ta σ H fun vs H1 => ∃ a xs, vs = [.ref a] ∧ SqT K H1 a xs ∧ R (ItEt K a) H1
/-- a target keeps what a comprehension wipes -/
def GW (g : L2.TG) (vs : List Nat) : Prop := ∀ x σ H Q, g x (wipe σ vs) H Q → g x (wipe σ vs) H (fun σ2 H2 => wipe σ2 vs = wipe σ vs ∧ Q σ2 H2)
theorem GW.name {i : Nat} : GW (L2.gName i) [i] := fun x σ H Q h => ⟨by simp only [wipe, List.set_set], h⟩
theorem GW.two {K : PySem.W.Frag} {i j : Nat} : GW (L2.gTup K 2 (L2.gCons (L2.gName i) (L2.gCons (L2.gName j) L2.gNil))) [i, j] := by
  rintro x σ H Q ⟨a, xs, rfl, h1, h2, v, r, rfl, w, r', rfl, rfl, h⟩
  refine ⟨a, _, rfl, h1, h2, v, _, rfl, w, _, rfl, rfl, ?_, h⟩
  simp only [wipe]
  apply List.ext_getElem?
  intro k
  simp only [List.getElem?_set, List.length_set]
  by_cases e1 : i = k <;> by_cases e2 : j = k <;> simp [e1, e2]
namespace Rf
section
variable {K : PySem.W.Frag} {E : XK} {X : AX}
/-! what is walked -/
theorem iList {te : L2.TE} {ue : Ab.TE} (h : RE K E X te ue) : RI K E X (L2.iList K te) (Ab.iList K ue) := ⟨fun F σ H s M Q P x rs m p k => h.run F σ H s M _ _ x rs m p fun a M1 v H1 ⟨l, xs, e, hl, p1⟩ m1 rv c1 => by
  subst e
  cases RV.ref_iff.mp rv
  obtain ⟨vs, h1, h2⟩ := m1.at_ _ _ hl
  refine ⟨l, rfl, ⟨vs, .inl (.inl h1)⟩, k _ _ _ _ _ p1 m1 c1 fun F' hF => ⟨fun H2 M2 c2 m2 ok => ?_, fun i a H2 M2 c2 m2 ok hi => ?_⟩⟩
  · obtain ⟨ws, h3, h4⟩ := m2.at_ _ _ ok
    exact ⟨ws, .inl (.inl h3), by rw [h4.length]; exact Nat.le_refl _⟩
  · obtain ⟨ws, h3, h4⟩ := m2.at_ _ _ ok
    obtain ⟨w, h5, h6⟩ := h4.get' hi
    refine ⟨⟨ws, w, .inl (.inl h3), h5⟩, ?_⟩
    rintro y H3 ⟨rfl, hy⟩
    have := hy ws (.inl (.inl h3))
    rw [h5] at this
    cases this
    exact ⟨m2, Tp.refl _, h6, fun _ _ z => z⟩⟩
theorem iTup {te : L2.TE} {ue : Ab.TE} (h : RE K E X te ue) : RI K E X (L2.iTup K te) (Ab.iTup K ue) := ⟨fun F σ H s M Q P x rs m p k => h.run F σ H s M _ _ x rs m p fun a M1 v H1 ⟨xs, e, p1⟩ m1 rv c1 => by
  subst e
  obtain ⟨l, vs, rfl, h1, h2⟩ := RV.tup_iff.mp rv
  refine ⟨l, rfl, ⟨vs, .inl (.inl h1)⟩, k _ _ _ _ _ p1 m1 c1 fun F' hF => ⟨fun H2 M2 c2 m2 ok => ?_, fun i a H2 M2 c2 m2 ok hi => ?_⟩⟩
  · exact ⟨vs, .inl (.inl (c2 _ _ h1)), by rw [h2.length]; exact Nat.le_refl _⟩
  · obtain ⟨w, h5, h6⟩ := h2.get' hi
    refine ⟨⟨vs, w, .inl (.inl (c2 _ _ h1)), h5⟩, ?_⟩
    rintro y H3 ⟨rfl, hy⟩
    have := hy vs (.inl (.inl (c2 _ _ h1)))
    rw [h5] at this
    cases this
    exact ⟨m2, Tp.refl _, h6.up c2, fun _ _ z => z⟩⟩
theorem walkR {F H : Hp} {lo : Int} {n : Nat} : Walks K F H (Itr lo n) (Ab.intsA lo n) fun _ => True := by
  refine ⟨fun H2 M2 c2 m2 ok => ?_, fun i a H2 M2 c2 m2 ok hi => ?_⟩
  · show n ≤ _
    unfold Ab.intsA
    simp
  · unfold Ab.intsA at hi
    rw [List.getElem?_map] at hi
    cases q : (List.range n)[i]? with
    | none => rw [q] at hi; cases hi
    | some j =>
      rw [q] at hi
      obtain ⟨hj, e⟩ := List.getElem?_eq_some_iff.mp q
      rw [List.getElem_range] at e
      subst e
      rw [List.length_range] at hj
      refine ⟨hj, ?_⟩
      rintro y H3 ⟨rfl, rfl⟩
      rw [← Option.some.inj hi]
      exact ⟨m2, Tp.refl _, RV.int_iff.mpr rfl, fun _ _ z => z⟩
theorem iRng1 {t : L2.TA} {u : Ab.TA} (h : RA K E X t u) : RI K E X (L2.iRng1 t) (Ab.iRng1 u) := ⟨fun F σ H s M Q P x rs m p k => h.run F σ H s M _ _ x rs m p fun as M1 vs H1 ⟨j, e, h1, h2, p1⟩ m1 rl0 c1 => by
  subst e
  obtain ⟨v, rfl, rv⟩ := one rl0
  cases RV.int_iff.mp rv
  exact ⟨j, rfl, h1, h2, k _ _ _ _ _ p1 m1 c1 fun F' hF => walkR⟩⟩
theorem iRng2 {t : L2.TA} {u : Ab.TA} (h : RA K E X t u) : RI K E X (L2.iRng2 t) (Ab.iRng2 u) := ⟨fun F σ H s M Q P x rs m p k => h.run F σ H s M _ _ x rs m p fun as M1 vs H1 ⟨i, j, e, h1, p1⟩ m1 rl0 c1 => by
  subst e
  obtain ⟨v, w, rfl, rv, rw⟩ := two rl0
  cases RV.int_iff.mp rv
  cases RV.int_iff.mp rw
  exact ⟨i, j, rfl, h1, k _ _ _ _ _ p1 m1 c1 fun F' hF => walkR⟩⟩
theorem iStr {te : L2.TE} {ue : Ab.TE} (h : RE K E X te ue) : RI K E X (L2.iStr te) (Ab.iStr ue) := ⟨fun F σ H s M Q P x rs m p k => h.run F σ H s M _ _ x rs m p fun a M1 v H1 ⟨z, e, p1⟩ m1 rv c1 => by
  subst e
  cases RV.str_iff.mp rv
  refine ⟨z, rfl, k _ _ _ _ _ p1 m1 c1 fun F' hF => ⟨fun H2 M2 c2 m2 ok => ?_, fun i a H2 M2 c2 m2 ok hi => ?_⟩⟩
  · show z.cps.size ≤ _
    simp
  · rw [List.getElem?_map] at hi
    cases q : z.cps.toList[i]? with
    | none => rw [q] at hi; cases hi
    | some c =>
      rw [q] at hi
      have q2 : z.cps[i]? = some c := by rw [← Array.getElem?_toList]; exact q
      refine ⟨(Array.getElem?_eq_some_iff.mp q2).1, ?_⟩
      rintro y H3 ⟨rfl, c', hc, rfl⟩
      rw [q2] at hc
      cases hc
      rw [← Option.some.inj hi]
      exact ⟨m2, Tp.refl _, RV.str_iff.mpr rfl, fun _ _ z => z⟩⟩
theorem enum_get {xs : List A} {i : Nat} {a : A} (h : (Ab.enumA xs)[i]? = some a) : ∃ b, xs[i]? = some b ∧ a = .tup [.int (i : Nat), b] := by
  unfold Ab.enumA at h
  rw [List.getElem?_zipWith] at h
  cases q : xs[i]? with
  | none => rw [q] at h; cases q2 : (List.range xs.length)[i]? <;> rw [q2] at h <;> cases h
  | some b =>
    have hi := (List.getElem?_eq_some_iff.mp q).1
    rw [q, List.getElem?_range hi] at h
    exact ⟨b, rfl, (Option.some.inj h).symm⟩
theorem enum_len (xs : List A) : (Ab.enumA xs).length = xs.length := by unfold Ab.enumA; simp
theorem pair {H : Hp} {l : Addr} {a b : A} {v w : V} (hl : H l = none) (h1 : RV H a v) (h2 : RV H b w) : RV (upd H l (.tup [v, w])) (.tup [a, b]) (.ref l) :=
  RV.tup_iff.mpr ⟨l, _, rfl, upd_same, (RL.cons h1 (RL.one h2)).up (Tp.new hl _)⟩
theorem keep_new {H : Hp} {l : Addr} {u : HO} (hl : H l = none) : ∀ b o, H b = some o → upd H l u b = some o := fun b o q => by rw [upd_ne (ne_of_none q hl)]; exact q
theorem iEnum {t : L2.TA} {u : Ab.TA} (h : RA K E X t u) : RI K E X (L2.iEnum K t) (Ab.iEnum K u) := ⟨fun F σ H s M Q P x rs m p k => h.run F σ H s M _ _ x rs m p fun as M1 vs H1 ⟨l, xs, e, hl, p1⟩ m1 rl0 c1 => by
  subst e
  obtain ⟨v, rfl, rv⟩ := one rl0
  cases RV.ref_iff.mp rv
  obtain ⟨vs, h1, h2⟩ := m1.at_ _ _ hl
  refine ⟨l, vs, rfl, .inl (.inl h1), k _ _ _ _ _ p1 m1 c1 fun F' hF => ⟨fun H2 M2 c2 m2 ok => ?_, fun i a H2 M2 c2 m2 ok hi => ?_⟩⟩
  · obtain ⟨ws, h3, h4⟩ := m2.at_ _ _ ok
    exact ⟨ws, .inl (.inl h3), by rw [h4.length, enum_len]; exact Nat.le_refl _⟩
  · obtain ⟨ws, h3, h4⟩ := m2.at_ _ _ ok
    obtain ⟨b, hb, rfl⟩ := enum_get hi
    obtain ⟨w, h5, h6⟩ := h4.get' hb
    refine ⟨⟨ws, w, .inl (.inl h3), h5⟩, ?_⟩
    rintro y H3 ⟨q, z, rfl, hq, rfl, hy⟩
    have := hy ws (.inl (.inl h3))
    rw [h5] at this
    cases this
    exact ⟨m2.new hq _, Tp.new hq _, pair hq (RV.int_iff.mpr rfl) h6, keep_new hq⟩⟩
theorem iEnumT {t : L2.TA} {u : Ab.TA} (h : RA K E X t u) : RI K E X (My.iEnumT K t) (Ab.iEnumT K u) := ⟨fun F σ H s M Q P x rs m p k => h.run F σ H s M _ _ x rs m p fun as M1 vs H1 ⟨xs, e, p1⟩ m1 rl0 c1 => by
  subst e
  obtain ⟨v, rfl, rv⟩ := one rl0
  obtain ⟨l, vs, rfl, h1, h2⟩ := RV.tup_iff.mp rv
  refine ⟨l, vs, rfl, .inl (.inl h1), k _ _ _ _ _ p1 m1 c1 fun F' hF => ⟨fun H2 M2 c2 m2 ok => ?_, fun i a H2 M2 c2 m2 ok hi => ?_⟩⟩
  · exact ⟨vs, .inl (.inl (c2 _ _ h1)), by rw [h2.length, enum_len]⟩
  · obtain ⟨b, hb, rfl⟩ := enum_get hi
    obtain ⟨w, h5, h6⟩ := h2.get' hb
    refine ⟨⟨vs, w, .inl (.inl (c2 _ _ h1)), h5⟩, ?_⟩
    rintro y H3 ⟨q, z, hq, rfl, rfl, hy⟩
    have := hy vs (.inl (.inl (c2 _ _ h1)))
    rw [h5] at this
    cases this
    exact ⟨m2.new hq _, Tp.new hq _, pair hq (RV.int_iff.mpr rfl) (h6.up c2), keep_new hq⟩⟩
theorem zip_get {xs ys : List A} {i : Nat} {a : A} (h : (Ab.zipA xs ys)[i]? = some a) : ∃ b c, xs[i]? = some b ∧ ys[i]? = some c ∧ a = .tup [b, c] := by
  unfold Ab.zipA at h
  rw [List.getElem?_zipWith] at h
  cases q : xs[i]? with
  | none => rw [q] at h; cases q2 : ys[i]? <;> rw [q2] at h <;> cases h
  | some b =>
    cases q2 : ys[i]? with
    | none => rw [q, q2] at h; cases h
    | some c => rw [q, q2] at h; exact ⟨b, c, rfl, rfl, (Option.some.inj h).symm⟩
theorem zip_len (xs ys : List A) : (Ab.zipA xs ys).length = min xs.length ys.length := by unfold Ab.zipA; simp
theorem iZipA {t : L2.TA} {u : Ab.TA} (h : RA K E X t u) : RI K E X (RZ.iZipA K t) (Ab.iZipA K u) := ⟨fun F σ H s M Q P x rs m p k => h.run F σ H s M _ _ x rs m p fun as M1 vs H1 p1 m1 rl0 c1 => by
  rcases p1 with ⟨xs, ys, rfl, p1⟩ | ⟨l, q, xs, ys, rfl, hl, hq, p1⟩
  · obtain ⟨v, w, rfl, rv, rw⟩ := two rl0
    obtain ⟨l, vs, rfl, h1, h2⟩ := RV.tup_iff.mp rv
    obtain ⟨q, ws, rfl, h3, h4⟩ := RV.tup_iff.mp rw
    refine ⟨l, q, vs, ws, rfl, .inr ⟨.inl (.inl h1), .inl (.inl h3), k _ _ _ _ _ p1 m1 c1 fun F' hF => ⟨fun H2 M2 c2 m2 ok => ?_, fun i a H2 M2 c2 m2 ok hi => ?_⟩⟩⟩
    · refine ⟨vs, ws, .inl (.inl (c2 _ _ h1)), .inl (.inl (c2 _ _ h3)), ?_⟩
      rw [h2.length, h4.length, zip_len]
      omega
    · obtain ⟨b, c, hb, hc, rfl⟩ := zip_get hi
      obtain ⟨v, h5, h6⟩ := h2.get' hb
      obtain ⟨w, h7, h8⟩ := h4.get' hc
      refine ⟨⟨vs, ws, v, w, .inl (.inl (c2 _ _ h1)), .inl (.inl (c2 _ _ h3)), h5, h7⟩, ?_⟩
      rintro y H3 ⟨T, y1, y2, rfl, hT, rfl, hy1, hy2⟩
      have e1 := hy1 vs (.inl (.inl (c2 _ _ h1)))
      have e2 := hy2 ws (.inl (.inl (c2 _ _ h3)))
      rw [h5] at e1
      rw [h7] at e2
      cases e1
      cases e2
      exact ⟨m2.new hT _, Tp.new hT _, pair hT (h6.up c2) (h8.up c2), keep_new hT⟩
  · obtain ⟨v, w, rfl, rv, rw⟩ := two rl0
    cases RV.ref_iff.mp rv
    cases RV.ref_iff.mp rw
    obtain ⟨vs, h1, h2⟩ := m1.at_ _ _ hl
    obtain ⟨ws, h3, h4⟩ := m1.at_ _ _ hq
    refine ⟨l, q, vs, ws, rfl, .inl ⟨.inl (.inl h1), .inl (.inl h3), k _ _ _ _ _ p1 m1 c1 fun F' hF => ⟨fun H2 M2 c2 m2 ok => ?_, fun i a H2 M2 c2 m2 ok hi => ?_⟩⟩⟩
    · obtain ⟨vs, h1, h2⟩ := m2.at_ _ _ ok.1
      obtain ⟨ws, h3, h4⟩ := m2.at_ _ _ ok.2
      refine ⟨vs, ws, .inl (.inl h1), .inl (.inl h3), ?_⟩
      rw [h2.length, h4.length, zip_len]
      omega
    · obtain ⟨vs, h1, h2⟩ := m2.at_ _ _ ok.1
      obtain ⟨ws, h3, h4⟩ := m2.at_ _ _ ok.2
      obtain ⟨b, c, hb, hc, rfl⟩ := zip_get hi
      obtain ⟨v, h5, h6⟩ := h2.get' hb
      obtain ⟨w, h7, h8⟩ := h4.get' hc
      refine ⟨⟨vs, ws, v, w, .inl (.inl h1), .inl (.inl h3), h5, h7⟩, ?_⟩
      rintro y H3 ⟨T, y1, y2, rfl, hT, rfl, hy1, hy2⟩
      have e1 := hy1 vs (.inl (.inl h1))
      have e2 := hy2 ws (.inl (.inl h3))
      rw [h5] at e1
      rw [h7] at e2
      cases e1
      cases e2
      exact ⟨m2.new hT _, Tp.new hT _, pair hT h6 h8, keep_new hT⟩⟩
/-! for -/
theorem tFor {wi : L2.TI} {ui : Ab.TI} {g : L2.TG} {ug : Ab.TG} {tb : L2.TS} {ub : Ab.TS} (hi : RI K E X wi ui) (hg : RG K E X g ug) (hb : RSt K E X tb ub) : RSt K E X (L2.tFor wi g tb) (Ab.tFor ui ug ub) := ⟨fun F σ H s M D B x rs m p d =>
  hi.run F σ H s M _ _ x rs m p fun xs ok M1 J H1 ⟨Iv, i0, iok, step, done⟩ m1 c1 wk => by
    have wk := wk F fun _ _ z => z
    have d1 := d.up c1
    refine ⟨fun i n σ' H' => n + i = xs.length ∧ ∃ s' M', Iv i s' M' ∧ RS H' s' σ' ∧ Rep K F H' M' ∧ Tp H1 H', ⟨xs.length, rfl, s, M1, i0, rs.up c1, m1, Tp.refl _⟩, ?_⟩
    rintro i n σ' H' ⟨hn, s', M', inv, rs', m', c'⟩
    have o := iok i s' M' (by omega) inv
    by_cases e : i = xs.length
    · subst e
      exact .inl ⟨wk.stop H' M' c' m' o, d1.nx _ _ _ _ (done s' M' inv) rs' m' c'⟩
    · have hlt : i < xs.length := by omega
      have hx : xs[i]? = some xs[i] := List.getElem?_eq_getElem hlt
      obtain ⟨go, yl⟩ := wk.go i _ H' M' c' m' o hx
      refine .inr ⟨go, fun σ2 H2 => ∃ s2 M2, Iv (i + 1) s2 M2 ∧ RS H2 s2 σ2 ∧ Rep K F H2 M2 ∧ Tp H1 H2, fun σ2 H2 ⟨s2, M2, q⟩ => ⟨n - 1, by omega, by omega, s2, M2, q⟩, fun y H2 hy => ?_⟩
      obtain ⟨m2, c2, ry, _⟩ := yl y H2 hy
      have c12 := c'.trans c2
      refine hg.run F σ' H2 s' M' _ _ _ _ ((x.up c1).up c12) ry (rs'.up c2) m2 (step i _ s' M' hx inv) fun s3 M3 σ3 H3 p3 rs3 m3 c3 => ?_
      exact hb.run F σ3 H3 s3 M3 _ _ (((x.up c1).up c12).up c3) rs3 m3 p3 ⟨fun s4 M4 σ4 H4 p4 rs4 m4 c4 => ⟨s4, M4, p4, rs4, m4, (c12.trans c3).trans c4⟩, (d1.up (c12.trans c3)).rt, fun s4 M4 σ4 H4 p4 rs4 m4 c4 => (d1.up (c12.trans c3)).nx _ _ _ _ p4 rs4 m4 c4, fun s4 M4 σ4 H4 p4 rs4 m4 c4 => ⟨s4, M4, p4, rs4, m4, (c12.trans c3).trans c4⟩⟩⟩
theorem tWhile {c : L2.TT} {uc : Ab.TT} {tb : L2.TS} {ub : Ab.TS} (hc : RT K E X c uc) (hb : RSt K E X tb ub) : RSt K E X (L2.tWhile c tb) (Ab.tWhile uc ub) := ⟨fun F σ H s M D B x rs m ⟨W, ⟨n0, w0⟩, step⟩ d => by
  refine ⟨fun n σ' H' => ∃ s' M', W n s' M' ∧ RS H' s' σ' ∧ Rep K F H' M' ∧ Tp H H', ⟨n0, s, M, w0, rs, m, Tp.refl _⟩, ?_⟩
  rintro n σ' H' ⟨s', M', w, rs', m', c'⟩
  refine hc.run F σ' H' s' M' _ _ (x.up c') rs' m' (step n s' M' w) fun b M1 H1 p1 m1 c1 => ?_
  cases b with
  | false =>
    rw [if_neg Bool.false_ne_true] at p1 ⊢
    exact d.nx _ _ _ _ p1 (rs'.up c1) m1 (c'.trans c1)
  | true =>
    rw [if_pos rfl] at p1 ⊢
    obtain ⟨N, hN, p2⟩ := p1
    have c2 := c'.trans c1
    refine ⟨fun σ2 H2 => ∃ s2 M2, N s2 M2 ∧ RS H2 s2 σ2 ∧ Rep K F H2 M2 ∧ Tp H H2, fun σ2 H2 ⟨s2, M2, q, r⟩ => ?_, ?_⟩
    · obtain ⟨n', h1, h2⟩ := hN s2 M2 q
      exact ⟨n', h1, s2, M2, h2, r⟩
    · exact hb.run F σ' H1 s' M1 _ _ (x.up c2) (rs'.up c1) m1 p2 ⟨fun s4 M4 σ4 H4 p4 rs4 m4 c4 => ⟨s4, M4, p4, rs4, m4, c2.trans c4⟩, (d.up c2).rt, fun s4 M4 σ4 H4 p4 rs4 m4 c4 => (d.up c2).nx _ _ _ _ p4 rs4 m4 c4, fun s4 M4 σ4 H4 p4 rs4 m4 c4 => ⟨s4, M4, p4, rs4, m4, c2.trans c4⟩⟩⟩
/-! comprehensions -/
theorem frame_new {F : Hp} {l : Addr} {u : HO} (hl : F l = none) : ∀ a o, F a = some o → upd F l u a = some o := keep_new hl
theorem tLc {wi : L2.TI} {ui : Ab.TI} {g : L2.TG} {ug : Ab.TG} {tt : L2.TT} {ut : Ab.TT} {te : L2.TE} {ue : Ab.TE} {vs : List Nat} (hi : RI K E X wi ui) (hg : RG K E X g ug) (hw : GW g vs) (ht : RT K E X tt ut) (he : RE K E X te ue) : RE K E X (L2.tLc wi g tt te vs) (Ab.tLc ui ug ut ue vs) := ⟨fun F σ H s M Q P x rs m p k =>
  hi.run F σ H s M _ _ x rs m p fun xs ok M1 J H1 ⟨Iv, i0, iok, step, done⟩ m1 c1 wk l hl => by
    have fl := m1.free hl
    have wk := fun accV => wk (upd F l (.lst accV)) (frame_new fl)
    have c0 : Tp H1 (upd H1 l (.lst [])) := Tp.new hl _
    refine ⟨fun i n H' => n + i = xs.length ∧ ∃ acc accV M', RL H' acc accV ∧ Iv i acc M' ∧ Rep K (upd F l (.lst accV)) H' M' ∧ Tp H1 H', ⟨xs.length, rfl, [], [], M1, RL.nil, i0, ?_, c0⟩, ?_⟩
    · have m2 := m1.new hl (.lst [])
      refine ⟨m2.at_, fun a o e => ?_⟩
      by_cases z : a = l
      · subst z
        rw [upd_same] at e ⊢
        exact ⟨e, m1.no hl⟩
      · rw [upd_ne z] at e
        exact m2.fr a o e
    rintro i n H' ⟨hn, acc, accV, M', rl, inv, m', c'⟩
    obtain ⟨o, hz⟩ := iok i acc M' inv
    have hl' : H' l = some (.lst accV) ∧ M' l = none := m'.fr l _ upd_same
    have x' : XOk K (upd F l (.lst accV)) H' E X := ((x.up c1).up c').frame (frame_new fl)
    by_cases e : i = xs.length
    · subst e
      refine .inl ⟨(wk accV).stop H' M' c' m' o, ?_⟩
      exact k _ _ _ H' (done acc M' inv l hl'.2) ((m'.less (frame_new fl)).tell fl ⟨accV, hl'.1, rl⟩) (RV.ref_iff.mpr rfl) (c1.trans c')
    · have hlt : i < xs.length := by omega
      have hx : xs[i]? = some xs[i] := List.getElem?_eq_getElem hlt
      obtain ⟨go, yl⟩ := (wk accV).go i _ H' M' c' m' o hx
      refine .inr ⟨go, fun H2 => ∃ acc accV M', RL H2 acc accV ∧ Iv (i + 1) acc M' ∧ Rep K (upd F l (.lst accV)) H2 M' ∧ Tp H1 H2, fun H2 q => ⟨n - 1, by omega, by omega, q⟩, fun y H2 hy => ?_⟩
      obtain ⟨m2, c2, ry, _⟩ := yl y H2 hy
      refine hw _ _ _ _ ?_
      refine hg.run _ _ H2 _ M' _ _ _ _ (x'.up c2) ry ((rs.up (c1.trans (c'.trans c2))).wipe vs) m2 (step i _ acc M' hx inv) fun s3 M3 σ3 H3 p3 rs3 m3 c3 => ?_
      refine ht.run _ σ3 H3 s3 M3 _ _ ((x'.up c2).up c3) rs3 m3 p3 fun b M4 H4 p4 m4 c4 => ?_
      cases b with
      | false =>
        rw [if_neg Bool.false_ne_true] at p4 ⊢
        exact ⟨acc, accV, M4, rl.up ((c2.trans c3).trans c4), p4, m4, ((c'.trans c2).trans c3).trans c4⟩
      | true =>
        rw [if_pos rfl] at p4 ⊢
        refine he.run _ σ3 H4 s3 M4 _ _ (((x'.up c2).up c3).up c4) (rs3.up c4) m4 p4 fun z M5 w H5 p5 m5 rz c5 => ?_
        obtain ⟨h5, n5⟩ := m5.fr l _ upd_same
        have c6 : Tp H5 (upd H5 l (.lst (accV ++ [w]))) := Tp.set h5 (fun _ z => nomatch z) _
        have c25 := (c2.trans c3).trans (c4.trans c5)
        refine ⟨accV, h5, by rw [rl.length]; exact hz, acc ++ [z], accV ++ [w], M5, ((rl.up c25).append (RL.one rz)).up c6, p5, ?_, (c'.trans c25).trans c6⟩
        have hb : ∀ b o, b ≠ l → H5 b = some o → upd H5 l (.lst (accV ++ [w])) b = some o := fun b o n q => by rw [upd_ne n]; exact q
        refine ⟨fun a o e => (m5.at_ a o e).keep hb (fun x q => by rw [h5] at q; cases q) c6 (ne_of_anone e n5), fun a o e => ?_⟩
        by_cases z : a = l
        · subst z
          rw [upd_same] at e ⊢
          exact ⟨e, n5⟩
        · rw [upd_ne z] at e
          have := m5.fr a o (by rw [upd_ne z]; exact e)
          exact ⟨hb a o z this.1, this.2⟩⟩
end
end Rf
end My

/-! Et: enumerate of a tuple, walked. -/
namespace My
open PySem PySem.Spec PyProof.Rows L2 PySem.AutoSeq1
theorem etNew (tu : Addr) (ks : Array Value) : PySem.Meets (Builtin.«enumerate.__new__» ⟨[.type "enumerate", .ref tu], []⟩) (fun _ R z => z.heap.IsTuple tu ks ∧
      R (.ok (.ret (.ref (z.heap.push { cls := .type "tuple_iterator", data := .fields #[.ref tu, .int 0 0] }).objs.size)))
        { z with heap := (z.heap.push { cls := .type "tuple_iterator", data := .fields #[.ref tu, .int 0 0] }).push { cls := .type "enumerate", data := .fields #[.none, .bool false, .ref z.heap.objs.size, PySem.rawInt 0, .none, .none] } }) :=
  .of_wp fun pg ww AA R z h => by
    obtain ⟨hh, gg, dd, tt, oo⟩ := z
    obtain ⟨ht, h⟩ := h
    have sb := PySem.sub_enumerate
    have walkIt : ∀ {A1 : Around} {E1 : Value → Shared → Prop} {Q1 : Value → Shared → Prop}, Q1 (.ref hh.objs.size) ⟨hh.push { cls := .type "tuple_iterator", data := .fields #[.ref tu, .int 0 0] }, gg, dd, tt, oo⟩ → wpAny (model pg ww) A1 (pyIter (.ref tu)) Q1 E1 ⟨hh, gg, dd, tt, oo⟩ := fun q => wpAny_pyIter_tuple ht q
    wp_walk using walkIt
    refine wpAny_stack_any fun zs => wpAny_pure ?_
    split
    · rename_i cc _ _ _ _ _
      cases (cc == Value.type "enumerate")
      · wp_walk using walkIt
        exact ⟨_, rfl, h⟩
      · wp_walk using walkIt
        exact ⟨_, rfl, h⟩
    · wp_walk using walkIt
      exact ⟨_, rfl, h⟩
section
variable {pg : Program} {ww : World} {AA : Around} {EE : Value → Shared → Prop} {z : Shared}
theorem etCall {tu : Addr} {ks : Array Value} {Q : Value → Shared → Prop} (ht : z.heap.IsTuple tu ks)
    (h : ∀ hp, IsEnum hp (z.heap.objs.size + 1) z.heap.objs.size 0 .none → hp.IsTupleIter z.heap.objs.size tu 0 → hp.objs.size = z.heap.objs.size + 2 →
      (∀ c u, z.heap.get? c = some u → hp.get? c = some u) → Q (.ref (z.heap.objs.size + 1)) { z with heap := hp }) :
    wpAny (model pg ww) AA (call (.type "enumerate") [.ref tu]) Q EE z := by
  refine callType_new F.called_enumerate (by decide) (F.typeCall_enumerate_1 _) (F.newCall_enumerate_1 _) (fun ob => F.args_object_init_2 ob _) F.entry_enumerate_new (etNew tu ks) ⟨ht, ?_⟩
  have sz : (z.heap.push { cls := .type "tuple_iterator", data := .fields #[.ref tu, .int 0 0] }).objs.size = z.heap.objs.size + 1 := Heap.size_push ..
  show _ ∧ _
  rw [sz]
  have en : IsEnum ((z.heap.push { cls := .type "tuple_iterator", data := .fields #[.ref tu, .int 0 0] }).push
      { cls := .type "enumerate", data := .fields #[.none, .bool false, .ref z.heap.objs.size, PySem.rawInt 0, .none, .none] }) (z.heap.objs.size + 1) z.heap.objs.size 0 .none := by
    have e0 := Heap.get?_push_size (z.heap.push { cls := .type "tuple_iterator", data := .fields #[.ref tu, .int 0 0] })
      (o := { cls := .type "enumerate", data := .fields #[.none, .bool false, .ref z.heap.objs.size, PySem.rawInt 0, .none, .none] }) rfl
    rw [sz] at e0
    exact e0
  exact ⟨⟨_, en, rfl⟩, h _ en ⟨_, Heap.get?_push_of_some _ (Heap.get?_push_size _ rfl), rfl, rfl⟩ (by rw [Heap.size_push, sz]) fun c u k => Heap.get?_push_of_some _ (Heap.get?_push_of_some _ k)⟩
end
theorem turn_enumT {P : Program} {w : World} {K : PySem.W.Frag} {elts : List Expr} {kk : Nat} {tpos : Pos} (a e it : Addr) :
    Turn P w K (.Tuple elts kk tpos) (ItEt K a) [e, it] e (fun i h => (∃ old, IsEnum h e it ((i : Nat) : Int) old) ∧ h.IsTupleIter it a i ∧ e ≠ it ∧ it ≠ a ∧ e ≠ a) where
  mem := by simp
  obj := fun i h st b hb => by
    obtain ⟨⟨old, he⟩, ⟨o, ho, hc, hd⟩, _⟩ := st
    have eb : b = e ∨ b = it := by simpa using hb
    rcases eb with q | q
    · rw [q]; exact ⟨_, he, fun v z => nomatch z⟩
    · rw [q]; exact ⟨o, ho, fun v z => by rw [hd] at z; cases z⟩
  keep := fun i h h' st k => let ⟨⟨old, he⟩, hi, ne⟩ := st; ⟨⟨old, k e (by simp) _ he⟩, hi.at fun o q => k it (by simp) o q, ne⟩
  item := by
    intro X hP hw hK hc i pins s σ H E I hf st hg
    subst hP hw hK
    obtain ⟨⟨old, he⟩, hit, hne, hia, hea⟩ := st
    obtain ⟨xs, x, hq, hx⟩ := hg
    obtain ⟨its, rv, p, hz⟩ := I.tuple hq
    obtain ⟨u, hu, ru⟩ := rv.get hx
    have hel : e < s.heap.objs.size := Heap.lt_size he
    have hil : it < s.heap.objs.size := by obtain ⟨_, z, _⟩ := hit; exact Heap.lt_size z
    have il : i < its.toArray.size := by simpa using (List.getElem?_eq_some_iff.mp hu).1
    refine wpAny_pyNext_enum_itemD (Draws.tuple (A := X.A.in1) (show X.A.in1.handled = none from I.ok.hd hc) it a (Ne.symm hia) its.toArray) he ⟨hit, p⟩ il hne (by simp [hne, hea]) fun x' h' tk hP ho hst' hT hsz hk => ?_
    obtain ⟨hit', p'⟩ := hst'
    have ex : x' = u := by
      have e1 : its[i]? = some x' := by simpa using hP
      rw [hu] at e1
      exact (Option.some.inj e1).symm
    subst ex
    refine ⟨_, rfl, wpAny_letOwnedTupleGo_enum (s := { s with heap := h', toks := tk + 1 }) ho fun h2 he2 sb2 => ?_⟩
    have hT2 : h2.get? s.heap.objs.size = some { cls := .type "tuple", data := .seq #[.int i tk, x'] } := (sb2.2 _ (Nat.ne_of_gt hel)).trans hT
    have new : ObjOk X.prog X.w (upd H s.heap.objs.size (.tup [.int (i : Nat), x])) h2 s.heap.objs.size (.tup [.int (i : Nat), x]) :=
      ⟨by show 2 ≤ sizeLine; decide, [.int i tk, x'], .cons ⟨_, rfl⟩ (.cons ru .nil), ⟨_, hT2, rfl, _, rfl⟩⟩
    have I1 : Inv X pins σ (upd H s.heap.objs.size (.tup [.int (i : Nat), x])) { s with heap := h2, toks := tk + 1 } :=
      I.turnedNew (ch := [e, it]) (fun b ob nb q => (sb2.2 b (fun z => nb (by simp [z]))).trans (hk b ob (fun z => nb (by simp [z])) (fun z => nb (by simp [z])) q)) hf (Nat.le_refl _) new
    refine ⟨.ref s.heap.objs.size, _, I1, rfl, ⟨_, x, I.hok.fresh (Nat.le_refl _), rfl, rfl, fun ys hy => by rw [I.tuple_inj hy hq]; exact hx⟩, ⟨⟨x', ?_⟩, hit'.at fun o q => (sb2.2 it (Ne.symm hne)).trans q, hne, hia, hea⟩, fun b hb => ?_⟩
    · have e1 : ((i + 1 : Nat) : Int) = (i : Int) + 1 := by omega
      rw [e1]
      exact he2
    · have lb : b < s.heap.objs.size := by
        have eb : b = e ∨ b = it := by simpa using hb
        rcases eb with q | q
        · rw [q]; exact hel
        · rw [q]; exact hil
      rw [upd_ne (Nat.ne_of_lt lb)]
      exact (hf b hb).1
  done := by
    intro X hP hw hK hc i pins s σ H E I hf st hg
    subst hP hw hK
    obtain ⟨⟨old, he⟩, hit, hne, hia, hea⟩ := st
    obtain ⟨xs, hq, hx⟩ := hg
    obtain ⟨its, rv, p, hz⟩ := I.tuple hq
    obtain ⟨f0, f1, f2, f3, f4, f5⟩ := hf it (by simp)
    have hl := rv.length
    have en : its.toArray.size = i := by simp; omega
    subst en
    exact wpAny_pyNext_enum_endD (Draws.tuple (A := X.A.in1) (show X.A.in1.handled = none from I.ok.hd hc) it a (Ne.symm hia) its.toArray) he ⟨hit, p⟩ fun g eb => ⟨rfl, I.turned (t' := s.toks) (fun b ob nb q => eb b ob nb q) f0 f1 f3 f4 f5⟩
  self := fun A i s Q E st h => let ⟨⟨_, he⟩, _⟩ := st; wpAny_pyIter_enum he h
theorem pi_enumT {X : Cx} {e : Expr} {ta : L2.TA} {p pos tpos : Pos} {elts : List Expr} {kk : Nat} (hg : Gl X "enumerate") (hm : X.mg "enumerate" = none) (ha : PA X [e] ta) (hs : starEach [e] X.env = [(false, eval e X.env)] := by rfl) :
    PI X (.Tuple elts kk tpos) (.Call (.Name "enumerate" p) [e] [] pos) (iEnumT X.K ta) := by
  refine ⟨fun pins s σ H R I h => ?_⟩
  refine Call_ (ld_blt I hg hm boot_enumerate (PyProof.Rows.callWith_type1 (thn (ha.run pos pins s σ H _ I h) fun us s1 ⟨vs, H1, I1, r1, q1⟩ => ?_) hs rfl))
  obtain ⟨a, xs, rfl, hq, q⟩ := q1
  cases r1 with
  | cons r rr =>
    cases rr
    cases r
    obtain ⟨its, rv, p', hz⟩ := I1.tuple hq
    have la : a < s1.heap.objs.size := by obtain ⟨_, z, _⟩ := p'; exact Heap.lt_size z
    refine etCall p' fun hp he hit hsz hk => wpAny_pyIter_enum he ?_
    have I2 : Inv X pins σ H1 { s1 with heap := hp } := I1.kept (t' := s1.toks) hk
    refine ⟨s1.heap.objs.size + 1, [s1.heap.objs.size + 1, s1.heap.objs.size], _, _, H1, rfl, I2, turn_enumT a (s1.heap.objs.size + 1) s1.heap.objs.size,
      ⟨⟨.none, he⟩, hit, Nat.succ_ne_self _, Nat.ne_of_gt la, Nat.ne_of_gt (Nat.lt_succ_of_lt la)⟩, fun b hb => ?_, q⟩
    have lb : s1.heap.objs.size ≤ b := by
      have eb : b = s1.heap.objs.size + 1 ∨ b = s1.heap.objs.size := by simpa using hb
      rcases eb with z | z
      · rw [z]; exact Nat.le_succ _
      · rw [z]; exact Nat.le_refl _
    exact I1.fpOk lb (I1.hok.fresh lb)
end My

/-! Sup3: raise C(e, e'); raising over plain data. -/
namespace My
open PySem PySem.Spec PyProof.Rows L2
structure ErrK2 (P : Program) (w : World) (K : PySem.W.Frag) (mg : Str → Option Value) (base : Heap) (k : Nat) (C D f g : Str) : Prop where
  err : ErrC K C D
  hno : PySem.W.findIn K (.ref (He.ga K C)) f = some none
  hno2 : PySem.W.findIn K (.ref (He.ga K C)) g = some none
  iC : PySem.W.findIn K (.ref (He.ga K C)) "__init__" = some (some (.ref (He.fAd K (D, some "__init__"))))
  tI : PySem.W.typeIn K (.ref (He.fAd K (D, some "__init__"))) = some (.type "function")
  gl : mg C = some (.ref (He.ga K C))
  fn : ∃ fd ps, FnOk P w K mg base CX0 k (He.fAd K (D, some "__init__")) fd ps (spInit2 K D f g) ∧ Binds K fd ps []
def RaiseG2 (K : PySem.W.Frag) (C D f g : Str) (σ : L2.St) (W : WX) (y z : V) (H1 : Hp) : Prop := ([y, z] : List V).length ≤ 1000 ∧ ∀ a, H1 a = none → spInit2 K D f g (.ref a :: ([y, z] ++ [])) (upd H1 a (exo a (He.ga K C) none))
  (fun v H2 => v = .non ∧ ∃ (d : Addr) (fs : List (Str × V)), H2 a = some (exo a (He.ga K C) (some d)) ∧ H2 d = some (exd d fs) ∧ H1 d = none ∧ W (.ref (He.ga K C)) (some d) σ (upd (del H2 a) d (.xd fs))) (fun _ _ _ => False)
def tRaise2 (K : PySem.W.Frag) (C D f g : Str) (W : WX) (te tz : TE) : TS := fun _ σ H => te σ H fun y H1 => tz σ H1 fun z H2 => RaiseG2 K C D f g σ W y z H2
theorem ps_raise2 {X : Cx} {W : WX} {C D f g : Str} {k j : Nat} {e e2 : Expr} {te tz : TE} {p pos pos' : Pos} (T : ErrK2 X.prog X.w X.K X.mg X.base k C D f g) (hc : X.calm = true) (tk : L2N.Takes X W) (hr : Room j X.A) (hk : k + 1 ≤ j) (he : PE X e te) (he2 : PE X e2 tz)
    (hg : Gl X C := by rfl) (hdb : (C == ("__debug__" : Str)) = false := by decide) (hs : starEach [e, e2] X.env = (false, eval e X.env) :: starEach [e2] X.env := by rfl) (hs2 : starEach [e2] X.env = (false, eval e2 X.env) :: starEach [] X.env := by rfl) (hpl : (backTo pos (starEach [e2] X.env)).any (·.1) = false := by rfl) :
    PS X (.Raise (some (.Call (.Name C p) [e, e2] [] pos)) none pos') (tRaise2 X.K C D f g W te tz) := by
  obtain ⟨fd, ps, F, hb⟩ := T.fn
  have base := L2N.ps_raise (pos := pos') hc tk (pmkN (p := p) (pos := pos) T.err.oex T.iC T.tI F hr hk hb (fun _ _ _ _ _ _ _ h => h.elim) T.gl (pa_cons he (pa_cons he2 pa_nil hs2) hs) hg hdb hs hpl)
  exact ⟨fun pins s σ H D I h => base.run pins s σ H D I h⟩
theorem g_raise2 {K : PySem.W.Frag} {C D f g : Str} {σ : L2.St} {W : WX} {y z : V} {H1 : Hp} (G : ErrC K C D) (hno : PySem.W.findIn K (.ref (He.ga K C)) f = some none) (hno2 : PySem.W.findIn K (.ref (He.ga K C)) g = some none)
    (k : ∀ d H2, H1 d = none → Ext H1 H2 → H2 d = some (.xd [(g, z), (f, y)]) → W (.ref (He.ga K C)) (some d) σ H2) : RaiseG2 K C D f g σ W y z H1 := by
  refine ⟨by simp, fun a ha => ⟨a, C, y, z, rfl, G, hno, hno2, upd_same, fun dx hd hda => ⟨rfl, dx, [(g, z), (f, y)], ?_, upd_same, ?_, ?_⟩⟩⟩
  · rw [upd_ne (Ne.symm hda), upd_same]
  · rw [upd_ne hda] at hd
    exact hd
  · rw [upd_ne hda] at hd
    have e : upd (del (upd (upd (upd (upd H1 a (exo a (He.ga K C) none)) dx (exd dx [(f, y)])) a (exo a (He.ga K C) (some dx))) dx (exd dx [(g, z), (f, y)])) a) dx (.xd [(g, z), (f, y)]) = upd H1 dx (.xd [(g, z), (f, y)]) := by
      funext b
      by_cases h1 : b = dx
      · rw [h1, upd_same, upd_same]
      · rw [upd_ne h1, upd_ne h1]
        by_cases h2 : b = a
        · rw [h2, del_same, ha]
        · rw [del_ne h2, upd_ne h1, upd_ne h2, upd_ne h1, upd_ne h2]
    rw [e]
    exact k dx _ hd (Chg.new hd _) upd_same
/-- all that raise C(e, e') wants of K -/
def errM2 (C D f g file : Str) : Ex := fun K => errB C D K && (He.eqO (PySem.W.findIn K (.ref (He.ga K C)) f) (some none) && (He.eqO (PySem.W.findIn K (.ref (He.ga K C)) g) (some none) && (He.eqO (PySem.W.findIn K (.ref (He.ga K C)) "__init__") (some (some (.ref (He.fAd K (D, some "__init__"))))) &&
  (decide (PySem.W.typeIn K (.ref (He.fAd K (D, some "__init__"))) = some (.type "function")) && fileB D file K))))
theorem errM2_ok {C D f g file : Str} {K : PySem.W.Frag} (h : errM2 C D f g file K = true) : ErrC K C D ∧ PySem.W.findIn K (.ref (He.ga K C)) f = some none ∧ PySem.W.findIn K (.ref (He.ga K C)) g = some none ∧ PySem.W.findIn K (.ref (He.ga K C)) "__init__" = some (some (.ref (He.fAd K (D, some "__init__")))) ∧
    PySem.W.typeIn K (.ref (He.fAd K (D, some "__init__"))) = some (.type "function") ∧ fileB D file K = true := by
  obtain ⟨h1, h⟩ := He.ba h
  obtain ⟨h2, h⟩ := He.ba h
  obtain ⟨h3, h⟩ := He.ba h
  obtain ⟨h4, h⟩ := He.ba h
  obtain ⟨h5, h6⟩ := He.ba h
  exact ⟨errB_ok h1, He.eqO_ok h2, He.eqO_ok h3, He.eqO_ok h4, of_decide_eq_true h5, h6⟩
/-! ### over plain data -/
theorem Rep.ext {K : PySem.W.Frag} {F H H' : Hp} {M : AM} (r : Rep K F H M) (c : Chg [] H H') : Rep K F H' M := by
  have hb : ∀ b o, H b = some o → H' b = some o := fun b o q => c.at q
  refine ⟨fun a o e => ?_, fun a o e => ⟨hb _ _ (r.fr a o e).1, (r.fr a o e).2⟩⟩
  have q := r.at_ a o e
  cases o with
  | lst as => obtain ⟨vs, h1, h2⟩ := q; exact ⟨vs, hb _ _ h1, h2.up c.tp⟩
  | draws => obtain ⟨ds, h1, h2⟩ := q; exact ⟨ds, hb _ _ h1, h2⟩
  | dK kvs => obtain ⟨ys, h1, h2⟩ := q; exact ⟨ys, hb _ _ h1, h2.up c.tp⟩
  | ins C fs => obtain ⟨dx, ys, h1, h2, h3⟩ := q; exact ⟨dx, ys, hb _ _ h1, hb _ _ h2, h3.up c.tp⟩
  | xd fs => obtain ⟨ys, h1, h2⟩ := q; exact ⟨ys, hb _ _ h1, h2.up c.tp⟩
  | fz u kvs => obtain ⟨h1, o, ys, e, h2⟩ := q; exact ⟨hb _ _ h1, o, ys, e, h2.up c.tp⟩
namespace Ab
abbrev WF (E : AX) : AX := E
def tRaise1 (K : PySem.W.Frag) (C D f : Str) (W : AX) (te : Ab.TE) : Ab.TS := fun _ s M => te s M fun y M1 => (ErrC K C D ∧ PySem.W.findIn K (.ref (He.ga K C)) f = some none) ∧ W (He.ga K C) [(f, y)] M1
def tRaise2 (K : PySem.W.Frag) (C D f g : Str) (W : AX) (te tz : Ab.TE) : Ab.TS := fun _ s M => te s M fun y M1 => tz s M1 fun z M2 => (ErrC K C D ∧ PySem.W.findIn K (.ref (He.ga K C)) f = some none ∧ PySem.W.findIn K (.ref (He.ga K C)) g = some none) ∧ W (He.ga K C) [(g, z), (f, y)] M2
theorem g_rs1 {K : PySem.W.Frag} {C D f : Str} {W : AX} {te : Ab.TE} {B : Ab.Ends} {s : AS} {M : AM} (h : te s M fun y M1 => (ErrC K C D ∧ PySem.W.findIn K (.ref (He.ga K C)) f = some none) ∧ W (He.ga K C) [(f, y)] M1) : tRaise1 K C D f W te B s M := h
theorem g_rs2 {K : PySem.W.Frag} {C D f g : Str} {W : AX} {te tz : Ab.TE} {B : Ab.Ends} {s : AS} {M : AM} (h : te s M fun y M1 => tz s M1 fun z M2 => (ErrC K C D ∧ PySem.W.findIn K (.ref (He.ga K C)) f = some none ∧ PySem.W.findIn K (.ref (He.ga K C)) g = some none) ∧ W (He.ga K C) [(g, z), (f, y)] M2) : tRaise2 K C D f g W te tz B s M := h
end Ab
namespace Rf
section
variable {K : PySem.W.Frag} {E : XK} {X : AX}
theorem tRaise1 {C D f : Str} {te : L2.TE} {ue : Ab.TE} (h : RE K E X te ue) : RSt K E X (My.tRaise1 K C D f (WF E) te) (Ab.tRaise1 K C D f (Ab.WF X) ue) := ⟨fun F σ H s M De B x rs m p d => h.run F σ H s M _ _ x rs m p fun a M1 v H1 ⟨⟨h1, h2⟩, p1⟩ m1 rv c1 =>
  g_raise1 h1 h2 fun dd H2 hd c2 e2 => (x.up c1).run _ _ M1 dd _ H2 p1 (m1.ext c2) (m1.free hd) (m1.no hd) e2 (RK.one (rv.up c2.tp)) c2.tp⟩
theorem tRaise2 {C D f g : Str} {te tz : L2.TE} {ue uz : Ab.TE} (h : RE K E X te ue) (hz : RE K E X tz uz) : RSt K E X (My.tRaise2 K C D f g (WF E) te tz) (Ab.tRaise2 K C D f g (Ab.WF X) ue uz) := ⟨fun F σ H s M De B x rs m p d => h.run F σ H s M _ _ x rs m p fun a M1 v H1 p1 m1 rv c1 =>
  hz.run F σ H1 s M1 _ _ (x.up c1) (rs.up c1) m1 p1 fun b M2 w H2 ⟨⟨h1, h2, h3⟩, p2⟩ m2 rw c2 =>
  g_raise2 h1 h2 h3 fun dd H3 hd c3 e3 => (x.up (c1.trans c2)).run _ _ M2 dd _ H3 p2 (m2.ext c3) (m2.free hd) (m2.no hd) e3 ⟨_, _, rfl, rfl, rw.up c3.tp, RK.one (rv.up (c2.trans c3.tp))⟩ c3.tp⟩
end
end Rf
end My

/-! Cs: instances of own classes: made, their methods called, x in o by an own __contains__. -/
namespace My
open PySem PySem.Spec PyProof.Rows L2
theorem passN {X : Cx} : Passes (L2N.CX X.prog X.w) X L2.E0 := fun _ _ _ _ _ _ _ h => by
  obtain ⟨_, _, _, _, _, _, _, _, _, _, _, _, z⟩ := h
  exact z.elim
/-- a class whose instances are made, as a constant of the module -/
structure ClK (P : Program) (w : World) (K : PySem.W.Frag) (mg : Str → Option Value) (base : Heap) (CX : CXT) (k : Nat) (x : Str) (sp : Sp) : Prop where
  ex : ∃ f fd ps, Mk K (He.ga K x) f ∧ FnOk P w K mg base CX k f fd ps sp ∧ mg x = some (.ref (He.ga K x)) ∧ Binds K fd ps []
/-- a method of a class -/
structure ClM (P : Program) (w : World) (K : PySem.W.Frag) (mg : Str → Option Value) (base : Heap) (CX : CXT) (k : Nat) (x m : Str) (sp : Sp) : Prop where
  ex : ∃ f fd ps, Cls K (He.ga K x) ∧ Meth K (He.ga K x) m f ∧ FnOk P w K mg base CX k f fd ps sp ∧ Binds K fd ps []
section
variable {X : Cx} {CX : CXT} {k j : Nat} {x m : Str} {sp : Sp} {E : XK} {e o : Expr} {es : List Expr} {t : TA} {ta : TE} {p pos apos : Pos}
theorem pe_clk (c : ClK X.prog X.w X.K X.mg X.base CX k x sp) (hr : Room j X.A) (hk : k + 1 ≤ j) (hx : Passes CX X E) (ha : PA X (e :: es) t) (hg : Gl X x := by rfl) (hdb : (x == ("__debug__" : Str)) = false := by decide)
    (he : starEach (e :: es) X.env = (false, eval e X.env) :: starEach es X.env := by rfl) (hpl : (backTo pos (starEach es X.env)).any (·.1) = false := by rfl) : PE X (.Call (.Name x p) (e :: es) [] pos) (tMake (He.ga X.K x) sp [] E t) := by
  obtain ⟨f, fd, ps, M, F, hm, hb⟩ := c.ex
  exact pe_make M F (hr.mono hk) hg hm hb .nil hx ha hdb he hpl
theorem pe_clm {pl : Sem Bool} (c : ClM X.prog X.w X.K X.mg X.base CX k x m sp) (hr : Room j X.A) (hk : k ≤ j) (hx : Passes CX X E) (ho : PE X o ta) (ha : PA X (e :: es) t)
    (hst : starEach (e :: es) X.env = (false, eval e X.env) :: starEach es X.env := by rfl) (hpl : (backTo pos (starEach es X.env)).any (·.1) = false := by rfl)
    (ht : eval (.Call (.Attribute o m apos) (e :: es) [] pos) X.env = (do
      let ov ← eval o X.env
      standAt apos.atName
      let (f, first) ← holding [ov] (getMethod ov m pl)
      callWith pos f first (backTo pos (starEach (e :: es) X.env)) (backToKw pos (keywordEach [] X.env))) := by rfl) :
    PE X (.Call (.Attribute o m apos) (e :: es) [] pos) (tMeth (He.ga X.K x) m sp [] E ta t) := by
  obtain ⟨f, fd, ps, hc, hm, F, hb⟩ := c.ex
  exact pe_meth ho hc hm F (hr.mono hk) hb .nil hx ha hst hpl ht
theorem pe_clm0 {pl : Sem Bool} (c : ClM X.prog X.w X.K X.mg X.base CX k x m sp) (hr : Room j X.A) (hk : k ≤ j) (hx : Passes CX X E) (ho : PE X o ta)
    (ht : eval (.Call (.Attribute o m apos) [] [] pos) X.env = (do
      let ov ← eval o X.env
      standAt apos.atName
      let (f, first) ← holding [ov] (getMethod ov m pl)
      callWith pos f first (backTo pos (starEach [] X.env)) (backToKw pos (keywordEach [] X.env))) := by rfl) :
    PE X (.Call (.Attribute o m apos) [] [] pos) (tMeth (He.ga X.K x) m sp [] E ta tNil) := by
  obtain ⟨f, fd, ps, hc, hm, F, hb⟩ := c.ex
  exact pe_meth0 ho hc hm F (hr.mono hk) hb .nil hx ht
/-- y in o by o's own __contains__ -/
def rInOwn (C : Addr) (sp : Sp) (E : XK) (neg : Bool) : R2 := fun y x H Q => ∃ a dx fs, x = .ref a ∧ H a = some (.ins C dx fs) ∧ sp [x, y] H (fun v H' => ∃ b : Bool, v = .bl b ∧ Q (.bl (if neg then !b else b)) H') E
theorem contains_own {pins : List (Addr × Obj)} {s : Shared} {σ : L2.St} {H : Hp} {a dx C f : Addr} {fs : List (Str × V)} {v : Value} {Q : Bool → Shared → Prop} (I : Inv X pins σ H s) (e : H a = some (.ins C dx fs)) (hm : Meth X.K C "__contains__" f)
    (h : wpAny (model X.prog X.w) X.A (call (.ref f) [.ref a, v]) (fun r s' => wpAny (model X.prog X.w) X.A (truthy r) Q X.xe s') X.xe s) : wpAny (model X.prog X.w) X.A (contains (.ref a) v) Q X.xe s := by
  obtain ⟨mA, O, _⟩ := ins_get I.hok e
  obtain ⟨od, J, _⟩ := O.look
  unfold contains
  refine wpAny_holding (wpAny_bind (wpAny_bind (J.type.here ((PySem.W.looks_findIn I.kIn hm.at_).here ?_))))
  rw [if_neg (by simp)]
  exact wpAny_bind (PySem.W.unlessNone_K I.kIn J hm.at_ hm.fn h)
theorem op_inOwn (c : ClM X.prog X.w X.K X.mg X.base CX k x "__contains__" sp) (hr : Room j X.A) (hk : k ≤ j) (hx : Passes CX X E) : OpR X (compareOp .In) (rInOwn (He.ga X.K x) sp E false) := by
  intro pins s σ H y o v u Q I ry ro h
  obtain ⟨f, fd, ps, hc, hm, F, hb⟩ := c.ex
  obtain ⟨a, dx, fs, rfl, ea, h⟩ := h
  cases ro
  refine wpAny_bind (contains_own I ea hm (thn (run_fn (dvs := []) (ds := []) (us := [.ref a, v]) (vs := [.ref a, y]) F (hr.mono hk) hb .nil hx I (.cons rfl (.cons ry .nil)) h) fun r s1 ⟨z, H1, I1, rz, b, ez, q⟩ => ?_))
  subst ez
  cases rz
  exact wpAny_truthy_bool (wpAny_pure ⟨.bl b, H1, I1, rfl, q⟩)
theorem op_notInOwn (c : ClM X.prog X.w X.K X.mg X.base CX k x "__contains__" sp) (hr : Room j X.A) (hk : k ≤ j) (hx : Passes CX X E) : OpR X (compareOp .NotIn) (rInOwn (He.ga X.K x) sp E true) := by
  intro pins s σ H y o v u Q I ry ro h
  obtain ⟨f, fd, ps, hc, hm, F, hb⟩ := c.ex
  obtain ⟨a, dx, fs, rfl, ea, h⟩ := h
  cases ro
  refine wpAny_bind (contains_own I ea hm (thn (run_fn (dvs := []) (ds := []) (us := [.ref a, v]) (vs := [.ref a, y]) F (hr.mono hk) hb .nil hx I (.cons rfl (.cons ry .nil)) h) fun r s1 ⟨z, H1, I1, rz, b, ez, q⟩ => ?_))
  subst ez
  cases rz
  exact wpAny_truthy_bool (wpAny_pure ⟨.bl (!b), H1, I1, rfl, q⟩)
end
namespace Ab
def rInOwn (C : Addr) (sp : ASp) (E : AX) (neg : Bool) : Ab.R2 := fun y x M P => ∃ a fs, x = .ref a ∧ M a = some (.ins C fs) ∧ sp [x, y] M (fun v M' => ∃ b : Bool, v = .bl b ∧ P (.bl (if neg then !b else b)) M') E
theorem g_inOwn {C : Addr} {sp : ASp} {E : AX} {neg : Bool} {y : A} {a : Addr} {fs : List (Str × A)} {M : AM} {P : AK} (m : M a = some (.ins C fs)) (h : sp [.ref a, y] M (fun v M' => ∃ b : Bool, v = .bl b ∧ P (.bl (if neg then !b else b)) M') E) : rInOwn C sp E neg y (.ref a) M P := ⟨a, fs, rfl, m, h⟩
end Ab
namespace Rf
section
variable {K : PySem.W.Frag} {E : XK} {X : AX}
theorem rInOwn {C : Addr} {sp : Sp} {asp : ASp} {neg : Bool} (h : RSp K sp asp) : RO2 K (My.rInOwn C sp L2.E0 neg) (Ab.rInOwn C asp Ab.E0 neg) := ⟨fun F H M x y a b Q P ra rb m ⟨l, fs, e, hl, p⟩ k => by
  subst e
  cases RV.ref_iff.mp rb
  obtain ⟨dx, ys, h1, h2, h3⟩ := m.at_ _ _ hl
  refine ⟨l, dx, ys, rfl, h1, h.run F _ _ H M _ _ _ _ (RL.cons rb (RL.one ra)) m p (fun c M' z H' ⟨b, e, p'⟩ m' rz c' => ?_) XOk.no⟩
  subst e
  exact ⟨b, RV.bl_iff.mp rz, k _ _ _ _ p' m' (RV.bl_iff.mpr rfl) c'⟩⟩
end
end Rf
end My

/-! Tr: try: one call, except T as e: suite; instances made and methods called there; over plain data. -/
namespace My
open PySem PySem.Spec PyProof.Rows L2
/-! ### a making and a method, what they raise wished for at the caller's slots -/
def tMakeS (C : Addr) (sp : Sp) (E : L2.St → XK) (t : TA) : L2.TE := fun σ H Q => L2.tMake C sp [] (E σ) t σ H Q
def tMethS (C : Addr) (m : Str) (sp : Sp) (E : L2.St → XK) (ta : L2.TE) (t : TA) : L2.TE := fun σ H Q => L2.tMeth C m sp [] (E σ) ta t σ H Q
section
variable {X : Cx} {CX : CXT} {k j : Nat} {x m : Str} {sp : Sp} {E : L2.St → XK} {e o : Expr} {es : List Expr} {t : TA} {ta : L2.TE} {p pos apos : Pos} {C f : Addr} {fd : FuncData} {ps : List Str}
theorem makeS_run {pins : List (Addr × Obj)} {σ : L2.St} {H : Hp} {s : Shared} {Q : VK} {us : List Value} {vs : List V} (mk : Mk X.K C f) (F : FnOk X.prog X.w X.K X.mg X.base CX k f fd ps sp) (hr : Room (k + 1) X.A) (hb : Binds X.K fd ps [])
    (hx : PassesAt CX X σ (E σ)) (I : Inv X pins σ H s) (rv : Vals vs us)
    (h : ∀ z dz, H z = none → H dz = none → dz ≠ z → sp (V.ref z :: (vs ++ [])) (upd (upd H dz (.own z)) z (.ins C dz [])) (fun v H2 => v = V.non ∧ Q (.ref z) H2) (E σ)) :
    wpAny (model X.prog X.w) X.A (call (.ref C) us) (EP X pins σ Q) X.xe s := by
  let a0 := s.heap.objs.size
  have n0 : H a0 = none := I.hok.fresh (Nat.le_refl _)
  have n1 : H (a0 + 1) = none := I.hok.fresh (Nat.le_succ _)
  have q0 := h (a0 + 1) a0 n1 n0 (Nat.ne_of_lt (Nat.lt_succ_self _))
  rw [List.append_nil] at q0
  have J := Inv.made (C := C) I
  have rw2 : Vals (V.ref (a0 + 1) :: vs) (Value.ref (a0 + 1) :: us) := .cons rfl rv
  have lu : ((Value.ref (a0 + 1) :: us) ++ []).length = ps.length := by
    rw [List.append_nil, ← rw2.length]
    exact F.len _ _ _ _ q0
  have bd := hb _ (Value.ref (a0 + 1) :: us) J.kIn lu
  rw [List.append_nil] at bd
  have go := F.run _ X.stack _ _ ⟨Value.ref (a0 + 1) :: us, []⟩ _ _ _ (E σ) (hr.make C us []) (J.env0.make C us []) bd rw2 q0
  refine wpAny_call (make_map (f := f) I.kIn mk.makes mk.init (beq_iff_eq.mp mk.fn) (codeAny_mono go fun r z hz => ?_))
  match r, hz with
  | .error u, hz => exact hx pins _ _ u z J hz
  | .ok (.ret u), hz =>
    obtain ⟨v, H3, I3, rr, ev, q3⟩ := J.after hz
    subst ev
    exact ⟨rr, ⟨V.ref (a0 + 1), H3, I3, rfl, q3⟩⟩
theorem pe_clkS (c : ClK X.prog X.w X.K X.mg X.base CX k x sp) (hr : Room j X.A) (hk : k + 1 ≤ j) (hx : ∀ σ, PassesAt CX X σ (E σ)) (ha : PA X (e :: es) t) (hg : Gl X x := by rfl) (hdb : (x == ("__debug__" : Str)) = false := by decide)
    (he : starEach (e :: es) X.env = (false, eval e X.env) :: starEach es X.env := by rfl) (hpl : (backTo pos (starEach es X.env)).any (·.1) = false := by rfl) : PE X (.Call (.Name x p) (e :: es) [] pos) (tMakeS (He.ga X.K x) sp E t) := by
  obtain ⟨f, fd, ps, mk, F, hm, hb⟩ := c.ex
  exact ⟨fun pins s σ H Q I h => wpAny_Call_Name_kw (ld_glob I hg hm (PySem.W.callWith_K (h₀ := X.base) I.ok.mod.kin mk.kp (thn (ha.run pos pins s σ H _ I h) fun us z ⟨vs, G, J, rv, q⟩ => ⟨J.kIn, makeS_run mk F (hr.mono hk) hb (hx σ) J rv q⟩) he hpl) hdb)⟩
theorem pe_clmS {pl : Sem Bool} (c : ClM X.prog X.w X.K X.mg X.base CX k x m sp) (hr : Room j X.A) (hk : k ≤ j) (hx : ∀ σ, PassesAt CX X σ (E σ)) (ho : PE X o ta) (ha : PA X (e :: es) t)
    (hst : starEach (e :: es) X.env = (false, eval e X.env) :: starEach es X.env := by rfl) (hpl : (backTo pos (starEach es X.env)).any (·.1) = false := by rfl)
    (ht : eval (.Call (.Attribute o m apos) (e :: es) [] pos) X.env = (do
      let ov ← eval o X.env
      standAt apos.atName
      let (f, first) ← holding [ov] (getMethod ov m pl)
      callWith pos f first (backTo pos (starEach (e :: es) X.env)) (backToKw pos (keywordEach [] X.env))) := by rfl) :
    PE X (.Call (.Attribute o m apos) (e :: es) [] pos) (tMethS (He.ga X.K x) m sp E ta t) := by
  obtain ⟨f, fd, ps, hc, hm, F, hb⟩ := c.ex
  refine ⟨fun pins s σ H Q I h => PySem.W.methodCall_KW (pl := pl) (thn (ho.run pins s σ H _ I h) fun u z ⟨v, G, J, rv, l, dx, fs, ev, el, nl, q⟩ => ?_) ht⟩
  subst ev
  obtain rfl : u = Value.ref l := rv
  exact getmeth_ok J el hc hm nl (PySem.W.callWith_K (first := [.ref l]) (h₀ := X.base) J.ok.mod.kin hm.kp (thn (ha.run pos pins z σ G _ J q) fun us z2 ⟨vs, G2, J2, r, q2⟩ => ⟨J2.kIn, run_fnS (us := .ref l :: us) (vs := .ref l :: vs) F (hr.mono hk) hb (hx σ) J2 (.cons rfl r) (by have q3 : sp (V.ref l :: (vs ++ [])) G2 Q (E σ) := q2; rw [List.append_nil] at q3; exact q3)⟩) hst hpl)
theorem pe_clmS0 {pl : Sem Bool} (c : ClM X.prog X.w X.K X.mg X.base CX k x m sp) (hr : Room j X.A) (hk : k ≤ j) (hx : ∀ σ, PassesAt CX X σ (E σ)) (ho : PE X o ta)
    (ht : eval (.Call (.Attribute o m apos) [] [] pos) X.env = (do
      let ov ← eval o X.env
      standAt apos.atName
      let (f, first) ← holding [ov] (getMethod ov m pl)
      callWith pos f first (backTo pos (starEach [] X.env)) (backToKw pos (keywordEach [] X.env))) := by rfl) :
    PE X (.Call (.Attribute o m apos) [] [] pos) (tMethS (He.ga X.K x) m sp E ta tNil) := by
  obtain ⟨f, fd, ps, hc, hm, F, hb⟩ := c.ex
  refine ⟨fun pins s σ H Q I h => PySem.W.methodCall_KW (pl := pl) (thn (ho.run pins s σ H _ I h) fun u z ⟨v, G, J, rv, l, dx, fs, ev, el, nl, q⟩ => ?_) ht⟩
  subst ev
  obtain rfl : u = Value.ref l := rv
  exact getmeth_ok J el hc hm nl (PySem.W.callWith_K0 (first := [.ref l]) J.kIn hm.kp (run_fnS (us := [.ref l]) (vs := [.ref l]) F (hr.mono hk) hb (hx σ) J (.cons rfl .nil) q))
end
theorem ps_tryT {X : Cx} {x n : Str} {c : Value} {i : Nat} {body suite : List Stmt} {b0 : Stmt} {np pos pos' : Pos} {tb : WX → L2.TS} {ts : Addr → Value → Option Addr → L2.TS}
    (h1 : X.stack = X.env :: X.outer) (h2 : X.env.frame = some X.env.locals) (nd : X.N.Nodup) (hi : X.N[i]? = some n) (hl : X.env.kindOf n = some .local) (hc : L2.Names X x c)
    (hb : ∀ (W : WX) (pn : List (Addr × Obj)) (xe : Value → Shared → Prop), L2N.Takes (X.tr pn xe) W → PassesOwn (model X.prog X.w) X.A X.env xe → PSs (X.tr pn xe) body (tb W))
    (hsu : ∀ (a : Addr) (oe : Obj) (cls : Value) (d : Option Addr) (pn : List (Addr × Obj)), L2N.Zn cls d oe → (∃ vs, oe.data = .fields vs) → PSs (X.suite a ((a, oe) :: pn)) (b0 :: suite) (ts a cls d)) :
    PS X (.Try body [.ExceptHandler (some (.Name x np)) (some n) (b0 :: suite) pos'] [] [] pos) (tTry X.K c i tb ts) :=
  ⟨fun pins s σ H D I h => (L2N.ps_try_as (pos := pos) (pos' := pos') (np := np) h1 h2 nd hi hl hc takesN hb hsu).run pins s σ H D I h⟩
/-- try .. except T: without a name -/
def tTryN (K : PySem.W.Frag) (c : Value) (tb : WX → L2.TS) (ts : Addr → Value → Option Addr → L2.TS) : L2.TS := fun D σ H => tb (wMany K (fun _ _ _ _ => False) D [(c, ts)]) D σ H
theorem ps_tryN {X : Cx} {x : Str} {c : Value} {body suite : List Stmt} {b0 : Stmt} {np pos pos' : Pos} {tb : WX → L2.TS} {ts : Addr → Value → Option Addr → L2.TS}
    (h1 : X.stack = X.env :: X.outer) (h2 : X.env.frame = some X.env.locals) (hc : L2.Names X x c)
    (hb : ∀ (W : WX) (pn : List (Addr × Obj)) (xe : Value → Shared → Prop), L2N.Takes (X.tr pn xe) W → PassesOwn (model X.prog X.w) X.A X.env xe → PSs (X.tr pn xe) body (tb W))
    (hsu : ∀ (a : Addr) (oe : Obj) (cls : Value) (d : Option Addr) (pn : List (Addr × Obj)), L2N.Zn cls d oe → (∃ vs, oe.data = .fields vs) → PSs (X.suite a ((a, oe) :: pn)) (b0 :: suite) (ts a cls d)) :
    PS X (.Try body [.ExceptHandler (some (.Name x np)) none (b0 :: suite) pos'] [] [] pos) (tTryN X.K c tb ts) :=
  ⟨fun pins s σ H D I h => (L2N.ps_try_many (pos := pos) h1 h2 takesN hb (L2N.HdsOk.cons (pos' := pos') (np := np) hc hsu L2N.HdsOk.nil)).run pins s σ H D I h⟩
/-! ### over plain data -/
namespace Ab
abbrev WE (Y : AX) : AX := Y
def tMakeS (C : Addr) (sp : ASp) (Y : AX) (t : Ab.TA) : Ab.TE := Ab.tMake C sp [] Y t
def tMethS (C : Addr) (m : Str) (sp : ASp) (Y : AX) (ta : Ab.TE) (t : Ab.TA) : Ab.TE := Ab.tMeth C m sp [] Y ta t
def tCallS (sp : ASp) (Y : AX) (t : Ab.TA) : Ab.TE := Ab.tCall sp [] Y t
/-- the suite gets the exception, its class and its dict -/
def tTry (K : PySem.W.Frag) (c : Value) (i : Nat) (ub : AX → Ab.TS) (us : Addr → Addr → Addr → Ab.TS) : Ab.TS := fun B s M =>
  ub (fun C fs M1 => PySem.W.exmOne K (.ref C) c = some true ∧ ∀ a d, M1 d = none → us a C d { nx := fun s2 M2 => B.nx (s2.set i none) M2, rt := B.rt, bk := fun s2 M2 => B.bk (s2.set i none) M2, ct := fun s2 M2 => B.ct (s2.set i none) M2 } (s.set i (some (.ref a))) (aupd M1 d (.xd fs))) B s M
def tTryN (K : PySem.W.Frag) (c : Value) (ub : AX → Ab.TS) (us : Addr → Addr → Addr → Ab.TS) : Ab.TS := fun B s M =>
  ub (fun C fs M1 => PySem.W.exmOne K (.ref C) c = some true ∧ ∀ a d, M1 d = none → us a C d B s (aupd M1 d (.xd fs))) B s M
theorem g_tryN {K : PySem.W.Frag} {c : Value} {ub : AX → Ab.TS} {us : Addr → Addr → Addr → Ab.TS} {B : Ab.Ends} {s : AS} {M : AM}
    (h : ub (fun C fs M1 => PySem.W.exmOne K (.ref C) c = some true ∧ ∀ a d, M1 d = none → us a C d B s (aupd M1 d (.xd fs))) B s M) : tTryN K c ub us B s M := h
def tXf (a C0 d C : Addr) (f : Str) (te : Ab.TE) : Ab.TE := fun s M P => te s M fun x M1 => x = .ref a ∧ C0 = C ∧ ∃ (fs : List (Str × A)) (v : A), M1 d = some (.xd fs) ∧ valA fs f = some v ∧ P v M1
def rIsD (K : PySem.W.Frag) (C d a : Addr) : Ab.RB := fun xs M P => ∃ (c : A) (cv : Value) (b : Bool) (fs : List (Str × A)), M d = some (.xd fs) ∧ ExcC K C ∧ xs = [.ref a, c] ∧ ((∃ q, c = .ref q ∧ cv = .ref q) ∨ (∃ T, c = .ty T ∧ cv = .type T)) ∧ PySem.W.kitOne K (.ref C) cv = some b ∧ P (.bl b) M
theorem g_tryI {K : PySem.W.Frag} {c : Value} {i : Nat} {ub : AX → Ab.TS} {us : Addr → Addr → Addr → Ab.TS} {B : Ab.Ends} {s : AS} {M : AM}
    (h : ub (fun C fs M1 => PySem.W.exmOne K (.ref C) c = some true ∧ ∀ a d, M1 d = none → us a C d { nx := fun s2 M2 => B.nx (s2.set i none) M2, rt := B.rt, bk := fun s2 M2 => B.bk (s2.set i none) M2, ct := fun s2 M2 => B.ct (s2.set i none) M2 } (s.set i (some (.ref a))) (aupd M1 d (.xd fs))) B s M) : tTry K c i ub us B s M := h
theorem g_makeSI {C : Addr} {sp : ASp} {Y : AX} {t : Ab.TA} {s : AS} {M : AM} {P : AK} (h : t s M fun vs M1 => ∀ x, M1 x = none → sp (.ref x :: (vs ++ [])) (aupd M1 x (.ins C [])) (fun v M2 => v = .non ∧ P (.ref x) M2) Y) : tMakeS C sp Y t s M P := h
theorem g_methSI {C : Addr} {m : Str} {sp : ASp} {Y : AX} {ta : Ab.TE} {t : Ab.TA} {s : AS} {M : AM} {P : AK} (h : ta s M fun x M1 => ∃ a fs, x = .ref a ∧ M1 a = some (.ins C fs) ∧ (valA fs m = none) ∧ t s M1 fun vs M2 => sp (x :: (vs ++ [])) M2 P Y) : tMethS C m sp Y ta t s M P := h
theorem g_callSI {sp : ASp} {Y : AX} {t : Ab.TA} {s : AS} {M : AM} {P : AK} (h : t s M fun vs M1 => sp (vs ++ []) M1 P Y) : tCallS sp Y t s M P := h
theorem g_xfI {a C0 d C : Addr} {f : Str} {te : Ab.TE} {s : AS} {M : AM} {P : AK} (h : te s M fun x M1 => x = .ref a ∧ C0 = C ∧ ∃ (fs : List (Str × A)) (v : A), M1 d = some (.xd fs) ∧ valA fs f = some v ∧ P v M1) : tXf a C0 d C f te s M P := h
theorem g_xfV {a C d : Addr} {f : Str} {fs : List (Str × A)} {v : A} {M : AM} {Q : A → Prop} (m : M d = some (.xd fs)) (e : valA fs f = some v) (h : Q v) : A.ref a = A.ref a ∧ C = C ∧ ∃ (fs : List (Str × A)) (v : A), M d = some (.xd fs) ∧ valA fs f = some v ∧ Q v := ⟨rfl, rfl, fs, v, m, e, h⟩
theorem g_isD {K : PySem.W.Frag} {C d a T : Addr} {b : Bool} {fs : List (Str × A)} {M : AM} {P : AK} (m : M d = some (.xd fs)) (hC : ExcC K C) (hk : PySem.W.kitOne K (.ref C) (.ref T) = some b) (h : P (.bl b) M) : rIsD K C d a [.ref a, .ref T] M P :=
  ⟨.ref T, _, b, fs, m, hC, rfl, .inl ⟨T, rfl, rfl⟩, hk, h⟩
theorem g_isDT {K : PySem.W.Frag} {C d a : Addr} {T : String} {b : Bool} {fs : List (Str × A)} {M : AM} {P : AK} (m : M d = some (.xd fs)) (hC : ExcC K C) (hk : PySem.W.kitOne K (.ref C) (.type T) = some b) (h : P (.bl b) M) : rIsD K C d a [.ref a, .ty T] M P :=
  ⟨.ty T, _, b, fs, m, hC, rfl, .inr ⟨T, rfl, rfl⟩, hk, h⟩
end Ab
namespace Rf
section
variable {K : PySem.W.Frag} {E : XK} {X : AX}
theorem tTryG {c : Value} {i : Nat} {tb : WX → L2.TS} {tb2 : XK → L2.TS} {ub : AX → Ab.TS} {ts : Addr → Value → Option Addr → L2.TS} {us : Addr → Addr → Addr → Ab.TS} (e : ∀ W D σ H, tb2 (fun c d G => W c d σ G) D σ H → tb W D σ H)
    (hb : ∀ E X, RSt K E X (tb2 E) (ub X)) (hs : ∀ a C d, RSt K E X (ts a (.ref C) (some d)) (us a C d)) : RSt K E X (My.tTry K c i tb ts) (Ab.tTry K c i ub us) := ⟨fun F σ H s M De B x rs m p dk => by
  refine e _ De σ H ((hb _ _).run F σ H s M De B ⟨fun C fs M1 d ys G ⟨hC, hq⟩ r n1 n2 ed kd tp => ?_⟩ rs m p dk)
  refine ⟨true, hC, fun _ a na => ?_, fun z => nomatch z⟩
  have r2 : Rep K F G (aupd M1 d (.xd fs)) := r.tell n1 ⟨ys, ed, kd⟩
  have dk2 := dk.up tp
  exact (hs a C d).run F _ G _ _ _ _ (x.up tp) ((rs.up tp).set (RV.ref_iff.mpr rfl)) r2 (hq a d n2)
    ⟨fun s2 M2 σ2 G2 h k r t => dk2.nx _ _ _ _ h k.unset r t, dk2.rt, fun s2 M2 σ2 G2 h k r t => dk2.bk _ _ _ _ h k.unset r t, fun s2 M2 σ2 G2 h k r t => dk2.ct _ _ _ _ h k.unset r t⟩⟩
theorem tTryNG {c : Value} {tb : WX → L2.TS} {tb2 : XK → L2.TS} {ub : AX → Ab.TS} {ts : Addr → Value → Option Addr → L2.TS} {us : Addr → Addr → Addr → Ab.TS} (e : ∀ W D σ H, tb2 (fun c d G => W c d σ G) D σ H → tb W D σ H)
    (hb : ∀ E X, RSt K E X (tb2 E) (ub X)) (hs : ∀ a C d, RSt K E X (ts a (.ref C) (some d)) (us a C d)) : RSt K E X (My.tTryN K c tb ts) (Ab.tTryN K c ub us) := ⟨fun F σ H s M De B x rs m p dk => by
  refine e _ De σ H ((hb _ _).run F σ H s M De B ⟨fun C fs M1 d ys G ⟨hC, hq⟩ r n1 n2 ed kd tp => ?_⟩ rs m p dk)
  refine ⟨true, hC, fun _ a na => ?_, fun z => nomatch z⟩
  have r2 : Rep K F G (aupd M1 d (.xd fs)) := r.tell n1 ⟨ys, ed, kd⟩
  exact (hs a C d).run F _ G _ _ _ _ (x.up tp) (rs.up tp) r2 (hq a d n2) (dk.up tp)⟩
section
variable {c : Value} {i : Nat} {ts : Addr → Value → Option Addr → L2.TS} {us : Addr → Addr → Addr → Ab.TS} {C : Addr} {m : Str} {sp : Sp} {asp : ASp} {t : L2.TA} {u : Ab.TA} {ta : L2.TE} {ua : Ab.TE} {g : L2.TG} {ug : Ab.TG}
theorem tTryDM (hs : ∀ a C d, RSt K E X (ts a (.ref C) (some d)) (us a C d)) (h : RSp K sp asp) (ha : ∀ E X, RA K E X t u) : RSt K E X (My.tTry K c i (fun W => L2.tDrop (My.tMakeS C sp (WE W) t)) ts) (Ab.tTry K c i (fun Y => Ab.tDrop (Ab.tMakeS C asp (Ab.WE Y) u)) us) :=
  tTryG (tb2 := fun E => L2.tDrop (L2.tMake C sp [] E t)) (fun _ _ _ _ q => q) (fun E X => tDrop (tMakeX h (ha E X))) hs
theorem tTryDH (hs : ∀ a C d, RSt K E X (ts a (.ref C) (some d)) (us a C d)) (h : RSp K sp asp) (ho : ∀ E X, RE K E X ta ua) (ha : ∀ E X, RA K E X t u) : RSt K E X (My.tTry K c i (fun W => L2.tDrop (My.tMethS C m sp (WE W) ta t)) ts) (Ab.tTry K c i (fun Y => Ab.tDrop (Ab.tMethS C m asp (Ab.WE Y) ua u)) us) :=
  tTryG (tb2 := fun E => L2.tDrop (L2.tMeth C m sp [] E ta t)) (fun _ _ _ _ q => q) (fun E X => tDrop (tMethX h (ho E X) (ha E X))) hs
theorem tTryAH (hs : ∀ a C d, RSt K E X (ts a (.ref C) (some d)) (us a C d)) (h : RSp K sp asp) (ho : ∀ E X, RE K E X ta ua) (ha : ∀ E X, RA K E X t u) (hg : ∀ E X, RG K E X g ug) : RSt K E X (My.tTry K c i (fun W => L2.tAsg (My.tMethS C m sp (WE W) ta t) g) ts) (Ab.tTry K c i (fun Y => Ab.tAsg (Ab.tMethS C m asp (Ab.WE Y) ua u) ug) us) :=
  tTryG (tb2 := fun E => L2.tAsg (L2.tMeth C m sp [] E ta t) g) (fun _ _ _ _ q => q) (fun E X => tAsg (tMethX h (ho E X) (ha E X)) (hg E X)) hs
theorem tTryNAH (hs : ∀ a C d, RSt K E X (ts a (.ref C) (some d)) (us a C d)) (h : RSp K sp asp) (ho : ∀ E X, RE K E X ta ua) (ha : ∀ E X, RA K E X t u) (hg : ∀ E X, RG K E X g ug) : RSt K E X (My.tTryN K c (fun W => L2.tAsg (My.tMethS C m sp (WE W) ta t) g) ts) (Ab.tTryN K c (fun Y => Ab.tAsg (Ab.tMethS C m asp (Ab.WE Y) ua u) ug) us) :=
  tTryNG (tb2 := fun E => L2.tAsg (L2.tMeth C m sp [] E ta t) g) (fun _ _ _ _ q => q) (fun E X => tAsg (tMethX h (ho E X) (ha E X)) (hg E X)) hs
theorem tTryAM (hs : ∀ a C d, RSt K E X (ts a (.ref C) (some d)) (us a C d)) (h : RSp K sp asp) (ha : ∀ E X, RA K E X t u) (hg : ∀ E X, RG K E X g ug) : RSt K E X (My.tTry K c i (fun W => L2.tAsg (My.tMakeS C sp (WE W) t) g) ts) (Ab.tTry K c i (fun Y => Ab.tAsg (Ab.tMakeS C asp (Ab.WE Y) u) ug) us) :=
  tTryG (tb2 := fun E => L2.tAsg (L2.tMake C sp [] E t) g) (fun _ _ _ _ q => q) (fun E X => tAsg (tMakeX h (ha E X)) (hg E X)) hs
end
theorem tXf {a C0 d C : Addr} {f : Str} {te : L2.TE} {ue : Ab.TE} (h : RE K E X te ue) : RE K E X (L2.tXf a (.ref C0) (some d) C f te) (Ab.tXf a C0 d C f ue) := ⟨fun F σ H s M Q P x rs m p k => h.run F σ H s M _ _ x rs m p fun b M1 v H1 ⟨e, eC, fs, w, hd, hf, p1⟩ m1 rv c1 => by
  subst e eC
  cases RV.ref_iff.mp rv
  obtain ⟨ys, h1, h2⟩ := m1.at_ _ _ hd
  obtain ⟨w2, h3, h4⟩ := look h2 hf
  exact ⟨rfl, rfl, d, ys, w2, rfl, h1, h3, k _ M1 _ H1 p1 m1 h4 c1⟩⟩
theorem rIsD {C d a : Addr} : ROB K (My.rIsD K (.ref C) (some d) a) (Ab.rIsD K C d a) := ⟨fun F H M xs as Q P rl m ⟨c, cv, b, fs, hd, hC, e, hc, hk, p⟩ k => by
  subst e
  obtain ⟨v, w, rfl, rv, rw⟩ := two rl
  cases RV.ref_iff.mp rv
  obtain ⟨ys, h1, h2⟩ := m.at_ _ _ hd
  refine ⟨C, w, cv, b, d, ys, rfl, rfl, h1, hC, rfl, ?_, hk, k _ M _ H p m (RV.bl_iff.mpr rfl) (Tp.refl _)⟩
  rcases hc with ⟨q, rfl, rfl⟩ | ⟨T, rfl, rfl⟩
  · cases RV.ref_iff.mp rw
    intro u hu
    exact hu
  · cases RV.ty_iff.mp rw
    intro u hu
    exact hu⟩
end
end Rf
end My

/-! Rep1: text.replace(y, z, 1), the one text within the other. -/
namespace My
open PySem PySem.Spec PyProof.Rows L2 Builtin Builtin.Str
/-- x.replace(y, z, 1) -/
def repl1 (x y z : Str) : Str := if ((occurrences x y 0 x.length 1).isEmpty || (y.length == 0 && z.length == 0)) = true then x else glued z (partsBetween x (occurrences x y 0 x.length 1) y.length)
theorem gives_replace1 (x y z : Str) (t u v k : Tok)
    (hf : (u == 0 || v == 0) = false ∧ (u == v) = false ∧ (y == z) = false ∧ tooLong (x.length + (occurrences x y 0 x.length 1).length * z.length) = false) :
    Gives («str.replace» ⟨[.str x t, .str y u, .str z v, .int 1 k], []⟩) (if ((occurrences x y 0 x.length 1).isEmpty || (y.length == 0 && z.length == 0)) = true then .val (.str x t) else .str (glued z (partsBetween x (occurrences x y 0 x.length 1) y.length))) := by
  show Gives (if ((occurrences x y 0 x.length 1).isEmpty || (y.length == 0 && z.length == 0)) = true then (do rule "str.replace.nothing"; ret (.str x t)) else
          (do let same ← isSame (.str y u) (.str z v)
              if same = true then (do rule "str.replace.old-is-new"; ret (.str x t)) else
              if tooLong (x.length + (occurrences x y 0 x.length 1).length * z.length) = true then unsupported "str.replace:memory" else
              retStr (glued z (partsBetween x (occurrences x y 0 x.length 1) y.length)))) _
  obtain ⟨h0, huv, hyz, hl⟩ := hf
  cases hc : ((occurrences x y 0 x.length 1).isEmpty || (y.length == 0 && z.length == 0))
  · rw [isSame_str_other y z u v h0 huv hyz, hl]
    exact .of_eq rfl
  · exact .rule (.of_eq rfl)
theorem fits_repl1 {x z : Str} (y : Str) (hb : x.length + z.length ≤ 16777216) : (glued z (partsBetween x (occurrences x y 0 x.length 1) y.length)).length ≤ sizeLine := by
  have h1 := StrLaws.occ_length_le x y 0 x.length 1
  have hy : (glued y (partsBetween x (occurrences x y 0 x.length 1) y.length)).length = x.length := by rw [StrLaws.glued_between_self]
  rw [size_glued, length_partsBetween, Nat.add_sub_cancel] at hy
  rw [size_glued, length_partsBetween, Nat.add_sub_cancel, sizeLine_eq]
  have h2 : (occurrences x y 0 x.length 1).length * z.length ≤ 1 * z.length := Nat.mul_le_mul_right _ h1
  omega
theorem call_repl1 {prog : Program} {w : World} {A : Around} {E : Value → Shared → Prop} {s : Shared} {x y z : Str} {t u v k : Tok} {Q : Value → Shared → Prop}
    (hu : u ≠ 0) (hv : v ≠ 0) (huv : u ≠ v) (hyz : (y == z) = false) (hb : x.length + z.length ≤ 16777216)
    (hq : ∀ t' k, Q (.str (repl1 x y z) t') { s with toks := k }) : wpAny (model prog w) A (call (.builtin "str.replace") [.str x t, .str y u, .str z v, .int 1 k]) Q E s := by
  have e : (2 : Nat) ^ 24 = 16777216 := by decide
  have hl : tooLong (x.length + (occurrences x y 0 x.length 1).length * z.length) = false := by
    have h1 := StrLaws.occ_length_le x y 0 x.length 1
    have h2 : (occurrences x y 0 x.length 1).length * z.length ≤ 1 * z.length := Nat.mul_le_mul_right _ h1
    unfold tooLong sizeLine
    exact decide_eq_false (by omega)
  refine call_gives F.slot_str_replace (typeIs_str _ _ _) F.entry_str_replace (F.args_str_replace_4 _ _ _ _)
    (gives_replace1 x y z t u v k ⟨by simp [hu, hv], by simp [huv], hyz, hl⟩) ?_
  have hq' := hq
  unfold repl1 at hq'
  cases hc : ((occurrences x y 0 x.length 1).isEmpty || (y.length == 0 && z.length == 0))
  · rw [hc] at hq'
    simp only [Bool.false_eq_true, if_false] at hq' ⊢
    exact ⟨fits_repl1 y hb, hq' _ _⟩
  · rw [hc] at hq'
    simp only [if_true] at hq' ⊢
    exact hq' t s.toks
def tRepl1 (to : TE) (y z : Str) : TE := fun σ H Q => to σ H fun v H1 => ∃ x, v = .str x ∧ x.length + z.length ≤ 16777216 ∧ Q (.str (repl1 x y z)) H1
section
variable {X : Cx} {o e : Expr} {to te : TE} {y z c : Str} {j k l : Nat} {c0 c1 c2 apos pos p : Pos}
theorem pet_repl1 (ho : PE X o to) (hyz : (y == z) = false := by decide)
    (hst : starEach [.Constant (.str y) j c0, .Constant (.str z) k c1, .Constant (.int 1) l c2] X.env = [(false, eval (.Constant (.str y) j c0) X.env), (false, eval (.Constant (.str z) k c1) X.env), (false, eval (.Constant (.int 1) l c2) X.env)] := by rfl)
    (hbase : attributeBase o "replace" X.env (eval o X.env) = eval o X.env := by rfl) (hline : (apos.endLine == pos.line) = true := by rfl) :
    PET X (.Call (.Attribute o "replace" apos) [.Constant (.str y) j c0, .Constant (.str z) k c1, .Constant (.int 1) l c2] [] pos) (tRepl1 to y z) := by
  intro pins s σ H Q h0 I h
  refine wpAny_Call_method_lateS hbase (by rw [hst]; rfl) hline ?_
  have eb : ∀ a b c : Sem Value, backTo pos [(false, a), (false, b), (false, c)] = [(false, a), (false, b), (false, c)] := fun _ _ _ => rfl
  rw [hst, eb]
  refine wpAny_mono (PySem.wpAny_toks (ho.run pins s σ H _ I h)) (fun v s1 q => ?_) fun _ _ z => z.2
  obtain ⟨hk, v', H1, I1, r1, x, e1, hb, q⟩ := q
  subst e1
  obtain ⟨tx, e2⟩ := r1
  subst e2
  refine ⟨"str", _, PySem.F.plainAttrs_str, PySem.F.slot_str_replace, PySem.F.type_str_replace, typeIs_str _ _ _, (fun _ e => nomatch e), Calls.callWith_builtin rfl (Calls.evalArgs_plain (Calls.spliced_cons ?_))⟩
  refine Calls.Constant_str (Calls.spliced_cons (Calls.Constant_str (Calls.spliced_cons ?_)))
  have I2 : Inv X pins σ H1 { s1 with toks := s1.toks + 1 + 1 } := I1.tok _
  refine thn ((pe_int (X := X)).run pins _ σ H1 (fun v H2 => v = .int 1 ∧ H2 = H1) I2 ⟨rfl, rfl⟩) fun w s3 ⟨i, H3, I3, r3, ei, eh⟩ => ?_
  subst ei eh
  obtain ⟨ti, rfl⟩ := r3
  refine Calls.spliced_nil ?_
  exact call_repl1 (by show s1.toks ≠ 0; omega) (by show s1.toks + 1 ≠ 0; omega) (by show s1.toks ≠ s1.toks + 1; omega) hyz hb fun t' k => ⟨.str (repl1 x y z), H3, I3.tok k, ⟨t', rfl⟩, q⟩
/-- the one text within the other -/
def rInT : R2 := fun x y H Q => ∃ i j, x = .str i ∧ y = .str j ∧ Q (.bl (!(occurrences j i 0 j.length 1).isEmpty)) H
/-- if "c" in e: behind the test a token is out -/
theorem ps_ifT {a b : List Stmt} {t u : TS} {pos' : Pos} (hb : PE X e te) (ha : PSsT X a t) (hc : PSs X b u) (hm : behindInMarks .In e = false) :
    PS X (.If (.Compare (.Constant (.str c) j c0) [.In] [e] p) a b pos') (tIfS (tTest (tOp rInT (tC (.str c)) te)) t u) := by
  refine ⟨fun pins s σ H D I h => ?_⟩
  refine wpAny_If (wpAny_isTrue_Compare1 ?_ hm)
  refine Calls.Constant_str ?_
  have I1 : Inv X pins σ H { s with toks := s.toks + 1 } := I.tok _
  refine wpAny_mono (PySem.wpAny_toks (hb.run pins _ σ H _ I1 h)) (fun v s2 q => ?_) fun _ _ z => z.2
  obtain ⟨hk, v', H2, I2, r2, q2⟩ := q
  have hk : s.toks + 1 ≤ s2.toks := hk
  refine wpAny_mono (PySem.wpAny_toks (op_in_str pins s2 σ H2 (.str c) v' (.str c s.toks) v (fun x H' => ∃ k, x = V.bl k ∧ (if k = true then t D σ H' else u D σ H')) I2 ⟨_, rfl⟩ r2 q2)) (fun w s3 q => ?_) fun _ _ z => z.2
  obtain ⟨hk3, w', H3, I3, r3, d, ew, q3⟩ := q
  subst ew
  cases r3
  refine wpAny_truthy_bool ?_
  cases d with
  | true => exact ha pins s3 σ H3 D (by omega) I3 q3
  | false => exact hc.run pins s3 σ H3 D I3 q3
end
/-- what replace does: nothing, or the one text stands where the other stood -/
theorem repl1_tl {x y z : Str} (hy : 1 ≤ y.length) (h : (!(occurrences x y 0 x.length 1).isEmpty) = true) : ∃ a b : List Nat, x.cps.toList = a ++ (y.cps.toList ++ b) ∧ (repl1 x y z).cps.toList = a ++ (z.cps.toList ++ b) := by
  have h1 := StrLaws.occ_length_le x y 0 x.length 1
  have hs := StrLaws.occ_spec x y 0 x.length 1
  have hne : y.length ≠ 0 := by omega
  cases e : occurrences x y 0 x.length 1 with
  | nil => rw [e] at h; simp at h
  | cons i r =>
    rw [e] at h1 hs
    cases r with
    | cons _ _ => simp at h1
    | nil =>
      obtain ⟨hi, hat⟩ := hs i (by simp)
      have ht := StrLaws.at_take (x := x) (y := y) (k := i) ⟨hi, hat⟩
      refine ⟨x.cps.toList.take i, (x.cps.toList.drop i).drop y.cps.toList.length, ?_, ?_⟩
      · have h3 := List.take_append_drop y.cps.toList.length (x.cps.toList.drop i)
        rw [ht] at h3
        rw [h3, List.take_append_drop]
      · unfold repl1
        rw [e]
        have : ([i].isEmpty || (y.length == 0 && z.length == 0)) = false := by simp [hne]
        rw [this]
        simp only [Bool.false_eq_true, if_false]
        rw [StrLaws.partsBetween_eq]
        have ey : y.cps.toList.length = y.length := by simp [Str.length]
        rw [show StrLaws.partsFrom x y.length 0 [i] = [strSub x 0 i, strSub x (i + y.length) x.length] from rfl, StrLaws.glued_list]
        simp only [StrLaws.glueT, StrLaws.glueL, List.append_nil]
        rw [StrLaws.strSub_toList, StrLaws.strSub_toList, List.drop_drop, ey]
        have ex : x.cps.toList.length = x.length := by simp [Str.length]
        rw [List.drop_zero, Nat.sub_zero, List.take_of_length_le (l := x.cps.toList.drop (i + y.length)) (by rw [List.length_drop]; omega)]
abbrev rIsLow : V → List V → Hp → VK → Prop := fun x xs H Q => ∃ a, x = .str a ∧ xs = [] ∧ True ∧ Q (.bl (Txt.islower a)) H
abbrev rUpper : V → List V → Hp → VK → Prop := fun x xs H Q => ∃ a, x = .str a ∧ xs = [] ∧ a.length ≤ 5592405 ∧ Q (.str (Txt.upper a)) H
end My

namespace Prog
open PySem PySem.Spec PyProof.Rows L2 My
def top (i : Nat) : Stmt := PySem.Challenge.pw_signbysign_k07_read_refuses_other_texts.main.body.getD i (.Pass ⟨0, 0, 0, 0⟩)
abbrev FnP (K : PySem.W.Frag) (x q : Str) (st : Stmt) (f : Addr) (fd : FuncData) : Prop := FunD K x q (defArgs st) (defBody st) (defScope st) [] [] f fd
abbrev s_take : Stmt := (top 14)
def d_take : DefM := ⟨wFn "_law_take", "_law_take", "_law_take", defArgs s_take, defBody s_take, defScope s_take, []⟩
abbrev s_stream : Stmt := (top 13)
def d_stream : DefM := ⟨wFn "_law_stream", "_law_stream", "_law_stream", defArgs s_stream, defBody s_stream, defScope s_stream, []⟩
abbrev s_names : Stmt := (top 15)
def d_names : DefM := ⟨wFn "_law_names", "_law_names", "_law_names", defArgs s_names, defBody s_names, defScope s_names, []⟩
abbrev s_word : Stmt := (top 7)
def d_word : DefM := ⟨wFn "is_word", "is_word", "is_word", defArgs s_word, defBody s_word, defScope s_word, []⟩
abbrev s_write : Stmt := (top 8)
def d_write : DefM := ⟨wFn "write_form", "write_form", "write_form", defArgs s_write, defBody s_write, defScope s_write, []⟩
abbrev s_written : Stmt := (top 17)
def d_written : DefM := ⟨wFn "_law_written", "_law_written", "_law_written", defArgs s_written, defBody s_written, defScope s_written, []⟩
abbrev s_endof : Stmt := (top 9)
def d_endof : DefM := ⟨wFn "end_of", "end_of", "end_of", defArgs s_endof, defBody s_endof, defScope s_endof, []⟩
abbrev s_part : Stmt := (top 10)
def d_part : DefM := ⟨wFn "read_part", "read_part", "read_part", defArgs s_part, defBody s_part, defScope s_part, []⟩
abbrev s_rform : Stmt := (top 11)
def d_rform : DefM := ⟨wFn "read_form", "read_form", "read_form", defArgs s_rform, defBody s_rform, defScope s_rform, []⟩
abbrev s_same : Stmt := (top 18)
def d_same : DefM := ⟨wFn "_law_same", "_law_same", "_law_same", defArgs s_same, defBody s_same, defScope s_same, []⟩
abbrev s_wide : Stmt := (top 16)
def d_wide : DefM := ⟨wFn "_law_any_form", "_law_any_form", "_law_any_form", defArgs s_wide, defBody s_wide, defScope s_wide, []⟩
abbrev s_odd : Stmt := (top 19)
def d_odd : DefM := ⟨wFn "_law_odd", "_law_odd", "_law_odd", defArgs s_odd, defBody s_odd, defScope s_odd, []⟩
abbrev s_spoilt : Stmt := (top 20)
def d_spoilt : DefM := ⟨wFn "_law_spoilt", "_law_spoilt", "_law_spoilt", defArgs s_spoilt, defBody s_spoilt, defScope s_spoilt, []⟩
abbrev s_refused : Stmt := (top 21)
def d_refused : DefM := ⟨wFn "_law_refused", "_law_refused", "_law_refused", defArgs s_refused, defBody s_refused, defScope s_refused, []⟩
abbrev s_law : Stmt := (top 22)
def d_law : DefM := ⟨wFn "law", "law", "law", defArgs s_law, defBody s_law, defScope s_law, []⟩
abbrev s_init_BadText : Stmt := (inClass (top 3) 0)
def d_init_BadText : DefM := ⟨wMt "BadText" "__init__", "__init__", "BadText.__init__", defArgs s_init_BadText, defBody s_init_BadText, defScope s_init_BadText, [("__class__", wCell "BadText")]⟩
def fn : List DefM := [d_take, d_stream, d_names, d_word, d_write, d_written, d_endof, d_part, d_rform, d_same, d_wide, d_odd, d_spoilt, d_refused, d_law, d_init_BadText]
def ex : List Ex := [excE "BadText", exmE "BadText" "TableError" true, kitE "BadText" "BadText" true, kitT "BadText" "ValueError" true, kitE "BadText" "BadForm" false, errM "BadText" "BadText" "text" "/claim/cut.py"]
def fa : List He.Fa := .glo "_law_take" :: .glo "_law_stream" :: .glo "_law_names" :: .glo "is_word" :: .glo "write_form" :: .glo "_law_written" :: .glo "end_of" :: .glo "read_part" :: .glo "read_form" :: .glo "_law_same" :: .glo "_law_any_form" :: .glo "_law_odd" :: .glo "_law_spoilt" :: .glo "_law_refused" :: .glo "law" :: .free "int" :: .free "len" :: .free "abs" :: .free "range" :: .free "sum" :: .str "LETTERS" "abcdefghijklmnopqrstuvwxyz" :: .free "isinstance" :: .free "str" :: .str "DIGITS" "0123456789" :: .free "bool" :: .free "tuple" :: .glo "BadForm" :: .glo "BadText" :: .glo "TableError" :: .free "ValueError" :: []
abbrev R : PySem.W.OpenRow := PySem.W.OpenLaw.row PySem.Challenge.rw_signbysign_k07_read_refuses_other_texts
abbrev hk : PySem.W.Hook := hookM 6 fa fn ex
def ob (s : PySem.W.SharedT) : AlM := obsMG 6 fa fn ex (HandSHeadRun.getT s)
theorem ob_eq (s : PySem.W.SharedT) : ob s = hk.obs s.abs := obsMG_eq (HandSHeadRun.getT_eq s)
def names : List PySem.Str := ["TableError", "BadForm", "BadText", "LETTERS", "DIGITS", "is_word", "write_form", "end_of", "read_part", "read_form", "_law_stream", "_law_take", "_law_names", "_law_any_form", "_law_written", "_law_same", "_law_odd", "_law_spoilt", "_law_refused"]
theorem run (w : World) : HandSHeadRun.RunEq R (PySem.W.view R.prog [22]) hk ob 20000 names w := by
  intro os
  kernel_rfl
end Prog
section
open PySem PySem.W PySem.Calls PyProof.Rows
set_option maxHeartbeats 0 in
theorem Prog.early (hw : (OpenLaw.row PySem.Challenge.rw_signbysign_k07_read_refuses_other_texts).toRowW.promised) (hc : WalkO (view (OpenLaw.row PySem.Challenge.rw_signbysign_k07_read_refuses_other_texts).prog [22]) Prog.names (XL (view (OpenLaw.row PySem.Challenge.rw_signbysign_k07_read_refuses_other_texts).prog [22]) []) Prog.hk.says (OpenLaw.row PySem.Challenge.rw_signbysign_k07_read_refuses_other_texts).toRowW (HandSHeadRun.topDef (OpenLaw.row PySem.Challenge.rw_signbysign_k07_read_refuses_other_texts).prog 22) [] fun f vs => PySem.call f vs) : (OpenLaw.row PySem.Challenge.rw_signbysign_k07_read_refuses_other_texts).Holds :=
  HandSHeadRun.head_any (r := OpenLaw.row PySem.Challenge.rw_signbysign_k07_read_refuses_other_texts) (q := view (OpenLaw.row PySem.Challenge.rw_signbysign_k07_read_refuses_other_texts).prog [22]) (H := Prog.hk) (ob := Prog.ob) (M := 20000) (loose := Prog.names) (d := HandSHeadRun.topDef (OpenLaw.row PySem.Challenge.rw_signbysign_k07_read_refuses_other_texts).prog 22) (kwd := []) Prog.ob_eq
    (by kernel_rfl) (fun s => by kernel_rfl) Prog.run (by kernel_rfl) (by kernel_rfl) (by kernel_rfl) (by rfl) (by first | assumption | decide +kernel) (by decide +kernel) ⟨rfl, rfl, rfl, rfl, rfl, by decide +kernel⟩ hw hc
end

namespace My
open PySem PySem.Spec PyProof.Rows L2

local macro_rules | `(tactic| walk_at "g1") => `(tactic| first
  | with_reducible refine My.g_seq ?_
  | with_reducible refine My.g_asg ?_
  | with_reducible refine My.g_name ?_
  | ((with_reducible refine' My.g_var ?ga ?gb); (case ga => rfl))
  | with_reducible refine My.g_c ?_
  | with_reducible refine My.g_op ?_
  | with_reducible refine My.g_cb ?_
  | with_reducible refine My.g_cons ?_
  | with_reducible refine My.g_nil ?_
  | with_reducible refine My.g_ifS ?_
  | with_reducible refine My.g_ret ?_
  | with_reducible refine My.g_drop ?_
  | with_reducible refine My.g_test ?_
  | with_reducible refine My.g_B ?_
  | with_reducible refine My.g_bl ?_
  | with_reducible refine My.g_int1 ?_
  | with_reducible refine My.g_rI0 ?_
  | ((with_reducible refine My.g_rI ?ga ?gb); (case ga => first | decide | (unfold CMul; omega) | (unfold CDiv; omega) | (unfold CPow; decide) | (unfold CPow; omega) | omega))
  | with_reducible refine My.g_eqI ?_
  | with_reducible refine My.g_neI ?_
  | with_reducible refine My.g_eqS ?_
  | with_reducible refine My.g_neS ?_
  | with_reducible refine My.g_neB ?_
  | with_reducible refine My.g_tr ?_
  | with_reducible refine My.g_fa ?_
  | with_reducible refine My.g_ntr ?_
  | with_reducible refine My.g_nfa ?_
  | with_reducible refine My.g_next ?_
  | with_reducible refine My.g_bm ?_
  | with_reducible refine My.g_bm0 ?_
  | ((with_reducible refine' My.g_tyL ?ga ?gb); (case ga => assumption))
  | with_reducible refine My.g_not ?_
  | with_reducible refine My.g_and ?_
  | with_reducible refine My.g_or ?_
  | with_reducible refine My.g_andV ?_
  | with_reducible refine My.g_orV ?_
  | with_reducible refine My.g_notV ?_
  | with_reducible refine My.g_ifE ?_
  | with_reducible refine My.g_chain ?_
  | with_reducible refine My.g_un ?_
  | with_reducible refine My.g_rU ?_
  | with_reducible refine My.g_sl ?_
  | with_reducible refine My.g_part ?_
  | with_reducible refine My.g_nopart ?_
  | with_reducible refine My.g_exI ?_
  | with_reducible refine My.g_abs ?_
  | with_reducible refine My.g_int1b ?_
  | with_reducible refine My.g_tupT ?_
  | with_reducible refine My.g_lstT ?_
  | with_reducible refine My.g_yes ?_
  | with_reducible refine My.g_joined ?_
  | with_reducible refine My.g_jc ?_
  | with_reducible refine My.g_jn ?_
  | with_reducible refine My.g_fmt ?_
  | with_reducible refine My.g_m1 ?_
  | with_reducible refine My.g_m1s ?_
  | with_reducible refine My.g_for ?_
  | with_reducible refine My.g_lc ?_
  | with_reducible refine My.g_iL ?_
  | with_reducible refine My.g_iT ?_
  | with_reducible refine My.g_iR ?_
  | with_reducible refine My.g_iR2 ?_
  | with_reducible refine My.g_call ?_
  | with_reducible refine My.g_isN ?_
  | with_reducible refine My.g_notN ?_
  | with_reducible refine My.g_retN ?_
  | with_reducible refine My.g_iS ?_
  | with_reducible refine My.g_rs ?_
  | with_reducible refine My.g_try ?_
  | with_reducible refine My.g_callS ?_
  | with_reducible refine My.g_xf ?_
  | with_reducible refine My.g_gcons ?_
  | with_reducible refine My.g_gnil ?_
  | with_reducible refine My.g_ipI ?_
  | with_reducible refine My.g_tru ?_
  | ((with_reducible refine' My.g_augV ?ga ?gb); (case ga => rfl))
  | with_reducible refine My.g_dget ?_
  | with_reducible refine My.g_dget2 ?_
  | with_reducible refine My.g_din ?_
  | with_reducible refine My.g_dnin ?_
  | with_reducible refine My.g_dput ?_
  | with_reducible refine My.g_star ?_
  | with_reducible refine My.g_rev2 ?_
  | ((with_reducible refine' My.g_lenL ?ga ?gb); (case ga => assumption))
  | ((with_reducible refine' My.g_lenT ?ga ?gb); (case ga => assumption)))
local macro_rules | `(tactic| walk_at "go") => `(tactic| repeat walk_at "g1")
def t_take (K : PySem.W.Frag) : TS := (tSeq (tIfS (tTest (tOp rEq (tCB (rLenSeq K) (tCons (tVar 0) tNil)) (tC (.int 0)))) (tRet (tC (.int 0)))
  tNext)
  (tRet (tOp rModI (tCB rInt1 (tCons (tBM K "list" rPopAt (tVar 0) (tCons (tC (.int 0)) tNil)) tNil)) (tVar 1))))
abbrev N_take : List Str := ["_law_draws", "_law_many"]
/-- the draws: a list of ints at d, not too long -/
def Dr (H : Hp) (d : Addr) : Prop := ∃ ds : List Int, H d = some (.lst (ds.map V.int)) ∧ ds.length ≤ 10000
theorem big {n : Nat} (h : n ≤ 100000) : n ≤ sizeLine := Nat.le_trans h (by decide)
theorem bigl {n : Nat} (h : n < 100000) : n < sizeLine := Nat.lt_of_lt_of_le h (by decide)
def sp_take (K : PySem.W.Frag) : Sp := fun vs H Q _ => ∃ (d : Addr) (m : Int), vs = [.ref d, .int m] ∧ Dr H d ∧ 0 < m ∧ ∀ (v : Int) (H' : Hp), 0 ≤ v → v < m → Chg [d] H H' → Dr H' d → Q (.int v) H'
theorem len_take {K : PySem.W.Frag} {vs : List V} {H : Hp} {Q : VK} {E : XK} (h : sp_take K vs H Q E) : vs.length = 2 := by obtain ⟨_, _, rfl, _⟩ := h; rfl
theorem rd_take {K : PySem.W.Frag} {vs : List V} {H : Hp} {Q : VK} {E : XK} (h : sp_take K vs H Q E) : t_take K { nx := fun _ H' => Q .non H', rt := Q } (start N_take vs) H := by
  obtain ⟨d, m, rfl, ⟨ds, hd, hl⟩, hm, k⟩ := h
  unfold t_take
  walk_at "go"
  refine g_2 (fun e => ?_) (fun e => ?_)
  · walk_at "go"
    exact k 0 H (Int.le_refl 0) hm (Chg.refl H) ⟨ds, hd, hl⟩
  · walk_at "go"
    cases ds with
    | nil => simp at e
    | cons n ds =>
      refine ⟨d, _, 0, 0, .int n, rfl, rfl, hd, by decide, by decide, by simp [seqIndex?], rfl, ?_⟩
      walk_at "go"
      refine k _ _ (Int.emod_nonneg _ (by omega)) (Int.emod_lt_of_pos _ hm) ((Chg.refl H).set (List.mem_singleton.mpr rfl) hd (by simp) _) ⟨ds, by rw [upd_same]; rfl, by simp at hl; omega⟩
def t_stream (K : PySem.W.Frag) : TS := (tSeq (tAsg (tLst tNil) (gName 1))
  (tSeq (tAsg (tC (.int 7)) (gName 2))
  (tSeq (tFor (iList K (tVar 0)) (gName 3)
  (tSeq (tAsg (tCB rAbs (tCons (tCB rInt1 (tCons (tVar 3) tNil)) tNil)) (gName 4))
  (tCut (tIfS (tTest (tOp rLtI (tVar 4) (tOp rPowI (tC (.int 10)) (tC (.int 18))))) (tSeq (tDrop (tBM K "list" rAppend (tVar 1) (tCons (tOp rModI (tCB rInt1 (tCons (tVar 3) tNil)) (tC (.int 1000))) tNil)))
  (tAsg (tC (.int 0)) (gName 4)))
  tNext)
  (tSeq (tFor (iRng1 (tCons (tC (.int 60)) tNil)) (gName 5)
  (tIfS (tTest (tOp rGtI (tVar 4) (tC (.int 0)))) (tSeq (tDrop (tBM K "list" rAppend (tVar 1) (tCons (tOp rModI (tCB rInt1 (tCons (tVar 4) tNil)) (tC (.int 1000))) tNil)))
  (tAsg (tOp rDivI (tVar 4) (tC (.int 1000))) (gName 4)))
  tNext))
  (tAsg (tOp rAddI (tOp rModI (tCB rInt1 (tCons (tOp rAddI (tOp rMulI (tVar 2) (tC (.int 31))) (tCB rInt1 (tCons (tVar 3) tNil))) tNil)) (tC (.int 1000003))) (tC (.int 1))) (gName 2))))))
  (tSeq (tAsg (tOp rAddI (tOp rMulI (tVar 2) (tC (.int 7))) (tC (.int 1))) (gName 6))
  (tSeq (tFor (iRng1 (tCons (tOp rMulI (tC (.int 600)) (tCB rInt1 (tCons (tOp rGtI (tCB (rLenSeq K) (tCons (tVar 0) tNil)) (tC (.int 0))) tNil))) tNil)) (gName 5)
  (tSeq (tAsg (tOp rModI (tCB rInt1 (tCons (tOp rMulI (tVar 2) (tC (.int 48271))) tNil)) (tC (.int 2147483647))) (gName 2))
  (tSeq (tAsg (tOp rModI (tCB rInt1 (tCons (tOp rMulI (tVar 6) (tC (.int 69621))) tNil)) (tC (.int 2147483629))) (gName 6))
  (tDrop (tBM K "list" rAppend (tVar 1) (tCons (tOp rModI (tCB rInt1 (tCons (tOp rAddI (tOp rDivI (tVar 2) (tC (.int 1009))) (tOp rDivI (tVar 6) (tC (.int 2003)))) tNil)) (tC (.int 1000))) tNil))))))
  (tRet (tSl (rSlL K) (tVar 1) tNoPart (tPart (tC (.int 900))))))))))
abbrev N_stream : List Str := ["_law_script", "_law_row", "_law_seed", "_law_cell", "_law_rest", "_law_k", "_law_turn"]
theorem len_app {xs : List Int} {n : Int} : (xs ++ [n]).map V.int = xs.map V.int ++ [V.int n] := by simp
def sp_stream (K : PySem.W.Frag) : Sp := fun vs H Q _ => ∃ (a : Addr) (ns : List Int), vs = [.ref a] ∧ SqL K H a (ns.map V.int) ∧ ns.length ≤ 63 ∧ ∀ (r : Addr) (H' : Hp), H r = none → Ext H H' → Dr H' r → Q (.ref r) H'
theorem len_stream {K : PySem.W.Frag} {vs : List V} {H : Hp} {Q : VK} {E : XK} (h : sp_stream K vs H Q E) : vs.length = 1 := by obtain ⟨_, _, rfl, _⟩ := h; rfl
theorem rd_stream {K : PySem.W.Frag} {vs : List V} {H : Hp} {Q : VK} {E : XK} (h : sp_stream K vs H Q E) : t_stream K { nx := fun _ H' => Q .non H', rt := Q } (start N_stream vs) H := by
  obtain ⟨a, ns, rfl, hS, h63, k⟩ := h
  unfold t_stream
  walk_at "go"
  refine g_newL (by decide) fun r H1 hr c1 h1 => ?_
  walk_at "go"
  -- for cell in script
  refine g_forL (xs := ns.map V.int) (c1.same.seq hS) (fun i σ H' => ∃ (ds : List Int) (seed : Int) (o3 o4 o5 : Option V), σ = [some (.ref a), some (.ref r), some (.int seed), o3, o4, o5, none] ∧ Ext H H' ∧ H' r = some (.lst (ds.map V.int)) ∧ ds.length ≤ 100 * i ∧ 0 ≤ seed ∧ seed ≤ 2000000)
    ⟨[], 7, none, none, none, rfl, c1, h1, Nat.zero_le _, by decide, by decide⟩ (fun i σ H' _ ⟨_, _, _, _, _, _, c, _⟩ => c.same.seq hS) ?_ ?_
  · rintro i x σ H' hi ⟨ds, seed, o3, o4, o5, rfl, c, hd, hl, s0, s1⟩
    obtain ⟨n, hn, rfl⟩ : ∃ n, ns[i]? = some n ∧ V.int n = x := by
      rw [List.getElem?_map] at hi
      cases e : ns[i]? with
      | none => rw [e] at hi; cases hi
      | some n => rw [e] at hi; exact ⟨n, rfl, Option.some.inj hi⟩
    have hi63 : i < ns.length := (List.getElem?_eq_some_iff.mp hn).1
    walk_at "go"
    refine g_cut (M := fun σ H' => ∃ (ds : List Int) (rest : Int), σ = [some (.ref a), some (.ref r), some (.int seed), some (.int n), some (.int rest), o5, none] ∧ Ext H H' ∧ H' r = some (.lst (ds.map V.int)) ∧ ds.length ≤ 100 * i + 1) ?_ ?_
    · walk_at "go"
      refine g_2 (fun _ => ?_) (fun _ => ?_)
      · walk_at "go"
        refine g_append hd (bigl (by simp; omega)) ?_
        walk_at "go"
        exact ⟨ds ++ [_], _, rfl, c.own hr _, by rw [upd_same, len_app], by simp; omega⟩
      · walk_at "go"
        exact ⟨ds, _, rfl, c, hd, by omega⟩
    · rintro σ H' ⟨ds, rest, rfl, c, hd, hl⟩
      walk_at "go"
      refine g_forR (by decide) (fun k σ H' => ∃ (ds : List Int) (rest : Int) (o5 : Option V), σ = [some (.ref a), some (.ref r), some (.int seed), some (.int n), some (.int rest), o5, none] ∧ Ext H H' ∧ H' r = some (.lst (ds.map V.int)) ∧ ds.length ≤ 100 * i + 1 + k) ⟨ds, rest, o5, rfl, c, hd, by omega⟩ ?_ ?_
      · rintro k σ H' hk ⟨ds, rest, o5, rfl, c, hd, hl⟩
        walk_at "go"
        refine g_2 (fun _ => ?_) (fun _ => ?_)
        · walk_at "go"
          refine g_append hd (bigl (by simp; omega)) ?_
          walk_at "go"
          exact ⟨ds ++ [_], _, _, rfl, c.own hr _, by rw [upd_same, len_app], by simp; omega⟩
        · walk_at "go"
          exact ⟨ds, rest, _, rfl, c, hd, by omega⟩
      · rintro σ H' ⟨ds, rest, o5, rfl, c, hd, hl⟩
        walk_at "go"
        refine ⟨ds, _, _, _, _, rfl, c, hd, by simp at hl; omega, ?_, ?_⟩
        · have := Int.emod_nonneg (seed * 31 + n) (b := 1000003) (by decide); omega
        · have := Int.emod_lt_of_pos (seed * 31 + n) (b := 1000003) (by decide); omega
  · rintro σ H' ⟨ds, seed, o3, o4, o5, rfl, c, hd, hl, s0, s1⟩
    walk_at "go"
    refine g_lenLK (c.same.seq hS) ?_
    walk_at "go"
    have hb : ∀ b : Bool, (if b = true then (1 : Int) else 0) = 0 ∨ (if b = true then (1 : Int) else 0) = 1 := by intro b; cases b <;> simp
    generalize he : (if decide (0 < ((List.map V.int ns).length : Int)) = true then (1 : Int) else 0) = e
    have he2 : e = 0 ∨ e = 1 := by rw [← he]; exact hb _
    refine g_forR (by omega) (fun k σ H' => ∃ (ds : List Int) (seed turn : Int) (o5 : Option V), σ = [some (.ref a), some (.ref r), some (.int seed), o3, o4, o5, some (.int turn)] ∧ Ext H H' ∧ H' r = some (.lst (ds.map V.int)) ∧ ds.length ≤ 6300 + k ∧ -5000000000 ≤ seed ∧ seed ≤ 5000000000 ∧ -5000000000 ≤ turn ∧ turn ≤ 5000000000) ⟨ds, seed, _, o5, rfl, c, hd, by simp at hl; omega, by omega, by omega, by omega, by omega⟩ ?_ ?_
    · rintro k σ H' hk ⟨ds, seed, turn, o5, rfl, c, hd, hl, a1, a2, a3, a4⟩
      walk_at "go"
      refine g_append hd (bigl (by simp; omega)) ?_
      refine ⟨ds ++ [_], _, _, _, rfl, c.own hr _, by rw [upd_same, len_app], by simp; omega, ?_, ?_, ?_, ?_⟩
      · have := Int.emod_nonneg (seed * 48271) (b := 2147483647) (by decide); omega
      · have := Int.emod_lt_of_pos (seed * 48271) (b := 2147483647) (by decide); omega
      · have := Int.emod_nonneg (turn * 69621) (b := 2147483629) (by decide); omega
      · have := Int.emod_lt_of_pos (turn * 69621) (b := 2147483629) (by decide); omega
    · rintro σ H' ⟨ds, seed, turn, o5, rfl, c, hd, hl, a1, a2, a3, a4⟩
      walk_at "go"
      refine g_slL (.inl (.inl hd)) fun q H2 hq c2 h2 => ?_
      refine k q H2 (c.free hq) (c.trans c2) ⟨ds.take 900, ?_, by simp; omega⟩
      rw [h2]
      simp [cutV, HT.sIx, List.map_take]

/-! ### names -/
abbrev abc : Str := "abcdefghijklmnopqrstuvwxyz"
def isWord (s : Str) : Bool := (decide (1 ≤ s.length) && decide (s.length ≤ 8)) && s.cps.toList.all fun c => decide (c ∈ abc.cps.toList)
theorem all_take {l : List Nat} {p : Nat → Bool} {i c : Nat} (h : l[i]? = some c) : (l.take (i + 1)).all p = ((l.take i).all p && p c) := by
  rw [List.take_add_one, h, List.all_append]
  simp
def t_word (K : PySem.W.Frag) : TS := (tSeq (tIfS (tNot (tTest (tChain rLeI rLeI (tC (.int 1)) (tCB rLenStr (tCons (tVar 0) tNil)) (tC (.int 8))))) (tRet (tC (.bl false)))
  tNext)
  (tSeq (tFor (iStr (tVar 0)) (gName 1)
  (tIfS (tTest (tOp rNotInS_ (tVar 1) (tC (.str "abcdefghijklmnopqrstuvwxyz")))) (tRet (tC (.bl false)))
  tNext))
  (tRet (tC (.bl true)))))
abbrev N_word : List Str := ["text", "char"]
def sp_word (K : PySem.W.Frag) : Sp := fun vs H Q _ => ∃ s : Str, vs = [.str s] ∧ s.length ≤ 100000 ∧ Q (.bl (isWord s)) H
theorem len_word {K : PySem.W.Frag} {vs : List V} {H : Hp} {Q : VK} {E : XK} (h : sp_word K vs H Q E) : vs.length = 1 := by obtain ⟨_, rfl, _⟩ := h; rfl
theorem rd_word {K : PySem.W.Frag} {vs : List V} {H : Hp} {Q : VK} {E : XK} (h : sp_word K vs H Q E) : t_word K { nx := fun _ H' => Q .non H', rt := Q } (start N_word vs) H := by
  obtain ⟨s, rfl, hl, k⟩ := h
  unfold t_word
  walk_at "go"
  refine g_lenS (big hl) ?_
  walk_at "go"
  refine g_2 (fun b => ?_) (fun b => ?_)
  · have b : (1 : Int) ≤ s.length := of_decide_eq_true b
    walk_at "go"
    refine g_2 (fun c => ?_) (fun c => ?_)
    · have c : ¬ (s.length : Int) ≤ 8 := of_decide_eq_false (by simpa using c)
      walk_at "go"
      have e : isWord s = false := by unfold isWord; rw [decide_eq_false (show ¬ s.length ≤ 8 by omega), Bool.and_false, Bool.false_and]
      rw [e] at k
      exact k
    · have c : (s.length : Int) ≤ 8 := of_decide_eq_true (by simpa using c)
      walk_at "go"
      have e0 : isWord s = s.cps.toList.all fun c => decide (c ∈ abc.cps.toList) := by
        unfold isWord
        rw [decide_eq_true (show 1 ≤ s.length by omega), decide_eq_true (show s.length ≤ 8 by omega)]
        rfl
      rw [e0] at k
      refine g_forS (fun i σ H' => ∃ o : Option V, σ = [some (.str s), o] ∧ H' = H ∧ (s.cps.toList.take i).all (fun c => decide (c ∈ abc.cps.toList)) = true) ⟨none, rfl, rfl, rfl⟩ ?_ ?_
      · rintro i c σ H' hi ⟨o, rfl, rfl, ha⟩
        walk_at "go"
        refine g_notInS ?_
        walk_at "go"
        refine g_2 (fun b => ?_) (fun b => ?_)
        · have b : ¬ c ∈ abc.cps.toList := of_decide_eq_false (by simpa using b)
          walk_at "go"
          have : (s.cps.toList.all fun c => decide (c ∈ abc.cps.toList)) = false := by
            rw [List.all_eq_false]
            exact ⟨c, List.mem_of_getElem? hi, by simp [b]⟩
          rw [this] at k
          exact k
        · have b : c ∈ abc.cps.toList := of_decide_eq_true (by simpa using b)
          walk_at "go"
          exact ⟨_, rfl, rfl, by rw [all_take hi, ha, decide_eq_true b]; rfl⟩
      · rintro σ H' ⟨o, rfl, rfl, ha⟩
        walk_at "go"
        rw [List.take_length] at ha
        rw [ha] at k
        exact k
  · have b : ¬ (1 : Int) ≤ s.length := of_decide_eq_false b
    walk_at "go"
    have e : isWord s = false := by unfold isWord; rw [decide_eq_false (show ¬ 1 ≤ s.length by omega), Bool.false_and, Bool.false_and]
    rw [e] at k
    exact k

/-! ### texts -/
abbrev tl (s : Str) : List Nat := s.cps.toList
theorem tl_len (s : Str) : s.length = (tl s).length := by simp [tl, Str.length]
theorem tl_ext {x y : Str} (h : tl x = tl y) : x = y := Str.ext' (Array.toList_inj.mp h)
theorem tl_app (x y : Str) : tl (x ++ y) = tl x ++ tl y := TL.tl_append x y
theorem tl_cut (z : Str) (lo hi : Option Int) : tl (cutS z lo hi) = ((tl z).drop (HT.sIx z.length 0 lo)).take (HT.sIx z.length z.length hi - HT.sIx z.length 0 lo) := rfl
theorem tl_one (c : Nat) : tl ⟨#[c]⟩ = [c] := rfl
def Low (s : Str) : Prop := ∀ c ∈ tl s, 97 ≤ c ∧ c ≤ 122
/-- a name: 1 to 8 letters -/
structure Good (s : Str) : Prop where
  pos : 1 ≤ s.length
  most : s.length ≤ 8
  low : Low s
theorem letters_tl : tl ("abcdefghijklmnopqrstuvwxyz" : Str) = (List.range 26).map (97 + ·) := by decide +kernel
theorem letters_len : ("abcdefghijklmnopqrstuvwxyz" : Str).length = 26 := by decide +kernel
theorem letter_at {k : Nat} (h : k < 26) : atI ("abcdefghijklmnopqrstuvwxyz" : Str).cps.toList (k : Int) = some (97 + k) := by
  refine atI_nat ?_
  have := letters_tl
  unfold tl at this
  rw [this]
  simp [h]
theorem Low.app {x y : Str} (h : Low x) (k : Low y) : Low (x ++ y) := fun c hc => by
  rw [tl_app] at hc
  exact (List.mem_append.mp hc).elim (h c) (k c)
theorem Low.cut {z : Str} {lo hi : Option Int} (h : Low z) : Low (cutS z lo hi) := fun c hc => by
  rw [tl_cut] at hc
  exact h c (List.drop_subset _ _ (List.take_subset _ _ hc))
theorem letters_low : Low ("abcdefghijklmnopqrstuvwxyz" : Str) := fun c hc => by
  rw [letters_tl] at hc
  simp at hc
  omega
theorem app_len (x y : Str) : (x ++ y).length = x.length + y.length := by rw [tl_len, tl_app, List.length_append, ← tl_len, ← tl_len]
theorem one_len (c : Nat) : (⟨#[c]⟩ : Str).length = 1 := rfl
/-- the mark of a name: its first sign, or its last one -/
def Mk (front : Int) (s : Str) (c : Nat) : Prop := (front = 0 → (tl s).head? = some c) ∧ (front ≠ 0 → (tl s).getLast? = some c)
theorem Mk.inj {front : Int} {s : Str} {c d : Nat} (h : Mk front s c) (k : Mk front s d) : c = d := by
  by_cases e : front = 0
  · have := (h.1 e).symm.trans (k.1 e); exact Option.some.inj this
  · have := (h.2 e).symm.trans (k.2 e); exact Option.some.inj this
def more1 (k : Nat) : Str := ⟨#[97 + k % 26, 97 + (k * 7 + k / 26 + 3) % 26]⟩
theorem more_inj : ∀ i < 52, ∀ j < 52, more1 i = more1 j → i = j := by decide +kernel
theorem more_good : ∀ i < 52, Good (more1 i) := fun i _ => ⟨by show 1 ≤ 2; decide, by show 2 ≤ 8; decide, fun c hc => by
  have : c = 97 + i % 26 ∨ c = 97 + (i * 7 + i / 26 + 3) % 26 := by
    have h : c ∈ [97 + i % 26, 97 + (i * 7 + i / 26 + 3) % 26] := hc
    simpa using h
  omega⟩
/-- the names at l: all good, no two alike, at least 52 -/
structure NmOk (nms : List Str) : Prop where
  good : ∀ s ∈ nms, Good s
  nd : nms.Nodup
  least : 52 ≤ nms.length
  most : nms.length ≤ 78
def strides : List Int := [1, 3, 5, 7, 9, 11, 15, 17, 19, 21, 23, 25]
theorem strides_inj {st sh : Int} (hs : st ∈ strides) {i j : Nat} (hi : i < 26) (hj : j < 26) (e : ((i : Int) * st + sh) % 26 = ((j : Int) * st + sh) % 26) : i = j := by
  simp only [strides, List.mem_cons, List.not_mem_nil, or_false] at hs
  rcases hs with rfl | rfl | rfl | rfl | rfl | rfl | rfl | rfl | rfl | rfl | rfl | rfl <;> omega
theorem strides_bd {st : Int} (hs : st ∈ strides) : 1 ≤ st ∧ st ≤ 25 := by
  simp only [strides, List.mem_cons, List.not_mem_nil, or_false] at hs
  rcases hs with rfl | rfl | rfl | rfl | rfl | rfl | rfl | rfl | rfl | rfl | rfl | rfl <;> omega
theorem stride_at {r : Int} (h0 : 0 ≤ r) (h1 : r < 12) : ∃ st, st ∈ strides ∧ atI ([.int 1, .int 3, .int 5, .int 7, .int 9, .int 11, .int 15, .int 17, .int 19, .int 21, .int 23, .int 25] : List V) r = some (.int st) := by
  obtain ⟨k, rfl⟩ : ∃ k : Nat, r = (k : Int) := ⟨r.toNat, by omega⟩
  have hk : k < 12 := by omega
  have e : ([.int 1, .int 3, .int 5, .int 7, .int 9, .int 11, .int 15, .int 17, .int 19, .int 21, .int 23, .int 25] : List V) = strides.map V.int := rfl
  have hl : k < strides.length := hk
  refine ⟨strides[k], List.getElem_mem hl, ?_⟩
  rw [e]
  exact atI_nat (by rw [List.getElem?_map, List.getElem?_eq_getElem hl]; rfl)
theorem inV_str {s : Str} : ∀ {l : List Str}, inV (.str s) (l.map V.str) = decide (s ∈ l)
  | [] => by simp [inV]
  | a :: l => by
    have ih := inV_str (s := s) (l := l)
    unfold inV at ih ⊢
    rw [List.map_cons, List.any_cons, ih]
    show ((a == s) || decide (s ∈ l)) = decide (s ∈ a :: l)
    by_cases e : a = s
    · subst e; simp
    · have e2 : (a == s) = false := beq_eq_false_iff_ne.mpr e
      rw [e2]
      simp [show ¬ s = a from fun z => e z.symm]
theorem flat_strs : ∀ {l : List Str}, (l.map V.str).all flatV = true
  | [] => rfl
  | a :: l => by rw [List.map_cons, List.all_cons, flat_strs]; rfl
theorem nodup_of {α : Type} {l : List α} (h : ∀ (i j : Nat) (s : α), i < j → l[i]? = some s → l[j]? = some s → False) : l.Nodup := by
  refine List.pairwise_iff_getElem.mpr fun i j hi hj hij e => ?_
  exact h i j l[i] hij (List.getElem?_eq_getElem hi) (by rw [List.getElem?_eq_getElem hj, e])
/-- the loop's names so far -/
structure NmSo (front st sh : Int) (k : Nat) (nms : List Str) : Prop where
  len : nms.length = k
  at_ : ∀ i < k, ∃ s, nms[i]? = some s ∧ Good s ∧ ∃ c : Nat, (c : Int) = 97 + ((i : Int) * st + sh) % 26 ∧ Mk front s c
theorem NmSo.snoc {front st sh : Int} {k : Nat} {nms : List Str} (h : NmSo front st sh k nms) {s : Str} (g : Good s) {c : Nat} (hc : (c : Int) = 97 + ((k : Int) * st + sh) % 26) (m : Mk front s c) : NmSo front st sh (k + 1) (nms ++ [s]) := by
  refine ⟨by simp [h.len], fun i hi => ?_⟩
  by_cases e : i < k
  · obtain ⟨s', h1, h2⟩ := h.at_ i e
    exact ⟨s', by rw [List.getElem?_append_left (by rw [h.len]; exact e)]; exact h1, h2⟩
  · have e : i = k := by omega
    subst e
    exact ⟨s, by rw [← h.len]; simp, g, c, hc, m⟩
theorem NmSo.nd {front st sh : Int} {nms : List Str} (h : NmSo front st sh 26 nms) (hs : st ∈ strides) : nms.Nodup := by
  refine nodup_of fun i j s hij h1s h2s => ?_
  have hj : j < 26 := by rw [← h.len]; exact (List.getElem?_eq_some_iff.mp h2s).1
  have e := h1s.trans h2s.symm
  obtain ⟨s, h1, _, c, hc, m⟩ := h.at_ i (by omega)
  obtain ⟨s', h1', _, c', hc', m'⟩ := h.at_ j hj
  rw [h1, h1'] at e
  cases e
  have := m.inj m'
  have := strides_inj (sh := sh) hs (i := i) (j := j) (by omega) hj (by omega)
  omega
theorem NmSo.good {front st sh : Int} {k : Nat} {nms : List Str} (h : NmSo front st sh k nms) : ∀ s ∈ nms, Good s := fun s hs => by
  obtain ⟨i, hi, e⟩ := List.mem_iff_getElem.mp hs
  obtain ⟨s', h1, g, _⟩ := h.at_ i (by rw [← h.len]; exact hi)
  rw [List.getElem?_eq_getElem hi, e] at h1
  cases h1
  exact g
theorem nodup_sub_len {α : Type} [DecidableEq α] : ∀ {L N : List α}, L.Nodup → (∀ x ∈ L, x ∈ N) → L.length ≤ N.length
  | [], _, _, _ => Nat.zero_le _
  | x :: L, N, nd, h => by
    rw [List.nodup_cons] at nd
    have hx := h x List.mem_cons_self
    have h2 := nodup_sub_len (L := L) (N := N.erase x) nd.2 fun y hy => (List.mem_erase_of_ne (fun e => nd.1 (by rw [← e]; exact hy))).mpr (h y (List.mem_cons_of_mem _ hy))
    rw [List.length_erase_of_mem hx] at h2
    have := List.length_pos_of_mem hx
    rw [List.length_cons]
    omega
theorem filt_len {α : Type} (p : α → Bool) : ∀ L : List α, (L.filter p).length + (L.filter fun x => !p x).length = L.length
  | [] => rfl
  | x :: L => by
    have := filt_len p L
    rw [List.filter_cons, List.filter_cons]
    cases p x <;> simp <;> omega
theorem more_nodup : ((List.range 52).map more1).Nodup := by
  refine nodup_of fun i j s hij h1s h2s => ?_
  have hj := (List.getElem?_eq_some_iff.mp h2s).1
  simp at hj
  have e := h1s.trans h2s.symm
  rw [List.getElem?_map, List.getElem?_map, List.getElem?_range (by omega), List.getElem?_range hj] at e
  have := more_inj i (by omega) j hj (by simpa using e)
  omega
theorem names_end {front st sh : Int} {nms : List Str} (h : NmSo front st sh 26 nms) (hs : st ∈ strides) : NmOk (nms ++ ((List.range 52).map more1).filter fun s => !decide (s ∈ nms)) := by
  refine ⟨fun s hs => ?_, ?_, ?_, ?_⟩
  · rcases List.mem_append.mp hs with q | q
    · exact h.good s q
    · have q := (List.mem_filter.mp q).1
      obtain ⟨i, hi, rfl⟩ := List.mem_map.mp q
      exact more_good i (List.mem_range.mp hi)
  · rw [List.nodup_append]
    refine ⟨h.nd hs, ?_, ?_⟩
    · refine List.Pairwise.filter _ ?_
      refine nodup_of fun i j s hij h1s h2s => ?_
      have hj := (List.getElem?_eq_some_iff.mp h2s).1
      simp at hj
      have e := h1s.trans h2s.symm
      rw [List.getElem?_map, List.getElem?_map, List.getElem?_range (by omega), List.getElem?_range hj] at e
      have := more_inj i (by omega) j hj (by simpa using e)
      omega
    · intro a ha b hb e
      subst e
      have := (List.mem_filter.mp hb).2
      simp [ha] at this
  · have h1 := filt_len (fun s => decide (s ∈ nms)) ((List.range 52).map more1)
    have h2 := nodup_sub_len (N := nms) (List.Pairwise.filter (fun s => decide (s ∈ nms)) more_nodup) fun x hx => of_decide_eq_true (List.mem_filter.mp hx).2
    rw [h.len] at h2
    rw [List.length_map, List.length_range] at h1
    rw [List.length_append, h.len]
    omega
  · have : (((List.range 52).map more1).filter fun s => !decide (s ∈ nms)).length ≤ 52 := Nat.le_trans (List.length_filter_le _ _) (by simp)
    rw [List.length_append, h.len]; omega
theorem name_ok {front st sh rest : Int} {k : Nat} (hc0 : 0 ≤ ((k : Int) * st + sh) % 26) (hc1 : ((k : Int) * st + sh) % 26 < 26) {a m : Int} (ha0 : 0 ≤ a) (ha1 : a < 26) (hm0 : 0 ≤ m) (hm1 : m < 8) (tail : Str)
    (ht : tail = cutS (cutS (("abcdefghijklmnopqrstuvwxyz" : Str) ++ ("abcdefghijklmnopqrstuvwxyz" : Str)) (some a) none) none (some m)) (mark : Str) (c : Nat) (hc : (c : Int) = 97 + ((k : Int) * st + sh) % 26) (hmk : mark = ⟨#[c]⟩) :
    Good (mark ++ tail) ∧ Good (tail ++ mark) ∧ (tl (mark ++ tail)).head? = some c ∧ (tl (tail ++ mark)).getLast? = some c := by
  have hl : tail.length ≤ 7 := by
    rw [ht, tl_len, tl_cut, List.length_take]
    have : HT.sIx (cutS (("abcdefghijklmnopqrstuvwxyz" : Str) ++ ("abcdefghijklmnopqrstuvwxyz" : Str)) (some a) none).length (cutS (("abcdefghijklmnopqrstuvwxyz" : Str) ++ ("abcdefghijklmnopqrstuvwxyz" : Str)) (some a) none).length (some m) ≤ m.toNat := by
      show (if m < 0 then _ else _) ≤ _
      rw [if_neg (by omega)]
      exact Nat.min_le_left _ _
    omega
  have hlow : Low tail := by
    rw [ht]
    exact Low.cut (Low.cut (Low.app letters_low letters_low))
  have mlow : Low mark := by
    rw [hmk]
    intro d hd
    have : d = c := by simpa [tl] using hd
    omega
  have ml : mark.length = 1 := by rw [hmk]; rfl
  refine ⟨⟨by rw [app_len]; omega, by rw [app_len]; omega, mlow.app hlow⟩, ⟨by rw [app_len]; omega, by rw [app_len]; omega, hlow.app mlow⟩, ?_, ?_⟩
  · rw [tl_app, hmk]; rfl
  · rw [tl_app, hmk, tl_one]; simp
def t_names (K : PySem.W.Frag) : TS := (tSeq (tAsg (tC (.str "abcdefghijklmnopqrstuvwxyz")) (gName 1))
  (tSeq (tAsg (tCB rAbs (tCons (tCB (rSum K) (tCons (tLc (iList K (tVar 0)) (gName 12) tYes (tCB rInt1 (tCons (tVar 12) tNil)) [12]) tNil)) tNil)) (gName 2))
  (tCut (tIfS (tAnd (tTest (tOp rLtI (tC (.int 0)) (tVar 2))) (tTest (tOp rLtI (tVar 2) (tOp rPowI (tC (.int 10)) (tC (.int 18)))))) (tAsg (tOp rPowI (tOp rAddI (tVar 2) (tC (.int 12345677))) (tC (.int 9))) (gName 2))
  tNext)
  (tSeq (tAsg (tOp (rIxL K) (tLst (tCons (tC (.int 1)) (tCons (tC (.int 3)) (tCons (tC (.int 5)) (tCons (tC (.int 7)) (tCons (tC (.int 9)) (tCons (tC (.int 11)) (tCons (tC (.int 15)) (tCons (tC (.int 17)) (tCons (tC (.int 19)) (tCons (tC (.int 21)) (tCons (tC (.int 23)) (tCons (tC (.int 25)) tNil))))))))))))) (tOp rModI (tCB rInt1 (tCons (tVar 2) tNil)) (tC (.int 12)))) (gName 3))
  (tSeq (tAsg (tOp rModI (tCB rInt1 (tCons (tOp rDivI (tVar 2) (tC (.int 12))) tNil)) (tC (.int 26))) (gName 4))
  (tSeq (tAsg (tOp rModI (tCB rInt1 (tCons (tOp rDivI (tVar 2) (tC (.int 312))) tNil)) (tC (.int 2))) (gName 5))
  (tSeq (tAsg (tOp rDivI (tVar 2) (tC (.int 624))) (gName 2))
  (tSeq (tAsg (tLst tNil) (gName 6))
  (tSeq (tFor (iRng1 (tCons (tC (.int 26)) tNil)) (gName 7)
  (tSeq (tAsg (tOp rIxS (tVar 1) (tOp rModI (tCB rInt1 (tCons (tOp rAddI (tOp rMulI (tVar 7) (tVar 3)) (tVar 4)) tNil)) (tC (.int 26)))) (gName 8))
  (tSeq (tAsg (tSl rSlS (tSl rSlS (tOp rAddS_ (tVar 1) (tVar 1)) (tPart (tOp rModI (tCB rInt1 (tCons (tVar 2) tNil)) (tC (.int 26)))) tNoPart) tNoPart (tPart (tOp rModI (tCB rInt1 (tCons (tOp rDivI (tVar 2) (tC (.int 26))) tNil)) (tC (.int 8))))) (gName 9))
  (tSeq (tDrop (tBM K "list" rAppend (tVar 6) (tCons (tOp (rIxL K) (tLst (tCons (tOp rAddS_ (tVar 8) (tVar 9)) (tCons (tOp rAddS_ (tVar 9) (tVar 8)) tNil))) (tVar 5)) tNil)))
  (tAsg (tOp rDivI (tVar 2) (tC (.int 208))) (gName 2))))))
  (tSeq (tAsg (tLc (iRng1 (tCons (tC (.int 52)) tNil)) (gName 7) tYes (tOp rAddS_ (tOp rIxS (tVar 1) (tOp rModI (tCB rInt1 (tCons (tVar 7) tNil)) (tC (.int 26)))) (tOp rIxS (tVar 1) (tOp rModI (tCB rInt1 (tCons (tOp rAddI (tOp rAddI (tOp rMulI (tVar 7) (tC (.int 7))) (tOp rDivI (tVar 7) (tC (.int 26)))) (tC (.int 3))) tNil)) (tC (.int 26))))) [7]) (gName 10))
  (tRet (tOp rCat (tVar 6) (tLc (iList K (tVar 10)) (gName 11) (tTest (tOp (rIn K true) (tVar 11) (tVar 6))) (tVar 11) [11])))))))))))))
abbrev N_names : List Str := ["_law_cells", "_law_letters", "_law_rest", "_law_stride", "_law_shift", "_law_front", "_law_names_here", "_law_k", "_law_mark", "_law_tail", "_law_more", "_law_name", "_law_cell"]
def sp_names (K : PySem.W.Frag) : Sp := fun vs H Q _ => ∃ (a : Addr) (ns : List Int), vs = [.ref a] ∧ SqL K H a (ns.map V.int) ∧ ns.length ≤ 63 ∧ ∀ (r : Addr) (H' : Hp) (nms : List Str), H r = none → Ext H H' → H' r = some (.lst (nms.map V.str)) → NmOk nms → Q (.ref r) H'
theorem len_names {K : PySem.W.Frag} {vs : List V} {H : Hp} {Q : VK} {E : XK} (h : sp_names K vs H Q E) : vs.length = 1 := by obtain ⟨_, _, rfl, _⟩ := h; rfl
theorem rd_names {K : PySem.W.Frag} {vs : List V} {H : Hp} {Q : VK} {E : XK} (h : sp_names K vs H Q E) : t_names K { nx := fun _ H' => Q .non H', rt := Q } (start N_names vs) H := by
  obtain ⟨a, ns, rfl, hS, h63, k⟩ := h
  unfold t_names
  walk_at "go"
  refine g_lcL (S := []) hS (fun _ z => nomatch z) (fun i acc _ => acc = (ns.take i).map V.int) (fun _ _ _ _ _ _ _ q => q) (fun _ _ => rfl) (fun _ _ _ c _ => c.same.seq hS) (fun i acc _ e => bigl (by rw [e]; simp; omega)) (fun i x hi acc H' Yes No c e yes no => ?_) (fun q acc H1 hq c1 h1 e => ?_)
  · obtain ⟨n, hn, rfl⟩ : ∃ n, ns[i]? = some n ∧ V.int n = x := by
      rw [List.getElem?_map] at hi
      cases e : ns[i]? with
      | none => rw [e] at hi; cases hi
      | some n => rw [e] at hi; exact ⟨n, rfl, Option.some.inj hi⟩
    walk_at "go"
    refine yes _ _ (Chg.refl _) ?_
    show acc ++ [V.int n] = (ns.take (i + 1)).map V.int
    have e : acc = (ns.take i).map V.int := e
    rw [e, List.take_add_one, hn]
    simp
  have e : acc = (ns.take (ns.map V.int).length).map V.int := e
  rw [List.length_map, List.take_length] at e
  walk_at "go"
  refine ⟨q, ns, rfl, .inl (.inl (by rw [h1, e])), ?_⟩
  walk_at "go"
  generalize (if ns.sum < 0 then -ns.sum else ns.sum) = rest0
  refine g_cut (M := fun σ H' => ∃ rest, σ = [some (.ref a), some (.str "abcdefghijklmnopqrstuvwxyz"), some (.int rest), none, none, none, none, none, none, none, none, none, none] ∧ Ext H H') ?_ ?_
  · walk_at "go"
    refine g_2 (fun b1 => ?_) (fun _ => ?_)
    · walk_at "go"
      refine g_2 (fun b2 => ?_) (fun _ => ?_)
      · have b1 := of_decide_eq_true b1
        have b2 : rest0 < 10 ^ 18 := of_decide_eq_true b2
        walk_at "go"
        exact ⟨_, rfl, c1⟩
      · walk_at "go"
        exact ⟨_, rfl, c1⟩
    · walk_at "go"
      exact ⟨_, rfl, c1⟩
  rintro σ H2 ⟨rest, rfl, c2⟩
  walk_at "go"
  refine g_newL (by decide) fun p H3 hp c3 h3 => ?_
  walk_at "go"
  obtain ⟨st, hst, hat⟩ := stride_at (Int.emod_nonneg rest (b := 12) (by decide)) (Int.emod_lt_of_pos rest (b := 12) (by decide))
  refine g_ixL h3 hat ?_
  walk_at "go"
  have hsh0 := Int.emod_nonneg (rest / 12) (b := 26) (by decide)
  have hsh1 := Int.emod_lt_of_pos (rest / 12) (b := 26) (by decide)
  have hfr0 := Int.emod_nonneg (rest / 312) (b := 2) (by decide)
  have hfr1 := Int.emod_lt_of_pos (rest / 312) (b := 2) (by decide)
  generalize rest / 12 % 26 = sh at *
  generalize rest / 312 % 2 = front at *
  generalize rest / 624 = rest1
  refine g_newL (by decide) fun r H4 hr4 c4 h4 => ?_
  have hr : H r = none := (c2.trans c3).free hr4
  have hsb := strides_bd hst
  walk_at "go"
  refine g_forR (by decide) (fun i σ H' => ∃ (nms : List Str) (rest : Int) (o7 o8 o9 : Option V), σ = [some (.ref a), some (.str "abcdefghijklmnopqrstuvwxyz"), some (.int rest), some (.int st), some (.int sh), some (.int front), some (.ref r), o7, o8, o9, none, none, none] ∧ Ext H H' ∧ H' r = some (.lst (nms.map V.str)) ∧ NmSo front st sh i nms)
    ⟨[], rest1, none, none, none, rfl, c2.trans (c3.trans c4), h4, rfl, fun i hi => absurd hi (Nat.not_lt_zero i)⟩ ?_ ?_
  · rintro i σ H' hi ⟨nms, rest, o7, o8, o9, rfl, c, hd, so⟩
    walk_at "go"
    have hc0 := Int.emod_nonneg ((i : Int) * st + sh) (b := 26) (by decide)
    have hc1 := Int.emod_lt_of_pos ((i : Int) * st + sh) (b := 26) (by decide)
    have hat2 : atI ("abcdefghijklmnopqrstuvwxyz" : Str).cps.toList (((i : Int) * st + sh) % 26) = some (97 + (((i : Int) * st + sh) % 26).toNat) := by
      have := letter_at (k := (((i : Int) * st + sh) % 26).toNat) (by omega)
      rw [Int.toNat_of_nonneg hc0] at this
      exact this
    refine g_ixS (by decide +kernel) hat2 ?_
    walk_at "go"
    refine g_addS (by decide +kernel) ?_
    walk_at "go"
    refine ⟨_, rfl, by decide +kernel, ?_⟩
    walk_at "go"
    refine ⟨_, rfl, Nat.le_trans (cutS_length _ _ _) (by decide +kernel), ?_⟩
    walk_at "go"
    obtain ⟨g1, g2, m1, m2⟩ := name_ok (front := front) (rest := rest) (k := i) hc0 hc1 (Int.emod_nonneg rest (b := 26) (by decide)) (Int.emod_lt_of_pos rest (b := 26) (by decide)) (Int.emod_nonneg (rest / 26) (b := 8) (by decide)) (Int.emod_lt_of_pos (rest / 26) (b := 8) (by decide)) _ rfl _ (97 + (((i : Int) * st + sh) % 26).toNat) (by omega) rfl
    generalize hta : cutS (cutS (("abcdefghijklmnopqrstuvwxyz" : Str) ++ ("abcdefghijklmnopqrstuvwxyz" : Str)) (some (rest % 26)) none) none (some (rest / 26 % 8)) = tail at *
    generalize hma : (⟨#[97 + (((i : Int) * st + sh) % 26).toNat]⟩ : Str) = mark at *
    have l1 := g1.most
    have l2 := g2.most
    rw [app_len] at l1 l2
    refine g_addS (big (by omega)) ?_
    walk_at "go"
    refine g_addS (big (by omega)) ?_
    walk_at "go"
    refine g_newL (big (by simp)) fun p H5 hp5 c5 h5 => ?_
    walk_at "go"
    have hd5 := c5.at hd
    have nl := so.len
    by_cases ef : front = 0
    · subst ef
      refine g_ixL h5 (v := .str (mark ++ tail)) rfl ?_
      walk_at "go"
      refine g_append hd5 (bigl (by simp; omega)) ?_
      walk_at "go"
      exact ⟨nms ++ [mark ++ tail], _, _, _, _, rfl, (c.trans c5).own hr _, by rw [upd_same]; simp, so.snoc g1 (by omega) ⟨fun _ => m1, fun z => absurd rfl z⟩⟩
    · have ef1 : front = 1 := by omega
      subst ef1
      refine g_ixL h5 (v := .str (tail ++ mark)) rfl ?_
      walk_at "go"
      refine g_append hd5 (bigl (by simp; omega)) ?_
      walk_at "go"
      exact ⟨nms ++ [tail ++ mark], _, _, _, _, rfl, (c.trans c5).own hr _, by rw [upd_same]; simp, so.snoc g2 (by omega) ⟨fun z => absurd z ef, fun _ => m2⟩⟩
  rintro σ H5 ⟨nms, rest, o7, o8, o9, rfl, c, hd, so⟩
  have so : NmSo front st sh 26 nms := so
  have nl := so.len
  walk_at "go"
  refine g_lcR (S := []) (by decide) (fun _ z => nomatch z) (fun i acc _ => acc = ((List.range i).map more1).map V.str ∧ i ≤ 52) (fun _ _ _ _ _ _ _ q => q) (fun _ _ => ⟨rfl, by decide⟩) (fun i acc _ e => bigl (by rw [e.1]; simp; omega)) (fun i hi acc H' Yes No c e yes no => ?_) (fun q6 acc H6 hq6 c6 h6 e => ?_)
  · walk_at "go"
    have e1 : (i : Int) % 26 = ((i % 26 : Nat) : Int) := by omega
    have e2 : ((i : Int) * 7 + (i : Int) / 26 + 3) % 26 = (((i * 7 + i / 26 + 3) % 26 : Nat) : Int) := by omega
    refine g_ixS (by decide +kernel) (c := 97 + i % 26) (by rw [e1]; exact letter_at (by omega)) ?_
    walk_at "go"
    refine g_ixS (by decide +kernel) (c := 97 + (i * 7 + i / 26 + 3) % 26) (by rw [e2]; exact letter_at (by omega)) ?_
    refine g_addS (by rw [one_len, one_len]; decide) ?_
    refine yes _ _ (Chg.refl _) ⟨?_, by omega⟩
    show acc ++ [_] = ((List.range (i + 1)).map more1).map V.str
    have e := e.1
    rw [e, List.range_succ, List.map_append, List.map_append]
    congr 1
  have e : acc = ((List.range 52).map more1).map V.str := e.1
  walk_at "go"
  have hd6 := c6.at hd
  refine g_lcL (S := []) (xs := ((List.range 52).map more1).map V.str) (.inl (.inl (by rw [h6, e]))) (fun _ z => nomatch z) (fun i acc _ => acc = ((((List.range 52).map more1).take i).filter fun s => !decide (s ∈ nms)).map V.str) (fun _ _ _ _ _ _ _ q => q) (fun _ _ => rfl) (fun _ _ H' c _ => .inl (.inl (by rw [c.at h6, e]))) (fun i acc _ e => bigl (by
      rw [e, List.length_map]
      have := List.length_filter_le (fun s => !decide (s ∈ nms)) (((List.range 52).map more1).take i)
      simp only [List.length_take, List.length_map, List.length_range] at this
      omega)) (fun i x hi acc H' Yes No c e yes no => ?_) (fun q7 acc H7 hq7 c7 h7 e => ?_)
  · obtain ⟨s, hs, rfl⟩ : ∃ s, ((List.range 52).map more1)[i]? = some s ∧ V.str s = x := by
      rw [List.getElem?_map] at hi
      cases e : ((List.range 52).map more1)[i]? with
      | none => rw [e] at hi; cases hi
      | some n => rw [e] at hi; exact ⟨n, rfl, Option.some.inj hi⟩
    walk_at "go"
    refine ⟨r, nms.map V.str, rfl, .inl (.inl (.inl (c.at hd6))), rfl, flat_strs, ?_⟩
    walk_at "go"
    rw [if_pos rfl, inV_str]
    have e : acc = ((((List.range 52).map more1).take i).filter fun s => !decide (s ∈ nms)).map V.str := e
    have et : ((List.range 52).map more1).take (i + 1) = ((List.range 52).map more1).take i ++ [s] := by rw [List.take_add_one, hs]; rfl
    by_cases hm : s ∈ nms
    · rw [decide_eq_true hm]
      refine g_fa (no _ (Chg.refl _) ?_)
      show acc = ((((List.range 52).map more1).take (i + 1)).filter fun s => !decide (s ∈ nms)).map V.str
      rw [e, et, List.filter_append]
      simp [hm]
    · rw [decide_eq_false hm]
      refine g_tr ?_
      walk_at "go"
      refine yes _ _ (Chg.refl _) ?_
      show acc ++ [_] = ((((List.range 52).map more1).take (i + 1)).filter fun s => !decide (s ∈ nms)).map V.str
      rw [e, et, List.filter_append]
      simp [hm]
  have hd7 := c7.at hd6
  have el : (((List.range 52).map more1).map V.str).length = 52 := by simp
  have e : acc = ((((List.range 52).map more1).take (((List.range 52).map more1).map V.str).length).filter fun s => !decide (s ∈ nms)).map V.str := e
  rw [el, List.take_of_length_le (by simp)] at e
  have hk := names_end so hst
  refine g_cat hd7 h7 (big (by
    have := hk.most
    rw [List.length_append] at this
    rw [e, List.length_map, List.length_map]
    omega)) fun q8 H8 hq8 c8 h8 => ?_
  refine k q8 H8 _ ((c.trans (c6.trans c7)).free hq8) (c.trans (c6.trans (c7.trans c8))) ?_ hk
  rw [h8, e, List.map_append]

/-! ### forms -/
inductive Fm where
  | hole (n : Int) | node (s : Str) (ps : List Fm)
mutual
def Fm.d : Fm → D
  | .hole n => .int n
  | .node s ps => .tup (.str s :: Fm.ds ps)
def Fm.ds : List Fm → List D
  | [] => []
  | p :: ps => p.d :: Fm.ds ps
end
mutual
def Fm.size : Fm → Nat
  | .hole _ => 1
  | .node _ ps => 1 + Fm.sizes ps
def Fm.sizes : List Fm → Nat
  | [] => 0
  | p :: ps => p.size + Fm.sizes ps
end
mutual
def Fm.depth : Fm → Nat
  | .hole _ => 1
  | .node _ ps => 1 + Fm.depths ps
def Fm.depths : List Fm → Nat
  | [] => 0
  | p :: ps => max p.depth (Fm.depths ps)
end
mutual
def Fm.ok : Fm → Prop
  | .hole n => 0 ≤ n ∧ n ≤ 99
  | .node s ps => Good s ∧ Fm.oks ps
def Fm.oks : List Fm → Prop
  | [] => True
  | p :: ps => p.ok ∧ Fm.oks ps
end
def Fm.isHole : Fm → Bool
  | .hole _ => true
  | .node _ _ => false
theorem Fm.ds_append : ∀ (ps qs : List Fm), Fm.ds (ps ++ qs) = Fm.ds ps ++ Fm.ds qs
  | [], qs => rfl
  | p :: ps, qs => by simp only [List.cons_append, Fm.ds, Fm.ds_append ps qs]
theorem Fm.sizes_append : ∀ (ps qs : List Fm), Fm.sizes (ps ++ qs) = Fm.sizes ps + Fm.sizes qs
  | [], qs => by simp [Fm.sizes]
  | p :: ps, qs => by simp only [List.cons_append, Fm.sizes, Fm.sizes_append ps qs]; omega
theorem Fm.depths_append : ∀ (ps qs : List Fm), Fm.depths (ps ++ qs) = max (Fm.depths ps) (Fm.depths qs)
  | [], qs => by simp [Fm.depths]
  | p :: ps, qs => by simp only [List.cons_append, Fm.depths, Fm.depths_append ps qs]; omega
theorem Fm.oks_append : ∀ (ps qs : List Fm), Fm.oks (ps ++ qs) ↔ Fm.oks ps ∧ Fm.oks qs
  | [], qs => by simp [Fm.oks]
  | p :: ps, qs => by simp only [List.cons_append, Fm.oks, Fm.oks_append ps qs, and_assoc]
theorem Fm.ds_length : ∀ ps : List Fm, (Fm.ds ps).length = ps.length
  | [] => rfl
  | p :: ps => by simp only [Fm.ds, List.length_cons, Fm.ds_length ps]
theorem Fm.ds_get : ∀ (ps : List Fm) (i : Nat), (Fm.ds ps)[i]? = ps[i]?.map Fm.d
  | [], i => by simp [Fm.ds]
  | p :: ps, 0 => by simp [Fm.ds]
  | p :: ps, i + 1 => by simp only [Fm.ds, List.getElem?_cons_succ, Fm.ds_get ps i]
theorem Fm.depth_mem : ∀ {ps : List Fm} {p : Fm}, p ∈ ps → p.depth ≤ Fm.depths ps
  | q :: ps, p, h => by
    simp only [Fm.depths]
    rcases List.mem_cons.mp h with rfl | h
    · omega
    · have := Fm.depth_mem h; omega
theorem Fm.size_pos (f : Fm) : 1 ≤ f.size := by cases f <;> simp only [Fm.size] <;> omega
theorem Fm.depth_pos (f : Fm) : 1 ≤ f.depth := by cases f <;> simp only [Fm.depth] <;> omega
theorem Fm.ok_mem : ∀ {ps : List Fm} {p : Fm}, Fm.oks ps → p ∈ ps → p.ok
  | q :: ps, p, h, hm => by
    simp only [Fm.oks] at h
    rcases List.mem_cons.mp hm with rfl | hm
    · exact h.1
    · exact Fm.ok_mem h.2 hm
theorem Fm.len_sizes : ∀ ps : List Fm, ps.length ≤ Fm.sizes ps
  | [] => Nat.zero_le _
  | p :: ps => by
    have := p.size_pos
    have := Fm.len_sizes ps
    simp only [Fm.sizes, List.length_cons]
    omega
section
variable {K : PySem.W.Frag} {H H' : Hp} {Q : VK} {v : V} {S : List Addr}
abbrev IsF (H : Hp) (f : Fm) (v : V) : Prop := Is H f.d v
abbrev IsFs (H : Hp) (ps : List Fm) (vs : List V) : Prop := IsL H (Fm.ds ps) vs
theorem IsF.hole {n : Int} : IsF H (.hole n) v ↔ v = .int n := by unfold IsF; simp only [Fm.d]; exact Is.int_iff
theorem IsF.node {s : Str} {ps : List Fm} : IsF H (.node s ps) v ↔ ∃ a vs, v = .ref a ∧ H a = some (.tup (.str s :: vs)) ∧ IsFs H ps vs := by
  unfold IsF
  simp only [Fm.d]
  rw [Is.tup_iff]
  constructor
  · rintro ⟨a, vs, rfl, h1, h2⟩
    obtain ⟨x, xs, rfl, h3, h4⟩ := IsL.cons_iff.mp h2
    rw [Is.str_iff.mp h3] at h1
    exact ⟨a, xs, rfl, h1, h4⟩
  · rintro ⟨a, vs, rfl, h1, h2⟩
    exact ⟨a, _, rfl, h1, IsL.cons Is.str h2⟩
theorem IsFs.snoc {ps : List Fm} {vs : List V} {f : Fm} (h : IsFs H ps vs) (k : IsF H f v) : IsFs H (ps ++ [f]) (vs ++ [v]) := by
  unfold IsFs
  rw [Fm.ds_append]
  exact IsL.append h (by simp only [Fm.ds]; exact IsL.one k)
theorem IsFs.get {ps : List Fm} {vs : List V} {i : Nat} (h : IsFs H ps vs) (e : vs[i]? = some v) : ∃ f, ps[i]? = some f ∧ IsF H f v := by
  obtain ⟨d, h1, h2⟩ := IsL.get h e
  rw [Fm.ds_get] at h1
  cases q : ps[i]? with
  | none => rw [q] at h1; cases h1
  | some f =>
    rw [q] at h1
    have e : f.d = d := Option.some.inj h1
    subst e
    exact ⟨f, rfl, h2⟩
theorem IsFs.get' {ps : List Fm} {vs : List V} {i : Nat} {f : Fm} (h : IsFs H ps vs) (e : ps[i]? = some f) : ∃ v, vs[i]? = some v ∧ IsF H f v := by
  refine IsL.get' h ?_
  rw [Fm.ds_get, e]
  rfl
theorem IsFs.length {ps : List Fm} {vs : List V} (h : IsFs H ps vs) : vs.length = ps.length := by rw [IsL.length h, Fm.ds_length]
theorem kit_int_int : PySem.W.kitOne K (.type "int") (.type "int") = some true := kit_ty (by decide +kernel)
theorem kit_tup_int : PySem.W.kitOne K (.type "tuple") (.type "int") = some false := kit_ty (by decide +kernel)
theorem kit_int_bool : PySem.W.kitOne K (.type "int") (.type "bool") = some false := kit_ty (by decide +kernel)
/-- isinstance(form, int) -/
theorem g_isiF {f : Fm} (h : IsF H f v) (k : Q (.bl f.isHole) H) : rIsi K [v, .ty "int"] H Q := by
  cases f with
  | hole n =>
    obtain rfl := IsF.hole.mp h
    exact ⟨_, _, _, _, true, rfl, .ty "int", .base (.int n), kit_int_int, k⟩
  | node s ps =>
    obtain ⟨a, vs, rfl, h1, _⟩ := IsF.node.mp h
    exact ⟨_, _, _, _, false, rfl, .ty "int", .base (.tup h1), kit_tup_int, k⟩
theorem g_isiI {n : Int} (k : Q (.bl true) H) : rIsi K [.int n, .ty "int"] H Q := ⟨_, _, _, _, true, rfl, .ty "int", .base (.int n), kit_int_int, k⟩
theorem g_isiIb {n : Int} (k : Q (.bl false) H) : rIsi K [.int n, .ty "bool"] H Q := ⟨_, _, _, _, false, rfl, .ty "bool", .base (.int n), kit_int_bool, k⟩
/-- form[1:] -/
theorem g_parts {s : Str} {ps : List Fm} (h : IsF H (.node s ps) v) (k : ∀ p H' vs, H p = none → Ext H H' → H' p = some (.tup vs) → IsFs H' ps vs → Q (.ref p) H') : rSlT K v (some 1) none H Q := by
  obtain ⟨a, vs, rfl, h1, h2⟩ := IsF.node.mp h
  refine ⟨a, _, rfl, .inl (.inl h1), ?_, g_new fun p H' hp c hx => k p H' vs hp c ?_ (h2.up c)⟩
  · rintro ⟨z, _⟩
    simp [HT.sIx] at z
  · rw [hx]
    simp [cutV, HT.sIx]
end
/-! ### what draws give -/
section
variable {K : PySem.W.Frag} {H H' : Hp} {Q : VK} {E : XK} {d : Addr}
theorem g_take {m : Int} (hd : Dr H d) (hm : 0 < m) (k : ∀ (v : Int) (H' : Hp), 0 ≤ v → v < m → Chg [d] H H' → Dr H' d → Q (.int v) H') : sp_take K ([.ref d, .int m] ++ []) H Q E := ⟨d, m, rfl, hd, hm, k⟩
theorem nm_at {nms : List Str} (ok : NmOk nms) {i : Int} (h0 : 0 ≤ i) (h1 : i < 26) : ∃ s, s ∈ nms ∧ atI (nms.map V.str) i = some (.str s) := by
  obtain ⟨k, rfl⟩ : ∃ k : Nat, i = (k : Int) := ⟨i.toNat, by omega⟩
  have hk : k < nms.length := by have := ok.least; omega
  exact ⟨nms[k], List.getElem_mem hk, atI_nat (by rw [List.getElem?_map, List.getElem?_eq_getElem hk]; rfl)⟩
theorem Dr.ne {l : Addr} {xs : List V} {s : Str} (h : Dr H d) (k : H l = some (.lst (.str s :: xs))) : l ≠ d := fun e => by
  obtain ⟨ds, h1, _⟩ := h
  rw [e, h1] at k
  cases ds <;> simp at k
theorem Dr.nn (h : Dr H d) : H d ≠ none := fun e => by
  obtain ⟨ds, h1, _⟩ := h
  rw [h1] at e
  cases e
theorem Dr.keep (h : Dr H d) (c : Chg [] H H') : Dr H' d := by
  obtain ⟨ds, h1, h2⟩ := h
  exact ⟨ds, c.at h1, h2⟩
/-- the names' list, apart from the draws -/
structure Nms (H : Hp) (d r : Addr) (nms : List Str) : Prop where
  at_ : H r = some (.lst (nms.map V.str))
  ok : NmOk nms
  ne : r ∉ [d]
theorem Nms.keep {r : Addr} {nms : List Str} (h : Nms H d r nms) (c : Chg [d] H H') : Nms H' d r nms := ⟨c.ob _ _ h.ne h.at_, h.ok, h.ne⟩
theorem Nms.keep0 {r : Addr} {nms : List Str} (h : Nms H d r nms) (c : Chg [] H H') : Nms H' d r nms := ⟨c.at h.at_, h.ok, h.ne⟩
end
/-- a list of one's own grows -/
theorem g_appD {Q : VK} {H0 H' : Hp} {d l : Addr} {ws : List V} {v : V} (hl : H0 l = none) (ld : l ∉ [d]) (c : Chg [d] H0 H') (hd : Dr H' d) (hx : H' l = some (.lst ws)) (hz : ws.length < 100000)
    (k : ∀ H2, Chg [d] H0 H2 → Dr H2 d → H2 l = some (.lst (ws ++ [v])) → Chg [l] H' H2 → Q .non H2) : rAppend (.ref l) [v] H' Q := by
  refine g_append hx (bigl hz) (k _ (c.own hl _) ?_ upd_same ((Chg.refl _).set (List.mem_singleton.mpr rfl) hx (by intro xs z; cases z) _))
  obtain ⟨ds, h1, h2⟩ := hd
  exact ⟨ds, by rw [upd_ne (fun z => ld (List.mem_singleton.mpr z.symm))]; exact h1, h2⟩
theorem Dr.off {H : Hp} {d l : Addr} (h : Dr H d) (hl : H l = none) : l ∉ [d] := by
  intro z
  rw [List.mem_singleton.mp z] at hl
  exact h.nn hl
/-- one of five holes -/
theorem five_at {v i : Int} (hv : 0 ≤ v ∧ v ≤ 99) (h0 : 0 ≤ i) (h1 : i < 5) : ∃ x : Int, atI ([.int v, .int 0, .int 9, .int 10, .int 99] : List V) i = some (.int x) ∧ 0 ≤ x ∧ x ≤ 99 := by
  have h : i = 0 ∨ i = 1 ∨ i = 2 ∨ i = 3 ∨ i = 4 := by omega
  rcases h with rfl | rfl | rfl | rfl | rfl
  · exact ⟨v, rfl, hv.1, hv.2⟩
  · exact ⟨0, rfl, by decide, by decide⟩
  · exact ⟨9, rfl, by decide, by decide⟩
  · exact ⟨10, rfl, by decide, by decide⟩
  · exact ⟨99, rfl, by decide, by decide⟩
/-- a list of holes, apart from the draws -/
structure Hls (H : Hp) (d hs : Addr) (is : List Int) : Prop where
  at_ : H hs = some (.lst (is.map V.int))
  ne : hs ∉ [d]
  rng : ∀ i ∈ is, 0 ≤ i ∧ i ≤ 99
theorem Hls.keep {H H' : Hp} {d hs : Addr} {is : List Int} (h : Hls H d hs is) (c : Chg [d] H H') : Hls H' d hs is := ⟨c.ob _ _ h.ne h.at_, h.ne, h.rng⟩
theorem ints_at {is : List Int} {i : Int} (h0 : 0 ≤ i) (h1 : i < ((is.map V.int).length : Int)) : ∃ x, x ∈ is ∧ atI (is.map V.int) i = some (.int x) := by
  obtain ⟨k, rfl⟩ : ∃ k : Nat, i = (k : Int) := ⟨i.toNat, by omega⟩
  have hk : k < is.length := by simp at h1; omega
  exact ⟨is[k], List.getElem_mem hk, atI_nat (by rw [List.getElem?_map, List.getElem?_eq_getElem hk]; rfl)⟩
theorem Hls.get {H : Hp} {d hs : Addr} {is : List Int} (h : Hls H d hs is) {i : Int} (h0 : 0 ≤ i) (h1 : i < ((is.map V.int).length : Int)) : ∃ x, atI (is.map V.int) i = some (.int x) ∧ 0 ≤ x ∧ x ≤ 99 := by
  obtain ⟨x, hx, e⟩ := ints_at h0 h1
  exact ⟨x, e, (h.rng x hx).1, (h.rng x hx).2⟩
def spLaw (K : PySem.W.Frag) : Sp := fun vs H Q _ => ∃ (a : Addr) (ns : List Int), vs = [.ref a] ∧ SqL K H a (ns.map V.int) ∧ ns.length ≤ 63 ∧ ∀ H', Q (.bl true) H'
theorem len_law {K : PySem.W.Frag} {vs : List V} {H : Hp} {Q : VK} {E : XK} (h : spLaw K vs H Q E) : vs.length = 1 := by obtain ⟨_, _, rfl, _⟩ := h; rfl
theorem cut_head (ns : List Int) : cutV (ns.map V.int) none (some 1) = (ns.take 1).map V.int := by
  simp [cutV, HT.sIx]
theorem cut_tail (ns : List Int) : cutV (ns.map V.int) (some 1) none = (ns.drop 1).map V.int := by
  cases ns with
  | nil => rfl
  | cons n ns =>
    simp [cutV, HT.sIx]
    exact List.take_of_length_le (by simp)

/-! ### the written form -/
mutual
def Fm.wl : Fm → List Nat
  | .hole n => TL.numL n.toNat
  | .node s ps => tl s ++ Fm.wa ps
def Fm.wa : List Fm → List Nat
  | [] => []
  | p :: ps => 40 :: (p.wl ++ (Fm.wt ps ++ [41]))
def Fm.wt : List Fm → List Nat
  | [] => []
  | p :: ps => 44 :: 32 :: (p.wl ++ Fm.wt ps)
end
/-- the parts with ", " between them -/
def Fm.mid : List Fm → List Nat
  | [] => []
  | p :: ps => p.wl ++ Fm.wt ps
theorem Fm.wt_app : ∀ (ps qs : List Fm), Fm.wt (ps ++ qs) = Fm.wt ps ++ Fm.wt qs
  | [], qs => by simp [Fm.wt]
  | p :: ps, qs => by simp only [List.cons_append, Fm.wt, Fm.wt_app ps qs, List.append_assoc]
theorem Fm.mid_snoc (ps : List Fm) (q : Fm) : Fm.mid (ps ++ [q]) = if ps = [] then q.wl else Fm.mid ps ++ [44, 32] ++ q.wl := by
  cases ps with
  | nil => simp [Fm.mid, Fm.wt]
  | cons p ps =>
    rw [if_neg (by simp)]
    simp only [List.cons_append, Fm.mid, Fm.wt_app, Fm.wt, List.append_assoc, List.append_nil, List.nil_append]
theorem Fm.wa_mid {ps : List Fm} (h : ps ≠ []) : Fm.wa ps = 40 :: (Fm.mid ps ++ [41]) := by
  cases ps with
  | nil => exact absurd rfl h
  | cons p ps => simp only [Fm.wa, Fm.mid, List.append_assoc]
theorem Fm.mid_join : ∀ ps : List Fm, TL.joinL [44, 32] (ps.map Fm.wl) = Fm.mid ps
  | [] => rfl
  | [p] => by simp [TL.joinL, Fm.mid, Fm.wt]
  | p :: q :: ps => by
    have ih := Fm.mid_join (q :: ps)
    rw [List.map_cons] at ih
    simp only [List.map_cons, TL.joinL, Fm.mid, Fm.wt]
    rw [ih]
    simp [Fm.mid]
theorem numL_le : ∀ n < 100, (TL.numL n).length ≤ 2 := by
  intro n h
  by_cases h1 : n < 10
  · rw [TL.numL_lt h1]; simp
  · rw [TL.numL_step (by omega), TL.numL_lt (by omega)]; simp
mutual
theorem Fm.wl_len : ∀ (f : Fm), f.ok → f.wl.length + 2 ≤ 12 * f.size
  | .hole n, h => by
    simp only [Fm.ok] at h
    simp only [Fm.wl, Fm.size]
    have := numL_le n.toNat (by omega)
    omega
  | .node s ps, h => by
    simp only [Fm.ok] at h
    have h1 := h.1.most
    rw [tl_len] at h1
    have h2 := Fm.wa_len ps h.2
    simp only [Fm.wl, Fm.size, List.length_append]
    omega
theorem Fm.wa_len : ∀ (ps : List Fm), Fm.oks ps → (Fm.wa ps).length ≤ 2 + 12 * Fm.sizes ps
  | [], _ => by simp [Fm.wa]
  | p :: ps, h => by
    simp only [Fm.oks] at h
    have h1 := Fm.wl_len p h.1
    have h2 := Fm.wt_len ps h.2
    simp only [Fm.wa, Fm.sizes, List.length_append, List.length_cons, List.length_nil]
    omega
theorem Fm.wt_len : ∀ (ps : List Fm), Fm.oks ps → (Fm.wt ps).length ≤ 12 * Fm.sizes ps
  | [], _ => by simp [Fm.wt]
  | p :: ps, h => by
    simp only [Fm.oks] at h
    have h1 := Fm.wl_len p h.1
    have h2 := Fm.wt_len ps h.2
    simp only [Fm.wt, Fm.sizes, List.length_append, List.length_cons]
    omega
end
theorem Fm.mid_len (ps : List Fm) (h : Fm.oks ps) : (Fm.mid ps).length ≤ 12 * Fm.sizes ps := by
  cases ps with
  | nil => simp [Fm.mid]
  | cons p ps =>
    simp only [Fm.oks] at h
    have h1 := Fm.wl_len p h.1
    have h2 := Fm.wt_len ps h.2
    simp only [Fm.mid, Fm.sizes, List.length_append]
    omega
theorem Fm.size_mem : ∀ {ps : List Fm} {p : Fm}, p ∈ ps → p.size ≤ Fm.sizes ps
  | q :: ps, p, h => by
    simp only [Fm.sizes]
    rcases List.mem_cons.mp h with rfl | h
    · omega
    · have := Fm.size_mem h; omega
theorem Fm.sum_len : ∀ (ps : List Fm), Fm.oks ps → (ps.map (fun f => f.wl.length)).sum ≤ 12 * Fm.sizes ps
  | [], _ => by simp
  | p :: ps, h => by
    simp only [Fm.oks] at h
    have h1 := Fm.wl_len p h.1
    have h2 := Fm.sum_len ps h.2
    simp only [List.map_cons, List.sum_cons, Fm.sizes]
    omega
theorem Fm.oks_take {ps : List Fm} (h : Fm.oks ps) (n : Nat) : Fm.oks (ps.take n) := by
  have : Fm.oks (ps.take n ++ ps.drop n) := by rw [List.take_append_drop]; exact h
  exact ((Fm.oks_append _ _).mp this).1
theorem Fm.sizes_take (ps : List Fm) (n : Nat) : Fm.sizes (ps.take n) ≤ Fm.sizes ps := by
  have : Fm.sizes (ps.take n ++ ps.drop n) = Fm.sizes ps := by rw [List.take_append_drop]
  rw [Fm.sizes_append] at this
  omega
theorem num_log {n : Int} (h0 : 0 ≤ n) (h1 : n ≤ 99) : n.natAbs.log2 < 1920 := by
  have h : n.natAbs < 2 ^ 7 := by omega
  by_cases e : n.natAbs = 0
  · rw [e]; decide
  · have := (Nat.log2_lt e).mpr h
    omega
theorem tl_int {n : Int} (h0 : 0 ≤ n) : tl (Str.ofString (toString n)) = TL.numL n.toNat := by
  have := TL.tl_num n.toNat
  rw [Int.toNat_of_nonneg h0] at this
  exact this
/-! form[0], len(form) -/
section
variable {K : PySem.W.Frag} {H : Hp} {Q : VK} {v : V}
theorem g_sign {s : Str} {ps : List Fm} (h : IsF H (.node s ps) v) (k : Q (.str s) H) : rIxT K v (.int 0) H Q := by
  obtain ⟨a, vs, rfl, h1, _⟩ := IsF.node.mp h
  exact g_ixT h1 (atI_nat (j := 0) rfl) k
theorem g_lenF {s : Str} {ps : List Fm} (h : IsF H (.node s ps) v) (k : Q (.int ((ps.length + 1 : Nat) : Int)) H) : rLenSeq K [v] H Q := by
  obtain ⟨a, vs, rfl, h1, h2⟩ := IsF.node.mp h
  refine g_lenT h1 ?_
  rw [List.length_cons, h2.length]
  exact k
theorem g_part_at {s : Str} {ps : List Fm} {i : Nat} {f : Fm} (h : IsF H (.node s ps) v) (hf : ps[i]? = some f) (k : ∀ x, IsF H f x → Q x H) : rIxT K v (.int ((i + 1 : Nat) : Int)) H Q := by
  obtain ⟨a, vs, rfl, h1, h2⟩ := IsF.node.mp h
  obtain ⟨x, h3, h4⟩ := h2.get' hf
  exact g_ixT h1 (atI_nat (by rw [List.getElem?_cons_succ]; exact h3)) (k x h4)
theorem kit_str_str : PySem.W.kitOne K (.type "str") (.type "str") = some true := kit_ty (by decide +kernel)
theorem g_isiS {z : Str} (k : Q (.bl true) H) : rIsi K [.str z, .ty "str"] H Q := ⟨_, _, _, _, true, rfl, .ty "str", .base (.str z), kit_str_str, k⟩
end
def t_write (K : PySem.W.Frag) (r : Sp) : TS := (tSeq (tIfS (tB (tCB (rIsi K) (tCons (tVar 0) (tCons (tC (.ty "int")) tNil)))) (tRet (tCB rStrInt (tCons (tVar 0) tNil)))
  tNext)
  (tSeq (tIfS (tTest (tOp rEq (tCB (rLenSeq K) (tCons (tVar 0) tNil)) (tC (.int 1)))) (tRet (tOp (rIxT K) (tVar 0) (tC (.int 0))))
  tNext)
  (tSeq (tAsg (tM1 (rJoin K) (tC (.str ", ")) (tLc (iTup K (tSl (rSlT K) (tVar 0) (tPart (tC (.int 1))) tNoPart)) (gName 2) tYes (tCall r [] E0 (tCons (tVar 2) tNil)) [2])) (gName 1))
  (tRet (tJoined [(tFmt (tOp (rIxT K) (tVar 0) (tC (.int 0)))), (tC (.str "(")), (tFmt (tVar 1)), (tC (.str ")"))])))))
abbrev N_write : List Str := ["form", "inner", "part"]
def sp_write (K : PySem.W.Frag) (n : Nat) : Sp := fun vs H Q _ => ∃ (v : V) (f : Fm), vs = [v] ∧ IsF H f v ∧ f.ok ∧ f.size ≤ 2000 ∧ f.depth ≤ n ∧ ∀ (z : Str) (H' : Hp), Ext H H' → tl z = f.wl → Q (.str z) H'
theorem len_write {K : PySem.W.Frag} {n : Nat} {vs : List V} {H : Hp} {Q : VK} {E : XK} (h : sp_write K n vs H Q E) : vs.length = 1 := by obtain ⟨_, _, rfl, _⟩ := h; rfl
theorem no_write {K : PySem.W.Frag} (vs : List V) (H : Hp) (Q : VK) (E : XK) : ¬ sp_write K 0 vs H Q E := by
  rintro ⟨_, f, _, _, _, _, h, _⟩
  have := f.depth_pos
  omega
theorem rd_write {K : PySem.W.Frag} {n : Nat} {vs : List V} {H : Hp} {Q : VK} {E : XK} (h : sp_write K (n + 1) vs H Q E) : t_write K (sp_write K n) { nx := fun _ H' => Q .non H', rt := Q } (start N_write vs) H := by
  obtain ⟨v, f, rfl, hf, hok, hz, hn, k⟩ := h
  unfold t_write
  walk_at "go"
  refine g_isiF hf ?_
  walk_at "go"
  cases f with
  | hole m =>
    show (if true = true then _ else _)
    simp only [Fm.ok] at hok
    obtain rfl := IsF.hole.mp hf
    walk_at "go"
    exact ⟨m, rfl, num_log hok.1 hok.2, k _ H (Chg.refl H) (by simp only [Fm.wl]; exact tl_int hok.1)⟩
  | node s ps =>
    show (if false = true then _ else _)
    simp only [Fm.ok] at hok
    simp only [Fm.size] at hz
    simp only [Fm.depth] at hn
    walk_at "go"
    refine g_lenF hf ?_
    walk_at "go"
    refine g_2 (fun b => ?_) (fun b => ?_)
    · have b : ((ps.length + 1 : Nat) : Int) = 1 := of_decide_eq_true b
      obtain rfl : ps = [] := List.eq_nil_of_length_eq_zero (by omega)
      walk_at "go"
      refine g_sign hf ?_
      exact k s H (Chg.refl H) (by simp [Fm.wl, Fm.wa])
    · have b : ¬ ((ps.length + 1 : Nat) : Int) = 1 := of_decide_eq_false b
      have hne : ps ≠ [] := by intro z; rw [z] at b; simp at b
      walk_at "go"
      refine g_parts hf fun p H1 ws hp c1 h1 hw => ?_
      have hl := hw.length
      have hsz := Fm.len_sizes ps
      refine g_lcT (S := []) (xs := ws) (.inl (.inl h1)) (fun _ z => nomatch z) (fun i acc _ => ∃ ys : List Str, acc = ys.map V.str ∧ ys.map tl = (ps.take i).map Fm.wl) (fun _ _ _ _ _ _ _ q => q) (fun _ _ => ⟨[], rfl, by simp⟩) (fun _ _ H' c _ => .inl (.inl (c.at h1)))
        (fun i acc _ ⟨ys, e1, e2⟩ => bigl (by
          have := congrArg List.length e2
          simp at this
          rw [e1, List.length_map]; omega)) (fun i x hi acc H' Yes No c hacc yes no => ?_) (fun q acc H2 hq c2 h2 hacc => ?_)
      · obtain ⟨f, hf1, hf2⟩ := hw.get hi
        obtain ⟨ys, e1, e2⟩ := hacc
        walk_at "go"
        refine ⟨x, f, rfl, hf2.up c, Fm.ok_mem hok.2 (List.mem_of_getElem? hf1), ?_, ?_, fun z H3 c3 ez => yes _ _ c3 ⟨ys ++ [z], by rw [e1]; simp, ?_⟩⟩
        · have := Fm.size_mem (List.mem_of_getElem? hf1); omega
        · have := Fm.depth_mem (List.mem_of_getElem? hf1); omega
        · rw [List.take_add_one, hf1]
          simp [e2, ez]
      obtain ⟨ys, e1, e2⟩ := hacc
      rw [hl, List.take_length] at e2
      have ej : tl (Txt.join (", " : Str) ys) = Fm.mid ps := by
        rw [TL.join_eq]
        have := TL.tl_join (", " : Str) ys
        have e3 : ys.map TL.tl = ps.map Fm.wl := e2
        rw [e3, show TL.tl (", " : Str) = [44, 32] by decide +kernel, Fm.mid_join] at this
        exact this
      have hml := Fm.mid_len ps hok.2
      have hlen : (Txt.join (", " : Str) ys).length ≤ 12 * Fm.sizes ps := by rw [tl_len, ej]; exact hml
      refine ⟨_, q, ys, rfl, rfl, .inl (.inl (.inl (by rw [h2, e1]))), ?_, ?_⟩
      · have h3 : (ys.map (·.length)).sum ≤ 12 * Fm.sizes ps := by
          have e4 : ys.map (·.length) = ps.map (fun f => f.wl.length) := by
            have := congrArg (List.map List.length) e2
            rw [List.map_map, List.map_map] at this
            have e5 : (List.length ∘ tl : Str → Nat) = fun y => y.length := by funext y; exact (tl_len y).symm
            rw [e5] at this
            exact this
          rw [e4]
          exact Fm.sum_len ps hok.2
        have e6 : (", " : Str).length = 2 := by decide +kernel
        have e7 := congrArg List.length e2
        simp at e7
        rw [e6]
        omega
      walk_at "go"
      refine g_sign (hf.up (c1.trans c2)) ?_
      have hsl := hok.1.most
      have e8 : (Str.empty ++ s).length = s.length := by rw [app_len]; show 0 + _ = _; omega
      refine .inl ⟨s, rfl, big (by omega), g_exS ⟨big (by omega), ?_⟩⟩
      walk_at "go"
      refine g_exS ⟨big (by rw [app_len, e8, show ("(" : Str).length = 1 by decide +kernel]; omega), ?_⟩
      walk_at "go"
      refine .inl ⟨_, rfl, big (by omega), g_exS ⟨big (by rw [app_len, app_len, e8, show ("(" : Str).length = 1 by decide +kernel]; omega), ?_⟩⟩
      walk_at "go"
      refine g_exS ⟨big (by rw [app_len, app_len, app_len, e8, show ("(" : Str).length = 1 by decide +kernel, show (")" : Str).length = 1 by decide +kernel]; omega), ?_⟩
      walk_at "go"
      refine k _ H2 (c1.trans c2) ?_
      rw [tl_app, tl_app, tl_app, tl_app, ej]
      simp only [Fm.wl]
      rw [Fm.wa_mid hne, show tl Str.empty = [] by decide +kernel, show tl ("(" : Str) = [40] by decide +kernel, show tl (")" : Str) = [41] by decide +kernel]
      simp
def t_written (K : PySem.W.Frag) (r : Sp) : TS := (tSeq (tIfS (tB (tCB (rIsi K) (tCons (tVar 0) (tCons (tC (.ty "int")) tNil)))) (tRet (tCB rStrInt (tCons (tVar 0) tNil)))
  tNext)
  (tSeq (tIfS (tTest (tOp rEq (tCB (rLenSeq K) (tCons (tVar 0) tNil)) (tC (.int 1)))) (tRet (tOp (rIxT K) (tVar 0) (tC (.int 0))))
  tNext)
  (tSeq (tAsg (tOp rAddS_ (tOp (rIxT K) (tVar 0) (tC (.int 0))) (tC (.str "("))) (gName 1))
  (tSeq (tFor (iRng2 (tCons (tC (.int 1)) (tCons (tCB (rLenSeq K) (tCons (tVar 0) tNil)) tNil))) (gName 2)
  (tSeq (tIfS (tTest (tOp rGtI (tVar 2) (tC (.int 1)))) (tAsg (tOp rAddS_ (tVar 1) (tC (.str ", "))) (gName 1))
  tNext)
  (tAsg (tOp rAddS_ (tVar 1) (tCall r [] E0 (tCons (tOp (rIxT K) (tVar 0) (tVar 2)) tNil))) (gName 1))))
  (tRet (tOp rAddS_ (tVar 1) (tC (.str ")"))))))))
abbrev N_written : List Str := ["_law_form", "_law_text", "_law_k"]
def sp_written (K : PySem.W.Frag) (n : Nat) : Sp := sp_write K n
theorem len_written {K : PySem.W.Frag} {n : Nat} {vs : List V} {H : Hp} {Q : VK} {E : XK} (h : sp_written K n vs H Q E) : vs.length = 1 := len_write h
theorem no_written {K : PySem.W.Frag} (vs : List V) (H : Hp) (Q : VK) (E : XK) : ¬ sp_written K 0 vs H Q E := no_write vs H Q E
theorem rd_written {K : PySem.W.Frag} {n : Nat} {vs : List V} {H : Hp} {Q : VK} {E : XK} (h : sp_written K (n + 1) vs H Q E) : t_written K (sp_written K n) { nx := fun _ H' => Q .non H', rt := Q } (start N_written vs) H := by
  obtain ⟨v, f, rfl, hf, hok, hz, hn, k⟩ := h
  unfold t_written
  walk_at "go"
  refine g_isiF hf ?_
  walk_at "go"
  cases f with
  | hole m =>
    show (if true = true then _ else _)
    simp only [Fm.ok] at hok
    obtain rfl := IsF.hole.mp hf
    walk_at "go"
    exact ⟨m, rfl, num_log hok.1 hok.2, k _ H (Chg.refl H) (by simp only [Fm.wl]; exact tl_int hok.1)⟩
  | node s ps =>
    show (if false = true then _ else _)
    simp only [Fm.ok] at hok
    simp only [Fm.size] at hz
    simp only [Fm.depth] at hn
    walk_at "go"
    refine g_lenF hf ?_
    walk_at "go"
    refine g_2 (fun b => ?_) (fun b => ?_)
    · have b : ((ps.length + 1 : Nat) : Int) = 1 := of_decide_eq_true b
      obtain rfl : ps = [] := List.eq_nil_of_length_eq_zero (by omega)
      walk_at "go"
      refine g_sign hf ?_
      exact k s H (Chg.refl H) (by simp [Fm.wl, Fm.wa])
    · have b : ¬ ((ps.length + 1 : Nat) : Int) = 1 := of_decide_eq_false b
      have hne : ps ≠ [] := by intro z; rw [z] at b; simp at b
      have hsl := hok.1.most
      have hsz := Fm.len_sizes ps
      walk_at "go"
      refine g_sign hf ?_
      walk_at "go"
      have o1 : ("(" : Str).length = 1 := by decide +kernel
      have o2 : (")" : Str).length = 1 := by decide +kernel
      have o3 : (", " : Str).length = 2 := by decide +kernel
      have e1 : tl ("(" : Str) = [40] := by decide +kernel
      have e2 : tl (")" : Str) = [41] := by decide +kernel
      have e3 : tl (", " : Str) = [44, 32] := by decide +kernel
      refine g_addS (big (by omega)) ?_
      walk_at "go"
      refine g_lenF hf ?_
      refine g_forR2 (by omega) (fun i σ H' => ∃ (z : Str) (o2 : Option V), σ = [some v, some (.str z), o2] ∧ Ext H H' ∧ tl z = tl s ++ (40 :: Fm.mid (ps.take i))) ⟨_, none, rfl, Chg.refl _, by rw [tl_app, e1]; simp [Fm.mid]⟩ ?_ ?_
      · rintro i σ H' hi ⟨z, o2, rfl, c, ez⟩
        have hi : i < ps.length := by omega
        obtain ⟨f, hf1⟩ : ∃ f, ps[i]? = some f := ⟨ps[i], List.getElem?_eq_getElem hi⟩
        have hzl : z.length ≤ 9 + 12 * Fm.sizes ps := by
          have h1 := Fm.mid_len (ps.take i) (Fm.oks_take hok.2 i)
          have h2 := Fm.sizes_take ps i
          rw [tl_len] at hsl
          rw [tl_len, ez, List.length_append, List.length_cons]
          omega
        have fin : ∀ (y : Str), y.length ≤ 11 + 12 * Fm.sizes ps → (tl y ++ f.wl = tl s ++ (40 :: Fm.mid (ps.take (i + 1)))) → tAsg (tOp rAddS_ (tVar 1) (tCall (sp_written K n) [] E0 (tCons (tOp (rIxT K) (tVar 0) (tVar 2)) tNil))) (gName 1)
            ⟨fun σ H' => ∃ (z : Str) (o2 : Option V), σ = [some v, some (.str z), o2] ∧ Ext H H' ∧ tl z = tl s ++ (40 :: Fm.mid (ps.take (i + 1))), fun _ _ => False, fun _ _ => False, fun _ _ => False⟩ [some v, some (.str y), some (.int (1 + (i : Int)))] H' := by
          intro y hy ey
          walk_at "go"
          have ei : (1 + (i : Int)) = ((i + 1 : Nat) : Int) := by omega
          rw [ei]
          refine g_part_at (hf.up c) hf1 fun x hx => ?_
          walk_at "go"
          have hfs := Fm.size_mem (List.mem_of_getElem? hf1)
          have fok := Fm.ok_mem hok.2 (List.mem_of_getElem? hf1)
          refine ⟨x, f, rfl, hx, fok, by omega, by have := Fm.depth_mem (List.mem_of_getElem? hf1); omega, fun w H3 c3 ew => ?_⟩
          have hwl : w.length ≤ 12 * f.size := by rw [tl_len, ew]; have := Fm.wl_len f fok; omega
          refine g_addS (big (by omega)) ?_
          walk_at "go"
          exact ⟨_, _, rfl, c.trans c3, by rw [tl_app, ew, ey]⟩
        have et : ps.take (i + 1) = ps.take i ++ [f] := by rw [List.take_add_one, hf1]; rfl
        walk_at "go"
        refine g_2 (fun b => ?_) (fun b => ?_)
        · have b : (1 : Int) < 1 + (i : Int) := of_decide_eq_true b
          walk_at "go"
          refine g_addS (big (by omega)) ?_
          refine fin (z ++ ", ") (by rw [app_len]; omega) ?_
          rw [tl_app, ez, e3, et, Fm.mid_snoc, if_neg (by intro q; have := congrArg List.length q; rw [List.length_take, List.length_nil] at this; omega)]
          simp
        · have b : ¬ (1 : Int) < 1 + (i : Int) := of_decide_eq_false b
          walk_at "g1"
          refine fin z (by omega) ?_
          have hi0 : i = 0 := by omega
          subst hi0
          rw [ez, et, Fm.mid_snoc, if_pos (by simp)]
          simp [Fm.mid]
      · rintro σ H' ⟨z, o2, rfl, c, ez⟩
        have ez : tl z = tl s ++ (40 :: Fm.mid (ps.take (((ps.length + 1 : Nat) : Int) - 1).toNat)) := ez
        have et : (((ps.length + 1 : Nat) : Int) - 1).toNat = ps.length := by omega
        rw [et, List.take_length] at ez
        walk_at "go"
        have h1 := Fm.mid_len ps hok.2
        refine g_addS (big (by
          rw [tl_len] at hsl
          rw [tl_len z, ez, List.length_append, List.length_cons]
          omega)) ?_
        refine k _ H' c ?_
        rw [tl_app, ez, e2]
        simp only [Fm.wl]
        rw [Fm.wa_mid hne]
        simp

/-! ### the holes of a form -/
mutual
def Fm.flat : Fm → List Int
  | .hole n => [n]
  | .node _ ps => Fm.flats ps
def Fm.flats : List Fm → List Int
  | [] => []
  | p :: ps => p.flat ++ Fm.flats ps
end
/-- what is new of l, behind acc -/
def ded (acc l : List Int) : List Int := l.foldl (fun a x => if x ∈ a then a else a ++ [x]) acc
/-- the holes, each once -/
def Fm.hs (f : Fm) : List Int := ded [] f.flat
theorem Fm.flats_app : ∀ (ps qs : List Fm), Fm.flats (ps ++ qs) = Fm.flats ps ++ Fm.flats qs
  | [], qs => by simp [Fm.flats]
  | p :: ps, qs => by simp only [List.cons_append, Fm.flats, Fm.flats_app ps qs, List.append_assoc]
theorem ded_app (acc l m : List Int) : ded acc (l ++ m) = ded (ded acc l) m := by simp only [ded, List.foldl_append]
theorem ded_cons (acc : List Int) (x : Int) (l : List Int) : ded acc (x :: l) = ded (if x ∈ acc then acc else acc ++ [x]) l := rfl
/-- ded in one stroke -/
theorem ded_split : ∀ (l acc b : List Int), ded (acc ++ b) l = acc ++ (ded b (l.filter fun x => !decide (x ∈ acc)))
  | [], acc, b => rfl
  | x :: l, acc, b => by
    rw [ded_cons]
    by_cases h : x ∈ acc
    · rw [if_pos (List.mem_append_left _ h), ded_split l acc b, List.filter_cons, if_neg (by simp [h])]
    · rw [List.filter_cons, if_pos (show (!decide (x ∈ acc)) = true by simp [h])]
      by_cases h2 : x ∈ b
      · rw [if_pos (List.mem_append_right _ h2), ded_cons, if_pos h2, ded_split l acc b]
      · rw [if_neg (by simp [h, h2]), ded_cons, if_neg h2, List.append_assoc, ded_split l acc (b ++ [x])]
theorem ded_filter (p : Int → Bool) : ∀ (l b : List Int), ded (b.filter p) (l.filter p) = (ded b l).filter p
  | [], b => rfl
  | x :: l, b => by
    rw [ded_cons]
    cases hp : p x with
    | true =>
      rw [List.filter_cons, if_pos hp, ded_cons]
      have e : (if x ∈ b.filter p then b.filter p else b.filter p ++ [x]) = (if x ∈ b then b else b ++ [x]).filter p := by
        by_cases h : x ∈ b
        · rw [if_pos h, if_pos (List.mem_filter.mpr ⟨h, hp⟩)]
        · rw [if_neg h, if_neg (fun z => h (List.mem_filter.mp z).1), List.filter_append]
          simp [hp]
      rw [e]
      exact ded_filter p l _
    | false =>
      rw [List.filter_cons, if_neg (by simp [hp])]
      have e : (if x ∈ b then b else b ++ [x]).filter p = b.filter p := by
        by_cases h : x ∈ b
        · rw [if_pos h]
        · rw [if_neg h, List.filter_append]; simp [hp]
      rw [← ded_filter p l, e]
/-- one part more: the new ones of its holes -/
theorem ded_hs (acc : List Int) (f : Fm) : acc ++ f.hs.filter (fun x => !decide (x ∈ acc)) = ded acc f.flat := by
  have h1 := ded_split f.flat acc []
  rw [List.append_nil] at h1
  rw [h1]
  unfold Fm.hs
  rw [← ded_filter]
  rfl
theorem ded_len : ∀ (l acc : List Int), (ded acc l).length ≤ acc.length + l.length
  | [], acc => Nat.le_refl _
  | x :: l, acc => by
    rw [ded_cons]
    have := ded_len l (if x ∈ acc then acc else acc ++ [x])
    rw [List.length_cons]
    by_cases h : x ∈ acc
    · rw [if_pos h] at this ⊢; omega
    · rw [if_neg h] at this ⊢; simp at this; omega
theorem ded_mem : ∀ (l acc : List Int) (x : Int), x ∈ ded acc l ↔ x ∈ acc ∨ x ∈ l
  | [], acc, x => by simp [ded]
  | y :: l, acc, x => by
    rw [ded_cons, ded_mem l]
    by_cases h : y ∈ acc
    · rw [if_pos h]
      constructor
      · rintro (z | z)
        · exact .inl z
        · exact .inr (List.mem_cons_of_mem _ z)
      · rintro (z | z)
        · exact .inl z
        · rcases List.mem_cons.mp z with rfl | z
          · exact .inl h
          · exact .inr z
    · rw [if_neg h]
      simp only [List.mem_append, List.mem_cons, List.not_mem_nil, or_false]
      constructor
      · rintro ((z | z) | z)
        · exact .inl z
        · exact .inr (.inl z)
        · exact .inr (.inr z)
      · rintro (z | z | z)
        · exact .inl (.inl z)
        · exact .inl (.inr z)
        · exact .inr z
mutual
theorem Fm.flat_len : ∀ f : Fm, f.flat.length ≤ f.size
  | .hole _ => by simp [Fm.flat, Fm.size]
  | .node _ ps => by
    have := Fm.flats_len ps
    simp only [Fm.flat, Fm.size]; omega
theorem Fm.flats_len : ∀ ps : List Fm, (Fm.flats ps).length ≤ Fm.sizes ps
  | [] => by simp [Fm.flats]
  | p :: ps => by
    have := Fm.flat_len p
    have := Fm.flats_len ps
    simp only [Fm.flats, Fm.sizes, List.length_append]; omega
end
theorem Fm.hs_len (f : Fm) : f.hs.length ≤ f.size := by
  have h1 := ded_len f.flat []
  have h2 := f.flat_len
  unfold Fm.hs
  simp at h1
  omega
theorem inV_int {n : Int} : ∀ {l : List Int}, inV (.int n) (l.map V.int) = decide (n ∈ l)
  | [] => by simp [inV]
  | a :: l => by
    have ih := inV_int (n := n) (l := l)
    unfold inV at ih ⊢
    rw [List.map_cons, List.any_cons, ih]
    show ((a == n) || decide (n ∈ l)) = decide (n ∈ a :: l)
    by_cases e : a = n
    · subst e; simp
    · have e2 : (a == n) = false := beq_eq_false_iff_ne.mpr e
      rw [e2]
      simp [show ¬ n = a from fun z => e z.symm]
theorem flat_ints : ∀ {l : List Int}, (l.map V.int).all flatV = true
  | [] => rfl
  | a :: l => by rw [List.map_cons, List.all_cons, flat_ints]; rfl
section
variable {K : PySem.W.Frag} {H : Hp} {Q : VK} {v : V}
theorem g_notInI {p : Addr} {l : List Int} {n : Int} (h : H p = some (.lst (l.map V.int))) (k : Q (.bl (!decide (n ∈ l))) H) : rIn K true (.int n) (.ref p) H Q := by
  refine ⟨p, l.map V.int, rfl, .inl (.inl (.inl h)), rfl, flat_ints, ?_⟩
  rw [if_pos rfl, inV_int]
  exact k
theorem g_inI {p : Addr} {l : List Int} {n : Int} (h : H p = some (.lst (l.map V.int))) (k : Q (.bl (decide (n ∈ l))) H) : rIn K false (.int n) (.ref p) H Q := by
  refine ⟨p, l.map V.int, rfl, .inl (.inl (.inl h)), rfl, flat_ints, ?_⟩
  rw [if_neg (by decide), inV_int]
  exact k
theorem g_aug {σ : L2.St} {D : Ends} {i : Nat} {te : TE} {ti : TIp} {x : V} (e : σ[i]? = some (some x)) (h : te σ H fun y H1 => ti x y H1 fun z H2 => D.nx (σ.set i (some z)) H2) : tAug i te ti D σ H := ⟨x, e, h⟩
theorem ints_get {l : List Int} {i : Nat} {x : V} (h : (l.map V.int)[i]? = some x) : ∃ n, l[i]? = some n ∧ x = .int n := by
  rw [List.getElem?_map] at h
  cases e : l[i]? with
  | none => rw [e] at h; cases h
  | some n => rw [e] at h; exact ⟨n, rfl, (Option.some.inj h).symm⟩
end

/-! ### filled forms -/
mutual
def Fm.fill (m : Int → Option Fm) : Fm → Fm
  | .hole n => (m n).getD (.hole n)
  | .node s ps => .node s (Fm.fills m ps)
def Fm.fills (m : Int → Option Fm) : List Fm → List Fm
  | [] => []
  | p :: ps => p.fill m :: Fm.fills m ps
end
theorem Fm.fills_app (m : Int → Option Fm) : ∀ (ps qs : List Fm), Fm.fills m (ps ++ qs) = Fm.fills m ps ++ Fm.fills m qs
  | [], qs => by simp [Fm.fills]
  | p :: ps, qs => by simp only [List.cons_append, Fm.fills, Fm.fills_app m ps qs]
theorem Fm.fills_len (m : Int → Option Fm) : ∀ ps : List Fm, (Fm.fills m ps).length = ps.length
  | [] => rfl
  | p :: ps => by simp only [Fm.fills, List.length_cons, Fm.fills_len m ps]
mutual
theorem Fm.fill_size {m : Int → Option Fm} {B : Nat} (hB : 1 ≤ B) (h : ∀ n g, m n = some g → g.size ≤ B) : ∀ f : Fm, (f.fill m).size ≤ f.size * B
  | .hole n => by
    simp only [Fm.fill, Fm.size, Nat.one_mul]
    cases e : m n with
    | none => simpa [Fm.size] using hB
    | some g => exact h n g e
  | .node s ps => by
    have := Fm.fills_size hB h ps
    simp only [Fm.fill, Fm.size, Nat.add_mul, Nat.one_mul]
    omega
theorem Fm.fills_size {m : Int → Option Fm} {B : Nat} (hB : 1 ≤ B) (h : ∀ n g, m n = some g → g.size ≤ B) : ∀ ps : List Fm, Fm.sizes (Fm.fills m ps) ≤ Fm.sizes ps * B
  | [] => by simp [Fm.fills, Fm.sizes]
  | p :: ps => by
    have h1 := Fm.fill_size hB h p
    have h2 := Fm.fills_size hB h ps
    simp only [Fm.fills, Fm.sizes, Nat.add_mul]
    omega
end
mutual
theorem Fm.fill_depth {m : Int → Option Fm} {B : Nat} (hB : 1 ≤ B) (h : ∀ n g, m n = some g → g.depth ≤ B) : ∀ f : Fm, (f.fill m).depth ≤ f.depth + B
  | .hole n => by
    simp only [Fm.fill, Fm.depth]
    cases e : m n with
    | none => simp [Fm.depth]
    | some g => have := h n g e; simp only [Option.getD_some]; omega
  | .node s ps => by
    have := Fm.fills_depth hB h ps
    simp only [Fm.fill, Fm.depth]
    omega
theorem Fm.fills_depth {m : Int → Option Fm} {B : Nat} (hB : 1 ≤ B) (h : ∀ n g, m n = some g → g.depth ≤ B) : ∀ ps : List Fm, Fm.depths (Fm.fills m ps) ≤ Fm.depths ps + B
  | [] => by simp [Fm.fills, Fm.depths]
  | p :: ps => by
    have h1 := Fm.fill_depth hB h p
    have h2 := Fm.fills_depth hB h ps
    simp only [Fm.fills, Fm.depths]
    omega
end
mutual
theorem Fm.fill_none : ∀ f : Fm, f.fill (fun _ => none) = f
  | .hole n => rfl
  | .node s ps => by simp only [Fm.fill, Fm.fills_none ps]
theorem Fm.fills_none : ∀ ps : List Fm, Fm.fills (fun _ => none) ps = ps
  | [] => rfl
  | p :: ps => by simp only [Fm.fills, Fm.fill_none p, Fm.fills_none ps]
end
mutual
theorem Fm.fill_eq {m m' : Int → Option Fm} (h : ∀ n, m n = m' n) : ∀ f : Fm, f.fill m = f.fill m'
  | .hole n => by simp only [Fm.fill, h]
  | .node s ps => by simp only [Fm.fill, Fm.fills_eq h ps]
theorem Fm.fills_eq {m m' : Int → Option Fm} (h : ∀ n, m n = m' n) : ∀ ps : List Fm, Fm.fills m ps = Fm.fills m' ps
  | [] => rfl
  | p :: ps => by simp only [Fm.fills, Fm.fill_eq h p, Fm.fills_eq h ps]
end
theorem Fm.sizes_mem : ∀ {ps : List Fm} {p : Fm}, p ∈ ps → p.size ≤ Fm.sizes ps
  | q :: ps, p, h => by
    simp only [Fm.sizes]
    rcases List.mem_cons.mp h with rfl | h
    · omega
    · have := Fm.sizes_mem h; omega
/-- a dict from holes to forms -/
def Dic (H : Hp) (a : Addr) (m : Int → Option Fm) : Prop := ∃ kvs : List (Key × V), H a = some (.dK kvs) ∧ ∀ n : Int, (valV kvs (.inl n) = none ∧ m n = none) ∨ ∃ v f, valV kvs (.inl n) = some v ∧ m n = some f ∧ IsF H f v
theorem Dic.keep {H H' : Hp} {a : Addr} {m : Int → Option Fm} (h : Dic H a m) (c : Ext H H') : Dic H' a m := by
  obtain ⟨kvs, h1, h2⟩ := h
  refine ⟨kvs, c.at h1, fun n => ?_⟩
  rcases h2 n with h | ⟨v, f, e1, e2, hf⟩
  · exact .inl h
  · exact .inr ⟨v, f, e1, e2, hf.up c⟩
section
variable {K : PySem.W.Frag} {H : Hp} {Q : VK} {v : V}
theorem kit_tup_tup : PySem.W.kitOne K (.type "tuple") (.type "tuple") = some true := kit_ty (by decide +kernel)
theorem kit_str_str4 : PySem.W.kitOne K (.type "str") (.type "str") = some true := kit_ty (by decide +kernel)
theorem g_isiT {a : Addr} {xs : List V} (h : H a = some (.tup xs)) (k : Q (.bl true) H) : rIsi K [.ref a, .ty "tuple"] H Q := ⟨_, _, _, _, true, rfl, .ty "tuple", .base (.tup h), kit_tup_tup, k⟩
theorem g_isiSS {s : Str} (k : Q (.bl true) H) : rIsi K [.str s, .ty "str"] H Q := ⟨_, _, _, _, true, rfl, .ty "str", .base (.str s), kit_str_str4, k⟩
end

/-! ### _law_same -/
def t_same (K : PySem.W.Frag) (r : Sp) : TS := (tSeq (tIfS (tB (tCB (rIsi K) (tCons (tVar 1) (tCons (tC (.ty "int")) tNil)))) (tRet (tAndV (tCB (rIsi K) (tCons (tVar 0) (tCons (tC (.ty "int")) tNil))) (tAndV (tNotV (tCB (rIsi K) (tCons (tVar 0) (tCons (tC (.ty "bool")) tNil)))) (tOp rEq (tVar 0) (tVar 1)))))
  tNext)
  (tSeq (tIfS (tOr (tNot (tB (tCB (rIsi K) (tCons (tVar 0) (tCons (tC (.ty "tuple")) tNil))))) (tTest (tOp rNe (tCB (rLenSeq K) (tCons (tVar 0) tNil)) (tCB (rLenSeq K) (tCons (tVar 1) tNil))))) (tRet (tC (.bl false)))
  tNext)
  (tSeq (tIfS (tOr (tNot (tB (tCB (rIsi K) (tCons (tOp (rIxT K) (tVar 0) (tC (.int 0))) (tCons (tC (.ty "str")) tNil))))) (tTest (tOp rNe (tOp (rIxT K) (tVar 0) (tC (.int 0))) (tOp (rIxT K) (tVar 1) (tC (.int 0)))))) (tRet (tC (.bl false)))
  tNext)
  (tSeq (tFor (iRng2 (tCons (tC (.int 1)) (tCons (tCB (rLenSeq K) (tCons (tVar 1) tNil)) tNil))) (gName 2)
  (tIfS (tNot (tB (tCall r [] E0 (tCons (tOp (rIxT K) (tVar 0) (tVar 2)) (tCons (tOp (rIxT K) (tVar 1) (tVar 2)) tNil))))) (tRet (tC (.bl false)))
  tNext))
  (tRet (tC (.bl true)))))))
abbrev N_same : List Str := ["_law_answer", "_law_due", "_law_k"]
def sp_same (K : PySem.W.Frag) (n : Nat) : Sp := fun vs H Q _ => ∃ (v w : V) (f : Fm), vs = [v, w] ∧ IsF H f v ∧ IsF H f w ∧ f.size ≤ 100000 ∧ f.depth ≤ n ∧ Q (.bl true) H
theorem len_same {K : PySem.W.Frag} {n : Nat} {vs : List V} {H : Hp} {Q : VK} {E : XK} (h : sp_same K n vs H Q E) : vs.length = 2 := by obtain ⟨_, _, _, rfl, _⟩ := h; rfl
theorem no_same {K : PySem.W.Frag} (vs : List V) (H : Hp) (Q : VK) (E : XK) : ¬ sp_same K 0 vs H Q E := by
  rintro ⟨_, _, f, _, _, _, _, h, _⟩
  have := f.depth_pos
  omega
theorem rd_same {K : PySem.W.Frag} {n : Nat} {vs : List V} {H : Hp} {Q : VK} {E : XK} (h : sp_same K (n + 1) vs H Q E) : t_same K (sp_same K n) { nx := fun _ H' => Q .non H', rt := Q } (start N_same vs) H := by
  obtain ⟨v, w, f, rfl, hf, hg, hz, hn, k⟩ := h
  unfold t_same
  walk_at "go"
  refine g_isiF hg ?_
  walk_at "go"
  cases f with
  | hole i =>
    show (if true = true then _ else _)
    obtain rfl := IsF.hole.mp hf
    obtain rfl := IsF.hole.mp hg
    walk_at "go"
    refine g_isiI ?_
    refine ⟨true, rfl, ?_⟩
    walk_at "go"
    refine g_isiIb ?_
    refine ⟨false, rfl, ?_⟩
    refine ⟨true, rfl, ?_⟩
    walk_at "go"
    rw [decide_eq_true rfl]
    exact k
  | node s ps =>
    show (if false = true then _ else _)
    simp only [Fm.size] at hz
    simp only [Fm.depth] at hn
    obtain ⟨a, xs, rfl, ha, hxs⟩ := IsF.node.mp hf
    obtain ⟨b, ys, rfl, hb, hys⟩ := IsF.node.mp hg
    have lx := hxs.length
    have ly := hys.length
    have hls := Fm.len_sizes ps
    walk_at "go"
    refine g_isiT ha ?_
    walk_at "go"
    rw [decide_eq_true (show (((V.str s :: xs).length : Nat) : Int) = ((V.str s :: ys).length : Nat) by simp [lx, ly])]
    walk_at "go"
    refine g_ixT ha (atI_nat (j := 0) rfl) ?_
    walk_at "go"
    refine g_isiSS ?_
    walk_at "go"
    refine g_ixT ha (atI_nat (j := 0) rfl) ?_
    walk_at "go"
    refine g_ixT hb (atI_nat (j := 0) rfl) ?_
    walk_at "go"
    rw [decide_eq_true rfl]
    walk_at "go"
    have l2 : (((V.str s :: ys).length : Nat) : Int) = (ps.length : Int) + 1 := by simp [ly]
    refine g_forR2 (by omega) (fun i σ H' => ∃ o : Option V, σ = [some (.ref a), some (.ref b), o] ∧ H' = H) ⟨none, rfl, rfl⟩ ?_ ?_
    · rintro i σ H' hi ⟨o, rfl, rfl⟩
      have hlt : i < ps.length := by omega
      obtain ⟨g, hg1⟩ : ∃ g, ps[i]? = some g := ⟨ps[i], List.getElem?_eq_getElem hlt⟩
      obtain ⟨x, hx1, hx2⟩ := hxs.get' hg1
      obtain ⟨y, hy1, hy2⟩ := hys.get' hg1
      have hmem := List.mem_of_getElem? hg1
      have hd1 := Fm.depth_mem hmem
      have hs1 := Fm.sizes_mem hmem
      have e1 : (1 : Int) + (i : Int) = ((i + 1 : Nat) : Int) := by omega
      rw [e1]
      walk_at "go"
      refine g_ixT ha (atI_nat (by rw [List.getElem?_cons_succ]; exact hx1)) ?_
      walk_at "go"
      refine g_ixT hb (atI_nat (by rw [List.getElem?_cons_succ]; exact hy1)) ?_
      walk_at "go"
      refine ⟨x, y, g, rfl, hx2, hy2, by omega, by omega, ?_⟩
      walk_at "go"
      exact ⟨_, rfl, rfl⟩
    · rintro σ H' ⟨o, rfl, rfl⟩
      walk_at "go"
      exact k

/-! ### reading, plainly -/
def isDg (c : Nat) : Bool := decide (c ∈ tl ("0123456789" : Str))
def isLt (c : Nat) : Bool := decide (c ∈ tl ("abcdefghijklmnopqrstuvwxyz" : Str))
theorem digits_tl : tl ("0123456789" : Str) = [48, 49, 50, 51, 52, 53, 54, 55, 56, 57] := by decide +kernel
theorem isDg_iff {c : Nat} : isDg c = true ↔ 48 ≤ c ∧ c ≤ 57 := by
  unfold isDg
  rw [digits_tl, decide_eq_true_iff]
  simp
  omega
theorem isLt_iff {c : Nat} : isLt c = true ↔ 97 ≤ c ∧ c ≤ 122 := by
  unfold isLt
  rw [letters_tl, decide_eq_true_iff]
  simp
  constructor
  · rintro ⟨a, h, rfl⟩; omega
  · intro h; exact ⟨c - 97, by omega, by omega⟩
def endOf (p : Nat → Bool) (L : List Nat) (e : Nat) : Nat := e + ((L.drop e).takeWhile p).length
theorem endOf_ge (p : Nat → Bool) (L : List Nat) (e : Nat) : e ≤ endOf p L e := Nat.le_add_right _ _
theorem tw_len (p : Nat → Bool) : ∀ l : List Nat, (l.takeWhile p).length ≤ l.length
  | [] => Nat.le_refl _
  | x :: l => by
    rw [List.takeWhile_cons]
    cases p x
    · simp
    · simp; exact tw_len p l
theorem endOf_le {p : Nat → Bool} {L : List Nat} {e : Nat} (h : e ≤ L.length) : endOf p L e ≤ L.length := by
  have := tw_len p (L.drop e)
  rw [List.length_drop] at this
  unfold endOf
  omega
theorem tw_take (p : Nat → Bool) : ∀ l : List Nat, l.take (l.takeWhile p).length = l.takeWhile p
  | [] => rfl
  | x :: l => by
    rw [List.takeWhile_cons]
    cases p x
    · simp
    · simp; exact tw_take p l
def cutL (L : List Nat) (s e : Nat) : List Nat := (L.drop s).take (e - s)
theorem cutL_end (p : Nat → Bool) (L : List Nat) (s : Nat) : cutL L s (endOf p L s) = (L.drop s).takeWhile p := by
  unfold cutL endOf
  rw [show s + ((L.drop s).takeWhile p).length - s = ((L.drop s).takeWhile p).length by omega, tw_take]
def numOf (l : List Nat) : Int := l.foldl (fun (a : Int) (c : Nat) => 10 * a + ((c : Int) - 48)) 0
def loopP (P : Nat → Option (Fm × Nat)) (L : List Nat) : Nat → List Nat → Nat → Option (List Fm × Nat)
  | 0, _, e => some ([], e)
  | m + 1, mark, e => if (L.drop e).take mark.length = mark then (match P (e + mark.length) with
      | none => none
      | some q => (loopP P L m [44, 32] q.2).map fun r => (q.1 :: r.1, r.2))
    else some ([], e)
/-- what follows the parts -/
def closeP (w : Str) (L : List Nat) : Option (List Fm × Nat) → Option (Fm × Nat)
  | none => none
  | some ([], e) => some (.node w [], e)
  | some (p :: ps, e) => if L[e]? = some 41 then some (.node w (p :: ps), e + 1) else none
def parse (L : List Nat) : Nat → Nat → Option (Fm × Nat)
  | 0, _ => none
  | n + 1, s => if s < endOf isDg L s ∧ endOf isDg L s ≤ s + 2 then some (.hole (numOf (cutL L s (endOf isDg L s))), endOf isDg L s)
    else if 1 ≤ endOf isLt L s - s ∧ endOf isLt L s - s ≤ 8 then closeP ⟨(cutL L s (endOf isLt L s)).toArray⟩ L (loopP (parse L n) L (L.length + 1) [40] (endOf isLt L s))
    else none
/-! what is read is a form -/
structure POk (L : List Nat) (n s : Nat) (f : Fm) (e : Nat) : Prop where
  ok : f.ok
  ge : s < e
  le : e ≤ L.length
  sz : f.size ≤ e - s
  dp : f.depth ≤ n
theorem numOf_rng {l : List Nat} (h : ∀ c ∈ l, isDg c = true) (h1 : 1 ≤ l.length) (h2 : l.length ≤ 2) : 0 ≤ numOf l ∧ numOf l ≤ 99 := by
  match l, h1, h2 with
  | [a], _, _ =>
    have := isDg_iff.mp (h a (by simp))
    simp [numOf]; omega
  | [a, b], _, _ =>
    have := isDg_iff.mp (h a (by simp))
    have := isDg_iff.mp (h b (by simp))
    simp [numOf]; omega
theorem tw_all (p : Nat → Bool) : ∀ (l : List Nat) (c : Nat), c ∈ l.takeWhile p → p c = true
  | x :: l, c, h => by
    rw [List.takeWhile_cons] at h
    cases e : p x with
    | false => rw [e] at h; simp at h
    | true =>
      rw [e] at h
      simp at h
      rcases h with rfl | h
      · exact e
      · exact tw_all p l c h
theorem take_mark {L : List Nat} {e : Nat} {mark : List Nat} (h : (L.drop e).take mark.length = mark) (h1 : 1 ≤ mark.length) : e + mark.length ≤ L.length := by
  have := congrArg List.length h
  rw [List.length_take, List.length_drop] at this
  omega
theorem loopP_ok {P : Nat → Option (Fm × Nat)} {L : List Nat} {n : Nat} (hP : ∀ s f e, s ≤ L.length → P s = some (f, e) → POk L n s f e) : ∀ (m : Nat) (mark : List Nat) (e : Nat) (ps : List Fm) (e' : Nat), 1 ≤ mark.length → e ≤ L.length → loopP P L m mark e = some (ps, e') → Fm.oks ps ∧ e ≤ e' ∧ e' ≤ L.length ∧ Fm.sizes ps ≤ e' - e ∧ Fm.depths ps ≤ n
  | 0, mark, e, ps, e', _, he, h => by
    simp only [loopP] at h
    cases h
    simp [Fm.oks, Fm.sizes, Fm.depths, he]
  | m + 1, mark, e, ps, e', hm, he, h => by
    simp only [loopP] at h
    by_cases q : (L.drop e).take mark.length = mark
    · rw [if_pos q] at h
      cases q2 : P (e + mark.length) with
      | none => rw [q2] at h; cases h
      | some r =>
        obtain ⟨f, e1⟩ := r
        rw [q2] at h
        have h1 := hP _ f e1 (take_mark q hm) q2
        cases q3 : loopP P L m [44, 32] e1 with
        | none => simp [q3] at h
        | some t =>
          obtain ⟨qs, e2⟩ := t
          simp [q3] at h
          obtain ⟨rfl, rfl⟩ := h
          have h2 := loopP_ok hP m [44, 32] e1 qs e2 (by decide) h1.le q3
          have := h1.ge
          have := h1.sz
          have := h1.dp
          simp only [Fm.oks, Fm.sizes, Fm.depths]
          exact ⟨⟨h1.ok, h2.1⟩, by omega, by omega, by omega, by omega⟩
    · rw [if_neg q] at h
      cases h
      simp [Fm.oks, Fm.sizes, Fm.depths, he]
theorem word_good {L : List Nat} {s : Nat} (h1 : 1 ≤ endOf isLt L s - s) (h2 : endOf isLt L s - s ≤ 8) : Good ⟨(cutL L s (endOf isLt L s)).toArray⟩ := by
  have e : tl ⟨(cutL L s (endOf isLt L s)).toArray⟩ = (L.drop s).takeWhile isLt := by show (cutL L s (endOf isLt L s)).toArray.toList = _; rw [← cutL_end]
  have hl : ((L.drop s).takeWhile isLt).length = endOf isLt L s - s := by unfold endOf; omega
  refine ⟨?_, ?_, fun c hc => ?_⟩
  · rw [tl_len, e, hl]; exact h1
  · rw [tl_len, e, hl]; exact h2
  · rw [e] at hc
    exact isLt_iff.mp (tw_all _ _ _ hc)
theorem parse_ok {L : List Nat} : ∀ (n s : Nat) (f : Fm) (e : Nat), s ≤ L.length → parse L n s = some (f, e) → POk L n s f e
  | 0, s, f, e, _, h => by simp [parse] at h
  | n + 1, s, f, e, hs, h => by
    simp only [parse] at h
    by_cases q : s < endOf isDg L s ∧ endOf isDg L s ≤ s + 2
    · rw [if_pos q] at h
      cases h
      have hl : (cutL L s (endOf isDg L s)).length = endOf isDg L s - s := by rw [cutL_end]; unfold endOf; omega
      have := numOf_rng (l := cutL L s (endOf isDg L s)) (fun c hc => by rw [cutL_end] at hc; exact tw_all _ _ _ hc) (by omega) (by omega)
      exact ⟨by simp only [Fm.ok]; omega, q.1, endOf_le hs, by simp only [Fm.size]; omega, by simp only [Fm.depth]; omega⟩
    · rw [if_neg q] at h
      by_cases q2 : 1 ≤ endOf isLt L s - s ∧ endOf isLt L s - s ≤ 8
      · rw [if_pos q2] at h
        have hg := word_good q2.1 q2.2
        cases q3 : loopP (parse L n) L (L.length + 1) [40] (endOf isLt L s) with
        | none => rw [q3] at h; simp [closeP] at h
        | some t =>
          obtain ⟨ps, e1⟩ := t
          have h2 := loopP_ok (fun s f e hs h => parse_ok n s f e hs h) (L.length + 1) [40] _ ps e1 (by decide) (endOf_le hs) q3
          rw [q3] at h
          cases ps with
          | nil =>
            simp only [closeP] at h
            cases h
            exact ⟨by simp only [Fm.ok, Fm.oks]; exact ⟨hg, trivial⟩, by omega, h2.2.2.1, by simp only [Fm.size, Fm.sizes]; omega, by simp only [Fm.depth, Fm.depths]; omega⟩
          | cons p ps =>
            simp only [closeP] at h
            by_cases q4 : L[e1]? = some 41
            · rw [if_pos q4] at h
              cases h
              have := (List.getElem?_eq_some_iff.mp q4).1
              exact ⟨by simp only [Fm.ok]; exact ⟨hg, h2.1⟩, by omega, by omega, by simp only [Fm.size]; omega, by simp only [Fm.depth]; omega⟩
            · rw [if_neg q4] at h; cases h
      · rw [if_neg q2] at h; cases h
/-! a written form is read -/
def Fin (r : List Nat) : Prop := ∀ c, r.head? = some c → c = 41 ∨ c = 44
theorem tw_app {p : Nat → Bool} : ∀ (l r : List Nat), (∀ c ∈ l, p c = true) → (∀ c, r.head? = some c → p c = false) → (l ++ r).takeWhile p = l
  | [], r, _, h => by
    cases r with
    | nil => rfl
    | cons c r => simp [List.takeWhile_cons, h c rfl]
  | x :: l, r, h, h2 => by
    simp only [List.cons_append, List.takeWhile_cons, h x (by simp), if_true]
    rw [tw_app l r (fun c hc => h c (List.mem_cons_of_mem _ hc)) h2]
theorem endOf_app {p : Nat → Bool} {L : List Nat} {s : Nat} {l r : List Nat} (e : L.drop s = l ++ r) (h : ∀ c ∈ l, p c = true) (h2 : ∀ c, r.head? = some c → p c = false) : endOf p L s = s + l.length := by
  unfold endOf
  rw [e, tw_app l r h h2]
theorem cutL_app {L : List Nat} {s : Nat} {l r : List Nat} (e : L.drop s = l ++ r) : cutL L s (s + l.length) = l := by
  unfold cutL
  rw [e, show s + l.length - s = l.length by omega, List.take_left]
theorem drop_app {L : List Nat} {s : Nat} {l r : List Nat} (e : L.drop s = l ++ r) : L.drop (s + l.length) = r := by
  rw [← List.drop_drop, e, List.drop_left]
theorem numL_dg {n : Nat} (h : n < 100) : (∀ c ∈ TL.numL n, isDg c = true) ∧ numOf (TL.numL n) = n ∧ 1 ≤ (TL.numL n).length := by
  by_cases h1 : n < 10
  · rw [TL.numL_lt h1]
    refine ⟨fun c hc => ?_, ?_, by simp⟩
    · simp at hc; subst hc; exact isDg_iff.mpr (by omega)
    · simp [numOf]; omega
  · rw [TL.numL_step (by omega), TL.numL_lt (by omega)]
    refine ⟨fun c hc => ?_, ?_, by simp⟩
    · simp at hc
      rcases hc with rfl | rfl <;> exact isDg_iff.mpr (by omega)
    · simp [numOf]; omega
theorem fin_not {p : Nat → Bool} (h41 : p 41 = false) (h44 : p 44 = false) {r : List Nat} (h : Fin r) : ∀ c, r.head? = some c → p c = false := fun c hc => by
  rcases h c hc with rfl | rfl
  · exact h41
  · exact h44
theorem dg41 : isDg 41 = false := by decide +kernel
theorem dg44 : isDg 44 = false := by decide +kernel
theorem lt41 : isLt 41 = false := by decide +kernel
theorem lt44 : isLt 44 = false := by decide +kernel
theorem lt40 : isLt 40 = false := by decide +kernel
theorem fin_wt {ps : List Fm} {r : List Nat} : Fin (Fm.wt ps ++ 41 :: r) := fun c hc => by
  cases ps with
  | nil => simp [Fm.wt] at hc; exact .inl hc.symm
  | cons p ps => simp [Fm.wt] at hc; exact .inr hc.symm
theorem loopP_wt {P : Nat → Option (Fm × Nat)} {L : List Nat} : ∀ (ps : List Fm) (m e : Nat) (r : List Nat), (∀ p ∈ ps, ∀ s r, L.drop s = p.wl ++ r → Fin r → P s = some (p, s + p.wl.length)) → ps.length < m →
    L.drop e = Fm.wt ps ++ 41 :: r → loopP P L m [44, 32] e = some (ps, e + (Fm.wt ps).length)
  | [], 0, e, r, _, h, _ => by simp at h
  | [], m + 1, e, r, _, _, h => by
    simp only [loopP]
    rw [h]
    simp [Fm.wt]
  | p :: ps, 0, e, r, _, h, _ => by simp at h
  | p :: ps, m + 1, e, r, hP, hm, h => by
    have h0 : L.drop e = [44, 32] ++ (p.wl ++ (Fm.wt ps ++ 41 :: r)) := by rw [h]; simp [Fm.wt]
    simp only [loopP]
    rw [if_pos (by rw [h0]; simp)]
    have h1 := drop_app h0
    have h2 := hP p (by simp) (e + 2) _ h1 fin_wt
    rw [show e + ([44, 32] : List Nat).length = e + 2 from rfl, h2]
    simp only
    have h3 : L.drop (e + 2 + p.wl.length) = Fm.wt ps ++ 41 :: r := drop_app h1
    rw [loopP_wt ps m _ r (fun q hq => hP q (by simp [hq])) (by simp at hm; omega) h3]
    simp [Fm.wt]
    omega
theorem parse_wl {L : List Nat} : ∀ (n : Nat) (f : Fm) (s : Nat) (r : List Nat), f.ok → f.depth ≤ n → L.drop s = f.wl ++ r → Fin r → parse L n s = some (f, s + f.wl.length)
  | 0, f, s, r, _, h, _, _ => by have := f.depth_pos; omega
  | n + 1, .hole i, s, r, hok, hd, h, hr => by
    simp only [Fm.ok] at hok
    simp only [Fm.wl] at h ⊢
    obtain ⟨d1, d2, d3⟩ := numL_dg (n := i.toNat) (by omega)
    have hl := numL_le i.toNat (by omega)
    have e1 := endOf_app h d1 (fin_not dg41 dg44 hr)
    simp only [parse]
    rw [e1, if_pos ⟨by omega, by omega⟩, cutL_app h, d2, Int.toNat_of_nonneg hok.1]
  | n + 1, .node w ps, s, r, hok, hd, h, hr => by
    simp only [Fm.ok] at hok
    simp only [Fm.depth] at hd
    simp only [Fm.wl, List.append_assoc] at h ⊢
    have hlow := hok.1.low
    have hpos := hok.1.pos
    have hmost := hok.1.most
    rw [tl_len] at hpos hmost
    have hw : ∀ c ∈ tl w, isLt c = true := fun c hc => isLt_iff.mpr (hlow c hc)
    have e1 : endOf isDg L s = s := by
      have := endOf_app (p := isDg) (L := L) (s := s) (l := []) (r := tl w ++ (Fm.wa ps ++ r)) h (fun c hc => nomatch hc) (fun c hc => by
        cases q : tl w with
        | nil => rw [q] at hpos; simp at hpos
        | cons x xs =>
          rw [q] at hc
          simp at hc
          subst hc
          have := hlow x (by rw [q]; simp)
          cases q2 : isDg x with
          | false => rfl
          | true => have := isDg_iff.mp q2; omega)
      simpa using this
    have hnl : ∀ c, (Fm.wa ps ++ r).head? = some c → isLt c = false := fun c hc => by
      cases ps with
      | nil => simp [Fm.wa] at hc; exact fin_not lt41 lt44 hr c hc
      | cons p ps => simp [Fm.wa] at hc; rw [← hc]; exact lt40
    have e2 := endOf_app h hw hnl
    have h2 := drop_app h
    have ew : (⟨(cutL L s (s + (tl w).length)).toArray⟩ : Str) = w := tl_ext (by show (cutL L s (s + (tl w).length)).toArray.toList = _; rw [cutL_app h])
    simp only [parse]
    rw [e1, if_neg (by omega), e2, if_pos ⟨by omega, by omega⟩, ew]
    cases ps with
    | nil =>
      have : loopP (parse L n) L (L.length + 1) [40] (s + (tl w).length) = some ([], s + (tl w).length) := by
        simp only [loopP]
        rw [if_neg]
        rw [h2]
        intro z
        have hh : (Fm.wa [] ++ r).head? = some 40 := by
          cases q : (Fm.wa [] ++ r) with
          | nil => rw [q] at z; simp at z
          | cons x xs => rw [q] at z; simp at z; simp [z]
        have := hr 40 (by simpa [Fm.wa] using hh)
        omega
      rw [this]
      simp [closeP, Fm.wa]
    | cons p ps =>
      simp only [Fm.oks] at hok
      simp only [Fm.depths] at hd
      have h3 : L.drop (s + (tl w).length) = [40] ++ (p.wl ++ (Fm.wt ps ++ 41 :: r)) := by rw [h2]; simp [Fm.wa]
      have h4 := drop_app h3
      have h5 := parse_wl n p _ _ hok.2.1 (by omega) h4 fin_wt
      have h6 := drop_app h4
      have hlen : ps.length < L.length := by
        have := congrArg List.length h3
        rw [List.length_drop] at this
        have l2 : ∀ qs : List Fm, qs.length ≤ (Fm.wt qs).length := by
          intro qs
          induction qs with
          | nil => simp
          | cons q qs ih => simp [Fm.wt]; omega
        have := l2 ps
        simp at *
        omega
      have h7 := loopP_wt (P := parse L n) ps L.length _ r (fun q hq s r h hr => parse_wl n q s r (Fm.ok_mem hok.2.2 hq) (by have := Fm.depth_mem hq; omega) h hr) hlen h6
      have h8 := drop_app h6
      have : loopP (parse L n) L (L.length + 1) [40] (s + (tl w).length) = some (p :: ps, s + (tl w).length + 1 + p.wl.length + (Fm.wt ps).length) := by
        simp only [loopP]
        rw [if_pos (by rw [h3]; simp), show s + (tl w).length + ([40] : List Nat).length = s + (tl w).length + 1 from rfl]
        have h5' : parse L n (s + (tl w).length + 1) = some (p, s + (tl w).length + 1 + p.wl.length) := h5
        rw [h5']
        simp only
        have h7' : loopP (parse L n) L L.length [44, 32] (s + (tl w).length + 1 + p.wl.length) = some (ps, s + (tl w).length + 1 + p.wl.length + (Fm.wt ps).length) := h7
        rw [h7']
        rfl
      rw [this]
      have h9 : L[s + (tl w).length + 1 + p.wl.length + (Fm.wt ps).length]? = some 41 := by
        have h8' : L.drop (s + (tl w).length + 1 + p.wl.length + (Fm.wt ps).length) = 41 :: r := h8
        rw [← List.head?_drop, h8']
        rfl
      simp only [closeP]
      rw [if_pos h9]
      simp [Fm.wa]
      omega

theorem str_get {z : Str} {i : Nat} {c : Nat} (h : (tl z)[i]? = some c) : atI z.cps.toList (i : Int) = some c := atI_nat h
theorem endOf_step {p : Nat → Bool} {L : List Nat} {e c : Nat} (h : L[e]? = some c) (hp : p c = true) : endOf p L (e + 1) = endOf p L e := by
  obtain ⟨h1, h2⟩ := List.getElem?_eq_some_iff.mp h
  unfold endOf
  rw [List.drop_eq_getElem_cons h1, h2, List.takeWhile_cons, hp]
  simp
  omega
theorem endOf_stop {p : Nat → Bool} {L : List Nat} {e c : Nat} (h : L[e]? = some c) (hp : p c = false) : endOf p L e = e := by
  obtain ⟨h1, h2⟩ := List.getElem?_eq_some_iff.mp h
  unfold endOf
  rw [List.drop_eq_getElem_cons h1, h2, List.takeWhile_cons, hp]
  simp
theorem endOf_end {p : Nat → Bool} {L : List Nat} {e : Nat} (h : L.length ≤ e) : endOf p L e = e := by
  unfold endOf
  rw [List.drop_eq_nil_iff.mpr h]
  simp
def t_endof (K : PySem.W.Frag) : TS := (tSeq (tAsg (tVar 1) (gName 3))
  (tSeq (tWhile (tAnd (tTest (tOp rLtI (tVar 3) (tCB rLenStr (tCons (tVar 0) tNil)))) (tTest (tOp rInS_ (tOp rIxS (tVar 0) (tVar 3)) (tVar 2))))
  (tAug 3 (tC (.int 1)) (ipI fun i j => i + j)))
  (tRet (tVar 3))))
abbrev N_endof : List Str := ["text", "start", "chars", "end"]
def sp_endof (K : PySem.W.Frag) : Sp := fun vs H Q _ => ∃ (z ch : Str) (s : Nat), vs = [.str z, .int (s : Int), .str ch] ∧ s ≤ z.length ∧ z.length ≤ 100000 ∧ Q (.int ((endOf (fun c => decide (c ∈ tl ch)) (tl z) s : Nat) : Int)) H
theorem len_endof {K : PySem.W.Frag} {vs : List V} {H : Hp} {Q : VK} {E : XK} (h : sp_endof K vs H Q E) : vs.length = 3 := by obtain ⟨_, _, _, rfl, _⟩ := h; rfl
theorem rd_endof {K : PySem.W.Frag} {vs : List V} {H : Hp} {Q : VK} {E : XK} (h : sp_endof K vs H Q E) : t_endof K { nx := fun _ H' => Q .non H', rt := Q } (start N_endof vs) H := by
  obtain ⟨z, ch, s, rfl, hs, hz, k⟩ := h
  unfold t_endof
  walk_at "go"
  refine g_while (fun m σ H' => ∃ e : Nat, m = z.length - e ∧ e ≤ z.length ∧ σ = [some (.str z), some (.int (s : Int)), some (.str ch), some (.int (e : Int))] ∧ H' = H ∧ endOf (fun c => decide (c ∈ tl ch)) (tl z) e = endOf (fun c => decide (c ∈ tl ch)) (tl z) s) ⟨s, rfl, hs, rfl, rfl, rfl⟩ ?_
  rintro m σ H' ⟨e, rfl, he, rfl, rfl, ee⟩
  walk_at "go"
  refine g_lenS (big (by omega)) ?_
  walk_at "go"
  refine g_2 (fun b => ?_) (fun b => ?_)
  · have b : (e : Int) < (z.length : Int) := of_decide_eq_true b
    have hlt : e < (tl z).length := by rw [← tl_len]; omega
    have hc : (tl z)[e]? = some (tl z)[e] := List.getElem?_eq_getElem hlt
    walk_at "go"
    refine g_ixS (big (by omega)) (str_get hc) ?_
    walk_at "go"
    refine g_inS ?_
    walk_at "go"
    refine g_2 (fun b2 => ?_) (fun b2 => ?_)
    · refine ⟨_, fun _ _ q => q, ?_⟩
      walk_at "go"
      exact ⟨_, by omega, e + 1, rfl, by omega, by simp [List.set], rfl, by rw [endOf_step hc b2]; exact ee⟩
    · walk_at "go"
      rw [← ee, endOf_stop hc b2] at k
      exact k
  · have b : ¬ (e : Int) < (z.length : Int) := of_decide_eq_false b
    walk_at "go"
    rw [← ee, endOf_end (by rw [← tl_len]; omega)] at k
    exact k
/-! ### numbers of one or two digits -/
theorem int_1 : ∀ a < 10, PySem.intText? ⟨#[48 + a]⟩ = some ((a : Nat) : Int) := by decide +kernel
theorem int_2 : ∀ a < 10, ∀ b < 10, PySem.intText? ⟨#[48 + a, 48 + b]⟩ = some ((10 * a + b : Nat) : Int) := by decide +kernel
theorem int_of {x : Str} (h : ∀ c ∈ tl x, isDg c = true) (h1 : 1 ≤ (tl x).length) (h2 : (tl x).length ≤ 2) : PySem.intText? x = some (numOf (tl x)) := by
  match e : tl x, h1, h2 with
  | [a], _, _ =>
    have ha := isDg_iff.mp (h a (by rw [e]; simp))
    have : x = ⟨#[48 + (a - 48)]⟩ := tl_ext (by rw [e]; show [a] = [48 + (a - 48)]; rw [show 48 + (a - 48) = a by omega])
    rw [this, int_1 _ (by omega)]
    simp [numOf]; omega
  | [a, b], _, _ =>
    have ha := isDg_iff.mp (h a (by rw [e]; simp))
    have hb := isDg_iff.mp (h b (by rw [e]; simp))
    have : x = ⟨#[48 + (a - 48), 48 + (b - 48)]⟩ := tl_ext (by rw [e]; show [a, b] = [48 + (a - 48), 48 + (b - 48)]; rw [show 48 + (a - 48) = a by omega, show 48 + (b - 48) = b by omega])
    rw [this, int_2 _ (by omega) _ (by omega)]
    simp [numOf]; omega
theorem sIx_nat {n d i : Nat} : HT.sIx n d (some (i : Int)) = min i n := by
  simp only [HT.sIx]
  rw [if_neg (by omega)]
  simp
theorem cut_any {z : Str} {s e : Nat} : tl (cutS z (some (s : Int)) (some (e : Int))) = ((tl z).drop s).take (e - s) := by
  rw [tl_cut, sIx_nat, sIx_nat]
  have hl := tl_len z
  by_cases hs : s ≤ z.length
  · rw [Nat.min_eq_left hs]
    by_cases he : e ≤ z.length
    · rw [Nat.min_eq_left he]
    · rw [Nat.min_eq_right (by omega), List.take_of_length_le (by rw [List.length_drop]; omega), List.take_of_length_le (by rw [List.length_drop]; omega)]
  · have h : min s z.length = z.length := by omega
    rw [h, List.drop_eq_nil_iff.mpr (by omega), List.drop_eq_nil_iff.mpr (by omega)]
    simp
theorem cut_tl {z : Str} {s e : Nat} : tl (cutS z (some (s : Int)) (some (e : Int))) = cutL (tl z) s e := cut_any
def cnt (L : List Nat) (e : Nat) : Nat := (L.drop e).count 40
theorem cnt_mono (L : List Nat) {s e : Nat} (h : s ≤ e) : cnt L e ≤ cnt L s := by
  unfold cnt
  obtain ⟨k, rfl⟩ : ∃ k, e = s + k := ⟨e - s, by omega⟩
  rw [← List.drop_drop]
  exact (List.drop_sublist k _).count_le 40
theorem cnt_hit {L : List Nat} {e : Nat} (h : (L.drop e).take 1 = [40]) : cnt L (e + 1) + 1 = cnt L e := by
  unfold cnt
  cases q : L.drop e with
  | nil => rw [q] at h; simp at h
  | cons x xs =>
    rw [q] at h
    simp at h
    subst h
    rw [← List.drop_drop, q]
    simp
theorem par_tl : tl ("(" : Str) = [40] := by decide +kernel
theorem sep_tl : tl (", " : Str) = [44, 32] := by decide +kernel
theorem cls_tl : tl (")" : Str) = [41] := by decide +kernel
/-- what stands at the text's end when the reading fails -/
def Bad (K : PySem.W.Frag) (H : Hp) (E : XK) (z : Str) : Prop := (ErrC K "BadText" "BadText" ∧ PySem.W.findIn K (.ref (He.ga K "BadText")) "text" = some none) ∧ ∀ d H', H d = none → Ext H H' → H' d = some (.xd [("text", .str z)]) → E (.ref (He.ga K "BadText")) (some d) H'
def t_part (K : PySem.W.Frag) (r : Sp) (E : XK) : TS := (tSeq (tAsg (tCall (sp_endof K) [] E0 (tCons (tVar 0) (tCons (tVar 1) (tCons (tC (.str "0123456789")) tNil)))) (gName 2))
  (tCut (tIfS (tTest (tChain rLtI rLeI (tVar 1) (tVar 2) (tOp rAddI (tVar 1) (tC (.int 2))))) (tRet (tTup (tCons (tCB rIntStr (tCons (tSl rSlS (tVar 0) (tPart (tVar 1)) (tPart (tVar 2))) tNil)) (tCons (tVar 2) tNil))))
  tNext)
  (tSeq (tAsg (tCall (sp_endof K) [] E0 (tCons (tVar 0) (tCons (tVar 1) (tCons (tC (.str "abcdefghijklmnopqrstuvwxyz")) tNil)))) (gName 2))
  (tCut (tIfS (tNot (tB (tCall (sp_word K) [] E0 (tCons (tSl rSlS (tVar 0) (tPart (tVar 1)) (tPart (tVar 2))) tNil)))) (tRaise1 K "BadText" "BadText" "text" (WF E) (tVar 0))
  tNext)
  (tSeq (tAsg (tLst tNil) (gName 3))
  (tSeq (tAsg (tC (.str "(")) (gName 4))
  (tCut (tWhile (tTest (tOp rEq (tSl rSlS (tVar 0) (tPart (tVar 2)) (tPart (tOp rAddI (tVar 2) (tCB rLenStr (tCons (tVar 4) tNil))))) (tVar 4)))
  (tSeq (tAsg (tCall r [] E (tCons (tVar 0) (tCons (tOp rAddI (tVar 2) (tCB rLenStr (tCons (tVar 4) tNil))) tNil))) (gTup K 2 (gCons (gName 5) (gCons (gName 2) gNil))))
  (tSeq (tDrop (tBM K "list" rAppend (tVar 3) (tCons (tVar 5) tNil)))
  (tAsg (tC (.str ", ")) (gName 4)))))
  (tCut (tIfS (tTru_ K (tVar 3)) (tSeq (tIfS (tTest (tOp rNe (tSl rSlS (tVar 0) (tPart (tVar 2)) (tPart (tOp rAddI (tVar 2) (tC (.int 1))))) (tC (.str ")")))) (tRaise1 K "BadText" "BadText" "text" (WF E) (tVar 0))
  tNext)
  (tAug 2 (tC (.int 1)) (ipI fun i j => i + j)))
  tNext)
  (tRet (tTup (tCons (tTup (tCons (tSl rSlS (tVar 0) (tPart (tVar 1)) (tPart (tCall (sp_endof K) [] E0 (tCons (tVar 0) (tCons (tVar 1) (tCons (tC (.str "abcdefghijklmnopqrstuvwxyz")) tNil)))))) (StX.tStar K (tVar 3) tNil))) (tCons (tVar 2) tNil))))))))))))
abbrev N_part : List Str := ["text", "start", "end", "parts", "mark", "part"]
def sp_part (K : PySem.W.Frag) (n : Nat) : Sp := fun vs H Q E => ∃ (z : Str) (s : Nat), vs = [.str z, .int (s : Int)] ∧ s ≤ z.length ∧ z.length ≤ 100000 ∧ cnt (tl z) s < n ∧
  (∀ f e, parse (tl z) n s = some (f, e) → ∀ (v : V) (p : Addr) (H' : Hp), Ext H H' → IsF H' f v → H' p = some (.tup [v, .int (e : Int)]) → Q (.ref p) H') ∧ (parse (tl z) n s = none → Bad K H E z)
theorem len_part {K : PySem.W.Frag} {n : Nat} {vs : List V} {H : Hp} {Q : VK} {E : XK} (h : sp_part K n vs H Q E) : vs.length = 2 := by obtain ⟨_, _, rfl, _⟩ := h; rfl
theorem no_part {K : PySem.W.Frag} (vs : List V) (H : Hp) (Q : VK) (E : XK) : ¬ sp_part K 0 vs H Q E := by
  rintro ⟨_, _, _, _, _, h, _⟩
  omega
theorem closeP_none {w : Str} {L : List Nat} : closeP w L none = none := rfl
theorem rd_part {K : PySem.W.Frag} {n : Nat} {vs : List V} {H : Hp} {Q : VK} {E : XK} (h : sp_part K (n + 1) vs H Q E) : t_part K (sp_part K n) E { nx := fun _ H' => Q .non H', rt := Q } (start N_part vs) H := by
  obtain ⟨z, s, rfl, hs, hz, hc, k, kb⟩ := h
  have hL : (tl z).length = z.length := (tl_len z).symm
  have bad_up : ∀ {H' : Hp}, Bad K H E z → Ext H H' → Bad K H' E z := fun h c => ⟨h.1, fun d H2 hd c2 h2 => h.2 d H2 (c.free hd) (c.trans c2) h2⟩
  unfold t_part
  walk_at "go"
  have e1 := endOf_ge isDg (tl z) s
  have e2 : endOf isDg (tl z) s ≤ z.length := by rw [← hL]; exact endOf_le (by omega)
  have e3 := endOf_ge isLt (tl z) s
  have e4 : endOf isLt (tl z) s ≤ z.length := by rw [← hL]; exact endOf_le (by omega)
  refine ⟨z, "0123456789", s, rfl, hs, hz, ?_⟩
  show _
  have hd : endOf (fun c => decide (c ∈ tl ("0123456789" : Str))) (tl z) s = endOf isDg (tl z) s := rfl
  rw [hd]
  walk_at "go"
  refine g_cut (M := fun σ H' => σ = [some (.str z), some (.int (s : Int)), some (.int ((endOf isDg (tl z) s : Nat) : Int)), none, none, none] ∧ H' = H ∧ ¬ (s < endOf isDg (tl z) s ∧ endOf isDg (tl z) s ≤ s + 2)) ?_ ?_
  · walk_at "go"
    refine g_2 (fun b => ?_) (fun b => ?_)
    · have b : (s : Int) < ((endOf isDg (tl z) s : Nat) : Int) := of_decide_eq_true b
      walk_at "go"
      refine g_2 (fun b2 => ?_) (fun b2 => ?_)
      · have b2 : ((endOf isDg (tl z) s : Nat) : Int) ≤ (s : Int) + 2 := of_decide_eq_true b2
        walk_at "go"
        refine ⟨_, rfl, big (by omega), ?_⟩
        walk_at "go"
        have ht := cut_tl (z := z) (s := s) (e := endOf isDg (tl z) s)
        have hl : (cutL (tl z) s (endOf isDg (tl z) s)).length = endOf isDg (tl z) s - s := by rw [cutL_end]; unfold endOf; omega
        have hi := int_of (x := cutS z (some (s : Int)) (some ((endOf isDg (tl z) s : Nat) : Int))) (fun c hc => by rw [ht, cutL_end] at hc; exact tw_all _ _ _ hc) (by rw [ht]; omega) (by rw [ht]; omega)
        refine ⟨_, _, rfl, hi, by rw [tl_len, ht]; omega, ?_⟩
        walk_at "go"
        refine g_newT (big (by simp)) fun p H1 hp c1 h1 => ?_
        refine k _ _ (by simp only [parse]; rw [if_pos ⟨by omega, by omega⟩]) _ p H1 c1 (IsF.hole.mpr rfl) ?_
        rw [h1, ht]
      · have b2 : ¬ ((endOf isDg (tl z) s : Nat) : Int) ≤ (s : Int) + 2 := of_decide_eq_false b2
        walk_at "go"
        exact ⟨rfl, rfl, by omega⟩
    · have b : ¬ (s : Int) < ((endOf isDg (tl z) s : Nat) : Int) := of_decide_eq_false b
      walk_at "go"
      exact ⟨rfl, rfl, by omega⟩
  rintro σ H' ⟨rfl, rfl, hnd⟩
  walk_at "go"
  refine ⟨z, "abcdefghijklmnopqrstuvwxyz", s, rfl, hs, hz, ?_⟩
  show _
  have hd : endOf (fun c => decide (c ∈ tl ("abcdefghijklmnopqrstuvwxyz" : Str))) (tl z) s = endOf isLt (tl z) s := rfl
  rw [hd]
  simp only [parse] at k kb
  rw [if_neg hnd] at k kb
  generalize hE : endOf isLt (tl z) s = ew at *
  have hcl : cutL (tl z) s ew = ((tl z).drop s).takeWhile isLt := by rw [← hE, cutL_end]
  have hcll : (cutL (tl z) s ew).length = ew - s := by rw [hcl, ← hE]; unfold endOf; omega
  walk_at "go"
  refine g_cut (M := fun σ H1 => σ = [some (.str z), some (.int (s : Int)), some (.int (ew : Int)), none, none, none] ∧ H1 = H' ∧ (1 ≤ ew - s ∧ ew - s ≤ 8)) ?_ ?_
  · walk_at "go"
    refine ⟨_, rfl, big (by omega), ?_⟩
    walk_at "go"
    have ht := cut_tl (z := z) (s := s) (e := ew)
    have hiw : isWord (cutS z (some (s : Int)) (some (ew : Int))) = (decide (1 ≤ ew - s) && decide (ew - s ≤ 8)) := by
      unfold isWord
      have ha : (cutS z (some (s : Int)) (some (ew : Int))).cps.toList.all (fun c => decide (c ∈ abc.cps.toList)) = true := by
        rw [List.all_eq_true]
        intro c hc
        have hc : c ∈ tl (cutS z (some (s : Int)) (some (ew : Int))) := hc
        rw [ht, hcl] at hc
        exact tw_all _ _ _ hc
      rw [ha, Bool.and_true, tl_len, ht, hcll]
    refine ⟨_, rfl, by rw [tl_len, ht, hcll]; omega, ?_⟩
    rw [hiw]
    walk_at "go"
    by_cases hw : 1 ≤ ew - s ∧ ew - s ≤ 8
    · rw [decide_eq_true hw.1, decide_eq_true hw.2]
      walk_at "go"
      exact ⟨rfl, rfl, hw⟩
    · have : (decide (1 ≤ ew - s) && decide (ew - s ≤ 8)) = false := by
        rw [Bool.and_eq_false_iff]
        by_cases h1 : 1 ≤ ew - s
        · exact .inr (decide_eq_false fun z => hw ⟨h1, z⟩)
        · exact .inl (decide_eq_false h1)
      rw [this]
      walk_at "go"
      have hb := kb (by rw [if_neg hw])
      exact g_raise1 hb.1.1 hb.1.2 fun d H2 hd c2 h2 => hb.2 d H2 hd c2 h2
  rintro σ H1 ⟨rfl, rfl, hw⟩
  rw [if_pos hw] at k kb
  generalize hR : loopP (parse (tl z) n) (tl z) ((tl z).length + 1) [40] ew = R at k kb
  walk_at "go"
  refine g_newL (big (by simp)) fun q H2 hq c2 h2 => ?_
  walk_at "go"
  refine g_cut (M := fun σ H3 => ∃ (ps : List Fm) (vs : List V) (e : Nat) (o4 o5 : Option V), σ = [some (.str z), some (.int (s : Int)), some (.int (e : Int)), some (.ref q), o4, o5] ∧ Ext H1 H3 ∧ H3 q = some (.lst vs) ∧ IsFs H3 ps vs ∧ e ≤ z.length ∧ ps.length ≤ z.length ∧ R = some (ps, e)) ?_ ?_
  · walk_at "go"
    refine g_while (fun m σ H3 => ∃ (ps : List Fm) (vs : List V) (e : Nat) (mk : Str) (o5 : Option V), m = z.length - e ∧ σ = [some (.str z), some (.int (s : Int)), some (.int (e : Int)), some (.ref q), some (.str mk), o5] ∧ Ext H1 H3 ∧ H3 q = some (.lst vs) ∧ IsFs H3 ps vs ∧ e ≤ z.length ∧ ps.length + ew ≤ e ∧
      R = (loopP (parse (tl z) n) (tl z) ((tl z).length + 1 - ps.length) (tl mk) e).map (fun r => (ps ++ r.1, r.2)) ∧ ((tl mk = [40] ∧ cnt (tl z) e ≤ cnt (tl z) s) ∨ (tl mk = [44, 32] ∧ cnt (tl z) e < cnt (tl z) s)))
      ⟨[], [], ew, "(", none, rfl, rfl, c2, h2, IsL.nil, by omega, by simp, by
        rw [par_tl, ← hR]
        simp only [List.length_nil, Nat.sub_zero, List.nil_append]
        cases loopP (parse (tl z) n) (tl z) ((tl z).length + 1) [40] ew <;> rfl, .inl ⟨par_tl, cnt_mono _ (by omega)⟩⟩ ?_
    rintro m σ H3 ⟨ps, vs, e, mk, o5, rfl, rfl, c3, h3, hps, he, hpe, hloop, hmk⟩
    have hml : 1 ≤ (tl mk).length ∧ (tl mk).length ≤ 2 := by rcases hmk with ⟨h, _⟩ | ⟨h, _⟩ <;> rw [h] <;> simp
    have hmk1 := tl_len mk
    obtain ⟨j, hj⟩ : ∃ j, (tl z).length + 1 - ps.length = j + 1 := ⟨(tl z).length - ps.length, by omega⟩
    rw [hj] at hloop
    simp only [loopP] at hloop
    walk_at "go"
    refine g_lenS (big (by omega)) ?_
    walk_at "go"
    refine ⟨_, rfl, big (by omega), ?_⟩
    walk_at "go"
    have hcut : tl (cutS z (some (e : Int)) (some ((e : Int) + (mk.length : Int)))) = ((tl z).drop e).take (tl mk).length := by
      have := cut_any (z := z) (s := e) (e := e + mk.length)
      rw [show ((e + mk.length : Nat) : Int) = (e : Int) + (mk.length : Int) by omega] at this
      rw [this, hmk1]
      congr 1
      omega
    refine g_2 (fun b => ?_) (fun b => ?_)
    · have b : ((tl z).drop e).take (tl mk).length = tl mk := by rw [← hcut, of_decide_eq_true b]
      rw [if_pos b] at hloop
      have hin := take_mark b hml.1
      refine ⟨_, fun _ _ q => q, ?_⟩
      walk_at "go"
      refine g_lenS (big (by omega)) ?_
      walk_at "go"
      have hcnt : cnt (tl z) (e + mk.length) < cnt (tl z) s := by
        rcases hmk with ⟨h, h5⟩ | ⟨h, h5⟩
        · have h1 : mk.length = 1 := by rw [hmk1, h]; rfl
          rw [h] at b
          have := cnt_hit (L := tl z) (e := e) b
          rw [h1]
          omega
        · have := cnt_mono (tl z) (show e ≤ e + mk.length by omega)
          omega
      refine ⟨z, e + mk.length, ?_, by omega, hz, by omega, fun f e1 hp v p H4 c4 hf h4 => ?_, fun hn => ?_⟩
      · simp
      · have pok := parse_ok n _ f e1 (by omega) hp
        have hge := pok.ge
        have hle := pok.le
        rw [← hmk1, hp] at hloop
        have h3' := c4.at h3
        refine g_gtup h4 rfl ?_
        walk_at "go"
        refine g_append h3' (bigl (by have := hps.length; omega)) ?_
        walk_at "go"
        have c5 : Chg [q] H4 (upd H4 q (.lst (vs ++ [v]))) := (Chg.refl _).set (List.mem_singleton.mpr rfl) h3' (by intro xs z; cases z) _
        refine ⟨_, ?_, ps ++ [f], vs ++ [v], e1, ", ", some v, rfl, rfl, (c3.trans c4).own hq _, upd_same, IsFs.snoc (IsL.up c5 (IsL.up c4 hps)) (hf.up c5), by omega, by simp; omega, ?_, .inr ⟨sep_tl, ?_⟩⟩
        · omega
        · rw [hloop, sep_tl]
          have : (tl z).length + 1 - (ps ++ [f]).length = j := by rw [List.length_append, List.length_singleton]; omega
          rw [this]
          simp only [Option.map_map]
          cases loopP (parse (tl z) n) (tl z) j [44, 32] e1 with
          | none => rfl
          | some r => simp [List.append_assoc]
        · have := cnt_mono (tl z) (show e + mk.length ≤ e1 by omega)
          omega
      · rw [← hmk1, hn] at hloop
        have hb := kb (by rw [hloop]; rfl)
        exact bad_up hb c3
    · have b : ¬ ((tl z).drop e).take (tl mk).length = tl mk := fun h => (of_decide_eq_false b) (tl_ext (by rw [hcut]; exact h))
      rw [if_neg b] at hloop
      exact ⟨ps, vs, e, _, o5, rfl, c3, h3, hps, he, by omega, by rw [hloop]; simp⟩
  rintro σ H3 ⟨ps, vs, e, o4, o5, rfl, c3, h3, hps, he, hpl, hloop⟩
  rw [hloop] at k kb
  have hvl := hps.length
  have ew2 : cutS z (some (s : Int)) (some (ew : Int)) = (⟨(cutL (tl z) s ew).toArray⟩ : Str) := tl_ext cut_tl
  refine g_cut (M := fun σ H4 => ∃ e2 : Nat, σ = [some (.str z), some (.int (s : Int)), some (.int (e2 : Int)), some (.ref q), o4, o5] ∧ H4 = H3 ∧ closeP ⟨(cutL (tl z) s ew).toArray⟩ (tl z) (some (ps, e)) = some (.node ⟨(cutL (tl z) s ew).toArray⟩ ps, e2)) ?_ ?_
  · walk_at "go"
    refine ⟨_, .inl ⟨vs, .inl (.inl h3), rfl⟩, ?_⟩
    cases ps with
    | nil =>
      obtain rfl : vs = [] := List.eq_nil_of_length_eq_zero hvl
      show (if false = true then _ else _)
      walk_at "go"
      exact ⟨e, rfl, rfl, rfl⟩
    | cons f fs =>
      obtain ⟨v, vs2, rfl⟩ : ∃ v r, vs = v :: r := by
        cases vs with
        | nil => simp at hvl
        | cons v r => exact ⟨v, r, rfl⟩
      show (if true = true then _ else _)
      walk_at "go"
      refine ⟨_, rfl, big (by omega), ?_⟩
      walk_at "go"
      have hcut : tl (cutS z (some (e : Int)) (some ((e : Int) + 1))) = ((tl z).drop e).take 1 := by
        have := cut_any (z := z) (s := e) (e := e + 1)
        rw [show ((e + 1 : Nat) : Int) = (e : Int) + 1 by omega] at this
        rw [this, show e + 1 - e = 1 by omega]
      have hd1 : ((tl z).drop e).take 1 = [41] ↔ (tl z)[e]? = some 41 := by
        rw [← List.head?_drop]
        cases (tl z).drop e with
        | nil => simp
        | cons x xs => simp
      by_cases h41 : (tl z)[e]? = some 41
      · have : cutS z (some (e : Int)) (some ((e : Int) + 1)) = (")" : Str) := tl_ext (by rw [hcut, cls_tl]; exact hd1.mpr h41)
        rw [decide_eq_true this]
        walk_at "go"
        exact ⟨e + 1, by simp [List.set], rfl, by simp only [closeP]; rw [if_pos h41]⟩
      · have : ¬ cutS z (some (e : Int)) (some ((e : Int) + 1)) = (")" : Str) := fun h => h41 (hd1.mp (by rw [← hcut, h, cls_tl]))
        rw [decide_eq_false this]
        walk_at "go"
        have hb := bad_up (kb (by simp only [closeP]; rw [if_neg h41])) c3
        exact g_raise1 hb.1.1 hb.1.2 fun d H2 hd c2 h2 => hb.2 d H2 hd c2 h2
  rintro σ H4 ⟨e2, rfl, rfl, hcl2⟩
  rw [hcl2] at k
  walk_at "go"
  refine ⟨z, "abcdefghijklmnopqrstuvwxyz", s, rfl, hs, hz, ?_⟩
  have hd' : endOf (fun c => decide (c ∈ tl ("abcdefghijklmnopqrstuvwxyz" : Str))) (tl z) s = ew := hE
  rw [hd']
  refine ⟨_, rfl, ?_⟩
  refine ⟨_, rfl, big (by omega), ?_⟩
  walk_at "go"
  refine ⟨q, vs, rfl, .inr (.inl (.inl h3)), ?_⟩
  walk_at "go"
  refine g_newT (by rw [sizeLine_eq]; simp; omega) fun u H5 hu c5 h5 => ?_
  walk_at "go"
  refine g_newT (big (by simp)) fun p H6 hp c6 h6 => ?_
  refine k _ e2 rfl _ p H6 ((c3.trans c5).trans c6) (IsF.node.mpr ⟨u, vs, rfl, ?_, IsL.up c6 (IsL.up c5 hps)⟩) h6
  rw [c6.at h5, ew2]
  first | rfl | simp
mutual
theorem Fm.depth_cnt : ∀ f : Fm, f.depth ≤ f.wl.count 40 + 1
  | .hole n => by simp only [Fm.depth]; omega
  | .node s ps => by
    have h := Fm.depths_cnt ps
    simp only [Fm.depth, Fm.wl, List.count_append]
    cases ps with
    | nil => simp [Fm.depths]
    | cons p ps =>
      simp only [Fm.depths, Fm.wt, Fm.wa, List.count_cons, List.count_append] at h ⊢
      simp at h ⊢
      omega
theorem Fm.depths_cnt : ∀ ps : List Fm, Fm.depths ps ≤ (Fm.wt ps).count 40 + 1
  | [] => by simp [Fm.depths]
  | p :: ps => by
    have h1 := Fm.depth_cnt p
    have h2 := Fm.depths_cnt ps
    simp only [Fm.depths, Fm.wt, List.count_cons, List.count_append]
    simp
    omega
end
theorem parse_all {z : Str} {g : Fm} (hc : cnt (tl z) 0 < 100) (ok : g.ok) (h : g.wl = tl z) : parse (tl z) 100 0 = some (g, z.length) := by
  have hd := g.depth_cnt
  rw [h] at hd
  have hc : (tl z).count 40 < 100 := hc
  have := parse_wl (L := tl z) 100 g 0 [] ok (by omega) (by rw [h]; simp) (fun c hc => by simp at hc)
  rw [this, h, tl_len]
  simp
mutual
theorem Fm.cnt_size : ∀ f : Fm, f.ok → f.wl.count 40 ≤ f.size
  | .hole n, h => by
    simp only [Fm.ok] at h
    simp only [Fm.wl, Fm.size]
    rw [List.count_eq_zero.mpr]
    · omega
    · intro z
      have := isDg_iff.mp ((numL_dg (n := n.toNat) (by omega)).1 40 z)
      omega
  | .node s ps, h => by
    simp only [Fm.ok] at h
    have h1 : (tl s).count 40 = 0 := List.count_eq_zero.mpr fun z => by have := h.1.low 40 z; omega
    simp only [Fm.wl, Fm.size, List.count_append]
    rw [h1]
    cases ps with
    | nil => simp only [Fm.wa, List.count_nil]; omega
    | cons p ps =>
      have h2 := Fm.cnts_size (p :: ps) h.2
      simp only [Fm.wt, Fm.wa, Fm.sizes, List.count_cons, List.count_append] at h2 ⊢
      simp at h2 ⊢
      omega
theorem Fm.cnts_size : ∀ ps : List Fm, Fm.oks ps → (Fm.wt ps).count 40 ≤ Fm.sizes ps
  | [], _ => by simp [Fm.wt]
  | p :: ps, h => by
    simp only [Fm.oks] at h
    have h1 := Fm.cnt_size p h.1
    have h2 := Fm.cnts_size ps h.2
    simp only [Fm.wt, Fm.sizes, List.count_cons, List.count_append]
    simp
    omega
end
def t_rform (K : PySem.W.Frag) (E : XK) : TS := (tSeq (tAsg (tCall (sp_part K 100) [] E (tCons (tVar 0) (tCons (tC (.int 0)) tNil))) (gTup K 2 (gCons (gName 1) (gCons (gName 2) gNil))))
  (tSeq (tIfS (tOr (tTest (tOp rNe (tVar 2) (tCB rLenStr (tCons (tVar 0) tNil)))) (tTest (tOp rNe (tCall (sp_write K 100) [] E0 (tCons (tVar 1) tNil)) (tVar 0)))) (tRaise1 K "BadText" "BadText" "text" (WF E) (tVar 0))
  tNext)
  (tRet (tVar 1))))
abbrev N_rform : List Str := ["text", "form", "end"]
def sp_rform (K : PySem.W.Frag) : Sp := fun vs H Q E => ∃ z : Str, vs = [.str z] ∧ z.length ≤ 2000 ∧ cnt (tl z) 0 < 100 ∧
  (∀ f : Fm, f.ok → f.wl = tl z → ∀ (v : V) (H' : Hp), Ext H H' → IsF H' f v → Q v H') ∧ ((∀ f : Fm, f.ok → f.wl ≠ tl z) → Bad K H E z)
theorem len_rform {K : PySem.W.Frag} {vs : List V} {H : Hp} {Q : VK} {E : XK} (h : sp_rform K vs H Q E) : vs.length = 1 := by obtain ⟨_, rfl, _⟩ := h; rfl
theorem rd_rform {K : PySem.W.Frag} {vs : List V} {H : Hp} {Q : VK} {E : XK} (h : sp_rform K vs H Q E) : t_rform K E { nx := fun _ H' => Q .non H', rt := Q } (start N_rform vs) H := by
  obtain ⟨z, rfl, hz, hc, k, kb⟩ := h
  have bad_up : ∀ {H' : Hp}, Bad K H E z → Ext H H' → Bad K H' E z := fun h c => ⟨h.1, fun d H2 hd c2 h2 => h.2 d H2 (c.free hd) (c.trans c2) h2⟩
  have hL : (tl z).length = z.length := (tl_len z).symm
  unfold t_rform
  walk_at "go"
  refine ⟨z, 0, rfl, Nat.zero_le _, by omega, hc, fun f e hp v p H1 c1 hf h1 => ?_, fun hn => ?_⟩
  · have pok := parse_ok 100 0 f e (Nat.zero_le _) hp
    have hsz := pok.sz
    have hle := pok.le
    have hde := pok.dp
    refine g_gtup h1 rfl ?_
    walk_at "go"
    refine g_lenS (big (by omega)) ?_
    walk_at "go"
    by_cases he : e = z.length
    · rw [decide_eq_true (show ((e : Nat) : Int) = (z.length : Int) by omega)]
      walk_at "go"
      refine ⟨v, f, rfl, hf, pok.ok, by omega, hde, fun w H2 c2 ew => ?_⟩
      walk_at "go"
      by_cases hw : w = z
      · rw [decide_eq_true hw]
        walk_at "go"
        exact k f pok.ok (by rw [← ew, hw]) v H2 (c1.trans c2) (hf.up c2)
      · rw [decide_eq_false hw]
        walk_at "go"
        have hb := bad_up (kb fun g gok hg => hw (by
          have := parse_all hc gok hg
          rw [hp] at this
          have e1 : f = g := congrArg Prod.fst (Option.some.inj this)
          exact tl_ext (by rw [ew, e1, hg]))) (c1.trans c2)
        exact g_raise1 hb.1.1 hb.1.2 fun d H2 hd c2 h2 => hb.2 d H2 hd c2 h2
    · rw [decide_eq_false (show ¬ ((e : Nat) : Int) = (z.length : Int) by omega)]
      walk_at "go"
      have hb := bad_up (kb fun g gok hg => he (by
        have := parse_all hc gok hg
        rw [hp] at this
        exact congrArg Prod.snd (Option.some.inj this))) c1
      exact g_raise1 hb.1.1 hb.1.2 fun d H2 hd c2 h2 => hb.2 d H2 hd c2 h2
  · have hb := kb fun g gok hg => by
      have := parse_all hc gok hg
      rw [hn] at this
      cases this
    exact hb

/-! ### what written forms look like -/
/-- a sign of a written form -/
def Wr (c : Nat) : Prop := (97 ≤ c ∧ c ≤ 122) ∨ (48 ≤ c ∧ c ≤ 57) ∨ c = 40 ∨ c = 41 ∨ c = 44 ∨ c = 32
theorem tl_word {s : Str} (h : Good s) (k : Nat) (hk : ¬ (97 ≤ k ∧ k ≤ 122)) : (tl s).count k = 0 := List.count_eq_zero.mpr fun z => hk (h.low k z)
theorem num_word {n : Int} (h : 0 ≤ n ∧ n ≤ 99) (k : Nat) (hk : ¬ (48 ≤ k ∧ k ≤ 57)) : (TL.numL n.toNat).count k = 0 := List.count_eq_zero.mpr fun z => hk (isDg_iff.mp ((numL_dg (n := n.toNat) (by omega)).1 k z))
mutual
theorem Fm.wl_sep : ∀ f : Fm, f.ok → f.wl.count 32 = f.wl.count 44
  | .hole n, h => by
    simp only [Fm.ok] at h
    simp only [Fm.wl]
    rw [num_word h 32 (by omega), num_word h 44 (by omega)]
  | .node s ps, h => by
    simp only [Fm.ok] at h
    simp only [Fm.wl, List.count_append]
    rw [tl_word h.1 32 (by omega), tl_word h.1 44 (by omega)]
    cases ps with
    | nil => simp [Fm.wa]
    | cons p ps =>
      simp only [Fm.oks] at h
      have h1 := Fm.wl_sep p h.2.1
      have h2 := Fm.wt_sep ps h.2.2
      simp [Fm.wa, List.count_cons, List.count_append]
      omega
theorem Fm.wt_sep : ∀ ps : List Fm, Fm.oks ps → (Fm.wt ps).count 32 = (Fm.wt ps).count 44
  | [], _ => by simp [Fm.wt]
  | p :: ps, h => by
    simp only [Fm.oks] at h
    have h1 := Fm.wl_sep p h.1
    have h2 := Fm.wt_sep ps h.2
    simp [Fm.wt, List.count_cons, List.count_append]
    omega
end
mutual
theorem Fm.wl_par : ∀ f : Fm, f.ok → f.wl.count 40 = f.wl.count 41
  | .hole n, h => by
    simp only [Fm.ok] at h
    simp only [Fm.wl]
    rw [num_word h 40 (by omega), num_word h 41 (by omega)]
  | .node s ps, h => by
    simp only [Fm.ok] at h
    simp only [Fm.wl, List.count_append]
    rw [tl_word h.1 40 (by omega), tl_word h.1 41 (by omega)]
    cases ps with
    | nil => simp [Fm.wa]
    | cons p ps =>
      simp only [Fm.oks] at h
      have h1 := Fm.wl_par p h.2.1
      have h2 := Fm.wt_par ps h.2.2
      simp [Fm.wa, List.count_cons, List.count_append]
      omega
theorem Fm.wt_par : ∀ ps : List Fm, Fm.oks ps → (Fm.wt ps).count 40 = (Fm.wt ps).count 41
  | [], _ => by simp [Fm.wt]
  | p :: ps, h => by
    simp only [Fm.oks] at h
    have h1 := Fm.wl_par p h.1
    have h2 := Fm.wt_par ps h.2
    simp [Fm.wt, List.count_cons, List.count_append]
    omega
end
mutual
theorem Fm.wl_wr : ∀ f : Fm, f.ok → ∀ c ∈ f.wl, Wr c
  | .hole n, h, c, hc => by
    simp only [Fm.ok] at h
    simp only [Fm.wl] at hc
    exact .inr (.inl (isDg_iff.mp ((numL_dg (n := n.toNat) (by omega)).1 c hc)))
  | .node s ps, h, c, hc => by
    simp only [Fm.ok] at h
    simp only [Fm.wl, List.mem_append] at hc
    rcases hc with hc | hc
    · exact .inl (h.1.low c hc)
    · cases ps with
      | nil => simp [Fm.wa] at hc
      | cons p ps =>
        simp only [Fm.oks] at h
        simp [Fm.wa] at hc
        rcases hc with rfl | hc | hc | rfl
        · exact .inr (.inr (.inl rfl))
        · exact Fm.wl_wr p h.2.1 c hc
        · exact Fm.wt_wr ps h.2.2 c hc
        · exact .inr (.inr (.inr (.inl rfl)))
theorem Fm.wt_wr : ∀ ps : List Fm, Fm.oks ps → ∀ c ∈ Fm.wt ps, Wr c
  | [], _, c, hc => by simp [Fm.wt] at hc
  | p :: ps, h, c, hc => by
    simp only [Fm.oks] at h
    simp [Fm.wt] at hc
    rcases hc with rfl | rfl | hc | hc
    · exact .inr (.inr (.inr (.inr (.inl rfl))))
    · exact .inr (.inr (.inr (.inr (.inr rfl))))
    · exact Fm.wl_wr p h.1 c hc
    · exact Fm.wt_wr ps h.2 c hc
end
theorem Fm.wl_ne {f : Fm} (h : f.ok) : f.wl ≠ [] := by
  cases f with
  | hole n =>
    simp only [Fm.ok] at h
    simp only [Fm.wl]
    intro z
    have := (numL_dg (n := n.toNat) (by omega)).2.2
    rw [z] at this
    simp at this
  | node s ps =>
    simp only [Fm.ok] at h
    simp only [Fm.wl]
    intro z
    have := h.1.pos
    rw [tl_len, (List.append_eq_nil_iff.mp z).1] at this
    simp at this
/-- a last sign -/
def La (l : List Nat) : Prop := ∀ c, l.getLast? = some c → (97 ≤ c ∧ c ≤ 122) ∨ (48 ≤ c ∧ c ≤ 57) ∨ c = 41
theorem La.app {l m : List Nat} (hm : m ≠ []) (h : La m) : La (l ++ m) := fun c hc => by
  rw [List.getLast?_append] at hc
  cases q : m.getLast? with
  | none => exact absurd (List.getLast?_eq_none_iff.mp q) hm
  | some x => rw [q] at hc; simp at hc; exact h c (by rw [q, hc])
theorem La.app0 {l m : List Nat} (h0 : La l) (h : La m) : La (l ++ m) := by
  by_cases hm : m = []
  · rw [hm, List.append_nil]; exact h0
  · exact La.app hm h
theorem La.all {l : List Nat} (h : ∀ c ∈ l, (97 ≤ c ∧ c ≤ 122) ∨ (48 ≤ c ∧ c ≤ 57) ∨ c = 41) : La l := fun c hc => h c (List.mem_of_getLast? hc)
mutual
theorem Fm.wl_last : ∀ f : Fm, f.ok → La f.wl
  | .hole n, h => by
    simp only [Fm.ok] at h
    simp only [Fm.wl]
    exact La.all fun c hc => .inr (.inl (isDg_iff.mp ((numL_dg (n := n.toNat) (by omega)).1 c hc)))
  | .node s ps, h => by
    simp only [Fm.ok] at h
    simp only [Fm.wl]
    refine La.app0 (La.all fun c hc => .inl (h.1.low c hc)) ?_
    cases ps with
    | nil => simp only [Fm.wa]; exact fun c hc => by simp at hc
    | cons p ps =>
      rw [Fm.wa_mid (by simp)]
      intro c hc
      rw [show (40 :: (Fm.mid (p :: ps) ++ [41])) = (40 :: Fm.mid (p :: ps)) ++ [41] by simp, List.getLast?_concat] at hc
      exact .inr (.inr (Option.some.inj hc).symm)
theorem Fm.wt_last : ∀ ps : List Fm, Fm.oks ps → La (Fm.wt ps)
  | [], _ => by simp only [Fm.wt]; exact fun c hc => by simp at hc
  | p :: ps, h => by
    simp only [Fm.oks] at h
    simp only [Fm.wt]
    have h1 := La.app0 (Fm.wl_last p h.1) (Fm.wt_last ps h.2)
    have hne : p.wl ++ Fm.wt ps ≠ [] := fun z => Fm.wl_ne h.1 (List.append_eq_nil_iff.mp z).1
    exact La.app (l := [44, 32]) hne h1
end
theorem Fm.mid_last {ps : List Fm} (h : Fm.oks ps) : La (Fm.mid ps) := by
  cases ps with
  | nil => exact fun c hc => by simp [Fm.mid] at hc
  | cons p ps =>
    simp only [Fm.oks] at h
    simp only [Fm.mid]
    exact La.app0 (Fm.wl_last p h.1) (Fm.wt_last ps h.2)
/-- no form ends with an empty pair -/
theorem Fm.no_pair {f : Fm} (h : f.ok) (x : List Nat) : f.wl ≠ x ++ [40, 41] := by
  intro e
  cases f with
  | hole n =>
    simp only [Fm.ok] at h
    simp only [Fm.wl] at e
    have := isDg_iff.mp ((numL_dg (n := n.toNat) (by omega)).1 40 (by rw [e]; simp))
    omega
  | node s ps =>
    simp only [Fm.ok] at h
    simp only [Fm.wl] at e
    cases ps with
    | nil =>
      simp only [Fm.wa, List.append_nil] at e
      have := h.1.low 40 (by show 40 ∈ tl s; rw [e]; simp)
      omega
    | cons p ps =>
      rw [Fm.wa_mid (by simp)] at e
      have e2 : (tl s ++ (40 :: Fm.mid (p :: ps))) ++ [41] = (x ++ [40]) ++ [41] := by simpa using e
      have e3 := List.append_cancel_right e2
      have hl := Fm.mid_last h.2
      have hm : Fm.mid (p :: ps) ≠ [] := by
        simp only [Fm.oks] at h
        simp only [Fm.mid]
        intro z
        exact Fm.wl_ne h.2.1 (List.append_eq_nil_iff.mp z).1
      have := La.app (l := tl s ++ [40]) hm hl 40 (by
        have : (tl s ++ [40]) ++ Fm.mid (p :: ps) = x ++ [40] := by simpa using e3
        rw [this, List.getLast?_concat])
      omega

/-! ### texts that no form writes -/
def NoW (l : List Nat) : Prop := ∀ g : Fm, g.ok → g.wl ≠ l
section
variable {f : Fm} {a b l : List Nat} {c : Nat}
theorem now_blank (h : f.ok) (e : f.wl = a ++ b) : NoW (a ++ 32 :: b) := fun g hg q => by
  have h1 := Fm.wl_sep f h
  have h2 := Fm.wl_sep g hg
  rw [e] at h1
  rw [q] at h2
  simp [List.count_append, List.count_cons] at h1 h2
  omega
theorem now_close (h : f.ok) : NoW (f.wl ++ [41]) := fun g hg q => by
  have h1 := Fm.wl_par f h
  have h2 := Fm.wl_par g hg
  rw [q] at h2
  simp [List.count_append, List.count_cons] at h2
  omega
theorem now_open (h : f.ok) : NoW (f.wl ++ [40]) := fun g hg q => by
  have h1 := Fm.wl_par f h
  have h2 := Fm.wl_par g hg
  rw [q] at h2
  simp [List.count_append, List.count_cons] at h2
  omega
theorem now_drop (h : f.ok) (e : f.wl = a ++ [41]) : NoW a := fun g hg q => by
  have h1 := Fm.wl_par f h
  have h2 := Fm.wl_par g hg
  rw [e] at h1
  rw [q] at h2
  simp [List.count_append, List.count_cons] at h1
  omega
theorem now_comma (h : f.ok) (e : f.wl = a ++ ([44, 32] ++ b)) : NoW (a ++ ([44] ++ b)) := fun g hg q => by
  have h1 := Fm.wl_sep f h
  have h2 := Fm.wl_sep g hg
  rw [e] at h1
  rw [q] at h2
  simp [List.count_append, List.count_cons] at h1 h2
  omega
theorem now_comma2 (h : f.ok) : NoW (f.wl ++ [44]) := fun g hg q => by
  have h1 := Fm.wl_sep f h
  have h2 := Fm.wl_sep g hg
  rw [q] at h2
  simp [List.count_append, List.count_cons] at h2
  omega
theorem now_out (hc : c ∈ l) (h : ¬ Wr c) : NoW l := fun g hg q => h (Fm.wl_wr g hg c (by rw [q]; exact hc))
theorem now_pair : NoW (l ++ [40, 41]) := fun g hg => Fm.no_pair hg l
theorem now_empty : NoW [] := fun g hg q => Fm.wl_ne hg q
theorem hole_dg {n : Int} (h : (Fm.hole n).ok) : ∀ c ∈ (Fm.hole n).wl, 48 ≤ c ∧ c ≤ 57 := fun c hc => by
  simp only [Fm.ok] at h
  simp only [Fm.wl] at hc
  exact isDg_iff.mp ((numL_dg (n := n.toNat) (by omega)).1 c hc)
theorem node_hd {s : Str} {ps : List Fm} (h : (Fm.node s ps).ok) : ∃ c r, (Fm.node s ps).wl = c :: r ∧ 97 ≤ c ∧ c ≤ 122 := by
  simp only [Fm.ok] at h
  have h1 := h.1.pos
  rw [tl_len] at h1
  simp only [Fm.wl]
  cases e : tl s with
  | nil => rw [e] at h1; simp at h1
  | cons c r => exact ⟨c, _, rfl, h.1.low c (by rw [e]; simp)⟩
theorem now_zero (h : f.ok) : NoW (48 :: f.wl) := fun g hg q => by
  cases g with
  | hole n =>
    simp only [Fm.ok] at hg
    simp only [Fm.wl] at q
    by_cases h1 : n.toNat < 10
    · rw [TL.numL_lt h1] at q
      have : f.wl = [] := by simpa using (List.cons.inj q).2.symm
      exact Fm.wl_ne h this
    · rw [TL.numL_step (by omega), TL.numL_lt (by omega)] at q
      have := (List.cons.inj (show (48 + n.toNat / 10) :: [48 + n.toNat % 10] = 48 :: f.wl from q)).1
      omega
  | node s ps =>
    obtain ⟨c, r, e, h1, _⟩ := node_hd hg
    rw [e] at q
    have := (List.cons.inj q).1
    omega
theorem now_num (h3 : l.length = 3) (hd : ∀ c ∈ l, 48 ≤ c ∧ c ≤ 57) : NoW l := fun g hg q => by
  cases g with
  | hole n =>
    simp only [Fm.ok] at hg
    simp only [Fm.wl] at q
    have := numL_le n.toNat (by omega)
    rw [q] at this
    omega
  | node s ps =>
    obtain ⟨c, r, e, h1, _⟩ := node_hd hg
    have := hd c (by rw [← q, e]; simp)
    omega
theorem now_nine (h9 : l.length = 9) (hd : ∀ c ∈ l, 97 ≤ c ∧ c ≤ 122) : NoW l := fun g hg q => by
  cases g with
  | hole n =>
    cases l with
    | nil => simp at h9
    | cons x r =>
      have h1 := hole_dg hg x (by rw [q]; simp)
      have h2 := hd x (by simp)
      omega
  | node s ps =>
    simp only [Fm.ok] at hg
    simp only [Fm.wl] at q
    cases ps with
    | nil =>
      simp only [Fm.wa, List.append_nil] at q
      have := hg.1.most
      rw [tl_len, q] at this
      omega
    | cons p ps =>
      rw [Fm.wa_mid (by simp)] at q
      have := hd 40 (by rw [← q]; simp)
      omega
theorem split40 : ∀ {a b x y : List Nat}, a ++ 40 :: x = b ++ 40 :: y → 40 ∉ a → 40 ∉ b → a = b ∧ x = y
  | [], [], x, y, h, _, _ => ⟨rfl, (List.cons.inj h).2⟩
  | [], c :: b, x, y, h, _, hb => by
    have := (List.cons.inj (show 40 :: x = c :: (b ++ 40 :: y) from h)).1
    exact absurd (by rw [this]; simp) hb
  | c :: a, [], x, y, h, ha, _ => by
    have := (List.cons.inj (show c :: (a ++ 40 :: x) = 40 :: y from h)).1
    exact absurd (by rw [this]; simp) ha
  | c :: a, d :: b, x, y, h, ha, hb => by
    have h1 := List.cons.inj (show c :: (a ++ 40 :: x) = d :: (b ++ 40 :: y) from h)
    have h2 := split40 h1.2 (fun z => ha (List.mem_cons_of_mem _ z)) (fun z => hb (List.mem_cons_of_mem _ z))
    exact ⟨by rw [h1.1, h2.1], h2.2⟩
theorem now_part {s : Str} (hs : Low s) (hl : NoW l) (h44 : 44 ∉ l) : NoW (tl s ++ 40 :: (l ++ [41])) := fun g hg q => by
  have n40 : ∀ {w : Str}, Low w → 40 ∉ tl w := fun hw z => by have := hw 40 z; omega
  cases g with
  | hole n =>
    have := hole_dg hg 40 (by rw [q]; simp)
    omega
  | node w ps =>
    simp only [Fm.ok] at hg
    simp only [Fm.wl] at q
    cases ps with
    | nil =>
      simp only [Fm.wa, List.append_nil] at q
      exact n40 hg.1.low (by rw [q]; simp)
    | cons p ps =>
      rw [Fm.wa_mid (by simp)] at q
      have h1 := (split40 q (n40 hg.1.low) (n40 hs)).2
      have h2 := List.append_cancel_right h1
      simp only [Fm.mid] at h2
      simp only [Fm.oks] at hg
      cases ps with
      | nil =>
        simp only [Fm.wt, List.append_nil] at h2
        exact hl p hg.2.1 h2
      | cons p2 ps => exact h44 (by rw [← h2]; simp [Fm.wt])
end
/-! the odd texts -/
def odds1 : List Str := ["-1", "+1", "(a)", "a(, b)", "a(b, )", "a b", "a(b c)", "a(b))", "a((b)", "1(a)"]
def odds2 : List Str := ["a1", "a_b", "a(b; c)", " ", "()", ",", "a(b)c", "a(1 )", "a( 1)"]
def oddOk (z : Str) : Bool := decide ((parse (tl z) 100 0).map (·.2) ≠ some z.length) && decide (z.length ≤ 10) && decide (cnt (tl z) 0 < 10)
theorem odds_ok : ∀ z ∈ odds1 ++ odds2, oddOk z = true := by decide +kernel
theorem odd_no {z : Str} (h : z ∈ odds1 ++ odds2) : NoW (tl z) ∧ z.length ≤ 10 ∧ cnt (tl z) 0 < 10 := by
  have h1 := odds_ok z h
  unfold oddOk at h1
  rw [Bool.and_eq_true, Bool.and_eq_true] at h1
  have hc : cnt (tl z) 0 < 10 := of_decide_eq_true h1.2
  refine ⟨fun g hg q => ?_, of_decide_eq_true h1.1.2, hc⟩
  have h2 := parse_all (z := z) (by omega) hg q
  have h3 : (parse (tl z) 100 0).map (·.2) ≠ some z.length := of_decide_eq_true h1.1.1
  rw [h2] at h3
  exact h3 rfl
theorem low_ascii : ∀ c < 128, Txt.islower ⟨#[c]⟩ = decide (97 ≤ c ∧ c ≤ 122) := by decide +kernel
theorem up_ascii : ∀ c < 128, 97 ≤ c ∧ c ≤ 122 → Txt.upper ⟨#[c]⟩ = ⟨#[c - 32]⟩ := by decide +kernel
theorem Wr.lt {c : Nat} (h : Wr c) : c < 128 := by unfold Wr at h; omega

/-- what K says of the error classes -/
structure KF (K : PySem.W.Frag) : Prop where
  err : ErrC K "BadText" "BadText"
  hno : PySem.W.findIn K (.ref (He.ga K "BadText")) "text" = some none
  exc : ExcC K (He.ga K "BadText")
  exm : PySem.W.exmOne K (.ref (He.ga K "BadText")) (.ref (He.ga K "TableError")) = some true
  k1 : PySem.W.kitOne K (.ref (He.ga K "BadText")) (.ref (He.ga K "BadText")) = some true
  k2 : PySem.W.kitOne K (.ref (He.ga K "BadText")) (.type "ValueError") = some true
  k3 : PySem.W.kitOne K (.ref (He.ga K "BadText")) (.ref (He.ga K "BadForm")) = some false
def t_refused (K : PySem.W.Frag) : TS := (tSeq (tTry K (.ref (He.ga K "TableError")) 1 (fun W => (tDrop (tCallS (sp_rform K) (WE W) (tCons (tVar 0) tNil))))
  (fun a cls d => (tSeq (tIfS (tOr (tNot (tB (tCB (rIsD K cls d a) (tCons (tVar 1) (tCons (tC (.ref (He.ga K "BadText"))) tNil))))) (tOr (tNot (tB (tCB (rIsD K cls d a) (tCons (tVar 1) (tCons (tC (.ty "ValueError")) tNil))))) (tB (tCB (rIsD K cls d a) (tCons (tVar 1) (tCons (tC (.ref (He.ga K "BadForm"))) tNil)))))) (tRet (tC (.bl false)))
  tNext)
  (tRet (tAndV (tCB (rIsi K) (tCons (tXf a cls d (He.ga K "BadText") "text" (tVar 1)) (tCons (tC (.ty "str")) tNil))) (tOp rEq (tXf a cls d (He.ga K "BadText") "text" (tVar 1)) (tVar 0)))))))
  (tRet (tC (.bl false))))
abbrev N_refused : List Str := ["_law_text", "e"]
def sp_refused (K : PySem.W.Frag) : Sp := fun vs H Q _ => ∃ z : Str, KF K ∧ vs = [.str z] ∧ z.length ≤ 2000 ∧ cnt (tl z) 0 < 100 ∧ (∀ f : Fm, f.ok → f.wl ≠ tl z) ∧ ∀ H', Ext H H' → Q (.bl true) H'
theorem len_refused {K : PySem.W.Frag} {vs : List V} {H : Hp} {Q : VK} {E : XK} (h : sp_refused K vs H Q E) : vs.length = 1 := by obtain ⟨_, _, rfl, _⟩ := h; rfl
theorem rd_refused {K : PySem.W.Frag} {vs : List V} {H : Hp} {Q : VK} {E : XK} (h : sp_refused K vs H Q E) : t_refused K { nx := fun _ H' => Q .non H', rt := Q } (start N_refused vs) H := by
  obtain ⟨z, G, rfl, hz, hc, hn, k⟩ := h
  unfold t_refused
  walk_at "go"
  refine ⟨z, rfl, hz, hc, fun f ok hf => absurd hf (hn f ok), fun _ => ⟨⟨G.err, G.hno⟩, fun d H' hd c hx => ?_⟩⟩
  refine ⟨true, G.exm, fun _ a ha => ?_, fun q => nomatch q⟩
  walk_at "go"
  refine ⟨_, _, _, true, d, _, rfl, rfl, hx, G.exc, rfl, fun u r => r, G.k1, ?_⟩
  walk_at "go"
  refine ⟨_, _, _, true, d, _, rfl, rfl, hx, G.exc, rfl, fun u r => r, G.k2, ?_⟩
  walk_at "go"
  refine ⟨_, _, _, false, d, _, rfl, rfl, hx, G.exc, rfl, fun u r => r, G.k3, ?_⟩
  walk_at "go"
  refine ⟨rfl, rfl, d, _, .str z, rfl, hx, rfl, ?_⟩
  walk_at "go"
  refine g_isiS ?_
  walk_at "go"
  refine ⟨rfl, rfl, d, _, .str z, rfl, hx, rfl, ?_⟩
  walk_at "go"
  rw [decide_eq_true rfl]
  exact k _ c
def t_wide (K : PySem.W.Frag) (r : Sp) : TS := (tSeq (tIfS (tOr (tTest (tOp rEq (tVar 2) (tC (.int 0)))) (tTest (tOp rEq (tCall (sp_take K) [] E0 (tCons (tVar 0) (tCons (tC (.int 3)) tNil))) (tC (.int 0))))) (tSeq (tIfS (tTest (tOp rEq (tCall (sp_take K) [] E0 (tCons (tVar 0) (tCons (tC (.int 2)) tNil))) (tC (.int 0)))) (tRet (tCall (sp_take K) [] E0 (tCons (tVar 0) (tCons (tC (.int 100)) tNil))))
  tNext)
  (tRet (tTup (tCons (tOp (rIxL K) (tVar 1) (tCall (sp_take K) [] E0 (tCons (tVar 0) (tCons (tC (.int 26)) tNil)))) tNil))))
  tNext)
  (tSeq (tAsg (tLst (tCons (tOp (rIxL K) (tVar 1) (tCall (sp_take K) [] E0 (tCons (tVar 0) (tCons (tC (.int 26)) tNil)))) tNil)) (gName 3))
  (tSeq (tFor (iRng1 (tCons (tCall (sp_take K) [] E0 (tCons (tVar 0) (tCons (tC (.int 4)) tNil))) tNil)) (gName 4)
  (tDrop (tBM K "list" rAppend (tVar 3) (tCons (tCall r [] E0 (tCons (tVar 0) (tCons (tVar 1) (tCons (tOp rSubI (tVar 2) (tC (.int 1))) tNil)))) tNil))))
  (tRet (tCB (rTupleOf K) (tCons (tVar 3) tNil))))))
abbrev N_wide : List Str := ["_law_draws", "_law_names_here", "_law_depth", "_law_form", "_law_k"]
def wideB : Nat → Nat
  | 0 => 1
  | n + 1 => 1 + 3 * wideB n
def sp_wide (K : PySem.W.Frag) (n : Nat) : Sp := fun vs H Q _ => ∃ (d r : Addr) (m : Nat) (nms : List Str), vs = [.ref d, .ref r, .int (m : Int)] ∧ m < n ∧ Dr H d ∧ Nms H d r nms ∧ ∀ (v : V) (H' : Hp) (f : Fm), Chg [d] H H' → Dr H' d → IsF H' f v → f.ok → f.size ≤ wideB m → f.depth ≤ m + 1 → Q v H'
theorem len_wide {K : PySem.W.Frag} {n : Nat} {vs : List V} {H : Hp} {Q : VK} {E : XK} (h : sp_wide K n vs H Q E) : vs.length = 3 := by obtain ⟨_, _, _, _, rfl, _⟩ := h; rfl
theorem no_wide {K : PySem.W.Frag} (vs : List V) (H : Hp) (Q : VK) (E : XK) : ¬ sp_wide K 0 vs H Q E := by
  rintro ⟨_, _, m, _, _, h, _⟩
  omega
theorem wideB_pos : ∀ n, 1 ≤ wideB n
  | 0 => Nat.le_refl _
  | n + 1 => by simp only [wideB]; omega
theorem rd_wide {K : PySem.W.Frag} {n : Nat} {vs : List V} {H : Hp} {Q : VK} {E : XK} (h : sp_wide K (n + 1) vs H Q E) : t_wide K (sp_wide K n) { nx := fun _ H' => Q .non H', rt := Q } (start N_wide vs) H := by
  obtain ⟨d, r, m, nms, rfl, hm, hd, hn, k⟩ := h
  -- what a small form gives
  have small : ∀ (D : Ends) (H0 : Hp), D.rt = Q → Chg [d] H H0 → Dr H0 d → tSeq (tIfS (tTest (tOp rEq (tCall (sp_take K) [] E0 (tCons (tVar 0) (tCons (tC (.int 2)) tNil))) (tC (.int 0)))) (tRet (tCall (sp_take K) [] E0 (tCons (tVar 0) (tCons (tC (.int 100)) tNil)))) tNext)
      (tRet (tTup (tCons (tOp (rIxL K) (tVar 1) (tCall (sp_take K) [] E0 (tCons (tVar 0) (tCons (tC (.int 26)) tNil)))) tNil))) D (start N_wide [.ref d, .ref r, .int (m : Int)]) H0 := by
    intro D H0 hD c0 hd
    subst hD
    have hn := hn.keep c0
    walk_at "go"
    refine g_take hd (by decide) fun v1 H1 _ _ c1 hd => ?_
    walk_at "go"
    refine g_2 (fun b => ?_) (fun b => ?_)
    · walk_at "go"
      refine g_take hd (by decide) fun v2 H2 a0 a1 c2 hd => ?_
      exact k _ H2 (.hole v2) ((c0.trans c1).trans c2) hd (IsF.hole.mpr rfl) (by simp only [Fm.ok]; omega) (by simp only [Fm.size]; exact wideB_pos m) (by simp only [Fm.depth]; omega)
    · walk_at "go"
      refine g_take hd (by decide) fun v2 H2 a0 a1 c2 hd => ?_
      have hn2 := (hn.keep c1).keep c2
      obtain ⟨s, hs, hat⟩ := nm_at hn2.ok a0 a1
      refine g_ixL hn2.at_ hat ?_
      walk_at "go"
      refine g_newT (big (by simp)) fun p H3 hp c3 h3 => ?_
      exact k _ H3 (.node s []) (((c0.trans c1).trans c2).trans c3.all) (hd.keep c3) (IsF.node.mpr ⟨p, [], rfl, h3, IsL.nil⟩) (by simp only [Fm.ok, Fm.oks]; exact ⟨hn2.ok.good s hs, trivial⟩) (by simp only [Fm.size, Fm.sizes]; exact wideB_pos m) (by simp only [Fm.depth, Fm.depths]; omega)
  unfold t_wide
  walk_at "go"
  refine g_2 (fun b => ?_) (fun b => ?_)
  · walk_at "g1"
    exact small _ H rfl (Chg.refl _) hd
  have b := of_decide_eq_false b
  walk_at "go"
  refine g_take hd (by decide) fun v1 H1 _ _ c1 hd => ?_
  walk_at "go"
  refine g_2 (fun b2 => ?_) (fun b2 => ?_)
  · exact small _ H1 rfl c1 hd
  walk_at "go"
  have hn1 := hn.keep c1
  refine g_take hd (by decide) fun v2 H2 a0 a1 c2 hd => ?_
  have hn2 := hn1.keep c2
  obtain ⟨s, hs_, hat⟩ := nm_at hn2.ok a0 a1
  refine g_ixL hn2.at_ hat ?_
  walk_at "go"
  refine g_newL (big (by simp)) fun p H3 hp c3 h3 => ?_
  walk_at "go"
  have hd3 := hd.keep c3
  have c03 : Chg [d] H H3 := (c1.trans c2).trans c3.all
  have pd : p ∉ [d] := hd.off hp
  have hp0 : H p = none := by
    cases q : H p with
    | none => rfl
    | some o =>
      have := (c1.trans c2).ob p o pd q
      rw [hp] at this
      cases this
  refine g_take hd3 (by decide) fun w H4 w0 w1 c4 hd4 => ?_
  refine g_forR (by omega) (fun i σ H' => ∃ (ws : List V) (ps : List Fm) (o4 : Option V), σ = [some (.ref d), some (.ref r), some (.int (m : Int)), some (.ref p), o4] ∧ Chg [d] H H' ∧ Dr H' d ∧ H' p = some (.lst (.str s :: ws)) ∧ IsFs H' ps ws ∧ Fm.oks ps ∧ Fm.sizes ps ≤ i * wideB (m - 1) ∧ Fm.depths ps ≤ m ∧ ps.length = i)
    ⟨[], [], none, rfl, c03.trans c4, hd4, c4.ob _ _ pd h3, IsL.nil, by simp [Fm.oks], by simp [Fm.sizes], by simp [Fm.depths], rfl⟩ ?_ ?_
  · rintro i σ H' hi ⟨ws, ps, o4, rfl, c, hd, hp', hw, hk, hz, hdp, hlen⟩
    walk_at "go"
    refine ⟨d, r, m - 1, nms, ?_, by omega, hd, hn.keep c, fun v H5 f c5 hd5 hf fk fz fd => ?_⟩
    · have : ((m - 1 : Nat) : Int) = (m : Int) - 1 := by omega
      rw [this]
      rfl
    walk_at "go"
    have hl := hw.length
    refine g_appD hp0 pd (c.trans c5) hd5 (c5.ob _ _ pd hp') (by simp; omega) fun H6 c6 hd6 h6 c56 => ?_
    refine ⟨ws ++ [v], ps ++ [f], _, rfl, c6, hd6, h6, IsFs.snoc (IsL.up c56 (IsL.up c5 hw)) (hf.up c56), ?_, ?_, ?_, ?_⟩
    · rw [Fm.oks_append]; simp only [Fm.oks]; exact ⟨hk, fk, trivial⟩
    · rw [Fm.sizes_append]; simp only [Fm.sizes]
      have : (i + 1) * wideB (m - 1) = i * wideB (m - 1) + wideB (m - 1) := by rw [Nat.add_mul]; omega
      omega
    · rw [Fm.depths_append]; simp only [Fm.depths]; omega
    · simp [hlen]
  · rintro σ H' ⟨ws, ps, o4, rfl, c, hd, hp', hw, hk, hz, hdp, hlen⟩
    walk_at "go"
    refine g_tupOf (.inl (.inl hp')) fun q H5 hq c5 h5 => ?_
    have hw4 : w.toNat ≤ 3 := by omega
    refine k _ H5 (.node s ps) (c.trans c5.all) (hd.keep c5) (IsF.node.mpr ⟨q, ws, rfl, h5, IsL.up c5 hw⟩) (by simp only [Fm.ok]; exact ⟨hn2.ok.good s hs_, hk⟩) ?_ (by simp only [Fm.depth]; omega)
    have hm1 : m = (m - 1) + 1 := by omega
    rw [hm1]
    simp only [Fm.size, wideB]
    have : w.toNat * wideB (m - 1) ≤ 3 * wideB (m - 1) := Nat.mul_le_mul_right _ hw4
    omega
/-! ### spoilt texts -/
def t_odd (K : PySem.W.Frag) : TS := (tSeq (tAsg (tLst (tCons (tC (.str "-1")) (tCons (tC (.str "+1")) (tCons (tC (.str "(a)")) (tCons (tC (.str "a(, b)")) (tCons (tC (.str "a(b, )")) (tCons (tC (.str "a b")) (tCons (tC (.str "a(b c)")) (tCons (tC (.str "a(b))")) (tCons (tC (.str "a((b)")) (tCons (tC (.str "1(a)")) tNil))))))))))) (gName 1))
  (tSeq (tAsg (tOp rCat (tVar 1) (tLst (tCons (tC (.str "a1")) (tCons (tC (.str "a_b")) (tCons (tC (.str "a(b; c)")) (tCons (tC (.str " ")) (tCons (tC (.str "()")) (tCons (tC (.str ",")) (tCons (tC (.str "a(b)c")) (tCons (tC (.str "a(1 )")) (tCons (tC (.str "a( 1)")) tNil))))))))))) (gName 1))
  (tRet (tOp (rIxL K) (tVar 1) (tCall (sp_take K) [] E0 (tCons (tVar 0) (tCons (tC (.int 19)) tNil)))))))
abbrev N_odd : List Str := ["_law_draws", "_law_odd_here"]
def sp_odd (K : PySem.W.Frag) : Sp := fun vs H Q _ => ∃ (d : Addr), vs = [.ref d] ∧ Dr H d ∧ ∀ (z : Str) (H' : Hp), Chg [d] H H' → Dr H' d → z ∈ odds1 ++ odds2 → Q (.str z) H'
theorem len_odd {K : PySem.W.Frag} {vs : List V} {H : Hp} {Q : VK} {E : XK} (h : sp_odd K vs H Q E) : vs.length = 1 := by obtain ⟨_, rfl, _⟩ := h; rfl
theorem strs_at {l : List Str} {i : Int} (h0 : 0 ≤ i) (h1 : i < l.length) : ∃ z, z ∈ l ∧ atI (l.map V.str) i = some (.str z) := by
  obtain ⟨k, rfl⟩ : ∃ k : Nat, i = (k : Int) := ⟨i.toNat, by omega⟩
  have hk : k < l.length := by omega
  exact ⟨l[k], List.getElem_mem hk, atI_nat (by rw [List.getElem?_map, List.getElem?_eq_getElem hk]; rfl)⟩
theorem rd_odd {K : PySem.W.Frag} {vs : List V} {H : Hp} {Q : VK} {E : XK} (h : sp_odd K vs H Q E) : t_odd K { nx := fun _ H' => Q .non H', rt := Q } (start N_odd vs) H := by
  obtain ⟨d, rfl, hd, k⟩ := h
  unfold t_odd
  walk_at "go"
  refine g_newL (big (by simp)) fun p H1 hp c1 h1 => ?_
  walk_at "go"
  refine g_newL (big (by simp)) fun q H2 hq c2 h2 => ?_
  walk_at "go"
  refine g_cat (c2.at h1) h2 (big (by simp)) fun r H3 hr c3 h3 => ?_
  have hd2 := (hd.keep c1).keep c2
  walk_at "go"
  refine g_take (hd2.keep c3) (by decide) fun v H4 v0 v1 c4 hd4 => ?_
  obtain ⟨z, hz, e⟩ := strs_at (l := odds1 ++ odds2) v0 (by show v < 19; exact v1)
  refine g_ixL (c4.ob _ _ (hd2.off hr) h3) e ?_
  exact k z H4 (((c1.trans c2).trans c3).all.trans c4) hd4 hz
def t_spoilt (K : PySem.W.Frag) : TS := (tSeq (tAsg (tCall (sp_take K) [] E0 (tCons (tVar 0) (tCons (tC (.int 12)) tNil))) (gName 3))
  (tSeq (tAsg (tCall (sp_take K) [] E0 (tCons (tVar 0) (tCons (tOp rAddI (tCB rLenStr (tCons (tVar 2) tNil)) (tC (.int 1))) tNil))) (gName 4))
  (tSeq (tIfS (tTest (tOp rEq (tVar 3) (tC (.int 0)))) (tRet (tOp rAddS_ (tOp rAddS_ (tSl rSlS (tVar 2) tNoPart (tPart (tVar 4))) (tC (.str " "))) (tSl rSlS (tVar 2) (tPart (tVar 4)) tNoPart)))
  tNext)
  (tSeq (tIfS (tTest (tOp rEq (tVar 3) (tC (.int 1)))) (tRet (tOp rAddS_ (tVar 2) (tC (.str ")"))))
  tNext)
  (tSeq (tIfS (tTest (tOp rEq (tVar 3) (tC (.int 2)))) (tSeq (tIfS (tTest (tOp rEq (tOp rIxS (tVar 2) (tUn (rU fun i => .int (-i)) (tC (.int 1)))) (tC (.str ")")))) (tRet (tSl rSlS (tVar 2) tNoPart (tPart (tUn (rU fun i => .int (-i)) (tC (.int 1))))))
  tNext)
  (tRet (tOp rAddS_ (tVar 2) (tC (.str "(")))))
  tNext)
  (tSeq (tIfS (tTest (tOp rEq (tVar 3) (tC (.int 3)))) (tRet (tOp (rIxL K) (tLst (tCons (tOp rAddS_ (tVar 2) (tC (.str "\n"))) (tCons (tOp rAddS_ (tC (.str "\n")) (tVar 2)) tNil))) (tCall (sp_take K) [] E0 (tCons (tVar 0) (tCons (tC (.int 2)) tNil)))))
  tNext)
  (tSeq (tIfS (tTest (tOp rEq (tVar 3) (tC (.int 4)))) (tRet (tOp rAddS_ (tC (.str "0")) (tVar 2)))
  tNext)
  (tSeq (tIfS (tTest (tOp rEq (tVar 3) (tC (.int 5)))) (tRet (tOp rAddS_ (tVar 2) (tC (.str "()"))))
  tNext)
  (tSeq (tIfS (tTest (tOp rEq (tVar 3) (tC (.int 6)))) (tSeq (tIfS (tTest (tOp My.rInT (tC (.str ", ")) (tVar 2))) (tRet (My.tRepl1 (tVar 2) ", " ","))
  tNext)
  (tRet (tOp rAddS_ (tVar 2) (tC (.str ",")))))
  tNext)
  (tSeq (tIfS (tTest (tOp rEq (tVar 3) (tC (.int 7)))) (tSeq (tAsg (tLc (iRng1 (tCons (tCB rLenStr (tCons (tVar 2) tNil)) tNil)) (gName 7) (tB (tM0 My.rIsLow (tOp rIxS (tVar 2) (tVar 7)))) (tVar 7) [7]) (gName 5))
  (tSeq (tIfS (tTest (tOp rEq (tCB (rLenSeq K) (tCons (tVar 5) tNil)) (tC (.int 0)))) (tRet (tOp rAddS_ (tVar 2) (tC (.str "A"))))
  tNext)
  (tSeq (tAsg (tOp (rIxL K) (tVar 5) (tCall (sp_take K) [] E0 (tCons (tVar 0) (tCons (tCB (rLenSeq K) (tCons (tVar 5) tNil)) tNil)))) (gName 4))
  (tRet (tOp rAddS_ (tOp rAddS_ (tSl rSlS (tVar 2) tNoPart (tPart (tVar 4))) (tM0 My.rUpper (tOp rIxS (tVar 2) (tVar 4)))) (tSl rSlS (tVar 2) (tPart (tOp rAddI (tVar 4) (tC (.int 1)))) tNoPart))))))
  tNext)
  (tSeq (tIfS (tOr (tTest (tOp rEq (tVar 3) (tC (.int 8)))) (tTest (tOp rEq (tVar 3) (tC (.int 9))))) (tSeq (tAsg (tCB rStrInt (tCons (tOp rAddI (tC (.int 100)) (tCall (sp_take K) [] E0 (tCons (tVar 0) (tCons (tC (.int 900)) tNil)))) tNil)) (gName 6))
  (tSeq (tIfS (tTest (tOp rEq (tVar 3) (tC (.int 9)))) (tAsg (tSl rSlS (tOp rAddS_ (tOp (rIxL K) (tVar 1) (tCall (sp_take K) [] E0 (tCons (tVar 0) (tCons (tC (.int 26)) tNil)))) (tC (.str "abcdefgh"))) tNoPart (tPart (tC (.int 9)))) (gName 6))
  tNext)
  (tRet (tOp (rIxL K) (tLst (tCons (tVar 6) (tCons (tOp rAddS_ (tOp rAddS_ (tOp rAddS_ (tOp (rIxL K) (tVar 1) (tCall (sp_take K) [] E0 (tCons (tVar 0) (tCons (tC (.int 26)) tNil)))) (tC (.str "("))) (tVar 6)) (tC (.str ")"))) tNil))) (tCall (sp_take K) [] E0 (tCons (tVar 0) (tCons (tC (.int 2)) tNil)))))))
  tNext)
  (tSeq (tIfS (tTest (tOp rEq (tVar 3) (tC (.int 10)))) (tRet (tC (.str "")))
  tNext)
  (tRet (tCall (sp_odd K) [] E0 (tCons (tVar 0) tNil)))))))))))))))
abbrev N_spoilt : List Str := ["_law_draws", "_law_names_here", "_law_text", "_law_way", "_law_at", "_law_places", "_law_part", "_law_k"]
def sp_spoilt (K : PySem.W.Frag) : Sp := fun vs H Q _ => ∃ (d r : Addr) (nms : List Str) (z : Str) (f : Fm), vs = [.ref d, .ref r, .str z] ∧ Dr H d ∧ Nms H d r nms ∧ f.ok ∧ f.wl = tl z ∧ f.size ≤ 40 ∧ ∀ (y : Str) (H' : Hp), Chg [d] H H' → Dr H' d → y.length ≤ 2000 → cnt (tl y) 0 < 100 → NoW (tl y) → Q (.str y) H'
theorem len_spoilt {K : PySem.W.Frag} {vs : List V} {H : Hp} {Q : VK} {E : XK} (h : sp_spoilt K vs H Q E) : vs.length = 3 := by obtain ⟨_, _, _, _, _, rfl, _⟩ := h; rfl
theorem cut_to (z : Str) {n : Nat} (h : n ≤ z.length) : tl (cutS z none (some (n : Int))) = (tl z).take n := by
  rw [tl_cut, HT.sIx_none, HT.sIx_nat, Nat.min_eq_left h]; rfl
theorem cut_from (z : Str) {n : Nat} (h : n ≤ z.length) : tl (cutS z (some (n : Int)) none) = (tl z).drop n := by
  rw [tl_cut, HT.sIx_none, HT.sIx_nat, Nat.min_eq_left h]
  exact List.take_of_length_le (by rw [List.length_drop, ← tl_len]; omega)
theorem cut_last {z : Str} {a : List Nat} {c : Nat} (h : tl z = a ++ [c]) : tl (cutS z none (some (-1))) = a := by
  have hl : z.length = a.length + 1 := by rw [tl_len, h]; simp
  rw [tl_cut, HT.sIx_none]
  have : HT.sIx z.length z.length (some (-1)) = a.length := by
    show (if (-1 : Int) < 0 then ((-1 : Int) + (z.length : Int)).toNat else min (-1 : Int).toNat z.length) = _
    rw [if_pos (by decide)]; omega
  rw [this, h]
  simp
theorem g_repl1 {to : TE} {y z : Str} {σ : L2.St} {H : Hp} {Q : VK} (h : to σ H fun v H1 => ∃ x, v = .str x ∧ x.length + z.length ≤ 16777216 ∧ Q (.str (repl1 x y z)) H1) : tRepl1 to y z σ H Q := h
theorem g_m0 {r : V → List V → Hp → VK → Prop} {to : TE} {σ : L2.St} {H : Hp} {Q : VK} (h : to σ H fun x H1 => (∃ a, x = .str a) ∧ r x [] H1 Q) : tM0 r to σ H Q := h
theorem num3 {n : Nat} (h : 100 ≤ n) (h2 : n ≤ 999) : (TL.numL n).length = 3 ∧ ∀ c ∈ TL.numL n, 48 ≤ c ∧ c ≤ 57 := by
  rw [TL.numL_step (by omega), TL.numL_step (by omega), TL.numL_lt (by omega)]
  refine ⟨by simp, fun c hc => ?_⟩
  simp at hc
  rcases hc with rfl | rfl | rfl <;> omega
theorem log3 {n : Int} (h0 : 0 ≤ n) (h1 : n ≤ 999) : n.natAbs.log2 < 1920 := by
  have h : n.natAbs < 2 ^ 10 := by omega
  by_cases e : n.natAbs = 0
  · rw [e]; decide
  · have := (Nat.log2_lt e).mpr h
    omega
theorem rd_spoilt {K : PySem.W.Frag} {vs : List V} {H : Hp} {Q : VK} {E : XK} (h : sp_spoilt K vs H Q E) : t_spoilt K { nx := fun _ H' => Q .non H', rt := Q } (start N_spoilt vs) H := by
  obtain ⟨d, r, nms, z, f, rfl, hd, hn, ok, hf, hz, k⟩ := h
  have hwl := Fm.wl_len f ok
  have hcs := Fm.cnt_size f ok
  have hwr := Fm.wl_wr f ok
  have hzl := tl_len z
  rw [hf] at hwl hcs hwr
  have hln : z.length ≤ 478 := by omega
  have fin : ∀ (y : Str) (H' : Hp) (l : List Nat), Chg [d] H H' → Dr H' d → tl y = l → l.length ≤ 2000 → l.count 40 < 100 → NoW l → Q (.str y) H' := fun y H' l c hd e h1 h2 h3 => by
    subst e
    exact k y H' c hd (by rw [tl_len]; exact h1) h2 h3
  have cj : ∀ l : List Nat, l.Sublist (tl z) → l.count 40 ≤ 40 := fun l hl => by
    have := hl.count_le 40
    omega
  unfold t_spoilt
  walk_at "go"
  refine g_take hd (by decide) fun w H1 w0 w1 c1 hd1 => ?_
  walk_at "go"
  refine g_lenS (big (by omega)) ?_
  walk_at "go"
  refine g_take hd1 (by omega) fun v H2 v0 v1 c2 hd2 => ?_
  have c02 := c1.trans c2
  have hn2 := hn.keep c02
  obtain ⟨n, rfl⟩ : ∃ n : Nat, v = (n : Int) := ⟨v.toNat, by omega⟩
  have hn1 : n ≤ z.length := by omega
  have htd : (tl z).take n ++ (tl z).drop n = tl z := List.take_append_drop _ _
  have hct := cj _ (List.take_sublist n (tl z))
  have hcd := cj _ (List.drop_sublist n (tl z))
  have hcz := cj _ (List.Sublist.refl (tl z))
  have hlt := List.length_take_le n (tl z)
  have hld : ((tl z).drop n).length = (tl z).length - n := List.length_drop
  have l1 := congrArg List.length (cut_to z hn1)
  have l2 := congrArg List.length (cut_from z hn1)
  rw [← tl_len] at l1 l2
  walk_at "go"
  refine g_2 (fun b => ?_) (fun b0 => ?_)
  · walk_at "go"
    refine ⟨z, rfl, big (by omega), ?_⟩
    walk_at "go"
    refine g_addS (big (by rw [l1, show (" " : Str).length = 1 by decide +kernel]; omega)) ?_
    walk_at "go"
    refine ⟨z, rfl, big (by omega), ?_⟩
    refine g_addS (big (by rw [app_len, l1, l2, show (" " : Str).length = 1 by decide +kernel]; omega)) ?_
    refine fin _ H2 ((tl z).take n ++ 32 :: (tl z).drop n) c02 hd2 ?_ ?_ ?_ (now_blank ok (by rw [hf, htd]))
    · rw [tl_app, tl_app, cut_to z hn1, cut_from z hn1, show tl (" " : Str) = [32] by decide +kernel]; simp
    · simp only [List.length_append, List.length_cons, List.length_nil]; omega
    · simp only [List.count_append, List.count_cons, List.count_nil, Nat.reduceBEq, Bool.false_eq_true, reduceIte]; omega
  · walk_at "go"
    refine g_2 (fun b => ?_) (fun b1 => ?_)
    · walk_at "go"
      refine g_addS (big (by rw [show (")" : Str).length = 1 by decide +kernel]; omega)) ?_
      refine fin _ H2 (f.wl ++ [41]) c02 hd2 ?_ ?_ ?_ (now_close ok)
      · rw [tl_app, hf, show tl (")" : Str) = [41] by decide +kernel]
      · rw [hf]; simp only [List.length_append, List.length_cons, List.length_nil]; omega
      · rw [hf]; simp only [List.count_append, List.count_cons, List.count_nil, Nat.reduceBEq, Bool.false_eq_true, reduceIte]; omega
    · walk_at "go"
      refine g_2 (fun b => ?_) (fun b2 => ?_)
      · walk_at "go"
        obtain ⟨a, c, hac⟩ : ∃ a c, tl z = a ++ [c] := by
          rcases List.eq_nil_or_concat (tl z) with q | ⟨a, c, q⟩
          · exact absurd (hf.trans q) (Fm.wl_ne ok)
          · exact ⟨a, c, by rw [q]; simp⟩
        refine g_ixS (big (by omega)) (c := c) (by show atI (tl z) (-1) = _; rw [hac]; exact atI_last a c) ?_
        walk_at "go"
        refine g_2 (fun b3 => ?_) (fun b3 => ?_)
        · have e3 := of_decide_eq_true b3
          have e4 : c = 41 := by
            have := congrArg tl e3
            rw [tl_one, show tl (")" : Str) = [41] by decide +kernel] at this
            exact (List.cons.inj this).1
          subst e4
          walk_at "go"
          refine ⟨z, rfl, big (by omega), ?_⟩
          refine fin _ H2 a c02 hd2 (cut_last hac) ?_ ?_ (now_drop ok (by rw [hf, hac]))
          · have := congrArg List.length hac
            simp only [List.length_append, List.length_cons, List.length_nil] at this; omega
          · have := cj a (by rw [hac]; exact List.sublist_append_left _ _)
            omega
        · walk_at "go"
          refine g_addS (big (by rw [show ("(" : Str).length = 1 by decide +kernel]; omega)) ?_
          refine fin _ H2 (f.wl ++ [40]) c02 hd2 ?_ ?_ ?_ (now_open ok)
          · rw [tl_app, hf, show tl ("(" : Str) = [40] by decide +kernel]
          · rw [hf]; simp only [List.length_append, List.length_cons, List.length_nil]; omega
          · rw [hf]; simp only [List.count_append, List.count_cons, List.count_nil, Nat.reduceBEq, Bool.false_eq_true, reduceIte]; omega
      · walk_at "go"
        refine g_2 (fun b => ?_) (fun b3 => ?_)
        · walk_at "go"
          refine g_addS (big (by rw [show ("\n" : Str).length = 1 by decide +kernel]; omega)) ?_
          walk_at "go"
          refine g_addS (big (by rw [show ("\n" : Str).length = 1 by decide +kernel]; omega)) ?_
          walk_at "go"
          refine g_newL (big (by simp)) fun p H3 hp c3 h3 => ?_
          walk_at "go"
          refine g_take (hd2.keep c3) (by decide) fun x H4 x0 x1 c4 hd4 => ?_
          obtain ⟨y, hy, e⟩ := strs_at (l := [z ++ "\n", "\n" ++ z]) x0 (by show x < 2; exact x1)
          refine g_ixL (c4.ob _ _ (hd2.off hp) h3) e ?_
          have hy2 : tl y = tl z ++ [10] ∨ tl y = 10 :: tl z := by
            simp only [List.mem_cons, List.not_mem_nil, or_false] at hy
            rcases hy with rfl | rfl
            · left; rw [tl_app, show tl ("\n" : Str) = [10] by decide +kernel]
            · right; rw [tl_app, show tl ("\n" : Str) = [10] by decide +kernel]; rfl
          rcases hy2 with q | q
          · refine fin _ H4 _ ((c02.trans c3.all).trans c4) hd4 q (by simp only [List.length_append, List.length_cons, List.length_nil]; omega) (by simp only [List.count_append, List.count_cons, List.count_nil, Nat.reduceBEq, Bool.false_eq_true, reduceIte]; omega) (now_out (c := 10) (by simp) (by unfold Wr; omega))
          · refine fin _ H4 _ ((c02.trans c3.all).trans c4) hd4 q (by simp only [List.length_append, List.length_cons, List.length_nil]; omega) (by simp only [List.count_append, List.count_cons, List.count_nil, Nat.reduceBEq, Bool.false_eq_true, reduceIte]; omega) (now_out (c := 10) (by simp) (by unfold Wr; omega))
        · walk_at "go"
          refine g_2 (fun b => ?_) (fun b4 => ?_)
          · walk_at "go"
            refine g_addS (big (by rw [show ("0" : Str).length = 1 by decide +kernel]; omega)) ?_
            refine fin _ H2 (48 :: f.wl) c02 hd2 ?_ ?_ ?_ (now_zero ok)
            · rw [tl_app, hf, show tl ("0" : Str) = [48] by decide +kernel]; rfl
            · rw [hf]; simp only [List.length_append, List.length_cons, List.length_nil]; omega
            · rw [hf]; simp only [List.count_append, List.count_cons, List.count_nil, Nat.reduceBEq, Bool.false_eq_true, reduceIte]; omega
          · walk_at "go"
            refine g_2 (fun b => ?_) (fun b5 => ?_)
            · walk_at "go"
              refine g_addS (big (by rw [show ("()" : Str).length = 2 by decide +kernel]; omega)) ?_
              refine fin _ H2 (tl z ++ [40, 41]) c02 hd2 ?_ ?_ ?_ now_pair
              · rw [tl_app, show tl ("()" : Str) = [40, 41] by decide +kernel]
              · simp only [List.length_append, List.length_cons, List.length_nil]; omega
              · simp only [List.count_append, List.count_cons, List.count_nil, Nat.reduceBEq, Bool.false_eq_true, reduceIte]; omega
            · walk_at "go"
              refine g_2 (fun b => ?_) (fun b6 => ?_)
              · walk_at "go"
                refine ⟨_, _, rfl, rfl, ?_⟩
                walk_at "go"
                refine g_2 (fun b7 => ?_) (fun b7 => ?_)
                · walk_at "go"
                  refine g_repl1 ?_
                  walk_at "go"
                  refine ⟨z, rfl, by rw [show ("," : Str).length = 1 by decide +kernel]; omega, ?_⟩
                  obtain ⟨a, b, e1, e2⟩ := repl1_tl (x := z) (y := ", ") (z := ",") (by decide +kernel) b7
                  rw [show (", " : Str).cps.toList = [44, 32] by decide +kernel] at e1
                  rw [show ("," : Str).cps.toList = [44] by decide +kernel] at e2
                  have e1 : tl z = a ++ ([44, 32] ++ b) := e1
                  have hl := congrArg List.length e1
                  have hc := congrArg (List.count 40) e1
                  simp only [List.length_append, List.length_cons, List.length_nil] at hl
                  simp only [List.count_append, List.count_cons, List.count_nil, Nat.reduceBEq, Bool.false_eq_true, reduceIte] at hc
                  refine fin _ H2 (a ++ ([44] ++ b)) c02 hd2 e2 ?_ ?_ (now_comma ok (by rw [hf, e1]))
                  · simp only [List.length_append, List.length_cons, List.length_nil]; omega
                  · simp only [List.count_append, List.count_cons, List.count_nil, Nat.reduceBEq, Bool.false_eq_true, reduceIte]; omega
                · walk_at "go"
                  refine g_addS (big (by rw [show ("," : Str).length = 1 by decide +kernel]; omega)) ?_
                  refine fin _ H2 (f.wl ++ [44]) c02 hd2 ?_ ?_ ?_ (now_comma2 ok)
                  · rw [tl_app, hf, show tl ("," : Str) = [44] by decide +kernel]
                  · rw [hf]; simp only [List.length_append, List.length_cons, List.length_nil]; omega
                  · rw [hf]; simp only [List.count_append, List.count_cons, List.count_nil, Nat.reduceBEq, Bool.false_eq_true, reduceIte]; omega
              · walk_at "go"
                refine g_2 (fun b => ?_) (fun b7 => ?_)
                · walk_at "go"
                  refine g_lenS (big (by omega)) ?_
                  walk_at "go"
                  refine g_lcR (S := []) (by omega) (fun _ z => nomatch z) (fun i acc _ => i ≤ z.length ∧ ∃ ks : List Nat, acc = ks.map (fun k : Nat => V.int (k : Int)) ∧ ks.length ≤ i ∧ ∀ k ∈ ks, ∃ c, (tl z)[k]? = some c ∧ 97 ≤ c ∧ c ≤ 122) (fun _ _ _ _ _ _ _ q => q) (fun _ _ => ⟨Nat.zero_le _, [], rfl, Nat.le_refl _, fun _ z => nomatch z⟩) (fun i acc _ ⟨q1, ks, e, q2, _⟩ => bigl (by rw [e]; simp; omega)) (fun i hi acc H' Yes No c q yes no => ?_) (fun p acc H3 hp c3 h3 q => ?_)
                  · obtain ⟨q1, ks, rfl, q2, q3⟩ := q
                    have hil : i < (tl z).length := by omega
                    have hg : (tl z)[i]? = some (tl z)[i] := List.getElem?_eq_getElem hil
                    walk_at "go"
                    refine g_m0 ?_
                    walk_at "go"
                    refine g_ixS (big (by omega)) (atI_nat hg) ?_
                    refine ⟨⟨_, rfl⟩, _, rfl, rfl, trivial, ?_⟩
                    rw [low_ascii _ (hwr _ (List.getElem_mem hil)).lt]
                    walk_at "go"
                    refine g_2 (fun b => ?_) (fun b => ?_)
                    · walk_at "go"
                      refine yes _ _ (Chg.refl _) ⟨by omega, ks ++ [i], by simp, by simp; omega, fun k hk => ?_⟩
                      rcases List.mem_append.mp hk with q | q
                      · exact q3 k q
                      · rw [List.mem_singleton.mp q]; exact ⟨_, hg, of_decide_eq_true b⟩
                    · exact no _ (Chg.refl _) ⟨by omega, ks, rfl, by omega, q3⟩
                  · obtain ⟨q1, ks, rfl, q2, q3⟩ := q
                    have c3 : Ext H2 H3 := c3
                    walk_at "go"
                    refine g_2 (fun b => ?_) (fun b8 => ?_)
                    · walk_at "go"
                      refine g_addS (big (by rw [show ("A" : Str).length = 1 by decide +kernel]; omega)) ?_
                      refine fin _ H3 (tl z ++ [65]) (c02.trans c3.all) (hd2.keep c3) ?_ ?_ ?_ (now_out (c := 65) (by simp) (by unfold Wr; omega))
                      · rw [tl_app, show tl ("A" : Str) = [65] by decide +kernel]
                      · simp only [List.length_append, List.length_cons, List.length_nil]; omega
                      · simp only [List.count_append, List.count_cons, List.count_nil, Nat.reduceBEq, Bool.false_eq_true, reduceIte]; omega
                    · have b8 := of_decide_eq_false b8
                      simp only [List.length_map] at b8
                      walk_at "go"
                      simp only [List.length_map]
                      refine g_take (hd2.keep c3) (by omega) fun x H4 x0 x1 c4 hd4 => ?_
                      obtain ⟨m, rfl⟩ : ∃ m : Nat, x = (m : Int) := ⟨x.toNat, by omega⟩
                      have hm : m < ks.length := by omega
                      refine g_ixL (c4.ob _ _ (hd2.off hp) h3) (v := .int (ks[m] : Nat)) (atI_nat (by rw [List.getElem?_map, List.getElem?_eq_getElem hm]; rfl)) ?_
                      obtain ⟨c, hc, lo, hi⟩ := q3 ks[m] (List.getElem_mem hm)
                      generalize ks[m] = j at hc
                      have hj := (List.getElem?_eq_some_iff.mp hc).1
                      have hj1 : j ≤ z.length := by omega
                      have hj2 : j + 1 ≤ z.length := by omega
                      have m1 := congrArg List.length (cut_to z hj1)
                      have m2 := congrArg List.length (cut_from z hj2)
                      rw [← tl_len] at m1 m2
                      have m3 := List.length_take_le j (tl z)
                      have m4 : ((tl z).drop (j + 1)).length = (tl z).length - (j + 1) := List.length_drop
                      have hct := cj _ (List.take_sublist j (tl z))
                      have hcd := cj _ (List.drop_sublist (j + 1) (tl z))
                      walk_at "go"
                      refine ⟨z, rfl, big (by omega), ?_⟩
                      walk_at "go"
                      refine g_m0 ?_
                      walk_at "go"
                      refine g_ixS (big (by omega)) (atI_nat hc) ?_
                      refine ⟨⟨_, rfl⟩, _, rfl, rfl, by rw [one_len]; decide, ?_⟩
                      rw [up_ascii c (by omega) ⟨lo, hi⟩]
                      refine g_addS (big (by rw [m1, one_len]; omega)) ?_
                      walk_at "go"
                      rw [show (j : Int) + 1 = ((j + 1 : Nat) : Int) by omega]
                      refine ⟨z, rfl, big (by omega), ?_⟩
                      refine g_addS (big (by rw [app_len, m1, m2, one_len]; omega)) ?_
                      refine fin _ H4 ((tl z).take j ++ (c - 32) :: (tl z).drop (j + 1)) ((c02.trans c3.all).trans c4) hd4 ?_ ?_ ?_ (now_out (c := c - 32) (by simp) (by unfold Wr; omega))
                      · rw [tl_app, tl_app, cut_to z hj1, cut_from z hj2, tl_one]; simp
                      · simp only [List.length_append, List.length_cons, List.length_nil]; omega
                      · have : ((c - 32) == 40) = false := by simp; omega
                        rw [List.count_append, List.count_cons, this]; simp only [Bool.false_eq_true, reduceIte]; omega
                · walk_at "go"
                  -- ways 8, 9
                  have part : ∀ (D : Ends) (y : Str) (o5 : Option V) (H5 : Hp) (cc : Chg [d] H H5) (hdd : Dr H5 d), D.rt = Q → y.length ≤ 9 → (tl y).count 40 = 0 → 44 ∉ tl y → NoW (tl y) →
                      (tRet (tOp (rIxL K) (tLst (tCons (tVar 6) (tCons (tOp rAddS_ (tOp rAddS_ (tOp rAddS_ (tOp (rIxL K) (tVar 1) (tCall (sp_take K) [] E0 (tCons (tVar 0) (tCons (tC (.int 26)) tNil)))) (tC (.str "("))) (tVar 6)) (tC (.str ")"))) tNil))) (tCall (sp_take K) [] E0 (tCons (tVar 0) (tCons (tC (.int 2)) tNil))))) D [some (.ref d), some (.ref r), some (.str z), some (.int w), some (.int (n : Int)), o5, some (.str y), none] H5 := by
                    intro D y o5 H5 cc hdd hD hy9 hy40 hy44 hyn
                    subst hD
                    have hnn := hn.keep cc
                    have hyl := tl_len y
                    walk_at "go"
                    refine g_take hdd (by decide) fun x H6 x0 x1 c6 hd6 => ?_
                    have hn6 := hnn.keep c6
                    obtain ⟨s, hs, hat⟩ := nm_at hn6.ok x0 x1
                    have hg := hn6.ok.good s hs
                    have hsm := hg.most
                    refine g_ixL hn6.at_ hat ?_
                    walk_at "go"
                    refine g_addS (big (by rw [show ("(" : Str).length = 1 by decide +kernel]; omega)) ?_
                    walk_at "go"
                    refine g_addS (big (by rw [app_len, show ("(" : Str).length = 1 by decide +kernel]; omega)) ?_
                    walk_at "go"
                    refine g_addS (big (by rw [app_len, app_len, show ("(" : Str).length = 1 by decide +kernel, show (")" : Str).length = 1 by decide +kernel]; omega)) ?_
                    walk_at "go"
                    refine g_newL (big (by simp)) fun p H7 hp c7 h7 => ?_
                    walk_at "go"
                    refine g_take (hd6.keep c7) (by decide) fun u H8 u0 u1 c8 hd8 => ?_
                    obtain ⟨t, ht, e⟩ := strs_at (l := [y, s ++ "(" ++ y ++ ")"]) u0 (by show u < 2; exact u1)
                    refine g_ixL (c8.ob _ _ (hd6.off hp) h7) e ?_
                    have c08 := ((cc.trans c6).trans c7.all).trans c8
                    simp only [List.mem_cons, List.not_mem_nil, or_false] at ht
                    rcases ht with rfl | rfl
                    · exact fin _ H8 _ c08 hd8 rfl (by omega) (by omega) hyn
                    · have hs40 : (tl s).count 40 = 0 := tl_word hg 40 (by omega)
                      have hsl := tl_len s
                      refine fin _ H8 (tl s ++ 40 :: (tl y ++ [41])) c08 hd8 ?_ ?_ ?_ (now_part hg.low hyn hy44)
                      · rw [tl_app, tl_app, tl_app, show tl ("(" : Str) = [40] by decide +kernel, show tl (")" : Str) = [41] by decide +kernel]; simp
                      · simp only [List.length_append, List.length_cons, List.length_nil]; omega
                      · simp only [List.count_append, List.count_cons, List.count_nil, Nat.reduceBEq, Bool.false_eq_true, reduceIte]; omega
                  refine g_2 (fun b => ?_) (fun b8 => ?_)
                  · walk_at "go"
                    refine g_take hd2 (by decide) fun x H3 x0 x1 c3 hd3 => ?_
                    have hx := num3 (n := (100 + x).toNat) (by omega) (by omega)
                    walk_at "go"
                    refine ⟨_, rfl, log3 (by omega) (by omega), ?_⟩
                    have e3 := tl_int (n := 100 + x) (by omega)
                    have hlen : (Str.ofString (toString (100 + x))).length = 3 := by rw [tl_len, e3, hx.1]
                    have hw9 : ¬ w = 9 := by
                      have := of_decide_eq_true b
                      omega
                    walk_at "go"
                    rw [decide_eq_false hw9]
                    refine g_fa ?_
                    refine g_next ?_
                    dsimp only
                    refine part _ _ _ _ (c02.trans c3) hd3 (by rfl) (by show (Str.ofString (toString (100 + x))).length ≤ 9; omega) ?_ ?_ ?_
                    · show (tl (Str.ofString (toString (100 + x)))).count 40 = 0
                      rw [e3]
                      exact List.count_eq_zero.mpr fun q => by have := hx.2 40 q; omega
                    · show 44 ∉ tl (Str.ofString (toString (100 + x)))
                      rw [e3]
                      exact fun q => by have := hx.2 44 q; omega
                    · show NoW (tl (Str.ofString (toString (100 + x))))
                      rw [e3]
                      exact now_num hx.1 hx.2
                  · walk_at "go"
                    refine g_2 (fun b => ?_) (fun b9 => ?_)
                    · walk_at "go"
                      refine g_take hd2 (by decide) fun x H3 x0 x1 c3 hd3 => ?_
                      walk_at "go"
                      refine ⟨_, rfl, log3 (by omega) (by omega), ?_⟩
                      walk_at "go"
                      rw [decide_eq_true (of_decide_eq_true b)]
                      walk_at "go"
                      refine g_take hd3 (by decide) fun y H4 y0 y1 c4 hd4 => ?_
                      have hn4 := (hn2.keep c3).keep c4
                      obtain ⟨s, hs, hat⟩ := nm_at hn4.ok y0 y1
                      have hg := hn4.ok.good s hs
                      have hsm := hg.most
                      have hsp := hg.pos
                      refine g_ixL hn4.at_ hat ?_
                      walk_at "go"
                      have ha8 : ("abcdefgh" : Str).length = 8 := by decide +kernel
                      refine g_addS (big (by rw [ha8]; omega)) ?_
                      walk_at "go"
                      refine ⟨_, rfl, big (by rw [app_len, ha8]; omega), ?_⟩
                      refine g_name ?_
                      dsimp only
                      have hlow : Low (cutS (s ++ "abcdefgh") none (some 9)) := (hg.low.app (fun c hc => by
                        rw [show tl ("abcdefgh" : Str) = [97, 98, 99, 100, 101, 102, 103, 104] by decide +kernel] at hc
                        simp at hc
                        omega)).cut
                      have h9 : (tl (cutS (s ++ "abcdefgh") none (some 9))).length = 9 := by
                        have := cut_to (s ++ "abcdefgh") (n := 9) (by rw [app_len, ha8]; omega)
                        rw [show (some (9 : Int)) = some ((9 : Nat) : Int) from rfl, this, List.length_take, ← tl_len, app_len, ha8]
                        omega
                      refine part _ _ _ _ ((c02.trans c3).trans c4) hd4 (by rfl) (by rw [tl_len, h9]; exact Nat.le_refl _) ?_ ?_ (now_nine h9 hlow)
                      · exact List.count_eq_zero.mpr fun q => by have := hlow 40 q; omega
                      · exact fun q => by have := hlow 44 q; omega
                    · walk_at "go"
                      refine g_2 (fun b => ?_) (fun b10 => ?_)
                      · walk_at "go"
                        exact fin _ H2 [] c02 hd2 (by decide +kernel) (by decide) (by decide) now_empty
                      · walk_at "go"
                        refine ⟨d, rfl, hd2, fun y H3 c3 hd3 hy => ?_⟩
                        obtain ⟨o1, o2, o3⟩ := odd_no hy
                        exact k y H3 (c02.trans c3) hd3 (by omega) (by omega) o1
def t_law (K : PySem.W.Frag) : TS := (tSeq (tAsg (tCall (sp_names K) [] E0 (tCons (tSl (rSlL K) (tVar 0) tNoPart (tPart (tC (.int 1)))) tNil)) (gName 1))
  (tSeq (tAsg (tCall (sp_stream K) [] E0 (tCons (tSl (rSlL K) (tVar 0) (tPart (tC (.int 1))) tNoPart) tNil)) (gName 2))
  (tSeq (tFor (iRng1 (tCons (tC (.int 2)) tNil)) (gName 3)
  (tSeq (tAsg (tCall (sp_wide K 5) [] E0 (tCons (tVar 2) (tCons (tVar 1) (tCons (tC (.int 3)) tNil)))) (gName 4))
  (tSeq (tAsg (tCall (sp_written K 30) [] E0 (tCons (tVar 4) tNil)) (gName 5))
  (tSeq (tIfS (tNot (tB (tCall (sp_same K 30) [] E0 (tCons (tCall (sp_rform K) [] E0 (tCons (tVar 5) tNil)) (tCons (tVar 4) tNil))))) (tRet (tC (.bl false)))
  tNext)
  (tSeq (tIfS (tNot (tB (tCall (sp_refused K) [] E0 (tCons (tCall (sp_spoilt K) [] E0 (tCons (tVar 2) (tCons (tVar 1) (tCons (tVar 5) tNil)))) tNil)))) (tRet (tC (.bl false)))
  tNext)
  (tIfS (tNot (tB (tCall (sp_same K 30) [] E0 (tCons (tCall (sp_rform K) [] E0 (tCons (tVar 5) tNil)) (tCons (tVar 4) tNil))))) (tRet (tC (.bl false)))
  tNext))))))
  (tRet (tC (.bl true))))))
abbrev N_law : List Str := ["_law_script", "_law_names_here", "_law_draws", "_law_k", "_law_form", "_law_text"]
theorem rd_law {K : PySem.W.Frag} (G : KF K) {vs : List V} {H : Hp} {Q : VK} {E : XK} (h : spLaw K vs H Q E) : t_law K { nx := fun _ H' => Q .non H', rt := Q } (start N_law vs) H := by
  obtain ⟨a, ns, rfl, hS, h63, k⟩ := h
  unfold t_law
  walk_at "go"
  refine g_slL hS fun p1 H1 hp1 c1 h1 => ?_
  walk_at "go"
  refine ⟨p1, ns.take 1, rfl, .inl (.inl (by rw [h1, cut_head])), by simp; omega, fun r H2 nms hr c2 h2 ok => ?_⟩
  walk_at "go"
  refine g_slL ((c1.trans c2).same.seq hS) fun p3 H3 hp3 c3 h3 => ?_
  walk_at "go"
  refine ⟨p3, ns.drop 1, rfl, .inl (.inl (by rw [h3, cut_tail])), by simp; omega, fun d H4 hd4 c4 hd => ?_⟩
  have hr4 := (c3.trans c4).at h2
  have rd : r ∉ [d] := by
    intro z
    have := c3.at h2
    rw [List.mem_singleton.mp z, hd4] at this
    cases this
  have hn : Nms H4 d r nms := ⟨hr4, ok, rd⟩
  have e1 : wideB 3 = 40 := rfl
  walk_at "go"
  refine g_forR (by decide) (fun i σ H' => ∃ (o3 o4 o5 : Option V), σ = [some (.ref a), some (.ref r), some (.ref d), o3, o4, o5] ∧ Chg [d] H4 H' ∧ Dr H' d)
    ⟨none, none, none, rfl, Chg.refl _, hd⟩ ?_ ?_
  · rintro i σ H' hi ⟨o3, o4, o5, rfl, c, hd⟩
    have hn' := hn.keep c
    walk_at "go"
    refine ⟨d, r, 3, nms, rfl, by decide, hd, hn', fun x H5 f c5 hd5 hf fk fz fd => ?_⟩
    walk_at "go"
    refine ⟨x, f, rfl, hf, fk, by omega, by omega, fun z H6 c6 ez => ?_⟩
    have hwl := Fm.wl_len f fk
    have hcs := Fm.cnt_size f fk
    have hzl := tl_len z
    rw [← ez] at hwl hcs
    have rf : ∀ {H0 : Hp} {Q0 : VK}, Ext H6 H0 → (∀ v H', Ext H0 H' → IsF H' f v → Q0 v H') → sp_rform K ([.str z] ++ []) H0 Q0 E0 := fun {H0 Q0} cA kk => ⟨z, rfl, by omega, by show (tl z).count 40 < 100; omega, fun g gok hg v HA cA hv => by
      have eg : g = f := by
        have h1 := parse_all (z := z) (by show (tl z).count 40 < 100; omega) gok hg
        have h2 := parse_all (z := z) (by show (tl z).count 40 < 100; omega) fk ez.symm
        rw [h1] at h2
        exact congrArg Prod.fst (Option.some.inj h2)
      subst eg
      exact kk v HA cA hv, fun hb => (hb f fk ez.symm).elim⟩
    walk_at "go"
    refine rf (Chg.refl _) fun v H7 c7 hv => ?_
    walk_at "go"
    refine ⟨v, x, f, rfl, hv, (hf.up c6).up c7, by omega, by omega, ?_⟩
    walk_at "go"
    have hd7 := (hd5.keep c6).keep c7
    refine ⟨d, r, nms, z, f, rfl, hd7, ((hn'.keep c5).keep0 c6).keep0 c7, fk, ez.symm, by omega, fun y H8 c8 hd8 hy1 hy2 hy3 => ?_⟩
    walk_at "go"
    refine ⟨y, G, rfl, hy1, hy2, hy3, fun H9 c9 => ?_⟩
    walk_at "go"
    have hx9 : IsF H9 f x := (((hf.up c6).up c7).up c8).up c9
    refine ⟨z, rfl, by omega, by show (tl z).count 40 < 100; omega, fun g gok hg v2 HA cA hv2 => ?_, fun hb => (hb f fk ez.symm).elim⟩
    have eg : g = f := by
      have h1 := parse_all (z := z) (by show (tl z).count 40 < 100; omega) gok hg
      have h2 := parse_all (z := z) (by show (tl z).count 40 < 100; omega) fk ez.symm
      rw [h1] at h2
      exact congrArg Prod.fst (Option.some.inj h2)
    subst eg
    walk_at "go"
    refine ⟨v2, x, g, rfl, hv2, hx9.up cA, by omega, by omega, ?_⟩
    walk_at "go"
    exact ⟨_, _, _, rfl, (((((c.trans c5).trans c6.all).trans c7.all).trans c8).trans c9.all).trans cA.all, (hd8.keep c9).keep cA⟩
  · rintro σ H' ⟨o3, o4, o5, rfl, c, hd⟩
    walk_at "go"
    exact k _

end My

namespace Prog
open PySem PySem.Spec PyProof.Rows L2 My
theorem sc_take : FnScope N_take ["_law_draws", "_law_many"] (defScope s_take) := ⟨rfl, rfl, rfl, by decide +kernel, rfl, by decide +kernel, by decide +kernel⟩
theorem sc_stream : FnScope N_stream ["_law_script"] (defScope s_stream) := ⟨rfl, rfl, rfl, by decide +kernel, rfl, by decide +kernel, by decide +kernel⟩
theorem sc_names : FnScope N_names ["_law_cells"] (defScope s_names) := ⟨rfl, rfl, rfl, by decide +kernel, rfl, by decide +kernel, by decide +kernel⟩
theorem sc_word : FnScope N_word ["text"] (defScope s_word) := ⟨rfl, rfl, rfl, by decide +kernel, rfl, by decide +kernel, by decide +kernel⟩
theorem sc_write : FnScope N_write ["form"] (defScope s_write) := ⟨rfl, rfl, rfl, by decide +kernel, rfl, by decide +kernel, by decide +kernel⟩
theorem sc_written : FnScope N_written ["_law_form"] (defScope s_written) := ⟨rfl, rfl, rfl, by decide +kernel, rfl, by decide +kernel, by decide +kernel⟩
theorem sc_endof : FnScope N_endof ["text", "start", "chars"] (defScope s_endof) := ⟨rfl, rfl, rfl, by decide +kernel, rfl, by decide +kernel, by decide +kernel⟩
theorem sc_part : FnScope N_part ["text", "start"] (defScope s_part) := ⟨rfl, rfl, rfl, by decide +kernel, rfl, by decide +kernel, by decide +kernel⟩
theorem sc_rform : FnScope N_rform ["text"] (defScope s_rform) := ⟨rfl, rfl, rfl, by decide +kernel, rfl, by decide +kernel, by decide +kernel⟩
theorem sc_same : FnScope N_same ["_law_answer", "_law_due"] (defScope s_same) := ⟨rfl, rfl, rfl, by decide +kernel, rfl, by decide +kernel, by decide +kernel⟩
theorem sc_wide : FnScope N_wide ["_law_draws", "_law_names_here", "_law_depth"] (defScope s_wide) := ⟨rfl, rfl, rfl, by decide +kernel, rfl, by decide +kernel, by decide +kernel⟩
theorem sc_odd : FnScope N_odd ["_law_draws"] (defScope s_odd) := ⟨rfl, rfl, rfl, by decide +kernel, rfl, by decide +kernel, by decide +kernel⟩
theorem sc_spoilt : FnScope N_spoilt ["_law_draws", "_law_names_here", "_law_text"] (defScope s_spoilt) := ⟨rfl, rfl, rfl, by decide +kernel, rfl, by decide +kernel, by decide +kernel⟩
theorem sc_refused : FnScope N_refused ["_law_text"] (defScope s_refused) := ⟨rfl, rfl, rfl, by decide +kernel, rfl, by decide +kernel, by decide +kernel⟩
theorem sc_law : FnScope N_law ["_law_script"] (defScope s_law) := ⟨rfl, rfl, rfl, by decide +kernel, rfl, by decide +kernel, by decide +kernel⟩
theorem sc_init_BadText : SupScope ["self", "text"] ["self", "text"] (defScope s_init_BadText) := ⟨rfl, rfl, rfl, by decide +kernel, rfl, by decide +kernel, by decide +kernel, by decide +kernel, rfl, rfl⟩
structure SaysP (P : Program) (K : PySem.W.Frag) : Prop where
  c : SaysM fa fn ex K
  hf : ((P.main.file : Str) == ("/claim/cut.py" : Str)) = true
  ht : (P.main.scope.names.lookup ("super" : Str)).isSome = false
theorem SaysP.fact {P : Program} {K : PySem.W.Frag} (c : SaysP P K) (i : Nat) {f : He.Fa} (h : fa[i]? = some f := by rfl) : f.ok K = true := c.c.fact i h
theorem SaysP.more {P : Program} {K : PySem.W.Frag} (c : SaysP P K) (i : Nat) {x : Ex} (h : ex[i]? = some x := by rfl) : x K = true := c.c.more i h
theorem SaysP.defC {P : Program} {K : PySem.W.Frag} (c : SaysP P K) (i : Nat) {d : DefM} (h : fn[i]? = some d := by rfl) : ∃ fd, FunC K d.name d.qual d.params d.body d.scope (d.cl K) (d.at_ K) fd := c.c.defC i h
theorem SaysP.def_ {P : Program} {K : PySem.W.Frag} (c : SaysP P K) (i : Nat) {d : DefM} (h : fn[i]? = some d := by rfl) (hc : d.clo = [] := by rfl) : ∃ fd, FunD K d.name d.qual d.params d.body d.scope [] [] (d.at_ K) fd := c.c.def_ i h hc
section
variable {P : Program} {w : World} {K : PySem.W.Frag} {mg : Str → Option Value} {base : Heap} {h : Heap}
theorem ok_err_BadText (X : K.In h) (G : h.Ns mainGlobals mg) (c : SaysP P K) : ErrK P w K mg base 1 "BadText" "BadText" "text" := by
  obtain ⟨h1, h2, h3, h4, h5⟩ := errM_ok (c.more 5 (x := errM "BadText" "BadText" "text" "/claim/cut.py") rfl)
  obtain ⟨fd, F⟩ := c.defC 15 (d := d_init_BadText) rfl
  refine ⟨h1, h2, h3, h4, He.glo_ok X G (c.fact 27 (f := .glo "BadText") rfl), fd, ["self", "text"], ?_, FunC.bindsN F (fun _ _ _ _ _ _ us hl => match us, hl with | [_, _], _ => rfl)⟩
  exact fn_init (t := tOst K "text" (tVar 0) (tVar 1)) F sc_init_BadText h1.cellAt h5 c.hf c.ht rfl rfl rfl init1_len (init1_sp rfl) (fun cdv A outer s H E => pss_one (ps_ost (pv 0) (pv 1))) (fun _ _ => rfl)
theorem ok_take (X : K.In h) (G : h.Ns mainGlobals mg) (c : SaysP P K) : Cl P w K mg base CX0 1 "_law_take" (sp_take K) := by
  obtain ⟨fd, F⟩ := c.def_ 0 (d := d_take) rfl
  have f_int := He.free_ok X G (c.fact 15 (f := .free "int") rfl)
  have f_len := He.free_ok X G (c.fact 16 (f := .free "len") rfl)
  refine ⟨_, fd, ["_law_draws", "_law_many"], F.ok sc_take (fun vs H Q E h => len_take h) (fun cdv A outer s H vs Q E hr h => ⟨t_take K, PSs.nox ?_, rd_take h⟩), He.glo_ok X G (c.fact 0 (f := .glo "_law_take") rfl), F.kp, FunD.bindsN F (fun _ _ _ _ _ _ us hl => match us, hl with | [_, _], _ => rfl)⟩
  exact (pss_cons (ps_if (pt_cmpR op_eq (pe_callB call_len_seq rfl f_len boot_len (pa_cons (pv 0) pa_nil)) pe_int (nomark _)) (pss_one (ps_ret pe_int))
    pss_nil)
    (pss_one (ps_ret (pe_op op_mod (pe_callTy call_int1 rfl f_int boot_int (pa_cons (pe_bm PySem.F.plainAttrs_list PySem.F.slot_list_pop PySem.F.type_list_pop mt_popAt (pv 0) (pa_cons pe_int pa_nil)) pa_nil)) (pv 1)))))
theorem ok_stream (X : K.In h) (G : h.Ns mainGlobals mg) (c : SaysP P K) : Cl P w K mg base CX0 1 "_law_stream" (sp_stream K) := by
  obtain ⟨fd, F⟩ := c.def_ 1 (d := d_stream) rfl
  have f_abs := He.free_ok X G (c.fact 17 (f := .free "abs") rfl)
  have f_int := He.free_ok X G (c.fact 15 (f := .free "int") rfl)
  have f_len := He.free_ok X G (c.fact 16 (f := .free "len") rfl)
  have f_range := He.free_ok X G (c.fact 18 (f := .free "range") rfl)
  refine ⟨_, fd, ["_law_script"], F.ok sc_stream (fun vs H Q E h => len_stream h) (fun cdv A outer s H vs Q E hr h => ⟨t_stream K, PSs.nox ?_, rd_stream h⟩), He.glo_ok X G (c.fact 1 (f := .glo "_law_stream") rfl), F.kp, FunD.bindsN F (fun _ _ _ _ _ _ us hl => match us, hl with | [_], _ => rfl)⟩
  exact (pss_cons (ps_set (i := 1) sc_stream.nd rfl (Or.inl rfl) (pe_lst pa_nil))
    (pss_cons (ps_set (i := 2) sc_stream.nd rfl (Or.inl rfl) pe_int)
    (pss_cons (ps_for PassesOwn.never rfl (pi_list (pv 0)) (pg_name (i := 3) sc_stream.nd rfl (Or.inl rfl))
    (pss_cons (ps_set (i := 4) sc_stream.nd rfl (Or.inl rfl) (pe_callB call_abs rfl f_abs boot_abs (pa_cons (pe_callTy call_int1 rfl f_int boot_int (pa_cons (pv 3) pa_nil)) pa_nil)))
    (pss_cut (ps_if (pt_cmpR op_lt (pv 4) (pe_op op_pow pe_int pe_int) (nomark _)) (pss_cons (ps_expr (pe_bm PySem.F.plainAttrs_list PySem.F.slot_list_append PySem.F.type_list_append mt_append (pv 1) (pa_cons (pe_op op_mod (pe_callTy call_int1 rfl f_int boot_int (pa_cons (pv 3) pa_nil)) pe_int) pa_nil)))
    (pss_one (ps_set (i := 4) sc_stream.nd rfl (Or.inl rfl) pe_int)))
    pss_nil)
    (pss_cons (ps_for PassesOwn.never rfl (pi_range1 rfl f_range (pa_cons pe_int pa_nil)) (pg_name (i := 5) sc_stream.nd rfl (Or.inl rfl))
    (pss_one (ps_if (pt_cmpR op_gt (pv 4) pe_int (nomark _)) (pss_cons (ps_expr (pe_bm PySem.F.plainAttrs_list PySem.F.slot_list_append PySem.F.type_list_append mt_append (pv 1) (pa_cons (pe_op op_mod (pe_callTy call_int1 rfl f_int boot_int (pa_cons (pv 4) pa_nil)) pe_int) pa_nil)))
    (pss_one (ps_set (i := 4) sc_stream.nd rfl (Or.inl rfl) (pe_op op_fdiv (pv 4) pe_int))))
    pss_nil)))
    (pss_one (ps_set (i := 2) sc_stream.nd rfl (Or.inl rfl) (pe_op op_add (pe_op op_mod (pe_callTy call_int1 rfl f_int boot_int (pa_cons (pe_op op_add (pe_op op_mul (pv 2) pe_int) (pe_callTy call_int1 rfl f_int boot_int (pa_cons (pv 3) pa_nil))) pa_nil)) pe_int) pe_int)))))))
    (pss_cons (ps_set (i := 6) sc_stream.nd rfl (Or.inl rfl) (pe_op op_add (pe_op op_mul (pv 2) pe_int) pe_int))
    (pss_cons (ps_for PassesOwn.never rfl (pi_range1 rfl f_range (pa_cons (pe_op op_mul pe_int (pe_callTy call_int1 rfl f_int boot_int (pa_cons (pe_cmpR op_gt (pe_callB call_len_seq rfl f_len boot_len (pa_cons (pv 0) pa_nil)) pe_int (nomark _)) pa_nil))) pa_nil)) (pg_name (i := 5) sc_stream.nd rfl (Or.inl rfl))
    (pss_cons (ps_set (i := 2) sc_stream.nd rfl (Or.inl rfl) (pe_op op_mod (pe_callTy call_int1 rfl f_int boot_int (pa_cons (pe_op op_mul (pv 2) pe_int) pa_nil)) pe_int))
    (pss_cons (ps_set (i := 6) sc_stream.nd rfl (Or.inl rfl) (pe_op op_mod (pe_callTy call_int1 rfl f_int boot_int (pa_cons (pe_op op_mul (pv 6) pe_int) pa_nil)) pe_int))
    (pss_one (ps_expr (pe_bm PySem.F.plainAttrs_list PySem.F.slot_list_append PySem.F.type_list_append mt_append (pv 1) (pa_cons (pe_op op_mod (pe_callTy call_int1 rfl f_int boot_int (pa_cons (pe_op op_add (pe_op op_fdiv (pv 2) pe_int) (pe_op op_fdiv (pv 6) pe_int)) pa_nil)) pe_int) pa_nil)))))))
    (pss_one (ps_ret (pe_slice sl_list (pv 1) po_none (po_some pe_int)))))))))
theorem ok_names (X : K.In h) (G : h.Ns mainGlobals mg) (c : SaysP P K) : Cl P w K mg base CX0 1 "_law_names" (sp_names K) := by
  obtain ⟨fd, F⟩ := c.def_ 2 (d := d_names) rfl
  have f_abs := He.free_ok X G (c.fact 17 (f := .free "abs") rfl)
  have f_int := He.free_ok X G (c.fact 15 (f := .free "int") rfl)
  have f_range := He.free_ok X G (c.fact 18 (f := .free "range") rfl)
  have f_sum := He.free_ok X G (c.fact 19 (f := .free "sum") rfl)
  refine ⟨_, fd, ["_law_cells"], F.ok sc_names (fun vs H Q E h => len_names h) (fun cdv A outer s H vs Q E hr h => ⟨t_names K, PSs.nox ?_, rd_names h⟩), He.glo_ok X G (c.fact 2 (f := .glo "_law_names") rfl), F.kp, FunD.bindsN F (fun _ _ _ _ _ _ us hl => match us, hl with | [_], _ => rfl)⟩
  exact (pss_cons (ps_set (i := 1) sc_names.nd rfl (Or.inr rfl) pe_str)
    (pss_cons (ps_set (i := 2) sc_names.nd rfl (Or.inl rfl) (pe_callB call_abs rfl f_abs boot_abs (pa_cons (pe_callB (cr_sum rfl) rfl f_sum boot_sum (pa_cons (pe_lc (own := [("_law_cell", 12)]) (g := (gName 12)) (tt := tYes) rfl sc_names.nd  (pi_list (pv 0)) (blkOk_by (own := [("_law_cell", 12)]) (N := N_names) (sc := defScope s_names) (by decide +kernel)) (fun _ _ _ _ _ => pg_name (i := 12) sc_names.nd rfl (Or.inl rfl)) (fun _ _ _ _ _ => pts_nil) (fun _ _ _ _ _ => (pe_callTy call_int1 rfl f_int boot_int (pa_cons (pv 12) pa_nil)))) pa_nil)) pa_nil)))
    (pss_cut (ps_if (PW.pt (pw_and (pt_cmpR op_lt pe_int (pv 2) (nomark _)) (pw_and1 (pt_cmpR op_lt (pv 2) (pe_op op_pow pe_int pe_int) (nomark _))))) (pss_one (ps_set (i := 2) sc_names.nd rfl (Or.inl rfl) (pe_op op_pow (pe_op op_add (pv 2) pe_int) pe_int)))
    pss_nil)
    (pss_cons (ps_set (i := 3) sc_names.nd rfl (Or.inl rfl) (pe_ix ix_list (pe_lst (pa_cons pe_int (pa_cons pe_int (pa_cons pe_int (pa_cons pe_int (pa_cons pe_int (pa_cons pe_int (pa_cons pe_int (pa_cons pe_int (pa_cons pe_int (pa_cons pe_int (pa_cons pe_int (pa_cons pe_int pa_nil))))))))))))) (pe_op op_mod (pe_callTy call_int1 rfl f_int boot_int (pa_cons (pv 2) pa_nil)) pe_int) (fun _ _ => rfl)))
    (pss_cons (ps_set (i := 4) sc_names.nd rfl (Or.inl rfl) (pe_op op_mod (pe_callTy call_int1 rfl f_int boot_int (pa_cons (pe_op op_fdiv (pv 2) pe_int) pa_nil)) pe_int))
    (pss_cons (ps_set (i := 5) sc_names.nd rfl (Or.inl rfl) (pe_op op_mod (pe_callTy call_int1 rfl f_int boot_int (pa_cons (pe_op op_fdiv (pv 2) pe_int) pa_nil)) pe_int))
    (pss_cons (ps_set (i := 2) sc_names.nd rfl (Or.inl rfl) (pe_op op_fdiv (pv 2) pe_int))
    (pss_cons (ps_set (i := 6) sc_names.nd rfl (Or.inr rfl) (pe_lst pa_nil))
    (pss_cons (ps_for PassesOwn.never rfl (pi_range1 rfl f_range (pa_cons pe_int pa_nil)) (pg_name (i := 7) sc_names.nd rfl (Or.inl rfl))
    (pss_cons (ps_set (i := 8) sc_names.nd rfl (Or.inl rfl) (pe_ix ix_str (pv 1) (pe_op op_mod (pe_callTy call_int1 rfl f_int boot_int (pa_cons (pe_op op_add (pe_op op_mul (pv 7) (pv 3)) (pv 4)) pa_nil)) pe_int) (fun _ _ => rfl)))
    (pss_cons (ps_set (i := 9) sc_names.nd rfl (Or.inl rfl) (pe_slice sl_str (pe_slice sl_str (pe_op op_add_str (pv 1) (pv 1)) (po_some (pe_op op_mod (pe_callTy call_int1 rfl f_int boot_int (pa_cons (pv 2) pa_nil)) pe_int)) po_none) po_none (po_some (pe_op op_mod (pe_callTy call_int1 rfl f_int boot_int (pa_cons (pe_op op_fdiv (pv 2) pe_int) pa_nil)) pe_int))))
    (pss_cons (ps_expr (pe_bm PySem.F.plainAttrs_list PySem.F.slot_list_append PySem.F.type_list_append mt_append (pv 6) (pa_cons (pe_ix ix_list (pe_lst (pa_cons (pe_op op_add_str (pv 8) (pv 9)) (pa_cons (pe_op op_add_str (pv 9) (pv 8)) pa_nil))) (pv 5) (fun _ _ => rfl)) pa_nil)))
    (pss_one (ps_set (i := 2) sc_names.nd rfl (Or.inl rfl) (pe_op op_fdiv (pv 2) pe_int)))))))
    (pss_cons (ps_setLc (i := 10) (own := [("_law_k", 7)]) (g := (gName 7)) (tt := tYes) rfl sc_names.nd rfl rfl (sw_true rfl rfl rfl (by decide +kernel)) (pi_range1 rfl f_range (pa_cons pe_int pa_nil)) (blkOk_by (own := [("_law_k", 7)]) (N := N_names) (sc := defScope s_names) (by decide +kernel)) (fun _ _ _ _ _ => pg_name (i := 7) sc_names.nd rfl (Or.inl rfl)) (fun _ _ _ _ _ => pts_nil) (fun _ _ _ _ _ => (pe_op op_add_str (pe_ix ix_str (pv 1) (pe_op op_mod (pe_callTy call_int1 rfl f_int boot_int (pa_cons (pv 7) pa_nil)) pe_int) (fun _ _ => rfl)) (pe_ix ix_str (pv 1) (pe_op op_mod (pe_callTy call_int1 rfl f_int boot_int (pa_cons (pe_op op_add (pe_op op_add (pe_op op_mul (pv 7) pe_int) (pe_op op_fdiv (pv 7) pe_int)) pe_int) pa_nil)) pe_int) (fun _ _ => rfl)))))
    (pss_one (ps_ret (pe_op op_cat (pv 6) (pe_lc (own := [("_law_name", 11)]) (g := (gName 11)) (tt := (tTest (tOp (rIn K true) (tVar 11) (tVar 6)))) rfl sc_names.nd  (pi_list (pv 10)) (blkOk_by (own := [("_law_name", 11)]) (N := N_names) (sc := defScope s_names) (by decide +kernel)) (fun _ _ _ _ _ => pg_name (i := 11) sc_names.nd rfl (Or.inl rfl)) (fun _ _ _ _ _ => pts_one (pt_cmpR op_notIn_seq (pv 11) (pv 6) (by with_unfolding_all rfl))) (fun _ _ _ _ _ => (pv 11))))))))))))))))
theorem ok_word (X : K.In h) (G : h.Ns mainGlobals mg) (c : SaysP P K) : Cl P w K mg base CX0 1 "is_word" (sp_word K) := by
  obtain ⟨fd, F⟩ := c.def_ 3 (d := d_word) rfl
  have k_LETTERS : ∃ u, mg "LETTERS" = some u ∧ RelV (.str "abcdefghijklmnopqrstuvwxyz") u := by
    obtain ⟨t, e⟩ := He.str_ok X G (c.fact 20 (f := .str "LETTERS" "abcdefghijklmnopqrstuvwxyz") rfl)
    exact ⟨_, e, ⟨t, rfl⟩⟩
  have f_len := He.free_ok X G (c.fact 16 (f := .free "len") rfl)
  refine ⟨_, fd, ["text"], F.ok sc_word (fun vs H Q E h => len_word h) (fun cdv A outer s H vs Q E hr h => ⟨t_word K, PSs.nox ?_, rd_word h⟩), He.glo_ok X G (c.fact 3 (f := .glo "is_word") rfl), F.kp, FunD.bindsN F (fun _ _ _ _ _ _ us hl => match us, hl with | [_], _ => rfl)⟩
  exact (pss_cons (ps_if (pt_not (pt_chain op_le op_le pe_int (pe_callB call_len_str rfl f_len boot_len (pa_cons (pv 0) pa_nil)) pe_int)) (pss_one (ps_ret pe_bl))
    pss_nil)
    (pss_cons (ps_for PassesOwn.never rfl (pi_str (pv 0)) (pg_name (i := 1) sc_word.nd rfl (Or.inl rfl))
    (pss_one (ps_if (pt_cmpR op_notIn_sign (pv 1) (pe_gc rfl k_LETTERS) (by with_unfolding_all rfl)) (pss_one (ps_ret pe_bl))
    pss_nil)))
    (pss_one (ps_ret pe_bl))))
theorem ok_write (X : K.In h) (G : h.Ns mainGlobals mg) (c : SaysP P K) : ∀ n : Nat, Cl P w K mg base CX0 (0 + n) "write_form" (sp_write K n) := by
  obtain ⟨fd, F⟩ := c.def_ 4 (d := d_write) rfl
  have f_int := He.free_ok X G (c.fact 15 (f := .free "int") rfl)
  have f_isinstance := He.free_ok X G (c.fact 21 (f := .free "isinstance") rfl)
  have f_len := He.free_ok X G (c.fact 16 (f := .free "len") rfl)
  have f_str := He.free_ok X G (c.fact 22 (f := .free "str") rfl)
  have gl := He.glo_ok X G (c.fact 4 (f := .glo "write_form") rfl)
  have bd := FunD.bindsN (ps := ["form"]) F (fun _ _ _ _ _ _ us hl => match us, hl with | [_], _ => rfl)
  intro n
  induction n with
  | zero => exact ⟨_, fd, ["form"], ⟨fun vs H Q E h => absurd h (no_write vs H Q E), fun A outer s H args us vs Q E _ _ _ _ h => absurd h (no_write vs H Q E)⟩, gl, F.kp, bd⟩
  | succ n ih =>
    refine ⟨_, fd, ["form"], F.ok (k := 0 + n) sc_write (fun vs H Q E h => len_write h) (fun cdv A outer s H vs Q E hr h => ⟨t_write K (sp_write K n), PSs.nox ?_, rd_write h⟩), gl, F.kp, bd⟩
    exact (pss_cons (ps_if (pt_val (pe_callB call_isi rfl f_isinstance boot_isinstance (pa_cons (pv 0) (pa_cons (pe_bltn rfl f_int boot_int rfl) pa_nil)))) (pss_one (ps_ret (pe_callTy call_str_int rfl f_str boot_str (pa_cons (pv 0) pa_nil))))
    pss_nil)
    (pss_cons (ps_if (pt_cmpR op_eq (pe_callB call_len_seq rfl f_len boot_len (pa_cons (pv 0) pa_nil)) pe_int (nomark _)) (pss_one (ps_ret (pe_ix ix_tup (pv 0) pe_int (fun _ _ => rfl))))
    pss_nil)
    (pss_cons (ps_set (i := 1) sc_write.nd rfl (Or.inl rfl) (pe_join pe_str (pe_lc (own := [("part", 2)]) (g := (gName 2)) (tt := tYes) rfl sc_write.nd  (pi_tup (pe_slice sl_tup (pv 0) (po_some pe_int) po_none)) (blkOk_by (own := [("part", 2)]) (N := N_write) (sc := defScope s_write) (by decide +kernel)) (fun _ _ _ _ _ => pg_name (i := 2) sc_write.nd rfl (Or.inl rfl)) (fun _ _ _ _ _ => pts_nil) (fun _ _ _ _ _ => (pe_cl ih hr (by omega) pass0 (pa_cons (pv 2) pa_nil))))))
    (pss_one (ps_ret (pe_joined (.cons (pe_fmt (pe_ix ix_tup (pv 0) pe_int (fun _ _ => rfl))) (.cons pe_str (.cons (pe_fmt (pv 1)) (.cons pe_str .nil))))))))))
theorem ok_written (X : K.In h) (G : h.Ns mainGlobals mg) (c : SaysP P K) : ∀ n : Nat, Cl P w K mg base CX0 (0 + n) "_law_written" (sp_written K n) := by
  obtain ⟨fd, F⟩ := c.def_ 5 (d := d_written) rfl
  have f_int := He.free_ok X G (c.fact 15 (f := .free "int") rfl)
  have f_isinstance := He.free_ok X G (c.fact 21 (f := .free "isinstance") rfl)
  have f_len := He.free_ok X G (c.fact 16 (f := .free "len") rfl)
  have f_range := He.free_ok X G (c.fact 18 (f := .free "range") rfl)
  have f_str := He.free_ok X G (c.fact 22 (f := .free "str") rfl)
  have gl := He.glo_ok X G (c.fact 5 (f := .glo "_law_written") rfl)
  have bd := FunD.bindsN (ps := ["_law_form"]) F (fun _ _ _ _ _ _ us hl => match us, hl with | [_], _ => rfl)
  intro n
  induction n with
  | zero => exact ⟨_, fd, ["_law_form"], ⟨fun vs H Q E h => absurd h (no_written vs H Q E), fun A outer s H args us vs Q E _ _ _ _ h => absurd h (no_written vs H Q E)⟩, gl, F.kp, bd⟩
  | succ n ih =>
    refine ⟨_, fd, ["_law_form"], F.ok (k := 0 + n) sc_written (fun vs H Q E h => len_written h) (fun cdv A outer s H vs Q E hr h => ⟨t_written K (sp_written K n), PSs.nox ?_, rd_written h⟩), gl, F.kp, bd⟩
    exact (pss_cons (ps_if (pt_val (pe_callB call_isi rfl f_isinstance boot_isinstance (pa_cons (pv 0) (pa_cons (pe_bltn rfl f_int boot_int rfl) pa_nil)))) (pss_one (ps_ret (pe_callTy call_str_int rfl f_str boot_str (pa_cons (pv 0) pa_nil))))
    pss_nil)
    (pss_cons (ps_if (pt_cmpR op_eq (pe_callB call_len_seq rfl f_len boot_len (pa_cons (pv 0) pa_nil)) pe_int (nomark _)) (pss_one (ps_ret (pe_ix ix_tup (pv 0) pe_int (fun _ _ => rfl))))
    pss_nil)
    (pss_cons (ps_set (i := 1) sc_written.nd rfl (Or.inl rfl) (pe_op op_add_str (pe_ix ix_tup (pv 0) pe_int (fun _ _ => rfl)) pe_str))
    (pss_cons (ps_for PassesOwn.never rfl (pi_range2 rfl f_range (pa_cons pe_int (pa_cons (pe_callB call_len_seq rfl f_len boot_len (pa_cons (pv 0) pa_nil)) pa_nil))) (pg_name (i := 2) sc_written.nd rfl (Or.inl rfl))
    (pss_cons (ps_if (pt_cmpR op_gt (pv 2) pe_int (nomark _)) (pss_one (ps_set (i := 1) sc_written.nd rfl (Or.inl rfl) (pe_op op_add_str (pv 1) pe_str)))
    pss_nil)
    (pss_one (ps_set (i := 1) sc_written.nd rfl (Or.inl rfl) (pe_op op_add_str (pv 1) (pe_cl ih hr (by omega) pass0 (pa_cons (pe_ix ix_tup (pv 0) (pv 2) (fun _ _ => rfl)) pa_nil)))))))
    (pss_one (ps_ret (pe_op op_add_str (pv 1) pe_str)))))))
theorem ok_endof (X : K.In h) (G : h.Ns mainGlobals mg) (c : SaysP P K) : Cl P w K mg base CX0 1 "end_of" (sp_endof K) := by
  obtain ⟨fd, F⟩ := c.def_ 6 (d := d_endof) rfl
  have f_len := He.free_ok X G (c.fact 16 (f := .free "len") rfl)
  refine ⟨_, fd, ["text", "start", "chars"], F.ok sc_endof (fun vs H Q E h => len_endof h) (fun cdv A outer s H vs Q E hr h => ⟨t_endof K, PSs.nox ?_, rd_endof h⟩), He.glo_ok X G (c.fact 6 (f := .glo "end_of") rfl), F.kp, FunD.bindsN F (fun _ _ _ _ _ _ us hl => match us, hl with | [_, _, _], _ => rfl)⟩
  exact (pss_cons (ps_set (i := 3) sc_endof.nd rfl (Or.inl rfl) (pv 1))
    (pss_cons (ps_while PassesOwn.never (PW.pt (pw_and (pt_cmpR op_lt (pv 3) (pe_callB call_len_str rfl f_len boot_len (pa_cons (pv 0) pa_nil)) (nomark _)) (pw_and1 (pt_cmpR op_in_sign (pe_ix ix_str (pv 0) (pv 3) (fun _ _ => rfl)) (pv 2) (by with_unfolding_all rfl)))))
    (pss_one (ps_aug (i := 3) sc_endof.nd rfl (Or.inl rfl) pe_int ip_add)))
    (pss_one (ps_ret (pv 3)))))
theorem ok_part (X : K.In h) (G : h.Ns mainGlobals mg) (c : SaysP P K) : ∀ n : Nat, Cl P w K mg base (L2N.CX P w) (2 + n) "read_part" (sp_part K n) := by
  obtain ⟨fd, F⟩ := c.def_ 7 (d := d_part) rfl
  have k_DIGITS : ∃ u, mg "DIGITS" = some u ∧ RelV (.str "0123456789") u := by
    obtain ⟨t, e⟩ := He.str_ok X G (c.fact 23 (f := .str "DIGITS" "0123456789") rfl)
    exact ⟨_, e, ⟨t, rfl⟩⟩
  have k_LETTERS : ∃ u, mg "LETTERS" = some u ∧ RelV (.str "abcdefghijklmnopqrstuvwxyz") u := by
    obtain ⟨t, e⟩ := He.str_ok X G (c.fact 20 (f := .str "LETTERS" "abcdefghijklmnopqrstuvwxyz") rfl)
    exact ⟨_, e, ⟨t, rfl⟩⟩
  have e_BadText := ok_err_BadText (P := P) (w := w) (base := base) X G c
  have f_int := He.free_ok X G (c.fact 15 (f := .free "int") rfl)
  have f_len := He.free_ok X G (c.fact 16 (f := .free "len") rfl)
  have c_endof := ok_endof (P := P) (w := w) (base := base) X G c
  have c_word := ok_word (P := P) (w := w) (base := base) X G c
  have gl := He.glo_ok X G (c.fact 7 (f := .glo "read_part") rfl)
  have bd := FunD.bindsN (ps := ["text", "start"]) F (fun _ _ _ _ _ _ us hl => match us, hl with | [_, _], _ => rfl)
  intro n
  induction n with
  | zero => exact ⟨_, fd, ["text", "start"], ⟨fun vs H Q E h => absurd h (no_part vs H Q E), fun A outer s H args us vs Q E _ _ _ _ h => absurd h (no_part vs H Q E)⟩, gl, F.kp, bd⟩
  | succ n ih =>
    refine ⟨_, fd, ["text", "start"], F.ok (k := 2 + n) sc_part (fun vs H Q E h => len_part h) (fun cdv A outer s H vs Q E hr h => ⟨t_part K (sp_part K n) E, ?_, rd_part h⟩), gl, F.kp, bd⟩
    exact (pss_cons (ps_set (i := 2) sc_part.nd rfl (Or.inl rfl) (pe_cl c_endof hr (by omega) pass0 (pa_cons (pv 0) (pa_cons (pv 1) (pa_cons (pe_gc rfl k_DIGITS) pa_nil)))))
    (pss_cut (ps_if (pt_chain op_lt op_le (pv 1) (pv 2) (pe_op op_add (pv 1) pe_int)) (pss_one (ps_ret (pe_tup (pa_cons (pe_callTy call_int_str rfl f_int boot_int (pa_cons (pe_slice sl_str (pv 0) (po_some (pv 1)) (po_some (pv 2))) pa_nil)) (pa_cons (pv 2) pa_nil)))))
    pss_nil)
    (pss_cons (ps_set (i := 2) sc_part.nd rfl (Or.inl rfl) (pe_cl c_endof hr (by omega) pass0 (pa_cons (pv 0) (pa_cons (pv 1) (pa_cons (pe_gc rfl k_LETTERS) pa_nil)))))
    (pss_cut (ps_if (pt_not (pt_val (pe_cl c_word hr (by omega) pass0 (pa_cons (pe_slice sl_str (pv 0) (po_some (pv 1)) (po_some (pv 2))) pa_nil)))) (pss_one (ps_raise1 e_BadText rfl (L2N.takes_of rfl rfl rfl rfl) hr (by omega) (pv 0)))
    pss_nil)
    (pss_cons (ps_set (i := 3) sc_part.nd rfl (Or.inl rfl) (pe_lst pa_nil))
    (pss_cons (ps_set (i := 4) sc_part.nd rfl (Or.inl rfl) pe_str)
    (pss_cut (ps_while (passes_of rfl) (pt_cmpR op_eq (pe_slice sl_str (pv 0) (po_some (pv 2)) (po_some (pe_op op_add (pv 2) (pe_callB call_len_str rfl f_len boot_len (pa_cons (pv 4) pa_nil))))) (pv 4) (nomark _))
    (pss_cons (ps_asg (pe_cl ih hr (by omega) (L2N.passes_call (L2N.takes_of rfl rfl rfl rfl) (fun _ _ _ _ h => h)) (pa_cons (pv 0) (pa_cons (pe_op op_add (pv 2) (pe_callB call_len_str rfl f_len boot_len (pa_cons (pv 4) pa_nil))) pa_nil))) (pg_tup rfl (pgs_cons (pg_name (i := 5) sc_part.nd rfl (Or.inl rfl)) (pgs_cons (pg_name (i := 2) sc_part.nd rfl (Or.inl rfl)) pgs_nil))))
    (pss_cons (ps_expr (pe_bm PySem.F.plainAttrs_list PySem.F.slot_list_append PySem.F.type_list_append mt_append (pv 3) (pa_cons (pv 5) pa_nil)))
    (pss_one (ps_set (i := 4) sc_part.nd rfl (Or.inl rfl) pe_str)))))
    (pss_cut (ps_if (pt_truth (pv 3) (by intro _; rfl)) (pss_cons (ps_if (pt_cmpR op_ne (pe_slice sl_str (pv 0) (po_some (pv 2)) (po_some (pe_op op_add (pv 2) pe_int))) pe_str (nomark _)) (pss_one (ps_raise1 e_BadText rfl (L2N.takes_of rfl rfl rfl rfl) hr (by omega) (pv 0)))
    pss_nil)
    (pss_one (ps_aug (i := 2) sc_part.nd rfl (Or.inl rfl) pe_int ip_add)))
    pss_nil)
    (pss_one (ps_ret (pe_tup (pa_cons (pe_tup (pa_cons (pe_slice sl_str (pv 0) (po_some (pv 1)) (po_some (pe_cl c_endof hr (by omega) pass0 (pa_cons (pv 0) (pa_cons (pv 1) (pa_cons (pe_gc rfl k_LETTERS) pa_nil)))))) (StX.pa_star (pv 3) pa_nil))) (pa_cons (pv 2) pa_nil)))))))))))))
theorem ok_rform (X : K.In h) (G : h.Ns mainGlobals mg) (c : SaysP P K) : Cl P w K mg base (L2N.CX P w) 103 "read_form" (sp_rform K) := by
  obtain ⟨fd, F⟩ := c.def_ 8 (d := d_rform) rfl
  have e_BadText := ok_err_BadText (P := P) (w := w) (base := base) X G c
  have f_len := He.free_ok X G (c.fact 16 (f := .free "len") rfl)
  have c_part := ok_part (P := P) (w := w) (base := base) X G c 100
  have c_write := ok_write (P := P) (w := w) (base := base) X G c 100
  refine ⟨_, fd, ["text"], F.ok sc_rform (fun vs H Q E h => len_rform h) (fun cdv A outer s H vs Q E hr h => ⟨t_rform K E, ?_, rd_rform h⟩), He.glo_ok X G (c.fact 8 (f := .glo "read_form") rfl), F.kp, FunD.bindsN F (fun _ _ _ _ _ _ us hl => match us, hl with | [_], _ => rfl)⟩
  exact (pss_cons (ps_asg (pe_cl c_part hr (by omega) (L2N.passes_call (L2N.takes_of rfl rfl rfl rfl) (fun _ _ _ _ h => h)) (pa_cons (pv 0) (pa_cons pe_int pa_nil))) (pg_tup rfl (pgs_cons (pg_name (i := 1) sc_rform.nd rfl (Or.inl rfl)) (pgs_cons (pg_name (i := 2) sc_rform.nd rfl (Or.inl rfl)) pgs_nil))))
    (pss_cons (ps_if (PW.pt (pw_or (pt_cmpR op_ne (pv 2) (pe_callB call_len_str rfl f_len boot_len (pa_cons (pv 0) pa_nil)) (nomark _)) (pw_or1 (pt_cmpR op_ne (pe_cl c_write hr (by omega) pass0 (pa_cons (pv 1) pa_nil)) (pv 0) (nomark _))))) (pss_one (ps_raise1 e_BadText rfl (L2N.takes_of rfl rfl rfl rfl) hr (by omega) (pv 0)))
    pss_nil)
    (pss_one (ps_ret (pv 1)))))
theorem ok_same (X : K.In h) (G : h.Ns mainGlobals mg) (c : SaysP P K) : ∀ n : Nat, Cl P w K mg base CX0 (0 + n) "_law_same" (sp_same K n) := by
  obtain ⟨fd, F⟩ := c.def_ 9 (d := d_same) rfl
  have f_bool := He.free_ok X G (c.fact 24 (f := .free "bool") rfl)
  have f_int := He.free_ok X G (c.fact 15 (f := .free "int") rfl)
  have f_isinstance := He.free_ok X G (c.fact 21 (f := .free "isinstance") rfl)
  have f_len := He.free_ok X G (c.fact 16 (f := .free "len") rfl)
  have f_range := He.free_ok X G (c.fact 18 (f := .free "range") rfl)
  have f_str := He.free_ok X G (c.fact 22 (f := .free "str") rfl)
  have f_tuple := He.free_ok X G (c.fact 25 (f := .free "tuple") rfl)
  have gl := He.glo_ok X G (c.fact 9 (f := .glo "_law_same") rfl)
  have bd := FunD.bindsN (ps := ["_law_answer", "_law_due"]) F (fun _ _ _ _ _ _ us hl => match us, hl with | [_, _], _ => rfl)
  intro n
  induction n with
  | zero => exact ⟨_, fd, ["_law_answer", "_law_due"], ⟨fun vs H Q E h => absurd h (no_same vs H Q E), fun A outer s H args us vs Q E _ _ _ _ h => absurd h (no_same vs H Q E)⟩, gl, F.kp, bd⟩
  | succ n ih =>
    refine ⟨_, fd, ["_law_answer", "_law_due"], F.ok (k := 0 + n) sc_same (fun vs H Q E h => len_same h) (fun cdv A outer s H vs Q E hr h => ⟨t_same K (sp_same K n), PSs.nox ?_, rd_same h⟩), gl, F.kp, bd⟩
    exact (pss_cons (ps_if (pt_val (pe_callB call_isi rfl f_isinstance boot_isinstance (pa_cons (pv 1) (pa_cons (pe_bltn rfl f_int boot_int rfl) pa_nil)))) (pss_one (ps_ret (pe_and (pe_callB call_isi rfl f_isinstance boot_isinstance (pa_cons (pv 0) (pa_cons (pe_bltn rfl f_int boot_int rfl) pa_nil))) (pe_and (pe_not (pe_callB call_isi rfl f_isinstance boot_isinstance (pa_cons (pv 0) (pa_cons (pe_bltn rfl f_bool boot_bool rfl) pa_nil)))) (pe_one (pe_cmpR op_eq (pv 0) (pv 1) (nomark _)))))))
    pss_nil)
    (pss_cons (ps_if (PW.pt (pw_or (pt_not (pt_val (pe_callB call_isi rfl f_isinstance boot_isinstance (pa_cons (pv 0) (pa_cons (pe_bltn rfl f_tuple boot_tuple rfl) pa_nil))))) (pw_or1 (pt_cmpR op_ne (pe_callB call_len_seq rfl f_len boot_len (pa_cons (pv 0) pa_nil)) (pe_callB call_len_seq rfl f_len boot_len (pa_cons (pv 1) pa_nil)) (nomark _))))) (pss_one (ps_ret pe_bl))
    pss_nil)
    (pss_cons (ps_if (PW.pt (pw_or (pt_not (pt_val (pe_callB call_isi rfl f_isinstance boot_isinstance (pa_cons (pe_ix ix_tup (pv 0) pe_int (fun _ _ => rfl)) (pa_cons (pe_bltn rfl f_str boot_str rfl) pa_nil))))) (pw_or1 (pt_cmpR op_ne (pe_ix ix_tup (pv 0) pe_int (fun _ _ => rfl)) (pe_ix ix_tup (pv 1) pe_int (fun _ _ => rfl)) (nomark _))))) (pss_one (ps_ret pe_bl))
    pss_nil)
    (pss_cons (ps_for PassesOwn.never rfl (pi_range2 rfl f_range (pa_cons pe_int (pa_cons (pe_callB call_len_seq rfl f_len boot_len (pa_cons (pv 1) pa_nil)) pa_nil))) (pg_name (i := 2) sc_same.nd rfl (Or.inl rfl))
    (pss_one (ps_if (pt_not (pt_val (pe_cl ih hr (by omega) pass0 (pa_cons (pe_ix ix_tup (pv 0) (pv 2) (fun _ _ => rfl)) (pa_cons (pe_ix ix_tup (pv 1) (pv 2) (fun _ _ => rfl)) pa_nil))))) (pss_one (ps_ret pe_bl))
    pss_nil)))
    (pss_one (ps_ret pe_bl))))))
theorem ok_wide (X : K.In h) (G : h.Ns mainGlobals mg) (c : SaysP P K) : ∀ n : Nat, Cl P w K mg base CX0 (1 + n) "_law_any_form" (sp_wide K n) := by
  obtain ⟨fd, F⟩ := c.def_ 10 (d := d_wide) rfl
  have f_range := He.free_ok X G (c.fact 18 (f := .free "range") rfl)
  have f_tuple := He.free_ok X G (c.fact 25 (f := .free "tuple") rfl)
  have c_take := ok_take (P := P) (w := w) (base := base) X G c
  have gl := He.glo_ok X G (c.fact 10 (f := .glo "_law_any_form") rfl)
  have bd := FunD.bindsN (ps := ["_law_draws", "_law_names_here", "_law_depth"]) F (fun _ _ _ _ _ _ us hl => match us, hl with | [_, _, _], _ => rfl)
  intro n
  induction n with
  | zero => exact ⟨_, fd, ["_law_draws", "_law_names_here", "_law_depth"], ⟨fun vs H Q E h => absurd h (no_wide vs H Q E), fun A outer s H args us vs Q E _ _ _ _ h => absurd h (no_wide vs H Q E)⟩, gl, F.kp, bd⟩
  | succ n ih =>
    refine ⟨_, fd, ["_law_draws", "_law_names_here", "_law_depth"], F.ok (k := 1 + n) sc_wide (fun vs H Q E h => len_wide h) (fun cdv A outer s H vs Q E hr h => ⟨t_wide K (sp_wide K n), PSs.nox ?_, rd_wide h⟩), gl, F.kp, bd⟩
    exact (pss_cons (ps_if (PW.pt (pw_or (pt_cmpR op_eq (pv 2) pe_int (nomark _)) (pw_or1 (pt_cmpR op_eq (pe_cl c_take hr (by omega) pass0 (pa_cons (pv 0) (pa_cons pe_int pa_nil))) pe_int (nomark _))))) (pss_cons (ps_if (pt_cmpR op_eq (pe_cl c_take hr (by omega) pass0 (pa_cons (pv 0) (pa_cons pe_int pa_nil))) pe_int (nomark _)) (pss_one (ps_ret (pe_cl c_take hr (by omega) pass0 (pa_cons (pv 0) (pa_cons pe_int pa_nil)))))
    pss_nil)
    (pss_one (ps_ret (pe_tup (pa_cons (pe_ix ix_list (pv 1) (pe_cl c_take hr (by omega) pass0 (pa_cons (pv 0) (pa_cons pe_int pa_nil))) (fun _ _ => rfl)) pa_nil)))))
    pss_nil)
    (pss_cons (ps_set (i := 3) sc_wide.nd rfl (Or.inl rfl) (pe_lst (pa_cons (pe_ix ix_list (pv 1) (pe_cl c_take hr (by omega) pass0 (pa_cons (pv 0) (pa_cons pe_int pa_nil))) (fun _ _ => rfl)) pa_nil)))
    (pss_cons (ps_for PassesOwn.never rfl (pi_range1 rfl f_range (pa_cons (pe_cl c_take hr (by omega) pass0 (pa_cons (pv 0) (pa_cons pe_int pa_nil))) pa_nil)) (pg_name (i := 4) sc_wide.nd rfl (Or.inl rfl))
    (pss_one (ps_expr (pe_bm PySem.F.plainAttrs_list PySem.F.slot_list_append PySem.F.type_list_append mt_append (pv 3) (pa_cons (pe_cl ih hr (by omega) pass0 (pa_cons (pv 0) (pa_cons (pv 1) (pa_cons (pe_op op_sub (pv 2) pe_int) pa_nil)))) pa_nil)))))
    (pss_one (ps_ret (pe_callTy call_tuple_of rfl f_tuple boot_tuple (pa_cons (pv 3) pa_nil)))))))
theorem ok_odd (X : K.In h) (G : h.Ns mainGlobals mg) (c : SaysP P K) : Cl P w K mg base CX0 2 "_law_odd" (sp_odd K) := by
  obtain ⟨fd, F⟩ := c.def_ 11 (d := d_odd) rfl
  have c_take := ok_take (P := P) (w := w) (base := base) X G c
  refine ⟨_, fd, ["_law_draws"], F.ok sc_odd (fun vs H Q E h => len_odd h) (fun cdv A outer s H vs Q E hr h => ⟨t_odd K, PSs.nox ?_, rd_odd h⟩), He.glo_ok X G (c.fact 11 (f := .glo "_law_odd") rfl), F.kp, FunD.bindsN F (fun _ _ _ _ _ _ us hl => match us, hl with | [_], _ => rfl)⟩
  exact (pss_cons (ps_set (i := 1) sc_odd.nd rfl (Or.inl rfl) (pe_lst (pa_cons pe_str (pa_cons pe_str (pa_cons pe_str (pa_cons pe_str (pa_cons pe_str (pa_cons pe_str (pa_cons pe_str (pa_cons pe_str (pa_cons pe_str (pa_cons pe_str pa_nil))))))))))))
    (pss_cons (ps_set (i := 1) sc_odd.nd rfl (Or.inl rfl) (pe_op op_cat (pv 1) (pe_lst (pa_cons pe_str (pa_cons pe_str (pa_cons pe_str (pa_cons pe_str (pa_cons pe_str (pa_cons pe_str (pa_cons pe_str (pa_cons pe_str (pa_cons pe_str pa_nil))))))))))))
    (pss_one (ps_ret (pe_ix ix_list (pv 1) (pe_cl c_take hr (by omega) pass0 (pa_cons (pv 0) (pa_cons pe_int pa_nil))) (fun _ _ => rfl))))))
theorem ok_spoilt (X : K.In h) (G : h.Ns mainGlobals mg) (c : SaysP P K) : Cl P w K mg base CX0 3 "_law_spoilt" (sp_spoilt K) := by
  obtain ⟨fd, F⟩ := c.def_ 12 (d := d_spoilt) rfl
  have f_len := He.free_ok X G (c.fact 16 (f := .free "len") rfl)
  have f_range := He.free_ok X G (c.fact 18 (f := .free "range") rfl)
  have f_str := He.free_ok X G (c.fact 22 (f := .free "str") rfl)
  have c_take := ok_take (P := P) (w := w) (base := base) X G c
  have c_odd := ok_odd (P := P) (w := w) (base := base) X G c
  refine ⟨_, fd, ["_law_draws", "_law_names_here", "_law_text"], F.ok sc_spoilt (fun vs H Q E h => len_spoilt h) (fun cdv A outer s H vs Q E hr h => ⟨t_spoilt K, PSs.nox ?_, rd_spoilt h⟩), He.glo_ok X G (c.fact 12 (f := .glo "_law_spoilt") rfl), F.kp, FunD.bindsN F (fun _ _ _ _ _ _ us hl => match us, hl with | [_, _, _], _ => rfl)⟩
  exact (pss_cons (ps_set (i := 3) sc_spoilt.nd rfl (Or.inl rfl) (pe_cl c_take hr (by omega) pass0 (pa_cons (pv 0) (pa_cons pe_int pa_nil))))
    (pss_cons (ps_set (i := 4) sc_spoilt.nd rfl (Or.inl rfl) (pe_cl c_take hr (by omega) pass0 (pa_cons (pv 0) (pa_cons (pe_op op_add (pe_callB call_len_str rfl f_len boot_len (pa_cons (pv 2) pa_nil)) pe_int) pa_nil))))
    (pss_cons (ps_if (pt_cmpR op_eq (pv 3) pe_int (nomark _)) (pss_one (ps_ret (pe_op op_add_str (pe_op op_add_str (pe_slice sl_str (pv 2) po_none (po_some (pv 4))) pe_str) (pe_slice sl_str (pv 2) (po_some (pv 4)) po_none))))
    pss_nil)
    (pss_cons (ps_if (pt_cmpR op_eq (pv 3) pe_int (nomark _)) (pss_one (ps_ret (pe_op op_add_str (pv 2) pe_str)))
    pss_nil)
    (pss_cons (ps_if (pt_cmpR op_eq (pv 3) pe_int (nomark _)) (pss_cons (ps_if (pt_cmpR op_eq (pe_ix ix_str (pv 2) (pe_un un_neg pe_int) (fun _ _ => rfl)) pe_str (nomark _)) (pss_one (ps_ret (pe_slice sl_str (pv 2) po_none (po_some (pe_un un_neg pe_int)))))
    pss_nil)
    (pss_one (ps_ret (pe_op op_add_str (pv 2) pe_str))))
    pss_nil)
    (pss_cons (ps_if (pt_cmpR op_eq (pv 3) pe_int (nomark _)) (pss_one (ps_ret (pe_ix ix_list (pe_lst (pa_cons (pe_op op_add_str (pv 2) pe_str) (pa_cons (pe_op op_add_str pe_str (pv 2)) pa_nil))) (pe_cl c_take hr (by omega) pass0 (pa_cons (pv 0) (pa_cons pe_int pa_nil))) (fun _ _ => rfl))))
    pss_nil)
    (pss_cons (ps_if (pt_cmpR op_eq (pv 3) pe_int (nomark _)) (pss_one (ps_ret (pe_op op_add_str pe_str (pv 2))))
    pss_nil)
    (pss_cons (ps_if (pt_cmpR op_eq (pv 3) pe_int (nomark _)) (pss_one (ps_ret (pe_op op_add_str (pv 2) pe_str)))
    pss_nil)
    (pss_cons (ps_if (pt_cmpR op_eq (pv 3) pe_int (nomark _)) (pss_cons (ps_ifT (pv 2) (CwR.psst_one (CwR.pst_ret (pet_repl1 (pv 2)))) pss_nil (by with_unfolding_all rfl))
    (pss_one (ps_ret (pe_op op_add_str (pv 2) pe_str))))
    pss_nil)
    (pss_cons (ps_if (pt_cmpR op_eq (pv 3) pe_int (nomark _)) (pss_cons (ps_setLc (i := 5) (own := [("_law_k", 7)]) (g := (gName 7)) (tt := (tB (tM0 My.rIsLow (tOp rIxS (tVar 2) (tVar 7))))) rfl sc_spoilt.nd rfl rfl (sw_true rfl rfl rfl (by decide +kernel)) (pi_range1 rfl f_range (pa_cons (pe_callB call_len_str rfl f_len boot_len (pa_cons (pv 2) pa_nil)) pa_nil)) (blkOk_by (own := [("_law_k", 7)]) (N := N_spoilt) (sc := defScope s_spoilt) (by decide +kernel)) (fun _ _ _ _ _ => pg_name (i := 7) sc_spoilt.nd rfl (Or.inl rfl)) (fun _ _ _ _ _ => pts_one (pt_val (pe_m0 PySem.F.slot_str_islower PySem.F.type_str_islower mt_islower (pe_ix ix_str (pv 2) (pv 7) (fun _ _ => rfl))))) (fun _ _ _ _ _ => (pv 7)))
    (pss_cons (ps_if (pt_cmpR op_eq (pe_callB call_len_seq rfl f_len boot_len (pa_cons (pv 5) pa_nil)) pe_int (nomark _)) (pss_one (ps_ret (pe_op op_add_str (pv 2) pe_str)))
    pss_nil)
    (pss_cons (ps_set (i := 4) sc_spoilt.nd rfl (Or.inl rfl) (pe_ix ix_list (pv 5) (pe_cl c_take hr (by omega) pass0 (pa_cons (pv 0) (pa_cons (pe_callB call_len_seq rfl f_len boot_len (pa_cons (pv 5) pa_nil)) pa_nil))) (fun _ _ => rfl)))
    (pss_one (ps_ret (pe_op op_add_str (pe_op op_add_str (pe_slice sl_str (pv 2) po_none (po_some (pv 4))) (pe_upper (pe_ix ix_str (pv 2) (pv 4) (fun _ _ => rfl)))) (pe_slice sl_str (pv 2) (po_some (pe_op op_add (pv 4) pe_int)) po_none)))))))
    pss_nil)
    (pss_cons (ps_if (PW.pt (pw_or (pt_cmpR op_eq (pv 3) pe_int (nomark _)) (pw_or1 (pt_cmpR op_eq (pv 3) pe_int (nomark _))))) (pss_cons (ps_set (i := 6) sc_spoilt.nd rfl (Or.inl rfl) (pe_callTy call_str_int rfl f_str boot_str (pa_cons (pe_op op_add pe_int (pe_cl c_take hr (by omega) pass0 (pa_cons (pv 0) (pa_cons pe_int pa_nil)))) pa_nil)))
    (pss_cons (ps_if (pt_cmpR op_eq (pv 3) pe_int (nomark _)) (pss_one (ps_set (i := 6) sc_spoilt.nd rfl (Or.inl rfl) (pe_slice sl_str (pe_op op_add_str (pe_ix ix_list (pv 1) (pe_cl c_take hr (by omega) pass0 (pa_cons (pv 0) (pa_cons pe_int pa_nil))) (fun _ _ => rfl)) pe_str) po_none (po_some pe_int))))
    pss_nil)
    (pss_one (ps_ret (pe_ix ix_list (pe_lst (pa_cons (pv 6) (pa_cons (pe_op op_add_str (pe_op op_add_str (pe_op op_add_str (pe_ix ix_list (pv 1) (pe_cl c_take hr (by omega) pass0 (pa_cons (pv 0) (pa_cons pe_int pa_nil))) (fun _ _ => rfl)) pe_str) (pv 6)) pe_str) pa_nil))) (pe_cl c_take hr (by omega) pass0 (pa_cons (pv 0) (pa_cons pe_int pa_nil))) (fun _ _ => rfl))))))
    pss_nil)
    (pss_cons (ps_if (pt_cmpR op_eq (pv 3) pe_int (nomark _)) (pss_one (ps_ret pe_str))
    pss_nil)
    (pss_one (ps_ret (pe_cl c_odd hr (by omega) pass0 (pa_cons (pv 0) pa_nil))))))))))))))))
theorem ok_refused (X : K.In h) (G : h.Ns mainGlobals mg) (c : SaysP P K) : Cl P w K mg base CX0 104 "_law_refused" (sp_refused K) := by
  obtain ⟨fd, F⟩ := c.def_ 13 (d := d_refused) rfl
  have g_BadForm := He.glo_ok X G (c.fact 26 (f := .glo "BadForm") rfl)
  have g_BadText := He.glo_ok X G (c.fact 27 (f := .glo "BadText") rfl)
  have g_TableError := He.glo_ok X G (c.fact 28 (f := .glo "TableError") rfl)
  have f_ValueError := He.free_ok X G (c.fact 29 (f := .free "ValueError") rfl)
  have f_isinstance := He.free_ok X G (c.fact 21 (f := .free "isinstance") rfl)
  have f_str := He.free_ok X G (c.fact 22 (f := .free "str") rfl)
  have x_BadText := (excE_ok (c.more 0 (x := excE "BadText") rfl)).2
  have n_BadText_text := (errM_ok (c.more 5 (x := errM "BadText" "BadText" "text" "/claim/cut.py") rfl)).2.1
  have c_rform := ok_rform (P := P) (w := w) (base := base) X G c
  refine ⟨_, fd, ["_law_text"], F.ok sc_refused (fun vs H Q E h => len_refused h) (fun cdv A outer s H vs Q E hr h => ⟨t_refused K, PSs.nox ?_, rd_refused h⟩), He.glo_ok X G (c.fact 13 (f := .glo "_law_refused") rfl), F.kp, FunD.bindsN F (fun _ _ _ _ _ _ us hl => match us, hl with | [_], _ => rfl)⟩
  exact (pss_cons (ps_tryT (i := 1) rfl rfl sc_refused.nd rfl rfl (by exact ⟨rfl, by decide, .inl g_TableError⟩) (fun W pn xe tk po => (pss_one (ps_expr (pe_clS c_rform hr (by omega) (fun σ => L2N.passAt tk σ) (pa_cons (pv 0) pa_nil)))))
    (fun a oe cls d pn hz hf => (pss_cons (ps_if (PW.pt (pw_or (pt_not (pt_val (pe_callB (call_isD hz.zc hf) rfl f_isinstance boot_isinstance (pa_cons (pv 1) (pa_cons (pe_gc rfl ⟨_, g_BadText, rfl⟩) pa_nil))))) (pw_or (pt_not (pt_val (pe_callB (call_isD hz.zc hf) rfl f_isinstance boot_isinstance (pa_cons (pv 1) (pa_cons (pe_bltn rfl f_ValueError PyProof.Rows.Boot.«ValueError» rfl) pa_nil))))) (pw_or1 (pt_val (pe_callB (call_isD hz.zc hf) rfl f_isinstance boot_isinstance (pa_cons (pv 1) (pa_cons (pe_gc rfl ⟨_, g_BadForm, rfl⟩) pa_nil)))))))) (pss_one (ps_ret pe_bl))
    pss_nil)
    (pss_one (ps_ret (pe_and (pe_callB call_isi rfl f_isinstance boot_isinstance (pa_cons (pe_xf x_BadText n_BadText_text hz.zc hf (pv 1)) (pa_cons (pe_bltn rfl f_str boot_str rfl) pa_nil))) (pe_one (pe_cmpR op_eq (pe_xf x_BadText n_BadText_text hz.zc hf (pv 1)) (pv 0) (nomark _)))))))))
    (pss_one (ps_ret pe_bl)))
theorem ok_law_fn (X : K.In h) (G : h.Ns mainGlobals mg) (c : SaysP P K) {f : Addr} {fd : FuncData} (F : FnP K "law" "law" s_law f fd) : FnOk P w K mg base CX0 105 f fd ["_law_script"] (spLaw K) := by
  have f_range := He.free_ok X G (c.fact 18 (f := .free "range") rfl)
  have c_take := ok_take (P := P) (w := w) (base := base) X G c
  have c_stream := ok_stream (P := P) (w := w) (base := base) X G c
  have c_names := ok_names (P := P) (w := w) (base := base) X G c
  have c_written := ok_written (P := P) (w := w) (base := base) X G c 30
  have c_rform := ok_rform (P := P) (w := w) (base := base) X G c
  have c_same := ok_same (P := P) (w := w) (base := base) X G c 30
  have c_wide := ok_wide (P := P) (w := w) (base := base) X G c 5
  have c_refused := ok_refused (P := P) (w := w) (base := base) X G c
  have c_spoilt := ok_spoilt (P := P) (w := w) (base := base) X G c
  have q_BadText := errM_ok (c.more 5 (x := errM "BadText" "BadText" "text" "/claim/cut.py") rfl)
  have hK : KF K := ⟨q_BadText.1, q_BadText.2.1, (excE_ok (c.more 0 (x := excE "BadText") rfl)).1, exmE_ok (c.more 1 (x := exmE "BadText" "TableError" true) rfl), kitE_ok (c.more 2 (x := kitE "BadText" "BadText" true) rfl), kitT_ok (c.more 3 (x := kitT "BadText" "ValueError" true) rfl), kitE_ok (c.more 4 (x := kitE "BadText" "BadForm" false) rfl)⟩
  refine F.ok sc_law (fun vs H Q E h => len_law h) (fun cdv A outer s H vs Q E hr h => ⟨t_law K, PSs.nox ?_, rd_law hK h⟩)
  exact (pss_cons (ps_set (i := 1) sc_law.nd rfl (Or.inl rfl) (pe_cl c_names hr (by omega) pass0 (pa_cons (pe_slice sl_list (pv 0) po_none (po_some pe_int)) pa_nil)))
    (pss_cons (ps_set (i := 2) sc_law.nd rfl (Or.inl rfl) (pe_cl c_stream hr (by omega) pass0 (pa_cons (pe_slice sl_list (pv 0) (po_some pe_int) po_none) pa_nil)))
    (pss_cons (ps_for PassesOwn.never rfl (pi_range1 rfl f_range (pa_cons pe_int pa_nil)) (pg_name (i := 3) sc_law.nd rfl (Or.inl rfl))
    (pss_cons (ps_set (i := 4) sc_law.nd rfl (Or.inl rfl) (pe_cl c_wide hr (by omega) pass0 (pa_cons (pv 2) (pa_cons (pv 1) (pa_cons pe_int pa_nil)))))
    (pss_cons (ps_set (i := 5) sc_law.nd rfl (Or.inl rfl) (pe_cl c_written hr (by omega) pass0 (pa_cons (pv 4) pa_nil)))
    (pss_cons (ps_if (pt_not (pt_val (pe_cl c_same hr (by omega) pass0 (pa_cons (pe_cl c_rform hr (by omega) passN (pa_cons (pv 5) pa_nil)) (pa_cons (pv 4) pa_nil))))) (pss_one (ps_ret pe_bl))
    pss_nil)
    (pss_cons (ps_if (pt_not (pt_val (pe_cl c_refused hr (by omega) pass0 (pa_cons (pe_cl c_spoilt hr (by omega) pass0 (pa_cons (pv 2) (pa_cons (pv 1) (pa_cons (pv 5) pa_nil)))) pa_nil)))) (pss_one (ps_ret pe_bl))
    pss_nil)
    (pss_one (ps_if (pt_not (pt_val (pe_cl c_same hr (by omega) pass0 (pa_cons (pe_cl c_rform hr (by omega) passN (pa_cons (pv 5) pa_nil)) (pa_cons (pv 4) pa_nil))))) (pss_one (ps_ret pe_bl))
    pss_nil)))))))
    (pss_one (ps_ret pe_bl)))))
end
theorem facts {P : Program} {w : World} {K : PySem.W.Frag} {h : Heap} {mg : Str → Option Value} {f : Addr} (X : K.In h) (G : h.Ns mainGlobals mg) (hfa : mg ("law" : Str) = some (.ref f)) (c : SaysP P K) :
    ∃ fd : FuncData, (∀ (s : Shared) (v : Value), BindsTo s fd ⟨[v], []⟩ [("_law_script", v)]) ∧ ∀ base : Heap, K.In base → base.Ns mainGlobals mg → FnOk P w K mg base CX0 105 f fd ["_law_script"] (spLaw K) := by
  obtain ⟨fd, F⟩ := c.def_ 14 (d := d_law) rfl
  have b := FunD.bindsA (ps := ["_law_script"]) F fun _ _ _ _ _ _ us hl => match us, hl with | [_], _ => rfl
  have e := hfa.symm.trans (He.glo_ok X G (c.fact 14 (f := .glo "law") rfl))
  cases e
  refine ⟨fd, fun s v => b s [v] rfl, fun base KB GB => ?_⟩
  exact ok_law_fn (P := P) (w := w) (base := base) X G c F
end Prog

open PySem PySem.W PySem.Calls PyProof.Rows
set_option maxRecDepth 100000 in
set_option maxHeartbeats 0 in
theorem PySem.Challenge.cw_signbysign_k07_read_refuses_other_texts_holds : PySem.Challenge.rw_signbysign_k07_read_refuses_other_texts.Holds := by
  w_on; o_law
  refine Prog.early ?hw ?hc
  case hw => w_witness2
  case hc =>
    refine L2.walk_ofE (l := PySem.Challenge.rw_signbysign_k07_read_refuses_other_texts) (n := 63) (k := 105) (x := "_law_script") (CX := L2.CX0) rfl (by decide) (by kernel_rfl) ⟨rfl, by decide, by decide⟩ ?F (fun _ _ _ _ z => z)
    intro w mg fa h Y G hmg0
    obtain ⟨K, KX, c⟩ := Y
    have hmg : mg ("law" : PySem.Str) = some (.ref fa) := by
      have e : (HandSHeadRun.topDef (OpenLaw.row PySem.Challenge.rw_signbysign_k07_read_refuses_other_texts).prog 22).name = ("law" : PySem.Str) := by kernel_rfl
      rw [← e]
      exact hmg0
    obtain ⟨fd, hb, hF⟩ := Prog.facts (P := (PySem.Challenge.rw_signbysign_k07_read_refuses_other_texts).prog) (w := w) KX G hmg ⟨c, by first | rfl | kernel_rfl | decide +kernel, by first | rfl | kernel_rfl | decide +kernel⟩
    exact ⟨K, fd, My.spLaw K, KX, hb, fun H a ns hl _ hS => ⟨a, ns, rfl, hS, hl, fun _ => rfl⟩, hF⟩
