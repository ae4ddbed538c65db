import PyProof.Rows.All
import Wide.All
import OpenK.AllK
import Wide.FinOn
import KE.KStateDown
import HandS.Base
import HandS.Call
import HandS.List
import HandS.Comp
import HandS.Dict
import HandS.Iter
import HandS.Text
import HandS.Ends
import HandS.More
import HandS.Words
import HandS.WordsList
import HandS.WordsDict
import HandS.WordsExc
import HandS.IsInst
import HandS.TupAny
import HandS.Defaults
import HandS.Head0
import HandS.Head1
import HandS.Head2
import HandS.HeadEnd
import HandS.HeadHook1
import HandS.HeadHook2
import HandS.FStr
import HandS.Style
import HandS.Zip
import HandS.Conv
import HandS.HeadNt
import HandS.GenList
import HandS.Star
import KE.KRevSl
import HandS.Exc
import HandS.ExcInit
import HandS.ExcCtx
import HandS.ExcField
import HandS.ExcIs
import KE.KSuper
import KE.KExcSuper
import HandS.ExcOwn
import KE.GoesEnum
import KE.GoesMore
import OpenK.KMeth
import HandS.CallSlots
import HandS.HotCalls
import HandS.SlotsOwn
import KE.KOpsOwn
import HandS.DictComp
import HandS.OwnIter
import HandS.IterVal
import KE.KDictList
import HandS.ClsMeth
import HandS.CallLocal
import HandS.SuiteRaise
import PySem.Challenge.RW_signbysign_k12_runs
set_option Elab.async false
set_option linter.all false
set_option maxRecDepth 100000
set_option maxHeartbeats 4000000
namespace My
open PySem PySem.Spec PyProof.Rows L2

inductive D where
  | non | bl (b : Bool) | int (i : Int) | str (s : Str) | tup (ds : List D)
mutual
def Is (H : Hp) : D → V → Prop
  | .non, v => v = .non
  | .bl b, v => v = .bl b
  | .int i, v => v = .int i
  | .str s, v => v = .str s
  | .tup ds, v => ∃ a vs, v = .ref a ∧ H a = some (.tup vs) ∧ IsL H ds vs
def IsL (H : Hp) : List D → List V → Prop
  | [], vs => vs = []
  | d :: ds, vs => ∃ x xs, vs = x :: xs ∧ Is H d x ∧ IsL H ds xs
end
structure Chg (S : List Addr) (H H' : Hp) : Prop where
  ob : ∀ b o, b ∉ S → H b = some o → H' b = some o
  tp : ∀ b xs, H b = some (.tup xs) → H' b = some (.tup xs)
abbrev Ext (H H' : Hp) : Prop := Chg [] H H'
section
variable {S S' : List Addr} {H H1 H2 H' : Hp} {a b p l : Addr} {o u : HO} {xs ys : List V}
theorem Chg.refl (H : Hp) : Chg S H H := ⟨fun _ _ _ h => h, fun _ _ h => h⟩
theorem Chg.trans (c : Chg S H H1) (e : Chg S H1 H2) : Chg S H H2 := ⟨fun b o n h => e.ob b o n (c.ob b o n h), fun b xs h => e.tp b xs (c.tp b xs h)⟩
theorem Chg.wide (c : Chg S H H1) (h : ∀ b ∈ S, b ∈ S') : Chg S' H H1 := ⟨fun b o n q => c.ob b o (fun z => n (h b z)) q, c.tp⟩
theorem Chg.all (c : Chg [] H H1) : Chg S H H1 := c.wide fun _ z => nomatch z
theorem Chg.at (c : Chg [] H H1) (h : H a = some o) : H1 a = some o := c.ob a o (fun z => nomatch z) h
theorem Chg.same (c : Chg [] H H1) : L2.Same H H1 := fun _ _ h => Chg.at c h
theorem Ext.of (c : L2.Same H H1) : Ext H H1 := ⟨fun _ _ _ h => c _ _ h, fun _ _ h => c _ _ h⟩
theorem Chg.new (h : H p = none) (o : HO) : Chg S H (upd H p o) := ⟨fun b u _ q => by rw [upd_ne (ne_of_none q h)]; exact q, fun b u q => by rw [upd_ne (ne_of_none q h)]; exact q⟩
theorem Chg.free (c : Chg [] H H1) (h : H1 p = none) : H p = none := (Chg.same c).free h
theorem Chg.own (c : Chg S H H1) (h : H p = none) (o : HO) : Chg S H (upd H1 p o) :=
  ⟨fun b u n q => by rw [upd_ne (ne_of_none q h)]; exact c.ob b u n q, fun b u q => by rw [upd_ne (ne_of_none q h)]; exact c.tp b u q⟩
theorem Chg.set (c : Chg S H H1) (hm : l ∈ S) (h : H1 l = some u) (nt : ∀ xs, u ≠ .tup xs) (o : HO) : Chg S H (upd H1 l o) := by
  refine ⟨fun b w n q => ?_, fun b w q => ?_⟩
  · rw [upd_ne (fun z => n (by rw [z]; exact hm))]; exact c.ob b w n q
  · have q1 := c.tp b w q
    rw [upd_ne (fun z => by subst z; rw [h] at q1; exact nt w (Option.some.inj q1))]
    exact q1
mutual
theorem Is.up (c : Chg S H H') : ∀ {d : D} {v : V}, Is H d v → Is H' d v
  | .non, v, h => by simpa only [Is] using h
  | .bl b, v, h => by simpa only [Is] using h
  | .int i, v, h => by simpa only [Is] using h
  | .str s, v, h => by simpa only [Is] using h
  | .tup ds, v, h => by
    simp only [Is] at h ⊢
    obtain ⟨a, vs, e, h1, h2⟩ := h
    exact ⟨a, vs, e, c.tp _ _ h1, IsL.up c h2⟩
theorem IsL.up (c : Chg S H H') : ∀ {ds : List D} {vs : List V}, IsL H ds vs → IsL H' ds vs
  | [], vs, h => by simpa only [IsL] using h
  | d :: ds, vs, h => by
    simp only [IsL] at h ⊢
    obtain ⟨x, xs, e, h1, h2⟩ := h
    exact ⟨x, xs, e, Is.up c h1, IsL.up c h2⟩
end
theorem Is.non : Is H .non .non := by simp only [Is]
theorem Is.bl {b : Bool} : Is H (.bl b) (.bl b) := by simp only [Is]
theorem Is.int {i : Int} : Is H (.int i) (.int i) := by simp only [Is]
theorem Is.str {s : Str} : Is H (.str s) (.str s) := by simp only [Is]
theorem Is.tup {ds : List D} (h : H a = some (.tup xs)) (r : IsL H ds xs) : Is H (.tup ds) (.ref a) := by simp only [Is]; exact ⟨a, xs, rfl, h, r⟩
theorem Is.int_iff {i : Int} {v : V} : Is H (.int i) v ↔ v = .int i := by simp only [Is]
theorem Is.str_iff {i : Str} {v : V} : Is H (.str i) v ↔ v = .str i := by simp only [Is]
theorem Is.bl_iff {i : Bool} {v : V} : Is H (.bl i) v ↔ v = .bl i := by simp only [Is]
theorem Is.tup_iff {ds : List D} {v : V} : Is H (.tup ds) v ↔ ∃ a vs, v = .ref a ∧ H a = some (.tup vs) ∧ IsL H ds vs := by simp only [Is]
theorem IsL.nil : IsL H [] [] := by simp only [IsL]
theorem IsL.cons {d : D} {ds : List D} {v : V} {vs : List V} (h : Is H d v) (t : IsL H ds vs) : IsL H (d :: ds) (v :: vs) := by simp only [IsL]; exact ⟨v, vs, rfl, h, t⟩
theorem IsL.nil_iff {vs : List V} : IsL H [] vs ↔ vs = [] := by simp only [IsL]
theorem IsL.cons_iff {d : D} {ds : List D} {vs : List V} : IsL H (d :: ds) vs ↔ ∃ x xs, vs = x :: xs ∧ Is H d x ∧ IsL H ds xs := by simp only [IsL]
theorem IsL.length : ∀ {ds : List D} {vs : List V}, IsL H ds vs → vs.length = ds.length
  | [], vs, h => by rw [IsL.nil_iff] at h; subst h; rfl
  | d :: ds, vs, h => by
    rw [IsL.cons_iff] at h
    obtain ⟨x, xs, rfl, _, h2⟩ := h
    simp [IsL.length h2]
theorem IsL.append : ∀ {ds es : List D} {vs ws : List V}, IsL H ds vs → IsL H es ws → IsL H (ds ++ es) (vs ++ ws)
  | [], es, vs, ws, h, k => by rw [IsL.nil_iff] at h; subst h; exact k
  | d :: ds, es, vs, ws, h, k => by
    rw [IsL.cons_iff] at h
    obtain ⟨x, xs, rfl, h1, h2⟩ := h
    exact IsL.cons h1 (IsL.append h2 k)
theorem IsL.get : ∀ {ds : List D} {vs : List V} {i : Nat} {v : V}, IsL H ds vs → vs[i]? = some v → ∃ d, ds[i]? = some d ∧ Is H d v
  | [], vs, i, v, h, e => by rw [IsL.nil_iff] at h; subst h; simp at e
  | d :: ds, vs, i, v, h, e => by
    rw [IsL.cons_iff] at h
    obtain ⟨x, xs, rfl, h1, h2⟩ := h
    cases i with
    | zero => simp at e; subst e; exact ⟨d, rfl, h1⟩
    | succ i => simp at e; obtain ⟨d', q, k⟩ := IsL.get h2 e; exact ⟨d', by simpa using q, k⟩
theorem IsL.get' : ∀ {ds : List D} {vs : List V} {i : Nat} {d : D}, IsL H ds vs → ds[i]? = some d → ∃ v, vs[i]? = some v ∧ Is H d v
  | [], vs, i, v, h, e => by simp at e
  | d :: ds, vs, i, d', h, e => by
    rw [IsL.cons_iff] at h
    obtain ⟨x, xs, rfl, h1, h2⟩ := h
    cases i with
    | zero => simp at e; subst e; exact ⟨x, rfl, h1⟩
    | succ i => simp at e; obtain ⟨v, q, k⟩ := IsL.get' h2 e; exact ⟨v, by simpa using q, k⟩
theorem IsL.drop : ∀ {ds : List D} {vs : List V} (n : Nat), IsL H ds vs → IsL H (ds.drop n) (vs.drop n)
  | ds, vs, 0, h => h
  | [], vs, n + 1, h => by rw [IsL.nil_iff] at h; subst h; exact IsL.nil
  | d :: ds, vs, n + 1, h => by
    rw [IsL.cons_iff] at h
    obtain ⟨x, xs, rfl, h1, h2⟩ := h
    exact IsL.drop n h2
theorem IsL.take : ∀ {ds : List D} {vs : List V} (n : Nat), IsL H ds vs → IsL H (ds.take n) (vs.take n)
  | ds, vs, 0, h => by rw [List.take_zero, List.take_zero]; exact IsL.nil
  | [], vs, n + 1, h => by rw [IsL.nil_iff] at h; subst h; exact IsL.nil
  | d :: ds, vs, n + 1, h => by
    rw [IsL.cons_iff] at h
    obtain ⟨x, xs, rfl, h1, h2⟩ := h
    exact IsL.cons h1 (IsL.take n h2)
theorem IsL.one {d : D} {v : V} (h : Is H d v) : IsL H [d] [v] := IsL.cons h IsL.nil
theorem IsL.ints : ∀ {is : List Int}, IsL H (is.map D.int) (is.map V.int)
  | [] => IsL.nil
  | _ :: _ => IsL.cons Is.int IsL.ints
theorem IsL.strs : ∀ {is : List Str}, IsL H (is.map D.str) (is.map V.str)
  | [] => IsL.nil
  | _ :: _ => IsL.cons Is.str IsL.strs
theorem IsL.ints_inv : ∀ {is : List Int} {vs : List V}, IsL H (is.map D.int) vs → vs = is.map V.int
  | [], vs, h => IsL.nil_iff.mp h
  | i :: is, vs, h => by
    obtain ⟨x, xs, rfl, h1, h2⟩ := IsL.cons_iff.mp h
    rw [Is.int_iff.mp h1, IsL.ints_inv h2]; rfl
end

abbrev rAddI : R2 := rI0 fun i j => .int (i + j)
abbrev rSubI : R2 := rI0 fun i j => .int (i - j)
abbrev rMulI : R2 := rI CMul fun i j => .int (i * j)
abbrev rDivI : R2 := rI CDiv fun i j => .int (i / j)
abbrev rModI : R2 := rI (fun _ j => 0 < j) fun i j => .int (i % j)
abbrev rPowI : R2 := rI CPow fun i j => .int (i ^ j.toNat)
abbrev rLtI : R2 := rI0 fun i j => .bl (decide (i < j))
abbrev rLeI : R2 := rI0 fun i j => .bl (decide (i ≤ j))
abbrev rGtI : R2 := rI0 fun i j => .bl (decide (j < i))
abbrev rGeI : R2 := rI0 fun i j => .bl (decide (j ≤ i))
def rAddS_ : R2 := fun x y H Q => ∃ i j, x = .str i ∧ y = .str j ∧ i.length + j.length ≤ sizeLine ∧ Q (.str (i ++ j)) H
def rNotInS_ : R2 := fun x y H Q => ∃ (c : Nat) (z : Str), x = .str ⟨#[c]⟩ ∧ y = .str z ∧ Q (.bl (!decide (c ∈ z.cps.toList))) H
def rNotN_ : R2 := fun x y H Q => y = .non ∧ Q (.bl (!decide (x = .non))) H
def rLenSeq (K : PySem.W.Frag) : List V → Hp → VK → Prop := fun xs H Q => ∃ p ys, xs = [.ref p] ∧ (SqL K H p ys ∨ SqT K H p ys) ∧ Q (.int ys.length) H
def rLenStr : List V → Hp → VK → Prop := fun xs H Q => ∃ z, xs = [.str z] ∧ z.length ≤ sizeLine ∧ Q (.int z.length) H
def rInt1 : List V → Hp → VK → Prop := fun xs H Q => (∃ i, xs = [.int i] ∧ Q (.int i) H) ∨ ∃ k, xs = [.bl k] ∧ Q (.int (if k then 1 else 0)) H
def rAbs : List V → Hp → VK → Prop := fun xs H Q => ∃ i, xs = [.int i] ∧ Q (.int (if i < 0 then -i else i)) H
def rTupleOf (K : PySem.W.Frag) : List V → Hp → VK → Prop := fun xs H Q => ∃ p ys, xs = [.ref p] ∧ ((SqL K H p ys ∧ ∀ l, H l = none → Q (.ref l) (upd H l (.tup ys))) ∨ (SqT K H p ys ∧ Q (.ref p) H))
def rListOf (K : PySem.W.Frag) : List V → Hp → VK → Prop := fun xs H Q => ∃ p ys, xs = [.ref p] ∧ (SqL K H p ys ∨ SqT K H p ys) ∧ ∀ l, H l = none → Q (.ref l) (upd H l (.lst ys))
def rInsert : V → List V → Hp → VK → Prop := fun x vs H Q => ∃ (l : Addr) (xs : List V) (i : Int) (y : V), x = .ref l ∧ vs = [.int i, y] ∧ H l = some (.lst xs) ∧ xs.length < sizeLine ∧ 0 ≤ i ∧ i < 2 ^ 63 ∧ Q .non (upd H l (.lst (xs.take i.toNat ++ [y] ++ xs.drop i.toNat)))
def tCut (t u : TS) : TS := fun D σ H => ∃ Mid : L2.St → Hp → Prop, t { D with nx := Mid } σ H ∧ ∀ σ' H', Mid σ' H' → u D σ' H'
theorem pss_cut {X : Cx} {st : Stmt} {rest : List Stmt} {t u : TS} (h1 : PS X st t) (h2 : PSs X rest u) : PSs X (st :: rest) (tCut t u) := by
  refine ⟨fun pins s σ H D I h => ?_⟩
  obtain ⟨Mid, hm, hu⟩ := h
  refine wpAny_execs_cons (thn (h1.run pins s σ H { D with nx := Mid } I hm) fun f s1 q => ?_)
  cases f with
  | next =>
    obtain ⟨σ', H', I', q⟩ := q
    exact h2.run pins s1 σ' H' D I' (hu σ' H' q)
  | ret v => exact q
  | brk => exact q
  | cont => exact q
theorem pe_gc {X : Cx} {x : Str} {pos : Pos} {v : V} (hg : Gl X x) (h : ∃ u, X.mg x = some u ∧ RelV v u) (hd : (x == ("__debug__" : Str)) = false := by decide) : PE X (.Name x pos) (tC v) := by
  obtain ⟨u, e, r⟩ := h
  exact pe_glob hg e r hd
section
variable {K : PySem.W.Frag} {σ : L2.St} {H : Hp} {D : Ends}
theorem g_seq {t u : TS} (h : t { D with nx := u D } σ H) : tSeq t u D σ H := h
theorem g_cut {t u : TS} {M : L2.St → Hp → Prop} (h : t { D with nx := M } σ H) (k : ∀ σ' H', M σ' H' → u D σ' H') : tCut t u D σ H := ⟨M, h, k⟩
theorem g_asg {te : TE} {g : TG} (h : te σ H fun x H1 => g x σ H1 D.nx) : tAsg te g D σ H := h
theorem g_name {i : Nat} {v : V} {Q : L2.St → Hp → Prop} (h : Q (σ.set i (some v)) H) : gName i v σ H Q := h
theorem g_ret {te : TE} (h : te σ H D.rt) : tRet te D σ H := h
theorem g_retN (h : D.rt .non H) : tRetN D σ H := h
theorem g_drop {te : TE} (h : te σ H fun _ H1 => D.nx σ H1) : tDrop te D σ H := h
theorem g_next (h : D.nx σ H) : tNext D σ H := h
theorem g_cont (h : D.ct σ H) : tCont D σ H := h
theorem g_ifS {c : TT} {t u : TS} (h : c σ H fun b H1 => if b = true then t D σ H1 else u D σ H1) : tIfS c t u D σ H := h
variable {Q : VK} {QB : Bool → Hp → Prop} {QL : List V → Hp → Prop}
theorem g_var {i : Nat} {v : V} (e : σ[i]? = some (some v)) (h : Q v H) : tVar i σ H Q := ⟨v, e, h⟩
theorem g_c {v : V} (h : Q v H) : tC v σ H Q := h
theorem g_op {r : R2} {ta tb : TE} (h : ta σ H fun x H1 => tb σ H1 fun y H2 => r x y H2 Q) : tOp r ta tb σ H Q := h
theorem g_un {r : V → Hp → VK → Prop} {ta : TE} (h : ta σ H fun x H1 => r x H1 Q) : tUn r ta σ H Q := h
theorem g_cb {r : List V → Hp → VK → Prop} {t : TA} (h : t σ H fun vs H1 => r vs H1 Q) : tCB r t σ H Q := h
theorem g_nil (h : QL [] H) : tNil σ H QL := h
theorem g_cons {ta : TE} {tr : TA} (h : ta σ H fun x H1 => tr σ H1 fun xs H2 => QL (x :: xs) H2) : tCons ta tr σ H QL := h
theorem g_test {te : TE} (h : te σ H fun x H' => ∃ k, x = .bl k ∧ QB k H') : tTest te σ H QB := h
theorem g_B {te : TE} (h : te σ H fun x H' => ∃ k, x = .bl k ∧ QB k H') : tB te σ H QB := h
theorem g_bl {b : Bool} {P : Bool → Prop} (h : P b) : ∃ k, V.bl b = .bl k ∧ P k := ⟨b, rfl, h⟩
theorem g_not {t : TT} (h : t σ H fun c H1 => QB (!c) H1) : tNot t σ H QB := h
theorem g_and {t u : TT} (h : t σ H fun c H1 => if c = true then u σ H1 QB else QB false H1) : tAnd t u σ H QB := h
theorem g_or {t u : TT} (h : t σ H fun c H1 => if c = true then QB true H1 else u σ H1 QB) : tOr t u σ H QB := h
theorem g_andV {ta tb : TE} (h : ta σ H fun x H1 => ∃ c, x = .bl c ∧ if c = true then tb σ H1 Q else Q (.bl false) H1) : tAndV ta tb σ H Q := h
theorem g_notV {ta : TE} (h : ta σ H fun x H1 => ∃ c, x = .bl c ∧ Q (.bl (!c)) H1) : tNotV ta σ H Q := h
theorem g_ifE {t : TT} {ta tb : TE} (h : t σ H fun c H1 => if c = true then ta σ H1 Q else tb σ H1 Q) : tIf t ta tb σ H Q := h
theorem g_chain {r r' : R2} {ta tb tc : TE} (h : ta σ H fun x H1 => tb σ H1 fun y H2 => r x y H2 fun z H3 => ∃ k, z = .bl k ∧ (if k = true then tc σ H3 fun w' H4 => r' y w' H4 Q else Q (.bl false) H3)) : tChain r r' ta tb tc σ H Q := h
theorem g_yes (h : QB true H) : tYes σ H QB := h
theorem g_call {sp : Sp} {E : XK} {t : TA} (h : t σ H fun vs H1 => sp (vs ++ []) H1 Q E) : tCall sp [] E t σ H Q := h
theorem g_part {te : TE} {QO : Option Int → Hp → Prop} (h : te σ H fun x H1 => ∃ i, x = .int i ∧ QO (some i) H1) : tPart te σ H QO := h
theorem g_nopart {QO : Option Int → Hp → Prop} (h : QO none H) : tNoPart σ H QO := h
theorem g_sl {r : V → Option Int → Option Int → Hp → VK → Prop} {te : TE} {tl th : TO} (h : te σ H fun x H1 => tl σ H1 fun l H2 => th σ H2 fun u H3 => r x l u H3 Q) : tSl r te tl th σ H Q := h
theorem g_exI {i : Int} {P : Int → Prop} (h : P i) : ∃ k, V.int i = .int k ∧ P k := ⟨i, rfl, h⟩
def NewL (Q : VK) (xs : List V) (H1 : Hp) : Prop := xs.length ≤ sizeLine ∧ ∀ p, H1 p = none → Q (.ref p) (upd H1 p (.lst xs))
theorem g_lstT {t : TA} (h : t σ H fun xs H1 => NewL Q xs H1) : tLst t σ H Q := h
theorem g_newL {xs : List V} (hl : xs.length ≤ sizeLine) (k : ∀ p H', H p = none → Ext H H' → H' p = some (.lst xs) → Q (.ref p) H') : NewL Q xs H := ⟨hl, fun p hp => k p _ hp (Chg.new hp _) upd_same⟩
theorem g_bm {T : String} {r : V → List V → Hp → VK → Prop} {to : TE} {t : TA} (h : to σ H fun x H1 => tyV K T x H1 ∧ t σ H1 fun xs H2 => r x xs H2 Q) : tBM K T r to t σ H Q := h
theorem g_rI0 {g : Int → Int → V} {i j : Int} (h : Q (g i j) H) : rI0 g (.int i) (.int j) H Q := ⟨i, j, rfl, rfl, h⟩
theorem g_rI {C : Int → Int → Prop} {g : Int → Int → V} {i j : Int} (c : C i j) (h : Q (g i j) H) : rI C g (.int i) (.int j) H Q := ⟨i, j, rfl, rfl, c, h⟩
theorem g_rU {g : Int → V} {i : Int} (h : Q (g i) H) : rU g (.int i) H Q := ⟨i, rfl, h⟩
theorem g_int1 {i : Int} (h : Q (.int i) H) : rInt1 [.int i] H Q := .inl ⟨i, rfl, h⟩
theorem g_int1b {k : Bool} (h : Q (.int (if k then 1 else 0)) H) : rInt1 [.bl k] H Q := .inr ⟨k, rfl, h⟩
theorem g_abs {i : Int} (h : Q (.int (if i < 0 then -i else i)) H) : rAbs [.int i] H Q := ⟨i, rfl, h⟩
theorem g_eqI {i j : Int} (h : Q (.bl (decide (i = j))) H) : rEq (.int i) (.int j) H Q := ⟨rfl, by
  have e : decide (V.int i = V.int j) = decide (i = j) := by simp
  rw [e]; exact h⟩
theorem g_neI {i j : Int} (h : Q (.bl (!decide (i = j))) H) : rNe (.int i) (.int j) H Q := ⟨rfl, by
  have e : decide (V.int i = V.int j) = decide (i = j) := by simp
  rw [e]; exact h⟩
theorem g_eqS {i j : Str} (h : Q (.bl (decide (i = j))) H) : rEq (.str i) (.str j) H Q := ⟨rfl, by
  have e : decide (V.str i = V.str j) = decide (i = j) := by simp
  rw [e]; exact h⟩
theorem g_neS {i j : Str} (h : Q (.bl (!decide (i = j))) H) : rNe (.str i) (.str j) H Q := ⟨rfl, by
  have e : decide (V.str i = V.str j) = decide (i = j) := by simp
  rw [e]; exact h⟩
theorem g_addS {i j : Str} (hl : i.length + j.length ≤ sizeLine) (h : Q (.str (i ++ j)) H) : rAddS_ (.str i) (.str j) H Q := ⟨i, j, rfl, rfl, hl, h⟩
theorem g_new {o : HO} {P : Addr → Hp → Prop} (k : ∀ p H', H p = none → Ext H H' → H' p = some o → P p H') : ∀ p, H p = none → P p (upd H p o) := fun p hp => k p _ hp (Chg.new hp o) upd_same
theorem g_lenL {p : Addr} {xs : List V} (h : H p = some (.lst xs)) (k : Q (.int xs.length) H) : rLenSeq K [.ref p] H Q := ⟨p, xs, rfl, .inl (.inl (.inl h)), k⟩
theorem g_lenLK {p : Addr} {xs : List V} (h : SqL K H p xs) (k : Q (.int xs.length) H) : rLenSeq K [.ref p] H Q := ⟨p, xs, rfl, .inl h, k⟩
theorem g_lenT {p : Addr} {xs : List V} (h : H p = some (.tup xs)) (k : Q (.int xs.length) H) : rLenSeq K [.ref p] H Q := ⟨p, xs, rfl, .inr (.inl (.inl h)), k⟩
theorem g_lenS {z : Str} (hl : z.length ≤ sizeLine) (k : Q (.int z.length) H) : rLenStr [.str z] H Q := ⟨z, rfl, hl, k⟩
theorem g_ixL {p : Addr} {xs : List V} {i : Int} {v : V} (h : H p = some (.lst xs)) (a : atI xs i = some v) (k : Q v H) : rIxL K (.ref p) (.int i) H Q := ⟨p, xs, i, v, rfl, rfl, .inl (.inl h), a, k⟩
theorem g_ixT {p : Addr} {xs : List V} {i : Int} {v : V} (h : H p = some (.tup xs)) (a : atI xs i = some v) (k : Q v H) : rIxT K (.ref p) (.int i) H Q := ⟨p, xs, i, v, rfl, rfl, .inl (.inl h), a, k⟩
theorem g_ixS {z : Str} {i : Int} {c : Nat} (hl : z.length ≤ sizeLine) (a : atI z.cps.toList i = some c) (k : Q (.str ⟨#[c]⟩) H) : rIxS (.str z) (.int i) H Q := ⟨z, i, c, rfl, rfl, hl, a, k⟩
theorem g_append {l : Addr} {xs : List V} {y : V} (h : H l = some (.lst xs)) (hz : xs.length < sizeLine) (k : Q .non (upd H l (.lst (xs ++ [y])))) : rAppend (.ref l) [y] H Q := ⟨l, xs, y, rfl, rfl, h, hz, k⟩
theorem g_tyL {p : Addr} {xs : List V} {P : Prop} (h : H p = some (.lst xs)) (k : P) : tyV K "list" (.ref p) H ∧ P := ⟨.inl ⟨rfl, xs, .inl (.inl h)⟩, k⟩
theorem g_slL {p : Addr} {xs : List V} {lo hi : Option Int} (h : SqL K H p xs) (k : ∀ q H', H q = none → Ext H H' → H' q = some (.lst (cutV xs lo hi)) → Q (.ref q) H') : rSlL K (.ref p) lo hi H Q := ⟨p, xs, rfl, h, g_new k⟩
theorem g_cat {l b : Addr} {xs ys : List V} (h : H l = some (.lst xs)) (h2 : H b = some (.lst ys)) (hz : xs.length + ys.length ≤ sizeLine) (k : ∀ q H', H q = none → Ext H H' → H' q = some (.lst (xs ++ ys)) → Q (.ref q) H') : rCat (.ref l) (.ref b) H Q := ⟨l, b, xs, ys, rfl, rfl, h, h2, hz, g_new k⟩
theorem g_tupOf {p : Addr} {xs : List V} (h : SqL K H p xs) (k : ∀ q H', H q = none → Ext H H' → H' q = some (.tup xs) → Q (.ref q) H') : rTupleOf K [.ref p] H Q := ⟨p, xs, rfl, .inl ⟨h, g_new k⟩⟩
theorem g_lstOf {p : Addr} {xs : List V} (h : SqL K H p xs) (k : ∀ q H', H q = none → Ext H H' → H' q = some (.lst xs) → Q (.ref q) H') : rListOf K [.ref p] H Q := ⟨p, xs, rfl, .inl h, g_new k⟩
theorem g_tr {A B : Prop} (h : A) : if true = true then A else B := by rw [if_pos rfl]; exact h
theorem g_fa {A B : Prop} (h : B) : if false = true then A else B := by rw [if_neg Bool.false_ne_true]; exact h
theorem g_ntr {A B : Prop} (h : B) : if (!true) = true then A else B := g_fa h
theorem g_nfa {A B : Prop} (h : A) : if (!false) = true then A else B := g_tr h
theorem g_2 {c : Bool} {A B : Prop} (h : c = true → A) (k : c = false → B) : if c = true then A else B := by
  cases c with
  | true => rw [if_pos rfl]; exact h rfl
  | false => rw [if_neg Bool.false_ne_true]; exact k rfl
end

def ForB (g : TG) (tb : TS) (D : Ends) (σ : L2.St) : It → Hp → Prop := fun J H1 => ∃ W : Nat → Nat → L2.St → Hp → Prop, (∃ m, W 0 m σ H1) ∧ ∀ i m σ H, W i m σ H →
  (J.stop i H ∧ D.nx σ H) ∨ (J.go i H ∧ ∃ N : L2.St → Hp → Prop, (∀ σ' H', N σ' H' → ∃ m', m' < m ∧ W (i + 1) m' σ' H') ∧ ∀ x H', J.yld i H x H' → g x σ H' fun σ2 H2 => tb { D with nx := N, ct := N, bk := D.nx } σ2 H2)
def LcB (g : TG) (tt : TT) (te : TE) (vs : List Nat) (σ : L2.St) (Q : VK) : It → Hp → Prop := fun J H1 => ∀ D, H1 D = none → ∃ W : Nat → Nat → Hp → Prop, (∃ m, W 0 m (upd H1 D (.lst []))) ∧ ∀ i m H, W i m H →
  (J.stop i H ∧ Q (.ref D) H) ∨ (J.go i H ∧ ∃ Nx : Hp → Prop, (∀ H', Nx H' → ∃ m', m' < m ∧ W (i + 1) m' H') ∧ ∀ x H', J.yld i H x H' → g x (wipe σ vs) H' fun σ2 H2 => wipe σ2 vs = wipe σ vs ∧ tt σ2 H2 fun b H3 =>
    if b = true then te σ2 H3 fun y H4 => ∃ acc, H4 D = some (.lst acc) ∧ acc.length < sizeLine ∧ Nx (upd H4 D (.lst (acc ++ [y]))) else Nx H3)
section
variable {K : PySem.W.Frag} {σ : L2.St} {H : Hp} {D : Ends} {wi : TI} {g : TG} {tb : TS} {R : It → Hp → Prop} {te : TE} {ta : TA} {tt : TT} {vs : List Nat} {Q : VK} {p : Addr} {xs : List V} {j : Nat} {S : List Addr}
theorem g_for (h : wi σ H (ForB g tb D σ)) : tFor wi g tb D σ H := h
theorem g_lc (h : wi σ H (LcB g tt te vs σ Q)) : tLc wi g tt te vs σ H Q := h
theorem g_iL (h : te σ H fun x H1 => ∃ a, x = .ref a ∧ (∃ xs, SqL K H1 a xs) ∧ R (Itl K a) H1) : iList K te σ H R := h
theorem g_iT (h : te σ H fun x H1 => ∃ a, x = .ref a ∧ (∃ xs, SqT K H1 a xs) ∧ R (Itt K a) H1) : iTup K te σ H R := h
theorem g_iR (h : ta σ H fun vs H1 => ∃ j : Int, vs = [.int j] ∧ -(2 ^ 62) ≤ j ∧ j < 2 ^ 62 ∧ R (Itr 0 j.toNat) H1) : iRng1 ta σ H R := h
theorem g_iR2 (h : ta σ H fun vs H1 => ∃ i j : Int, vs = [.int i, .int j] ∧ (-(2 ^ 62) ≤ i ∧ i < 2 ^ 62 ∧ -(2 ^ 62) ≤ j ∧ j < 2 ^ 62) ∧ R (Itr i (j - i).toNat) H1) : iRng2 ta σ H R := h
theorem g_forL (h : SqL K H p xs) (Pv : Nat → L2.St → Hp → Prop) (h0 : Pv 0 σ H) (hl : ∀ i σ H, i ≤ xs.length → Pv i σ H → SqL K H p xs)
    (hs : ∀ i x σ H, xs[i]? = some x → Pv i σ H → g x σ H fun σ2 H2 => tb { D with nx := Pv (i + 1), ct := Pv (i + 1), bk := D.nx } σ2 H2) (hd : ∀ σ H, Pv xs.length σ H → D.nx σ H) :
    ∃ a, V.ref p = .ref a ∧ (∃ xs, SqL K H a xs) ∧ ForB g tb D σ (Itl K a) H := ⟨p, rfl, ⟨xs, h⟩, for_list Pv h0 hl hs hd⟩
theorem g_forT (h : SqT K H p xs) (Pv : Nat → L2.St → Hp → Prop) (h0 : Pv 0 σ H) (hl : ∀ i σ H, i ≤ xs.length → Pv i σ H → SqT K H p xs)
    (hs : ∀ i x σ H, xs[i]? = some x → Pv i σ H → g x σ H fun σ2 H2 => tb { D with nx := Pv (i + 1), ct := Pv (i + 1), bk := D.nx } σ2 H2) (hd : ∀ σ H, Pv xs.length σ H → D.nx σ H) :
    ∃ a, V.ref p = .ref a ∧ (∃ xs, SqT K H a xs) ∧ ForB g tb D σ (Itt K a) H := ⟨p, rfl, ⟨xs, h⟩, for_tup Pv h0 hl hs hd⟩
theorem g_forR {n : Int} (hn : -(2 ^ 62) ≤ n ∧ n < 2 ^ 62) (Pv : Nat → L2.St → Hp → Prop) (h0 : Pv 0 σ H)
    (hs : ∀ (i : Nat) σ H, (i : Int) < n → Pv i σ H → g (.int (i : Int)) σ H fun σ2 H2 => tb { D with nx := Pv (i + 1), ct := Pv (i + 1), bk := D.nx } σ2 H2) (hd : ∀ σ H, Pv n.toNat σ H → D.nx σ H) :
    ∃ j : Int, ([V.int n] : List V) = [.int j] ∧ -(2 ^ 62) ≤ j ∧ j < 2 ^ 62 ∧ ForB g tb D σ (Itr 0 j.toNat) H := by
  refine ⟨n, rfl, hn.1, hn.2, for_range Pv h0 (fun i σ H hi q => ?_) hd⟩
  rw [Int.zero_add]
  exact hs i σ H (by omega) q
def LcT (S : List Addr) (H : Hp) (σ : L2.St) (vs : List Nat) (j : Nat) (tt : TT) (te : TE) (Acc : Nat → List V → Hp → Prop) (i : Nat) (x : V) : Prop :=
  ∀ (acc : List V) (H' : Hp) (Yes : VK) (No : Hp → Prop), Chg S H H' → Acc i acc H' → (∀ y H4, Chg S H' H4 → Acc (i + 1) (acc ++ [y]) H4 → Yes y H4) → (∀ H3, Chg S H' H3 → Acc (i + 1) acc H3 → No H3) →
    tt ((wipe σ vs).set j (some x)) H' fun b H3 => if b = true then te ((wipe σ vs).set j (some x)) H3 Yes else No H3
def LcI (S : List Addr) (H : Hp) (Dl : Addr) (Acc : Nat → List V → Hp → Prop) (i : Nat) (H' : Hp) : Prop := ∃ acc, H' Dl = some (.lst acc) ∧ Chg S H H' ∧ Acc i acc H'
theorem lc_turn {Dl : Addr} {Acc : Nat → List V → Hp → Prop} {i : Nat} {x : V} (hD : H Dl = none) (hS : ∀ s ∈ S, H s ≠ none) (mono : ∀ i acc Dl H1 H2, H Dl = none → Chg [Dl] H1 H2 → Acc i acc H1 → Acc i acc H2)
    (hz : ∀ i acc H', Acc i acc H' → acc.length < sizeLine) (t : LcT S H σ vs j tt te Acc i x) {H' : Hp} (q : LcI S H Dl Acc i H') :
    tt ((wipe σ vs).set j (some x)) H' fun b H3 => if b = true then te ((wipe σ vs).set j (some x)) H3 fun y H4 => ∃ acc, H4 Dl = some (.lst acc) ∧ acc.length < sizeLine ∧ LcI S H Dl Acc (i + 1) (upd H4 Dl (.lst (acc ++ [y]))) else LcI S H Dl Acc (i + 1) H3 := by
  obtain ⟨acc, h1, c, a⟩ := q
  have nS : Dl ∉ S := fun z => hS Dl z hD
  refine t acc H' _ _ c a (fun y H4 c4 a4 => ?_) (fun H3 c3 a3 => ⟨acc, c3.ob _ _ nS h1, c.trans c3, a3⟩)
  have h4 := c4.ob _ _ nS h1
  refine ⟨acc, h4, hz _ _ _ a, acc ++ [y], upd_same, (c.trans c4).own hD _, ?_⟩
  exact mono _ _ Dl H4 _ hD ((Chg.refl H4).set (List.mem_singleton.mpr rfl) h4 (by intro xs z; cases z) _) a4
theorem g_lcL (h : SqL K H p xs) (hS : ∀ s ∈ S, H s ≠ none) (Acc : Nat → List V → Hp → Prop) (mono : ∀ i acc Dl H1 H2, H Dl = none → Chg [Dl] H1 H2 → Acc i acc H1 → Acc i acc H2)
    (h0 : ∀ H', Ext H H' → Acc 0 [] H') (hl : ∀ i acc H', Chg S H H' → Acc i acc H' → SqL K H' p xs) (hz : ∀ i acc H', Acc i acc H' → acc.length < sizeLine)
    (hs : ∀ i x, xs[i]? = some x → LcT S H σ vs j tt te Acc i x)
    (hd : ∀ q acc H', H q = none → Chg S H H' → H' q = some (.lst acc) → Acc xs.length acc H' → Q (.ref q) H')
    (hw : ∀ x : V, wipe ((wipe σ vs).set j (some x)) vs = wipe σ vs := by intro _; rfl) :
    ∃ a, V.ref p = .ref a ∧ (∃ xs, SqL K H a xs) ∧ LcB (gName j) tt te vs σ Q (Itl K a) H := by
  refine ⟨p, rfl, ⟨xs, h⟩, fun Dl hD => lc_list (xs := xs) (LcI S H Dl Acc) ⟨[], upd_same, (Chg.new hD _), h0 _ (Chg.new hD _)⟩ (fun i H' _ ⟨acc, _, c, a⟩ => hl i acc H' c a) (fun i x H' hi q => ⟨hw x, ?_⟩) (fun H' ⟨acc, h1, c, a⟩ => hd Dl acc H' hD c h1 a)⟩
  exact lc_turn hD hS mono hz (hs i x hi) q
theorem g_lcR {n : Int} (hn : -(2 ^ 62) ≤ n ∧ n < 2 ^ 62) (hS : ∀ s ∈ S, H s ≠ none) (Acc : Nat → List V → Hp → Prop) (mono : ∀ i acc Dl H1 H2, H Dl = none → Chg [Dl] H1 H2 → Acc i acc H1 → Acc i acc H2)
    (h0 : ∀ H', Ext H H' → Acc 0 [] H') (hz : ∀ i acc H', Acc i acc H' → acc.length < sizeLine)
    (hs : ∀ i : Nat, (i : Int) < n → LcT S H σ vs j tt te Acc i (.int (i : Int)))
    (hd : ∀ q acc H', H q = none → Chg S H H' → H' q = some (.lst acc) → Acc n.toNat acc H' → Q (.ref q) H')
    (hw : ∀ x : V, wipe ((wipe σ vs).set j (some x)) vs = wipe σ vs := by intro _; rfl) :
    ∃ k : Int, ([V.int n] : List V) = [.int k] ∧ -(2 ^ 62) ≤ k ∧ k < 2 ^ 62 ∧ LcB (gName j) tt te vs σ Q (Itr 0 k.toNat) H := by
  refine ⟨n, rfl, hn.1, hn.2, fun Dl hD => lc_range (lo := 0) (n := n.toNat) (LcI S H Dl Acc) ⟨[], upd_same, (Chg.new hD _), h0 _ (Chg.new hD _)⟩ (fun i H' hi q => ?_) (fun H' ⟨acc, h1, c, a⟩ => hd Dl acc H' hD c h1 a)⟩
  rw [Int.zero_add]
  exact ⟨hw _, lc_turn hD hS mono hz (hs i (by omega)) q⟩
end
structure Cl (P : Program) (w : World) (K : PySem.W.Frag) (mg : Str → Option Value) (base : Heap) (CX : CXT) (k : Nat) (x : Str) (sp : Sp) : Prop where
  ex : ∃ f fd ps, FnOk P w K mg base CX k f fd ps sp ∧ mg x = some (.ref f) ∧ PySem.W.keepIn K (.ref f) = true ∧ Binds K fd ps []
section
variable {X : Cx} {CX : CXT} {k j : Nat} {x : Str} {sp : Sp} {E : XK} {e : Expr} {es : List Expr} {t : TA} {p pos : Pos}
theorem pe_cl (c : Cl X.prog X.w X.K X.mg X.base CX k x sp) (hr : Room j X.A) (hk : k ≤ j) (hx : Passes CX X E) (ha : PA X (e :: es) t) (hg : Gl X x := by rfl) (hdb : (x == ("__debug__" : Str)) = false := by decide)
    (he : starEach (e :: es) X.env = (false, eval e X.env) :: starEach es X.env := by rfl) (hpl : (backTo pos (starEach es X.env)).any (·.1) = false := by rfl) : PE X (.Call (.Name x p) (e :: es) [] pos) (tCall sp [] E t) := by
  obtain ⟨f, fd, ps, F, hm, hk2, hb⟩ := c.ex
  exact pe_call F (hr.mono hk) hg hm hk2 hb .nil hx ha hdb he hpl
end
end My

namespace My
open PySem PySem.Spec PyProof.Rows L2 He
abbrev FnM : Type := Option (Str × Str × Arguments × FuncBody × Scope × Addr × Addr)
def fnM (K : PySem.W.Frag) (a : Addr) : FnM := match K.lookup a with
  | some ⟨_, _, .func fd, _⟩ => some (fd.name, fd.qualname, fd.params, fd.body, fd.scope, fd.globals, fd.builtins)
  | _ => none
structure DefM where
  at_ : PySem.W.Frag → Addr
  name : Str
  qual : Str
  params : Arguments
  body : List Stmt
  scope : Scope
  clo : List (Str × (PySem.W.Frag → Addr)) := []
def DefM.val (d : DefM) : FnM := some (d.name, d.qual, d.params, .stmts d.body, d.scope, mainGlobals, builtinsNs)
def DefM.cl (K : PySem.W.Frag) (d : DefM) : List (Str × Addr) := d.clo.map fun q => (q.1, q.2 K)
def noneB : Value → Bool
  | .none => true
  | _ => false
theorem noneB_ok {v : Value} (h : noneB v = true) : v = .none := by cases v <;> first | rfl | cases h
def DefM.ok (K : PySem.W.Frag) (d : DefM) : Bool := PySem.W.keepIn K (.ref (d.at_ K)) && (match K.lookup (d.at_ K) with
  | some ⟨_, _, .func fd, _⟩ => PySem.W.codeIn K fd.code d.qual && (noneB fd.defaults && decide (fd.closure = d.cl K))
  | _ => false)
structure FunC (K : PySem.W.Frag) (x qual : Str) (params : Arguments) (body : List Stmt) (scope : Scope) (cl : List (Str × Addr)) (f : Addr) (fd : FuncData) : Prop where
  ex : ∃ (oc : Value) (od : Option Addr) (kV doc pm : Value) (an : Option Addr) (cdv ct : Value) (osl : Array (Option Value)),
    fd = { PySem.W.fnOf x qual params body scope .none kV doc pm an cdv ct with closure := cl } ∧ K.lookup f = some ⟨oc, od, .func fd, osl⟩ ∧ PySem.W.codeIn K cdv qual = true
  kp : PySem.W.keepIn K (.ref f) = true
theorem DefM.funC {K : PySem.W.Frag} {d : DefM} (e : fnM K (d.at_ K) = d.val) (c : d.ok K = true) : ∃ fd, FunC K d.name d.qual d.params d.body d.scope (d.cl K) (d.at_ K) fd := by
  obtain ⟨kp, c2⟩ := ba c
  unfold fnM at e
  cases q : K.lookup (d.at_ K) with
  | none =>
    rw [q] at c2
    cases c2
  | some o =>
    obtain ⟨oc, od, dt, osl⟩ := o
    rw [q] at c2 e
    cases dt with
    | func fd =>
      obtain ⟨n1, n2, n3, n4, n5, n6, n7, n8, n9, n10, n11, n12, n13, n14, n15⟩ := fd
      have e2 : (some (n1, n2, n3, n4, n5, n6, n15) : FnM) = some (d.name, d.qual, d.params, .stmts d.body, d.scope, mainGlobals, builtinsNs) := e
      simp only [Option.some.injEq, Prod.mk.injEq] at e2
      obtain ⟨h1, h2, h3, h4, h5, h6, h8⟩ := e2
      subst h1 h2 h3 h4 h5 h6 h8
      have c3 : (PySem.W.codeIn K n13 d.qual && (noneB n8 && decide (n7 = d.cl K))) = true := c2
      obtain ⟨k1, k2⟩ := ba c3
      obtain ⟨k3, k4⟩ := ba k2
      have e8 := noneB_ok k3
      have e7 : n7 = d.cl K := of_decide_eq_true k4
      subst e8 e7
      exact ⟨_, ⟨oc, od, n9, n10, n11, n12, n13, n14, osl, rfl, q, k1⟩, kp⟩
    | _ => cases c2
theorem FunC.funD {K : PySem.W.Frag} {x qual : Str} {params : Arguments} {body : List Stmt} {scope : Scope} {f : Addr} {fd : FuncData} (F : FunC K x qual params body scope [] f fd) : FunD K x qual params body scope [] [] f fd := by
  obtain ⟨oc, od, kV, doc, pm, an, cdv, ct, osl, e, lk, c⟩ := F.ex
  exact ⟨⟨oc, od, .none, kV, doc, pm, an, cdv, ct, osl, e, lk, c, .inl ⟨rfl, rfl⟩, .inl rfl⟩, F.kp⟩
abbrev AlM : Type := Bool × List FnM
abbrev Ex : Type := PySem.W.Frag → Bool
def obsM (fa : List Fa) (fn : List DefM) (ex : List Ex) (K : PySem.W.Frag) : AlM := ((fa.all fun f => f.ok K) && ((fn.all fun d => d.ok K) && ex.all fun x => x K), fn.map fun d => fnM K (d.at_ K))
def valM (fn : List DefM) : AlM := (true, fn.map DefM.val)
def SaysM (fa : List Fa) (fn : List DefM) (ex : List Ex) (K : PySem.W.Frag) : Prop := obsM fa fn ex K = valM fn
def obsMG (n : Nat) (fa : List Fa) (fn : List DefM) (ex : List Ex) (g : Addr → Option Obj) : AlM := obsM fa fn ex (frG g (He5.asA g n))
def hookM (n : Nat) (fa : List Fa) (fn : List DefM) (ex : List Ex) : PySem.W.Hook where
  α := AlM
  obs := fun s => obsMG n fa fn ex s.heap.get?
  val := fun _ => valM fn
  says := fun _ h => ∃ K : PySem.W.Frag, K.In h ∧ SaysM fa fn ex K
  of := fun _ _ e => ⟨_, frG_in, e⟩
  keeps := fun _ _ _ ⟨K, hK, c⟩ k => ⟨K, PySem.W.Frag.In.keeps hK k, c⟩
def obsML (as : List Addr) (fa : List Fa) (fn : List DefM) (ex : List Ex) (g : Addr → Option Obj) : AlM := obsM fa fn ex (frG g as)
def hookL (as : List Addr) (fa : List Fa) (fn : List DefM) (ex : List Ex) : PySem.W.Hook where
  α := AlM
  obs := fun s => obsML as fa fn ex s.heap.get?
  val := fun _ => valM fn
  says := fun _ h => ∃ K : PySem.W.Frag, K.In h ∧ SaysM fa fn ex K
  of := fun _ _ e => ⟨_, frG_in, e⟩
  keeps := fun _ _ _ ⟨K, hK, c⟩ k => ⟨K, PySem.W.Frag.In.keeps hK k, c⟩
theorem obsML_eq {as : List Addr} {fa : List Fa} {fn : List DefM} {ex : List Ex} {g : Addr → Option Obj} {s : Shared} (h : ∀ a, g a = s.heap.get? a) : obsML as fa fn ex g = (hookL as fa fn ex).obs s := by
  have e : g = s.heap.get? := funext h
  rw [e] <;> rfl
theorem run_parts {σ β : Type} {o : Option σ} {f : σ → Bool} {g : σ → β} {gv : β} {K : σ → PySem.W.Frag} {fa : List Fa} {fn : List DefM} {ex : List Ex} (h0 : o.map (fun s => f s) = some true) (h1 : o.map (fun s => g s) = some gv)
    (h2 : o.map (fun s => fa.all fun x => x.ok (K s)) = some true) (h3 : o.map (fun s => fn.all fun d => d.ok (K s)) = some true) (h5 : o.map (fun s => ex.all fun x => x (K s)) = some true) (h4 : o.map (fun s => fn.map fun d => fnM (K s) (d.at_ (K s))) = some (fn.map DefM.val)) :
    o.map (fun s => (f s, g s, obsM fa fn ex (K s))) = some (true, gv, valM fn) := by
  cases o with
  | none => cases h1
  | some s =>
    simp only [Option.map_some, Option.some.injEq, Prod.mk.injEq] at h0 h1 h2 h3 h4 h5 ⊢
    refine ⟨h0, h1, ?_⟩
    unfold obsM valM
    rw [h2, h3, h4, h5]
    rfl
section
variable {fa : List Fa} {fn : List DefM} {ex : List Ex} {K : PySem.W.Frag}
theorem SaysM.fact (c : SaysM fa fn ex K) (i : Nat) {f : Fa} (h : fa[i]? = some f := by rfl) : f.ok K = true := by
  have c1 := (ba (show ((fa.all fun f => f.ok K) && ((fn.all fun d => d.ok K) && ex.all fun x => x K)) = true from congrArg (fun z : AlM => z.1) c)).1
  exact List.all_eq_true.mp c1 f (List.mem_of_getElem? h)
theorem SaysM.more (c : SaysM fa fn ex K) (i : Nat) {x : Ex} (h : ex[i]? = some x := by rfl) : x K = true := by
  have c1 := (ba (ba (show ((fa.all fun f => f.ok K) && ((fn.all fun d => d.ok K) && ex.all fun x => x K)) = true from congrArg (fun z : AlM => z.1) c)).2).2
  exact List.all_eq_true.mp c1 x (List.mem_of_getElem? h)
theorem SaysM.defC (c : SaysM fa fn ex K) (i : Nat) {d : DefM} (h : fn[i]? = some d := by rfl) : ∃ fd, FunC K d.name d.qual d.params d.body d.scope (d.cl K) (d.at_ K) fd := by
  have c2 := (ba (ba (show ((fa.all fun f => f.ok K) && ((fn.all fun d => d.ok K) && ex.all fun x => x K)) = true from congrArg (fun z : AlM => z.1) c)).2).1
  have e : fn.map (fun d => fnM K (d.at_ K)) = fn.map DefM.val := congrArg (fun z : AlM => z.2) c
  have e2 : (fn.map fun d => fnM K (d.at_ K))[i]? = (fn.map DefM.val)[i]? := by rw [e]
  rw [List.getElem?_map, List.getElem?_map, h] at e2
  exact DefM.funC (Option.some.inj e2) (List.all_eq_true.mp c2 d (List.mem_of_getElem? h))
theorem SaysM.def_ (c : SaysM fa fn ex K) (i : Nat) {d : DefM} (h : fn[i]? = some d := by rfl) (hc : d.clo = [] := by rfl) : ∃ fd, FunD K d.name d.qual d.params d.body d.scope [] [] (d.at_ K) fd := by
  obtain ⟨fd, F⟩ := c.defC i h
  have e : d.cl K = [] := by unfold DefM.cl; rw [hc]; rfl
  rw [e] at F
  exact ⟨fd, F.funD⟩
end
abbrev wFn (x : Str) : PySem.W.Frag → Addr := fun K => fAd K (x, none)
abbrev wMt (C m : Str) : PySem.W.Frag → Addr := fun K => fAd K (C, some m)
section
variable {X : Cx} {CX : CXT} {k j : Nat} {C m : Str} {sp : Sp} {E : XK} {e : Expr} {es : List Expr} {t : TA} {p pos apos : Pos} {pl : Sem Bool}
end
end My

namespace My
open PySem PyProof.Rows
open Sem (wp)
def sleeping : GenState → Bool
  | .suspended .. => true
  | _ => false
def putDown : GenState → GenState
  | .suspended _ l c p fs cl => .suspended (fun _ => .unsupported "") l c p fs cl
  | x => x
theorem putDown_seen (x : GenState) : (putDown x).seen = x.seen := by cases x <;> rfl
theorem putDown_bare (x : GenState) : (putDown x).bare = x.bare := by cases x <;> rfl
theorem not_run {M : Model} {t : String} : ∀ {Γ : Ctx} {p : Pos} {fs : List Frame} {s s' : Shared} {e : End}, ¬ Runs M Γ p (.unsupported t) fs s e s' := by
  have base : ∀ {Γ : Ctx} {p : Pos} {s s' : Shared} {e : End}, ¬ Runs M Γ p (.unsupported t) [] s e s' := by
    intro Γ p s s' e h
    cases h
  intro Γ p fs s s' e h
  cases h with
  | segRet a _ => exact base a
  | segGen a _ => exact base a
  | segSuspOut _ a => exact base a
  | segSuspGen _ a _ _ => exact base a
def Alike (Z : Nat → Option GenState) (G G' : Array GenState) : Prop := G.size = G'.size ∧ ∀ i, (∃ z, Z i = some z ∧ sleeping z = true ∧ G[i]? = some (putDown z) ∧ G'[i]? = some z) ∨
  (Z i = none ∧ G[i]? = G'[i]? ∧ ∀ k l c p fs cl, G[i]? = some (.suspended k l c p fs cl) → splitAtGen fs = none)
section
variable {Z : Nat → Option GenState} {G G' : Array GenState} {g : Nat} {x st : GenState}
theorem Alike.seen (h : Alike Z G G') (e : G[g]? = some st) : ∃ st', G'[g]? = some st' ∧ st'.seen = st.seen := by
  rcases h.2 g with ⟨z, _, _, a, b⟩ | ⟨_, a, _⟩
  · rw [e] at a
    cases a
    exact ⟨z, b, (putDown_seen z).symm⟩
  · exact ⟨st, by rw [← a]; exact e, rfl⟩
theorem Alike.off (h : Alike Z G G') (e : G[g]? = some st) (hs : sleeping st = false) : Z g = none ∧ G'[g]? = some st := by
  rcases h.2 g with ⟨z, _, hz, a, _⟩ | ⟨n, a, _⟩
  · rw [e] at a
    cases a
    cases z <;> cases hz
    cases hs
  · exact ⟨n, by rw [← a]; exact e⟩
theorem Alike.set (h : Alike Z G G') (hg : Z g = none) (hx : ∀ k l c p fs cl, x = .suspended k l c p fs cl → splitAtGen fs = none) : Alike Z (G.setIfInBounds g x) (G'.setIfInBounds g x) := by
  refine ⟨by simp [h.1], fun i => ?_⟩
  by_cases e : g = i
  · subst e
    have hsz := h.1
    refine .inr ⟨hg, ?_, fun k l c p fs cl q => ?_⟩
    · rw [Array.getElem?_setIfInBounds, Array.getElem?_setIfInBounds, hsz, if_pos rfl, if_pos rfl]
    · rw [Array.getElem?_setIfInBounds] at q
      simp only [if_true] at q
      split at q
      · exact hx k l c p fs cl (Option.some.inj q)
      · cases q
  · rw [Array.getElem?_setIfInBounds_ne e, Array.getElem?_setIfInBounds_ne e]
    exact h.2 i
theorem Alike.push (h : Alike Z G G') (hx : sleeping x = false) : Alike Z (G.push x) (G'.push x) := by
  refine ⟨by simp [h.1], fun i => ?_⟩
  have hn : Z G.size = none := by
    rcases h.2 G.size with ⟨z, _, _, a, _⟩ | ⟨n, _⟩
    · rw [Array.getElem?_eq_none (Nat.le_refl _)] at a; cases a
    · exact n
  by_cases e : i = G.size
  · subst e
    refine .inr ⟨hn, by rw [Array.getElem?_push_size, h.1, Array.getElem?_push_size], fun k l c p fs cl q => ?_⟩
    rw [Array.getElem?_push_size] at q
    cases q
    cases hx
  · have e' : i ≠ G'.size := by rw [← h.1]; exact e
    rw [Array.getElem?_push, Array.getElem?_push, if_neg e, if_neg e']
    exact h.2 i
def sleepers (G : Array GenState) : Nat → Option GenState := fun i => (G[i]?).bind fun x => if sleeping x = true then some x else none
theorem Alike.of (G : Array GenState) : Alike (sleepers G) (G.map putDown) G := by
  refine ⟨by simp, fun i => ?_⟩
  rw [Array.getElem?_map]
  unfold sleepers
  cases e : G[i]? with
  | none => exact .inr ⟨rfl, rfl, fun _ _ _ _ _ _ q => by cases q⟩
  | some x =>
    by_cases hx : sleeping x = true
    · exact .inl ⟨x, by rw [Option.bind_some, if_pos hx], hx, rfl, rfl⟩
    · refine .inr ⟨by rw [Option.bind_some, if_neg hx], ?_, fun k l c p fs cl q => ?_⟩
      · cases x <;> first | rfl | exact absurd rfl hx
      · cases x <;> first | (cases q; done) | exact absurd rfl hx
theorem Alike.bare (h : Alike Z G G') (hb : ∀ y ∈ G, y.bare = true) : ∀ y ∈ G', y.bare = true := fun y hy => by
  obtain ⟨i, hi, e⟩ := Array.mem_iff_getElem.mp hy
  have e : G'[i]? = some y := by rw [Array.getElem?_eq_getElem hi, e]
  rcases h.2 i with ⟨z, _, _, a, b⟩ | ⟨_, a, _⟩
  · rw [e] at b
    cases b
    rw [← putDown_bare]
    exact hb _ (Array.mem_of_getElem? a)
  · rw [e] at a
    exact hb y (Array.mem_of_getElem? a)
end
theorem split_app : ∀ {fs gs : List Frame}, splitAtGen fs = none → splitAtGen gs = none → splitAtGen (fs ++ gs) = none
  | [], gs, _, h => h
  | .gen g k l c p :: fs, gs, h, _ => by cases h
  | .ret k m g l c p kp :: fs, gs, h, h2 => by
    simp only [splitAtGen, Option.map_eq_none_iff, List.cons_append] at h ⊢
    exact split_app h h2
theorem split_tail {k : Result → Sem Fin} {m : Option Value} {g : Bool} {l : List Value} {c : Code} {p : Pos} {kp : List Value} {fs : List Frame} (h : splitAtGen (.ret k m g l c p kp :: fs) = none) : splitAtGen fs = none := by
  simpa only [splitAtGen, Option.map_eq_none_iff] using h
abbrev withG (s : Shared) (G : Array GenState) : Shared := { s with gens := G }
def End.own : End → Prop
  | .ret _ => True
  | .susp _ _ _ _ _ _ fs => splitAtGen fs = none
theorem End.own_state {e : End} (h : End.own e) : ∀ k l c p fs cl, e.genState = .suspended k l c p fs cl → splitAtGen fs = none := by
  intro k l c p fs cl q
  cases e with
  | ret r => cases q
  | susp v g l0 k0 c0 p0 fs0 => cases q; exact h
theorem runs_alike {M : Model} {Z : Nat → Option GenState} {Γ : Ctx} {p : Pos} {t : Sem Fin} {fs : List Frame} {s s' : Shared} {e : End} (h : Runs M Γ p t fs s e s') :
    splitAtGen fs = none → ∀ G, Alike Z s.gens G → ∃ G', Alike Z s'.gens G' ∧ Runs M Γ p t fs (withG s G) e (withG s' G') ∧ End.own e := by
  induction h with
  | done => intro _ G a; exact ⟨G, a, .done, trivial⟩
  | raise => intro _ G a; exact ⟨G, a, .raise, trivial⟩
  | again hq _ ih => intro hf G a; obtain ⟨G', b, r, o⟩ := ih hf G a; exact ⟨G', b, .again hq r, o⟩
  | rule _ ih => intro hf G a; obtain ⟨G', b, r, o⟩ := ih hf G a; exact ⟨G', b, .rule r, o⟩
  | «at» _ ih => intro hf G a; obtain ⟨G', b, r, o⟩ := ih hf G a; exact ⟨G', b, .at r, o⟩
  | load ho _ ih => intro hf G a; obtain ⟨G', b, r, o⟩ := ih hf G a; exact ⟨G', b, .load ho r, o⟩
  | update ho _ ih => intro hf G a; obtain ⟨G', b, r, o⟩ := ih hf G a; exact ⟨G', b, .update ho r, o⟩
  | loadIfAlive _ ih => intro hf G a; obtain ⟨G', b, r, o⟩ := ih hf G a; exact ⟨G', b, .loadIfAlive r, o⟩
  | point _ ih => intro hf G a; obtain ⟨G', b, r, o⟩ := ih hf G a; exact ⟨G', b, .point r, o⟩
  | alloc _ ih => intro hf G a; obtain ⟨G', b, r, o⟩ := ih hf G a; exact ⟨G', b, .alloc r, o⟩
  | fresh _ ih => intro hf G a; obtain ⟨G', b, r, o⟩ := ih hf G a; exact ⟨G', b, .fresh r, o⟩
  | ask _ ih => intro hf G a; obtain ⟨G', b, r, o⟩ := ih hf G a; exact ⟨G', b, .ask r, o⟩
  | choose hn _ ih => intro hf G a; obtain ⟨G', b, r, o⟩ := ih hf G a; exact ⟨G', b, .choose hn r, o⟩
  | os _ ih => intro hf G a; obtain ⟨G', b, r, o⟩ := ih hf G a; exact ⟨G', b, .os r, o⟩
  | handled _ ih => intro hf G a; obtain ⟨G', b, r, o⟩ := ih hf G a; exact ⟨G', b, .handled r, o⟩
  | genState hg _ ih =>
    intro hf G a
    obtain ⟨G', b, r, o⟩ := ih hf G a
    obtain ⟨st', h1, h2⟩ := a.seen hg
    exact ⟨G', b, .genState h1 (by rw [h2]; exact r), o⟩
  | stack _ ih => intro hf G a; obtain ⟨G', b, r, o⟩ := ih hf G a; exact ⟨G', b, .stack r, o⟩
  | thread _ ih => intro hf G a; obtain ⟨G', b, r, o⟩ := ih hf G a; exact ⟨G', b, .thread r, o⟩
  | newGen _ ih =>
    intro hf G a
    obtain ⟨G', b, r, o⟩ := ih hf _ (a.push rfl)
    refine ⟨G', b, .newGen ?_, o⟩
    rw [a.1] at r
    exact r
  | call _ _ ih1 ih2 =>
    intro hf G a
    obtain ⟨G1, b1, r1, _⟩ := ih1 rfl G a
    obtain ⟨G2, b2, r2, o2⟩ := ih2 rfl G1 b1
    exact ⟨G2, b2, .call r1 r2, o2⟩
  | callSusp _ ih =>
    intro hf G a
    obtain ⟨G1, b1, r1, o1⟩ := ih rfl G a
    exact ⟨G1, b1, .callSusp r1, split_app o1 rfl⟩
  | yield => intro _ G a; exact ⟨G, a, .yield, rfl⟩
  | resumeFresh hg _ hq _ ih1 ih2 =>
    intro hf G a
    obtain ⟨n, hg'⟩ := a.off hg rfl
    obtain ⟨G1, b1, r1, o1⟩ := ih1 rfl _ (a.set n fun _ _ _ _ _ _ q => by cases q)
    obtain ⟨G2, b2, r2, o2⟩ := ih2 rfl _ (b1.set n (End.own_state o1))
    exact ⟨G2, b2, .resumeFresh hg' r1 hq r2, o2⟩
  | resumeSuspended hg hr hq _ ih1 ih2 =>
    intro hf G a
    rcases a.2 _ with ⟨z, hz, hzs, h1, h2⟩ | ⟨n, h1, h2⟩
    · exfalso
      rw [hg] at h1
      cases z <;> cases hzs
      cases h1
      exact not_run hr
    · have hfs := h2 _ _ _ _ _ _ hg
      rw [hg] at h1
      obtain ⟨G1, b1, r1, o1⟩ := ih1 hfs _ (a.set n fun _ _ _ _ _ _ q => by cases q)
      obtain ⟨G2, b2, r2, o2⟩ := ih2 rfl _ (b1.set n (End.own_state o1))
      exact ⟨G2, b2, .resumeSuspended h1.symm r1 hq r2, o2⟩
  | resumeJustStarted hg hv _ ih =>
    intro hf G a
    obtain ⟨G', b, r, o⟩ := ih hf G a
    exact ⟨G', b, .resumeJustStarted (a.off hg rfl).2 hv r, o⟩
  | resumeThrowFresh hg _ ih =>
    intro hf G a
    obtain ⟨n, hg'⟩ := a.off hg rfl
    obtain ⟨G', b, r, o⟩ := ih hf _ (a.set n fun _ _ _ _ _ _ q => by cases q)
    exact ⟨G', b, .resumeThrowFresh hg' r, o⟩
  | resumeRunning hg _ ih =>
    intro hf G a
    obtain ⟨G', b, r, o⟩ := ih hf G a
    exact ⟨G', b, .resumeRunning (a.off hg rfl).2 r, o⟩
  | resumeFinished hg _ ih =>
    intro hf G a
    obtain ⟨G', b, r, o⟩ := ih hf G a
    exact ⟨G', b, .resumeFinished (a.off hg rfl).2 r, o⟩
  | segRet _ _ ih1 ih2 =>
    intro hf G a
    obtain ⟨G1, b1, r1, _⟩ := ih1 rfl G a
    obtain ⟨G2, b2, r2, o2⟩ := ih2 (split_tail hf) G1 b1
    exact ⟨G2, b2, .segRet r1 r2, o2⟩
  | segGen _ _ _ _ => intro hf; cases hf
  | segSuspOut hs _ ih =>
    intro hf G a
    obtain ⟨G1, b1, r1, o1⟩ := ih rfl G a
    exact ⟨G1, b1, .segSuspOut hs r1, split_app o1 hf⟩
  | segSuspGen hs _ _ _ _ _ => intro hf; rw [hs] at hf; cases hf
theorem wakes_alike {M : Model} {Z : Nat → Option GenState} {Γ : Ctx} {p : Pos} {g : Nat} {r : Resume} {s s' : Shared} {res : GenResult} {G : Array GenState} (h : Wakes M Γ p g r s res s') (a : Alike Z s.gens G) :
    ∃ G', Alike Z s'.gens G' ∧ Wakes M Γ p g r (withG s G) res (withG s' G') := by
  unfold Wakes at h
  split at h
  · exact h.elim
  · rename_i c hg
    obtain ⟨n, hg'⟩ := a.off hg rfl
    have hw : (withG s G).gens[g]? = some (.fresh c) := hg'
    unfold Wakes
    rw [hw]
    split at h
    · obtain ⟨e₁, s₁, hr, hq, rfl, rfl⟩ := h
      obtain ⟨G1, b1, r1, o1⟩ := runs_alike hr rfl _ (a.set n fun _ _ _ _ _ _ q => by cases q)
      exact ⟨_, b1.set n (End.own_state o1), e₁, _, r1, hq, rfl, rfl⟩
    · obtain ⟨rfl, rfl⟩ := h
      rename_i v hv
      refine ⟨G, a, ?_⟩
      cases v <;> first | exact absurd rfl (hv ·) | exact ⟨rfl, rfl⟩
    · obtain ⟨rfl, rfl⟩ := h
      have b := a.set n (x := .finished) fun _ _ _ _ _ _ q => by cases q
      exact ⟨_, b, rfl, rfl⟩
  · rename_i k₀ l₀ c₀ p₀ fs₀ cl hg
    obtain ⟨e₁, s₁, hr, hq, rfl, rfl⟩ := h
    rcases a.2 g with ⟨z, hz, hzs, h1, h2⟩ | ⟨n, h1, h2⟩
    · exfalso
      rw [hg] at h1
      cases z <;> cases hzs
      cases h1
      exact not_run hr
    · have hfs := h2 _ _ _ _ _ _ hg
      rw [hg] at h1
      obtain ⟨G1, b1, r1, o1⟩ := runs_alike hr hfs _ (a.set n fun _ _ _ _ _ _ q => by cases q)
      have hw : (withG s G).gens[g]? = _ := h1.symm
      unfold Wakes
      rw [hw]
      exact ⟨_, b1.set n (End.own_state o1), e₁, _, r1, hq, rfl, rfl⟩
  · rename_i hg
    obtain ⟨rfl, rfl⟩ := h
    have hw : G[g]? = some .running := (a.off hg rfl).2
    unfold Wakes
    refine ⟨G, a, ?_⟩
    show match G[g]? with | _ => _
    rw [hw]
    exact ⟨rfl, rfl⟩
  · rename_i hg
    obtain ⟨rfl, rfl⟩ := h
    have hw : G[g]? = some .finished := (a.off hg rfl).2
    unfold Wakes
    refine ⟨G, a, ?_⟩
    show match G[g]? with | _ => _
    rw [hw]
    exact ⟨rfl, rfl⟩
def AlikeP (Z : Nat → Option GenState) (P : Shared → Prop) (s' : Shared) : Prop := ∃ G, Alike Z G s'.gens ∧ P (withG s' G)
theorem wp_alike {α : Type} {M : Model} {Z : Nat → Option GenState} (Γ : Ctx) (t : Sem α) : ∀ (Q : α → Pos → Shared → Prop) (E : Value → Pos → Shared → Prop) (p : Pos) (s : Shared) (G : Array GenState), Alike Z s.gens G → wp M Γ t Q E p s →
    wp M Γ t (fun a p' => AlikeP Z (Q a p')) (fun e p' => AlikeP Z (E e p')) p (withG s G) := by
  induction t with
  | pure a => intro Q E p s G al h; exact ⟨_, al, h⟩
  | raise e => intro Q E p s G al h; exact ⟨_, al, h⟩
  | unsupported _ => intro Q E p s G _ h; exact h
  | finish _ => intro Q E p s G _ h; exact h
  | rule _ k ih => intro Q E p s G al h; exact ih () Q E p s G al h
  | «at» p' k ih => intro Q E p s G al h; exact ih () Q E p' s G al h
  | load a _ k ih => intro Q E p s G al h; obtain ⟨o, ho, h⟩ := h; exact ⟨o, ho, ih o Q E p s G al h⟩
  | update a _ f k ih => intro Q E p s G al h; exact ⟨h.1, ih () Q E p { s with heap := s.heap.update a f } G al h.2⟩
  | loadIfAlive a k ih => intro Q E p s G al h; exact ih _ Q E p s G al h
  | point _ k ih => intro Q E p s G al h; exact ih () Q E p s G al h
  | register _ _ => intro Q E p s G _ h; exact h
  | alloc o k ih => intro Q E p s G al h; exact ih s.heap.objs.size Q E p { s with heap := s.heap.push o } G al h
  | fresh k ih => intro Q E p s G al h; exact ih s.toks Q E p { s with toks := s.toks + 1 } G al h
  | ask k ih => intro Q E p s G al h; exact ih _ Q E p s G al h
  | choose src m k ih => intro Q E p s G al h; exact ⟨h.1, ih _ Q E p { s with drawn := s.drawn.bump src } G al h.2⟩
  | os q _ k ih => intro Q E p s G al h; exact ih _ Q E p { s with os := (Os.step s.os q).1 } G al h
  | call c hd _ _ k ih =>
    intro Q E p s G al h
    obtain ⟨r, s', hr, h⟩ := h
    obtain ⟨G1, b1, r1, _⟩ := runs_alike hr rfl G al
    exact ⟨r, _, r1, ih r Q E p s' G1 b1 h⟩
  | handled own k ih => intro Q E p s G al h; exact ih _ Q E p s G al h
  | genState g k ih =>
    intro Q E p s G al h
    obtain ⟨st, hs, h⟩ := h
    obtain ⟨st', h1, h2⟩ := al.seen hs
    exact ⟨st', h1, by rw [h2]; exact ih _ Q E p s G al h⟩
  | newGen c k ih =>
    intro Q E p s G al h
    have h2 := ih s.gens.size Q E p { s with gens := s.gens.push (.fresh c) } _ (al.push (x := .fresh c) rfl) h
    rw [al.1] at h2
    exact h2
  | resume g r _ k ih =>
    intro Q E p s G al h
    obtain ⟨res, s', hw, h⟩ := h
    obtain ⟨G1, b1, w1⟩ := wakes_alike hw al
    exact ⟨res, _, w1, ih res Q E p s' G1 b1 h⟩
  | yield _ _ _ _ => intro Q E p s G _ h; exact h
  | stack k ih => intro Q E p s G al h; exact ih _ Q E p s G al h
  | fork _ _ => intro Q E p s G _ h; exact h
  | thread k ih => intro Q E p s G al h; exact ih _ Q E p s G al h
  | await _ _ _ _ _ => intro Q E p s G _ h; exact h
theorem wpAny_asleep {α : Type} {M : Model} {A : Around} {s : Shared} {t : Sem α} {Q : α → Shared → Prop} {E : Value → Shared → Prop}
    (h : wpAny M A t (fun a s' => ∀ G, (AllBare s'.gens → AllBare G) → (∀ (g : Nat) (x : GenState), s.gens[g]? = some x → sleeping x = true → G[g]? = some x) → Q a (withG s' G)) (fun e s' => ∀ G, (AllBare s'.gens → AllBare G) → E e (withG s' G)) (withG s (s.gens.map putDown))) : wpAny M A t Q E s := by
  intro Γ p hΓ
  have al := Alike.of s.gens
  have h2 := wp_alike Γ t _ _ p (withG s (s.gens.map putDown)) s.gens al (h Γ p hΓ)
  refine PySem.Sem.wp_mono M Γ t (fun a p' s' hq => ?_) (fun e p' s' hq => ?_) p s h2
  · obtain ⟨G, b, q⟩ := hq
    refine q s'.gens b.bare fun g x hg hx => ?_
    have hz : sleepers s.gens g = some x := by unfold sleepers; rw [hg, Option.bind_some, if_pos hx]
    rcases b.2 g with ⟨z, h1, _, _, h4⟩ | ⟨h1, _⟩
    · rw [hz] at h1
      cases h1
      exact h4
    · rw [hz] at h1; cases h1
  · obtain ⟨G, b, q⟩ := hq
    exact q s'.gens b.bare
end My

namespace My
open PySem PySem.Spec PyProof.Rows L2
section
variable {K : PySem.W.Frag} {σ : L2.St} {H : Hp} {D : Ends} {g : TG} {tb : TS} {R : It → Hp → Prop} {te : TE} {Q : VK}
theorem g_iS (h : te σ H fun x H1 => ∃ z, x = .str z ∧ R (Its z) H1) : iStr te σ H R := h
theorem g_forS {z : Str} (Pv : Nat → L2.St → Hp → Prop) (h0 : Pv 0 σ H)
    (hs : ∀ i c σ H, z.cps.toList[i]? = some c → Pv i σ H → g (.str ⟨#[c]⟩) σ H fun σ2 H2 => tb { D with nx := Pv (i + 1), ct := Pv (i + 1), bk := D.nx } σ2 H2) (hd : ∀ σ H, Pv z.cps.toList.length σ H → D.nx σ H) :
    ∃ y, V.str z = .str y ∧ ForB g tb D σ (Its y) H := by
  refine ⟨z, rfl, fun i m σ H => m = z.cps.toList.length - i ∧ i ≤ z.cps.toList.length ∧ Pv i σ H, ⟨z.cps.toList.length, by simp, Nat.zero_le _, h0⟩, ?_⟩
  rintro i m σ H ⟨rfl, hi, p⟩
  by_cases hlt : i < z.cps.toList.length
  · refine .inr ⟨by simpa [Its] using hlt, Pv (i + 1), fun σ' H' p' => ⟨z.cps.toList.length - (i + 1), by omega, rfl, hlt, p'⟩, fun x H' y => ?_⟩
    obtain ⟨e, c, hc, rfl⟩ := y
    subst e
    exact hs i c σ _ (by simpa using hc) p
  · have e : i = z.cps.toList.length := by omega
    subst e
    exact .inl ⟨by simp [Its], hd σ H p⟩
theorem g_notInS {c : Nat} {z : Str} (h : Q (.bl (!decide (c ∈ z.cps.toList))) H) : rNotInS_ (.str ⟨#[c]⟩) (.str z) H Q := ⟨c, z, rfl, rfl, h⟩
end
section
variable {K : PySem.W.Frag} {σ : L2.St} {H : Hp} {D : Ends} {Q : VK} {td ty tx tv te : TE}
theorem g_dget (h : td σ H fun x H1 => ty σ H1 fun y H2 => ∃ a v, x = .ref a ∧ DGet H2 a y (some v) ∧ Q v H2) : tDGet td ty σ H Q := h
theorem g_dget2 (h : td σ H fun x H1 => ∃ a, x = .ref a ∧ IsD H1 a ∧ ty σ H1 fun y H2 => tx σ H2 fun z H3 => ∃ o, DGet H3 a y o ∧ Q (o.getD z) H3) : tDGet2 td ty tx σ H Q := h
theorem g_din (h : ty σ H fun y H1 => td σ H1 fun x H2 => ∃ a o, x = .ref a ∧ DGet H2 a y o ∧ Q (.bl o.isSome) H2) : tDIn ty td σ H Q := h
theorem g_dnin (h : ty σ H fun y H1 => td σ H1 fun x H2 => ∃ a o, x = .ref a ∧ DGet H2 a y o ∧ Q (.bl (!o.isSome)) H2) : tDNotIn ty td σ H Q := h
theorem g_dput (h : tv σ H fun v H1 => td σ H1 fun x H2 => ty σ H2 fun y H3 => ∃ a H4, x = .ref a ∧ DPut H3 a y v H4 ∧ D.nx σ H4) : sDPut td ty tv D σ H := h
theorem g_star {t : TA} {QL : List V → Hp → Prop} (h : te σ H fun x H1 => ∃ p xs, x = V.ref p ∧ (SqT K H1 p xs ∨ SqL K H1 p xs) ∧ t σ H1 fun ys H2 => QL (xs ++ ys) H2) : StX.tStar K te t σ H QL := h
end
theorem DGet.int {H : Hp} {a : Addr} {kvs : List (Key × V)} {n : Int} (h : H a = some (.dK kvs)) : DGet H a (.int n) (valV kvs (.inl n)) := .inl ⟨kvs, .inl n, .inl h, rfl, rfl⟩
theorem DGet.str {H : Hp} {a : Addr} {kvs : List (Key × V)} {n : Str} (h : H a = some (.dK kvs)) : DGet H a (.str n) (valV kvs (.inr n)) := .inl ⟨kvs, .inr n, .inl h, rfl, rfl⟩
theorem isD_of {H : Hp} {a : Addr} {kvs : List (Key × V)} (h : H a = some (.dK kvs)) : IsD H a := .inl ⟨kvs, .inl h⟩
section
variable {K : PySem.W.Frag} {σ : L2.St} {H : Hp} {D : Ends} {Q : VK} {te : TE} {QB : Bool → Hp → Prop}
theorem g_gtup {a : Addr} {xs : List V} {n : Nat} {t : TGs} {QS : L2.St → Hp → Prop} (h : H a = some (.tup xs)) (hl : xs.length = n) (k : t xs σ H QS) : gTup K n t (.ref a) σ H QS := ⟨a, xs, rfl, .inl (.inl h), hl, k⟩
theorem g_gcons {v : V} {r : List V} {t : TG} {u : TGs} {QS : L2.St → Hp → Prop} (h : t v σ H fun σ' H' => u r σ' H' QS) : gCons t u (v :: r) σ H QS := ⟨v, r, rfl, h⟩
theorem g_gnil {QS : L2.St → Hp → Prop} (h : QS σ H) : gNil [] σ H QS := ⟨rfl, h⟩
theorem g_ipI {f : Int → Int → Int} {i j : Int} (h : Q (.int (f i j)) H) : ipI f (.int i) (.int j) H Q := ⟨i, j, rfl, rfl, h⟩
theorem g_augV {i : Nat} {ti : TIp} {x : V} (e : σ[i]? = some (some x)) (h : te σ H fun y H1 => ti x y H1 fun z H2 => D.nx (σ.set i (some z)) H2) : tAug i te ti D σ H := ⟨x, e, h⟩
end
end My

namespace My
open PySem PySem.Spec PyProof.Rows L2
structure SupScope (N ps : List Str) (sc : Scope) : Prop where
  kind : sc.kind = .function
  co : sc.isCoroutine = false
  gen : sc.isGenerator = false
  nd : N.Nodup
  pre : N.take ps.length = ps
  par : ∀ x ∈ ps, sc.names.lookup x = some .local
  nocell : ∀ y ∈ sc.names, y.2 ≠ .cell
  free : ∀ y ∈ sc.names, y.2 = .free → y.1 = ("__class__" : Str)
  sup : sc.names.lookup ("super" : Str) = some .globalImplicit
  cls : sc.names.lookup ("__class__" : Str) = some .free
abbrev envS (qual : Str) (scope : Scope) (L f : Addr) (cd : Value) (cc : Addr) : Env := PySem.W.ksEnv qual scope L f cd cc
def cxS (CX : CXT) (P : Program) (w : World) (K : PySem.W.Frag) (mg : Str → Option Value) (base : Heap) (N : List Str) (qual : Str) (scope : Scope) (f : Addr) (cd : Value) (cc : Addr) (A : Around) (outer : List Env) (s : Shared) (H : Hp) (E : XK) : Cx where
  prog := P
  w := w
  K := K
  mg := mg
  base := base
  A := A.deeper (envS qual scope s.heap.objs.size f cd cc)
  N := N
  s_0 := s
  H_0 := H
  env := envS qual scope s.heap.objs.size f cd cc
  outer := outer
  stack := envS qual scope s.heap.objs.size f cd cc :: outer
  ex := []
  calm := true
  fn := fun x => !(x == ("__class__" : Str))
  pn := []
  xe := fun e s' => wpAny (model P w) (A.deeper (envS qual scope s.heap.objs.size f cd cc)) (leaving (envS qual scope s.heap.objs.size f cd cc) e) (fun _ s'' => CX outer H s E e s'') (fun e' s'' => CX outer H s E e' s'') s'
theorem one_lookup {x : Str} {cc c : Addr} (h : ([(("__class__" : Str), cc)] : List (Str × Addr)).lookup x = some c) : x = ("__class__" : Str) ∧ c = cc := by
  simp only [List.lookup] at h
  split at h
  · rename_i e
    exact ⟨by simpa using e, (Option.some.inj h).symm⟩
  · cases h
theorem lookup_nodup {α : Type} : ∀ {l : List (Str × α)} {y : Str} {u : α}, (l.map (·.1)).Nodup → (y, u) ∈ l → l.lookup y = some u
  | (x, v) :: l, y, u, hn, hm => by
    rw [List.map_cons] at hn
    rcases List.mem_cons.mp hm with e | hm
    · cases e
      simp [List.lookup]
    · have hne : ¬ y = x := fun e => (List.nodup_cons.mp hn).1 (by rw [← e]; exact List.mem_map_of_mem (f := (·.1)) hm)
      have : (y == x) = false := by simpa using hne
      simp only [List.lookup, this]
      exact lookup_nodup (List.nodup_cons.mp hn).2 hm
theorem inv_startS {CX : CXT} {P : Program} {w : World} {K : PySem.W.Frag} {mg : Str → Option Value} {base : Heap} {N ps : List Str} {qual : Str} {scope : Scope} {f cc : Addr} {cd : Value} {A : Around} {outer : List Env} {s : Shared} {h₀ : Heap} {tk : Nat} {H : Hp} {E : XK} {us : List Value} {vs : List V}
    {oc : Obj} {cv : Option Value} (S : SupScope N ps scope) (hd : A.handled = none) (e0 : Env0 P w K mg base A outer s H) (hl : vs.length = ps.length) (r : Vals vs us) (hc : K.lookup cc = some oc) (hcv : oc.data = .cell cv)
    (hns : h₀.Ns s.heap.objs.size (fun x => (ps.zip us).reverse.lookup x)) (hk : ∀ b o, s.heap.get? b = some o → h₀.get? b = some o) :
    Inv (cxS CX P w K mg base N qual scope f cd cc A outer s H E) [] (L2.start N vs) H { s with heap := h₀, toks := tk } := by
  have noA : ∀ b : Addr, b ∉ (cxS CX P w K mg base N qual scope f cd cc A outer s H E).ex := fun b z => absurd (show b ∈ ([] : List Addr) from z) (by simp)
  have hbc : base.get? cc = some oc := e0.mod.kin _ _ hc
  refine ⟨⟨e0.mod, S.kind, rfl, rfl, Nat.le_refl _, fun x y c h1 h2 => ?_, fun x hx => ?_, fun x c h1 h2 => ?_, fun _ => hd, Around.frames_deeper e0.frames, .inr ⟨rfl, rfl⟩, fun b z => absurd z (noA b), e0.bs, e0.bsz, fun b _ _ => noA b, fun b z => absurd z (noA b), e0.funs, e0.frf⟩,
    rfl, e0.bare, Un.kept hk, ⟨_, hns, fun i y v h1 h2 h3 => ?_⟩, fun x c h => ?_, e0.hok.fresh (Nat.le_refl _), fun x c h => ?_, fun p hp => absurd (show p ∈ ([] : List (Addr × Obj)) from hp) (by simp), e0.hok.kept hk, ?_⟩
  · exact (one_lookup h1).1.trans (one_lookup h2).1.symm
  · rcases hx with hx | hx
    · exact absurd rfl (S.nocell _ (PySem.mem_of_lookup hx))
    · have := S.free _ (PySem.mem_of_lookup hx) rfl
      have e : x = ("__class__" : Str) := this
      subst e
      exact ⟨cc, rfl⟩
  · have e := (one_lookup h2).1
    subst e
    exact absurd h1 (by show ¬ (!(("__class__" : Str) == "__class__")) = true; simp)
  · have hi : i < vs.length := by
      unfold L2.start at h2
      by_cases hi : i < vs.length
      · exact hi
      · rw [List.getElem?_append_right (by simpa using hi)] at h2
        rw [List.getElem?_replicate] at h2
        split at h2 <;> cases h2
    have ha : vs[i]? = some v := by
      unfold L2.start at h2
      rw [List.getElem?_append_left (by simpa using hi), List.getElem?_map] at h2
      cases e : vs[i]? with
      | none => rw [e] at h2; cases h2
      | some a => rw [e] at h2; cases h2; rfl
    obtain ⟨u, hu, rv⟩ := r.get ha
    have hp : ps[i]? = some y := by
      rw [← S.pre, List.getElem?_take_of_lt (by omega)]; exact h1
    have ndP : ps.Nodup := by rw [← S.pre]; exact S.nd.sublist (List.take_sublist _ _)
    refine ⟨u, rv, .inl ⟨S.par y (List.mem_of_getElem? hp), ?_⟩⟩
    have hm : (y, u) ∈ ps.zip us := List.mem_of_getElem? (i := i) (by rw [List.getElem?_zip_eq_some]; exact ⟨hp, hu⟩)
    have hlu : us.length = ps.length := by rw [← r.length]; exact hl
    refine lookup_nodup ?_ (List.mem_reverse.mpr hm)
    rw [List.map_reverse, List.map_fst_zip (by omega)]
    exact List.pairwise_reverse.mpr (List.Pairwise.imp (fun h => Ne.symm h) ndP)
  · rw [(one_lookup h).2]
    exact ⟨cv, oc, hk _ _ (e0.bs _ _ hbc).1, hcv⟩
  · rw [(one_lookup h).2]
    exact (e0.bs _ _ hbc).2
  · have hpl : ps.length ≤ N.length := by have := congrArg List.length S.pre; rw [List.length_take] at this; omega
    unfold L2.start
    show _ = N.length
    rw [List.length_append, List.length_map, List.length_replicate]
    omega
theorem fn_ofS {CX : CXT} {P : Program} {w : World} {K : PySem.W.Frag} {mg : Str → Option Value} {base : Heap} {k : Nat} {f cc : Addr} {x qual : Str} {params : Arguments} {body : List Stmt} {scope : Scope} {fd : FuncData} {N ps : List Str} {sp : Sp} {oc : Obj} {cv : Option Value}
    (F : FunC K x qual params body scope [("__class__", cc)] f fd) (S : SupScope N ps scope) (hc : K.lookup cc = some oc) (hcv : oc.data = .cell cv) (len : ∀ vs H Q E, sp vs H Q E → vs.length = ps.length)
    (hbody : ∀ (cdv : Value) (A : Around) (outer : List Env) (s : Shared) (H : Hp) (vs : List V) (Q : VK) (E : XK) (s1 : Shared), Room k (A.deeper (envS qual scope s.heap.objs.size f cdv cc)) → PySem.W.codeIn K cdv qual = true → (∃ oc od fd osl, K.lookup f = some ⟨oc, od, .func fd, osl⟩ ∧ fd.code = cdv ∧ fd.params = params) → sp vs H Q E →
      Inv (cxS CX P w K mg base N qual scope f cdv cc A outer s H E) [] (L2.start N vs) H s1 →
      PySem.wpAt (model P w) (A.deeper (envS qual scope s.heap.objs.size f cdv cc)) (.func body (envS qual scope s.heap.objs.size f cdv cc)) (execs body (envS qual scope s.heap.objs.size f cdv cc))
        (SP (cxS CX P w K mg base N qual scope f cdv cc A outer s H E) [] { nx := fun _ H' => Q .non H', rt := Q }) (cxS CX P w K mg base N qual scope f cdv cc A outer s H E).xe s1) : FnOk P w K mg base CX (k + 1) f fd ps sp := by
  obtain ⟨oc', od, kV, doc, pm, an, cdv, ct, osl, rfl, lk, hcd⟩ := F.ex
  refine ⟨len, fun A outer s H args us vs Q E hr e0 hb r hsp => ?_⟩
  have hl := len _ _ _ _ hsp
  have KX : K.In s.heap := e0.mod.kin.keeps fun b o e => (e0.bs b o e).1
  have lim : s.heap.NoLimit := e0.mod.nolimit.keeps fun b o e => (e0.bs b o e).1
  refine PySem.ks_codeAny_call_defAt (body := body) (binds := ps.zip us) hr.depth (KX _ _ lk) rfl lim (PySem.W.codeRec_of KX hcd) rfl hb S.nocell (fun ⟨n, v⟩ hy => S.par n (List.of_mem_zip hy).1) (fun h₀ hns hk => ?_) S.co S.gen S.kind
  have I := inv_startS (CX := CX) (P := P) (w := w) (K := K) (mg := mg) (base := base) (qual := qual) (f := f) (cd := cdv) (A := A) (outer := outer) (tk := s.toks + (ps.zip us).length) (E := E) S hr.hd e0 hl r hc hcv hns hk
  refine PySem.ks_wpAt_mono (hbody cdv A outer s H vs Q E _ (hr.deeper _) hcd ⟨_, _, _, _, lk, rfl, rfl⟩ hsp I) (fun fl s' hs => ?_) fun e s' hs => hs
  have fin : ∀ {σ' : L2.St} {H' : Hp} {v : V} {u : Value}, Inv (cxS CX P w K mg base N qual scope f cdv cc A outer s H E) [] σ' H' s' → RelV v u → Q v H' → CE outer P w H s Q u s' :=
    fun {σ' H' v u} J rv q => ⟨v, H', J.os, J.bare, J.base, J.hok, rv, q⟩
  cases fl with
  | ret u =>
    obtain ⟨v, σ', H', J, rv, q⟩ := hs
    exact fin J rv q
  | next =>
    obtain ⟨σ', H', J, q⟩ := hs
    exact fin (v := V.non) (u := Value.none) J rfl q
  | brk =>
    obtain ⟨_, _, _, q⟩ := hs
    exact False.elim q
  | cont =>
    obtain ⟨_, _, _, q⟩ := hs
    exact False.elim q
abbrev ve : String := "ValueError.__init__"
section
variable {X : Cx} {pins : List (Addr × Obj)} {σ : L2.St} {H : Hp} {s : Shared} {a C u : Addr} {A : Around} {E : Value → Shared → Prop}
theorem call_mw {us : List Value} {Q : Value → Shared → Prop} (T : OexC X.K C) (I : Inv X ((u, PySem.W.kxs_mw ve a) :: pins) σ H s) (e : H a = some (exo a C none)) (hl : us.length ≤ sizeLine) (h : ∀ s', Inv X pins σ H s' → Q .none s') :
    wpAny (model X.prog X.w) A (call (.ref u) us) Q E s := by
  obtain ⟨nm, q, N, bs, bm, sn, sub, ab, col, dd, k0, k1, k2, k3, k5, hC, hbm⟩ := T.cls
  obtain ⟨t1, ho⟩ := exo_at I.hok e
  have hu := ClX.pin_at I
  have I := ClX.unpin I
  obtain ⟨hp, g, d, t, os⟩ := s
  refine wpAny_call (codeAny_of_tree ?_)
  show wpAny _ A.in1 (callAny (.ref u) ⟨us, []⟩) _ _ _
  simp only [callAny]
  refine wpAny_bind (wpAny_load hu ?_)
  simp only [PySem.W.kxs_mw, show (Value.type "method-wrapper" == Value.type "method" || Value.type "method-wrapper" == Value.type "builtin_function_or_method" || Value.type "method-wrapper" == Value.type "method-wrapper") = true by decide, if_true]
  refine PySem.W.KFB.if_so (by decide) ?_
  refine wpAny_bind (PySem.W.check_bound_init PySem.F.excBase_ValueError.toExcCallFacts (I.kIn _ _ hC) ho rfl ?_)
  refine wpAny_bind (wpAny_pure (wpAny_pure ?_))
  refine ⟨plainId_quiet PySem.F.excBase_ValueError.init.plain _, codeAny_builtin PySem.F.excBase_ValueError.initEntry ?_⟩
  refine PySem.W.exc_init_tree (cls := .ref C) (t0 := t1) (dv := none) (c2 := .none) (c3 := .none) (b4 := .bool false) ho hl fun h' k hx _ => ?_
  have J := I.write (t' := t) (x := a) (e := a) (o := exo a C none) (by rw [e]; exact True.intro) (.inl rfl) k ⟨_, hx⟩ (exo_ok hx)
  have eu : upd H a (exo a C none) = H := by
    funext b
    by_cases hb : b = a
    · rw [hb, upd_same, e]
    · rw [upd_ne hb]
  rw [eu] at J
  exact h _ J
end
theorem boot_sup : bootBuiltins "super" = some (.type "super") := by first | rfl | kernel_rfl | decide +kernel
structure SupF (P : Program) (K : PySem.W.Frag) (f : Addr) (cdv : Value) (cc C D : Addr) (sf : Str) (scope : Scope) : Prop where
  fn : ∃ oc od fd osl ar, K.lookup f = some ⟨oc, od, .func fd, osl⟩ ∧ (fd.params.posonlyargs ++ fd.params.args).head? = some ar ∧ ar.arg = sf
  code : ∃ cda ccl cdd vs ccs file tf, cdv = .ref cda ∧ K.lookup cda = some ⟨ccl, cdd, .fields vs, ccs⟩ ∧ vs[2]? = some (.str file tf) ∧ ((P.main.file : Str) == file) = true
  cell : ∃ cl cld csl, K.lookup cc = some ⟨cl, cld, .cell (some (.ref D)), csl⟩
  cls : ∃ cd, PySem.W.clsIn K D = some cd
  clsC : ∃ cd, PySem.W.clsIn K C = some cd
  sub : PySem.W.mroIn K C (.ref D) = some true
  nos : PySem.W.nsIn K mainGlobals "super" = some none
  stat : PySem.W.nsIn K cStatics "thirdparty.any" = some none
  ini : PySem.W.ks_superIn K C D "__init__" = some (some (.builtin ve))
  veC : PySem.W.subIn K (.ref C) (.type "ValueError") = some true
  selfL : scope.names.lookup sf = some .local
  top : (P.main.scope.names.lookup ("super" : Str)).isSome = false
section
variable {CX : CXT} {P : Program} {w : World} {K : PySem.W.Frag} {mg : Str → Option Value} {base : Heap} {N ps : List Str} {qual : Str} {scope : Scope} {f cc a C D : Addr} {cdv : Value} {A : Around} {outer : List Env} {s0 s : Shared} {H0 H : Hp} {E : XK} {σ : L2.St} {body : List Stmt} {sf z : Str} {j : Nat} {p0 p1 p2 p3 p4 p5 : Pos} {pl : Sem Bool}
theorem at_super (S : SupScope N ps scope) (T : OexC K C) (G : SupF P K f cdv cc C D sf scope) (hN0 : N[0]? = some sf) (I : Inv (cxS CX P w K mg base N qual scope f cdv cc A outer s0 H0 E) [] σ H s) (hσ : σ[0]? = some (some (.ref a))) (e : H a = some (exo a C none))
    (hev : eval (.Call (.Attribute (.Call (.Name "super" p0) [] [] p1) "__init__" p2) [.Constant (.str z) j p3] [] p4) (envS qual scope s0.heap.objs.size f cdv cc) = (do
      let ov ← attributeBase (.Call (.Name "super" p0) [] [] p1) "__init__" (envS qual scope s0.heap.objs.size f cdv cc) (eval (.Call (.Name "super" p0) [] [] p1) (envS qual scope s0.heap.objs.size f cdv cc))
      standAt p2.atName
      let (fx, first) ← holding [ov] (getMethod ov "__init__" pl)
      callWith p4 fx first (backTo p4 (starEach [.Constant (.str z) j p3] (envS qual scope s0.heap.objs.size f cdv cc))) [])) :
    PySem.wpAt (model P w) (A.deeper (envS qual scope s0.heap.objs.size f cdv cc)) (.func body (envS qual scope s0.heap.objs.size f cdv cc))
      (exec (.Expr (.Call (.Attribute (.Call (.Name "super" p0) [] [] p1) "__init__" p2) [.Constant (.str z) j p3] [] p4) p5) (envS qual scope s0.heap.objs.size f cdv cc))
      (fun fl s' => fl = .next ∧ Inv (cxS CX P w K mg base N qual scope f cdv cc A outer s0 H0 E) [] σ H s') (cxS CX P w K mg base N qual scope f cdv cc A outer s0 H0 E).xe s := by
  obtain ⟨oc, od, fd, osl, ar, hf, hp, har⟩ := G.fn
  obtain ⟨cda, ccl, cdd, vs, ccs, file, tf, rfl, hcode, hvs, hfile⟩ := G.code
  obtain ⟨cl, cld, csl, hcell⟩ := G.cell
  obtain ⟨cdD, hD⟩ := G.cls
  obtain ⟨cdC, hCc⟩ := G.clsC
  obtain ⟨t1, ho⟩ := exo_at I.hok e
  have X : K.In s.heap := I.kIn
  obtain ⟨oD, hD1, hD2⟩ : ∃ oD, s.heap.get? D = some oD ∧ oD.data = .cls cdD := by
    unfold PySem.W.clsIn at hD
    split at hD
    · rename_i c d cd' sl ho'
      cases hD
      exact ⟨_, X _ _ ho', rfl⟩
    · cases hD
  obtain ⟨m, hns, look⟩ := I.loc
  have hself : m sf = some (.ref a) := by
    obtain ⟨u, ru, lk⟩ := look 0 sf (.ref a) hN0 hσ (.inl G.selfL)
    obtain rfl : u = Value.ref a := ru
    rcases lk with ⟨_, h⟩ | ⟨h, _⟩
    · exact h
    · rcases h with h | h
      · have h : scope.names.lookup sf = some .cell := h
        rw [G.selfL] at h
        cases h
      · have h : scope.names.lookup sf = some .free := h
        rw [G.selfL] at h
        cases h
  have J : PySem.W.InstAt s.heap a { cls := .ref C, dict := none, data := .fields #[.ref t1, .none, .none, .none, .bool false, .none] } C none := ⟨ho, rfl, rfl, trivial⟩
  obtain ⟨hh, g, d, t, os⟩ := s
  refine PySem.ks_wpAt_Expr_any (hi := by unfold interactive; first | rfl | (simp [S.kind]; done)) ?_
  refine PySem.ks_wpAt_MethodCall (pl := pl) ?_ hev
  refine PySem.ks_wpAt_super_base (env := envS qual scope s0.heap.objs.size f (.ref cda) cc) S.sup S.cls (by decide) rfl (X _ _ hf) rfl hp rfl (X _ _ hcode) rfl hvs hfile G.top ?_
  refine PySem.W.ks_loadName_global S.kind S.sup ?_
  obtain ⟨mb, b1, b2⟩ := I.mod.blt
  refine Calls.loadGlobal_builtin (env := envS qual scope s0.heap.objs.size f (.ref cda) cc) (I.mod.glob.keeps I.bk) (PySem.W.mg_none_of I.mod.kin I.mod.glob G.nos) (b1.keeps I.bk) ((b2 _ (by decide)).trans boot_sup) ⟨rfl, ?_⟩
  refine wpAny_loadName_free S.kind S.cls rfl ⟨_, X _ _ hcell, rfl⟩ ?_
  rw [har]
  refine wpAny_loadName_local S.kind G.selfL hns hself ?_
  refine PySem.ks_wpAny_isType_cls hD1 hD2 ⟨rfl, ?_⟩
  refine PySem.ks_wpAny_call_super hD1 hD2 ho rfl (fun c z => by cases z) (PySem.W.looks_mroIn X G.sub) (fun h1 e1 k1 => ?_)
  have I1 := I.kept (t' := t) k1
  have J1 : PySem.W.InstAt h1 a { cls := .ref C, dict := none, data := .fields #[.ref t1, .none, .none, .none, .bool false, .none] } C none := ⟨k1 _ _ ho, rfl, rfl, trivial⟩
  refine PySem.W.kxs_getMethod PySem.W.kxs_ValueError e1 (PySem.W.looks_opaque I1.kIn G.stat) (l₀ := cdC.mro) ((PySem.W.looks_clsIn I1.kIn hCc).andThen .now) rfl I1.kIn ?_ (J1.type.andThen (PySem.W.looks_subIn I1.kIn G.veC)) (PySem.W.ks_ne I1.kIn J1 hCc) (by decide) ?_
  · have q := G.ini
    unfold PySem.W.ks_superIn at q
    rw [hCc] at q
    exact q
  have I2 : Inv (cxS CX P w K mg base N qual scope f (.ref cda) cc A outer s0 H0 E) [(h1.objs.size, PySem.W.kxs_mw ve a)] σ H ⟨h1.push (PySem.W.kxs_mw ve a), g, d, t + 1, os⟩ :=
    ClX.pin_new I1 (fun _ _ z => Heap.get?_push_of_some _ z) (Nat.le_refl _) (Heap.get?_push_size _ rfl) (fun v z => nomatch z)
  have pa : PA (cxS CX P w K mg base N qual scope f (.ref cda) cc A outer s0 H0 E) [.Constant (.str z) j p3] (tCons (tC (.str z)) tNil) := pa_cons pe_str pa_nil
  refine PySem.W.kxs_callWith (i := ve) (x := a) rfl (Calls.evalArgs_plain (thn (pa.run p4 _ _ σ H (fun vs H1 => vs = [.str z] ∧ H1 = H) I2 ⟨rfl, rfl⟩) fun us s3 hq => ?_))
  obtain ⟨vs', H3, I3, rv, ev, eH⟩ := hq
  subst ev eH
  refine ⟨ClX.pin_at I3, ?_⟩
  refine call_mw (X := cxS CX P w K mg base N qual scope f (.ref cda) cc A outer s0 H0 E) T I3 e ?_ fun s4 I4 => ⟨rfl, I4⟩
  have := rv.length
  simp at this
  simp only [List.nil_append]
  rw [← this, sizeLine_eq]
  decide
end
def wCell (D : Str) : PySem.W.Frag → Addr := fun K => match K.lookup (He.fAd K (D, some "__init__")) with
  | some ⟨_, _, .func fd, _⟩ => (match fd.closure with
    | (_, c) :: _ => c
    | _ => 0)
  | _ => 0
def fileB (D file : Str) : Ex := fun K => match K.lookup (He.fAd K (D, some "__init__")) with
  | some ⟨_, _, .func fd, _⟩ => (match fd.code with
    | .ref c => (match K.lookup c with
      | some ⟨_, _, .fields vs, _⟩ => (match (vs[2]? : Option Value) with
        | some (.str y _) => decide (y = file)
        | _ => false)
      | _ => false)
    | _ => false)
  | _ => false
theorem fileB_ok {D file : Str} {K : PySem.W.Frag} (h : fileB D file K = true) {oc : Value} {od : Option Addr} {fd : FuncData} {osl : Array (Option Value)} (lk : K.lookup (He.fAd K (D, some "__init__")) = some ⟨oc, od, .func fd, osl⟩) :
    ∃ cda ccl cdd vs ccs tf, fd.code = .ref cda ∧ K.lookup cda = some ⟨ccl, cdd, .fields vs, ccs⟩ ∧ vs[2]? = some (.str file tf) := by
  unfold fileB at h
  rw [lk] at h
  dsimp only at h
  split at h
  · rename_i c hc
    split at h
    · rename_i a b vs sl hl
      split at h
      · rename_i y t hv
        have e := of_decide_eq_true h
        rw [e] at hv
        exact ⟨c, a, b, vs, sl, t, hc, hl, hv⟩
      · cases h
    · cases h
  · cases h
def oexB (K : PySem.W.Frag) (C : Addr) : Bool := (match K.lookup C with
  | some ⟨.type "type", _, .cls cd, sl⟩ => (match cd.mro, sl.toList with
    | .ref C' :: bm, [_, _, _, _, some (.builtin n), _] => C' == C && n == "ValueError.__new__" && !cd.hasDel && cd.hasDict && PySem.HandSPX.refsVE bm
    | _, _ => false)
  | _ => false) && (He.eqO (PySem.W.findIn K (.ref C) "__setattr__") (some (some (.builtin "object.__setattr__"))) && (decide (PySem.W.subIn K (.ref C) (.type "BaseException") = some true) && (decide (PySem.W.typeIn K (.ref C) = some (.type "type")) && PySem.W.keepIn K (.ref C))))
theorem oexB_ok {K : PySem.W.Frag} {C : Addr} (h : oexB K C = true) : OexC K C := by
  obtain ⟨q, h⟩ := He.ba h
  obtain ⟨h1, h⟩ := He.ba h
  obtain ⟨h2, h⟩ := He.ba h
  obtain ⟨h3, h4⟩ := He.ba h
  refine ⟨?_, He.eqO_ok h1, of_decide_eq_true h2, of_decide_eq_true h3, h4⟩
  split at q
  · rename_i dd cd sl ho
    split at q
    · rename_i C' bm k0 k1 k2 k3 n k5 hm hs
      simp only [Bool.and_eq_true, beq_iff_eq, Bool.not_eq_true'] at q
      obtain ⟨⟨⟨⟨rfl, rfl⟩, hdel⟩, hdct⟩, ht⟩ := q
      obtain ⟨nm, bs, mro, ns, qn, hd, sn, sub, ab, col, del⟩ := cd
      dsimp only at hm hdel hdct
      subst hm hdel hdct
      have hsl : sl = #[k0, k1, k2, k3, some (.builtin "ValueError.__new__"), k5] := by
        obtain ⟨l⟩ := sl
        simp only at hs
        rw [hs]
      subst hsl
      exact ⟨nm, qn, ns, bs, bm, sn, sub, ab, col, dd, k0, k1, k2, k3, k5, ho, ht⟩
    · cases q
  · cases q
def errB (C D : Str) : Ex := fun K => oexB K (He.ga K C) && ((match K.lookup (wCell D K) with
    | some ⟨_, _, .cell (some (.ref x)), _⟩ => decide (x = He.ga K D)
    | _ => false) && ((PySem.W.clsIn K (He.ga K D)).isSome && ((PySem.W.clsIn K (He.ga K C)).isSome && (decide (PySem.W.mroIn K (He.ga K C) (.ref (He.ga K D)) = some true) && (He.eqO (PySem.W.nsIn K mainGlobals "super") (some none) &&
    (He.eqO (PySem.W.nsIn K cStatics "thirdparty.any") (some none) && (He.eqO (PySem.W.ks_superIn K (He.ga K C) (He.ga K D) "__init__") (some (some (.builtin ve))) && decide (PySem.W.subIn K (.ref (He.ga K C)) (.type "ValueError") = some true))))))))
structure ErrC (K : PySem.W.Frag) (C D : Str) : Prop where
  oex : OexC K (He.ga K C)
  cell : ∃ cl cld csl, K.lookup (wCell D K) = some ⟨cl, cld, .cell (some (.ref (He.ga K D))), csl⟩
  cls : ∃ cd, PySem.W.clsIn K (He.ga K D) = some cd
  clsC : ∃ cd, PySem.W.clsIn K (He.ga K C) = some cd
  sub : PySem.W.mroIn K (He.ga K C) (.ref (He.ga K D)) = some true
  nos : PySem.W.nsIn K mainGlobals "super" = some none
  stat : PySem.W.nsIn K cStatics "thirdparty.any" = some none
  ini : PySem.W.ks_superIn K (He.ga K C) (He.ga K D) "__init__" = some (some (.builtin ve))
  veC : PySem.W.subIn K (.ref (He.ga K C)) (.type "ValueError") = some true
theorem errB_ok {C D : Str} {K : PySem.W.Frag} (h : errB C D K = true) : ErrC K C D := by
  obtain ⟨h1, h⟩ := He.ba h
  obtain ⟨h2, h⟩ := He.ba h
  obtain ⟨h3, h⟩ := He.ba h
  obtain ⟨h4, h⟩ := He.ba h
  obtain ⟨h5, h⟩ := He.ba h
  obtain ⟨h6, h⟩ := He.ba h
  obtain ⟨h7, h⟩ := He.ba h
  obtain ⟨h8, h9⟩ := He.ba h
  refine ⟨oexB_ok h1, ?_, Option.isSome_iff_exists.mp h3, Option.isSome_iff_exists.mp h4, of_decide_eq_true h5, He.eqO_ok h6, He.eqO_ok h7, He.eqO_ok h8, of_decide_eq_true h9⟩
  split at h2
  · rename_i a b x c hl
    have e := of_decide_eq_true h2
    rw [e] at hl
    exact ⟨_, _, _, hl⟩
  · cases h2
theorem fn_init {CX : CXT} {P : Program} {w : World} {K : PySem.W.Frag} {mg : Str → Option Value} {base : Heap} {k : Nat} {D x qual file z : Str} {params : Arguments} {rest : List Stmt} {scope : Scope} {fd : FuncData} {N ps : List Str} {sp : Sp} {ar : Arg} {j : Nat} {p0 p1 p2 p3 p4 p5 : Pos} {pl : Sem Bool} {t : TS}
    (F : FunC K x qual params (.Expr (.Call (.Attribute (.Call (.Name "super" p0) [] [] p1) "__init__" p2) [.Constant (.str z) j p3] [] p4) p5 :: rest) scope [("__class__", wCell D K)] (He.fAd K (D, some "__init__")) fd) (S : SupScope N ps scope)
    (hcell : ∃ oc cv, K.lookup (wCell D K) = some oc ∧ oc.data = .cell cv) (hfile : fileB D file K = true) (hPf : ((P.main.file : Str) == file) = true) (hPt : (P.main.scope.names.lookup ("super" : Str)).isSome = false) (hpar : (params.posonlyargs ++ params.args).head? = some ar) (har : N[0]? = some ar.arg) (hloc : scope.names.lookup ar.arg = some .local)
    (len : ∀ vs H Q E, sp vs H Q E → vs.length = ps.length)
    (hsp : ∀ vs H Q E, sp vs H Q E → ∃ a C ws, vs = .ref a :: ws ∧ ErrC K C D ∧ H a = some (exo a (He.ga K C) none) ∧ t { nx := fun _ H' => Q .non H', rt := Q } (L2.start N vs) H)
    (hrest : ∀ (cdv : Value) (A : Around) (outer : List Env) (s : Shared) (H : Hp) (E : XK), PSs (cxS CX P w K mg base N qual scope (He.fAd K (D, some "__init__")) cdv (wCell D K) A outer s H E) rest t)
    (hev : ∀ (L : Addr) (cdv : Value), eval (.Call (.Attribute (.Call (.Name "super" p0) [] [] p1) "__init__" p2) [.Constant (.str z) j p3] [] p4) (envS qual scope L (He.fAd K (D, some "__init__")) cdv (wCell D K)) = (do
      let ov ← attributeBase (.Call (.Name "super" p0) [] [] p1) "__init__" (envS qual scope L (He.fAd K (D, some "__init__")) cdv (wCell D K)) (eval (.Call (.Name "super" p0) [] [] p1) (envS qual scope L (He.fAd K (D, some "__init__")) cdv (wCell D K)))
      standAt p2.atName
      let (fx, first) ← holding [ov] (getMethod ov "__init__" pl)
      callWith p4 fx first (backTo p4 (starEach [.Constant (.str z) j p3] (envS qual scope L (He.fAd K (D, some "__init__")) cdv (wCell D K)))) [])) :
    FnOk P w K mg base CX (k + 1) (He.fAd K (D, some "__init__")) fd ps sp := by
  obtain ⟨oc, cv, hc, hcv⟩ := hcell
  refine fn_ofS F S hc hcv len fun cdv A outer s H vs Q E s1 hr hcd hlk hs I => ?_
  obtain ⟨a, C, ws, rfl, G, e, ht⟩ := hsp _ _ _ _ hs
  obtain ⟨oc1, od1, fd1, osl1, lk, ec, ep⟩ := hlk
  obtain ⟨cda, ccl, cdd, vs1, ccs, tf, hcd1, hl1, hv1⟩ := fileB_ok hfile lk
  have SF : SupF P K (He.fAd K (D, some "__init__")) cdv (wCell D K) (He.ga K C) (He.ga K D) ar.arg scope :=
    ⟨⟨oc1, od1, fd1, osl1, ar, lk, by rw [ep]; exact hpar, rfl⟩, ⟨cda, ccl, cdd, vs1, ccs, file, tf, by rw [← ec]; exact hcd1, hl1, hv1, hPf⟩, G.cell, G.cls, G.clsC, G.sub, G.nos, G.stat, G.ini, G.veC, hloc, hPt⟩
  refine PySem.ks_wpAt_execs_cons (PySem.ks_wpAt_mono (at_super (pl := pl) S G.oex SF har I rfl e (hev _ _)) (fun fl s' hq => ?_) (fun _ _ h => h))
  obtain ⟨rfl, I'⟩ := hq
  exact PySem.wpAt_of_wpAny ((hrest cdv A outer s H E).run [] s' _ H _ I' ht)
def spInit1 (K : PySem.W.Frag) (D f : Str) : Sp := fun vs H Q _ => ∃ (a : Addr) (C : Str) (y : V), vs = [.ref a, y] ∧ ErrC K C D ∧ PySem.W.findIn K (.ref (He.ga K C)) f = some none ∧ H a = some (exo a (He.ga K C) none) ∧
  ∀ dx, H dx = none → dx ≠ a → Q .non (upd (upd H dx (exd dx [(f, y)])) a (exo a (He.ga K C) (some dx)))
theorem init1_len {K : PySem.W.Frag} {D f : Str} (vs : List V) (H : Hp) (Q : VK) (E : XK) (h : spInit1 K D f vs H Q E) : vs.length = 2 := by obtain ⟨_, _, _, rfl, _⟩ := h; rfl
theorem init1_sp {K : PySem.W.Frag} {D f : Str} {N : List Str} (hN : N.length = 2) (vs : List V) (H : Hp) (Q : VK) (E : XK) (h : spInit1 K D f vs H Q E) :
    ∃ a C ws, vs = .ref a :: ws ∧ ErrC K C D ∧ H a = some (exo a (He.ga K C) none) ∧ tOst K f (tVar 0) (tVar 1) { nx := fun _ H' => Q .non H', rt := Q } (L2.start N vs) H := by
  obtain ⟨a, C, y, rfl, G, hno, e, k⟩ := h
  exact ⟨a, C, [y], rfl, G, e, y, by simp [L2.start], .ref a, by simp [L2.start], a, _, rfl, G.oex, hno, .inl ⟨e, fun dx h1 h2 => k dx h1 h2⟩⟩
def spInit2 (K : PySem.W.Frag) (D f g : Str) : Sp := fun vs H Q _ => ∃ (a : Addr) (C : Str) (y z : V), vs = [.ref a, y, z] ∧ ErrC K C D ∧ PySem.W.findIn K (.ref (He.ga K C)) f = some none ∧ PySem.W.findIn K (.ref (He.ga K C)) g = some none ∧ H a = some (exo a (He.ga K C) none) ∧
  ∀ dx, H dx = none → dx ≠ a → Q .non (upd (upd (upd H dx (exd dx [(f, y)])) a (exo a (He.ga K C) (some dx))) dx (exd dx [(g, z), (f, y)]))
theorem init2_len {K : PySem.W.Frag} {D f g : Str} (vs : List V) (H : Hp) (Q : VK) (E : XK) (h : spInit2 K D f g vs H Q E) : vs.length = 3 := by obtain ⟨_, _, _, _, rfl, _⟩ := h; rfl
theorem init2_sp {K : PySem.W.Frag} {D f g : Str} {N : List Str} (hN : N.length = 3) (vs : List V) (H : Hp) (Q : VK) (E : XK) (h : spInit2 K D f g vs H Q E) :
    ∃ a C ws, vs = .ref a :: ws ∧ ErrC K C D ∧ H a = some (exo a (He.ga K C) none) ∧ tSeq (tOst K f (tVar 0) (tVar 1)) (tOst K g (tVar 0) (tVar 2)) { nx := fun _ H' => Q .non H', rt := Q } (L2.start N vs) H := by
  obtain ⟨a, C, y, z, rfl, G, hno, hno2, e, k⟩ := h
  refine ⟨a, C, [y, z], rfl, G, e, y, by simp [L2.start], .ref a, by simp [L2.start], a, _, rfl, G.oex, hno, .inl ⟨e, fun dx h1 h2 => ?_⟩⟩
  exact ⟨z, by simp [L2.start], .ref a, by simp [L2.start], a, _, rfl, G.oex, hno2, .inr ⟨dx, [(f, y)], upd_same, by rw [upd_ne h2, upd_same], by simp, k dx h1 h2⟩⟩
def Rec5 (u : Value) (s' : Shared) : Prop := ∀ (a : Addr) (oe : Obj) (vs : Array Value), u = .ref a → s'.heap.get? a = some oe → oe.data = .fields vs → 4 < vs.size
theorem pmkN5 {X : Cx} {CX : CXT} {x : Str} {e : Expr} {es : List Expr} {ta : TA} {p pos : Pos} {C fI : Addr} {k j : Nat} {fd : FuncData} {ps : List Str} {sp : Sp} (T : OexC X.K C) (iC : PySem.W.findIn X.K (.ref C) "__init__" = some (some (.ref fI))) (tI : PySem.W.typeIn X.K (.ref fI) = some (.type "function"))
    (F1 : FnOk X.prog X.w X.K X.mg X.base CX k fI fd ps sp) (hr : Room j X.A) (hk : k + 1 ≤ j) (hb : Binds X.K fd ps []) (hx : Passes CX X (fun _ _ _ => False)) (hm : X.mg x = some (.ref C)) (ha : PA X (e :: es) ta) (hg : Gl X x := by rfl)
    (hdb : (x == ("__debug__" : Str)) = false := by decide) (he : starEach (e :: es) X.env = (false, eval e X.env) :: starEach es X.env := by rfl) (hpl : (backTo pos (starEach es X.env)).any (·.1) = false := by rfl) :
    ∀ (pins : List (Addr × Obj)) (s : Shared) (σ : L2.St) (H : Hp) (Q : XK), Inv X pins σ H s → tMkO C sp [] ta σ H Q → wpAny (model X.prog X.w) X.A (eval (.Call (.Name x p) (e :: es) [] pos) X.env) (fun u s' => L2N.MkP X pins σ Q u s' ∧ Rec5 u s') X.xe s := by
  intro pins s σ H Q I h
  obtain ⟨nm, q, N, bs, bm, sn, sub, ab, col, dd, k0, k1, k2, k3, k5, hC, hbm⟩ := T.cls
  refine wpAny_Call_Name_kw (ld_glob I hg hm ?_ hdb)
  refine PySem.W.callWith_K (h₀ := X.base) I.ok.mod.kin T.kC (thn (ha.run pos pins s σ H _ I h) fun us s1 ⟨vs, H1, I1, r1, hz, q1⟩ => ⟨I1.kIn, ?_⟩) he hpl
  show wpAny _ _ (call (.ref C) us) _ _ _
  obtain ⟨hp, g, dr, tk, os⟩ := s1
  have hsz : hp.objs.size ≤ hp.objs.size + 1 := Nat.le_succ _
  have hn : H1 (hp.objs.size + 1) = none := I1.hok.fresh hsz
  have hq := q1 (hp.objs.size + 1) hn
  rw [List.append_nil] at hq
  have kk : ∀ b o, hp.get? b = some o → ((hp.push (PySem.W.kdv_tup us)).push (PySem.HandSPX.excO C hp.objs.size)).get? b = some o := fun b o e => Heap.get?_push_of_some _ (Heap.get?_push_of_some _ e)
  have hget : ((hp.push (PySem.W.kdv_tup us)).push (PySem.HandSPX.excO C hp.objs.size)).get? (hp.objs.size + 1) = some (PySem.HandSPX.excO C hp.objs.size) := by heap_get
  have I2 : Inv X pins σ (upd H1 (hp.objs.size + 1) (exo (hp.objs.size + 1) C none)) ⟨(hp.push (PySem.W.kdv_tup us)).push (PySem.HandSPX.excO C hp.objs.size), g, dr, tk, os⟩ :=
    I1.laid (t' := tk) (a := hp.objs.size + 1) (o := exo (hp.objs.size + 1) C none) (h' := (hp.push (PySem.W.kdv_tup us)).push (PySem.HandSPX.excO C hp.objs.size)) kk hsz (exo_ok hget)
  have r2 : Vals (V.ref (hp.objs.size + 1) :: vs) (Value.ref (hp.objs.size + 1) :: us) := .cons rfl r1
  have hl : (Value.ref (hp.objs.size + 1) :: us ++ []).length = ps.length := by
    have e := r2.length
    rw [F1.len _ _ _ _ hq] at e
    rw [List.append_nil]
    exact e.symm
  have hus : us.length ≤ sizeLine := by
    rw [← Paired.length r1, sizeLine_eq]
    omega
  have b2 := hb _ (Value.ref (hp.objs.size + 1) :: us) I2.kIn hl
  rw [List.append_nil] at b2
  refine wpAny_call (PySem.HandSPX.call_own F.excBase_ValueError (fun Y => PySem.HandSPX.refsVE_contains Y bm hbm) (I1.kIn _ _ hC) (PySem.W.looks_findIn I1.kIn iC) (fun self => PySem.W.bind_fn I1.kIn self tI) hus
    (codeAny_mono (F1.run _ X.stack _ _ ⟨Value.ref (hp.objs.size + 1) :: us, []⟩ (Value.ref (hp.objs.size + 1) :: us) _ _ (fun _ _ _ => False) ((hr.mono hk).make C us []) (I2.env0.make C us []) b2 r2 hq) fun r s' hq' => ?_))
  cases r with
  | error er => exact hx pins σ _ _ er s' I2 hq'
  | ok fl =>
    cases fl with
    | ret u =>
      obtain ⟨v, H2, os2, bare2, un2, hok2, rv, ev, d, fs, ea, ed, hd1, q2⟩ := hq'
      subst ev
      obtain ⟨h2, g2, d2, t2, os'⟩ := s'
      obtain ⟨t0, G, J, kG, ge, hoe, na⟩ := mk_end0 (d2 := d2) (t2 := t2) I1 hsz kk un2 hok2 os2 bare2 ea ed hd1
      refine ⟨rv, ⟨hp.objs.size + 1, _, _, ⟨G, g2, d2, t2, os'⟩, _, .ref C, some d, rfl, J, kG, ge, hoe, ⟨rfl, rfl, fun vs hv => ?_⟩, rfl, rfl, na, rfl, bare2, raises_own T.exC T.tyC, q2⟩, fun b ob ws e1 e2 e3 => ?_⟩
      · cases hv
        rfl
      · cases e1
        have e2' : h2.get? (hp.objs.size + 1) = some ob := e2
        rw [hoe] at e2'
        cases e2'
        cases e3
        show (4 : Nat) < 6
        decide
    | next => exact False.elim hq'
    | brk => exact False.elim hq'
    | cont => exact False.elim hq'
theorem pmkN {X : Cx} {CX : CXT} {x : Str} {e : Expr} {es : List Expr} {ta : TA} {p pos : Pos} {C fI : Addr} {k j : Nat} {fd : FuncData} {ps : List Str} {sp : Sp} (T : OexC X.K C) (iC : PySem.W.findIn X.K (.ref C) "__init__" = some (some (.ref fI))) (tI : PySem.W.typeIn X.K (.ref fI) = some (.type "function"))
    (F1 : FnOk X.prog X.w X.K X.mg X.base CX k fI fd ps sp) (hr : Room j X.A) (hk : k + 1 ≤ j) (hb : Binds X.K fd ps []) (hx : Passes CX X (fun _ _ _ => False)) (hm : X.mg x = some (.ref C)) (ha : PA X (e :: es) ta) (hg : Gl X x := by rfl)
    (hdb : (x == ("__debug__" : Str)) = false := by decide) (he : starEach (e :: es) X.env = (false, eval e X.env) :: starEach es X.env := by rfl) (hpl : (backTo pos (starEach es X.env)).any (·.1) = false := by rfl) :
    L2N.PMk X (.Call (.Name x p) (e :: es) [] pos) (tMkO C sp [] ta) := fun pins s σ H Q I q =>
  thn (pmkN5 (p := p) (pos := pos) T iC tI F1 hr hk hb hx hm ha hg hdb he hpl pins s σ H Q I q) fun _ _ x => x.1
structure ErrK (P : Program) (w : World) (K : PySem.W.Frag) (mg : Str → Option Value) (base : Heap) (k : Nat) (C D f : Str) : Prop where
  err : ErrC K C D
  hno : PySem.W.findIn K (.ref (He.ga K C)) f = some none
  iC : PySem.W.findIn K (.ref (He.ga K C)) "__init__" = some (some (.ref (He.fAd K (D, some "__init__"))))
  tI : PySem.W.typeIn K (.ref (He.fAd K (D, some "__init__"))) = some (.type "function")
  gl : mg C = some (.ref (He.ga K C))
  fn : ∃ fd ps, FnOk P w K mg base CX0 k (He.fAd K (D, some "__init__")) fd ps (spInit1 K D f) ∧ Binds K fd ps []
def RaiseG (K : PySem.W.Frag) (C D f : Str) (σ : L2.St) (W : WX) (y : V) (H1 : Hp) : Prop := ([y] : List V).length ≤ 1000 ∧ ∀ a, H1 a = none → spInit1 K D f (.ref a :: ([y] ++ [])) (upd H1 a (exo a (He.ga K C) none))
  (fun v H2 => v = .non ∧ ∃ (d : Addr) (fs : List (Str × V)), H2 a = some (exo a (He.ga K C) (some d)) ∧ H2 d = some (exd d fs) ∧ H1 d = none ∧ W (.ref (He.ga K C)) (some d) σ (upd (del H2 a) d (.xd fs))) (fun _ _ _ => False)
def tRaise1 (K : PySem.W.Frag) (C D f : Str) (W : WX) (te : TE) : TS := fun _ σ H => te σ H fun y H1 => RaiseG K C D f σ W y H1
abbrev WF (E : XK) : WX := fun cls d _ H => E cls d H
theorem ps_raise1 {X : Cx} {W : WX} {C D f : Str} {k j : Nat} {e : Expr} {te : TE} {p pos pos' : Pos} (T : ErrK X.prog X.w X.K X.mg X.base k C D f) (hc : X.calm = true) (tk : L2N.Takes X W) (hr : Room j X.A) (hk : k + 1 ≤ j) (he : PE X e te)
    (hg : Gl X C := by rfl) (hdb : (C == ("__debug__" : Str)) = false := by decide) (hs : starEach [e] X.env = (false, eval e X.env) :: starEach [] X.env := by rfl) (hpl : (backTo pos (starEach [] X.env)).any (·.1) = false := by rfl) :
    PS X (.Raise (some (.Call (.Name C p) [e] [] pos)) none pos') (tRaise1 X.K C D f W te) := by
  obtain ⟨fd, ps, F, hb⟩ := T.fn
  have base := L2N.ps_raise (pos := pos') hc tk (pmkN (p := p) (pos := pos) T.err.oex T.iC T.tI F hr hk hb (fun _ _ _ _ _ _ _ h => h.elim) T.gl (pa_cons he pa_nil hs) hg hdb hs hpl)
  exact ⟨fun pins s σ H D I h => base.run pins s σ H D I h⟩
theorem g_raise1 {K : PySem.W.Frag} {C D f : Str} {σ : L2.St} {W : WX} {y : V} {H1 : Hp} (G : ErrC K C D) (hno : PySem.W.findIn K (.ref (He.ga K C)) f = some none)
    (k : ∀ d H2, H1 d = none → Ext H1 H2 → H2 d = some (.xd [(f, y)]) → W (.ref (He.ga K C)) (some d) σ H2) : RaiseG K C D f σ W y H1 := by
  refine ⟨by simp, fun a ha => ⟨a, C, y, rfl, G, hno, upd_same, fun dx hd hda => ⟨rfl, dx, [(f, y)], upd_same, ?_, ?_, ?_⟩⟩⟩
  · rw [upd_ne hda, upd_same]
  · rw [upd_ne hda] at hd
    exact hd
  · rw [upd_ne hda] at hd
    have e : upd (del (upd (upd (upd H1 a (exo a (He.ga K C) none)) dx (exd dx [(f, y)])) a (exo a (He.ga K C) (some dx))) a) dx (.xd [(f, y)]) = upd H1 dx (.xd [(f, y)]) := by
      funext b
      by_cases h1 : b = dx
      · rw [h1, upd_same, upd_same]
      · rw [upd_ne h1, upd_ne h1]
        by_cases h2 : b = a
        · rw [h2, del_same, ha]
        · rw [del_ne h2, upd_ne h2, upd_ne h1, upd_ne h2]
    rw [e]
    exact k dx _ hd (Chg.new hd _) upd_same
def errM (C D f file : Str) : Ex := fun K => errB C D K && (He.eqO (PySem.W.findIn K (.ref (He.ga K C)) f) (some none) && (He.eqO (PySem.W.findIn K (.ref (He.ga K C)) "__init__") (some (some (.ref (He.fAd K (D, some "__init__"))))) &&
  (decide (PySem.W.typeIn K (.ref (He.fAd K (D, some "__init__"))) = some (.type "function")) && fileB D file K)))
theorem errM_ok {C D f file : Str} {K : PySem.W.Frag} (h : errM C D f file K = true) : ErrC K C D ∧ PySem.W.findIn K (.ref (He.ga K C)) f = some none ∧ PySem.W.findIn K (.ref (He.ga K C)) "__init__" = some (some (.ref (He.fAd K (D, some "__init__")))) ∧
    PySem.W.typeIn K (.ref (He.fAd K (D, some "__init__"))) = some (.type "function") ∧ fileB D file K = true := by
  obtain ⟨h1, h⟩ := He.ba h
  obtain ⟨h2, h⟩ := He.ba h
  obtain ⟨h3, h⟩ := He.ba h
  obtain ⟨h4, h5⟩ := He.ba h
  exact ⟨errB_ok h1, He.eqO_ok h2, He.eqO_ok h3, of_decide_eq_true h4, h5⟩
theorem FunC.bindsN {K : PySem.W.Frag} {x qual : Str} {params : Arguments} {body : List Stmt} {scope : Scope} {cl : List (Str × Addr)} {f : Addr} {fd : FuncData} {ps : List Str} (F : FunC K x qual params body scope cl f fd)
    (h : ∀ (kV doc pm : Value) (an : Option Addr) (cdv ct : Value) (us : List Value), us.length = ps.length → bindArgs { PySem.W.fnOf x qual params body scope .none kV doc pm an cdv ct with closure := cl } ⟨us, []⟩ = pure (ps.zip us)) : L2.Binds K fd ps [] := by
  obtain ⟨oc, od, kV, doc, pm, an, cdv, ct, osl, rfl, lk, hcd⟩ := F.ex
  exact .all (h kV doc pm an cdv ct)
theorem ErrC.cellAt {K : PySem.W.Frag} {C D : Str} (G : ErrC K C D) : ∃ oc cv, K.lookup (wCell D K) = some oc ∧ oc.data = .cell cv := by
  obtain ⟨cl, cld, csl, h⟩ := G.cell
  exact ⟨_, _, h, rfl⟩
end My

namespace PySem.W
open PySem PySem.Spec PySem.Calls PyProof.Rows
section
variable {prog : Program} {w : World} {A : Around} {E : Value → Shared → Prop} {s : Shared} {K : Frag} {x D : Addr} {ox : Obj} {odx : Option Obj}
theorem my_data {C : Addr} {name : Str} {a g : Value} (hc : (clsIn K C).isSome = true) (ha : findIn K (.ref C) name = some (some a)) (hg : specialIn K a "__get__" = some (some g)) (ht : takesIn K a = some true) : findObj K C odx name = some (.bind g a) := by
  obtain ⟨cd, hc⟩ := Option.isSome_iff_exists.mp hc
  unfold findObj
  rw [hc, Option.bind_some, ha, Option.bind_some]
  simp [hg, ht]
theorem my_class {Q : Option Value → Shared → Prop} (hga : findIn K (.ref D) "__getattribute__" = some (some (.builtin "BaseException.__getattribute__"))) (hgt : findIn K (.ref D) "__getattr__" = some none) (hsub : subIn K (.ref D) (.type "BaseException") = some true)
    (hdct : hasDictIn K D = true) (ha : findIn K (.ref D) "__class__" = some (some (.builtin "object.__class__")))
    (hn : specialIn K (.builtin "object.__class__") "__get__" = some (some (.builtin "getset_descriptor.__get__"))) (htk : takesIn K (.builtin "object.__class__") = some true) (hm : mroIn K D (.type "object") = some true)
    (X : K.In s.heap) (I : InstAt s.heap x ox D odx) (h : Q (some (.ref D)) { s with toks := s.toks + 1 }) : wpAny (model prog w) A (getAttr? (.ref x) "__class__") Q E s := by
  have hf : findObj K D odx "__class__" = some (.bind (.builtin "getset_descriptor.__get__") (.builtin "object.__class__")) := my_data (by obtain ⟨cd, hc, _⟩ := any_some hdct; rw [hc]; rfl) ha hn htk
  obtain ⟨hp, g, d, t, os⟩ := s
  have L0 := I.type (M := model prog w)
  have L3 := looks_find (M := model prog w) X I hf
  have sub : Looks (model prog w) hp (isInstance (.ref x) (.type "BaseException")) true := L0.andThen (looks_subIn X hsub)
  have hx2 : (Value.builtin "BaseException.__getattribute__" == Value.builtin "object.__getattribute__") = false := by decide +kernel
  have hx1 : (onTheHeap (Value.ref D) && Value.builtin "BaseException.__getattribute__" == Value.builtin "object.__getattribute__") = false := by rw [hx2]; rfl
  unfold getAttr? getAttrBy? getAttrBy
  refine wpAny_bind (wpAny_mkText (wpAny_bind (wpAny_attempt (wpAny_holding (wpAny_bind (L0.at (wpAny_bind ((looks_findIn (M := model prog w) X hga).at ?_))))))))
  show wpAny _ _ (if (onTheHeap (Value.ref D) && Value.builtin "BaseException.__getattribute__" == Value.builtin "object.__getattribute__") = true then _ else _) _ _ _
  rw [hx1, if_neg Bool.false_ne_true]
  unfold getAttrByItsOwn hookBefore
  refine wpAny_bind ?_
  rw [if_pos (show onTheHeap (Value.ref D) = true from rfl)]
  refine (looks_findIn (M := model prog w) X hgt).at ?_
  refine wpAny_bind (wpAny_attempt (wpAny_holding ?_))
  unfold callGetattribute
  rw [show (false && onTheHeap (Value.builtin "BaseException.__getattribute__")) = false from rfl, if_neg Bool.false_ne_true]
  unfold boundAndCalled
  rw [PySem.F.excAttr_ValueError.ga.bind (.ref x)]
  refine wpAny_bind (wpAny_pure ?_)
  show wpAny _ _ (call (.builtin "BaseException.__getattribute__") [.ref x, .str "__class__" t]) _ _ _
  refine wpAny_call (codeAny_call_builtin PySem.F.excAttr_ValueError.ga.plain PySem.F.entry_bexc_ga ?_)
  refine @check_slot (model prog w) _ _ ⟨hp, g, d, t + 1, os⟩ "BaseException.__getattribute__" "BaseException" "__getattribute__" (.ref x) [.str "__class__" t] [] _ (by decide +kernel) (by decide +kernel) sub (PySem.F.args_bexc_ga (.ref x) (.str "__class__" t)) ?_
  unfold Builtin.«object.__getattribute__»
  refine wpAny_bind (wpAny_of_eq (a := ((Value.ref x : Value), [Value.str "__class__" t])) (by first | rfl | (simp only [slotArgs]; rfl)) ?_)
  refine wpAny_bind (wpAny_pure (wpAny_bind (L0.at (wpAny_bind (L3.at ?_)))))
  show wpAny _ _ (holding [Value.builtin "object.__class__"] (call (.builtin "getset_descriptor.__get__") [.builtin "object.__class__", .ref x, .ref D]) >>= ret) _ _ _
  refine wpAny_bind (wpAny_holding (wpAny_call (class_get (s := ⟨hp, g, d, t + 1, os⟩) (ox := ox) (od := odx) X I hm ?_)))
  refine wpAny_pure ?_
  show wpAny _ _ (handedOut (.ref D)) _ _ _
  rw [handedOut_of (v := .ref D) rfl]
  first
    | exact wpAny_pure (wpAny_pure h)
    | exact wpAny_pure h
    | exact wpAny_pure (wpAny_bind (wpAny_pure (wpAny_pure h)))
theorem my_kitx (hga : findIn K (.ref D) "__getattribute__" = some (some (.builtin "BaseException.__getattribute__"))) (hgt : findIn K (.ref D) "__getattr__" = some none) (hsub : subIn K (.ref D) (.type "BaseException") = some true) (hdct : hasDictIn K D = true) (ha : findIn K (.ref D) "__class__" = some (some (.builtin "object.__class__")))
    (hn : specialIn K (.builtin "object.__class__") "__get__" = some (some (.builtin "getset_descriptor.__get__"))) (htk : takesIn K (.builtin "object.__class__") = some true) (hm : mroIn K D (.type "object") = some true) :
    KitX K (.ref x) (.ref D) (fun h => InstAt h x ox D odx) where
  ty := fun _ _ _ I => I.type
  it := fun _ _ X _ => by
    obtain ⟨cdD, hcD, _⟩ := any_some hdct
    unfold clsIn at hcD
    split at hcD
    · rename_i c' d' cd' sl' ho
      intro A' Q' E' s' k q
      unfold isType loadHead
      exact wpAny_bind (wpAny_loadPart (k _ _ (X _ _ ho)) (wpAny_pure q))
    · cases hcD
  ne := (handS_kitx_exc (x := x) (ox := ox) hga hgt hsub hdct ha hn htk hm).ne
  ca := fun X I k => my_class hga hgt hsub hdct ha hn htk hm X I k
end
end PySem.W
namespace My
open PySem PySem.Spec PyProof.Rows L2
theorem takesN {X : Cx} : L2N.Takes X (fun _ _ _ _ => False) := fun _ _ x => by
  obtain ⟨_, _, _, _, _, _, _, _, _, _, _, _, _, _, _, _, z⟩ := x
  exact z.elim
def tTry (K : PySem.W.Frag) (c : Value) (i : Nat) (tb : WX → TS) (ts : Addr → Value → Option Addr → TS) : TS := fun D σ H => tb (wAs K c i ts (fun _ _ _ _ => False) D) D σ H
section
variable {X : Cx} {CX : CXT} {k j : Nat} {x : Str} {sp : Sp} {E : L2.St → XK} {e : Expr} {es : List Expr} {t : TA} {p pos : Pos}
end
def excE (C : Str) : Ex := fun K => xfB K (He.ga K C) && (He.eqO (PySem.W.findIn K (.ref (He.ga K C)) "__class__") (some (some (.builtin "object.__class__"))) && (He.eqO (PySem.W.specialIn K (.builtin "object.__class__") "__get__") (some (some (.builtin "getset_descriptor.__get__"))) &&
  (decide (PySem.W.takesIn K (.builtin "object.__class__") = some true) && decide (PySem.W.mroIn K (He.ga K C) (.type "object") = some true))))
theorem excE_ok {C : Str} {K : PySem.W.Frag} (h : excE C K = true) : ExcC K (He.ga K C) ∧ XfC K (He.ga K C) := by
  obtain ⟨h1, h⟩ := He.ba h
  obtain ⟨h2, h⟩ := He.ba h
  obtain ⟨h3, h⟩ := He.ba h
  obtain ⟨h4, h5⟩ := He.ba h
  have x := xfB_ok h1
  exact ⟨⟨x.ga, x.gg, x.exC, x.hdC, He.eqO_ok h2, He.eqO_ok h3, of_decide_eq_true h4, of_decide_eq_true h5⟩, x⟩
def kitE (C T : Str) (b : Bool) : Ex := fun K => decide (PySem.W.kitOne K (.ref (He.ga K C)) (.ref (He.ga K T)) = some b)
theorem kitE_ok {C T : Str} {b : Bool} {K : PySem.W.Frag} (h : kitE C T b K = true) : PySem.W.kitOne K (.ref (He.ga K C)) (.ref (He.ga K T)) = some b := of_decide_eq_true h
def exmE (C T : Str) (b : Bool) : Ex := fun K => decide (PySem.W.exmOne K (.ref (He.ga K C)) (.ref (He.ga K T)) = some b)
theorem exmE_ok {C T : Str} {b : Bool} {K : PySem.W.Frag} (h : exmE C T b K = true) : PySem.W.exmOne K (.ref (He.ga K C)) (.ref (He.ga K T)) = some b := of_decide_eq_true h
end My

namespace My
open PySem PySem.Spec PyProof.Rows L2
inductive A where
  | non | bl (b : Bool) | int (i : Int) | str (s : Str) | ref (a : Addr) | ty (t : String) | tup (as : List A)
mutual
def RV (H : Hp) : A → V → Prop
  | .non, v => v = .non
  | .bl b, v => v = .bl b
  | .int i, v => v = .int i
  | .str s, v => v = .str s
  | .ref a, v => v = .ref a
  | .ty t, v => v = .ty t
  | .tup as, v => ∃ a vs, v = .ref a ∧ H a = some (.tup vs) ∧ RL H as vs
def RL (H : Hp) : List A → List V → Prop
  | [], vs => vs = []
  | d :: ds, vs => ∃ x xs, vs = x :: xs ∧ RV H d x ∧ RL H ds xs
end
def Tp (H H' : Hp) : Prop := ∀ b xs, H b = some (.tup xs) → H' b = some (.tup xs)
inductive AO where
  | lst (as : List A) | draws | dK (kvs : List (Key × A)) | ins (C : Addr) (fs : List (Str × A)) | xd (fs : List (Str × A)) | fz (u : HO) (kvs : List (Key × A)) | dT (kvs : List (List Key × A)) | fzT (u : HO) (kvs : List (List Key × A))
abbrev AM := Addr → Option AO
def aupd (M : AM) (a : Addr) (o : AO) : AM := fun b => if b = a then some o else M b
section
variable {K : PySem.W.Frag} {H H' H1 H2 : Hp} {a b p l : Addr} {v : V} {xs vs : List V} {M M' : AM} {o o' : AO}
theorem aupd_same : aupd M a o a = some o := by unfold aupd; rw [if_pos rfl]
theorem aupd_ne (h : b ≠ a) : aupd M a o b = M b := by unfold aupd; rw [if_neg h]
theorem aupd_twice : aupd (aupd M a o) a o' = aupd M a o' := by funext b; unfold aupd; by_cases h : b = a <;> simp [h]
theorem ne_of_anone (h : M b = some o) (k : M a = none) : b ≠ a := fun z => by rw [z, k] at h; cases h
theorem Tp.refl (H : Hp) : Tp H H := fun _ _ h => h
theorem Tp.trans (c : Tp H H1) (e : Tp H1 H2) : Tp H H2 := fun b xs h => e b xs (c b xs h)
theorem Tp.new (h : H p = none) (o : HO) : Tp H (upd H p o) := fun b u q => by rw [upd_ne (ne_of_none q h)]; exact q
theorem Tp.set {u : HO} (h : H l = some u) (nt : ∀ xs, u ≠ .tup xs) (o : HO) : Tp H (upd H l o) := fun b w q => by
  rw [upd_ne (fun z => by subst z; rw [h] at q; exact nt w (Option.some.inj q))]
  exact q
theorem Tp.of {S : List Addr} (c : Chg S H H') : Tp H H' := c.tp
mutual
theorem RV.up (c : Tp H H') : ∀ {d : A} {v : V}, RV H d v → RV H' d v
  | .non, v, h => by simpa only [RV] using h
  | .bl b, v, h => by simpa only [RV] using h
  | .int i, v, h => by simpa only [RV] using h
  | .str s, v, h => by simpa only [RV] using h
  | .ref s, v, h => by simpa only [RV] using h
  | .ty s, v, h => by simpa only [RV] using h
  | .tup ds, v, h => by
    simp only [RV] at h ⊢
    obtain ⟨a, vs, e, h1, h2⟩ := h
    exact ⟨a, vs, e, c _ _ h1, RL.up c h2⟩
theorem RL.up (c : Tp H H') : ∀ {ds : List A} {vs : List V}, RL H ds vs → RL H' ds vs
  | [], vs, h => by simpa only [RL] using h
  | d :: ds, vs, h => by
    simp only [RL] at h ⊢
    obtain ⟨x, xs, e, h1, h2⟩ := h
    exact ⟨x, xs, e, RV.up c h1, RL.up c h2⟩
end
theorem RV.non_iff : RV H .non v ↔ v = .non := by simp only [RV]
theorem RV.bl_iff {i : Bool} : RV H (.bl i) v ↔ v = .bl i := by simp only [RV]
theorem RV.int_iff {i : Int} : RV H (.int i) v ↔ v = .int i := by simp only [RV]
theorem RV.str_iff {i : Str} : RV H (.str i) v ↔ v = .str i := by simp only [RV]
theorem RV.ref_iff {i : Addr} : RV H (.ref i) v ↔ v = .ref i := by simp only [RV]
theorem RV.ty_iff {i : String} : RV H (.ty i) v ↔ v = .ty i := by simp only [RV]
theorem RV.tup_iff {ds : List A} : RV H (.tup ds) v ↔ ∃ a vs, v = .ref a ∧ H a = some (.tup vs) ∧ RL H ds vs := by simp only [RV]
theorem RL.nil_iff {vs : List V} : RL H [] vs ↔ vs = [] := by simp only [RL]
theorem RL.cons_iff {d : A} {ds : List A} {vs : List V} : RL H (d :: ds) vs ↔ ∃ x xs, vs = x :: xs ∧ RV H d x ∧ RL H ds xs := by simp only [RL]
theorem RL.nil : RL H [] [] := by simp only [RL]
theorem RL.cons {d : A} {ds : List A} {v : V} {vs : List V} (h : RV H d v) (t : RL H ds vs) : RL H (d :: ds) (v :: vs) := by simp only [RL]; exact ⟨v, vs, rfl, h, t⟩
theorem RL.one {d : A} {v : V} (h : RV H d v) : RL H [d] [v] := RL.cons h RL.nil
theorem RL.length : ∀ {ds : List A} {vs : List V}, RL H ds vs → vs.length = ds.length
  | [], vs, h => by rw [RL.nil_iff] at h; subst h; rfl
  | d :: ds, vs, h => by
    rw [RL.cons_iff] at h
    obtain ⟨x, xs, rfl, _, h2⟩ := h
    simp [RL.length h2]
theorem RL.append : ∀ {ds es : List A} {vs ws : List V}, RL H ds vs → RL H es ws → RL H (ds ++ es) (vs ++ ws)
  | [], es, vs, ws, h, k => by rw [RL.nil_iff] at h; subst h; exact k
  | d :: ds, es, vs, ws, h, k => by
    rw [RL.cons_iff] at h
    obtain ⟨x, xs, rfl, h1, h2⟩ := h
    exact RL.cons h1 (RL.append h2 k)
theorem RL.get' : ∀ {ds : List A} {vs : List V} {i : Nat} {d : A}, RL H ds vs → ds[i]? = some d → ∃ v, vs[i]? = some v ∧ RV H d v
  | [], vs, i, v, h, e => by simp at e
  | d :: ds, vs, i, d', h, e => by
    rw [RL.cons_iff] at h
    obtain ⟨x, xs, rfl, h1, h2⟩ := h
    cases i with
    | zero => simp at e; subst e; exact ⟨x, rfl, h1⟩
    | succ i => simp at e; obtain ⟨v, q, k⟩ := RL.get' h2 e; exact ⟨v, by simpa using q, k⟩
theorem RL.get : ∀ {ds : List A} {vs : List V} {i : Nat} {v : V}, RL H ds vs → vs[i]? = some v → ∃ d, ds[i]? = some d ∧ RV H d v
  | [], vs, i, v, h, e => by rw [RL.nil_iff] at h; subst h; simp at e
  | d :: ds, vs, i, v, h, e => by
    rw [RL.cons_iff] at h
    obtain ⟨x, xs, rfl, h1, h2⟩ := h
    cases i with
    | zero => simp at e; subst e; exact ⟨d, rfl, h1⟩
    | succ i => simp at e; obtain ⟨d', q, k⟩ := RL.get h2 e; exact ⟨d', by simpa using q, k⟩
theorem RL.drop : ∀ {ds : List A} {vs : List V} (n : Nat), RL H ds vs → RL H (ds.drop n) (vs.drop n)
  | ds, vs, 0, h => h
  | [], vs, n + 1, h => by rw [RL.nil_iff] at h; subst h; exact RL.nil
  | d :: ds, vs, n + 1, h => by
    rw [RL.cons_iff] at h
    obtain ⟨x, xs, rfl, h1, h2⟩ := h
    exact RL.drop n h2
theorem RL.take : ∀ {ds : List A} {vs : List V} (n : Nat), RL H ds vs → RL H (ds.take n) (vs.take n)
  | ds, vs, 0, h => by rw [List.take_zero, List.take_zero]; exact RL.nil
  | [], vs, n + 1, h => by rw [RL.nil_iff] at h; subst h; exact RL.nil
  | d :: ds, vs, n + 1, h => by
    rw [RL.cons_iff] at h
    obtain ⟨x, xs, rfl, h1, h2⟩ := h
    exact RL.cons h1 (RL.take n h2)
theorem RL.eraseIdx : ∀ {ds : List A} {vs : List V} (n : Nat), RL H ds vs → RL H (ds.eraseIdx n) (vs.eraseIdx n)
  | [], vs, n, h => by rw [RL.nil_iff] at h; subst h; exact RL.nil
  | d :: ds, vs, 0, h => by
    rw [RL.cons_iff] at h
    obtain ⟨x, xs, rfl, h1, h2⟩ := h
    exact h2
  | d :: ds, vs, n + 1, h => by
    rw [RL.cons_iff] at h
    obtain ⟨x, xs, rfl, h1, h2⟩ := h
    exact RL.cons h1 (RL.eraseIdx n h2)
theorem RL.set : ∀ {ds : List A} {vs : List V} (n : Nat) {d : A} {v : V}, RV H d v → RL H ds vs → RL H (ds.set n d) (vs.set n v)
  | [], vs, n, d, v, _, h => by rw [RL.nil_iff] at h; subst h; exact RL.nil
  | _ :: ds, vs, 0, d, v, k, h => by
    rw [RL.cons_iff] at h
    obtain ⟨x, xs, rfl, h1, h2⟩ := h
    exact RL.cons k h2
  | _ :: ds, vs, n + 1, d, v, k, h => by
    rw [RL.cons_iff] at h
    obtain ⟨x, xs, rfl, h1, h2⟩ := h
    exact RL.cons h1 (RL.set n k h2)
theorem RL.ints : ∀ {is : List Int}, RL H (is.map A.int) (is.map V.int)
  | [] => RL.nil
  | _ :: _ => RL.cons (RV.int_iff.mpr rfl) RL.ints
theorem RL.ints_inv : ∀ {is : List Int} {vs : List V}, RL H (is.map A.int) vs → vs = is.map V.int
  | [], vs, h => RL.nil_iff.mp h
  | i :: is, vs, h => by
    obtain ⟨x, xs, rfl, h1, h2⟩ := RL.cons_iff.mp h
    rw [RV.int_iff.mp h1, RL.ints_inv h2]; rfl
theorem RL.bools_inv : ∀ {is : List Bool} {vs : List V}, RL H (is.map A.bl) vs → vs = is.map V.bl
  | [], vs, h => RL.nil_iff.mp h
  | i :: is, vs, h => by
    obtain ⟨x, xs, rfl, h1, h2⟩ := RL.cons_iff.mp h
    rw [RV.bl_iff.mp h1, RL.bools_inv h2]; rfl
theorem RL.strs : ∀ {is : List Str}, RL H (is.map A.str) (is.map V.str)
  | [] => RL.nil
  | _ :: _ => RL.cons (RV.str_iff.mpr rfl) RL.strs
theorem RL.strs_inv : ∀ {is : List Str} {vs : List V}, RL H (is.map A.str) vs → vs = is.map V.str
  | [], vs, h => RL.nil_iff.mp h
  | i :: is, vs, h => by
    obtain ⟨x, xs, rfl, h1, h2⟩ := RL.cons_iff.mp h
    rw [RV.str_iff.mp h1, RL.strs_inv h2]; rfl
def RK {κ : Type} (H : Hp) : List (κ × A) → List (κ × V) → Prop
  | [], ys => ys = []
  | x :: xs, ys => ∃ z zs, ys = z :: zs ∧ x.1 = z.1 ∧ RV H x.2 z.2 ∧ RK H xs zs
theorem RK.up {κ : Type} (c : Tp H H') : ∀ {xs : List (κ × A)} {ys : List (κ × V)}, RK H xs ys → RK H' xs ys
  | [], ys, h => h
  | x :: xs, ys, h => by
    obtain ⟨z, zs, e, h1, h2, h3⟩ := h
    exact ⟨z, zs, e, h1, h2.up c, RK.up c h3⟩
theorem RK.length {κ : Type} : ∀ {xs : List (κ × A)} {ys : List (κ × V)}, RK H xs ys → ys.length = xs.length
  | [], ys, h => by rw [show ys = [] from h]; rfl
  | x :: xs, ys, h => by
    obtain ⟨z, zs, rfl, h1, h2, h3⟩ := h
    simp [RK.length h3]
theorem RK.append {κ : Type} : ∀ {xs xs' : List (κ × A)} {ys ys' : List (κ × V)}, RK H xs ys → RK H xs' ys' → RK H (xs ++ xs') (ys ++ ys')
  | [], _, ys, _, h, k => by rw [show ys = [] from h]; exact k
  | x :: xs, _, ys, _, h, k => by
    obtain ⟨z, zs, rfl, h1, h2, h3⟩ := h
    exact ⟨z, _, rfl, h1, h2, RK.append h3 k⟩
theorem RK.one {κ : Type} {k : κ} {x : A} {v : V} (h : RV H x v) : RK H [(k, x)] [(k, v)] := ⟨_, [], rfl, rfl, h, rfl⟩
end
section
variable {κ : Type} [DecidableEq κ] {H : Hp}
def valA (kvs : List (κ × A)) (k : κ) : Option A := (kvs.find? fun kv => decide (kv.1 = k)).map (·.2)
def putA (kvs : List (κ × A)) (k : κ) (v : A) : List (κ × A) :=
  if (kvs.any fun kv => decide (kv.1 = k)) = true then kvs.map (fun kv => if kv.1 = k then (kv.1, v) else kv) else kvs ++ [(k, v)]
theorem RK.val : ∀ {xs : List (κ × A)} {ys : List (κ × V)} {k : κ}, RK H xs ys → (∃ a v, valA xs k = some a ∧ valV ys k = some v ∧ RV H a v) ∨ (valA xs k = none ∧ valV ys k = none)
  | [], ys, k, h => by
    rw [show ys = [] from h]
    exact .inr ⟨rfl, rfl⟩
  | x :: xs, ys, k, h => by
    obtain ⟨z, zs, rfl, h1, h2, h3⟩ := h
    unfold valA valV
    rw [List.find?_cons, List.find?_cons, ← h1]
    by_cases e : x.1 = k
    · simp only [e, decide_true]
      exact .inl ⟨_, _, rfl, rfl, h2⟩
    · simp only [e, decide_false]
      exact RK.val h3
theorem RK.put {k : κ} {a : A} {v : V} (ha : RV H a v) {xs : List (κ × A)} {ys : List (κ × V)} (h : RK H xs ys) : RK H (putA xs k a) (putK ys k v) := by
  have h0 : ∀ {xs : List (κ × A)} {ys : List (κ × V)}, RK H xs ys → (xs.any fun kv => decide (kv.1 = k)) = (ys.any fun kv => decide (kv.1 = k)) := by
    intro xs
    induction xs with
    | nil => intro ys h; rw [show ys = [] from h]; rfl
    | cons x xs ih =>
      rintro ys ⟨z, zs, rfl, h1, h2, h3⟩
      rw [List.any_cons, List.any_cons, ih h3, h1]
  have h4 : ∀ {xs : List (κ × A)} {ys : List (κ × V)}, RK H xs ys → RK H (xs.map (fun kv => if kv.1 = k then (kv.1, a) else kv)) (ys.map (fun kv => if kv.1 = k then (kv.1, v) else kv)) := by
    intro xs
    induction xs with
    | nil => intro ys h; rw [show ys = [] from h]; rfl
    | cons x xs ih =>
      rintro ys ⟨z, zs, rfl, h1, h2, h3⟩
      refine ⟨_, _, rfl, ?_, ?_, ih h3⟩
      · simp only [h1]; by_cases e : z.1 = k <;> simp [e, h1]
      · simp only [h1]; by_cases e : z.1 = k <;> simp [e, h2, ha]
  unfold putA putK
  rw [h0 h]
  by_cases e : (ys.any fun kv => decide (kv.1 = k)) = true
  · rw [if_pos e, if_pos e]; exact h4 h
  · rw [if_neg e, if_neg e]; exact h.append (RK.one ha)
end
def DrA (H : Hp) (d : Addr) : Prop := ∃ ds : List Int, H d = some (.lst (ds.map V.int)) ∧ ds.length ≤ 10000
def RO (K : PySem.W.Frag) (H : Hp) (a : Addr) : AO → Prop
  | .lst as => ∃ vs, H a = some (.lst vs) ∧ RL H as vs
  | .draws => DrA H a
  | .dK kvs => ∃ ys, H a = some (.dK ys) ∧ RK H kvs ys
  | .ins C fs => ∃ dx ys, H a = some (.ins C dx ys) ∧ H dx = some (.own a) ∧ RK H fs ys
  | .xd fs => ∃ ys, H a = some (.xd ys) ∧ RK H fs ys
  | .fz u kvs => H a = some u ∧ ∃ o ys, u = .frz o (.dK ys) ∧ RK H kvs ys
  | .dT kvs => ∃ ys, H a = some (.dT ys) ∧ RK H kvs ys
  | .fzT u kvs => H a = some u ∧ ∃ o ys, u = .frz o (.dT ys) ∧ RK H kvs ys
structure Rep (K : PySem.W.Frag) (F H : Hp) (M : AM) : Prop where
  at_ : ∀ a o, M a = some o → RO K H a o
  fr : ∀ a o, F a = some o → H a = some o ∧ M a = none
section
variable {K : PySem.W.Frag} {F H H' H1 H2 : Hp} {a b p l : Addr} {v : V} {xs vs : List V} {M M' : AM} {o o' : AO} {u : HO}
theorem RO.keep {l : Addr} (hb : ∀ b o, b ≠ l → H b = some o → H' b = some o) (ho : ∀ x, H l ≠ some (.own x)) (c : Tp H H') (n : a ≠ l) (h : RO K H a o) : RO K H' a o := by
  cases o with
  | lst as =>
    obtain ⟨vs, h1, h2⟩ := h
    exact ⟨vs, hb _ _ n h1, h2.up c⟩
  | draws =>
    obtain ⟨ds, h1, h2⟩ := h
    exact ⟨ds, hb _ _ n h1, h2⟩
  | dK kvs =>
    obtain ⟨ys, h1, h2⟩ := h
    exact ⟨ys, hb _ _ n h1, h2.up c⟩
  | ins C fs =>
    obtain ⟨dx, ys, h1, h2, h3⟩ := h
    exact ⟨dx, ys, hb _ _ n h1, hb _ _ (fun z => ho a (by rw [← z]; exact h2)) h2, h3.up c⟩
  | xd fs =>
    obtain ⟨ys, h1, h2⟩ := h
    exact ⟨ys, hb _ _ n h1, h2.up c⟩
  | fz u kvs =>
    obtain ⟨h1, o, ys, e, h2⟩ := h
    exact ⟨hb _ _ n h1, o, ys, e, h2.up c⟩
  | dT kvs =>
    obtain ⟨ys, h1, h2⟩ := h
    exact ⟨ys, hb _ _ n h1, h2.up c⟩
  | fzT u kvs =>
    obtain ⟨h1, o, ys, e, h2⟩ := h
    exact ⟨hb _ _ n h1, o, ys, e, h2.up c⟩
theorem RO.some (h : RO K H a o) : H a ≠ none := by
  intro z
  cases o with
  | lst as => obtain ⟨vs, h1, h2⟩ := h; rw [z] at h1; cases h1
  | draws => obtain ⟨vs, h1, h2⟩ := h; rw [z] at h1; cases h1
  | dK as => obtain ⟨vs, h1, h2⟩ := h; rw [z] at h1; cases h1
  | ins C fs => obtain ⟨dx, vs, h1, h2⟩ := h; rw [z] at h1; cases h1
  | xd as => obtain ⟨vs, h1, h2⟩ := h; rw [z] at h1; cases h1
  | fz u as => obtain ⟨h1, h2⟩ := h; rw [z] at h1; cases h1
  | dT as => obtain ⟨vs, h1, h2⟩ := h; rw [z] at h1; cases h1
  | fzT u as => obtain ⟨h1, h2⟩ := h; rw [z] at h1; cases h1
theorem Rep.new (r : Rep K F H M) (h : H p = none) (u : HO) : Rep K F (upd H p u) M := by
  have hb : ∀ b o, H b = some o → upd H p u b = some o := fun b o q => by rw [upd_ne (ne_of_none q h)]; exact q
  refine ⟨fun a o e => ?_, fun a o e => ⟨hb _ _ (r.fr a o e).1, (r.fr a o e).2⟩⟩
  have c := Tp.new h u
  have q := r.at_ a o e
  cases o with
  | lst as =>
    obtain ⟨vs, h1, h2⟩ := q
    exact ⟨vs, hb _ _ h1, h2.up c⟩
  | draws =>
    obtain ⟨ds, h1, h2⟩ := q
    exact ⟨ds, hb _ _ h1, h2⟩
  | dK kvs =>
    obtain ⟨ys, h1, h2⟩ := q
    exact ⟨ys, hb _ _ h1, h2.up c⟩
  | ins C fs =>
    obtain ⟨dx, ys, h1, h2, h3⟩ := q
    exact ⟨dx, ys, hb _ _ h1, hb _ _ h2, h3.up c⟩
  | xd fs =>
    obtain ⟨ys, h1, h2⟩ := q
    exact ⟨ys, hb _ _ h1, h2.up c⟩
  | fz u kvs =>
    obtain ⟨h1, o, ys, e, h2⟩ := q
    exact ⟨hb _ _ h1, o, ys, e, h2.up c⟩
  | dT kvs =>
    obtain ⟨ys, h1, h2⟩ := q
    exact ⟨ys, hb _ _ h1, h2.up c⟩
  | fzT u kvs =>
    obtain ⟨h1, o, ys, e, h2⟩ := q
    exact ⟨hb _ _ h1, o, ys, e, h2.up c⟩
theorem Rep.tell (r : Rep K F H M) (hf : F p = none) (h : RO K H p o) : Rep K F H (aupd M p o) := by
  refine ⟨fun a o' e => ?_, fun a o' e => ⟨(r.fr a o' e).1, ?_⟩⟩
  · by_cases z : a = p
    · subst z
      rw [aupd_same] at e
      cases e
      exact h
    · rw [aupd_ne z] at e
      exact r.at_ _ _ e
  · rw [aupd_ne (ne_of_none e hf)]
    exact (r.fr a o' e).2
theorem Rep.free (r : Rep K F H M) (h : H p = none) : F p = none := by
  cases e : F p with
  | none => rfl
  | some o => rw [(r.fr p o e).1] at h; cases h
theorem Rep.off (r : Rep K F H M) (h : M p = some o) : F p = none := by
  cases e : F p with
  | none => rfl
  | some o => rw [(r.fr p o e).2] at h; cases h
theorem Rep.newL {as : List A} (r : Rep K F H M) (h : H p = none) (q : RL H as vs) : Rep K F (upd H p (.lst vs)) (aupd M p (.lst as)) :=
  (r.new h _).tell (r.free h) ⟨vs, upd_same, q.up (Tp.new h _)⟩
theorem Rep.set (r : Rep K F H M) (h : M l = some o) (hl : H l = some u) (nt : ∀ xs, u ≠ .tup xs) (no : ∀ x, u ≠ .own x) (w : HO) (q : RO K (upd H l w) l o') : Rep K F (upd H l w) (aupd M l o') := by
  have hb : ∀ b o, b ≠ l → H b = some o → upd H l w b = some o := fun b o n q => by rw [upd_ne n]; exact q
  have fl := r.off h
  refine ⟨fun a o2 e => ?_, fun a o2 e => ⟨hb _ _ (ne_of_none e fl) (r.fr a o2 e).1, ?_⟩⟩
  · by_cases z : a = l
    · subst z
      rw [aupd_same] at e
      cases e
      exact q
    · rw [aupd_ne z] at e
      exact (r.at_ _ _ e).keep hb (fun x y => no x (by rw [hl] at y; exact Option.some.inj y)) (Tp.set hl nt w) z
  · rw [aupd_ne (ne_of_none e fl)]
    exact (r.fr a o2 e).2
def Sub (M0 M : AM) : Prop := ∀ a o, M0 a = some o → M a = some o
theorem Sub.at {M0 M : AM} {a : Addr} {o : AO} (s : Sub M0 M) (h : M0 a = some o) : M a = some o := s a o h
theorem Sub.refl (M : AM) : Sub M M := fun _ _ h => h
theorem Sub.trans {M0 M1 M2 : AM} (h : Sub M0 M1) (k : Sub M1 M2) : Sub M0 M2 := fun a o e => k a o (h a o e)
theorem Sub.new {M0 : AM} (h : M p = none) (k : Sub M0 M) : Sub M0 (aupd M p o) := fun a o' e => by
  have := k a o' e
  rw [aupd_ne (ne_of_anone this h)]
  exact this
def adel (M : AM) (p : Addr) : AM := fun a => if a = p then none else M a
theorem adel_at (h : M a = some o) (n : a ≠ p) : adel M p a = some o := by unfold adel; rw [if_neg n]; exact h
theorem adel_none : adel M p p = none := by unfold adel; rw [if_pos rfl]
theorem adel_sub : Sub (adel M p) M := fun a o h => by
  unfold adel at h
  by_cases e : a = p
  · rw [if_pos e] at h; cases h
  · rw [if_neg e] at h; exact h
theorem adel_of {M0 : AM} (s : Sub M0 M) (h : M0 p = none) : Sub M0 (adel M p) := fun a o e => adel_at (s a o e) (ne_of_anone e h)
theorem lk_new_ (n : M b = none) (h : M a = some o) : aupd M b o' a = some o := by rw [aupd_ne (ne_of_anone h n)]; exact h
theorem Rep.sub (r : Rep K F H M) (s : Sub M' M) : Rep K F H M' := ⟨fun a o e => r.at_ a o (s a o e), fun a o e => ⟨(r.fr a o e).1, by
  cases q : M' a with
  | none => rfl
  | some o' =>
    have := s a o' q
    rw [(r.fr a o e).2] at this
    cases this⟩⟩
theorem Rep.nn (r : Rep K F H M) (h : M a = some o) : H a ≠ none := (r.at_ a o h).some
theorem Rep.no (r : Rep K F H M) (h : H p = none) : M p = none := by
  cases e : M p with
  | none => rfl
  | some o => exact absurd h (r.nn e)
end
end My

namespace My
open PySem PySem.Spec PyProof.Rows L2
abbrev AS := List (Option A)
abbrev AK := A → AM → Prop
abbrev AX := Addr → List (PySem.Str × A) → AM → Prop
abbrev ASp := List A → AM → AK → AX → Prop
namespace Ab
open PySem PySem.Spec PyProof.Rows L2
abbrev TE := AS → AM → AK → Prop
abbrev TT := AS → AM → (Bool → AM → Prop) → Prop
abbrev TA := AS → AM → (List A → AM → Prop) → Prop
abbrev TO := AS → AM → (Option Int → AM → Prop) → Prop
structure Ends where
  nx : AS → AM → Prop
  rt : AK
  bk : AS → AM → Prop := fun _ _ => False
  ct : AS → AM → Prop := fun _ _ => False
abbrev TS := Ends → AS → AM → Prop
abbrev TG := A → AS → AM → (AS → AM → Prop) → Prop
abbrev TGs := List A → AS → AM → (AS → AM → Prop) → Prop
abbrev TI := AS → AM → (List A → (AM → Prop) → AM → Prop) → Prop
abbrev R1 := A → AM → AK → Prop
abbrev R2 := A → A → AM → AK → Prop
abbrev RB := List A → AM → AK → Prop
abbrev RM := A → List A → AM → AK → Prop
def start (N : List Str) (as : List A) : AS := as.map some ++ List.replicate (N.length - as.length) none
abbrev E0 : AX := fun _ _ _ => False
def tVar (i : Nat) : TE := fun s M P => ∃ a, s[i]? = some (some a) ∧ P a M
def tC (a : A) : TE := fun _ M P => P a M
def tOp (r : R2) (ta tb : TE) : TE := fun s M P => ta s M fun x M1 => tb s M1 fun y M2 => r x y M2 P
def tUn (r : R1) (ta : TE) : TE := fun s M P => ta s M fun x M1 => r x M1 P
def tCB (r : RB) (t : TA) : TE := fun s M P => t s M fun xs M1 => r xs M1 P
def tNil : TA := fun _ M P => P [] M
def tCons (ta : TE) (tr : TA) : TA := fun s M P => ta s M fun x M1 => tr s M1 fun xs M2 => P (x :: xs) M2
def isL (a : A) (M : AM) : Prop := ∃ p xs, a = .ref p ∧ M p = some (.lst xs)
def tStar (K : PySem.W.Frag) (ta : TE) (t : TA) : TA := fun s M P => ta s M fun x M1 => (∃ xs, x = .tup xs ∧ t s M1 fun ys M2 => P (xs ++ ys) M2) ∨ ∃ p xs, x = .ref p ∧ M1 p = some (.lst xs) ∧ t s M1 fun ys M2 => P (xs ++ ys) M2
def tTest (t : TE) : TT := fun s M P => t s M fun x M1 => ∃ k, x = .bl k ∧ P k M1
def tB (t : TE) : TT := fun s M P => t s M fun x M1 => ∃ k, x = .bl k ∧ P k M1
def tYes : TT := fun _ M P => P true M
def tNot (t : TT) : TT := fun s M P => t s M fun c M1 => P (!c) M1
def tAnd (t u : TT) : TT := fun s M P => t s M fun c M1 => if c = true then u s M1 P else P false M1
def tOr (t u : TT) : TT := fun s M P => t s M fun c M1 => if c = true then P true M1 else u s M1 P
def tAndV (ta tb : TE) : TE := fun s M P => ta s M fun x M1 => ∃ c, x = .bl c ∧ if c = true then tb s M1 P else P (.bl false) M1
def tNotV (ta : TE) : TE := fun s M P => ta s M fun x M1 => ∃ c, x = .bl c ∧ P (.bl (!c)) M1
def tIf (t : TT) (ta tb : TE) : TE := fun s M P => t s M fun c M1 => if c = true then ta s M1 P else tb s M1 P
def tChain (r r' : R2) (ta tb tc : TE) : TE := fun s M P => ta s M fun x M1 => tb s M1 fun y M2 => r x y M2 fun z M3 => ∃ k, z = .bl k ∧ if k = true then tc s M3 fun w M4 => r' y w M4 P else P (.bl false) M3
def tCall (sp : ASp) (dvs : List A) (E : AX) (t : TA) : TE := fun s M P => t s M fun vs M1 => sp (vs ++ dvs) M1 P E
def tMeth (C : Addr) (m : Str) (sp : ASp) (dvs : List A) (E : AX) (ta : TE) (t : TA) : TE := fun s M P => ta s M fun x M1 => ∃ a fs, x = .ref a ∧ M1 a = some (.ins C fs) ∧ (valA fs m = none) ∧ t s M1 fun vs M2 => sp (x :: (vs ++ dvs)) M2 P E
def tMake (C : Addr) (sp : ASp) (dvs : List A) (E : AX) (t : TA) : TE := fun s M P => t s M fun vs M1 => ∀ x, M1 x = none → sp (.ref x :: (vs ++ dvs)) (aupd M1 x (.ins C [])) (fun v M2 => v = .non ∧ P (.ref x) M2) E
def tPart (t : TE) : TO := fun s M P => t s M fun x M1 => ∃ i, x = .int i ∧ P (some i) M1
def tNoPart : TO := fun _ M P => P none M
def tSl (r : A → Option Int → Option Int → AM → AK → Prop) (te : TE) (tl th : TO) : TE := fun s M P => te s M fun x M1 => tl s M1 fun l M2 => th s M2 fun u M3 => r x l u M3 P
def tTup (t : TA) : TE := fun s M P => t s M fun xs M1 => xs.length ≤ sizeLine ∧ P (.tup xs) M1
def newL (xs : List A) (M : AM) (P : AK) : Prop := ∀ p, M p = none → P (.ref p) (aupd M p (.lst xs))
def tLst (t : TA) : TE := fun s M P => t s M fun xs M1 => xs.length ≤ sizeLine ∧ newL xs M1 P
def isT (T : String) (x : A) (M : AM) : Prop := (T = "list" ∧ isL x M) ∨ (T = "dict" ∧ ∃ p kvs, x = .ref p ∧ M p = some (.dK kvs)) ∨ (T = "str" ∧ ∃ z, x = .str z)
def tBM (K : PySem.W.Frag) (T : String) (r : RM) (to : TE) (t : TA) : TE := fun s M P => to s M fun x M1 => isT T x M1 ∧ t s M1 fun xs M2 => r x xs M2 P
def tFld (K : PySem.W.Frag) (ta : TE) (f : Str) : TE := fun s M P => ta s M fun x M1 => ∃ a C fs v, x = .ref a ∧ M1 a = some (.ins C fs) ∧ Cls K C ∧ NoAttr K C f ∧ valA fs f = some v ∧ P v M1
def tDNewK : TE := fun _ M P => ∀ p, M p = none → P (.ref p) (aupd M p (.dK []))
def keyA : A → Option Key
  | .int i => some (.inl i)
  | .str x => some (.inr x)
  | _ => none
def tDGet (td ty : TE) : TE := fun s M P => td s M fun x M1 => ty s M1 fun y M2 => ∃ a kvs k v, x = .ref a ∧ M2 a = some (.dK kvs) ∧ keyA y = some k ∧ valA kvs k = some v ∧ P v M2
def tDGet2 (td ty tx : TE) : TE := fun s M P => td s M fun x M1 => ∃ a kvs0, x = .ref a ∧ M1 a = some (.dK kvs0) ∧ ty s M1 fun y M2 => tx s M2 fun z M3 => ∃ kvs k, M3 a = some (.dK kvs) ∧ keyA y = some k ∧ P ((valA kvs k).getD z) M3
def tDIn (ty td : TE) : TE := fun s M P => ty s M fun y M1 => td s M1 fun x M2 => ∃ a kvs k, x = .ref a ∧ M2 a = some (.dK kvs) ∧ keyA y = some k ∧ P (.bl (valA kvs k).isSome) M2
def tDNotIn (ty td : TE) : TE := fun s M P => ty s M fun y M1 => td s M1 fun x M2 => ∃ a kvs k, x = .ref a ∧ M2 a = some (.dK kvs) ∧ keyA y = some k ∧ P (.bl (!(valA kvs k).isSome)) M2
def rI (C : Int → Int → Prop) (g : Int → Int → A) : R2 := fun x y M P => ∃ i j, x = .int i ∧ y = .int j ∧ C i j ∧ P (g i j) M
def rI0 (g : Int → Int → A) : R2 := fun x y M P => ∃ i j, x = .int i ∧ y = .int j ∧ P (g i j) M
def rU (g : Int → A) : R1 := fun x M P => ∃ i, x = .int i ∧ P (g i) M
abbrev rAddI : R2 := rI0 fun i j => .int (i + j)
abbrev rSubI : R2 := rI0 fun i j => .int (i - j)
abbrev rMulI : R2 := rI L2.CMul fun i j => .int (i * j)
abbrev rDivI : R2 := rI L2.CDiv fun i j => .int (i / j)
abbrev rModI : R2 := rI (fun _ j => 0 < j) fun i j => .int (i % j)
abbrev rPowI : R2 := rI L2.CPow fun i j => .int (i ^ j.toNat)
abbrev rLtI : R2 := rI0 fun i j => .bl (decide (i < j))
abbrev rLeI : R2 := rI0 fun i j => .bl (decide (i ≤ j))
abbrev rGtI : R2 := rI0 fun i j => .bl (decide (j < i))
abbrev rGeI : R2 := rI0 fun i j => .bl (decide (j ≤ i))
def rAddS_ : R2 := fun x y M P => ∃ i j, x = .str i ∧ y = .str j ∧ i.length + j.length ≤ sizeLine ∧ P (.str (i ++ j)) M
def rNotInS_ : R2 := fun x y M P => ∃ (c : Nat) (z : Str), x = .str ⟨#[c]⟩ ∧ y = .str z ∧ P (.bl (!decide (c ∈ z.cps.toList))) M
def eqA : A → A → Option Bool
  | .int i, .int j => some (decide (i = j))
  | .str i, .str j => some (decide (i = j))
  | .bl i, .bl j => some (decide (i = j))
  | _, _ => none
def rEq : R2 := fun x y M P => ∃ b, eqA x y = some b ∧ P (.bl b) M
def rNe : R2 := fun x y M P => ∃ b, eqA x y = some b ∧ P (.bl (!b)) M
def rNotN_ : R2 := fun x y M P => y = .non ∧ ((x = .non ∧ P (.bl false) M) ∨ ((x ≠ .non) ∧ P (.bl true) M))
def itemsA (x : A) (M : AM) (xs : List A) : Prop := x = .tup xs ∨ ∃ p, x = .ref p ∧ M p = some (.lst xs)
def rIn (K : PySem.W.Frag) (neg : Bool) : R2 := fun x y M P => (∃ (i : Int) (is : List Int), x = .int i ∧ itemsA y M (is.map A.int) ∧ P (.bl (if neg then !decide (i ∈ is) else decide (i ∈ is))) M) ∨
  ∃ (i : Str) (is : List Str), x = .str i ∧ itemsA y M (is.map A.str) ∧ P (.bl (if neg then !decide (i ∈ is) else decide (i ∈ is))) M
def rIxL (K : PySem.W.Frag) : R2 := fun x y M P => ∃ p xs i v, x = .ref p ∧ y = .int i ∧ M p = some (.lst xs) ∧ L2.atI xs i = some v ∧ P v M
def rIxT (K : PySem.W.Frag) : R2 := fun x y M P => ∃ xs i v, x = .tup xs ∧ y = .int i ∧ L2.atI xs i = some v ∧ P v M
def rIxS : R2 := fun x y M P => ∃ z i c, x = .str z ∧ y = .int i ∧ z.length ≤ sizeLine ∧ L2.atI z.cps.toList i = some c ∧ P (.str ⟨#[c]⟩) M
def cutA (xs : List A) (lo hi : Option Int) : List A := (xs.drop (HT.sIx xs.length 0 lo)).take (HT.sIx xs.length xs.length hi - HT.sIx xs.length 0 lo)
def rSlL (K : PySem.W.Frag) : A → Option Int → Option Int → AM → AK → Prop := fun x lo hi M P => ∃ p xs, x = .ref p ∧ M p = some (.lst xs) ∧ newL (cutA xs lo hi) M P
def rSlA (K : PySem.W.Frag) : A → Option Int → Option Int → AM → AK → Prop := fun x lo hi M P => ∃ xs, x = .tup xs ∧ P (.tup (cutA xs lo hi)) M
def rSlT (K : PySem.W.Frag) : A → Option Int → Option Int → AM → AK → Prop := fun x lo hi M P => ∃ xs, x = .tup xs ∧ lo = some 1 ∧ hi = none ∧ xs ≠ [] ∧ P (.tup (xs.drop 1)) M
def rSlS : A → Option Int → Option Int → AM → AK → Prop := fun x lo hi M P => ∃ z, x = .str z ∧ z.length ≤ sizeLine ∧ P (.str (L2.cutS z lo hi)) M
def rCat : R2 := fun x y M P => ∃ l b xs ys, x = .ref l ∧ y = .ref b ∧ M l = some (.lst xs) ∧ M b = some (.lst ys) ∧ xs.length + ys.length ≤ sizeLine ∧ newL (xs ++ ys) M P
def rCatA (K : PySem.W.Frag) : R2 := fun x y M P => ∃ xs ys, x = .tup xs ∧ y = .tup ys ∧ xs.length + ys.length ≤ sizeLine ∧ P (.tup (xs ++ ys)) M
def rExt2 : R2 := fun x y M P => ∃ l b xs ys, x = .ref l ∧ y = .ref b ∧ M l = some (.lst xs) ∧ M b = some (.lst ys) ∧ xs.length + ys.length ≤ sizeLine ∧ P (.ref l) (aupd M l (.lst (xs ++ ys)))
def ipI (f : Int → Int → Int) : R2 := fun x y M P => ∃ i j, x = .int i ∧ y = .int j ∧ P (.int (f i j)) M
def rLenSeq (K : PySem.W.Frag) : RB := fun xs M P => ∃ x ys, xs = [x] ∧ itemsA x M ys ∧ P (.int ys.length) M
def rLenStr : RB := fun xs M P => ∃ z, xs = [.str z] ∧ z.length ≤ sizeLine ∧ P (.int z.length) M
def rInt1 : RB := fun xs M P => (∃ i, xs = [.int i] ∧ P (.int i) M) ∨ ∃ k, xs = [.bl k] ∧ P (.int (if k then 1 else 0)) M
def rAbs : RB := fun xs M P => ∃ i, xs = [.int i] ∧ P (.int (if i < 0 then -i else i)) M
def rSum (K : PySem.W.Frag) : RB := fun xs M P => ∃ (x : A) (ns : List Int), xs = [x] ∧ (∃ p, x = .ref p ∧ M p = some (.lst (ns.map A.int))) ∧ P (.int ns.sum) M
def rTupleOf (K : PySem.W.Frag) : RB := fun xs M P => ∃ x ys, xs = [x] ∧ itemsA x M ys ∧ P (.tup ys) M
def rListOf (K : PySem.W.Frag) : RB := fun xs M P => ∃ x ys, xs = [x] ∧ itemsA x M ys ∧ newL ys M P
def isiA : A → String → Option Bool
  | .int _, "int" => some true
  | .int _, "bool" => some false
  | .int _, "str" => some false
  | .int _, "tuple" => some false
  | .tup _, "int" => some false
  | .tup _, "tuple" => some true
  | .tup _, "str" => some false
  | .str _, "int" => some false
  | .str _, "str" => some true
  | .str _, "tuple" => some false
  | .bl _, "bool" => some true
  | .non, "int" => some false
  | .non, "tuple" => some false
  | _, _ => none
def rIsi (K : PySem.W.Frag) : RB := fun xs M P => (∃ x t b, xs = [x, .ty t] ∧ isiA x t = some b ∧ P (.bl b) M) ∨ ∃ p ys, xs = [.ref p, .ty "list"] ∧ M p = some (.lst ys) ∧ P (.bl true) M
def rAll (K : PySem.W.Frag) : RB := fun xs M P => ∃ (x : A) (bs : List Bool), xs = [x] ∧ (∃ p, x = .ref p ∧ M p = some (.lst (bs.map A.bl))) ∧ P (.bl (bs.all id)) M
def rAppend : RM := fun x vs M P => ∃ l xs y, x = .ref l ∧ vs = [y] ∧ M l = some (.lst xs) ∧ xs.length < sizeLine ∧ P .non (aupd M l (.lst (xs ++ [y])))
def rInsert : RM := fun x vs M P => ∃ (l : Addr) (xs : List A) (i : Int) (y : A), x = .ref l ∧ vs = [.int i, y] ∧ M l = some (.lst xs) ∧ xs.length < sizeLine ∧ 0 ≤ i ∧ i < 2 ^ 63 ∧ P .non (aupd M l (.lst (xs.take i.toNat ++ [y] ++ xs.drop i.toNat)))
def rPopAt : RM := fun x vs M P => ∃ l xs i k y, x = .ref l ∧ vs = [.int i] ∧ M l = some (.lst xs) ∧ -(2 ^ 63) ≤ i ∧ i < 2 ^ 63 ∧ seqIndex? i xs.length = some k ∧ xs[k]? = some y ∧ P y (aupd M l (.lst (xs.eraseIdx k)))
def gName (i : Nat) : TG := fun v s M P => P (s.set i (some v)) M
def gNil : TGs := fun vs s M P => vs = [] ∧ P s M
def gCons (t : TG) (u : TGs) : TGs := fun vs s M P => ∃ v r, vs = v :: r ∧ t v s M fun s' M' => u r s' M' P
def gTup (K : PySem.W.Frag) (n : Nat) (t : TGs) : TG := fun v s M P => ∃ xs, v = .tup xs ∧ xs.length = n ∧ t xs s M P
def rSetL : A → A → A → AM → (AM → Prop) → Prop := fun o i v M P => ∃ p xs k j, o = .ref p ∧ i = .int k ∧ M p = some (.lst xs) ∧ L2.ixN xs.length k = some j ∧ P (aupd M p (.lst (xs.set j v)))
def gSub (to ti : TE) (t : A → A → A → AM → (AM → Prop) → Prop) : TG := fun v s M P => to s M fun o M1 => ti s M1 fun i M2 => t o i v M2 fun M3 => P s M3
def tNext : TS := fun D s M => D.nx s M
def tSeq (t u : TS) : TS := fun D s M => t { D with nx := u D } s M
def tCut (t u : TS) : TS := fun D s M => ∃ Mid : AS → AM → Prop, t { D with nx := Mid } s M ∧ ∀ s' M', Mid s' M' → u D s' M'
def tCont : TS := fun D s M => D.ct s M
def tDrop (te : TE) : TS := fun D s M => te s M fun _ M1 => D.nx s M1
def tRet (te : TE) : TS := fun D s M => te s M D.rt
def tRetN : TS := fun D _ M => D.rt .non M
def tIfS (c : TT) (t u : TS) : TS := fun D s M => c s M fun b M1 => if b = true then t D s M1 else u D s M1
def tAsg (te : TE) (g : TG) : TS := fun D s M => te s M fun x M1 => g x s M1 D.nx
def tAug (i : Nat) (te : TE) (ti : R2) : TS := fun D s M => ∃ x, s[i]? = some (some x) ∧ te s M fun y M1 => ti x y M1 fun z M2 => D.nx (s.set i (some z)) M2
def sDPut (td ty tv : TE) : TS := fun D s M => tv s M fun v M1 => td s M1 fun x M2 => ty s M2 fun y M3 => ∃ a kvs k, x = .ref a ∧ M3 a = some (.dK kvs) ∧ keyA y = some k ∧ kvs.length < sizeLine ∧ D.nx s (aupd M3 a (.dK (putA kvs k v)))
def putFA (f : Str) (v : A) : List (Str × A) → List (Str × A)
  | [] => [(f, v)]
  | (g, x) :: r => if g = f then (g, v) :: r else (g, x) :: putFA f v r
def sFld (K : PySem.W.Frag) (ta tv : TE) (f : Str) : TS := fun D s M => tv s M fun y M1 => ta s M1 fun x M2 => ∃ a C fs, x = .ref a ∧ M2 a = some (.ins C fs) ∧ Cls K C ∧ NoAttr K C f ∧ fs.length < 1000 ∧ D.nx s (aupd M2 a (.ins C (putFA f y fs)))
def iList (K : PySem.W.Frag) (te : TE) : TI := fun s M R => te s M fun x M1 => ∃ p xs, x = .ref p ∧ M1 p = some (.lst xs) ∧ R xs (fun M' => M' p = some (.lst xs)) M1
def iTup (K : PySem.W.Frag) (te : TE) : TI := fun s M R => te s M fun x M1 => ∃ xs, x = .tup xs ∧ R xs (fun _ => True) M1
def intsA (lo : Int) (n : Nat) : List A := (List.range n).map fun (k : Nat) => A.int (lo + (k : Int))
def iRng1 (ta : TA) : TI := fun s M R => ta s M fun vs M1 => ∃ j : Int, vs = [.int j] ∧ -(2 ^ 62) ≤ j ∧ j < 2 ^ 62 ∧ R (intsA 0 j.toNat) (fun _ => True) M1
def iRng2 (ta : TA) : TI := fun s M R => ta s M fun vs M1 => ∃ i j : Int, vs = [.int i, .int j] ∧ (-(2 ^ 62) ≤ i ∧ i < 2 ^ 62 ∧ -(2 ^ 62) ≤ j ∧ j < 2 ^ 62) ∧ R (intsA i (j - i).toNat) (fun _ => True) M1
def iStr (te : TE) : TI := fun s M R => te s M fun x M1 => ∃ z : Str, x = .str z ∧ R (z.cps.toList.map fun c => A.str ⟨#[c]⟩) (fun _ => True) M1
def enumA (xs : List A) : List A := (List.range xs.length).zipWith (fun (i : Nat) x => A.tup [.int (i : Int), x]) xs
def iEnum (K : PySem.W.Frag) (ta : TA) : TI := fun s M R => ta s M fun vs M1 => ∃ p xs, vs = [.ref p] ∧ M1 p = some (.lst xs) ∧ R (enumA xs) (fun M' => M' p = some (.lst xs)) M1
def iEnumT (K : PySem.W.Frag) (ta : TA) : TI := fun s M R => ta s M fun vs M1 => ∃ xs, vs = [.tup xs] ∧ R (enumA xs) (fun _ => True) M1
def zipA (xs ys : List A) : List A := xs.zipWith (fun x y => A.tup [x, y]) ys
def iZipA (K : PySem.W.Frag) (ta : TA) : TI := fun s M R => ta s M fun vs M1 => (∃ xs ys, vs = [.tup xs, .tup ys] ∧ R (zipA xs ys) (fun _ => True) M1) ∨
  ∃ p q xs ys, vs = [.ref p, .ref q] ∧ M1 p = some (.lst xs) ∧ M1 q = some (.lst ys) ∧ R (zipA xs ys) (fun M' => M' p = some (.lst xs) ∧ M' q = some (.lst ys)) M1
def ForA (g : TG) (tb : TS) (D : Ends) (s : AS) (xs : List A) (ok : AM → Prop) (M : AM) : Prop := ∃ Inv : Nat → AS → AM → Prop, Inv 0 s M ∧ (∀ i s M, i ≤ xs.length → Inv i s M → ok M) ∧
  (∀ i x s M, xs[i]? = some x → Inv i s M → g x s M fun s2 M2 => tb { D with nx := Inv (i + 1), ct := Inv (i + 1), bk := D.nx } s2 M2) ∧ ∀ s M, Inv xs.length s M → D.nx s M
def tFor (wi : TI) (g : TG) (tb : TS) : TS := fun D s M => wi s M (ForA g tb D s)
def wipeA (s : AS) : List Nat → AS
  | [] => s
  | v :: vs => (wipeA s vs).set v none
def LcA (g : TG) (tt : TT) (te : TE) (vs : List Nat) (s : AS) (P : AK) (xs : List A) (ok : AM → Prop) (M : AM) : Prop := ∃ Inv : Nat → List A → AM → Prop, Inv 0 [] M ∧ (∀ i acc M, Inv i acc M → ok M ∧ acc.length < sizeLine) ∧
  (∀ i x acc M, xs[i]? = some x → Inv i acc M → g x (wipeA s vs) M fun s2 M2 => tt s2 M2 fun b M3 => if b = true then te s2 M3 fun y M4 => Inv (i + 1) (acc ++ [y]) M4 else Inv (i + 1) acc M3) ∧
  ∀ acc M, Inv xs.length acc M → newL acc M P
def tLc (wi : TI) (g : TG) (tt : TT) (te : TE) (vs : List Nat) : TE := fun s M P => wi s M (LcA g tt te vs s P)
end Ab
end My

namespace My
open PySem PySem.Spec PyProof.Rows L2
set_option autoImplicit false
structure RS (H : Hp) (s : AS) (σ : L2.St) : Prop where
  len : s.length = σ.length
  at_ : ∀ (i : Nat) (a : A), s[i]? = some (some a) → ∃ v, σ[i]? = some (some v) ∧ RV H a v
def DcOk (F H : Hp) (M : AM) (fs : List (Str × A)) (od : Option Addr) : Prop := (fs = [] ∧ od = none) ∨ (fs ≠ [] ∧ ∃ d ys, od = some d ∧ F d = none ∧ M d = none ∧ H d = some (.xd ys) ∧ RK H fs ys)
structure XOk (K : PySem.W.Frag) (F H : Hp) (E : XK) (X : AX) : Prop where
  run : ∀ C fs M od H', X C fs M → Rep K F H' M → DcOk F H' M fs od → Tp H H' → E (.ref C) od H'
section
variable {K : PySem.W.Frag} {F F' H H1 H' : Hp} {s : AS} {σ : L2.St} {E : XK} {X : AX} {M : AM}
theorem RS.up (r : RS H s σ) (c : Tp H H') : RS H' s σ := ⟨r.len, fun i a e => by
  obtain ⟨v, h1, h2⟩ := r.at_ i a e
  exact ⟨v, h1, h2.up c⟩⟩
theorem RS.nil : RS H [] [] := ⟨rfl, fun i a e => by simp at e⟩
theorem RS.skip {y : Option V} (r : RS H s σ) : RS H (none :: s) (y :: σ) := ⟨by simp [r.len], fun i a e => by
  cases i with
  | zero => simp at e
  | succ i => exact r.at_ i a (by simpa using e)⟩
theorem RS.keep {a : A} {v : V} (h : RV H a v) (r : RS H s σ) : RS H (some a :: s) (some v :: σ) := ⟨by simp [r.len], fun i b e => by
  cases i with
  | zero => simp at e; subst e; exact ⟨v, rfl, h⟩
  | succ i => exact r.at_ i b (by simpa using e)⟩
theorem RS.set {i : Nat} {a : A} {v : V} (r : RS H s σ) (h : RV H a v) : RS H (s.set i (some a)) (σ.set i (some v)) := by
  refine ⟨by rw [List.length_set, List.length_set, r.len], fun j b e => ?_⟩
  rw [List.getElem?_set] at e ⊢
  by_cases z : i = j
  · subst z
    rw [if_pos rfl] at e ⊢
    by_cases l : i < s.length
    · rw [if_pos l] at e
      rw [← r.len, if_pos l]
      cases e
      exact ⟨v, rfl, h⟩
    · rw [if_neg l] at e; cases e
  · rw [if_neg z] at e ⊢
    exact r.at_ j b e
theorem RS.unset {i : Nat} (r : RS H s σ) : RS H (s.set i none) (σ.set i none) := by
  refine ⟨by rw [List.length_set, List.length_set, r.len], fun j b e => ?_⟩
  rw [List.getElem?_set] at e ⊢
  by_cases z : i = j
  · subst z
    rw [if_pos rfl] at e
    by_cases l : i < s.length
    · rw [if_pos l] at e; cases e
    · rw [if_neg l] at e; cases e
  · rw [if_neg z] at e ⊢
    exact r.at_ j b e
theorem RS.wipe (r : RS H s σ) : ∀ vs : List Nat, RS H (Ab.wipeA s vs) (wipe σ vs)
  | [] => r
  | v :: vs => RS.unset (RS.wipe r vs)
theorem RS.startOf {as : List A} {vs : List V} (N : List Str) (h : RL H as vs) : RS H (Ab.start N as) (L2.start N vs) := by
  have hl := h.length
  refine ⟨by unfold Ab.start L2.start; simp [hl], fun i a e => ?_⟩
  unfold Ab.start at e
  unfold L2.start
  by_cases l : i < as.length
  · rw [List.getElem?_append_left (by simpa using l), List.getElem?_map] at e
    cases q : as[i]? with
    | none => rw [q] at e; cases e
    | some b =>
      rw [q] at e
      have e2 : b = a := Option.some.inj (Option.some.inj e)
      subst e2
      obtain ⟨v, h1, h2⟩ := h.get' q
      exact ⟨v, by rw [List.getElem?_append_left (by simp; omega), List.getElem?_map, h1]; rfl, h2⟩
  · rw [List.getElem?_append_right (by simp; omega)] at e
    have := List.mem_of_getElem? e
    rw [List.mem_replicate] at this
    cases this.2
theorem XOk.up (x : XOk K F H E X) (c : Tp H H1) : XOk K F H1 E X := ⟨fun C fs M od H' h r n t => x.run C fs M od H' h r n (c.trans t)⟩
theorem DcOk.less {M : AM} {fs : List (Str × A)} {od : Option Addr} (x : DcOk F' H M fs od) (h : ∀ a o, F a = some o → F' a = some o) : DcOk F H M fs od := by
  rcases x with x | ⟨n, d, ys, e, n1, x⟩
  · exact .inl x
  · refine .inr ⟨n, d, ys, e, ?_, x⟩
    cases q : F d with
    | none => rfl
    | some o => rw [h d o q] at n1; cases n1
theorem Rep.less (r : Rep K F' H M) (h : ∀ a o, F a = some o → F' a = some o) : Rep K F H M := ⟨r.at_, fun a o e => r.fr a o (h a o e)⟩
theorem XOk.frame (x : XOk K F H E X) (h : ∀ a o, F a = some o → F' a = some o) : XOk K F' H E X := ⟨fun C fs M od H' hx r n t => x.run C fs M od H' hx (r.less h) (n.less h) t⟩
theorem XOk.no : XOk K F H E Ab.E0 := ⟨fun _ _ _ _ _ h => h.elim⟩
end
structure DOk (K : PySem.W.Frag) (F H : Hp) (B : Ab.Ends) (D : L2.Ends) : Prop where
  nx : ∀ s M σ H', B.nx s M → RS H' s σ → Rep K F H' M → Tp H H' → D.nx σ H'
  rt : ∀ a M' x H', B.rt a M' → Rep K F H' M' → RV H' a x → Tp H H' → D.rt x H'
  bk : ∀ s M σ H', B.bk s M → RS H' s σ → Rep K F H' M → Tp H H' → D.bk σ H'
  ct : ∀ s M σ H', B.ct s M → RS H' s σ → Rep K F H' M → Tp H H' → D.ct σ H'
theorem DOk.up {K : PySem.W.Frag} {F H H1 : Hp} {B : Ab.Ends} {D : L2.Ends} (d : DOk K F H B D) (c : Tp H H1) : DOk K F H1 B D :=
  ⟨fun s M σ H' h r p t => d.nx s M σ H' h r p (c.trans t), fun s M σ H' h r p t => d.rt s M σ H' h r p (c.trans t), fun s M σ H' h r p t => d.bk s M σ H' h r p (c.trans t), fun s M σ H' h r p t => d.ct s M σ H' h r p (c.trans t)⟩
section
variable (K : PySem.W.Frag) (E : XK) (X : AX)
structure RE (t : L2.TE) (u : Ab.TE) : Prop where
  run : ∀ F σ H s M Q P, XOk K F H E X → RS H s σ → Rep K F H M → u s M P → (∀ a M' x H', P a M' → Rep K F H' M' → RV H' a x → Tp H H' → Q x H') → t σ H Q
structure RT (t : L2.TT) (u : Ab.TT) : Prop where
  run : ∀ F σ H s M Q P, XOk K F H E X → RS H s σ → Rep K F H M → u s M P → (∀ b M' H', P b M' → Rep K F H' M' → Tp H H' → Q b H') → t σ H Q
structure RA (t : L2.TA) (u : Ab.TA) : Prop where
  run : ∀ F σ H s M Q P, XOk K F H E X → RS H s σ → Rep K F H M → u s M P → (∀ as M' xs H', P as M' → Rep K F H' M' → RL H' as xs → Tp H H' → Q xs H') → t σ H Q
structure RP (t : L2.TO) (u : Ab.TO) : Prop where
  run : ∀ F σ H s M Q P, XOk K F H E X → RS H s σ → Rep K F H M → u s M P → (∀ b M' H', P b M' → Rep K F H' M' → Tp H H' → Q b H') → t σ H Q
structure RSt (t : L2.TS) (u : Ab.TS) : Prop where
  run : ∀ F σ H s M D B, XOk K F H E X → RS H s σ → Rep K F H M → u B s M → DOk K F H B D → t D σ H
structure RG (t : L2.TG) (u : Ab.TG) : Prop where
  run : ∀ F σ H s M v a Q P, XOk K F H E X → RV H a v → RS H s σ → Rep K F H M → u a s M P → (∀ s' M' σ' H', P s' M' → RS H' s' σ' → Rep K F H' M' → Tp H H' → Q σ' H') → t v σ H Q
structure RGs (t : L2.TGs) (u : Ab.TGs) : Prop where
  run : ∀ F σ H s M vs as Q P, XOk K F H E X → RL H as vs → RS H s σ → Rep K F H M → u as s M P → (∀ s' M' σ' H', P s' M' → RS H' s' σ' → Rep K F H' M' → Tp H H' → Q σ' H') → t vs σ H Q
structure Walks (F H0 : Hp) (J : It) (xs : List A) (ok : AM → Prop) : Prop where
  stop : ∀ H M, Tp H0 H → Rep K F H M → ok M → J.stop xs.length H
  go : ∀ i a H M, Tp H0 H → Rep K F H M → ok M → xs[i]? = some a → J.go i H ∧ ∀ x H', J.yld i H x H' → Rep K F H' M ∧ Tp H H' ∧ RV H' a x ∧ ∀ b o, H b = some o → H' b = some o
structure RI (t : L2.TI) (u : Ab.TI) : Prop where
  run : ∀ F σ H s M Q P, XOk K F H E X → RS H s σ → Rep K F H M → u s M P → (∀ xs ok M' J H', P xs ok M' → Rep K F H' M' → Tp H H' → (∀ F', (∀ a o, F a = some o → F' a = some o) → Walks K F' H' J xs ok) → Q J H') → t σ H Q
end
section
variable (K : PySem.W.Frag)
structure RO2 (t : L2.R2) (u : Ab.R2) : Prop where
  run : ∀ F H M x y a b Q P, RV H a x → RV H b y → Rep K F H M → u a b M P → (∀ c M' z H', P c M' → Rep K F H' M' → RV H' c z → Tp H H' → Q z H') → t x y H Q
structure RO1 (t : V → Hp → VK → Prop) (u : Ab.R1) : Prop where
  run : ∀ F H M x a Q P, RV H a x → Rep K F H M → u a M P → (∀ c M' z H', P c M' → Rep K F H' M' → RV H' c z → Tp H H' → Q z H') → t x H Q
structure ROB (t : List V → Hp → VK → Prop) (u : Ab.RB) : Prop where
  run : ∀ F H M xs as Q P, RL H as xs → Rep K F H M → u as M P → (∀ c M' z H', P c M' → Rep K F H' M' → RV H' c z → Tp H H' → Q z H') → t xs H Q
structure ROM (t : V → List V → Hp → VK → Prop) (u : Ab.RM) : Prop where
  run : ∀ F H M x a xs as Q P, RV H a x → RL H as xs → Rep K F H M → u a as M P → (∀ c M' z H', P c M' → Rep K F H' M' → RV H' c z → Tp H H' → Q z H') → t x xs H Q
structure ROS (t : V → Option Int → Option Int → Hp → VK → Prop) (u : A → Option Int → Option Int → AM → AK → Prop) : Prop where
  run : ∀ F H M x a lo hi Q P, RV H a x → Rep K F H M → u a lo hi M P → (∀ c M' z H', P c M' → Rep K F H' M' → RV H' c z → Tp H H' → Q z H') → t x lo hi H Q
structure RSp (sp : Sp) (asp : ASp) : Prop where
  run : ∀ F vs as H M Q P E X, RL H as vs → Rep K F H M → asp as M P X → (∀ a M' x H', P a M' → Rep K F H' M' → RV H' a x → Tp H H' → Q x H') → XOk K F H E X → sp vs H Q E
end
def lift (K : PySem.W.Frag) (asp : ASp) : Sp := fun vs H Q E => ∃ F as M P X, RL H as vs ∧ Rep K F H M ∧ asp as M P X ∧ (∀ a M' x H', P a M' → Rep K F H' M' → RV H' a x → Tp H H' → Q x H') ∧ XOk K F H E X
theorem RSp.lift {K : PySem.W.Frag} {asp : ASp} : RSp K (lift K asp) asp := ⟨fun F vs as H M Q P E X h r a k x => ⟨F, as, M, P, X, h, r, a, k, x⟩⟩
def Wk (P : AK) : AK := fun a M => ∃ M0, Sub M0 M ∧ P a M0
theorem rd_of {K : PySem.W.Frag} {asp : ASp} {N : List Str} {t : L2.TS} {u : Ab.TS} {vs : List V} {H : Hp} {Q : VK} {E : XK} (rf : ∀ X, RSt K E X t u)
    (ab : ∀ as M P X, asp as M P X → u { nx := fun _ M' => Wk P .non M', rt := Wk P } (Ab.start N as) M) (h : lift K asp vs H Q E) : t { nx := fun _ H' => Q .non H', rt := Q } (L2.start N vs) H := by
  obtain ⟨F, as, M, P, X, hv, r, a, k, x⟩ := h
  refine (rf X).run F _ H _ M _ _ x (RS.startOf N hv) r (ab as M P X a) ⟨?_, ?_, fun _ _ _ _ h => h.elim, fun _ _ _ _ h => h.elim⟩
  · rintro s M' σ H' ⟨M0, h0, p⟩ _ r' c
    exact k _ M0 _ H' p (r'.sub h0) (RV.non_iff.mpr rfl) c
  · rintro a M' x H' ⟨M0, h0, p⟩ r' rv c
    exact k _ M0 _ H' p (r'.sub h0) rv c
theorem rd_ofX {K : PySem.W.Frag} {asp : ASp} {N : List Str} {t : XK → L2.TS} {u : AX → Ab.TS} {vs : List V} {H : Hp} {Q : VK} {E : XK} (rf : ∀ E X, RSt K E X (t E) (u X))
    (ab : ∀ as M P X, asp as M P X → u X { nx := fun _ M' => Wk P .non M', rt := Wk P } (Ab.start N as) M) (h : lift K asp vs H Q E) : t E { nx := fun _ H' => Q .non H', rt := Q } (L2.start N vs) H := by
  obtain ⟨F, as, M, P, X, hv, r, a, k, x⟩ := h
  refine (rf E X).run F _ H _ M _ _ x (RS.startOf N hv) r (ab as M P X a) ⟨?_, ?_, fun _ _ _ _ h => h.elim, fun _ _ _ _ h => h.elim⟩
  · rintro s M' σ H' ⟨M0, h0, p⟩ _ r' c
    exact k _ M0 _ H' p (r'.sub h0) (RV.non_iff.mpr rfl) c
  · rintro a M' x H' ⟨M0, h0, p⟩ r' rv c
    exact k _ M0 _ H' p (r'.sub h0) rv c
theorem lift_len {K : PySem.W.Frag} {asp : ASp} {n : Nat} {vs : List V} {H : Hp} {Q : VK} {E : XK} (l : ∀ as M P X, asp as M P X → as.length = n) (h : lift K asp vs H Q E) : vs.length = n := by
  obtain ⟨F, as, M, P, X, hv, r, a, k, x⟩ := h
  rw [hv.length]
  exact l _ _ _ _ a
theorem lift_no {K : PySem.W.Frag} {asp : ASp} (l : ∀ as M P X, ¬ asp as M P X) (vs : List V) (H : Hp) (Q : VK) (E : XK) : ¬ lift K asp vs H Q E := by
  rintro ⟨F, as, M, P, X, hv, r, a, k, x⟩
  exact l _ _ _ _ a
namespace Rf
section
variable {K : PySem.W.Frag} {E : XK} {X : AX}
theorem tVar (i : Nat) : RE K E X (L2.tVar i) (Ab.tVar i) := ⟨fun F σ H s M Q P x r m ⟨a, e, p⟩ k => by
  obtain ⟨v, h1, h2⟩ := r.at_ i a e
  exact ⟨v, h1, k a M v H p m h2 (Tp.refl _)⟩⟩
theorem tC {v : V} {a : A} (h : ∀ H, RV H a v) : RE K E X (L2.tC v) (Ab.tC a) := ⟨fun F σ H s M Q P x r m p k => k a M v H p m (h H) (Tp.refl _)⟩
theorem tCint {i : Int} : RE K E X (L2.tC (.int i)) (Ab.tC (.int i)) := tC fun _ => RV.int_iff.mpr rfl
theorem tCstr {i : Str} : RE K E X (L2.tC (.str i)) (Ab.tC (.str i)) := tC fun _ => RV.str_iff.mpr rfl
theorem tCbl {i : Bool} : RE K E X (L2.tC (.bl i)) (Ab.tC (.bl i)) := tC fun _ => RV.bl_iff.mpr rfl
theorem tCnon : RE K E X (L2.tC .non) (Ab.tC .non) := tC fun _ => RV.non_iff.mpr rfl
theorem tCty {i : String} : RE K E X (L2.tC (.ty i)) (Ab.tC (.ty i)) := tC fun _ => RV.ty_iff.mpr rfl
theorem tCref {i : Addr} : RE K E X (L2.tC (.ref i)) (Ab.tC (.ref i)) := tC fun _ => RV.ref_iff.mpr rfl
theorem tOp {r : L2.R2} {r' : Ab.R2} {ta tb : L2.TE} {ua ub : Ab.TE} (h : RO2 K r r') (ha : RE K E X ta ua) (hb : RE K E X tb ub) : RE K E X (L2.tOp r ta tb) (Ab.tOp r' ua ub) := ⟨fun F σ H s M Q P x rs m p k =>
  ha.run F σ H s M _ _ x rs m p fun a M1 v H1 p1 m1 rv c1 => hb.run F σ H1 s M1 _ _ (x.up c1) (rs.up c1) m1 p1 fun b M2 w H2 p2 m2 rw c2 =>
    h.run F H2 M2 v w a b _ _ (rv.up c2) rw m2 p2 fun c M3 z H3 p3 m3 rz c3 => k c M3 z H3 p3 m3 rz ((c1.trans c2).trans c3)⟩
theorem tUn {r : V → Hp → VK → Prop} {r' : Ab.R1} {ta : L2.TE} {ua : Ab.TE} (h : RO1 K r r') (ha : RE K E X ta ua) : RE K E X (L2.tUn r ta) (Ab.tUn r' ua) := ⟨fun F σ H s M Q P x rs m p k =>
  ha.run F σ H s M _ _ x rs m p fun a M1 v H1 p1 m1 rv c1 => h.run F H1 M1 v a _ _ rv m1 p1 fun c M3 z H3 p3 m3 rz c3 => k c M3 z H3 p3 m3 rz (c1.trans c3)⟩
theorem tCB {r : List V → Hp → VK → Prop} {r' : Ab.RB} {t : L2.TA} {u : Ab.TA} (h : ROB K r r') (ha : RA K E X t u) : RE K E X (L2.tCB r t) (Ab.tCB r' u) := ⟨fun F σ H s M Q P x rs m p k =>
  ha.run F σ H s M _ _ x rs m p fun a M1 v H1 p1 m1 rv c1 => h.run F H1 M1 v a _ _ rv m1 p1 fun c M3 z H3 p3 m3 rz c3 => k c M3 z H3 p3 m3 rz (c1.trans c3)⟩
theorem tNil : RA K E X L2.tNil Ab.tNil := ⟨fun F σ H s M Q P x rs m p k => k [] M [] H p m RL.nil (Tp.refl _)⟩
theorem tCons {ta : L2.TE} {ua : Ab.TE} {tr : L2.TA} {ur : Ab.TA} (ha : RE K E X ta ua) (hr : RA K E X tr ur) : RA K E X (L2.tCons ta tr) (Ab.tCons ua ur) := ⟨fun F σ H s M Q P x rs m p k =>
  ha.run F σ H s M _ _ x rs m p fun a M1 v H1 p1 m1 rv c1 => hr.run F σ H1 s M1 _ _ (x.up c1) (rs.up c1) m1 p1 fun as M2 vs H2 p2 m2 rw c2 => k _ M2 _ H2 p2 m2 (RL.cons (rv.up c2) rw) (c1.trans c2)⟩
theorem tStar {ta : L2.TE} {ua : Ab.TE} {tr : L2.TA} {ur : Ab.TA} (ha : RE K E X ta ua) (hr : RA K E X tr ur) : RA K E X (StX.tStar K ta tr) (Ab.tStar K ua ur) := ⟨fun F σ H s M Q P x rs m p k =>
  ha.run F σ H s M _ _ x rs m p fun a M1 v H1 p1 m1 rv c1 => by
    rcases p1 with ⟨xs, rfl, p1⟩ | ⟨q, xs, rfl, hq, p1⟩
    · obtain ⟨b, vs, rfl, hb, rl⟩ := RV.tup_iff.mp rv
      exact ⟨b, vs, rfl, .inl (.inl (.inl hb)), hr.run F σ H1 s M1 _ _ (x.up c1) (rs.up c1) m1 p1 fun as M2 ws H2 p2 m2 rw c2 => k _ M2 _ H2 p2 m2 (RL.append (rl.up c2) rw) (c1.trans c2)⟩
    · cases RV.ref_iff.mp rv
      obtain ⟨vs, hb, rl⟩ := m1.at_ _ _ hq
      exact ⟨q, vs, rfl, .inr (.inl (.inl hb)), hr.run F σ H1 s M1 _ _ (x.up c1) (rs.up c1) m1 p1 fun as M2 ws H2 p2 m2 rw c2 => k _ M2 _ H2 p2 m2 (RL.append (rl.up c2) rw) (c1.trans c2)⟩⟩
theorem tTest {t : L2.TE} {u : Ab.TE} (h : RE K E X t u) : RT K E X (L2.tTest t) (Ab.tTest u) := ⟨fun F σ H s M Q P x rs m p k => h.run F σ H s M _ _ x rs m p fun a M1 v H1 ⟨b, e, p1⟩ m1 rv c1 => by
  subst e
  exact ⟨b, RV.bl_iff.mp rv, k b M1 H1 p1 m1 c1⟩⟩
theorem tB {t : L2.TE} {u : Ab.TE} (h : RE K E X t u) : RT K E X (L2.tB t) (Ab.tB u) := ⟨fun F σ H s M Q P x rs m p k => h.run F σ H s M _ _ x rs m p fun a M1 v H1 ⟨b, e, p1⟩ m1 rv c1 => by
  subst e
  exact ⟨b, RV.bl_iff.mp rv, k b M1 H1 p1 m1 c1⟩⟩
theorem tYes : RT K E X L2.tYes Ab.tYes := ⟨fun F σ H s M Q P x rs m p k => k true M H p m (Tp.refl _)⟩
theorem tNot {t : L2.TT} {u : Ab.TT} (h : RT K E X t u) : RT K E X (L2.tNot t) (Ab.tNot u) := ⟨fun F σ H s M Q P x rs m p k => h.run F σ H s M _ _ x rs m p fun b M1 H1 p1 m1 c1 => k _ M1 H1 p1 m1 c1⟩
theorem tAnd {t t' : L2.TT} {u u' : Ab.TT} (h : RT K E X t u) (h' : RT K E X t' u') : RT K E X (L2.tAnd t t') (Ab.tAnd u u') := ⟨fun F σ H s M Q P x rs m p k => h.run F σ H s M _ _ x rs m p fun b M1 H1 p1 m1 c1 => by
  cases b with
  | true =>
    rw [if_pos rfl] at p1 ⊢
    exact h'.run F σ H1 s M1 _ _ (x.up c1) (rs.up c1) m1 p1 fun b M2 H2 p2 m2 c2 => k _ M2 H2 p2 m2 (c1.trans c2)
  | false =>
    rw [if_neg Bool.false_ne_true] at p1 ⊢
    exact k _ M1 H1 p1 m1 c1⟩
theorem tOr {t t' : L2.TT} {u u' : Ab.TT} (h : RT K E X t u) (h' : RT K E X t' u') : RT K E X (L2.tOr t t') (Ab.tOr u u') := ⟨fun F σ H s M Q P x rs m p k => h.run F σ H s M _ _ x rs m p fun b M1 H1 p1 m1 c1 => by
  cases b with
  | true =>
    rw [if_pos rfl] at p1 ⊢
    exact k _ M1 H1 p1 m1 c1
  | false =>
    rw [if_neg Bool.false_ne_true] at p1 ⊢
    exact h'.run F σ H1 s M1 _ _ (x.up c1) (rs.up c1) m1 p1 fun b M2 H2 p2 m2 c2 => k _ M2 H2 p2 m2 (c1.trans c2)⟩
theorem tAndV {ta tb : L2.TE} {ua ub : Ab.TE} (ha : RE K E X ta ua) (hb : RE K E X tb ub) : RE K E X (L2.tAndV ta tb) (Ab.tAndV ua ub) := ⟨fun F σ H s M Q P x rs m p k => ha.run F σ H s M _ _ x rs m p fun a M1 v H1 ⟨b, e, p1⟩ m1 rv c1 => by
  subst e
  refine ⟨b, RV.bl_iff.mp rv, ?_⟩
  cases b with
  | true =>
    rw [if_pos rfl] at p1 ⊢
    exact hb.run F σ H1 s M1 _ _ (x.up c1) (rs.up c1) m1 p1 fun b M2 y H2 p2 m2 ry c2 => k _ M2 y H2 p2 m2 ry (c1.trans c2)
  | false =>
    rw [if_neg Bool.false_ne_true] at p1 ⊢
    exact k _ M1 _ H1 p1 m1 (RV.bl_iff.mpr rfl) c1⟩
theorem tNotV {ta : L2.TE} {ua : Ab.TE} (ha : RE K E X ta ua) : RE K E X (L2.tNotV ta) (Ab.tNotV ua) := ⟨fun F σ H s M Q P x rs m p k => ha.run F σ H s M _ _ x rs m p fun a M1 v H1 ⟨b, e, p1⟩ m1 rv c1 => by
  subst e
  exact ⟨b, RV.bl_iff.mp rv, k _ M1 _ H1 p1 m1 (RV.bl_iff.mpr rfl) c1⟩⟩
theorem tIf {t : L2.TT} {u : Ab.TT} {ta tb : L2.TE} {ua ub : Ab.TE} (h : RT K E X t u) (ha : RE K E X ta ua) (hb : RE K E X tb ub) : RE K E X (L2.tIf t ta tb) (Ab.tIf u ua ub) := ⟨fun F σ H s M Q P x rs m p k => h.run F σ H s M _ _ x rs m p fun b M1 H1 p1 m1 c1 => by
  cases b with
  | true =>
    rw [if_pos rfl] at p1 ⊢
    exact ha.run F σ H1 s M1 _ _ (x.up c1) (rs.up c1) m1 p1 fun b M2 y H2 p2 m2 ry c2 => k _ M2 y H2 p2 m2 ry (c1.trans c2)
  | false =>
    rw [if_neg Bool.false_ne_true] at p1 ⊢
    exact hb.run F σ H1 s M1 _ _ (x.up c1) (rs.up c1) m1 p1 fun b M2 y H2 p2 m2 ry c2 => k _ M2 y H2 p2 m2 ry (c1.trans c2)⟩
theorem tChain {r r' : L2.R2} {q q' : Ab.R2} {ta tb tc : L2.TE} {ua ub uc : Ab.TE} (h : RO2 K r q) (h' : RO2 K r' q') (ha : RE K E X ta ua) (hb : RE K E X tb ub) (hc : RE K E X tc uc) : RE K E X (L2.tChain r r' ta tb tc) (Ab.tChain q q' ua ub uc) := ⟨fun F σ H s M Q P x rs m p k =>
  ha.run F σ H s M _ _ x rs m p fun a M1 v H1 p1 m1 rv c1 => hb.run F σ H1 s M1 _ _ (x.up c1) (rs.up c1) m1 p1 fun b M2 w H2 p2 m2 rw c2 =>
    h.run F H2 M2 v w a b _ _ (rv.up c2) rw m2 p2 fun c M3 z H3 ⟨e, e', p3⟩ m3 rz c3 => by
      subst e'
      have c13 := (c1.trans c2).trans c3
      refine ⟨e, RV.bl_iff.mp rz, ?_⟩
      cases e with
      | true =>
        rw [if_pos rfl] at p3 ⊢
        exact hc.run F σ H3 s M3 _ _ (x.up c13) (rs.up c13) m3 p3 fun d M4 y H4 p4 m4 ry c4 => h'.run F H4 M4 w y b d _ _ (rw.up (c3.trans c4)) ry m4 p4 fun d M5 y H5 p5 m5 ry c5 => k _ M5 y H5 p5 m5 ry (c13.trans (c4.trans c5))
      | false =>
        rw [if_neg Bool.false_ne_true] at p3 ⊢
        exact k _ M3 _ H3 p3 m3 (RV.bl_iff.mpr rfl) c13⟩
theorem tCall {sp : Sp} {asp : ASp} {t : L2.TA} {u : Ab.TA} (h : RSp K sp asp) (ha : RA K E X t u) : RE K E X (L2.tCall sp [] L2.E0 t) (Ab.tCall asp [] Ab.E0 u) := ⟨fun F σ H s M Q P x rs m p k =>
  ha.run F σ H s M _ _ x rs m p fun as M1 vs H1 p1 m1 rv c1 => by
    have e1 : vs ++ [] = vs := List.append_nil _
    have e2 : as ++ [] = as := List.append_nil _
    rw [e2] at p1
    rw [e1]
    exact h.run F vs as H1 M1 _ _ _ _ rv m1 p1 (fun a M2 z H2 p2 m2 rz c2 => k a M2 z H2 p2 m2 rz (c1.trans c2)) XOk.no⟩
theorem tPart {t : L2.TE} {u : Ab.TE} (h : RE K E X t u) : RP K E X (L2.tPart t) (Ab.tPart u) := ⟨fun F σ H s M Q P x rs m p k => h.run F σ H s M _ _ x rs m p fun a M1 v H1 ⟨i, e, p1⟩ m1 rv c1 => by
  subst e
  exact ⟨i, RV.int_iff.mp rv, k _ M1 H1 p1 m1 c1⟩⟩
theorem tNoPart : RP K E X L2.tNoPart Ab.tNoPart := ⟨fun F σ H s M Q P x rs m p k => k none M H p m (Tp.refl _)⟩
theorem tSl {r : V → Option Int → Option Int → Hp → VK → Prop} {q : A → Option Int → Option Int → AM → AK → Prop} {te : L2.TE} {ue : Ab.TE} {tl th : L2.TO} {ul uh : Ab.TO} (h : ROS K r q) (ha : RE K E X te ue) (hl : RP K E X tl ul) (hh : RP K E X th uh) : RE K E X (L2.tSl r te tl th) (Ab.tSl q ue ul uh) := ⟨fun F σ H s M Q P x rs m p k =>
  ha.run F σ H s M _ _ x rs m p fun a M1 v H1 p1 m1 rv c1 => hl.run F σ H1 s M1 _ _ (x.up c1) (rs.up c1) m1 p1 fun lo M2 H2 p2 m2 c2 =>
    hh.run F σ H2 s M2 _ _ (x.up (c1.trans c2)) (rs.up (c1.trans c2)) m2 p2 fun hi M3 H3 p3 m3 c3 => h.run F H3 M3 v a lo hi _ _ (rv.up (c2.trans c3)) m3 p3 fun c M4 z H4 p4 m4 rz c4 => k c M4 z H4 p4 m4 rz ((c1.trans c2).trans (c3.trans c4))⟩
theorem tTup {t : L2.TA} {u : Ab.TA} (h : RA K E X t u) : RE K E X (L2.tTup t) (Ab.tTup u) := ⟨fun F σ H s M Q P x rs m p k => h.run F σ H s M _ _ x rs m p fun as M1 vs H1 ⟨l, p1⟩ m1 rv c1 => ⟨by rw [rv.length]; exact l, fun p hp =>
  k _ M1 _ _ p1 (m1.new hp _) (RV.tup_iff.mpr ⟨p, vs, rfl, upd_same, rv.up (Tp.new hp _)⟩) (c1.trans (Tp.new hp _))⟩⟩
theorem newL {F H : Hp} {M : AM} {as : List A} {vs : List V} {P : AK} {Q : VK} (m : Rep K F H M) (rv : RL H as vs) (h : Ab.newL as M P) (k : ∀ a M' x H', P a M' → Rep K F H' M' → RV H' a x → Tp H H' → Q x H') : ∀ p, H p = none → Q (.ref p) (upd H p (.lst vs)) := fun p hp =>
  k _ _ _ _ (h p (m.no hp)) (m.newL hp rv) (RV.ref_iff.mpr rfl) (Tp.new hp _)
theorem tLst {t : L2.TA} {u : Ab.TA} (h : RA K E X t u) : RE K E X (L2.tLst t) (Ab.tLst u) := ⟨fun F σ H s M Q P x rs m p k => h.run F σ H s M _ _ x rs m p fun as M1 vs H1 ⟨l, p1⟩ m1 rv c1 => ⟨by rw [rv.length]; exact l,
  newL m1 rv p1 fun a M2 z H2 p2 m2 rz c2 => k a M2 z H2 p2 m2 rz (c1.trans c2)⟩⟩
theorem isT {T : String} {a : A} {v : V} {M : AM} {F H : Hp} (m : Rep K F H M) (rv : RV H a v) (h : Ab.isT T a M) : tyV K T v H := by
  rcases h with ⟨rfl, p, xs, rfl, hp⟩ | ⟨rfl, p, kvs, rfl, hp⟩ | ⟨rfl, z, rfl⟩
  · cases RV.ref_iff.mp rv
    obtain ⟨vs, hb, rl⟩ := m.at_ _ _ hp
    exact .inl ⟨rfl, vs, .inl (.inl hb)⟩
  · cases RV.ref_iff.mp rv
    obtain ⟨vs, hb, rl⟩ := m.at_ _ _ hp
    exact .inr (.inr (.inl ⟨rfl, .inl ⟨vs, hb⟩⟩))
  · cases RV.str_iff.mp rv
    exact rfl
theorem tBM {T : String} {r : V → List V → Hp → VK → Prop} {q : Ab.RM} {to : L2.TE} {uo : Ab.TE} {t : L2.TA} {u : Ab.TA} (h : ROM K r q) (ho : RE K E X to uo) (ha : RA K E X t u) : RE K E X (L2.tBM K T r to t) (Ab.tBM K T q uo u) := ⟨fun F σ H s M Q P x rs m p k =>
  ho.run F σ H s M _ _ x rs m p fun a M1 v H1 ⟨hT, p1⟩ m1 rv c1 => ⟨isT m1 rv hT, ha.run F σ H1 s M1 _ _ (x.up c1) (rs.up c1) m1 p1 fun as M2 ws H2 p2 m2 rw c2 =>
    h.run F H2 M2 v a ws as _ _ (rv.up c2) rw m2 p2 fun c M3 z H3 p3 m3 rz c3 => k c M3 z H3 p3 m3 rz ((c1.trans c2).trans c3)⟩⟩
theorem look {H : Hp} : ∀ {fs : List (Str × A)} {ys : List (Str × V)} {f : Str} {v : A}, RK H fs ys → valA fs f = some v → ∃ w, ys.lookup f = some w ∧ RV H v w
  | [], ys, f, v, h, e => by cases e
  | x :: xs, ys, f, v, h, e => by
    obtain ⟨⟨z1, z2⟩, zs, rfl, h1, h2, h3⟩ := h
    have h1 : x.1 = z1 := h1
    unfold valA at e
    rw [List.find?_cons] at e
    by_cases q : x.1 = f
    · simp only [q, decide_true, Option.map_some, Option.some.injEq] at e
      subst e
      refine ⟨z2, ?_, h2⟩
      rw [List.lookup_cons, ← h1, q]
      simp
    · simp only [q, decide_false] at e
      obtain ⟨w, h4, h5⟩ := look h3 e
      refine ⟨w, ?_, h5⟩
      rw [List.lookup_cons, ← h1]
      have : (f == x.1) = false := by simpa using fun z => q z.symm
      rw [this]
      exact h4
theorem lookN {H : Hp} : ∀ {fs : List (Str × A)} {ys : List (Str × V)} {f : Str}, RK H fs ys → valA fs f = none → ys.lookup f = none
  | [], ys, f, h, e => by rw [show ys = [] from h]; rfl
  | x :: xs, ys, f, h, e => by
    obtain ⟨⟨z1, z2⟩, zs, rfl, h1, h2, h3⟩ := h
    have h1 : x.1 = z1 := h1
    unfold valA at e
    rw [List.find?_cons] at e
    by_cases q : x.1 = f
    · simp only [q, decide_true, Option.map_some] at e
      cases e
    · simp only [q, decide_false] at e
      rw [List.lookup_cons, ← h1]
      have : (f == x.1) = false := by simpa using fun z => q z.symm
      rw [this]
      exact lookN h3 e
theorem tFld {ta : L2.TE} {ua : Ab.TE} {f : Str} (h : RE K E X ta ua) : RE K E X (L2.tFld K ta f) (Ab.tFld K ua f) := ⟨fun F σ H s M Q P x rs m p k =>
  h.run F σ H s M _ _ x rs m p fun a M1 v H1 ⟨l, C, fs, w, e, hl, hc, hn, hv, p1⟩ m1 rv c1 => by
    subst e
    cases RV.ref_iff.mp rv
    obtain ⟨dx, ys, h1, h2, h3⟩ := m1.at_ _ _ hl
    obtain ⟨w', h4, h5⟩ := look h3 hv
    exact ⟨l, C, dx, ys, w', rfl, h1, hc, hn, h4, k _ M1 _ H1 p1 m1 h5 c1⟩⟩
theorem tMeth {C : Addr} {mm : Str} {sp : Sp} {asp : ASp} {ta : L2.TE} {ua : Ab.TE} {t : L2.TA} {u : Ab.TA} (h : RSp K sp asp) (hs : RE K E X ta ua) (ha : RA K E X t u) : RE K E X (L2.tMeth C mm sp [] L2.E0 ta t) (Ab.tMeth C mm asp [] Ab.E0 ua u) := ⟨fun F σ H s M Q P x rs m p k =>
  hs.run F σ H s M _ _ x rs m p fun a M1 v H1 ⟨l, fs, e, hl, hn, p1⟩ m1 rv c1 => by
    subst e
    cases RV.ref_iff.mp rv
    obtain ⟨dx, ys, h1, h2, h3⟩ := m1.at_ _ _ hl
    refine ⟨l, dx, ys, rfl, h1, lookN h3 hn, ha.run F σ H1 s M1 _ _ (x.up c1) (rs.up c1) m1 p1 fun as M2 vs H2 p2 m2 rw c2 => ?_⟩
    have e1 : vs ++ [] = vs := List.append_nil _
    have e2 : as ++ [] = as := List.append_nil _
    rw [e2] at p2
    rw [e1]
    exact h.run F _ _ H2 M2 _ _ _ _ (RL.cons (RV.ref_iff.mpr rfl) rw) m2 p2 (fun a M2 z H2 p2 m2 rz c3 => k a M2 z H2 p2 m2 rz ((c1.trans c2).trans c3)) XOk.no⟩
theorem tMethX {C : Addr} {mm : Str} {sp : Sp} {asp : ASp} {ta : L2.TE} {ua : Ab.TE} {t : L2.TA} {u : Ab.TA} (h : RSp K sp asp) (hs : RE K E X ta ua) (ha : RA K E X t u) : RE K E X (L2.tMeth C mm sp [] E ta t) (Ab.tMeth C mm asp [] X ua u) := ⟨fun F σ H s M Q P x rs m p k =>
  hs.run F σ H s M _ _ x rs m p fun a M1 v H1 ⟨l, fs, e, hl, hn, p1⟩ m1 rv c1 => by
    subst e
    cases RV.ref_iff.mp rv
    obtain ⟨dx, ys, h1, h2, h3⟩ := m1.at_ _ _ hl
    refine ⟨l, dx, ys, rfl, h1, lookN h3 hn, ha.run F σ H1 s M1 _ _ (x.up c1) (rs.up c1) m1 p1 fun as M2 vs H2 p2 m2 rw c2 => ?_⟩
    have e1 : vs ++ [] = vs := List.append_nil _
    have e2 : as ++ [] = as := List.append_nil _
    rw [e2] at p2
    rw [e1]
    exact h.run F _ _ H2 M2 _ _ _ _ (RL.cons (RV.ref_iff.mpr rfl) rw) m2 p2 (fun a M2 z H2 p2 m2 rz c3 => k a M2 z H2 p2 m2 rz ((c1.trans c2).trans c3)) (x.up (c1.trans c2))⟩
theorem mk {F H : Hp} {M : AM} {x dx C : Addr} (m : Rep K F H M) (hx : H x = none) (hd : H dx = none) (n : dx ≠ x) : Rep K F (upd (upd H dx (.own x)) x (.ins C dx [])) (aupd M x (.ins C [])) ∧ Tp H (upd (upd H dx (.own x)) x (.ins C dx [])) := by
  have c1 := Tp.new hd (.own x)
  have m1 := m.new hd (.own x)
  have hx1 : upd H dx (.own x) x = none := by rw [upd_ne (fun z => n z.symm)]; exact hx
  have c2 := Tp.new hx1 (.ins C dx [])
  refine ⟨(m1.new hx1 _).tell (m1.free hx1) ⟨dx, [], upd_same, ?_, rfl⟩, c1.trans c2⟩
  rw [upd_ne n, upd_same]
theorem tMake {C : Addr} {sp : Sp} {asp : ASp} {t : L2.TA} {u : Ab.TA} (h : RSp K sp asp) (ha : RA K E X t u) : RE K E X (L2.tMake C sp [] L2.E0 t) (Ab.tMake C asp [] Ab.E0 u) := ⟨fun F σ H s M Q P x rs m p k =>
  ha.run F σ H s M _ _ x rs m p fun as M1 vs H1 p1 m1 rv c1 l dx hl hdx n => by
    have e1 : vs ++ [] = vs := List.append_nil _
    obtain ⟨m2, c2⟩ := mk (C := C) m1 hl hdx n
    have p2 := p1 l (m1.no hl)
    have e2 : as ++ [] = as := List.append_nil _
    rw [e2] at p2
    rw [e1]
    refine h.run F _ _ _ _ _ _ _ _ (RL.cons (RV.ref_iff.mpr rfl) (rv.up c2)) m2 p2 (fun a M3 z H3 ⟨e, p3⟩ m3 rz c3 => ?_) XOk.no
    subst e
    exact ⟨RV.non_iff.mp rz, k _ M3 _ H3 p3 m3 (RV.ref_iff.mpr rfl) ((c1.trans c2).trans c3)⟩⟩
theorem tDNewK : RE K E X L2.tDNewK Ab.tDNewK := ⟨fun F σ H s M Q P x rs m p k q hq => k _ _ _ _ (p q (m.no hq)) ((m.new hq _).tell (m.free hq) ⟨[], upd_same, rfl⟩) (RV.ref_iff.mpr rfl) (Tp.new hq _)⟩
theorem key {H : Hp} {y : A} {v : V} {k : Key} (h : RV H y v) (e : Ab.keyA y = some k) : v = kV k := by
  cases y <;> simp only [Ab.keyA, Option.some.injEq, reduceCtorEq] at e
  · subst e; exact RV.int_iff.mp h
  · subst e; exact RV.str_iff.mp h
theorem tDGet {td ty : L2.TE} {ud uy : Ab.TE} (hd : RE K E X td ud) (hy : RE K E X ty uy) : RE K E X (L2.tDGet td ty) (Ab.tDGet ud uy) := ⟨fun F σ H s M Q P x rs m p k =>
  hd.run F σ H s M _ _ x rs m p fun a M1 v H1 p1 m1 rv c1 => hy.run F σ H1 s M1 _ _ (x.up c1) (rs.up c1) m1 p1 fun b M2 w H2 ⟨l, kvs, kk, val, e, hl, hk, hv, p2⟩ m2 rw c2 => by
    subst e
    cases RV.ref_iff.mp rv
    obtain ⟨ys, h1, h2⟩ := m2.at_ _ _ hl
    rcases h2.val (k := kk) with ⟨a', v', e1, e2, r⟩ | ⟨e1, e2⟩
    · rw [hv] at e1
      cases e1
      refine ⟨l, v', rfl, .inl ⟨ys, kk, .inl h1, key rw hk, e2.symm⟩, k _ M2 _ H2 p2 m2 r (c1.trans c2)⟩
    · rw [hv] at e1; cases e1⟩
theorem tDIn {td ty : L2.TE} {ud uy : Ab.TE} (hy : RE K E X ty uy) (hd : RE K E X td ud) : RE K E X (L2.tDIn ty td) (Ab.tDIn uy ud) := ⟨fun F σ H s M Q P x rs m p k =>
  hy.run F σ H s M _ _ x rs m p fun a M1 v H1 p1 m1 rv c1 => hd.run F σ H1 s M1 _ _ (x.up c1) (rs.up c1) m1 p1 fun b M2 w H2 ⟨l, kvs, kk, e, hl, hk, p2⟩ m2 rw c2 => by
    subst e
    cases RV.ref_iff.mp rw
    obtain ⟨ys, h1, h2⟩ := m2.at_ _ _ hl
    refine ⟨l, valV ys kk, rfl, .inl ⟨ys, kk, .inl h1, key (rv.up c2) hk, rfl⟩, ?_⟩
    rcases h2.val (k := kk) with ⟨a', v', e1, e2, r⟩ | ⟨e1, e2⟩
    · rw [e1] at p2; rw [e2]; exact k _ M2 _ H2 p2 m2 (RV.bl_iff.mpr rfl) (c1.trans c2)
    · rw [e1] at p2; rw [e2]; exact k _ M2 _ H2 p2 m2 (RV.bl_iff.mpr rfl) (c1.trans c2)⟩
theorem tDNotIn {td ty : L2.TE} {ud uy : Ab.TE} (hy : RE K E X ty uy) (hd : RE K E X td ud) : RE K E X (L2.tDNotIn ty td) (Ab.tDNotIn uy ud) := ⟨fun F σ H s M Q P x rs m p k =>
  hy.run F σ H s M _ _ x rs m p fun a M1 v H1 p1 m1 rv c1 => hd.run F σ H1 s M1 _ _ (x.up c1) (rs.up c1) m1 p1 fun b M2 w H2 ⟨l, kvs, kk, e, hl, hk, p2⟩ m2 rw c2 => by
    subst e
    cases RV.ref_iff.mp rw
    obtain ⟨ys, h1, h2⟩ := m2.at_ _ _ hl
    refine ⟨l, valV ys kk, rfl, .inl ⟨ys, kk, .inl h1, key (rv.up c2) hk, rfl⟩, ?_⟩
    rcases h2.val (k := kk) with ⟨a', v', e1, e2, r⟩ | ⟨e1, e2⟩
    · rw [e1] at p2; rw [e2]; exact k _ M2 _ H2 p2 m2 (RV.bl_iff.mpr rfl) (c1.trans c2)
    · rw [e1] at p2; rw [e2]; exact k _ M2 _ H2 p2 m2 (RV.bl_iff.mpr rfl) (c1.trans c2)⟩
theorem tDGet2 {td ty tx : L2.TE} {ud uy ux : Ab.TE} (hd : RE K E X td ud) (hy : RE K E X ty uy) (hx : RE K E X tx ux) : RE K E X (L2.tDGet2 td ty tx) (Ab.tDGet2 ud uy ux) := ⟨fun F σ H s M Q P x rs m p k =>
  hd.run F σ H s M _ _ x rs m p fun a M1 v H1 ⟨l, kvs0, e, hl0, p1⟩ m1 rv c1 => by
    subst e
    cases RV.ref_iff.mp rv
    obtain ⟨ys0, h0, _⟩ := m1.at_ _ _ hl0
    refine ⟨l, rfl, isD_of h0, hy.run F σ H1 s M1 _ _ (x.up c1) (rs.up c1) m1 p1 fun b M2 w H2 p2 m2 rw c2 => hx.run F σ H2 s M2 _ _ (x.up (c1.trans c2)) (rs.up (c1.trans c2)) m2 p2 fun d M3 z H3 ⟨kvs, kk, hl, hk, p3⟩ m3 rz c3 => ?_⟩
    obtain ⟨ys, h1, h2⟩ := m3.at_ _ _ hl
    refine ⟨valV ys kk, .inl ⟨ys, kk, .inl h1, key (rw.up c3) hk, rfl⟩, ?_⟩
    rcases h2.val (k := kk) with ⟨a', v', e1, e2, r⟩ | ⟨e1, e2⟩
    · rw [e1] at p3; rw [e2]; exact k _ M3 _ H3 p3 m3 r ((c1.trans c2).trans c3)
    · rw [e1] at p3; rw [e2]; exact k _ M3 _ H3 p3 m3 rz ((c1.trans c2).trans c3)⟩
theorem sDPut {td ty tv : L2.TE} {ud uy uv : Ab.TE} (hd : RE K E X td ud) (hy : RE K E X ty uy) (hv : RE K E X tv uv) : RSt K E X (L2.sDPut td ty tv) (Ab.sDPut ud uy uv) := ⟨fun F σ H s M D B x rs m p k =>
  hv.run F σ H s M _ _ x rs m p fun a M1 v H1 p1 m1 rv c1 => hd.run F σ H1 s M1 _ _ (x.up c1) (rs.up c1) m1 p1 fun b M2 w H2 p2 m2 rw c2 => hy.run F σ H2 s M2 _ _ (x.up (c1.trans c2)) (rs.up (c1.trans c2)) m2 p2 fun d M3 z H3 ⟨l, kvs, kk, e, hl, hk, hz, p3⟩ m3 rz c3 => by
    subst e
    cases RV.ref_iff.mp (rw.up c3)
    obtain ⟨ys, h1, h2⟩ := m3.at_ _ _ hl
    have hc : Tp H3 (upd H3 l (.dK (putK ys kk v))) := Tp.set h1 (fun _ z => nomatch z) _
    refine ⟨l, _, rfl, .inl ⟨ys, kk, h1, key rz hk, by rw [h2.length]; exact hz, rfl⟩, k.nx _ _ _ _ p3 (rs.up (((c1.trans c2).trans c3).trans hc)) ?_ (((c1.trans c2).trans c3).trans hc)⟩
    exact m3.set hl h1 (fun _ z => nomatch z) (fun _ z => nomatch z) _ ⟨_, upd_same, (RK.put ((rv.up (c2.trans c3))) h2).up hc⟩⟩
end
end Rf
end My

namespace My
open PySem PySem.Spec PyProof.Rows L2
set_option autoImplicit false
namespace Rf
section
variable {K : PySem.W.Frag} {E : XK} {X : AX}
theorem rI {C : Int → Int → Prop} {g : Int → Int → V} {g' : Int → Int → A} (h : ∀ i j H, RV H (g' i j) (g i j)) : RO2 K (L2.rI C g) (Ab.rI C g') := ⟨fun F H M x y a b Q P ra rb m ⟨i, j, e1, e2, c, p⟩ k => by
  subst e1 e2
  exact ⟨i, j, RV.int_iff.mp ra, RV.int_iff.mp rb, c, k _ M _ H p m (h i j H) (Tp.refl _)⟩⟩
theorem rI0 {g : Int → Int → V} {g' : Int → Int → A} (h : ∀ i j H, RV H (g' i j) (g i j)) : RO2 K (L2.rI0 g) (Ab.rI0 g') := ⟨fun F H M x y a b Q P ra rb m ⟨i, j, e1, e2, p⟩ k => by
  subst e1 e2
  exact ⟨i, j, RV.int_iff.mp ra, RV.int_iff.mp rb, k _ M _ H p m (h i j H) (Tp.refl _)⟩⟩
theorem rU {g : Int → V} {g' : Int → A} (h : ∀ i H, RV H (g' i) (g i)) : RO1 K (L2.rU g) (Ab.rU g') := ⟨fun F H M x a Q P ra m ⟨i, e1, p⟩ k => by
  subst e1
  exact ⟨i, RV.int_iff.mp ra, k _ M _ H p m (h i H) (Tp.refl _)⟩⟩
theorem ipI {g : Int → Int → Int} : RO2 K (L2.ipI g) (Ab.ipI g) := ⟨fun F H M x y a b Q P ra rb m ⟨i, j, e1, e2, p⟩ k => by
  subst e1 e2
  exact ⟨i, j, RV.int_iff.mp ra, RV.int_iff.mp rb, k _ M _ H p m (RV.int_iff.mpr rfl) (Tp.refl _)⟩⟩
theorem rAddS_ : RO2 K My.rAddS_ Ab.rAddS_ := ⟨fun F H M x y a b Q P ra rb m ⟨i, j, e1, e2, c, p⟩ k => by
  subst e1 e2
  exact ⟨i, j, RV.str_iff.mp ra, RV.str_iff.mp rb, c, k _ M _ H p m (RV.str_iff.mpr rfl) (Tp.refl _)⟩⟩
theorem rNotInS_ : RO2 K My.rNotInS_ Ab.rNotInS_ := ⟨fun F H M x y a b Q P ra rb m ⟨i, j, e1, e2, p⟩ k => by
  subst e1 e2
  exact ⟨i, j, RV.str_iff.mp ra, RV.str_iff.mp rb, k _ M _ H p m (RV.bl_iff.mpr rfl) (Tp.refl _)⟩⟩
theorem eqA {H : Hp} {x y : V} {a b : A} {c : Bool} (ra : RV H a x) (rb : RV H b y) (e : Ab.eqA a b = some c) : scal x y = true ∧ decide (x = y) = c := by
  cases a <;> cases b <;> simp only [Ab.eqA, Option.some.injEq, reduceCtorEq] at e
  · cases RV.bl_iff.mp ra; cases RV.bl_iff.mp rb; exact ⟨rfl, by rw [← e]; simp⟩
  · cases RV.int_iff.mp ra; cases RV.int_iff.mp rb; exact ⟨rfl, by rw [← e]; simp⟩
  · cases RV.str_iff.mp ra; cases RV.str_iff.mp rb; exact ⟨rfl, by rw [← e]; simp⟩
theorem rEq : RO2 K L2.rEq Ab.rEq := ⟨fun F H M x y a b Q P ra rb m ⟨c, e, p⟩ k => by
  obtain ⟨h1, h2⟩ := eqA ra rb e
  exact ⟨h1, by rw [h2]; exact k _ M _ H p m (RV.bl_iff.mpr rfl) (Tp.refl _)⟩⟩
theorem rNe : RO2 K L2.rNe Ab.rNe := ⟨fun F H M x y a b Q P ra rb m ⟨c, e, p⟩ k => by
  obtain ⟨h1, h2⟩ := eqA ra rb e
  exact ⟨h1, by rw [h2]; exact k _ M _ H p m (RV.bl_iff.mpr rfl) (Tp.refl _)⟩⟩
theorem non_ne {H : Hp} {x : V} {a : A} (ra : RV H a x) (h : a ≠ .non) : x ≠ .non := by
  intro e
  subst e
  cases a with
  | non => exact h rfl
  | tup as => obtain ⟨b, vs, e, _⟩ := RV.tup_iff.mp ra; cases e
  | _ => simp only [RV] at ra; cases ra
theorem rNotN_ : RO2 K My.rNotN_ Ab.rNotN_ := ⟨fun F H M x y a b Q P ra rb m ⟨e, p⟩ k => by
  subst e
  refine ⟨RV.non_iff.mp rb, ?_⟩
  rcases p with ⟨rfl, p⟩ | ⟨n, p⟩
  · cases RV.non_iff.mp ra
    exact k _ M _ H p m (RV.bl_iff.mpr rfl) (Tp.refl _)
  · exact k _ M _ H p m (RV.bl_iff.mpr (by simp [non_ne ra n])) (Tp.refl _)⟩
theorem items {F H : Hp} {M : AM} {a : A} {x : V} {xs : List A} (m : Rep K F H M) (ra : RV H a x) (h : Ab.itemsA a M xs) : ∃ p vs, x = .ref p ∧ (SqL K H p vs ∨ SqT K H p vs) ∧ RL H xs vs ∧ ((∃ q, a = .ref q) → H p = some (.lst vs)) ∧ ((∃ as, a = .tup as) → H p = some (.tup vs)) := by
  rcases h with rfl | ⟨p, rfl, hp⟩
  · obtain ⟨p, vs, rfl, h1, h2⟩ := RV.tup_iff.mp ra
    exact ⟨p, vs, rfl, .inr (.inl (.inl h1)), h2, (fun ⟨_, z⟩ => nomatch z), fun _ => h1⟩
  · cases RV.ref_iff.mp ra
    obtain ⟨vs, h1, h2⟩ := m.at_ _ _ hp
    exact ⟨p, vs, rfl, .inl (.inl (.inl h1)), h2, (fun _ => h1), fun ⟨_, z⟩ => nomatch z⟩
theorem in_int {i : Int} (is : List Int) : inV (.int i) (is.map V.int) = decide (i ∈ is) := by
  induction is with
  | nil => rfl
  | cons j is ih =>
    have : inV (.int i) ((j :: is).map V.int) = (eqV (.int j) (.int i) || inV (.int i) (is.map V.int)) := rfl
    rw [this, ih]
    by_cases e : j = i
    · subst e; simp [eqV]
    · have e2 : ¬ i = j := fun z => e z.symm
      have : eqV (.int j) (.int i) = false := by simp [eqV, e]
      rw [this]
      simp [e2]
theorem in_str {i : Str} (is : List Str) : inV (.str i) (is.map V.str) = decide (i ∈ is) := by
  induction is with
  | nil => rfl
  | cons j is ih =>
    have : inV (.str i) ((j :: is).map V.str) = (eqV (.str j) (.str i) || inV (.str i) (is.map V.str)) := rfl
    rw [this, ih]
    by_cases e : j = i
    · subst e; simp [eqV]
    · have e2 : ¬ i = j := fun z => e z.symm
      have : eqV (.str j) (.str i) = false := by simp [eqV, e]
      rw [this]
      simp [e2]
theorem flat_ints (is : List Int) : (is.map V.int).all flatV = true := by simp [List.all_map, flatV]
theorem flat_strs (is : List Str) : (is.map V.str).all flatV = true := by simp [List.all_map, flatV]
theorem rIn {neg : Bool} : RO2 K (L2.rIn K neg) (Ab.rIn K neg) := ⟨fun F H M x y a b Q P ra rb m p k => by
  rcases p with ⟨i, is, rfl, hi, p⟩ | ⟨i, is, rfl, hi, p⟩
  · cases RV.int_iff.mp ra
    obtain ⟨q, vs, rfl, h1, h2, _⟩ := items m rb hi
    cases RL.ints_inv h2
    exact ⟨q, _, rfl, h1, rfl, flat_ints is, by rw [in_int]; exact k _ M _ H p m (RV.bl_iff.mpr rfl) (Tp.refl _)⟩
  · cases RV.str_iff.mp ra
    obtain ⟨q, vs, rfl, h1, h2, _⟩ := items m rb hi
    cases RL.strs_inv h2
    exact ⟨q, _, rfl, h1, rfl, flat_strs is, by rw [in_str]; exact k _ M _ H p m (RV.bl_iff.mpr rfl) (Tp.refl _)⟩⟩
theorem atI {H : Hp} {as : List A} {vs : List V} {i : Int} {a : A} (r : RL H as vs) (h : L2.atI as i = some a) : ∃ v, L2.atI vs i = some v ∧ RV H a v := by
  unfold L2.atI at h ⊢
  rw [r.length]
  cases q : ixN as.length i with
  | none => rw [q] at h; cases h
  | some j => rw [q] at h; exact r.get' h
theorem rIxL : RO2 K (L2.rIxL K) (Ab.rIxL K) := ⟨fun F H M x y a b Q P ra rb m ⟨l, xs, i, v, e1, e2, hl, hi, p⟩ k => by
  subst e1 e2
  cases RV.ref_iff.mp ra
  cases RV.int_iff.mp rb
  obtain ⟨vs, h1, h2⟩ := m.at_ _ _ hl
  obtain ⟨w, h3, h4⟩ := atI h2 hi
  exact ⟨l, vs, i, w, rfl, rfl, .inl (.inl h1), h3, k _ M _ H p m h4 (Tp.refl _)⟩⟩
theorem rIxT : RO2 K (L2.rIxT K) (Ab.rIxT K) := ⟨fun F H M x y a b Q P ra rb m ⟨xs, i, v, e1, e2, hi, p⟩ k => by
  subst e1 e2
  obtain ⟨l, vs, rfl, h1, h2⟩ := RV.tup_iff.mp ra
  cases RV.int_iff.mp rb
  obtain ⟨w, h3, h4⟩ := atI h2 hi
  exact ⟨l, vs, i, w, rfl, rfl, .inl (.inl h1), h3, k _ M _ H p m h4 (Tp.refl _)⟩⟩
theorem rIxS : RO2 K L2.rIxS Ab.rIxS := ⟨fun F H M x y a b Q P ra rb m ⟨z, i, c, e1, e2, hz, hi, p⟩ k => by
  subst e1 e2
  cases RV.str_iff.mp ra
  cases RV.int_iff.mp rb
  exact ⟨z, i, c, rfl, rfl, hz, hi, k _ M _ H p m (RV.str_iff.mpr rfl) (Tp.refl _)⟩⟩
theorem cut {H : Hp} {as : List A} {vs : List V} (lo hi : Option Int) (r : RL H as vs) : RL H (Ab.cutA as lo hi) (cutV vs lo hi) := by
  unfold Ab.cutA cutV
  rw [r.length]
  exact (r.drop _).take _
theorem rSlL : ROS K (L2.rSlL K) (Ab.rSlL K) := ⟨fun F H M x a lo hi Q P ra m ⟨l, xs, e1, hl, p⟩ k => by
  subst e1
  cases RV.ref_iff.mp ra
  obtain ⟨vs, h1, h2⟩ := m.at_ _ _ hl
  exact ⟨l, vs, rfl, .inl (.inl h1), newL m (cut lo hi h2) p k⟩⟩
theorem newT {F H : Hp} {M : AM} {as : List A} {vs : List V} {P : AK} {Q : VK} (m : Rep K F H M) (rv : RL H as vs) (h : P (.tup as) M) (k : ∀ a M' x H', P a M' → Rep K F H' M' → RV H' a x → Tp H H' → Q x H') : ∀ p, H p = none → Q (.ref p) (upd H p (.tup vs)) := fun p hp =>
  k _ M _ _ h (m.new hp _) (RV.tup_iff.mpr ⟨p, vs, rfl, upd_same, rv.up (Tp.new hp _)⟩) (Tp.new hp _)
theorem rSlA : ROS K (L2.rSlA K) (Ab.rSlA K) := ⟨fun F H M x a lo hi Q P ra m ⟨xs, e1, p⟩ k => by
  subst e1
  obtain ⟨l, vs, rfl, h1, h2⟩ := RV.tup_iff.mp ra
  refine ⟨l, vs, rfl, .inl (.inl h1), fun ⟨w1, w2⟩ => ?_, fun _ => newT m (cut lo hi h2) p k⟩
  have : Ab.cutA xs lo hi = xs := by
    unfold Ab.cutA
    rw [h2.length] at w1 w2
    rw [w1, w2]
    simp
  rw [this] at p
  exact k _ M _ H p m ra (Tp.refl _)⟩
theorem rSlT : ROS K (L2.rSlT K) (Ab.rSlT K) := ⟨fun F H M x a lo hi Q P ra m ⟨xs, e1, e2, e3, ne, p⟩ k => by
  subst e1 e2 e3
  obtain ⟨l, vs, rfl, h1, h2⟩ := RV.tup_iff.mp ra
  have hs : HT.sIx vs.length 0 (some 1) = min 1 vs.length := HT.sIx_nat _ _ 1
  have hl := h2.length
  have hv : 1 ≤ vs.length := by
    cases xs with
    | nil => exact absurd rfl ne
    | cons _ _ => rw [hl]; simp
  refine ⟨l, vs, rfl, .inl (.inl h1), ?_, ?_⟩
  · rintro ⟨z, _⟩
    rw [hs] at z
    omega
  · have hc : cutV vs (some 1) none = vs.drop 1 := by
      unfold cutV
      rw [hs, HT.sIx_none]
      have : min 1 vs.length = 1 := by omega
      rw [this]
      exact List.take_of_length_le (by simp)
    rw [hc]
    exact newT m (h2.drop 1) p k⟩
theorem rSlS : ROS K L2.rSlS Ab.rSlS := ⟨fun F H M x a lo hi Q P ra m ⟨z, e1, hz, p⟩ k => by
  subst e1
  exact ⟨z, RV.str_iff.mp ra, hz, k _ M _ H p m (RV.str_iff.mpr rfl) (Tp.refl _)⟩⟩
theorem rCat : RO2 K L2.rCat Ab.rCat := ⟨fun F H M x y a b Q P ra rb m ⟨l, q, xs, ys, e1, e2, hl, hq, hz, p⟩ k => by
  subst e1 e2
  cases RV.ref_iff.mp ra
  cases RV.ref_iff.mp rb
  obtain ⟨vs, h1, h2⟩ := m.at_ _ _ hl
  obtain ⟨ws, h3, h4⟩ := m.at_ _ _ hq
  exact ⟨l, q, vs, ws, rfl, rfl, h1, h3, by rw [h2.length, h4.length]; exact hz, newL m (h2.append h4) p k⟩⟩
theorem rCatA : RO2 K (L2.rCatA K) (Ab.rCatA K) := ⟨fun F H M x y a b Q P ra rb m ⟨xs, ys, e1, e2, hz, p⟩ k => by
  subst e1 e2
  obtain ⟨l, vs, rfl, h1, h2⟩ := RV.tup_iff.mp ra
  obtain ⟨q, ws, rfl, h3, h4⟩ := RV.tup_iff.mp rb
  refine ⟨l, q, vs, ws, rfl, rfl, .inl (.inl h1), .inl (.inl h3), by rw [h2.length, h4.length]; exact hz, fun e => ?_, fun _ e => ?_, fun _ _ => newT m (h2.append h4) p k⟩
  · subst e
    have : xs = [] := List.eq_nil_of_length_eq_zero (by rw [← h2.length]; rfl)
    subst this
    exact k _ M _ H p m rb (Tp.refl _)
  · subst e
    have : ys = [] := List.eq_nil_of_length_eq_zero (by rw [← h4.length]; rfl)
    subst this
    rw [List.append_nil] at p
    exact k _ M _ H p m ra (Tp.refl _)⟩
theorem setL {F H : Hp} {M : AM} {l : Addr} {as as' : List A} {vs vs' : List V} (m : Rep K F H M) (hl : M l = some (.lst as)) (h1 : H l = some (.lst vs)) (r : RL H as' vs') : Rep K F (upd H l (.lst vs')) (aupd M l (.lst as')) ∧ Tp H (upd H l (.lst vs')) := by
  have c : Tp H (upd H l (.lst vs')) := Tp.set h1 (fun _ z => nomatch z) _
  exact ⟨m.set hl h1 (fun _ z => nomatch z) (fun _ z => nomatch z) _ ⟨vs', upd_same, r.up c⟩, c⟩
theorem rExt2 : RO2 K L2.rExt2 Ab.rExt2 := ⟨fun F H M x y a b Q P ra rb m ⟨l, q, xs, ys, e1, e2, hl, hq, hz, p⟩ k => by
  subst e1 e2
  cases RV.ref_iff.mp ra
  cases RV.ref_iff.mp rb
  obtain ⟨vs, h1, h2⟩ := m.at_ _ _ hl
  obtain ⟨ws, h3, h4⟩ := m.at_ _ _ hq
  obtain ⟨m2, c2⟩ := setL m hl h1 (h2.append h4)
  exact ⟨l, q, vs, ws, rfl, rfl, h1, h3, by rw [h2.length, h4.length]; exact hz, k _ _ _ _ p m2 (RV.ref_iff.mpr rfl) c2⟩⟩
theorem one {H : Hp} {a : A} {xs : List V} (r : RL H [a] xs) : ∃ v, xs = [v] ∧ RV H a v := by
  obtain ⟨v, vs, rfl, h1, h2⟩ := RL.cons_iff.mp r
  cases RL.nil_iff.mp h2
  exact ⟨v, rfl, h1⟩
theorem two {H : Hp} {a b : A} {xs : List V} (r : RL H [a, b] xs) : ∃ v w, xs = [v, w] ∧ RV H a v ∧ RV H b w := by
  obtain ⟨v, vs, rfl, h1, h2⟩ := RL.cons_iff.mp r
  obtain ⟨w, rfl, h3⟩ := one h2
  exact ⟨v, w, rfl, h1, h3⟩
theorem rLenSeq : ROB K (My.rLenSeq K) (Ab.rLenSeq K) := ⟨fun F H M xs as Q P r m ⟨x, ys, e, hi, p⟩ k => by
  subst e
  obtain ⟨v, rfl, rv⟩ := one r
  obtain ⟨q, vs, rfl, h1, h2, _⟩ := items m rv hi
  exact ⟨q, vs, rfl, h1, by rw [h2.length]; exact k _ M _ H p m (RV.int_iff.mpr rfl) (Tp.refl _)⟩⟩
theorem rLenStr : ROB K My.rLenStr Ab.rLenStr := ⟨fun F H M xs as Q P r m ⟨z, e, hz, p⟩ k => by
  subst e
  obtain ⟨v, rfl, rv⟩ := one r
  cases RV.str_iff.mp rv
  exact ⟨z, rfl, hz, k _ M _ H p m (RV.int_iff.mpr rfl) (Tp.refl _)⟩⟩
theorem rInt1 : ROB K My.rInt1 Ab.rInt1 := ⟨fun F H M xs as Q P r m p k => by
  rcases p with ⟨i, rfl, p⟩ | ⟨i, rfl, p⟩
  · obtain ⟨v, rfl, rv⟩ := one r
    cases RV.int_iff.mp rv
    exact .inl ⟨i, rfl, k _ M _ H p m (RV.int_iff.mpr rfl) (Tp.refl _)⟩
  · obtain ⟨v, rfl, rv⟩ := one r
    cases RV.bl_iff.mp rv
    exact .inr ⟨i, rfl, k _ M _ H p m (RV.int_iff.mpr rfl) (Tp.refl _)⟩⟩
theorem rAbs : ROB K My.rAbs Ab.rAbs := ⟨fun F H M xs as Q P r m ⟨i, e, p⟩ k => by
  subst e
  obtain ⟨v, rfl, rv⟩ := one r
  cases RV.int_iff.mp rv
  exact ⟨i, rfl, k _ M _ H p m (RV.int_iff.mpr rfl) (Tp.refl _)⟩⟩
theorem rSum : ROB K (L2.rSum K) (Ab.rSum K) := ⟨fun F H M xs as Q P r m ⟨x, ns, e, ⟨l, e2, hl⟩, p⟩ k => by
  subst e e2
  obtain ⟨v, rfl, rv⟩ := one r
  cases RV.ref_iff.mp rv
  obtain ⟨vs, h1, h2⟩ := m.at_ _ _ hl
  cases RL.ints_inv h2
  exact ⟨l, ns, rfl, .inl (.inl h1), k _ M _ H p m (RV.int_iff.mpr rfl) (Tp.refl _)⟩⟩
theorem rAll : ROB K (L2.rAll K) (Ab.rAll K) := ⟨fun F H M xs as Q P r m ⟨x, ns, e, ⟨l, e2, hl⟩, p⟩ k => by
  subst e e2
  obtain ⟨v, rfl, rv⟩ := one r
  cases RV.ref_iff.mp rv
  obtain ⟨vs, h1, h2⟩ := m.at_ _ _ hl
  cases RL.bools_inv h2
  exact ⟨l, ns, rfl, .inl (.inl h1), k _ M _ H p m (RV.bl_iff.mpr rfl) (Tp.refl _)⟩⟩
theorem rTupleOf : ROB K (My.rTupleOf K) (Ab.rTupleOf K) := ⟨fun F H M xs as Q P r m ⟨x, ys, e, hi, p⟩ k => by
  subst e
  obtain ⟨v, rfl, rv⟩ := one r
  rcases hi with rfl | ⟨q, rfl, hq⟩
  · obtain ⟨l, vs, rfl, h1, h2⟩ := RV.tup_iff.mp rv
    exact ⟨l, vs, rfl, .inr ⟨.inl (.inl h1), k _ M _ H p m rv (Tp.refl _)⟩⟩
  · cases RV.ref_iff.mp rv
    obtain ⟨vs, h1, h2⟩ := m.at_ _ _ hq
    exact ⟨q, vs, rfl, .inl ⟨.inl (.inl h1), newT m h2 p k⟩⟩⟩
theorem rListOf : ROB K (My.rListOf K) (Ab.rListOf K) := ⟨fun F H M xs as Q P r m ⟨x, ys, e, hi, p⟩ k => by
  subst e
  obtain ⟨v, rfl, rv⟩ := one r
  obtain ⟨q, vs, rfl, h1, h2, _⟩ := items m rv hi
  exact ⟨q, vs, rfl, h1, newL m h2 p k⟩⟩
theorem kit (a b : String) (c : Bool) (h : PySem.W.kitOne K (.type a) (.type b) = some c) {F H : Hp} {M : AM} {x : A} {v : V} {Q : VK} {P : AK} (m : Rep K F H M) (ty : TyOf K H v (.type a)) (hc : P (.bl c) M) (k : ∀ c M' z H', P c M' → Rep K F H' M' → RV H' c z → Tp H H' → Q z H') : L2.rIsi K [v, .ty b] H Q :=
  ⟨v, _, _, _, c, rfl, .ty b, .base ty, h, k _ M _ H hc m (RV.bl_iff.mpr rfl) (Tp.refl _)⟩
theorem rIsi : ROB K (L2.rIsi K) (Ab.rIsi K) := ⟨fun F H M xs as Q P r m p k => by
  rcases p with ⟨x, t, b, rfl, e, p⟩ | ⟨l, ys, rfl, hl, p⟩
  · obtain ⟨v, w, rfl, rv, rw⟩ := two r
    cases RV.ty_iff.mp rw
    unfold Ab.isiA at e
    split at e <;> simp only [Option.some.injEq, reduceCtorEq] at e <;> subst e
    · cases RV.int_iff.mp rv; exact kit (x := .non) "int" "int" _ (kit_ty (by decide +kernel)) m (.int _) p k
    · cases RV.int_iff.mp rv; exact kit (x := .non) "int" "bool" _ (kit_ty (by decide +kernel)) m (.int _) p k
    · cases RV.int_iff.mp rv; exact kit (x := .non) "int" "str" _ (kit_ty (by decide +kernel)) m (.int _) p k
    · cases RV.int_iff.mp rv; exact kit (x := .non) "int" "tuple" _ (kit_ty (by decide +kernel)) m (.int _) p k
    · obtain ⟨l, vs, rfl, h1, h2⟩ := RV.tup_iff.mp rv; exact kit (x := .non) "tuple" "int" _ (kit_ty (by decide +kernel)) m (.tup h1) p k
    · obtain ⟨l, vs, rfl, h1, h2⟩ := RV.tup_iff.mp rv; exact kit (x := .non) "tuple" "tuple" _ (kit_ty (by decide +kernel)) m (.tup h1) p k
    · obtain ⟨l, vs, rfl, h1, h2⟩ := RV.tup_iff.mp rv; exact kit (x := .non) "tuple" "str" _ (kit_ty (by decide +kernel)) m (.tup h1) p k
    · cases RV.str_iff.mp rv; exact kit (x := .non) "str" "int" _ (kit_ty (by decide +kernel)) m (.str _) p k
    · cases RV.str_iff.mp rv; exact kit (x := .non) "str" "str" _ (kit_ty (by decide +kernel)) m (.str _) p k
    · cases RV.str_iff.mp rv; exact kit (x := .non) "str" "tuple" _ (kit_ty (by decide +kernel)) m (.str _) p k
    · cases RV.bl_iff.mp rv; exact kit (x := .non) "bool" "bool" _ (kit_ty (by decide +kernel)) m (.bl _) p k
    · cases RV.non_iff.mp rv; exact kit (x := .non) "NoneType" "int" _ (kit_ty (by decide +kernel)) m .non p k
    · cases RV.non_iff.mp rv; exact kit (x := .non) "NoneType" "tuple" _ (kit_ty (by decide +kernel)) m .non p k
  · obtain ⟨v, w, rfl, rv, rw⟩ := two r
    cases RV.ty_iff.mp rw
    cases RV.ref_iff.mp rv
    obtain ⟨vs, h1, h2⟩ := m.at_ _ _ hl
    exact kit (x := .non) "list" "list" _ (kit_ty (by decide +kernel)) m (.lst h1) p k⟩
theorem rAppend : ROM K L2.rAppend Ab.rAppend := ⟨fun F H M x a xs as Q P ra r m ⟨l, zs, y, e1, e2, hl, hz, p⟩ k => by
  subst e1 e2
  cases RV.ref_iff.mp ra
  obtain ⟨v, rfl, rv⟩ := one r
  obtain ⟨vs, h1, h2⟩ := m.at_ _ _ hl
  obtain ⟨m2, c2⟩ := setL m hl h1 (h2.append (RL.one rv))
  exact ⟨l, vs, v, rfl, rfl, h1, by rw [h2.length]; exact hz, k _ _ _ _ p m2 (RV.non_iff.mpr rfl) c2⟩⟩
theorem rInsert : ROM K My.rInsert Ab.rInsert := ⟨fun F H M x a xs as Q P ra r m ⟨l, zs, i, y, e1, e2, hl, hz, h0, hi, p⟩ k => by
  subst e1 e2
  cases RV.ref_iff.mp ra
  obtain ⟨w, v, rfl, rw, rv⟩ := two r
  cases RV.int_iff.mp rw
  obtain ⟨vs, h1, h2⟩ := m.at_ _ _ hl
  obtain ⟨m2, c2⟩ := setL m hl h1 (((h2.take i.toNat).append (RL.one rv)).append (h2.drop i.toNat))
  exact ⟨l, vs, i, v, rfl, rfl, h1, by rw [h2.length]; exact hz, h0, hi, k _ _ _ _ p m2 (RV.non_iff.mpr rfl) c2⟩⟩
theorem rPopAt : ROM K L2.rPopAt Ab.rPopAt := ⟨fun F H M x a xs as Q P ra r m ⟨l, zs, i, j, y, e1, e2, hl, h0, hi, hj, hy, p⟩ k => by
  subst e1 e2
  cases RV.ref_iff.mp ra
  obtain ⟨w, rfl, rw⟩ := one r
  cases RV.int_iff.mp rw
  obtain ⟨vs, h1, h2⟩ := m.at_ _ _ hl
  obtain ⟨v, h3, h4⟩ := h2.get' hy
  obtain ⟨m2, c2⟩ := setL m hl h1 (h2.eraseIdx j)
  exact ⟨l, vs, i, j, v, rfl, rfl, h1, h0, hi, by rw [h2.length]; exact hj, h3, k _ _ _ _ p m2 (h4.up c2) c2⟩⟩
theorem gName {i : Nat} : RG K E X (L2.gName i) (Ab.gName i) := ⟨fun F σ H s M v a Q P x rv rs m p k => k _ M _ H p (rs.set rv) m (Tp.refl _)⟩
theorem gNil : RGs K E X L2.gNil Ab.gNil := ⟨fun F σ H s M vs as Q P x rv rs m ⟨e, p⟩ k => by
  subst e
  exact ⟨RL.nil_iff.mp rv, k _ M _ H p rs m (Tp.refl _)⟩⟩
theorem gCons {t : L2.TG} {u : Ab.TG} {ts : L2.TGs} {us : Ab.TGs} (h : RG K E X t u) (h' : RGs K E X ts us) : RGs K E X (L2.gCons t ts) (Ab.gCons u us) := ⟨fun F σ H s M vs as Q P x rv rs m ⟨a, r, e, p⟩ k => by
  subst e
  obtain ⟨v, ws, rfl, h1, h2⟩ := RL.cons_iff.mp rv
  exact ⟨v, ws, rfl, h.run F σ H s M _ _ _ _ x h1 rs m p fun s1 M1 σ1 H1 p1 rs1 m1 c1 => h'.run F σ1 H1 s1 M1 _ _ _ _ (x.up c1) (h2.up c1) rs1 m1 p1 fun s2 M2 σ2 H2 p2 rs2 m2 c2 => k s2 M2 σ2 H2 p2 rs2 m2 (c1.trans c2)⟩⟩
theorem gTup {n : Nat} {t : L2.TGs} {u : Ab.TGs} (h : RGs K E X t u) : RG K E X (L2.gTup K n t) (Ab.gTup K n u) := ⟨fun F σ H s M v a Q P x rv rs m ⟨xs, e, hn, p⟩ k => by
  subst e
  obtain ⟨l, vs, rfl, h1, h2⟩ := RV.tup_iff.mp rv
  exact ⟨l, vs, rfl, .inl (.inl h1), by rw [h2.length]; exact hn, h.run F σ H s M _ _ _ _ x h2 rs m p k⟩⟩
theorem gSub {to ti : L2.TE} {uo ui : Ab.TE} (ho : RE K E X to uo) (hi : RE K E X ti ui) : RG K E X (L2.gSub to ti L2.rSetL) (Ab.gSub uo ui Ab.rSetL) := ⟨fun F σ H s M v a Q P x rv rs m p k =>
  ho.run F σ H s M _ _ x rs m p fun o M1 vo H1 p1 m1 ro c1 => hi.run F σ H1 s M1 _ _ (x.up c1) (rs.up c1) m1 p1 fun i M2 vi H2 p2 m2 ri c2 => by
    obtain ⟨l, xs, j, n, rfl, rfl, hl, hn, p3⟩ := p2
    cases RV.ref_iff.mp ro
    cases RV.int_iff.mp ri
    obtain ⟨vs, h1, h2⟩ := m2.at_ _ _ hl
    obtain ⟨m3, c3⟩ := setL m2 hl h1 (h2.set n (rv.up (c1.trans c2)))
    exact ⟨l, vs, j, n, rfl, rfl, h1, by rw [h2.length]; exact hn, k _ _ _ _ p3 (rs.up ((c1.trans c2).trans c3)) m3 ((c1.trans c2).trans c3)⟩⟩
theorem tNext : RSt K E X L2.tNext Ab.tNext := ⟨fun F σ H s M D B x rs m p d => d.nx _ _ _ _ p rs m (Tp.refl _)⟩
theorem tCont : RSt K E X L2.tCont Ab.tCont := ⟨fun F σ H s M D B x rs m p d => d.ct _ _ _ _ p rs m (Tp.refl _)⟩
theorem tSeq {t t' : L2.TS} {u u' : Ab.TS} (h : RSt K E X t u) (h' : RSt K E X t' u') : RSt K E X (L2.tSeq t t') (Ab.tSeq u u') := ⟨fun F σ H s M D B x rs m p d =>
  h.run F σ H s M _ _ x rs m p ⟨fun s1 M1 σ1 H1 p1 rs1 m1 c1 => h'.run F σ1 H1 s1 M1 _ _ (x.up c1) rs1 m1 p1 (d.up c1), d.rt, d.bk, d.ct⟩⟩
theorem tCut {t t' : L2.TS} {u u' : Ab.TS} (h : RSt K E X t u) (h' : RSt K E X t' u') : RSt K E X (My.tCut t t') (Ab.tCut u u') := ⟨fun F σ H s M D B x rs m ⟨Mid, p, p'⟩ d =>
  ⟨fun σ1 H1 => ∃ s1 M1, Mid s1 M1 ∧ RS H1 s1 σ1 ∧ Rep K F H1 M1 ∧ Tp H H1, h.run F σ H s M _ _ x rs m p ⟨fun s1 M1 σ1 H1 p1 rs1 m1 c1 => ⟨s1, M1, p1, rs1, m1, c1⟩, d.rt, d.bk, d.ct⟩,
    fun σ1 H1 ⟨s1, M1, p1, rs1, m1, c1⟩ => h'.run F σ1 H1 s1 M1 _ _ (x.up c1) rs1 m1 (p' s1 M1 p1) (d.up c1)⟩⟩
theorem tDrop {te : L2.TE} {ue : Ab.TE} (h : RE K E X te ue) : RSt K E X (L2.tDrop te) (Ab.tDrop ue) := ⟨fun F σ H s M D B x rs m p d => h.run F σ H s M _ _ x rs m p fun a M1 v H1 p1 m1 rv c1 => d.nx _ _ _ _ p1 (rs.up c1) m1 c1⟩
theorem tRet {te : L2.TE} {ue : Ab.TE} (h : RE K E X te ue) : RSt K E X (L2.tRet te) (Ab.tRet ue) := ⟨fun F σ H s M D B x rs m p d => h.run F σ H s M _ _ x rs m p fun a M1 v H1 p1 m1 rv c1 => d.rt _ _ _ _ p1 m1 rv c1⟩
theorem tRetN : RSt K E X L2.tRetN Ab.tRetN := ⟨fun F σ H s M D B x rs m p d => d.rt _ _ _ _ p m (RV.non_iff.mpr rfl) (Tp.refl _)⟩
theorem tIfS {c : L2.TT} {uc : Ab.TT} {t t' : L2.TS} {u u' : Ab.TS} (hc : RT K E X c uc) (h : RSt K E X t u) (h' : RSt K E X t' u') : RSt K E X (L2.tIfS c t t') (Ab.tIfS uc u u') := ⟨fun F σ H s M D B x rs m p d => hc.run F σ H s M _ _ x rs m p fun b M1 H1 p1 m1 c1 => by
  cases b with
  | true =>
    rw [if_pos rfl] at p1 ⊢
    exact h.run F σ H1 s M1 _ _ (x.up c1) (rs.up c1) m1 p1 (d.up c1)
  | false =>
    rw [if_neg Bool.false_ne_true] at p1 ⊢
    exact h'.run F σ H1 s M1 _ _ (x.up c1) (rs.up c1) m1 p1 (d.up c1)⟩
theorem tAsg {te : L2.TE} {ue : Ab.TE} {g : L2.TG} {ug : Ab.TG} (h : RE K E X te ue) (hg : RG K E X g ug) : RSt K E X (L2.tAsg te g) (Ab.tAsg ue ug) := ⟨fun F σ H s M D B x rs m p d => h.run F σ H s M _ _ x rs m p fun a M1 v H1 p1 m1 rv c1 =>
  hg.run F σ H1 s M1 _ _ _ _ (x.up c1) rv (rs.up c1) m1 p1 fun s2 M2 σ2 H2 p2 rs2 m2 c2 => d.nx _ _ _ _ p2 rs2 m2 (c1.trans c2)⟩
theorem tAug {i : Nat} {te : L2.TE} {ue : Ab.TE} {r : TIp} {q : Ab.R2} (h : RE K E X te ue) (hr : RO2 K r q) : RSt K E X (L2.tAug i te r) (Ab.tAug i ue q) := ⟨fun F σ H s M D B x rs m ⟨a, e, p⟩ d => by
  obtain ⟨v, h1, h2⟩ := rs.at_ i a e
  refine ⟨v, h1, h.run F σ H s M _ _ x rs m p fun b M1 w H1 p1 m1 rw c1 => hr.run F H1 M1 _ _ _ _ _ _ (h2.up c1) rw m1 p1 fun c M2 z H2 p2 m2 rz c2 => d.nx _ _ _ _ p2 ((rs.up (c1.trans c2)).set rz) m2 (c1.trans c2)⟩⟩
theorem putF {H : Hp} {f : Str} {v : A} {w : V} (hv : RV H v w) : ∀ {fs : List (Str × A)} {ys : List (Str × V)}, RK H fs ys → RK H (Ab.putFA f v fs) (L2.putF f w ys)
  | [], ys, h => by rw [show ys = [] from h]; exact RK.one hv
  | (g, x) :: r, ys, h => by
    obtain ⟨⟨z1, z2⟩, zs, rfl, h1, h2, h3⟩ := h
    have h1 : g = z1 := h1
    subst h1
    unfold Ab.putFA L2.putF
    by_cases e : g = f
    · rw [if_pos e, if_pos e]; exact ⟨_, _, rfl, rfl, hv, h3⟩
    · rw [if_neg e, if_neg e]; exact ⟨_, _, rfl, rfl, h2, putF hv h3⟩
theorem sFld {ta tv : L2.TE} {ua uv : Ab.TE} {f : Str} (ha : RE K E X ta ua) (hv : RE K E X tv uv) : RSt K E X (L2.sFld K ta tv f) (Ab.sFld K ua uv f) := ⟨fun F σ H s M D B x rs m p d =>
  hv.run F σ H s M _ _ x rs m p fun b M1 w H1 p1 m1 rw c1 => ha.run F σ H1 s M1 _ _ (x.up c1) (rs.up c1) m1 p1 fun a M2 v H2 ⟨l, C, fs, e, hl, hc, hn, hz, p2⟩ m2 rv c2 => by
    subst e
    cases RV.ref_iff.mp rv
    obtain ⟨dx, ys, h1, h2, h3⟩ := m2.at_ _ _ hl
    have c3 : Tp H2 (upd H2 l (.ins C dx (L2.putF f w ys))) := Tp.set h1 (fun _ z => nomatch z) _
    refine ⟨l, C, dx, ys, rfl, h1, hc, hn, by rw [h3.length]; exact hz, d.nx _ _ _ _ p2 (rs.up ((c1.trans c2).trans c3)) ?_ ((c1.trans c2).trans c3)⟩
    refine m2.set hl h1 (fun _ z => nomatch z) (fun _ z => nomatch z) _ ⟨dx, _, upd_same, ?_, (putF (rw.up c2) h3).up c3⟩
    rw [upd_ne (fun z => by rw [z, h1] at h2; cases h2)]
    exact h2⟩
end
end Rf
end My

namespace My
open PySem PySem.Spec PyProof.Rows L2
set_option autoImplicit false
def ItEt (K : PySem.W.Frag) (a : Addr) : It :=
  ⟨fun i H => ∃ (xs : List V) (x : V), SqT K H a xs ∧ xs[i]? = some x,
   fun i H v H' => ∃ l x, H l = none ∧ v = .ref l ∧ H' = upd H l (.tup [.int (i : Nat), x]) ∧ ∀ xs, SqT K H a xs → xs[i]? = some x,
   fun i H => ∃ xs : List V, SqT K H a xs ∧ xs.length = i⟩
def iEnumT (K : PySem.W.Frag) (ta : TA) : TI := fun σ H R => ta σ H fun vs H1 => ∃ a xs, vs = [.ref a] ∧ SqT K H1 a xs ∧ R (ItEt K a) H1
def GW (g : L2.TG) (vs : List Nat) : Prop := ∀ x σ H Q, g x (wipe σ vs) H Q → g x (wipe σ vs) H (fun σ2 H2 => wipe σ2 vs = wipe σ vs ∧ Q σ2 H2)
theorem GW.name {i : Nat} : GW (L2.gName i) [i] := fun x σ H Q h => ⟨by simp only [wipe, List.set_set], h⟩
theorem GW.two {K : PySem.W.Frag} {i j : Nat} : GW (L2.gTup K 2 (L2.gCons (L2.gName i) (L2.gCons (L2.gName j) L2.gNil))) [i, j] := by
  rintro x σ H Q ⟨a, xs, rfl, h1, h2, v, r, rfl, w, r', rfl, rfl, h⟩
  refine ⟨a, _, rfl, h1, h2, v, _, rfl, w, _, rfl, rfl, ?_, h⟩
  simp only [wipe]
  apply List.ext_getElem?
  intro k
  simp only [List.getElem?_set, List.length_set]
  by_cases e1 : i = k <;> by_cases e2 : j = k <;> simp [e1, e2]
namespace Rf
section
variable {K : PySem.W.Frag} {E : XK} {X : AX}
theorem iList {te : L2.TE} {ue : Ab.TE} (h : RE K E X te ue) : RI K E X (L2.iList K te) (Ab.iList K ue) := ⟨fun F σ H s M Q P x rs m p k => h.run F σ H s M _ _ x rs m p fun a M1 v H1 ⟨l, xs, e, hl, p1⟩ m1 rv c1 => by
  subst e
  cases RV.ref_iff.mp rv
  obtain ⟨vs, h1, h2⟩ := m1.at_ _ _ hl
  refine ⟨l, rfl, ⟨vs, .inl (.inl h1)⟩, k _ _ _ _ _ p1 m1 c1 fun F' hF => ⟨fun H2 M2 c2 m2 ok => ?_, fun i a H2 M2 c2 m2 ok hi => ?_⟩⟩
  · obtain ⟨ws, h3, h4⟩ := m2.at_ _ _ ok
    exact ⟨ws, .inl (.inl h3), by rw [h4.length]; exact Nat.le_refl _⟩
  · obtain ⟨ws, h3, h4⟩ := m2.at_ _ _ ok
    obtain ⟨w, h5, h6⟩ := h4.get' hi
    refine ⟨⟨ws, w, .inl (.inl h3), h5⟩, ?_⟩
    rintro y H3 ⟨rfl, hy⟩
    have := hy ws (.inl (.inl h3))
    rw [h5] at this
    cases this
    exact ⟨m2, Tp.refl _, h6, fun _ _ z => z⟩⟩
theorem iTup {te : L2.TE} {ue : Ab.TE} (h : RE K E X te ue) : RI K E X (L2.iTup K te) (Ab.iTup K ue) := ⟨fun F σ H s M Q P x rs m p k => h.run F σ H s M _ _ x rs m p fun a M1 v H1 ⟨xs, e, p1⟩ m1 rv c1 => by
  subst e
  obtain ⟨l, vs, rfl, h1, h2⟩ := RV.tup_iff.mp rv
  refine ⟨l, rfl, ⟨vs, .inl (.inl h1)⟩, k _ _ _ _ _ p1 m1 c1 fun F' hF => ⟨fun H2 M2 c2 m2 ok => ?_, fun i a H2 M2 c2 m2 ok hi => ?_⟩⟩
  · exact ⟨vs, .inl (.inl (c2 _ _ h1)), by rw [h2.length]; exact Nat.le_refl _⟩
  · obtain ⟨w, h5, h6⟩ := h2.get' hi
    refine ⟨⟨vs, w, .inl (.inl (c2 _ _ h1)), h5⟩, ?_⟩
    rintro y H3 ⟨rfl, hy⟩
    have := hy vs (.inl (.inl (c2 _ _ h1)))
    rw [h5] at this
    cases this
    exact ⟨m2, Tp.refl _, h6.up c2, fun _ _ z => z⟩⟩
theorem walkR {F H : Hp} {lo : Int} {n : Nat} : Walks K F H (Itr lo n) (Ab.intsA lo n) fun _ => True := by
  refine ⟨fun H2 M2 c2 m2 ok => ?_, fun i a H2 M2 c2 m2 ok hi => ?_⟩
  · show n ≤ _
    unfold Ab.intsA
    simp
  · unfold Ab.intsA at hi
    rw [List.getElem?_map] at hi
    cases q : (List.range n)[i]? with
    | none => rw [q] at hi; cases hi
    | some j =>
      rw [q] at hi
      obtain ⟨hj, e⟩ := List.getElem?_eq_some_iff.mp q
      rw [List.getElem_range] at e
      subst e
      rw [List.length_range] at hj
      refine ⟨hj, ?_⟩
      rintro y H3 ⟨rfl, rfl⟩
      rw [← Option.some.inj hi]
      exact ⟨m2, Tp.refl _, RV.int_iff.mpr rfl, fun _ _ z => z⟩
theorem iRng1 {t : L2.TA} {u : Ab.TA} (h : RA K E X t u) : RI K E X (L2.iRng1 t) (Ab.iRng1 u) := ⟨fun F σ H s M Q P x rs m p k => h.run F σ H s M _ _ x rs m p fun as M1 vs H1 ⟨j, e, h1, h2, p1⟩ m1 rl0 c1 => by
  subst e
  obtain ⟨v, rfl, rv⟩ := one rl0
  cases RV.int_iff.mp rv
  exact ⟨j, rfl, h1, h2, k _ _ _ _ _ p1 m1 c1 fun F' hF => walkR⟩⟩
theorem iRng2 {t : L2.TA} {u : Ab.TA} (h : RA K E X t u) : RI K E X (L2.iRng2 t) (Ab.iRng2 u) := ⟨fun F σ H s M Q P x rs m p k => h.run F σ H s M _ _ x rs m p fun as M1 vs H1 ⟨i, j, e, h1, p1⟩ m1 rl0 c1 => by
  subst e
  obtain ⟨v, w, rfl, rv, rw⟩ := two rl0
  cases RV.int_iff.mp rv
  cases RV.int_iff.mp rw
  exact ⟨i, j, rfl, h1, k _ _ _ _ _ p1 m1 c1 fun F' hF => walkR⟩⟩
theorem iStr {te : L2.TE} {ue : Ab.TE} (h : RE K E X te ue) : RI K E X (L2.iStr te) (Ab.iStr ue) := ⟨fun F σ H s M Q P x rs m p k => h.run F σ H s M _ _ x rs m p fun a M1 v H1 ⟨z, e, p1⟩ m1 rv c1 => by
  subst e
  cases RV.str_iff.mp rv
  refine ⟨z, rfl, k _ _ _ _ _ p1 m1 c1 fun F' hF => ⟨fun H2 M2 c2 m2 ok => ?_, fun i a H2 M2 c2 m2 ok hi => ?_⟩⟩
  · show z.cps.size ≤ _
    simp
  · rw [List.getElem?_map] at hi
    cases q : z.cps.toList[i]? with
    | none => rw [q] at hi; cases hi
    | some c =>
      rw [q] at hi
      have q2 : z.cps[i]? = some c := by rw [← Array.getElem?_toList]; exact q
      refine ⟨(Array.getElem?_eq_some_iff.mp q2).1, ?_⟩
      rintro y H3 ⟨rfl, c', hc, rfl⟩
      rw [q2] at hc
      cases hc
      rw [← Option.some.inj hi]
      exact ⟨m2, Tp.refl _, RV.str_iff.mpr rfl, fun _ _ z => z⟩⟩
theorem enum_get {xs : List A} {i : Nat} {a : A} (h : (Ab.enumA xs)[i]? = some a) : ∃ b, xs[i]? = some b ∧ a = .tup [.int (i : Nat), b] := by
  unfold Ab.enumA at h
  rw [List.getElem?_zipWith] at h
  cases q : xs[i]? with
  | none => rw [q] at h; cases q2 : (List.range xs.length)[i]? <;> rw [q2] at h <;> cases h
  | some b =>
    have hi := (List.getElem?_eq_some_iff.mp q).1
    rw [q, List.getElem?_range hi] at h
    exact ⟨b, rfl, (Option.some.inj h).symm⟩
theorem enum_len (xs : List A) : (Ab.enumA xs).length = xs.length := by unfold Ab.enumA; simp
theorem pair {H : Hp} {l : Addr} {a b : A} {v w : V} (hl : H l = none) (h1 : RV H a v) (h2 : RV H b w) : RV (upd H l (.tup [v, w])) (.tup [a, b]) (.ref l) :=
  RV.tup_iff.mpr ⟨l, _, rfl, upd_same, (RL.cons h1 (RL.one h2)).up (Tp.new hl _)⟩
theorem keep_new {H : Hp} {l : Addr} {u : HO} (hl : H l = none) : ∀ b o, H b = some o → upd H l u b = some o := fun b o q => by rw [upd_ne (ne_of_none q hl)]; exact q
theorem iEnum {t : L2.TA} {u : Ab.TA} (h : RA K E X t u) : RI K E X (L2.iEnum K t) (Ab.iEnum K u) := ⟨fun F σ H s M Q P x rs m p k => h.run F σ H s M _ _ x rs m p fun as M1 vs H1 ⟨l, xs, e, hl, p1⟩ m1 rl0 c1 => by
  subst e
  obtain ⟨v, rfl, rv⟩ := one rl0
  cases RV.ref_iff.mp rv
  obtain ⟨vs, h1, h2⟩ := m1.at_ _ _ hl
  refine ⟨l, vs, rfl, .inl (.inl h1), k _ _ _ _ _ p1 m1 c1 fun F' hF => ⟨fun H2 M2 c2 m2 ok => ?_, fun i a H2 M2 c2 m2 ok hi => ?_⟩⟩
  · obtain ⟨ws, h3, h4⟩ := m2.at_ _ _ ok
    exact ⟨ws, .inl (.inl h3), by rw [h4.length, enum_len]; exact Nat.le_refl _⟩
  · obtain ⟨ws, h3, h4⟩ := m2.at_ _ _ ok
    obtain ⟨b, hb, rfl⟩ := enum_get hi
    obtain ⟨w, h5, h6⟩ := h4.get' hb
    refine ⟨⟨ws, w, .inl (.inl h3), h5⟩, ?_⟩
    rintro y H3 ⟨q, z, rfl, hq, rfl, hy⟩
    have := hy ws (.inl (.inl h3))
    rw [h5] at this
    cases this
    exact ⟨m2.new hq _, Tp.new hq _, pair hq (RV.int_iff.mpr rfl) h6, keep_new hq⟩⟩
theorem iEnumT {t : L2.TA} {u : Ab.TA} (h : RA K E X t u) : RI K E X (My.iEnumT K t) (Ab.iEnumT K u) := ⟨fun F σ H s M Q P x rs m p k => h.run F σ H s M _ _ x rs m p fun as M1 vs H1 ⟨xs, e, p1⟩ m1 rl0 c1 => by
  subst e
  obtain ⟨v, rfl, rv⟩ := one rl0
  obtain ⟨l, vs, rfl, h1, h2⟩ := RV.tup_iff.mp rv
  refine ⟨l, vs, rfl, .inl (.inl h1), k _ _ _ _ _ p1 m1 c1 fun F' hF => ⟨fun H2 M2 c2 m2 ok => ?_, fun i a H2 M2 c2 m2 ok hi => ?_⟩⟩
  · exact ⟨vs, .inl (.inl (c2 _ _ h1)), by rw [h2.length, enum_len]⟩
  · obtain ⟨b, hb, rfl⟩ := enum_get hi
    obtain ⟨w, h5, h6⟩ := h2.get' hb
    refine ⟨⟨vs, w, .inl (.inl (c2 _ _ h1)), h5⟩, ?_⟩
    rintro y H3 ⟨q, z, hq, rfl, rfl, hy⟩
    have := hy vs (.inl (.inl (c2 _ _ h1)))
    rw [h5] at this
    cases this
    exact ⟨m2.new hq _, Tp.new hq _, pair hq (RV.int_iff.mpr rfl) (h6.up c2), keep_new hq⟩⟩
theorem zip_get {xs ys : List A} {i : Nat} {a : A} (h : (Ab.zipA xs ys)[i]? = some a) : ∃ b c, xs[i]? = some b ∧ ys[i]? = some c ∧ a = .tup [b, c] := by
  unfold Ab.zipA at h
  rw [List.getElem?_zipWith] at h
  cases q : xs[i]? with
  | none => rw [q] at h; cases q2 : ys[i]? <;> rw [q2] at h <;> cases h
  | some b =>
    cases q2 : ys[i]? with
    | none => rw [q, q2] at h; cases h
    | some c => rw [q, q2] at h; exact ⟨b, c, rfl, rfl, (Option.some.inj h).symm⟩
theorem zip_len (xs ys : List A) : (Ab.zipA xs ys).length = min xs.length ys.length := by unfold Ab.zipA; simp
theorem iZipA {t : L2.TA} {u : Ab.TA} (h : RA K E X t u) : RI K E X (RZ.iZipA K t) (Ab.iZipA K u) := ⟨fun F σ H s M Q P x rs m p k => h.run F σ H s M _ _ x rs m p fun as M1 vs H1 p1 m1 rl0 c1 => by
  rcases p1 with ⟨xs, ys, rfl, p1⟩ | ⟨l, q, xs, ys, rfl, hl, hq, p1⟩
  · obtain ⟨v, w, rfl, rv, rw⟩ := two rl0
    obtain ⟨l, vs, rfl, h1, h2⟩ := RV.tup_iff.mp rv
    obtain ⟨q, ws, rfl, h3, h4⟩ := RV.tup_iff.mp rw
    refine ⟨l, q, vs, ws, rfl, .inr ⟨.inl (.inl h1), .inl (.inl h3), k _ _ _ _ _ p1 m1 c1 fun F' hF => ⟨fun H2 M2 c2 m2 ok => ?_, fun i a H2 M2 c2 m2 ok hi => ?_⟩⟩⟩
    · refine ⟨vs, ws, .inl (.inl (c2 _ _ h1)), .inl (.inl (c2 _ _ h3)), ?_⟩
      rw [h2.length, h4.length, zip_len]
      omega
    · obtain ⟨b, c, hb, hc, rfl⟩ := zip_get hi
      obtain ⟨v, h5, h6⟩ := h2.get' hb
      obtain ⟨w, h7, h8⟩ := h4.get' hc
      refine ⟨⟨vs, ws, v, w, .inl (.inl (c2 _ _ h1)), .inl (.inl (c2 _ _ h3)), h5, h7⟩, ?_⟩
      rintro y H3 ⟨T, y1, y2, rfl, hT, rfl, hy1, hy2⟩
      have e1 := hy1 vs (.inl (.inl (c2 _ _ h1)))
      have e2 := hy2 ws (.inl (.inl (c2 _ _ h3)))
      rw [h5] at e1
      rw [h7] at e2
      cases e1
      cases e2
      exact ⟨m2.new hT _, Tp.new hT _, pair hT (h6.up c2) (h8.up c2), keep_new hT⟩
  · obtain ⟨v, w, rfl, rv, rw⟩ := two rl0
    cases RV.ref_iff.mp rv
    cases RV.ref_iff.mp rw
    obtain ⟨vs, h1, h2⟩ := m1.at_ _ _ hl
    obtain ⟨ws, h3, h4⟩ := m1.at_ _ _ hq
    refine ⟨l, q, vs, ws, rfl, .inl ⟨.inl (.inl h1), .inl (.inl h3), k _ _ _ _ _ p1 m1 c1 fun F' hF => ⟨fun H2 M2 c2 m2 ok => ?_, fun i a H2 M2 c2 m2 ok hi => ?_⟩⟩⟩
    · obtain ⟨vs, h1, h2⟩ := m2.at_ _ _ ok.1
      obtain ⟨ws, h3, h4⟩ := m2.at_ _ _ ok.2
      refine ⟨vs, ws, .inl (.inl h1), .inl (.inl h3), ?_⟩
      rw [h2.length, h4.length, zip_len]
      omega
    · obtain ⟨vs, h1, h2⟩ := m2.at_ _ _ ok.1
      obtain ⟨ws, h3, h4⟩ := m2.at_ _ _ ok.2
      obtain ⟨b, c, hb, hc, rfl⟩ := zip_get hi
      obtain ⟨v, h5, h6⟩ := h2.get' hb
      obtain ⟨w, h7, h8⟩ := h4.get' hc
      refine ⟨⟨vs, ws, v, w, .inl (.inl h1), .inl (.inl h3), h5, h7⟩, ?_⟩
      rintro y H3 ⟨T, y1, y2, rfl, hT, rfl, hy1, hy2⟩
      have e1 := hy1 vs (.inl (.inl h1))
      have e2 := hy2 ws (.inl (.inl h3))
      rw [h5] at e1
      rw [h7] at e2
      cases e1
      cases e2
      exact ⟨m2.new hT _, Tp.new hT _, pair hT h6 h8, keep_new hT⟩⟩
theorem tFor {wi : L2.TI} {ui : Ab.TI} {g : L2.TG} {ug : Ab.TG} {tb : L2.TS} {ub : Ab.TS} (hi : RI K E X wi ui) (hg : RG K E X g ug) (hb : RSt K E X tb ub) : RSt K E X (L2.tFor wi g tb) (Ab.tFor ui ug ub) := ⟨fun F σ H s M D B x rs m p d =>
  hi.run F σ H s M _ _ x rs m p fun xs ok M1 J H1 ⟨Iv, i0, iok, step, done⟩ m1 c1 wk => by
    have wk := wk F fun _ _ z => z
    have d1 := d.up c1
    refine ⟨fun i n σ' H' => n + i = xs.length ∧ ∃ s' M', Iv i s' M' ∧ RS H' s' σ' ∧ Rep K F H' M' ∧ Tp H1 H', ⟨xs.length, rfl, s, M1, i0, rs.up c1, m1, Tp.refl _⟩, ?_⟩
    rintro i n σ' H' ⟨hn, s', M', inv, rs', m', c'⟩
    have o := iok i s' M' (by omega) inv
    by_cases e : i = xs.length
    · subst e
      exact .inl ⟨wk.stop H' M' c' m' o, d1.nx _ _ _ _ (done s' M' inv) rs' m' c'⟩
    · have hlt : i < xs.length := by omega
      have hx : xs[i]? = some xs[i] := List.getElem?_eq_getElem hlt
      obtain ⟨go, yl⟩ := wk.go i _ H' M' c' m' o hx
      refine .inr ⟨go, fun σ2 H2 => ∃ s2 M2, Iv (i + 1) s2 M2 ∧ RS H2 s2 σ2 ∧ Rep K F H2 M2 ∧ Tp H1 H2, fun σ2 H2 ⟨s2, M2, q⟩ => ⟨n - 1, by omega, by omega, s2, M2, q⟩, fun y H2 hy => ?_⟩
      obtain ⟨m2, c2, ry, _⟩ := yl y H2 hy
      have c12 := c'.trans c2
      refine hg.run F σ' H2 s' M' _ _ _ _ ((x.up c1).up c12) ry (rs'.up c2) m2 (step i _ s' M' hx inv) fun s3 M3 σ3 H3 p3 rs3 m3 c3 => ?_
      exact hb.run F σ3 H3 s3 M3 _ _ (((x.up c1).up c12).up c3) rs3 m3 p3 ⟨fun s4 M4 σ4 H4 p4 rs4 m4 c4 => ⟨s4, M4, p4, rs4, m4, (c12.trans c3).trans c4⟩, (d1.up (c12.trans c3)).rt, fun s4 M4 σ4 H4 p4 rs4 m4 c4 => (d1.up (c12.trans c3)).nx _ _ _ _ p4 rs4 m4 c4, fun s4 M4 σ4 H4 p4 rs4 m4 c4 => ⟨s4, M4, p4, rs4, m4, (c12.trans c3).trans c4⟩⟩⟩
theorem frame_new {F : Hp} {l : Addr} {u : HO} (hl : F l = none) : ∀ a o, F a = some o → upd F l u a = some o := keep_new hl
theorem tLc {wi : L2.TI} {ui : Ab.TI} {g : L2.TG} {ug : Ab.TG} {tt : L2.TT} {ut : Ab.TT} {te : L2.TE} {ue : Ab.TE} {vs : List Nat} (hi : RI K E X wi ui) (hg : RG K E X g ug) (hw : GW g vs) (ht : RT K E X tt ut) (he : RE K E X te ue) : RE K E X (L2.tLc wi g tt te vs) (Ab.tLc ui ug ut ue vs) := ⟨fun F σ H s M Q P x rs m p k =>
  hi.run F σ H s M _ _ x rs m p fun xs ok M1 J H1 ⟨Iv, i0, iok, step, done⟩ m1 c1 wk l hl => by
    have fl := m1.free hl
    have wk := fun accV => wk (upd F l (.lst accV)) (frame_new fl)
    have c0 : Tp H1 (upd H1 l (.lst [])) := Tp.new hl _
    refine ⟨fun i n H' => n + i = xs.length ∧ ∃ acc accV M', RL H' acc accV ∧ Iv i acc M' ∧ Rep K (upd F l (.lst accV)) H' M' ∧ Tp H1 H', ⟨xs.length, rfl, [], [], M1, RL.nil, i0, ?_, c0⟩, ?_⟩
    · have m2 := m1.new hl (.lst [])
      refine ⟨m2.at_, fun a o e => ?_⟩
      by_cases z : a = l
      · subst z
        rw [upd_same] at e ⊢
        exact ⟨e, m1.no hl⟩
      · rw [upd_ne z] at e
        exact m2.fr a o e
    rintro i n H' ⟨hn, acc, accV, M', rl, inv, m', c'⟩
    obtain ⟨o, hz⟩ := iok i acc M' inv
    have hl' : H' l = some (.lst accV) ∧ M' l = none := m'.fr l _ upd_same
    have x' : XOk K (upd F l (.lst accV)) H' E X := ((x.up c1).up c').frame (frame_new fl)
    by_cases e : i = xs.length
    · subst e
      refine .inl ⟨(wk accV).stop H' M' c' m' o, ?_⟩
      exact k _ _ _ H' (done acc M' inv l hl'.2) ((m'.less (frame_new fl)).tell fl ⟨accV, hl'.1, rl⟩) (RV.ref_iff.mpr rfl) (c1.trans c')
    · have hlt : i < xs.length := by omega
      have hx : xs[i]? = some xs[i] := List.getElem?_eq_getElem hlt
      obtain ⟨go, yl⟩ := (wk accV).go i _ H' M' c' m' o hx
      refine .inr ⟨go, fun H2 => ∃ acc accV M', RL H2 acc accV ∧ Iv (i + 1) acc M' ∧ Rep K (upd F l (.lst accV)) H2 M' ∧ Tp H1 H2, fun H2 q => ⟨n - 1, by omega, by omega, q⟩, fun y H2 hy => ?_⟩
      obtain ⟨m2, c2, ry, _⟩ := yl y H2 hy
      refine hw _ _ _ _ ?_
      refine hg.run _ _ H2 _ M' _ _ _ _ (x'.up c2) ry ((rs.up (c1.trans (c'.trans c2))).wipe vs) m2 (step i _ acc M' hx inv) fun s3 M3 σ3 H3 p3 rs3 m3 c3 => ?_
      refine ht.run _ σ3 H3 s3 M3 _ _ ((x'.up c2).up c3) rs3 m3 p3 fun b M4 H4 p4 m4 c4 => ?_
      cases b with
      | false =>
        rw [if_neg Bool.false_ne_true] at p4 ⊢
        exact ⟨acc, accV, M4, rl.up ((c2.trans c3).trans c4), p4, m4, ((c'.trans c2).trans c3).trans c4⟩
      | true =>
        rw [if_pos rfl] at p4 ⊢
        refine he.run _ σ3 H4 s3 M4 _ _ (((x'.up c2).up c3).up c4) (rs3.up c4) m4 p4 fun z M5 w H5 p5 m5 rz c5 => ?_
        obtain ⟨h5, n5⟩ := m5.fr l _ upd_same
        have c6 : Tp H5 (upd H5 l (.lst (accV ++ [w]))) := Tp.set h5 (fun _ z => nomatch z) _
        have c25 := (c2.trans c3).trans (c4.trans c5)
        refine ⟨accV, h5, by rw [rl.length]; exact hz, acc ++ [z], accV ++ [w], M5, ((rl.up c25).append (RL.one rz)).up c6, p5, ?_, (c'.trans c25).trans c6⟩
        have hb : ∀ b o, b ≠ l → H5 b = some o → upd H5 l (.lst (accV ++ [w])) b = some o := fun b o n q => by rw [upd_ne n]; exact q
        refine ⟨fun a o e => (m5.at_ a o e).keep hb (fun x q => by rw [h5] at q; cases q) c6 (ne_of_anone e n5), fun a o e => ?_⟩
        by_cases z : a = l
        · subst z
          rw [upd_same] at e ⊢
          exact ⟨e, n5⟩
        · rw [upd_ne z] at e
          have := m5.fr a o (by rw [upd_ne z]; exact e)
          exact ⟨hb a o z this.1, this.2⟩⟩
end
end Rf
end My

namespace My
open PySem PySem.Spec PyProof.Rows L2 PySem.AutoSeq1
theorem etNew (tu : Addr) (ks : Array Value) : PySem.Meets (Builtin.«enumerate.__new__» ⟨[.type "enumerate", .ref tu], []⟩) (fun _ R z => z.heap.IsTuple tu ks ∧
      R (.ok (.ret (.ref (z.heap.push { cls := .type "tuple_iterator", data := .fields #[.ref tu, .int 0 0] }).objs.size)))
        { z with heap := (z.heap.push { cls := .type "tuple_iterator", data := .fields #[.ref tu, .int 0 0] }).push { cls := .type "enumerate", data := .fields #[.none, .bool false, .ref z.heap.objs.size, PySem.rawInt 0, .none, .none] } }) :=
  .of_wp fun pg ww AA R z h => by
    obtain ⟨hh, gg, dd, tt, oo⟩ := z
    obtain ⟨ht, h⟩ := h
    have sb := PySem.sub_enumerate
    have walkIt : ∀ {A1 : Around} {E1 : Value → Shared → Prop} {Q1 : Value → Shared → Prop}, Q1 (.ref hh.objs.size) ⟨hh.push { cls := .type "tuple_iterator", data := .fields #[.ref tu, .int 0 0] }, gg, dd, tt, oo⟩ → wpAny (model pg ww) A1 (pyIter (.ref tu)) Q1 E1 ⟨hh, gg, dd, tt, oo⟩ := fun q => wpAny_pyIter_tuple ht q
    wp_walk using walkIt
    refine wpAny_stack_any fun zs => wpAny_pure ?_
    split
    · rename_i cc _ _ _ _ _
      cases (cc == Value.type "enumerate")
      · wp_walk using walkIt
        exact ⟨_, rfl, h⟩
      · wp_walk using walkIt
        exact ⟨_, rfl, h⟩
    · wp_walk using walkIt
      exact ⟨_, rfl, h⟩
section
variable {pg : Program} {ww : World} {AA : Around} {EE : Value → Shared → Prop} {z : Shared}
theorem etCall {tu : Addr} {ks : Array Value} {Q : Value → Shared → Prop} (ht : z.heap.IsTuple tu ks)
    (h : ∀ hp, IsEnum hp (z.heap.objs.size + 1) z.heap.objs.size 0 .none → hp.IsTupleIter z.heap.objs.size tu 0 → hp.objs.size = z.heap.objs.size + 2 →
      (∀ c u, z.heap.get? c = some u → hp.get? c = some u) → Q (.ref (z.heap.objs.size + 1)) { z with heap := hp }) :
    wpAny (model pg ww) AA (call (.type "enumerate") [.ref tu]) Q EE z := by
  refine callType_new F.called_enumerate (by decide) (F.typeCall_enumerate_1 _) (F.newCall_enumerate_1 _) (fun ob => F.args_object_init_2 ob _) F.entry_enumerate_new (etNew tu ks) ⟨ht, ?_⟩
  have sz : (z.heap.push { cls := .type "tuple_iterator", data := .fields #[.ref tu, .int 0 0] }).objs.size = z.heap.objs.size + 1 := Heap.size_push ..
  show _ ∧ _
  rw [sz]
  have en : IsEnum ((z.heap.push { cls := .type "tuple_iterator", data := .fields #[.ref tu, .int 0 0] }).push
      { cls := .type "enumerate", data := .fields #[.none, .bool false, .ref z.heap.objs.size, PySem.rawInt 0, .none, .none] }) (z.heap.objs.size + 1) z.heap.objs.size 0 .none := by
    have e0 := Heap.get?_push_size (z.heap.push { cls := .type "tuple_iterator", data := .fields #[.ref tu, .int 0 0] })
      (o := { cls := .type "enumerate", data := .fields #[.none, .bool false, .ref z.heap.objs.size, PySem.rawInt 0, .none, .none] }) rfl
    rw [sz] at e0
    exact e0
  exact ⟨⟨_, en, rfl⟩, h _ en ⟨_, Heap.get?_push_of_some _ (Heap.get?_push_size _ rfl), rfl, rfl⟩ (by rw [Heap.size_push, sz]) fun c u k => Heap.get?_push_of_some _ (Heap.get?_push_of_some _ k)⟩
end
theorem turn_enumT {P : Program} {w : World} {K : PySem.W.Frag} {elts : List Expr} {kk : Nat} {tpos : Pos} (a e it : Addr) :
    Turn P w K (.Tuple elts kk tpos) (ItEt K a) [e, it] e (fun i h => (∃ old, IsEnum h e it ((i : Nat) : Int) old) ∧ h.IsTupleIter it a i ∧ e ≠ it ∧ it ≠ a ∧ e ≠ a) where
  mem := by simp
  obj := fun i h st b hb => by
    obtain ⟨⟨old, he⟩, ⟨o, ho, hc, hd⟩, _⟩ := st
    have eb : b = e ∨ b = it := by simpa using hb
    rcases eb with q | q
    · rw [q]; exact ⟨_, he, fun v z => nomatch z⟩
    · rw [q]; exact ⟨o, ho, fun v z => by rw [hd] at z; cases z⟩
  keep := fun i h h' st k => let ⟨⟨old, he⟩, hi, ne⟩ := st; ⟨⟨old, k e (by simp) _ he⟩, hi.at fun o q => k it (by simp) o q, ne⟩
  item := by
    intro X hP hw hK hc i pins s σ H E I hf st hg
    subst hP hw hK
    obtain ⟨⟨old, he⟩, hit, hne, hia, hea⟩ := st
    obtain ⟨xs, x, hq, hx⟩ := hg
    obtain ⟨its, rv, p, hz⟩ := I.tuple hq
    obtain ⟨u, hu, ru⟩ := rv.get hx
    have hel : e < s.heap.objs.size := Heap.lt_size he
    have hil : it < s.heap.objs.size := by obtain ⟨_, z, _⟩ := hit; exact Heap.lt_size z
    have il : i < its.toArray.size := by simpa using (List.getElem?_eq_some_iff.mp hu).1
    refine wpAny_pyNext_enum_itemD (Draws.tuple (A := X.A.in1) (show X.A.in1.handled = none from I.ok.hd hc) it a (Ne.symm hia) its.toArray) he ⟨hit, p⟩ il hne (by simp [hne, hea]) fun x' h' tk hP ho hst' hT hsz hk => ?_
    obtain ⟨hit', p'⟩ := hst'
    have ex : x' = u := by
      have e1 : its[i]? = some x' := by simpa using hP
      rw [hu] at e1
      exact (Option.some.inj e1).symm
    subst ex
    refine ⟨_, rfl, wpAny_letOwnedTupleGo_enum (s := { s with heap := h', toks := tk + 1 }) ho fun h2 he2 sb2 => ?_⟩
    have hT2 : h2.get? s.heap.objs.size = some { cls := .type "tuple", data := .seq #[.int i tk, x'] } := (sb2.2 _ (Nat.ne_of_gt hel)).trans hT
    have new : ObjOk X.prog X.w (upd H s.heap.objs.size (.tup [.int (i : Nat), x])) h2 s.heap.objs.size (.tup [.int (i : Nat), x]) :=
      ⟨by show 2 ≤ sizeLine; decide, [.int i tk, x'], .cons ⟨_, rfl⟩ (.cons ru .nil), ⟨_, hT2, rfl, _, rfl⟩⟩
    have I1 : Inv X pins σ (upd H s.heap.objs.size (.tup [.int (i : Nat), x])) { s with heap := h2, toks := tk + 1 } :=
      I.turnedNew (ch := [e, it]) (fun b ob nb q => (sb2.2 b (fun z => nb (by simp [z]))).trans (hk b ob (fun z => nb (by simp [z])) (fun z => nb (by simp [z])) q)) hf (Nat.le_refl _) new
    refine ⟨.ref s.heap.objs.size, _, I1, rfl, ⟨_, x, I.hok.fresh (Nat.le_refl _), rfl, rfl, fun ys hy => by rw [I.tuple_inj hy hq]; exact hx⟩, ⟨⟨x', ?_⟩, hit'.at fun o q => (sb2.2 it (Ne.symm hne)).trans q, hne, hia, hea⟩, fun b hb => ?_⟩
    · have e1 : ((i + 1 : Nat) : Int) = (i : Int) + 1 := by omega
      rw [e1]
      exact he2
    · have lb : b < s.heap.objs.size := by
        have eb : b = e ∨ b = it := by simpa using hb
        rcases eb with q | q
        · rw [q]; exact hel
        · rw [q]; exact hil
      rw [upd_ne (Nat.ne_of_lt lb)]
      exact (hf b hb).1
  done := by
    intro X hP hw hK hc i pins s σ H E I hf st hg
    subst hP hw hK
    obtain ⟨⟨old, he⟩, hit, hne, hia, hea⟩ := st
    obtain ⟨xs, hq, hx⟩ := hg
    obtain ⟨its, rv, p, hz⟩ := I.tuple hq
    obtain ⟨f0, f1, f2, f3, f4, f5⟩ := hf it (by simp)
    have hl := rv.length
    have en : its.toArray.size = i := by simp; omega
    subst en
    exact wpAny_pyNext_enum_endD (Draws.tuple (A := X.A.in1) (show X.A.in1.handled = none from I.ok.hd hc) it a (Ne.symm hia) its.toArray) he ⟨hit, p⟩ fun g eb => ⟨rfl, I.turned (t' := s.toks) (fun b ob nb q => eb b ob nb q) f0 f1 f3 f4 f5⟩
  self := fun A i s Q E st h => let ⟨⟨_, he⟩, _⟩ := st; wpAny_pyIter_enum he h
theorem pi_enumT {X : Cx} {e : Expr} {ta : L2.TA} {p pos tpos : Pos} {elts : List Expr} {kk : Nat} (hg : Gl X "enumerate") (hm : X.mg "enumerate" = none) (ha : PA X [e] ta) (hs : starEach [e] X.env = [(false, eval e X.env)] := by rfl) :
    PI X (.Tuple elts kk tpos) (.Call (.Name "enumerate" p) [e] [] pos) (iEnumT X.K ta) := by
  refine ⟨fun pins s σ H R I h => ?_⟩
  refine Call_ (ld_blt I hg hm boot_enumerate (PyProof.Rows.callWith_type1 (thn (ha.run pos pins s σ H _ I h) fun us s1 ⟨vs, H1, I1, r1, q1⟩ => ?_) hs rfl))
  obtain ⟨a, xs, rfl, hq, q⟩ := q1
  cases r1 with
  | cons r rr =>
    cases rr
    cases r
    obtain ⟨its, rv, p', hz⟩ := I1.tuple hq
    have la : a < s1.heap.objs.size := by obtain ⟨_, z, _⟩ := p'; exact Heap.lt_size z
    refine etCall p' fun hp he hit hsz hk => wpAny_pyIter_enum he ?_
    have I2 : Inv X pins σ H1 { s1 with heap := hp } := I1.kept (t' := s1.toks) hk
    refine ⟨s1.heap.objs.size + 1, [s1.heap.objs.size + 1, s1.heap.objs.size], _, _, H1, rfl, I2, turn_enumT a (s1.heap.objs.size + 1) s1.heap.objs.size,
      ⟨⟨.none, he⟩, hit, Nat.succ_ne_self _, Nat.ne_of_gt la, Nat.ne_of_gt (Nat.lt_succ_of_lt la)⟩, fun b hb => ?_, q⟩
    have lb : s1.heap.objs.size ≤ b := by
      have eb : b = s1.heap.objs.size + 1 ∨ b = s1.heap.objs.size := by simpa using hb
      rcases eb with z | z
      · rw [z]; exact Nat.le_succ _
      · rw [z]; exact Nat.le_refl _
    exact I1.fpOk lb (I1.hok.fresh lb)
end My

namespace My
open PySem PySem.Spec PyProof.Rows L2
structure ErrK2 (P : Program) (w : World) (K : PySem.W.Frag) (mg : Str → Option Value) (base : Heap) (k : Nat) (C D f g : Str) : Prop where
  err : ErrC K C D
  hno : PySem.W.findIn K (.ref (He.ga K C)) f = some none
  hno2 : PySem.W.findIn K (.ref (He.ga K C)) g = some none
  iC : PySem.W.findIn K (.ref (He.ga K C)) "__init__" = some (some (.ref (He.fAd K (D, some "__init__"))))
  tI : PySem.W.typeIn K (.ref (He.fAd K (D, some "__init__"))) = some (.type "function")
  gl : mg C = some (.ref (He.ga K C))
  fn : ∃ fd ps, FnOk P w K mg base CX0 k (He.fAd K (D, some "__init__")) fd ps (spInit2 K D f g) ∧ Binds K fd ps []
def RaiseG2 (K : PySem.W.Frag) (C D f g : Str) (σ : L2.St) (W : WX) (y z : V) (H1 : Hp) : Prop := ([y, z] : List V).length ≤ 1000 ∧ ∀ a, H1 a = none → spInit2 K D f g (.ref a :: ([y, z] ++ [])) (upd H1 a (exo a (He.ga K C) none))
  (fun v H2 => v = .non ∧ ∃ (d : Addr) (fs : List (Str × V)), H2 a = some (exo a (He.ga K C) (some d)) ∧ H2 d = some (exd d fs) ∧ H1 d = none ∧ W (.ref (He.ga K C)) (some d) σ (upd (del H2 a) d (.xd fs))) (fun _ _ _ => False)
def tRaise2 (K : PySem.W.Frag) (C D f g : Str) (W : WX) (te tz : TE) : TS := fun _ σ H => te σ H fun y H1 => tz σ H1 fun z H2 => RaiseG2 K C D f g σ W y z H2
theorem ps_raise2 {X : Cx} {W : WX} {C D f g : Str} {k j : Nat} {e e2 : Expr} {te tz : TE} {p pos pos' : Pos} (T : ErrK2 X.prog X.w X.K X.mg X.base k C D f g) (hc : X.calm = true) (tk : L2N.Takes X W) (hr : Room j X.A) (hk : k + 1 ≤ j) (he : PE X e te) (he2 : PE X e2 tz)
    (hg : Gl X C := by rfl) (hdb : (C == ("__debug__" : Str)) = false := by decide) (hs : starEach [e, e2] X.env = (false, eval e X.env) :: starEach [e2] X.env := by rfl) (hs2 : starEach [e2] X.env = (false, eval e2 X.env) :: starEach [] X.env := by rfl) (hpl : (backTo pos (starEach [e2] X.env)).any (·.1) = false := by rfl) :
    PS X (.Raise (some (.Call (.Name C p) [e, e2] [] pos)) none pos') (tRaise2 X.K C D f g W te tz) := by
  obtain ⟨fd, ps, F, hb⟩ := T.fn
  have base := L2N.ps_raise (pos := pos') hc tk (pmkN (p := p) (pos := pos) T.err.oex T.iC T.tI F hr hk hb (fun _ _ _ _ _ _ _ h => h.elim) T.gl (pa_cons he (pa_cons he2 pa_nil hs2) hs) hg hdb hs hpl)
  exact ⟨fun pins s σ H D I h => base.run pins s σ H D I h⟩
theorem g_raise2 {K : PySem.W.Frag} {C D f g : Str} {σ : L2.St} {W : WX} {y z : V} {H1 : Hp} (G : ErrC K C D) (hno : PySem.W.findIn K (.ref (He.ga K C)) f = some none) (hno2 : PySem.W.findIn K (.ref (He.ga K C)) g = some none)
    (k : ∀ d H2, H1 d = none → Ext H1 H2 → H2 d = some (.xd [(g, z), (f, y)]) → W (.ref (He.ga K C)) (some d) σ H2) : RaiseG2 K C D f g σ W y z H1 := by
  refine ⟨by simp, fun a ha => ⟨a, C, y, z, rfl, G, hno, hno2, upd_same, fun dx hd hda => ⟨rfl, dx, [(g, z), (f, y)], ?_, upd_same, ?_, ?_⟩⟩⟩
  · rw [upd_ne (Ne.symm hda), upd_same]
  · rw [upd_ne hda] at hd
    exact hd
  · rw [upd_ne hda] at hd
    have e : upd (del (upd (upd (upd (upd H1 a (exo a (He.ga K C) none)) dx (exd dx [(f, y)])) a (exo a (He.ga K C) (some dx))) dx (exd dx [(g, z), (f, y)])) a) dx (.xd [(g, z), (f, y)]) = upd H1 dx (.xd [(g, z), (f, y)]) := by
      funext b
      by_cases h1 : b = dx
      · rw [h1, upd_same, upd_same]
      · rw [upd_ne h1, upd_ne h1]
        by_cases h2 : b = a
        · rw [h2, del_same, ha]
        · rw [del_ne h2, upd_ne h1, upd_ne h2, upd_ne h1, upd_ne h2]
    rw [e]
    exact k dx _ hd (Chg.new hd _) upd_same
def errM2 (C D f g file : Str) : Ex := fun K => errB C D K && (He.eqO (PySem.W.findIn K (.ref (He.ga K C)) f) (some none) && (He.eqO (PySem.W.findIn K (.ref (He.ga K C)) g) (some none) && (He.eqO (PySem.W.findIn K (.ref (He.ga K C)) "__init__") (some (some (.ref (He.fAd K (D, some "__init__"))))) &&
  (decide (PySem.W.typeIn K (.ref (He.fAd K (D, some "__init__"))) = some (.type "function")) && fileB D file K))))
theorem errM2_ok {C D f g file : Str} {K : PySem.W.Frag} (h : errM2 C D f g file K = true) : ErrC K C D ∧ PySem.W.findIn K (.ref (He.ga K C)) f = some none ∧ PySem.W.findIn K (.ref (He.ga K C)) g = some none ∧ PySem.W.findIn K (.ref (He.ga K C)) "__init__" = some (some (.ref (He.fAd K (D, some "__init__")))) ∧
    PySem.W.typeIn K (.ref (He.fAd K (D, some "__init__"))) = some (.type "function") ∧ fileB D file K = true := by
  obtain ⟨h1, h⟩ := He.ba h
  obtain ⟨h2, h⟩ := He.ba h
  obtain ⟨h3, h⟩ := He.ba h
  obtain ⟨h4, h⟩ := He.ba h
  obtain ⟨h5, h6⟩ := He.ba h
  exact ⟨errB_ok h1, He.eqO_ok h2, He.eqO_ok h3, He.eqO_ok h4, of_decide_eq_true h5, h6⟩
theorem Rep.ext {K : PySem.W.Frag} {F H H' : Hp} {M : AM} (r : Rep K F H M) (c : Chg [] H H') : Rep K F H' M := by
  have hb : ∀ b o, H b = some o → H' b = some o := fun b o q => c.at q
  refine ⟨fun a o e => ?_, fun a o e => ⟨hb _ _ (r.fr a o e).1, (r.fr a o e).2⟩⟩
  have q := r.at_ a o e
  cases o with
  | lst as => obtain ⟨vs, h1, h2⟩ := q; exact ⟨vs, hb _ _ h1, h2.up c.tp⟩
  | draws => obtain ⟨ds, h1, h2⟩ := q; exact ⟨ds, hb _ _ h1, h2⟩
  | dK kvs => obtain ⟨ys, h1, h2⟩ := q; exact ⟨ys, hb _ _ h1, h2.up c.tp⟩
  | ins C fs => obtain ⟨dx, ys, h1, h2, h3⟩ := q; exact ⟨dx, ys, hb _ _ h1, hb _ _ h2, h3.up c.tp⟩
  | xd fs => obtain ⟨ys, h1, h2⟩ := q; exact ⟨ys, hb _ _ h1, h2.up c.tp⟩
  | fz u kvs => obtain ⟨h1, o, ys, e, h2⟩ := q; exact ⟨hb _ _ h1, o, ys, e, h2.up c.tp⟩
  | dT kvs => obtain ⟨ys, h1, h2⟩ := q; exact ⟨ys, hb _ _ h1, h2.up c.tp⟩
  | fzT u kvs => obtain ⟨h1, o, ys, e, h2⟩ := q; exact ⟨hb _ _ h1, o, ys, e, h2.up c.tp⟩
namespace Ab
abbrev WF (E : AX) : AX := E
def tRaise1 (K : PySem.W.Frag) (C D f : Str) (W : AX) (te : Ab.TE) : Ab.TS := fun _ s M => te s M fun y M1 => (ErrC K C D ∧ PySem.W.findIn K (.ref (He.ga K C)) f = some none) ∧ W (He.ga K C) [(f, y)] M1
def tRaise2 (K : PySem.W.Frag) (C D f g : Str) (W : AX) (te tz : Ab.TE) : Ab.TS := fun _ s M => te s M fun y M1 => tz s M1 fun z M2 => (ErrC K C D ∧ PySem.W.findIn K (.ref (He.ga K C)) f = some none ∧ PySem.W.findIn K (.ref (He.ga K C)) g = some none) ∧ W (He.ga K C) [(g, z), (f, y)] M2
theorem g_rs1 {K : PySem.W.Frag} {C D f : Str} {W : AX} {te : Ab.TE} {B : Ab.Ends} {s : AS} {M : AM} (h : te s M fun y M1 => (ErrC K C D ∧ PySem.W.findIn K (.ref (He.ga K C)) f = some none) ∧ W (He.ga K C) [(f, y)] M1) : tRaise1 K C D f W te B s M := h
theorem g_rs2 {K : PySem.W.Frag} {C D f g : Str} {W : AX} {te tz : Ab.TE} {B : Ab.Ends} {s : AS} {M : AM} (h : te s M fun y M1 => tz s M1 fun z M2 => (ErrC K C D ∧ PySem.W.findIn K (.ref (He.ga K C)) f = some none ∧ PySem.W.findIn K (.ref (He.ga K C)) g = some none) ∧ W (He.ga K C) [(g, z), (f, y)] M2) : tRaise2 K C D f g W te tz B s M := h
end Ab
namespace Rf
section
variable {K : PySem.W.Frag} {E : XK} {X : AX}
theorem tRaise1 {C D f : Str} {te : L2.TE} {ue : Ab.TE} (h : RE K E X te ue) : RSt K E X (My.tRaise1 K C D f (WF E) te) (Ab.tRaise1 K C D f (Ab.WF X) ue) := ⟨fun F σ H s M De B x rs m p d => h.run F σ H s M _ _ x rs m p fun a M1 v H1 ⟨⟨h1, h2⟩, p1⟩ m1 rv c1 =>
  g_raise1 h1 h2 fun dd H2 hd c2 e2 => (x.up c1).run _ _ M1 (some dd) H2 p1 (m1.ext c2) (.inr ⟨by simp, dd, _, rfl, m1.free hd, m1.no hd, e2, RK.one (rv.up c2.tp)⟩) c2.tp⟩
theorem tRaise2 {C D f g : Str} {te tz : L2.TE} {ue uz : Ab.TE} (h : RE K E X te ue) (hz : RE K E X tz uz) : RSt K E X (My.tRaise2 K C D f g (WF E) te tz) (Ab.tRaise2 K C D f g (Ab.WF X) ue uz) := ⟨fun F σ H s M De B x rs m p d => h.run F σ H s M _ _ x rs m p fun a M1 v H1 p1 m1 rv c1 =>
  hz.run F σ H1 s M1 _ _ (x.up c1) (rs.up c1) m1 p1 fun b M2 w H2 ⟨⟨h1, h2, h3⟩, p2⟩ m2 rw c2 =>
  g_raise2 h1 h2 h3 fun dd H3 hd c3 e3 => (x.up (c1.trans c2)).run _ _ M2 (some dd) H3 p2 (m2.ext c3) (.inr ⟨by simp, dd, _, rfl, m2.free hd, m2.no hd, e3, ⟨_, _, rfl, rfl, rw.up c3.tp, RK.one (rv.up (c2.trans c3.tp))⟩⟩) c3.tp⟩
end
end Rf
end My

namespace My
open PySem PySem.Spec PyProof.Rows L2
theorem passN {X : Cx} : Passes (L2N.CX X.prog X.w) X L2.E0 := fun _ _ _ _ _ _ _ h => by
  obtain ⟨_, _, _, _, _, _, _, _, _, _, _, _, z⟩ := h
  exact z.elim
structure ClK (P : Program) (w : World) (K : PySem.W.Frag) (mg : Str → Option Value) (base : Heap) (CX : CXT) (k : Nat) (x : Str) (sp : Sp) : Prop where
  ex : ∃ f fd ps, Mk K (He.ga K x) f ∧ FnOk P w K mg base CX k f fd ps sp ∧ mg x = some (.ref (He.ga K x)) ∧ Binds K fd ps []
structure ClM (P : Program) (w : World) (K : PySem.W.Frag) (mg : Str → Option Value) (base : Heap) (CX : CXT) (k : Nat) (x m : Str) (sp : Sp) : Prop where
  ex : ∃ f fd ps, Cls K (He.ga K x) ∧ Meth K (He.ga K x) m f ∧ FnOk P w K mg base CX k f fd ps sp ∧ Binds K fd ps []
section
variable {X : Cx} {CX : CXT} {k j : Nat} {x m : Str} {sp : Sp} {E : XK} {e o : Expr} {es : List Expr} {t : TA} {ta : TE} {p pos apos : Pos}
theorem pe_clk (c : ClK X.prog X.w X.K X.mg X.base CX k x sp) (hr : Room j X.A) (hk : k + 1 ≤ j) (hx : Passes CX X E) (ha : PA X (e :: es) t) (hg : Gl X x := by rfl) (hdb : (x == ("__debug__" : Str)) = false := by decide)
    (he : starEach (e :: es) X.env = (false, eval e X.env) :: starEach es X.env := by rfl) (hpl : (backTo pos (starEach es X.env)).any (·.1) = false := by rfl) : PE X (.Call (.Name x p) (e :: es) [] pos) (tMake (He.ga X.K x) sp [] E t) := by
  obtain ⟨f, fd, ps, M, F, hm, hb⟩ := c.ex
  exact pe_make M F (hr.mono hk) hg hm hb .nil hx ha hdb he hpl
theorem pe_clm {pl : Sem Bool} (c : ClM X.prog X.w X.K X.mg X.base CX k x m sp) (hr : Room j X.A) (hk : k ≤ j) (hx : Passes CX X E) (ho : PE X o ta) (ha : PA X (e :: es) t)
    (hst : starEach (e :: es) X.env = (false, eval e X.env) :: starEach es X.env := by rfl) (hpl : (backTo pos (starEach es X.env)).any (·.1) = false := by rfl)
    (ht : eval (.Call (.Attribute o m apos) (e :: es) [] pos) X.env = (do
      let ov ← eval o X.env
      standAt apos.atName
      let (f, first) ← holding [ov] (getMethod ov m pl)
      callWith pos f first (backTo pos (starEach (e :: es) X.env)) (backToKw pos (keywordEach [] X.env))) := by rfl) :
    PE X (.Call (.Attribute o m apos) (e :: es) [] pos) (tMeth (He.ga X.K x) m sp [] E ta t) := by
  obtain ⟨f, fd, ps, hc, hm, F, hb⟩ := c.ex
  exact pe_meth ho hc hm F (hr.mono hk) hb .nil hx ha hst hpl ht
end
namespace Ab
end Ab
namespace Rf
section
variable {K : PySem.W.Frag} {E : XK} {X : AX}
end
end Rf
end My

namespace My
open PySem PySem.Spec PyProof.Rows L2
section
variable {X : Cx} {CX : CXT} {k j : Nat} {x m : Str} {sp : Sp} {E : L2.St → XK} {e o : Expr} {es : List Expr} {t : TA} {ta : L2.TE} {p pos apos : Pos} {C f : Addr} {fd : FuncData} {ps : List Str}
end
theorem ps_tryT {X : Cx} {x n : Str} {c : Value} {i : Nat} {body suite : List Stmt} {b0 : Stmt} {np pos pos' : Pos} {tb : WX → L2.TS} {ts : Addr → Value → Option Addr → L2.TS}
    (h1 : X.stack = X.env :: X.outer) (h2 : X.env.frame = some X.env.locals) (nd : X.N.Nodup) (hi : X.N[i]? = some n) (hl : X.env.kindOf n = some .local) (hc : L2.Names X x c)
    (hb : ∀ (W : WX) (pn : List (Addr × Obj)) (xe : Value → Shared → Prop), L2N.Takes (X.tr pn xe) W → PassesOwn (model X.prog X.w) X.A X.env xe → PSs (X.tr pn xe) body (tb W))
    (hsu : ∀ (a : Addr) (oe : Obj) (cls : Value) (d : Option Addr) (pn : List (Addr × Obj)), L2N.Zn cls d oe → (∃ vs, oe.data = .fields vs) → PSs (X.suite a ((a, oe) :: pn)) (b0 :: suite) (ts a cls d)) :
    PS X (.Try body [.ExceptHandler (some (.Name x np)) (some n) (b0 :: suite) pos'] [] [] pos) (tTry X.K c i tb ts) :=
  ⟨fun pins s σ H D I h => (L2N.ps_try_as (pos := pos) (pos' := pos') (np := np) h1 h2 nd hi hl hc takesN hb hsu).run pins s σ H D I h⟩
namespace Ab
def tTry (K : PySem.W.Frag) (c : Value) (i : Nat) (ub : AX → Ab.TS) (us : Addr → Addr → Addr → Ab.TS) : Ab.TS := fun B s M =>
  ub (fun C fs M1 => PySem.W.exmOne K (.ref C) c = some true ∧ (match fs with | [] => False | _ :: _ => ∀ a d, M1 d = none → us a C d { nx := fun s2 M2 => B.nx (s2.set i none) M2, rt := B.rt, bk := fun s2 M2 => B.bk (s2.set i none) M2, ct := fun s2 M2 => B.ct (s2.set i none) M2 } (s.set i (some (.ref a))) (aupd M1 d (.xd fs)))) B s M
end Ab
namespace Rf
section
variable {K : PySem.W.Frag} {E : XK} {X : AX}
section
variable {c : Value} {i : Nat} {ts : Addr → Value → Option Addr → L2.TS} {us : Addr → Addr → Addr → Ab.TS} {C : Addr} {m : Str} {sp : Sp} {asp : ASp} {t : L2.TA} {u : Ab.TA} {ta : L2.TE} {ua : Ab.TE} {g : L2.TG} {ug : Ab.TG}
end
end
end Rf
end My

namespace My
namespace Ab
open PySem PySem.Spec PyProof.Rows L2
set_option autoImplicit false
section
variable {s : AS} {M : AM} {D : Ends} {P : AK} {PB : Bool → AM → Prop} {PL : List A → AM → Prop} {PS : AS → AM → Prop} {PO : Option Int → AM → Prop} {R : List A → (AM → Prop) → AM → Prop}
theorem g_var {i : Nat} {a : A} (e : s[i]? = some (some a)) (h : P a M) : tVar i s M P := ⟨a, e, h⟩
theorem g_aug {i : Nat} {te : TE} {ti : R2} {a : A} (e : s[i]? = some (some a)) (h : te s M fun y M1 => ti a y M1 fun z M2 => D.nx (s.set i (some z)) M2) : tAug i te ti D s M := ⟨a, e, h⟩
theorem g_rI {C : Int → Int → Prop} {g : Int → Int → A} {i j : Int} (c : C i j) (h : P (g i j) M) : rI C g (.int i) (.int j) M P := ⟨i, j, rfl, rfl, c, h⟩
theorem g_bl {b : Bool} {Q : Bool → Prop} (h : Q b) : ∃ k, A.bl b = .bl k ∧ Q k := ⟨b, rfl, h⟩
theorem g_exI {i : Int} {Q : Int → Prop} (h : Q i) : ∃ k, A.int i = .int k ∧ Q k := ⟨i, rfl, h⟩
theorem g_exI1 {i : Int} {Q : Int → Prop} (h : Q i) : ∃ k, ([A.int i] : List A) = [.int k] ∧ Q k := ⟨i, rfl, h⟩
theorem g_exI2 {i j : Int} {Q : Int → Int → Prop} (h : Q i j) : ∃ k l, ([A.int i, A.int j] : List A) = [.int k, .int l] ∧ Q k l := ⟨i, j, rfl, h⟩
theorem g_exT {xs : List A} {Q : List A → Prop} (h : Q xs) : ∃ ys, A.tup xs = .tup ys ∧ Q ys := ⟨xs, rfl, h⟩
theorem g_exT1 {xs : List A} {Q : List A → Prop} (h : Q xs) : ∃ ys, ([A.tup xs] : List A) = [.tup ys] ∧ Q ys := ⟨xs, rfl, h⟩
theorem g_exZ {xs ys : List A} {Q : List A → List A → Prop} {R0 : Prop} (h : Q xs ys) : (∃ zs ws, ([A.tup xs, A.tup ys] : List A) = [.tup zs, .tup ws] ∧ Q zs ws) ∨ R0 := .inl ⟨xs, ys, rfl, h⟩
theorem g_exL {p : Addr} {xs : List A} {Q : Addr → List A → Prop} (e : M p = some (.lst xs)) (h : Q p xs) : ∃ q ys, A.ref p = .ref q ∧ M q = some (.lst ys) ∧ Q q ys := ⟨p, xs, rfl, e, h⟩
theorem g_exL1 {p : Addr} {xs : List A} {Q : Addr → List A → Prop} (e : M p = some (.lst xs)) (h : Q p xs) : ∃ q ys, ([A.ref p] : List A) = [.ref q] ∧ M q = some (.lst ys) ∧ Q q ys := ⟨p, xs, rfl, e, h⟩
theorem g_tr {A B : Prop} (h : A) : if true = true then A else B := by rw [if_pos rfl]; exact h
theorem g_fa {A B : Prop} (h : B) : if false = true then A else B := by rw [if_neg Bool.false_ne_true]; exact h
theorem g_ntr {A B : Prop} (h : B) : if (!true) = true then A else B := g_fa h
theorem g_nfa {A B : Prop} (h : A) : if (!false) = true then A else B := g_tr h
theorem g_2 {c : Bool} {A B : Prop} (h : c = true → A) (k : c = false → B) : if c = true then A else B := by
  cases c with
  | true => rw [if_pos rfl]; exact h rfl
  | false => rw [if_neg Bool.false_ne_true]; exact k rfl
theorem g_tt {c : Bool} {A B : Prop} (e : c = true) (h : A) : if c = true then A else B := by rw [if_pos e]; exact h
theorem g_ff {c : Bool} {A B : Prop} (e : c = false) (h : B) : if c = true then A else B := by rw [e, if_neg Bool.false_ne_true]; exact h
theorem g_isi {K : PySem.W.Frag} {x : A} {t : String} {b : Bool} (e : isiA x t = some b) (h : P (.bl b) M) : rIsi K [x, .ty t] M P := .inl ⟨x, t, b, rfl, e, h⟩
theorem g_tupL {xs : List A} {Q : Prop} (l : xs.length ≤ sizeLine) (h : Q) : xs.length ≤ sizeLine ∧ Q := ⟨l, h⟩
theorem g_newL {xs : List A} (h : ∀ p, M p = none → P (.ref p) (aupd M p (.lst xs))) : newL xs M P := h
theorem g_ixT {K : PySem.W.Frag} {xs : List A} {i : Int} {v : A} (e : L2.atI xs i = some v) (h : P v M) : rIxT K (.tup xs) (.int i) M P := ⟨xs, i, v, rfl, rfl, e, h⟩
theorem g_ixL {K : PySem.W.Frag} {p : Addr} {xs : List A} {i : Int} {v : A} (m : M p = some (.lst xs)) (e : L2.atI xs i = some v) (h : P v M) : rIxL K (.ref p) (.int i) M P := ⟨p, xs, i, v, rfl, rfl, m, e, h⟩
theorem g_ixS {z : Str} {i : Int} {c : Nat} (l : z.length ≤ sizeLine) (e : L2.atI z.cps.toList i = some c) (h : P (.str ⟨#[c]⟩) M) : rIxS (.str z) (.int i) M P := ⟨z, i, c, rfl, rfl, l, e, h⟩
theorem g_lenL {K : PySem.W.Frag} {p : Addr} {xs : List A} (m : M p = some (.lst xs)) (h : P (.int xs.length) M) : rLenSeq K [.ref p] M P := ⟨_, xs, rfl, .inr ⟨p, rfl, m⟩, h⟩
theorem g_lenS {z : Str} (l : z.length ≤ sizeLine) (h : P (.int z.length) M) : rLenStr [.str z] M P := ⟨z, rfl, l, h⟩
theorem g_tupOf {K : PySem.W.Frag} {p : Addr} {xs : List A} (m : M p = some (.lst xs)) (h : P (.tup xs) M) : rTupleOf K [.ref p] M P := ⟨_, xs, rfl, .inr ⟨p, rfl, m⟩, h⟩
theorem g_lstOf {K : PySem.W.Frag} {p : Addr} {xs : List A} (m : M p = some (.lst xs)) (h : newL xs M P) : rListOf K [.ref p] M P := ⟨_, xs, rfl, .inr ⟨p, rfl, m⟩, h⟩
theorem g_slL {K : PySem.W.Frag} {p : Addr} {xs : List A} {lo hi : Option Int} (m : M p = some (.lst xs)) (h : newL (cutA xs lo hi) M P) : rSlL K (.ref p) lo hi M P := ⟨p, xs, rfl, m, h⟩
theorem g_slT {K : PySem.W.Frag} {x : A} {xs : List A} (h : P (.tup xs) M) : rSlT K (.tup (x :: xs)) (some 1) none M P := ⟨x :: xs, rfl, rfl, rfl, by simp, h⟩
theorem g_addS {y z : Str} (l : y.length + z.length ≤ sizeLine) (h : P (.str (y ++ z)) M) : rAddS_ (.str y) (.str z) M P := ⟨y, z, rfl, rfl, l, h⟩
theorem g_catA {K : PySem.W.Frag} {xs ys : List A} (l : xs.length + ys.length ≤ sizeLine) (h : P (.tup (xs ++ ys)) M) : rCatA K (.tup xs) (.tup ys) M P := ⟨xs, ys, rfl, rfl, l, h⟩
theorem g_cat {p q : Addr} {xs ys : List A} (m : M p = some (.lst xs)) (n : M q = some (.lst ys)) (l : xs.length + ys.length ≤ sizeLine) (h : newL (xs ++ ys) M P) : rCat (.ref p) (.ref q) M P := ⟨p, q, xs, ys, rfl, rfl, m, n, l, h⟩
theorem g_isTL {T : Prop} {p : Addr} {xs : List A} (m : M p = some (.lst xs)) (h : T) : isT "list" (.ref p) M ∧ T := ⟨.inl ⟨rfl, p, xs, rfl, m⟩, h⟩
theorem g_append {p : Addr} {xs : List A} {y : A} (m : M p = some (.lst xs)) (l : xs.length < sizeLine) (h : P .non (aupd M p (.lst (xs ++ [y])))) : rAppend (.ref p) [y] M P := ⟨p, xs, y, rfl, rfl, m, l, h⟩
theorem g_insert {p : Addr} {xs : List A} {y : A} {i : Int} (m : M p = some (.lst xs)) (l : xs.length < sizeLine) (h0 : 0 ≤ i) (h1 : i < 2 ^ 63) (h : P .non (aupd M p (.lst (xs.take i.toNat ++ [y] ++ xs.drop i.toNat)))) : rInsert (.ref p) [.int i, y] M P := ⟨p, xs, i, y, rfl, rfl, m, l, h0, h1, h⟩
theorem g_dgetS {a : Addr} {kvs : List (Key × A)} {k : Str} {v : A} {Q : A → Prop} (m : M a = some (.dK kvs)) (e : valA kvs (.inr k) = some v) (h : Q v) : ∃ b kvs' k' v', A.ref a = .ref b ∧ M b = some (.dK kvs') ∧ keyA (.str k) = some k' ∧ valA kvs' k' = some v' ∧ Q v' := ⟨a, kvs, _, v, rfl, m, rfl, e, h⟩
theorem g_dinS {a : Addr} {kvs : List (Key × A)} {k : Str} {Q : List (Key × A) → Key → Prop} (m : M a = some (.dK kvs)) (h : Q kvs (.inr k)) : ∃ b kvs' k', A.ref a = .ref b ∧ M b = some (.dK kvs') ∧ keyA (.str k) = some k' ∧ Q kvs' k' := ⟨a, kvs, _, rfl, m, rfl, h⟩
theorem g_inI {K : PySem.W.Frag} {neg : Bool} {i : Int} {is : List Int} {y : A} (m : itemsA y M (is.map A.int)) (h : P (.bl (if neg then !decide (i ∈ is) else decide (i ∈ is))) M) : rIn K neg (.int i) y M P := .inl ⟨i, is, rfl, m, h⟩
theorem g_fld {K : PySem.W.Frag} {f : Str} {a : Addr} {C : Addr} {fs : List (Str × A)} {v : A} {Q : A → Prop} (m : M a = some (.ins C fs)) (hc : Cls K C) (hn : NoAttr K C f) (e : valA fs f = some v) (h : Q v) : ∃ b C' fs' v', A.ref a = .ref b ∧ M b = some (.ins C' fs') ∧ Cls K C' ∧ NoAttr K C' f ∧ valA fs' f = some v' ∧ Q v' := ⟨a, C, fs, v, rfl, m, hc, hn, e, h⟩
theorem g_putS {kvs : List (Key × A)} {a : Addr} {k : Str} {Q : Addr → List (Key × A) → Key → Prop} (m : M a = some (.dK kvs)) (l : kvs.length < sizeLine) (h : Q a kvs (.inr k)) : ∃ b kvs' k', A.ref a = .ref b ∧ M b = some (.dK kvs') ∧ keyA (.str k) = some k' ∧ kvs'.length < sizeLine ∧ Q b kvs' k' := ⟨a, kvs, _, rfl, m, rfl, l, h⟩
theorem g_methI {C : Addr} {m : Str} {x : Addr} {fs : List (Str × A)} {Q : Addr → List (Str × A) → Prop} (e : M x = some (.ins C fs)) (n : valA fs m = none) (h : Q x fs) : ∃ a fs', A.ref x = .ref a ∧ M a = some (.ins C fs') ∧ valA fs' m = none ∧ Q a fs' := ⟨x, fs, rfl, e, n, h⟩
theorem lk_ne {a b : Addr} {o o' : AO} (n : a ≠ b) (h : M a = some o) : aupd M b o' a = some o := by rw [aupd_ne n]; exact h
theorem lk_new {a b : Addr} {o o' : AO} (n : M b = none) (h : M a = some o) : aupd M b o' a = some o := by rw [aupd_ne (ne_of_anone h n)]; exact h
theorem lk_none {a b : Addr} {o : AO} (h : aupd M b o a = none) : a ≠ b ∧ M a = none := by
  unfold aupd at h
  by_cases e : a = b
  · rw [if_pos e] at h; cases h
  · rw [if_neg e] at h; exact ⟨e, h⟩
theorem for_ {g : TG} {tb : TS} {xs : List A} {ok : AM → Prop} (Iv : Nat → AS → AM → Prop) (h0 : Iv 0 s M) (hk : ∀ i s M, i ≤ xs.length → Iv i s M → ok M)
    (hs : ∀ i x s M, xs[i]? = some x → Iv i s M → g x s M fun s2 M2 => tb { D with nx := Iv (i + 1), ct := Iv (i + 1), bk := D.nx } s2 M2) (hd : ∀ s M, Iv xs.length s M → D.nx s M) : ForA g tb D s xs ok M := ⟨Iv, h0, hk, hs, hd⟩
theorem ints_get {lo : Int} {n i : Nat} {x : A} (h : (intsA lo n)[i]? = some x) : i < n ∧ x = .int (lo + (i : Int)) := by
  unfold intsA at h
  rw [List.getElem?_map] at h
  cases q : (List.range n)[i]? with
  | none => rw [q] at h; cases h
  | some j =>
    rw [q] at h
    obtain ⟨hj, e⟩ := List.getElem?_eq_some_iff.mp q
    rw [List.getElem_range] at e
    subst e
    rw [List.length_range] at hj
    exact ⟨hj, (Option.some.inj h).symm⟩
theorem ints_len {lo : Int} {n : Nat} : (intsA lo n).length = n := by unfold intsA; simp
theorem for_rng {g : TG} {tb : TS} {lo : Int} {n : Nat} (Iv : Nat → AS → AM → Prop) (h0 : Iv 0 s M)
    (hs : ∀ (i : Nat) s M, i < n → Iv i s M → g (.int (lo + (i : Int))) s M fun s2 M2 => tb { D with nx := Iv (i + 1), ct := Iv (i + 1), bk := D.nx } s2 M2) (hd : ∀ s M, Iv n s M → D.nx s M) : ForA g tb D s (intsA lo n) (fun _ => True) M :=
  ⟨Iv, h0, fun _ _ _ _ _ => trivial, fun i x s M hx q => by obtain ⟨h1, rfl⟩ := ints_get hx; exact hs i s M h1 q, fun s M q => hd s M (by rw [ints_len] at q; exact q)⟩
theorem lc_typed {α : Type} {a : α → A} {g : TG} {tt : TT} {te : TE} {vs : List Nat} {xs : List α} {ok : AM → Prop} (f : α → Bool) (e : α → A) (hok : ok M) (hz : xs.length < sizeLine)
    (hs : ∀ x ∈ xs, ∀ (Yes : A → AM → Prop) (No : AM → Prop), (f x = true → Yes (e x) M) → (f x = false → No M) → g (a x) (wipeA s vs) M fun s2 M2 => tt s2 M2 fun b M3 => if b = true then te s2 M3 Yes else No M3)
    (hd : newL ((xs.filter f).map e) M P) : LcA g tt te vs s P (xs.map a) ok M := by
  refine ⟨fun i acc M' => M' = M ∧ i ≤ xs.length ∧ acc = ((xs.take i).filter f).map e, ⟨rfl, Nat.zero_le _, by simp⟩, ?_, ?_, ?_⟩
  · rintro i acc M' ⟨rfl, hi, rfl⟩
    refine ⟨hok, ?_⟩
    have h1 : ((xs.take i).filter f).length ≤ (xs.take i).length := List.length_filter_le _ _
    have h2 : (xs.take i).length ≤ xs.length := by rw [List.length_take]; omega
    rw [List.length_map]
    omega
  · rintro i x acc M' hx ⟨rfl, hi, rfl⟩
    rw [List.getElem?_map] at hx
    cases q : xs[i]? with
    | none => rw [q] at hx; cases hx
    | some y =>
      rw [q] at hx
      cases hx
      have hi2 : i < xs.length := (List.getElem?_eq_some_iff.mp q).1
      have ht : xs.take (i + 1) = xs.take i ++ [y] := by rw [List.take_add_one, q]; rfl
      refine hs y (List.mem_of_getElem? q) _ _ (fun fx => ⟨rfl, hi2, ?_⟩) (fun fx => ⟨rfl, hi2, ?_⟩)
      · rw [ht, List.filter_append, List.map_append]
        simp [fx]
      · rw [ht, List.filter_append, List.map_append]
        simp [fx]
  · rintro acc M' ⟨rfl, _, rfl⟩
    rw [List.length_map, List.take_length]
    exact hd
theorem lc_subT {α : Type} {a : α → A} {g : TG} {tt : TT} {te : TE} {vs : List Nat} {xs : List α} {ok : AM → Prop} (hok : ok M) (hz : xs.length < sizeLine)
    (hs : ∀ x ∈ xs, ∀ (Yes : A → AM → Prop) (No : AM → Prop), Yes (a x) M → No M → g (a x) (wipeA s vs) M fun s2 M2 => tt s2 M2 fun b M3 => if b = true then te s2 M3 Yes else No M3)
    (hd : ∀ ys : List α, ys.Sublist xs → newL (ys.map a) M P) : LcA g tt te vs s P (xs.map a) ok M := by
  refine ⟨fun i acc M' => M' = M ∧ ∃ ys : List α, acc = ys.map a ∧ ys.Sublist (xs.take i) ∧ i ≤ xs.length, ⟨rfl, [], rfl, by simp, Nat.zero_le _⟩, ?_, ?_, ?_⟩
  · rintro i acc M' ⟨rfl, ys, rfl, hg, hi⟩
    refine ⟨hok, ?_⟩
    have := hg.length_le
    rw [List.length_take] at this
    rw [List.length_map]
    omega
  · rintro i x acc M' hx ⟨rfl, ys, rfl, hg, hi⟩
    rw [List.getElem?_map] at hx
    cases q : xs[i]? with
    | none => rw [q] at hx; cases hx
    | some y =>
      rw [q] at hx
      cases hx
      have hi2 : i < xs.length := (List.getElem?_eq_some_iff.mp q).1
      have ht : xs.take (i + 1) = xs.take i ++ [y] := by rw [List.take_add_one, q]; rfl
      refine hs y (List.mem_of_getElem? q) _ _ ⟨rfl, ys ++ [y], by simp, ?_, hi2⟩ ⟨rfl, ys, rfl, ?_, hi2⟩
      · rw [ht]; exact hg.append (List.Sublist.refl _)
      · rw [ht]; exact hg.trans (List.sublist_append_left _ _)
  · rintro acc M' ⟨rfl, ys, rfl, hg, hi⟩
    rw [List.length_map, List.take_length] at hg
    exact hd ys hg
theorem lc_lists {α : Type} {a : α → A} {g : TG} {te : TE} {vs : List Nat} {xs : List α} {ok : AM → Prop} (l : α → List A) (hok : ∀ M', Sub M M' → ok M') (hz : xs.length < sizeLine)
    (hs : ∀ x ∈ xs, ∀ M', Sub M M' → ∀ (Yes : A → AM → Prop), (∀ q, M' q = none → Yes (.ref q) (aupd M' q (.lst (l x)))) → g (a x) (wipeA s vs) M' fun s2 M2 => te s2 M2 Yes)
    (hd : ∀ (ns : List Addr) M', Sub M M' → ns.length = xs.length → (∀ q ∈ ns, M q = none) → (∀ (i : Nat) (q : Addr) (x : α), ns[i]? = some q → xs[i]? = some x → M' q = some (.lst (l x))) → newL (ns.map .ref) M' P) : LcA g tYes te vs s P (xs.map a) ok M := by
  refine ⟨fun i acc M' => ∃ ns : List Addr, acc = ns.map .ref ∧ ns.length = i ∧ i ≤ xs.length ∧ Sub M M' ∧ (∀ q ∈ ns, M q = none) ∧ ∀ (i : Nat) (q : Addr) (x : α), ns[i]? = some q → xs[i]? = some x → M' q = some (.lst (l x)), ⟨[], rfl, rfl, Nat.zero_le _, Sub.refl _, by simp, fun i q x h => by simp at h⟩, ?_, ?_, ?_⟩
  · rintro i acc M' ⟨ns, rfl, rfl, hi, hm, _⟩
    exact ⟨hok _ hm, by rw [List.length_map]; omega⟩
  · rintro i x acc M' hx ⟨ns, rfl, rfl, hi, hm, hf, hn⟩
    rw [List.getElem?_map] at hx
    cases q : xs[ns.length]? with
    | none => rw [q] at hx; cases hx
    | some y =>
      rw [q] at hx
      cases hx
      have hi2 : ns.length < xs.length := (List.getElem?_eq_some_iff.mp q).1
      refine hs y (List.mem_of_getElem? q) M' hm (fun z M4 => ∃ ns' : List Addr, ns.map .ref ++ [z] = ns'.map .ref ∧ ns'.length = ns.length + 1 ∧ ns.length + 1 ≤ xs.length ∧ Sub M M4 ∧ (∀ q ∈ ns', M q = none) ∧ ∀ (i : Nat) (q : Addr) (x : α), ns'[i]? = some q → xs[i]? = some x → M4 q = some (.lst (l x))) fun p hp => ?_
      refine ⟨ns ++ [p], by simp, by simp, hi2, fun b o e => by rw [aupd_ne (ne_of_anone (hm.at e) hp)]; exact hm.at e, fun z hz => ?_, fun j q' x' h1 h2 => ?_⟩
      · rcases List.mem_append.mp hz with h | h
        · exact hf z h
        · rw [List.mem_singleton.mp h]
          cases e : M p with
          | none => rfl
          | some o => rw [hm.at e] at hp; cases hp
      by_cases e : j < ns.length
      · rw [List.getElem?_append_left e] at h1
        have := hn j q' x' h1 h2
        rw [aupd_ne (ne_of_anone this hp)]
        exact this
      · have e2 : j = ns.length := by
          have := (List.getElem?_eq_some_iff.mp h1).1
          simp at this
          omega
        subst e2
        rw [q] at h2
        cases h2
        simp at h1
        subst h1
        exact aupd_same
  · rintro acc M' ⟨ns, rfl, hl, hi, hm, hf, hn⟩
    rw [List.length_map] at hl
    exact hd ns M' hm hl hf hn
theorem lc_out {β : Type} (b : β → A) (G : β → Prop) {g : TG} {te : TE} {vs : List Nat} {xs : List A} {ok : AM → Prop} (hok : ok M) (hz : xs.length < sizeLine)
    (hs : ∀ (i : Nat) (x : A), xs[i]? = some x → ∀ (Yes : A → AM → Prop), (∀ y, G y → Yes (b y) M) → g x (wipeA s vs) M fun s2 M2 => te s2 M2 Yes)
    (hd : ∀ ys : List β, ys.length = xs.length → (∀ y ∈ ys, G y) → newL (ys.map b) M P) : LcA g tYes te vs s P xs ok M := by
  refine ⟨fun i acc M' => M' = M ∧ i ≤ xs.length ∧ ∃ ys : List β, acc = ys.map b ∧ ys.length = i ∧ ∀ y ∈ ys, G y, ⟨rfl, Nat.zero_le _, [], rfl, rfl, by simp⟩, ?_, ?_, ?_⟩
  · rintro i acc M' ⟨rfl, hi, ys, rfl, rfl, _⟩
    exact ⟨hok, by rw [List.length_map]; omega⟩
  · rintro i x acc M' hx ⟨rfl, hi, ys, rfl, rfl, hg⟩
    have hi2 : ys.length < xs.length := (List.getElem?_eq_some_iff.mp hx).1
    refine hs _ x hx (fun z M4 => M4 = M' ∧ ys.length + 1 ≤ xs.length ∧ ∃ zs : List β, ys.map b ++ [z] = zs.map b ∧ zs.length = ys.length + 1 ∧ ∀ y ∈ zs, G y) fun y gy => ?_
    refine ⟨rfl, hi2, ys ++ [y], by simp, by simp, fun z hz => ?_⟩
    rcases List.mem_append.mp hz with h | h
    · exact hg z h
    · rw [List.mem_singleton.mp h]; exact gy
  · rintro acc M' ⟨rfl, _, ys, rfl, hl, hg⟩
    exact hd ys hl hg
theorem g_seq {t u : TS} (h : t { D with nx := u D } s M) : tSeq t u D s M := h
theorem g_asg {te : TE} {g : TG} (h : te s M fun x M1 => g x s M1 D.nx) : tAsg te g D s M := h
theorem g_name {i : Nat} {a : A} (h : PS (s.set i (some a)) M) : gName i a s M PS := h
theorem g_c {a : A} (h : P a M) : tC a s M P := h
theorem g_op {r : R2} {ta tb : TE} (h : ta s M fun x M1 => tb s M1 fun y M2 => r x y M2 P) : tOp r ta tb s M P := h
theorem g_un {r : R1} {ta : TE} (h : ta s M fun x M1 => r x M1 P) : tUn r ta s M P := h
theorem g_cb {r : RB} {t : TA} (h : t s M fun xs M1 => r xs M1 P) : tCB r t s M P := h
theorem g_nil  (h : PL [] M) : tNil s M PL := h
theorem g_cons {ta : TE} {tr : TA} (h : ta s M fun x M1 => tr s M1 fun xs M2 => PL (x :: xs) M2) : tCons ta tr s M PL := h
theorem g_test {te : TE} (h : te s M fun x M1 => ∃ k, x = .bl k ∧ PB k M1) : tTest te s M PB := h
theorem g_B {te : TE} (h : te s M fun x M1 => ∃ k, x = .bl k ∧ PB k M1) : tB te s M PB := h
theorem g_yes  (h : PB true M) : tYes s M PB := h
theorem g_not {t : TT} (h : t s M fun c M1 => PB (!c) M1) : tNot t s M PB := h
theorem g_and {t u : TT} (h : t s M fun c M1 => if c = true then u s M1 PB else PB false M1) : tAnd t u s M PB := h
theorem g_or {t u : TT} (h : t s M fun c M1 => if c = true then PB true M1 else u s M1 PB) : tOr t u s M PB := h
theorem g_andV {ta tb : TE} (h : ta s M fun x M1 => ∃ c, x = .bl c ∧ if c = true then tb s M1 P else P (.bl false) M1) : tAndV ta tb s M P := h
theorem g_notV {ta : TE} (h : ta s M fun x M1 => ∃ c, x = .bl c ∧ P (.bl (!c)) M1) : tNotV ta s M P := h
theorem g_ifE {t : TT} {ta tb : TE} (h : t s M fun c M1 => if c = true then ta s M1 P else tb s M1 P) : tIf t ta tb s M P := h
theorem g_chain {r r' : R2} {ta tb tc : TE} (h : ta s M fun x M1 => tb s M1 fun y M2 => r x y M2 fun z M3 => ∃ k, z = .bl k ∧ if k = true then tc s M3 fun w M4 => r' y w M4 P else P (.bl false) M3) : tChain r r' ta tb tc s M P := h
theorem g_call {sp : ASp} {E : AX} {t : TA} (h : t s M fun vs M1 => sp (vs ++ []) M1 P E) : tCall sp [] E t s M P := h
theorem g_make {C : Addr} {sp : ASp} {E : AX} {t : TA} (h : t s M fun vs M1 => ∀ x, M1 x = none → sp (.ref x :: (vs ++ [])) (aupd M1 x (.ins C [])) (fun v M2 => v = .non ∧ P (.ref x) M2) E) : tMake C sp [] E t s M P := h
theorem g_meth {C : Addr} {m : Str} {sp : ASp} {E : AX} {ta : TE} {t : TA} (h : ta s M fun x M1 => ∃ a fs, x = .ref a ∧ M1 a = some (.ins C fs) ∧ (valA fs m = none) ∧ t s M1 fun vs M2 => sp (x :: (vs ++ [])) M2 P E) : tMeth C m sp [] E ta t s M P := h
theorem g_part {te : TE} (h : te s M fun x M1 => ∃ i, x = .int i ∧ PO (some i) M1) : tPart te s M PO := h
theorem g_nopart  (h : PO none M) : tNoPart s M PO := h
theorem g_sl {rs : A → Option Int → Option Int → AM → AK → Prop} {te : TE} {tl th : TO} (h : te s M fun x M1 => tl s M1 fun l M2 => th s M2 fun h M3 => rs x l h M3 P) : tSl rs te tl th s M P := h
theorem g_tupE {t : TA} (h : t s M fun xs M1 => xs.length ≤ sizeLine ∧ P (.tup xs) M1) : tTup t s M P := h
theorem g_lstE {t : TA} (h : t s M fun xs M1 => xs.length ≤ sizeLine ∧ newL xs M1 P) : tLst t s M P := h
theorem g_bm {K : PySem.W.Frag} {T : String} {r : RM} {to : TE} {t : TA} (h : to s M fun x M1 => isT T x M1 ∧ t s M1 fun xs M2 => r x xs M2 P) : tBM K T r to t s M P := h
theorem g_rI0 {g : Int → Int → A} {i j : Int} (h : P (g i j) M) : rI0 g (.int i) (.int j) M P := ⟨i, j, rfl, rfl, h⟩
theorem g_rU {g : Int → A} {i : Int} (h : P (g i) M) : rU g (.int i) M P := ⟨i, rfl, h⟩
theorem g_ipI {g : Int → Int → Int} {i j : Int} (h : P (.int (g i j)) M) : ipI g (.int i) (.int j) M P := ⟨i, j, rfl, rfl, h⟩
theorem g_int1 {i : Int} (h : P (.int i) M) : rInt1 [.int i] M P := .inl ⟨i, rfl, h⟩
theorem g_int1b {b : Bool} (h : P (.int (if b then 1 else 0)) M) : rInt1 [.bl b] M P := .inr ⟨b, rfl, h⟩
theorem g_abs {i : Int} (h : P (.int (if i < 0 then -i else i)) M) : rAbs [.int i] M P := ⟨i, rfl, h⟩
theorem g_eqI {i j : Int} (h : P (.bl (decide (i = j))) M) : rEq (.int i) (.int j) M P := ⟨_, rfl, h⟩
theorem g_neI {i j : Int} (h : P (.bl (!decide (i = j))) M) : rNe (.int i) (.int j) M P := ⟨_, rfl, h⟩
theorem g_eqS {i j : Str} (h : P (.bl (decide (i = j))) M) : rEq (.str i) (.str j) M P := ⟨_, rfl, h⟩
theorem g_neS {i j : Str} (h : P (.bl (!decide (i = j))) M) : rNe (.str i) (.str j) M P := ⟨_, rfl, h⟩
theorem g_notInS {c : Nat} {z : Str} (h : P (.bl (!decide (c ∈ z.cps.toList))) M) : rNotInS_ (.str ⟨#[c]⟩) (.str z) M P := ⟨c, z, rfl, rfl, h⟩
theorem g_slA {K : PySem.W.Frag} {xs : List A} {lo hi : Option Int} (h : P (.tup (cutA xs lo hi)) M) : rSlA K (.tup xs) lo hi M P := ⟨xs, rfl, h⟩
theorem g_lenT {K : PySem.W.Frag} {xs : List A} (h : P (.int xs.length) M) : rLenSeq K [.tup xs] M P := ⟨_, xs, rfl, .inl rfl, h⟩
theorem g_lstT {K : PySem.W.Frag} {xs : List A} (h : newL xs M P) : rListOf K [.tup xs] M P := ⟨_, xs, rfl, .inl rfl, h⟩
theorem g_star {K : PySem.W.Frag} {ta : TE} {t : TA} (h : ta s M fun x M1 => (∃ xs, x = .tup xs ∧ t s M1 fun ys M2 => PL (xs ++ ys) M2) ∨ ∃ p xs, x = .ref p ∧ M1 p = some (.lst xs) ∧ t s M1 fun ys M2 => PL (xs ++ ys) M2) : tStar K ta t s M PL := h
theorem g_next  (h : D.nx s M) : tNext D s M := h
theorem g_cont  (h : D.ct s M) : tCont D s M := h
theorem g_drop {te : TE} (h : te s M fun _ M1 => D.nx s M1) : tDrop te D s M := h
theorem g_ret {te : TE} (h : te s M D.rt) : tRet te D s M := h
theorem g_retN  (h : D.rt .non M) : tRetN D s M := h
theorem g_ifS {c : TT} {t u : TS} (h : c s M fun b M1 => if b = true then t D s M1 else u D s M1) : tIfS c t u D s M := h
theorem g_for {wi : TI} {g : TG} {tb : TS} (h : wi s M (ForA g tb D s)) : tFor wi g tb D s M := h
theorem g_lc {wi : TI} {g : TG} {tt : TT} {te : TE} {vs : List Nat} (h : wi s M (LcA g tt te vs s P)) : tLc wi g tt te vs s M P := h
theorem g_iL {K : PySem.W.Frag} {te : TE} (h : te s M fun x M1 => ∃ p xs, x = .ref p ∧ M1 p = some (.lst xs) ∧ R xs (fun M' => M' p = some (.lst xs)) M1) : iList K te s M R := h
theorem g_iT {K : PySem.W.Frag} {te : TE} (h : te s M fun x M1 => ∃ xs, x = .tup xs ∧ R xs (fun _ => True) M1) : iTup K te s M R := h
theorem g_iR {ta : TA} (h : ta s M fun vs M1 => ∃ j : Int, vs = [.int j] ∧ -(2 ^ 62) ≤ j ∧ j < 2 ^ 62 ∧ R (intsA 0 j.toNat) (fun _ => True) M1) : iRng1 ta s M R := h
theorem g_iR2 {ta : TA} (h : ta s M fun vs M1 => ∃ i j : Int, vs = [.int i, .int j] ∧ (-(2 ^ 62) ≤ i ∧ i < 2 ^ 62 ∧ -(2 ^ 62) ≤ j ∧ j < 2 ^ 62) ∧ R (intsA i (j - i).toNat) (fun _ => True) M1) : iRng2 ta s M R := h
theorem g_iE {K : PySem.W.Frag} {ta : TA} (h : ta s M fun vs M1 => ∃ p xs, vs = [.ref p] ∧ M1 p = some (.lst xs) ∧ R (enumA xs) (fun M' => M' p = some (.lst xs)) M1) : iEnum K ta s M R := h
theorem g_iET {K : PySem.W.Frag} {ta : TA} (h : ta s M fun vs M1 => ∃ xs, vs = [.tup xs] ∧ R (enumA xs) (fun _ => True) M1) : iEnumT K ta s M R := h
theorem g_iZ {K : PySem.W.Frag} {ta : TA} (h : ta s M fun vs M1 => (∃ xs ys, vs = [.tup xs, .tup ys] ∧ R (zipA xs ys) (fun _ => True) M1) ∨ ∃ p q xs ys, vs = [.ref p, .ref q] ∧ M1 p = some (.lst xs) ∧ M1 q = some (.lst ys) ∧ R (zipA xs ys) (fun M' => M' p = some (.lst xs) ∧ M' q = some (.lst ys)) M1) : iZipA K ta s M R := h
theorem g_iS {te : TE} (h : te s M fun x M1 => ∃ z : Str, x = .str z ∧ R (z.cps.toList.map fun c => A.str ⟨#[c]⟩) (fun _ => True) M1) : iStr te s M R := h
theorem g_gtup {K : PySem.W.Frag} {t : TGs} {xs : List A} {n : Nat} (hn : xs.length = n) (h : t xs s M PS) : gTup K n t (.tup xs) s M PS := ⟨xs, rfl, hn, h⟩
theorem g_gcons {t : TG} {u : TGs} {v : A} {r : List A} (h : t v s M fun s' M' => u r s' M' PS) : gCons t u (v :: r) s M PS := ⟨v, r, rfl, h⟩
theorem g_gnil  (h : PS s M) : gNil [] s M PS := ⟨rfl, h⟩
theorem g_gsub {to ti : TE} {v : A} {t : A → A → A → AM → (AM → Prop) → Prop} (h : to s M fun o M1 => ti s M1 fun i M2 => t o i v M2 fun M3 => PS s M3) : gSub to ti t v s M PS := h
theorem g_fldE {K : PySem.W.Frag} {ta : TE} {f : Str} (h : ta s M fun x M1 => ∃ a C fs v, x = .ref a ∧ M1 a = some (.ins C fs) ∧ Cls K C ∧ NoAttr K C f ∧ valA fs f = some v ∧ P v M1) : tFld K ta f s M P := h
theorem g_dget {td ty : TE} (h : td s M fun x M1 => ty s M1 fun y M2 => ∃ a kvs k v, x = .ref a ∧ M2 a = some (.dK kvs) ∧ keyA y = some k ∧ valA kvs k = some v ∧ P v M2) : tDGet td ty s M P := h
theorem g_dget2 {td ty tx : TE} (h : td s M fun x M1 => ∃ a kvs0, x = .ref a ∧ M1 a = some (.dK kvs0) ∧ ty s M1 fun y M2 => tx s M2 fun z M3 => ∃ kvs k, M3 a = some (.dK kvs) ∧ keyA y = some k ∧ P ((valA kvs k).getD z) M3) : tDGet2 td ty tx s M P := h
theorem g_din {td ty : TE} (h : ty s M fun y M1 => td s M1 fun x M2 => ∃ a kvs k, x = .ref a ∧ M2 a = some (.dK kvs) ∧ keyA y = some k ∧ P (.bl (valA kvs k).isSome) M2) : tDIn ty td s M P := h
theorem g_dnin {td ty : TE} (h : ty s M fun y M1 => td s M1 fun x M2 => ∃ a kvs k, x = .ref a ∧ M2 a = some (.dK kvs) ∧ keyA y = some k ∧ P (.bl (!(valA kvs k).isSome)) M2) : tDNotIn ty td s M P := h
theorem g_dput {td ty tv : TE} (h : tv s M fun v M1 => td s M1 fun x M2 => ty s M2 fun y M3 => ∃ a kvs k, x = .ref a ∧ M3 a = some (.dK kvs) ∧ keyA y = some k ∧ kvs.length < sizeLine ∧ D.nx s (aupd M3 a (.dK (putA kvs k v)))) : sDPut td ty tv D s M := h
theorem g_sfld {K : PySem.W.Frag} {ta tv : TE} {f : Str} (h : tv s M fun y M1 => ta s M1 fun x M2 => ∃ a C fs, x = .ref a ∧ M2 a = some (.ins C fs) ∧ Cls K C ∧ NoAttr K C f ∧ fs.length < 1000 ∧ D.nx s (aupd M2 a (.ins C (putFA f y fs)))) : sFld K ta tv f D s M := h
end
end Ab
end My

namespace My
open PySem PySem.Spec PyProof.Rows L2
structure ClH (P : Program) (w : World) (K : PySem.W.Frag) (mg : Str → Option Value) (base : Heap) (CX : CXT) (k : Nat) (x : Str) (sp : Sp) : Prop where
  ex : ∃ f fd ps, L2H.FnH P w K mg base CX k f fd ps sp ∧ mg x = some (.ref f) ∧ PySem.W.keepIn K (.ref f) = true ∧ Binds K fd ps []
theorem hotZ {X : Cx} {a : Addr} {oe : Obj} {cls : Value} {d : Option Addr} {pn : List (Addr × Obj)} (hz : L2N.Zn cls d oe) (hf : ∃ vs, oe.data = .fields vs) : L2H.HotC (X.suite a ((a, oe) :: pn)) := by
  obtain ⟨vs, e⟩ := hf
  exact ⟨(a, oe), ⟨rfl, vs, e, hz.2.2 vs e⟩, List.mem_cons_self⟩
theorem roomZ {X : Cx} {a : Addr} {pn : List (Addr × Obj)} {k : Nat} (hr : Room k X.A) : L2H.RoomH k (X.suite a pn).A := ⟨hr.dp, hr.un⟩
theorem at0 {X : Cx} {σ : L2.St} {E : XK} : PassesAt CX0 X σ E := fun _ _ _ _ _ _ h => h.elim
section
variable {X : Cx} {CX : CXT} {k j : Nat} {x : Str} {sp : Sp} {E : XK} {e : Expr} {es : List Expr} {t : TA} {p pos : Pos}
theorem pe_clH (c : ClH X.prog X.w X.K X.mg X.base CX k x sp) (hr : L2H.RoomH j X.A) (hc : L2H.HotC X) (hk : k ≤ j) (hx : ∀ σ, PassesAt CX X σ E) (ha : PA X (e :: es) t) (hg : Gl X x := by rfl) (hdb : (x == ("__debug__" : Str)) = false := by decide)
    (he : starEach (e :: es) X.env = (false, eval e X.env) :: starEach es X.env := by rfl) (hpl : (backTo pos (starEach es X.env)).any (·.1) = false := by rfl) : PE X (.Call (.Name x p) (e :: es) [] pos) (tCall sp [] E t) := by
  obtain ⟨f, fd, ps, F, hm, hk2, hb⟩ := c.ex
  refine ⟨fun pins s σ H Q I h => ?_⟩
  refine wpAny_Call_Name_kw (ld_glob I hg hm ?_ hdb)
  refine PySem.W.callWith_K (h₀ := X.base) I.ok.mod.kin hk2 (thn (ha.run pos pins s σ H _ I h) fun us s1 ⟨vs, H1, I1, r, q⟩ => ⟨I1.kIn, ?_⟩) he hpl
  exact L2H.run_fnH (E := fun _ => E) F (hr.mono hk) hc hb (hx σ) I1 r (by have q3 : sp (vs ++ []) H1 _ E := q; rw [List.append_nil] at q3; exact q3)
theorem pi_range2H {tg : Expr} {a b : Expr} {ta : TA} {p pos : Pos} (hg : Gl X "range") (hm : X.mg "range" = none) (ha : PA X [a, b] ta) (hs : starEach [a, b] X.env = [(false, eval a X.env), (false, eval b X.env)] := by rfl) (hs2 : starEach [b] X.env = [(false, eval b X.env)] := by rfl) :
    L2H.PIH X tg (.Call (.Name "range" p) [a, b] [] pos) (iRng2 ta) := by
  refine ⟨fun pins s σ H R I h => ?_⟩
  refine Call_ (ld_blt I hg hm boot_range (PyProof.Rows.callWith_type1 (thn (ha.run pos pins s σ H _ I h) fun us s1 ⟨vs, H1, I1, r1, q1⟩ => ?_) (by rw [hs, hs2]) (by rw [hs2]; rfl)))
  obtain ⟨i, j, e, ⟨q1, q2, q3, q4⟩, q⟩ := q1
  subst e
  cases r1 with
  | cons r rr =>
    cases rr with
    | cons r' rr =>
      cases rr
      obtain ⟨t, rfl⟩ := r
      obtain ⟨t', rfl⟩ := r'
      exact call_range_2 (L2H.range_itH I1 q1 q2 q3 q4 q)
end
section
variable {P : Program} {w : World} {K : PySem.W.Frag} {mg : Str → Option Value} {base : Heap} {x qual : Str} {params : Arguments} {body : List Stmt} {scope : Scope} {dvs : List V} {kws : List (Str × V)} {f : Addr} {fd : FuncData}
theorem FunD.okH {CX : CXT} {N ps : List Str} {k : Nat} {sp : Sp} (F : FunD K x qual params body scope dvs kws f fd) (S : FnScope N ps scope) (len : ∀ vs H Q E, sp vs H Q E → vs.length = ps.length)
    (hbody : ∀ (cdv : Value) (A : Around) (outer : List Env) (s : Shared) (H : Hp) (vs : List V) (Q : VK) (E : XK) (p : Addr × Obj), L2H.Hot1 A p → L2H.RoomH k (A.deeper (envOfC qual scope s.heap.objs.size f cdv)) → sp vs H Q E →
      ∃ t, PSs (L2H.cxH CX P w K mg base N qual scope f cdv A outer s H E p) body t ∧ t { nx := fun _ H' => Q .non H', rt := Q } (L2.start N vs) H) : L2H.FnH P w K mg base CX (k + 1) f fd ps sp := by
  obtain ⟨oc, od, dV, kV, doc, pm, an, cdv, ct, osl, rfl, lk, hcd, _, _⟩ := F.ex
  exact L2H.fn_ofH lk hcd S len fun A outer s H vs Q E p hh hr hsp => hbody cdv A outer s H vs Q E p hh hr hsp
end
section
variable {X : Cx} {CX : CXT} {k j : Nat} {x : Str} {sp : Sp} {E : L2.St → XK} {e : Expr} {es : List Expr} {t : TA} {p pos : Pos}
end
namespace Ab
end Ab
namespace Rf
section
variable {K : PySem.W.Frag} {E : XK} {X : AX} {c : Value} {i : Nat} {ts : Addr → Value → Option Addr → L2.TS} {us : Addr → Addr → Addr → Ab.TS} {sp : Sp} {asp : ASp} {t : L2.TA} {u : Ab.TA} {g : L2.TG} {ug : Ab.TG} {C : Addr} {m : Str} {ta : L2.TE} {ua : Ab.TE}
end
end Rf
end My

namespace My
open PySem PySem.Spec PyProof.Rows L2
structure FnX (P : Program) (w : World) (K : PySem.W.Frag) (mg : Str → Option Value) (base : Heap) (CX : CXT) (k : Nat) (f : Addr) (fd : FuncData) (ps : List Str) (sp : Addr → Value → Option Addr → Sp) : Prop where
  len : ∀ a cls d vs H Q E, sp a cls d vs H Q E → vs.length = ps.length
  run : ∀ (A : Around) (outer : List Env) (s : Shared) (H : Hp) (args : Args) (us : List Value) (vs : List V) (Q : VK) (E : XK) (p : Addr × Obj) (cls : Value) (d : Option Addr), L2H.RoomH k A → L2H.Hot1 A p → L2N.Zn cls d p.2 → (∃ vs, p.2.data = .fields vs) → L2H.PinOk outer H s p → Env0 P w K mg base A outer s H → BindsTo s fd args (ps.zip us) → Vals vs us → sp p.1 cls d vs H Q E →
    codeAny (model P w) A (.call (.ref f) args) (CR CX outer P w H s Q E) s
structure ClX (P : Program) (w : World) (K : PySem.W.Frag) (mg : Str → Option Value) (base : Heap) (CX : CXT) (k : Nat) (x : Str) (sp : Addr → Value → Option Addr → Sp) : Prop where
  ex : ∃ f fd ps, FnX P w K mg base CX k f fd ps sp ∧ mg x = some (.ref f) ∧ PySem.W.keepIn K (.ref f) = true ∧ Binds K fd ps []
section
variable {P : Program} {w : World} {K : PySem.W.Frag} {mg : Str → Option Value} {base : Heap} {x qual : Str} {params : Arguments} {body : List Stmt} {scope : Scope} {dvs : List V} {kws : List (Str × V)} {f : Addr} {fd : FuncData}
end
section
variable {X : Cx} {CX : CXT} {k j : Nat} {x : Str} {sp : Addr → Value → Option Addr → Sp} {E : XK} {e : Expr} {es : List Expr} {t : TA} {p pos : Pos}
def tXfA (K : PySem.W.Frag) (a : Addr) (cls : Value) (d : Option Addr) (f : Str) (te : TE) : TE := fun σ H Q => te σ H fun x H1 => x = .ref a ∧ ∃ (C dd : Addr) (fs : List (Str × V)) (v : V), cls = .ref C ∧ XfC K C ∧ PySem.W.findIn K (.ref C) f = some none ∧ d = some dd ∧ H1 dd = some (.xd fs) ∧ fs.lookup f = some v ∧ Q v H1
theorem pe_xfP {a : Addr} {oe : Obj} {cls : Value} {d : Option Addr} {te : TE} {n : Str} (hm : (a, oe) ∈ X.pn) (hz : Zc cls d oe) (hf : ∃ vs, oe.data = .fields vs) (he : PE X e te) (hb : attributeBase e n X.env (eval e X.env) = eval e X.env := by rfl) :
    PE X (.Attribute e n pos) (tXfA X.K a cls d n te) := by
  refine ⟨fun pins s σ H Q I h => ?_⟩
  refine attr_of hb (thn (he.run pins s σ H _ I h) fun u s1 hh => ?_)
  obtain ⟨x, H1, I1, rx, ex, C, dd, fs, v, ec, T, hno, ed, ea, l, q⟩ := hh
  subst ex
  obtain rfl : u = Value.ref a := rx
  subst ec
  subst ed
  obtain ⟨ha, _⟩ := I1.pin (a, oe) (List.mem_append_left _ hm)
  obtain ⟨vs, hd⟩ := hf
  have hx : ObjOk X.prog X.w H1 s1.heap dd (.xd fs) := I1.hok dd _ ea
  obtain ⟨mA, hns, hr⟩ := hx
  obtain ⟨od, ho, hl⟩ := lookIn_ns hns
  obtain ⟨u, hu, ru⟩ := RelO.some_of (v := v) (o := mA n) (by rw [← l]; exact hr n)
  have J : PySem.W.InstAt s1.heap a oe C (some od) := ⟨ha, hz.1, by unfold PySem.W.notCls; rw [hd] <;> rfl, by rw [hz.2]; exact ho⟩
  exact HandSPX.exc_get I1.kIn J T.ga T.gg T.exC (PySem.W.findObj_own T.hdC hno rfl (by rw [hl, hu])) (handed_of ru) ⟨v, H1, I1.tok _, ru, q⟩
end
namespace Ab
def tXfA (K : PySem.W.Frag) (a C d : Addr) (f : Str) (te : Ab.TE) : Ab.TE := fun s M P => te s M fun x M1 => x = .ref a ∧ XfC K C ∧ PySem.W.findIn K (.ref C) f = some none ∧ ∃ (fs : List (Str × A)) (v : A), M1 d = some (.xd fs) ∧ valA fs f = some v ∧ P v M1
end Ab
namespace Ab
def rMax (K : PySem.W.Frag) : RB := fun xs M P => ∃ (p : Addr) (ns : List Int), xs = [.ref p] ∧ M p = some (.lst (ns.map A.int)) ∧ 0 < ns.length ∧ ∀ m, m ∈ ns → (∀ y, y ∈ ns → y ≤ m) → P (.int m) M
theorem g_max {K : PySem.W.Frag} {p : Addr} {ns : List Int} {M : AM} {P : AK} (h : M p = some (.lst (ns.map A.int))) (h0 : 0 < ns.length) (k : ∀ m, m ∈ ns → (∀ y, y ∈ ns → y ≤ m) → P (.int m) M) : rMax K [.ref p] M P := ⟨p, ns, rfl, h, h0, k⟩
theorem g_sum {K : PySem.W.Frag} {p : Addr} {ns : List Int} {M : AM} {P : AK} (h : M p = some (.lst (ns.map A.int))) (k : P (.int ns.sum) M) : rSum K [.ref p] M P := ⟨_, ns, rfl, ⟨p, rfl, h⟩, k⟩
end Ab
namespace Rf
section
variable {K : PySem.W.Frag} {E : XK} {X : AX}
theorem rMax : ROB K (L2.rMax K) (Ab.rMax K) := ⟨fun F H M xs as Q P r m ⟨l, ns, e, hl, h0, p⟩ k => by
  subst e
  obtain ⟨v, rfl, rv⟩ := one r
  cases RV.ref_iff.mp rv
  obtain ⟨vs, h1, h2⟩ := m.at_ _ _ hl
  cases RL.ints_inv h2
  exact ⟨l, ns, rfl, .inl (.inl h1), h0, fun x hx hy => k _ M _ H (p x hx hy) m (RV.int_iff.mpr rfl) (Tp.refl _)⟩⟩
theorem tXfA {a C0 d : Addr} {f : Str} {te : L2.TE} {ue : Ab.TE} (h : RE K E X te ue) : RE K E X (My.tXfA K a (.ref C0) (some d) f te) (Ab.tXfA K a C0 d f ue) := ⟨fun F σ H s M Q P x rs m p k => h.run F σ H s M _ _ x rs m p fun b M1 v H1 ⟨e, hX, hn, fs, w, hd, hf, p1⟩ m1 rv c1 => by
  subst e
  cases RV.ref_iff.mp rv
  obtain ⟨ys, h1, h2⟩ := m1.at_ _ _ hd
  obtain ⟨w2, h3, h4⟩ := look h2 hf
  exact ⟨rfl, C0, d, ys, w2, rfl, hX, hn, rfl, h1, h3, k _ M1 _ H1 p1 m1 h4 c1⟩⟩
end
end Rf
end My

namespace My
open PySem PySem.Spec PyProof.Rows L2
namespace Ab
def downA (i : Int) (n : Nat) : List A := (List.range n).map fun (k : Nat) => A.int (i - (k : Int))
def iRng3 (ta : Ab.TA) : Ab.TI := fun s M R => ta s M fun vs M1 => ∃ i j : Int, vs = [.int i, .int j, .int (-1)] ∧ (-(2 ^ 62) ≤ i ∧ i < 2 ^ 62 ∧ -(2 ^ 62) ≤ j ∧ j < 2 ^ 62) ∧ R (downA i (i - j).toNat) (fun _ => True) M1
theorem down_len {i : Int} {n : Nat} : (downA i n).length = n := by unfold downA; simp
theorem down_get {i : Int} {n k : Nat} {x : A} (h : (downA i n)[k]? = some x) : k < n ∧ x = .int (i - (k : Int)) := by
  have hk : k < n := by
    have := (List.getElem?_eq_some_iff.mp h).1
    rw [down_len] at this
    exact this
  unfold downA at h
  rw [List.getElem?_map, List.getElem?_range hk] at h
  exact ⟨hk, (Option.some.inj h).symm⟩
theorem g_iR3 {ta : Ab.TA} {s : AS} {M : AM} {R : List A → (AM → Prop) → AM → Prop} (h : ta s M fun vs M1 => ∃ i j : Int, vs = [.int i, .int j, .int (-1)] ∧ (-(2 ^ 62) ≤ i ∧ i < 2 ^ 62 ∧ -(2 ^ 62) ≤ j ∧ j < 2 ^ 62) ∧ R (downA i (i - j).toNat) (fun _ => True) M1) : iRng3 ta s M R := h
theorem for_down {g : Ab.TG} {tb : Ab.TS} {D : Ab.Ends} {s : AS} {M : AM} {i : Int} {n : Nat} (Iv : Nat → AS → AM → Prop) (h0 : Iv 0 s M)
    (hs : ∀ (k : Nat) s M, k < n → Iv k s M → g (.int (i - (k : Int))) s M fun s2 M2 => tb { D with nx := Iv (k + 1), ct := Iv (k + 1), bk := D.nx } s2 M2) (hd : ∀ s M, Iv n s M → D.nx s M) : ForA g tb D s (downA i n) (fun _ => True) M :=
  for_ Iv h0 (fun _ _ _ _ _ => trivial) (fun k x s M hx q => by obtain ⟨h1, rfl⟩ := down_get hx; exact hs k s M h1 q) (fun s M q => hd s M (by rw [down_len] at q; exact q))
end Ab
namespace Rf
section
variable {K : PySem.W.Frag} {E : XK} {X : AX}
theorem iRng3 {t : L2.TA} {u : Ab.TA} (h : RA K E X t u) : RI K E X (L2.iRng3 t) (Ab.iRng3 u) := ⟨fun F σ H s M Q P x rs m p k => h.run F σ H s M _ _ x rs m p fun as M1 vs H1 ⟨i, j, e, ⟨b1, b2, b3, b4⟩, p1⟩ m1 rl0 c1 => by
  subst e
  rw [RL.cons_iff] at rl0
  obtain ⟨v, r1, rfl, rv, rl0⟩ := rl0
  obtain ⟨w, z, rfl, rw, rz⟩ := two rl0
  cases RV.int_iff.mp rv
  cases RV.int_iff.mp rw
  cases RV.int_iff.mp rz
  refine ⟨i, j, -1, (i - j).toNat, rfl, RgC.neg b1 b2 b3 b4, k _ _ _ _ _ p1 m1 c1 fun F2 hF => ⟨fun H2 M2 c2 m2 ok => ?_, fun q a H2 M2 c2 m2 ok hq => ?_⟩⟩
  · show _ ≤ _
    rw [Ab.down_len]
    exact Nat.le_refl _
  · obtain ⟨hq2, rfl⟩ := Ab.down_get hq
    refine ⟨hq2, ?_⟩
    rintro y H3 ⟨rfl, rfl⟩
    refine ⟨m2, Tp.refl _, RV.int_iff.mpr ?_, fun _ _ z => z⟩
    congr 1
    omega⟩
end
end Rf
end My

namespace My
open PySem PySem.Spec PyProof.Rows L2
section
variable {X : Cx} {CX : CXT} {k j : Nat} {x m : Str} {sp : Sp} {E : XK} {e o : Expr} {es : List Expr} {t : TA} {ta : L2.TE} {p pos apos : Pos}
end
namespace Ab
end Ab
namespace Rf
section
variable {K : PySem.W.Frag} {E : XK} {X : AX}
end
end Rf
end My

namespace My
open PySem PySem.Spec PyProof.Rows L2
namespace Ab
end Ab
namespace Rf
section
variable {K : PySem.W.Frag} {E : XK} {X : AX}
end
end Rf
end My

namespace My
namespace Ab
open PySem PySem.Spec PyProof.Rows L2
section
variable {s : AS} {M : AM} {D : Ab.Ends} {P : AK} {R : List A → (AM → Prop) → AM → Prop}
end
end Ab
end My

namespace My
open PySem PySem.Spec PyProof.Rows L2
section
variable {X : Cx}
end
namespace Ab
end Ab
namespace Rf
section
variable {K : PySem.W.Frag}
end
end Rf
end My

namespace My
open PySem PySem.Spec PyProof.Rows L2
section
variable {X : Cx}
variable {C fi : Addr} {fdI : FuncData} {psI : List Str} {CI : CXT} {n : Nat} {f : Str}
end
namespace Ab
end Ab
namespace Rf
section
variable {K : PySem.W.Frag}
end
end Rf
end My

namespace My
open PySem PySem.Spec PyProof.Rows L2
section
variable {X : Cx} {CX : CXT} {k j : Nat} {x m : Str} {sp : Sp} {e o i : Expr} {t : TA} {ta tb te to ti : L2.TE} {p pos apos : Pos}
end
namespace Ab
end Ab
namespace Rf
section
variable {K : PySem.W.Frag} {E : XK} {X : AX}
end
end Rf
namespace Ab
section
variable {s : AS} {M : AM} {D : Ab.Ends} {P : AK}
end
end Ab
namespace Rf
end Rf
end My

namespace My
open PySem PySem.Spec PyProof.Rows L2
namespace Ab
end Ab
namespace Rf
end Rf
def rIsZ (K : PySem.W.Frag) (cls : Value) (d : Option Addr) (a : Addr) : List V → Hp → VK → Prop := fun xs H Q => ∃ (D : Addr) (c : V) (cv : Value) (b : Bool), cls = .ref D ∧ (d = none ∨ ∃ dd fs, d = some dd ∧ H dd = some (.xd fs)) ∧ ExcC K D ∧ xs = [.ref a, c] ∧ (∀ u, RelV c u → u = cv) ∧ PySem.W.kitOne K (.ref D) cv = some b ∧ Q (.bl b) H
theorem call_isZ {X : Cx} {a : Addr} {oe : Obj} {cls : Value} {d : Option Addr} {pn : List (Addr × Obj)} (hz : Zc cls d oe) (hf : ∃ vs, oe.data = .fields vs) : CallR (X.suite a ((a, oe) :: pn)) (.builtin "isinstance") (rIsZ X.K cls d a) := by
  intro pins s σ H xs us Q I r h
  obtain ⟨D, c, cv, b, rfl, hd, C, rfl, hcv, e, q⟩ := h
  cases r with
  | cons rx rr =>
    cases rr with
    | cons rt rr =>
      cases rr
      cases rx
      have ec := hcv _ rt
      subst ec
      obtain ⟨hget, _⟩ := I.pin (a, oe) (List.mem_append.mpr (.inl List.mem_cons_self))
      obtain ⟨vs, hv⟩ := hf
      rcases hd with rfl | ⟨dd, fs, rfl, hd⟩
      · have J : PySem.W.InstAt s.heap a oe D none := by
          obtain ⟨oc, od, oda, osl⟩ := oe
          obtain ⟨h1, h2⟩ := hz
          dsimp only at h1 h2 hv
          subst h1 h2 hv
          exact ⟨hget, rfl, rfl, trivial⟩
        exact PySem.W.kia_one (PySem.W.my_kitx C.hg C.hk C.hs C.hd C.ha C.hn C.ht C.hm) I.kIn J e (fun z => nomatch z) fun tk => ⟨.bl b, H, I.kept (t' := tk) fun _ _ z => z, rfl, q⟩
      · have hx : ObjOk X.prog X.w H s.heap dd (.xd fs) := I.hok dd _ hd
        obtain ⟨mA, hns, hr⟩ := hx
        obtain ⟨od, ho, hl⟩ := lookIn_ns hns
        have J : PySem.W.InstAt s.heap a oe D (some od) := ⟨hget, hz.1, by unfold PySem.W.notCls; rw [hv] <;> rfl, by rw [hz.2]; exact ho⟩
        exact PySem.W.kia_one (PySem.W.my_kitx C.hg C.hk C.hs C.hd C.ha C.hn C.ht C.hm) I.kIn J e (fun z => nomatch z) fun tk => ⟨.bl b, H, I.kept (t' := tk) fun _ _ z => z, rfl, q⟩
abbrev tTryZ := @My.tTry
theorem ps_tryZ {X : Cx} {x n : Str} {c : Value} {i : Nat} {body suite : List Stmt} {b0 : Stmt} {np pos pos' : Pos} {tb : WX → L2.TS} {ts : Addr → Value → Option Addr → L2.TS}
    (h1 : X.stack = X.env :: X.outer) (h2 : X.env.frame = some X.env.locals) (nd : X.N.Nodup) (hi : X.N[i]? = some n) (hl : X.env.kindOf n = some .local) (hc : L2.Names X x c)
    (hb : ∀ (W : WX) (pn : List (Addr × Obj)) (xe : Value → Shared → Prop), L2N.Takes (X.tr pn xe) W → PassesOwn (model X.prog X.w) X.A X.env xe → PSs (X.tr pn xe) body (tb W))
    (hsu : ∀ (a : Addr) (oe : Obj) (cls : Value) (d : Option Addr) (pn : List (Addr × Obj)), L2N.Zn cls d oe → (∃ vs, oe.data = .fields vs) → PSs (X.suite a ((a, oe) :: pn)) (b0 :: suite) (ts a cls d)) :
    PS X (.Try body [.ExceptHandler (some (.Name x np)) (some n) (b0 :: suite) pos'] [] [] pos) (tTryZ X.K c i tb ts) := ps_tryT h1 h2 nd hi hl hc hb hsu
abbrev tXfZ := @My.tXfA
namespace Ab
def hx (us : Addr → Addr → Option Addr → Ab.TS) (B : Ab.Ends) (i : Nat) (s : AS) (C : Addr) (fs : List (Str × A)) (M1 : AM) : Prop :=
  match fs with
  | [] => ∀ a, us a C none { nx := fun s2 M2 => B.nx (s2.set i none) M2, rt := B.rt, bk := fun s2 M2 => B.bk (s2.set i none) M2, ct := fun s2 M2 => B.ct (s2.set i none) M2 } (s.set i (some (.ref a))) M1
  | f :: fs => ∀ a d, M1 d = none → us a C (some d) { nx := fun s2 M2 => B.nx (s2.set i none) M2, rt := B.rt, bk := fun s2 M2 => B.bk (s2.set i none) M2, ct := fun s2 M2 => B.ct (s2.set i none) M2 } (s.set i (some (.ref a))) (aupd M1 d (.xd (f :: fs)))
def tTryZ (K : PySem.W.Frag) (c : Value) (i : Nat) (ub : AX → Ab.TS) (us : Addr → Addr → Option Addr → Ab.TS) : Ab.TS := fun B s M =>
  ub (fun C fs M1 => PySem.W.exmOne K (.ref C) c = some true ∧ hx us B i s C fs M1) B s M
theorem g_tryZ {K : PySem.W.Frag} {c : Value} {i : Nat} {ub : AX → Ab.TS} {us : Addr → Addr → Option Addr → Ab.TS} {B : Ab.Ends} {s : AS} {M : AM} (h : ub (fun C fs M1 => PySem.W.exmOne K (.ref C) c = some true ∧ hx us B i s C fs M1) B s M) : tTryZ K c i ub us B s M := h
def rIsZ (K : PySem.W.Frag) (C : Addr) (od : Option Addr) (a : Addr) : Ab.RB := fun xs M P => ∃ (c : A) (cv : Value) (b : Bool), (od = none ∨ ∃ d fs, od = some d ∧ M d = some (.xd fs)) ∧ ExcC K C ∧ xs = [.ref a, c] ∧ ((∃ q, c = .ref q ∧ cv = .ref q) ∨ (∃ T, c = .ty T ∧ cv = .type T)) ∧ PySem.W.kitOne K (.ref C) cv = some b ∧ P (.bl b) M
theorem g_isZ {K : PySem.W.Frag} {C a T : Addr} {od : Option Addr} {b : Bool} {M : AM} {P : AK} (m : od = none ∨ ∃ d fs, od = some d ∧ M d = some (.xd fs)) (hC : ExcC K C) (hk : PySem.W.kitOne K (.ref C) (.ref T) = some b) (h : P (.bl b) M) : rIsZ K C od a [.ref a, .ref T] M P :=
  ⟨.ref T, _, b, m, hC, rfl, .inl ⟨T, rfl, rfl⟩, hk, h⟩
def tXfZ (K : PySem.W.Frag) (a C : Addr) (od : Option Addr) (f : Str) (te : Ab.TE) : Ab.TE := fun s M P => te s M fun x M1 => x = .ref a ∧ XfC K C ∧ PySem.W.findIn K (.ref C) f = some none ∧ ∃ (d : Addr) (fs : List (Str × A)) (v : A), od = some d ∧ M1 d = some (.xd fs) ∧ valA fs f = some v ∧ P v M1
theorem g_xfZ {K : PySem.W.Frag} {a C : Addr} {od : Option Addr} {f : Str} {te : Ab.TE} {s : AS} {M : AM} {P : AK} (h : te s M fun x M1 => x = .ref a ∧ XfC K C ∧ PySem.W.findIn K (.ref C) f = some none ∧ ∃ (d : Addr) (fs : List (Str × A)) (v : A), od = some d ∧ M1 d = some (.xd fs) ∧ valA fs f = some v ∧ P v M1) : tXfZ K a C od f te s M P := h
end Ab
namespace Rf
section
variable {K : PySem.W.Frag} {E : XK} {X : AX}
theorem tTryZG {c : Value} {i : Nat} {tb : WX → L2.TS} {tb2 : XK → L2.TS} {ub : AX → Ab.TS} {ts : Addr → Value → Option Addr → L2.TS} {us : Addr → Addr → Option Addr → Ab.TS} (e : ∀ W D σ H, tb2 (fun c d G => W c d σ G) D σ H → tb W D σ H)
    (hb : ∀ E X, RSt K E X (tb2 E) (ub X)) (hs : ∀ a C od, RSt K E X (ts a (.ref C) od) (us a C od)) : RSt K E X (My.tTryZ K c i tb ts) (Ab.tTryZ K c i ub us) := ⟨fun F σ H s M De B x rs m p dk => by
  refine e _ De σ H ((hb _ _).run F σ H s M De B ⟨fun C fs M1 od G ⟨hC, hq⟩ r nd tp => ?_⟩ rs m p dk)
  have dk2 := dk.up tp
  have ends : DOk K F G { nx := fun s2 M2 => B.nx (s2.set i none) M2, rt := B.rt, bk := fun s2 M2 => B.bk (s2.set i none) M2, ct := fun s2 M2 => B.ct (s2.set i none) M2 } { nx := fun σ' H' => De.nx (σ'.set i none) H', rt := De.rt, bk := fun σ' H' => De.bk (σ'.set i none) H', ct := fun σ' H' => De.ct (σ'.set i none) H' } :=
    ⟨fun s2 M2 σ2 G2 h k r t => dk2.nx _ _ _ _ h k.unset r t, dk2.rt, fun s2 M2 σ2 G2 h k r t => dk2.bk _ _ _ _ h k.unset r t, fun s2 M2 σ2 G2 h k r t => dk2.ct _ _ _ _ h k.unset r t⟩
  refine ⟨true, hC, fun _ a na => ?_, fun z => nomatch z⟩
  rcases nd with ⟨rfl, rfl⟩ | ⟨nf, d, ys, rfl, n1, n2, ed, kd⟩
  · exact (hs a C none).run F _ G _ _ _ _ (x.up tp) ((rs.up tp).set (RV.ref_iff.mpr rfl)) r (hq a) ends
  · cases fs with
    | nil => exact absurd rfl nf
    | cons f fs =>
      have r2 : Rep K F G (aupd M1 d (.xd (f :: fs))) := r.tell n1 ⟨ys, ed, kd⟩
      exact (hs a C (some d)).run F _ G _ _ _ _ (x.up tp) ((rs.up tp).set (RV.ref_iff.mpr rfl)) r2 (hq a d n2) ends⟩
section
variable {c : Value} {i : Nat} {ts : Addr → Value → Option Addr → L2.TS} {us : Addr → Addr → Option Addr → Ab.TS} {C : Addr} {m : Str} {sp : Sp} {asp : ASp} {t : L2.TA} {u : Ab.TA} {ta tb : L2.TE} {ua ub : Ab.TE} {g : L2.TG} {ug : Ab.TG}
end
theorem rIsZ {C a : Addr} {od : Option Addr} : ROB K (My.rIsZ K (.ref C) od a) (Ab.rIsZ K C od a) := ⟨fun F H M xs as Q P rl m ⟨c, cv, b, hd, hC, e, hc, hk, p⟩ k => by
  subst e
  obtain ⟨v, w, rfl, rv, rw⟩ := two rl
  cases RV.ref_iff.mp rv
  refine ⟨C, w, cv, b, rfl, ?_, hC, rfl, ?_, hk, k _ M _ H p m (RV.bl_iff.mpr rfl) (Tp.refl _)⟩
  · rcases hd with rfl | ⟨d, fs, rfl, hd⟩
    · exact .inl rfl
    · obtain ⟨ys, h1, h2⟩ := m.at_ _ _ hd
      exact .inr ⟨d, ys, rfl, h1⟩
  · rcases hc with ⟨q, rfl, rfl⟩ | ⟨T, rfl, rfl⟩
    · cases RV.ref_iff.mp rw
      intro u hu
      exact hu
    · cases RV.ty_iff.mp rw
      intro u hu
      exact hu⟩
theorem tXfZ {a C0 : Addr} {od : Option Addr} {f : Str} {te : L2.TE} {ue : Ab.TE} (h : RE K E X te ue) : RE K E X (My.tXfZ K a (.ref C0) od f te) (Ab.tXfZ K a C0 od f ue) := ⟨fun F σ H s M Q P x rs m p k => h.run F σ H s M _ _ x rs m p fun b M1 v H1 ⟨e, hX, hn, d, fs, w, eo, hd, hf, p1⟩ m1 rv c1 => by
  subst e eo
  cases RV.ref_iff.mp rv
  obtain ⟨ys, h1, h2⟩ := m1.at_ _ _ hd
  obtain ⟨w2, h3, h4⟩ := look h2 hf
  exact ⟨rfl, C0, d, ys, w2, rfl, hX, hn, rfl, h1, h3, k _ M1 _ H1 p1 m1 h4 c1⟩⟩
end
end Rf
end My

namespace My
open PySem PySem.Spec PyProof.Rows L2
namespace Ab
end Ab
namespace Rf
end Rf
section
variable {X : Cx} {CX : CXT} {k j : Nat} {x : Str} {sp : Sp} {a b : Expr} {ta tb : L2.TE} {pos : Pos}
end
namespace Ab
end Ab
namespace Rf
section
variable {K : PySem.W.Frag} {E : XK} {X : AX}
end
end Rf
end My

namespace My
open PySem PySem.Spec PyProof.Rows GenW L2
section
variable {prog : Program} {w : World} {A : Around} {R : GenEnd} {Y : Protocol} {n : Nat} {s₀ : Shared} {c : Code} {fs : List Frame} {s : Shared} {env : Env} {target iter : Expr} {body : List Stmt} {pos : Pos} {it : Value} {K : Flow → Sem PySem.Fin} {J : Value → Sem PySem.Fin} {gd : Bool → Bool} {lv : List Value → List Value}
theorem seg_For {M : Model} (hs : ∀ x, foldedSetIterable iter env x = pure x)
    (h : wpAny M (A.over c fs) (eval iter env) (fun x s₁ => wpAny M (A.over c fs) (pyIter x) (fun it s₂ => ∀ p, Seg M A R Y n s₀ (.forLoop target it body [] env) (M.den (.forLoop target it body [] env))
      (.ret (fun r => ((match r with | .ok f => (.pure f : Sem Flow) | .error e => .raise e).onRaise (cameBack env)).wrap K J gd lv) none (gd false) (lv []) c p [] :: fs) s₂)
        (fun x s' => Seg M A R Y n s₀ c (J x) fs s') s₁) (fun x s' => Seg M A R Y n s₀ c (J x) fs s') s) :
    Seg M A R Y n s₀ c ((exec (.For target iter body [] pos) env).wrap K J gd lv) fs s := by
  rw [exec_For]
  refine seg_bind_wrap (wpAny_standAt ?_)
  refine seg_bind_wrap (wpAny_mono h (fun x s₁ h₁ => ?_) fun _ _ z => z)
  refine seg_bind_wrap (wpAny_of_eq (hs x) ?_)
  refine seg_bind_wrap (wpAny_standAt ?_)
  refine seg_bind_wrap (wpAny_holding (wpAny_mono h₁ (fun it s₂ h₂ => ?_) fun _ _ z => z))
  exact seg_call h₂
abbrev noteX (env : Env) (e : Value) : Sem PySem.Fin := (do noteFrame e env; theTreesLotGoes e : Sem Unit).wrap (fun _ => .raise e) .raise id id
theorem seg_forLoop
    (h : wpAny (model prog w) (A.over (.forLoop target it body [] env) fs) (pyNext it) (fun r s' => match r with
      | none => Seg (model prog w) A R Y n s₀ (.block [] env) ((model prog w).den (.block [] env)) fs s'
      | some v => wpAny (model prog w) (A.over (.forLoop target it body [] env) fs) (letOwnedTupleGo target it v) (fun _ s1 => wpAny (model prog w) (A.over (.forLoop target it body [] env) fs) (assign target env v) (fun _ s2 =>
          Seg (model prog w) A R Y n s₀ (.forLoop target it body [] env) ((execs body env).wrap (fun f => match f with
            | .next | .cont => .pure (.again (.forLoop target it body [] env))
            | .brk => .pure (.done .next)
            | .ret v => .pure (.done (.ret v))) (noteX env) id id) fs s2)
          (fun x s' => Seg (model prog w) A R Y n s₀ (.forLoop target it body [] env) (noteX env x) fs s') s1)
          (fun x s' => Seg (model prog w) A R Y n s₀ (.forLoop target it body [] env) (noteX env x) fs s') s')
      (fun x s' => Seg (model prog w) A R Y n s₀ (.forLoop target it body [] env) (noteX env x) fs s') s) :
    Seg (model prog w) A R Y n s₀ (.forLoop target it body [] env) ((model prog w).den (.forLoop target it body [] env)) fs s := by
  have hn : ∀ x, ((do noteFrame x env; theTreesLotGoes x : Sem Unit).bind fun _ => (.raise x : Sem PySem.Fin)) = noteX env x := fun x => by rw [Sem.bind_eq_wrap]
  show Seg _ A R Y n s₀ _ ((forTurn target it body [] env).onRaise (fun x => do noteFrame x env; theTreesLotGoes x)) fs s
  unfold forTurn
  rw [Sem.onRaise_eq_wrap]
  refine seg_bind_wrap (wpAny_standAt ?_)
  refine seg_bind_wrap (wpAny_onRaise (wpAny_mono h (fun r s' hr => ?_) fun x s' hx => wpAny_standAt ?_))
  · cases r with
    | none =>
      exact seg_again rfl hr
    | some v =>
      refine seg_bind_wrap (wpAny_mono hr (fun _ s1 h1 => ?_) fun x s' hx => ?_)
      · refine seg_bind_wrap (wpAny_mono h1 (fun _ s2 h2 => ?_) fun x s' hx => ?_)
        · rw [Sem.bind_eq_wrap', Sem.wrap_wrap]
          rw [Sem.wrap_congr (execs body env) _ _ (K' := fun f => match f with
            | .next | .cont => .pure (.again (.forLoop target it body [] env))
            | .brk => .pure (.done .next)
            | .ret v => .pure (.done (.ret v))) (H' := noteX env)
            (fun f => by cases f <;> rfl)
            (fun e => by first | exact hn e | exact Sem.bind_eq_wrap _ _)]
          exact h2
        · first | exact hx | (rw [← hn x] at hx; exact hx)
      · first | exact hx | (rw [← hn x] at hx; exact hx)
  · first | exact hx | (rw [← hn x] at hx; exact hx)
end
def tGFor (wi : TI) (g : TG) (tb : TGn) : TGn := fun D ys σ H => wi σ H fun J H1 => ∃ W : Nat → Nat → List V → L2.St → Hp → Prop, (∃ m, W 0 m ys σ H1) ∧ ∀ i m ys σ H, W i m ys σ H →
  (J.stop i H ∧ D.nx ys σ H) ∨ (J.go i H ∧ ∃ N : List V → L2.St → Hp → Prop, (∀ ys' σ' H', N ys' σ' H' → ∃ m', m' < m ∧ W (i + 1) m' ys' σ' H') ∧ ∀ x H', J.yld i H x H' → g x σ H' fun σ2 H2 => tb { D with nx := N, ct := N, bk := D.nx } ys σ2 H2)
section
variable {X : Cx} {tg iter : Expr} {body : List Stmt} {pos : Pos} {wi : TI} {g : TG} {tb : TGn}
end
end My

namespace My
open PySem PySem.Spec PyProof.Rows L2
namespace Ab
structure GEnds where
  nx : List A → AS → AM → Prop
  rt : List A → AK
  bk : List A → AS → AM → Prop := fun _ _ _ => False
  ct : List A → AS → AM → Prop := fun _ _ _ => False
abbrev TGn := Ab.GEnds → List A → AS → AM → Prop
def GEnds.at (D : Ab.GEnds) (ys : List A) : Ab.Ends := { nx := D.nx ys, rt := D.rt ys, bk := D.bk ys, ct := D.ct ys }
def tPlain (t : Ab.TS) : Ab.TGn := fun D ys s M => t (D.at ys) s M
def tG0 : Ab.TGn := fun D ys s M => D.nx ys s M
def tGThen (t u : Ab.TGn) : Ab.TGn := fun D ys s M => t { D with nx := fun ys' s' M' => u D ys' s' M' } ys s M
def tGFor (wi : Ab.TI) (g : Ab.TG) (tb : Ab.TGn) : Ab.TGn := fun D ys s M => wi s M fun xs ok M1 => ∃ Inv : Nat → List A → AS → AM → Prop, Inv 0 ys s M1 ∧ (∀ i ys s M, i ≤ xs.length → Inv i ys s M → ok M) ∧
  (∀ i x ys s M, xs[i]? = some x → Inv i ys s M → g x s M fun s2 M2 => tb { D with nx := Inv (i + 1), ct := Inv (i + 1), bk := D.nx } ys s2 M2) ∧ ∀ ys s M, Inv xs.length ys s M → D.nx ys s M
abbrev ASpG := List A → AM → (List A → AM → Prop) → AX → Prop
def WkG (P : List A → AM → Prop) : List A → AM → Prop := fun ys M => ∃ M0, Sub M0 M ∧ P ys M0
end Ab
def liftG (K : PySem.W.Frag) (asp : Ab.ASpG) : SpG := fun vs H Q E => ∃ F as M P X, RL H as vs ∧ Rep K F H M ∧ asp as M P X ∧ (∀ as' M' ys H', P as' M' → Rep K F H' M' → RL H' as' ys → Tp H H' → Q ys H') ∧ XOk K F H E X
structure GOk (K : PySem.W.Frag) (F H : Hp) (B : Ab.GEnds) (D : L2.GEnds) : Prop where
  nx : ∀ as s M ys σ H', B.nx as s M → RL H' as ys → RS H' s σ → Rep K F H' M → Tp H H' → D.nx ys σ H'
  rt : ∀ as a M ys x H', B.rt as a M → RL H' as ys → Rep K F H' M → RV H' a x → Tp H H' → D.rt ys x H'
  bk : ∀ as s M ys σ H', B.bk as s M → RL H' as ys → RS H' s σ → Rep K F H' M → Tp H H' → D.bk ys σ H'
  ct : ∀ as s M ys σ H', B.ct as s M → RL H' as ys → RS H' s σ → Rep K F H' M → Tp H H' → D.ct ys σ H'
theorem GOk.up {K : PySem.W.Frag} {F H H1 : Hp} {B : Ab.GEnds} {D : L2.GEnds} (d : GOk K F H B D) (c : Tp H H1) : GOk K F H1 B D :=
  ⟨fun as s M ys σ H' q y r p t => d.nx _ _ _ _ _ _ q y r p (c.trans t), fun as a M ys x H' q y p r t => d.rt _ _ _ _ _ _ q y p r (c.trans t), fun as s M ys σ H' q y r p t => d.bk _ _ _ _ _ _ q y r p (c.trans t), fun as s M ys σ H' q y r p t => d.ct _ _ _ _ _ _ q y r p (c.trans t)⟩
section
variable (K : PySem.W.Frag) (E : XK) (X : AX)
structure RGn (t : L2.TGn) (u : Ab.TGn) : Prop where
  run : ∀ F σ H s M as ys D B, XOk K F H E X → RL H as ys → RS H s σ → Rep K F H M → u B as s M → GOk K F H B D → t D ys σ H
end
structure RSpG (K : PySem.W.Frag) (sp : SpG) (asp : Ab.ASpG) : Prop where
  run : ∀ F vs as H M Q P E X, RL H as vs → Rep K F H M → asp as M P X → (∀ as' M' ys H', P as' M' → Rep K F H' M' → RL H' as' ys → Tp H H' → Q ys H') → XOk K F H E X → sp vs H Q E
theorem RSpG.lift {K : PySem.W.Frag} {asp : Ab.ASpG} : RSpG K (liftG K asp) asp := ⟨fun F vs as H M Q P E X h r a k x => ⟨F, as, M, P, X, h, r, a, k, x⟩⟩
namespace Rf
section
variable {K : PySem.W.Frag} {E : XK} {X : AX}
theorem gPlain {t : L2.TS} {u : Ab.TS} (h : RSt K E X t u) : RGn K E X (L2.tPlain t) (Ab.tPlain u) := ⟨fun F σ H s M as ys D B x ry rs m p d =>
  h.run F σ H s M _ _ x rs m p ⟨fun s2 M2 σ2 H2 q r2 m2 c2 => d.nx _ _ _ _ _ _ q (ry.up c2) r2 m2 c2, fun a M2 x2 H2 q m2 rv c2 => d.rt _ _ _ _ _ _ q (ry.up c2) m2 rv c2, fun s2 M2 σ2 H2 q r2 m2 c2 => d.bk _ _ _ _ _ _ q (ry.up c2) r2 m2 c2, fun s2 M2 σ2 H2 q r2 m2 c2 => d.ct _ _ _ _ _ _ q (ry.up c2) r2 m2 c2⟩⟩
theorem gG0 : RGn K E X L2.tG0 Ab.tG0 := ⟨fun F σ H s M as ys D B x ry rs m p d => d.nx _ _ _ _ _ _ p ry rs m (Tp.refl _)⟩
end
end Rf
end My

namespace My
open PySem PySem.Spec PyProof.Rows L2
section
variable {P : Program} {w : World} {K : PySem.W.Frag} {mg : Str → Option Value} {base : Heap} {x qual : Str} {params : Arguments} {body : List Stmt} {scope : Scope} {f : Addr} {fd : FuncData} {N ps : List Str} {k : Nat} {sp : SpG}
end
section
variable {X : Cx} {CX : CXT} {k j i : Nat} {x m y : Str} {sp : Sp} {spg : SpG} {E : XK} {e o : Expr} {es : List Expr} {t : TA} {ta : L2.TE} {p pos apos pos2 : Pos}
end
namespace Ab
end Ab
namespace Rf
section
variable {K : PySem.W.Frag} {E : XK} {X : AX}
end
end Rf
end My

namespace My
open PySem PySem.Spec PyProof.Rows GenW L2
def cutH (h : Heap) (L : Addr) : Heap := { h with objs := h.objs.extract 0 L }
theorem cutH_size {h : Heap} {L : Addr} (hl : L ≤ h.objs.size) : (cutH h L).objs.size = L := by
  show (h.objs.extract 0 L).size = L
  rw [Array.size_extract, Nat.sub_zero]
  exact Nat.min_eq_left hl
theorem cutH_le {h : Heap} {L : Addr} : (cutH h L).objs.size ≤ L := by
  show (h.objs.extract 0 L).size ≤ L
  rw [Array.size_extract, Nat.sub_zero]
  exact Nat.min_le_left _ _
theorem cutH_get {h : Heap} {L b : Addr} (hb : b < L) : (cutH h L).get? b = h.get? b := by
  have e : (cutH h L).objs[b]? = h.objs[b]? := by
    show (h.objs.extract 0 L)[b]? = _
    rw [Array.getElem?_extract]
    rw [Nat.sub_zero, Nat.zero_add]
    by_cases c : b < h.objs.size
    · rw [if_pos (Nat.lt_min.mpr ⟨hb, c⟩)]
    · rw [if_neg fun z => c (Nat.lt_min.mp z).2, Array.getElem?_eq_none (Nat.not_lt.mp c)]
  unfold Heap.get?
  rw [e]
theorem of_cutH {h : Heap} {L b : Addr} {o : Obj} (e : (cutH h L).get? b = some o) : b < L ∧ h.get? b = some o := by
  have hb : b < L := Nat.lt_of_lt_of_le (Heap.lt_size e) cutH_le
  exact ⟨hb, by rw [← cutH_get hb]; exact e⟩
abbrev cutSh (s : Shared) (L : Addr) : Shared := { s with heap := cutH s.heap L }
theorem funs_cut {base h : Heap} {L : Addr} : ∀ {l : List Env}, h.FunFrames base l → (∀ b ∈ frs l, b < L) → (cutH h L).FunFrames base l
  | [], _, _ => trivial
  | env :: l, ⟨hk, ⟨b, o, hf, hn, ho, hd⟩, hr⟩, hb => by
    have hm : b ∈ frs (env :: l) := by unfold frs; rw [List.filterMap_cons, hf]; exact List.mem_cons_self
    refine ⟨hk, ⟨b, o, hf, hn, by rw [cutH_get (hb b hm)]; exact ho, hd⟩, funs_cut hr fun c hc => hb c ?_⟩
    unfold frs
    rw [List.filterMap_cons, hf]
    exact List.mem_cons_of_mem _ hc
theorem noCells : ∀ {names : List (Str × NameKind)} {n : Nat}, (∀ y ∈ names, y.2 ≠ .cell) → cellsFrom n names [] = []
  | [], _, _ => rfl
  | (x, k) :: r, n, h => by
    have h1 := h (x, k) List.mem_cons_self
    unfold cellsFrom
    rw [if_neg (by intro z; exact h1 (by simpa using z))]
    exact noCells fun y hy => h y (List.mem_cons_of_mem _ hy)
def turnCx (P : Program) (w : World) (K : PySem.W.Frag) (mg : Str → Option Value) (base : Heap) (N : List Str) (qual : Str) (scope : Scope) (f : Addr) (cd : Value) (A : Around) (outer : List Env) (L : Addr) (s : Shared) (H : Hp) (E : XK) (pn : List (Addr × Obj)) : Cx :=
  { cxOf (L2N.CX P w) P w K mg base N qual scope f cd A outer s H E with
    A := A.deeper (envOfC qual scope L f cd)
    env := envOfC qual scope L f cd
    stack := envOfC qual scope L f cd :: outer
    pn := pn
    xe := fun u s1 => wpAny (model P w) (A.deeper (envOfC qual scope L f cd)) (leaving (envOfC qual scope L f cd) u) (fun _ s2 => L2N.CX P w outer H s E u s2 ∧ ∀ q ∈ pn, s2.heap.get? q.1 = some q.2) (fun _ _ => False) s1 }
structure GZ where
  P : Program
  w : World
  K : PySem.W.Frag
  mg : Str → Option Value
  base : Heap
  N : List Str
  qual : Str
  scope : Scope
  f : Addr
  cd : Value
  A : Around
  outer : List Env
  L : Addr
  a : Addr
  go : Obj
  E : XK
  CI : List V → Hp → Shared → Prop
  Pr : List V → V → Hp → (Hp → Prop) → Prop
  Q : List V → Hp → Prop
def GZ.env (Z : GZ) : Env := envOfC Z.qual Z.scope Z.L Z.f Z.cd
def GZ.cx (Z : GZ) (s₀ : Shared) (H₀ : Hp) : Cx := turnCx Z.P Z.w Z.K Z.mg Z.base Z.N Z.qual Z.scope Z.f Z.cd Z.A Z.outer Z.L (cutSh s₀ Z.L) H₀ Z.E [(Z.a, Z.go)]
structure GZ.Ok (Z : GZ) : Prop where
  fr : ∀ b ∈ frs Z.outer, b < Z.L
  bz : Z.base.objs.size ≤ Z.L
  nc : ∀ y ∈ Z.scope.names, y.2 ≠ .cell
  aL : Z.L ≤ Z.a
  sz : ∀ ys H s, Z.CI ys H s → Z.L ≤ s.heap.objs.size
section
variable {Z : GZ} {s₀ : Shared} {H₀ : Hp}
theorem leaveN {X : Cx} {W : WX} {E : XK} {s1 : Shared} (hs : X.stack = X.env :: X.outer) (hf : X.env.frame = some X.env.locals) (hx : X.ex = []) (hW : ∀ c d σ H, W c d σ H → E c d H) {E₁ : Value → Shared → Prop} {u : Value} (x : L2N.XE X W u s1) :
    wpAny (model X.prog X.w) X.A (leaving X.env u) (fun _ s2 => L2N.CX X.prog X.w X.outer X.H_0 X.s_0 E u s2 ∧ ∀ q ∈ X.pn, s2.heap.get? q.1 = some q.2) E₁ s1 := by
  obtain ⟨a, B, sI, pins, σ, H, c, d, rfl, I, ground, upto, sky, fresh, eos, bare, w⟩ := x
  have noex : ∀ b, b ∉ X.ex := fun b q => by rw [hx] at q; cases q
  -- what stood at the entry is on the ground
  have old : ∀ {b : Addr} {o o1 : Obj}, X.s_0.heap.get? b = some o → b ∉ X.fs → sI.heap.get? b = some o1 → B.get? b = some o1 := fun {b o o1} e nb e1 => ground b o1 e1 fun m => by
    rcases List.mem_cons.mp (I.stkSub b m) with rfl | z
    · exact Nat.lt_irrefl _ (Nat.lt_of_lt_of_le (Heap.lt_size e) I.ok.above)
    · exact nb z
  have held : ∀ q ∈ X.pn, B.get? q.1 = some q.2 := fun q hq => by
    obtain ⟨e, _, n1, n2, _⟩ := I.pin q (List.mem_append_left _ hq)
    refine ground q.1 q.2 e fun m => ?_
    rcases List.mem_cons.mp (I.stkSub q.1 m) with z | z
    · exact n1 z
    · exact n2 z
  have slots : ∀ {h2 : Heap}, s1.heap.UpToSlots h2 → ∀ b o, X.s_0.heap.get? b = some o → b ∈ X.fs → ∃ sl, h2.get? b = some { o with slots := sl } := fun {h2} up2 b o e hb => by
    obtain ⟨_, o0, e0, nf⟩ := I.ok.funs.mem hb
    have : o0 = o := Option.some.inj (e0.symm.trans e)
    subst this
    obtain ⟨s2, e2⟩ := I.base.slot b _ e (I.ok.frf b hb) hb (noex b)
    obtain ⟨s3, e3⟩ := upto b _ e2 nf
    obtain ⟨s4, e4⟩ := up2 b _ e3 nf
    exact ⟨s4, e4⟩
  have close : ∀ h2, HandSPX.FlyingZ B X.outer a (L2N.Zn c d) h2 → s1.heap.UpToSlots h2 → L2N.CX X.prog X.w X.outer X.H_0 X.s_0 E (.ref a) { s1 with heap := h2 } ∧ ∀ q ∈ X.pn, ({ s1 with heap := h2 } : Shared).heap.get? q.1 = some q.2 := fun h2 fl up2 => by
    refine ⟨⟨a, B, H, c, d, rfl, fl, I.inGround ground, ⟨fun b o e n hb => old e hb (I.base.keep b o e n hb (noex b)), fun b o e hb => slots up2 b o e hb, fun b o e n => I.base.free b o e n (noex b), fun b o e hb => ?_, I.base.tups, I.base.frzs, I.base.tbls⟩, fresh, eos.trans I.os, bare, hW _ _ _ _ w⟩,
      fun q hq => fl.1 _ _ (held q hq)⟩
    obtain ⟨o1, e1⟩ := I.base.there b o e (noex b)
    exact ⟨o1, old e hb e1⟩
  have frames : X.A.frames = some (X.env :: X.outer) := by rw [I.ok.frames, hs]
  rw [hs] at sky
  rcases sky with ⟨g1, g2, g3, oe, vs, g4, g5, g6, g7⟩ | fl | hd
  · exact PXN.leaving_firstZ L2N.Zn.steady frames g3 hf g4 g1 g2 g6 g7 g5 close
  · exact PXN.leaves_onZ L2N.Zn.steady frames hf fl close
  · exact HandSPX.leaves_heldZ hf hd close
theorem takes_turn : L2N.Takes (Z.cx s₀ H₀) (fun c d _ H1 => Z.E c d H1) := fun u s1 x =>
  leaveN (X := Z.cx s₀ H₀) (W := fun c d _ H1 => Z.E c d H1) (E := Z.E) rfl rfl rfl (fun _ _ _ _ q => q) x
theorem owns_turn : PassesOwn (model Z.P Z.w) (Z.cx s₀ H₀).A (Z.cx s₀ H₀).env (Z.cx s₀ H₀).xe :=
  passes_of (X := Z.cx s₀ H₀) (K := fun u s2 => L2N.CX Z.P Z.w Z.outer H₀ (cutSh s₀ Z.L) Z.E u s2 ∧ ∀ q ∈ [(Z.a, Z.go)], s2.heap.get? q.1 = some q.2) (E₁ := fun _ _ => False) rfl
def GZ.pins (Z : GZ) (oL : Obj) (ip : List (Addr × Obj)) : List (Addr × Obj) := (Z.L, oL) :: (Z.a, Z.go) :: ip
theorem awake {ip : List (Addr × Obj)} {σ : L2.St} {H : Hp} {s : Shared} (zk : Z.Ok) (I : Inv (Z.cx s₀ H₀) ip σ H s) {oL : Obj} (hL : s.heap.get? Z.L = some oL) {s2 : Shared} {H2 : Hp} {B : Around} (e : Env0 Z.P Z.w Z.K Z.mg Z.base B Z.outer s2 H2)
    (hp : ∀ p ∈ Z.pins oL ip, s2.heap.get? p.1 = some p.2 ∧ H2 p.1 = none) : Inv (Z.cx s2 H2) ip σ H2 s2 := by
  have hL2 := hp (Z.L, oL) List.mem_cons_self
  have ec : (Z.cx s₀ H₀).env.cells = [] := noCells zk.nc
  have nol : ∀ x c, ¬ (Z.cx s₀ H₀).env.cells.lookup x = some c := fun x c q => by rw [ec] at q; cases q
  have hsz : Z.L ≤ s2.heap.objs.size := Nat.le_of_lt (Heap.lt_size hL2.1)
  refine ⟨⟨I.ok.mod, I.ok.kind, I.ok.glob, I.ok.blt, cutH_le, I.ok.inj, I.ok.has, fun x c _ q => absurd q (nol x c), I.ok.hd, I.ok.frames, I.ok.stk, fun b hb => ?_, fun b o q => ?_, ?_, fun b o _ hb => ?_, fun b hb => ?_, ?_, ?_⟩, rfl, e.bare, Un.kept fun b o q => (of_cutH q).2, ?_, fun x c q => absurd q (nol x c), hL2.2, fun x c q => absurd q (nol x c), fun p hq => ?_, e.hok, I.len⟩
  · exact absurd (show b ∈ ([] : List Addr) from hb) (by simp)
  · obtain ⟨h1, h2⟩ := e.bs b o q
    exact ⟨(cutH_get (Nat.lt_of_lt_of_le (Heap.lt_size q) zk.bz)).trans h1, h2⟩
  · show Z.base.objs.size ≤ (cutH s2.heap Z.L).objs.size
    rw [cutH_size hsz]
    exact zk.bz
  · exact absurd (show b ∈ ([] : List Addr) from hb) (by simp)
  · exact absurd (show b ∈ ([] : List Addr) from hb) (by simp)
  · exact funs_cut e.funs zk.fr
  · exact e.frf
  · obtain ⟨m, ⟨o, es, ep, ho, r⟩, hl⟩ := I.loc
    have eo : o = oL := Option.some.inj (ho.symm.trans hL)
    subst eo
    refine ⟨m, ⟨o, es, ep, hL2.1, r⟩, fun i x v e1 e2 e3 => ?_⟩
    obtain ⟨u, rv, lk⟩ := hl i x v e1 e2 e3
    refine ⟨u, rv, ?_⟩
    rcases lk with lk | ⟨_, c, q, _⟩
    · exact .inl lk
    · exact absurd q (nol x c)
  · obtain ⟨_, _, ne, nf, d⟩ := I.pin p hq
    have hm : p ∈ Z.pins oL ip := by
      rcases List.mem_append.mp hq with z | z
      · rw [List.mem_singleton.mp z]
        exact List.mem_cons_of_mem _ List.mem_cons_self
      · exact List.mem_cons_of_mem _ (List.mem_cons_of_mem _ z)
    obtain ⟨h1, h2⟩ := hp p hm
    exact ⟨h1, h2, ne, nf, d⟩
end
def GZ.Y (Z : GZ) : Protocol := fun n s₀ v s kap => ∃ ys x ip σ H₀ H kp oL, n + 1 + ys.length = sizeLine ∧ Z.CI ys H₀ s₀ ∧ RelV x v ∧ Inv (Z.cx s₀ H₀) ip σ H s ∧ s.heap.get? Z.L = some oL ∧ (∀ p ∈ ip, Z.L ≤ p.1) ∧ Z.Pr ys x H kp ∧
  ∀ s2 H2 B, kp H2 → Z.CI (ys ++ [x]) H2 s2 → Env0 Z.P Z.w Z.K Z.mg Z.base B Z.outer s2 H2 → (∀ p ∈ Z.pins oL ip, s2.heap.get? p.1 = some p.2 ∧ H2 p.1 = none) → kap (.send .none) s2 ∧ kap (.send (.bool true)) s2
def GZ.R (Z : GZ) : GenEnd := fun n s₀ r s => match r with
  | .ok f => (f = .ret .none ∨ f = .next) ∧ ∃ ys ip σ H₀ H, n + ys.length = sizeLine ∧ Z.CI ys H₀ s₀ ∧ Inv (Z.cx s₀ H₀) ip σ H s ∧ Z.Q ys H
  | .error e => ∃ ys H₀, Z.CI ys H₀ s₀ ∧ L2N.CX Z.P Z.w Z.outer H₀ (cutSh s₀ Z.L) Z.E e s ∧ s.heap.get? Z.a = some Z.go
structure GTc (Z : GZ) (ip : List (Addr × Obj)) (c : Code) (fs : List Frame) (gd : Bool → Bool) : Prop where
  ok : Z.Ok
  ip : ∀ p ∈ ip, Z.L ≤ p.1
  over : Z.A.over c fs = Z.A.deeper Z.env
  split : splitAtGen fs = none
  guard : fs.any Frame.guarded = false
  gd : gd false = false
def HP (Z : GZ) (ip : List (Addr × Obj)) (D : L2.GEnds) (ys : List V) (H₀ : Hp) (s₀ : Shared) (f : Flow) (s : Shared) : Prop :=
  match f with
  | .next => ∃ σ H, Inv (Z.cx s₀ H₀) ip σ H s ∧ D.nx ys σ H
  | .brk => ∃ σ H, Inv (Z.cx s₀ H₀) ip σ H s ∧ D.bk ys σ H
  | .cont => ∃ σ H, Inv (Z.cx s₀ H₀) ip σ H s ∧ D.ct ys σ H
  | .ret u => ∃ v σ H, Inv (Z.cx s₀ H₀) ip σ H s ∧ RelV v u ∧ D.rt ys v H
abbrev GZ.sg (Z : GZ) (n : Nat) (s₀ : Shared) (c : Code) (t : Sem PySem.Fin) (fs : List Frame) (s : Shared) : Prop := Seg (model Z.P Z.w) Z.A Z.R Z.Y n s₀ c t fs s
structure HK (Z : GZ) (ip : List (Addr × Obj)) (c : Code) (fs : List Frame) (K : Flow → Sem PySem.Fin) (J : Value → Sem PySem.Fin) (D : L2.GEnds) : Prop where
  ok : ∀ (n : Nat) (ys : List V) (s₀ : Shared) (H₀ : Hp) (s : Shared) (f : Flow), n + ys.length = sizeLine → Z.CI ys H₀ s₀ → HP Z ip D ys H₀ s₀ f s → Z.sg n s₀ c (K f) fs s
  exc : ∀ (n : Nat) (ys : List V) (s₀ : Shared) (H₀ : Hp) (e : Value) (s : Shared), n + ys.length = sizeLine → Z.CI ys H₀ s₀ → (Z.cx s₀ H₀).xe e s → Z.sg n s₀ c (J e) fs s
structure HS (Z : GZ) (st : Stmt) (t : L2.TGn) : Prop where
  run : ∀ (n : Nat) (ys : List V) (s₀ : Shared) (H₀ : Hp) (c : Code) (fs : List Frame) (K : Flow → Sem PySem.Fin) (J : Value → Sem PySem.Fin) (gd : Bool → Bool) (lv : List Value → List Value) (ip : List (Addr × Obj)) (s : Shared) (σ : L2.St) (H : Hp) (D : L2.GEnds),
    GTc Z ip c fs gd → n + ys.length = sizeLine → HK Z ip c fs K J D → Z.CI ys H₀ s₀ → Inv (Z.cx s₀ H₀) ip σ H s → t D ys σ H → Z.sg n s₀ c ((exec st Z.env).wrap K J gd lv) fs s
structure HSs (Z : GZ) (st : List Stmt) (t : L2.TGn) : Prop where
  run : ∀ (n : Nat) (ys : List V) (s₀ : Shared) (H₀ : Hp) (c : Code) (fs : List Frame) (K : Flow → Sem PySem.Fin) (J : Value → Sem PySem.Fin) (gd : Bool → Bool) (lv : List Value → List Value) (ip : List (Addr × Obj)) (s : Shared) (σ : L2.St) (H : Hp) (D : L2.GEnds),
    GTc Z ip c fs gd → n + ys.length = sizeLine → HK Z ip c fs K J D → Z.CI ys H₀ s₀ → Inv (Z.cx s₀ H₀) ip σ H s → t D ys σ H → Z.sg n s₀ c ((execs st Z.env).wrap K J gd lv) fs s
section
variable {Z : GZ} {st : Stmt} {rest : List Stmt}
theorem hp_of {ip : List (Addr × Obj)} {D : L2.GEnds} {ys : List V} {H₀ : Hp} {s₀ s : Shared} {f : Flow} (h : SP (Z.cx s₀ H₀) ip (D.at ys) f s) : HP Z ip D ys H₀ s₀ f s := by
  cases f <;> exact h
theorem hs_ps {t : L2.TS} (h : ∀ s₀ H₀, PS (Z.cx s₀ H₀) st t) : HS Z st (L2.tPlain t) := by
  refine ⟨fun n ys s₀ H₀ c fs K J gd lv ip s σ H D g hn k ci I ht => ?_⟩
  refine seg_wrap ?_
  rw [g.over]
  exact wpAny_mono ((h s₀ H₀).run _ s σ H (D.at ys) I ht) (fun f s' q => k.ok n ys s₀ H₀ s' f hn ci (hp_of q)) fun x s' q => k.exc n ys s₀ H₀ x s' hn ci q
theorem hss_nil : HSs Z [] L2.tG0 := by
  refine ⟨fun n ys s₀ H₀ c fs K J gd lv ip s σ H D g hn k ci I ht => ?_⟩
  exact seg_execs_nil (k.ok n ys s₀ H₀ s .next hn ci ⟨σ, H, I, ht⟩)
theorem hss_cons {t u : L2.TGn} (a : HS Z st t) (b : HSs Z rest u) : HSs Z (st :: rest) (L2.tGThen t u) := by
  refine ⟨fun n ys s₀ H₀ c fs K J gd lv ip s σ H D g hn k ci I ht => ?_⟩
  refine seg_execs_cons ?_
  refine a.run n ys s₀ H₀ c fs _ J gd lv ip s σ H { D with nx := fun ys' σ' H' => u D ys' σ' H' } g hn ⟨fun n1 ys1 s1 H1 s2 f hn1 ci1 q => ?_, k.exc⟩ ci I ht
  cases f with
  | next =>
    obtain ⟨σ1, H2, I1, q⟩ := q
    exact b.run n1 ys1 s1 H1 c fs K J gd lv ip s2 σ1 H2 D g hn1 k ci1 I1 q
  | brk => exact k.ok n1 ys1 s1 H1 s2 .brk hn1 ci1 q
  | cont => exact k.ok n1 ys1 s1 H1 s2 .cont hn1 ci1 q
  | ret u => exact k.ok n1 ys1 s1 H1 s2 (.ret u) hn1 ci1 q
def tHYield (Pr : List V → V → Hp → (Hp → Prop) → Prop) (te : L2.TE) : L2.TGn := fun D ys σ H => ys.length < sizeLine ∧ te σ H fun x H1 => Pr ys x H1 fun H2 => D.nx (ys ++ [x]) σ H2
theorem hs_yield {e : Expr} {yp pos : Pos} {te : L2.TE} (he : ∀ s₀ H₀, PE (Z.cx s₀ H₀) e te) (hco : Z.env.scope.isCoroutine = false := by rfl) (hi : interactive Z.env = false := by rfl) : HS Z (.Expr (.Yield (some e) yp) pos) (tHYield Z.Pr te) := by
  refine ⟨fun n ys s₀ H₀ c fs K J gd lv ip s σ H D g hn k ci I ht => ?_⟩
  obtain ⟨hlt, ht⟩ := ht
  obtain ⟨m, rfl⟩ : ∃ m, n = m + 1 := ⟨n - 1, by omega⟩
  refine seg_Expr_Yield g.split g.gd g.guard ?_ hco hi
  rw [g.over]
  refine wpAny_mono ((he s₀ H₀).run _ s σ H _ I ht) (fun v s1 q => ?_) fun x s1 q => k.exc _ ys s₀ H₀ x s1 hn ci q
  obtain ⟨x, H1, I1, rv, q⟩ := q
  intro kap hk
  obtain ⟨mm, ⟨oL, _, _, hoL, _⟩, _⟩ := I1.loc
  refine ⟨ys, x, ip, σ, H₀, H1, _, oL, hn, ci, rv, I1, hoL, g.ip, q, fun s2 H2 B kp ci2 e0 hp => ?_⟩
  have hn2 : m + (ys ++ [x]).length = sizeLine := by
    rw [List.length_append, List.length_singleton]
    omega
  have go : Z.sg m s2 c (K .next) fs s2 := k.ok m (ys ++ [x]) s2 H2 s2 .next hn2 ci2 ⟨σ, H2, awake g.ok I1 hoL e0 hp, kp⟩
  exact ⟨hk .none s2 go, hk (.bool true) s2 go⟩
end
section
variable {Z : GZ} {tg iter : Expr} {body : List Stmt} {pos : Pos} {wi : L2.TI} {g : L2.TG} {tb : L2.TGn}
theorem gtc_loop {ip : List (Addr × Obj)} {c c' : Code} {fs : List Frame} {gd : Bool → Bool} {k : Result → Sem PySem.Fin} {l kp : List Value} {p : Pos} (q : GTc Z ip c fs gd) (hw : c'.weight = 0) (hu : c'.cUnits = 0) :
    GTc Z ip c' (.ret k none (gd false) l c p kp :: fs) id := by
  refine ⟨q.ok, q.ip, (over_loop hw hu).trans q.over, ?_, ?_, rfl⟩
  · show (splitAtGen fs).map _ = none
    rw [q.split]
    rfl
  · rw [List.any_cons, q.guard, Bool.or_false]; exact q.gd
theorem hs_back {ip : List (Addr × Obj)} {c : Code} {fs : List Frame} {K : Flow → Sem PySem.Fin} {J : Value → Sem PySem.Fin} {gd : Bool → Bool} {lv : List Value → List Value} {D : L2.GEnds} {n : Nat} {ys : List V} {H₀ : Hp} {s₀ s : Shared} {e : Value}
    (q : GTc Z ip c fs gd) (k : HK Z ip c fs K J D) (hn : n + ys.length = sizeLine) (ci : Z.CI ys H₀ s₀) (h : cameBackBy (model Z.P Z.w) (Z.cx s₀ H₀).A Z.env (Z.cx s₀ H₀).xe e s) :
    Z.sg n s₀ c (((Sem.raise e : Sem Flow).onRaise (cameBack Z.env)).wrap K J gd lv) fs s := by
  have e1 : ((Sem.raise e : Sem Flow).onRaise (cameBack Z.env)).wrap K J gd lv = (cameBack Z.env e).wrap (fun _ => J e) J gd lv := by
    show ((cameBack Z.env e).bind fun _ => (Sem.raise e : Sem Flow)).wrap K J gd lv = _
    rw [Sem.bind_eq_wrap, Sem.wrap_wrap]
    rfl
  rw [e1]
  refine seg_wrap ?_
  rw [q.over]
  exact wpAny_mono h (fun _ s' hx => k.exc n ys s₀ H₀ e s' hn ci hx) fun x s' hx => k.exc n ys s₀ H₀ x s' hn ci hx
theorem hs_for (hi : ∀ s₀ H₀, PI (Z.cx s₀ H₀) tg iter wi) (hg : ∀ s₀ H₀, PG (Z.cx s₀ H₀) tg g) (hb : HSs Z body tb)
    (hs : ∀ x, foldedSetIterable iter Z.env x = pure x := by intro _; rfl) : HS Z (.For tg iter body [] pos) (tGFor wi g tb) := by
  refine ⟨fun n ys s₀ H₀ c fs K J gd lv ip s σ H D gc hn k ci I ht => ?_⟩
  refine seg_For hs ?_
  rw [gc.over]
  refine wpAny_mono ((hi s₀ H₀).run _ s σ H _ I ht) (fun v s1 h1 => wpAny_mono h1 (fun itv s2 h2 => ?_) fun x s' hx => k.exc n ys s₀ H₀ x s' hn ci hx) fun x s' hx => k.exc n ys s₀ H₀ x s' hn ci hx
  obtain ⟨it, fp, tn, Jt, H2, e, I2, T, st2, f2, W, ⟨m0, w0⟩, turn⟩ := h2
  subst e
  intro p
  have gl := fun (kk : Result → Sem PySem.Fin) => gtc_loop (k := kk) (c' := .forLoop tg (.ref it) body [] Z.env) (l := lv []) (kp := []) (p := p) gc rfl rfl
  have s0z : ∀ {ys : List V} {H₀ : Hp} {s₀ : Shared}, Z.CI ys H₀ s₀ → (Z.cx s₀ H₀).s_0.heap.objs.size = Z.L := fun q => cutH_size (gc.ok.sz _ _ _ q)
  have noex : ∀ {b : Addr} {H₀ : Hp} {s₀ : Shared}, ¬ b ∈ (Z.cx s₀ H₀).ex := fun {b H₀ s₀} q => absurd (show b ∈ ([] : List Addr) from q) (by simp)
  have young : ∀ b ∈ fp, Z.L ≤ b := fun b hb => by
    rcases (f2 b hb).2.2.2.1 with q | q
    · exact absurd q noex
    · rw [s0z ci] at q
      exact q
  -- the iterator's objects, in each turn
  have stat : ∀ {ys' : List V} {H₀' : Hp} {s₀' : Shared} {H' : Hp}, Z.CI ys' H₀' s₀' → (∀ b ∈ fp, H' b = none) → ∀ b ∈ fp, FpOk (Z.cx s₀' H₀') ip H' b := fun {ys' H₀' s₀' H'} q hn b hb => by
    obtain ⟨_, h2, h3, _, h5, h6⟩ := f2 b hb
    exact ⟨hn b hb, h2, h3, .inr (by rw [s0z q]; exact young b hb), h5, h6⟩
  have loop : ∀ (m i n : Nat) (ys : List V) (s₀ : Shared) (H₀ : Hp) (s : Shared) (σ : L2.St) (H : Hp), n + ys.length = sizeLine → Z.CI ys H₀ s₀ → W i m ys σ H → Inv (Z.cx s₀ H₀) ip σ H s → tn i s.heap → (∀ b ∈ fp, H b = none) →
      Z.sg n s₀ (.forLoop tg (.ref it) body [] Z.env) ((model Z.P Z.w).den (.forLoop tg (.ref it) body [] Z.env))
        (.ret (fun r => ((match r with | .ok f => (.pure f : Sem Flow) | .error e => .raise e).onRaise (cameBack Z.env)).wrap K J gd lv) none (gd false) (lv []) c p [] :: fs) s := by
    intro m
    induction m using Nat.strongRecOn with
    | ind m ih =>
      intro i n ys s₀ H₀ s σ H hn ci w I st3 fr3
      have ee : ∀ (n : Nat) (ys : List V) (s₀ : Shared) (H₀ : Hp) (x : Value) (s' : Shared), n + ys.length = sizeLine → Z.CI ys H₀ s₀ → (Z.cx s₀ H₀).xe x s' → Z.sg n s₀ (.forLoop tg (.ref it) body [] Z.env) (noteX Z.env x)
          (.ret (fun r => ((match r with | .ok f => (.pure f : Sem Flow) | .error e => .raise e).onRaise (cameBack Z.env)).wrap K J gd lv) none (gd false) (lv []) c p [] :: fs) s' := fun n ys s₀ H₀ x s' hn ci hx => by
        refine seg_wrap ?_
        rw [(gl _).over]
        refine wpAny_bind (wpAny_mono (owns_turn x s' hx) (fun _ s'' hcb => wpAny_theTreesLotGoes ?_) fun y s'' hcb => ?_)
        · exact seg_leaf (.error x) (hs_back gc k hn ci hcb)
        · exact seg_leaf (.error y) (hs_back gc k hn ci hcb)
      refine seg_forLoop ?_
      rw [(gl _).over]
      rcases turn i m ys σ H w with ⟨stop, qn⟩ | ⟨go, N, hN, step⟩
      · refine wpAny_mono (T.done (Z.cx s₀ H₀) rfl rfl rfl rfl i _ s σ H (Z.cx s₀ H₀).xe I (stat ci fr3) st3 stop) (fun r s4 ⟨hr, I4⟩ => ?_) fun x s' hx => ee n ys s₀ H₀ x s' hn ci hx
        subst hr
        show Z.sg n s₀ (.block [] Z.env) _ _ s4
        exact seg_leaf (.ok .next) (k.ok n ys s₀ H₀ s4 .next hn ci ⟨σ, H, I4, qn⟩)
      · refine wpAny_mono (T.item (Z.cx s₀ H₀) rfl rfl rfl rfl i _ s σ H (Z.cx s₀ H₀).xe I (stat ci fr3) st3 go) (fun r s4 ⟨u, hr, h4⟩ => ?_) fun x s' hx => ee n ys s₀ H₀ x s' hn ci hx
        subst hr
        refine wpAny_mono h4 (fun _ s5 ⟨x, H5, I5, r5, y5, st5, fr5⟩ => ?_) fun x s' hx => ee n ys s₀ H₀ x s' hn ci hx
        have I5' := I5.pinned (stat ci fr5) (T.obj _ _ st5)
        refine wpAny_mono ((hg s₀ H₀).run _ s5 σ H5 x u _ I5' r5 (step x H5 y5)) (fun _ s6 ⟨σ6, H6, I6, q6⟩ => ?_) fun x s' hx => ee n ys s₀ H₀ x s' hn ci hx
        have gl2 : ∀ (kk : Result → Sem PySem.Fin), GTc Z (ip ++ pinsAt fp s5.heap) (.forLoop tg (.ref it) body [] Z.env) (.ret kk none (gd false) (lv []) c p [] :: fs) id := fun kk => ⟨gc.ok, fun q hq => (List.mem_append.mp hq).elim (fun z => gc.ip q z) fun z => young _ (of_pinsAt z).1, (gl kk).over, (gl kk).split, (gl kk).guard, rfl⟩
        refine hb.run n ys s₀ H₀ _ _ _ _ id id (ip ++ pinsAt fp s5.heap) s6 σ6 H6 { D with nx := N, ct := N, bk := D.nx } (gl2 _) hn ⟨fun n' ys' s₀' H₀' s7 f hn' ci' hs7 => ?_, fun n' ys' s₀' H₀' x s7 hn' ci' hx => ee n' ys' s₀' H₀' x s7 hn' ci' hx⟩ ci I6 q6
        have again : ∀ {σ7 : L2.St} {H7 : Hp}, Inv (Z.cx s₀' H₀') (ip ++ pinsAt fp s5.heap) σ7 H7 s7 → N ys' σ7 H7 → Z.sg n' s₀' (.forLoop tg (.ref it) body [] Z.env) (.pure (.again (.forLoop tg (.ref it) body [] Z.env)))
            (.ret (fun r => ((match r with | .ok f => (.pure f : Sem Flow) | .error e => .raise e).onRaise (cameBack Z.env)).wrap K J gd lv) none (gd false) (lv []) c p [] :: fs) s7 := fun {σ7 H7} I7 n7 => by
          obtain ⟨m', hm, w7⟩ := hN ys' σ7 H7 n7
          have pin7 : ∀ b ∈ fp, ∀ o, s5.heap.get? b = some o → s7.heap.get? b = some o ∧ H7 b = none := fun b hb o e => by
            obtain ⟨q1, q2, _⟩ := I7.pin (b, o) (List.mem_append_right _ (List.mem_append_right _ (mem_pinsAt hb e)))
            exact ⟨q1, q2⟩
          refine seg_again rfl (ih m' hm (i + 1) n' ys' s₀' H₀' s7 σ7 H7 hn' ci' w7 I7.unpinned (T.keep _ _ _ st5 fun b hb o e => (pin7 b hb o e).1) fun b hb => ?_)
          obtain ⟨o, e, _⟩ := T.obj _ _ st5 b hb
          exact (pin7 b hb o e).2
        cases f with
        | next => obtain ⟨σ7, H7, I7, n7⟩ := hs7; exact again I7 n7
        | cont => obtain ⟨σ7, H7, I7, n7⟩ := hs7; exact again I7 n7
        | brk =>
          obtain ⟨σ7, H7, I7, n7⟩ := hs7
          exact seg_leaf (.ok .next) (k.ok n' ys' s₀' H₀' s7 .next hn' ci' ⟨σ7, H7, I7.unpinned, n7⟩)
        | ret v =>
          obtain ⟨x7, σ7, H7, I7, r7, n7⟩ := hs7
          exact seg_leaf (.ok (.ret v)) (k.ok n' ys' s₀' H₀' s7 (.ret v) hn' ci' ⟨x7, σ7, H7, I7.unpinned, r7, n7⟩)
  exact loop m0 0 n ys s₀ H₀ s2 σ H2 hn ci w0 I2 st2 fun b hb => (f2 b hb).1
end
end My

namespace My
open PySem PySem.Spec PyProof.Rows GenW L2
abbrev SpH := List V → Hp → (List V → V → Hp → (Hp → Prop) → Prop) → (List V → Hp → Prop) → XK → Prop
def genObj (go : Obj) (g : Nat) : Prop := ∃ nm qn, go.cls = .type "generator" ∧ go.data = .fields #[.int g 0, nm, qn] ∧ go.slots = #[]
theorem genObj.is {go : Obj} {g : Nat} {h : Heap} {a : Addr} (q : genObj go g) (e : h.get? a = some go) : h.IsGen a g :=
  let ⟨nm, qn, h1, h2, h3⟩ := q
  ⟨go, nm, qn, e, h1, h2, h3⟩
section
variable (P : Program) (w : World) (K : PySem.W.Frag) (mg : Str → Option Value) (base : Heap) (outer : List Env) (L a : Addr) (go : Obj) (E : XK) (CI : List V → Hp → Shared → Prop) (Pr : List V → V → Hp → (Hp → Prop) → Prop) (Q : List V → Hp → Prop)
def EndC : GenEnd := fun n s₀ r s1 =>
  ((r = .ok (.ret .none) ∨ r = .ok .next) ∧ ∃ ys H₀ H1, CI ys H₀ s₀ ∧ s1.os = s₀.os ∧ AllBare s1.gens ∧ Un (frs outer) [] H₀ H1 (cutH s₀.heap L) s1.heap ∧ HOk P w H1 s1.heap ∧ Q ys H1) ∨
  ∃ e, r = .error e ∧ ∃ ys H₀ s₀, CI ys H₀ s₀ ∧ L2N.CX P w outer H₀ (cutSh s₀ L) E e s1 ∧ s1.heap.get? a = some go
def ItemC : Protocol := fun n s₀ v s1 kap => ∃ (ys : List V) (x : V) (H₀ H1 : Hp) (kp : Hp → Prop) (P0 : List (Addr × Obj)), n + 1 + ys.length = sizeLine ∧ CI ys H₀ s₀ ∧ RelV x v ∧ s1.os = s₀.os ∧ AllBare s1.gens ∧ Un (frs outer) [] H₀ H1 (cutH s₀.heap L) s1.heap ∧ HOk P w H1 s1.heap ∧
  (a, go) ∈ P0 ∧ (∀ p ∈ P0, s1.heap.get? p.1 = some p.2 ∧ H1 p.1 = none ∧ L ≤ p.1 ∧ ∀ v, p.2.data ≠ .cell v) ∧ Pr ys x H1 kp ∧
  ∀ s2 H2 B, kp H2 → CI (ys ++ [x]) H2 s2 → Env0 P w K mg base B outer s2 H2 → (∀ p ∈ P0, s2.heap.get? p.1 = some p.2 ∧ H2 p.1 = none) → kap (.send .none) s2 ∧ kap (.send (.bool true)) s2
end
def HMade (P : Program) (w : World) (K : PySem.W.Frag) (mg : Str → Option Value) (base : Heap) (k : Nat) (outer : List Env) (H : Hp) (s : Shared) (Pr : List V → V → Hp → (Hp → Prop) → Prop) (Q : List V → Hp → Prop) (E : XK) (u : Value) (s' : Shared) : Prop :=
  ∃ (a : Addr) (g : Nat) (c : Code) (go : Obj), u = .ref a ∧ s.heap.objs.size ≤ a ∧ a < s'.heap.objs.size ∧ s'.heap.get? a = some go ∧ genObj go g ∧ s'.gens[g]? = some (.fresh c) ∧ s'.os = s.os ∧ AllBare s'.gens ∧ (∀ b o, s.heap.get? b = some o → s'.heap.get? b = some o) ∧
    ∀ (A : Around) (CI : List V → Hp → Shared → Prop) (s2 : Shared), Room k A → A.frames = some outer → (∀ b o, s'.heap.get? b = some o → s2.heap.get? b = some o) → s2.os = s.os → AllBare s2.gens → CI [] H s2 → (∀ ys H1 s1, CI ys H1 s1 → s.heap.objs.size ≤ s1.heap.objs.size) →
      Seg (model P w) A (EndC P w outer s.heap.objs.size a go E CI Q) (ItemC P w K mg base outer s.heap.objs.size a go CI Pr) sizeLine s2 c ((model P w).den c) [] s2
structure HFn (P : Program) (w : World) (K : PySem.W.Frag) (mg : Str → Option Value) (base : Heap) (k : Nat) (f : Addr) (fd : FuncData) (ps : List Str) (sp : SpH) : Prop where
  len : ∀ vs H Pr Q E, sp vs H Pr Q E → vs.length = ps.length
  run : ∀ (A : Around) (outer : List Env) (s : Shared) (H : Hp) (args : Args) (us : List Value) (vs : List V) (Pr : List V → V → Hp → (Hp → Prop) → Prop) (Q : List V → Hp → Prop) (E : XK), Room k A → Env0 P w K mg base A outer s H → BindsTo s fd args (ps.zip us) → Vals vs us → sp vs H Pr Q E →
    codeAny (model P w) A (.call (.ref f) args) (fun r s' => match r with | .ok (.ret u) => HMade P w K mg base k outer H s Pr Q E u s' | _ => False) s
theorem hfn_of {P : Program} {w : World} {K : PySem.W.Frag} {mg : Str → Option Value} {base : Heap} {k : Nat} {f : Addr} {name qual : Str} {params : Arguments} {body : List Stmt} {scope : Scope} {dV kV doc pm cdv ct oc : Value} {an od : Option Addr}
    {osl : Array (Option Value)} {N ps : List Str} {sp : SpH} (lk : K.lookup f = some ⟨oc, od, .func (PySem.W.fnOf name qual params body scope dV kV doc pm an cdv ct), osl⟩) (hcd : PySem.W.codeIn K cdv qual = true) (S : GScope N ps scope) (nc : ∀ y ∈ scope.names, y.2 ≠ .cell)
    (len : ∀ vs H Pr Q E, sp vs H Pr Q E → vs.length = ps.length)
    (hbody : ∀ (A : Around) (outer : List Env) (L a : Addr) (go : Obj) (CI : List V → Hp → Shared → Prop) (H : Hp) (vs : List V) (Pr : List V → V → Hp → (Hp → Prop) → Prop) (Q : List V → Hp → Prop) (E : XK), Room k (A.deeper (envOfC qual scope L f cdv)) → sp vs H Pr Q E →
      ∃ t, HSs ⟨P, w, K, mg, base, N, qual, scope, f, cdv, A, outer, L, a, go, E, CI, Pr, Q⟩ body t ∧ t { nx := fun ys _ H' => Q ys H', rt := fun ys v H' => v = .non ∧ Q ys H' } [] (L2.start N vs) H) :
    HFn P w K mg base (k + 1) f (PySem.W.fnOf name qual params body scope dV kV doc pm an cdv ct) ps sp := by
  refine ⟨len, fun A outer s H args us vs Pr Q E room e0 hb r hsp => ?_⟩
  have hl := len _ _ _ _ _ hsp
  have KX : K.In s.heap := e0.mod.kin.keeps fun b o e => (e0.bs b o e).1
  have lim : s.heap.NoLimit := e0.mod.nolimit.keeps fun b o e => (e0.bs b o e).1
  have hkind : ∀ y ∈ ps.zip us, scope.names.lookup y.1 = some .local ∨ (scope.names.lookup y.1 = some .cell ∧ ((cellsFrom (s.heap.objs.size + 1) scope.names []).lookup y.1).isSome = true) := fun ⟨y, v⟩ hy => by
    rcases S.par y (List.of_mem_zip hy).1 with q | q
    · exact .inl q
    · exact absurd rfl (nc _ (PySem.mem_of_lookup q))
  refine codeAny_call_generator room.depth (KX _ _ lk) rfl S.co S.gen rfl (PySem.W.codeRec_of KX hcd) (hb _ _ _ _ ?_)
  refine wpAny_newFunctionEnv_cells S.kind hkind fun env he s1 x => ?_
  subst he
  have lim1 : s1.heap.NoLimit := lim.keeps x.toInCall.keep
  refine ⟨lim1, ?_⟩
  obtain ⟨h1, tk, es1, hk1⟩ := x.done
  have os1 : s1.os = s.os := by rw [es1]
  have gen1 : s1.gens = s.gens := by rw [es1]
  have lt1 : s.heap.objs.size < s1.heap.objs.size := x.toInCall.ns.lt
  have kp1 : ∀ b o, s.heap.get? b = some o → s1.heap.get? b = some o := x.toInCall.keep
  have main : ∀ (go : Obj) (tk2 : Nat), genObj go s1.gens.size → (∀ h : Heap, (h.push go).get? h.objs.size = some go) →
      HMade P w K mg base (k + 1) outer H s Pr Q E (.ref s1.heap.objs.size) { s1 with gens := s1.gens.push (.fresh (.func body (envOfC qual scope s.heap.objs.size f cdv))), toks := tk2, heap := s1.heap.push go } := by
    intro go tk2 hgo hgp
    have hgd : ∀ v, go.data ≠ .cell v := fun v q => by
      obtain ⟨_, _, _, h2, _⟩ := hgo
      rw [h2] at q
      cases q
    refine ⟨s1.heap.objs.size, s1.gens.size, _, go, rfl, Nat.le_of_lt lt1, ?_, hgp _, hgo, Array.getElem?_push_size .., os1, AllBare.push (by rw [gen1]; exact e0.bare) rfl, fun b o e => Heap.get?_push_of_some _ (kp1 b o e), ?_⟩
    · show s1.heap.objs.size < (s1.heap.push go).objs.size
      rw [Heap.size_push]
      exact Nat.lt_succ_self _
    intro B CI s2 room2 frB kp2 os2 ba2 ci csz
    have k12 : ∀ b o, s1.heap.get? b = some o → s2.heap.get? b = some o := fun b o e => kp2 b o (Heap.get?_push_of_some _ e)
    have k02 : ∀ b o, s.heap.get? b = some o → s2.heap.get? b = some o := fun b o e => k12 b o (kp1 b o e)
    have e0B : Env0 P w K mg base B outer s H := ⟨frB, e0.mod, e0.bs, e0.bsz, e0.funs, e0.frf, e0.hok, e0.bare⟩
    have I1 : Inv (gcxOf P w K mg base N qual scope f cdv B outer s H E []) [] (L2.start N vs) H s1 := inv_startG S room2.hd e0B hl r x
    have frL : ∀ b ∈ frs outer, b < s.heap.objs.size := fun b hb => by
      obtain ⟨_, o, ho, _⟩ := e0.funs.mem hb
      exact Heap.lt_size ho
    obtain ⟨t, ht, hq⟩ := hbody B outer s.heap.objs.size s1.heap.objs.size go CI H vs Pr Q E (room2.deeper _) hsp
    generalize hZ : (⟨P, w, K, mg, base, N, qual, scope, f, cdv, B, outer, s.heap.objs.size, s1.heap.objs.size, go, E, CI, Pr, Q⟩ : GZ) = Z at ht
    have zk : Z.Ok := by
      subst hZ
      exact ⟨frL, e0.bsz, nc, Nat.le_of_lt lt1, csz⟩
    have hga : s2.heap.get? s1.heap.objs.size = some go := kp2 _ _ (hgp _)
    have hna : H s1.heap.objs.size = none := I1.hok.fresh (Nat.le_refl _)
    have I2 : Inv (Z.cx s2 H) [] (L2.start N vs) H s2 := by
      subst hZ
      have ec : cellsFrom (s.heap.objs.size + 1) scope.names [] = [] := noCells nc
      have nol : ∀ y c, ¬ (cellsFrom (s.heap.objs.size + 1) scope.names []).lookup y = some c := fun y c q => by rw [ec] at q; cases q
      obtain ⟨m, ⟨o, es, ep, ho, rr⟩, hlk⟩ := I1.loc
      have hsz : s.heap.objs.size ≤ s2.heap.objs.size := Nat.le_of_lt (Heap.lt_size (k12 _ _ ho))
      refine ⟨⟨I1.ok.mod, I1.ok.kind, I1.ok.glob, I1.ok.blt, cutH_le, I1.ok.inj, I1.ok.has, fun y c _ q => absurd q (nol y c), I1.ok.hd, I1.ok.frames, I1.ok.stk, fun b hb => absurd (show b ∈ ([] : List Addr) from hb) (by simp), fun b o q => ?_, ?_, fun b o _ hb => absurd (show b ∈ ([] : List Addr) from hb) (by simp), fun b hb => absurd (show b ∈ ([] : List Addr) from hb) (by simp), ?_, e0.frf⟩, rfl, ba2, Un.kept fun b o q => (of_cutH q).2, ⟨m, ⟨o, es, ep, k12 _ _ ho, rr⟩, fun i y v e1 e2 e3 => ?_⟩, fun y c q => absurd q (nol y c), I1.free, fun y c q => absurd q (nol y c), fun p hp => ?_, I1.hok.kept k12, I1.len⟩
      · obtain ⟨h1, h2⟩ := e0.bs b o q
        exact ⟨(cutH_get (Nat.lt_of_lt_of_le (Heap.lt_size q) e0.bsz)).trans (k02 b o h1), h2⟩
      · show base.objs.size ≤ (cutH s2.heap s.heap.objs.size).objs.size
        rw [cutH_size hsz]
        exact e0.bsz
      · exact funs_cut (e0.funs.of_keeps fun b o ho _ => ⟨o, k02 b o ho, rfl⟩) frL
      · obtain ⟨u, rv, lk⟩ := hlk i y v e1 e2 e3
        refine ⟨u, rv, ?_⟩
        rcases lk with lk | ⟨_, c, q, _⟩
        · exact .inl lk
        · exact absurd q (nol y c)
      · have e : p = (s1.heap.objs.size, go) := by
          rcases List.mem_append.mp hp with z | z
          · exact List.mem_singleton.mp z
          · simp at z
        subst e
        exact ⟨hga, hna, Nat.ne_of_gt lt1, fun hb => Nat.lt_irrefl _ (Nat.lt_trans lt1 (frL _ hb)), hgd⟩
    have over0 : Z.A.over (.func body Z.env) [] = Z.A.deeper Z.env := over_func
    have big : Z.sg sizeLine s2 (.func body Z.env) ((model Z.P Z.w).den (.func body Z.env)) [] s2 := by
      refine seg_func ?_
      refine ht.run sizeLine [] s2 H _ [] _ _ id id [] s2 (L2.start N vs) H _ ⟨zk, fun p hp => (by simp at hp), over0, rfl, rfl, rfl⟩ (Nat.add_zero _) ⟨fun n ys s₀ H₀ s' fl hn ci' hs => ?_, fun n ys s₀ H₀ e s' hn ci' hx => ?_⟩ (by subst hZ; exact ci) I2 hq
      · cases fl with
        | next =>
          obtain ⟨σ', H', hI, hQ⟩ := hs
          exact seg_end (.ok (.ret .none)) ⟨.inl rfl, ys, [], σ', H₀, H', hn, ci', hI, by subst hZ; exact hQ⟩
        | brk => obtain ⟨_, _, _, q⟩ := hs; exact q.elim
        | cont => obtain ⟨_, _, _, q⟩ := hs; exact q.elim
        | ret u =>
          obtain ⟨v, σ', H', hI, rv, ev, hQ⟩ := hs
          subst ev
          have eu : u = Value.none := rv
          subst eu
          exact seg_end (.ok (.ret .none)) ⟨.inl rfl, ys, [], σ', H₀, H', hn, ci', hI, by subst hZ; exact hQ⟩
      · refine seg_wrap ?_
        rw [over0]
        have hx' : wpAny (model Z.P Z.w) (Z.A.deeper Z.env) (leaving Z.env e) (fun _ z => L2N.CX Z.P Z.w Z.outer H₀ (cutSh s₀ Z.L) Z.E e z ∧ ∀ q ∈ [(Z.a, Z.go)], z.heap.get? q.1 = some q.2) (fun _ _ => False) s' := hx
        refine wpAny_mono hx' (fun _ z q => ?_) fun _ _ q => q.elim
        exact seg_end (.error e) ⟨ys, H₀, ci', q.1, q.2 _ (List.mem_singleton.mpr rfl)⟩
    subst hZ
    refine seg_imp (fun n s₀ rr s' hR => ?_) (fun n s₀ v s' kap kap' kk hY => ?_) sizeLine big
    · cases rr with
      | error e =>
        obtain ⟨ys, H₀, c1, c2, c3⟩ := hR
        exact .inr ⟨e, rfl, ys, H₀, s₀, c1, c2, c3⟩
      | ok fl =>
        obtain ⟨hf, ys, ip, σ', H₀, H', hn, c1, I, hQ⟩ := hR
        refine .inl ⟨?_, ys, H₀, H', c1, I.os, I.bare, I.base, I.hok, hQ⟩
        rcases hf with rfl | rfl
        · exact .inl rfl
        · exact .inr rfl
    · obtain ⟨ys, xx, ip, σ', H₀, H', kp, oL, hn, c1, rv, I, hoL, hip, pr, go2⟩ := hY
      refine ⟨ys, xx, H₀, H', kp, GZ.pins ⟨P, w, K, mg, base, N, qual, scope, f, cdv, B, outer, s.heap.objs.size, s1.heap.objs.size, go, E, CI, Pr, Q⟩ oL ip, hn, c1, rv, I.os, I.bare, I.base, I.hok, List.mem_cons_of_mem _ List.mem_cons_self, fun p hp => ?_, pr, fun s2 H2 A2 q1 q2 q3 q4 => ?_⟩
      · rcases List.mem_cons.mp hp with z | z
        · subst z
          refine ⟨hoL, I.free, Nat.le_refl _, fun v q => ?_⟩
          obtain ⟨m, ⟨o, es, ep, ho, hd, _⟩, _⟩ := I.loc
          have eo : o = oL := Option.some.inj (ho.symm.trans hoL)
          subst eo
          have q : o.data = _ := q
          rw [hd] at q
          cases q
        · have hm : p ∈ [(s1.heap.objs.size, go)] ++ ip := z
          obtain ⟨p1, p2, _, _, p5⟩ := I.pin p hm
          refine ⟨p1, p2, ?_, p5⟩
          rcases List.mem_cons.mp z with z | z
          · rw [z]; exact Nat.le_of_lt lt1
          · exact hip p z
      · obtain ⟨a1, a2⟩ := go2 s2 H2 A2 q1 q2 q3 q4
        exact ⟨kk _ _ a1, kk _ _ a2⟩
  exact main _ _ ⟨_, _, rfl, rfl, rfl⟩ fun h => Heap.get?_push_size _ rfl
end My

namespace My
open PySem PySem.Spec PyProof.Rows GenW L2
abbrev TGx := L2.St → Hp → (Hp → Prop) → (List V → V → Hp → (Hp → Prop) → Prop) → (List V → Hp → Prop) → Prop
structure PGx (X : Cx) (k : Nat) (e : Expr) (tg : TGx) (E : L2.St → XK) : Prop where
  run : ∀ (pins : List (Addr × Obj)) (s : Shared) (σ : L2.St) (H : Hp) (T : Hp → Prop) (Pr : List V → V → Hp → (Hp → Prop) → Prop) (Q : List V → Hp → Prop), Inv X pins σ H s → tg σ H T Pr Q → wpAny (model X.prog X.w) X.A (eval e X.env)
    (fun u s' => ∃ H1 sc, Inv X pins σ H1 sc ∧ T H1 ∧ HMade X.prog X.w X.K X.mg X.base k X.stack H1 sc Pr Q (E σ) u s') X.xe s
section
variable {X : Cx} {k : Nat} {f C : Addr} {fd : FuncData} {ps : List Str} {sp : SpH} {dvs : List V} {ds : List Value} {m : Str} {pos' apos : Pos} {o : Expr} {ta : L2.TE} {t : L2.TA}
theorem run_hfn {pins : List (Addr × Obj)} {σ : L2.St} {H : Hp} {T : Hp → Prop} {s : Shared} {us : List Value} {vs : List V} {Pr : List V → V → Hp → (Hp → Prop) → Prop} {Q : List V → Hp → Prop} {E : XK} {E1 : Value → Shared → Prop} (F : HFn X.prog X.w X.K X.mg X.base k f fd ps sp) (hr : Room k X.A) (hb : Binds X.K fd ps ds) (hd : Vals dvs ds)
    (I : Inv X pins σ H s) (r : Vals vs us) (hT : T H) (h : sp (vs ++ dvs) H Pr Q E) :
    wpAny (model X.prog X.w) X.A (call (.ref f) us) (fun u s' => ∃ H1 sc, Inv X pins σ H1 sc ∧ T H1 ∧ HMade X.prog X.w X.K X.mg X.base k X.stack H1 sc Pr Q E u s') E1 s := by
  have r2 : Vals (vs ++ dvs) (us ++ ds) := r.append hd
  have hl2 : (us ++ ds).length = ps.length := r2.length.symm.trans (F.len _ _ _ _ _ h)
  refine wpAny_call (codeAny_mono (F.run X.A X.stack s H ⟨us, []⟩ (us ++ ds) (vs ++ dvs) Pr Q E hr I.env0 (hb s us I.kIn hl2) r2 h) fun rr s' hq => ?_)
  match rr, hq with
  | .ok (.ret u), hq => exact ⟨H, s, I, hT, hq⟩
def tMethX (C : Addr) (m : Str) (sp : SpH) (dvs : List V) (E : L2.St → XK) (ta : L2.TE) (t : L2.TA) : TGx := fun σ H T Pr Q => ta σ H fun x H1 => ∃ a dx fs, x = .ref a ∧ H1 a = some (.ins C dx fs) ∧ fs.lookup m = none ∧ t σ H1 fun vs H2 => T H2 ∧ sp (x :: (vs ++ dvs)) H2 Pr Q (E σ)
theorem pgx_meth {E : L2.St → XK} {pl : Sem Bool} {e : Expr} {es : List Expr} (he : PE X o ta) (c : Cls X.K C) (hm : Meth X.K C m f) (F : HFn X.prog X.w X.K X.mg X.base k f fd ps sp) (hr : Room k X.A) (hb : Binds X.K fd ps ds) (hd : Vals dvs ds) (ha : PA X (e :: es) t)
    (hst : starEach (e :: es) X.env = (false, eval e X.env) :: starEach es X.env := by rfl) (hpl : (backTo pos' (starEach es X.env)).any (·.1) = false := by rfl)
    (ht : eval (.Call (.Attribute o m apos) (e :: es) [] pos') X.env = (do
      let ov ← eval o X.env
      standAt apos.atName
      let (f, first) ← holding [ov] (getMethod ov m pl)
      callWith pos' f first (backTo pos' (starEach (e :: es) X.env)) (backToKw pos' (keywordEach [] X.env))) := by rfl) :
    PGx X k (.Call (.Attribute o m apos) (e :: es) [] pos') (tMethX C m sp dvs E ta t) E := by
  refine ⟨fun pins s σ H T Pr Q I h => ?_⟩
  refine PySem.W.methodCall_KW (pl := pl) (thn (he.run pins s σ H _ I h) fun u s1 hu => ?_) ht
  obtain ⟨x, H1, I1, rx, a, dx, fs, ex, ea, l, q⟩ := hu
  subst ex
  obtain rfl : u = Value.ref a := rx
  refine getmeth_ok I1 ea c hm l ?_
  refine PySem.W.callWith_K (first := [.ref a]) (h₀ := X.base) I1.ok.mod.kin hm.kp (thn (ha.run pos' pins s1 σ H1 _ I1 q) fun us s2 hv => ?_) hst hpl
  obtain ⟨vs, H2, I2, r, q2⟩ := hv
  exact ⟨I2.kIn, run_hfn (us := .ref a :: us) (vs := .ref a :: vs) F hr hb hd I2 (.cons rfl r) q2.1 q2.2⟩
end
section
variable {X : Cx} {pins : List (Addr × Obj)} {σ : L2.St} {H H0 H1 : Hp} {sc s0 s1 : Shared} {L : Addr}
structure Below (X : Cx) (pins : List (Addr × Obj)) (L : Addr) : Prop where
  s0 : X.s_0.heap.objs.size ≤ L
  loc : X.env.locals < L
  cell : ∀ x c, X.env.cells.lookup x = some c → c < L
  pin : ∀ p ∈ X.pn ++ pins, p.1 < L
  fr : ∀ b ∈ frs X.stack, b < L
theorem Below.of (I : Inv X pins σ H sc) : Below X pins sc.heap.objs.size where
  s0 := I.sz
  loc := I.lt
  cell := fun x c e => by
    obtain ⟨v, q⟩ := I.cell x c e
    exact q.lt
  pin := fun p hp => Heap.lt_size (I.pin p hp).1
  fr := fun b hb => by
    rcases List.mem_cons.mp (I.stkSub b hb) with z | z
    · rw [z]; exact I.lt
    · obtain ⟨_, o, ho, _⟩ := I.ok.funs.mem z
      exact Nat.lt_of_lt_of_le (Heap.lt_size ho) I.sz
theorem Below.turn (B : Below X pins L) (I : Inv X pins σ H0 s0) (os : s1.os = s0.os) (ba : AllBare s1.gens) (u : Un (frs X.stack) [] H0 H1 (cutH s0.heap L) s1.heap) (hok : HOk X.prog X.w H1 s1.heap) : Inv X pins σ H1 s1 := by
  let ch : List Addr := (List.range s0.heap.objs.size).filter fun b => decide (L ≤ b)
  have mc : ∀ b, b ∈ ch → L ≤ b := fun b hb => of_decide_eq_true (List.mem_filter.mp hb).2
  have low : ∀ b o, s0.heap.get? b = some o → b ∉ ch → b < L := fun b o e hb => by
    rcases Nat.lt_or_ge b L with z | z
    · exact z
    · exact absurd (List.mem_filter.mpr ⟨List.mem_range.mpr (Heap.lt_size e), decide_eq_true z⟩) hb
  have cut : ∀ b o, s0.heap.get? b = some o → b ∉ ch → (cutH s0.heap L).get? b = some o := fun b o e hb => (cutH_get (low b o e hb)).trans e
  refine I.call' (ch := ch) os ⟨fun b o e n hf hb => u.keep b o (cut b o e hb) n hf (by simp), fun b o e n hf hb => u.slot b o (cut b o e hb) n hf (by simp), fun b o e n hb => u.free b o (cut b o e hb) n (by simp), fun b o e hb => u.there b o (cut b o e hb) (by simp), u.tups, u.frzs, u.tbls⟩ hok ba fun b hb => ?_
  have hL := mc b hb
  refine ⟨.inr (Nat.le_trans B.s0 hL), fun z => ?_, fun x c e z => ?_, fun p hp z => ?_⟩
  · have h1 := Nat.lt_of_lt_of_le B.loc hL
    rw [z] at h1
    exact Nat.lt_irrefl _ h1
  · have h1 := Nat.lt_of_lt_of_le (B.cell x c e) hL
    rw [z] at h1
    exact Nat.lt_irrefl _ h1
  · have h1 := Nat.lt_of_lt_of_le (B.pin p hp) hL
    rw [z] at h1
    exact Nat.lt_irrefl _ h1
theorem inv_regen {G : Array GenState} (I : Inv X pins σ H s1) (hb : AllBare G) : Inv X pins σ H (withG s1 G) :=
  ⟨I.ok, I.os, hb, I.base, I.loc, I.cell, I.free, I.freeC, I.pin, I.hok, I.len⟩
end
def tForG (tg : TGx) (g : L2.TG) (tb : L2.TS) : L2.TS := fun D σ H => ∃ W : Nat → L2.St → Hp → Prop, tg σ H (W 0 σ)
  (fun ys x H1 kp => ∀ σ H0, W ys.length σ H0 → Tp H0 H1 → g x σ H1 fun σ1 H2 => tb { nx := fun σ2 H3 => W (ys.length + 1) σ2 H3 ∧ kp H3, ct := fun σ2 H3 => W (ys.length + 1) σ2 H3 ∧ kp H3, bk := fun _ _ => False, rt := fun _ _ => False } σ1 H2)
  fun ys H1 => ∀ σ H0, W ys.length σ H0 → Tp H0 H1 → D.nx σ H1
def tForX (tg : TGx) : L2.TS := fun D σ H => tg σ H (fun _ => True) (fun _ _ _ _ => False) fun ys H1 => D.nx σ H1
section
variable {X : Cx} {k : Nat} {tg iter : Expr} {body : List Stmt} {pos : Pos} {tgn : TGx} {g : L2.TG} {tb : L2.TS}
theorem sleeps_of {M : Model} {A : Around} {R : GenEnd} {Y : Protocol} {n : Nat} {gs : GenState} {s : Shared} (h : gs.Goes M A R Y n (.send (.bool true)) s) : sleeping gs = true := by
  cases gs with
  | suspended => rfl
  | fresh c => exact absurd h.1 (by simp)
  | running => exact h.elim
  | finished => exact h.elim
theorem ps_forG (hx : X.xe = fun _ _ => False) (hc : X.calm = true) (hg0 : PGx X k iter tgn fun _ => L2.E0) (hr : Room (k + 3) X.A) (hg : PG X tg g) (hb : PSs X body tb) (hs : ∀ x, foldedSetIterable iter X.env x = pure x := by intro _; rfl) : PS X (.For tg iter body [] pos) (tForG tgn g tb) := by
  refine ⟨fun pins s σ H D I h => ?_⟩
  obtain ⟨W, h⟩ := h
  have hp : PassesOwn (model X.prog X.w) X.A X.env X.xe := by rw [hx]; exact PassesOwn.never
  have nox : ∀ e s, ¬ X.xe e s := fun e s q => by rw [hx] at q; exact q
  refine wpAny_For (thn (hg0.run pins s σ H _ _ _ I h) fun v s1 h1 => ?_) hs
  obtain ⟨Hc, sc, Ic, w0, a, gi, c, go, rfl, ha1, ha2, hga, hgo, hgs, hos, hba, hkp, wake⟩ := h1
  have isg : ∀ {h : Heap}, h.get? a = some go → h.IsGen a gi := fun {h} e => hgo.is e
  refine wpAny_pyIter_gen (isg hga) ?_
  have B := Below.of Ic
  have kcut : ∀ {s : Shared}, s.heap.get? a = some go → sc.heap.objs.size ≤ s.heap.objs.size := fun {s} e => Nat.le_trans ha1 (Nat.le_of_lt (Heap.lt_size e))
  let CI : List V → Hp → Shared → Prop := fun ys H0 s0 => (∃ σ, W ys.length σ H0 ∧ Inv X pins σ H0 s0) ∧ sc.heap.objs.size ≤ s0.heap.objs.size
  let Q : List V → Hp → Prop := fun ys H1 => ∀ σ H0, W ys.length σ H0 → Tp H0 H1 → D.nx σ H1
  let Pr : List V → V → Hp → (Hp → Prop) → Prop := fun ys x H1 kp => ∀ σ H0, W ys.length σ H0 → Tp H0 H1 → g x σ H1 fun σ1 H2 => tb { nx := fun σ2 H3 => W (ys.length + 1) σ2 H3 ∧ kp H3, ct := fun σ2 H3 => W (ys.length + 1) σ2 H3 ∧ kp H3, bk := fun _ _ => False, rt := fun _ _ => False } σ1 H2
  have I1 : Inv X pins σ Hc s1 := Ic.call' (ch := []) hos (Un.kept hkp) (Ic.hok.kept hkp) hba fun b z => by simp at z
  have hdn : X.A.handled = none := I.ok.hd hc
  refine codeAny_forLoop_any (fun n s' => ∃ (ys : List V) (σ' : L2.St) (H' : Hp), n + ys.length = sizeLine ∧ W ys.length σ' H' ∧ Inv X pins σ' H' s' ∧ s'.heap.get? a = some go ∧ ∃ gs, s'.gens[gi]? = some gs ∧
    gs.Goes (model X.prog X.w) X.A.in1 (EndC X.prog X.w X.stack sc.heap.objs.size a go L2.E0 CI Q) (ItemC X.prog X.w X.K X.mg X.base X.stack sc.heap.objs.size a go CI Pr) n (.send .none) (s'.setGen gi .running)) ?_ sizeLine ⟨([] : List V), σ, Hc, Nat.add_zero _, w0, I1, hga, _, hgs, rfl, ?_⟩
  · rintro n s' ⟨ys, σ', H', hn, wv, Iv, hav, gs, hgv, goes⟩
    have hgl : gi < s'.gens.size := (Array.getElem?_eq_some_iff.mp hgv).1
    refine wpAny_passesOwn hp (wpAny_gsz (n := gi + 1) hgl (next_genG (A := X.A) (F := fun n s₀ s₁ => ∃ ys H₀ H1, CI ys H₀ s₀ ∧ s₁.os = s₀.os ∧ AllBare s₁.gens ∧ Un (frs X.stack) [] H₀ H1 (cutH s₀.heap sc.heap.objs.size) s₁.heap ∧ HOk X.prog X.w H1 s₁.heap ∧ Q ys H1)
      (Er := fun e s₁ => ∃ ys H₀ s₀, CI ys H₀ s₀ ∧ L2N.CX X.prog X.w X.stack H₀ (cutSh s₀ sc.heap.objs.size) L2.E0 e s₁ ∧ s₁.heap.get? a = some go) hdn Iv.nolimit hr.depth (isg hav) hgv goes (fun v s₁ gs' hbare hv => ?_) (fun s₁ hF h' hk => ?_) fun e s₁ he => ?_))
    · intro hsz1
      obtain ⟨ys0, x, H₀, H1, kp, P0, hn0, ⟨⟨σ0, w0', I0⟩, _⟩, rv, os, ba, un, hok, haP, hP0, pr, go2⟩ := hv
      have Ia : Inv X pins σ0 H1 s₁ := B.turn I0 os ba un hok
      have Ib : Inv X (pins ++ P0) σ0 H1 (s₁.setGen gi gs') := by
        refine (inv_regen Ia (allBare_setGen ba hbare)).pins_of fun p hq => ?_
        rcases List.mem_append.mp hq with z | z
        · exact Ia.pin p (List.mem_append_right _ z)
        · obtain ⟨q1, q2, q3, q4⟩ := hP0 p z
          refine ⟨q1, q2, fun e => ?_, fun e => ?_, q4⟩
          · have h1 := Nat.lt_of_lt_of_le B.loc q3
            rw [e] at h1
            exact Nat.lt_irrefl _ h1
          · obtain ⟨_, o, ho, _⟩ := Ia.ok.funs.mem e
            exact Nat.lt_irrefl _ (Nat.lt_of_lt_of_le (Heap.lt_size ho) (Nat.le_trans B.s0 q3))
      have hav1 : (s₁.setGen gi gs').heap.get? a = some go := (hP0 _ haP).1
      have hgo2 := hgo
      obtain ⟨q1, q2, hgc, hgd, _⟩ := hgo2
      refine go_of hav1 hgc hgd (by decide) ?_
      -- the item is stored, and the body runs: the generator sleeps
      have bare2 : ∀ {s : Shared}, AllBare s.gens → AllBare (s.gens.map putDown) := fun {s} q y hy => by
        obtain ⟨z, hz, rfl⟩ := Array.mem_map.mp hy
        rw [putDown_bare]
        exact q z hz
      refine wpAny_passesOwn hp (wpAny_asleep (wpAny_mono (hg.run (pins ++ P0) (withG (s₁.setGen gi gs') ((s₁.setGen gi gs').gens.map putDown)) σ0 H1 x v _ (inv_regen Ib (bare2 Ib.bare)) rv (pr σ0 H₀ w0' un.tups)) (fun _ s2 h2 => ?_) fun e s2 q => absurd q (nox e s2)))
      obtain ⟨σ2, H2, I2, p2⟩ := h2
      intro G2 gb2 gk2
      have k2 : sleeping gs' = true → G2[gi]? = some gs' := fun q => gk2 gi gs' (setGen_at (by
        rw [setGen_size] at hsz1
        exact hsz1)) q
      have I2' : Inv X (pins ++ P0) σ2 H2 (withG s2 G2) := inv_regen I2 (gb2 I2.bare)
      refine wpAny_passesOwn hp (wpAny_asleep (wpAny_mono (hb.run (pins ++ P0) (withG (withG s2 G2) (G2.map putDown)) σ2 H2 _ (inv_regen I2' (bare2 (s := withG s2 G2) I2'.bare)) p2) (fun f s3 h3 => ?_) fun e s3 q => absurd q (nox e s3)))
      intro G3 gb3 gk3
      have again : ∀ {σ3 : L2.St} {H3 : Hp}, Inv X (pins ++ P0) σ3 H3 s3 → W (ys0.length + 1) σ3 H3 ∧ kp H3 → ∃ m, m < n ∧ ∃ (ys : List V) (σ' : L2.St) (H' : Hp), m + ys.length = sizeLine ∧ W ys.length σ' H' ∧ Inv X pins σ' H' (withG s3 G3) ∧ (withG s3 G3).heap.get? a = some go ∧ ∃ gs, (withG s3 G3).gens[gi]? = some gs ∧
          gs.Goes (model X.prog X.w) X.A.in1 (EndC X.prog X.w X.stack sc.heap.objs.size a go L2.E0 CI Q) (ItemC X.prog X.w X.K X.mg X.base X.stack sc.heap.objs.size a go CI Pr) m (.send .none) ((withG s3 G3).setGen gi .running) := fun {σ3 H3} I3 q3 => by
        have J3 : Inv X pins σ3 H3 (withG s3 G3) := inv_regen I3.unpinned (gb3 I3.bare)
        have J4 : Inv X pins σ3 H3 ((withG s3 G3).setGen gi .running) := inv_regen J3 (allBare_setGen J3.bare rfl)
        have hp3 : ∀ p ∈ P0, s3.heap.get? p.1 = some p.2 ∧ H3 p.1 = none := fun p hq => by
          obtain ⟨z1, z2, _⟩ := I3.pin p (List.mem_append_right _ (List.mem_append_right _ hq))
          exact ⟨z1, z2⟩
        have hav3 : s3.heap.get? a = some go := (hp3 _ haP).1
        have wl : W (ys0.length + 1) σ3 H3 → W (ys0 ++ [x]).length σ3 H3 := fun q => by rw [List.length_append, List.length_singleton]; exact q
        obtain ⟨g1, g2⟩ := go2 ((withG s3 G3).setGen gi .running) H3 X.A q3.2 ⟨⟨σ3, wl q3.1, J4⟩, kcut hav3⟩ J4.env0 hp3
        cases n with
        | zero => exact g1.elim
        | succ m =>
          have hsl := sleeps_of g2
          refine ⟨m, Nat.lt_succ_self _, ys0 ++ [x], σ3, H3, ?_, wl q3.1, J3, hav3, gs', gk3 gi gs' (k2 hsl) hsl, g1⟩
          rw [List.length_append, List.length_singleton]
          omega
      cases f with
      | next => obtain ⟨σ3, H3, I3, q3⟩ := h3; exact again I3 q3
      | cont => obtain ⟨σ3, H3, I3, q3⟩ := h3; exact again I3 q3
      | brk => obtain ⟨_, _, _, q3⟩ := h3; exact q3.elim
      | ret u => obtain ⟨_, _, _, _, _, q3⟩ := h3; exact q3.elim
    · intro _
      obtain ⟨ys0, H₀, H1, ⟨⟨σ0, w0', I0⟩, _⟩, os, ba, un, hok, hQ⟩ := hF
      have Ia : Inv X pins σ0 H1 s₁ := B.turn I0 os ba un hok
      have Ib := (inv_regen Ia (allBare_setGen (g := gi) (x := .finished) ba rfl)).kept (t' := s₁.toks) hk
      exact wpAny_execs_nil ⟨σ0, H1, Ib, hQ σ0 H₀ w0' un.tups⟩
    · obtain ⟨_, _, _, _, ⟨_, _, _, _, _, _, _, _, _, _, _, _, hf⟩, _⟩ := he
      exact hf.elim
  · refine wake X.A.in1 CI (s1.setGen gi .running) (Room.in1 (hr.mono (by omega))) I1.ok.frames (fun b o e => e) hos (allBare_setGen hba rfl) ⟨⟨σ, w0, inv_regen I1 (allBare_setGen hba rfl)⟩, ?_⟩ fun ys H1 s1 q => q.2
    exact kcut hga
theorem cx_over {P : Program} {w : World} {l : List Env} {H : Hp} {s s' : Shared} {E : XK} {u : Value} (h : L2N.CX P w l H s E u s') : L2.CX P w l H s E u s' := by
  obtain ⟨a, B, H', c, d, e, fl, z⟩ := h
  exact ⟨a, B, H', c, d, e, ⟨fl.1, fl.2.1, fl.2.2.1, L2H.tracedZ_imp (fun _ q => q.zc) fl.2.2.2⟩, z⟩
theorem ps_forX {E : L2.St → XK} (hp : PassesOwn (model X.prog X.w) X.A X.env X.xe) (hc : X.calm = true) (hg0 : PGx X k iter tgn E) (hx : ∀ σ, PassesAt (L2N.CX X.prog X.w) X σ (E σ)) (hns : ∀ σ, NoStop X.K (E σ)) (hr : Room (k + 3) X.A) (hs : ∀ x, foldedSetIterable iter X.env x = pure x := by intro _; rfl) : PS X (.For tg iter body [] pos) (tForX tgn) := by
  refine ⟨fun pins s σ H D I h => ?_⟩
  refine wpAny_For (thn (hg0.run pins s σ H _ _ _ I h) fun v s1 h1 => ?_) hs
  obtain ⟨Hc, sc, Ic, _, a, gi, c, go, rfl, ha1, ha2, hga, hgo, hgs, hos, hba, hkp, wake⟩ := h1
  have isg : ∀ {h : Heap}, h.get? a = some go → h.IsGen a gi := fun {h} e => hgo.is e
  refine wpAny_pyIter_gen (isg hga) ?_
  have B := Below.of Ic
  let CI : List V → Hp → Shared → Prop := fun ys H0 s0 => (Inv X pins σ H0 s0 ∧ Inv X pins σ H0 (cutSh s0 sc.heap.objs.size)) ∧ sc.heap.objs.size ≤ s0.heap.objs.size
  let Q : List V → Hp → Prop := fun ys H1 => D.nx σ H1
  let Pr : List V → V → Hp → (Hp → Prop) → Prop := fun _ _ _ _ => False
  have I1 : Inv X pins σ Hc s1 := Ic.call' (ch := []) hos (Un.kept hkp) (Ic.hok.kept hkp) hba fun b z => by simp at z
  have hdn : X.A.handled = none := I.ok.hd hc
  have cutK : ∀ b o, sc.heap.get? b = some o → (cutH s1.heap sc.heap.objs.size).get? b = some o := fun b o e => (cutH_get (Heap.lt_size e)).trans (hkp b o e)
  have I1c : Inv X pins σ Hc (cutSh (s1.setGen gi .running) sc.heap.objs.size) := Ic.call' (ch := []) hos (Un.kept cutK) (Ic.hok.kept cutK) (allBare_setGen hba rfl) fun b z => by simp at z
  have hgl : gi < s1.gens.size := (Array.getElem?_eq_some_iff.mp hgs).1
  refine codeAny_forLoop_any (fun n s' => s' = s1) ?_ 0 rfl
  rintro n s' rfl
  refine wpAny_passesOwn hp (next_genG (A := X.A) (n := sizeLine) (gs := .fresh c) (Y := ItemC X.prog X.w X.K X.mg X.base X.stack sc.heap.objs.size a go CI Pr) (F := fun n s₀ s₁ => ∃ ys H₀ H1, CI ys H₀ s₀ ∧ s₁.os = s₀.os ∧ AllBare s₁.gens ∧ Un (frs X.stack) [] H₀ H1 (cutH s₀.heap sc.heap.objs.size) s₁.heap ∧ HOk X.prog X.w H1 s₁.heap ∧ Q ys H1)
    (Er := fun e s₁ => ∃ ys H₀ s₀, CI ys H₀ s₀ ∧ L2N.CX X.prog X.w X.stack H₀ (cutSh s₀ sc.heap.objs.size) (E σ) e s₁ ∧ s₁.heap.get? a = some go) hdn I1.nolimit hr.depth (isg hga) hgs ⟨rfl, ?_⟩ (fun v s₁ gs' hbare hv => ?_) (fun s₁ hF h' hk => ?_) fun e s₁ he => ?_)
  · exact wake X.A.in1 CI (s'.setGen gi .running) (Room.in1 (hr.mono (by omega))) I1.ok.frames (fun b o e => e) hos (allBare_setGen hba rfl) ⟨⟨inv_regen I1 (allBare_setGen hba rfl), I1c⟩, Nat.le_trans ha1 (Nat.le_of_lt ha2)⟩ fun ys H1 s1 q => q.2
  · obtain ⟨_, _, _, _, _, _, _, _, _, _, _, _, _, _, _, pr, _⟩ := hv
    exact False.elim pr
  · obtain ⟨ys0, H₀, H1, ⟨⟨I0, _⟩, _⟩, os, ba, un, hok, hQ⟩ := hF
    have Ia : Inv X pins σ H1 s₁ := B.turn I0 os ba un hok
    have Ib := (inv_regen Ia (allBare_setGen (g := gi) (x := .finished) ba rfl)).kept (t' := s₁.toks) hk
    exact wpAny_execs_nil ⟨σ, H1, Ib, hQ⟩
  · obtain ⟨ys0, H₀, s₀, ⟨⟨I0, I0c⟩, _⟩, cx, hg1⟩ := he
    have kin : X.K.In s₁.heap := by
      obtain ⟨a, B, H', cls, d, _, fl, _, ub, _⟩ := id cx
      refine I0.ok.mod.kin.keeps fun b o eb => fl.1 b o (ub.keep b o (I0c.bs b o eb).1 (I0c.bs b o eb).2 fun hm => ?_)
      have hb1 := Nat.lt_of_lt_of_le (Heap.lt_size eb) (Nat.le_trans I0.ok.bsz I0.ok.above)
      rcases List.mem_cons.mp (I0.stkSub b hm) with z | z
      · rw [z] at hb1
        exact Nat.lt_irrefl _ hb1
      · exact I0.ok.nofr eb z
    refine ⟨isg hg1, notStop_of (hns σ) kin (cx_over cx), hx σ pins H₀ _ e _ I0c ?_⟩
    obtain ⟨a, B, H', cls, d, z1, fl, z2, ub, z3, z4, z5, z6⟩ := cx
    exact ⟨a, B, H', cls, d, z1, fl, z2, ub, z3, z4, allBare_setGen z5 rfl, z6⟩
end
def onlyC (C0 : Addr) (E : XK) : XK := fun cls d H => cls = .ref C0 ∧ E cls d H
abbrev onlyW (C0 : Addr) (W : WX) : L2.St → XK := fun σ => onlyC C0 (fun c d H => W c d σ H)
abbrev noE : L2.St → XK := fun _ => L2.E0
theorem passOnly {X : Cx} {W : WX} {C0 : Addr} (tk : L2N.Takes X W) (σ : L2.St) : PassesAt (L2N.CX X.prog X.w) X σ (onlyC C0 (fun c d H => W c d σ H)) := fun pins H s e s' I q => L2N.passAt tk σ pins H s e s' I (by
  obtain ⟨a, B, H', cls, d, z1, fl, z2, ub, z3, z4, z5, z6⟩ := q
  exact ⟨a, B, H', cls, d, z1, fl, z2, ub, z3, z4, z5, z6.2⟩)
theorem nostopC {K : PySem.W.Frag} {C0 : Addr} {E : XK} (h : PySem.W.subIn K (.ref C0) (.type "StopIteration") = some false) : NoStop K (onlyC C0 E) := fun cls d H q => by rw [q.1]; exact h
def sbE (C : Str) (T : String) (b : Bool) : Ex := fun K => decide (PySem.W.subIn K (.ref (He.ga K C)) (.type T) = some b)
theorem sbE_ok {C : Str} {T : String} {b : Bool} {K : PySem.W.Frag} (h : sbE C T b K = true) : PySem.W.subIn K (.ref (He.ga K C)) (.type T) = some b := of_decide_eq_true h
end My

namespace My
open PySem PySem.Spec PyProof.Rows L2
namespace Ab
abbrev ASpH := List A → AM → (List A → A → AM → (AM → Prop) → Prop) → (List A → AM → Prop) → AX → Prop
abbrev TGx := AS → AM → (List A → A → AM → (AM → Prop) → Prop) → (List A → AM → Prop) → Prop
def tHYield (Pr : List A → A → AM → (AM → Prop) → Prop) (te : Ab.TE) : Ab.TGn := fun D ys s M => ys.length < sizeLine ∧ te s M fun x M1 => Pr ys x M1 fun M2 => D.nx (ys ++ [x]) s M2
def tMethX (C : Addr) (m : Str) (sp : Ab.ASpH) (dvs : List A) (E : AS → AX) (ta : Ab.TE) (t : Ab.TA) : Ab.TGx := fun s M Pr Q => ta s M fun x M1 => ∃ a fs, x = .ref a ∧ M1 a = some (.ins C fs) ∧ valA fs m = none ∧ t s M1 fun vs M2 => sp (x :: (vs ++ dvs)) M2 Pr Q (E s)
def tForG (tg : Ab.TGx) (g : Ab.TG) (tb : Ab.TS) : Ab.TS := fun D s M => ∃ W : Nat → AS → Prop, W 0 s ∧ tg s M
  (fun ys x M1 kp => ∀ s, W ys.length s → g x s M1 fun s1 M2 => tb { nx := fun s2 M3 => W (ys.length + 1) s2 ∧ kp M3, ct := fun s2 M3 => W (ys.length + 1) s2 ∧ kp M3, bk := fun _ _ => False, rt := fun _ _ => False } s1 M2)
  fun ys M1 => ∀ s, W ys.length s → D.nx s M1
def onlyC (C0 : Addr) (X : AX) : AX := fun C fs M => C = C0 ∧ X C fs M
abbrev onlyW (C0 : Addr) (X : AX) : AS → AX := fun _ => onlyC C0 X
abbrev noE : AS → AX := fun _ => Ab.E0
def tForX (tg : Ab.TGx) : Ab.TS := fun D s M => tg s M (fun _ _ _ _ => False) fun _ M1 => D.nx s M1
end Ab
def PrOk (K : PySem.W.Frag) (F H : Hp) (P : List A → A → AM → (AM → Prop) → Prop) (Pr : List V → V → Hp → (Hp → Prop) → Prop) : Prop :=
  ∀ as a M1 kp' ys v H1 kp, RL H1 as ys → RV H1 a v → Rep K F H1 M1 → Tp H H1 → P as a M1 kp' → (∀ M2 H2, kp' M2 → Rep K F H2 M2 → Tp H1 H2 → kp H2) → Pr ys v H1 kp
def liftH (K : PySem.W.Frag) (asp : Ab.ASpH) : SpH := fun vs H Pr Q E => ∃ F as M P B X, RL H as vs ∧ Rep K F H M ∧ asp as M P B X ∧ PrOk K F H P Pr ∧ (∀ as' M' ys H', B as' M' → Rep K F H' M' → RL H' as' ys → Tp H H' → Q ys H') ∧ XOk K F H E X
structure RSpH (K : PySem.W.Frag) (sp : SpH) (asp : Ab.ASpH) : Prop where
  run : ∀ F vs as H M Pr Q P B E X, RL H as vs → Rep K F H M → asp as M P B X → PrOk K F H P Pr → (∀ as' M' ys H', B as' M' → Rep K F H' M' → RL H' as' ys → Tp H H' → Q ys H') → XOk K F H E X → sp vs H Pr Q E
theorem RSpH.lift {K : PySem.W.Frag} {asp : Ab.ASpH} : RSpH K (liftH K asp) asp := ⟨fun F vs as H M Pr Q P B E X h r a p k x => ⟨F, as, M, P, B, X, h, r, a, p, k, x⟩⟩
section
variable (K : PySem.W.Frag) (E : XK) (X : AX)
structure RHn (F H0 : Hp) (t : L2.TGn) (u : Ab.TGn) : Prop where
  run : ∀ σ H s M as ys D B, Tp H0 H → XOk K F H E X → RL H as ys → RS H s σ → Rep K F H M → u B as s M → GOk K F H B D → t D ys σ H
structure RGx (t : My.TGx) (u : Ab.TGx) : Prop where
  run : ∀ F σ H s M T Pr Q P B, XOk K F H E X → RS H s σ → Rep K F H M → u s M P B → (∀ H1 M1, Rep K F H1 M1 → Tp H H1 → T H1) → PrOk K F H P Pr → (∀ as' M' ys H', B as' M' → Rep K F H' M' → RL H' as' ys → Tp H H' → Q ys H') → t σ H T Pr Q
end
theorem PrOk.up {K : PySem.W.Frag} {F H H1 : Hp} {P : List A → A → AM → (AM → Prop) → Prop} {Pr : List V → V → Hp → (Hp → Prop) → Prop} (p : PrOk K F H P Pr) (c : Tp H H1) : PrOk K F H1 P Pr :=
  fun as a M1 kp' ys v H2 kp h1 h2 h3 h4 => p as a M1 kp' ys v H2 kp h1 h2 h3 (c.trans h4)
theorem rdH_of {K : PySem.W.Frag} {asp : Ab.ASpH} {N : List Str} {t : (List V → V → Hp → (Hp → Prop) → Prop) → XK → L2.TGn} {u : (List A → A → AM → (AM → Prop) → Prop) → AX → Ab.TGn} {vs : List V} {H : Hp} {Pr : List V → V → Hp → (Hp → Prop) → Prop} {Q : List V → Hp → Prop} {E : XK}
    (rf : ∀ X F H P Pr, PrOk K F H P Pr → RHn K E X F H (t Pr E) (u P X))
    (ab : ∀ as M P B X, asp as M P B X → u P X { nx := fun ys _ M' => Ab.WkG B ys M', rt := fun ys v M' => v = .non ∧ Ab.WkG B ys M' } [] (Ab.start N as) M) (h : liftH K asp vs H Pr Q E) : t Pr E { nx := fun ys _ H' => Q ys H', rt := fun ys v H' => v = .non ∧ Q ys H' } [] (L2.start N vs) H := by
  obtain ⟨F, as, M, P, B, X, hv, r, a, pr, k, x⟩ := h
  refine (rf X F H P Pr pr).run _ H _ M [] [] _ _ (Tp.refl _) x RL.nil (RS.startOf N hv) r (ab as M P B X a) ⟨?_, ?_, fun _ _ _ _ _ _ h => h.elim, fun _ _ _ _ _ _ h => h.elim⟩
  · rintro as s M' ys σ H' ⟨M0, h0, p⟩ y _ r' c
    exact k _ M0 _ H' p (r'.sub h0) y c
  · rintro as a M' ys x H' ⟨e, M0, h0, p⟩ y r' rv c
    subst e
    exact ⟨RV.non_iff.mp rv, k _ M0 _ H' p (r'.sub h0) y c⟩
namespace Rf
section
variable {K : PySem.W.Frag} {E : XK} {X : AX} {F H0 : Hp}
theorem hOf {t : L2.TGn} {u : Ab.TGn} (h : RGn K E X t u) : RHn K E X F H0 t u := ⟨fun σ H s M as ys D B _ x ry rs m p d => h.run F σ H s M as ys D B x ry rs m p d⟩
theorem hPlain {t : L2.TS} {u : Ab.TS} (h : RSt K E X t u) : RHn K E X F H0 (L2.tPlain t) (Ab.tPlain u) := hOf (gPlain h)
theorem hG0 : RHn K E X F H0 L2.tG0 Ab.tG0 := hOf gG0
theorem hThen {t t2 : L2.TGn} {u u2 : Ab.TGn} (h : RHn K E X F H0 t u) (h2 : RHn K E X F H0 t2 u2) : RHn K E X F H0 (L2.tGThen t t2) (Ab.tGThen u u2) := ⟨fun σ H s M as ys D B c x ry rs m p d =>
  h.run σ H s M as ys _ _ c x ry rs m p ⟨fun as2 s2 M2 ys2 σ2 H2 q y2 r2 m2 c2 => h2.run σ2 H2 s2 M2 as2 ys2 _ _ (c.trans c2) (x.up c2) y2 r2 m2 q (d.up c2), d.rt, d.bk, d.ct⟩⟩
theorem hYield {te : L2.TE} {ue : Ab.TE} {P : List A → A → AM → (AM → Prop) → Prop} {Pr : List V → V → Hp → (Hp → Prop) → Prop} (pr : PrOk K F H0 P Pr) (h : RE K E X te ue) : RHn K E X F H0 (My.tHYield Pr te) (Ab.tHYield P ue) := ⟨fun σ H s M as ys D B c x ry rs m ⟨hl, p⟩ d =>
  ⟨by rw [ry.length]; exact hl, h.run F σ H s M _ _ x rs m p fun a M1 v H1 q m1 rv c1 => pr as a M1 _ ys v H1 _ (ry.up c1) rv m1 (c.trans c1) q fun M2 H2 kp m2 c2 => d.nx _ _ _ _ _ _ kp (((ry.up c1).up c2).append (RL.one (rv.up c2))) ((rs.up c1).up c2) m2 (c1.trans c2)⟩⟩
theorem hFor {wi : L2.TI} {ui : Ab.TI} {g : L2.TG} {ug : Ab.TG} {tb : L2.TGn} {ub : Ab.TGn} (hi : RI K E X wi ui) (hg : RG K E X g ug) (hb : RHn K E X F H0 tb ub) : RHn K E X F H0 (My.tGFor wi g tb) (Ab.tGFor ui ug ub) := ⟨fun σ H s M as ys D B c x ry rs m p d =>
  hi.run F σ H s M _ _ x rs m p fun xs ok M1 J H1 ⟨Iv, i0, iok, step, done⟩ m1 c1 wk => by
    have wk := wk F fun _ _ z => z
    have d1 := d.up c1
    have c01 := c.trans c1
    refine ⟨fun i n ys' σ' H' => n + i = xs.length ∧ ∃ as' s' M', Iv i as' s' M' ∧ RL H' as' ys' ∧ RS H' s' σ' ∧ Rep K F H' M' ∧ Tp H1 H', ⟨xs.length, rfl, as, s, M1, i0, ry.up c1, rs.up c1, m1, Tp.refl _⟩, ?_⟩
    rintro i n ys' σ' H' ⟨hn, as', s', M', inv, ry', rs', m', c'⟩
    have o := iok i as' s' M' (by omega) inv
    by_cases e : i = xs.length
    · subst e
      exact .inl ⟨wk.stop H' M' c' m' o, d1.nx _ _ _ _ _ _ (done as' s' M' inv) ry' rs' m' c'⟩
    · have hlt : i < xs.length := by omega
      have hx : xs[i]? = some xs[i] := List.getElem?_eq_getElem hlt
      obtain ⟨go, yl⟩ := wk.go i _ H' M' c' m' o hx
      refine .inr ⟨go, fun ys2 σ2 H2 => ∃ as2 s2 M2, Iv (i + 1) as2 s2 M2 ∧ RL H2 as2 ys2 ∧ RS H2 s2 σ2 ∧ Rep K F H2 M2 ∧ Tp H1 H2, fun ys2 σ2 H2 ⟨as2, s2, M2, q⟩ => ⟨n - 1, by omega, by omega, as2, s2, M2, q⟩, fun y H2 hy => ?_⟩
      obtain ⟨m2, c2, ryy, _⟩ := yl y H2 hy
      have c12 := c'.trans c2
      refine hg.run F σ' H2 s' M' _ _ _ _ ((x.up c1).up c12) ryy (rs'.up c2) m2 (step i _ as' s' M' hx inv) fun s3 M3 σ3 H3 p3 rs3 m3 c3 => ?_
      exact hb.run σ3 H3 s3 M3 as' ys' _ _ ((c01.trans c12).trans c3) (((x.up c1).up c12).up c3) (ry'.up (c2.trans c3)) rs3 m3 p3 ⟨fun as4 s4 M4 ys4 σ4 H4 p4 y4 rs4 m4 c4 => ⟨as4, s4, M4, p4, y4, rs4, m4, (c12.trans c3).trans c4⟩, (d1.up (c12.trans c3)).rt, fun as4 s4 M4 ys4 σ4 H4 p4 y4 rs4 m4 c4 => (d1.up (c12.trans c3)).nx _ _ _ _ _ _ p4 y4 rs4 m4 c4, fun as4 s4 M4 ys4 σ4 H4 p4 y4 rs4 m4 c4 => ⟨as4, s4, M4, p4, y4, rs4, m4, (c12.trans c3).trans c4⟩⟩⟩
theorem xMeth {C : Addr} {mm : Str} {sp : SpH} {asp : Ab.ASpH} {ta : L2.TE} {ua : Ab.TE} {t : L2.TA} {u : Ab.TA} {E1 : XK} {X1 : AX} (h : RSpH K sp asp) (hs : RE K E X ta ua) (ha : RA K E X t u) (hx : ∀ F H, XOk K F H E X → XOk K F H E1 X1) : RGx K E X (My.tMethX C mm sp [] (fun _ => E1) ta t) (Ab.tMethX C mm asp [] (fun _ => X1) ua u) := ⟨fun F σ H s M T Pr Q P B x rs m p hT hP hQ =>
  hs.run F σ H s M _ _ x rs m p fun a M1 v H1 ⟨l, fs, e, hl, hn, p1⟩ m1 rv c1 => by
    subst e
    cases RV.ref_iff.mp rv
    obtain ⟨dx, ys, h1, h2, h3⟩ := m1.at_ _ _ hl
    refine ⟨l, dx, ys, rfl, h1, lookN h3 hn, ha.run F σ H1 s M1 _ _ (x.up c1) (rs.up c1) m1 p1 fun as M2 vs H2 p2 m2 rw c2 => ⟨hT H2 M2 m2 (c1.trans c2), ?_⟩⟩
    have e1 : vs ++ [] = vs := List.append_nil _
    have e2 : as ++ [] = as := List.append_nil _
    rw [e2] at p2
    rw [e1]
    exact h.run F _ _ H2 M2 _ _ _ _ _ _ (RL.cons (RV.ref_iff.mpr rfl) rw) m2 p2 (hP.up (c1.trans c2)) (fun as' M2 ys H2 p2 m2 rz c3 => hQ as' M2 ys H2 p2 m2 rz ((c1.trans c2).trans c3)) (hx F H2 (x.up (c1.trans c2)))⟩
theorem tForG {t : My.TGx} {u : Ab.TGx} {g : L2.TG} {ug : Ab.TG} {tb : L2.TS} {ub : Ab.TS} (h : RGx K E X t u) (hg : RG K E X g ug) (hb : RSt K E X tb ub) : RSt K E X (My.tForG t g tb) (Ab.tForG u ug ub) := ⟨fun F σ H s M D B x rs m ⟨W, w0, p⟩ d => by
  refine ⟨fun i σ1 H1 => ∃ s1, W i s1 ∧ RS H1 s1 σ1 ∧ Tp H H1, h.run F σ H s M _ _ _ _ _ x rs m p (fun H1 M1 m1 c1 => ⟨s, w0, rs.up c1, c1⟩) ?_ ?_⟩
  · rintro as a M1 kp' ys v H1 kp ry rv m1 c1 hp hk σ0 H0 ⟨s0, w, rs0, c0⟩ c01
    rw [ry.length] at w ⊢
    refine hg.run F σ0 H1 s0 M1 _ _ _ _ (x.up c1) rv (rs0.up c01) m1 (hp s0 w) fun s2 M2 σ2 H2 p2 rs2 m2 c2 => ?_
    refine hb.run F σ2 H2 s2 M2 _ _ ((x.up c1).up c2) rs2 m2 p2 ⟨?_, fun _ _ _ _ q => q.elim, fun _ _ _ _ q => q.elim, ?_⟩
    · rintro s3 M3 σ3 H3 ⟨w3, k3⟩ rs3 m3 c3
      exact ⟨⟨s3, w3, rs3, (c1.trans c2).trans c3⟩, hk M3 H3 k3 m3 (c2.trans c3)⟩
    · rintro s3 M3 σ3 H3 ⟨w3, k3⟩ rs3 m3 c3
      exact ⟨⟨s3, w3, rs3, (c1.trans c2).trans c3⟩, hk M3 H3 k3 m3 (c2.trans c3)⟩
  · rintro as M1 ys H1 q m1 ry c1 σ0 H0 ⟨s0, w, rs0, c0⟩ c01
    rw [ry.length] at w
    exact d.nx s0 M1 σ0 H1 (q s0 w) (rs0.up c01) m1 c1⟩
theorem tForX {t : My.TGx} {u : Ab.TGx} (h : RGx K E X t u) : RSt K E X (My.tForX t) (Ab.tForX u) := ⟨fun F σ H s M D B x rs m p d =>
  h.run F σ H s M _ _ _ _ _ x rs m p (fun _ _ _ _ => trivial) (fun _ _ _ _ _ _ _ _ _ _ _ _ q _ => q.elim) fun as M1 ys H1 q m1 ry c1 => d.nx s M1 σ H1 q (rs.up c1) m1 c1⟩
theorem xMeth0 {C : Addr} {mm : Str} {sp : SpH} {asp : Ab.ASpH} {ta : L2.TE} {ua : Ab.TE} {t : L2.TA} {u : Ab.TA} (h : RSpH K sp asp) (hs : RE K E X ta ua) (ha : RA K E X t u) : RGx K E X (My.tMethX C mm sp [] noE ta t) (Ab.tMethX C mm asp [] Ab.noE ua u) := xMeth h hs ha fun _ _ _ => XOk.no
theorem tTryZX {c : Value} {i : Nat} {ts : Addr → Value → Option Addr → L2.TS} {us : Addr → Addr → Option Addr → Ab.TS} {C C0 : Addr} {mm : Str} {sp : SpH} {asp : Ab.ASpH} {ta : L2.TE} {ua : Ab.TE} {t : L2.TA} {u : Ab.TA} (hs : ∀ a C d, RSt K E X (ts a (.ref C) d) (us a C d)) (h : RSpH K sp asp) (ho : ∀ E X, RE K E X ta ua) (ha : ∀ E X, RA K E X t u) :
    RSt K E X (My.tTryZ K c i (fun W => My.tForX (My.tMethX C mm sp [] (onlyW C0 W) ta t)) ts) (Ab.tTryZ K c i (fun Y => Ab.tForX (Ab.tMethX C mm asp [] (Ab.onlyW C0 Y) ua u)) us) :=
  tTryZG (tb2 := fun E => My.tForX (My.tMethX C mm sp [] (fun _ => onlyC C0 E) ta t)) (fun _ _ _ _ q => q) (fun E X => tForX (xMeth h (ho E X) (ha E X) fun F H x => ⟨fun C1 fs M od H' q r n c => ⟨by rw [q.1], x.run C1 fs M od H' q.2 r n c⟩⟩)) hs
end
end Rf
structure ClMH (P : Program) (w : World) (K : PySem.W.Frag) (mg : Str → Option Value) (base : Heap) (k : Nat) (x m : Str) (sp : SpH) : Prop where
  ex : ∃ f fd ps, Cls K (He.ga K x) ∧ Meth K (He.ga K x) m f ∧ HFn P w K mg base k f fd ps sp ∧ Binds K fd ps []
section
variable {P : Program} {w : World} {K : PySem.W.Frag} {mg : Str → Option Value} {base : Heap} {x qual : Str} {params : Arguments} {body : List Stmt} {scope : Scope} {f : Addr} {fd : FuncData} {N ps : List Str} {k : Nat} {sp : SpH}
theorem FunD.okGen (F : FunD K x qual params body scope [] [] f fd) (S : GScope N ps scope) (nc : ∀ y ∈ scope.names, y.2 ≠ .cell) (len : ∀ vs H Pr Q E, sp vs H Pr Q E → vs.length = ps.length)
    (hbody : ∀ (cdv : Value) (A : Around) (outer : List Env) (L a : Addr) (go : Obj) (CI : List V → Hp → Shared → Prop) (H : Hp) (vs : List V) (Pr : List V → V → Hp → (Hp → Prop) → Prop) (Q : List V → Hp → Prop) (E : XK), Room k (A.deeper (envOfC qual scope L f cdv)) → sp vs H Pr Q E →
      ∃ t, HSs ⟨P, w, K, mg, base, N, qual, scope, f, cdv, A, outer, L, a, go, E, CI, Pr, Q⟩ body t ∧ t { nx := fun ys _ H' => Q ys H', rt := fun ys v H' => v = .non ∧ Q ys H' } [] (L2.start N vs) H) : HFn P w K mg base (k + 1) f fd ps sp := by
  obtain ⟨oc, od, dV, kV, doc, pm, an, cdv, ct, osl, rfl, lk, hcd, _, _⟩ := F.ex
  exact hfn_of lk hcd S nc len fun A outer L a go CI H vs Pr Q E hr hsp => hbody cdv A outer L a go CI H vs Pr Q E hr hsp
end
section
variable {X : Cx} {k j : Nat} {x m : Str} {sp : SpH} {E : L2.St → XK} {e o : Expr} {es : List Expr} {t : L2.TA} {ta : L2.TE} {pos apos : Pos}
theorem pgx_cm {pl : Sem Bool} (c : ClMH X.prog X.w X.K X.mg X.base k x m sp) (hr : Room j X.A) (hk : k ≤ j) (ho : PE X o ta) (ha : PA X (e :: es) t)
    (hst : starEach (e :: es) X.env = (false, eval e X.env) :: starEach es X.env := by rfl) (hpl : (backTo pos (starEach es X.env)).any (·.1) = false := by rfl)
    (ht : eval (.Call (.Attribute o m apos) (e :: es) [] pos) X.env = (do
      let ov ← eval o X.env
      standAt apos.atName
      let (f, first) ← holding [ov] (getMethod ov m pl)
      callWith pos f first (backTo pos (starEach (e :: es) X.env)) (backToKw pos (keywordEach [] X.env))) := by rfl) : PGx X k (.Call (.Attribute o m apos) (e :: es) [] pos) (tMethX (He.ga X.K x) m sp [] E ta t) E := by
  obtain ⟨f, fd, ps, hc, hm, F, hb⟩ := c.ex
  exact pgx_meth (pl := pl) ho hc hm F (hr.mono hk) hb .nil ha hst hpl ht
end
end My

namespace Prog
open PySem PySem.Spec PyProof.Rows L2 My
def top (i : Nat) : Stmt := PySem.Challenge.pw_signbysign_k12_runs.main.body.getD i (.Pass ⟨0, 0, 0, 0⟩)
abbrev FnP (K : PySem.W.Frag) (x q : Str) (st : Stmt) (f : Addr) (fd : FuncData) : Prop := FunD K x q (defArgs st) (defBody st) (defScope st) [] [] f fd
abbrev s_take : Stmt := (top 25)
def d_take : DefM := ⟨wFn "_law_take", "_law_take", "_law_take", defArgs s_take, defBody s_take, defScope s_take, []⟩
abbrev s_stream : Stmt := (top 24)
def d_stream : DefM := ⟨wFn "_law_stream", "_law_stream", "_law_stream", defArgs s_stream, defBody s_stream, defScope s_stream, []⟩
abbrev s_names : Stmt := (top 26)
def d_names : DefM := ⟨wFn "_law_names", "_law_names", "_law_names", defArgs s_names, defBody s_names, defScope s_names, []⟩
abbrev s_worked : Stmt := (top 27)
def d_worked : DefM := ⟨wFn "_law_worked", "_law_worked", "_law_worked", defArgs s_worked, defBody s_worked, defScope s_worked, []⟩
abbrev s_signs : Stmt := (top 28)
def d_signs : DefM := ⟨wFn "_law_signs", "_law_signs", "_law_signs", defArgs s_signs, defBody s_signs, defScope s_signs, []⟩
abbrev s_looks : Stmt := (top 29)
def d_looks : DefM := ⟨wFn "_law_looks", "_law_looks", "_law_looks", defArgs s_looks, defBody s_looks, defScope s_looks, []⟩
abbrev s_left : Stmt := (top 30)
def d_left : DefM := ⟨wFn "_law_left", "_law_left", "_law_left", defArgs s_left, defBody s_left, defScope s_left, []⟩
abbrev s_lholes : Stmt := (top 31)
def d_lholes : DefM := ⟨wFn "_law_holes", "_law_holes", "_law_holes", defArgs s_lholes, defBody s_lholes, defScope s_lholes, []⟩
abbrev s_grow : Stmt := (top 32)
def d_grow : DefM := ⟨wFn "_law_grow", "_law_grow", "_law_grow", defArgs s_grow, defBody s_grow, defScope s_grow, []⟩
abbrev s_rules : Stmt := (top 33)
def d_rules : DefM := ⟨wFn "_law_rules", "_law_rules", "_law_rules", defArgs s_rules, defBody s_rules, defScope s_rules, []⟩
abbrev s_language : Stmt := (top 34)
def d_language : DefM := ⟨wFn "_law_language", "_law_language", "_law_language", defArgs s_language, defBody s_language, defScope s_language, []⟩
abbrev s_word : Stmt := (top 10)
def d_word : DefM := ⟨wFn "is_word", "is_word", "is_word", defArgs s_word, defBody s_word, defScope s_word, []⟩
abbrev s_holes : Stmt := (top 11)
def d_holes : DefM := ⟨wFn "form_holes", "form_holes", "form_holes", defArgs s_holes, defBody s_holes, defScope s_holes, []⟩
abbrev s_rowok : Stmt := (top 16)
def d_rowok : DefM := ⟨wFn "row_allowed", "row_allowed", "row_allowed", defArgs s_rowok, defBody s_rowok, defScope s_rowok, []⟩
abbrev s_known : Stmt := (top 17)
def d_known : DefM := ⟨wFn "known", "known", "known", defArgs s_known, defBody s_known, defScope s_known, []⟩
abbrev s_ruleok : Stmt := (top 18)
def d_ruleok : DefM := ⟨wFn "rule_allowed", "rule_allowed", "rule_allowed", defArgs s_ruleok, defBody s_ruleok, defScope s_ruleok, []⟩
abbrev s_overl : Stmt := (top 19)
def d_overl : DefM := ⟨wFn "overlapping", "overlapping", "overlapping", defArgs s_overl, defBody s_overl, defScope s_overl, []⟩
abbrev s_init : Stmt := (inClass (top 22) 0)
def d_init : DefM := ⟨wMt "Language" "__init__", "__init__", "Language.__init__", defArgs s_init, defBody s_init, defScope s_init, []⟩
abbrev s_fill : Stmt := (top 12)
def d_fill : DefM := ⟨wFn "fill_form", "fill_form", "fill_form", defArgs s_fill, defBody s_fill, defScope s_fill, []⟩
abbrev s_putp : Stmt := (top 13)
def d_putp : DefM := ⟨wFn "put_part", "put_part", "put_part", defArgs s_putp, defBody s_putp, defScope s_putp, []⟩
abbrev s_opening : Stmt := (top 20)
def d_opening : DefM := ⟨wFn "opening", "opening", "opening", defArgs s_opening, defBody s_opening, defScope s_opening, []⟩
abbrev s_bound : Stmt := (top 21)
def d_bound : DefM := ⟨wFn "bound_parts", "bound_parts", "bound_parts", defArgs s_bound, defBody s_bound, defScope s_bound, []⟩
abbrev s_isdone : Stmt := (inClass (top 22) 6)
def d_isdone : DefM := ⟨wMt "Language" "is_done", "is_done", "Language.is_done", defArgs s_isdone, defBody s_isdone, defScope s_isdone, []⟩
abbrev s_fire : Stmt := (inClass (top 22) 7)
def d_fire : DefM := ⟨wMt "Language" "fire", "fire", "Language.fire", defArgs s_fire, defBody s_fire, defScope s_fire, []⟩
abbrev s_advance : Stmt := (inClass (top 22) 8)
def d_advance : DefM := ⟨wMt "Language" "advance", "advance", "Language.advance", defArgs s_advance, defBody s_advance, defScope s_advance, []⟩
abbrev s_table : Stmt := (top 37)
def d_table : DefM := ⟨wFn "_law_table", "_law_table", "_law_table", defArgs s_table, defBody s_table, defScope s_table, []⟩
abbrev s_ldone : Stmt := (top 38)
def d_ldone : DefM := ⟨wFn "_law_done", "_law_done", "_law_done", defArgs s_ldone, defBody s_ldone, defScope s_ldone, []⟩
abbrev s_lfill : Stmt := (top 35)
def d_lfill : DefM := ⟨wFn "_law_fill", "_law_fill", "_law_fill", defArgs s_lfill, defBody s_lfill, defScope s_lfill, []⟩
abbrev s_match : Stmt := (top 39)
def d_match : DefM := ⟨wFn "_law_match", "_law_match", "_law_match", defArgs s_match, defBody s_match, defScope s_match, []⟩
abbrev s_next : Stmt := (top 40)
def d_next : DefM := ⟨wFn "_law_next", "_law_next", "_law_next", defArgs s_next, defBody s_next, defScope s_next, []⟩
abbrev s_lsame : Stmt := (top 44)
def d_lsame : DefM := ⟨wFn "_law_same", "_law_same", "_law_same", defArgs s_lsame, defBody s_lsame, defScope s_lsame, []⟩
abbrev s_lsize : Stmt := (top 42)
def d_lsize : DefM := ⟨wFn "_law_size", "_law_size", "_law_size", defArgs s_lsize, defBody s_lsize, defScope s_lsize, []⟩
abbrev s_llev : Stmt := (top 43)
def d_llev : DefM := ⟨wFn "_law_levels", "_law_levels", "_law_levels", defArgs s_llev, defBody s_llev, defScope s_llev, []⟩
abbrev s_run : Stmt := (inClass (top 22) 11)
def d_run : DefM := ⟨wMt "Language" "run", "run", "Language.run", defArgs s_run, defBody s_run, defScope s_run, []⟩
abbrev s_due : Stmt := (top 45)
def d_due : DefM := ⟨wFn "_law_due", "_law_due", "_law_due", defArgs s_due, defBody s_due, defScope s_due, []⟩
abbrev s_asked : Stmt := (top 46)
def d_asked : DefM := ⟨wFn "_law_asked", "_law_asked", "_law_asked", defArgs s_asked, defBody s_asked, defScope s_asked, []⟩
abbrev s_law : Stmt := (top 47)
def d_law : DefM := ⟨wFn "law", "law", "law", defArgs s_law, defBody s_law, defScope s_law, []⟩
abbrev s_init_BadSign : Stmt := (inClass (top 4) 0)
def d_init_BadSign : DefM := ⟨wMt "BadSign" "__init__", "__init__", "BadSign.__init__", defArgs s_init_BadSign, defBody s_init_BadSign, defScope s_init_BadSign, [("__class__", wCell "BadSign")]⟩
abbrev s_init_BadRule : Stmt := (inClass (top 5) 0)
def d_init_BadRule : DefM := ⟨wMt "BadRule" "__init__", "__init__", "BadRule.__init__", defArgs s_init_BadRule, defBody s_init_BadRule, defScope s_init_BadRule, [("__class__", wCell "BadRule")]⟩
abbrev s_init_Overlap : Stmt := (inClass (top 6) 0)
def d_init_Overlap : DefM := ⟨wMt "Overlap" "__init__", "__init__", "Overlap.__init__", defArgs s_init_Overlap, defBody s_init_Overlap, defScope s_init_Overlap, [("__class__", wCell "Overlap")]⟩
abbrev s_init_BadForm : Stmt := (inClass (top 3) 0)
def d_init_BadForm : DefM := ⟨wMt "BadForm" "__init__", "__init__", "BadForm.__init__", defArgs s_init_BadForm, defBody s_init_BadForm, defScope s_init_BadForm, [("__class__", wCell "BadForm")]⟩
def fn : List DefM := d_take :: d_stream :: d_names :: d_worked :: d_signs :: d_looks :: d_left :: d_lholes :: d_grow :: d_rules :: d_language :: d_word :: d_holes :: d_rowok :: d_known :: d_ruleok :: d_overl :: d_init :: d_fill :: d_putp :: d_opening :: d_bound :: d_isdone :: d_fire :: d_advance :: d_table :: d_ldone :: d_lfill :: d_match :: d_next :: d_lsame :: d_lsize :: d_llev :: d_run :: d_due :: d_asked :: d_law :: d_init_BadSign :: d_init_BadRule :: d_init_Overlap :: d_init_BadForm :: []
def ex : List Ex := [excE "BadForm", exmE "BadForm" "TableError" true, kitE "BadForm" "BadForm" true, sbE "BadForm" "StopIteration" false, errM "BadSign" "BadSign" "index" "/claim/cut.py", errM "BadRule" "BadRule" "index" "/claim/cut.py", errM2 "Overlap" "Overlap" "first" "second" "/claim/cut.py", errM "BadForm" "BadForm" "form" "/claim/cut.py"]
def fa : List He.Fa := .glo "_law_take" :: .glo "_law_stream" :: .glo "_law_names" :: .glo "_law_worked" :: .glo "_law_signs" :: .glo "_law_looks" :: .glo "_law_left" :: .glo "_law_holes" :: .glo "_law_grow" :: .glo "_law_rules" :: .glo "_law_language" :: .glo "is_word" :: .glo "form_holes" :: .glo "row_allowed" :: .glo "known" :: .glo "rule_allowed" :: .glo "overlapping" :: .glo "Language" :: .glo "fill_form" :: .glo "put_part" :: .glo "opening" :: .glo "bound_parts" :: .glo "_law_table" :: .glo "_law_done" :: .glo "_law_fill" :: .glo "_law_match" :: .glo "_law_next" :: .glo "_law_same" :: .glo "_law_size" :: .glo "_law_levels" :: .glo "_law_due" :: .glo "_law_asked" :: .glo "law" :: .free "int" :: .free "len" :: .free "abs" :: .free "range" :: .free "sum" :: .free "tuple" :: .free "isinstance" :: .str "LETTERS" "abcdefghijklmnopqrstuvwxyz" :: .free "enumerate" :: .int "LAST_HOLE" 99 :: .free "zip" :: .free "list" :: .int "UNKNOWN" 1000 :: .free "all" :: .free "bool" :: .free "str" :: .free "max" :: .glo "BadForm" :: .glo "TableError" :: .cls "Language" :: .noat "Language" "sign_rows" :: .noat "Language" "rule_pairs" :: .noat "Language" "row_of" :: .noat "Language" "rules_of" :: .mkr "Language" :: .meth "Language" "is_done" :: .meth "Language" "fire" :: .meth "Language" "advance" :: .meth "Language" "run" :: .glo "BadSign" :: .glo "BadRule" :: .glo "Overlap" :: []
structure SaysP (P : Program) (K : PySem.W.Frag) : Prop where
  c : SaysM fa fn ex K
  hf : ((P.main.file : Str) == ("/claim/cut.py" : Str)) = true
  ht : (P.main.scope.names.lookup ("super" : Str)).isSome = false
abbrev R : PySem.W.OpenRow := PySem.W.OpenLaw.row PySem.Challenge.rw_signbysign_k12_runs
def as_ : List Addr := 3 :: 6 :: 4 :: 21 :: 31 :: 53 :: 74 :: 95 :: 116 :: 125 :: 130 :: 135 :: 142 :: 149 :: 156 :: 163 :: 170 :: 177 :: 184 :: 284 :: 295 :: 302 :: 307 :: 314 :: 321 :: 326 :: 331 :: 338 :: 343 :: 348 :: 355 :: 360 :: 367 :: 374 :: 379 :: 386 :: 393 :: 400 :: 405 :: 410 :: 417 :: 424 :: 431 :: 436 :: 0 :: 20 :: 30 :: 52 :: 73 :: 94 :: 115 :: 124 :: 129 :: 134 :: 141 :: 148 :: 155 :: 162 :: 169 :: 176 :: 183 :: 283 :: 294 :: 301 :: 306 :: 313 :: 320 :: 325 :: 330 :: 337 :: 342 :: 347 :: 354 :: 359 :: 366 :: 373 :: 378 :: 385 :: 392 :: 399 :: 404 :: 409 :: 416 :: 423 :: 430 :: 435 :: 15 :: 16 :: 17 :: 18 :: 19 :: 29 :: 32 :: 50 :: 51 :: 71 :: 72 :: 92 :: 93 :: 113 :: 114 :: 119 :: 120 :: 121 :: 122 :: 123 :: 126 :: 127 :: 128 :: 131 :: 132 :: 133 :: 136 :: 137 :: 138 :: 139 :: 140 :: 143 :: 144 :: 145 :: 146 :: 147 :: 150 :: 151 :: 152 :: 153 :: 154 :: 157 :: 158 :: 159 :: 160 :: 161 :: 164 :: 165 :: 166 :: 167 :: 168 :: 171 :: 172 :: 173 :: 174 :: 175 :: 178 :: 179 :: 180 :: 181 :: 182 :: 198 :: 207 :: 217 :: 225 :: 232 :: 239 :: 246 :: 253 :: 260 :: 267 :: 274 :: 281 :: 282 :: 285 :: 286 :: 289 :: 290 :: 291 :: 292 :: 293 :: 296 :: 297 :: 298 :: 299 :: 300 :: 303 :: 304 :: 305 :: 308 :: 309 :: 310 :: 311 :: 312 :: 315 :: 316 :: 317 :: 318 :: 319 :: 322 :: 323 :: 324 :: 327 :: 328 :: 329 :: 332 :: 333 :: 334 :: 335 :: 336 :: 339 :: 340 :: 341 :: 344 :: 345 :: 346 :: 349 :: 350 :: 351 :: 352 :: 353 :: 356 :: 357 :: 358 :: 361 :: 362 :: 363 :: 364 :: 365 :: 368 :: 369 :: 370 :: 371 :: 372 :: 375 :: 376 :: 377 :: 380 :: 381 :: 382 :: 383 :: 384 :: 387 :: 388 :: 389 :: 390 :: 391 :: 394 :: 395 :: 396 :: 397 :: 398 :: 401 :: 402 :: 403 :: 406 :: 407 :: 408 :: 411 :: 412 :: 413 :: 414 :: 415 :: 418 :: 419 :: 420 :: 421 :: 422 :: 425 :: 426 :: 427 :: 428 :: 429 :: 432 :: 433 :: 434 :: 49 :: 38 :: 70 :: 59 :: 91 :: 80 :: 112 :: 101 :: 197 :: 205 :: 206 :: 215 :: 216 :: 224 :: 231 :: 238 :: 245 :: 252 :: 259 :: 266 :: 273 :: 280 :: 44 :: 45 :: 46 :: 47 :: 48 :: 65 :: 66 :: 67 :: 68 :: 69 :: 86 :: 87 :: 88 :: 89 :: 90 :: 107 :: 108 :: 109 :: 110 :: 111 :: 192 :: 193 :: 194 :: 195 :: 196 :: 204 :: 208 :: 214 :: 218 :: 219 :: 220 :: 221 :: 222 :: 223 :: 226 :: 227 :: 228 :: 229 :: 230 :: 233 :: 234 :: 235 :: 236 :: 237 :: 240 :: 241 :: 242 :: 243 :: 244 :: 247 :: 248 :: 249 :: 250 :: 251 :: 254 :: 255 :: 256 :: 257 :: 258 :: 261 :: 262 :: 263 :: 264 :: 265 :: 268 :: 269 :: 270 :: 271 :: 272 :: 275 :: 276 :: 277 :: 278 :: 279 :: 199 :: 200 :: 201 :: 202 :: 203 :: 209 :: 210 :: 211 :: 212 :: 213 :: 2 :: []
abbrev hk : PySem.W.Hook := hookL as_ fa fn ex
def ob (s : PySem.W.SharedT) : AlM := obsML as_ fa fn ex (HandSHeadRun.getT s)
theorem ob_eq (s : PySem.W.SharedT) : ob s = hk.obs s.abs := obsML_eq (HandSHeadRun.getT_eq s)
def names : List PySem.Str := "_wall" :: "TableError" :: "BadForm" :: "BadSign" :: "BadRule" :: "Overlap" :: "LETTERS" :: "LAST_HOLE" :: "is_word" :: "form_holes" :: "fill_form" :: "put_part" :: "UNKNOWN" :: "row_allowed" :: "known" :: "rule_allowed" :: "overlapping" :: "opening" :: "bound_parts" :: "Language" :: "_law_stream" :: "_law_take" :: "_law_names" :: "_law_worked" :: "_law_signs" :: "_law_looks" :: "_law_left" :: "_law_holes" :: "_law_grow" :: "_law_rules" :: "_law_language" :: "_law_fill" :: "_law_made" :: "_law_table" :: "_law_done" :: "_law_match" :: "_law_next" :: "_law_run" :: "_law_size" :: "_law_levels" :: "_law_same" :: "_law_due" :: "_law_asked" :: []
def fr (s : PySem.W.SharedT) : PySem.W.Frag := He.frG (HandSHeadRun.getT s) as_
open PySem.W HandSHeadRun in theorem run0 (w : World) (os : OsState) : (HandSHeadRun.endF (HandSHeadRun.stepQ (HandSHeadRun.denQ HandSHeadRun.tabQ) R.prog w) 20000 R.prog w os).map (fun s => looksF R.prog (boot_heap w.params) s.abs) = some true := by
  kernel_rfl
open PySem.W HandSHeadRun in theorem run1 (w : World) (os : OsState) : (HandSHeadRun.endF (HandSHeadRun.stepQ (HandSHeadRun.denQ HandSHeadRun.tabQ) R.prog w) 20000 R.prog w os).map (fun s => seenQ (PySem.W.view R.prog [47]) names (importedModules R.prog.main.body) (fun s => xlAt (PySem.W.view R.prog [47]) [] s && recOk R.toRowW.records s) s.abs) = some (openGood (PySem.W.view R.prog [47]) names) := by
  kernel_rfl
open PySem.W HandSHeadRun in theorem run2 (w : World) (os : OsState) : (HandSHeadRun.endF (HandSHeadRun.stepQ (HandSHeadRun.denQ HandSHeadRun.tabQ) R.prog w) 20000 R.prog w os).map (fun s => fa.all fun x => x.ok (fr s)) = some true := by
  kernel_rfl
open PySem.W HandSHeadRun in theorem run3 (w : World) (os : OsState) : (HandSHeadRun.endF (HandSHeadRun.stepQ (HandSHeadRun.denQ HandSHeadRun.tabQ) R.prog w) 20000 R.prog w os).map (fun s => fn.all fun d => d.ok (fr s)) = some true := by
  kernel_rfl
open PySem.W HandSHeadRun in theorem run5 (w : World) (os : OsState) : (HandSHeadRun.endF (HandSHeadRun.stepQ (HandSHeadRun.denQ HandSHeadRun.tabQ) R.prog w) 20000 R.prog w os).map (fun s => ex.all fun x => x (fr s)) = some true := by
  kernel_rfl
open PySem.W HandSHeadRun in theorem run4 (w : World) (os : OsState) : (HandSHeadRun.endF (HandSHeadRun.stepQ (HandSHeadRun.denQ HandSHeadRun.tabQ) R.prog w) 20000 R.prog w os).map (fun s => fn.map fun d => fnM (fr s) (d.at_ (fr s))) = some (fn.map DefM.val) := by
  kernel_rfl
theorem run (w : World) : HandSHeadRun.RunEq R (PySem.W.view R.prog [47]) hk ob 20000 names w :=
  fun os => run_parts (K := fr) (run0 w os) (run1 w os) (run2 w os) (run3 w os) (run5 w os) (run4 w os)
def spL (K : PySem.W.Frag) : Sp := fun vs H Q _ => ∃ (a : Addr) (ns : List Int), vs = [.ref a] ∧ SqL K H a (ns.map V.int) ∧ ns.length ≤ 63 ∧ ∀ H', Q (.bl true) H'
abbrev FactsT : Prop := ∀ {P : Program} {w : World} {K : PySem.W.Frag} {h : Heap} {mg : Str → Option Value} {f : Addr}, K.In h → h.Ns mainGlobals mg → mg ("law" : Str) = some (.ref f) → SaysP P K →
    ∃ fd : FuncData, (∀ (s : Shared) (v : Value), BindsTo s fd ⟨[v], []⟩ [("_law_script", v)]) ∧ ∀ base : Heap, K.In base → base.Ns mainGlobals mg → FnOk P w K mg base CX0 87 f fd ["_law_script"] (spL K)
end Prog
section
open PySem PySem.W PySem.Calls PyProof.Rows
set_option maxHeartbeats 0 in
theorem Prog.early (said : (OpenLaw.row PySem.Challenge.rw_signbysign_k12_runs).wellSaid = true) (hw : (OpenLaw.row PySem.Challenge.rw_signbysign_k12_runs).toRowW.promised) (hc : WalkO (view (OpenLaw.row PySem.Challenge.rw_signbysign_k12_runs).prog [47]) Prog.names (XL (view (OpenLaw.row PySem.Challenge.rw_signbysign_k12_runs).prog [47]) []) Prog.hk.says (OpenLaw.row PySem.Challenge.rw_signbysign_k12_runs).toRowW (HandSHeadRun.topDef (OpenLaw.row PySem.Challenge.rw_signbysign_k12_runs).prog 47) [] fun f vs => PySem.call f vs) : (OpenLaw.row PySem.Challenge.rw_signbysign_k12_runs).Holds :=
  HandSHeadRun.head_any (r := OpenLaw.row PySem.Challenge.rw_signbysign_k12_runs) (q := view (OpenLaw.row PySem.Challenge.rw_signbysign_k12_runs).prog [47]) (H := Prog.hk) (ob := Prog.ob) (M := 20000) (loose := Prog.names) (d := HandSHeadRun.topDef (OpenLaw.row PySem.Challenge.rw_signbysign_k12_runs).prog 47) (kwd := []) Prog.ob_eq
    (by kernel_rfl) (fun s => by kernel_rfl) Prog.run (by kernel_rfl) (by kernel_rfl) (by kernel_rfl) (by rfl) (by first | assumption | decide +kernel) (by decide +kernel) ⟨rfl, rfl, rfl, rfl, rfl, by decide +kernel⟩ hw hc
end
section
open PySem PySem.W PySem.Calls PyProof.Rows
set_option maxRecDepth 100000 in
set_option maxHeartbeats 0 in
theorem Prog.late (facts : Prog.FactsT) : PySem.Challenge.rw_signbysign_k12_runs.Holds := by
  w_on; o_law
  refine Prog.early (by assumption) ?hw ?hc
  case hw => w_witness2
  case hc =>
    refine L2.walk_ofE (l := PySem.Challenge.rw_signbysign_k12_runs) (n := 63) (k := 87) (x := "_law_script") (CX := L2.CX0) rfl (by decide) (by kernel_rfl) ⟨rfl, by decide, by decide⟩ ?F (fun _ _ _ _ z => z)
    intro w mg fa h Y G hmg0
    obtain ⟨K, KX, c⟩ := Y
    have hmg : mg ("law" : PySem.Str) = some (.ref fa) := by
      have e : (HandSHeadRun.topDef (OpenLaw.row PySem.Challenge.rw_signbysign_k12_runs).prog 47).name = ("law" : PySem.Str) := by kernel_rfl
      rw [← e]
      exact hmg0
    obtain ⟨fd, hb, hF⟩ := facts (P := (PySem.Challenge.rw_signbysign_k12_runs).prog) (w := w) KX G hmg ⟨c, by first | rfl | kernel_rfl | decide +kernel, by first | rfl | kernel_rfl | decide +kernel⟩
    exact ⟨K, fd, Prog.spL K, KX, hb, fun H a ns hl _ hS => ⟨a, ns, rfl, hS, hl, fun _ => rfl⟩, hF⟩
end

namespace My
open PySem PySem.Spec PyProof.Rows L2

local macro_rules | `(tactic| walk_at "g1") => `(tactic| first
  | with_reducible refine My.g_seq ?_
  | with_reducible refine My.g_asg ?_
  | with_reducible refine My.g_name ?_
  | ((with_reducible refine' My.g_var ?ga ?gb); (case ga => rfl))
  | with_reducible refine My.g_c ?_
  | with_reducible refine My.g_op ?_
  | with_reducible refine My.g_cb ?_
  | with_reducible refine My.g_cons ?_
  | with_reducible refine My.g_nil ?_
  | with_reducible refine My.g_ifS ?_
  | with_reducible refine My.g_ret ?_
  | with_reducible refine My.g_drop ?_
  | with_reducible refine My.g_test ?_
  | with_reducible refine My.g_B ?_
  | with_reducible refine My.g_bl ?_
  | with_reducible refine My.g_int1 ?_
  | with_reducible refine My.g_rI0 ?_
  | ((with_reducible refine My.g_rI ?ga ?gb); (case ga => first | decide | (unfold CMul; omega) | (unfold CDiv; omega) | (unfold CPow; decide) | (unfold CPow; omega) | omega))
  | with_reducible refine My.g_eqI ?_
  | with_reducible refine My.g_neI ?_
  | with_reducible refine My.g_eqS ?_
  | with_reducible refine My.g_neS ?_
  | with_reducible refine My.g_neB ?_
  | with_reducible refine My.g_tr ?_
  | with_reducible refine My.g_fa ?_
  | with_reducible refine My.g_ntr ?_
  | with_reducible refine My.g_nfa ?_
  | with_reducible refine My.g_next ?_
  | with_reducible refine My.g_bm ?_
  | with_reducible refine My.g_bm0 ?_
  | ((with_reducible refine' My.g_tyL ?ga ?gb); (case ga => assumption))
  | with_reducible refine My.g_not ?_
  | with_reducible refine My.g_and ?_
  | with_reducible refine My.g_or ?_
  | with_reducible refine My.g_andV ?_
  | with_reducible refine My.g_orV ?_
  | with_reducible refine My.g_notV ?_
  | with_reducible refine My.g_ifE ?_
  | with_reducible refine My.g_chain ?_
  | with_reducible refine My.g_un ?_
  | with_reducible refine My.g_rU ?_
  | with_reducible refine My.g_sl ?_
  | with_reducible refine My.g_part ?_
  | with_reducible refine My.g_nopart ?_
  | with_reducible refine My.g_exI ?_
  | with_reducible refine My.g_abs ?_
  | with_reducible refine My.g_int1b ?_
  | with_reducible refine My.g_tupT ?_
  | with_reducible refine My.g_lstT ?_
  | with_reducible refine My.g_yes ?_
  | with_reducible refine My.g_joined ?_
  | with_reducible refine My.g_jc ?_
  | with_reducible refine My.g_jn ?_
  | with_reducible refine My.g_fmt ?_
  | with_reducible refine My.g_m1 ?_
  | with_reducible refine My.g_m1s ?_
  | with_reducible refine My.g_for ?_
  | with_reducible refine My.g_lc ?_
  | with_reducible refine My.g_iL ?_
  | with_reducible refine My.g_iT ?_
  | with_reducible refine My.g_iR ?_
  | with_reducible refine My.g_iR2 ?_
  | with_reducible refine My.g_call ?_
  | with_reducible refine My.g_isN ?_
  | with_reducible refine My.g_notN ?_
  | with_reducible refine My.g_retN ?_
  | with_reducible refine My.g_iS ?_
  | with_reducible refine My.g_rs ?_
  | with_reducible refine My.g_try ?_
  | with_reducible refine My.g_callS ?_
  | with_reducible refine My.g_xf ?_
  | with_reducible refine My.g_gcons ?_
  | with_reducible refine My.g_gnil ?_
  | with_reducible refine My.g_ipI ?_
  | with_reducible refine My.g_tru ?_
  | ((with_reducible refine' My.g_augV ?ga ?gb); (case ga => rfl))
  | with_reducible refine My.g_dget ?_
  | with_reducible refine My.g_dget2 ?_
  | with_reducible refine My.g_din ?_
  | with_reducible refine My.g_dnin ?_
  | with_reducible refine My.g_dput ?_
  | with_reducible refine My.g_star ?_
  | with_reducible refine My.g_rev2 ?_
  | ((with_reducible refine' My.g_lenL ?ga ?gb); (case ga => assumption))
  | ((with_reducible refine' My.g_lenT ?ga ?gb); (case ga => assumption)))
local macro_rules | `(tactic| walk_at "go") => `(tactic| repeat walk_at "g1")
def t_take (K : PySem.W.Frag) : TS := (tSeq (tIfS (tTest (tOp rEq (tCB (rLenSeq K) (tCons (tVar 0) tNil)) (tC (.int 0)))) (tRet (tC (.int 0)))
  tNext)
  (tRet (tOp rModI (tCB rInt1 (tCons (tBM K "list" rPopAt (tVar 0) (tCons (tC (.int 0)) tNil)) tNil)) (tVar 1))))
abbrev N_take : List Str := ["_law_draws", "_law_many"]
def Dr (H : Hp) (d : Addr) : Prop := ∃ ds : List Int, H d = some (.lst (ds.map V.int)) ∧ ds.length ≤ 10000
theorem big {n : Nat} (h : n ≤ 100000) : n ≤ sizeLine := Nat.le_trans h (by decide)
theorem bigl {n : Nat} (h : n < 100000) : n < sizeLine := Nat.lt_of_lt_of_le h (by decide)
def sp_take (K : PySem.W.Frag) : Sp := fun vs H Q _ => ∃ (d : Addr) (m : Int), vs = [.ref d, .int m] ∧ Dr H d ∧ 0 < m ∧ ∀ (v : Int) (H' : Hp), 0 ≤ v → v < m → Chg [d] H H' → Dr H' d → Q (.int v) H'
theorem len_take {K : PySem.W.Frag} {vs : List V} {H : Hp} {Q : VK} {E : XK} (h : sp_take K vs H Q E) : vs.length = 2 := by obtain ⟨_, _, rfl, _⟩ := h; rfl
theorem rd_take {K : PySem.W.Frag} {vs : List V} {H : Hp} {Q : VK} {E : XK} (h : sp_take K vs H Q E) : t_take K { nx := fun _ H' => Q .non H', rt := Q } (start N_take vs) H := by
  obtain ⟨d, m, rfl, ⟨ds, hd, hl⟩, hm, k⟩ := h
  unfold t_take
  walk_at "go"
  refine g_2 (fun e => ?_) (fun e => ?_)
  · walk_at "go"
    exact k 0 H (Int.le_refl 0) hm (Chg.refl H) ⟨ds, hd, hl⟩
  · walk_at "go"
    cases ds with
    | nil => simp at e
    | cons n ds =>
      refine ⟨d, _, 0, 0, .int n, rfl, rfl, hd, by decide, by decide, by simp [seqIndex?], rfl, ?_⟩
      walk_at "go"
      refine k _ _ (Int.emod_nonneg _ (by omega)) (Int.emod_lt_of_pos _ hm) ((Chg.refl H).set (List.mem_singleton.mpr rfl) hd (by simp) _) ⟨ds, by rw [upd_same]; rfl, by simp at hl; omega⟩
def t_stream (K : PySem.W.Frag) : TS := (tSeq (tAsg (tLst tNil) (gName 1))
  (tSeq (tAsg (tC (.int 7)) (gName 2))
  (tSeq (tFor (iList K (tVar 0)) (gName 3)
  (tSeq (tAsg (tCB rAbs (tCons (tCB rInt1 (tCons (tVar 3) tNil)) tNil)) (gName 4))
  (tCut (tIfS (tTest (tOp rLtI (tVar 4) (tOp rPowI (tC (.int 10)) (tC (.int 18))))) (tSeq (tDrop (tBM K "list" rAppend (tVar 1) (tCons (tOp rModI (tCB rInt1 (tCons (tVar 3) tNil)) (tC (.int 1000))) tNil)))
  (tAsg (tC (.int 0)) (gName 4)))
  tNext)
  (tSeq (tFor (iRng1 (tCons (tC (.int 60)) tNil)) (gName 5)
  (tIfS (tTest (tOp rGtI (tVar 4) (tC (.int 0)))) (tSeq (tDrop (tBM K "list" rAppend (tVar 1) (tCons (tOp rModI (tCB rInt1 (tCons (tVar 4) tNil)) (tC (.int 1000))) tNil)))
  (tAsg (tOp rDivI (tVar 4) (tC (.int 1000))) (gName 4)))
  tNext))
  (tAsg (tOp rAddI (tOp rModI (tCB rInt1 (tCons (tOp rAddI (tOp rMulI (tVar 2) (tC (.int 31))) (tCB rInt1 (tCons (tVar 3) tNil))) tNil)) (tC (.int 1000003))) (tC (.int 1))) (gName 2))))))
  (tSeq (tAsg (tOp rAddI (tOp rMulI (tVar 2) (tC (.int 7))) (tC (.int 1))) (gName 6))
  (tSeq (tFor (iRng1 (tCons (tOp rMulI (tC (.int 600)) (tCB rInt1 (tCons (tOp rGtI (tCB (rLenSeq K) (tCons (tVar 0) tNil)) (tC (.int 0))) tNil))) tNil)) (gName 5)
  (tSeq (tAsg (tOp rModI (tCB rInt1 (tCons (tOp rMulI (tVar 2) (tC (.int 48271))) tNil)) (tC (.int 2147483647))) (gName 2))
  (tSeq (tAsg (tOp rModI (tCB rInt1 (tCons (tOp rMulI (tVar 6) (tC (.int 69621))) tNil)) (tC (.int 2147483629))) (gName 6))
  (tDrop (tBM K "list" rAppend (tVar 1) (tCons (tOp rModI (tCB rInt1 (tCons (tOp rAddI (tOp rDivI (tVar 2) (tC (.int 1009))) (tOp rDivI (tVar 6) (tC (.int 2003)))) tNil)) (tC (.int 1000))) tNil))))))
  (tRet (tSl (rSlL K) (tVar 1) tNoPart (tPart (tC (.int 900))))))))))
abbrev N_stream : List Str := ["_law_script", "_law_row", "_law_seed", "_law_cell", "_law_rest", "_law_k", "_law_turn"]
theorem len_app {xs : List Int} {n : Int} : (xs ++ [n]).map V.int = xs.map V.int ++ [V.int n] := by simp
def sp_stream (K : PySem.W.Frag) : Sp := fun vs H Q _ => ∃ (a : Addr) (ns : List Int), vs = [.ref a] ∧ SqL K H a (ns.map V.int) ∧ ns.length ≤ 63 ∧ ∀ (r : Addr) (H' : Hp), H r = none → Ext H H' → Dr H' r → Q (.ref r) H'
theorem len_stream {K : PySem.W.Frag} {vs : List V} {H : Hp} {Q : VK} {E : XK} (h : sp_stream K vs H Q E) : vs.length = 1 := by obtain ⟨_, _, rfl, _⟩ := h; rfl
theorem rd_stream {K : PySem.W.Frag} {vs : List V} {H : Hp} {Q : VK} {E : XK} (h : sp_stream K vs H Q E) : t_stream K { nx := fun _ H' => Q .non H', rt := Q } (start N_stream vs) H := by
  obtain ⟨a, ns, rfl, hS, h63, k⟩ := h
  unfold t_stream
  walk_at "go"
  refine g_newL (by decide) fun r H1 hr c1 h1 => ?_
  walk_at "go"
  -- for cell in script
  refine g_forL (xs := ns.map V.int) (c1.same.seq hS) (fun i σ H' => ∃ (ds : List Int) (seed : Int) (o3 o4 o5 : Option V), σ = [some (.ref a), some (.ref r), some (.int seed), o3, o4, o5, none] ∧ Ext H H' ∧ H' r = some (.lst (ds.map V.int)) ∧ ds.length ≤ 100 * i ∧ 0 ≤ seed ∧ seed ≤ 2000000)
    ⟨[], 7, none, none, none, rfl, c1, h1, Nat.zero_le _, by decide, by decide⟩ (fun i σ H' _ ⟨_, _, _, _, _, _, c, _⟩ => c.same.seq hS) ?_ ?_
  · rintro i x σ H' hi ⟨ds, seed, o3, o4, o5, rfl, c, hd, hl, s0, s1⟩
    obtain ⟨n, hn, rfl⟩ : ∃ n, ns[i]? = some n ∧ V.int n = x := by
      rw [List.getElem?_map] at hi
      cases e : ns[i]? with
      | none => rw [e] at hi; cases hi
      | some n => rw [e] at hi; exact ⟨n, rfl, Option.some.inj hi⟩
    have hi63 : i < ns.length := (List.getElem?_eq_some_iff.mp hn).1
    walk_at "go"
    refine g_cut (M := fun σ H' => ∃ (ds : List Int) (rest : Int), σ = [some (.ref a), some (.ref r), some (.int seed), some (.int n), some (.int rest), o5, none] ∧ Ext H H' ∧ H' r = some (.lst (ds.map V.int)) ∧ ds.length ≤ 100 * i + 1) ?_ ?_
    · walk_at "go"
      refine g_2 (fun _ => ?_) (fun _ => ?_)
      · walk_at "go"
        refine g_append hd (bigl (by simp; omega)) ?_
        walk_at "go"
        exact ⟨ds ++ [_], _, rfl, c.own hr _, by rw [upd_same, len_app], by simp; omega⟩
      · walk_at "go"
        exact ⟨ds, _, rfl, c, hd, by omega⟩
    · rintro σ H' ⟨ds, rest, rfl, c, hd, hl⟩
      walk_at "go"
      refine g_forR (by decide) (fun k σ H' => ∃ (ds : List Int) (rest : Int) (o5 : Option V), σ = [some (.ref a), some (.ref r), some (.int seed), some (.int n), some (.int rest), o5, none] ∧ Ext H H' ∧ H' r = some (.lst (ds.map V.int)) ∧ ds.length ≤ 100 * i + 1 + k) ⟨ds, rest, o5, rfl, c, hd, by omega⟩ ?_ ?_
      · rintro k σ H' hk ⟨ds, rest, o5, rfl, c, hd, hl⟩
        walk_at "go"
        refine g_2 (fun _ => ?_) (fun _ => ?_)
        · walk_at "go"
          refine g_append hd (bigl (by simp; omega)) ?_
          walk_at "go"
          exact ⟨ds ++ [_], _, _, rfl, c.own hr _, by rw [upd_same, len_app], by simp; omega⟩
        · walk_at "go"
          exact ⟨ds, rest, _, rfl, c, hd, by omega⟩
      · rintro σ H' ⟨ds, rest, o5, rfl, c, hd, hl⟩
        walk_at "go"
        refine ⟨ds, _, _, _, _, rfl, c, hd, by simp at hl; omega, ?_, ?_⟩
        · have := Int.emod_nonneg (seed * 31 + n) (b := 1000003) (by decide); omega
        · have := Int.emod_lt_of_pos (seed * 31 + n) (b := 1000003) (by decide); omega
  · rintro σ H' ⟨ds, seed, o3, o4, o5, rfl, c, hd, hl, s0, s1⟩
    walk_at "go"
    refine g_lenLK (c.same.seq hS) ?_
    walk_at "go"
    have hb : ∀ b : Bool, (if b = true then (1 : Int) else 0) = 0 ∨ (if b = true then (1 : Int) else 0) = 1 := by intro b; cases b <;> simp
    generalize he : (if decide (0 < ((List.map V.int ns).length : Int)) = true then (1 : Int) else 0) = e
    have he2 : e = 0 ∨ e = 1 := by rw [← he]; exact hb _
    refine g_forR (by omega) (fun k σ H' => ∃ (ds : List Int) (seed turn : Int) (o5 : Option V), σ = [some (.ref a), some (.ref r), some (.int seed), o3, o4, o5, some (.int turn)] ∧ Ext H H' ∧ H' r = some (.lst (ds.map V.int)) ∧ ds.length ≤ 6300 + k ∧ -5000000000 ≤ seed ∧ seed ≤ 5000000000 ∧ -5000000000 ≤ turn ∧ turn ≤ 5000000000) ⟨ds, seed, _, o5, rfl, c, hd, by simp at hl; omega, by omega, by omega, by omega, by omega⟩ ?_ ?_
    · rintro k σ H' hk ⟨ds, seed, turn, o5, rfl, c, hd, hl, a1, a2, a3, a4⟩
      walk_at "go"
      refine g_append hd (bigl (by simp; omega)) ?_
      refine ⟨ds ++ [_], _, _, _, rfl, c.own hr _, by rw [upd_same, len_app], by simp; omega, ?_, ?_, ?_, ?_⟩
      · have := Int.emod_nonneg (seed * 48271) (b := 2147483647) (by decide); omega
      · have := Int.emod_lt_of_pos (seed * 48271) (b := 2147483647) (by decide); omega
      · have := Int.emod_nonneg (turn * 69621) (b := 2147483629) (by decide); omega
      · have := Int.emod_lt_of_pos (turn * 69621) (b := 2147483629) (by decide); omega
    · rintro σ H' ⟨ds, seed, turn, o5, rfl, c, hd, hl, a1, a2, a3, a4⟩
      walk_at "go"
      refine g_slL (.inl (.inl hd)) fun q H2 hq c2 h2 => ?_
      refine k q H2 (c.free hq) (c.trans c2) ⟨ds.take 900, ?_, by simp; omega⟩
      rw [h2]
      simp [cutV, HT.sIx, List.map_take]

abbrev abc : Str := "abcdefghijklmnopqrstuvwxyz"
def isWord (s : Str) : Bool := (decide (1 ≤ s.length) && decide (s.length ≤ 8)) && s.cps.toList.all fun c => decide (c ∈ abc.cps.toList)
theorem all_take {l : List Nat} {p : Nat → Bool} {i c : Nat} (h : l[i]? = some c) : (l.take (i + 1)).all p = ((l.take i).all p && p c) := by
  rw [List.take_add_one, h, List.all_append]
  simp
def t_word (K : PySem.W.Frag) : TS := (tSeq (tIfS (tNot (tTest (tChain rLeI rLeI (tC (.int 1)) (tCB rLenStr (tCons (tVar 0) tNil)) (tC (.int 8))))) (tRet (tC (.bl false)))
  tNext)
  (tSeq (tFor (iStr (tVar 0)) (gName 1)
  (tIfS (tTest (tOp rNotInS_ (tVar 1) (tC (.str "abcdefghijklmnopqrstuvwxyz")))) (tRet (tC (.bl false)))
  tNext))
  (tRet (tC (.bl true)))))
abbrev N_word : List Str := ["text", "char"]
def sp_word (K : PySem.W.Frag) : Sp := fun vs H Q _ => ∃ s : Str, vs = [.str s] ∧ s.length ≤ 100000 ∧ Q (.bl (isWord s)) H
theorem len_word {K : PySem.W.Frag} {vs : List V} {H : Hp} {Q : VK} {E : XK} (h : sp_word K vs H Q E) : vs.length = 1 := by obtain ⟨_, rfl, _⟩ := h; rfl
theorem rd_word {K : PySem.W.Frag} {vs : List V} {H : Hp} {Q : VK} {E : XK} (h : sp_word K vs H Q E) : t_word K { nx := fun _ H' => Q .non H', rt := Q } (start N_word vs) H := by
  obtain ⟨s, rfl, hl, k⟩ := h
  unfold t_word
  walk_at "go"
  refine g_lenS (big hl) ?_
  walk_at "go"
  refine g_2 (fun b => ?_) (fun b => ?_)
  · have b : (1 : Int) ≤ s.length := of_decide_eq_true b
    walk_at "go"
    refine g_2 (fun c => ?_) (fun c => ?_)
    · have c : ¬ (s.length : Int) ≤ 8 := of_decide_eq_false (by simpa using c)
      walk_at "go"
      have e : isWord s = false := by unfold isWord; rw [decide_eq_false (show ¬ s.length ≤ 8 by omega), Bool.and_false, Bool.false_and]
      rw [e] at k
      exact k
    · have c : (s.length : Int) ≤ 8 := of_decide_eq_true (by simpa using c)
      walk_at "go"
      have e0 : isWord s = s.cps.toList.all fun c => decide (c ∈ abc.cps.toList) := by
        unfold isWord
        rw [decide_eq_true (show 1 ≤ s.length by omega), decide_eq_true (show s.length ≤ 8 by omega)]
        rfl
      rw [e0] at k
      refine g_forS (fun i σ H' => ∃ o : Option V, σ = [some (.str s), o] ∧ H' = H ∧ (s.cps.toList.take i).all (fun c => decide (c ∈ abc.cps.toList)) = true) ⟨none, rfl, rfl, rfl⟩ ?_ ?_
      · rintro i c σ H' hi ⟨o, rfl, rfl, ha⟩
        walk_at "go"
        refine g_notInS ?_
        walk_at "go"
        refine g_2 (fun b => ?_) (fun b => ?_)
        · have b : ¬ c ∈ abc.cps.toList := of_decide_eq_false (by simpa using b)
          walk_at "go"
          have : (s.cps.toList.all fun c => decide (c ∈ abc.cps.toList)) = false := by
            rw [List.all_eq_false]
            exact ⟨c, List.mem_of_getElem? hi, by simp [b]⟩
          rw [this] at k
          exact k
        · have b : c ∈ abc.cps.toList := of_decide_eq_true (by simpa using b)
          walk_at "go"
          exact ⟨_, rfl, rfl, by rw [all_take hi, ha, decide_eq_true b]; rfl⟩
      · rintro σ H' ⟨o, rfl, rfl, ha⟩
        walk_at "go"
        rw [List.take_length] at ha
        rw [ha] at k
        exact k
  · have b : ¬ (1 : Int) ≤ s.length := of_decide_eq_false b
    walk_at "go"
    have e : isWord s = false := by unfold isWord; rw [decide_eq_false (show ¬ 1 ≤ s.length by omega), Bool.false_and, Bool.false_and]
    rw [e] at k
    exact k

abbrev tl (s : Str) : List Nat := s.cps.toList
theorem tl_len (s : Str) : s.length = (tl s).length := by simp [tl, Str.length]
theorem tl_app (x y : Str) : tl (x ++ y) = tl x ++ tl y := TL.tl_append x y
theorem tl_cut (z : Str) (lo hi : Option Int) : tl (cutS z lo hi) = ((tl z).drop (HT.sIx z.length 0 lo)).take (HT.sIx z.length z.length hi - HT.sIx z.length 0 lo) := rfl
theorem tl_one (c : Nat) : tl ⟨#[c]⟩ = [c] := rfl
def Low (s : Str) : Prop := ∀ c ∈ tl s, 97 ≤ c ∧ c ≤ 122
structure Good (s : Str) : Prop where
  pos : 1 ≤ s.length
  most : s.length ≤ 8
  low : Low s
theorem letters_tl : tl ("abcdefghijklmnopqrstuvwxyz" : Str) = (List.range 26).map (97 + ·) := by decide +kernel
theorem letter_at {k : Nat} (h : k < 26) : atI ("abcdefghijklmnopqrstuvwxyz" : Str).cps.toList (k : Int) = some (97 + k) := by
  refine atI_nat ?_
  have := letters_tl
  unfold tl at this
  rw [this]
  simp [h]
theorem Low.app {x y : Str} (h : Low x) (k : Low y) : Low (x ++ y) := fun c hc => by
  rw [tl_app] at hc
  exact (List.mem_append.mp hc).elim (h c) (k c)
theorem Low.cut {z : Str} {lo hi : Option Int} (h : Low z) : Low (cutS z lo hi) := fun c hc => by
  rw [tl_cut] at hc
  exact h c (List.drop_subset _ _ (List.take_subset _ _ hc))
theorem letters_low : Low ("abcdefghijklmnopqrstuvwxyz" : Str) := fun c hc => by
  rw [letters_tl] at hc
  simp at hc
  omega
theorem app_len (x y : Str) : (x ++ y).length = x.length + y.length := by rw [tl_len, tl_app, List.length_append, ← tl_len, ← tl_len]
theorem one_len (c : Nat) : (⟨#[c]⟩ : Str).length = 1 := rfl
def Mk (front : Int) (s : Str) (c : Nat) : Prop := (front = 0 → (tl s).head? = some c) ∧ (front ≠ 0 → (tl s).getLast? = some c)
theorem Mk.inj {front : Int} {s : Str} {c d : Nat} (h : Mk front s c) (k : Mk front s d) : c = d := by
  by_cases e : front = 0
  · have := (h.1 e).symm.trans (k.1 e); exact Option.some.inj this
  · have := (h.2 e).symm.trans (k.2 e); exact Option.some.inj this
def more1 (k : Nat) : Str := ⟨#[97 + k % 26, 97 + (k * 7 + k / 26 + 3) % 26]⟩
theorem more_inj : ∀ i < 52, ∀ j < 52, more1 i = more1 j → i = j := by decide +kernel
theorem more_good : ∀ i < 52, Good (more1 i) := fun i _ => ⟨by show 1 ≤ 2; decide, by show 2 ≤ 8; decide, fun c hc => by
  have : c = 97 + i % 26 ∨ c = 97 + (i * 7 + i / 26 + 3) % 26 := by
    have h : c ∈ [97 + i % 26, 97 + (i * 7 + i / 26 + 3) % 26] := hc
    simpa using h
  omega⟩
structure NmOk (nms : List Str) : Prop where
  good : ∀ s ∈ nms, Good s
  nd : nms.Nodup
  least : 52 ≤ nms.length
  most : nms.length ≤ 78
def strides : List Int := [1, 3, 5, 7, 9, 11, 15, 17, 19, 21, 23, 25]
theorem strides_inj {st sh : Int} (hs : st ∈ strides) {i j : Nat} (hi : i < 26) (hj : j < 26) (e : ((i : Int) * st + sh) % 26 = ((j : Int) * st + sh) % 26) : i = j := by
  simp only [strides, List.mem_cons, List.not_mem_nil, or_false] at hs
  rcases hs with rfl | rfl | rfl | rfl | rfl | rfl | rfl | rfl | rfl | rfl | rfl | rfl <;> omega
theorem strides_bd {st : Int} (hs : st ∈ strides) : 1 ≤ st ∧ st ≤ 25 := by
  simp only [strides, List.mem_cons, List.not_mem_nil, or_false] at hs
  rcases hs with rfl | rfl | rfl | rfl | rfl | rfl | rfl | rfl | rfl | rfl | rfl | rfl <;> omega
theorem stride_at {r : Int} (h0 : 0 ≤ r) (h1 : r < 12) : ∃ st, st ∈ strides ∧ atI ([.int 1, .int 3, .int 5, .int 7, .int 9, .int 11, .int 15, .int 17, .int 19, .int 21, .int 23, .int 25] : List V) r = some (.int st) := by
  obtain ⟨k, rfl⟩ : ∃ k : Nat, r = (k : Int) := ⟨r.toNat, by omega⟩
  have hk : k < 12 := by omega
  have e : ([.int 1, .int 3, .int 5, .int 7, .int 9, .int 11, .int 15, .int 17, .int 19, .int 21, .int 23, .int 25] : List V) = strides.map V.int := rfl
  have hl : k < strides.length := hk
  refine ⟨strides[k], List.getElem_mem hl, ?_⟩
  rw [e]
  exact atI_nat (by rw [List.getElem?_map, List.getElem?_eq_getElem hl]; rfl)
theorem inV_str {s : Str} : ∀ {l : List Str}, inV (.str s) (l.map V.str) = decide (s ∈ l)
  | [] => by simp [inV]
  | a :: l => by
    have ih := inV_str (s := s) (l := l)
    unfold inV at ih ⊢
    rw [List.map_cons, List.any_cons, ih]
    show ((a == s) || decide (s ∈ l)) = decide (s ∈ a :: l)
    by_cases e : a = s
    · subst e; simp
    · have e2 : (a == s) = false := beq_eq_false_iff_ne.mpr e
      rw [e2]
      simp [show ¬ s = a from fun z => e z.symm]
theorem flat_strs : ∀ {l : List Str}, (l.map V.str).all flatV = true
  | [] => rfl
  | a :: l => by rw [List.map_cons, List.all_cons, flat_strs]; rfl
theorem nodup_of {α : Type} {l : List α} (h : ∀ (i j : Nat) (s : α), i < j → l[i]? = some s → l[j]? = some s → False) : l.Nodup := by
  refine List.pairwise_iff_getElem.mpr fun i j hi hj hij e => ?_
  exact h i j l[i] hij (List.getElem?_eq_getElem hi) (by rw [List.getElem?_eq_getElem hj, e])
structure NmSo (front st sh : Int) (k : Nat) (nms : List Str) : Prop where
  len : nms.length = k
  at_ : ∀ i < k, ∃ s, nms[i]? = some s ∧ Good s ∧ ∃ c : Nat, (c : Int) = 97 + ((i : Int) * st + sh) % 26 ∧ Mk front s c
theorem NmSo.snoc {front st sh : Int} {k : Nat} {nms : List Str} (h : NmSo front st sh k nms) {s : Str} (g : Good s) {c : Nat} (hc : (c : Int) = 97 + ((k : Int) * st + sh) % 26) (m : Mk front s c) : NmSo front st sh (k + 1) (nms ++ [s]) := by
  refine ⟨by simp [h.len], fun i hi => ?_⟩
  by_cases e : i < k
  · obtain ⟨s', h1, h2⟩ := h.at_ i e
    exact ⟨s', by rw [List.getElem?_append_left (by rw [h.len]; exact e)]; exact h1, h2⟩
  · have e : i = k := by omega
    subst e
    exact ⟨s, by rw [← h.len]; simp, g, c, hc, m⟩
theorem NmSo.nd {front st sh : Int} {nms : List Str} (h : NmSo front st sh 26 nms) (hs : st ∈ strides) : nms.Nodup := by
  refine nodup_of fun i j s hij h1s h2s => ?_
  have hj : j < 26 := by rw [← h.len]; exact (List.getElem?_eq_some_iff.mp h2s).1
  have e := h1s.trans h2s.symm
  obtain ⟨s, h1, _, c, hc, m⟩ := h.at_ i (by omega)
  obtain ⟨s', h1', _, c', hc', m'⟩ := h.at_ j hj
  rw [h1, h1'] at e
  cases e
  have := m.inj m'
  have := strides_inj (sh := sh) hs (i := i) (j := j) (by omega) hj (by omega)
  omega
theorem NmSo.good {front st sh : Int} {k : Nat} {nms : List Str} (h : NmSo front st sh k nms) : ∀ s ∈ nms, Good s := fun s hs => by
  obtain ⟨i, hi, e⟩ := List.mem_iff_getElem.mp hs
  obtain ⟨s', h1, g, _⟩ := h.at_ i (by rw [← h.len]; exact hi)
  rw [List.getElem?_eq_getElem hi, e] at h1
  cases h1
  exact g
theorem nodup_sub_len {α : Type} [DecidableEq α] : ∀ {L N : List α}, L.Nodup → (∀ x ∈ L, x ∈ N) → L.length ≤ N.length
  | [], _, _, _ => Nat.zero_le _
  | x :: L, N, nd, h => by
    rw [List.nodup_cons] at nd
    have hx := h x List.mem_cons_self
    have h2 := nodup_sub_len (L := L) (N := N.erase x) nd.2 fun y hy => (List.mem_erase_of_ne (fun e => nd.1 (by rw [← e]; exact hy))).mpr (h y (List.mem_cons_of_mem _ hy))
    rw [List.length_erase_of_mem hx] at h2
    have := List.length_pos_of_mem hx
    rw [List.length_cons]
    omega
theorem filt_len {α : Type} (p : α → Bool) : ∀ L : List α, (L.filter p).length + (L.filter fun x => !p x).length = L.length
  | [] => rfl
  | x :: L => by
    have := filt_len p L
    rw [List.filter_cons, List.filter_cons]
    cases p x <;> simp <;> omega
theorem more_nodup : ((List.range 52).map more1).Nodup := by
  refine nodup_of fun i j s hij h1s h2s => ?_
  have hj := (List.getElem?_eq_some_iff.mp h2s).1
  simp at hj
  have e := h1s.trans h2s.symm
  rw [List.getElem?_map, List.getElem?_map, List.getElem?_range (by omega), List.getElem?_range hj] at e
  have := more_inj i (by omega) j hj (by simpa using e)
  omega
theorem names_end {front st sh : Int} {nms : List Str} (h : NmSo front st sh 26 nms) (hs : st ∈ strides) : NmOk (nms ++ ((List.range 52).map more1).filter fun s => !decide (s ∈ nms)) := by
  refine ⟨fun s hs => ?_, ?_, ?_, ?_⟩
  · rcases List.mem_append.mp hs with q | q
    · exact h.good s q
    · have q := (List.mem_filter.mp q).1
      obtain ⟨i, hi, rfl⟩ := List.mem_map.mp q
      exact more_good i (List.mem_range.mp hi)
  · rw [List.nodup_append]
    refine ⟨h.nd hs, ?_, ?_⟩
    · refine List.Pairwise.filter _ ?_
      refine nodup_of fun i j s hij h1s h2s => ?_
      have hj := (List.getElem?_eq_some_iff.mp h2s).1
      simp at hj
      have e := h1s.trans h2s.symm
      rw [List.getElem?_map, List.getElem?_map, List.getElem?_range (by omega), List.getElem?_range hj] at e
      have := more_inj i (by omega) j hj (by simpa using e)
      omega
    · intro a ha b hb e
      subst e
      have := (List.mem_filter.mp hb).2
      simp [ha] at this
  · have h1 := filt_len (fun s => decide (s ∈ nms)) ((List.range 52).map more1)
    have h2 := nodup_sub_len (N := nms) (List.Pairwise.filter (fun s => decide (s ∈ nms)) more_nodup) fun x hx => of_decide_eq_true (List.mem_filter.mp hx).2
    rw [h.len] at h2
    rw [List.length_map, List.length_range] at h1
    rw [List.length_append, h.len]
    omega
  · have : (((List.range 52).map more1).filter fun s => !decide (s ∈ nms)).length ≤ 52 := Nat.le_trans (List.length_filter_le _ _) (by simp)
    rw [List.length_append, h.len]; omega
theorem name_ok {front st sh rest : Int} {k : Nat} (hc0 : 0 ≤ ((k : Int) * st + sh) % 26) (hc1 : ((k : Int) * st + sh) % 26 < 26) {a m : Int} (ha0 : 0 ≤ a) (ha1 : a < 26) (hm0 : 0 ≤ m) (hm1 : m < 8) (tail : Str)
    (ht : tail = cutS (cutS (("abcdefghijklmnopqrstuvwxyz" : Str) ++ ("abcdefghijklmnopqrstuvwxyz" : Str)) (some a) none) none (some m)) (mark : Str) (c : Nat) (hc : (c : Int) = 97 + ((k : Int) * st + sh) % 26) (hmk : mark = ⟨#[c]⟩) :
    Good (mark ++ tail) ∧ Good (tail ++ mark) ∧ (tl (mark ++ tail)).head? = some c ∧ (tl (tail ++ mark)).getLast? = some c := by
  have hl : tail.length ≤ 7 := by
    rw [ht, tl_len, tl_cut, List.length_take]
    have : HT.sIx (cutS (("abcdefghijklmnopqrstuvwxyz" : Str) ++ ("abcdefghijklmnopqrstuvwxyz" : Str)) (some a) none).length (cutS (("abcdefghijklmnopqrstuvwxyz" : Str) ++ ("abcdefghijklmnopqrstuvwxyz" : Str)) (some a) none).length (some m) ≤ m.toNat := by
      show (if m < 0 then _ else _) ≤ _
      rw [if_neg (by omega)]
      exact Nat.min_le_left _ _
    omega
  have hlow : Low tail := by
    rw [ht]
    exact Low.cut (Low.cut (Low.app letters_low letters_low))
  have mlow : Low mark := by
    rw [hmk]
    intro d hd
    have : d = c := by simpa [tl] using hd
    omega
  have ml : mark.length = 1 := by rw [hmk]; rfl
  refine ⟨⟨by rw [app_len]; omega, by rw [app_len]; omega, mlow.app hlow⟩, ⟨by rw [app_len]; omega, by rw [app_len]; omega, hlow.app mlow⟩, ?_, ?_⟩
  · rw [tl_app, hmk]; rfl
  · rw [tl_app, hmk, tl_one]; simp
def t_names (K : PySem.W.Frag) : TS := (tSeq (tAsg (tC (.str "abcdefghijklmnopqrstuvwxyz")) (gName 1))
  (tSeq (tAsg (tCB rAbs (tCons (tCB (rSum K) (tCons (tLc (iList K (tVar 0)) (gName 12) tYes (tCB rInt1 (tCons (tVar 12) tNil)) [12]) tNil)) tNil)) (gName 2))
  (tCut (tIfS (tAnd (tTest (tOp rLtI (tC (.int 0)) (tVar 2))) (tTest (tOp rLtI (tVar 2) (tOp rPowI (tC (.int 10)) (tC (.int 18)))))) (tAsg (tOp rPowI (tOp rAddI (tVar 2) (tC (.int 12345677))) (tC (.int 9))) (gName 2))
  tNext)
  (tSeq (tAsg (tOp (rIxL K) (tLst (tCons (tC (.int 1)) (tCons (tC (.int 3)) (tCons (tC (.int 5)) (tCons (tC (.int 7)) (tCons (tC (.int 9)) (tCons (tC (.int 11)) (tCons (tC (.int 15)) (tCons (tC (.int 17)) (tCons (tC (.int 19)) (tCons (tC (.int 21)) (tCons (tC (.int 23)) (tCons (tC (.int 25)) tNil))))))))))))) (tOp rModI (tCB rInt1 (tCons (tVar 2) tNil)) (tC (.int 12)))) (gName 3))
  (tSeq (tAsg (tOp rModI (tCB rInt1 (tCons (tOp rDivI (tVar 2) (tC (.int 12))) tNil)) (tC (.int 26))) (gName 4))
  (tSeq (tAsg (tOp rModI (tCB rInt1 (tCons (tOp rDivI (tVar 2) (tC (.int 312))) tNil)) (tC (.int 2))) (gName 5))
  (tSeq (tAsg (tOp rDivI (tVar 2) (tC (.int 624))) (gName 2))
  (tSeq (tAsg (tLst tNil) (gName 6))
  (tSeq (tFor (iRng1 (tCons (tC (.int 26)) tNil)) (gName 7)
  (tSeq (tAsg (tOp rIxS (tVar 1) (tOp rModI (tCB rInt1 (tCons (tOp rAddI (tOp rMulI (tVar 7) (tVar 3)) (tVar 4)) tNil)) (tC (.int 26)))) (gName 8))
  (tSeq (tAsg (tSl rSlS (tSl rSlS (tOp rAddS_ (tVar 1) (tVar 1)) (tPart (tOp rModI (tCB rInt1 (tCons (tVar 2) tNil)) (tC (.int 26)))) tNoPart) tNoPart (tPart (tOp rModI (tCB rInt1 (tCons (tOp rDivI (tVar 2) (tC (.int 26))) tNil)) (tC (.int 8))))) (gName 9))
  (tSeq (tDrop (tBM K "list" rAppend (tVar 6) (tCons (tOp (rIxL K) (tLst (tCons (tOp rAddS_ (tVar 8) (tVar 9)) (tCons (tOp rAddS_ (tVar 9) (tVar 8)) tNil))) (tVar 5)) tNil)))
  (tAsg (tOp rDivI (tVar 2) (tC (.int 208))) (gName 2))))))
  (tSeq (tAsg (tLc (iRng1 (tCons (tC (.int 52)) tNil)) (gName 7) tYes (tOp rAddS_ (tOp rIxS (tVar 1) (tOp rModI (tCB rInt1 (tCons (tVar 7) tNil)) (tC (.int 26)))) (tOp rIxS (tVar 1) (tOp rModI (tCB rInt1 (tCons (tOp rAddI (tOp rAddI (tOp rMulI (tVar 7) (tC (.int 7))) (tOp rDivI (tVar 7) (tC (.int 26)))) (tC (.int 3))) tNil)) (tC (.int 26))))) [7]) (gName 10))
  (tRet (tOp rCat (tVar 6) (tLc (iList K (tVar 10)) (gName 11) (tTest (tOp (rIn K true) (tVar 11) (tVar 6))) (tVar 11) [11])))))))))))))
abbrev N_names : List Str := ["_law_cells", "_law_letters", "_law_rest", "_law_stride", "_law_shift", "_law_front", "_law_names_here", "_law_k", "_law_mark", "_law_tail", "_law_more", "_law_name", "_law_cell"]
def sp_names (K : PySem.W.Frag) : Sp := fun vs H Q _ => ∃ (a : Addr) (ns : List Int), vs = [.ref a] ∧ SqL K H a (ns.map V.int) ∧ ns.length ≤ 63 ∧ ∀ (r : Addr) (H' : Hp) (nms : List Str), H r = none → Ext H H' → H' r = some (.lst (nms.map V.str)) → NmOk nms → Q (.ref r) H'
theorem len_names {K : PySem.W.Frag} {vs : List V} {H : Hp} {Q : VK} {E : XK} (h : sp_names K vs H Q E) : vs.length = 1 := by obtain ⟨_, _, rfl, _⟩ := h; rfl
theorem rd_names {K : PySem.W.Frag} {vs : List V} {H : Hp} {Q : VK} {E : XK} (h : sp_names K vs H Q E) : t_names K { nx := fun _ H' => Q .non H', rt := Q } (start N_names vs) H := by
  obtain ⟨a, ns, rfl, hS, h63, k⟩ := h
  unfold t_names
  walk_at "go"
  refine g_lcL (S := []) hS (fun _ z => nomatch z) (fun i acc _ => acc = (ns.take i).map V.int) (fun _ _ _ _ _ _ _ q => q) (fun _ _ => rfl) (fun _ _ _ c _ => c.same.seq hS) (fun i acc _ e => bigl (by rw [e]; simp; omega)) (fun i x hi acc H' Yes No c e yes no => ?_) (fun q acc H1 hq c1 h1 e => ?_)
  · obtain ⟨n, hn, rfl⟩ : ∃ n, ns[i]? = some n ∧ V.int n = x := by
      rw [List.getElem?_map] at hi
      cases e : ns[i]? with
      | none => rw [e] at hi; cases hi
      | some n => rw [e] at hi; exact ⟨n, rfl, Option.some.inj hi⟩
    walk_at "go"
    refine yes _ _ (Chg.refl _) ?_
    show acc ++ [V.int n] = (ns.take (i + 1)).map V.int
    have e : acc = (ns.take i).map V.int := e
    rw [e, List.take_add_one, hn]
    simp
  have e : acc = (ns.take (ns.map V.int).length).map V.int := e
  rw [List.length_map, List.take_length] at e
  walk_at "go"
  refine ⟨q, ns, rfl, .inl (.inl (by rw [h1, e])), ?_⟩
  walk_at "go"
  generalize (if ns.sum < 0 then -ns.sum else ns.sum) = rest0
  refine g_cut (M := fun σ H' => ∃ rest, σ = [some (.ref a), some (.str "abcdefghijklmnopqrstuvwxyz"), some (.int rest), none, none, none, none, none, none, none, none, none, none] ∧ Ext H H') ?_ ?_
  · walk_at "go"
    refine g_2 (fun b1 => ?_) (fun _ => ?_)
    · walk_at "go"
      refine g_2 (fun b2 => ?_) (fun _ => ?_)
      · have b1 := of_decide_eq_true b1
        have b2 : rest0 < 10 ^ 18 := of_decide_eq_true b2
        walk_at "go"
        exact ⟨_, rfl, c1⟩
      · walk_at "go"
        exact ⟨_, rfl, c1⟩
    · walk_at "go"
      exact ⟨_, rfl, c1⟩
  rintro σ H2 ⟨rest, rfl, c2⟩
  walk_at "go"
  refine g_newL (by decide) fun p H3 hp c3 h3 => ?_
  walk_at "go"
  obtain ⟨st, hst, hat⟩ := stride_at (Int.emod_nonneg rest (b := 12) (by decide)) (Int.emod_lt_of_pos rest (b := 12) (by decide))
  refine g_ixL h3 hat ?_
  walk_at "go"
  have hsh0 := Int.emod_nonneg (rest / 12) (b := 26) (by decide)
  have hsh1 := Int.emod_lt_of_pos (rest / 12) (b := 26) (by decide)
  have hfr0 := Int.emod_nonneg (rest / 312) (b := 2) (by decide)
  have hfr1 := Int.emod_lt_of_pos (rest / 312) (b := 2) (by decide)
  generalize rest / 12 % 26 = sh at *
  generalize rest / 312 % 2 = front at *
  generalize rest / 624 = rest1
  refine g_newL (by decide) fun r H4 hr4 c4 h4 => ?_
  have hr : H r = none := (c2.trans c3).free hr4
  have hsb := strides_bd hst
  walk_at "go"
  refine g_forR (by decide) (fun i σ H' => ∃ (nms : List Str) (rest : Int) (o7 o8 o9 : Option V), σ = [some (.ref a), some (.str "abcdefghijklmnopqrstuvwxyz"), some (.int rest), some (.int st), some (.int sh), some (.int front), some (.ref r), o7, o8, o9, none, none, none] ∧ Ext H H' ∧ H' r = some (.lst (nms.map V.str)) ∧ NmSo front st sh i nms)
    ⟨[], rest1, none, none, none, rfl, c2.trans (c3.trans c4), h4, rfl, fun i hi => absurd hi (Nat.not_lt_zero i)⟩ ?_ ?_
  · rintro i σ H' hi ⟨nms, rest, o7, o8, o9, rfl, c, hd, so⟩
    walk_at "go"
    have hc0 := Int.emod_nonneg ((i : Int) * st + sh) (b := 26) (by decide)
    have hc1 := Int.emod_lt_of_pos ((i : Int) * st + sh) (b := 26) (by decide)
    have hat2 : atI ("abcdefghijklmnopqrstuvwxyz" : Str).cps.toList (((i : Int) * st + sh) % 26) = some (97 + (((i : Int) * st + sh) % 26).toNat) := by
      have := letter_at (k := (((i : Int) * st + sh) % 26).toNat) (by omega)
      rw [Int.toNat_of_nonneg hc0] at this
      exact this
    refine g_ixS (by decide +kernel) hat2 ?_
    walk_at "go"
    refine g_addS (by decide +kernel) ?_
    walk_at "go"
    refine ⟨_, rfl, by decide +kernel, ?_⟩
    walk_at "go"
    refine ⟨_, rfl, Nat.le_trans (cutS_length _ _ _) (by decide +kernel), ?_⟩
    walk_at "go"
    obtain ⟨g1, g2, m1, m2⟩ := name_ok (front := front) (rest := rest) (k := i) hc0 hc1 (Int.emod_nonneg rest (b := 26) (by decide)) (Int.emod_lt_of_pos rest (b := 26) (by decide)) (Int.emod_nonneg (rest / 26) (b := 8) (by decide)) (Int.emod_lt_of_pos (rest / 26) (b := 8) (by decide)) _ rfl _ (97 + (((i : Int) * st + sh) % 26).toNat) (by omega) rfl
    generalize hta : cutS (cutS (("abcdefghijklmnopqrstuvwxyz" : Str) ++ ("abcdefghijklmnopqrstuvwxyz" : Str)) (some (rest % 26)) none) none (some (rest / 26 % 8)) = tail at *
    generalize hma : (⟨#[97 + (((i : Int) * st + sh) % 26).toNat]⟩ : Str) = mark at *
    have l1 := g1.most
    have l2 := g2.most
    rw [app_len] at l1 l2
    refine g_addS (big (by omega)) ?_
    walk_at "go"
    refine g_addS (big (by omega)) ?_
    walk_at "go"
    refine g_newL (big (by simp)) fun p H5 hp5 c5 h5 => ?_
    walk_at "go"
    have hd5 := c5.at hd
    have nl := so.len
    by_cases ef : front = 0
    · subst ef
      refine g_ixL h5 (v := .str (mark ++ tail)) rfl ?_
      walk_at "go"
      refine g_append hd5 (bigl (by simp; omega)) ?_
      walk_at "go"
      exact ⟨nms ++ [mark ++ tail], _, _, _, _, rfl, (c.trans c5).own hr _, by rw [upd_same]; simp, so.snoc g1 (by omega) ⟨fun _ => m1, fun z => absurd rfl z⟩⟩
    · have ef1 : front = 1 := by omega
      subst ef1
      refine g_ixL h5 (v := .str (tail ++ mark)) rfl ?_
      walk_at "go"
      refine g_append hd5 (bigl (by simp; omega)) ?_
      walk_at "go"
      exact ⟨nms ++ [tail ++ mark], _, _, _, _, rfl, (c.trans c5).own hr _, by rw [upd_same]; simp, so.snoc g2 (by omega) ⟨fun z => absurd z ef, fun _ => m2⟩⟩
  rintro σ H5 ⟨nms, rest, o7, o8, o9, rfl, c, hd, so⟩
  have so : NmSo front st sh 26 nms := so
  have nl := so.len
  walk_at "go"
  refine g_lcR (S := []) (by decide) (fun _ z => nomatch z) (fun i acc _ => acc = ((List.range i).map more1).map V.str ∧ i ≤ 52) (fun _ _ _ _ _ _ _ q => q) (fun _ _ => ⟨rfl, by decide⟩) (fun i acc _ e => bigl (by rw [e.1]; simp; omega)) (fun i hi acc H' Yes No c e yes no => ?_) (fun q6 acc H6 hq6 c6 h6 e => ?_)
  · walk_at "go"
    have e1 : (i : Int) % 26 = ((i % 26 : Nat) : Int) := by omega
    have e2 : ((i : Int) * 7 + (i : Int) / 26 + 3) % 26 = (((i * 7 + i / 26 + 3) % 26 : Nat) : Int) := by omega
    refine g_ixS (by decide +kernel) (c := 97 + i % 26) (by rw [e1]; exact letter_at (by omega)) ?_
    walk_at "go"
    refine g_ixS (by decide +kernel) (c := 97 + (i * 7 + i / 26 + 3) % 26) (by rw [e2]; exact letter_at (by omega)) ?_
    refine g_addS (by rw [one_len, one_len]; decide) ?_
    refine yes _ _ (Chg.refl _) ⟨?_, by omega⟩
    show acc ++ [_] = ((List.range (i + 1)).map more1).map V.str
    have e := e.1
    rw [e, List.range_succ, List.map_append, List.map_append]
    congr 1
  have e : acc = ((List.range 52).map more1).map V.str := e.1
  walk_at "go"
  have hd6 := c6.at hd
  refine g_lcL (S := []) (xs := ((List.range 52).map more1).map V.str) (.inl (.inl (by rw [h6, e]))) (fun _ z => nomatch z) (fun i acc _ => acc = ((((List.range 52).map more1).take i).filter fun s => !decide (s ∈ nms)).map V.str) (fun _ _ _ _ _ _ _ q => q) (fun _ _ => rfl) (fun _ _ H' c _ => .inl (.inl (by rw [c.at h6, e]))) (fun i acc _ e => bigl (by
      rw [e, List.length_map]
      have := List.length_filter_le (fun s => !decide (s ∈ nms)) (((List.range 52).map more1).take i)
      simp only [List.length_take, List.length_map, List.length_range] at this
      omega)) (fun i x hi acc H' Yes No c e yes no => ?_) (fun q7 acc H7 hq7 c7 h7 e => ?_)
  · obtain ⟨s, hs, rfl⟩ : ∃ s, ((List.range 52).map more1)[i]? = some s ∧ V.str s = x := by
      rw [List.getElem?_map] at hi
      cases e : ((List.range 52).map more1)[i]? with
      | none => rw [e] at hi; cases hi
      | some n => rw [e] at hi; exact ⟨n, rfl, Option.some.inj hi⟩
    walk_at "go"
    refine ⟨r, nms.map V.str, rfl, .inl (.inl (.inl (c.at hd6))), rfl, flat_strs, ?_⟩
    walk_at "go"
    rw [if_pos rfl, inV_str]
    have e : acc = ((((List.range 52).map more1).take i).filter fun s => !decide (s ∈ nms)).map V.str := e
    have et : ((List.range 52).map more1).take (i + 1) = ((List.range 52).map more1).take i ++ [s] := by rw [List.take_add_one, hs]; rfl
    by_cases hm : s ∈ nms
    · rw [decide_eq_true hm]
      refine g_fa (no _ (Chg.refl _) ?_)
      show acc = ((((List.range 52).map more1).take (i + 1)).filter fun s => !decide (s ∈ nms)).map V.str
      rw [e, et, List.filter_append]
      simp [hm]
    · rw [decide_eq_false hm]
      refine g_tr ?_
      walk_at "go"
      refine yes _ _ (Chg.refl _) ?_
      show acc ++ [_] = ((((List.range 52).map more1).take (i + 1)).filter fun s => !decide (s ∈ nms)).map V.str
      rw [e, et, List.filter_append]
      simp [hm]
  have hd7 := c7.at hd6
  have el : (((List.range 52).map more1).map V.str).length = 52 := by simp
  have e : acc = ((((List.range 52).map more1).take (((List.range 52).map more1).map V.str).length).filter fun s => !decide (s ∈ nms)).map V.str := e
  rw [el, List.take_of_length_le (by simp)] at e
  have hk := names_end so hst
  refine g_cat hd7 h7 (big (by
    have := hk.most
    rw [List.length_append] at this
    rw [e, List.length_map, List.length_map]
    omega)) fun q8 H8 hq8 c8 h8 => ?_
  refine k q8 H8 _ ((c.trans (c6.trans c7)).free hq8) (c.trans (c6.trans (c7.trans c8))) ?_ hk
  rw [h8, e, List.map_append]

inductive Fm where
  | hole (n : Int) | node (s : Str) (ps : List Fm)
mutual
def Fm.d : Fm → D
  | .hole n => .int n
  | .node s ps => .tup (.str s :: Fm.ds ps)
def Fm.ds : List Fm → List D
  | [] => []
  | p :: ps => p.d :: Fm.ds ps
end
mutual
def Fm.size : Fm → Nat
  | .hole _ => 1
  | .node _ ps => 1 + Fm.sizes ps
def Fm.sizes : List Fm → Nat
  | [] => 0
  | p :: ps => p.size + Fm.sizes ps
end
mutual
def Fm.depth : Fm → Nat
  | .hole _ => 1
  | .node _ ps => 1 + Fm.depths ps
def Fm.depths : List Fm → Nat
  | [] => 0
  | p :: ps => max p.depth (Fm.depths ps)
end
mutual
def Fm.ok : Fm → Prop
  | .hole n => 0 ≤ n ∧ n ≤ 99
  | .node s ps => Good s ∧ Fm.oks ps
def Fm.oks : List Fm → Prop
  | [] => True
  | p :: ps => p.ok ∧ Fm.oks ps
end
def Fm.isHole : Fm → Bool
  | .hole _ => true
  | .node _ _ => false
theorem Fm.ds_append : ∀ (ps qs : List Fm), Fm.ds (ps ++ qs) = Fm.ds ps ++ Fm.ds qs
  | [], qs => rfl
  | p :: ps, qs => by simp only [List.cons_append, Fm.ds, Fm.ds_append ps qs]
theorem Fm.sizes_append : ∀ (ps qs : List Fm), Fm.sizes (ps ++ qs) = Fm.sizes ps + Fm.sizes qs
  | [], qs => by simp [Fm.sizes]
  | p :: ps, qs => by simp only [List.cons_append, Fm.sizes, Fm.sizes_append ps qs]; omega
theorem Fm.ds_length : ∀ ps : List Fm, (Fm.ds ps).length = ps.length
  | [] => rfl
  | p :: ps => by simp only [Fm.ds, List.length_cons, Fm.ds_length ps]
theorem Fm.ds_get : ∀ (ps : List Fm) (i : Nat), (Fm.ds ps)[i]? = ps[i]?.map Fm.d
  | [], i => by simp [Fm.ds]
  | p :: ps, 0 => by simp [Fm.ds]
  | p :: ps, i + 1 => by simp only [Fm.ds, List.getElem?_cons_succ, Fm.ds_get ps i]
theorem Fm.depth_mem : ∀ {ps : List Fm} {p : Fm}, p ∈ ps → p.depth ≤ Fm.depths ps
  | q :: ps, p, h => by
    simp only [Fm.depths]
    rcases List.mem_cons.mp h with rfl | h
    · omega
    · have := Fm.depth_mem h; omega
theorem Fm.size_pos (f : Fm) : 1 ≤ f.size := by cases f <;> simp only [Fm.size] <;> omega
theorem Fm.depth_pos (f : Fm) : 1 ≤ f.depth := by cases f <;> simp only [Fm.depth] <;> omega
theorem Fm.len_sizes : ∀ ps : List Fm, ps.length ≤ Fm.sizes ps
  | [] => Nat.zero_le _
  | p :: ps => by
    have := p.size_pos
    have := Fm.len_sizes ps
    simp only [Fm.sizes, List.length_cons]
    omega
section
variable {K : PySem.W.Frag} {H H' : Hp} {Q : VK} {v : V} {S : List Addr}
abbrev IsF (H : Hp) (f : Fm) (v : V) : Prop := Is H f.d v
abbrev IsFs (H : Hp) (ps : List Fm) (vs : List V) : Prop := IsL H (Fm.ds ps) vs
theorem IsF.hole {n : Int} : IsF H (.hole n) v ↔ v = .int n := by unfold IsF; simp only [Fm.d]; exact Is.int_iff
theorem IsF.node {s : Str} {ps : List Fm} : IsF H (.node s ps) v ↔ ∃ a vs, v = .ref a ∧ H a = some (.tup (.str s :: vs)) ∧ IsFs H ps vs := by
  unfold IsF
  simp only [Fm.d]
  rw [Is.tup_iff]
  constructor
  · rintro ⟨a, vs, rfl, h1, h2⟩
    obtain ⟨x, xs, rfl, h3, h4⟩ := IsL.cons_iff.mp h2
    rw [Is.str_iff.mp h3] at h1
    exact ⟨a, xs, rfl, h1, h4⟩
  · rintro ⟨a, vs, rfl, h1, h2⟩
    exact ⟨a, _, rfl, h1, IsL.cons Is.str h2⟩
theorem IsFs.snoc {ps : List Fm} {vs : List V} {f : Fm} (h : IsFs H ps vs) (k : IsF H f v) : IsFs H (ps ++ [f]) (vs ++ [v]) := by
  unfold IsFs
  rw [Fm.ds_append]
  exact IsL.append h (by simp only [Fm.ds]; exact IsL.one k)
theorem IsFs.get {ps : List Fm} {vs : List V} {i : Nat} (h : IsFs H ps vs) (e : vs[i]? = some v) : ∃ f, ps[i]? = some f ∧ IsF H f v := by
  obtain ⟨d, h1, h2⟩ := IsL.get h e
  rw [Fm.ds_get] at h1
  cases q : ps[i]? with
  | none => rw [q] at h1; cases h1
  | some f =>
    rw [q] at h1
    have e : f.d = d := Option.some.inj h1
    subst e
    exact ⟨f, rfl, h2⟩
theorem IsFs.get' {ps : List Fm} {vs : List V} {i : Nat} {f : Fm} (h : IsFs H ps vs) (e : ps[i]? = some f) : ∃ v, vs[i]? = some v ∧ IsF H f v := by
  refine IsL.get' h ?_
  rw [Fm.ds_get, e]
  rfl
theorem IsFs.length {ps : List Fm} {vs : List V} (h : IsFs H ps vs) : vs.length = ps.length := by rw [IsL.length h, Fm.ds_length]
theorem kit_int_int : PySem.W.kitOne K (.type "int") (.type "int") = some true := kit_ty (by decide +kernel)
theorem kit_tup_int : PySem.W.kitOne K (.type "tuple") (.type "int") = some false := kit_ty (by decide +kernel)
theorem g_isiF {f : Fm} (h : IsF H f v) (k : Q (.bl f.isHole) H) : rIsi K [v, .ty "int"] H Q := by
  cases f with
  | hole n =>
    obtain rfl := IsF.hole.mp h
    exact ⟨_, _, _, _, true, rfl, .ty "int", .base (.int n), kit_int_int, k⟩
  | node s ps =>
    obtain ⟨a, vs, rfl, h1, _⟩ := IsF.node.mp h
    exact ⟨_, _, _, _, false, rfl, .ty "int", .base (.tup h1), kit_tup_int, k⟩
theorem g_parts {s : Str} {ps : List Fm} (h : IsF H (.node s ps) v) (k : ∀ p H' vs, H p = none → Ext H H' → H' p = some (.tup vs) → IsFs H' ps vs → Q (.ref p) H') : rSlT K v (some 1) none H Q := by
  obtain ⟨a, vs, rfl, h1, h2⟩ := IsF.node.mp h
  refine ⟨a, _, rfl, .inl (.inl h1), ?_, g_new fun p H' hp c hx => k p H' vs hp c ?_ (h2.up c)⟩
  · rintro ⟨z, _⟩
    simp [HT.sIx] at z
  · rw [hx]
    simp [cutV, HT.sIx]
end
section
variable {K : PySem.W.Frag} {H H' : Hp} {Q : VK} {E : XK} {d : Addr}
theorem g_take {m : Int} (hd : Dr H d) (hm : 0 < m) (k : ∀ (v : Int) (H' : Hp), 0 ≤ v → v < m → Chg [d] H H' → Dr H' d → Q (.int v) H') : sp_take K ([.ref d, .int m] ++ []) H Q E := ⟨d, m, rfl, hd, hm, k⟩
theorem Dr.ne {l : Addr} {xs : List V} {s : Str} (h : Dr H d) (k : H l = some (.lst (.str s :: xs))) : l ≠ d := fun e => by
  obtain ⟨ds, h1, _⟩ := h
  rw [e, h1] at k
  cases ds <;> simp at k
theorem Dr.nn (h : Dr H d) : H d ≠ none := fun e => by
  obtain ⟨ds, h1, _⟩ := h
  rw [h1] at e
  cases e
theorem Dr.keep (h : Dr H d) (c : Chg [] H H') : Dr H' d := by
  obtain ⟨ds, h1, h2⟩ := h
  exact ⟨ds, c.at h1, h2⟩
structure Nms (H : Hp) (d r : Addr) (nms : List Str) : Prop where
  at_ : H r = some (.lst (nms.map V.str))
  ok : NmOk nms
  ne : r ∉ [d]
theorem Nms.keep {r : Addr} {nms : List Str} (h : Nms H d r nms) (c : Chg [d] H H') : Nms H' d r nms := ⟨c.ob _ _ h.ne h.at_, h.ok, h.ne⟩
end
theorem Dr.off {H : Hp} {d l : Addr} (h : Dr H d) (hl : H l = none) : l ∉ [d] := by
  intro z
  rw [List.mem_singleton.mp z] at hl
  exact h.nn hl
structure Hls (H : Hp) (d hs : Addr) (is : List Int) : Prop where
  at_ : H hs = some (.lst (is.map V.int))
  ne : hs ∉ [d]
  rng : ∀ i ∈ is, 0 ≤ i ∧ i ≤ 99
theorem Hls.keep {H H' : Hp} {d hs : Addr} {is : List Int} (h : Hls H d hs is) (c : Chg [d] H H') : Hls H' d hs is := ⟨c.ob _ _ h.ne h.at_, h.ne, h.rng⟩
theorem ints_at {is : List Int} {i : Int} (h0 : 0 ≤ i) (h1 : i < ((is.map V.int).length : Int)) : ∃ x, x ∈ is ∧ atI (is.map V.int) i = some (.int x) := by
  obtain ⟨k, rfl⟩ : ∃ k : Nat, i = (k : Int) := ⟨i.toNat, by omega⟩
  have hk : k < is.length := by simp at h1; omega
  exact ⟨is[k], List.getElem_mem hk, atI_nat (by rw [List.getElem?_map, List.getElem?_eq_getElem hk]; rfl)⟩
theorem Hls.get {H : Hp} {d hs : Addr} {is : List Int} (h : Hls H d hs is) {i : Int} (h0 : 0 ≤ i) (h1 : i < ((is.map V.int).length : Int)) : ∃ x, atI (is.map V.int) i = some (.int x) ∧ 0 ≤ x ∧ x ≤ 99 := by
  obtain ⟨x, hx, e⟩ := ints_at h0 h1
  exact ⟨x, e, (h.rng x hx).1, (h.rng x hx).2⟩
def spLaw (K : PySem.W.Frag) : Sp := fun vs H Q _ => ∃ (a : Addr) (ns : List Int), vs = [.ref a] ∧ SqL K H a (ns.map V.int) ∧ ns.length ≤ 63 ∧ ∀ H', Q (.bl true) H'
theorem len_law {K : PySem.W.Frag} {vs : List V} {H : Hp} {Q : VK} {E : XK} (h : spLaw K vs H Q E) : vs.length = 1 := by obtain ⟨_, _, rfl, _⟩ := h; rfl
theorem cut_head (ns : List Int) : cutV (ns.map V.int) none (some 1) = (ns.take 1).map V.int := by
  simp [cutV, HT.sIx]
theorem cut_tail (ns : List Int) : cutV (ns.map V.int) (some 1) none = (ns.drop 1).map V.int := by
  cases ns with
  | nil => rfl
  | cons n ns =>
    simp [cutV, HT.sIx]
    exact List.take_of_length_le (by simp)

local macro_rules | `(tactic| walk_at "f1") => `(tactic| first
  | with_reducible refine My.Rf.tSeq ?_ ?_
  | with_reducible refine My.Rf.tAsg ?_ ?_
  | with_reducible exact My.Rf.tVar _
  | with_reducible exact My.Rf.gName
  | with_reducible exact My.Rf.tCint
  | with_reducible exact My.Rf.tCstr
  | with_reducible exact My.Rf.tCbl
  | with_reducible exact My.Rf.tCnon
  | with_reducible exact My.Rf.tCty
  | with_reducible exact My.Rf.tCref
  | with_reducible refine My.Rf.tOp ?_ ?_ ?_
  | with_reducible refine My.Rf.tUn ?_ ?_
  | with_reducible refine My.Rf.tCB ?_ ?_
  | with_reducible exact My.Rf.tNil
  | with_reducible refine My.Rf.tCons ?_ ?_
  | with_reducible refine My.Rf.tIfS ?_ ?_ ?_
  | with_reducible refine My.Rf.tRet ?_
  | with_reducible exact My.Rf.tRetN
  | with_reducible refine My.Rf.tDrop ?_
  | with_reducible exact My.Rf.tNext
  | with_reducible exact My.Rf.tBreak
  | with_reducible exact My.Rf.tCont
  | with_reducible exact My.Rf.tNever
  | with_reducible refine My.Rf.tCut ?_ ?_
  | with_reducible refine My.Rf.tTest ?_
  | with_reducible refine My.Rf.tB ?_
  | with_reducible refine My.Rf.tTru_ ?_
  | with_reducible exact My.Rf.tYes
  | with_reducible refine My.Rf.tNot ?_
  | with_reducible refine My.Rf.tAnd ?_ ?_
  | with_reducible refine My.Rf.tOr ?_ ?_
  | with_reducible refine My.Rf.tAndV ?_ ?_
  | with_reducible refine My.Rf.tOrV ?_ ?_
  | with_reducible refine My.Rf.tNotV ?_
  | with_reducible refine My.Rf.tIf ?_ ?_ ?_
  | with_reducible refine My.Rf.tChain ?_ ?_ ?_ ?_ ?_
  | with_reducible refine My.Rf.tCall ?_ ?_
  | with_reducible refine My.Rf.tCallX ?_ ?_
  | with_reducible refine My.Rf.tPart ?_
  | with_reducible exact My.Rf.tNoPart
  | with_reducible refine My.Rf.tSl ?_ ?_ ?_ ?_
  | with_reducible refine My.Rf.tTup ?_
  | with_reducible refine My.Rf.tLst ?_
  | with_reducible refine My.Rf.tBM ?_ ?_ ?_
  | with_reducible refine My.Rf.tBM0 ?_ ?_
  | with_reducible refine My.Rf.tM1 ?_ ?_ ?_
  | with_reducible refine My.Rf.tStar ?_ ?_
  | with_reducible refine My.Rf.tFld ?_
  | with_reducible refine My.Rf.tMeth ?_ ?_ ?_
  | with_reducible refine My.Rf.tMethX ?_ ?_ ?_
  | with_reducible refine My.Rf.tMake ?_ ?_
  | with_reducible refine My.Rf.tMakeX ?_ ?_
  | with_reducible exact My.Rf.tDNewK
  | with_reducible refine My.Rf.tDGet ?_ ?_
  | with_reducible refine My.Rf.tDGet2 ?_ ?_ ?_
  | with_reducible refine My.Rf.tDIn ?_ ?_
  | with_reducible refine My.Rf.tDNotIn ?_ ?_
  | with_reducible refine My.Rf.sDPut ?_ ?_ ?_
  | with_reducible refine My.Rf.sFld ?_ ?_
  | with_reducible refine My.Rf.tJoined ?_
  | with_reducible refine My.Rf.tFmt ?_
  | with_reducible refine My.Rf.tAug ?_ ?_
  | with_reducible refine My.Rf.tRaise1 ?_
  | with_reducible refine My.Rf.tRaise2 ?_ ?_
  | with_reducible refine My.Rf.tXf ?_
  | with_reducible refine My.Rf.tXfA ?_
  | with_reducible refine My.Rf.tXfZ ?_
  | with_reducible exact My.Rf.rIsZ
  | with_reducible exact My.Rf.rListD
  | with_reducible exact My.Rf.rEqD
  | with_reducible exact My.Rf.rNeD
  | with_reducible exact My.Rf.tRaise0
  | with_reducible exact My.Rf.rIsD
  | with_reducible refine My.Rf.tFor ?_ ?_ ?_
  | with_reducible refine My.Rf.tWhile ?_ ?_
  | with_reducible refine My.Rf.tLc ?_ ?_ ?_ ?_ ?_
  | with_reducible refine My.Rf.gTup ?_
  | with_reducible refine My.Rf.gCons ?_ ?_
  | with_reducible exact My.Rf.gNil
  | with_reducible refine My.Rf.gSub ?_ ?_
  | with_reducible refine My.Rf.iList ?_
  | with_reducible refine My.Rf.iTup ?_
  | with_reducible refine My.Rf.iRng1 ?_
  | with_reducible refine My.Rf.iRng2 ?_
  | with_reducible refine My.Rf.iRng3 ?_
  | with_reducible refine My.Rf.iStr ?_
  | with_reducible refine My.Rf.iEnum ?_
  | with_reducible refine My.Rf.iEnumT ?_
  | with_reducible refine My.Rf.iZipA ?_
  | with_reducible exact My.Rf.rAddS_
  | with_reducible exact My.Rf.rInS_
  | with_reducible exact My.Rf.rNotInS_
  | with_reducible exact My.Rf.rEq
  | with_reducible exact My.Rf.rNe
  | with_reducible exact My.Rf.rIsN_
  | with_reducible exact My.Rf.rNotN_
  | with_reducible exact My.Rf.rIn
  | with_reducible exact My.Rf.rIxL
  | with_reducible exact My.Rf.rIxT
  | with_reducible exact My.Rf.rIxS
  | with_reducible exact My.Rf.rSlL
  | with_reducible exact My.Rf.rSlA
  | with_reducible exact My.Rf.rSlT
  | with_reducible exact My.Rf.rSlS
  | with_reducible exact My.Rf.rCat
  | with_reducible exact My.Rf.rCatA
  | with_reducible exact My.Rf.rRep
  | with_reducible exact My.Rf.rListIt
  | with_reducible exact My.Rf.rNeSL
  | with_reducible exact My.Rf.rExt2
  | with_reducible exact My.Rf.ipI
  | with_reducible exact My.Rf.rLenSeq
  | with_reducible exact My.Rf.rLenStr
  | with_reducible exact My.Rf.rLenD
  | with_reducible exact My.Rf.rInt1
  | with_reducible exact My.Rf.rAbs
  | with_reducible exact My.Rf.rSum
  | with_reducible exact My.Rf.rMax
  | with_reducible exact My.Rf.rTupleOf
  | with_reducible exact My.Rf.rListOf
  | with_reducible exact My.Rf.rStrInt
  | with_reducible exact My.Rf.rIsi
  | with_reducible refine My.Rf.rInOwn ?_
  | with_reducible exact My.Rf.rAll
  | with_reducible exact My.Rf.rAny
  | with_reducible exact My.Rf.rAppend
  | with_reducible exact My.Rf.rInsert
  | with_reducible exact My.Rf.rPopAt
  | with_reducible exact My.Rf.rPop
  | with_reducible exact My.Rf.rClear
  | with_reducible exact My.Rf.rExtend
  | with_reducible refine My.Rf.tDc ?_ ?_ ?_ ?_ ?_ ?_
  | with_reducible refine My.Rf.iKeys ?_
  | with_reducible refine My.Rf.tDGetF ?_ ?_
  | with_reducible refine My.Rf.tLock ?_
  | with_reducible refine My.Rf.tLockE ?_
  | with_reducible exact My.Rf.rDictD
  | with_reducible refine My.Rf.tStep ?_ ?_
  | with_reducible refine My.Rf.tStepT ?_ ?_
  | with_reducible refine My.Rf.tDisp1 ?_ ?_
  | with_reducible refine My.Rf.tLstR1 ?_
  | with_reducible refine My.Rf.tLstR2 ?_ ?_
  | with_reducible refine My.Rf.tCallI ?_ ?_ ?_
  | with_reducible refine My.Rf.tCallIX ?_ ?_ ?_
  | with_reducible exact My.Rf.tDNewT
  | with_reducible refine My.Rf.tDGetT ?_ ?_
  | with_reducible refine My.Rf.tDGet2T ?_ ?_ ?_
  | with_reducible refine My.Rf.tDInT ?_ ?_
  | with_reducible refine My.Rf.tDNotInT ?_ ?_
  | with_reducible refine My.Rf.sDPutT ?_ ?_ ?_
  | with_reducible exact My.Rf.rMin2
  | with_reducible exact My.Rf.rMax2
  | with_reducible exact My.Rf.rMin
  | with_reducible exact My.Rf.rIndex
  | with_reducible exact My.Rf.rCntF
  | with_reducible exact My.Rf.rCntS
  | with_reducible refine My.Rf.tRaise2F ?_ ?_ ?_
  | with_reducible exact My.Rf.rLtS_
  | with_reducible refine My.Rf.rOwn2 ?_
  | with_reducible refine My.Rf.rOwn2X ?_
  | with_reducible refine My.Rf.rAddOwn ?_
  | with_reducible refine My.Rf.gSubOwn ?_ ?_ ?_
  | ((with_reducible refine' My.Rf.tTryIx ?_ ?_ ?_ ?_); (all_goals (try intros)))
  | ((with_reducible refine' My.Rf.tTrySet ?_ ?_ ?_ ?_ ?_); (all_goals (try intros)))
  | ((with_reducible refine' My.Rf.tTryDI ?_ ?_ ?_ ?_); (all_goals (try intros)))
  | ((with_reducible refine' My.Rf.tTryDM ?_ ?_ ?_); (all_goals (try intros)))
  | ((with_reducible refine' My.Rf.tTryDH ?_ ?_ ?_ ?_); (all_goals (try intros)))
  | ((with_reducible refine' My.Rf.tTryAH ?_ ?_ ?_ ?_ ?_); (all_goals (try intros)))
  | ((with_reducible refine' My.Rf.tTryNAH ?_ ?_ ?_ ?_ ?_); (all_goals (try intros)))
  | ((with_reducible refine' My.Rf.tTryAM ?_ ?_ ?_ ?_); (all_goals (try intros)))
  | ((with_reducible refine' My.Rf.tTryAC ?_ ?_ ?_ ?_); (all_goals (try intros)))
  | ((with_reducible refine' My.Rf.tTryDC ?_ ?_ ?_); (all_goals (try intros)))
  | ((with_reducible refine' My.Rf.tTryZAM ?_ ?_ ?_ ?_); (all_goals (try intros)))
  | ((with_reducible refine' My.Rf.tTryZDA ?_ ?_ ?_ ?_); (all_goals (try intros)))
  | ((with_reducible refine' My.Rf.tTryXD ?_ ?_ ?_); (all_goals (try intros)))
  | ((with_reducible refine' My.Rf.tTryZDC ?_ ?_ ?_); (all_goals (try intros)))
  | ((with_reducible refine' My.Rf.tTryZ3 ?_ ?_ ?_ ?_ ?_ ?_ ?_ ?_ ?_ ?_); (all_goals (try intros)))
  | ((with_reducible refine' My.Rf.tTryZIC ?_ ?_ ?_ ?_ ?_ ?_ ?_ ?_); (all_goals (try intros)))
  | ((with_reducible refine' My.Rf.tTryZAH ?_ ?_ ?_ ?_ ?_); (all_goals (try intros)))
  | ((with_reducible refine' My.Rf.tTryZDH ?_ ?_ ?_ ?_); (all_goals (try intros)))
  | ((with_reducible refine' My.Rf.tTryZX ?_ ?_ ?_ ?_); (all_goals (try intros)))
  | with_reducible exact My.REs.nil
  | with_reducible refine My.REs.cons ?_ ?_
  | with_reducible exact My.GW.name
  | with_reducible exact My.GW.two
  | with_reducible exact My.Rf.rI (fun _ _ _ => My.RV.int_iff.mpr rfl)
  | with_reducible exact My.Rf.rI0 (fun _ _ _ => My.RV.int_iff.mpr rfl)
  | with_reducible exact My.Rf.rI0 (fun _ _ _ => My.RV.bl_iff.mpr rfl)
  | with_reducible exact My.Rf.rU (fun _ _ => My.RV.int_iff.mpr rfl)
  | assumption
  | with_reducible refine My.Rf.hYield (by assumption) ?_
  | with_reducible refine My.Rf.gPlain ?_
  | with_reducible exact My.Rf.gG0
  | with_reducible refine My.Rf.gThen ?_ ?_
  | with_reducible refine My.Rf.gYield ?_
  | with_reducible refine My.Rf.gFor ?_ ?_ ?_
  | with_reducible refine My.Rf.tListG ?_
  | with_reducible refine My.Rf.gMethG ?_ ?_ ?_
  | with_reducible refine My.Rf.tCMeth ?_ ?_ ?_
  | with_reducible refine My.Rf.tMakeL ?_ ?_
  | with_reducible refine My.Rf.hThen ?_ ?_
  | with_reducible refine My.Rf.hFor ?_ ?_ ?_
  | with_reducible refine My.Rf.xMeth0 ?_ ?_ ?_
  | with_reducible refine My.Rf.tForG ?_ ?_ ?_
  | with_reducible refine My.Rf.tForX ?_
  | with_reducible refine My.Rf.hPlain ?_
  | with_reducible exact My.Rf.hG0
  | exact My.RSpG.lift
  | exact My.RSpH.lift
  | exact My.RSp.lift
  | exact My.RSp.liftX)
local macro_rules | `(tactic| walk_at "rf") => `(tactic| repeat (any_goals walk_at "f1"))
local macro_rules | `(tactic| walk_at "mm") => `(tactic| first | assumption | exact My.aupd_same | ((refine' My.Ab.lk_ne ?lka ?lkb); (case lka => first | assumption | (refine Ne.symm ?_; assumption) | ((refine' My.ne_of_anone ?lkh ?lkk); (case lkk => assumption); (case lkh => first | assumption | (refine My.Sub.at (by assumption) ?_; assumption) | (solve_by_elim (maxDepth := 4) only [*, My.Sub.at, My.Ab.lk_new, My.aupd_same])))); (case lkb => walk_at "mm")) | (refine My.Sub.at (by assumption) ?_; walk_at "mm") | (solve_by_elim (maxDepth := 4) only [*, My.Sub.at, My.Ab.lk_new, My.aupd_same]))
local macro_rules | `(tactic| walk_at "a1") => `(tactic| first
  | ((with_reducible refine' My.Ab.g_var ?ga ?gb); (case ga => rfl))
  | ((with_reducible refine' My.Ab.g_aug ?ga ?gb); (case ga => rfl))
  | with_reducible refine My.Ab.g_seq ?_
  | with_reducible refine My.Ab.g_asg ?_
  | with_reducible refine My.Ab.g_name ?_
  | with_reducible refine My.Ab.g_c ?_
  | with_reducible refine My.Ab.g_op ?_
  | with_reducible refine My.Ab.g_cb ?_
  | with_reducible refine My.Ab.g_cons ?_
  | with_reducible refine My.Ab.g_nil ?_
  | with_reducible refine My.Ab.g_ifS ?_
  | with_reducible refine My.Ab.g_ret ?_
  | with_reducible refine My.Ab.g_drop ?_
  | with_reducible refine My.Ab.g_test ?_
  | with_reducible refine My.Ab.g_B ?_
  | with_reducible refine My.Ab.g_bl ?_
  | with_reducible refine My.Ab.g_exI ?_
  | with_reducible refine My.Ab.g_exI1 ?_
  | with_reducible refine My.Ab.g_exI2 ?_
  | with_reducible refine My.Ab.g_exS ?_
  | with_reducible refine My.Ab.g_exT ?_
  | with_reducible refine My.Ab.g_exT1 ?_
  | with_reducible refine My.Ab.g_exZ ?_
  | with_reducible refine My.Ab.g_tr ?_
  | with_reducible refine My.Ab.g_fa ?_
  | with_reducible refine My.Ab.g_ntr ?_
  | with_reducible refine My.Ab.g_nfa ?_
  | ((with_reducible refine My.Ab.g_rI ?ga ?gb); (case ga => first | decide | (unfold CMul; omega) | (unfold CDiv; omega) | (unfold CPow; decide) | (unfold CPow; omega) | omega))
  | with_reducible refine My.Ab.g_un ?_
  | with_reducible refine My.Ab.g_tru ?_
  | with_reducible refine My.Ab.g_yes ?_
  | with_reducible refine My.Ab.g_not ?_
  | with_reducible refine My.Ab.g_and ?_
  | with_reducible refine My.Ab.g_or ?_
  | with_reducible refine My.Ab.g_andV ?_
  | with_reducible refine My.Ab.g_orV ?_
  | with_reducible refine My.Ab.g_notV ?_
  | with_reducible refine My.Ab.g_ifE ?_
  | with_reducible refine My.Ab.g_chain ?_
  | with_reducible refine My.Ab.g_call ?_
  | with_reducible refine My.Ab.g_make ?_
  | with_reducible refine My.Ab.g_meth ?_
  | with_reducible refine My.Ab.g_part ?_
  | with_reducible refine My.Ab.g_nopart ?_
  | with_reducible refine My.Ab.g_sl ?_
  | with_reducible refine My.Ab.g_tupE ?_
  | with_reducible refine My.Ab.g_lstE ?_
  | with_reducible refine My.Ab.g_bm ?_
  | with_reducible refine My.Ab.g_bm0 ?_
  | with_reducible refine My.Ab.g_m1 ?_
  | with_reducible refine My.Ab.g_m1s ?_
  | with_reducible refine My.Ab.g_joined ?_
  | with_reducible refine My.Ab.g_jn ?_
  | with_reducible refine My.Ab.g_jc ?_
  | with_reducible refine My.Ab.g_fmt ?_
  | with_reducible refine My.Ab.g_rI0 ?_
  | with_reducible refine My.Ab.g_rU ?_
  | with_reducible refine My.Ab.g_ipI ?_
  | with_reducible refine My.Ab.g_int1 ?_
  | with_reducible refine My.Ab.g_int1b ?_
  | with_reducible refine My.Ab.g_abs ?_
  | with_reducible refine My.Ab.g_eqI ?_
  | with_reducible refine My.Ab.g_neI ?_
  | with_reducible refine My.Ab.g_eqS ?_
  | with_reducible refine My.Ab.g_neS ?_
  | with_reducible refine My.Ab.g_eqB ?_
  | with_reducible refine My.Ab.g_neB ?_
  | with_reducible refine My.Ab.g_inS ?_
  | with_reducible refine My.Ab.g_notInS ?_
  | with_reducible refine My.Ab.g_slA ?_
  | with_reducible refine My.Ab.g_lenT ?_
  | with_reducible refine My.Ab.g_tupT ?_
  | with_reducible refine My.Ab.g_lstT ?_
  | with_reducible refine My.Ab.g_starT ?_
  | with_reducible refine My.Ab.g_star ?_
  | with_reducible refine My.Ab.g_next ?_
  | with_reducible refine My.Ab.g_brk ?_
  | with_reducible refine My.Ab.g_cont ?_
  | with_reducible refine My.Ab.g_retN ?_
  | with_reducible refine My.Ab.g_for ?_
  | with_reducible refine My.Ab.g_lc ?_
  | with_reducible refine My.Ab.g_iL ?_
  | with_reducible refine My.Ab.g_iT ?_
  | with_reducible refine My.Ab.g_iR ?_
  | with_reducible refine My.Ab.g_iR2 ?_
  | with_reducible refine My.Ab.g_iE ?_
  | with_reducible refine My.Ab.g_iET ?_
  | with_reducible refine My.Ab.g_iZ ?_
  | with_reducible refine My.Ab.g_iS ?_
  | with_reducible refine My.Ab.g_gcons ?_
  | with_reducible refine My.Ab.g_gnil ?_
  | with_reducible refine My.Ab.g_gsub ?_
  | with_reducible refine My.Ab.g_fldE ?_
  | with_reducible refine My.Ab.g_dget ?_
  | with_reducible refine My.Ab.g_dget2 ?_
  | with_reducible refine My.Ab.g_din ?_
  | with_reducible refine My.Ab.g_dnin ?_
  | with_reducible refine My.Ab.g_dput ?_
  | with_reducible refine My.Ab.g_sfld ?_
  | with_reducible refine My.Ab.g_isN1 ?_
  | with_reducible refine My.Ab.g_isNt ?_
  | with_reducible refine My.Ab.g_isNi ?_
  | ((with_reducible refine' My.Ab.g_inOwn ?ga ?gb); (case ga => walk_at "mm"))
  | with_reducible refine My.Ab.g_rs1 ?_
  | with_reducible refine My.Ab.g_rs2 ?_
  | ((with_reducible refine' My.Ab.g_gtup ?ga ?gb); (case ga => rfl))
  | ((with_reducible refine' My.Ab.g_isi ?ga ?gb); (case ga => rfl))
  | ((with_reducible refine' My.Ab.g_isiL ?ga ?gb); (case ga => walk_at "mm"))
  | ((with_reducible refine' My.Ab.g_tupL ?ga ?gb); (case ga => exact My.big (by simp only [List.length_cons, List.length_nil]; decide)))
  | ((with_reducible refine' My.Ab.g_ixT ?ga ?gb); (case ga => rfl))
  | ((with_reducible refine' My.Ab.g_exL ?ga ?gb); (case ga => walk_at "mm"))
  | ((with_reducible refine' My.Ab.g_exL1 ?ga ?gb); (case ga => walk_at "mm"))
  | ((with_reducible refine' My.Ab.g_lenL ?ga ?gb); (case ga => walk_at "mm"))
  | ((with_reducible refine' My.Ab.g_tupOf ?ga ?gb); (case ga => walk_at "mm"))
  | ((with_reducible refine' My.Ab.g_lstOf ?ga ?gb); (case ga => walk_at "mm"))
  | ((with_reducible refine' My.Ab.g_slL ?ga ?gb); (case ga => walk_at "mm"))
  | ((with_reducible refine' My.Ab.g_isTL ?ga ?gb); (case ga => walk_at "mm"))
  | ((with_reducible refine' My.Ab.g_truL ?ga ?gb); (case ga => walk_at "mm"))
  | with_reducible refine My.Ab.g_slT ?_
  | with_reducible refine My.Ab.g_dc ?_
  | with_reducible refine My.Ab.g_step ?_
  | with_reducible refine My.Ab.g_lstR1 ?_
  | with_reducible refine My.Ab.g_callI ?_
  | with_reducible refine My.Ab.g_callIS ?_
  | with_reducible refine My.Ab.g_keys ?_
  | with_reducible refine My.Ab.g_dgetF ?_
  | with_reducible refine My.Ab.g_exR ?_
  | ((with_reducible refine' My.Ab.g_exF ?ga ?gb); (case ga => walk_at "mm"))
  | ((with_reducible refine' My.Ab.g_callIm ?ga ?gb); (case ga => walk_at "mm"))
  | with_reducible refine My.Ab.g_iR3 ?_
  | with_reducible refine My.Ab.g_tryN ?_
  | with_reducible refine My.Ab.g_tryI ?_
  | with_reducible refine My.Ab.g_xfI ?_
  | with_reducible refine My.Ab.g_makeSI ?_
  | with_reducible refine My.Ab.g_methSI ?_
  | with_reducible refine My.Ab.g_callSI ?_
  | with_reducible refine My.Ab.g_callTI ?_
  | with_reducible refine My.Ab.g_xfA ?_
  | with_reducible refine My.Ab.g_tryZ ?_
  | with_reducible refine My.Ab.g_xfZ ?_
  | with_reducible refine My.Ab.g_rs0 ?_
  | with_reducible refine My.Ab.g_dgetT ?_
  | with_reducible refine My.Ab.g_dget2T ?_
  | with_reducible refine My.Ab.g_dinT ?_
  | with_reducible refine My.Ab.g_dninT ?_
  | with_reducible refine My.Ab.g_dputT ?_
  | with_reducible refine My.Ab.g_min2 ?_
  | with_reducible refine My.Ab.g_max2 ?_
  | with_reducible refine My.Ab.g_ltS ?_
  | with_reducible refine My.Ab.g_cntS ?_
  | with_reducible refine My.Ab.g_rs2F ?_
  | ((with_reducible refine' My.Ab.g_xfV ?ga ?gb ?gc); (case ga => walk_at "mm"); (case gb => rfl)))
local macro_rules | `(tactic| walk_at "ao") => `(tactic| repeat walk_at "a1")
def Ab.sp_take (K : PySem.W.Frag) : ASp := fun as M P _ => ∃ (d : Addr) (m : Int), as = [.ref d, .int m] ∧ M d = some .draws ∧ 0 < m ∧ ∀ v : Int, 0 ≤ v → v < m → P (.int v) M
theorem Rep.chg {K : PySem.W.Frag} {F H H' : Hp} {M : AM} {d : Addr} (r : Rep K F H M) (h : M d = some .draws) (c : Chg [d] H H') (q : DrA H' d) : Rep K F H' M := by
  obtain ⟨ds0, hd0, _⟩ := r.at_ _ _ h
  have hb : ∀ b o, b ≠ d → H b = some o → H' b = some o := fun b o n z => c.ob b o (by simpa using n) z
  refine ⟨fun a o e => ?_, fun a o e => ⟨hb a o (ne_of_none e (r.off h)) (r.fr a o e).1, (r.fr a o e).2⟩⟩
  by_cases z : a = d
  · subst z
    rw [h] at e
    cases e
    exact q
  · exact (r.at_ a o e).keep hb (fun x y => by rw [hd0] at y; cases y) c.tp z
theorem rsp_take {K : PySem.W.Frag} : RSp K (sp_take K) (Ab.sp_take K) := ⟨fun F vs as H M Q P E X r m ⟨d, n, e, hd, hn, p⟩ k x => by
  subst e
  obtain ⟨v, w, rfl, rv, rw⟩ := Rf.two r
  cases RV.ref_iff.mp rv
  cases RV.int_iff.mp rw
  exact ⟨d, n, rfl, m.at_ _ _ hd, hn, fun v H' h0 h1 c q => k _ M _ H' (p v h0 h1) (m.chg hd c q) (RV.int_iff.mpr rfl) c.tp⟩⟩
theorem Ab.g_take {K : PySem.W.Frag} {M : AM} {P : AK} {X : AX} {d : Addr} {m : Int} (hd : M d = some .draws) (hm : 0 < m) (k : ∀ v : Int, 0 ≤ v → v < m → P (.int v) M) : Ab.sp_take K ([.ref d, .int m] ++ []) M P X := ⟨d, m, rfl, hd, hm, k⟩
def natsA (ks : List Nat) : List A := ks.map fun (k : Nat) => A.int (k : Int)
theorem natsA_ints (ks : List Nat) : natsA ks = (ks.map fun (k : Nat) => (k : Int)).map A.int := by unfold natsA; rw [List.map_map]; rfl
mutual
def Fm.a : Fm → A
  | .hole n => .int n
  | .node s ps => .tup (.str s :: Fm.as ps)
def Fm.as : List Fm → List A
  | [] => []
  | p :: ps => p.a :: Fm.as ps
end
theorem Fm.as_map : ∀ ps : List Fm, Fm.as ps = ps.map Fm.a
  | [] => rfl
  | p :: ps => by simp only [Fm.as, List.map_cons, Fm.as_map ps]
theorem Fm.as_length (ps : List Fm) : (Fm.as ps).length = ps.length := by rw [Fm.as_map, List.length_map]
theorem Fm.as_append (ps qs : List Fm) : Fm.as (ps ++ qs) = Fm.as ps ++ Fm.as qs := by rw [Fm.as_map, Fm.as_map, Fm.as_map, List.map_append]
theorem rv_fm {H : Hp} : ∀ {f : Fm} {v : V}, RV H f.a v ↔ IsF H f v := by
  have key : ∀ n : Nat, (∀ f : Fm, f.size ≤ n → ∀ v, RV H f.a v ↔ IsF H f v) ∧ ∀ ps : List Fm, Fm.sizes ps ≤ n → ∀ vs, RL H (Fm.as ps) vs ↔ IsFs H ps vs := by
    intro n
    induction n with
    | zero =>
      refine ⟨fun f h => absurd f.size_pos (by omega), fun ps h vs => ?_⟩
      cases ps with
      | nil => simp only [Fm.as, RL.nil_iff]; exact IsL.nil_iff.symm
      | cons p ps => simp only [Fm.sizes] at h; have := p.size_pos; omega
    | succ n ih =>
      have h1 : ∀ f : Fm, f.size ≤ n + 1 → ∀ v, RV H f.a v ↔ IsF H f v := by
        intro f hf v
        cases f with
        | hole i => simp only [Fm.a]; rw [RV.int_iff, IsF.hole]
        | node s ps =>
          simp only [Fm.size] at hf
          have hp := ih.2 ps (by omega)
          simp only [Fm.a]
          rw [RV.tup_iff, IsF.node]
          constructor
          · rintro ⟨a, vs, rfl, e, r⟩
            obtain ⟨x, xs, rfl, h1, h2⟩ := RL.cons_iff.mp r
            cases RV.str_iff.mp h1
            exact ⟨a, xs, rfl, e, (hp xs).mp h2⟩
          · rintro ⟨a, vs, rfl, e, r⟩
            exact ⟨a, _, rfl, e, RL.cons (RV.str_iff.mpr rfl) ((hp vs).mpr r)⟩
      refine ⟨h1, fun ps => ?_⟩
      induction ps with
      | nil => intro _ vs; simp only [Fm.as, RL.nil_iff]; exact IsL.nil_iff.symm
      | cons p ps ihp =>
        intro hz vs
        simp only [Fm.sizes] at hz
        have hpos := p.size_pos
        have hp := h1 p (by omega)
        have hq := ihp (by omega)
        simp only [Fm.as, RL.cons_iff]
        have e : IsFs H (p :: ps) vs ↔ ∃ x xs, vs = x :: xs ∧ IsF H p x ∧ IsFs H ps xs := by unfold IsFs; simp only [Fm.ds]; exact IsL.cons_iff
        rw [e]
        constructor
        · rintro ⟨x, xs, rfl, h1, h2⟩; exact ⟨x, xs, rfl, (hp x).mp h1, (hq xs).mp h2⟩
        · rintro ⟨x, xs, rfl, h1, h2⟩; exact ⟨x, xs, rfl, (hp x).mpr h1, (hq xs).mpr h2⟩
  intro f v
  exact (key f.size).1 f (Nat.le_refl _) v
structure Row where
  name : Str
  places : Nat
  worked : List Nat
  done : Bool
  deriving DecidableEq
abbrev Row.a (r : Row) : A := .tup [.str r.name, .int r.places, .tup (natsA r.worked), .bl r.done]
abbrev rowsA (rs : List Row) : List A := rs.map Row.a
theorem getA {α : Type} {f : α → A} {xs : List α} {i : Nat} {y : A} (h : (xs.map f)[i]? = some y) : ∃ x, xs[i]? = some x ∧ y = f x := by
  rw [List.getElem?_map] at h
  cases q : xs[i]? with
  | none => rw [q] at h; cases h
  | some x => rw [q] at h; exact ⟨x, rfl, (Option.some.inj h).symm⟩
theorem atA {α : Type} {f : α → A} {xs : List α} {i : Int} (h0 : 0 ≤ i) (h1 : i < xs.length) : ∃ x, x ∈ xs ∧ xs[i.toNat]? = some x ∧ atI (xs.map f) i = some (f x) := by
  obtain ⟨k, rfl⟩ : ∃ k : Nat, i = (k : Int) := ⟨i.toNat, by omega⟩
  have hk : k < xs.length := by omega
  exact ⟨xs[k], List.getElem_mem hk, by simp [hk], atI_nat (by rw [List.getElem?_map, List.getElem?_eq_getElem hk]; rfl)⟩
theorem Sub.put {M0 M : AM} {p : Addr} {o : AO} (h : M0 p = none) (s : Sub M0 M) : Sub M0 (aupd M p o) := fun a o' e => by
  rw [aupd_ne (ne_of_anone e h)]
  exact s a o' e
theorem Sub.none {M0 M : AM} {p : Addr} (s : Sub M0 M) (h : M p = none) : M0 p = none := by
  cases e : M0 p with
  | none => rfl
  | some o => rw [s p o e] at h; cases h
theorem Sub.both {M0 M : AM} {p : Addr} {o : AO} (s : Sub M0 M) : Sub (aupd M0 p o) (aupd M p o) := fun a o' e => by
  by_cases z : a = p
  · subst z; rw [aupd_same] at e ⊢; exact e
  · rw [aupd_ne z] at e ⊢; exact s a o' e
theorem Ab.g_nm {K : PySem.W.Frag} {M : AM} {P : AK} {r : Addr} {nms : List Str} {i : Int} (m : M r = some (.lst (nms.map A.str))) (ok : NmOk nms) (h0 : 0 ≤ i) (h1 : i < 26) (k : ∀ s, nms[i.toNat]? = some s → P (.str s) M) : Ab.rIxL K (.ref r) (.int i) M P := by
  have hl := ok.least
  obtain ⟨s, _, h2, h3⟩ := atA (f := A.str) (xs := nms) h0 (by omega)
  exact ⟨r, _, i, _, rfl, rfl, m, h3, k s h2⟩
theorem Ab.g_it {K : PySem.W.Frag} {α : Type} {f : α → A} {xs : List α} {M : AM} {P : AK} {r : Addr} {i : Int} (m : M r = some (.lst (xs.map f))) (h0 : 0 ≤ i) (h1 : i < xs.length) (k : ∀ x, x ∈ xs → xs[i.toNat]? = some x → P (f x) M) : Ab.rIxL K (.ref r) (.int i) M P := by
  obtain ⟨x, h2, h3, h4⟩ := atA (f := f) h0 h1
  exact ⟨r, _, i, _, rfl, rfl, m, h4, k x h2 h3⟩
theorem Ab.g_itT {K : PySem.W.Frag} {α : Type} {f : α → A} {xs : List α} {M : AM} {P : AK} {i : Int} (h0 : 0 ≤ i) (h1 : i < xs.length) (k : ∀ x, x ∈ xs → xs[i.toNat]? = some x → P (f x) M) : Ab.rIxT K (.tup (xs.map f)) (.int i) M P := by
  obtain ⟨x, h2, h3, h4⟩ := atA (f := f) h0 h1
  exact ⟨_, i, _, rfl, rfl, h4, k x h2 h3⟩
theorem cut_lo {α : Type} (f : α → A) (xs : List α) (j : Nat) : Ab.cutA (xs.map f) (some (j : Int)) none = (xs.drop j).map f := by
  unfold Ab.cutA
  rw [HT.sIx_none, HT.sIx_nat, List.map_drop, List.length_map]
  by_cases h : j ≤ xs.length
  · rw [Nat.min_eq_left h]
    exact List.take_of_length_le (by simp)
  · rw [Nat.min_eq_right (by omega), List.drop_of_length_le (by simp), List.drop_of_length_le (by simp; omega)]
    simp
theorem cut_hi {α : Type} (f : α → A) (xs : List α) (j : Nat) : Ab.cutA (xs.map f) none (some (j : Int)) = (xs.take j).map f := by
  unfold Ab.cutA
  rw [HT.sIx_none, HT.sIx_nat, List.map_take, List.length_map, List.drop_zero, Nat.sub_zero]
  by_cases h : j ≤ xs.length
  · rw [Nat.min_eq_left h]
  · rw [Nat.min_eq_right (by omega), List.take_of_length_le (by simp), List.take_of_length_le (by simp; omega)]
theorem wk {P : AK} {a : A} {M0 M : AM} (s : Sub M0 M) (h : P a M0) : Wk P a M := ⟨M0, s, h⟩

namespace Ab
def sp_worked (K : PySem.W.Frag) : ASp := fun as M P _ => ∃ (d : Addr) (n least : Nat), as = [.ref d, .int (n : Int), .int (least : Int)] ∧ M d = some .draws ∧ least ≤ n ∧ n ≤ 4 ∧ ∀ ws : List Nat, ws.Nodup → (∀ k ∈ ws, k < n) → least ≤ ws.length → P (.tup (natsA ws)) M
end Ab
namespace Ab
theorem ln_worked {K : PySem.W.Frag} (as : List A) (M : AM) (P : AK) (X : AX) : sp_worked K as M P X → as.length = 3 := by rintro ⟨_, _, _, rfl, _⟩; rfl
end Ab
def sp_worked (K : PySem.W.Frag) : Sp := lift K (Ab.sp_worked K)
theorem len_worked {K : PySem.W.Frag} {vs : List V} {H : Hp} {Q : VK} {E : XK} (h : sp_worked K vs H Q E) : vs.length = 3 := lift_len Ab.ln_worked h
def t_worked (K : PySem.W.Frag) : TS := (tSeq (tAsg (tLst tNil) (gName 3))
  (tSeq (tFor (iRng1 (tCons (tVar 1) tNil)) (gName 4)
  (tDrop (tBM K "list" rInsert (tVar 3) (tCons (tCall (sp_take K) [] E0 (tCons (tVar 0) (tCons (tOp rAddI (tVar 4) (tC (.int 1))) tNil))) (tCons (tVar 4) tNil)))))
  (tRet (tCB (rTupleOf K) (tCons (tSl (rSlL K) (tVar 3) tNoPart (tPart (tOp rSubI (tVar 1) (tCall (sp_take K) [] E0 (tCons (tVar 0) (tCons (tOp rAddI (tOp rSubI (tVar 1) (tVar 2)) (tC (.int 1))) tNil)))))) tNil)))))
abbrev N_worked : List Str := ["_law_draws", "_law_places", "_law_least", "_law_order", "_law_k"]
namespace Ab
def t_worked (K : PySem.W.Frag) : TS := (tSeq (tAsg (tLst tNil) (gName 3))
  (tSeq (tFor (iRng1 (tCons (tVar 1) tNil)) (gName 4)
  (tDrop (tBM K "list" rInsert (tVar 3) (tCons (tCall (sp_take K) [] E0 (tCons (tVar 0) (tCons (tOp rAddI (tVar 4) (tC (.int 1))) tNil))) (tCons (tVar 4) tNil)))))
  (tRet (tCB (rTupleOf K) (tCons (tSl (rSlL K) (tVar 3) tNoPart (tPart (tOp rSubI (tVar 1) (tCall (sp_take K) [] E0 (tCons (tVar 0) (tCons (tOp rAddI (tOp rSubI (tVar 1) (tVar 2)) (tC (.int 1))) tNil)))))) tNil)))))
end Ab
theorem rf_worked {K : PySem.W.Frag} {E : XK} {X : AX} : RSt K E X (t_worked K) (Ab.t_worked K) := by
  have br_take := @My.rsp_take K
  unfold My.t_worked Ab.t_worked
  walk_at "rf"
namespace Ab
theorem ab_worked {K : PySem.W.Frag} {as : List A} {M : AM} {P : AK} {X : AX} (h : sp_worked K as M P X) : t_worked K { nx := fun _ M' => Wk P .non M', rt := Wk P } (start N_worked as) M := by
  obtain ⟨d, n, least, rfl, hd, hl, hn, k⟩ := h
  unfold t_worked
  walk_at "ao"
  intro p hp
  walk_at "ao"
  refine ⟨by omega, by omega, for_rng (fun i s M' => ∃ (os : List Nat) (o : Option A), s = [some (.ref d), some (.int n), some (.int least), some (.ref p), o] ∧ Sub M M' ∧ M' p = some (.lst (natsA os)) ∧ os.Nodup ∧ (∀ k ∈ os, k < i) ∧ os.length = i)
    ⟨[], none, rfl, Sub.put hp (Sub.refl _), aupd_same, List.nodup_nil, by simp, rfl⟩ ?_ ?_⟩
  · rintro i s M' hi ⟨os, o, rfl, hs, hp', nd, hlt, rfl⟩
    walk_at "ao"
    refine g_take (hs.at hd) (by omega) fun v v0 v1 => ?_
    walk_at "ao"
    refine g_insert hp' (bigl (by unfold natsA; rw [List.length_map]; omega)) v0 (by omega) ?_
    obtain ⟨j, rfl⟩ : ∃ j : Nat, v = (j : Int) := ⟨v.toNat, by omega⟩
    have pm : (os.take j ++ [os.length] ++ os.drop j).Perm (os.length :: os) := by
      have e : os.take j ++ [os.length] ++ os.drop j = os.take j ++ os.length :: os.drop j := by simp
      have e2 : os.length :: os = os.length :: (os.take j ++ os.drop j) := by rw [List.take_append_drop]
      rw [e, e2]
      exact List.perm_middle
    refine ⟨os.take j ++ [os.length] ++ os.drop j, _, rfl, Sub.put hp hs, ?_, ?_, ?_, ?_⟩
    · rw [aupd_same]
      unfold natsA
      simp
    · refine pm.nodup_iff.mpr (List.nodup_cons.mpr ⟨fun h => ?_, nd⟩)
      have := hlt _ h
      omega
    · intro k hk
      rcases List.mem_cons.mp (pm.mem_iff.mp hk) with h | h
      · omega
      · have := hlt k h; omega
    · rw [pm.length_eq]; rfl
  · rintro s M' ⟨os, o, rfl, hs, hp', nd, hlt, hlen⟩
    walk_at "ao"
    refine g_take (hs.at hd) (by omega) fun v v0 v1 => ?_
    walk_at "ao"
    intro q hq
    walk_at "ao"
    refine wk (Sub.put (hs.none hq) hs) ?_
    obtain ⟨j, hj⟩ : ∃ j : Nat, (n : Int) - v = (j : Int) := ⟨((n : Int) - v).toNat, by omega⟩
    have hc : cutA (natsA os) none (some ((n : Int) - v)) = natsA (os.take j) := by
      rw [hj]
      unfold cutA
      rw [HT.sIx_none, HT.sIx_nat]
      unfold natsA
      rw [List.drop_zero, List.map_take, List.length_map]
      have : min j os.length - 0 = j := by omega
      rw [this]
    rw [hc]
    refine k _ (nd.sublist (List.take_sublist _ _)) (fun x hx => ?_) ?_
    · have := hlt x (List.take_subset _ _ hx); omega
    · rw [List.length_take]; omega
end Ab
theorem rd_worked {K : PySem.W.Frag} {vs : List V} {H : Hp} {Q : VK} {E : XK} (h : sp_worked K vs H Q E) : t_worked K { nx := fun _ H' => Q .non H', rt := Q } (L2.start N_worked vs) H := rd_of (fun _ => rf_worked) (fun _ _ _ _ => Ab.ab_worked) h
structure Row.ok (r : Row) : Prop where
  good : Good r.name
  pl : r.places ≤ 4
  nd : r.worked.Nodup
  lt : ∀ k ∈ r.worked, k < r.places
theorem nodup_lt_length : ∀ (n : Nat) (ws : List Nat), ws.Nodup → (∀ k ∈ ws, k < n) → ws.length ≤ n
  | 0, [], _, _ => Nat.le_refl _
  | 0, w :: ws, _, h => absurd (h w List.mem_cons_self) (Nat.not_lt_zero _)
  | n + 1, ws, nd, h => by
    have h1 := nodup_lt_length n (ws.erase n) (nd.erase n) (fun k hk => by
      have := (nd.mem_erase_iff).mp hk
      have := h k this.2
      omega)
    have h2 := List.length_erase (a := n) (l := ws)
    by_cases e : n ∈ ws
    · rw [if_pos e] at h2; omega
    · rw [if_neg e] at h2; omega
theorem Row.ok.wlen {r : Row} (h : r.ok) : r.worked.length ≤ 4 := Nat.le_trans (nodup_lt_length _ _ h.nd h.lt) h.pl
structure SgOk (nms : List Str) (rows : List Row) : Prop where
  ok : ∀ r ∈ rows, r.ok
  nd : (rows.map Row.name).Nodup
  leaf : ∃ r ∈ rows, r.done = true ∧ r.places = 0
  nest : ∃ r ∈ rows, r.done = true ∧ r.worked ≠ []
  least : 3 ≤ rows.length
  most : rows.length ≤ 6
  from_ : ∀ r ∈ rows, r.name ∈ nms.take 6
  three : ∀ r ∈ rows, r.places ≤ 3 ∧ (r.done = true → r.places ≤ 2)
  work : ∃ r ∈ rows, r.done = false
  zero : ∀ s, nms[0]? = some s → ∃ r ∈ rows, r.done = true ∧ r.places = 0 ∧ r.name = s
structure SgB (nms : List Str) (j : Nat) (rows : List Row) : Prop where
  ok : ∀ r ∈ rows, r.ok
  sub : (rows.map Row.name).Sublist (nms.take j)
  leaf : ∃ r ∈ rows, r.done = true ∧ r.places = 0
  nest : ∃ r ∈ rows, r.done = true ∧ r.worked ≠ []
  three : ∀ r ∈ rows, r.places ≤ 3 ∧ (r.done = true → r.places ≤ 2)
  zero : ∀ s, nms[0]? = some s → ∃ r ∈ rows, r.done = true ∧ r.places = 0 ∧ r.name = s
theorem SgB.add {nms : List Str} {j : Nat} {rows : List Row} {r : Row} (h : SgB nms j rows) (ok : r.ok) (h3 : r.places ≤ 3 ∧ (r.done = true → r.places ≤ 2)) (e : nms[j]? = some r.name) : SgB nms (j + 1) (rows ++ [r]) := by
  refine ⟨fun q hq => ?_, ?_, ?_, ?_, fun q hq => ?_, fun s hs => ?_⟩
  · rcases List.mem_append.mp hq with z | z
    · exact h.ok q z
    · rw [List.mem_singleton.mp z]; exact ok
  · rw [List.map_append, List.take_add_one, e]
    exact h.sub.append (List.Sublist.refl _)
  · obtain ⟨q, h1, h2⟩ := h.leaf
    exact ⟨q, List.mem_append_left _ h1, h2⟩
  · obtain ⟨q, h1, h2⟩ := h.nest
    exact ⟨q, List.mem_append_left _ h1, h2⟩
  · rcases List.mem_append.mp hq with z | z
    · exact h.three q z
    · rw [List.mem_singleton.mp z]; exact h3
  · obtain ⟨q, h1, h2⟩ := h.zero s hs
    exact ⟨q, List.mem_append_left _ h1, h2⟩
theorem SgB.more {nms : List Str} {j : Nat} {rows : List Row} (h : SgB nms j rows) : SgB nms (j + 1) rows :=
  ⟨h.ok, h.sub.trans (by rw [List.take_add_one]; exact List.sublist_append_left _ _), h.leaf, h.nest, h.three, h.zero⟩
theorem SgB.most {nms : List Str} {j : Nat} {rows : List Row} (h : SgB nms j rows) : rows.length ≤ j := by
  have := h.sub.length_le
  rw [List.length_map, List.length_take] at this
  omega
theorem SgB.done {nms : List Str} {j : Nat} {rows rows' : List Row} (h : SgB nms j rows) (nd : nms.Nodup) (hj : j ≤ 6) (hl : 3 ≤ rows.length) (hw : ∃ r ∈ rows, r.done = false) (p : rows'.Perm rows) : SgOk nms rows' := by
  refine ⟨fun r hr => h.ok r (p.mem_iff.mp hr), ?_, ?_, ?_, by rw [p.length_eq]; exact hl, by rw [p.length_eq]; have := h.most; omega, fun r hr => ?_, fun r hr => h.three r (p.mem_iff.mp hr), by obtain ⟨q, h1, h2⟩ := hw; exact ⟨q, p.mem_iff.mpr h1, h2⟩, fun s hs => by obtain ⟨q, h1, h2⟩ := h.zero s hs; exact ⟨q, p.mem_iff.mpr h1, h2⟩⟩
  · exact (p.map Row.name).nodup_iff.mpr ((nd.sublist (List.take_sublist j nms)).sublist h.sub)
  · obtain ⟨q, h1, h2⟩ := h.leaf
    exact ⟨q, p.mem_iff.mpr h1, h2⟩
  · obtain ⟨q, h1, h2⟩ := h.nest
    exact ⟨q, p.mem_iff.mpr h1, h2⟩
  · have := h.sub.subset (List.mem_map_of_mem (p.mem_iff.mp hr))
    exact (List.take_subset_take_left nms hj) this
namespace Ab
theorem g_worked {K : PySem.W.Frag} {M : AM} {P : AK} {X : AX} {d : Addr} {i j : Int} (n least : Nat) (hi : i = n) (hj : j = least) (hd : M d = some .draws) (hl : least ≤ n) (hn : n ≤ 4) (k : ∀ ws : List Nat, ws.Nodup → (∀ k ∈ ws, k < n) → least ≤ ws.length → P (.tup (natsA ws)) M) :
    sp_worked K ([.ref d, .int i, .int j] ++ []) M P X := ⟨d, n, least, by rw [hi, hj]; rfl, hd, hl, hn, k⟩
end Ab

namespace Ab
def sp_signs (K : PySem.W.Frag) : ASp := fun as M P _ => ∃ (d r : Addr) (nms : List Str), as = [.ref d, .ref r] ∧ M d = some .draws ∧ M r = some (.lst (nms.map .str)) ∧ NmOk nms ∧ ∀ (rows : List Row) (q : Addr), M q = none → SgOk nms rows → P (.ref q) (aupd M q (.lst (rowsA rows)))
end Ab
namespace Ab
theorem ln_signs {K : PySem.W.Frag} (as : List A) (M : AM) (P : AK) (X : AX) : sp_signs K as M P X → as.length = 2 := by rintro ⟨_, _, _, rfl, _⟩; rfl
end Ab
def sp_signs (K : PySem.W.Frag) : Sp := lift K (Ab.sp_signs K)
theorem len_signs {K : PySem.W.Frag} {vs : List V} {H : Hp} {Q : VK} {E : XK} (h : sp_signs K vs H Q E) : vs.length = 2 := lift_len Ab.ln_signs h
def t_signs (K : PySem.W.Frag) : TS := (tSeq (tAsg (tOp rAddI (tC (.int 1)) (tCall (sp_take K) [] E0 (tCons (tVar 0) (tCons (tC (.int 2)) tNil)))) (gName 2))
  (tSeq (tAsg (tLst (tCons (tTup (tCons (tOp (rIxL K) (tVar 1) (tC (.int 0))) (tCons (tC (.int 0)) (tCons (tTup tNil) (tCons (tC (.bl true)) tNil))))) (tCons (tTup (tCons (tOp (rIxL K) (tVar 1) (tC (.int 1))) (tCons (tVar 2) (tCons (tCall (sp_worked K) [] E0 (tCons (tVar 0) (tCons (tVar 2) (tCons (tC (.int 1)) tNil)))) (tCons (tC (.bl true)) tNil))))) tNil))) (gName 3))
  (tCut (tIfS (tTest (tOp rGtI (tCall (sp_take K) [] E0 (tCons (tVar 0) (tCons (tC (.int 3)) tNil))) (tC (.int 0)))) (tSeq (tAsg (tCall (sp_take K) [] E0 (tCons (tVar 0) (tCons (tC (.int 3)) tNil))) (gName 2))
  (tDrop (tBM K "list" rAppend (tVar 3) (tCons (tTup (tCons (tOp (rIxL K) (tVar 1) (tC (.int 2))) (tCons (tVar 2) (tCons (tCall (sp_worked K) [] E0 (tCons (tVar 0) (tCons (tVar 2) (tCons (tC (.int 0)) tNil)))) (tCons (tC (.bl true)) tNil))))) tNil))))
  tNext)
  (tSeq (tFor (iRng1 (tCons (tOp rAddI (tC (.int 1)) (tCall (sp_take K) [] E0 (tCons (tVar 0) (tCons (tC (.int 3)) tNil)))) tNil)) (gName 4)
  (tSeq (tAsg (tOp rModI (tCB rInt1 (tCons (tOp rAddI (tC (.int 1)) (tCall (sp_take K) [] E0 (tCons (tVar 0) (tCons (tC (.int 4)) tNil)))) tNil)) (tC (.int 4))) (gName 2))
  (tDrop (tBM K "list" rAppend (tVar 3) (tCons (tTup (tCons (tOp (rIxL K) (tVar 1) (tOp rAddI (tC (.int 3)) (tVar 4))) (tCons (tVar 2) (tCons (tCall (sp_worked K) [] E0 (tCons (tVar 0) (tCons (tVar 2) (tCons (tC (.int 0)) tNil)))) (tCons (tC (.bl false)) tNil))))) tNil)))))
  (tSeq (tAsg (tCall (sp_take K) [] E0 (tCons (tVar 0) (tCons (tCB (rLenSeq K) (tCons (tVar 3) tNil)) tNil))) (gName 5))
  (tRet (tOp rCat (tSl (rSlL K) (tVar 3) (tPart (tVar 5)) tNoPart) (tSl (rSlL K) (tVar 3) tNoPart (tPart (tVar 5))))))))))
abbrev N_signs : List Str := ["_law_draws", "_law_names_here", "_law_places", "_law_signs_here", "_law_k", "_law_first"]
namespace Ab
def t_signs (K : PySem.W.Frag) : TS := (tSeq (tAsg (tOp rAddI (tC (.int 1)) (tCall (sp_take K) [] E0 (tCons (tVar 0) (tCons (tC (.int 2)) tNil)))) (gName 2))
  (tSeq (tAsg (tLst (tCons (tTup (tCons (tOp (rIxL K) (tVar 1) (tC (.int 0))) (tCons (tC (.int 0)) (tCons (tTup tNil) (tCons (tC (.bl true)) tNil))))) (tCons (tTup (tCons (tOp (rIxL K) (tVar 1) (tC (.int 1))) (tCons (tVar 2) (tCons (tCall (sp_worked K) [] E0 (tCons (tVar 0) (tCons (tVar 2) (tCons (tC (.int 1)) tNil)))) (tCons (tC (.bl true)) tNil))))) tNil))) (gName 3))
  (tCut (tIfS (tTest (tOp rGtI (tCall (sp_take K) [] E0 (tCons (tVar 0) (tCons (tC (.int 3)) tNil))) (tC (.int 0)))) (tSeq (tAsg (tCall (sp_take K) [] E0 (tCons (tVar 0) (tCons (tC (.int 3)) tNil))) (gName 2))
  (tDrop (tBM K "list" rAppend (tVar 3) (tCons (tTup (tCons (tOp (rIxL K) (tVar 1) (tC (.int 2))) (tCons (tVar 2) (tCons (tCall (sp_worked K) [] E0 (tCons (tVar 0) (tCons (tVar 2) (tCons (tC (.int 0)) tNil)))) (tCons (tC (.bl true)) tNil))))) tNil))))
  tNext)
  (tSeq (tFor (iRng1 (tCons (tOp rAddI (tC (.int 1)) (tCall (sp_take K) [] E0 (tCons (tVar 0) (tCons (tC (.int 3)) tNil)))) tNil)) (gName 4)
  (tSeq (tAsg (tOp rModI (tCB rInt1 (tCons (tOp rAddI (tC (.int 1)) (tCall (sp_take K) [] E0 (tCons (tVar 0) (tCons (tC (.int 4)) tNil)))) tNil)) (tC (.int 4))) (gName 2))
  (tDrop (tBM K "list" rAppend (tVar 3) (tCons (tTup (tCons (tOp (rIxL K) (tVar 1) (tOp rAddI (tC (.int 3)) (tVar 4))) (tCons (tVar 2) (tCons (tCall (sp_worked K) [] E0 (tCons (tVar 0) (tCons (tVar 2) (tCons (tC (.int 0)) tNil)))) (tCons (tC (.bl false)) tNil))))) tNil)))))
  (tSeq (tAsg (tCall (sp_take K) [] E0 (tCons (tVar 0) (tCons (tCB (rLenSeq K) (tCons (tVar 3) tNil)) tNil))) (gName 5))
  (tRet (tOp rCat (tSl (rSlL K) (tVar 3) (tPart (tVar 5)) tNoPart) (tSl (rSlL K) (tVar 3) tNoPart (tPart (tVar 5))))))))))
end Ab
theorem rf_signs {K : PySem.W.Frag} {E : XK} {X : AX} : RSt K E X (t_signs K) (Ab.t_signs K) := by
  have br_take := @My.rsp_take K
  unfold My.t_signs Ab.t_signs
  walk_at "rf"
namespace Ab
theorem ab_signs {K : PySem.W.Frag} {as : List A} {M : AM} {P : AK} {X : AX} (h : sp_signs K as M P X) : t_signs K { nx := fun _ M' => Wk P .non M', rt := Wk P } (start N_signs as) M := by
  obtain ⟨d, r, nms, rfl, hd, hr, ok, k⟩ := h
  unfold t_signs
  walk_at "ao"
  refine g_take hd (by decide) fun v v0 v1 => ?_
  walk_at "ao"
  refine g_nm hr ok (by decide) (by decide) fun n0 e0 => ?_
  walk_at "ao"
  refine g_nm hr ok (by decide) (by decide) fun n1 e1 => ?_
  walk_at "ao"
  refine g_worked (1 + v).toNat 1 (by omega) rfl hd (by omega) (by omega) fun w1 nd1 lt1 ge1 => ?_
  walk_at "ao"
  intro p hp
  walk_at "ao"
  have good : ∀ {i : Nat} {s : Str}, nms[i]? = some s → Good s := fun e => ok.good _ (List.mem_of_getElem? e)
  have hd1 : aupd M p (.lst [.tup [.str n0, .int 0, .tup [], .bl true], .tup [.str n1, .int (1 + v), .tup (natsA w1), .bl true]]) d = some .draws := lk_new hp hd
  have hr1 : aupd M p (.lst [.tup [.str n0, .int 0, .tup [], .bl true], .tup [.str n1, .int (1 + v), .tup (natsA w1), .bl true]]) r = some (.lst (nms.map .str)) := lk_new hp hr
  have eqb : [.tup [.str n0, .int 0, .tup [], .bl true], .tup [.str n1, .int (1 + v), .tup (natsA w1), .bl true]] = rowsA [⟨n0, 0, [], true⟩, ⟨n1, (1 + v).toNat, w1, true⟩] := by
    have : (1 + v) = (((1 + v).toNat : Nat) : Int) := by omega
    show _ = [_, _]
    unfold Row.a
    rw [← this]
    rfl
  have b2 : SgB nms 2 [⟨n0, 0, [], true⟩, ⟨n1, (1 + v).toNat, w1, true⟩] := by
    refine ⟨fun r hr => ?_, ?_, ⟨_, List.mem_cons_self, rfl, rfl⟩, ⟨_, List.mem_cons_of_mem _ List.mem_cons_self, rfl, fun z => ?_⟩, fun r hr => ?_, fun s hs => ⟨_, List.mem_cons_self, rfl, rfl, by rw [show nms[0]? = some n0 from e0] at hs; exact Option.some.inj hs⟩⟩
    · rcases List.mem_cons.mp hr with rfl | hr
      · exact ⟨good e0, by dsimp only; omega, List.nodup_nil, by simp⟩
      · rw [List.mem_singleton.mp hr]
        exact ⟨good e1, by dsimp only; omega, nd1, lt1⟩
    · have : nms.take 2 = [n0, n1] := by
        rw [List.take_add_one, List.take_add_one, List.take_zero]
        rw [show nms[0]? = some n0 from e0, show nms[0 + 1]? = some n1 from e1]
        rfl
      rw [this]
      exact List.Sublist.refl _
    · have z : w1 = [] := z
      rw [z] at ge1
      simp at ge1
    · rcases List.mem_cons.mp hr with rfl | hr
      · exact ⟨by dsimp only; omega, fun _ => by dsimp only; omega⟩
      · rw [List.mem_singleton.mp hr]; exact ⟨by dsimp only; omega, fun _ => by dsimp only; omega⟩
  refine ⟨fun s M' => ∃ (o : Option A) (rows : List Row), s = [some (.ref d), some (.ref r), o, some (.ref p), none, none] ∧ Sub M M' ∧ M' p = some (.lst (rowsA rows)) ∧ SgB nms 3 rows ∧ 2 ≤ rows.length, ?_, ?_⟩
  · walk_at "ao"
    refine g_take hd1 (by decide) fun x x0 x1 => ?_
    walk_at "ao"
    refine g_2 (fun c => ?_) (fun c => ?_)
    · walk_at "ao"
      refine g_take hd1 (by decide) fun y y0 y1 => ?_
      walk_at "ao"
      refine g_nm hr1 ok (by decide) (by decide) fun n2 e2 => ?_
      walk_at "ao"
      refine g_worked y.toNat 0 (by omega) rfl hd1 (by omega) (by omega) fun w2 nd2 lt2 ge2 => ?_
      walk_at "ao"
      refine g_append aupd_same (bigl (by simp)) ?_
      refine ⟨_, _, rfl, ?_, ?_, b2.add (r := ⟨n2, y.toNat, w2, true⟩) ⟨good e2, by dsimp only; omega, nd2, lt2⟩ ⟨by dsimp only; omega, fun _ => by dsimp only; omega⟩ e2, by simp⟩
      · rw [aupd_twice]; exact Sub.put hp (Sub.refl _)
      · rw [aupd_same, eqb]
        have : y = ((y.toNat : Nat) : Int) := by omega
        simp only [rowsA, List.map_append, List.map_cons, List.map_nil, Row.a]
        rw [← this]
    · walk_at "ao"
      exact ⟨_, _, rfl, Sub.put hp (Sub.refl _), by rw [aupd_same, eqb], b2.more, by simp⟩
  · rintro s M' ⟨o, rows, rfl, hs, hp', b3, hl⟩
    walk_at "ao"
    refine g_take (hs.at hd) (by decide) fun x x0 x1 => ?_
    walk_at "ao"
    refine ⟨by omega, by omega, for_rng (fun i s M' => ∃ (o o4 : Option A) (rows : List Row), s = [some (.ref d), some (.ref r), o, some (.ref p), o4, none] ∧ Sub M M' ∧ M' p = some (.lst (rowsA rows)) ∧ SgB nms (3 + i) rows ∧ 2 + i ≤ rows.length ∧ (0 < i → ∃ r ∈ rows, r.done = false))
      ⟨_, _, rows, rfl, hs, hp', b3, by omega, fun z => absurd z (by omega)⟩ ?_ ?_⟩
    · rintro i s M' hi ⟨o, o4, rows, rfl, hs, hp', b, hl, hwk⟩
      have hb := b.most
      walk_at "ao"
      refine g_take (hs.at hd) (by decide) fun y y0 y1 => ?_
      walk_at "ao"
      refine g_nm (hs.at hr) ok (by omega) (by omega) fun n3 e3 => ?_
      walk_at "ao"
      refine g_worked ((1 + y) % 4).toNat 0 (by omega) rfl (hs.at hd) (by omega) (by omega) fun w3 nd3 lt3 ge3 => ?_
      walk_at "ao"
      refine g_append hp' (bigl (by simp; omega)) ?_
      have e3' : nms[3 + i]? = some n3 := by
        rw [← e3]
        congr 1
        omega
      refine ⟨_, _, _, rfl, Sub.put hp hs, ?_, b.add (r := ⟨n3, ((1 + y) % 4).toNat, w3, false⟩) ⟨good e3', by dsimp only; omega, nd3, lt3⟩ ⟨by dsimp only; omega, fun z => nomatch z⟩ e3', by simp; omega, fun _ => ⟨_, List.mem_append_right _ List.mem_cons_self, rfl⟩⟩
      rw [aupd_same]
      have : (1 + y) % 4 = ((((1 + y) % 4).toNat : Nat) : Int) := by omega
      simp only [rowsA, List.map_append, List.map_cons, List.map_nil, Row.a]
      rw [← this]
    · rintro s M' ⟨o, o4, rows, rfl, hs, hp', b, hl, hwk⟩
      have hb := b.most
      walk_at "ao"
      refine g_take (hs.at hd) (by simp; omega) fun y y0 y1 => ?_
      walk_at "ao"
      intro q1 hq1
      walk_at "ao"
      intro q2 hq2
      obtain ⟨n21, hq2'⟩ := lk_none hq2
      walk_at "ao"
      refine g_cat (lk_ne (fun z => n21 z.symm) aupd_same) aupd_same (big (by unfold cutA; simp; omega)) ?_
      intro q hq
      have hqn := (lk_none (lk_none hq).2).2
      refine wk (Sub.both (Sub.put (hs.none hq2') (Sub.put (hs.none hq1) hs))) ?_
      obtain ⟨m, rfl⟩ : ∃ m : Nat, y = (m : Int) := ⟨y.toNat, by omega⟩
      unfold rowsA
      rw [cut_lo, cut_hi, ← List.map_append]
      refine k _ q (hs.none hqn) (b.done ok.nd (by omega) (by omega) (hwk (by omega)) ?_)
      have e : rows = rows.take m ++ rows.drop m := (List.take_append_drop m rows).symm
      have p2 : (rows.drop m ++ rows.take m).Perm (rows.take m ++ rows.drop m) := List.perm_append_comm
      rw [← e] at p2
      exact p2
end Ab
theorem rd_signs {K : PySem.W.Frag} {vs : List V} {H : Hp} {Q : VK} {E : XK} (h : sp_signs K vs H Q E) : t_signs K { nx := fun _ H' => Q .non H', rt := Q } (L2.start N_signs vs) H := rd_of (fun _ => rf_signs) (fun _ _ _ _ => Ab.ab_signs) h

abbrev Look := List (Nat × Row)
abbrev pairA (x : Nat × Row) : A := .tup [.int (x.1 : Int), x.2.a]
def LL (M0 M : AM) (p : Addr) (looks : List Look) : Prop := M0 p = none ∧ ∃ qs : List Addr, (∀ q ∈ qs, M0 q = none) ∧ M p = some (.lst (qs.map .ref)) ∧ qs.length = looks.length ∧ p ∉ qs ∧ ∀ (i : Nat) (q : Addr) (l : Look), qs[i]? = some q → looks[i]? = some l → M q = some (.lst (l.map pairA))
theorem LL.sub {M0 M M' : AM} {p : Addr} {looks : List Look} (h : LL M0 M p looks) (s : Sub M M') : LL M0 M' p looks := by
  obtain ⟨n0, qs, f0, h1, h2, h3, h4⟩ := h
  exact ⟨n0, qs, f0, s.at h1, h2, h3, fun i q l e1 e2 => s.at (h4 i q l e1 e2)⟩
theorem LL.nil {M0 M : AM} {p : Addr} (n0 : M0 p = none) : LL M0 (aupd M p (.lst [])) p [] := ⟨n0, [], by simp, aupd_same, rfl, by simp, fun i q l h => by simp at h⟩
theorem LL.add {M0 M : AM} {p q : Addr} {looks : List Look} {xs : List A} {l : Look} (h : LL M0 M p looks) (e : M p = some (.lst xs)) (hq : M q = none) (hq0 : M0 q = none) : LL M0 (aupd (aupd M q (.lst (l.map pairA))) p (.lst (xs ++ [.ref q]))) p (looks ++ [l]) := by
  obtain ⟨n0, qs, f0, h1, h2, h3, h4⟩ := h
  rw [h1] at e
  cases e
  have hpq : p ≠ q := ne_of_anone h1 hq
  refine ⟨n0, qs ++ [q], fun z hz => by rcases List.mem_append.mp hz with h | h; exact f0 z h; rw [List.mem_singleton.mp h]; exact hq0, by rw [aupd_same]; simp, by simp [h2], by simp [h3, hpq], fun i q' l' h5 h6 => ?_⟩
  by_cases z : i < qs.length
  · rw [List.getElem?_append_left z] at h5
    rw [List.getElem?_append_left (by omega)] at h6
    have hm := h4 i q' l' h5 h6
    rw [aupd_ne (fun z => h3 (by rw [← z]; exact List.mem_of_getElem? h5)), aupd_ne (ne_of_anone hm hq)]
    exact hm
  · have e2 : i = qs.length := by
      have := (List.getElem?_eq_some_iff.mp h5).1
      simp at this
      omega
    subst e2
    simp at h5
    subst h5
    rw [h2] at h6
    simp at h6
    subst h6
    rw [aupd_ne (Ne.symm hpq), aupd_same]
theorem LL.cat {M0 M : AM} {p r : Addr} {looks news : List Look} {xs : List A} {ns : List Addr} (h : LL M0 M p looks) (r0 : M0 r = none) (hf : ∀ q ∈ ns, M0 q = none) (e : M p = some (.lst xs)) (hn : ns.length = news.length) (hl : ∀ (i : Nat) (q : Addr) (l : Look), ns[i]? = some q → news[i]? = some l → M q = some (.lst (l.map pairA))) (hr : M r = none) :
    LL M0 (aupd M r (.lst (xs ++ ns.map .ref))) r (looks ++ news) := by
  obtain ⟨_, qs, f0, h1, h2, h3, h4⟩ := h
  rw [h1] at e
  cases e
  have h5 : ∀ (i : Nat) (q : Addr) (l : Look), (qs ++ ns)[i]? = some q → (looks ++ news)[i]? = some l → M q = some (.lst (l.map pairA)) := by
    intro i q l e1 e2
    by_cases z : i < qs.length
    · rw [List.getElem?_append_left z] at e1
      rw [List.getElem?_append_left (by omega)] at e2
      exact h4 i q l e1 e2
    · rw [List.getElem?_append_right (by omega)] at e1
      rw [List.getElem?_append_right (by omega), ← h2] at e2
      exact hl _ q l e1 e2
  refine ⟨r0, qs ++ ns, fun z hz => (List.mem_append.mp hz).elim (f0 z) (hf z), by rw [aupd_same, List.map_append], by simp [h2, hn], fun z => ?_, fun i q l e1 e2 => ?_⟩
  · obtain ⟨i, e1⟩ := List.getElem?_of_mem z
    have hi := (List.getElem?_eq_some_iff.mp e1).1
    rw [List.length_append] at hi
    obtain ⟨l, e2⟩ : ∃ l, (looks ++ news)[i]? = some l := ⟨_, List.getElem?_eq_getElem (by rw [List.length_append]; omega)⟩
    have := h5 i r l e1 e2
    rw [hr] at this
    cases this
  · have := h5 i q l e1 e2
    rw [aupd_ne (ne_of_anone this hr)]
    exact this
structure LookOk (row : Row) (dones : List Row) (l : Look) : Prop where
  nd : (l.map (·.1)).Nodup
  at_ : ∀ x ∈ l, x.1 ∈ row.worked ∧ x.2 ∈ dones
  len : l.length ≤ 2
def Apart (l m : Look) : Prop := ∃ k r s, (k, r) ∈ l ∧ (k, s) ∈ m ∧ r.name ≠ s.name
structure LooksOk (row : Row) (dones : List Row) (looks : List Look) : Prop where
  ok : ∀ l ∈ looks, LookOk row dones l
  ap : looks.Pairwise Apart
  most : looks.length ≤ 1 + dones.length * dones.length
structure LkI (row : Row) (dones : List Row) (first : Nat) (i : Nat) (looks : List Look) : Prop where
  ok : ∀ l ∈ looks, LookOk row dones l ∧ ∃ j r, j < i ∧ dones[j]? = some r ∧ (first, r) ∈ l
  ap : looks.Pairwise Apart
  most : looks.length ≤ i * dones.length
theorem nodup_ne {dones : List Row} (nd : (dones.map Row.name).Nodup) {i j : Nat} {r s : Row} (h : i < j) (hr : dones[i]? = some r) (hs : dones[j]? = some s) : r.name ≠ s.name := by
  intro e
  have hi : (dones.map Row.name)[i]? = some r.name := by rw [List.getElem?_map, hr]; rfl
  have hj : (dones.map Row.name)[j]? = some s.name := by rw [List.getElem?_map, hs]; rfl
  rw [← e] at hj
  have li := (List.getElem?_eq_some_iff.mp hi).1
  have := (List.getElem?_inj li nd).mp (hi.trans hj.symm)
  omega
theorem LkI.add {row : Row} {dones : List Row} {first i : Nat} {looks news : List Look} {inner : Row} (h : LkI row dones first i looks) (nd : (dones.map Row.name).Nodup) (e : dones[i]? = some inner)
    (hn : ∀ l ∈ news, LookOk row dones l ∧ (first, inner) ∈ l) (ap : news.Pairwise Apart) (hl : news.length ≤ dones.length) : LkI row dones first (i + 1) (looks ++ news) := by
  refine ⟨fun l hl => ?_, ?_, ?_⟩
  · rcases List.mem_append.mp hl with z | z
    · obtain ⟨h1, j, r, h2, h3⟩ := h.ok l z
      exact ⟨h1, j, r, by omega, h3⟩
    · exact ⟨(hn l z).1, i, inner, by omega, e, (hn l z).2⟩
  · refine List.pairwise_append.mpr ⟨h.ap, ap, fun l hl m hm => ?_⟩
    obtain ⟨_, j, r, h2, h3, h4⟩ := h.ok l hl
    exact ⟨first, r, inner, h4, (hn m hm).2, nodup_ne nd h2 h3 e⟩
  · rw [List.length_append, Nat.add_mul]
    have := h.most
    omega
theorem LkI.same {row : Row} {dones : List Row} {first i : Nat} {looks : List Look} (h : LkI row dones first i looks) : LkI row dones first (i + 1) looks :=
  ⟨fun l hl => by obtain ⟨h1, j, r, h2, h3⟩ := h.ok l hl; exact ⟨h1, j, r, by omega, h3⟩, h.ap, by rw [Nat.add_mul]; have := h.most; omega⟩
theorem two_looks {row : Row} {dones some_ : List Row} {first rest : Nat} {inner : Row} (hs : some_.Sublist dones) (nd : (dones.map Row.name).Nodup) (h1 : first ∈ row.worked) (h2 : rest ∈ row.worked) (ne : rest ≠ first) (hi : inner ∈ dones) :
    (∀ l ∈ some_.map (fun o => [(first, inner), (rest, o)]), LookOk row dones l ∧ (first, inner) ∈ l) ∧ (some_.map fun o => ([(first, inner), (rest, o)] : Look)).Pairwise Apart := by
  constructor
  · intro l hl
    obtain ⟨o, ho, rfl⟩ := List.mem_map.mp hl
    refine ⟨⟨by simp [Ne.symm ne], fun x hx => ?_, by simp⟩, List.mem_cons_self⟩
    rcases List.mem_cons.mp hx with rfl | hx
    · exact ⟨h1, hi⟩
    · rw [List.mem_singleton.mp hx]; exact ⟨h2, hs.subset ho⟩
  · rw [List.pairwise_map]
    have n2 : (some_.map Row.name).Nodup := nd.sublist (hs.map _)
    unfold List.Nodup at n2
    rw [List.pairwise_map] at n2
    refine n2.imp fun {a b} h => ⟨rest, a, b, ?_, ?_, h⟩ <;> simp
namespace Ab
def sp_looks (K : PySem.W.Frag) : ASp := fun as M P _ => ∃ (d dn : Addr) (row : Row) (dones : List Row) (ways : Int), as = [.ref d, row.a, .ref dn, .int ways] ∧ M d = some .draws ∧ M dn = some (.lst (rowsA dones)) ∧ 0 < ways ∧ row.ok ∧ (dones.map Row.name).Nodup ∧ dones.length ≤ 10 ∧
  ∀ (looks : List Look) (p : Addr) (M' : AM), Sub M M' → LL M M' p looks → LooksOk row dones looks → (ways ≤ 3 → looks.length ≤ 1 + dones.length) → P (.ref p) M'
end Ab
namespace Ab
theorem ln_looks {K : PySem.W.Frag} (as : List A) (M : AM) (P : AK) (X : AX) : sp_looks K as M P X → as.length = 4 := by rintro ⟨_, _, _, _, _, rfl, _⟩; rfl
end Ab
def sp_looks (K : PySem.W.Frag) : Sp := lift K (Ab.sp_looks K)
theorem len_looks {K : PySem.W.Frag} {vs : List V} {H : Hp} {Q : VK} {E : XK} (h : sp_looks K vs H Q E) : vs.length = 4 := lift_len Ab.ln_looks h
def t_looks (K : PySem.W.Frag) : TS := (tSeq (tAsg (tCall (sp_take K) [] E0 (tCons (tVar 0) (tCons (tVar 3) tNil))) (gName 4))
  (tSeq (tIfS (tOr (tTest (tOp rEq (tCB (rLenSeq K) (tCons (tOp (rIxT K) (tVar 1) (tC (.int 2))) tNil)) (tC (.int 0)))) (tTest (tOp rEq (tVar 4) (tC (.int 2))))) (tRet (tSl (rSlL K) (tLst (tCons (tLst tNil) tNil)) (tPart (tCB rInt1 (tCons (tOp rEq (tCall (sp_take K) [] E0 (tCons (tVar 0) (tCons (tC (.int 6)) tNil))) (tC (.int 5))) tNil))) tNoPart))
  tNext)
  (tSeq (tAsg (tOp (rIxT K) (tOp (rIxT K) (tVar 1) (tC (.int 2))) (tCall (sp_take K) [] E0 (tCons (tVar 0) (tCons (tCB (rLenSeq K) (tCons (tOp (rIxT K) (tVar 1) (tC (.int 2))) tNil)) tNil)))) (gName 5))
  (tSeq (tAsg (tLc (iTup K (tOp (rIxT K) (tVar 1) (tC (.int 2)))) (gName 10) (tTest (tOp rNe (tVar 10) (tVar 5))) (tVar 10) [10]) (gName 6))
  (tSeq (tAsg (tLst tNil) (gName 7))
  (tSeq (tFor (iList K (tVar 2)) (gName 8)
  (tIfS (tAnd (tTest (tOp rLtI (tCall (sp_take K) [] E0 (tCons (tVar 0) (tCons (tC (.int 5)) tNil))) (tC (.int 4)))) (tOr (tTest (tOp rLtI (tVar 4) (tC (.int 3)))) (tTest (tOp rEq (tCB (rLenSeq K) (tCons (tVar 6) tNil)) (tC (.int 0)))))) (tDrop (tBM K "list" rAppend (tVar 7) (tCons (tLst (tCons (tTup (tCons (tVar 5) (tCons (tVar 8) tNil))) tNil)) tNil)))
  (tIfS (tAnd (tTest (tOp rEq (tVar 4) (tC (.int 3)))) (tTest (tOp rGtI (tCB (rLenSeq K) (tCons (tVar 6) tNil)) (tC (.int 0))))) (tSeq (tAsg (tLc (iList K (tVar 2)) (gName 11) (tTest (tOp rLtI (tCall (sp_take K) [] E0 (tCons (tVar 0) (tCons (tC (.int 4)) tNil))) (tC (.int 3)))) (tVar 11) [11]) (gName 9))
  (tAsg (tOp rCat (tVar 7) (tLc (iList K (tVar 9)) (gName 11) tYes (tLst (tCons (tTup (tCons (tVar 5) (tCons (tVar 8) tNil))) (tCons (tTup (tCons (tOp (rIxL K) (tVar 6) (tC (.int 0))) (tCons (tVar 11) tNil))) tNil))) [11])) (gName 7)))
  tNext)))
  (tRet (tVar 7))))))))
abbrev N_looks : List Str := ["_law_draws", "_law_row", "_law_done_here", "_law_ways", "_law_way", "_law_first", "_law_rest", "_law_looks_here", "_law_inner", "_law_some", "_law_place", "_law_other"]
namespace Ab
def t_looks (K : PySem.W.Frag) : TS := (tSeq (tAsg (tCall (sp_take K) [] E0 (tCons (tVar 0) (tCons (tVar 3) tNil))) (gName 4))
  (tSeq (tIfS (tOr (tTest (tOp rEq (tCB (rLenSeq K) (tCons (tOp (rIxT K) (tVar 1) (tC (.int 2))) tNil)) (tC (.int 0)))) (tTest (tOp rEq (tVar 4) (tC (.int 2))))) (tRet (tSl (rSlL K) (tLst (tCons (tLst tNil) tNil)) (tPart (tCB rInt1 (tCons (tOp rEq (tCall (sp_take K) [] E0 (tCons (tVar 0) (tCons (tC (.int 6)) tNil))) (tC (.int 5))) tNil))) tNoPart))
  tNext)
  (tSeq (tAsg (tOp (rIxT K) (tOp (rIxT K) (tVar 1) (tC (.int 2))) (tCall (sp_take K) [] E0 (tCons (tVar 0) (tCons (tCB (rLenSeq K) (tCons (tOp (rIxT K) (tVar 1) (tC (.int 2))) tNil)) tNil)))) (gName 5))
  (tSeq (tAsg (tLc (iTup K (tOp (rIxT K) (tVar 1) (tC (.int 2)))) (gName 10) (tTest (tOp rNe (tVar 10) (tVar 5))) (tVar 10) [10]) (gName 6))
  (tSeq (tAsg (tLst tNil) (gName 7))
  (tSeq (tFor (iList K (tVar 2)) (gName 8)
  (tIfS (tAnd (tTest (tOp rLtI (tCall (sp_take K) [] E0 (tCons (tVar 0) (tCons (tC (.int 5)) tNil))) (tC (.int 4)))) (tOr (tTest (tOp rLtI (tVar 4) (tC (.int 3)))) (tTest (tOp rEq (tCB (rLenSeq K) (tCons (tVar 6) tNil)) (tC (.int 0)))))) (tDrop (tBM K "list" rAppend (tVar 7) (tCons (tLst (tCons (tTup (tCons (tVar 5) (tCons (tVar 8) tNil))) tNil)) tNil)))
  (tIfS (tAnd (tTest (tOp rEq (tVar 4) (tC (.int 3)))) (tTest (tOp rGtI (tCB (rLenSeq K) (tCons (tVar 6) tNil)) (tC (.int 0))))) (tSeq (tAsg (tLc (iList K (tVar 2)) (gName 11) (tTest (tOp rLtI (tCall (sp_take K) [] E0 (tCons (tVar 0) (tCons (tC (.int 4)) tNil))) (tC (.int 3)))) (tVar 11) [11]) (gName 9))
  (tAsg (tOp rCat (tVar 7) (tLc (iList K (tVar 9)) (gName 11) tYes (tLst (tCons (tTup (tCons (tVar 5) (tCons (tVar 8) tNil))) (tCons (tTup (tCons (tOp (rIxL K) (tVar 6) (tC (.int 0))) (tCons (tVar 11) tNil))) tNil))) [11])) (gName 7)))
  tNext)))
  (tRet (tVar 7))))))))
end Ab
theorem rf_looks {K : PySem.W.Frag} {E : XK} {X : AX} : RSt K E X (t_looks K) (Ab.t_looks K) := by
  have br_take := @My.rsp_take K
  unfold My.t_looks Ab.t_looks
  walk_at "rf"
namespace Ab
theorem ab_looks {K : PySem.W.Frag} {as : List A} {M : AM} {P : AK} {X : AX} (h : sp_looks K as M P X) : t_looks K { nx := fun _ M' => Wk P .non M', rt := Wk P } (start N_looks as) M := by
  obtain ⟨d, dn, row, dones, ways, rfl, hd, hdn, hw, ok, nd, hl, k⟩ := h
  unfold t_looks
  walk_at "ao"
  refine g_take hd hw fun way w0 w1 => ?_
  walk_at "ao"
  refine g_2 (fun c => ?r1) (fun c => ?_)
  rotate_left
  walk_at "ao"
  refine g_2 (fun c2 => ?r2) (fun c2 => ?_)
  rotate_left
  case r1 | r2 =>
    walk_at "ao"
    intro q hq
    walk_at "ao"
    intro p hp
    walk_at "ao"
    obtain ⟨hpq, hp0⟩ := lk_none hp
    refine g_take (lk_ne (fun z => by rw [z, hp0] at hd; cases hd) (lk_new hq hd)) (by decide) fun v v0 v1 => ?_
    walk_at "ao"
    intro r hr
    obtain ⟨hr1, hr⟩ := lk_none hr
    obtain ⟨hr2, hr⟩ := lk_none hr
    have hr2' := hr2
    by_cases e : v = 5
    · refine wk (Sub.refl _) (k [] r _ (Sub.put hr (Sub.put hp0 (Sub.put hq (Sub.refl _)))) ⟨hr, [], by simp, ?_, rfl, by simp, by simp⟩ ⟨by simp, List.Pairwise.nil, by simp⟩ (fun _ => by simp))
      rw [aupd_same, e]
      rfl
    · refine wk (Sub.refl _) (k [[]] r _ (Sub.put hr (Sub.put hp0 (Sub.put hq (Sub.refl _)))) ⟨hr, [q], fun z hz => by rw [List.mem_singleton.mp hz]; exact hq, ?_, rfl, by simpa using hr2', ?_⟩ ⟨?_, List.pairwise_singleton _ _, by simp⟩ (fun _ => by simp))
      · rw [aupd_same, decide_eq_false e]
        rfl
      · intro i q' l h1 h2
        cases i with
        | succ i => simp at h1
        | zero =>
          cases h1
          cases h2
          exact lk_ne (Ne.symm hr2) (lk_ne (Ne.symm hpq) aupd_same)
      · intro l hl
        rw [List.mem_singleton.mp hl]
        exact ⟨List.nodup_nil, by simp, by simp⟩
  have hlen : 0 < row.worked.length := by
    have c := of_decide_eq_false c
    unfold natsA at c
    rw [List.length_map] at c
    omega
  walk_at "ao"
  refine g_take hd (by unfold natsA; rw [List.length_map]; omega) fun f f0 f1 => ?_
  walk_at "ao"
  refine g_itT (f := fun (k : Nat) => A.int (k : Int)) f0 (by unfold natsA at f1; rw [List.length_map] at f1; exact f1) fun first hfirst _ => ?_
  walk_at "ao"
  refine lc_typed (a := fun (k : Nat) => A.int (k : Int)) (fun k => !decide ((k : Int) = (first : Int))) (fun k => .int k) trivial (bigl (by have := ok.wlen; omega)) (fun x hx Yes No hy hn => ?_) ?_
  · walk_at "ao"
    refine g_2 (fun e => ?_) (fun e => ?_)
    · walk_at "ao"
      exact hy e
    · exact hn e
  intro rs hrs
  walk_at "ao"
  intro p hp
  obtain ⟨hprs, hp0⟩ := lk_none hp
  generalize hrest : row.worked.filter (fun (k : Nat) => !decide ((k : Int) = (first : Int))) = rest at *
  have rest_ok : ∀ k ∈ rest, k ∈ row.worked ∧ k ≠ first := by
    intro k hk
    rw [← hrest] at hk
    obtain ⟨h1, h2⟩ := List.mem_filter.mp hk
    refine ⟨h1, fun z => ?_⟩
    subst z
    simp at h2
  walk_at "ao"
  have hs1 : Sub M (aupd M rs (.lst (rest.map fun (k : Nat) => A.int (k : Int)))) := Sub.put hrs (Sub.refl _)
  have hM1 : (aupd M rs (.lst (rest.map fun (k : Nat) => A.int (k : Int)))) rs = some (.lst (rest.map fun (k : Nat) => A.int (k : Int))) := aupd_same
  generalize (aupd M rs (.lst (rest.map fun (k : Nat) => A.int (k : Int)))) = M1 at *
  refine (for_ (fun i s M' => ∃ (o8 o9 : Option A) (p : Addr) (looks : List Look), s = [some (.ref d), some row.a, some (.ref dn), some (.int ways), some (.int way), some (.int (first : Int)), some (.ref rs), some (.ref p), o8, o9, none, none] ∧ Sub M1 M' ∧ M1 p = none ∧ LL M M' p looks ∧ LkI row dones first i looks ∧ (way ≤ 2 → looks.length ≤ i)) ?_ ?_ ?_ ?_)
  · exact ⟨_, _, p, [], rfl, Sub.put hp (Sub.refl _), hp, LL.nil hp0, ⟨by simp, List.Pairwise.nil, by simp⟩, fun _ => by simp⟩
  · rintro i s M' _ ⟨o8, o9, p, looks, rfl, hs, _⟩
    exact hs.at (hs1.at hdn)
  · rintro i x s M' hi ⟨o8, o9, p, looks, rfl, hs, hpn, hL, hI, hfw⟩
    obtain ⟨inner, hin, rfl⟩ := getA hi
    have hinm := List.mem_of_getElem? hin
    have hmost := hI.most
    have hs0 := hs1.trans hs
    have hsz : looks.length ≤ 100 := Nat.le_trans hmost (Nat.le_trans (Nat.mul_le_mul (Nat.le_of_lt (List.getElem?_eq_some_iff.mp hin).1) (Nat.le_refl _)) (Nat.le_trans (Nat.mul_le_mul hl hl) (by decide)))
    walk_at "ao"
    refine g_take (hs0.at hd) (by decide) fun t t0 t1 => ?_
    walk_at "ao"
    have hrs' := hs.at hM1
    obtain ⟨xs, hp'⟩ : ∃ qs : List Addr, M' p = some (.lst (qs.map .ref)) ∧ qs.length = looks.length := by obtain ⟨_, qs, _, h1, h2, _⟩ := hL; exact ⟨qs, h1, h2⟩
    have hfirst' : LookOk row dones [(first, inner)] := ⟨by simp, fun x hx => by rw [List.mem_singleton.mp hx]; exact ⟨hfirst, hinm⟩, by simp⟩
    refine g_2 (fun c3 => ?_) (fun c3 => ?r3)
    walk_at "ao"
    refine g_2 (fun c4 => ?r1) (fun c4 => ?_)
    rotate_left
    walk_at "ao"
    refine g_2 (fun c5 => ?r2) (fun c5 => ?r4)
    case r1 | r2 =>
      walk_at "ao"
      refine g_isTL hp'.1 ?_
      walk_at "ao"
      intro q hq
      walk_at "ao"
      have hpq : p ≠ q := ne_of_anone hp'.1 hq
      refine g_append (lk_new hq hp'.1) (bigl (by rw [List.length_map, hp'.2]; omega)) ?_
      exact ⟨_, _, p, looks ++ [[(first, inner)]], rfl, Sub.put hpn (Sub.put (hs.none hq) hs), hpn, hL.add (l := [(first, inner)]) hp'.1 hq (hs0.none hq), hI.add nd hin (fun l hl => by rw [List.mem_singleton.mp hl]; exact ⟨hfirst', List.mem_cons_self⟩) (List.pairwise_singleton _ _) (by have := (List.getElem?_eq_some_iff.mp hin).1; simp; omega), fun z => by have := hfw z; simp; omega⟩
    case r3 | r4 =>
      walk_at "ao"
      refine g_2 (fun c6 => ?_) (fun c6 => ?r5)
      walk_at "ao"
      refine g_2 (fun c7 => ?_) (fun c7 => ?r6)
      rotate_left
      case r5 | r6 =>
        walk_at "ao"
        exact ⟨_, _, p, looks, rfl, hs, hpn, hL, hI.same, fun z => by have := hfw z; omega⟩
      walk_at "ao"
      have c7 := of_decide_eq_true c7
      rw [List.length_map] at c7
      obtain ⟨k0, rest', erest⟩ : ∃ k0 rest', rest = k0 :: rest' := by
        cases rest with
        | nil => simp at c7
        | cons a b => exact ⟨a, b, rfl⟩
      obtain ⟨hk1, hk2⟩ := rest_ok k0 (by rw [erest]; exact List.mem_cons_self)
      refine (lc_subT (a := Row.a) (xs := dones) (hs0.at hdn) (bigl (by omega)) (fun x hx Yes No hy hn => ?_) fun som hsom => ?_)
      · walk_at "ao"
        refine g_take (hs0.at hd) (by decide) fun u u0 u1 => ?_
        walk_at "ao"
        refine g_2 (fun _ => ?_) (fun _ => hn)
        walk_at "ao"
        exact hy
      intro sm hsm
      walk_at "ao"
      refine (lc_lists (a := Row.a) (xs := som) (fun o => ([(first, inner), (k0, o)] : Look).map pairA) (fun M2 s2 => s2.at aupd_same) (bigl (by have := hsom.length_le; omega)) (fun x hx M2 s2 Yes hy => ?_) fun ns M2 s2 hl2 hf2 hn2 => ?_)
      · walk_at "ao"
        refine g_ixL (s2.at (lk_new hsm hrs')) (v := .int (k0 : Int)) (by rw [erest]; exact atI_nat (j := 0) rfl) ?_
        walk_at "ao"
        exact hy
      intro q hq
      walk_at "ao"
      have hs2 : Sub M' M2 := (Sub.new hsm (Sub.refl _)).trans s2
      obtain ⟨tw1, tw2⟩ := two_looks hsom nd hfirst hk1 hk2 hinm
      refine g_cat (lk_new hq (hs2.at hp'.1)) aupd_same (big (by have := hsom.length_le; simp [hp'.2, hl2]; omega)) ?_
      intro r hr
      have hr2 := (lk_none hr).2
      walk_at "ao"
      have hs3 : Sub M' (aupd M2 q (.lst (ns.map .ref))) := Sub.new hq hs2
      refine ⟨_, _, r, looks ++ som.map (fun o => [(first, inner), (k0, o)]), rfl, Sub.new hr (hs.trans hs3), hs.none (hs2.none hr2), ?_, hI.add nd hin tw1 tw2 (by have := hsom.length_le; simp; omega), fun z => by have := of_decide_eq_true c6; omega⟩
      refine (hL.sub hs3).cat (hs0.none (hs2.none hr2)) (fun z hz => hs0.none (lk_none (hf2 z hz)).2) (lk_new hq (hs2.at hp'.1)) (by simp [hl2]) (fun i q' l h1 h2 => ?_) hr
      obtain ⟨x, hx, rfl⟩ : ∃ x, som[i]? = some x ∧ l = [(first, inner), (k0, x)] := by
        rw [List.getElem?_map] at h2
        cases q3 : som[i]? with
        | none => rw [q3] at h2; cases h2
        | some x => rw [q3] at h2; exact ⟨x, rfl, (Option.some.inj h2).symm⟩
      exact lk_new hq (hn2 i q' x h1 hx)
  · rintro s M' ⟨o8, o9, p, looks, rfl, hs, hpn, hL, hI, hfw⟩
    walk_at "ao"
    refine wk (Sub.refl _) (k looks p M' (hs1.trans hs) hL ⟨fun l hl => (hI.ok l hl).1, hI.ap, ?_⟩ (fun z => by have := hfw (by omega); rw [List.length_map] at this; omega))
    have := hI.most
    rw [List.length_map] at this
    omega
end Ab
theorem rd_looks {K : PySem.W.Frag} {vs : List V} {H : Hp} {Q : VK} {E : XK} (h : sp_looks K vs H Q E) : t_looks K { nx := fun _ H' => Q .non H', rt := Q } (L2.start N_looks vs) H := rd_of (fun _ => rf_looks) (fun _ _ _ _ => Ab.ab_looks) h

mutual
def Fm.flat : Fm → List Int
  | .hole n => [n]
  | .node _ ps => Fm.flats ps
def Fm.flats : List Fm → List Int
  | [] => []
  | p :: ps => p.flat ++ Fm.flats ps
end
def ded (acc l : List Int) : List Int := l.foldl (fun a x => if x ∈ a then a else a ++ [x]) acc
def Fm.hs (f : Fm) : List Int := ded [] f.flat
theorem Fm.flats_app : ∀ (ps qs : List Fm), Fm.flats (ps ++ qs) = Fm.flats ps ++ Fm.flats qs
  | [], qs => by simp [Fm.flats]
  | p :: ps, qs => by simp only [List.cons_append, Fm.flats, Fm.flats_app ps qs, List.append_assoc]
theorem ded_app (acc l m : List Int) : ded acc (l ++ m) = ded (ded acc l) m := by simp only [ded, List.foldl_append]
theorem ded_cons (acc : List Int) (x : Int) (l : List Int) : ded acc (x :: l) = ded (if x ∈ acc then acc else acc ++ [x]) l := rfl
theorem ded_split : ∀ (l acc b : List Int), ded (acc ++ b) l = acc ++ (ded b (l.filter fun x => !decide (x ∈ acc)))
  | [], acc, b => rfl
  | x :: l, acc, b => by
    rw [ded_cons]
    by_cases h : x ∈ acc
    · rw [if_pos (List.mem_append_left _ h), ded_split l acc b, List.filter_cons, if_neg (by simp [h])]
    · rw [List.filter_cons, if_pos (show (!decide (x ∈ acc)) = true by simp [h])]
      by_cases h2 : x ∈ b
      · rw [if_pos (List.mem_append_right _ h2), ded_cons, if_pos h2, ded_split l acc b]
      · rw [if_neg (by simp [h, h2]), ded_cons, if_neg h2, List.append_assoc, ded_split l acc (b ++ [x])]
theorem ded_filter (p : Int → Bool) : ∀ (l b : List Int), ded (b.filter p) (l.filter p) = (ded b l).filter p
  | [], b => rfl
  | x :: l, b => by
    rw [ded_cons]
    cases hp : p x with
    | true =>
      rw [List.filter_cons, if_pos hp, ded_cons]
      have e : (if x ∈ b.filter p then b.filter p else b.filter p ++ [x]) = (if x ∈ b then b else b ++ [x]).filter p := by
        by_cases h : x ∈ b
        · rw [if_pos h, if_pos (List.mem_filter.mpr ⟨h, hp⟩)]
        · rw [if_neg h, if_neg (fun z => h (List.mem_filter.mp z).1), List.filter_append]
          simp [hp]
      rw [e]
      exact ded_filter p l _
    | false =>
      rw [List.filter_cons, if_neg (by simp [hp])]
      have e : (if x ∈ b then b else b ++ [x]).filter p = b.filter p := by
        by_cases h : x ∈ b
        · rw [if_pos h]
        · rw [if_neg h, List.filter_append]; simp [hp]
      rw [← ded_filter p l, e]
theorem ded_hs (acc : List Int) (f : Fm) : acc ++ f.hs.filter (fun x => !decide (x ∈ acc)) = ded acc f.flat := by
  have h1 := ded_split f.flat acc []
  rw [List.append_nil] at h1
  rw [h1]
  unfold Fm.hs
  rw [← ded_filter]
  rfl
theorem ded_len : ∀ (l acc : List Int), (ded acc l).length ≤ acc.length + l.length
  | [], acc => Nat.le_refl _
  | x :: l, acc => by
    rw [ded_cons]
    have := ded_len l (if x ∈ acc then acc else acc ++ [x])
    rw [List.length_cons]
    by_cases h : x ∈ acc
    · rw [if_pos h] at this ⊢; omega
    · rw [if_neg h] at this ⊢; simp at this; omega
theorem ded_mem : ∀ (l acc : List Int) (x : Int), x ∈ ded acc l ↔ x ∈ acc ∨ x ∈ l
  | [], acc, x => by simp [ded]
  | y :: l, acc, x => by
    rw [ded_cons, ded_mem l]
    by_cases h : y ∈ acc
    · rw [if_pos h]
      constructor
      · rintro (z | z)
        · exact .inl z
        · exact .inr (List.mem_cons_of_mem _ z)
      · rintro (z | z)
        · exact .inl z
        · rcases List.mem_cons.mp z with rfl | z
          · exact .inl h
          · exact .inr z
    · rw [if_neg h]
      simp only [List.mem_append, List.mem_cons, List.not_mem_nil, or_false]
      constructor
      · rintro ((z | z) | z)
        · exact .inl z
        · exact .inr (.inl z)
        · exact .inr (.inr z)
      · rintro (z | z | z)
        · exact .inl (.inl z)
        · exact .inl (.inr z)
        · exact .inr z
mutual
theorem Fm.flat_len : ∀ f : Fm, f.flat.length ≤ f.size
  | .hole _ => by simp [Fm.flat, Fm.size]
  | .node _ ps => by
    have := Fm.flats_len ps
    simp only [Fm.flat, Fm.size]; omega
theorem Fm.flats_len : ∀ ps : List Fm, (Fm.flats ps).length ≤ Fm.sizes ps
  | [] => by simp [Fm.flats]
  | p :: ps => by
    have := Fm.flat_len p
    have := Fm.flats_len ps
    simp only [Fm.flats, Fm.sizes, List.length_append]; omega
end
theorem Fm.hs_len (f : Fm) : f.hs.length ≤ f.size := by
  have h1 := ded_len f.flat []
  have h2 := f.flat_len
  unfold Fm.hs
  simp at h1
  omega
theorem inV_int {n : Int} : ∀ {l : List Int}, inV (.int n) (l.map V.int) = decide (n ∈ l)
  | [] => by simp [inV]
  | a :: l => by
    have ih := inV_int (n := n) (l := l)
    unfold inV at ih ⊢
    rw [List.map_cons, List.any_cons, ih]
    show ((a == n) || decide (n ∈ l)) = decide (n ∈ a :: l)
    by_cases e : a = n
    · subst e; simp
    · have e2 : (a == n) = false := beq_eq_false_iff_ne.mpr e
      rw [e2]
      simp [show ¬ n = a from fun z => e z.symm]
theorem flat_ints : ∀ {l : List Int}, (l.map V.int).all flatV = true
  | [] => rfl
  | a :: l => by rw [List.map_cons, List.all_cons, flat_ints]; rfl
section
variable {K : PySem.W.Frag} {H : Hp} {Q : VK} {v : V}
theorem g_notInI {p : Addr} {l : List Int} {n : Int} (h : H p = some (.lst (l.map V.int))) (k : Q (.bl (!decide (n ∈ l))) H) : rIn K true (.int n) (.ref p) H Q := by
  refine ⟨p, l.map V.int, rfl, .inl (.inl (.inl h)), rfl, flat_ints, ?_⟩
  rw [if_pos rfl, inV_int]
  exact k
theorem g_inI {p : Addr} {l : List Int} {n : Int} (h : H p = some (.lst (l.map V.int))) (k : Q (.bl (decide (n ∈ l))) H) : rIn K false (.int n) (.ref p) H Q := by
  refine ⟨p, l.map V.int, rfl, .inl (.inl (.inl h)), rfl, flat_ints, ?_⟩
  rw [if_neg (by decide), inV_int]
  exact k
theorem g_aug {σ : L2.St} {D : Ends} {i : Nat} {te : TE} {ti : TIp} {x : V} (e : σ[i]? = some (some x)) (h : te σ H fun y H1 => ti x y H1 fun z H2 => D.nx (σ.set i (some z)) H2) : tAug i te ti D σ H := ⟨x, e, h⟩
theorem ints_get {l : List Int} {i : Nat} {x : V} (h : (l.map V.int)[i]? = some x) : ∃ n, l[i]? = some n ∧ x = .int n := by
  rw [List.getElem?_map] at h
  cases e : l[i]? with
  | none => rw [e] at h; cases h
  | some n => rw [e] at h; exact ⟨n, rfl, (Option.some.inj h).symm⟩
end

theorem Fm.as_get {ps : List Fm} {i : Nat} {x : A} (h : (Fm.as ps)[i]? = some x) : ∃ p, ps[i]? = some p ∧ x = p.a := by
  rw [Fm.as_map] at h
  exact getA h
theorem Fm.flats_mem : ∀ {ps : List Fm} {i : Int}, i ∈ Fm.flats ps ↔ ∃ p ∈ ps, i ∈ p.flat
  | [], i => by simp [Fm.flats]
  | p :: ps, i => by simp only [Fm.flats, List.mem_append, Fm.flats_mem, List.mem_cons]; constructor <;> intro h <;> simp_all
theorem fm_at {s : Str} {ps : List Fm} {w : Nat} {p : Fm} (h : ps[w]? = some p) : L2.atI (A.str s :: Fm.as ps) ((w : Int) + 1) = some p.a := by
  refine atI_nat (j := w + 1) ?_
  rw [List.getElem?_cons_succ, Fm.as_map, List.getElem?_map, h]
  rfl
theorem nats_at {ws : List Nat} {i w : Nat} (h : ws[i]? = some w) : L2.atI (natsA ws) (i : Int) = some (.int (w : Int)) := by
  refine atI_nat (j := i) ?_
  unfold natsA
  rw [List.getElem?_map, h]
  rfl
theorem Fm.sizes_le {B : Nat} : ∀ {ps : List Fm}, (∀ p ∈ ps, p.size ≤ B) → Fm.sizes ps ≤ ps.length * B
  | [], _ => by simp [Fm.sizes]
  | p :: ps, h => by
    have h1 := h p List.mem_cons_self
    have h2 := Fm.sizes_le (ps := ps) fun q hq => h q (List.mem_cons_of_mem _ hq)
    simp only [Fm.sizes, List.length_cons, Nat.add_mul]
    omega
theorem Fm.depths_le {B : Nat} : ∀ {ps : List Fm}, (∀ p ∈ ps, p.depth ≤ B) → Fm.depths ps ≤ B
  | [], _ => by simp [Fm.depths]
  | p :: ps, h => by
    have h1 := h p List.mem_cons_self
    have h2 := Fm.depths_le (ps := ps) fun q hq => h q (List.mem_cons_of_mem _ hq)
    simp only [Fm.depths]
    omega
namespace Ab
end Ab
namespace Ab
def newO (o : AO) (M : AM) (P : AK) : Prop := ∀ p, M p = none → P (.ref p) (aupd M p o)
theorem g_newO {o : AO} {M : AM} {P : AK} (h : ∀ p M', Sub M M' → M' p = some o → M p = none → P (.ref p) M') : newO o M P := fun p hp => h p _ (Sub.put hp (Sub.refl _)) aupd_same hp
theorem g_newA {xs : List A} {M : AM} {P : AK} (h : ∀ p M', Sub M M' → M' p = some (.lst xs) → M p = none → P (.ref p) M') : newL xs M P := fun p hp => h p _ (Sub.put hp (Sub.refl _)) aupd_same hp
end Ab
theorem Fm.as_holes : ∀ is : List Int, Fm.as (is.map Fm.hole) = is.map A.int
  | [] => rfl
  | i :: is => by simp only [List.map_cons, Fm.as, Fm.a, Fm.as_holes is]
theorem Fm.flats_holes : ∀ is : List Int, Fm.flats (is.map Fm.hole) = is
  | [] => rfl
  | i :: is => by simp only [List.map_cons, Fm.flats, Fm.flat, Fm.flats_holes is]; rfl
def PartOk (look : Look) (j : Nat) (p : Fm) : Prop := ((∀ r, (j, r) ∉ look) ∧ ∃ n : Int, p = .hole n ∧ 0 ≤ n ∧ n ≤ 99) ∨ ∃ (r : Row) (is : List Int), (j, r) ∈ look ∧ p = .node r.name (is.map Fm.hole) ∧ is.length = r.places ∧ ∀ i ∈ is, 0 ≤ i ∧ i ≤ 99
structure LeftOk (row : Row) (look : Look) (f : Fm) : Prop where
  ex : ∃ ps, f = .node row.name ps ∧ ps.length = row.places ∧ ∀ (j : Nat) (p : Fm), ps[j]? = some p → PartOk look j p
  nd : f.flat.Nodup
def hstr : List Int := [1, 3, 7, 9, 11, 37, 99]
theorem filt_true {α : Type} (l : List α) : l.filter (fun _ => true) = l := List.filter_eq_self.mpr fun _ _ => rfl
theorem hstr_inj {s : Int} (hs : s ∈ hstr) (h : Int) {m n : Nat} (hm : m < 8) (hn : n < 8) (e : (h + (m : Int) * s) % 100 = (h + (n : Int) * s) % 100) : m = n := by
  unfold hstr at hs
  simp only [List.mem_cons, List.not_mem_nil, or_false] at hs
  rcases hs with rfl | rfl | rfl | rfl | rfl | rfl | rfl <;> omega
namespace Ab
def sp_left (K : PySem.W.Frag) : ASp := fun as M P _ => ∃ (d q : Addr) (row : Row) (look : Look), as = [.ref d, row.a, .ref q] ∧ M d = some .draws ∧ M q = some (.lst (look.map pairA)) ∧ row.places ≤ 4 ∧ (look.map (·.1)).Nodup ∧ look.length ≤ 10 ∧ (∀ x ∈ look, x.2.places ≤ 2) ∧
  ∀ f : Fm, LeftOk row look f → P f.a M
end Ab
namespace Ab
theorem ln_left {K : PySem.W.Frag} (as : List A) (M : AM) (P : AK) (X : AX) : sp_left K as M P X → as.length = 3 := by rintro ⟨_, _, _, _, rfl, _⟩; rfl
end Ab
def sp_left (K : PySem.W.Frag) : Sp := lift K (Ab.sp_left K)
theorem len_left {K : PySem.W.Frag} {vs : List V} {H : Hp} {Q : VK} {E : XK} (h : sp_left K vs H Q E) : vs.length = 3 := lift_len Ab.ln_left h
def t_left (K : PySem.W.Frag) : TS := (tSeq (tAsg (tCall (sp_take K) [] E0 (tCons (tVar 0) (tCons (tC (.int 100)) tNil))) (gName 3))
  (tSeq (tAsg (tOp (rIxL K) (tLst (tCons (tC (.int 1)) (tCons (tC (.int 3)) (tCons (tC (.int 7)) (tCons (tC (.int 9)) (tCons (tC (.int 11)) (tCons (tC (.int 37)) (tCons (tC (.int 99)) tNil)))))))) (tCall (sp_take K) [] E0 (tCons (tVar 0) (tCons (tC (.int 7)) tNil)))) (gName 4))
  (tSeq (tAsg (tLst (tCons (tOp (rIxT K) (tVar 1) (tC (.int 0))) tNil)) (gName 5))
  (tSeq (tFor (iRng1 (tCons (tOp (rIxT K) (tVar 1) (tC (.int 1))) tNil)) (gName 6)
  (tSeq (tAsg (tLst (tCons (tVar 3) tNil)) (gName 7))
  (tSeq (tFor (iList K (tVar 2)) (gName 8)
  (tIfS (tTest (tOp rEq (tOp (rIxT K) (tVar 8) (tC (.int 0))) (tVar 6))) (tAsg (tOp rCat (tLst (tCons (tOp (rIxT K) (tOp (rIxT K) (tVar 8) (tC (.int 1))) (tC (.int 0))) tNil)) (tLc (iRng1 (tCons (tOp (rIxT K) (tOp (rIxT K) (tVar 8) (tC (.int 1))) (tC (.int 1))) tNil)) (gName 9) tYes (tOp rModI (tCB rInt1 (tCons (tOp rAddI (tVar 3) (tOp rMulI (tVar 9) (tVar 4))) tNil)) (tC (.int 100))) [9])) (gName 7))
  tNext))
  (tSeq (tAsg (tOp rModI (tCB rInt1 (tCons (tOp rAddI (tVar 3) (tOp rMulI (tC (.int 2)) (tVar 4))) tNil)) (tC (.int 100))) (gName 3))
  (tDrop (tBM K "list" rAppend (tVar 5) (tCons (tOp (rIxL K) (tLst (tCons (tCB (rTupleOf K) (tCons (tVar 7) tNil)) (tCons (tOp (rIxL K) (tVar 7) (tC (.int 0))) tNil))) (tCB rInt1 (tCons (tCB (rIsi K) (tCons (tOp (rIxL K) (tVar 7) (tC (.int 0))) (tCons (tC (.ty "int")) tNil))) tNil))) tNil)))))))
  (tRet (tCB (rTupleOf K) (tCons (tVar 5) tNil)))))))
abbrev N_left : List Str := ["_law_draws", "_law_row", "_law_looks_here", "_law_hole", "_law_stride", "_law_left_here", "_law_place", "_law_part", "_law_pair", "_law_k"]
namespace Ab
def t_left (K : PySem.W.Frag) : TS := (tSeq (tAsg (tCall (sp_take K) [] E0 (tCons (tVar 0) (tCons (tC (.int 100)) tNil))) (gName 3))
  (tSeq (tAsg (tOp (rIxL K) (tLst (tCons (tC (.int 1)) (tCons (tC (.int 3)) (tCons (tC (.int 7)) (tCons (tC (.int 9)) (tCons (tC (.int 11)) (tCons (tC (.int 37)) (tCons (tC (.int 99)) tNil)))))))) (tCall (sp_take K) [] E0 (tCons (tVar 0) (tCons (tC (.int 7)) tNil)))) (gName 4))
  (tSeq (tAsg (tLst (tCons (tOp (rIxT K) (tVar 1) (tC (.int 0))) tNil)) (gName 5))
  (tSeq (tFor (iRng1 (tCons (tOp (rIxT K) (tVar 1) (tC (.int 1))) tNil)) (gName 6)
  (tSeq (tAsg (tLst (tCons (tVar 3) tNil)) (gName 7))
  (tSeq (tFor (iList K (tVar 2)) (gName 8)
  (tIfS (tTest (tOp rEq (tOp (rIxT K) (tVar 8) (tC (.int 0))) (tVar 6))) (tAsg (tOp rCat (tLst (tCons (tOp (rIxT K) (tOp (rIxT K) (tVar 8) (tC (.int 1))) (tC (.int 0))) tNil)) (tLc (iRng1 (tCons (tOp (rIxT K) (tOp (rIxT K) (tVar 8) (tC (.int 1))) (tC (.int 1))) tNil)) (gName 9) tYes (tOp rModI (tCB rInt1 (tCons (tOp rAddI (tVar 3) (tOp rMulI (tVar 9) (tVar 4))) tNil)) (tC (.int 100))) [9])) (gName 7))
  tNext))
  (tSeq (tAsg (tOp rModI (tCB rInt1 (tCons (tOp rAddI (tVar 3) (tOp rMulI (tC (.int 2)) (tVar 4))) tNil)) (tC (.int 100))) (gName 3))
  (tDrop (tBM K "list" rAppend (tVar 5) (tCons (tOp (rIxL K) (tLst (tCons (tCB (rTupleOf K) (tCons (tVar 7) tNil)) (tCons (tOp (rIxL K) (tVar 7) (tC (.int 0))) tNil))) (tCB rInt1 (tCons (tCB (rIsi K) (tCons (tOp (rIxL K) (tVar 7) (tC (.int 0))) (tCons (tC (.ty "int")) tNil))) tNil))) tNil)))))))
  (tRet (tCB (rTupleOf K) (tCons (tVar 5) tNil)))))))
end Ab
theorem rf_left {K : PySem.W.Frag} {E : XK} {X : AX} : RSt K E X (t_left K) (Ab.t_left K) := by
  have br_take := @My.rsp_take K
  unfold My.t_left Ab.t_left
  walk_at "rf"
namespace Ab
theorem ab_left {K : PySem.W.Frag} {as : List A} {M : AM} {P : AK} {X : AX} (h : sp_left K as M P X) : t_left K { nx := fun _ M' => Wk P .non M', rt := Wk P } (start N_left as) M := by
  obtain ⟨d, q, row, look, rfl, hd, hq, hpl, ndk, hlk, h2, k⟩ := h
  unfold t_left
  walk_at "ao"
  refine g_take hd (by decide) fun h0 hh0 hh1 => ?_
  walk_at "ao"
  intro s1 hs1
  walk_at "ao"
  refine g_take (lk_new hs1 hd) (by decide) fun v v0 v1 => ?_
  walk_at "ao"
  refine g_it (f := A.int) (xs := hstr) aupd_same v0 v1 fun st hst _ => ?_
  walk_at "ao"
  intro lp hlp
  obtain ⟨hlps, hlp0⟩ := lk_none hlp
  walk_at "ao"
  have hM1 : Sub M (aupd M s1 (.lst [.int 1, .int 3, .int 7, .int 9, .int 11, .int 37, .int 99])) := Sub.put hs1 (Sub.refl _)
  generalize (aupd M s1 (.lst [.int 1, .int 3, .int 7, .int 9, .int 11, .int 37, .int 99])) = M1 at *
  have val0 : ∀ m : Nat, 0 ≤ (h0 + (m : Int) * st) % 100 ∧ (h0 + (m : Int) * st) % 100 ≤ 99 := fun m => ⟨by omega, by omega⟩
  have st0 : 1 ≤ st ∧ st ≤ 99 := by
    unfold hstr at hst
    simp only [List.mem_cons, List.not_mem_nil, or_false] at hst
    omega
  refine ⟨by omega, by omega, for_rng (fun i s M' => ∃ (o1 o2 o3 : Option A) (ps : List Fm) (ms : List Nat) (hl : Int), s = [some (.ref d), some row.a, some (.ref q), some (.int hl), some (.int st), some (.ref lp), o1, o2, o3, none] ∧ Sub M1 M' ∧ M' lp = some (.lst (.str row.name :: Fm.as ps)) ∧ ps.length = i ∧
      hl = (h0 + ((2 * i : Nat) : Int) * st) % 100 ∧ Fm.flats ps = ms.map (fun (m : Nat) => (h0 + (m : Int) * st) % 100) ∧ ms.Nodup ∧ (∀ m ∈ ms, m < 2 * i) ∧ ∀ (j : Nat) (p : Fm), ps[j]? = some p → PartOk look j p) ?_ ?_ ?_⟩
  · refine ⟨_, _, _, [], [], h0, rfl, Sub.put hlp (Sub.refl _), aupd_same, rfl, by omega, rfl, List.nodup_nil, by simp, fun j p h => by simp at h⟩
  · rintro i s M' hi ⟨o1, o2, o3, ps, ms, hl, rfl, hs, hlp', rfl, ehl, efl, ndm, ltm, hpk⟩
    have hi4 : ps.length < row.places := by omega
    walk_at "ao"
    intro p hp
    walk_at "ao"
    have hpl2 : lp ≠ p := ne_of_anone hlp' hp
    -- the part
    refine for_ (fun i2 s M2 => ∃ (o2 : Option A) (p2 : Addr) (c : List A), s = [some (.ref d), some row.a, some (.ref q), some (.int hl), some (.int st), some (.ref lp), some (.int (0 + (ps.length : Int))), some (.ref p2), o2, none] ∧ Sub M' M2 ∧ M2 p2 = some (.lst c) ∧ M' p2 = none ∧
      (((∀ r, (ps.length, r) ∉ look.take i2) ∧ c = [.int hl]) ∨ ∃ r : Row, (ps.length, r) ∈ look.take i2 ∧ c = .str r.name :: ((List.range r.places).map fun (k : Nat) => (h0 + ((2 * ps.length + k : Nat) : Int) * st) % 100).map A.int)) ?_ ?_ ?_ ?_
    · exact ⟨_, p, _, rfl, Sub.put hp (Sub.refl _), aupd_same, hp, .inl ⟨by simp, rfl⟩⟩
    · rintro i2 s M2 _ ⟨o2, p2, c, rfl, hs2, _⟩
      exact hs2.at (hs.at (hM1.at hq))
    · rintro i2 x s M2 hx ⟨o2, p2, c, rfl, hs2, hp2, hpn, hc⟩
      obtain ⟨⟨j, r⟩, hjr, rfl⟩ := getA hx
      have hjm := List.mem_of_getElem? hjr
      have ht : look.take (i2 + 1) = look.take i2 ++ [(j, r)] := by rw [List.take_add_one, hjr]; rfl
      walk_at "ao"
      refine g_2 (fun e => ?_) (fun e => ?_)
      · have e : j = ps.length := by have := of_decide_eq_true e; omega
        subst e
        have hr2 := h2 _ hjm
        walk_at "ao"
        intro a ha
        walk_at "ao"
        refine ⟨by dsimp only at *; omega, by dsimp only at *; omega, ?_⟩
        refine lc_typed (a := fun (k : Nat) => A.int (0 + (k : Int))) (xs := List.range (r.places : Int).toNat) (fun _ => true) (fun k => .int ((hl + (0 + (k : Int)) * st) % 100)) trivial (bigl (by dsimp only at *; simp; omega)) (fun x hx Yes No hy hn => ?_) ?_
        · have hx := List.mem_range.mp hx
          dsimp only at hr2
          walk_at "ao"
          exact hy rfl
        intro b hb
        walk_at "ao"
        refine g_cat (lk_new hb aupd_same) aupd_same (big (by dsimp only at *; rw [filt_true]; simp; omega)) ?_
        intro c' hc'
        obtain ⟨_, hc1⟩ := lk_none hc'
        obtain ⟨_, hc2⟩ := lk_none hc1
        walk_at "ao"
        refine ⟨_, c', _, rfl, Sub.new hc' (Sub.new hb (Sub.new ha hs2)), aupd_same, hs2.none hc2, .inr ⟨r, by rw [ht]; simp, ?_⟩⟩
        simp only [Int.toNat_natCast, List.map_map, List.cons_append, List.nil_append, filt_true]
        congr 1
        apply List.map_congr_left
        intro k hk
        simp only [Function.comp]
        congr 1
        rw [ehl]
        have : ((2 * ps.length + k : Nat) : Int) * st = ((2 * ps.length : Nat) : Int) * st + (k : Int) * st := by rw [← Int.add_mul]; congr 1
        rw [this, Int.zero_add]
        omega
      · have e : ¬ j = ps.length := by have := of_decide_eq_false e; omega
        walk_at "ao"
        refine ⟨_, p2, c, rfl, hs2, hp2, hpn, ?_⟩
        rw [ht]
        rcases hc with ⟨h1, h3⟩ | ⟨r', h1, h3⟩
        · refine .inl ⟨fun r' hr' => ?_, h3⟩
          rcases List.mem_append.mp hr' with z | z
          · exact h1 r' z
          · have := List.mem_singleton.mp z
            cases this
            exact e rfl
        · exact .inr ⟨r', List.mem_append_left _ h1, h3⟩
    · rintro s M2 ⟨o2, p2, c, rfl, hs2, hp2, hpn, hc⟩
      rw [List.length_map, List.take_length] at hc
      have hlp2 := hs2.at hlp'
      walk_at "ao"
      have hlen := hpk
      have next : (hl + 2 * st) % 100 = (h0 + ((2 * (ps.length + 1) : Nat) : Int) * st) % 100 := by
        have : ((2 * (ps.length + 1) : Nat) : Int) * st = ((2 * ps.length : Nat) : Int) * st + 2 * st := by rw [← Int.add_mul]; congr 1
        rw [this, ehl]
        omega
      have snoc : ∀ p : Fm, PartOk look ps.length p → ∀ (j : Nat) (p' : Fm), (ps ++ [p])[j]? = some p' → PartOk look j p' := by
        intro p hp j p' h
        by_cases z : j < ps.length
        · rw [List.getElem?_append_left z] at h
          exact hpk j p' h
        · have z2 : j = ps.length := by
            have := (List.getElem?_eq_some_iff.mp h).1
            simp at this
            omega
          subst z2
          simp at h
          subst h
          exact hp
      rcases hc with ⟨hn, rfl⟩ | ⟨r, hr, rfl⟩
      · refine g_ixL hp2 (v := .int hl) rfl ?_
        walk_at "ao"
        intro a ha
        walk_at "ao"
        refine g_ixL (lk_new ha hp2) (v := .int hl) rfl ?_
        walk_at "ao"
        refine g_ixL aupd_same (v := .int hl) rfl ?_
        walk_at "ao"
        refine g_append (lk_new ha hlp2) (bigl (by simp [Fm.as_length]; omega)) ?_
        refine ⟨_, _, _, ps ++ [.hole hl], ms ++ [2 * ps.length], _, rfl, Sub.put hlp (Sub.new ha (hs.trans hs2)), ?_, by simp, next, ?_, ?_, ?_, snoc _ (.inl ⟨hn, hl, rfl, by rw [ehl]; exact val0 _⟩)⟩
        · rw [aupd_same, Fm.as_append]; rfl
        · rw [Fm.flats_app, efl, List.map_append, ehl]; rfl
        · refine List.nodup_append.mpr ⟨ndm, by simp, fun a ha b hb => ?_⟩
          have := ltm a ha
          rw [List.mem_singleton.mp hb]
          omega
        · intro m hm
          rcases List.mem_append.mp hm with z | z
          · have := ltm m z; omega
          · rw [List.mem_singleton.mp z]; omega
      · have hr2 := h2 _ hr
        dsimp only at hr2
        refine g_ixL hp2 (v := .str r.name) (atI_nat (j := 0) rfl) ?_
        walk_at "ao"
        intro a ha
        walk_at "ao"
        refine g_ixL (lk_new ha hp2) (v := .str r.name) (atI_nat (j := 0) rfl) ?_
        walk_at "ao"
        refine g_ixL aupd_same rfl ?_
        walk_at "ao"
        refine g_append (lk_new ha hlp2) (bigl (by simp [Fm.as_length]; omega)) ?_
        refine ⟨_, _, _, ps ++ [.node r.name (((List.range r.places).map fun (k : Nat) => (h0 + ((2 * ps.length + k : Nat) : Int) * st) % 100).map Fm.hole)], ms ++ (List.range r.places).map (fun k => 2 * ps.length + k), _, rfl, Sub.put hlp (Sub.new ha (hs.trans hs2)), ?_, by simp, next, ?_, ?_, ?_, snoc _ (.inr ⟨r, _, hr, rfl, by simp, fun i hi => ?_⟩)⟩
        · rw [aupd_same, Fm.as_append]
          simp only [Fm.as, Fm.a, Fm.as_holes]
          rfl
        · rw [Fm.flats_app, efl, List.map_append]
          have e1 : Fm.flats [.node r.name (((List.range r.places).map fun (k : Nat) => (h0 + ((2 * ps.length + k : Nat) : Int) * st) % 100).map Fm.hole)] = (List.range r.places).map fun (k : Nat) => (h0 + ((2 * ps.length + k : Nat) : Int) * st) % 100 := by
            simp only [Fm.flats, Fm.flat, Fm.flats_holes, List.append_nil]
          rw [e1, List.map_map]
          rfl
        · refine List.nodup_append.mpr ⟨ndm, ?_, fun a ha b hb => ?_⟩
          · refine List.pairwise_map.mpr (List.Pairwise.imp ?_ (List.nodup_range (n := r.places)))
            intro a b e z
            omega
          · obtain ⟨k, _, rfl⟩ := List.mem_map.mp hb
            have := ltm a ha
            omega
        · intro m hm
          rcases List.mem_append.mp hm with z | z
          · have := ltm m z; omega
          · obtain ⟨k, hk, rfl⟩ := List.mem_map.mp z
            have := List.mem_range.mp hk
            omega
        · obtain ⟨k, _, rfl⟩ := List.mem_map.mp hi
          exact val0 _
  · rintro s M' ⟨o1, o2, o3, ps, ms, hl, rfl, hs, hlp', hps, ehl, efl, ndm, ltm, hpk⟩
    walk_at "ao"
    refine wk (hM1.trans hs) (k (.node row.name ps) ⟨⟨ps, rfl, by omega, hpk⟩, ?_⟩)
    show (Fm.flats ps).Nodup
    rw [efl]
    refine (List.pairwise_map).mpr ?_
    refine (List.Pairwise.and_mem.mp ndm).imp ?_
    rintro a b ⟨ha, hb, hab⟩ e
    have h1 := ltm a ha
    have h3 := ltm b hb
    exact hab (hstr_inj hst h0 (by omega) (by omega) e)
end Ab
theorem rd_left {K : PySem.W.Frag} {vs : List V} {H : Hp} {Q : VK} {E : XK} (h : sp_left K vs H Q E) : t_left K { nx := fun _ H' => Q .non H', rt := Q } (L2.start N_left vs) H := rd_of (fun _ => rf_left) (fun _ _ _ _ => Ab.ab_left) h

namespace Ab
def sp_lholes (K : PySem.W.Frag) (n : Nat) : ASp := fun as M P _ => ∃ f : Fm, as = [f.a] ∧ f.depth < n ∧ f.size ≤ 1000 ∧ ∀ p, M p = none → P (.ref p) (aupd M p (.lst (f.flat.map .int)))
end Ab
namespace Ab
theorem ln_lholes {K : PySem.W.Frag} {n : Nat} (as : List A) (M : AM) (P : AK) (X : AX) : sp_lholes K n as M P X → as.length = 1 := by rintro ⟨_, rfl, _⟩; rfl
end Ab
def sp_lholes (K : PySem.W.Frag) (n : Nat) : Sp := lift K (Ab.sp_lholes K n)
theorem len_lholes {K : PySem.W.Frag} {n : Nat} {vs : List V} {H : Hp} {Q : VK} {E : XK} (h : sp_lholes K n vs H Q E) : vs.length = 1 := lift_len Ab.ln_lholes h
theorem no_lholes {K : PySem.W.Frag} (vs : List V) (H : Hp) (Q : VK) (E : XK) : ¬ sp_lholes K 0 vs H Q E := lift_no (fun as M P X h => by obtain ⟨_, _, h⟩ := h; omega) vs H Q E
def t_lholes (K : PySem.W.Frag) (r : Sp) : TS := (tSeq (tAsg (tLst (tCons (tVar 0) tNil)) (gName 1))
  (tSeq (tIfS (tNot (tB (tCB (rIsi K) (tCons (tVar 0) (tCons (tC (.ty "int")) tNil))))) (tSeq (tAsg (tLst tNil) (gName 1))
  (tFor (iTup K (tSl (rSlT K) (tVar 0) (tPart (tC (.int 1))) tNoPart)) (gName 2)
  (tAsg (tOp rCat (tVar 1) (tCall r [] E0 (tCons (tVar 2) tNil))) (gName 1))))
  tNext)
  (tRet (tVar 1))))
abbrev N_lholes : List Str := ["_law_form", "_law_holes_here", "_law_part"]
namespace Ab
def t_lholes (K : PySem.W.Frag) (r : ASp) : TS := (tSeq (tAsg (tLst (tCons (tVar 0) tNil)) (gName 1))
  (tSeq (tIfS (tNot (tB (tCB (rIsi K) (tCons (tVar 0) (tCons (tC (.ty "int")) tNil))))) (tSeq (tAsg (tLst tNil) (gName 1))
  (tFor (iTup K (tSl (rSlT K) (tVar 0) (tPart (tC (.int 1))) tNoPart)) (gName 2)
  (tAsg (tOp rCat (tVar 1) (tCall r [] E0 (tCons (tVar 2) tNil))) (gName 1))))
  tNext)
  (tRet (tVar 1))))
end Ab
theorem rf_lholes {K : PySem.W.Frag} {E : XK} {X : AX} {r : Sp} {ar : ASp} (hr : RSp K r ar) : RSt K E X (t_lholes K r) (Ab.t_lholes K ar) := by
  unfold My.t_lholes Ab.t_lholes
  walk_at "rf"
namespace Ab
theorem ab_lholes {K : PySem.W.Frag} {n : Nat} {as : List A} {M : AM} {P : AK} {X : AX} (h : sp_lholes K (n + 1) as M P X) : t_lholes K (sp_lholes K n) { nx := fun _ M' => Wk P .non M', rt := Wk P } (start N_lholes as) M := by
  obtain ⟨f, rfl, hdp, hsz, k⟩ := h
  unfold t_lholes
  cases f with
  | hole i =>
    simp only [Fm.a]
    walk_at "ao"
    intro p hp
    walk_at "ao"
    exact wk (Sub.refl _) (k p hp)
  | node s ps =>
    simp only [Fm.depth] at hdp
    simp only [Fm.size] at hsz
    simp only [Fm.a]
    have hfl := Fm.flats_len ps
    walk_at "ao"
    intro p0 hp0
    walk_at "ao"
    intro p1 hp1
    have hp1' := (lk_none hp1).2
    walk_at "ao"
    refine for_ (fun i s' M' => ∃ (o : Option A) (p : Addr), s' = [some (.tup (.str s :: Fm.as ps)), some (.ref p), o] ∧ Sub M M' ∧ M p = none ∧ M' p = some (.lst ((Fm.flats (ps.take i)).map A.int))) ?_ (fun _ _ _ _ _ => trivial) ?_ ?_
    · exact ⟨_, p1, rfl, Sub.put hp1' (Sub.new hp0 (Sub.refl _)), hp1', aupd_same⟩
    · rintro i x s' M' hi ⟨o, p, rfl, hs, hpn, hp⟩
      obtain ⟨q, hq, rfl⟩ := Fm.as_get hi
      have hqm := List.mem_of_getElem? hq
      have hd1 := Fm.depth_mem hqm
      have hs1 : q.size ≤ Fm.sizes ps := by
        have : ∀ (l : List Fm), q ∈ l → q.size ≤ Fm.sizes l := by
          intro l
          induction l with
          | nil => intro h; cases h
          | cons a l ih =>
            intro h
            simp only [Fm.sizes]
            rcases List.mem_cons.mp h with rfl | h
            · omega
            · have := ih h; omega
        exact this ps hqm
      have htk : ps.take (i + 1) = ps.take i ++ [q] := by rw [List.take_add_one, hq]; rfl
      have hlen : (Fm.flats (ps.take i)).length ≤ 1000 := by
        have e : ps = ps.take i ++ ps.drop i := (List.take_append_drop i ps).symm
        have : Fm.flats ps = Fm.flats (ps.take i) ++ Fm.flats (ps.drop i) := by rw [← Fm.flats_app, ← e]
        have h2 := congrArg List.length this
        rw [List.length_append] at h2
        omega
      have hql := Fm.flat_len q
      walk_at "ao"
      refine ⟨q, rfl, by omega, by omega, fun r hr => ?_⟩
      walk_at "ao"
      refine g_cat (lk_new hr hp) aupd_same (big (by simp; omega)) ?_
      intro c hc
      obtain ⟨_, hc'⟩ := lk_none hc
      walk_at "ao"
      refine ⟨_, c, rfl, Sub.new hc (Sub.new hr hs), hs.none hc', ?_⟩
      rw [aupd_same, htk, Fm.flats_app, List.map_append]
      simp only [Fm.flats, List.append_nil]
    · rintro s' M' ⟨o, p, rfl, hs, hpn, hp⟩
      rw [Fm.as_length, List.take_length] at hp
      walk_at "ao"
      refine wk ?_ (k p hpn)
      intro b ob e
      by_cases z : b = p
      · subst z
        rw [aupd_same] at e
        cases e
        exact hp
      · rw [aupd_ne z] at e
        exact hs.at e
end Ab
theorem rd_lholes {K : PySem.W.Frag} {n : Nat} {vs : List V} {H : Hp} {Q : VK} {E : XK} (h : sp_lholes K (n + 1) vs H Q E) : t_lholes K (sp_lholes K n) { nx := fun _ H' => Q .non H', rt := Q } (L2.start N_lholes vs) H := rd_of (fun _ => rf_lholes RSp.lift) (fun _ _ _ _ => Ab.ab_lholes) h
mutual
def Fm.over (rows : List Row) : Fm → Prop
  | .hole _ => True
  | .node s ps => (∃ r ∈ rows, r.name = s ∧ r.places = ps.length) ∧ Fm.overs rows ps
def Fm.overs (rows : List Row) : List Fm → Prop
  | [] => True
  | p :: ps => p.over rows ∧ Fm.overs rows ps
end
theorem Fm.overs_iff {rows : List Row} : ∀ {ps : List Fm}, Fm.overs rows ps ↔ ∀ p ∈ ps, p.over rows
  | [] => by simp [Fm.overs]
  | p :: ps => by simp [Fm.overs, Fm.overs_iff]
def gB : Nat → Nat
  | 0 => 1
  | n + 1 => 1 + 4 * gB n
theorem gB_pos : ∀ n, 1 ≤ gB n
  | 0 => Nat.le_refl _
  | n + 1 => by simp only [gB]; omega
structure GrowOk (rows : List Row) (is : List Int) (m : Nat) (f : Fm) : Prop where
  over : f.over rows
  holes : ∀ i ∈ f.flat, i ∈ is
  size : f.size ≤ gB m
  depth : f.depth ≤ m + 1
namespace Ab
def sp_grow (K : PySem.W.Frag) (n : Nat) : ASp := fun as M P _ => ∃ (d sg hs : Addr) (rows : List Row) (is : List Int) (m : Nat), as = [.ref d, .ref sg, .ref hs, .int (m : Int)] ∧ m < n ∧ M d = some .draws ∧ M sg = some (.lst (rowsA rows)) ∧ M hs = some (.lst (is.map .int)) ∧
  rows.length ≤ 100 ∧ is.length ≤ 10000 ∧ (∃ r ∈ rows, r.done = true ∧ r.places = 0) ∧ (∀ r ∈ rows, r.places ≤ 4) ∧ ∀ f : Fm, GrowOk rows is m f → P f.a M
end Ab
namespace Ab
theorem ln_grow {K : PySem.W.Frag} {n : Nat} (as : List A) (M : AM) (P : AK) (X : AX) : sp_grow K n as M P X → as.length = 4 := by rintro ⟨_, _, _, _, _, _, rfl, _⟩; rfl
end Ab
def sp_grow (K : PySem.W.Frag) (n : Nat) : Sp := lift K (Ab.sp_grow K n)
theorem len_grow {K : PySem.W.Frag} {n : Nat} {vs : List V} {H : Hp} {Q : VK} {E : XK} (h : sp_grow K n vs H Q E) : vs.length = 4 := lift_len Ab.ln_grow h
theorem no_grow {K : PySem.W.Frag} (vs : List V) (H : Hp) (Q : VK) (E : XK) : ¬ sp_grow K 0 vs H Q E := lift_no (fun as M P X h => by obtain ⟨_, _, _, _, _, _, _, h⟩ := h; omega) vs H Q E
def t_grow (K : PySem.W.Frag) (r : Sp) : TS := (tSeq (tIfS (tOr (tTest (tOp rEq (tVar 3) (tC (.int 0)))) (tTest (tOp rEq (tCall (sp_take K) [] E0 (tCons (tVar 0) (tCons (tC (.int 3)) tNil))) (tC (.int 0))))) (tSeq (tIfS (tAnd (tTest (tOp rGtI (tCB (rLenSeq K) (tCons (tVar 2) tNil)) (tC (.int 0)))) (tTest (tOp rLtI (tCall (sp_take K) [] E0 (tCons (tVar 0) (tCons (tC (.int 4)) tNil))) (tC (.int 3))))) (tRet (tOp (rIxL K) (tVar 2) (tCall (sp_take K) [] E0 (tCons (tVar 0) (tCons (tCB (rLenSeq K) (tCons (tVar 2) tNil)) tNil)))))
  tNext)
  (tRet (tTup (tCons (tOp (rIxL K) (tLc (iList K (tVar 1)) (gName 4) (tAnd (tB (tOp (rIxT K) (tVar 4) (tC (.int 3)))) (tTest (tOp rEq (tOp (rIxT K) (tVar 4) (tC (.int 1))) (tC (.int 0))))) (tOp (rIxT K) (tVar 4) (tC (.int 0))) [4]) (tC (.int 0))) tNil))))
  tNext)
  (tSeq (tAsg (tOp (rIxL K) (tVar 1) (tCall (sp_take K) [] E0 (tCons (tVar 0) (tCons (tCB (rLenSeq K) (tCons (tVar 1) tNil)) tNil)))) (gName 4))
  (tSeq (tAsg (tLc (iRng1 (tCons (tOp (rIxT K) (tVar 4) (tC (.int 1))) tNil)) (gName 6) tYes (tCall r [] E0 (tCons (tVar 0) (tCons (tVar 1) (tCons (tVar 2) (tCons (tOp rSubI (tVar 3) (tC (.int 1))) tNil))))) [6]) (gName 5))
  (tRet (tCB (rTupleOf K) (tCons (tOp rCat (tLst (tCons (tOp (rIxT K) (tVar 4) (tC (.int 0))) tNil)) (tVar 5)) tNil))))))
abbrev N_grow : List Str := ["_law_draws", "_law_signs_here", "_law_holes_here", "_law_depth", "_law_row", "_law_parts", "_law_k"]
namespace Ab
def t_grow (K : PySem.W.Frag) (r : ASp) : TS := (tSeq (tIfS (tOr (tTest (tOp rEq (tVar 3) (tC (.int 0)))) (tTest (tOp rEq (tCall (sp_take K) [] E0 (tCons (tVar 0) (tCons (tC (.int 3)) tNil))) (tC (.int 0))))) (tSeq (tIfS (tAnd (tTest (tOp rGtI (tCB (rLenSeq K) (tCons (tVar 2) tNil)) (tC (.int 0)))) (tTest (tOp rLtI (tCall (sp_take K) [] E0 (tCons (tVar 0) (tCons (tC (.int 4)) tNil))) (tC (.int 3))))) (tRet (tOp (rIxL K) (tVar 2) (tCall (sp_take K) [] E0 (tCons (tVar 0) (tCons (tCB (rLenSeq K) (tCons (tVar 2) tNil)) tNil)))))
  tNext)
  (tRet (tTup (tCons (tOp (rIxL K) (tLc (iList K (tVar 1)) (gName 4) (tAnd (tB (tOp (rIxT K) (tVar 4) (tC (.int 3)))) (tTest (tOp rEq (tOp (rIxT K) (tVar 4) (tC (.int 1))) (tC (.int 0))))) (tOp (rIxT K) (tVar 4) (tC (.int 0))) [4]) (tC (.int 0))) tNil))))
  tNext)
  (tSeq (tAsg (tOp (rIxL K) (tVar 1) (tCall (sp_take K) [] E0 (tCons (tVar 0) (tCons (tCB (rLenSeq K) (tCons (tVar 1) tNil)) tNil)))) (gName 4))
  (tSeq (tAsg (tLc (iRng1 (tCons (tOp (rIxT K) (tVar 4) (tC (.int 1))) tNil)) (gName 6) tYes (tCall r [] E0 (tCons (tVar 0) (tCons (tVar 1) (tCons (tVar 2) (tCons (tOp rSubI (tVar 3) (tC (.int 1))) tNil))))) [6]) (gName 5))
  (tRet (tCB (rTupleOf K) (tCons (tOp rCat (tLst (tCons (tOp (rIxT K) (tVar 4) (tC (.int 0))) tNil)) (tVar 5)) tNil))))))
end Ab
theorem rf_grow {K : PySem.W.Frag} {E : XK} {X : AX} {r : Sp} {ar : ASp} (hr : RSp K r ar) : RSt K E X (t_grow K r) (Ab.t_grow K ar) := by
  have br_take := @My.rsp_take K
  unfold My.t_grow Ab.t_grow
  walk_at "rf"
namespace Ab
theorem ab_grow {K : PySem.W.Frag} {n : Nat} {as : List A} {M : AM} {P : AK} {X : AX} (h : sp_grow K (n + 1) as M P X) : t_grow K (sp_grow K n) { nx := fun _ M' => Wk P .non M', rt := Wk P } (start N_grow as) M := by
  obtain ⟨d, sg, hs, rows, is, m, rfl, hm, hd, hsg, hhs, hr, hi, ⟨r0, hr0, hr1, hr2⟩, hpl, k⟩ := h
  unfold t_grow
  walk_at "ao"
  refine g_2 (fun c => ?r1) (fun c => ?_)
  rotate_left
  walk_at "ao"
  refine g_take hd (by decide) fun v v0 v1 => ?_
  walk_at "ao"
  refine g_2 (fun c => ?r2) (fun c2 => ?_)
  rotate_left
  case r1 | r2 =>
    walk_at "ao"
    have leaf : ∀ (s' : AS) (P' : AK), s' = [some (.ref d), some (.ref sg), some (.ref hs), some (.int (m : Int)), none, none, none] → (∀ r ∈ rows, r.places = 0 → ∀ M', Sub M M' → P' (.tup [.str r.name]) M') →
        tTup (tCons (tOp (rIxL K) (tLc (iList K (tVar 1)) (gName 4) (tAnd (tB (tOp (rIxT K) (tVar 4) (tC (A.int 3)))) (tTest (tOp rEq (tOp (rIxT K) (tVar 4) (tC (A.int 1))) (tC (A.int 0))))) (tOp (rIxT K) (tVar 4) (tC (A.int 0))) [4]) (tC (A.int 0))) tNil) s' M P' := by
      rintro _ P' rfl hP
      walk_at "ao"
      refine lc_typed (a := Row.a) (xs := rows) (fun r => r.done && decide ((r.places : Int) = 0)) (fun r => .str r.name) hsg (bigl (by omega)) (fun r hr Yes No hy hn => ?_) ?_
      · walk_at "ao"
        refine g_2 (fun c => ?_) (fun c => ?_)
        · walk_at "ao"
          refine g_2 (fun c2 => ?_) (fun c2 => ?_)
          · walk_at "ao"
            exact hy (by rw [c, c2]; rfl)
          · exact hn (by rw [c, c2]; rfl)
        · walk_at "ao"
          exact hn (by rw [c]; rfl)
      intro p hp
      walk_at "ao"
      obtain ⟨r1, rest, e⟩ : ∃ r1 rest, rows.filter (fun r => r.done && decide ((r.places : Int) = 0)) = r1 :: rest := by
        cases q : rows.filter (fun r => r.done && decide ((r.places : Int) = 0)) with
        | cons a b => exact ⟨a, b, rfl⟩
        | nil =>
          have : r0 ∈ rows.filter (fun r => r.done && decide ((r.places : Int) = 0)) := List.mem_filter.mpr ⟨hr0, by rw [hr1, hr2]; rfl⟩
          rw [q] at this
          cases this
      have hm1 : r1 ∈ rows.filter (fun r => r.done && decide ((r.places : Int) = 0)) := by rw [e]; exact List.mem_cons_self
      obtain ⟨h1, h2⟩ := List.mem_filter.mp hm1
      refine g_ixL aupd_same (v := .str r1.name) (by rw [e]; exact atI_nat (j := 0) rfl) ?_
      walk_at "ao"
      refine hP r1 h1 ?_ _ (Sub.put hp (Sub.refl _))
      have := Bool.and_eq_true_iff.mp h2
      have := of_decide_eq_true this.2
      omega
    have leafok : ∀ r ∈ rows, r.places = 0 → GrowOk rows is m (.node r.name []) := fun r hr hz =>
      ⟨⟨⟨r, hr, rfl, hz⟩, trivial⟩, by simp [Fm.flat, Fm.flats], by simp only [Fm.size, Fm.sizes]; exact gB_pos m, by simp [Fm.depth, Fm.depths]⟩
    refine g_2 (fun c => ?_) (fun c => ?_)
    · walk_at "ao"
      refine g_take hd (by decide) fun u u0 u1 => ?_
      walk_at "ao"
      refine g_2 (fun c => ?_) (fun c => ?_)
      · walk_at "ao"
        refine g_take hd (of_decide_eq_true (by assumption)) fun t t0 t1 => ?_
        rw [List.length_map] at t1
        walk_at "ao"
        refine g_it (f := A.int) (xs := is) hhs t0 t1 fun x hx _ => ?_
        refine wk (Sub.refl _) (k (.hole x) ⟨trivial, by simpa [Fm.flat] using hx, by simp only [Fm.size]; exact gB_pos m, by simp [Fm.depth]⟩)
      · iterate 2 walk_at "a1"
        exact leaf _ _ rfl fun r hr hz M' hM => wk hM (k _ (leafok r hr hz))
    · iterate 3 walk_at "a1"
      exact leaf _ _ rfl fun r hr hz M' hM => wk hM (k _ (leafok r hr hz))
  have hm0 : m ≠ 0 := by
    have c := of_decide_eq_false c
    omega
  walk_at "ao"
  refine g_take hd (by have := List.length_pos_of_mem hr0; rw [List.length_map]; omega) fun v v0 v1 => ?_
  rw [List.length_map] at v1
  walk_at "ao"
  refine g_it (f := Row.a) (xs := rows) hsg v0 v1 fun row hrow _ => ?_
  have hp4 := hpl row hrow
  walk_at "ao"
  refine ⟨by omega, by omega, lc_out Fm.a (GrowOk rows is (m - 1)) trivial (bigl (by rw [ints_len]; omega)) (fun i x hx Yes hy => ?_) fun fs hfs hG => ?_⟩
  · walk_at "ao"
    refine ⟨d, sg, hs, rows, is, m - 1, ?_, by omega, hd, hsg, hhs, hr, hi, ⟨r0, hr0, hr1, hr2⟩, hpl, fun f hf => hy f hf⟩
    have : ((m - 1 : Nat) : Int) = (m : Int) - 1 := by omega
    rw [this]
    rfl
  rw [ints_len] at hfs
  intro p hp
  walk_at "ao"
  intro q hq
  walk_at "ao"
  refine g_cat aupd_same (lk_new hq aupd_same) (big (by simp; omega)) ?_
  intro r hr'
  walk_at "ao"
  have hs3 : Sub M (aupd (aupd (aupd M p (.lst (fs.map Fm.a))) q (.lst [.str row.name])) r (.lst ([A.str row.name] ++ fs.map Fm.a))) := Sub.new hr' (Sub.new hq (Sub.put hp (Sub.refl _)))
  refine wk hs3 ?_
  have e : A.tup ([A.str row.name] ++ fs.map Fm.a) = (Fm.node row.name fs).a := by simp only [Fm.a, Fm.as_map]; rfl
  rw [e]
  have hlen : fs.length = row.places := by omega
  refine k (.node row.name fs) ⟨?_, ?_, ?_, ?_⟩
  · simp only [Fm.over]
    exact ⟨⟨row, hrow, rfl, hlen.symm⟩, Fm.overs_iff.mpr fun f hf => (hG f hf).over⟩
  · intro i hi'
    simp only [Fm.flat] at hi'
    obtain ⟨f, hf, h2⟩ := Fm.flats_mem.mp hi'
    exact (hG f hf).holes i h2
  · have h1 := Fm.sizes_le (B := gB (m - 1)) fun f hf => (hG f hf).size
    have h2 : m = (m - 1) + 1 := by omega
    rw [h2]
    simp only [Fm.size, gB]
    have : fs.length * gB (m - 1) ≤ 4 * gB (m - 1) := Nat.mul_le_mul_right _ (by omega)
    omega
  · have h1 := Fm.depths_le (B := m - 1 + 1) fun f hf => (hG f hf).depth
    simp only [Fm.depth]
    omega
end Ab
theorem rd_grow {K : PySem.W.Frag} {n : Nat} {vs : List V} {H : Hp} {Q : VK} {E : XK} (h : sp_grow K (n + 1) vs H Q E) : t_grow K (sp_grow K n) { nx := fun _ H' => Q .non H', rt := Q } (L2.start N_grow vs) H := rd_of (fun _ => rf_grow RSp.lift) (fun _ _ _ _ => Ab.ab_grow) h

abbrev ruleA (x : Fm × Fm) : A := .tup [x.1.a, x.2.a]
def Unlike (l m : Fm) : Prop := ∀ s ps qs, l = .node s ps → m = .node s qs → ∃ (j : Nat) (a b : Str) (as bs : List Fm), ps[j]? = some (.node a as) ∧ qs[j]? = some (.node b bs) ∧ a ≠ b
structure RuleG (rows : List Row) (x : Fm × Fm) : Prop where
  left : ∃ row look, row ∈ rows ∧ row.done = false ∧ LookOk row (rows.filter Row.done) look ∧ LeftOk row look x.1
  over : x.2.over rows
  sub : ∀ i ∈ x.2.flat, i ∈ x.1.flat
  size : x.2.size ≤ gB 2
  depth : x.2.depth ≤ 3
structure RulesOk (rows : List Row) (rules : List (Fm × Fm)) : Prop where
  ok : ∀ x ∈ rules, RuleG rows x
  un : rules.Pairwise fun x y => Unlike x.1 y.1
  most : rules.length ≤ 1000
theorem left_unlike {row : Row} {l m : Look} {f g : Fm} (hl : LeftOk row l f) (hm : LeftOk row m g) (ndl : (l.map (·.1)).Nodup) (ndm : (m.map (·.1)).Nodup) (hla : ∀ x ∈ l, x.1 < row.places) (h : Apart l m) : Unlike f g := by
  obtain ⟨k, r, s, hr, hs, hn⟩ := h
  obtain ⟨ps, rfl, hp1, hp2⟩ := hl.ex
  obtain ⟨qs, rfl, hq1, hq2⟩ := hm.ex
  rintro _ _ _ e1 e2
  cases e1
  cases e2
  have hk := hla _ hr
  dsimp only at hk
  have nd1 : ∀ (l : Look), (l.map (·.1)).Nodup → ∀ {k r r'}, (k, r) ∈ l → (k, r') ∈ l → r = r' := by
    intro l hnd k r r' h1 h2
    obtain ⟨i, e1⟩ := List.getElem?_of_mem h1
    obtain ⟨j, e2⟩ := List.getElem?_of_mem h2
    have f1 : (l.map (·.1))[i]? = some k := by rw [List.getElem?_map, e1]; rfl
    have f2 : (l.map (·.1))[j]? = some k := by rw [List.getElem?_map, e2]; rfl
    have := (List.getElem?_inj (List.getElem?_eq_some_iff.mp f1).1 hnd).mp (f1.trans f2.symm)
    subst this
    rw [e1] at e2
    cases e2
    rfl
  have sgn : ∀ {look : Look} {p : Fm} {r : Row}, (look.map (·.1)).Nodup → (k, r) ∈ look → PartOk look k p → ∃ as, p = .node r.name as := by
    intro look p r nd hr h
    rcases h with ⟨h1, _⟩ | ⟨r', is, h1, h2, _⟩
    · exact absurd hr (h1 r)
    · rw [nd1 look nd hr h1]
      exact ⟨_, h2⟩
  obtain ⟨p, hp⟩ : ∃ p, ps[k]? = some p := ⟨_, List.getElem?_eq_getElem (by omega)⟩
  obtain ⟨q, hq⟩ : ∃ q, qs[k]? = some q := ⟨_, List.getElem?_eq_getElem (by omega)⟩
  obtain ⟨as, ea⟩ := sgn ndl hr (hp2 _ _ hp)
  obtain ⟨bs, eb⟩ := sgn ndm hs (hq2 _ _ hq)
  rw [ea] at hp
  rw [eb] at hq
  exact ⟨k, r.name, s.name, as, bs, hp, hq, hn⟩
namespace Ab
def sp_rules (K : PySem.W.Frag) : ASp := fun as M P _ => ∃ (d sg : Addr) (rows : List Row) (nms : List Str) (ways : Int), as = [.ref d, .ref sg, .int ways] ∧ M d = some .draws ∧ M sg = some (.lst (rowsA rows)) ∧ SgOk nms rows ∧ 0 < ways ∧
  ∀ (rules : List (Fm × Fm)) (p : Addr), M p = none → RulesOk rows rules → (ways ≤ 3 → rules.length ≤ (1 + (rows.filter Row.done).length) * (rows.filter fun r => !r.done).length) → P (.ref p) (aupd M p (.lst (rules.map ruleA)))
theorem g_looks {K : PySem.W.Frag} {M : AM} {P : AK} {X : AX} {d dn : Addr} {ways : Int} (row : Row) (dones : List Row) (hd : M d = some .draws) (hdn : M dn = some (.lst (rowsA dones))) (hw : 0 < ways) (ok : row.ok) (nd : (dones.map Row.name).Nodup) (hl : dones.length ≤ 10)
    (k : ∀ (looks : List Look) (p : Addr) (M' : AM), Sub M M' → LL M M' p looks → LooksOk row dones looks → (ways ≤ 3 → looks.length ≤ 1 + dones.length) → P (.ref p) M') : sp_looks K ([.ref d, row.a, .ref dn, .int ways] ++ []) M P X := ⟨d, dn, row, dones, ways, rfl, hd, hdn, hw, ok, nd, hl, k⟩
end Ab
namespace Ab
theorem ln_rules {K : PySem.W.Frag} (as : List A) (M : AM) (P : AK) (X : AX) : sp_rules K as M P X → as.length = 3 := by rintro ⟨_, _, _, _, _, rfl, _⟩; rfl
end Ab
def sp_rules (K : PySem.W.Frag) : Sp := lift K (Ab.sp_rules K)
theorem len_rules {K : PySem.W.Frag} {vs : List V} {H : Hp} {Q : VK} {E : XK} (h : sp_rules K vs H Q E) : vs.length = 3 := lift_len Ab.ln_rules h
def t_rules (K : PySem.W.Frag) : TS := (tSeq (tAsg (tLc (iList K (tVar 1)) (gName 3) (tB (tOp (rIxT K) (tVar 3) (tC (.int 3)))) (tVar 3) [3]) (gName 4))
  (tSeq (tAsg (tLst tNil) (gName 5))
  (tSeq (tFor (iList K (tLc (iList K (tVar 1)) (gName 8) (tNot (tB (tOp (rIxT K) (tVar 8) (tC (.int 3))))) (tVar 8) [8])) (gName 3)
  (tFor (iList K (tCall (sp_looks K) [] E0 (tCons (tVar 0) (tCons (tVar 3) (tCons (tVar 4) (tCons (tVar 2) tNil)))))) (gName 6)
  (tSeq (tAsg (tCall (sp_left K) [] E0 (tCons (tVar 0) (tCons (tVar 3) (tCons (tVar 6) tNil)))) (gName 7))
  (tDrop (tBM K "list" rAppend (tVar 5) (tCons (tTup (tCons (tVar 7) (tCons (tCall (sp_grow K 7) [] E0 (tCons (tVar 0) (tCons (tVar 1) (tCons (tCall (sp_lholes K 6) [] E0 (tCons (tVar 7) tNil)) (tCons (tC (.int 2)) tNil))))) tNil))) tNil))))))
  (tRet (tVar 5)))))
abbrev N_rules : List Str := ["_law_draws", "_law_signs_here", "_law_ways", "_law_row", "_law_done_here", "_law_rules_here", "_law_looks_here", "_law_left_here", "_law_own"]
namespace Ab
def t_rules (K : PySem.W.Frag) : TS := (tSeq (tAsg (tLc (iList K (tVar 1)) (gName 3) (tB (tOp (rIxT K) (tVar 3) (tC (.int 3)))) (tVar 3) [3]) (gName 4))
  (tSeq (tAsg (tLst tNil) (gName 5))
  (tSeq (tFor (iList K (tLc (iList K (tVar 1)) (gName 8) (tNot (tB (tOp (rIxT K) (tVar 8) (tC (.int 3))))) (tVar 8) [8])) (gName 3)
  (tFor (iList K (tCall (sp_looks K) [] E0 (tCons (tVar 0) (tCons (tVar 3) (tCons (tVar 4) (tCons (tVar 2) tNil)))))) (gName 6)
  (tSeq (tAsg (tCall (sp_left K) [] E0 (tCons (tVar 0) (tCons (tVar 3) (tCons (tVar 6) tNil)))) (gName 7))
  (tDrop (tBM K "list" rAppend (tVar 5) (tCons (tTup (tCons (tVar 7) (tCons (tCall (sp_grow K 7) [] E0 (tCons (tVar 0) (tCons (tVar 1) (tCons (tCall (sp_lholes K 6) [] E0 (tCons (tVar 7) tNil)) (tCons (tC (.int 2)) tNil))))) tNil))) tNil))))))
  (tRet (tVar 5)))))
end Ab
theorem rf_rules {K : PySem.W.Frag} {E : XK} {X : AX} : RSt K E X (t_rules K) (Ab.t_rules K) := by
  have br_take := @My.rsp_take K
  unfold My.t_rules Ab.t_rules
  walk_at "rf"
namespace Ab
theorem ab_rules {K : PySem.W.Frag} {as : List A} {M : AM} {P : AK} {X : AX} (h : sp_rules K as M P X) : t_rules K { nx := fun _ M' => Wk P .non M', rt := Wk P } (start N_rules as) M := by
  obtain ⟨d, sg, rows, nms, ways, rfl, hd, hsg, ok, hw, k⟩ := h
  have hl6 := ok.most
  unfold t_rules
  walk_at "ao"
  refine lc_typed (a := Row.a) (xs := rows) Row.done Row.a hsg (bigl (by omega)) (fun r hr Yes No hy hn => ?_) ?_
  · walk_at "ao"
    refine g_2 (fun c => ?_) (fun c => ?_)
    · walk_at "ao"
      exact hy c
    · exact hn c
  intro dn hdn
  walk_at "ao"
  intro p0 hp0
  walk_at "ao"
  have hs1 : Sub M (aupd M dn (.lst (rowsA (rows.filter Row.done)))) := Sub.put hdn (Sub.refl _)
  refine lc_typed (a := Row.a) (xs := rows) (fun r => !r.done) Row.a (lk_new hp0 (hs1.at hsg)) (bigl (by omega)) (fun r hr Yes No hy hn => ?_) ?_
  · walk_at "ao"
    refine g_2 (fun c => ?_) (fun c => ?_)
    · walk_at "ao"
      exact hy c
    · exact hn c
  intro nd hnd
  walk_at "ao"
  -- what stays
  obtain ⟨hnp, hnd1⟩ := lk_none hnd
  obtain ⟨hnd0, hndM⟩ := lk_none hnd1
  obtain ⟨hpd, hpM⟩ := lk_none hp0
  have hdnM := hdn
  generalize hB : (aupd (aupd M dn (.lst ((rows.filter Row.done).map Row.a))) nd (.lst ((rows.filter fun r => !r.done).map Row.a))) = B
  have sB : Sub M B := by rw [← hB]; exact Sub.put hndM (Sub.put hdn (Sub.refl _))
  have Bdn : B dn = some (.lst (rowsA (rows.filter Row.done))) := by rw [← hB]; exact lk_ne (Ne.symm hnd0) aupd_same
  have Bnd : B nd = some (.lst (rowsA (rows.filter fun r => !r.done))) := by rw [← hB]; exact aupd_same
  have Bp : B p0 = none := by rw [← hB, aupd_ne (Ne.symm hnp), aupd_ne hpd]; exact hpM
  have dnd : ((rows.filter Row.done).map Row.name).Nodup := ok.nd.sublist (List.filter_sublist.map _)
  have nnd : ((rows.filter fun r => !r.done).map Row.name).Nodup := ok.nd.sublist (List.filter_sublist.map _)
  have dlen : (rows.filter Row.done).length ≤ 6 := Nat.le_trans (List.length_filter_le _ _) hl6
  have nlen : (rows.filter fun r => !r.done).length ≤ 6 := Nat.le_trans (List.length_filter_le _ _) hl6
  generalize hD : rows.filter Row.done = dones at *
  generalize hN : (rows.filter fun r => !r.done) = nds at *
  refine for_ (fun i s M' => ∃ (o3 o6 o7 : Option A) (rules : List (Fm × Fm)), s = [some (.ref d), some (.ref sg), some (.int ways), o3, some (.ref dn), some (.ref p0), o6, o7, none] ∧ Sub B M' ∧ M' p0 = some (.lst (rules.map ruleA)) ∧
      (∀ x ∈ rules, RuleG rows x ∧ ∃ j row, j < i ∧ nds[j]? = some row ∧ ∃ ps, x.1 = .node row.name ps) ∧ rules.Pairwise (fun x y => Unlike x.1 y.1) ∧ rules.length ≤ 50 * i ∧ (ways ≤ 3 → rules.length ≤ (1 + dones.length) * i)) ?_ ?_ ?_ ?_
  · refine ⟨_, _, _, [], rfl, ?_, lk_ne (Ne.symm hnp) aupd_same, by simp, List.Pairwise.nil, by simp, fun _ => by simp⟩
    rw [← hB]
    intro a o e
    by_cases z1 : a = nd
    · rw [z1] at e ⊢
      rw [aupd_same] at e ⊢
      exact e
    · rw [aupd_ne z1] at e ⊢
      by_cases z2 : a = dn
      · rw [z2] at e ⊢
        rw [aupd_ne (fun z => hpd z.symm), aupd_same]
        rw [aupd_same] at e
        exact e
      · rw [aupd_ne z2] at e
        rw [aupd_ne (ne_of_anone e hpM), aupd_ne z2]
        exact e
  · rintro i s M' _ ⟨o3, o6, o7, rules, rfl, hs, _⟩
    exact hs.at Bnd
  · rintro i x s M' hi ⟨o3, o6, o7, rules, rfl, hs, hp, hru, hun, hlen, hfw⟩
    obtain ⟨row, hrow, rfl⟩ := getA hi
    have hrm : row ∈ rows ∧ row.done = false := by
      have := List.mem_of_getElem? hrow
      rw [← hN] at this
      obtain ⟨h1, h2⟩ := List.mem_filter.mp this
      exact ⟨h1, by simpa using h2⟩
    have hrok := ok.ok row hrm.1
    have hi6 : i < nds.length := (List.getElem?_eq_some_iff.mp hrow).1
    walk_at "ao"
    refine g_looks row dones (hs.at (sB.at hd)) (hs.at Bdn) hw hrok dnd (by omega) fun looks q M3 s3 hL hok hlf => ?_
    obtain ⟨q0, qs, qs0, hq, hql, hqn, hqi⟩ := hL
    have hqp : q ≠ p0 := fun z => by rw [z, hp] at q0; cases q0
    have hlk : looks.length ≤ 37 := Nat.le_trans hok.most (by
      have : dones.length * dones.length ≤ 6 * 6 := Nat.mul_le_mul dlen dlen
      omega)
    walk_at "ao"
    have s3' : Sub B (adel M3 p0) := adel_of (hs.trans s3) Bp
    refine for_ (fun j s M2 => ∃ (o6 o7 : Option A) (news : List (Fm × Fm)), s = [some (.ref d), some (.ref sg), some (.int ways), some row.a, some (.ref dn), some (.ref p0), o6, o7, none] ∧ Sub (adel M3 p0) M2 ∧ M2 p0 = some (.lst ((rules ++ news).map ruleA)) ∧ news.length = j ∧
        ∀ (k : Nat) (x : Fm × Fm), news[k]? = some x → RuleG rows x ∧ ∃ l, looks[k]? = some l ∧ LeftOk row l x.1) ?_ ?_ ?_ ?_
    · exact ⟨_, _, [], rfl, adel_sub, by rw [List.append_nil]; exact s3.at hp, rfl, by simp⟩
    · rintro j s M2 _ ⟨o6, o7, news, rfl, hs2, _⟩
      exact hs2.at (adel_at hq hqp)
    · rintro j x s M2 hj ⟨o6, o7, news, rfl, hs2, hp2, rfl, hnw⟩
      obtain ⟨q1, hq1, rfl⟩ := getA hj
      have hjl : news.length < looks.length := by rw [← hql]; exact (List.getElem?_eq_some_iff.mp hq1).1
      obtain ⟨l, hl⟩ : ∃ l, looks[news.length]? = some l := ⟨_, List.getElem?_eq_getElem hjl⟩
      have hlm := List.mem_of_getElem? hl
      have hlok := hok.ok l hlm
      have hq1p : q1 ≠ p0 := fun z => by have := qs0 q1 (List.mem_of_getElem? hq1); rw [z, hp] at this; cases this
      have hq1m := hs2.at (adel_at (hqi _ _ _ hq1 hl) hq1p)
      have hB2 := s3'.trans hs2
      have hl10 : l.length ≤ 4 := by
        have h1 : ∀ k ∈ l.map (·.1), k < row.places := fun k hk => by
          obtain ⟨x, hx, rfl⟩ := List.mem_map.mp hk
          exact hrok.lt _ (hlok.at_ x hx).1
        have := nodup_lt_length _ _ hlok.nd h1
        rw [List.length_map] at this
        exact Nat.le_trans this hrok.pl
      walk_at "ao"
      refine ⟨d, q1, row, l, rfl, hB2.at (sB.at hd), hq1m, hrok.pl, hlok.nd, by omega, fun x hx => ?_, fun f hf => ?_⟩
      · have := (hlok.at_ x hx).2
        rw [← hD] at this
        obtain ⟨h1, h2⟩ := List.mem_filter.mp this
        exact (ok.three _ h1).2 h2
      walk_at "ao"
      obtain ⟨ps, hf1, hf2, hf3⟩ := hf.ex
      have pdep : ∀ p ∈ ps, p.depth ≤ 2 ∧ p.size ≤ 10 := by
        intro p hp
        obtain ⟨k, hk⟩ := List.getElem?_of_mem hp
        rcases hf3 k p hk with ⟨_, n, rfl, _⟩ | ⟨r, is, hr, rfl, hl2, _⟩
        · exact ⟨by simp [Fm.depth], by simp [Fm.size]⟩
        · have hr3 := (hlok.at_ _ hr).2
          rw [← hD] at hr3
          have hr4 := (ok.three _ (List.mem_filter.mp hr3).1).1
          have h1 : Fm.depths (is.map Fm.hole) ≤ 1 := Fm.depths_le fun p hp => by
            obtain ⟨n, _, rfl⟩ := List.mem_map.mp hp
            simp [Fm.depth]
          have h2 : Fm.sizes (is.map Fm.hole) ≤ (is.map Fm.hole).length * 1 := Fm.sizes_le fun p hp => by
            obtain ⟨n, _, rfl⟩ := List.mem_map.mp hp
            simp [Fm.size]
          rw [List.length_map] at h2
          dsimp only at hr4
          exact ⟨by simp only [Fm.depth]; omega, by simp only [Fm.size]; omega⟩
      have fdep : f.depth ≤ 3 := by
        rw [hf1]
        have := Fm.depths_le fun p hp => (pdep p hp).1
        simp only [Fm.depth]
        omega
      have fsize : f.size ≤ 100 := by
        rw [hf1]
        have := Fm.sizes_le fun p hp => (pdep p hp).2
        have := hrok.pl
        simp only [Fm.size]
        omega
      have fl := Fm.flat_len f
      refine ⟨f, rfl, by omega, by omega, fun hp3 hp3n => ?_⟩
      walk_at "ao"
      refine ⟨d, sg, hp3, rows, f.flat, 2, rfl, by omega, lk_new hp3n (hB2.at (sB.at hd)), lk_new hp3n (hB2.at (sB.at hsg)), aupd_same, by omega, by omega, ok.leaf, fun r hr => (ok.ok r hr).pl, fun g hg => ?_⟩
      walk_at "ao"
      refine g_append (lk_new hp3n hp2) (bigl (by simp; omega)) ?_
      refine ⟨_, _, news ++ [(f, g)], rfl, ?_, by rw [aupd_same]; simp, by simp, fun k x hk => ?_⟩
      · refine Sub.put adel_none (Sub.new hp3n hs2)
      · by_cases z : k < news.length
        · rw [List.getElem?_append_left z] at hk
          exact hnw k x hk
        · have z2 : k = news.length := by
            have := (List.getElem?_eq_some_iff.mp hk).1
            simp at this
            omega
          subst z2
          simp at hk
          subst hk
          exact ⟨⟨⟨row, l, hrm.1, hrm.2, by rw [hD]; exact hlok, hf⟩, hg.over, hg.holes, hg.size, hg.depth⟩, l, hl, hf⟩
    · rintro s M2 ⟨o6, o7, news, rfl, hs2, hp2, hnl, hnw⟩
      rw [List.length_map, hql] at hnl
      refine ⟨_, _, _, rules ++ news, rfl, s3'.trans hs2, hp2, fun x hx => ?_, ?_, by rw [List.length_append]; omega, fun z => by have h1 := hfw z; have h2 := hlf z; rw [List.length_append, Nat.mul_add]; omega⟩
      · rcases List.mem_append.mp hx with z | z
        · obtain ⟨h1, j, row', h2, h3⟩ := hru x z
          exact ⟨h1, j, row', by omega, h3⟩
        · obtain ⟨k, hk⟩ := List.getElem?_of_mem z
          obtain ⟨h1, l, h2, h3⟩ := hnw k x hk
          obtain ⟨ps, h4, _⟩ := h3.ex
          exact ⟨h1, i, row, by omega, hrow, ps, h4⟩
      · refine List.pairwise_append.mpr ⟨hun, ?_, fun x hx y hy => ?_⟩
        · refine List.pairwise_iff_getElem.mpr fun a b ha hb hab => ?_
          obtain ⟨_, l, h2, h3⟩ := hnw a _ (List.getElem?_eq_getElem ha)
          obtain ⟨_, m, h4, h5⟩ := hnw b _ (List.getElem?_eq_getElem hb)
          obtain ⟨la, el⟩ := List.getElem?_eq_some_iff.mp h2
          obtain ⟨lb, em⟩ := List.getElem?_eq_some_iff.mp h4
          have hap := List.pairwise_iff_getElem.mp hok.ap a b la lb hab
          rw [el, em] at hap
          have ol := hok.ok l (List.mem_of_getElem? h2)
          have om := hok.ok m (List.mem_of_getElem? h4)
          exact left_unlike h3 h5 ol.nd om.nd (fun x hx => hrok.lt _ (ol.at_ x hx).1) hap
        · obtain ⟨_, j, row', h2, h3, ps, h4⟩ := hru x hx
          obtain ⟨k, hk⟩ := List.getElem?_of_mem hy
          obtain ⟨_, l, _, h5⟩ := hnw k y hk
          obtain ⟨qs', h6, _⟩ := h5.ex
          intro s' p1 p2 e1 e2
          rw [h4] at e1
          rw [h6] at e2
          cases e1
          injection e2 with e3 e4
          exact absurd e3.symm (nodup_ne nnd h2 h3 hrow)
  · rintro s M' ⟨o3, o6, o7, rules, rfl, hs, hp, hru, hun, hlen, hfw⟩
    rw [List.length_map] at hlen
    walk_at "ao"
    refine wk ?_ (k rules p0 hpM ⟨fun x hx => (hru x hx).1, hun, by omega⟩ (fun z => by have := hfw z; rw [List.length_map] at this; exact this))
    intro a o e
    by_cases z : a = p0
    · rw [z] at e ⊢
      rw [aupd_same] at e
      rw [← e]
      exact hp
    · rw [aupd_ne z] at e
      exact hs.at (sB.at e)
end Ab
theorem rd_rules {K : PySem.W.Frag} {vs : List V} {H : Hp} {Q : VK} {E : XK} (h : sp_rules K vs H Q E) : t_rules K { nx := fun _ H' => Q .non H', rt := Q } (L2.start N_rules vs) H := rd_of (fun _ => rf_rules) (fun _ _ _ _ => Ab.ab_rules) h

def mem2 (d r : Addr) (nms : List Str) : AM := aupd (aupd (fun _ => none) r (.lst (nms.map .str))) d .draws
theorem mem2_d {d r : Addr} {nms : List Str} : mem2 d r nms d = some .draws := aupd_same
theorem mem2_r {d r : Addr} {nms : List Str} (n : r ≠ d) : mem2 d r nms r = some (.lst (nms.map .str)) := by unfold mem2; rw [aupd_ne n, aupd_same]
abbrev F0 : Hp := fun _ => none
theorem rep_mem2 {K : PySem.W.Frag} {H : Hp} {d r : Addr} {nms : List Str} (hd : Dr H d) (hn : Nms H d r nms) : Rep K F0 H (mem2 d r nms) := by
  have nrd : r ≠ d := fun z => hn.ne (by rw [z]; exact List.mem_singleton.mpr rfl)
  refine ⟨fun a o e => ?_, fun a o e => nomatch e⟩
  by_cases z : a = d
  · subst z
    rw [mem2_d] at e
    cases e
    exact hd
  · unfold mem2 at e
    rw [aupd_ne z] at e
    by_cases z2 : a = r
    · subst z2
      rw [aupd_same] at e
      cases e
      exact ⟨_, hn.at_, RL.strs⟩
    · rw [aupd_ne z2] at e
      cases e

def t_language_R (K : PySem.W.Frag) : TS := (tSeq (tAsg (tCall (sp_signs K) [] E0 (tCons (tVar 3) (tCons (tVar 2) tNil))) (gName 4))
  (tRet (tTup (tCons (tVar 3) (tCons (tVar 2) (tCons (tVar 4) (tCons (tCall (sp_rules K) [] E0 (tCons (tVar 3) (tCons (tVar 4) (tCons (tVar 1) tNil)))) tNil)))))))
namespace Ab
def t_language_R (K : PySem.W.Frag) : TS := (tSeq (tAsg (tCall (sp_signs K) [] E0 (tCons (tVar 3) (tCons (tVar 2) tNil))) (gName 4))
  (tRet (tTup (tCons (tVar 3) (tCons (tVar 2) (tCons (tVar 4) (tCons (tCall (sp_rules K) [] E0 (tCons (tVar 3) (tCons (tVar 4) (tCons (tVar 1) tNil)))) tNil)))))))
end Ab
def t_language (K : PySem.W.Frag) : TS := (tSeq (tAsg (tCall (sp_names K) [] E0 (tCons (tSl (rSlL K) (tVar 0) tNoPart (tPart (tC (.int 1)))) tNil)) (gName 2))
  (tSeq (tAsg (tCall (sp_stream K) [] E0 (tCons (tSl (rSlL K) (tVar 0) (tPart (tC (.int 1))) tNoPart) tNil)) (gName 3))
  (t_language_R K)))
abbrev N_language : List Str := ["_law_script", "_law_ways", "_law_names_here", "_law_draws", "_law_signs_here"]
theorem rf_language_R {K : PySem.W.Frag} {E : XK} {X : AX} : RSt K E X (t_language_R K) (Ab.t_language_R K) := by
  unfold My.t_language_R Ab.t_language_R
  walk_at "rf"
structure Lang (M : AM) (d r sg rl : Addr) (nms : List Str) (rows : List Row) (rules : List (Fm × Fm)) : Prop where
  d : M d = some .draws
  r : M r = some (.lst (nms.map .str))
  sg : M sg = some (.lst (rowsA rows))
  rl : M rl = some (.lst (rules.map ruleA))
  nm : NmOk nms
  ok : SgOk nms rows
  ru : RulesOk rows rules
def sp_language (K : PySem.W.Frag) : Sp := fun vs H Q _ => ∃ (a : Addr) (ns : List Int) (w : Int), vs = [.ref a, .int w] ∧ SqL K H a (ns.map V.int) ∧ ns.length ≤ 63 ∧ 0 < w ∧
  ∀ (v : V) (H' : Hp) (M : AM) (d r sg rl : Addr) (nms : List Str) (rows : List Row) (rules : List (Fm × Fm)), Rep K F0 H' M → RV H' (.tup [.ref d, .ref r, .ref sg, .ref rl]) v → Lang M d r sg rl nms rows rules → Q v H'
theorem len_language {K : PySem.W.Frag} {vs : List V} {H : Hp} {Q : VK} {E : XK} (h : sp_language K vs H Q E) : vs.length = 2 := by obtain ⟨_, _, _, rfl, _⟩ := h; rfl
theorem Ab.ab_language_R {K : PySem.W.Frag} {M : AM} {P : AK} {d r : Addr} {nms : List Str} {w : Int} (hd : M d = some .draws) (hr : M r = some (.lst (nms.map .str))) (ok : NmOk nms) (hw : 0 < w)
    (k : ∀ (M' : AM) (sg rl : Addr) (rows : List Row) (rules : List (Fm × Fm)), Lang M' d r sg rl nms rows rules → P (.tup [.ref d, .ref r, .ref sg, .ref rl]) M') :
    Ab.t_language_R K { nx := fun _ M' => P .non M', rt := P } [none, some (.int w), some (.ref r), some (.ref d), none] M := by
  unfold Ab.t_language_R
  walk_at "ao"
  refine ⟨d, r, nms, rfl, hd, hr, ok, fun rows sg hsg hok => ?_⟩
  walk_at "ao"
  refine ⟨d, sg, rows, nms, w, rfl, Ab.lk_new hsg hd, aupd_same, hok, hw, fun rules rl hrl hru _ => ?_⟩
  walk_at "ao"
  exact k _ sg rl rows rules ⟨Ab.lk_new hrl (Ab.lk_new hsg hd), Ab.lk_new hrl (Ab.lk_new hsg hr), Ab.lk_new hrl aupd_same, aupd_same, ok, hok, hru⟩
theorem rd_language {K : PySem.W.Frag} {vs : List V} {H : Hp} {Q : VK} {E : XK} (h : sp_language K vs H Q E) : t_language K { nx := fun _ H' => Q .non H', rt := Q } (L2.start N_language vs) H := by
  obtain ⟨a, ns, w, rfl, hS, h63, hw, k⟩ := h
  unfold t_language
  walk_at "go"
  refine g_slL hS fun p1 H1 hp1 c1 h1 => ?_
  walk_at "go"
  refine ⟨p1, ns.take 1, rfl, .inl (.inl (by rw [h1, cut_head])), by simp; omega, fun r H2 nms hr c2 h2 ok => ?_⟩
  walk_at "go"
  refine g_slL ((c1.trans c2).same.seq hS) fun p3 H3 hp3 c3 h3 => ?_
  walk_at "go"
  refine ⟨p3, ns.drop 1, rfl, .inl (.inl (by rw [h3, cut_tail])), by simp; omega, fun d H4 hd4 c4 hd => ?_⟩
  have hr4 := (c3.trans c4).at h2
  have rd : r ∉ [d] := by
    intro z
    have := c3.at h2
    rw [List.mem_singleton.mp z, hd4] at this
    cases this
  have hn : Nms H4 d r nms := ⟨hr4, ok, rd⟩
  have nrd : r ≠ d := fun z => rd (by rw [z]; exact List.mem_singleton.mpr rfl)
  refine (rf_language_R (E := L2.E0) (X := Ab.E0)).run F0 _ H4 [none, some (.int w), some (.ref r), some (.ref d), none] (mem2 d r nms) _ _ XOk.no ?_ (rep_mem2 hd hn) (Ab.ab_language_R mem2_d (mem2_r nrd) ok hw (P := fun a M => ∃ (sg rl : Addr) (rows : List Row) (rules : List (Fm × Fm)), a = .tup [.ref d, .ref r, .ref sg, .ref rl] ∧ Lang M d r sg rl nms rows rules) fun M' sg rl rows rules hL => ⟨sg, rl, rows, rules, rfl, hL⟩) ⟨?_, ?_, fun _ _ _ _ h => h.elim, fun _ _ _ _ h => h.elim⟩
  · exact RS.skip (RS.keep (RV.int_iff.mpr rfl) (RS.keep (RV.ref_iff.mpr rfl) (RS.keep (RV.ref_iff.mpr rfl) (RS.skip RS.nil))))
  · rintro _ _ _ _ ⟨_, _, _, _, e, _⟩
    cases e
  · rintro x M' v H' ⟨sg, rl, rows, rules, rfl, hL⟩ rp rv _
    exact k v H' M' d r sg rl nms rows rules rp rv hL

def t_holes (K : PySem.W.Frag) (r : Sp) : TS := (tSeq (tIfS (tB (tCB (rIsi K) (tCons (tVar 0) (tCons (tC (.ty "int")) tNil)))) (tRet (tLst (tCons (tVar 0) tNil)))
  tNext)
  (tSeq (tAsg (tLst tNil) (gName 1))
  (tSeq (tFor (iTup K (tSl (rSlT K) (tVar 0) (tPart (tC (.int 1))) tNoPart)) (gName 2)
  (tAug 1 (tLc (iList K (tCall r [] E0 (tCons (tVar 2) tNil))) (gName 3) (tTest (tOp (rIn K true) (tVar 3) (tVar 1))) (tVar 3) [3]) rExt2))
  (tRet (tVar 1)))))
abbrev N_holes : List Str := ["form", "found", "part", "hole"]
def sp_holes (K : PySem.W.Frag) (n : Nat) : Sp := fun vs H Q _ => ∃ (v : V) (f : Fm), vs = [v] ∧ IsF H f v ∧ f.size ≤ 1000 ∧ f.depth ≤ n ∧ ∀ (p : Addr) (H' : Hp), H p = none → Ext H H' → H' p = some (.lst (f.hs.map V.int)) → Q (.ref p) H'
theorem len_holes {K : PySem.W.Frag} {n : Nat} {vs : List V} {H : Hp} {Q : VK} {E : XK} (h : sp_holes K n vs H Q E) : vs.length = 1 := by obtain ⟨_, _, rfl, _⟩ := h; rfl
theorem no_holes {K : PySem.W.Frag} (vs : List V) (H : Hp) (Q : VK) (E : XK) : ¬ sp_holes K 0 vs H Q E := by
  rintro ⟨_, f, _, _, _, h, _⟩
  have := f.depth_pos
  omega
theorem rd_holes {K : PySem.W.Frag} {n : Nat} {vs : List V} {H : Hp} {Q : VK} {E : XK} (h : sp_holes K (n + 1) vs H Q E) : t_holes K (sp_holes K n) { nx := fun _ H' => Q .non H', rt := Q } (start N_holes vs) H := by
  obtain ⟨v, f, rfl, hf, hz, hn, k⟩ := h
  unfold t_holes
  walk_at "go"
  refine g_isiF hf ?_
  walk_at "go"
  cases f with
  | hole m =>
    show (if true = true then _ else _)
    obtain rfl := IsF.hole.mp hf
    walk_at "go"
    refine g_newL (big (by simp)) fun p H1 hp c1 h1 => ?_
    exact k p H1 hp c1 (by rw [h1]; simp [Fm.hs, Fm.flat, ded])
  | node s ps =>
    show (if false = true then _ else _)
    simp only [Fm.size] at hz
    simp only [Fm.depth] at hn
    walk_at "go"
    refine g_newL (big (by simp)) fun p H1 hp c1 h1 => ?_
    walk_at "go"
    refine g_parts (hf.up c1) fun q H2 ws hq c2 h2 hw => ?_
    have hl := hw.length
    have hfl := Fm.flats_len ps
    have tk : ∀ i, (Fm.flats (ps.take i)).length ≤ Fm.sizes ps := by
      intro i
      have : Fm.flats (ps.take i ++ ps.drop i) = Fm.flats ps := by rw [List.take_append_drop]
      rw [Fm.flats_app] at this
      have := congrArg List.length this
      rw [List.length_append] at this
      omega
    refine g_forT (xs := ws) (.inl (.inl h2)) (fun i σ H' => ∃ (o2 : Option V), σ = [some v, some (.ref p), o2, none] ∧ Chg [p] H2 H' ∧ Ext H H' ∧ H' p = some (.lst ((ded [] (Fm.flats (ps.take i))).map V.int))) ⟨none, rfl, Chg.refl _, c1.trans c2, by rw [c2.at h1]; simp [Fm.flats, ded]⟩ (fun i σ H' _ ⟨_, _, c, _⟩ => .inl (.inl (c.tp _ _ h2))) ?_ ?_
    · rintro i x σ H' hi ⟨o2, rfl, c, c0, hp'⟩
      obtain ⟨f, hf1, hf2⟩ := hw.get hi
      have hmem := List.mem_of_getElem? hf1
      have hd1 := Fm.depth_mem hmem
      have hs1 : f.size ≤ Fm.sizes ps := by
        have h0 : Fm.sizes (ps.take i ++ ps.drop i) = Fm.sizes ps := by rw [List.take_append_drop]
        have hi2 : i < ps.length := (List.getElem?_eq_some_iff.mp hf1).1
        rw [Fm.sizes_append, List.drop_eq_getElem_cons hi2] at h0
        rw [List.getElem?_eq_getElem hi2] at hf1
        rw [← Option.some.inj hf1]
        simp only [Fm.sizes] at h0
        omega
      walk_at "go"
      try refine g_aug rfl ?_
      walk_at "go"
      refine ⟨x, f, rfl, hf2.up c, by omega, by omega, fun r H3 hr c3 h3 => ?_⟩
      refine g_lcL (S := []) (xs := f.hs.map V.int) (.inl (.inl h3)) (fun _ z => nomatch z) (fun j acc _ => acc = ((f.hs.take j).filter fun x => !decide (x ∈ ded [] (Fm.flats (ps.take i)))).map V.int) (fun _ _ _ _ _ _ _ q => q) (fun _ _ => rfl) (fun _ _ H' c _ => .inl (.inl (c.at h3)))
        (fun j acc _ e => bigl (by
          have := f.hs_len
          have h5 := List.length_filter_le (fun x => !decide (x ∈ ded [] (Fm.flats (ps.take i)))) (f.hs.take j)
          rw [e, List.length_map]
          simp at h5
          omega)) (fun j y hj acc H4 Yes No c4 e yes no => ?_) (fun r5 acc H5 hr5 c5 h5 e => ?_)
      · obtain ⟨m, hm, rfl⟩ := ints_get hj
        have e : acc = ((f.hs.take j).filter fun x => !decide (x ∈ ded [] (Fm.flats (ps.take i)))).map V.int := e
        have et : f.hs.take (j + 1) = f.hs.take j ++ [m] := by rw [List.take_add_one, hm]; rfl
        walk_at "go"
        refine g_notInI (c4.at (c3.at hp')) ?_
        walk_at "go"
        by_cases hmm : m ∈ ded [] (Fm.flats (ps.take i))
        · rw [decide_eq_true hmm]
          refine g_fa (no _ (Chg.refl _) ?_)
          show acc = ((f.hs.take (j + 1)).filter fun x => !decide (x ∈ ded [] (Fm.flats (ps.take i)))).map V.int
          rw [e, et, List.filter_append]
          simp [hmm]
        · rw [decide_eq_false hmm]
          refine g_tr ?_
          walk_at "go"
          refine yes _ _ (Chg.refl _) ?_
          show acc ++ [_] = ((f.hs.take (j + 1)).filter fun x => !decide (x ∈ ded [] (Fm.flats (ps.take i)))).map V.int
          rw [e, et, List.filter_append]
          simp [hmm]
      have e : acc = ((f.hs.take (f.hs.map V.int).length).filter fun x => !decide (x ∈ ded [] (Fm.flats (ps.take i)))).map V.int := e
      rw [List.length_map, List.take_length] at e
      have hp5 := c5.at (c3.at hp')
      have ef : ded [] (Fm.flats (ps.take i)) ++ f.hs.filter (fun x => !decide (x ∈ ded [] (Fm.flats (ps.take i)))) = ded [] (Fm.flats (ps.take (i + 1))) := by
        rw [ded_hs, List.take_add_one, hf1]
        simp only [Option.toList, Fm.flats_app, Fm.flats, List.append_nil, ded_app]
      refine ⟨p, r5, _, _, rfl, rfl, hp5, h5, big ?_, some x, rfl, ?_, ?_, ?_⟩
      · have h6 := ded_len (Fm.flats (ps.take i)) []
        have h7 := tk i
        have h8 := List.length_filter_le (fun x => !decide (x ∈ ded [] (Fm.flats (ps.take i)))) f.hs
        have h9 := f.hs_len
        rw [e, List.length_map, List.length_map]
        simp at h6
        omega
      · exact (((c.trans c3.all).trans c5.all).trans ((Chg.refl _).set (List.mem_singleton.mpr rfl) hp5 (by intro xs z; cases z) _))
      · exact ((c0.trans c3).trans c5).own hp _
      · rw [upd_same, e, ← ef, List.map_append]
    · rintro σ H' ⟨o2, rfl, c, c0, hp'⟩
      walk_at "go"
      rw [hl, List.take_length] at hp'
      exact k p H' hp c0 (by rw [hp']; simp [Fm.hs, Fm.flat])

mutual
def Fm.fill (m : Int → Option Fm) : Fm → Fm
  | .hole n => (m n).getD (.hole n)
  | .node s ps => .node s (Fm.fills m ps)
def Fm.fills (m : Int → Option Fm) : List Fm → List Fm
  | [] => []
  | p :: ps => p.fill m :: Fm.fills m ps
end
theorem Fm.fills_len (m : Int → Option Fm) : ∀ ps : List Fm, (Fm.fills m ps).length = ps.length
  | [] => rfl
  | p :: ps => by simp only [Fm.fills, List.length_cons, Fm.fills_len m ps]
mutual
theorem Fm.fill_size {m : Int → Option Fm} {B : Nat} (hB : 1 ≤ B) (h : ∀ n g, m n = some g → g.size ≤ B) : ∀ f : Fm, (f.fill m).size ≤ f.size * B
  | .hole n => by
    simp only [Fm.fill, Fm.size, Nat.one_mul]
    cases e : m n with
    | none => simpa [Fm.size] using hB
    | some g => exact h n g e
  | .node s ps => by
    have := Fm.fills_size hB h ps
    simp only [Fm.fill, Fm.size, Nat.add_mul, Nat.one_mul]
    omega
theorem Fm.fills_size {m : Int → Option Fm} {B : Nat} (hB : 1 ≤ B) (h : ∀ n g, m n = some g → g.size ≤ B) : ∀ ps : List Fm, Fm.sizes (Fm.fills m ps) ≤ Fm.sizes ps * B
  | [] => by simp [Fm.fills, Fm.sizes]
  | p :: ps => by
    have h1 := Fm.fill_size hB h p
    have h2 := Fm.fills_size hB h ps
    simp only [Fm.fills, Fm.sizes, Nat.add_mul]
    omega
end
mutual
theorem Fm.fill_depth {m : Int → Option Fm} {B : Nat} (hB : 1 ≤ B) (h : ∀ n g, m n = some g → g.depth ≤ B) : ∀ f : Fm, (f.fill m).depth ≤ f.depth + B
  | .hole n => by
    simp only [Fm.fill, Fm.depth]
    cases e : m n with
    | none => simp [Fm.depth]
    | some g => have := h n g e; simp only [Option.getD_some]; omega
  | .node s ps => by
    have := Fm.fills_depth hB h ps
    simp only [Fm.fill, Fm.depth]
    omega
theorem Fm.fills_depth {m : Int → Option Fm} {B : Nat} (hB : 1 ≤ B) (h : ∀ n g, m n = some g → g.depth ≤ B) : ∀ ps : List Fm, Fm.depths (Fm.fills m ps) ≤ Fm.depths ps + B
  | [] => by simp [Fm.fills, Fm.depths]
  | p :: ps => by
    have h1 := Fm.fill_depth hB h p
    have h2 := Fm.fills_depth hB h ps
    simp only [Fm.fills, Fm.depths]
    omega
end
theorem Fm.sizes_mem : ∀ {ps : List Fm} {p : Fm}, p ∈ ps → p.size ≤ Fm.sizes ps
  | q :: ps, p, h => by
    simp only [Fm.sizes]
    rcases List.mem_cons.mp h with rfl | h
    · omega
    · have := Fm.sizes_mem h; omega
def Dic (H : Hp) (a : Addr) (m : Int → Option Fm) : Prop := ∃ kvs : List (Key × V), H a = some (.dK kvs) ∧ ∀ n : Int, (valV kvs (.inl n) = none ∧ m n = none) ∨ ∃ v f, valV kvs (.inl n) = some v ∧ m n = some f ∧ IsF H f v
theorem Dic.keep {H H' : Hp} {a : Addr} {m : Int → Option Fm} (h : Dic H a m) (c : Ext H H') : Dic H' a m := by
  obtain ⟨kvs, h1, h2⟩ := h
  refine ⟨kvs, c.at h1, fun n => ?_⟩
  rcases h2 n with h | ⟨v, f, e1, e2, hf⟩
  · exact .inl h
  · exact .inr ⟨v, f, e1, e2, hf.up c⟩
section
variable {K : PySem.W.Frag} {H : Hp} {Q : VK} {v : V}
end

def Ab.sp_word (K : PySem.W.Frag) : ASp := fun as M P _ => ∃ s : Str, as = [.str s] ∧ s.length ≤ 100000 ∧ P (.bl (isWord s)) M
theorem rsp_word {K : PySem.W.Frag} : RSp K (sp_word K) (Ab.sp_word K) := ⟨fun F vs as H M Q P E X r m ⟨s, e, hz, p⟩ k x => by
  subst e
  obtain ⟨v, rfl, rv⟩ := Rf.one r
  cases RV.str_iff.mp rv
  exact ⟨s, rfl, hz, k _ M _ H p m (RV.bl_iff.mpr rfl) (Tp.refl _)⟩⟩

def Ab.sp_holes (K : PySem.W.Frag) (n : Nat) : ASp := fun as M P _ => ∃ f : Fm, as = [f.a] ∧ f.size ≤ 1000 ∧ f.depth ≤ n ∧ ∀ p, M p = none → P (.ref p) (aupd M p (.lst (f.hs.map .int)))
theorem rsp_holes {K : PySem.W.Frag} (n : Nat) : RSp K (sp_holes K n) (Ab.sp_holes K n) := ⟨fun F vs as H M Q P E X r m ⟨f, e, hz, hd, p⟩ k x => by
  subst e
  obtain ⟨v, rfl, rv⟩ := Rf.one r
  refine ⟨v, f, rfl, rv_fm.mp rv, hz, hd, fun q H' hq c hx => ?_⟩
  exact k _ _ _ H' (p q (m.no hq)) ((m.ext c).tell (m.free hq) ⟨_, hx, RL.ints⟩) (RV.ref_iff.mpr rfl) c.tp⟩
structure RowI where
  name : Str
  places : Int
  worked : List Int
  done : Bool
abbrev RowI.a (r : RowI) : A := .tup [.str r.name, .int r.places, .tup (r.worked.map .int), .bl r.done]
def RowI.ok (r : RowI) : Bool := isWord r.name && (decide (0 ≤ r.places) && decide (r.places ≤ 4)) && (List.range r.worked.length).all fun i => match r.worked[i]? with
  | some p => decide (0 ≤ p) && decide (p < r.places) && !decide (p ∈ r.worked.take i)
  | none => true
theorem all_range_succ {p : Nat → Bool} {n : Nat} : ((List.range (n + 1)).all p) = ((List.range n).all p && p n) := by rw [List.range_succ, List.all_append]; simp
namespace Ab
def sp_rowok (K : PySem.W.Frag) : ASp := fun as M P _ => ∃ r : RowI, as = [r.a] ∧ r.name.length ≤ 100000 ∧ r.worked.length ≤ 1000 ∧ P (.bl r.ok) M
end Ab
namespace Ab
theorem ln_rowok {K : PySem.W.Frag} (as : List A) (M : AM) (P : AK) (X : AX) : sp_rowok K as M P X → as.length = 1 := by rintro ⟨_, rfl, _⟩; rfl
end Ab
def sp_rowok (K : PySem.W.Frag) : Sp := lift K (Ab.sp_rowok K)
theorem len_rowok {K : PySem.W.Frag} {vs : List V} {H : Hp} {Q : VK} {E : XK} (h : sp_rowok K vs H Q E) : vs.length = 1 := lift_len Ab.ln_rowok h
def t_rowok (K : PySem.W.Frag) : TS := (tSeq (tIfS (tOr (tNot (tB (tCall (sp_word K) [] E0 (tCons (tOp (rIxT K) (tVar 0) (tC (.int 0))) tNil)))) (tNot (tTest (tChain rLeI rLeI (tC (.int 0)) (tOp (rIxT K) (tVar 0) (tC (.int 1))) (tC (.int 4)))))) (tRet (tC (.bl false)))
  tNext)
  (tSeq (tFor (My.iEnumT K (tCons (tOp (rIxT K) (tVar 0) (tC (.int 2))) tNil)) (gTup K 2 (gCons (gName 1) (gCons (gName 2) gNil)))
  (tIfS (tOr (tNot (tTest (tChain rLeI rLtI (tC (.int 0)) (tVar 2) (tOp (rIxT K) (tVar 0) (tC (.int 1)))))) (tTest (tOp (rIn K false) (tVar 2) (tSl (rSlA K) (tOp (rIxT K) (tVar 0) (tC (.int 2))) tNoPart (tPart (tVar 1)))))) (tRet (tC (.bl false)))
  tNext))
  (tRet (tC (.bl true)))))
abbrev N_rowok : List Str := ["row", "at", "place"]
namespace Ab
def t_rowok (K : PySem.W.Frag) : TS := (tSeq (tIfS (tOr (tNot (tB (tCall (sp_word K) [] E0 (tCons (tOp (rIxT K) (tVar 0) (tC (.int 0))) tNil)))) (tNot (tTest (tChain rLeI rLeI (tC (.int 0)) (tOp (rIxT K) (tVar 0) (tC (.int 1))) (tC (.int 4)))))) (tRet (tC (.bl false)))
  tNext)
  (tSeq (tFor (iEnumT K (tCons (tOp (rIxT K) (tVar 0) (tC (.int 2))) tNil)) (gTup K 2 (gCons (gName 1) (gCons (gName 2) gNil)))
  (tIfS (tOr (tNot (tTest (tChain rLeI rLtI (tC (.int 0)) (tVar 2) (tOp (rIxT K) (tVar 0) (tC (.int 1)))))) (tTest (tOp (rIn K false) (tVar 2) (tSl (rSlA K) (tOp (rIxT K) (tVar 0) (tC (.int 2))) tNoPart (tPart (tVar 1)))))) (tRet (tC (.bl false)))
  tNext))
  (tRet (tC (.bl true)))))
end Ab
theorem rf_rowok {K : PySem.W.Frag} {E : XK} {X : AX} : RSt K E X (t_rowok K) (Ab.t_rowok K) := by
  have br_word := @My.rsp_word K
  unfold My.t_rowok Ab.t_rowok
  walk_at "rf"
namespace Ab
theorem ab_rowok {K : PySem.W.Frag} {as : List A} {M : AM} {P : AK} {X : AX} (h : sp_rowok K as M P X) : t_rowok K { nx := fun _ M' => Wk P .non M', rt := Wk P } (start N_rowok as) M := by
  obtain ⟨r, rfl, hn, hw, k⟩ := h
  unfold t_rowok
  walk_at "ao"
  refine ⟨r.name, rfl, hn, ?_⟩
  walk_at "ao"
  have no : r.ok = false → Wk P (.bl false) M := fun e => wk (Sub.refl _) (by rw [e] at k; exact k)
  refine g_2 (fun c => ?_) (fun c1 => ?_)
  · walk_at "ao"
    exact no (by unfold RowI.ok; simp at c; simp [c])
  have c1 : isWord r.name = true := by simpa using c1
  walk_at "ao"
  refine g_2 (fun c => ?_) (fun c2 => ?_)
  · walk_at "ao"
    refine g_2 (fun d => ?_) (fun d => ?_)
    · walk_at "ao"
      exact no (by unfold RowI.ok; simp at d; simp; omega)
    have d2 := of_decide_eq_true c
    have d3 : r.places ≤ 4 := by simpa using d
    walk_at "ao"
    refine for_ (fun i s M' => M' = M ∧ (∃ o1 o2, s = [some r.a, o1, o2]) ∧ (List.range i).all (fun i => match r.worked[i]? with
      | some p => decide (0 ≤ p) && decide (p < r.places) && !decide (p ∈ r.worked.take i)
      | none => true) = true) ⟨rfl, ⟨_, _, rfl⟩, rfl⟩ (fun _ _ _ _ _ => trivial) ?_ ?_
    · rintro i x s M' hx ⟨rfl, ⟨o1, o2, rfl⟩, hi⟩
      obtain ⟨y, hy, rfl⟩ := Rf.enum_get hx
      obtain ⟨p, hp, rfl⟩ := getA hy
      have hlt := (List.getElem?_eq_some_iff.mp hp).1
      have bad : (decide (0 ≤ p) && decide (p < r.places) && !decide (p ∈ r.worked.take i)) = false → r.ok = false := by
        intro e
        unfold RowI.ok
        rw [Bool.and_eq_false_iff]
        refine .inr ?_
        rw [List.all_eq_false]
        refine ⟨i, List.mem_range.mpr hlt, ?_⟩
        rw [hp]
        dsimp only
        rw [e]
        exact Bool.false_ne_true
      walk_at "ao"
      refine g_2 (fun e1 => ?_) (fun e1 => ?_)
      · walk_at "ao"
        refine g_2 (fun e2 => ?_) (fun e2 => ?_)
        · walk_at "ao"
          exact no (bad (by simp at e2; simp; omega))
        walk_at "ao"
        refine g_inI (is := r.worked.take i) (.inl (by rw [cut_hi])) ?_
        walk_at "ao"
        have h0 := of_decide_eq_true e1
        have h1 : p < r.places := by simpa using e2
        refine g_2 (fun e3 => ?_) (fun e3 => ?_)
        · walk_at "ao"
          exact no (bad (by simp at e3; simp [e3]))
        · walk_at "ao"
          refine ⟨rfl, ⟨_, _, rfl⟩, ?_⟩
          rw [all_range_succ, hi, hp]
          simp at e3
          simp [h0, h1, e3]
      · walk_at "ao"
        exact no (bad (by simp at e1; simp; omega))
    · rintro s M' ⟨rfl, ⟨o1, o2, rfl⟩, hi⟩
      walk_at "ao"
      refine wk (Sub.refl _) ?_
      have : r.ok = true := by
        rw [Rf.enum_len, List.length_map] at hi
        unfold RowI.ok
        rw [c1, hi]
        simp [d2, d3]
      rw [this] at k
      exact k
  · walk_at "ao"
    exact no (by unfold RowI.ok; simp at c2; simp; omega)
end Ab
theorem rd_rowok {K : PySem.W.Frag} {vs : List V} {H : Hp} {Q : VK} {E : XK} (h : sp_rowok K vs H Q E) : t_rowok K { nx := fun _ H' => Q .non H', rt := Q } (L2.start N_rowok vs) H := rd_of (fun _ => rf_rowok) (fun _ _ _ _ => Ab.ab_rowok) h
def findR (rows : List Row) (s : Str) : Option Row := rows.find? fun r => decide (r.name = s)
mutual
def knownF (rows : List Row) : Fm → Bool
  | .hole n => decide (0 ≤ n) && decide (n ≤ 99)
  | .node s ps => (match findR rows s with
    | some r => decide (ps.length = r.places)
    | none => false) && knownFs rows ps
def knownFs (rows : List Row) : List Fm → Bool
  | [] => true
  | p :: ps => knownF rows p && knownFs rows ps
end
theorem knownFs_all {rows : List Row} : ∀ ps : List Fm, knownFs rows ps = ps.all (knownF rows)
  | [] => rfl
  | p :: ps => by simp only [knownFs, List.all_cons, knownFs_all ps]
def rowKvs (rows : List Row) : List (Key × A) := rows.map fun r => (.inr r.name, r.a)
theorem val_rows {rows : List Row} {s : Str} : valA (rowKvs rows) (.inr s) = (findR rows s).map Row.a := by
  unfold valA rowKvs findR
  rw [List.find?_map, Option.map_map]
  have : ((fun kv : Key × A => decide (kv.1 = Sum.inr s)) ∘ fun r : Row => (Sum.inr r.name, r.a)) = fun r => decide (r.name = s) := by
    funext r
    simp [Function.comp]
  rw [this]
  rfl
theorem findR_mem {rows : List Row} {s : Str} {r : Row} (h : findR rows s = some r) : r ∈ rows ∧ r.name = s := by
  unfold findR at h
  exact ⟨List.mem_of_find?_eq_some h, by have := List.find?_some h; exact of_decide_eq_true this⟩
theorem findR_of {rows : List Row} (nd : (rows.map Row.name).Nodup) {r : Row} (h : r ∈ rows) : findR rows r.name = some r := by
  induction rows with
  | nil => cases h
  | cons a rows ih =>
    unfold findR
    rw [List.find?_cons]
    rw [List.map_cons, List.nodup_cons] at nd
    rcases List.mem_cons.mp h with rfl | h
    · simp
    · have : ¬ a.name = r.name := fun e => nd.1 (by rw [e]; exact List.mem_map_of_mem h)
      simp only [this, decide_false]
      exact ih nd.2 h
namespace Ab
def sp_known (K : PySem.W.Frag) (n : Nat) : ASp := fun as M P _ => ∃ (a : Addr) (rows : List Row) (f : Fm), as = [.ref a, f.a] ∧ f.depth < n ∧ M a = some (.dK (rowKvs rows)) ∧ f.size ≤ 100000 ∧ P (.bl (knownF rows f)) M
end Ab
namespace Ab
theorem ln_known {K : PySem.W.Frag} {n : Nat} (as : List A) (M : AM) (P : AK) (X : AX) : sp_known K n as M P X → as.length = 2 := by rintro ⟨_, _, _, rfl, _⟩; rfl
end Ab
def sp_known (K : PySem.W.Frag) (n : Nat) : Sp := lift K (Ab.sp_known K n)
theorem len_known {K : PySem.W.Frag} {n : Nat} {vs : List V} {H : Hp} {Q : VK} {E : XK} (h : sp_known K n vs H Q E) : vs.length = 2 := lift_len Ab.ln_known h
theorem no_known {K : PySem.W.Frag} (vs : List V) (H : Hp) (Q : VK) (E : XK) : ¬ sp_known K 0 vs H Q E := lift_no (fun as M P X h => by obtain ⟨_, _, _, _, h⟩ := h; omega) vs H Q E
def t_known (K : PySem.W.Frag) (r : Sp) : TS := (tSeq (tIfS (tB (tCB (rIsi K) (tCons (tVar 1) (tCons (tC (.ty "int")) tNil)))) (tRet (tChain rLeI rLeI (tC (.int 0)) (tVar 1) (tC (.int 99))))
  tNext)
  (tSeq (tIfS (tOr (tB (tDNotIn (tOp (rIxT K) (tVar 1) (tC (.int 0))) (tVar 0))) (tTest (tOp rNe (tCB (rLenSeq K) (tCons (tVar 1) tNil)) (tOp rAddI (tOp (rIxT K) (tDGet (tVar 0) (tOp (rIxT K) (tVar 1) (tC (.int 0)))) (tC (.int 1))) (tC (.int 1)))))) (tRet (tC (.bl false)))
  tNext)
  (tSeq (tFor (iTup K (tSl (rSlT K) (tVar 1) (tPart (tC (.int 1))) tNoPart)) (gName 2)
  (tIfS (tNot (tB (tCall r [] E0 (tCons (tVar 0) (tCons (tVar 2) tNil))))) (tRet (tC (.bl false)))
  tNext))
  (tRet (tC (.bl true))))))
abbrev N_known : List Str := ["row_of", "form", "part"]
namespace Ab
def t_known (K : PySem.W.Frag) (r : ASp) : TS := (tSeq (tIfS (tB (tCB (rIsi K) (tCons (tVar 1) (tCons (tC (.ty "int")) tNil)))) (tRet (tChain rLeI rLeI (tC (.int 0)) (tVar 1) (tC (.int 99))))
  tNext)
  (tSeq (tIfS (tOr (tB (tDNotIn (tOp (rIxT K) (tVar 1) (tC (.int 0))) (tVar 0))) (tTest (tOp rNe (tCB (rLenSeq K) (tCons (tVar 1) tNil)) (tOp rAddI (tOp (rIxT K) (tDGet (tVar 0) (tOp (rIxT K) (tVar 1) (tC (.int 0)))) (tC (.int 1))) (tC (.int 1)))))) (tRet (tC (.bl false)))
  tNext)
  (tSeq (tFor (iTup K (tSl (rSlT K) (tVar 1) (tPart (tC (.int 1))) tNoPart)) (gName 2)
  (tIfS (tNot (tB (tCall r [] E0 (tCons (tVar 0) (tCons (tVar 2) tNil))))) (tRet (tC (.bl false)))
  tNext))
  (tRet (tC (.bl true))))))
end Ab
theorem rf_known {K : PySem.W.Frag} {E : XK} {X : AX} {r : Sp} {ar : ASp} (hr : RSp K r ar) : RSt K E X (t_known K r) (Ab.t_known K ar) := by
  unfold My.t_known Ab.t_known
  walk_at "rf"
namespace Ab
theorem ab_known {K : PySem.W.Frag} {n : Nat} {as : List A} {M : AM} {P : AK} {X : AX} (h : sp_known K (n + 1) as M P X) : t_known K (sp_known K n) { nx := fun _ M' => Wk P .non M', rt := Wk P } (start N_known as) M := by
  obtain ⟨a, rows, f, rfl, hdp, ha, hz, k⟩ := h
  unfold t_known
  cases f with
  | hole i =>
    simp only [Fm.a]
    simp only [knownF] at k
    walk_at "ao"
    refine g_2 (fun c => ?_) (fun c => ?_)
    · walk_at "ao"
      exact wk (Sub.refl _) (by rw [c] at k; exact k)
    · walk_at "ao"
      exact wk (Sub.refl _) (by rw [c] at k; exact k)
  | node s ps =>
    simp only [Fm.depth] at hdp
    simp only [Fm.size] at hz
    simp only [Fm.a]
    simp only [knownF] at k
    have hlz := Fm.len_sizes ps
    walk_at "ao"
    refine g_ixT (v := .str s) (atI_nat (j := 0) rfl) ?_
    walk_at "ao"
    refine g_dinS ha ?_
    rw [val_rows]
    walk_at "ao"
    refine g_2 (fun c => ?_) (fun c => ?_)
    · walk_at "ao"
      refine wk (Sub.refl _) ?_
      cases q : findR rows s with
      | none => rw [q] at k; exact k
      | some r => rw [q] at c; cases c
    cases q : findR rows s with
    | none => rw [q] at c; cases c
    | some r =>
    rw [q] at k
    walk_at "ao"
    refine g_ixT (v := .str s) (atI_nat (j := 0) rfl) ?_
    walk_at "ao"
    refine g_dgetS ha (v := r.a) (by rw [val_rows, q]; rfl) ?_
    walk_at "ao"
    refine g_2 (fun c2 => ?_) (fun c2 => ?_)
    · walk_at "ao"
      refine wk (Sub.refl _) ?_
      have : ¬ ps.length = r.places := by
        simp [Fm.as_length] at c2
        omega
      simp only [this, decide_false, Bool.false_and] at k
      exact k
    have hpl : ps.length = r.places := by
      simp [Fm.as_length] at c2
      omega
    simp only [hpl, decide_true, Bool.true_and] at k
    walk_at "ao"
    refine for_ (fun i s' M' => M' = M ∧ (∃ o, s' = [some (.ref a), some (.tup (.str s :: Fm.as ps)), o]) ∧ (ps.take i).all (knownF rows) = true) ⟨rfl, ⟨_, rfl⟩, rfl⟩ (fun _ _ _ _ _ => trivial) ?_ ?_
    · rintro i x s' M' hx ⟨rfl, ⟨o, rfl⟩, hi⟩
      obtain ⟨p, hp, rfl⟩ := Fm.as_get hx
      have hpm := List.mem_of_getElem? hp
      have hd1 := Fm.depth_mem hpm
      have hs1 := Fm.sizes_mem hpm
      walk_at "ao"
      refine ⟨a, rows, p, rfl, by omega, ha, by omega, ?_⟩
      walk_at "ao"
      refine g_2 (fun e => ?_) (fun e => ?_)
      · walk_at "ao"
        refine wk (Sub.refl _) ?_
        have e : knownF rows p = false := by simpa using e
        have : knownFs rows ps = false := by
          rw [knownFs_all, List.all_eq_false]
          exact ⟨p, hpm, by rw [e]; exact Bool.false_ne_true⟩
        rw [this] at k
        exact k
      · walk_at "ao"
        refine ⟨rfl, ⟨_, rfl⟩, ?_⟩
        rw [List.take_add_one, hp, List.all_append, hi]
        have e : knownF rows p = true := by simpa using e
        simp [e]
    · rintro s' M' ⟨rfl, ⟨o, rfl⟩, hi⟩
      walk_at "ao"
      refine wk (Sub.refl _) ?_
      rw [Fm.as_length, List.take_length] at hi
      rw [knownFs_all, hi] at k
      exact k
end Ab
theorem rd_known {K : PySem.W.Frag} {n : Nat} {vs : List V} {H : Hp} {Q : VK} {E : XK} (h : sp_known K (n + 1) vs H Q E) : t_known K (sp_known K n) { nx := fun _ H' => Q .non H', rt := Q } (L2.start N_known vs) H := rd_of (fun _ => rf_known RSp.lift) (fun _ _ _ _ => Ab.ab_known) h

def partOkB (rows : List Row) (row : Row) (j : Nat) : Fm → Bool
  | .hole _ => true
  | .node t qs => decide (j ∈ row.worked) && (match findR rows t with
    | some r => r.done
    | none => false) && qs.all Fm.isHole
def partsOkB (rows : List Row) (row : Row) : Nat → List Fm → Bool
  | _, [] => true
  | j, p :: ps => partOkB rows row j p && partsOkB rows row (j + 1) ps
def ruleOkF (rows : List Row) : Fm → Fm → Bool
  | .hole _, _ => false
  | .node s ps, r => knownF rows (.node s ps) && knownF rows r && (match findR rows s with
    | some row => !row.done && partsOkB rows row 0 ps
    | none => false) && decide ((Fm.node s ps).hs.length = (Fm.flats ps).length) && r.hs.all fun i => decide (i ∈ (Fm.node s ps).hs)
theorem partsOkB_take {rows : List Row} {row : Row} : ∀ {ps : List Fm} {j : Nat}, (∀ (i : Nat) (p : Fm), ps[i]? = some p → partOkB rows row (j + i) p = true) ↔ partsOkB rows row j ps = true
  | [], j => by simp [partsOkB]
  | p :: ps, j => by
    simp only [partsOkB, Bool.and_eq_true]
    rw [← partsOkB_take (ps := ps) (j := j + 1)]
    constructor
    · intro h
      refine ⟨h 0 p rfl, fun i q hq => ?_⟩
      have := h (i + 1) q (by simpa using hq)
      rw [show j + 1 + i = j + (i + 1) by omega]
      exact this
    · rintro ⟨h0, h1⟩ i q hq
      cases i with
      | zero => simp at hq; subst hq; exact h0
      | succ i =>
        have := h1 i q (by simpa using hq)
        rw [show j + 1 + i = j + (i + 1) by omega] at this
        exact this
theorem flats_isHole : ∀ {qs : List Fm}, qs.all Fm.isHole = true → (Fm.flats qs).length = qs.length
  | [], _ => rfl
  | .hole n :: qs, h => by
    rw [List.all_cons, Bool.and_eq_true] at h
    simp only [Fm.flats, Fm.flat, List.length_append, List.length_cons, List.length_nil, flats_isHole h.2]
    omega
  | .node _ _ :: qs, h => by simp [Fm.isHole] at h
def overlF : List Fm → List Fm → Bool
  | .node a _ :: ps, .node b _ :: qs => decide (a = b) && overlF ps qs
  | _ :: ps, _ :: qs => overlF ps qs
  | _, _ => true
namespace Ab
def sp_overl (K : PySem.W.Frag) : ASp := fun as M P _ => ∃ (s t : Str) (ps qs : List Fm), as = [(Fm.node s ps).a, (Fm.node t qs).a] ∧ ps.length ≤ 1000 ∧ qs.length ≤ 1000 ∧ P (.bl (overlF ps qs)) M
end Ab
namespace Ab
theorem ln_overl {K : PySem.W.Frag} (as : List A) (M : AM) (P : AK) (X : AX) : sp_overl K as M P X → as.length = 2 := by rintro ⟨_, _, _, _, rfl, _⟩; rfl
end Ab
def sp_overl (K : PySem.W.Frag) : Sp := lift K (Ab.sp_overl K)
theorem len_overl {K : PySem.W.Frag} {vs : List V} {H : Hp} {Q : VK} {E : XK} (h : sp_overl K vs H Q E) : vs.length = 2 := lift_len Ab.ln_overl h
def t_overl (K : PySem.W.Frag) : TS := (tSeq (tFor (RZ.iZipA K (tCons (tSl (rSlT K) (tVar 0) (tPart (tC (.int 1))) tNoPart) (tCons (tSl (rSlT K) (tVar 1) (tPart (tC (.int 1))) tNoPart) tNil))) (gTup K 2 (gCons (gName 2) (gCons (gName 3) gNil)))
  (tIfS (tAnd (tNot (tB (tCB (rIsi K) (tCons (tVar 2) (tCons (tC (.ty "int")) tNil))))) (tAnd (tNot (tB (tCB (rIsi K) (tCons (tVar 3) (tCons (tC (.ty "int")) tNil))))) (tTest (tOp rNe (tOp (rIxT K) (tVar 2) (tC (.int 0))) (tOp (rIxT K) (tVar 3) (tC (.int 0))))))) (tRet (tC (.bl false)))
  tNext))
  (tRet (tC (.bl true))))
abbrev N_overl : List Str := ["left", "other", "part", "twin"]
namespace Ab
def t_overl (K : PySem.W.Frag) : TS := (tSeq (tFor (iZipA K (tCons (tSl (rSlT K) (tVar 0) (tPart (tC (.int 1))) tNoPart) (tCons (tSl (rSlT K) (tVar 1) (tPart (tC (.int 1))) tNoPart) tNil))) (gTup K 2 (gCons (gName 2) (gCons (gName 3) gNil)))
  (tIfS (tAnd (tNot (tB (tCB (rIsi K) (tCons (tVar 2) (tCons (tC (.ty "int")) tNil))))) (tAnd (tNot (tB (tCB (rIsi K) (tCons (tVar 3) (tCons (tC (.ty "int")) tNil))))) (tTest (tOp rNe (tOp (rIxT K) (tVar 2) (tC (.int 0))) (tOp (rIxT K) (tVar 3) (tC (.int 0))))))) (tRet (tC (.bl false)))
  tNext))
  (tRet (tC (.bl true))))
end Ab
theorem rf_overl {K : PySem.W.Frag} {E : XK} {X : AX} : RSt K E X (t_overl K) (Ab.t_overl K) := by
  unfold My.t_overl Ab.t_overl
  walk_at "rf"
theorem overl_at : ∀ {ps qs : List Fm}, overlF ps qs = false ↔ ∃ (i : Nat) (a b : Str) (as bs : List Fm), ps[i]? = some (.node a as) ∧ qs[i]? = some (.node b bs) ∧ a ≠ b
  | [], qs => by simp [overlF]
  | p :: ps, [] => by cases p <;> simp [overlF]
  | .hole n :: ps, q :: qs => by
    have : overlF (.hole n :: ps) (q :: qs) = overlF ps qs := by cases q <;> rfl
    rw [this, overl_at (ps := ps) (qs := qs)]
    constructor
    · rintro ⟨i, a, b, as, bs, h1, h2, h3⟩; exact ⟨i + 1, a, b, as, bs, by simpa using h1, by simpa using h2, h3⟩
    · rintro ⟨i, a, b, as, bs, h1, h2, h3⟩
      cases i with
      | zero => simp at h1
      | succ i => exact ⟨i, a, b, as, bs, by simpa using h1, by simpa using h2, h3⟩
  | .node a as :: ps, .hole n :: qs => by
    have : overlF (.node a as :: ps) (.hole n :: qs) = overlF ps qs := rfl
    rw [this, overl_at (ps := ps) (qs := qs)]
    constructor
    · rintro ⟨i, a, b, as, bs, h1, h2, h3⟩; exact ⟨i + 1, a, b, as, bs, by simpa using h1, by simpa using h2, h3⟩
    · rintro ⟨i, a, b, as, bs, h1, h2, h3⟩
      cases i with
      | zero => simp at h2
      | succ i => exact ⟨i, a, b, as, bs, by simpa using h1, by simpa using h2, h3⟩
  | .node a as :: ps, .node b bs :: qs => by
    have : overlF (.node a as :: ps) (.node b bs :: qs) = (decide (a = b) && overlF ps qs) := rfl
    rw [this, Bool.and_eq_false_iff, overl_at (ps := ps) (qs := qs), decide_eq_false_iff_not]
    constructor
    · rintro (h | ⟨i, a, b, as, bs, h1, h2, h3⟩)
      · exact ⟨0, a, b, as, bs, rfl, rfl, h⟩
      · exact ⟨i + 1, a, b, as, bs, by simpa using h1, by simpa using h2, h3⟩
    · rintro ⟨i, a', b', as', bs', h1, h2, h3⟩
      cases i with
      | zero => simp at h1 h2; obtain ⟨rfl, rfl⟩ := h1; obtain ⟨rfl, rfl⟩ := h2; exact .inl h3
      | succ i => exact .inr ⟨i, a', b', as', bs', by simpa using h1, by simpa using h2, h3⟩
namespace Ab
theorem ab_overl {K : PySem.W.Frag} {as : List A} {M : AM} {P : AK} {X : AX} (h : sp_overl K as M P X) : t_overl K { nx := fun _ M' => Wk P .non M', rt := Wk P } (start N_overl as) M := by
  obtain ⟨s, t, ps, qs, rfl, hps, hqs, k⟩ := h
  simp only [Fm.a]
  unfold t_overl
  walk_at "ao"
  refine for_ (fun i s' M' => M' = M ∧ (∃ o1 o2, s' = [some (.tup (.str s :: Fm.as ps)), some (.tup (.str t :: Fm.as qs)), o1, o2]) ∧ ∀ j, j < i → ∀ (a b : Str) (as bs : List Fm), ps[j]? = some (.node a as) → qs[j]? = some (.node b bs) → a = b) ⟨rfl, ⟨_, _, rfl⟩, by omega⟩ (fun _ _ _ _ _ => trivial) ?_ ?_
  · rintro i x s' M' hx ⟨rfl, ⟨o1, o2, rfl⟩, hi⟩
    obtain ⟨y, z, hy, hz, rfl⟩ := Rf.zip_get hx
    obtain ⟨p, hp, rfl⟩ := Fm.as_get hy
    obtain ⟨q, hq, rfl⟩ := Fm.as_get hz
    have step : (∀ (a b : Str) (as bs : List Fm), p = .node a as → q = .node b bs → a = b) → ∀ j, j < i + 1 → ∀ (a b : Str) (as bs : List Fm), ps[j]? = some (.node a as) → qs[j]? = some (.node b bs) → a = b := by
      intro h j hj a b as bs h1 h2
      by_cases e : j < i
      · exact hi j e a b as bs h1 h2
      · have : j = i := by omega
        subst this
        rw [hp] at h1
        rw [hq] at h2
        exact h a b as bs (Option.some.inj h1) (Option.some.inj h2)
    cases p with
    | hole n =>
      simp only [Fm.a]
      walk_at "ao"
      exact ⟨rfl, ⟨_, _, rfl⟩, step fun _ _ _ _ e => nomatch e⟩
    | node a as =>
      cases q with
      | hole n =>
        simp only [Fm.a]
        walk_at "ao"
        exact ⟨rfl, ⟨_, _, rfl⟩, step fun _ _ _ _ _ e => nomatch e⟩
      | node b bs =>
        simp only [Fm.a]
        walk_at "ao"
        refine g_ixT (v := .str a) (atI_nat (j := 0) rfl) ?_
        walk_at "ao"
        refine g_ixT (v := .str b) (atI_nat (j := 0) rfl) ?_
        walk_at "ao"
        refine g_2 (fun c => ?_) (fun c => ?_)
        · walk_at "ao"
          refine wk (Sub.refl _) ?_
          have : overlF ps qs = false := overl_at.mpr ⟨i, a, b, as, bs, hp, hq, by simpa using c⟩
          rw [this] at k
          exact k
        · walk_at "ao"
          refine ⟨rfl, ⟨_, _, rfl⟩, step fun _ _ _ _ e1 e2 => ?_⟩
          cases e1
          cases e2
          simpa using c
  · rintro s' M' ⟨rfl, ⟨o1, o2, rfl⟩, hi⟩
    walk_at "ao"
    refine wk (Sub.refl _) ?_
    have : overlF ps qs = true := by
      cases e : overlF ps qs with
      | true => rfl
      | false =>
        obtain ⟨i, a, b, as, bs, h1, h2, h3⟩ := overl_at.mp e
        have l1 := (List.getElem?_eq_some_iff.mp h1).1
        have l2 := (List.getElem?_eq_some_iff.mp h2).1
        exact absurd (hi i (by rw [Rf.zip_len, Fm.as_length, Fm.as_length]; omega) a b as bs h1 h2) h3
    rw [this] at k
    exact k
end Ab
theorem rd_overl {K : PySem.W.Frag} {vs : List V} {H : Hp} {Q : VK} {E : XK} (h : sp_overl K vs H Q E) : t_overl K { nx := fun _ H' => Q .non H', rt := Q } (L2.start N_overl vs) H := rd_of (fun _ => rf_overl) (fun _ _ _ _ => Ab.ab_overl) h
namespace Ab
def sp_ruleok (K : PySem.W.Frag) : ASp := fun as M P _ => ∃ (a : Addr) (rows : List Row) (l r : Fm), as = [.ref a, l.a, r.a] ∧ M a = some (.dK (rowKvs rows)) ∧ l.size ≤ 1000 ∧ l.depth ≤ 28 ∧ r.size ≤ 1000 ∧ r.depth ≤ 28 ∧ P (.bl (ruleOkF rows l r)) M
end Ab
namespace Ab
theorem ln_ruleok {K : PySem.W.Frag} (as : List A) (M : AM) (P : AK) (X : AX) : sp_ruleok K as M P X → as.length = 3 := by rintro ⟨_, _, _, _, rfl, _⟩; rfl
end Ab
def sp_ruleok (K : PySem.W.Frag) : Sp := lift K (Ab.sp_ruleok K)
theorem len_ruleok {K : PySem.W.Frag} {vs : List V} {H : Hp} {Q : VK} {E : XK} (h : sp_ruleok K vs H Q E) : vs.length = 3 := lift_len Ab.ln_ruleok h
def t_ruleok (K : PySem.W.Frag) : TS := (tSeq (tIfS (tOr (tB (tCB (rIsi K) (tCons (tVar 1) (tCons (tC (.ty "int")) tNil)))) (tOr (tNot (tB (tCall (sp_known K 40) [] E0 (tCons (tVar 0) (tCons (tVar 1) tNil))))) (tNot (tB (tCall (sp_known K 40) [] E0 (tCons (tVar 0) (tCons (tVar 2) tNil))))))) (tRet (tC (.bl false)))
  tNext)
  (tSeq (tAsg (tDGet (tVar 0) (tOp (rIxT K) (tVar 1) (tC (.int 0)))) (gName 3))
  (tSeq (tIfS (tB (tOp (rIxT K) (tVar 3) (tC (.int 3)))) (tRet (tC (.bl false)))
  tNext)
  (tSeq (tAsg (tC (.int 0)) (gName 4))
  (tSeq (tFor (My.iEnumT K (tCons (tSl (rSlT K) (tVar 1) (tPart (tC (.int 1))) tNoPart) tNil)) (gTup K 2 (gCons (gName 5) (gCons (gName 6) gNil)))
  (tSeq (tIfS (tB (tCB (rIsi K) (tCons (tVar 6) (tCons (tC (.ty "int")) tNil)))) (tSeq (tAug 4 (tC (.int 1)) (ipI fun i j => i + j))
  tCont)
  tNext)
  (tSeq (tIfS (tOr (tTest (tOp (rIn K true) (tVar 5) (tOp (rIxT K) (tVar 3) (tC (.int 2))))) (tNot (tB (tOp (rIxT K) (tDGet (tVar 0) (tOp (rIxT K) (tVar 6) (tC (.int 0)))) (tC (.int 3)))))) (tRet (tC (.bl false)))
  tNext)
  (tFor (iTup K (tSl (rSlT K) (tVar 6) (tPart (tC (.int 1))) tNoPart)) (gName 7)
  (tSeq (tIfS (tNot (tB (tCB (rIsi K) (tCons (tVar 7) (tCons (tC (.ty "int")) tNil))))) (tRet (tC (.bl false)))
  tNext)
  (tAug 4 (tC (.int 1)) (ipI fun i j => i + j)))))))
  (tSeq (tAsg (tCall (sp_holes K 40) [] E0 (tCons (tVar 1) tNil)) (gName 8))
  (tSeq (tIfS (tTest (tOp rNe (tCB (rLenSeq K) (tCons (tVar 8) tNil)) (tVar 4))) (tRet (tC (.bl false)))
  tNext)
  (tSeq (tFor (iList K (tCall (sp_holes K 40) [] E0 (tCons (tVar 2) tNil))) (gName 9)
  (tIfS (tTest (tOp (rIn K true) (tVar 9) (tVar 8))) (tRet (tC (.bl false)))
  tNext))
  (tRet (tC (.bl true)))))))))))
abbrev N_ruleok : List Str := ["row_of", "left", "right", "row", "many", "place", "part", "inner", "holes", "hole"]
namespace Ab
def t_ruleok (K : PySem.W.Frag) : TS := (tSeq (tIfS (tOr (tB (tCB (rIsi K) (tCons (tVar 1) (tCons (tC (.ty "int")) tNil)))) (tOr (tNot (tB (tCall (sp_known K 40) [] E0 (tCons (tVar 0) (tCons (tVar 1) tNil))))) (tNot (tB (tCall (sp_known K 40) [] E0 (tCons (tVar 0) (tCons (tVar 2) tNil))))))) (tRet (tC (.bl false)))
  tNext)
  (tSeq (tAsg (tDGet (tVar 0) (tOp (rIxT K) (tVar 1) (tC (.int 0)))) (gName 3))
  (tSeq (tIfS (tB (tOp (rIxT K) (tVar 3) (tC (.int 3)))) (tRet (tC (.bl false)))
  tNext)
  (tSeq (tAsg (tC (.int 0)) (gName 4))
  (tSeq (tFor (iEnumT K (tCons (tSl (rSlT K) (tVar 1) (tPart (tC (.int 1))) tNoPart) tNil)) (gTup K 2 (gCons (gName 5) (gCons (gName 6) gNil)))
  (tSeq (tIfS (tB (tCB (rIsi K) (tCons (tVar 6) (tCons (tC (.ty "int")) tNil)))) (tSeq (tAug 4 (tC (.int 1)) (ipI fun i j => i + j))
  tCont)
  tNext)
  (tSeq (tIfS (tOr (tTest (tOp (rIn K true) (tVar 5) (tOp (rIxT K) (tVar 3) (tC (.int 2))))) (tNot (tB (tOp (rIxT K) (tDGet (tVar 0) (tOp (rIxT K) (tVar 6) (tC (.int 0)))) (tC (.int 3)))))) (tRet (tC (.bl false)))
  tNext)
  (tFor (iTup K (tSl (rSlT K) (tVar 6) (tPart (tC (.int 1))) tNoPart)) (gName 7)
  (tSeq (tIfS (tNot (tB (tCB (rIsi K) (tCons (tVar 7) (tCons (tC (.ty "int")) tNil))))) (tRet (tC (.bl false)))
  tNext)
  (tAug 4 (tC (.int 1)) (ipI fun i j => i + j)))))))
  (tSeq (tAsg (tCall (sp_holes K 40) [] E0 (tCons (tVar 1) tNil)) (gName 8))
  (tSeq (tIfS (tTest (tOp rNe (tCB (rLenSeq K) (tCons (tVar 8) tNil)) (tVar 4))) (tRet (tC (.bl false)))
  tNext)
  (tSeq (tFor (iList K (tCall (sp_holes K 40) [] E0 (tCons (tVar 2) tNil))) (gName 9)
  (tIfS (tTest (tOp (rIn K true) (tVar 9) (tVar 8))) (tRet (tC (.bl false)))
  tNext))
  (tRet (tC (.bl true)))))))))))
end Ab
theorem rf_ruleok {K : PySem.W.Frag} {E : XK} {X : AX} : RSt K E X (t_ruleok K) (Ab.t_ruleok K) := by
  have br_holes := @My.rsp_holes K 40
  unfold My.t_ruleok Ab.t_ruleok
  walk_at "rf"
namespace Ab
theorem ab_ruleok {K : PySem.W.Frag} {as : List A} {M : AM} {P : AK} {X : AX} (h : sp_ruleok K as M P X) : t_ruleok K { nx := fun _ M' => Wk P .non M', rt := Wk P } (start N_ruleok as) M := by
  obtain ⟨a, rows, l, r, rfl, ha, hlz, hld, hrz, hrd, k⟩ := h
  unfold t_ruleok
  cases l with
  | hole n =>
    simp only [Fm.a]
    walk_at "ao"
    exact wk (Sub.refl _) k
  | node s ps =>
  simp only [Fm.a]
  walk_at "ao"
  refine ⟨a, rows, .node s ps, rfl, by omega, ha, by omega, ?_⟩
  walk_at "ao"
  refine g_2 (fun c => ?_) (fun c => ?_)
  · walk_at "ao"
    refine wk (Sub.refl _) ?_
    have c : knownF rows (.node s ps) = false := by simpa using c
    simp only [ruleOkF, c, Bool.false_and] at k
    exact k
  have kl : knownF rows (.node s ps) = true := by simpa using c
  walk_at "ao"
  refine ⟨a, rows, r, rfl, by omega, ha, by omega, ?_⟩
  walk_at "ao"
  refine g_2 (fun c => ?_) (fun c => ?_)
  · walk_at "ao"
    refine wk (Sub.refl _) ?_
    have c : knownF rows r = false := by simpa using c
    simp only [ruleOkF, c, Bool.false_and, Bool.and_false] at k
    exact k
  have kr : knownF rows r = true := by simpa using c
  obtain ⟨row, hrow⟩ : ∃ row, findR rows s = some row := by
    cases q : findR rows s with
    | some row => exact ⟨row, rfl⟩
    | none => simp only [knownF, q, Bool.false_and] at kl; cases kl
  simp only [ruleOkF, kl, kr, hrow, Bool.true_and] at k
  walk_at "ao"
  refine g_ixT (v := .str s) (atI_nat (j := 0) rfl) ?_
  walk_at "ao"
  refine g_dgetS ha (v := row.a) (by rw [val_rows, hrow]; rfl) ?_
  walk_at "ao"
  refine g_2 (fun c => ?_) (fun cd => ?_)
  · walk_at "ao"
    refine wk (Sub.refl _) ?_
    simp only [c, Bool.not_true, Bool.false_and] at k
    exact k
  simp only [cd, Bool.not_false, Bool.true_and] at k
  walk_at "ao"
  simp only [Fm.size] at hlz
  have hfz := Fm.flats_len ps
  have hpz := Fm.len_sizes ps
  have bad : ∀ (j : Nat) (p : Fm), ps[j]? = some p → partOkB rows row j p = false → Wk P (.bl false) M := by
    intro j p hp e
    refine wk (Sub.refl _) ?_
    have : partsOkB rows row 0 ps = false := by
      cases q : partsOkB rows row 0 ps with
      | false => rfl
      | true =>
        have := partsOkB_take.mpr q j p hp
        rw [Nat.zero_add, e] at this
        cases this
    simp only [this, Bool.false_and] at k
    exact k
  refine for_ (fun i s' M' => M' = M ∧ (∃ o5 o6 o7 : Option A, s' = [some (.ref a), some (.tup (.str s :: Fm.as ps)), some r.a, some row.a, some (.int (((Fm.flats (ps.take i)).length : Nat) : Int)), o5, o6, o7, none, none]) ∧ ∀ (j : Nat) (p : Fm), j < i → ps[j]? = some p → partOkB rows row j p = true) ⟨rfl, ⟨_, _, _, rfl⟩, by omega⟩ (fun _ _ _ _ _ => trivial) ?_ ?_
  · rintro i x s' M' hx ⟨rfl, ⟨o5, o6, o7, rfl⟩, hi⟩
    obtain ⟨y, hy, rfl⟩ := Rf.enum_get hx
    obtain ⟨p, hp, rfl⟩ := Fm.as_get hy
    have hpm := List.mem_of_getElem? hp
    have tk : (Fm.flats (ps.take (i + 1))).length = (Fm.flats (ps.take i)).length + p.flat.length := by
      rw [List.take_add_one, hp]
      show (Fm.flats (ps.take i ++ [p])).length = _
      rw [Fm.flats_app, List.length_append]
      simp [Fm.flats]
    have step : partOkB rows row i p = true → ∀ (j : Nat) (p : Fm), j < i + 1 → ps[j]? = some p → partOkB rows row j p = true := by
      intro h j q hj hq
      by_cases e : j < i
      · exact hi j q e hq
      · have : j = i := by omega
        subst this
        rw [hp] at hq
        cases hq
        exact h
    cases p with
    | hole n =>
      simp only [Fm.a]
      walk_at "ao"
      refine ⟨rfl, ⟨some (.int (i : Int)), some (.int n), o7, ?_⟩, step rfl⟩
      rw [tk]
      rfl
    | node t qs =>
      simp only [Fm.a]
      walk_at "ao"
      have kp : knownF rows (.node t qs) = true := by
        simp only [knownF, Bool.and_eq_true] at kl
        have := kl.2
        rw [knownFs_all] at this
        exact List.all_eq_true.mp this _ hpm
      obtain ⟨rt, hrt⟩ : ∃ rt, findR rows t = some rt := by
        cases q : findR rows t with
        | some x => exact ⟨x, rfl⟩
        | none => simp only [knownF, q, Bool.false_and] at kp; cases kp
      refine g_inI (is := row.worked.map fun (k : Nat) => (k : Int)) (.inl (by rw [natsA_ints])) ?_
      have hin : ((i : Int) ∈ row.worked.map fun (k : Nat) => (k : Int)) ↔ i ∈ row.worked := by
        rw [List.mem_map]
        constructor
        · rintro ⟨k, h1, h2⟩
          have : k = i := by omega
          rw [← this]; exact h1
        · intro h; exact ⟨i, h, rfl⟩
      walk_at "ao"
      refine g_2 (fun e => ?_) (fun e => ?_)
      · walk_at "ao"
        refine bad i _ hp ?_
        have : ¬ i ∈ row.worked := by
          intro h
          have := hin.mpr h
          simp only [if_true, this, decide_true, Bool.not_true] at e
          cases e
        simp only [partOkB, this, decide_false, Bool.false_and]
      have hw : i ∈ row.worked := by
        have : (i : Int) ∈ row.worked.map fun (k : Nat) => (k : Int) := by simpa using e
        exact hin.mp this
      walk_at "ao"
      refine g_ixT (v := .str t) (atI_nat (j := 0) rfl) ?_
      walk_at "ao"
      refine g_dgetS ha (v := rt.a) (by rw [val_rows, hrt]; rfl) ?_
      walk_at "ao"
      refine g_2 (fun e2 => ?_) (fun e2 => ?_)
      · walk_at "ao"
        refine bad i _ hp ?_
        have : rt.done = false := by simpa using e2
        simp only [partOkB, hrt, this, Bool.and_false, Bool.false_and]
      have hdn : rt.done = true := by simpa using e2
      walk_at "ao"
      refine for_ (fun j s' M'' => M'' = M' ∧ (∃ o7 : Option A, s' = [some (.ref a), some (.tup (.str s :: Fm.as ps)), some r.a, some row.a, some (.int (((Fm.flats (ps.take i)).length + j : Nat) : Int)), some (.int (i : Int)), some (.tup (.str t :: Fm.as qs)), o7, none, none]) ∧ ∀ (k : Nat) (q : Fm), k < j → qs[k]? = some q → q.isHole = true) ⟨rfl, ⟨_, rfl⟩, by omega⟩ (fun _ _ _ _ _ => trivial) ?_ ?_
      · rintro j x s' M'' hx ⟨rfl, ⟨o7, rfl⟩, hj⟩
        obtain ⟨q, hq, rfl⟩ := Fm.as_get hx
        cases q with
        | hole n =>
          simp only [Fm.a]
          walk_at "ao"
          refine ⟨rfl, ⟨some (.int n), ?_⟩, fun k q' hk hq' => ?_⟩
          · simp only [List.set, Int.natCast_add, Int.natCast_one, Int.add_assoc]
          · by_cases e : k < j
            · exact hj k q' e hq'
            · have : k = j := by omega
              subst this
              rw [hq] at hq'
              cases hq'
              rfl
        | node _ _ =>
          simp only [Fm.a]
          walk_at "ao"
          refine bad i _ hp ?_
          have : qs.all Fm.isHole = false := List.all_eq_false.mpr ⟨_, List.mem_of_getElem? hq, by simp [Fm.isHole]⟩
          simp only [partOkB, this, Bool.and_false]
      · rintro s' M'' ⟨rfl, ⟨o7, rfl⟩, hj⟩
        rw [Fm.as_length] at hj
        have hall : qs.all Fm.isHole = true := List.all_eq_true.mpr fun q hq => by
          obtain ⟨k, hk⟩ := List.getElem?_of_mem hq
          exact hj k q (List.getElem?_eq_some_iff.mp hk).1 hk
        refine ⟨rfl, ⟨some (.int (i : Int)), some (.tup (.str t :: Fm.as qs)), o7, ?_⟩, step (by simp only [partOkB, hw, hrt, hdn, hall, decide_true, Bool.and_self])⟩
        rw [tk, Fm.as_length]
        simp only [Fm.flat, flats_isHole hall]
  · rintro s' M' ⟨rfl, ⟨o5, o6, o7, rfl⟩, hi⟩
    rw [Rf.enum_len, Fm.as_length, List.take_length]
    rw [Rf.enum_len, Fm.as_length] at hi
    have hpk : partsOkB rows row 0 ps = true := partsOkB_take.mp fun i p hp => by
      rw [Nat.zero_add]
      exact hi i p (List.getElem?_eq_some_iff.mp hp).1 hp
    simp only [hpk, Bool.true_and] at k
    have hhl := (Fm.node s ps).hs_len
    simp only [Fm.size] at hhl
    walk_at "ao"
    refine ⟨.node s ps, rfl, by simp only [Fm.size]; omega, by omega, fun p hp => ?_⟩
    walk_at "ao"
    refine g_2 (fun e => ?_) (fun e => ?_)
    · walk_at "ao"
      refine wk (Sub.put hp (Sub.refl _)) ?_
      have : ¬ (Fm.node s ps).hs.length = (Fm.flats ps).length := by
        have e : ¬ (((Fm.node s ps).hs.map A.int).length : Int) = ((Fm.flats ps).length : Int) := by simpa using e
        rw [List.length_map] at e
        omega
      simp only [this, decide_false, Bool.false_and] at k
      exact k
    have hlen : (Fm.node s ps).hs.length = (Fm.flats ps).length := by
      have e : (((Fm.node s ps).hs.map A.int).length : Int) = ((Fm.flats ps).length : Int) := by simpa using e
      rw [List.length_map] at e
      omega
    simp only [hlen, decide_true, Bool.true_and] at k
    walk_at "ao"
    refine ⟨r, rfl, hrz, by omega, fun q hq => ?_⟩
    obtain ⟨hqp, hq0⟩ := lk_none hq
    walk_at "ao"
    refine for_ (fun i s' M2 => M2 = aupd (aupd M' p (.lst ((Fm.node s ps).hs.map .int))) q (.lst (r.hs.map .int)) ∧ (∃ o9 : Option A, s' = [some (.ref a), some (.tup (.str s :: Fm.as ps)), some r.a, some row.a, some (.int (((Fm.flats ps).length : Nat) : Int)), o5, o6, o7, some (.ref p), o9]) ∧ ∀ (j : Nat) (x : Int), j < i → r.hs[j]? = some x → x ∈ (Fm.node s ps).hs) ⟨rfl, ⟨_, rfl⟩, by omega⟩ ?_ ?_ ?_
    · rintro i s' M2 _ ⟨rfl, _⟩
      exact aupd_same
    · rintro i x s' M2 hx ⟨rfl, ⟨o9, rfl⟩, hi2⟩
      obtain ⟨n, hn, rfl⟩ := getA hx
      walk_at "ao"
      refine g_inI (is := (Fm.node s ps).hs) (.inr ⟨p, rfl, lk_ne (Ne.symm hqp) aupd_same⟩) ?_
      walk_at "ao"
      refine g_2 (fun e => ?_) (fun e => ?_)
      · walk_at "ao"
        refine wk (Sub.put hq0 (Sub.put hp (Sub.refl _))) ?_
        have : ¬ n ∈ (Fm.node s ps).hs := by simpa using e
        have : r.hs.all (fun i => decide (i ∈ (Fm.node s ps).hs)) = false := List.all_eq_false.mpr ⟨n, List.mem_of_getElem? hn, by simp [this]⟩
        simp only [this] at k
        exact k
      · walk_at "ao"
        refine ⟨rfl, ⟨_, rfl⟩, fun j y hj hy => ?_⟩
        by_cases e2 : j < i
        · exact hi2 j y e2 hy
        · have : j = i := by omega
          subst this
          rw [hn] at hy
          cases hy
          simpa using e
    · rintro s' M2 ⟨rfl, ⟨o9, rfl⟩, hi2⟩
      rw [List.length_map] at hi2
      walk_at "ao"
      refine wk (Sub.put hq0 (Sub.put hp (Sub.refl _))) ?_
      have : r.hs.all (fun i => decide (i ∈ (Fm.node s ps).hs)) = true := List.all_eq_true.mpr fun x hx => by
        obtain ⟨j, hj⟩ := List.getElem?_of_mem hx
        exact decide_eq_true (hi2 j x (List.getElem?_eq_some_iff.mp hj).1 hj)
      simp only [this] at k
      exact k
end Ab
theorem rd_ruleok {K : PySem.W.Frag} {vs : List V} {H : Hp} {Q : VK} {E : XK} (h : sp_ruleok K vs H Q E) : t_ruleok K { nx := fun _ H' => Q .non H', rt := Q } (L2.start N_ruleok vs) H := rd_of (fun _ => rf_ruleok) (fun _ _ _ _ => Ab.ab_ruleok) h

def langF (a1 a2 a3 a4 : Addr) : List (Str × A) := [("sign_rows", .ref a1), ("rule_pairs", .ref a2), ("row_of", .ref a3), ("rules_of", .ref a4)]
theorem langF1 {a1 a2 a3 a4 : Addr} : valA (langF a1 a2 a3 a4) "sign_rows" = some (.ref a1) := by rfl
theorem langF2 {a1 a2 a3 a4 : Addr} : valA (langF a1 a2 a3 a4) "rule_pairs" = some (.ref a2) := by rfl
theorem langF3 {a1 a2 a3 a4 : Addr} : valA (langF a1 a2 a3 a4) "row_of" = some (.ref a3) := by rfl
theorem langF4 {a1 a2 a3 a4 : Addr} : valA (langF a1 a2 a3 a4) "rules_of" = some (.ref a4) := by rfl
theorem langF_put {a1 a2 a3 a4 : Addr} : Ab.putFA "rules_of" (.ref a4) (Ab.putFA "row_of" (.ref a3) (Ab.putFA "rule_pairs" (.ref a2) (Ab.putFA "sign_rows" (.ref a1) []))) = langF a1 a2 a3 a4 := by rfl
structure LK (K : PySem.W.Frag) : Prop where
  cls : Cls K (He.ga K "Language")
  n1 : NoAttr K (He.ga K "Language") "sign_rows"
  n2 : NoAttr K (He.ga K "Language") "rule_pairs"
  n3 : NoAttr K (He.ga K "Language") "row_of"
  n4 : NoAttr K (He.ga K "Language") "rules_of"
  bs : ErrC K "BadSign" "BadSign" ∧ PySem.W.findIn K (.ref (He.ga K "BadSign")) "index" = some none
  br : ErrC K "BadRule" "BadRule" ∧ PySem.W.findIn K (.ref (He.ga K "BadRule")) "index" = some none
  ov : ErrC K "Overlap" "Overlap" ∧ PySem.W.findIn K (.ref (He.ga K "Overlap")) "first" = some none ∧ PySem.W.findIn K (.ref (He.ga K "Overlap")) "second" = some none
structure LI (K : PySem.W.Frag) (M0 M : AM) (x a1 a2 a3 a4 : Addr) (qs : List Addr) (rs rl : List A) (k3 k4 : List (Key × A)) (ix : List (List Nat)) : Prop where
  sub : Sub (adel M0 x) M
  nd : (x :: a1 :: a2 :: a3 :: a4 :: qs).Nodup
  fr : ∀ a ∈ a1 :: a2 :: a3 :: a4 :: qs, M0 a = none
  ox : M x = some (.ins (He.ga K "Language") (langF a1 a2 a3 a4))
  o1 : M a1 = some (.lst rs)
  o2 : M a2 = some (.lst rl)
  o3 : M a3 = some (.dK k3)
  o4 : M a4 = some (.dK k4)
  lq : qs.length = ix.length
  oq : ∀ (i : Nat) (q : Addr) (l : List Nat), qs[i]? = some q → ix[i]? = some l → M q = some (.lst (natsA l))
section
variable {K : PySem.W.Frag} {M0 M : AM} {x a1 a2 a3 a4 q : Addr} {qs : List Addr} {rs rl : List A} {k3 k3' k4 k4' : List (Key × A)} {ix : List (List Nat)} {l : List Nat} {i : Nat}
theorem LI.set3 (h : LI K M0 M x a1 a2 a3 a4 qs rs rl k3 k4 ix) : LI K M0 (aupd M a3 (.dK k3')) x a1 a2 a3 a4 qs rs rl k3' k4 ix := by
  have nd := h.nd
  simp only [List.nodup_cons, List.mem_cons, not_or] at nd
  obtain ⟨⟨x1, x2, x3, x4, xq⟩, ⟨b2, b3, b4, bq⟩, ⟨c3, c4, cq⟩, ⟨d4, dq⟩, eq, nq⟩ := nd
  refine ⟨fun b o e => ?_, h.nd, h.fr, by rw [aupd_ne x3]; exact h.ox, by rw [aupd_ne b3]; exact h.o1, by rw [aupd_ne c3]; exact h.o2, aupd_same, by rw [aupd_ne (Ne.symm d4)]; exact h.o4, h.lq, fun i q l h1 h2 => ?_⟩
  · have f3 := h.fr a3 (by simp)
    have : b ≠ a3 := fun z => by
      rw [z] at e
      have := adel_sub.at e
      rw [f3] at this
      cases this
    rw [aupd_ne this]
    exact h.sub.at e
  · rw [aupd_ne (fun z => dq (by rw [← z]; exact List.mem_of_getElem? h1))]
    exact h.oq i q l h1 h2
theorem LI.set4 (h : LI K M0 M x a1 a2 a3 a4 qs rs rl k3 k4 ix) : LI K M0 (aupd M a4 (.dK k4')) x a1 a2 a3 a4 qs rs rl k3 k4' ix := by
  have nd := h.nd
  simp only [List.nodup_cons, List.mem_cons, not_or] at nd
  obtain ⟨⟨x1, x2, x3, x4, xq⟩, ⟨b2, b3, b4, bq⟩, ⟨c3, c4, cq⟩, ⟨d4, dq⟩, eq, nq⟩ := nd
  refine ⟨fun b o e => ?_, h.nd, h.fr, by rw [aupd_ne x4]; exact h.ox, by rw [aupd_ne b4]; exact h.o1, by rw [aupd_ne c4]; exact h.o2, by rw [aupd_ne d4]; exact h.o3, aupd_same, h.lq, fun i q l h1 h2 => ?_⟩
  · have f3 := h.fr a4 (by simp)
    have : b ≠ a4 := fun z => by
      rw [z] at e
      have := adel_sub.at e
      rw [f3] at this
      cases this
    rw [aupd_ne this]
    exact h.sub.at e
  · rw [aupd_ne (fun z => eq (by rw [← z]; exact List.mem_of_getElem? h1))]
    exact h.oq i q l h1 h2
theorem LI.newq (h : LI K M0 M x a1 a2 a3 a4 qs rs rl k3 k4 ix) (hq : M q = none) : LI K M0 (aupd M q (.lst [])) x a1 a2 a3 a4 (qs ++ [q]) rs rl k3 k4 (ix ++ [[]]) := by
  have ne : ∀ {a : Addr} {o : AO}, M a = some o → a ≠ q := fun e => ne_of_anone e hq
  have nqs : q ∉ qs := fun z => by
    obtain ⟨i, hi⟩ := List.getElem?_of_mem z
    have l1 := (List.getElem?_eq_some_iff.mp hi).1
    rw [h.lq] at l1
    exact ne (h.oq i q _ hi (List.getElem?_eq_getElem l1)) rfl
  have nx := ne h.ox
  have hq0 : M0 q = none := by
    cases e : M0 q with
    | none => rfl
    | some o =>
      have : M q = some o := h.sub.at (adel_at e (Ne.symm nx))
      rw [hq] at this
      cases this
  refine ⟨Sub.new hq h.sub, ?_, fun a ha => ?_, by rw [aupd_ne (ne h.ox)]; exact h.ox, by rw [aupd_ne (ne h.o1)]; exact h.o1, by rw [aupd_ne (ne h.o2)]; exact h.o2, by rw [aupd_ne (ne h.o3)]; exact h.o3, by rw [aupd_ne (ne h.o4)]; exact h.o4, by simp [h.lq], fun i q' l h1 h2 => ?_⟩
  · have e : x :: a1 :: a2 :: a3 :: a4 :: (qs ++ [q]) = (x :: a1 :: a2 :: a3 :: a4 :: qs) ++ [q] := by simp
    rw [e]
    refine List.nodup_append.mpr ⟨h.nd, by simp, fun a ha b hb => ?_⟩
    rw [List.mem_singleton.mp hb]
    simp only [List.mem_cons] at ha
    rcases ha with rfl | rfl | rfl | rfl | rfl | ha
    · exact ne h.ox
    · exact ne h.o1
    · exact ne h.o2
    · exact ne h.o3
    · exact ne h.o4
    · exact fun z => nqs (by rw [← z]; exact ha)
  · have : a ∈ (a1 :: a2 :: a3 :: a4 :: qs) ∨ a = q := by
      simp only [List.mem_cons, List.mem_append, List.not_mem_nil, or_false] at ha
      rcases ha with h | h | h | h | h | h <;> simp [h]
    rcases this with z | rfl
    · exact h.fr a z
    · exact hq0
  · by_cases z : i < qs.length
    · rw [List.getElem?_append_left z] at h1
      rw [List.getElem?_append_left (by rw [← h.lq]; exact z)] at h2
      have := h.oq i q' l h1 h2
      rw [aupd_ne (ne this)]
      exact this
    · have e2 : i = qs.length := by
        have := (List.getElem?_eq_some_iff.mp h1).1
        simp at this
        omega
      subst e2
      simp at h1
      subst h1
      rw [h.lq] at h2
      simp at h2
      subst h2
      exact aupd_same
theorem LI.setq (h : LI K M0 M x a1 a2 a3 a4 qs rs rl k3 k4 ix) (hq : qs[i]? = some q) : LI K M0 (aupd M q (.lst (natsA l))) x a1 a2 a3 a4 qs rs rl k3 k4 (ix.set i l) := by
  have nd := h.nd
  have hm := List.mem_of_getElem? hq
  simp only [List.nodup_cons, List.mem_cons, not_or] at nd
  obtain ⟨⟨x1, x2, x3, x4, xq⟩, ⟨b2, b3, b4, bq⟩, ⟨c3, c4, cq⟩, ⟨d4, dq⟩, eq, nq⟩ := nd
  have ne : ∀ {a : Addr}, a ∉ qs → a ≠ q := fun h z => h (by rw [z]; exact hm)
  refine ⟨fun b o e => ?_, h.nd, h.fr, by rw [aupd_ne (ne xq)]; exact h.ox, by rw [aupd_ne (ne bq)]; exact h.o1, by rw [aupd_ne (ne cq)]; exact h.o2, by rw [aupd_ne (ne dq)]; exact h.o3, by rw [aupd_ne (ne eq)]; exact h.o4, by simp [h.lq], fun j q' l' h1 h2 => ?_⟩
  · have f3 := h.fr q (by simp [hm])
    have : b ≠ q := fun z => by
      rw [z] at e
      have := adel_sub.at e
      rw [f3] at this
      cases this
    rw [aupd_ne this]
    exact h.sub.at e
  · rw [List.getElem?_set] at h2
    by_cases z : i = j
    · subst z
      rw [hq] at h1
      cases h1
      rw [if_pos rfl] at h2
      by_cases lz : i < ix.length
      · rw [if_pos lz] at h2
        cases h2
        exact aupd_same
      · rw [if_neg lz] at h2; cases h2
    · rw [if_neg z] at h2
      have : q' ≠ q := fun e => by
        subst e
        have := (List.getElem?_inj (List.getElem?_eq_some_iff.mp h1).1 nq).mp (h1.trans hq.symm)
        exact z this.symm
      rw [aupd_ne this]
      exact h.oq j q' l' h1 h2
end
theorem LI.mk0 {K : PySem.W.Frag} {M : AM} {x a1 a2 a3 a4 : Addr} {rs rl : List A} {f1 f2 f3 : AO} {f4 : List (Str × A)} (hx : M x ≠ none) (h1 : M a1 = none) (h2 : aupd (aupd M a1 (.lst rs)) x f1 a2 = none) (h3 : aupd (aupd (aupd (aupd M a1 (.lst rs)) x f1) a2 (.lst rl)) x f2 a3 = none)
    (h4 : aupd (aupd (aupd (aupd (aupd (aupd M a1 (.lst rs)) x f1) a2 (.lst rl)) x f2) a3 (.dK [])) x f3 a4 = none) (hf : f4 = langF a1 a2 a3 a4) :
    LI K M (aupd (aupd (aupd (aupd (aupd (aupd (aupd (aupd M a1 (.lst rs)) x f1) a2 (.lst rl)) x f2) a3 (.dK [])) x f3) a4 (.dK [])) x (.ins (He.ga K "Language") f4)) x a1 a2 a3 a4 [] rs rl [] [] [] := by
  have x1 : x ≠ a1 := fun z => hx (by rw [z]; exact h1)
  obtain ⟨n2x, h2⟩ := Ab.lk_none h2
  obtain ⟨n21, h2⟩ := Ab.lk_none h2
  obtain ⟨n3x, h3⟩ := Ab.lk_none h3
  obtain ⟨n32, h3⟩ := Ab.lk_none h3
  obtain ⟨_, h3⟩ := Ab.lk_none h3
  obtain ⟨n31, h3⟩ := Ab.lk_none h3
  obtain ⟨n4x, h4⟩ := Ab.lk_none h4
  obtain ⟨n43, h4⟩ := Ab.lk_none h4
  obtain ⟨_, h4⟩ := Ab.lk_none h4
  obtain ⟨n42, h4⟩ := Ab.lk_none h4
  obtain ⟨_, h4⟩ := Ab.lk_none h4
  obtain ⟨n41, h4⟩ := Ab.lk_none h4
  subst hf
  refine ⟨fun b o e => ?_, ?_, fun a ha => ?_, aupd_same, ?_, ?_, ?_, ?_, rfl, fun i q l h => by simp at h⟩
  · have hb := adel_sub.at e
    have bx : b ≠ x := fun z => by rw [z, adel_none] at e; cases e
    rw [aupd_ne bx, aupd_ne (ne_of_anone hb h4), aupd_ne bx, aupd_ne (ne_of_anone hb h3), aupd_ne bx, aupd_ne (ne_of_anone hb h2), aupd_ne bx, aupd_ne (ne_of_anone hb h1)]
    exact hb
  · simp only [List.nodup_cons, List.mem_cons, List.not_mem_nil, or_false, not_or, List.nodup_nil, and_true, not_false_eq_true]
    exact ⟨⟨x1, Ne.symm n2x, Ne.symm n3x, Ne.symm n4x⟩, ⟨Ne.symm n21, Ne.symm n31, Ne.symm n41⟩, ⟨Ne.symm n32, Ne.symm n42⟩, Ne.symm n43⟩
  · simp only [List.mem_cons, List.not_mem_nil, or_false] at ha
    rcases ha with rfl | rfl | rfl | rfl
    · exact h1
    · exact h2
    · exact h3
    · exact h4
  · rw [aupd_ne (Ne.symm x1), aupd_ne (Ne.symm n41), aupd_ne (Ne.symm x1), aupd_ne (Ne.symm n31), aupd_ne (Ne.symm x1), aupd_ne (Ne.symm n21), aupd_ne (Ne.symm x1), aupd_same]
  · rw [aupd_ne n2x, aupd_ne (Ne.symm n42), aupd_ne n2x, aupd_ne (Ne.symm n32), aupd_ne n2x, aupd_same]
  · rw [aupd_ne n3x, aupd_ne (Ne.symm n43), aupd_ne n3x, aupd_same]
  · rw [aupd_ne n4x, aupd_same]
def rowBad (rows : List RowI) (i : Nat) : Prop := ∃ r, rows[i]? = some r ∧ (r.ok = false ∨ ∃ j q, j < i ∧ rows[j]? = some q ∧ q.name = r.name)
def ruleBad (rows : List Row) (rules : List (Fm × Fm)) (i : Nat) : Prop := ∃ x, rules[i]? = some x ∧ ruleOkF rows x.1 x.2 = false
def ovl (rules : List (Fm × Fm)) (a b : Nat) : Prop := ∃ s ps qs x y, rules[a]? = some x ∧ rules[b]? = some y ∧ x.1 = .node s ps ∧ y.1 = .node s qs ∧ overlF ps qs = true
def headIs (rules : List (Fm × Fm)) (s : Str) (k : Nat) : Bool := match rules[k]? with
  | some (.node t _, _) => decide (t = s)
  | _ => false
def rulesOf (rules : List (Fm × Fm)) (n : Nat) (s : Str) : List Nat := (List.range n).filter (headIs rules s)
theorem rulesOf_succ {rules : List (Fm × Fm)} {n : Nat} {s : Str} : rulesOf rules (n + 1) s = rulesOf rules n s ++ if headIs rules s n = true then [n] else [] := by
  unfold rulesOf
  rw [List.range_succ, List.filter_append, List.filter_cons, List.filter_nil]
def LangObj (K : PySem.W.Frag) (M0 M : AM) (x : Addr) (rows : List Row) (rules : List (Fm × Fm)) : Prop := ∃ a1 a2 a3 a4 qs, LI K M0 M x a1 a2 a3 a4 qs (rowsA rows) (rules.map ruleA) (rowKvs rows) ((rows.map fun r => Sum.inr r.name).zip (qs.map A.ref)) (rows.map fun r => rulesOf rules rules.length r.name)
theorem rowI_ok {r : RowI} (h : r.ok = true) : ∃ q : Row, q.a = r.a ∧ q.name = r.name ∧ isWord q.name = true ∧ q.places ≤ 4 ∧ q.worked.Nodup ∧ ∀ k ∈ q.worked, k < q.places := by
  unfold RowI.ok at h
  simp only [Bool.and_eq_true, decide_eq_true_eq] at h
  obtain ⟨⟨h1, h2, h3⟩, h4⟩ := h
  have hw : ∀ (i : Nat) (p : Int), r.worked[i]? = some p → 0 ≤ p ∧ p < r.places ∧ p ∉ r.worked.take i := by
    intro i p hp
    have := List.all_eq_true.mp h4 i (List.mem_range.mpr (List.getElem?_eq_some_iff.mp hp).1)
    rw [hp] at this
    simp only [Bool.and_eq_true, decide_eq_true_eq, Bool.not_eq_true', decide_eq_false_iff_not] at this
    exact ⟨this.1.1, this.1.2, this.2⟩
  have e : r.worked = (r.worked.map Int.toNat).map fun (k : Nat) => (k : Int) := by
    rw [List.map_map]
    have : r.worked = r.worked.map id := by simp
    conv => lhs; rw [this]
    refine List.map_congr_left fun p hp => ?_
    obtain ⟨i, hi⟩ := List.getElem?_of_mem hp
    have := hw i p hi
    simp only [id, Function.comp]
    omega
  refine ⟨⟨r.name, r.places.toNat, r.worked.map Int.toNat, r.done⟩, ?_, rfl, h1, by dsimp only; omega, ?_, fun k hk => ?_⟩
  · show A.tup _ = A.tup _
    have e2 : ((r.places.toNat : Nat) : Int) = r.places := by omega
    rw [natsA_ints]
    dsimp only
    rw [← e, e2]
  · refine List.pairwise_iff_getElem.mpr fun i j hi hj hij z => ?_
    rw [List.length_map] at hi hj
    rw [List.getElem_map, List.getElem_map] at z
    have w1 := hw i _ (List.getElem?_eq_getElem hi)
    have w2 := hw j _ (List.getElem?_eq_getElem hj)
    refine w2.2.2 ?_
    have : r.worked[i] = r.worked[j] := by omega
    rw [← this]
    exact List.mem_take_iff_getElem.mpr ⟨i, by omega, rfl⟩
  · obtain ⟨p, hp, rfl⟩ := List.mem_map.mp hk
    obtain ⟨i, hi⟩ := List.getElem?_of_mem hp
    have := hw i p hi
    dsimp only
    omega
theorem rowsI_ok : ∀ {rs : List RowI}, (∀ r ∈ rs, r.ok = true) → ∃ rows : List Row, rowsA rows = rs.map RowI.a ∧ rowKvs rows = rs.map (fun r => (Sum.inr r.name, r.a)) ∧ rows.map Row.name = rs.map RowI.name
  | [], _ => ⟨[], rfl, rfl, rfl⟩
  | r :: rs, h => by
    obtain ⟨q, h1, h2, _⟩ := rowI_ok (h r List.mem_cons_self)
    obtain ⟨rows, h3, h4, h5⟩ := rowsI_ok fun q hq => h q (List.mem_cons_of_mem _ hq)
    refine ⟨q :: rows, ?_, ?_, ?_⟩
    · simp only [rowsA, List.map_cons]; rw [h1]; exact congrArg _ h3
    · simp only [rowKvs, List.map_cons]; rw [h1, h2]; exact congrArg _ h4
    · simp only [List.map_cons]; rw [h2, h5]
namespace Ab
def sp_init (K : PySem.W.Frag) : ASp := fun as M P X => ∃ (x sg rl : Addr) (rs : List RowI) (rules : List (Fm × Fm)), as = [.ref x, .ref sg, .ref rl] ∧ LK K ∧ M x = some (.ins (He.ga K "Language") []) ∧ M sg = some (.lst (rs.map RowI.a)) ∧ M rl = some (.lst (rules.map ruleA)) ∧
  rs.length ≤ 1000 ∧ rules.length ≤ 10000 ∧ (∀ r ∈ rs, r.name.length ≤ 100000 ∧ r.worked.length ≤ 1000) ∧ (∀ y ∈ rules, (y.1.size ≤ 1000 ∧ y.1.depth ≤ 28) ∧ y.2.size ≤ 1000 ∧ y.2.depth ≤ 28) ∧
  (∀ i, rowBad rs i → (∀ j, j < i → ¬ rowBad rs j) → ∀ M', Sub (adel M x) M' → X (He.ga K "BadSign") [("index", .int (i : Int))] M') ∧
  ∀ rows : List Row, rowsA rows = rs.map RowI.a → rows.map Row.name = rs.map RowI.name → (∀ j, ¬ rowBad rs j) →
    (∀ i, ruleBad rows rules i → (∀ j, j < i → ¬ ruleBad rows rules j) → ∀ M', Sub (adel M x) M' → X (He.ga K "BadRule") [("index", .int (i : Int))] M') ∧
    ((∀ j, ¬ ruleBad rows rules j) → (∀ a b, a < b → ovl rules a b → (∀ a' b', b' < b → a' < b' → ¬ ovl rules a' b') → (∀ a', a' < a → ¬ ovl rules a' b) → ∀ M', Sub (adel M x) M' → X (He.ga K "Overlap") [("second", .int (b : Int)), ("first", .int (a : Int))] M') ∧
      ((∀ a b, a < b → ¬ ovl rules a b) → ∀ M', LangObj K M M' x rows rules → P .non M'))
end Ab
namespace Ab
theorem ln_init {K : PySem.W.Frag} (as : List A) (M : AM) (P : AK) (X : AX) : sp_init K as M P X → as.length = 3 := by rintro ⟨_, _, _, _, _, rfl, _⟩; rfl
end Ab
def sp_init (K : PySem.W.Frag) : Sp := lift K (Ab.sp_init K)
theorem len_init {K : PySem.W.Frag} {vs : List V} {H : Hp} {Q : VK} {E : XK} (h : sp_init K vs H Q E) : vs.length = 3 := lift_len Ab.ln_init h
def t_init (K : PySem.W.Frag) (E : XK) : TS := (tSeq (sFld K (tVar 0) (tCB (rListOf K) (tCons (tVar 1) tNil)) "sign_rows")
  (tSeq (sFld K (tVar 0) (tCB (rListOf K) (tCons (tVar 2) tNil)) "rule_pairs")
  (tSeq (sFld K (tVar 0) tDNewK "row_of")
  (tSeq (sFld K (tVar 0) tDNewK "rules_of")
  (tSeq (tFor (iEnum K (tCons (tFld K (tVar 0) "sign_rows") tNil)) (gTup K 2 (gCons (gName 3) (gCons (gName 4) gNil)))
  (tSeq (tIfS (tOr (tNot (tB (tCall (sp_rowok K) [] E0 (tCons (tVar 4) tNil)))) (tB (tDIn (tOp (rIxT K) (tVar 4) (tC (.int 0))) (tFld K (tVar 0) "row_of")))) (tRaise1 K "BadSign" "BadSign" "index" (WF E) (tVar 3))
  tNext)
  (tSeq (sDPut (tFld K (tVar 0) "row_of") (tOp (rIxT K) (tVar 4) (tC (.int 0))) (tVar 4))
  (sDPut (tFld K (tVar 0) "rules_of") (tOp (rIxT K) (tVar 4) (tC (.int 0))) (tLst tNil)))))
  (tSeq (tFor (iEnum K (tCons (tFld K (tVar 0) "rule_pairs") tNil)) (gTup K 2 (gCons (gName 3) (gCons (gTup K 2 (gCons (gName 5) (gCons (gName 6) gNil))) gNil)))
  (tIfS (tNot (tB (tCall (sp_ruleok K) [] E0 (tCons (tFld K (tVar 0) "row_of") (tCons (tVar 5) (tCons (tVar 6) tNil)))))) (tRaise1 K "BadRule" "BadRule" "index" (WF E) (tVar 3))
  tNext))
  (tFor (iEnum K (tCons (tFld K (tVar 0) "rule_pairs") tNil)) (gTup K 2 (gCons (gName 7) (gCons (gTup K 2 (gCons (gName 5) (gCons (gName 6) gNil))) gNil)))
  (tSeq (tFor (iList K (tDGet (tFld K (tVar 0) "rules_of") (tOp (rIxT K) (tVar 5) (tC (.int 0))))) (gName 8)
  (tIfS (tB (tCall (sp_overl K) [] E0 (tCons (tOp (rIxT K) (tOp (rIxL K) (tFld K (tVar 0) "rule_pairs") (tVar 8)) (tC (.int 0))) (tCons (tVar 5) tNil)))) (tRaise2 K "Overlap" "Overlap" "first" "second" (WF E) (tVar 8) (tVar 7))
  tNext))
  (tDrop (tBM K "list" rAppend (tDGet (tFld K (tVar 0) "rules_of") (tOp (rIxT K) (tVar 5) (tC (.int 0)))) (tCons (tVar 7) tNil)))))))))))
abbrev N_init : List Str := ["self", "signs", "rules", "index", "row", "left", "right", "second", "first"]
namespace Ab
def t_init (K : PySem.W.Frag) (E : AX) : TS := (tSeq (sFld K (tVar 0) (tCB (rListOf K) (tCons (tVar 1) tNil)) "sign_rows")
  (tSeq (sFld K (tVar 0) (tCB (rListOf K) (tCons (tVar 2) tNil)) "rule_pairs")
  (tSeq (sFld K (tVar 0) tDNewK "row_of")
  (tSeq (sFld K (tVar 0) tDNewK "rules_of")
  (tSeq (tFor (iEnum K (tCons (tFld K (tVar 0) "sign_rows") tNil)) (gTup K 2 (gCons (gName 3) (gCons (gName 4) gNil)))
  (tSeq (tIfS (tOr (tNot (tB (tCall (sp_rowok K) [] E0 (tCons (tVar 4) tNil)))) (tB (tDIn (tOp (rIxT K) (tVar 4) (tC (.int 0))) (tFld K (tVar 0) "row_of")))) (tRaise1 K "BadSign" "BadSign" "index" (WF E) (tVar 3))
  tNext)
  (tSeq (sDPut (tFld K (tVar 0) "row_of") (tOp (rIxT K) (tVar 4) (tC (.int 0))) (tVar 4))
  (sDPut (tFld K (tVar 0) "rules_of") (tOp (rIxT K) (tVar 4) (tC (.int 0))) (tLst tNil)))))
  (tSeq (tFor (iEnum K (tCons (tFld K (tVar 0) "rule_pairs") tNil)) (gTup K 2 (gCons (gName 3) (gCons (gTup K 2 (gCons (gName 5) (gCons (gName 6) gNil))) gNil)))
  (tIfS (tNot (tB (tCall (sp_ruleok K) [] E0 (tCons (tFld K (tVar 0) "row_of") (tCons (tVar 5) (tCons (tVar 6) tNil)))))) (tRaise1 K "BadRule" "BadRule" "index" (WF E) (tVar 3))
  tNext))
  (tFor (iEnum K (tCons (tFld K (tVar 0) "rule_pairs") tNil)) (gTup K 2 (gCons (gName 7) (gCons (gTup K 2 (gCons (gName 5) (gCons (gName 6) gNil))) gNil)))
  (tSeq (tFor (iList K (tDGet (tFld K (tVar 0) "rules_of") (tOp (rIxT K) (tVar 5) (tC (.int 0))))) (gName 8)
  (tIfS (tB (tCall (sp_overl K) [] E0 (tCons (tOp (rIxT K) (tOp (rIxL K) (tFld K (tVar 0) "rule_pairs") (tVar 8)) (tC (.int 0))) (tCons (tVar 5) tNil)))) (tRaise2 K "Overlap" "Overlap" "first" "second" (WF E) (tVar 8) (tVar 7))
  tNext))
  (tDrop (tBM K "list" rAppend (tDGet (tFld K (tVar 0) "rules_of") (tOp (rIxT K) (tVar 5) (tC (.int 0)))) (tCons (tVar 7) tNil)))))))))))
end Ab
theorem rf_init {K : PySem.W.Frag} {E : XK} {X : AX} : RSt K E X (t_init K E) (Ab.t_init K X) := by
  unfold My.t_init Ab.t_init
  walk_at "rf"
theorem putA_new {kvs : List (Key × A)} {k : Key} {v : A} (h : ∀ kv ∈ kvs, kv.1 ≠ k) : putA kvs k v = kvs ++ [(k, v)] := by
  unfold putA
  have : (kvs.any fun kv => decide (kv.1 = k)) = false := List.any_eq_false.mpr fun kv hk => by simpa using h kv hk
  rw [this, if_neg Bool.false_ne_true]
theorem valA_some {kvs : List (Key × A)} {k : Key} {i : Nat} {v : A} (nd : (kvs.map (·.1)).Nodup) (h : kvs[i]? = some (k, v)) : valA kvs k = some v := by
  induction kvs generalizing i with
  | nil => simp at h
  | cons x kvs ih =>
    rw [List.map_cons, List.nodup_cons] at nd
    unfold valA
    rw [List.find?_cons]
    cases i with
    | zero =>
      simp at h
      subst h
      simp
    | succ i =>
      have h2 : kvs[i]? = some (k, v) := by simpa using h
      have : ¬ x.1 = k := fun e => nd.1 (by rw [e]; exact List.mem_map.mpr ⟨_, List.mem_of_getElem? h2, rfl⟩)
      simp only [this, decide_false]
      exact ih nd.2 h2
abbrev keysI (rs : List RowI) : List (Key × A) := rs.map fun r => (Sum.inr r.name, r.a)
abbrev refsI (rs : List RowI) (qs : List Addr) : List (Key × A) := (rs.map fun r => (Sum.inr r.name : Key)).zip (qs.map A.ref)
namespace Ab
theorem ab_init {K : PySem.W.Frag} {as : List A} {M : AM} {P : AK} {X : AX} (h : sp_init K as M P X) : t_init K X { nx := fun _ M' => Wk P .non M', rt := Wk P } (start N_init as) M := by
  obtain ⟨x, sg, rl, rs, rules, rfl, hK, hx, hsg, hrl, hzr, hzl, hr1, hr2, kBS, kOK⟩ := h
  have nxs : x ≠ sg := fun z => by rw [z, hsg] at hx; cases hx
  have nxr : x ≠ rl := fun z => by rw [z, hrl] at hx; cases hx
  unfold t_init
  walk_at "ao"
  intro a1 h1
  walk_at "ao"
  have x1 : x ≠ a1 := ne_of_anone hx h1
  refine ⟨x, _, [], rfl, lk_ne x1 hx, hK.cls, hK.n1, by simp, ?_⟩
  walk_at "ao"
  intro a2 h2
  walk_at "ao"
  have y2 := (lk_none h2).1
  refine ⟨x, _, _, rfl, lk_ne (Ne.symm y2) aupd_same, hK.cls, hK.n2, (by show (1 : Nat) < 1000; decide), ?_⟩
  walk_at "ao"
  intro a3 h3
  walk_at "ao"
  have y3 := (lk_none h3).1
  refine ⟨x, _, _, rfl, lk_ne (Ne.symm y3) aupd_same, hK.cls, hK.n3, (by show (2 : Nat) < 1000; decide), ?_⟩
  walk_at "ao"
  intro a4 h4
  walk_at "ao"
  have y4 := (lk_none h4).1
  refine ⟨x, _, _, rfl, lk_ne (Ne.symm y4) aupd_same, hK.cls, hK.n4, (by show (3 : Nat) < 1000; decide), ?_⟩
  have L0 := LI.mk0 (K := K) (rl := rules.map ruleA) (by rw [hx]; simp) h1 h2 h3 h4 langF_put
  revert L0
  generalize (aupd (aupd (aupd (aupd (aupd (aupd (aupd (aupd M a1 _) x _) a2 _) x _) a3 _) x _) a4 _) x _) = M0
  intro L0
  walk_at "ao"
  refine g_fld L0.ox hK.cls hK.n1 langF1 ?_
  walk_at "ao"
  refine g_exL1 L0.o1 ?_
  have xin : ∀ {M' : AM} {qs ix rl k3 k4}, LI K M M' x a1 a2 a3 a4 qs (rs.map RowI.a) rl k3 k4 ix → Sub (adel M x) M' := fun h => h.sub
  -- the rows
  refine for_ (fun i s M' => ∃ (o3 o4 : Option A) (qs : List Addr), s = [some (.ref x), some (.ref sg), some (.ref rl), o3, o4, none, none, none, none] ∧ LI K M M' x a1 a2 a3 a4 qs (rs.map RowI.a) (rules.map ruleA) (keysI (rs.take i)) (refsI (rs.take i) qs) (List.replicate qs.length []) ∧ qs.length = i ∧ ∀ j, j < i → ¬ rowBad rs j) ?_ ?_ ?_ ?_
  · exact ⟨_, _, [], rfl, L0, rfl, by omega⟩
  · rintro i s M' _ ⟨o3, o4, qs, rfl, hL, _⟩
    exact hL.o1
  · rintro i y s M' hi ⟨o3, o4, qs, rfl, hL, rfl, hno⟩
    obtain ⟨z, hz, rfl⟩ := Rf.enum_get hi
    obtain ⟨r, hr, rfl⟩ := getA hz
    have hrm := List.mem_of_getElem? hr
    have hrl := (List.getElem?_eq_some_iff.mp hr).1
    obtain ⟨hrn, hrw⟩ := hr1 r hrm
    have htk : rs.take (qs.length + 1) = rs.take qs.length ++ [r] := by rw [List.take_add_one, hr]; rfl
    have keyIn : (valA (keysI (rs.take qs.length)) (.inr r.name)).isSome = true ↔ ∃ (j : Nat) (q : RowI), j < qs.length ∧ rs[j]? = some q ∧ q.name = r.name := by
      constructor
      · intro h
        unfold valA at h
        rw [Option.isSome_map] at h
        obtain ⟨kv, hk⟩ := Option.isSome_iff_exists.mp h
        have h2 := List.mem_of_find?_eq_some hk
        have h3 := List.find?_some hk
        obtain ⟨q, hq, rfl⟩ := List.mem_map.mp h2
        obtain ⟨j, hj⟩ := List.getElem?_of_mem hq
        have hjl := (List.getElem?_eq_some_iff.mp hj).1
        rw [List.length_take] at hjl
        rw [List.getElem?_take] at hj
        rw [if_pos (by omega)] at hj
        have h4 : (Sum.inr q.name : Key) = .inr r.name := of_decide_eq_true h3
        exact ⟨j, q, by omega, hj, Sum.inr.inj h4⟩
      · rintro ⟨j, q, hj, hq, e⟩
        unfold valA
        rw [Option.isSome_map, List.find?_isSome]
        refine ⟨_, List.mem_map.mpr ⟨q, List.mem_of_getElem? (i := j) (by rw [List.getElem?_take, if_pos hj]; exact hq), rfl⟩, by simp [e]⟩
    walk_at "ao"
    refine ⟨r, rfl, hrn, hrw, ?_⟩
    walk_at "ao"
    refine g_2 (fun c => ?_) (fun c => ?_)
    · walk_at "ao"
      exact ⟨hK.bs, kBS _ ⟨r, hr, .inl (by simpa using c)⟩ hno M' hL.sub⟩
    have rok : r.ok = true := by simpa using c
    walk_at "ao"
    refine g_fld hL.ox hK.cls hK.n3 langF3 ?_
    walk_at "ao"
    refine g_dinS hL.o3 ?_
    walk_at "ao"
    refine g_2 (fun c2 => ?_) (fun c2 => ?_)
    · walk_at "ao"
      obtain ⟨j, q, h5, h6, h7⟩ := keyIn.mp c2
      exact ⟨hK.bs, kBS _ ⟨r, hr, .inr ⟨j, q, h5, h6, h7⟩⟩ hno M' hL.sub⟩
    have nokey : ¬ ∃ (j : Nat) (q : RowI), j < qs.length ∧ rs[j]? = some q ∧ q.name = r.name := fun h => by
      rw [keyIn.mpr h] at c2
      cases c2
    have nk : ∀ kv ∈ keysI (rs.take qs.length), kv.1 ≠ (.inr r.name : Key) := by
      intro kv hkv e
      obtain ⟨q, hq, rfl⟩ := List.mem_map.mp hkv
      obtain ⟨j, hj⟩ := List.getElem?_of_mem hq
      have hjl := (List.getElem?_eq_some_iff.mp hj).1
      rw [List.length_take] at hjl
      rw [List.getElem?_take, if_pos (by omega)] at hj
      exact nokey ⟨j, q, by omega, hj, Sum.inr.inj e⟩
    walk_at "ao"
    refine g_fld hL.ox hK.cls hK.n3 langF3 ?_
    walk_at "ao"
    refine g_putS hL.o3 (bigl (by simp [keysI]; omega)) ?_
    rw [putA_new nk]
    have L1 := hL.set3 (k3' := keysI (rs.take qs.length) ++ [(.inr r.name, r.a)])
    revert L1
    generalize aupd M' a3 _ = M1
    intro L1
    walk_at "ao"
    intro q hq
    have L2 := L1.newq hq
    revert L2
    generalize aupd M1 q _ = M2
    intro L2
    walk_at "ao"
    refine g_fld L2.ox hK.cls hK.n4 langF4 ?_
    walk_at "ao"
    have nk2 : ∀ kv ∈ refsI (rs.take qs.length) qs, kv.1 ≠ (.inr r.name : Key) := by
      intro kv hkv e
      have h8 : kv.1 ∈ (rs.take qs.length).map fun r => (Sum.inr r.name : Key) := (List.of_mem_zip (show (kv.1, kv.2) ∈ _ from hkv)).1
      obtain ⟨q', hq', h9⟩ := List.mem_map.mp h8
      exact nk _ (List.mem_map.mpr ⟨q', hq', rfl⟩) (h9.trans e)
    refine g_putS L2.o4 (bigl (by simp [refsI]; omega)) ?_
    rw [putA_new nk2]
    refine ⟨_, _, qs ++ [q], rfl, ?_, by simp, fun j hj => ?_⟩
    · have e1 : keysI (rs.take (qs.length + 1)) = keysI (rs.take qs.length) ++ [(.inr r.name, r.a)] := by rw [htk]; simp [keysI]
      have e2 : refsI (rs.take (qs.length + 1)) (qs ++ [q]) = refsI (rs.take qs.length) qs ++ [(.inr r.name, .ref q)] := by
        rw [htk]
        unfold refsI
        rw [List.map_append, List.map_append, List.zip_append (by simp; omega)]
        rfl
      have e3 : List.replicate (qs ++ [q]).length ([] : List Nat) = List.replicate qs.length [] ++ [[]] := by rw [List.length_append, List.replicate_append_replicate.symm]; rfl
      rw [e1, e2, e3]
      exact L2.set4
    · by_cases e : j < qs.length
      · exact hno j e
      · have : j = qs.length := by omega
        subst this
        rintro ⟨r', h5, h6⟩
        rw [hr] at h5
        cases h5
        rcases h6 with h6 | ⟨j, q', h7, h8, h9⟩
        · rw [rok] at h6; cases h6
        · exact nokey ⟨j, q', h7, h8, h9⟩
  · rintro s M' ⟨o3, o4, qs, rfl, hL, hql, hno⟩
    rw [Rf.enum_len, List.length_map] at hql hL hno
    rw [List.take_length] at hL
    have allno : ∀ j, ¬ rowBad rs j := fun j h => by
      have h' := h
      obtain ⟨r, hr, _⟩ := h
      exact hno j (List.getElem?_eq_some_iff.mp hr).1 h'
    have allok : ∀ r ∈ rs, r.ok = true := fun r hr => by
      obtain ⟨j, hj⟩ := List.getElem?_of_mem hr
      cases e : r.ok with
      | true => rfl
      | false => exact absurd ⟨r, hj, .inl e⟩ (allno j)
    obtain ⟨rows, er1, er2, er3⟩ := rowsI_ok allok
    obtain ⟨kBR, kOK⟩ := kOK rows er1 er3 allno
    have namesnd : (rows.map Row.name).Nodup := by
      rw [er3]
      refine List.pairwise_iff_getElem.mpr fun i j hi hj hij z => ?_
      rw [List.length_map] at hi hj
      rw [List.getElem_map, List.getElem_map] at z
      exact allno j ⟨rs[j], List.getElem?_eq_getElem hj, .inr ⟨i, rs[i], hij, List.getElem?_eq_getElem hi, z⟩⟩
    have erefs : refsI rs qs = (rows.map fun r => (Sum.inr r.name : Key)).zip (qs.map A.ref) := by
      unfold refsI
      have : rs.map (fun r => (Sum.inr r.name : Key)) = rows.map fun r => (Sum.inr r.name : Key) := by
        have h5 : ∀ (l : List RowI), l.map (fun r => (Sum.inr r.name : Key)) = (l.map RowI.name).map Sum.inr := fun l => by rw [List.map_map]; rfl
        have h6 : ∀ (l : List Row), l.map (fun r => (Sum.inr r.name : Key)) = (l.map Row.name).map Sum.inr := fun l => by rw [List.map_map]; rfl
        rw [h5, h6, er3]
      rw [this]
    have rlen : rows.length = rs.length := by have := congrArg List.length er3; simpa using this
    rw [← er1, erefs, show keysI rs = rowKvs rows from er2.symm] at hL
    walk_at "ao"
    refine g_fld hL.ox hK.cls hK.n2 langF2 ?_
    walk_at "ao"
    refine g_exL1 hL.o2 ?_
    refine for_ (fun i s M2 => M2 = M' ∧ (∃ (o3 o4 o5 o6 : Option A), s = [some (.ref x), some (.ref sg), some (.ref rl), o3, o4, o5, o6, none, none]) ∧ ∀ j, j < i → ¬ ruleBad rows rules j) ⟨rfl, ⟨_, _, _, _, rfl⟩, by omega⟩ ?_ ?_ ?_
    · rintro i s M2 _ ⟨rfl, _⟩
      exact hL.o2
    · rintro i y s M2 hi ⟨rfl, ⟨o3, o4, o5, o6, rfl⟩, hn⟩
      obtain ⟨z, hz, rfl⟩ := Rf.enum_get hi
      obtain ⟨⟨l, r⟩, hr, rfl⟩ := getA hz
      obtain ⟨⟨z1, z2⟩, z3, z4⟩ := hr2 _ (List.mem_of_getElem? hr)
      walk_at "ao"
      refine g_fld hL.ox hK.cls hK.n3 langF3 ?_
      walk_at "ao"
      refine ⟨a3, rows, l, r, rfl, hL.o3, z1, z2, z3, z4, ?_⟩
      walk_at "ao"
      refine g_2 (fun c => ?_) (fun c => ?_)
      · walk_at "ao"
        exact ⟨hK.br, kBR _ ⟨(l, r), hr, by simpa using c⟩ hn M2 hL.sub⟩
      · walk_at "ao"
        refine ⟨rfl, ⟨_, _, _, _, rfl⟩, fun j hj => ?_⟩
        by_cases e : j < i
        · exact hn j e
        · have : j = i := by omega
          subst this
          rintro ⟨x', h5, h6⟩
          rw [hr] at h5
          cases h5
          rw [h6] at c
          cases c
    · rintro s M2 ⟨rfl, ⟨o3, o4, o5, o6, rfl⟩, hn⟩
      rw [Rf.enum_len, List.length_map] at hn
      have allok2 : ∀ j, ¬ ruleBad rows rules j := fun j h => by
        have h' := h
        obtain ⟨r, hr, _⟩ := h
        exact hn j (List.getElem?_eq_some_iff.mp hr).1 h'
      obtain ⟨kOV, kOK⟩ := kOK allok2
      have shape : ∀ (i : Nat) (y : Fm × Fm), rules[i]? = some y → ∃ s ps row, y.1 = .node s ps ∧ findR rows s = some row ∧ ps.length ≤ 1000 := by
        intro i y hy
        have h5 : ruleOkF rows y.1 y.2 = true := by
          cases e : ruleOkF rows y.1 y.2 with
          | true => rfl
          | false => exact absurd ⟨y, hy, e⟩ (allok2 i)
        obtain ⟨⟨z1, z2⟩, z3, z4⟩ := hr2 _ (List.mem_of_getElem? hy)
        obtain ⟨l, r⟩ := y
        cases l with
        | hole n => cases h5
        | node s ps =>
          have hps := Fm.len_sizes ps
          simp only [Fm.size] at z1
          cases e : findR rows s with
          | some row => exact ⟨s, ps, row, rfl, e, by omega⟩
          | none =>
            have h5 : ruleOkF rows (.node s ps) r = true := h5
            simp only [ruleOkF, e, Bool.and_false, Bool.false_and] at h5
            cases h5
      walk_at "ao"
      refine g_fld hL.ox hK.cls hK.n2 langF2 ?_
      walk_at "ao"
      refine g_exL1 hL.o2 ?_
      refine for_ (fun i s M3 => (∃ (o3 o4 o5 o6 o7 o8 : Option A), s = [some (.ref x), some (.ref sg), some (.ref rl), o3, o4, o5, o6, o7, o8]) ∧ LI K M M3 x a1 a2 a3 a4 qs (rowsA rows) (rules.map ruleA) (rowKvs rows) ((rows.map fun r => Sum.inr r.name).zip (qs.map A.ref)) (rows.map fun r => rulesOf rules i r.name) ∧ ∀ a b, b < i → a < b → ¬ ovl rules a b) ?_ ?_ ?_ ?_
      · refine ⟨⟨_, _, _, _, _, _, rfl⟩, ?_, by omega⟩
        have : List.replicate qs.length ([] : List Nat) = rows.map fun r => rulesOf rules 0 r.name := by
          rw [hql, ← rlen]
          have : (fun (r : Row) => rulesOf rules 0 r.name) = fun _ => [] := by funext r; rfl
          rw [this, List.map_const']
        rw [← this]
        exact hL
      · rintro i s M3 _ ⟨_, hL3, _⟩
        exact hL3.o2
      · rintro i y s M3 hi ⟨⟨o3, o4, o5, o6, o7, o8, rfl⟩, hL3, hno3⟩
        obtain ⟨z, hz, rfl⟩ := Rf.enum_get hi
        obtain ⟨⟨l, r⟩, hr, rfl⟩ := getA hz
        obtain ⟨t, ps, row, e1, hfr, hpl⟩ := shape i _ hr
        dsimp only at e1
        subst e1
        obtain ⟨hrm, hrn⟩ := findR_mem hfr
        obtain ⟨i0, hi0⟩ := List.getElem?_of_mem hrm
        have hi0l := (List.getElem?_eq_some_iff.mp hi0).1
        obtain ⟨q0, hq0⟩ : ∃ q0, qs[i0]? = some q0 := ⟨_, List.getElem?_eq_getElem (by rw [hql, ← rlen]; exact hi0l)⟩
        have hq0m : M3 q0 = some (.lst (natsA (rulesOf rules i row.name))) := hL3.oq i0 q0 _ hq0 (by rw [List.getElem?_map, hi0]; rfl)
        have hget : valA ((rows.map fun r => (Sum.inr r.name : Key)).zip (qs.map A.ref)) (.inr t) = some (.ref q0) := by
          refine valA_some (i := i0) ?_ ?_
          · rw [List.map_fst_zip (by simp [hql, rlen])]
            have : rows.map (fun r => (Sum.inr r.name : Key)) = (rows.map Row.name).map Sum.inr := by rw [List.map_map]; rfl
            rw [this]
            exact List.pairwise_map.mpr (namesnd.imp fun h z => h (Sum.inr.inj z))
          · rw [List.getElem?_zip_eq_some]
            refine ⟨by rw [List.getElem?_map, hi0, ← hrn]; rfl, by rw [List.getElem?_map, hq0]; rfl⟩
        simp only [Fm.a]
        walk_at "ao"
        refine g_fld hL3.ox hK.cls hK.n4 langF4 ?_
        walk_at "ao"
        refine g_ixT (v := .str t) (atI_nat (j := 0) rfl) ?_
        walk_at "ao"
        refine g_dgetS hL3.o4 hget ?_
        walk_at "ao"
        have hmem : ∀ a, a ∈ rulesOf rules i row.name ↔ a < i ∧ headIs rules t a = true := by
          intro a
          unfold rulesOf
          rw [List.mem_filter, List.mem_range, hrn]
        have hsort : (rulesOf rules i row.name).Pairwise (· < ·) := List.pairwise_lt_range.filter _
        have hhead : ∀ a, headIs rules t a = true → ∃ qs' y, rules[a]? = some y ∧ y.1 = .node t qs' := by
          intro a h
          unfold headIs at h
          split at h
          · rename_i t' qs' r' e
            have := of_decide_eq_true h
            subst this
            exact ⟨qs', _, e, rfl⟩
          · cases h
        have hovl : ∀ a, ovl rules a i → headIs rules t a = true := by
          rintro a ⟨s', ps1, ps2, y1, y2, h5, h6, h7, h8, _⟩
          rw [hr] at h6
          cases h6
          dsimp only at h8
          injection h8 with h9 h10
          obtain ⟨y11, y12⟩ := y1
          dsimp only at h7
          subst h7
          unfold headIs
          rw [h5]
          dsimp only
          rw [h9]
          simp
        refine for_ (fun k s M4 => M4 = M3 ∧ (∃ (o8 : Option A), s = [some (.ref x), some (.ref sg), some (.ref rl), o3, o4, some (.tup (.str t :: Fm.as ps)), some r.a, some (.int (i : Int)), o8]) ∧ ∀ k' a, k' < k → (rulesOf rules i row.name)[k']? = some a → ¬ ovl rules a i) ⟨rfl, ⟨_, rfl⟩, by omega⟩ ?_ ?_ ?_
        · rintro k s M4 _ ⟨rfl, _⟩
          exact hq0m
        · rintro k y s M4 hk ⟨rfl, ⟨o8, rfl⟩, hnk⟩
          obtain ⟨a, ha, rfl⟩ := getA hk
          obtain ⟨hai, hah⟩ := (hmem a).mp (List.mem_of_getElem? ha)
          obtain ⟨qs', ⟨y1, y2⟩, hya, hyl⟩ := hhead a hah
          dsimp only at hyl
          subst hyl
          obtain ⟨t', ps', row', e1, _, hpl'⟩ := shape a _ hya
          dsimp only at e1
          cases e1
          walk_at "ao"
          refine g_fld hL3.ox hK.cls hK.n2 langF2 ?_
          walk_at "ao"
          refine g_ixL hL3.o2 (v := ruleA (.node t qs', y2)) (atI_nat (by rw [List.getElem?_map, hya]; rfl)) ?_
          walk_at "ao"
          refine ⟨t, t, qs', ps, rfl, hpl', hpl, ?_⟩
          walk_at "ao"
          refine g_2 (fun c => ?_) (fun c => ?_)
          · walk_at "ao"
            refine ⟨hK.ov, kOV a i hai ⟨t, qs', ps, _, _, hya, hr, rfl, rfl, c⟩ (fun a' b' h1 h2 => hno3 a' b' h1 h2) (fun a' ha' h => ?_) M4 hL3.sub⟩
            have hm' := (hmem a').mpr ⟨by omega, hovl a' h⟩
            obtain ⟨k', hk'⟩ := List.getElem?_of_mem hm'
            by_cases e : k' < k
            · exact hnk k' a' e hk' h
            · obtain ⟨l1, e1⟩ := List.getElem?_eq_some_iff.mp hk'
              obtain ⟨l2, e2⟩ := List.getElem?_eq_some_iff.mp ha
              by_cases e3 : k = k'
              · subst e3
                rw [hk'] at ha
                cases ha
                omega
              · have := List.pairwise_iff_getElem.mp hsort k k' l2 l1 (by omega)
                omega
          · walk_at "ao"
            refine ⟨rfl, ⟨_, rfl⟩, fun k' a' hk' ha' => ?_⟩
            by_cases e : k' < k
            · exact hnk k' a' e ha'
            · have : k' = k := by omega
              subst this
              rw [ha] at ha'
              cases ha'
              rintro ⟨s', ps1, ps2, y1', y2', h5, h6, h7, h8, h9⟩
              rw [hya] at h5
              rw [hr] at h6
              cases h5
              cases h6
              cases h7
              cases h8
              rw [h9] at c
              cases c
        · rintro s M4 ⟨rfl, ⟨o8, rfl⟩, hnk⟩
          unfold natsA at hnk
          rw [List.length_map] at hnk
          walk_at "ao"
          refine g_fld hL3.ox hK.cls hK.n4 langF4 ?_
          walk_at "ao"
          refine g_ixT (v := .str t) (atI_nat (j := 0) rfl) ?_
          walk_at "ao"
          refine g_dgetS hL3.o4 hget ?_
          refine g_isTL hq0m ?_
          walk_at "ao"
          have hlen : (rulesOf rules i row.name).length ≤ i := by
            unfold rulesOf
            refine Nat.le_trans (List.length_filter_le _ _) ?_
            rw [List.length_range]
            exact Nat.le_refl _
          have hil := (List.getElem?_eq_some_iff.mp hr).1
          refine g_append hq0m (bigl (by unfold natsA; rw [List.length_map]; omega)) ?_
          walk_at "ao"
          have L5 := hL3.setq (l := rulesOf rules i row.name ++ [i]) hq0
          have e5 : natsA (rulesOf rules i row.name) ++ [.int (i : Int)] = natsA (rulesOf rules i row.name ++ [i]) := by unfold natsA; simp
          rw [← e5] at L5
          refine ⟨⟨_, _, _, _, _, _, rfl⟩, ?_, fun a b hb hab => ?_⟩
          · have e6 : (rows.map fun r => rulesOf rules i r.name).set i0 (rulesOf rules i row.name ++ [i]) = rows.map fun r => rulesOf rules (i + 1) r.name := by
              refine List.ext_getElem? fun k => ?_
              rw [List.getElem?_set, List.length_map, List.getElem?_map, List.getElem?_map]
              have hh : ∀ s', headIs rules s' i = decide (t = s') := by
                intro s'
                unfold headIs
                rw [hr]
              by_cases e : i0 = k
              · subst e
                rw [if_pos rfl, if_pos hi0l, hi0]
                simp only [Option.map_some, rulesOf_succ, hh, hrn, decide_true, if_true]
              · rw [if_neg e]
                cases q : rows[k]? with
                | none => rfl
                | some rk =>
                  have : ¬ t = rk.name := fun z => by
                    have f1 : (rows.map Row.name)[k]? = some rk.name := by rw [List.getElem?_map, q]; rfl
                    have f2 : (rows.map Row.name)[i0]? = some row.name := by rw [List.getElem?_map, hi0]; rfl
                    rw [hrn, z] at f2
                    exact e ((List.getElem?_inj (List.getElem?_eq_some_iff.mp f2).1 namesnd).mp (f2.trans f1.symm))
                  simp only [Option.map_some, rulesOf_succ, hh, this, decide_false, Bool.false_eq_true, if_false, List.append_nil]
            rw [← e6]
            exact L5
          · by_cases e : b < i
            · exact hno3 a b e hab
            · have : b = i := by omega
              subst this
              intro h
              obtain ⟨k', hk'⟩ := List.getElem?_of_mem ((hmem a).mpr ⟨hab, hovl a h⟩)
              exact hnk k' a (List.getElem?_eq_some_iff.mp hk').1 hk' h
      · rintro s M3 ⟨⟨o3, o4, o5, o6, o7, o8, rfl⟩, hL3, hno3⟩
        rw [Rf.enum_len, List.length_map] at hL3 hno3
        refine wk (Sub.refl _) (kOK (fun a b hab h => ?_) M3 ⟨a1, a2, a3, a4, qs, hL3⟩)
        have h' := h
        obtain ⟨_, _, _, _, y, _, hb, _⟩ := h
        exact hno3 a b (List.getElem?_eq_some_iff.mp hb).1 hab h'
end Ab
theorem rd_init {K : PySem.W.Frag} {vs : List V} {H : Hp} {Q : VK} {E : XK} (h : sp_init K vs H Q E) : t_init K E { nx := fun _ H' => Q .non H', rt := Q } (L2.start N_init vs) H := rd_ofX (t := t_init K) (u := Ab.t_init K) (fun _ _ => rf_init) (fun _ _ _ _ => Ab.ab_init) h

def Row.toI (r : Row) : RowI := ⟨r.name, r.places, r.worked.map fun (k : Nat) => (k : Int), r.done⟩
theorem Row.toI_a (r : Row) : r.toI.a = r.a := by
  show A.tup _ = A.tup _
  rw [natsA_ints]
  rfl
theorem toI_as (rows : List Row) : (rows.map Row.toI).map RowI.a = rowsA rows := by
  rw [List.map_map]
  exact List.map_congr_left fun r _ => r.toI_a
theorem ded_nodup : ∀ {l acc : List Int}, l.Nodup → (∀ x ∈ l, x ∉ acc) → ded acc l = acc ++ l
  | [], acc, _, _ => by simp [ded]
  | x :: l, acc, nd, h => by
    rw [List.nodup_cons] at nd
    rw [ded_cons, if_neg (h x List.mem_cons_self), ded_nodup nd.2 (fun y hy => ?_)]
    · simp
    · intro hm
      rcases List.mem_append.mp hm with z | z
      · exact h y (List.mem_cons_of_mem _ hy) z
      · rw [List.mem_singleton.mp z] at hy
        exact nd.1 hy
theorem Fm.hs_nodup {f : Fm} (h : f.flat.Nodup) : f.hs = f.flat := by
  unfold Fm.hs
  rw [ded_nodup h (by simp)]
  rfl
theorem Fm.mem_hs {f : Fm} {i : Int} : i ∈ f.hs ↔ i ∈ f.flat := by
  unfold Fm.hs
  rw [ded_mem]
  simp
theorem known_of {rows : List Row} (nd : (rows.map Row.name).Nodup) : ∀ {f : Fm}, f.over rows → (∀ i ∈ f.flat, 0 ≤ i ∧ i ≤ 99) → knownF rows f = true := by
  have key : ∀ n : Nat, ∀ f : Fm, f.size ≤ n → f.over rows → (∀ i ∈ f.flat, 0 ≤ i ∧ i ≤ 99) → knownF rows f = true := by
    intro n
    induction n with
    | zero => intro f h; exact absurd f.size_pos (by omega)
    | succ n ih =>
      intro f hz ho hf
      cases f with
      | hole i =>
        have := hf i (by simp [Fm.flat])
        simp only [knownF, this.1, this.2, decide_true, Bool.and_self]
      | node s ps =>
        simp only [Fm.over] at ho
        obtain ⟨⟨r, hr, hn, hl⟩, hos⟩ := ho
        simp only [Fm.size] at hz
        have h1 := findR_of nd hr
        rw [hn] at h1
        simp only [knownF, h1, hl, decide_true, Bool.true_and]
        rw [knownFs_all]
        refine List.all_eq_true.mpr fun p hp => ih p ?_ (Fm.overs_iff.mp hos p hp) fun i hi => hf i ?_
        · have := Fm.sizes_mem hp; omega
        · simp only [Fm.flat]; exact Fm.flats_mem.mpr ⟨p, hp, hi⟩
  intro f
  exact key f.size f (Nat.le_refl _)
theorem good_word {s : Str} (h : Good s) : isWord s = true := by
  unfold isWord
  rw [decide_eq_true h.pos, decide_eq_true h.most, Bool.true_and, Bool.true_and]
  refine List.all_eq_true.mpr fun c hc => ?_
  have hl := h.low c hc
  have e : abc.cps.toList = (List.range 26).map (97 + ·) := letters_tl
  rw [e]
  refine decide_eq_true (List.mem_map.mpr ⟨c - 97, List.mem_range.mpr (by omega), by omega⟩)
theorem row_toI_ok {r : Row} (h : r.ok) : r.toI.ok = true := by
  unfold RowI.ok Row.toI
  dsimp only
  have hpl := h.pl
  rw [good_word h.good]
  have h1 : (0 : Int) ≤ (r.places : Int) := by omega
  have h2 : (r.places : Int) ≤ 4 := by omega
  rw [decide_eq_true h1, decide_eq_true h2]
  simp only [Bool.true_and, Bool.and_self]
  refine List.all_eq_true.mpr fun i hi => ?_
  rw [List.getElem?_map]
  cases q : r.worked[i]? with
  | none => rfl
  | some k =>
    have hk := h.lt k (List.mem_of_getElem? q)
    have h3 : ¬ ((k : Int) ∈ (r.worked.map fun (k : Nat) => (k : Int)).take i) := by
      rw [← List.map_take]
      intro hm
      obtain ⟨k', hk', e⟩ := List.mem_map.mp hm
      have : k' = k := by omega
      subst this
      obtain ⟨j, hj⟩ := List.getElem?_of_mem hk'
      have hjl := (List.getElem?_eq_some_iff.mp hj).1
      rw [List.length_take] at hjl
      rw [List.getElem?_take, if_pos (by omega)] at hj
      have := (List.getElem?_inj (List.getElem?_eq_some_iff.mp hj).1 h.nd).mp (hj.trans q.symm)
      omega
    have h4 : (0 : Int) ≤ (k : Int) := by omega
    have h5 : (k : Int) < (r.places : Int) := by omega
    simp only [Option.map_some]
    rw [decide_eq_true h4, decide_eq_true h5, decide_eq_false h3]
    rfl
theorem no_rowBad {nms : List Str} {rows : List Row} (h : SgOk nms rows) : ∀ j, ¬ rowBad (rows.map Row.toI) j := by
  rintro j ⟨r, hr, h2⟩
  obtain ⟨q, hq, rfl⟩ : ∃ q, rows[j]? = some q ∧ r = q.toI := by
    rw [List.getElem?_map] at hr
    cases e : rows[j]? with
    | none => rw [e] at hr; cases hr
    | some q => rw [e] at hr; exact ⟨q, rfl, (Option.some.inj hr).symm⟩
  rcases h2 with h2 | ⟨i, q', hi, hq', e⟩
  · rw [row_toI_ok (h.ok q (List.mem_of_getElem? hq))] at h2
    cases h2
  · rw [List.getElem?_map] at hq'
    cases e2 : rows[i]? with
    | none => rw [e2] at hq'; cases hq'
    | some q2 =>
      rw [e2] at hq'
      cases hq'
      exact nodup_ne h.nd hi e2 hq e
theorem left_known {nms : List Str} {rows : List Row} (h : SgOk nms rows) {x : Fm × Fm} (g : RuleG rows x) : knownF rows x.1 = true ∧ ∀ i ∈ x.1.flat, 0 ≤ i ∧ i ≤ 99 := by
  obtain ⟨row, look, hr, hd, hlk, hl⟩ := g.left
  obtain ⟨ps, e, hpl, hpk⟩ := hl.ex
  have rng : ∀ i ∈ x.1.flat, 0 ≤ i ∧ i ≤ 99 := by
    rw [e]
    intro i hi
    simp only [Fm.flat] at hi
    obtain ⟨p, hp, hip⟩ := Fm.flats_mem.mp hi
    obtain ⟨j, hj⟩ := List.getElem?_of_mem hp
    rcases hpk j p hj with ⟨_, n, rfl, h1, h2⟩ | ⟨r, is, _, rfl, _, h3⟩
    · simp only [Fm.flat, List.mem_singleton] at hip
      subst hip
      exact ⟨h1, h2⟩
    · simp only [Fm.flat, Fm.flats_holes] at hip
      exact h3 i hip
  refine ⟨known_of h.nd ?_ rng, rng⟩
  rw [e]
  simp only [Fm.over]
  refine ⟨⟨row, hr, rfl, hpl.symm⟩, Fm.overs_iff.mpr fun p hp => ?_⟩
  obtain ⟨j, hj⟩ := List.getElem?_of_mem hp
  rcases hpk j p hj with ⟨_, n, rfl, _⟩ | ⟨r, is, hr2, rfl, h4, _⟩
  · trivial
  · have := (hlk.at_ _ hr2).2
    simp only [Fm.over]
    refine ⟨⟨r, (List.mem_filter.mp this).1, rfl, by rw [List.length_map]; exact h4.symm⟩, Fm.overs_iff.mpr fun q hq => ?_⟩
    obtain ⟨n, _, rfl⟩ := List.mem_map.mp hq
    trivial
theorem ruleG_ok {nms : List Str} {rows : List Row} (h : SgOk nms rows) {x : Fm × Fm} (g : RuleG rows x) : ruleOkF rows x.1 x.2 = true := by
  obtain ⟨k1, rng⟩ := left_known h g
  have k2 := known_of h.nd g.over fun i hi => rng i (g.sub i hi)
  obtain ⟨row, look, hr, hd, hlk, hl⟩ := g.left
  obtain ⟨ps, e, hpl, hpk⟩ := hl.ex
  have nd := hl.nd
  have hsub : x.2.hs.all (fun i => decide (i ∈ x.1.hs)) = true := List.all_eq_true.mpr fun i hi => decide_eq_true (Fm.mem_hs.mpr (g.sub i (Fm.mem_hs.mp hi)))
  obtain ⟨l, r⟩ := x
  dsimp only at e k1 k2 nd hsub
  subst e
  have hpo : partsOkB rows row 0 ps = true := partsOkB_take.mp fun i p hp => by
    rw [Nat.zero_add]
    rcases hpk i p hp with ⟨_, n, rfl, _⟩ | ⟨r', is, hr2, rfl, _⟩
    · rfl
    · obtain ⟨h1, h2⟩ := hlk.at_ _ hr2
      obtain ⟨h3, h4⟩ := List.mem_filter.mp h2
      dsimp only at h1 h3 h4
      simp only [partOkB, h1, decide_true, findR_of h.nd h3, h4, Bool.true_and]
      exact List.all_eq_true.mpr fun q hq => by obtain ⟨n, _, rfl⟩ := List.mem_map.mp hq; rfl
  have hlen : (Fm.node row.name ps).hs.length = (Fm.flats ps).length := by rw [Fm.hs_nodup nd]; rfl
  simp only [ruleOkF, k1, k2, findR_of h.nd hr, hd, hpo, hlen, decide_true, Bool.not_false, Bool.true_and, Bool.and_self]
  exact hsub
theorem no_ruleBad {nms : List Str} {rows : List Row} {rules : List (Fm × Fm)} (h : SgOk nms rows) (g : RulesOk rows rules) : ∀ j, ¬ ruleBad rows rules j := by
  rintro j ⟨x, hx, e⟩
  rw [ruleG_ok h (g.ok x (List.mem_of_getElem? hx))] at e
  cases e
theorem no_ovl {rows : List Row} {rules : List (Fm × Fm)} (g : RulesOk rows rules) : ∀ a b, a < b → ¬ ovl rules a b := by
  rintro a b hab ⟨s, ps, qs, x, y, hx, hy, e1, e2, e3⟩
  obtain ⟨la, ea⟩ := List.getElem?_eq_some_iff.mp hx
  obtain ⟨lb, eb⟩ := List.getElem?_eq_some_iff.mp hy
  have hu := List.pairwise_iff_getElem.mp g.un a b la lb hab
  rw [ea, eb] at hu
  obtain ⟨j, a', b', as, bs, h1, h2, h3⟩ := hu s ps qs e1 e2
  have := overl_at.mpr ⟨j, a', b', as, bs, h1, h2, h3⟩
  rw [this] at e3
  cases e3
theorem LI.base {K : PySem.W.Frag} {M M' : AM} {x a1 a2 a3 a4 : Addr} {o : AO} {qs : List Addr} {rs rl : List A} {k3 k4 : List (Key × A)} {ix : List (List Nat)} (hx : M x = none) (h : LI K (aupd M x o) M' x a1 a2 a3 a4 qs rs rl k3 k4 ix) : LI K M M' x a1 a2 a3 a4 qs rs rl k3 k4 ix ∧ Sub M M' := by
  have s : Sub M M' := fun a o' e => h.sub.at (adel_at (lk_new_ hx e) (ne_of_anone e hx))
  refine ⟨⟨fun a o' e => s.at (adel_sub.at e), h.nd, fun a ha => ?_, h.ox, h.o1, h.o2, h.o3, h.o4, h.lq, h.oq⟩, s⟩
  have := h.fr a ha
  exact (Ab.lk_none this).2
theorem flat_small {row : Row} {look : Look} {f : Fm} (hl : LeftOk row look f) (hp : row.places ≤ 4) (h3 : ∀ x ∈ look, x.2.places ≤ 4) : f.size ≤ 100 ∧ f.depth ≤ 3 := by
  obtain ⟨ps, rfl, hpl, hpk⟩ := hl.ex
  have pdep : ∀ p ∈ ps, p.depth ≤ 2 ∧ p.size ≤ 10 := by
    intro p hp
    obtain ⟨k, hk⟩ := List.getElem?_of_mem hp
    rcases hpk k p hk with ⟨_, n, rfl, _⟩ | ⟨r, is, hr, rfl, hl2, _⟩
    · exact ⟨by simp [Fm.depth], by simp [Fm.size]⟩
    · have hr4 := h3 _ hr
      have h1 : Fm.depths (is.map Fm.hole) ≤ 1 := Fm.depths_le fun p hp => by
        obtain ⟨n, _, rfl⟩ := List.mem_map.mp hp
        simp [Fm.depth]
      have h2 : Fm.sizes (is.map Fm.hole) ≤ (is.map Fm.hole).length * 1 := Fm.sizes_le fun p hp => by
        obtain ⟨n, _, rfl⟩ := List.mem_map.mp hp
        simp [Fm.size]
      rw [List.length_map] at h2
      dsimp only at hr4
      exact ⟨by simp only [Fm.depth]; omega, by simp only [Fm.size]; omega⟩
  have h1 := Fm.sizes_le fun p hp => (pdep p hp).2
  have h2 := Fm.depths_le fun p hp => (pdep p hp).1
  exact ⟨by simp only [Fm.size]; omega, by simp only [Fm.depth]; omega⟩
theorem map_inj {α β : Type} {f : α → β} (inj : ∀ a b, f a = f b → a = b) : ∀ {l m : List α}, l.map f = m.map f → l = m
  | [], [], _ => rfl
  | [], _ :: _, h => by cases h
  | _ :: _, [], h => by cases h
  | a :: l, b :: m, h => by
    rw [List.map_cons, List.map_cons] at h
    injection h with h1 h2
    rw [inj a b h1, map_inj inj h2]
theorem Ab.g_lang {K : PySem.W.Frag} {M : AM} {P : Addr → AM → Prop} {nms : List Str} {rows : List Row} {rules : List (Fm × Fm)} {p q : Addr} (hK : LK K) (hp : M p = some (.lst (rowsA rows))) (hq : M q = some (.lst (rules.map ruleA))) (ok : SgOk nms rows) (ru : RulesOk rows rules)
    (k : ∀ (x : Addr) (M' : AM), M x = none → Sub M M' → LangObj K M M' x rows rules → P x M') :
    ∀ x, M x = none → Ab.sp_init K (.ref x :: ([.ref p, .ref q] ++ [])) (aupd M x (.ins (He.ga K "Language") [])) (fun v M2 => v = .non ∧ P x M2) Ab.E0 := by
  intro x hx
  refine ⟨x, p, q, rows.map Row.toI, rules, rfl, hK, aupd_same, by rw [toI_as]; exact Ab.lk_new hx hp, Ab.lk_new hx hq, by have := ok.most; simp; omega, by have := ru.most; omega, fun r hr => ?_, fun y hy => ?_, ?_, ?_⟩
  · obtain ⟨r', hr', rfl⟩ := List.mem_map.mp hr
    have h1 := ok.ok r' hr'
    have := h1.good.most
    have := h1.wlen
    exact ⟨by show r'.name.length ≤ _; omega, by unfold Row.toI; dsimp only; rw [List.length_map]; omega⟩
  · have g := ru.ok y hy
    obtain ⟨row, look, hr, hd, hlk, hl⟩ := g.left
    have h1 := flat_small hl (ok.ok row hr).pl (fun x hx => (ok.ok x.2 (List.mem_filter.mp (hlk.at_ x hx).2).1).pl)
    have h2 := g.size
    have h3 := g.depth
    have : gB 2 = 21 := rfl
    exact ⟨⟨by omega, by omega⟩, by omega, by omega⟩
  · intro i hi
    exact absurd hi (no_rowBad ok i)
  · intro rows' e1 e2 _
    have er : rows' = rows := by
      rw [toI_as] at e1
      have inj : ∀ {r s : Row}, r.a = s.a → r = s := by
        intro r s h
        obtain ⟨n1, p1, w1, d1⟩ := r
        obtain ⟨n2, p2, w2, d2⟩ := s
        simp only [Row.a, A.tup.injEq, List.cons.injEq, A.str.injEq, A.int.injEq, A.bl.injEq, and_true] at h
        obtain ⟨h1, h2, h3, h4⟩ := h
        have h5 : w1 = w2 := by
          unfold natsA at h3
          refine map_inj (fun a b e => ?_) h3
          injection e with e
          omega
        have h6 : p1 = p2 := by omega
        subst h1 h4 h5 h6
        rfl
      exact map_inj (fun a b e => inj e) e1
    subst er
    refine ⟨fun i hi => absurd hi (no_ruleBad ok ru i), fun _ => ⟨fun a b hab h => absurd h (no_ovl ru a b hab), fun _ M' hL => ⟨rfl, ?_⟩⟩⟩
    obtain ⟨a1, a2, a3, a4, qs, hL⟩ := hL
    obtain ⟨h1, h2⟩ := hL.base hx
    exact k x M' hx h2 ⟨a1, a2, a3, a4, qs, h1⟩
theorem LangObj.sub {K : PySem.W.Frag} {M0 M M' : AM} {x : Addr} {rows : List Row} {rules : List (Fm × Fm)} (h : LangObj K M0 M x rows rules) (s : Sub M M') : LangObj K M0 M' x rows rules := by
  obtain ⟨a1, a2, a3, a4, qs, h⟩ := h
  exact ⟨a1, a2, a3, a4, qs, h.sub.trans s, h.nd, h.fr, s.at h.ox, s.at h.o1, s.at h.o2, s.at h.o3, s.at h.o4, h.lq, fun i q l h1 h2 => s.at (h.oq i q l h1 h2)⟩
theorem LangObj.ox {K : PySem.W.Frag} {M0 M : AM} {x : Addr} {rows : List Row} {rules : List (Fm × Fm)} (h : LangObj K M0 M x rows rules) : ∃ fs, M x = some (.ins (He.ga K "Language") fs) := by
  obtain ⟨a1, a2, a3, a4, qs, h⟩ := h
  exact ⟨_, h.ox⟩

abbrev Sb := List (Int × Fm)
def sbA (b : Sb) : List (Key × A) := b.map fun x => ((.inl x.1 : Key), x.2.a)
def sbGet (b : Sb) (n : Int) : Option Fm := (b.find? fun x => decide (x.1 = n)).map (·.2)
def sbPut (b : Sb) (n : Int) (f : Fm) : Sb := if (b.any fun x => decide (x.1 = n)) = true then b.map (fun x => if x.1 = n then (x.1, f) else x) else b ++ [(n, f)]
theorem inl_eq {n m : Int} : decide ((Sum.inl n : Key) = Sum.inl m) = decide (n = m) := by
  congr 1
  exact propext ⟨fun h => by injection h, fun h => by rw [h]⟩
theorem sb_get {b : Sb} {n : Int} : valA (sbA b) (.inl n) = (sbGet b n).map Fm.a := by
  unfold valA sbA sbGet
  rw [List.find?_map]
  have e : ((fun kv : Key × A => decide (kv.1 = Sum.inl n)) ∘ fun x : Int × Fm => ((.inl x.1 : Key), x.2.a)) = fun x => decide (x.1 = n) := by funext x; exact inl_eq
  rw [e, Option.map_map, Option.map_map]
  rfl
theorem sb_put {b : Sb} {n : Int} {f : Fm} : putA (sbA b) (.inl n) f.a = sbA (sbPut b n f) := by
  unfold putA sbPut
  have e : ((sbA b).any fun kv => decide (kv.1 = Sum.inl n)) = b.any fun x => decide (x.1 = n) := by
    unfold sbA
    rw [List.any_map]
    congr 1
    funext x
    exact inl_eq
  rw [e]
  by_cases h : (b.any fun x => decide (x.1 = n)) = true
  · rw [if_pos h, if_pos h]
    unfold sbA
    rw [List.map_map, List.map_map]
    refine List.map_congr_left fun x _ => ?_
    show (if (Sum.inl x.1 : Key) = Sum.inl n then _ else _) = _
    by_cases z : x.1 = n
    · rw [if_pos (by rw [z])]
      simp only [Function.comp, z, if_true]
    · rw [if_neg (fun q => z (by injection q))]
      simp only [Function.comp, z, if_false]
  · rw [if_neg h, if_neg h]
    unfold sbA
    rw [List.map_append]
    rfl
theorem sbPut_len {b : Sb} {n : Int} {f : Fm} : (sbPut b n f).length ≤ b.length + 1 := by
  unfold sbPut
  split
  · rw [List.length_map]; omega
  · rw [List.length_append]; simp
theorem sbA_len {b : Sb} : (sbA b).length = b.length := by unfold sbA; rw [List.length_map]
theorem Fm.fills_map (m : Int → Option Fm) : ∀ ps : List Fm, Fm.fills m ps = ps.map fun p => p.fill m
  | [] => rfl
  | p :: ps => by simp only [Fm.fills, List.map_cons, Fm.fills_map m ps]
namespace Ab
def sp_fill (K : PySem.W.Frag) (n : Nat) : ASp := fun as M P _ => ∃ (a : Addr) (f : Fm) (b : Sb), as = [f.a, .ref a] ∧ f.depth ≤ n ∧ M a = some (.dK (sbA b)) ∧ f.size ≤ 10000 ∧ P ((f.fill (sbGet b)).a) M
end Ab
def sp_fill (K : PySem.W.Frag) (n : Nat) : Sp := lift K (Ab.sp_fill K n)
theorem Ab.ln_fill {K : PySem.W.Frag} {n : Nat} (as : List A) (M : AM) (P : AK) (X : AX) : Ab.sp_fill K n as M P X → as.length = 2 := by rintro ⟨_, _, _, rfl, _⟩; rfl
theorem len_fill {K : PySem.W.Frag} {n : Nat} {vs : List V} {H : Hp} {Q : VK} {E : XK} (h : sp_fill K n vs H Q E) : vs.length = 2 := lift_len Ab.ln_fill h
theorem no_fill {K : PySem.W.Frag} (vs : List V) (H : Hp) (Q : VK) (E : XK) : ¬ sp_fill K 0 vs H Q E := lift_no (fun as M P X h => by obtain ⟨_, f, _, _, h, _⟩ := h; have := f.depth_pos; omega) vs H Q E
def t_fill (K : PySem.W.Frag) (r : Sp) : TS := (tSeq (tIfS (tB (tCB (rIsi K) (tCons (tVar 0) (tCons (tC (.ty "int")) tNil)))) (tRet (tDGet2 (tVar 1) (tVar 0) (tVar 0)))
  tNext)
  (tSeq (tAsg (tLc (iTup K (tSl (rSlT K) (tVar 0) (tPart (tC (.int 1))) tNoPart)) (gName 3) tYes (tCall r [] E0 (tCons (tVar 3) (tCons (tVar 1) tNil))) [3]) (gName 2))
  (tRet (tTup (tCons (tOp (rIxT K) (tVar 0) (tC (.int 0))) (StX.tStar K (tVar 2) tNil))))))
abbrev N_fill : List Str := ["form", "parts", "filled", "part"]
namespace Ab
def t_fill (K : PySem.W.Frag) (r : ASp) : TS := (tSeq (tIfS (tB (tCB (rIsi K) (tCons (tVar 0) (tCons (tC (.ty "int")) tNil)))) (tRet (tDGet2 (tVar 1) (tVar 0) (tVar 0)))
  tNext)
  (tSeq (tAsg (tLc (iTup K (tSl (rSlT K) (tVar 0) (tPart (tC (.int 1))) tNoPart)) (gName 3) tYes (tCall r [] E0 (tCons (tVar 3) (tCons (tVar 1) tNil))) [3]) (gName 2))
  (tRet (tTup (tCons (tOp (rIxT K) (tVar 0) (tC (.int 0))) (tStar K (tVar 2) tNil))))))
end Ab
theorem rf_fill {K : PySem.W.Frag} {E : XK} {X : AX} {r : Sp} {ar : ASp} (hr : RSp K r ar) : RSt K E X (t_fill K r) (Ab.t_fill K ar) := by
  unfold My.t_fill Ab.t_fill
  walk_at "rf"
namespace Ab
theorem ab_fill {K : PySem.W.Frag} {n : Nat} {as : List A} {M : AM} {P : AK} {X : AX} (h : sp_fill K (n + 1) as M P X) : t_fill K (sp_fill K n) { nx := fun _ M' => Wk P .non M', rt := Wk P } (start N_fill as) M := by
  obtain ⟨a, f, b, rfl, hd, ha, hz, k⟩ := h
  unfold t_fill
  cases f with
  | hole i =>
    simp only [Fm.a]
    walk_at "ao"
    refine ⟨a, _, rfl, ha, ?_⟩
    walk_at "ao"
    refine ⟨_, _, ha, rfl, wk (Sub.refl _) ?_⟩
    rw [sb_get]
    simp only [Fm.fill] at k
    cases e : sbGet b i with
    | none => rw [e] at k; exact k
    | some g => rw [e] at k; exact k
  | node s ps =>
    simp only [Fm.depth] at hd
    simp only [Fm.size] at hz
    have hl := Fm.len_sizes ps
    simp only [Fm.a]
    walk_at "ao"
    rw [Fm.as_map]
    refine lc_typed (a := Fm.a) (xs := ps) (fun _ => true) (fun p => (p.fill (sbGet b)).a) trivial (bigl (by omega)) (fun p hp Yes No hy hn => ?_) ?_
    · have hd1 := Fm.depth_mem hp
      have hs1 := Fm.sizes_mem hp
      walk_at "ao"
      exact ⟨a, p, b, rfl, by omega, ha, by omega, hy rfl⟩
    intro q hq
    rw [filt_true]
    walk_at "ao"
    refine g_ixT (v := .str s) (atI_nat (j := 0) rfl) ?_
    walk_at "ao"
    refine .inr ⟨q, _, rfl, aupd_same, ?_⟩
    walk_at "ao"
    refine g_tupL (big (by simp; omega)) ?_
    refine wk (Sub.put hq (Sub.refl _)) ?_
    simp only [Fm.fill, Fm.a] at k
    rw [Fm.as_map, Fm.fills_map, List.map_map] at k
    rw [List.append_nil]
    exact k
end Ab
theorem rd_fill {K : PySem.W.Frag} {n : Nat} {vs : List V} {H : Hp} {Q : VK} {E : XK} (h : sp_fill K (n + 1) vs H Q E) : t_fill K (sp_fill K n) { nx := fun _ H' => Q .non H', rt := Q } (L2.start N_fill vs) H := rd_of (fun _ => rf_fill RSp.lift) (fun _ _ _ _ => Ab.ab_fill) h

namespace Ab
def sp_putp (K : PySem.W.Frag) : ASp := fun as M P _ => ∃ (s : Str) (ps : List Fm) (w : Nat) (g : Fm), as = [(Fm.node s ps).a, .int (w : Int), g.a] ∧ w < ps.length ∧ ps.length ≤ 20000 ∧ P (Fm.node s (ps.set w g)).a M
end Ab
namespace Ab
theorem ln_putp {K : PySem.W.Frag} (as : List A) (M : AM) (P : AK) (X : AX) : sp_putp K as M P X → as.length = 3 := by rintro ⟨_, _, _, _, rfl, _⟩; rfl
end Ab
def sp_putp (K : PySem.W.Frag) : Sp := lift K (Ab.sp_putp K)
theorem len_putp {K : PySem.W.Frag} {vs : List V} {H : Hp} {Q : VK} {E : XK} (h : sp_putp K vs H Q E) : vs.length = 3 := lift_len Ab.ln_putp h
def t_putp (K : PySem.W.Frag) : TS := (tRet (tOp (rCatA K) (tOp (rCatA K) (tSl (rSlA K) (tVar 0) tNoPart (tPart (tOp rAddI (tVar 1) (tC (.int 1))))) (tTup (tCons (tVar 2) tNil))) (tSl (rSlA K) (tVar 0) (tPart (tOp rAddI (tVar 1) (tC (.int 2)))) tNoPart)))
abbrev N_putp : List Str := ["form", "place", "part"]
namespace Ab
def t_putp (K : PySem.W.Frag) : TS := (tRet (tOp (rCatA K) (tOp (rCatA K) (tSl (rSlA K) (tVar 0) tNoPart (tPart (tOp rAddI (tVar 1) (tC (.int 1))))) (tTup (tCons (tVar 2) tNil))) (tSl (rSlA K) (tVar 0) (tPart (tOp rAddI (tVar 1) (tC (.int 2)))) tNoPart)))
end Ab
theorem rf_putp {K : PySem.W.Frag} {E : XK} {X : AX} : RSt K E X (t_putp K) (Ab.t_putp K) := by
  unfold My.t_putp Ab.t_putp
  walk_at "rf"
theorem set_split {α : Type} {xs : List α} {w : Nat} {y : α} (h : w < xs.length) : xs.take w ++ [y] ++ xs.drop (w + 1) = xs.set w y := by
  rw [List.set_eq_take_append_cons_drop, if_pos h]
  simp
namespace Ab
theorem ab_putp {K : PySem.W.Frag} {as : List A} {M : AM} {P : AK} {X : AX} (h : sp_putp K as M P X) : t_putp K { nx := fun _ M' => Wk P .non M', rt := Wk P } (start N_putp as) M := by
  obtain ⟨s, ps, w, g, rfl, hw, hz, k⟩ := h
  unfold t_putp
  simp only [Fm.a]
  have e1 : cutA (A.str s :: Fm.as ps) none (some ((w : Int) + 1)) = A.str s :: (Fm.as ps).take w := by
    have := cut_hi (f := id) (A.str s :: Fm.as ps) (w + 1)
    simp only [List.map_id, Int.natCast_add, Int.cast_ofNat_Int] at this
    rw [this]
    rfl
  have e2 : cutA (A.str s :: Fm.as ps) (some ((w : Int) + 2)) none = (Fm.as ps).drop (w + 1) := by
    have := cut_lo (f := id) (A.str s :: Fm.as ps) (w + 2)
    simp only [List.map_id, Int.natCast_add, Int.cast_ofNat_Int] at this
    rw [this]
    rfl
  walk_at "ao"
  rw [e1]
  walk_at "ao"
  refine g_catA (big (by simp [Fm.as_length]; omega)) ?_
  walk_at "ao"
  rw [e2]
  walk_at "ao"
  refine g_catA (big (by simp [Fm.as_length]; omega)) ?_
  refine wk (Sub.refl _) ?_
  simp only [Fm.a] at k
  have e3 : A.str s :: (Fm.as ps).take w ++ [g.a] ++ (Fm.as ps).drop (w + 1) = A.str s :: Fm.as (ps.set w g) := by
    rw [Fm.as_map, Fm.as_map, List.map_set, ← set_split (by rw [List.length_map]; exact hw)]
    simp
  rw [e3]
  exact k
end Ab
theorem rd_putp {K : PySem.W.Frag} {vs : List V} {H : Hp} {Q : VK} {E : XK} (h : sp_putp K vs H Q E) : t_putp K { nx := fun _ H' => Q .non H', rt := Q } (L2.start N_putp vs) H := rd_of (fun _ => rf_putp) (fun _ _ _ _ => Ab.ab_putp) h
def misF (lp fp : List Fm) (w : Nat) : Bool := match lp[w]?, fp[w]? with
  | some (.node a _), some (.node b _) => !decide (b = a)
  | _, _ => false
def askF (lp fp : List Fm) (w : Nat) : Bool := match lp[w]?, fp[w]? with
  | some (.node _ _), some (.hole _) => true
  | _, _ => false
def openF (lp fp : List Fm) (worked : List Nat) : Option Nat := if worked.any (misF lp fp) = true then none else some (worked.findIdx (askF lp fp))
def openI (lp fp : List Fm) (worked : List Nat) : Int := match openF lp fp worked with
  | none => -1
  | some n => (n : Int)
namespace Ab
def sp_opening (K : PySem.W.Frag) : ASp := fun as M P _ => ∃ (s t : Str) (lp fp : List Fm) (worked : List Nat), as = [(Fm.node s lp).a, (Fm.node t fp).a, .tup (natsA worked)] ∧ (∀ w ∈ worked, w < lp.length ∧ w < fp.length) ∧ worked.length ≤ 1000 ∧ P (.int (openI lp fp worked)) M
end Ab
namespace Ab
theorem ln_opening {K : PySem.W.Frag} (as : List A) (M : AM) (P : AK) (X : AX) : sp_opening K as M P X → as.length = 3 := by rintro ⟨_, _, _, _, _, rfl, _⟩; rfl
end Ab
def sp_opening (K : PySem.W.Frag) : Sp := lift K (Ab.sp_opening K)
theorem len_opening {K : PySem.W.Frag} {vs : List V} {H : Hp} {Q : VK} {E : XK} (h : sp_opening K vs H Q E) : vs.length = 3 := lift_len Ab.ln_opening h
def t_opening (K : PySem.W.Frag) : TS := (tSeq (tAsg (tCB (rLenSeq K) (tCons (tVar 2) tNil)) (gName 3))
  (tSeq (tFor (iRng3 (tCons (tOp rSubI (tCB (rLenSeq K) (tCons (tVar 2) tNil)) (tC (.int 1))) (tCons (tUn (rU fun i => .int (-i)) (tC (.int 1))) (tCons (tUn (rU fun i => .int (-i)) (tC (.int 1))) tNil)))) (gName 4)
  (tSeq (tAsg (tOp (rIxT K) (tVar 0) (tOp rAddI (tOp (rIxT K) (tVar 2) (tVar 4)) (tC (.int 1)))) (gName 5))
  (tSeq (tAsg (tOp (rIxT K) (tVar 1) (tOp rAddI (tOp (rIxT K) (tVar 2) (tVar 4)) (tC (.int 1)))) (gName 6))
  (tSeq (tIfS (tB (tCB (rIsi K) (tCons (tVar 5) (tCons (tC (.ty "int")) tNil)))) tCont
  tNext)
  (tIfS (tB (tCB (rIsi K) (tCons (tVar 6) (tCons (tC (.ty "int")) tNil)))) (tAsg (tVar 4) (gName 3))
  (tIfS (tTest (tOp rNe (tOp (rIxT K) (tVar 6) (tC (.int 0))) (tOp (rIxT K) (tVar 5) (tC (.int 0))))) (tRet (tUn (rU fun i => .int (-i)) (tC (.int 1))))
  tNext))))))
  (tRet (tVar 3))))
abbrev N_opening : List Str := ["left", "form", "worked", "first", "position", "wanted", "part"]
namespace Ab
def t_opening (K : PySem.W.Frag) : TS := (tSeq (tAsg (tCB (rLenSeq K) (tCons (tVar 2) tNil)) (gName 3))
  (tSeq (tFor (iRng3 (tCons (tOp rSubI (tCB (rLenSeq K) (tCons (tVar 2) tNil)) (tC (.int 1))) (tCons (tUn (rU fun i => .int (-i)) (tC (.int 1))) (tCons (tUn (rU fun i => .int (-i)) (tC (.int 1))) tNil)))) (gName 4)
  (tSeq (tAsg (tOp (rIxT K) (tVar 0) (tOp rAddI (tOp (rIxT K) (tVar 2) (tVar 4)) (tC (.int 1)))) (gName 5))
  (tSeq (tAsg (tOp (rIxT K) (tVar 1) (tOp rAddI (tOp (rIxT K) (tVar 2) (tVar 4)) (tC (.int 1)))) (gName 6))
  (tSeq (tIfS (tB (tCB (rIsi K) (tCons (tVar 5) (tCons (tC (.ty "int")) tNil)))) tCont
  tNext)
  (tIfS (tB (tCB (rIsi K) (tCons (tVar 6) (tCons (tC (.ty "int")) tNil)))) (tAsg (tVar 4) (gName 3))
  (tIfS (tTest (tOp rNe (tOp (rIxT K) (tVar 6) (tC (.int 0))) (tOp (rIxT K) (tVar 5) (tC (.int 0))))) (tRet (tUn (rU fun i => .int (-i)) (tC (.int 1))))
  tNext))))))
  (tRet (tVar 3))))
end Ab
theorem rf_opening {K : PySem.W.Frag} {E : XK} {X : AX} : RSt K E X (t_opening K) (Ab.t_opening K) := by
  unfold My.t_opening Ab.t_opening
  walk_at "rf"
namespace Ab
theorem ab_opening {K : PySem.W.Frag} {as : List A} {M : AM} {P : AK} {X : AX} (h : sp_opening K as M P X) : t_opening K { nx := fun _ M' => Wk P .non M', rt := Wk P } (start N_opening as) M := by
  obtain ⟨s, t, lp, fp, worked, rfl, hin, hz, k⟩ := h
  have hwl : (natsA worked).length = worked.length := by unfold natsA; rw [List.length_map]
  unfold t_opening
  simp only [Fm.a]
  walk_at "ao"
  rw [hwl]
  refine ⟨_, _, rfl, by omega, ?_⟩
  have en : ((worked.length : Int) - 1 - -1).toNat = worked.length := by omega
  rw [en]
  refine for_down (fun i s' M' => M' = M ∧ (∃ o4 o5 o6 : Option A, s' = [some (.tup (.str s :: Fm.as lp)), some (.tup (.str t :: Fm.as fp)), some (.tup (natsA worked)), some (.int (((worked.length - i) + (worked.drop (worked.length - i)).findIdx (askF lp fp) : Nat) : Int)), o4, o5, o6]) ∧
      (worked.drop (worked.length - i)).any (misF lp fp) = false) ?_ ?_ ?_
  · refine ⟨rfl, ⟨none, none, none, ?_⟩, ?_⟩
    · rw [Nat.sub_zero, List.drop_length]
      rfl
    · rw [Nat.sub_zero, List.drop_length]
      rfl
  · rintro i s' M' hi ⟨rfl, ⟨o4, o5, o6, rfl⟩, hno⟩
    obtain ⟨j, hj⟩ : ∃ j, j + 1 = worked.length - i := ⟨worked.length - i - 1, by omega⟩
    rw [← hj] at hno ⊢
    have hj2 : worked.length - (i + 1) = j := by omega
    rw [hj2]
    have hjl : j < worked.length := by omega
    obtain ⟨w, hw⟩ : ∃ w, worked[j]? = some w := ⟨_, List.getElem?_eq_getElem hjl⟩
    have hdr : worked.drop j = w :: worked.drop (j + 1) := by
      rw [List.drop_eq_getElem_cons hjl]
      have := (List.getElem?_eq_some_iff.mp hw).2
      rw [this]
    obtain ⟨h1, h2⟩ := hin w (List.mem_of_getElem? hw)
    obtain ⟨l, hl⟩ : ∃ l, lp[w]? = some l := ⟨_, List.getElem?_eq_getElem h1⟩
    obtain ⟨p, hp⟩ : ∃ p, fp[w]? = some p := ⟨_, List.getElem?_eq_getElem h2⟩
    have ei : (worked.length : Int) - 1 - (i : Int) = (j : Int) := by omega
    rw [ei]
    rw [hdr, List.findIdx_cons, List.any_cons]
    walk_at "ao"
    refine g_ixT (nats_at hw) ?_
    walk_at "ao"
    refine g_ixT (fm_at hl) ?_
    walk_at "ao"
    refine g_ixT (nats_at hw) ?_
    walk_at "ao"
    refine g_ixT (fm_at hp) ?_
    walk_at "ao"
    cases l with
    | hole n =>
      simp only [Fm.a]
      have e1 : misF lp fp w = false := by simp only [misF, hl]
      have e2 : askF lp fp w = false := by simp only [askF, hl]
      rw [e1, e2]
      walk_at "ao"
      refine ⟨rfl, ⟨some (.int (j : Int)), some (.int n), some p.a, ?_⟩, by simpa using hno⟩
      simp only [cond_false]
      rw [show j + ((worked.drop (j + 1)).findIdx (askF lp fp) + 1) = j + 1 + (worked.drop (j + 1)).findIdx (askF lp fp) by omega]
      rfl
    | node a as =>
      simp only [Fm.a]
      cases p with
      | hole n =>
        simp only [Fm.a]
        have e1 : misF lp fp w = false := by simp only [misF, hl, hp]
        have e2 : askF lp fp w = true := by simp only [askF, hl, hp]
        rw [e1, e2]
        walk_at "ao"
        exact ⟨rfl, ⟨_, _, _, rfl⟩, by simpa using hno⟩
      | node b bs =>
        simp only [Fm.a]
        have e2 : askF lp fp w = false := by simp only [askF, hl, hp]
        have e1 : misF lp fp w = !decide (b = a) := by simp only [misF, hl, hp]
        rw [e2, e1]
        walk_at "ao"
        refine g_ixT (v := .str b) (atI_nat (j := 0) rfl) ?_
        walk_at "ao"
        refine g_ixT (v := .str a) (atI_nat (j := 0) rfl) ?_
        walk_at "ao"
        refine g_2 (fun c => ?_) (fun c => ?_)
        · walk_at "ao"
          refine wk (Sub.refl _) ?_
          have hm : worked.any (misF lp fp) = true := List.any_eq_true.mpr ⟨w, List.mem_of_getElem? hw, by rw [e1]; exact c⟩
          have : openI lp fp worked = -1 := by unfold openI openF; rw [if_pos hm]
          rw [this] at k
          exact k
        · walk_at "ao"
          refine ⟨rfl, ⟨some (.int (j : Int)), some (.tup (.str a :: Fm.as as)), some (.tup (.str b :: Fm.as bs)), ?_⟩, by rw [hno, c]; rfl⟩
          simp only [cond_false]
          rw [show j + ((worked.drop (j + 1)).findIdx (askF lp fp) + 1) = j + 1 + (worked.drop (j + 1)).findIdx (askF lp fp) by omega]
          rfl
  · rintro s' M' ⟨rfl, ⟨o4, o5, o6, rfl⟩, hno⟩
    rw [Nat.sub_self, List.drop_zero] at hno ⊢
    walk_at "ao"
    refine wk (Sub.refl _) ?_
    have : openI lp fp worked = ((0 + worked.findIdx (askF lp fp) : Nat) : Int) := by unfold openI openF; rw [if_neg (by rw [hno]; exact Bool.false_ne_true), Nat.zero_add]
    rw [this] at k
    exact k
end Ab
theorem rd_opening {K : PySem.W.Frag} {vs : List V} {H : Hp} {Q : VK} {E : XK} (h : sp_opening K vs H Q E) : t_opening K { nx := fun _ H' => Q .non H', rt := Q } (L2.start N_opening vs) H := rd_of (fun _ => rf_opening) (fun _ _ _ _ => Ab.ab_opening) h
def bindIn (b : Sb) (x : Fm × Fm) : Sb := match x.1 with
  | .hole n => sbPut b n x.2
  | .node _ _ => b
def bindP (b : Sb) (x : Fm × Fm) : Sb := match x.1, x.2 with
  | .hole n, p => sbPut b n p
  | .node _ hs, .node _ ps => (hs.zip ps).foldl bindIn b
  | .node _ _, .hole _ => b
def boundF (lp fp : List Fm) : Sb := (lp.zip fp).foldl bindP []
def MeetOk (x : Fm × Fm) : Prop := ∀ s hs, x.1 = .node s hs → hs.all Fm.isHole = true ∧ ∃ t ps, x.2 = .node t ps
namespace Ab
def sp_bound (K : PySem.W.Frag) : ASp := fun as M P _ => ∃ (s t : Str) (lp fp : List Fm), as = [(Fm.node s lp).a, (Fm.node t fp).a] ∧ (∀ x ∈ lp.zip fp, MeetOk x) ∧ Fm.sizes lp ≤ 1000 ∧ ∀ q, M q = none → P (.ref q) (aupd M q (.dK (sbA (boundF lp fp))))
end Ab
namespace Ab
theorem ln_bound {K : PySem.W.Frag} (as : List A) (M : AM) (P : AK) (X : AX) : sp_bound K as M P X → as.length = 2 := by rintro ⟨_, _, _, _, rfl, _⟩; rfl
end Ab
def sp_bound (K : PySem.W.Frag) : Sp := lift K (Ab.sp_bound K)
theorem len_bound {K : PySem.W.Frag} {vs : List V} {H : Hp} {Q : VK} {E : XK} (h : sp_bound K vs H Q E) : vs.length = 2 := lift_len Ab.ln_bound h
def t_bound (K : PySem.W.Frag) : TS := (tSeq (tAsg tDNewK (gName 2))
  (tSeq (tFor (RZ.iZipA K (tCons (tSl (rSlT K) (tVar 0) (tPart (tC (.int 1))) tNoPart) (tCons (tSl (rSlT K) (tVar 1) (tPart (tC (.int 1))) tNoPart) tNil))) (gTup K 2 (gCons (gName 3) (gCons (gName 4) gNil)))
  (tIfS (tB (tCB (rIsi K) (tCons (tVar 3) (tCons (tC (.ty "int")) tNil)))) (sDPut (tVar 2) (tVar 3) (tVar 4))
  (tFor (RZ.iZipA K (tCons (tSl (rSlT K) (tVar 3) (tPart (tC (.int 1))) tNoPart) (tCons (tSl (rSlT K) (tVar 4) (tPart (tC (.int 1))) tNoPart) tNil))) (gTup K 2 (gCons (gName 5) (gCons (gName 6) gNil)))
  (sDPut (tVar 2) (tVar 5) (tVar 6)))))
  (tRet (tVar 2))))
abbrev N_bound : List Str := ["left", "form", "bound", "wanted", "part", "hole", "inner"]
namespace Ab
def t_bound (K : PySem.W.Frag) : TS := (tSeq (tAsg tDNewK (gName 2))
  (tSeq (tFor (iZipA K (tCons (tSl (rSlT K) (tVar 0) (tPart (tC (.int 1))) tNoPart) (tCons (tSl (rSlT K) (tVar 1) (tPart (tC (.int 1))) tNoPart) tNil))) (gTup K 2 (gCons (gName 3) (gCons (gName 4) gNil)))
  (tIfS (tB (tCB (rIsi K) (tCons (tVar 3) (tCons (tC (.ty "int")) tNil)))) (sDPut (tVar 2) (tVar 3) (tVar 4))
  (tFor (iZipA K (tCons (tSl (rSlT K) (tVar 3) (tPart (tC (.int 1))) tNoPart) (tCons (tSl (rSlT K) (tVar 4) (tPart (tC (.int 1))) tNoPart) tNil))) (gTup K 2 (gCons (gName 5) (gCons (gName 6) gNil)))
  (sDPut (tVar 2) (tVar 5) (tVar 6)))))
  (tRet (tVar 2))))
end Ab
theorem rf_bound {K : PySem.W.Frag} {E : XK} {X : AX} : RSt K E X (t_bound K) (Ab.t_bound K) := by
  unfold My.t_bound Ab.t_bound
  walk_at "rf"
theorem zipA_as (ps qs : List Fm) : Ab.zipA (Fm.as ps) (Fm.as qs) = (ps.zip qs).map fun x => A.tup [x.1.a, x.2.a] := by
  unfold Ab.zipA
  rw [Fm.as_map, Fm.as_map, List.zipWith_map, List.zip, List.map_zipWith]
theorem bindIn_len {b : Sb} {x : Fm × Fm} : (bindIn b x).length ≤ b.length + 1 := by
  unfold bindIn
  split
  · exact sbPut_len
  · omega
theorem foldIn_len : ∀ {xs : List (Fm × Fm)} {b : Sb}, (xs.foldl bindIn b).length ≤ b.length + xs.length
  | [], b => Nat.le_refl _
  | x :: xs, b => by
    have h1 := foldIn_len (xs := xs) (b := bindIn b x)
    have h2 := bindIn_len (b := b) (x := x)
    rw [List.foldl_cons, List.length_cons]
    omega
theorem bindP_len {b : Sb} {x : Fm × Fm} : (bindP b x).length ≤ b.length + x.1.size := by
  obtain ⟨l, p⟩ := x
  cases l with
  | hole n => exact Nat.le_trans sbPut_len (by simp [Fm.size])
  | node s hs =>
    cases p with
    | hole n => simp [bindP]
    | node t ps =>
      have h1 := foldIn_len (xs := hs.zip ps) (b := b)
      have h2 := Fm.len_sizes hs
      have h3 : (hs.zip ps).length ≤ hs.length := by rw [List.length_zip]; omega
      simp only [bindP, Fm.size]
      omega
theorem foldP_len : ∀ {lp fp : List Fm} {b : Sb}, ((lp.zip fp).foldl bindP b).length ≤ b.length + Fm.sizes lp
  | [], fp, b => by simp [Fm.sizes]
  | _ :: _, [], b => by simp
  | l :: lp, p :: fp, b => by
    have h1 := foldP_len (lp := lp) (fp := fp) (b := bindP b (l, p))
    have h2 := bindP_len (b := b) (x := (l, p))
    rw [List.zip_cons_cons, List.foldl_cons]
    simp only [Fm.sizes]
    dsimp only at h2
    omega
theorem take_fold {β : Type} {f : Sb → β → Sb} {xs : List β} {i : Nat} {x : β} {b : Sb} (h : xs[i]? = some x) : (xs.take (i + 1)).foldl f b = f ((xs.take i).foldl f b) x := by
  rw [List.take_add_one, h, List.foldl_append]
  rfl
theorem Fm.sizes_take (ps : List Fm) (i : Nat) : Fm.sizes (ps.take i) ≤ Fm.sizes ps := by
  have h : Fm.sizes (ps.take i ++ ps.drop i) = Fm.sizes ps := by rw [List.take_append_drop]
  rw [Fm.sizes_append] at h
  omega
namespace Ab
theorem ab_bound {K : PySem.W.Frag} {as : List A} {M : AM} {P : AK} {X : AX} (h : sp_bound K as M P X) : t_bound K { nx := fun _ M' => Wk P .non M', rt := Wk P } (start N_bound as) M := by
  obtain ⟨s, t, lp, fp, rfl, hok, hz, k⟩ := h
  unfold t_bound
  simp only [Fm.a]
  walk_at "ao"
  intro q hq
  walk_at "ao"
  rw [zipA_as]
  have blen : ∀ i, ((lp.zip fp).take i).foldl bindP [] = (((lp.take i).zip (fp.take i)).foldl bindP []) := fun i => by rw [List.zip_eq_zipWith, List.zip_eq_zipWith, List.take_zipWith]
  refine for_ (fun i s' M' => M' = aupd M q (.dK (sbA (((lp.zip fp).take i).foldl bindP []))) ∧ ∃ o3 o4 o5 o6 : Option A, s' = [some (.tup (.str s :: Fm.as lp)), some (.tup (.str t :: Fm.as fp)), some (.ref q), o3, o4, o5, o6]) ⟨rfl, _, _, _, _, rfl⟩ (fun _ _ _ _ _ => trivial) ?_ ?_
  · rintro i x s' M' hx ⟨rfl, o3, o4, o5, o6, rfl⟩
    obtain ⟨⟨l, p⟩, hlp, rfl⟩ := getA hx
    have hm := hok _ (List.mem_of_getElem? hlp)
    have hb : (((lp.zip fp).take i).foldl bindP []).length ≤ 1000 := by
      rw [blen]
      have h1 := foldP_len (lp := lp.take i) (fp := fp.take i) (b := [])
      have h2 := Fm.sizes_take lp i
      simp at h1
      omega
    rw [take_fold hlp]
    generalize ((lp.zip fp).take i).foldl bindP [] = b at *
    walk_at "ao"
    cases l with
    | hole n =>
      simp only [Fm.a]
      walk_at "ao"
      refine ⟨q, _, _, rfl, aupd_same, rfl, bigl (by rw [sbA_len]; omega), ?_⟩
      rw [sb_put, aupd_twice]
      exact ⟨rfl, _, _, _, _, rfl⟩
    | node a hs =>
      obtain ⟨hh, t', ps', e⟩ := hm a hs rfl
      dsimp only at e
      subst e
      simp only [Fm.a]
      have hsz : hs.length ≤ 1000 := by
        have h1 := Fm.sizes_mem (List.of_mem_zip (List.mem_of_getElem? hlp)).1
        have h2 := Fm.len_sizes hs
        simp only [Fm.size] at h1
        omega
      walk_at "ao"
      rw [zipA_as]
      refine for_ (fun j s' M' => M' = aupd M q (.dK (sbA (((hs.zip ps').take j).foldl bindIn b))) ∧ ∃ o3 o4 o5 o6 : Option A, s' = [some (.tup (.str s :: Fm.as lp)), some (.tup (.str t :: Fm.as fp)), some (.ref q), o3, o4, o5, o6]) ⟨rfl, _, _, _, _, rfl⟩ (fun _ _ _ _ _ => trivial) ?_ ?_
      · rintro j y s' M' hy ⟨rfl, o3, o4, o5, o6, rfl⟩
        obtain ⟨⟨hd, pt⟩, hhp, rfl⟩ := getA hy
        have hhm := List.all_eq_true.mp hh hd (List.of_mem_zip (List.mem_of_getElem? hhp)).1
        have hb2 : (((hs.zip ps').take j).foldl bindIn b).length ≤ 2000 := by
          have h1 := foldIn_len (xs := (hs.zip ps').take j) (b := b)
          have h2 : ((hs.zip ps').take j).length ≤ hs.length := by rw [List.length_take, List.length_zip]; omega
          omega
        rw [take_fold hhp]
        generalize ((hs.zip ps').take j).foldl bindIn b = b2 at *
        cases hd with
        | node _ _ => simp [Fm.isHole] at hhm
        | hole n =>
          simp only [Fm.a]
          walk_at "ao"
          refine ⟨q, _, _, rfl, aupd_same, rfl, bigl (by rw [sbA_len]; omega), ?_⟩
          rw [sb_put, aupd_twice]
          exact ⟨rfl, _, _, _, _, rfl⟩
      · rintro s' M' ⟨rfl, o3, o4, o5, o6, rfl⟩
        rw [List.length_map, List.take_length]
        exact ⟨rfl, _, _, _, _, rfl⟩
  · rintro s' M' ⟨rfl, o3, o4, o5, o6, rfl⟩
    rw [List.length_map, List.take_length]
    walk_at "ao"
    exact wk (Sub.refl _) (k q hq)
end Ab
theorem rd_bound {K : PySem.W.Frag} {vs : List V} {H : Hp} {Q : VK} {E : XK} (h : sp_bound K vs H Q E) : t_bound K { nx := fun _ H' => Q .non H', rt := Q } (L2.start N_bound vs) H := rd_of (fun _ => rf_bound) (fun _ _ _ _ => Ab.ab_bound) h

structure RowsW (rows : List Row) : Prop where
  nd : (rows.map Row.name).Nodup
  wk : ∀ r ∈ rows, ∀ k ∈ r.worked, k < r.places
  wl : ∀ r ∈ rows, r.worked.length ≤ 4
theorem SgOk.w {nms : List Str} {rows : List Row} (h : SgOk nms rows) : RowsW rows := ⟨h.nd, fun r hr => (h.ok r hr).lt, fun r hr => (h.ok r hr).wlen⟩
mutual
def doneF (rows : List Row) : Fm → Bool
  | .hole i => decide (1000 ≤ i)
  | .node s ps => match findR rows s with
    | some row => row.done && row.worked.all fun k => (donesF rows ps).getD k false
    | none => false
def donesF (rows : List Row) : List Fm → List Bool
  | [] => []
  | p :: ps => doneF rows p :: donesF rows ps
end
theorem donesF_map (rows : List Row) : ∀ ps : List Fm, donesF rows ps = ps.map (doneF rows)
  | [] => rfl
  | p :: ps => by simp only [donesF, List.map_cons, donesF_map rows ps]
theorem donesF_at {rows : List Row} {ps : List Fm} {k : Nat} {p : Fm} (h : ps[k]? = some p) : (donesF rows ps).getD k false = doneF rows p := by
  rw [donesF_map, List.getD_eq_getElem?_getD, List.getElem?_map, h]
  rfl
theorem over_head {rows : List Row} (nd : (rows.map Row.name).Nodup) {s : Str} {ps : List Fm} (h : (Fm.node s ps).over rows) : ∃ row, findR rows s = some row ∧ row ∈ rows ∧ row.name = s ∧ row.places = ps.length ∧ ∀ p ∈ ps, p.over rows := by
  simp only [Fm.over] at h
  obtain ⟨⟨r, hr, rfl, hl⟩, ho⟩ := h
  exact ⟨r, findR_of nd hr, hr, rfl, hl, Fm.overs_iff.mp ho⟩
namespace Ab
def sp_isdone (K : PySem.W.Frag) (n : Nat) : ASp := fun as M P _ => ∃ (x : Addr) (f : Fm) (M0 : AM) (rows : List Row) (rules : List (Fm × Fm)), as = [.ref x, f.a] ∧ f.depth < n ∧ LK K ∧ LangObj K M0 M x rows rules ∧ RowsW rows ∧ f.over rows ∧ P (.bl (doneF rows f)) M
end Ab
namespace Ab
theorem ln_isdone {K : PySem.W.Frag} {n : Nat} (as : List A) (M : AM) (P : AK) (X : AX) : sp_isdone K n as M P X → as.length = 2 := by rintro ⟨_, _, _, _, _, rfl, _⟩; rfl
end Ab
def sp_isdone (K : PySem.W.Frag) (n : Nat) : Sp := lift K (Ab.sp_isdone K n)
theorem len_isdone {K : PySem.W.Frag} {n : Nat} {vs : List V} {H : Hp} {Q : VK} {E : XK} (h : sp_isdone K n vs H Q E) : vs.length = 2 := lift_len Ab.ln_isdone h
theorem no_isdone {K : PySem.W.Frag} (vs : List V) (H : Hp) (Q : VK) (E : XK) : ¬ sp_isdone K 0 vs H Q E := lift_no (fun as M P X h => by obtain ⟨_, _, _, _, _, _, h⟩ := h; omega) vs H Q E
def t_isdone (K : PySem.W.Frag) (r : Sp) : TS := (tSeq (tIfS (tB (tCB (rIsi K) (tCons (tVar 1) (tCons (tC (.ty "int")) tNil)))) (tRet (tOp rGeI (tVar 1) (tC (.int 1000))))
  tNext)
  (tSeq (tAsg (tDGet (tFld K (tVar 0) "row_of") (tOp (rIxT K) (tVar 1) (tC (.int 0)))) (gName 2))
  (tSeq (tIfS (tNot (tB (tOp (rIxT K) (tVar 2) (tC (.int 3))))) (tRet (tC (.bl false)))
  tNext)
  (tSeq (tFor (iTup K (tOp (rIxT K) (tVar 2) (tC (.int 2)))) (gName 3)
  (tIfS (tNot (tB (tMeth (He.ga K "Language") "is_done" r [] E0 (tVar 0) (tCons (tOp (rIxT K) (tVar 1) (tOp rAddI (tVar 3) (tC (.int 1)))) tNil)))) (tRet (tC (.bl false)))
  tNext))
  (tRet (tC (.bl true)))))))
abbrev N_isdone : List Str := ["self", "form", "row", "place"]
namespace Ab
def t_isdone (K : PySem.W.Frag) (r : ASp) : TS := (tSeq (tIfS (tB (tCB (rIsi K) (tCons (tVar 1) (tCons (tC (.ty "int")) tNil)))) (tRet (tOp rGeI (tVar 1) (tC (.int 1000))))
  tNext)
  (tSeq (tAsg (tDGet (tFld K (tVar 0) "row_of") (tOp (rIxT K) (tVar 1) (tC (.int 0)))) (gName 2))
  (tSeq (tIfS (tNot (tB (tOp (rIxT K) (tVar 2) (tC (.int 3))))) (tRet (tC (.bl false)))
  tNext)
  (tSeq (tFor (iTup K (tOp (rIxT K) (tVar 2) (tC (.int 2)))) (gName 3)
  (tIfS (tNot (tB (tMeth (He.ga K "Language") "is_done" r [] E0 (tVar 0) (tCons (tOp (rIxT K) (tVar 1) (tOp rAddI (tVar 3) (tC (.int 1)))) tNil)))) (tRet (tC (.bl false)))
  tNext))
  (tRet (tC (.bl true)))))))
end Ab
theorem rf_isdone {K : PySem.W.Frag} {E : XK} {X : AX} {r : Sp} {ar : ASp} (hr : RSp K r ar) : RSt K E X (t_isdone K r) (Ab.t_isdone K ar) := by
  unfold My.t_isdone Ab.t_isdone
  walk_at "rf"
namespace Ab
theorem ab_isdone {K : PySem.W.Frag} {n : Nat} {as : List A} {M : AM} {P : AK} {X : AX} (h : sp_isdone K (n + 1) as M P X) : t_isdone K (sp_isdone K n) { nx := fun _ M' => Wk P .non M', rt := Wk P } (start N_isdone as) M := by
  obtain ⟨x, f, M0, rows, rules, rfl, hd, hK, hO, hR, ho, k⟩ := h
  obtain ⟨a1, a2, a3, a4, qs, hL⟩ := id hO
  unfold t_isdone
  cases f with
  | hole i =>
    simp only [Fm.a]
    walk_at "ao"
    exact wk (Sub.refl _) k
  | node s ps =>
    simp only [Fm.depth] at hd
    obtain ⟨row, hrow, hrm, hrn, hpl, hpo⟩ := over_head hR.nd ho
    simp only [Fm.a]
    walk_at "ao"
    refine g_fld hL.ox hK.cls hK.n3 langF3 ?_
    walk_at "ao"
    refine g_ixT (v := .str s) (atI_nat (j := 0) rfl) ?_
    walk_at "ao"
    refine g_dgetS hL.o3 (v := row.a) (by rw [val_rows, hrow]; rfl) ?_
    walk_at "ao"
    refine g_2 (fun c => ?_) (fun c => ?_)
    · walk_at "ao"
      refine wk (Sub.refl _) ?_
      have c : row.done = false := by simpa using c
      simp only [doneF, hrow, c, Bool.false_and] at k
      exact k
    have c : row.done = true := by simpa using c
    simp only [doneF, hrow, c, Bool.true_and] at k
    walk_at "ao"
    refine for_ (fun i s' M' => M' = M ∧ (∃ o : Option A, s' = [some (.ref x), some (.tup (.str s :: Fm.as ps)), some row.a, o]) ∧ ∀ w ∈ row.worked.take i, (donesF rows ps).getD w false = true) ⟨rfl, ⟨none, rfl⟩, by simp⟩ (fun _ _ _ _ _ => trivial) ?_ ?_
    · rintro i y s' M' hy ⟨rfl, ⟨o, rfl⟩, hdn⟩
      obtain ⟨w, hw, rfl⟩ := getA (f := fun (k : Nat) => A.int (k : Int)) (xs := row.worked) hy
      have hwp := hR.wk row hrm w (List.mem_of_getElem? hw)
      obtain ⟨p, hp⟩ : ∃ p, ps[w]? = some p := ⟨_, List.getElem?_eq_getElem (by omega)⟩
      have hpm := List.mem_of_getElem? hp
      have hd1 := Fm.depth_mem hpm
      walk_at "ao"
      refine ⟨x, _, rfl, hL.ox, rfl, ?_⟩
      walk_at "ao"
      refine g_ixT (fm_at hp) ?_
      walk_at "ao"
      refine ⟨x, p, M0, rows, rules, rfl, by omega, hK, hO, hR, hpo p hpm, ?_⟩
      walk_at "ao"
      refine g_2 (fun c2 => ?_) (fun c2 => ?_)
      · walk_at "ao"
        refine wk (Sub.refl _) ?_
        have c2 : doneF rows p = false := by simpa using c2
        have : (row.worked.all fun k => (donesF rows ps).getD k false) = false := by
          refine List.all_eq_false.mpr ⟨w, List.mem_of_getElem? hw, ?_⟩
          rw [donesF_at hp, c2]
          exact Bool.false_ne_true
        rw [this] at k
        exact k
      · walk_at "ao"
        refine ⟨rfl, ⟨_, rfl⟩, fun v hv => ?_⟩
        rw [List.take_add_one, hw] at hv
        rcases List.mem_append.mp hv with z | z
        · exact hdn v z
        · have : v = w := by simpa using z
          rw [this, donesF_at hp]
          simpa using c2
    · rintro s' M' ⟨rfl, ⟨o, rfl⟩, hdn⟩
      have e : (natsA row.worked).length = row.worked.length := by unfold natsA; rw [List.length_map]
      rw [e, List.take_length] at hdn
      walk_at "ao"
      refine wk (Sub.refl _) ?_
      have : (row.worked.all fun k => (donesF rows ps).getD k false) = true := List.all_eq_true.mpr hdn
      rw [this] at k
      exact k
end Ab
theorem rd_isdone {K : PySem.W.Frag} {n : Nat} {vs : List V} {H : Hp} {Q : VK} {E : XK} (h : sp_isdone K (n + 1) vs H Q E) : t_isdone K (sp_isdone K n) { nx := fun _ H' => Q .non H', rt := Q } (L2.start N_isdone vs) H := rd_of (fun _ => rf_isdone RSp.lift) (fun _ _ _ _ => Ab.ab_isdone) h
inductive StR where
  | done | stuck | waits (i : Int) | asks (f : Fm) | steps (f : Fm) (w : Bool) (k : Nat)
def StR.a : StR → A
  | .done => .tup [.str "done"]
  | .stuck => .tup [.str "stuck"]
  | .waits i => .tup [.str "waits", .int i]
  | .asks f => .tup [.str "asks", f.a]
  | .steps f w k => .tup [.str "steps", f.a, .bl w, .int (k : Int)]
def fireGo (rules : List (Fm × Fm)) (ps : List Fm) (worked : List Nat) : List Nat → Nat → StR
  | [], asked => match worked[asked]? with
    | some w => match ps[w]? with
      | some p => .asks p
      | none => .stuck
    | none => .stuck
  | k :: ks, asked => match rules[k]? with
    | some (.node _ lp, r) => match openF lp ps worked with
      | some n => if n = worked.length then .steps (r.fill (sbGet (boundF lp ps))) true k else fireGo rules ps worked ks (if n < asked then n else asked)
      | none => fireGo rules ps worked ks asked
    | _ => fireGo rules ps worked ks asked
def fireF (rules : List (Fm × Fm)) (s : Str) (ps : List Fm) (worked : List Nat) : StR := fireGo rules ps worked (rulesOf rules rules.length s) worked.length
structure RuleW (rows : List Row) (y : Fm × Fm) : Prop where
  ex : ∃ s lp row, y.1 = .node s lp ∧ findR rows s = some row ∧ lp.length = row.places ∧ row.done = false ∧ ∀ (k : Nat) (p : Fm), lp[k]? = some p → ∀ t hs, p = .node t hs → k ∈ row.worked ∧ hs.all Fm.isHole = true ∧ ∃ r, findR rows t = some r ∧ r.places = hs.length
  lz : y.1.size ≤ 1000
  rz : y.2.size ≤ 1000
  rd : y.2.depth ≤ 28
structure RulesW (rows : List Row) (rules : List (Fm × Fm)) : Prop where
  ok : ∀ y ∈ rules, RuleW rows y
  len : rules.length ≤ 10000
theorem openF_some {lp fp : List Fm} {worked : List Nat} {n : Nat} (h : openF lp fp worked = some n) : worked.any (misF lp fp) = false ∧ n = worked.findIdx (askF lp fp) := by
  unfold openF at h
  by_cases c : worked.any (misF lp fp) = true
  · rw [if_pos c] at h; cases h
  · rw [if_neg c] at h
    exact ⟨by simpa using c, (Option.some.inj h).symm⟩
theorem openF_le {lp fp : List Fm} {worked : List Nat} {n : Nat} (h : openF lp fp worked = some n) : n ≤ worked.length := by
  rw [(openF_some h).2]
  exact List.findIdx_le_length
theorem open_meet {rows : List Row} {row : Row} {lp fp : List Fm} (hp : ∀ (k : Nat) (p : Fm), lp[k]? = some p → ∀ t hs, p = .node t hs → k ∈ row.worked ∧ hs.all Fm.isHole = true ∧ ∃ r, findR rows t = some r ∧ r.places = hs.length) (h : openF lp fp row.worked = some row.worked.length) : ∀ x ∈ lp.zip fp, MeetOk x := by
  obtain ⟨h1, h2⟩ := openF_some h
  rintro ⟨l, p⟩ hx s hs e
  dsimp only at e
  subst e
  obtain ⟨k, hk⟩ := List.getElem?_of_mem hx
  obtain ⟨hl, hf⟩ : lp[k]? = some (.node s hs) ∧ fp[k]? = some p := by
    rw [List.getElem?_zip_eq_some] at hk
    exact hk
  obtain ⟨g1, g2, _⟩ := hp k _ hl s hs rfl
  refine ⟨g2, ?_⟩
  cases p with
  | node t ps => exact ⟨t, ps, rfl⟩
  | hole n =>
    have : row.worked.findIdx (askF lp fp) < row.worked.length := List.findIdx_lt_length_of_exists ⟨k, g1, by simp only [askF, hl, hf]⟩
    omega
theorem LangObj.rulesAt {K : PySem.W.Frag} {M0 M : AM} {x a1 a2 a3 a4 : Addr} {qs : List Addr} {rows : List Row} {rules : List (Fm × Fm)} (nd : (rows.map Row.name).Nodup)
    (hL : LI K M0 M x a1 a2 a3 a4 qs (rowsA rows) (rules.map ruleA) (rowKvs rows) ((rows.map fun r => Sum.inr r.name).zip (qs.map A.ref)) (rows.map fun r => rulesOf rules rules.length r.name)) {row : Row} (h : row ∈ rows) :
    ∃ q, valA ((rows.map fun r => (Sum.inr r.name : Key)).zip (qs.map A.ref)) (.inr row.name) = some (.ref q) ∧ M q = some (.lst (natsA (rulesOf rules rules.length row.name))) := by
  obtain ⟨i, hi⟩ := List.getElem?_of_mem h
  have hlq := hL.lq
  rw [List.length_map] at hlq
  have hil := (List.getElem?_eq_some_iff.mp hi).1
  obtain ⟨q, hq⟩ : ∃ q, qs[i]? = some q := ⟨_, List.getElem?_eq_getElem (by omega)⟩
  refine ⟨q, valA_some (i := i) ?_ ?_, hL.oq i q _ hq (by rw [List.getElem?_map, hi]; rfl)⟩
  · rw [List.map_fst_zip (by rw [List.length_map, List.length_map]; omega)]
    have e : (rows.map fun r => (Sum.inr r.name : Key)) = (rows.map Row.name).map Sum.inr := by rw [List.map_map]; rfl
    rw [e]
    exact nd.map _ fun a b z e => z (by injection e)
  · rw [List.getElem?_zip_eq_some]
    exact ⟨by rw [List.getElem?_map, hi]; rfl, by rw [List.getElem?_map, hq]; rfl⟩
namespace Ab
def sp_fire (K : PySem.W.Frag) : ASp := fun as M P _ => ∃ (x : Addr) (s : Str) (ps : List Fm) (row : Row) (M0 : AM) (rows : List Row) (rules : List (Fm × Fm)), as = [.ref x, (Fm.node s ps).a, .tup (natsA row.worked)] ∧ LK K ∧ LangObj K M0 M x rows rules ∧ RowsW rows ∧ RulesW rows rules ∧
  findR rows s = some row ∧ row.places = ps.length ∧ P (fireF rules s ps row.worked).a M
end Ab
namespace Ab
theorem ln_fire {K : PySem.W.Frag} (as : List A) (M : AM) (P : AK) (X : AX) : sp_fire K as M P X → as.length = 3 := by rintro ⟨_, _, _, _, _, _, _, rfl, _⟩; rfl
end Ab
def sp_fire (K : PySem.W.Frag) : Sp := lift K (Ab.sp_fire K)
theorem len_fire {K : PySem.W.Frag} {vs : List V} {H : Hp} {Q : VK} {E : XK} (h : sp_fire K vs H Q E) : vs.length = 3 := lift_len Ab.ln_fire h
def t_fire (K : PySem.W.Frag) : TS := (tSeq (tAsg (tCB (rLenSeq K) (tCons (tVar 2) tNil)) (gName 3))
  (tSeq (tFor (iList K (tDGet (tFld K (tVar 0) "rules_of") (tOp (rIxT K) (tVar 1) (tC (.int 0))))) (gName 4)
  (tSeq (tAsg (tOp (rIxL K) (tFld K (tVar 0) "rule_pairs") (tVar 4)) (gTup K 2 (gCons (gName 5) (gCons (gName 6) gNil))))
  (tSeq (tAsg (tCall (sp_opening K) [] E0 (tCons (tVar 5) (tCons (tVar 1) (tCons (tVar 2) tNil)))) (gName 7))
  (tSeq (tIfS (tTest (tOp rEq (tVar 7) (tCB (rLenSeq K) (tCons (tVar 2) tNil)))) (tRet (tTup (tCons (tC (.str "steps")) (tCons (tCall (sp_fill K 40) [] E0 (tCons (tVar 6) (tCons (tCall (sp_bound K) [] E0 (tCons (tVar 5) (tCons (tVar 1) tNil))) tNil))) (tCons (tC (.bl true)) (tCons (tVar 4) tNil))))))
  tNext)
  (tIfS (tTest (tChain rLeI rLtI (tC (.int 0)) (tVar 7) (tVar 3))) (tAsg (tVar 7) (gName 3))
  tNext)))))
  (tSeq (tIfS (tTest (tOp rLtI (tVar 3) (tCB (rLenSeq K) (tCons (tVar 2) tNil)))) (tRet (tTup (tCons (tC (.str "asks")) (tCons (tOp (rIxT K) (tVar 1) (tOp rAddI (tOp (rIxT K) (tVar 2) (tVar 3)) (tC (.int 1)))) tNil))))
  tNext)
  (tRet (tTup (tCons (tC (.str "stuck")) tNil))))))
abbrev N_fire : List Str := ["self", "form", "worked", "asked", "index", "left", "right", "reach"]
namespace Ab
def t_fire (K : PySem.W.Frag) : TS := (tSeq (tAsg (tCB (rLenSeq K) (tCons (tVar 2) tNil)) (gName 3))
  (tSeq (tFor (iList K (tDGet (tFld K (tVar 0) "rules_of") (tOp (rIxT K) (tVar 1) (tC (.int 0))))) (gName 4)
  (tSeq (tAsg (tOp (rIxL K) (tFld K (tVar 0) "rule_pairs") (tVar 4)) (gTup K 2 (gCons (gName 5) (gCons (gName 6) gNil))))
  (tSeq (tAsg (tCall (sp_opening K) [] E0 (tCons (tVar 5) (tCons (tVar 1) (tCons (tVar 2) tNil)))) (gName 7))
  (tSeq (tIfS (tTest (tOp rEq (tVar 7) (tCB (rLenSeq K) (tCons (tVar 2) tNil)))) (tRet (tTup (tCons (tC (.str "steps")) (tCons (tCall (sp_fill K 40) [] E0 (tCons (tVar 6) (tCons (tCall (sp_bound K) [] E0 (tCons (tVar 5) (tCons (tVar 1) tNil))) tNil))) (tCons (tC (.bl true)) (tCons (tVar 4) tNil))))))
  tNext)
  (tIfS (tTest (tChain rLeI rLtI (tC (.int 0)) (tVar 7) (tVar 3))) (tAsg (tVar 7) (gName 3))
  tNext)))))
  (tSeq (tIfS (tTest (tOp rLtI (tVar 3) (tCB (rLenSeq K) (tCons (tVar 2) tNil)))) (tRet (tTup (tCons (tC (.str "asks")) (tCons (tOp (rIxT K) (tVar 1) (tOp rAddI (tOp (rIxT K) (tVar 2) (tVar 3)) (tC (.int 1)))) tNil))))
  tNext)
  (tRet (tTup (tCons (tC (.str "stuck")) tNil))))))
end Ab
theorem rf_fire {K : PySem.W.Frag} {E : XK} {X : AX} : RSt K E X (t_fire K) (Ab.t_fire K) := by
  unfold My.t_fire Ab.t_fire
  walk_at "rf"
theorem headIs_of {rules : List (Fm × Fm)} {s : Str} {k : Nat} (h : headIs rules s k = true) : ∃ lp r, rules[k]? = some (.node s lp, r) := by
  unfold headIs at h
  cases e : rules[k]? with
  | none => rw [e] at h; cases h
  | some y =>
    obtain ⟨l, r⟩ := y
    rw [e] at h
    cases l with
    | hole n => cases h
    | node t lp =>
      have : t = s := by simpa using h
      subst this
      exact ⟨lp, r, rfl⟩
namespace Ab
theorem ab_fire {K : PySem.W.Frag} {as : List A} {M : AM} {P : AK} {X : AX} (h : sp_fire K as M P X) : t_fire K { nx := fun _ M' => Wk P .non M', rt := Wk P } (start N_fire as) M := by
  obtain ⟨x, s, ps, row, M0, rows, rules, rfl, hK, ⟨a1, a2, a3, a4, qs, hL⟩, hR, hRu, hrow, hpl, k⟩ := h
  obtain ⟨hrm, hrn⟩ := findR_mem hrow
  have hwl := hR.wl row hrm
  have hnl : (natsA row.worked).length = row.worked.length := by unfold natsA; rw [List.length_map]
  obtain ⟨q, hq1, hq2⟩ := LangObj.rulesAt hR.nd hL hrm
  rw [hrn] at hq1 hq2
  unfold t_fire
  simp only [Fm.a]
  walk_at "ao"
  refine g_fld hL.ox hK.cls hK.n4 langF4 ?_
  walk_at "ao"
  refine g_ixT (v := .str s) (atI_nat (j := 0) rfl) ?_
  walk_at "ao"
  refine g_dgetS hL.o4 hq1 ?_
  walk_at "ao"
  unfold fireF at k
  rw [hnl]
  refine for_ (fun i s' M' => M' = M ∧ ∃ (o4 o5 o6 o7 : Option A) (asked : Nat), s' = [some (.ref x), some (.tup (.str s :: Fm.as ps)), some (.tup (natsA row.worked)), some (.int (asked : Int)), o4, o5, o6, o7] ∧ asked ≤ row.worked.length ∧
      fireGo rules ps row.worked (rulesOf rules rules.length s) row.worked.length = fireGo rules ps row.worked ((rulesOf rules rules.length s).drop i) asked) ⟨rfl, none, none, none, none, row.worked.length, rfl, Nat.le_refl _, rfl⟩ (fun i s' M' _ h => by rw [h.1]; exact hq2) ?_ ?_
  · rintro i y s' M' hy ⟨rfl, o4, o5, o6, o7, asked, rfl, hal, he⟩
    obtain ⟨j, hj, rfl⟩ := getA (f := fun (k : Nat) => A.int (k : Int)) (xs := rulesOf rules rules.length s) hy
    have hjm := List.mem_of_getElem? hj
    obtain ⟨lp, r, hjr⟩ := headIs_of (List.mem_filter.mp hjm).2
    have hdr : (rulesOf rules rules.length s).drop i = j :: (rulesOf rules rules.length s).drop (i + 1) := by
      have hl := (List.getElem?_eq_some_iff.mp hj)
      rw [List.drop_eq_getElem_cons hl.1, hl.2]
    rw [hdr] at he
    have hy2 := hRu.ok _ (List.mem_of_getElem? hjr)
    obtain ⟨s', lp', row', e1, e2, hll, hnd, hpk⟩ := hy2.ex
    dsimp only at e1
    injection e1 with e3 e4
    subst e3 e4
    rw [hrow] at e2
    cases e2
    have hlz := hy2.lz
    have hrz := hy2.rz
    have hrd := hy2.rd
    dsimp only at hlz hrz hrd
    simp only [Fm.size] at hlz
    walk_at "ao"
    refine g_fld hL.ox hK.cls hK.n2 langF2 ?_
    walk_at "ao"
    refine g_ixL hL.o2 (v := ruleA (.node s lp, r)) (atI_nat (by rw [List.getElem?_map, hjr]; rfl)) ?_
    walk_at "ao"
    refine ⟨s, s, lp, ps, row.worked, rfl, fun w hw => by have := hR.wk row hrm w hw; omega, by omega, ?_⟩
    walk_at "ao"
    rw [hnl]
    simp only [fireGo, hjr] at he
    cases ho : openF lp ps row.worked with
    | none =>
      rw [ho] at he
      have e5 : openI lp ps row.worked = -1 := by unfold openI; rw [ho]
      rw [e5]
      refine g_2 (fun c => ?_) (fun c => ?_)
      · have := of_decide_eq_true c
        omega
      walk_at "ao"
      refine g_2 (fun c => ?_) (fun c => ?_)
      · have := of_decide_eq_true c
        omega
      walk_at "ao"
      exact ⟨rfl, _, _, _, _, asked, rfl, hal, he⟩
    | some n =>
      rw [ho] at he
      have hn := openF_le ho
      have e5 : openI lp ps row.worked = (n : Int) := by unfold openI; rw [ho]
      rw [e5]
      dsimp only at he
      refine g_2 (fun c => ?_) (fun c => ?_)
      · have c : n = row.worked.length := by have := of_decide_eq_true c; omega
        rw [if_pos c] at he
        rw [he] at k
        walk_at "ao"
        refine ⟨s, s, lp, ps, rfl, open_meet (rows := rows) hpk (by rw [ho, c]), by omega, fun b hb => ?_⟩
        walk_at "ao"
        refine ⟨b, r, boundF lp ps, rfl, by omega, aupd_same, by omega, ?_⟩
        walk_at "ao"
        exact wk (Sub.new hb (Sub.refl _)) k
      · have c : n ≠ row.worked.length := by have := of_decide_eq_false c; omega
        rw [if_neg c] at he
        walk_at "ao"
        refine g_2 (fun c2 => ?_) (fun c2 => ?_)
        · walk_at "ao"
          refine g_2 (fun c3 => ?_) (fun c3 => ?_)
          · walk_at "ao"
            have c3 : n < asked := by have := of_decide_eq_true c3; omega
            rw [if_pos c3] at he
            exact ⟨rfl, _, _, _, _, n, rfl, hn, he⟩
          · walk_at "ao"
            have c3 : ¬ n < asked := by have := of_decide_eq_false c3; omega
            rw [if_neg c3] at he
            exact ⟨rfl, _, _, _, _, asked, rfl, hal, he⟩
        · have := of_decide_eq_false c2
          omega
  · rintro s' M' ⟨rfl, o4, o5, o6, o7, asked, rfl, hal, he⟩
    have e : (natsA (rulesOf rules rules.length s)).length = (rulesOf rules rules.length s).length := by unfold natsA; rw [List.length_map]
    rw [e, List.drop_length] at he
    rw [he] at k
    simp only [fireGo] at k
    walk_at "ao"
    rw [hnl]
    refine g_2 (fun c => ?_) (fun c => ?_)
    · have c : asked < row.worked.length := by have := of_decide_eq_true c; omega
      obtain ⟨w, hw⟩ : ∃ w, row.worked[asked]? = some w := ⟨_, List.getElem?_eq_getElem c⟩
      have hwp := hR.wk row hrm w (List.mem_of_getElem? hw)
      obtain ⟨p, hp⟩ : ∃ p, ps[w]? = some p := ⟨_, List.getElem?_eq_getElem (by omega)⟩
      rw [hw] at k
      dsimp only at k
      rw [hp] at k
      walk_at "ao"
      refine g_ixT (nats_at hw) ?_
      walk_at "ao"
      refine g_ixT (fm_at hp) ?_
      walk_at "ao"
      exact wk (Sub.refl _) k
    · have c : ¬ asked < row.worked.length := by have := of_decide_eq_false c; omega
      rw [List.getElem?_eq_none (by omega)] at k
      walk_at "ao"
      exact wk (Sub.refl _) k
end Ab
theorem rd_fire {K : PySem.W.Frag} {vs : List V} {H : Hp} {Q : VK} {E : XK} (h : sp_fire K vs H Q E) : t_fire K { nx := fun _ H' => Q .non H', rt := Q } (L2.start N_fire vs) H := rd_of (fun _ => rf_fire) (fun _ _ _ _ => Ab.ab_fire) h
mutual
def advF (rows : List Row) (rules : List (Fm × Fm)) : Fm → StR
  | .hole i => if 1000 ≤ i then .done else .waits i
  | .node s ps => match findR rows s with
    | none => .stuck
    | some row => match row.worked.find? fun w => !(donesF rows ps).getD w false with
      | some w => match (advsF rows rules ps).getD w .stuck with
        | .steps g _ k => .steps (.node s (ps.set w g)) false k
        | r => r
      | none => if row.done = true then .done else fireF rules s ps row.worked
def advsF (rows : List Row) (rules : List (Fm × Fm)) : List Fm → List StR
  | [] => []
  | p :: ps => advF rows rules p :: advsF rows rules ps
end
theorem advsF_map (rows : List Row) (rules : List (Fm × Fm)) : ∀ ps : List Fm, advsF rows rules ps = ps.map (advF rows rules)
  | [] => rfl
  | p :: ps => by simp only [advsF, List.map_cons, advsF_map rows rules ps]
theorem advsF_at {rows : List Row} {rules : List (Fm × Fm)} {ps : List Fm} {k : Nat} {p : Fm} (h : ps[k]? = some p) : (advsF rows rules ps).getD k .stuck = advF rows rules p := by
  rw [advsF_map, List.getD_eq_getElem?_getD, List.getElem?_map, h]
  rfl
theorem find_first {l : List Nat} {p : Nat → Bool} {i : Nat} {w : Nat} (h : l[i]? = some w) (hp : p w = true) (hn : ∀ v ∈ l.take i, p v = false) : l.find? p = some w := by
  have hl := List.getElem?_eq_some_iff.mp h
  have e : l = l.take i ++ w :: l.drop (i + 1) := by
    conv => lhs; rw [← List.take_append_drop i l, List.drop_eq_getElem_cons hl.1, hl.2]
  rw [e, List.find?_append, List.find?_eq_none.mpr (fun v hv => by rw [hn v hv]; exact Bool.false_ne_true), List.find?_cons, hp]
  rfl
namespace Ab
def sp_advance (K : PySem.W.Frag) (n : Nat) : ASp := fun as M P _ => ∃ (x : Addr) (f : Fm) (M0 : AM) (rows : List Row) (rules : List (Fm × Fm)), as = [.ref x, f.a] ∧ f.depth < n ∧ f.depth < 40 ∧ f.size ≤ 10000 ∧ LK K ∧ LangObj K M0 M x rows rules ∧ RowsW rows ∧ RulesW rows rules ∧ f.over rows ∧ P (advF rows rules f).a M
end Ab
namespace Ab
theorem ln_advance {K : PySem.W.Frag} {n : Nat} (as : List A) (M : AM) (P : AK) (X : AX) : sp_advance K n as M P X → as.length = 2 := by rintro ⟨_, _, _, _, _, rfl, _⟩; rfl
end Ab
def sp_advance (K : PySem.W.Frag) (n : Nat) : Sp := lift K (Ab.sp_advance K n)
theorem len_advance {K : PySem.W.Frag} {n : Nat} {vs : List V} {H : Hp} {Q : VK} {E : XK} (h : sp_advance K n vs H Q E) : vs.length = 2 := lift_len Ab.ln_advance h
theorem no_advance {K : PySem.W.Frag} (vs : List V) (H : Hp) (Q : VK) (E : XK) : ¬ sp_advance K 0 vs H Q E := lift_no (fun as M P X h => by obtain ⟨_, _, _, _, _, _, h⟩ := h; omega) vs H Q E
def t_advance (K : PySem.W.Frag) (r : Sp) : TS := (tSeq (tIfS (tB (tCB (rIsi K) (tCons (tVar 1) (tCons (tC (.ty "int")) tNil)))) (tRet (tIf (tTest (tOp rGeI (tVar 1) (tC (.int 1000)))) (tTup (tCons (tC (.str "done")) tNil)) (tTup (tCons (tC (.str "waits")) (tCons (tVar 1) tNil)))))
  tNext)
  (tSeq (tAsg (tDGet (tFld K (tVar 0) "row_of") (tOp (rIxT K) (tVar 1) (tC (.int 0)))) (gName 2))
  (tSeq (tFor (iTup K (tOp (rIxT K) (tVar 2) (tC (.int 2)))) (gName 3)
  (tIfS (tNot (tB (tMeth (He.ga K "Language") "is_done" (sp_isdone K 40) [] E0 (tVar 0) (tCons (tOp (rIxT K) (tVar 1) (tOp rAddI (tVar 3) (tC (.int 1)))) tNil)))) (tSeq (tAsg (tMeth (He.ga K "Language") "advance" r [] E0 (tVar 0) (tCons (tOp (rIxT K) (tVar 1) (tOp rAddI (tVar 3) (tC (.int 1)))) tNil)) (gName 4))
  (tSeq (tIfS (tTest (tOp rNe (tOp (rIxT K) (tVar 4) (tC (.int 0))) (tC (.str "steps")))) (tRet (tVar 4))
  tNext)
  (tRet (tTup (tCons (tC (.str "steps")) (tCons (tCall (sp_putp K) [] E0 (tCons (tVar 1) (tCons (tVar 3) (tCons (tOp (rIxT K) (tVar 4) (tC (.int 1))) tNil)))) (tCons (tC (.bl false)) (tCons (tOp (rIxT K) (tVar 4) (tC (.int 3))) tNil))))))))
  tNext))
  (tSeq (tIfS (tB (tOp (rIxT K) (tVar 2) (tC (.int 3)))) (tRet (tTup (tCons (tC (.str "done")) tNil)))
  tNext)
  (tRet (tMeth (He.ga K "Language") "fire" (sp_fire K) [] E0 (tVar 0) (tCons (tVar 1) (tCons (tOp (rIxT K) (tVar 2) (tC (.int 2))) tNil))))))))
abbrev N_advance : List Str := ["self", "form", "row", "place", "told"]
namespace Ab
def t_advance (K : PySem.W.Frag) (r : ASp) : TS := (tSeq (tIfS (tB (tCB (rIsi K) (tCons (tVar 1) (tCons (tC (.ty "int")) tNil)))) (tRet (tIf (tTest (tOp rGeI (tVar 1) (tC (.int 1000)))) (tTup (tCons (tC (.str "done")) tNil)) (tTup (tCons (tC (.str "waits")) (tCons (tVar 1) tNil)))))
  tNext)
  (tSeq (tAsg (tDGet (tFld K (tVar 0) "row_of") (tOp (rIxT K) (tVar 1) (tC (.int 0)))) (gName 2))
  (tSeq (tFor (iTup K (tOp (rIxT K) (tVar 2) (tC (.int 2)))) (gName 3)
  (tIfS (tNot (tB (tMeth (He.ga K "Language") "is_done" (sp_isdone K 40) [] E0 (tVar 0) (tCons (tOp (rIxT K) (tVar 1) (tOp rAddI (tVar 3) (tC (.int 1)))) tNil)))) (tSeq (tAsg (tMeth (He.ga K "Language") "advance" r [] E0 (tVar 0) (tCons (tOp (rIxT K) (tVar 1) (tOp rAddI (tVar 3) (tC (.int 1)))) tNil)) (gName 4))
  (tSeq (tIfS (tTest (tOp rNe (tOp (rIxT K) (tVar 4) (tC (.int 0))) (tC (.str "steps")))) (tRet (tVar 4))
  tNext)
  (tRet (tTup (tCons (tC (.str "steps")) (tCons (tCall (sp_putp K) [] E0 (tCons (tVar 1) (tCons (tVar 3) (tCons (tOp (rIxT K) (tVar 4) (tC (.int 1))) tNil)))) (tCons (tC (.bl false)) (tCons (tOp (rIxT K) (tVar 4) (tC (.int 3))) tNil))))))))
  tNext))
  (tSeq (tIfS (tB (tOp (rIxT K) (tVar 2) (tC (.int 3)))) (tRet (tTup (tCons (tC (.str "done")) tNil)))
  tNext)
  (tRet (tMeth (He.ga K "Language") "fire" (sp_fire K) [] E0 (tVar 0) (tCons (tVar 1) (tCons (tOp (rIxT K) (tVar 2) (tC (.int 2))) tNil))))))))
end Ab
theorem rf_advance {K : PySem.W.Frag} {E : XK} {X : AX} {r : Sp} {ar : ASp} (hr : RSp K r ar) : RSt K E X (t_advance K r) (Ab.t_advance K ar) := by
  unfold My.t_advance Ab.t_advance
  walk_at "rf"
namespace Ab
theorem ab_advance {K : PySem.W.Frag} {n : Nat} {as : List A} {M : AM} {P : AK} {X : AX} (h : sp_advance K (n + 1) as M P X) : t_advance K (sp_advance K n) { nx := fun _ M' => Wk P .non M', rt := Wk P } (start N_advance as) M := by
  obtain ⟨x, f, M0, rows, rules, rfl, hd, hd2, hz, hK, hO, hR, hRu, ho, k⟩ := h
  obtain ⟨a1, a2, a3, a4, qs, hL⟩ := id hO
  unfold t_advance
  cases f with
  | hole i =>
    simp only [Fm.a]
    simp only [advF] at k
    walk_at "ao"
    refine g_2 (fun c => ?_) (fun c => ?_)
    · rw [if_pos (of_decide_eq_true c)] at k
      walk_at "ao"
      exact wk (Sub.refl _) k
    · rw [if_neg (of_decide_eq_false c)] at k
      walk_at "ao"
      exact wk (Sub.refl _) k
  | node s ps =>
    simp only [Fm.depth] at hd hd2
    simp only [Fm.size] at hz
    have hlz := Fm.len_sizes ps
    obtain ⟨row, hrow, hrm, hrn, hpl, hpo⟩ := over_head hR.nd ho
    have hne : (natsA row.worked).length = row.worked.length := by unfold natsA; rw [List.length_map]
    simp only [Fm.a]
    simp only [advF, hrow] at k
    walk_at "ao"
    refine g_fld hL.ox hK.cls hK.n3 langF3 ?_
    walk_at "ao"
    refine g_ixT (v := .str s) (atI_nat (j := 0) rfl) ?_
    walk_at "ao"
    refine g_dgetS hL.o3 (v := row.a) (by rw [val_rows, hrow]; rfl) ?_
    walk_at "ao"
    refine for_ (fun i s' M' => M' = M ∧ (∃ o o4 : Option A, s' = [some (.ref x), some (.tup (.str s :: Fm.as ps)), some row.a, o, o4]) ∧ ∀ w ∈ row.worked.take i, (!(donesF rows ps).getD w false) = false) ⟨rfl, ⟨none, none, rfl⟩, by simp⟩ (fun _ _ _ _ _ => trivial) ?_ ?_
    · rintro i y s' M' hy ⟨rfl, ⟨o, o4, rfl⟩, hdn⟩
      obtain ⟨w, hw, rfl⟩ := getA (f := fun (k : Nat) => A.int (k : Int)) (xs := row.worked) hy
      have hwp := hR.wk row hrm w (List.mem_of_getElem? hw)
      obtain ⟨p, hp⟩ : ∃ p, ps[w]? = some p := ⟨_, List.getElem?_eq_getElem (by omega)⟩
      have hpm := List.mem_of_getElem? hp
      have hd1 := Fm.depth_mem hpm
      have hz1 := Fm.sizes_mem hpm
      walk_at "ao"
      refine ⟨x, _, rfl, hL.ox, rfl, ?_⟩
      walk_at "ao"
      refine g_ixT (fm_at hp) ?_
      walk_at "ao"
      refine ⟨x, p, M0, rows, rules, rfl, by omega, hK, hO, hR, hpo p hpm, ?_⟩
      walk_at "ao"
      refine g_2 (fun c2 => ?_) (fun c2 => ?_)
      · have c2 : doneF rows p = false := by simpa using c2
        rw [find_first hw (by rw [donesF_at hp, c2]; rfl) hdn] at k
        dsimp only at k
        rw [advsF_at hp] at k
        walk_at "ao"
        refine ⟨x, _, rfl, hL.ox, rfl, ?_⟩
        walk_at "ao"
        refine g_ixT (fm_at hp) ?_
        walk_at "ao"
        refine ⟨x, p, M0, rows, rules, rfl, by omega, by omega, by omega, hK, hO, hR, hRu, hpo p hpm, ?_⟩
        walk_at "ao"
        cases hr : advF rows rules p with
        | done =>
          rw [hr] at k
          simp only [StR.a]
          walk_at "ao"
          refine g_2 (fun _ => ?_) (fun c => absurd c (by decide +kernel))
          walk_at "ao"
          exact wk (Sub.refl _) k
        | stuck =>
          rw [hr] at k
          simp only [StR.a]
          walk_at "ao"
          refine g_2 (fun _ => ?_) (fun c => absurd c (by decide +kernel))
          walk_at "ao"
          exact wk (Sub.refl _) k
        | waits j =>
          rw [hr] at k
          simp only [StR.a]
          walk_at "ao"
          refine g_2 (fun _ => ?_) (fun c => absurd c (by decide +kernel))
          walk_at "ao"
          exact wk (Sub.refl _) k
        | asks g =>
          rw [hr] at k
          simp only [StR.a]
          walk_at "ao"
          refine g_2 (fun _ => ?_) (fun c => absurd c (by decide +kernel))
          walk_at "ao"
          exact wk (Sub.refl _) k
        | steps g b j =>
          rw [hr] at k
          simp only [StR.a]
          walk_at "ao"
          refine g_2 (fun c => absurd c (by decide +kernel)) (fun _ => ?_)
          walk_at "ao"
          refine ⟨s, ps, w, g, rfl, by omega, by omega, ?_⟩
          walk_at "ao"
          exact wk (Sub.refl _) k
      · walk_at "ao"
        refine ⟨rfl, ⟨_, _, rfl⟩, fun v hv => ?_⟩
        rw [List.take_add_one, hw] at hv
        rcases List.mem_append.mp hv with z | z
        · exact hdn v z
        · have : v = w := by simpa using z
          rw [this, donesF_at hp]
          simpa using c2
    · rintro s' M' ⟨rfl, ⟨o, o4, rfl⟩, hdn⟩
      rw [hne, List.take_length] at hdn
      rw [List.find?_eq_none.mpr (fun v hv => by rw [hdn v hv]; exact Bool.false_ne_true)] at k
      dsimp only at k
      walk_at "ao"
      refine g_2 (fun c => ?_) (fun c => ?_)
      · rw [if_pos c] at k
        walk_at "ao"
        exact wk (Sub.refl _) k
      · rw [if_neg (by rw [c]; exact Bool.false_ne_true)] at k
        walk_at "ao"
        refine ⟨x, _, rfl, hL.ox, rfl, ?_⟩
        walk_at "ao"
        exact ⟨x, s, ps, row, M0, rows, rules, rfl, hK, hO, hR, hRu, hrow, hpl, wk (Sub.refl _) k⟩
end Ab
theorem rd_advance {K : PySem.W.Frag} {n : Nat} {vs : List V} {H : Hp} {Q : VK} {E : XK} (h : sp_advance K (n + 1) vs H Q E) : t_advance K (sp_advance K n) { nx := fun _ H' => Q .non H', rt := Q } (L2.start N_advance vs) H := rd_of (fun _ => rf_advance RSp.lift) (fun _ _ _ _ => Ab.ab_advance) h

namespace Ab
def sp_lsame (K : PySem.W.Frag) (n : Nat) : ASp := fun as M P _ => ∃ f : Fm, as = [f.a, f.a] ∧ f.depth < n ∧ f.size ≤ 100000 ∧ P (.bl true) M
end Ab
namespace Ab
theorem ln_lsame {K : PySem.W.Frag} {n : Nat} (as : List A) (M : AM) (P : AK) (X : AX) : sp_lsame K n as M P X → as.length = 2 := by rintro ⟨_, rfl, _⟩; rfl
end Ab
def sp_lsame (K : PySem.W.Frag) (n : Nat) : Sp := lift K (Ab.sp_lsame K n)
theorem len_lsame {K : PySem.W.Frag} {n : Nat} {vs : List V} {H : Hp} {Q : VK} {E : XK} (h : sp_lsame K n vs H Q E) : vs.length = 2 := lift_len Ab.ln_lsame h
theorem no_lsame {K : PySem.W.Frag} (vs : List V) (H : Hp) (Q : VK) (E : XK) : ¬ sp_lsame K 0 vs H Q E := lift_no (fun as M P X h => by obtain ⟨_, _, h⟩ := h; omega) vs H Q E
def t_lsame (K : PySem.W.Frag) (r : Sp) : TS := (tSeq (tIfS (tB (tCB (rIsi K) (tCons (tVar 1) (tCons (tC (.ty "int")) tNil)))) (tRet (tAndV (tCB (rIsi K) (tCons (tVar 0) (tCons (tC (.ty "int")) tNil))) (tAndV (tNotV (tCB (rIsi K) (tCons (tVar 0) (tCons (tC (.ty "bool")) tNil)))) (tOp rEq (tVar 0) (tVar 1)))))
  tNext)
  (tSeq (tIfS (tOr (tNot (tB (tCB (rIsi K) (tCons (tVar 0) (tCons (tC (.ty "tuple")) tNil))))) (tTest (tOp rNe (tCB (rLenSeq K) (tCons (tVar 0) tNil)) (tCB (rLenSeq K) (tCons (tVar 1) tNil))))) (tRet (tC (.bl false)))
  tNext)
  (tSeq (tIfS (tOr (tNot (tB (tCB (rIsi K) (tCons (tOp (rIxT K) (tVar 0) (tC (.int 0))) (tCons (tC (.ty "str")) tNil))))) (tTest (tOp rNe (tOp (rIxT K) (tVar 0) (tC (.int 0))) (tOp (rIxT K) (tVar 1) (tC (.int 0)))))) (tRet (tC (.bl false)))
  tNext)
  (tSeq (tFor (iRng2 (tCons (tC (.int 1)) (tCons (tCB (rLenSeq K) (tCons (tVar 1) tNil)) tNil))) (gName 2)
  (tIfS (tNot (tB (tCall r [] E0 (tCons (tOp (rIxT K) (tVar 0) (tVar 2)) (tCons (tOp (rIxT K) (tVar 1) (tVar 2)) tNil))))) (tRet (tC (.bl false)))
  tNext))
  (tRet (tC (.bl true)))))))
abbrev N_lsame : List Str := ["_law_answer", "_law_due_here", "_law_k"]
namespace Ab
def t_lsame (K : PySem.W.Frag) (r : ASp) : TS := (tSeq (tIfS (tB (tCB (rIsi K) (tCons (tVar 1) (tCons (tC (.ty "int")) tNil)))) (tRet (tAndV (tCB (rIsi K) (tCons (tVar 0) (tCons (tC (.ty "int")) tNil))) (tAndV (tNotV (tCB (rIsi K) (tCons (tVar 0) (tCons (tC (.ty "bool")) tNil)))) (tOp rEq (tVar 0) (tVar 1)))))
  tNext)
  (tSeq (tIfS (tOr (tNot (tB (tCB (rIsi K) (tCons (tVar 0) (tCons (tC (.ty "tuple")) tNil))))) (tTest (tOp rNe (tCB (rLenSeq K) (tCons (tVar 0) tNil)) (tCB (rLenSeq K) (tCons (tVar 1) tNil))))) (tRet (tC (.bl false)))
  tNext)
  (tSeq (tIfS (tOr (tNot (tB (tCB (rIsi K) (tCons (tOp (rIxT K) (tVar 0) (tC (.int 0))) (tCons (tC (.ty "str")) tNil))))) (tTest (tOp rNe (tOp (rIxT K) (tVar 0) (tC (.int 0))) (tOp (rIxT K) (tVar 1) (tC (.int 0)))))) (tRet (tC (.bl false)))
  tNext)
  (tSeq (tFor (iRng2 (tCons (tC (.int 1)) (tCons (tCB (rLenSeq K) (tCons (tVar 1) tNil)) tNil))) (gName 2)
  (tIfS (tNot (tB (tCall r [] E0 (tCons (tOp (rIxT K) (tVar 0) (tVar 2)) (tCons (tOp (rIxT K) (tVar 1) (tVar 2)) tNil))))) (tRet (tC (.bl false)))
  tNext))
  (tRet (tC (.bl true)))))))
end Ab
theorem rf_lsame {K : PySem.W.Frag} {E : XK} {X : AX} {r : Sp} {ar : ASp} (hr : RSp K r ar) : RSt K E X (t_lsame K r) (Ab.t_lsame K ar) := by
  unfold My.t_lsame Ab.t_lsame
  walk_at "rf"
namespace Ab
theorem ab_lsame {K : PySem.W.Frag} {n : Nat} {as : List A} {M : AM} {P : AK} {X : AX} (h : sp_lsame K (n + 1) as M P X) : t_lsame K (sp_lsame K n) { nx := fun _ M' => Wk P .non M', rt := Wk P } (start N_lsame as) M := by
  obtain ⟨f, rfl, hd, hz, k⟩ := h
  unfold t_lsame
  cases f with
  | hole i =>
    simp only [Fm.a]
    walk_at "ao"
    exact wk (Sub.refl _) (by rw [decide_eq_true rfl]; exact k)
  | node s ps =>
    simp only [Fm.depth] at hd
    simp only [Fm.size] at hz
    have hl := Fm.len_sizes ps
    have hlen : (A.str s :: Fm.as ps).length = ps.length + 1 := by simp [Fm.as_length]
    simp only [Fm.a]
    walk_at "ao"
    refine g_2 (fun c => by simp at c) (fun _ => ?_)
    walk_at "ao"
    refine g_ixT (v := .str s) (atI_nat (j := 0) rfl) ?_
    walk_at "ao"
    refine g_ixT (v := .str s) (atI_nat (j := 0) rfl) ?_
    walk_at "ao"
    refine g_ixT (v := .str s) (atI_nat (j := 0) rfl) ?_
    walk_at "ao"
    refine g_2 (fun c => by simp at c) (fun _ => ?_)
    walk_at "ao"
    refine ⟨by rw [hlen]; omega, ?_⟩
    have en : ((((A.str s :: Fm.as ps).length : Nat) : Int) - 1).toNat = ps.length := by rw [hlen]; omega
    rw [en]
    refine for_rng (fun i s' M' => M' = M ∧ ∃ o : Option A, s' = [some (.tup (.str s :: Fm.as ps)), some (.tup (.str s :: Fm.as ps)), o]) ⟨rfl, none, rfl⟩ ?_ ?_
    · rintro i s' M' hi ⟨rfl, o, rfl⟩
      obtain ⟨p, hp⟩ : ∃ p, ps[i]? = some p := ⟨_, List.getElem?_eq_getElem hi⟩
      have hpm := List.mem_of_getElem? hp
      have hd1 := Fm.depth_mem hpm
      have hs1 := Fm.sizes_mem hpm
      have ep := fm_at (s := s) hp
      rw [show ((i : Int) + 1) = 1 + (i : Int) by omega] at ep
      walk_at "ao"
      refine g_ixT ep ?_
      walk_at "ao"
      refine g_ixT ep ?_
      walk_at "ao"
      refine ⟨p, rfl, by omega, by omega, ?_⟩
      walk_at "ao"
      exact ⟨rfl, _, rfl⟩
    · rintro s' M' ⟨rfl, o, rfl⟩
      walk_at "ao"
      exact wk (Sub.refl _) k
end Ab
theorem rd_lsame {K : PySem.W.Frag} {n : Nat} {vs : List V} {H : Hp} {Q : VK} {E : XK} (h : sp_lsame K (n + 1) vs H Q E) : t_lsame K (sp_lsame K n) { nx := fun _ H' => Q .non H', rt := Q } (L2.start N_lsame vs) H := rd_of (fun _ => rf_lsame RSp.lift) (fun _ _ _ _ => Ab.ab_lsame) h

namespace Ab
def sp_lfill (K : PySem.W.Frag) (n : Nat) : ASp := fun as M P _ => ∃ (a : Addr) (f : Fm) (b : Sb), as = [f.a, .ref a] ∧ f.depth < n ∧ M a = some (.dK (sbA b)) ∧ f.size ≤ 10000 ∧ P ((f.fill (sbGet b)).a) M
end Ab
namespace Ab
theorem ln_lfill {K : PySem.W.Frag} {n : Nat} (as : List A) (M : AM) (P : AK) (X : AX) : sp_lfill K n as M P X → as.length = 2 := by rintro ⟨_, _, _, rfl, _⟩; rfl
end Ab
def sp_lfill (K : PySem.W.Frag) (n : Nat) : Sp := lift K (Ab.sp_lfill K n)
theorem len_lfill {K : PySem.W.Frag} {n : Nat} {vs : List V} {H : Hp} {Q : VK} {E : XK} (h : sp_lfill K n vs H Q E) : vs.length = 2 := lift_len Ab.ln_lfill h
theorem no_lfill {K : PySem.W.Frag} (vs : List V) (H : Hp) (Q : VK) (E : XK) : ¬ sp_lfill K 0 vs H Q E := lift_no (fun as M P X h => by obtain ⟨_, _, _, _, h⟩ := h; omega) vs H Q E
def t_lfill (K : PySem.W.Frag) (r : Sp) : TS := (tSeq (tIfS (tB (tCB (rIsi K) (tCons (tVar 0) (tCons (tC (.ty "int")) tNil)))) (tRet (tDGet2 (tVar 1) (tVar 0) (tVar 0)))
  tNext)
  (tRet (tCB (rTupleOf K) (tCons (tOp rCat (tLst (tCons (tOp (rIxT K) (tVar 0) (tC (.int 0))) tNil)) (tLc (iTup K (tSl (rSlT K) (tVar 0) (tPart (tC (.int 1))) tNoPart)) (gName 2) tYes (tCall r [] E0 (tCons (tVar 2) (tCons (tVar 1) tNil))) [2])) tNil))))
abbrev N_lfill : List Str := ["_law_form", "_law_parts", "_law_part"]
namespace Ab
def t_lfill (K : PySem.W.Frag) (r : ASp) : TS := (tSeq (tIfS (tB (tCB (rIsi K) (tCons (tVar 0) (tCons (tC (.ty "int")) tNil)))) (tRet (tDGet2 (tVar 1) (tVar 0) (tVar 0)))
  tNext)
  (tRet (tCB (rTupleOf K) (tCons (tOp rCat (tLst (tCons (tOp (rIxT K) (tVar 0) (tC (.int 0))) tNil)) (tLc (iTup K (tSl (rSlT K) (tVar 0) (tPart (tC (.int 1))) tNoPart)) (gName 2) tYes (tCall r [] E0 (tCons (tVar 2) (tCons (tVar 1) tNil))) [2])) tNil))))
end Ab
theorem rf_lfill {K : PySem.W.Frag} {E : XK} {X : AX} {r : Sp} {ar : ASp} (hr : RSp K r ar) : RSt K E X (t_lfill K r) (Ab.t_lfill K ar) := by
  unfold My.t_lfill Ab.t_lfill
  walk_at "rf"
namespace Ab
theorem ab_lfill {K : PySem.W.Frag} {n : Nat} {as : List A} {M : AM} {P : AK} {X : AX} (h : sp_lfill K (n + 1) as M P X) : t_lfill K (sp_lfill K n) { nx := fun _ M' => Wk P .non M', rt := Wk P } (start N_lfill as) M := by
  obtain ⟨a, f, b, rfl, hd, ha, hz, k⟩ := h
  unfold t_lfill
  cases f with
  | hole i =>
    simp only [Fm.a]
    walk_at "ao"
    refine ⟨a, _, rfl, ha, ?_⟩
    walk_at "ao"
    refine ⟨_, _, ha, rfl, wk (Sub.refl _) ?_⟩
    rw [sb_get]
    simp only [Fm.fill] at k
    cases e : sbGet b i with
    | none => rw [e] at k; exact k
    | some g => rw [e] at k; exact k
  | node s ps =>
    simp only [Fm.depth] at hd
    simp only [Fm.size] at hz
    have hl := Fm.len_sizes ps
    simp only [Fm.a]
    walk_at "ao"
    refine g_ixT (v := .str s) (atI_nat (j := 0) rfl) ?_
    walk_at "ao"
    intro p hp
    walk_at "ao"
    rw [Fm.as_map]
    refine lc_typed (a := Fm.a) (xs := ps) (fun _ => true) (fun p => (p.fill (sbGet b)).a) trivial (bigl (by omega)) (fun g hg Yes No hy hn => ?_) ?_
    · have hd1 := Fm.depth_mem hg
      have hs1 := Fm.sizes_mem hg
      walk_at "ao"
      exact ⟨a, g, b, rfl, by omega, lk_new hp ha, by omega, hy rfl⟩
    intro q hq
    rw [filt_true]
    walk_at "ao"
    refine g_cat (lk_new hq aupd_same) aupd_same (big (by simp; omega)) ?_
    intro r hr
    walk_at "ao"
    refine wk (Sub.new hr (Sub.new hq (Sub.put hp (Sub.refl _)))) ?_
    simp only [Fm.fill, Fm.a] at k
    rw [Fm.as_map, Fm.fills_map, List.map_map] at k
    exact k
end Ab
theorem rd_lfill {K : PySem.W.Frag} {n : Nat} {vs : List V} {H : Hp} {Q : VK} {E : XK} (h : sp_lfill K (n + 1) vs H Q E) : t_lfill K (sp_lfill K n) { nx := fun _ H' => Q .non H', rt := Q } (L2.start N_lfill vs) H := rd_of (fun _ => rf_lfill RSp.lift) (fun _ _ _ _ => Ab.ab_lfill) h

theorem rowKvs_len {rows : List Row} : (rowKvs rows).length = rows.length := by unfold rowKvs; rw [List.length_map]
namespace Ab
def sp_table (K : PySem.W.Frag) : ASp := fun as M P _ => ∃ (sg : Addr) (rows : List Row), as = [.ref sg] ∧ M sg = some (.lst (rowsA rows)) ∧ (rows.map Row.name).Nodup ∧ rows.length ≤ 1000 ∧ ∀ q, M q = none → P (.ref q) (aupd M q (.dK (rowKvs rows)))
end Ab
namespace Ab
theorem ln_table {K : PySem.W.Frag} (as : List A) (M : AM) (P : AK) (X : AX) : sp_table K as M P X → as.length = 1 := by rintro ⟨_, _, rfl, _⟩; rfl
end Ab
def sp_table (K : PySem.W.Frag) : Sp := lift K (Ab.sp_table K)
theorem len_table {K : PySem.W.Frag} {vs : List V} {H : Hp} {Q : VK} {E : XK} (h : sp_table K vs H Q E) : vs.length = 1 := lift_len Ab.ln_table h
def t_table (K : PySem.W.Frag) : TS := (tSeq (tAsg tDNewK (gName 1))
  (tSeq (tFor (iList K (tVar 0)) (gName 2)
  (sDPut (tVar 1) (tOp (rIxT K) (tVar 2) (tC (.int 0))) (tVar 2)))
  (tRet (tVar 1))))
abbrev N_table : List Str := ["_law_signs_here", "_law_table_here", "_law_row"]
namespace Ab
def t_table (K : PySem.W.Frag) : TS := (tSeq (tAsg tDNewK (gName 1))
  (tSeq (tFor (iList K (tVar 0)) (gName 2)
  (sDPut (tVar 1) (tOp (rIxT K) (tVar 2) (tC (.int 0))) (tVar 2)))
  (tRet (tVar 1))))
end Ab
theorem rf_table {K : PySem.W.Frag} {E : XK} {X : AX} : RSt K E X (t_table K) (Ab.t_table K) := by
  unfold My.t_table Ab.t_table
  walk_at "rf"
namespace Ab
theorem ab_table {K : PySem.W.Frag} {as : List A} {M : AM} {P : AK} {X : AX} (h : sp_table K as M P X) : t_table K { nx := fun _ M' => Wk P .non M', rt := Wk P } (start N_table as) M := by
  obtain ⟨sg, rows, rfl, hsg, nd, hz, k⟩ := h
  unfold t_table
  walk_at "ao"
  intro q hq
  walk_at "ao"
  refine for_ (fun i s' M' => M' = aupd M q (.dK (rowKvs (rows.take i))) ∧ ∃ o : Option A, s' = [some (.ref sg), some (.ref q), o]) ⟨rfl, none, rfl⟩ (fun i s' M' _ h => by rw [h.1]; exact lk_new hq hsg) ?_ ?_
  · rintro i y s' M' hy ⟨rfl, o, rfl⟩
    obtain ⟨r, hr, rfl⟩ := getA (f := Row.a) (xs := rows) hy
    walk_at "ao"
    refine ⟨q, _, .inr r.name, rfl, aupd_same, rfl, bigl (by rw [rowKvs_len, List.length_take]; omega), ?_⟩
    rw [aupd_twice, putA_new]
    · refine ⟨?_, _, rfl⟩
      rw [List.take_add_one, hr]
      unfold rowKvs
      rw [List.map_append]
      rfl
    · intro kv hkv e
      unfold rowKvs at hkv
      obtain ⟨r2, hr2, rfl⟩ := List.mem_map.mp hkv
      obtain ⟨j, hj⟩ := List.getElem?_of_mem hr2
      have hjl := (List.getElem?_eq_some_iff.mp hj).1
      rw [List.length_take] at hjl
      rw [List.getElem?_take, if_pos (by omega)] at hj
      exact nodup_ne nd (show j < i by omega) hj hr (by injection e)
  · rintro s' M' ⟨rfl, o, rfl⟩
    rw [List.length_map, List.take_length]
    walk_at "ao"
    exact wk (Sub.refl _) (k q hq)
end Ab
theorem rd_table {K : PySem.W.Frag} {vs : List V} {H : Hp} {Q : VK} {E : XK} (h : sp_table K vs H Q E) : t_table K { nx := fun _ H' => Q .non H', rt := Q } (L2.start N_table vs) H := rd_of (fun _ => rf_table) (fun _ _ _ _ => Ab.ab_table) h
namespace Ab
def sp_ldone (K : PySem.W.Frag) (n : Nat) : ASp := fun as M P _ => ∃ (a : Addr) (f : Fm) (rows : List Row), as = [.ref a, f.a] ∧ f.depth < n ∧ M a = some (.dK (rowKvs rows)) ∧ RowsW rows ∧ f.over rows ∧ (∀ i ∈ f.flat, i < 1000) ∧ P (.bl (doneF rows f)) M
end Ab
namespace Ab
theorem ln_ldone {K : PySem.W.Frag} {n : Nat} (as : List A) (M : AM) (P : AK) (X : AX) : sp_ldone K n as M P X → as.length = 2 := by rintro ⟨_, _, _, rfl, _⟩; rfl
end Ab
def sp_ldone (K : PySem.W.Frag) (n : Nat) : Sp := lift K (Ab.sp_ldone K n)
theorem len_ldone {K : PySem.W.Frag} {n : Nat} {vs : List V} {H : Hp} {Q : VK} {E : XK} (h : sp_ldone K n vs H Q E) : vs.length = 2 := lift_len Ab.ln_ldone h
theorem no_ldone {K : PySem.W.Frag} (vs : List V) (H : Hp) (Q : VK) (E : XK) : ¬ sp_ldone K 0 vs H Q E := lift_no (fun as M P X h => by obtain ⟨_, _, _, _, h⟩ := h; omega) vs H Q E
def t_ldone (K : PySem.W.Frag) (r : Sp) : TS := (tSeq (tIfS (tOr (tB (tCB (rIsi K) (tCons (tVar 1) (tCons (tC (.ty "int")) tNil)))) (tNot (tB (tOp (rIxT K) (tDGet (tVar 0) (tOp (rIxT K) (tVar 1) (tC (.int 0)))) (tC (.int 3)))))) (tRet (tC (.bl false)))
  tNext)
  (tRet (tCB (rAll K) (tCons (tLc (iTup K (tOp (rIxT K) (tDGet (tVar 0) (tOp (rIxT K) (tVar 1) (tC (.int 0)))) (tC (.int 2)))) (gName 2) tYes (tCall r [] E0 (tCons (tVar 0) (tCons (tOp (rIxT K) (tVar 1) (tOp rAddI (tVar 2) (tC (.int 1)))) tNil))) [2]) tNil))))
abbrev N_ldone : List Str := ["_law_table_here", "_law_form", "_law_place"]
namespace Ab
def t_ldone (K : PySem.W.Frag) (r : ASp) : TS := (tSeq (tIfS (tOr (tB (tCB (rIsi K) (tCons (tVar 1) (tCons (tC (.ty "int")) tNil)))) (tNot (tB (tOp (rIxT K) (tDGet (tVar 0) (tOp (rIxT K) (tVar 1) (tC (.int 0)))) (tC (.int 3)))))) (tRet (tC (.bl false)))
  tNext)
  (tRet (tCB (rAll K) (tCons (tLc (iTup K (tOp (rIxT K) (tDGet (tVar 0) (tOp (rIxT K) (tVar 1) (tC (.int 0)))) (tC (.int 2)))) (gName 2) tYes (tCall r [] E0 (tCons (tVar 0) (tCons (tOp (rIxT K) (tVar 1) (tOp rAddI (tVar 2) (tC (.int 1)))) tNil))) [2]) tNil))))
end Ab
theorem rf_ldone {K : PySem.W.Frag} {E : XK} {X : AX} {r : Sp} {ar : ASp} (hr : RSp K r ar) : RSt K E X (t_ldone K r) (Ab.t_ldone K ar) := by
  unfold My.t_ldone Ab.t_ldone
  walk_at "rf"
namespace Ab
theorem ab_ldone {K : PySem.W.Frag} {n : Nat} {as : List A} {M : AM} {P : AK} {X : AX} (h : sp_ldone K (n + 1) as M P X) : t_ldone K (sp_ldone K n) { nx := fun _ M' => Wk P .non M', rt := Wk P } (start N_ldone as) M := by
  obtain ⟨a, f, rows, rfl, hd, ha, hR, ho, hf, k⟩ := h
  unfold t_ldone
  cases f with
  | hole i =>
    have hi := hf i (by simp [Fm.flat])
    simp only [Fm.a]
    simp only [doneF] at k
    rw [decide_eq_false (by omega)] at k
    walk_at "ao"
    exact wk (Sub.refl _) k
  | node s ps =>
    simp only [Fm.depth] at hd
    obtain ⟨row, hrow, hrm, hrn, hpl, hpo⟩ := over_head hR.nd ho
    simp only [Fm.a]
    simp only [doneF, hrow] at k
    walk_at "ao"
    refine g_ixT (v := .str s) (atI_nat (j := 0) rfl) ?_
    walk_at "ao"
    refine g_dgetS ha (v := row.a) (by rw [val_rows, hrow]; rfl) ?_
    walk_at "ao"
    refine g_2 (fun c => ?_) (fun c => ?_)
    · have c : row.done = false := by simpa using c
      rw [c, Bool.false_and] at k
      walk_at "ao"
      exact wk (Sub.refl _) k
    have c : row.done = true := by simpa using c
    rw [c, Bool.true_and] at k
    walk_at "ao"
    refine g_ixT (v := .str s) (atI_nat (j := 0) rfl) ?_
    walk_at "ao"
    refine g_dgetS ha (v := row.a) (by rw [val_rows, hrow]; rfl) ?_
    walk_at "ao"
    have hwl := hR.wl row hrm
    refine lc_typed (a := fun (k : Nat) => A.int (k : Int)) (xs := row.worked) (fun _ => true) (fun w => .bl ((donesF rows ps).getD w false)) trivial (bigl (by omega)) (fun w hw Yes No hy hn => ?_) ?_
    · have hwp := hR.wk row hrm w hw
      obtain ⟨p, hp⟩ : ∃ p, ps[w]? = some p := ⟨_, List.getElem?_eq_getElem (by omega)⟩
      have hpm := List.mem_of_getElem? hp
      have hd1 := Fm.depth_mem hpm
      walk_at "ao"
      refine g_ixT (fm_at hp) ?_
      walk_at "ao"
      refine ⟨a, p, rows, rfl, by omega, ha, hR, hpo p hpm, fun i hi => hf i (by simp only [Fm.flat]; exact Fm.flats_mem.mpr ⟨p, hpm, hi⟩), ?_⟩
      have := hy rfl
      rw [donesF_at hp] at this
      exact this
    intro q hq
    rw [filt_true]
    walk_at "ao"
    refine ⟨_, row.worked.map fun w => (donesF rows ps).getD w false, rfl, ⟨q, rfl, by rw [aupd_same, List.map_map]; rfl⟩, ?_⟩
    refine wk (Sub.put hq (Sub.refl _)) ?_
    rw [List.all_map]
    exact k
end Ab
theorem rd_ldone {K : PySem.W.Frag} {n : Nat} {vs : List V} {H : Hp} {Q : VK} {E : XK} (h : sp_ldone K (n + 1) vs H Q E) : t_ldone K (sp_ldone K n) { nx := fun _ H' => Q .non H', rt := Q } (L2.start N_ldone vs) H := rd_of (fun _ => rf_ldone RSp.lift) (fun _ _ _ _ => Ab.ab_ldone) h
def metF (lp fp : List Fm) : Prop := ∀ w, misF lp fp w = false
def FitOk (x : Fm × Fm) : Prop := ∀ a hs, x.1 = .node a hs → hs.all Fm.isHole = true ∧ ∃ b ps, x.2 = .node b ps ∧ (a = b → hs.length = ps.length)
namespace Ab
def sp_match (K : PySem.W.Frag) : ASp := fun as M P _ => ∃ (s t : Str) (lp fp : List Fm), as = [(Fm.node s lp).a, (Fm.node t fp).a] ∧ Fm.sizes lp ≤ 1000 ∧ (s = t → lp.length = fp.length ∧ ∀ x ∈ lp.zip fp, FitOk x) ∧
  (s = t → metF lp fp → ∀ q, M q = none → P (.ref q) (aupd M q (.dK (sbA (boundF lp fp))))) ∧ (¬ (s = t ∧ metF lp fp) → P .non M)
end Ab
namespace Ab
theorem ln_match {K : PySem.W.Frag} (as : List A) (M : AM) (P : AK) (X : AX) : sp_match K as M P X → as.length = 2 := by rintro ⟨_, _, _, _, rfl, _⟩; rfl
end Ab
def sp_match (K : PySem.W.Frag) : Sp := lift K (Ab.sp_match K)
theorem len_match {K : PySem.W.Frag} {vs : List V} {H : Hp} {Q : VK} {E : XK} (h : sp_match K vs H Q E) : vs.length = 2 := lift_len Ab.ln_match h
def t_match (K : PySem.W.Frag) : TS := (tSeq (tAsg tDNewK (gName 2))
  (tSeq (tIfS (tTest (tOp rNe (tOp (rIxT K) (tVar 0) (tC (.int 0))) (tOp (rIxT K) (tVar 1) (tC (.int 0))))) (tRet (tC .non))
  tNext)
  (tSeq (tFor (iRng2 (tCons (tC (.int 1)) (tCons (tCB (rLenSeq K) (tCons (tVar 0) tNil)) tNil))) (gName 3)
  (tIfS (tB (tCB (rIsi K) (tCons (tOp (rIxT K) (tVar 0) (tVar 3)) (tCons (tC (.ty "int")) tNil)))) (sDPut (tVar 2) (tOp (rIxT K) (tVar 0) (tVar 3)) (tOp (rIxT K) (tVar 1) (tVar 3)))
  (tIfS (tTest (tOp rNe (tOp (rIxT K) (tOp (rIxT K) (tVar 0) (tVar 3)) (tC (.int 0))) (tOp (rIxT K) (tOp (rIxT K) (tVar 1) (tVar 3)) (tC (.int 0))))) (tRet (tC .non))
  (tFor (iRng2 (tCons (tC (.int 1)) (tCons (tCB (rLenSeq K) (tCons (tOp (rIxT K) (tVar 0) (tVar 3)) tNil)) tNil))) (gName 4)
  (sDPut (tVar 2) (tOp (rIxT K) (tOp (rIxT K) (tVar 0) (tVar 3)) (tVar 4)) (tOp (rIxT K) (tOp (rIxT K) (tVar 1) (tVar 3)) (tVar 4)))))))
  (tRet (tVar 2)))))
abbrev N_match : List Str := ["_law_left_here", "_law_form", "_law_parts", "_law_k", "_law_n"]
namespace Ab
def t_match (K : PySem.W.Frag) : TS := (tSeq (tAsg tDNewK (gName 2))
  (tSeq (tIfS (tTest (tOp rNe (tOp (rIxT K) (tVar 0) (tC (.int 0))) (tOp (rIxT K) (tVar 1) (tC (.int 0))))) (tRet (tC .non))
  tNext)
  (tSeq (tFor (iRng2 (tCons (tC (.int 1)) (tCons (tCB (rLenSeq K) (tCons (tVar 0) tNil)) tNil))) (gName 3)
  (tIfS (tB (tCB (rIsi K) (tCons (tOp (rIxT K) (tVar 0) (tVar 3)) (tCons (tC (.ty "int")) tNil)))) (sDPut (tVar 2) (tOp (rIxT K) (tVar 0) (tVar 3)) (tOp (rIxT K) (tVar 1) (tVar 3)))
  (tIfS (tTest (tOp rNe (tOp (rIxT K) (tOp (rIxT K) (tVar 0) (tVar 3)) (tC (.int 0))) (tOp (rIxT K) (tOp (rIxT K) (tVar 1) (tVar 3)) (tC (.int 0))))) (tRet (tC .non))
  (tFor (iRng2 (tCons (tC (.int 1)) (tCons (tCB (rLenSeq K) (tCons (tOp (rIxT K) (tVar 0) (tVar 3)) tNil)) tNil))) (gName 4)
  (sDPut (tVar 2) (tOp (rIxT K) (tOp (rIxT K) (tVar 0) (tVar 3)) (tVar 4)) (tOp (rIxT K) (tOp (rIxT K) (tVar 1) (tVar 3)) (tVar 4)))))))
  (tRet (tVar 2)))))
end Ab
theorem rf_match {K : PySem.W.Frag} {E : XK} {X : AX} : RSt K E X (t_match K) (Ab.t_match K) := by
  unfold My.t_match Ab.t_match
  walk_at "rf"
namespace Ab
theorem ab_match {K : PySem.W.Frag} {as : List A} {M : AM} {P : AK} {X : AX} (h : sp_match K as M P X) : t_match K { nx := fun _ M' => Wk P .non M', rt := Wk P } (start N_match as) M := by
  obtain ⟨s, t, lp, fp, rfl, hz, hok, ky, kn⟩ := h
  have hlz := Fm.len_sizes lp
  have hlen : (A.str s :: Fm.as lp).length = lp.length + 1 := by simp [Fm.as_length]
  unfold t_match
  simp only [Fm.a]
  walk_at "ao"
  intro q hq
  walk_at "ao"
  refine g_ixT (v := .str s) (atI_nat (j := 0) rfl) ?_
  walk_at "ao"
  refine g_ixT (v := .str t) (atI_nat (j := 0) rfl) ?_
  walk_at "ao"
  refine g_2 (fun c => ?_) (fun c => ?_)
  · walk_at "ao"
    have c : s ≠ t := by simpa using c
    exact wk (Sub.put hq (Sub.refl _)) (kn fun z => c z.1)
  have c : s = t := by simpa using c
  obtain ⟨hl, hfit⟩ := hok c
  have ky := ky c
  walk_at "ao"
  refine ⟨by rw [hlen]; omega, ?_⟩
  have en : ((((A.str s :: Fm.as lp).length : Nat) : Int) - 1).toNat = lp.length := by rw [hlen]; omega
  rw [en]
  refine for_rng (fun i s' M' => M' = aupd M q (.dK (sbA (((lp.zip fp).take i).foldl bindP []))) ∧ (∃ o3 o4 : Option A, s' = [some (.tup (.str s :: Fm.as lp)), some (.tup (.str t :: Fm.as fp)), some (.ref q), o3, o4]) ∧ ∀ w, w < i → misF lp fp w = false) ⟨rfl, ⟨none, none, rfl⟩, by omega⟩ ?_ ?_
  · rintro i s' M' hi ⟨rfl, ⟨o3, o4, rfl⟩, hno⟩
    obtain ⟨l, hl1⟩ : ∃ l, lp[i]? = some l := ⟨_, List.getElem?_eq_getElem hi⟩
    obtain ⟨p, hp1⟩ : ∃ p, fp[i]? = some p := ⟨_, List.getElem?_eq_getElem (by omega)⟩
    have hlp : (lp.zip fp)[i]? = some (l, p) := by rw [List.getElem?_zip_eq_some]; exact ⟨hl1, hp1⟩
    have hm := hfit _ (List.mem_of_getElem? hlp)
    have e1 := fm_at (s := s) hl1
    have e2 := fm_at (s := t) hp1
    rw [show ((i : Int) + 1) = 1 + (i : Int) by omega] at e1 e2
    have hb : (((lp.zip fp).take i).foldl bindP []).length ≤ 1000 := by
      have e : (lp.zip fp).take i = (lp.take i).zip (fp.take i) := by rw [List.zip_eq_zipWith, List.zip_eq_zipWith, List.take_zipWith]
      rw [e]
      have h1 := foldP_len (lp := lp.take i) (fp := fp.take i) (b := [])
      have h2 := Fm.sizes_take lp i
      simp at h1
      omega
    have step : misF lp fp i = false → ∀ w, w < i + 1 → misF lp fp w = false := fun h w hw => by
      by_cases z : w < i
      · exact hno w z
      · have : w = i := by omega
        rw [this]
        exact h
    rw [take_fold hlp]
    generalize ((lp.zip fp).take i).foldl bindP [] = b at *
    walk_at "ao"
    refine g_ixT e1 ?_
    walk_at "ao"
    cases l with
    | hole n =>
      have hmi : misF lp fp i = false := by simp only [misF, hl1]
      simp only [Fm.a] at e1 ⊢
      walk_at "ao"
      refine g_ixT e2 ?_
      walk_at "ao"
      refine g_ixT e1 ?_
      walk_at "ao"
      refine ⟨q, _, _, rfl, aupd_same, rfl, bigl (by rw [sbA_len]; omega), ?_⟩
      rw [sb_put, aupd_twice]
      exact ⟨rfl, ⟨_, _, rfl⟩, step hmi⟩
    | node a hs =>
      obtain ⟨hh, b', ps', e, hab⟩ := hm a hs rfl
      dsimp only at e
      subst e
      have hmi : misF lp fp i = !decide (b' = a) := by simp only [misF, hl1, hp1]
      simp only [Fm.a] at e1 e2 ⊢
      have hsz : hs.length ≤ 1000 := by
        have h1 := Fm.sizes_mem (List.mem_of_getElem? hl1)
        have h2 := Fm.len_sizes hs
        simp only [Fm.size] at h1
        omega
      walk_at "ao"
      refine g_ixT e1 ?_
      walk_at "ao"
      refine g_ixT (v := .str a) (atI_nat (j := 0) rfl) ?_
      walk_at "ao"
      refine g_ixT e2 ?_
      walk_at "ao"
      refine g_ixT (v := .str b') (atI_nat (j := 0) rfl) ?_
      walk_at "ao"
      refine g_2 (fun c2 => ?_) (fun c2 => ?_)
      · walk_at "ao"
        have c2 : a ≠ b' := by simpa using c2
        refine wk (Sub.put hq (Sub.refl _)) (kn fun z => ?_)
        have := z.2 i
        rw [hmi, decide_eq_false (Ne.symm c2)] at this
        cases this
      · have c2 : a = b' := by simpa using c2
        have hl2 := hab c2
        have hmi2 : misF lp fp i = false := by rw [hmi, c2, decide_eq_true rfl]; rfl
        have hlen2 : (A.str a :: Fm.as hs).length = hs.length + 1 := by simp [Fm.as_length]
        walk_at "ao"
        refine g_ixT e1 ?_
        walk_at "ao"
        refine ⟨by rw [hlen2]; omega, ?_⟩
        have en2 : ((((A.str a :: Fm.as hs).length : Nat) : Int) - 1).toNat = hs.length := by rw [hlen2]; omega
        rw [en2]
        refine for_rng (fun j s' M' => M' = aupd M q (.dK (sbA (((hs.zip ps').take j).foldl bindIn b))) ∧ ∃ o4 : Option A, s' = [some (.tup (.str s :: Fm.as lp)), some (.tup (.str t :: Fm.as fp)), some (.ref q), some (.int (1 + (i : Int))), o4]) ⟨rfl, _, rfl⟩ ?_ ?_
        · rintro j s' M' hj ⟨rfl, o4, rfl⟩
          obtain ⟨hd, hd1⟩ : ∃ hd, hs[j]? = some hd := ⟨_, List.getElem?_eq_getElem hj⟩
          obtain ⟨pt, pt1⟩ : ∃ pt, ps'[j]? = some pt := ⟨_, List.getElem?_eq_getElem (by omega)⟩
          have hhp : (hs.zip ps')[j]? = some (hd, pt) := by rw [List.getElem?_zip_eq_some]; exact ⟨hd1, pt1⟩
          have hhm := List.all_eq_true.mp hh hd (List.mem_of_getElem? hd1)
          have e3 := fm_at (s := a) hd1
          have e4 := fm_at (s := b') pt1
          rw [show ((j : Int) + 1) = 1 + (j : Int) by omega] at e3 e4
          have hb2 : (((hs.zip ps').take j).foldl bindIn b).length ≤ 2000 := by
            have h1 := foldIn_len (xs := (hs.zip ps').take j) (b := b)
            have h2 : ((hs.zip ps').take j).length ≤ hs.length := by rw [List.length_take, List.length_zip]; omega
            omega
          rw [take_fold hhp]
          generalize ((hs.zip ps').take j).foldl bindIn b = b2 at *
          cases hd with
          | node _ _ => simp [Fm.isHole] at hhm
          | hole n =>
            simp only [Fm.a] at e3
            walk_at "ao"
            refine g_ixT e2 ?_
            walk_at "ao"
            refine g_ixT e4 ?_
            walk_at "ao"
            refine g_ixT e1 ?_
            walk_at "ao"
            refine g_ixT e3 ?_
            refine ⟨q, _, _, rfl, aupd_same, rfl, bigl (by rw [sbA_len]; omega), ?_⟩
            rw [sb_put, aupd_twice]
            exact ⟨rfl, _, rfl⟩
        · rintro s' M' ⟨rfl, o4, rfl⟩
          have e : (hs.zip ps').take hs.length = hs.zip ps' := List.take_of_length_le (by rw [List.length_zip]; omega)
          rw [e]
          exact ⟨rfl, ⟨_, _, rfl⟩, step hmi2⟩
  · rintro s' M' ⟨rfl, ⟨o3, o4, rfl⟩, hno⟩
    have e : (lp.zip fp).take lp.length = lp.zip fp := List.take_of_length_le (by rw [List.length_zip]; omega)
    rw [e]
    walk_at "ao"
    refine wk (Sub.refl _) (ky (fun w => ?_) q hq)
    by_cases z : w < lp.length
    · exact hno w z
    · simp only [misF, List.getElem?_eq_none (Nat.le_of_not_lt z)]
end Ab
theorem rd_match {K : PySem.W.Frag} {vs : List V} {H : Hp} {Q : VK} {E : XK} (h : sp_match K vs H Q E) : t_match K { nx := fun _ H' => Q .non H', rt := Q } (L2.start N_match vs) H := rd_of (fun _ => rf_match) (fun _ _ _ _ => Ab.ab_match) h

def fits (rules : List (Fm × Fm)) (s : Str) (ps : List Fm) (k : Nat) : Prop := ∃ lp r, rules[k]? = some (.node s lp, r) ∧ metF lp ps
def WorkedN (row : Row) (ps : List Fm) : Prop := ∀ w ∈ row.worked, ∃ t qs, ps[w]? = some (.node t qs)
theorem open_worked {rows : List Row} {row : Row} {lp fp : List Fm} (hp : ∀ (k : Nat) (p : Fm), lp[k]? = some p → ∀ t hs, p = .node t hs → k ∈ row.worked ∧ hs.all Fm.isHole = true ∧ ∃ r, findR rows t = some r ∧ r.places = hs.length) (hw : WorkedN row fp) :
    (metF lp fp → openF lp fp row.worked = some row.worked.length) ∧ (¬ metF lp fp → openF lp fp row.worked = none) := by
  have ask : row.worked.findIdx (askF lp fp) = row.worked.length := by
    refine List.findIdx_eq_length.mpr fun w hwm => ?_
    obtain ⟨t, qs, e⟩ := hw w hwm
    unfold askF
    rw [e]
    cases lp[w]? with
    | none => rfl
    | some l => cases l <;> rfl
  constructor
  · intro h
    unfold openF
    rw [if_neg, ask]
    rw [List.any_eq_false.mpr fun w _ => by rw [h w]; exact Bool.false_ne_true]
    exact Bool.false_ne_true
  · intro h
    unfold openF
    rw [if_pos]
    refine Classical.byContradiction fun c => h fun w => ?_
    have c : row.worked.any (misF lp fp) = false := by simpa using c
    by_cases z : w ∈ row.worked
    · simpa using List.any_eq_false.mp c w z
    · unfold misF
      cases e : lp[w]? with
      | none => rfl
      | some l =>
        cases l with
        | hole n => rfl
        | node a hs => exact absurd (hp w _ e a hs rfl).1 z
def tryB (rules : List (Fm × Fm)) (ps : List Fm) (worked : List Nat) (k : Nat) : Bool := match rules[k]? with
  | some (.node _ lp, _) => decide (openF lp ps worked = some worked.length)
  | _ => false
theorem tryB_at {rules : List (Fm × Fm)} {ps lp : List Fm} {worked : List Nat} {k : Nat} {t : Str} {r : Fm} (h : rules[k]? = some (.node t lp, r)) : tryB rules ps worked k = decide (openF lp ps worked = some worked.length) := by
  unfold tryB
  rw [h]
section
variable {rows : List Row} {rules : List (Fm × Fm)} {s : Str} {ps : List Fm} {row : Row}
theorem fire_go (hRu : RulesW rows rules) (hrow : findR rows s = some row) (hw : WorkedN row ps) : ∀ ks : List Nat, (∀ k ∈ ks, headIs rules s k = true) →
    (∀ k, (ks.find? (tryB rules ps row.worked)) = some k → ∃ lp r, rules[k]? = some (.node s lp, r) ∧ fireGo rules ps row.worked ks row.worked.length = .steps (r.fill (sbGet (boundF lp ps))) true k) ∧
    ((ks.find? (tryB rules ps row.worked)) = none → fireGo rules ps row.worked ks row.worked.length = .stuck)
  | [], _ => ⟨fun k h => by simp at h, fun _ => by simp [fireGo]⟩
  | k :: ks, h => by
    obtain ⟨lp, r, e⟩ := headIs_of (h k List.mem_cons_self)
    have ih := fire_go hRu hrow hw ks fun j hj => h j (List.mem_cons_of_mem _ hj)
    obtain ⟨s', lp', row', e1, e2, hll, hnd, hpk⟩ := (hRu.ok _ (List.mem_of_getElem? e)).ex
    dsimp only at e1
    injection e1 with e3 e4
    subst e3 e4
    rw [hrow] at e2
    cases e2
    obtain ⟨o1, o2⟩ := open_worked hpk hw
    rw [List.find?_cons, tryB_at e]
    simp only [fireGo, e]
    by_cases m : metF lp ps
    · rw [o1 m]
      simp only [decide_true, if_true]
      exact ⟨fun j hj => by (cases hj; exact ⟨lp, r, e, rfl⟩), fun z => nomatch z⟩
    · rw [o2 m]
      have : decide ((none : Option Nat) = some row.worked.length) = false := decide_eq_false (fun z => nomatch z)
      simp only [this]
      exact ih
theorem fire_steps (hRu : RulesW rows rules) (hrow : findR rows s = some row) (hw : WorkedN row ps) {k : Nat} {lp : List Fm} {r : Fm} (hk : rules[k]? = some (.node s lp, r)) (hm : metF lp ps) (hno : ∀ j, j < k → ¬ fits rules s ps j) :
    fireF rules s ps row.worked = .steps (r.fill (sbGet (boundF lp ps))) true k := by
  have hkl := (List.getElem?_eq_some_iff.mp hk).1
  have hd : ∀ j ∈ rulesOf rules rules.length s, headIs rules s j = true := fun j hj => (List.mem_filter.mp hj).2
  have hmem : k ∈ rulesOf rules rules.length s := List.mem_filter.mpr ⟨List.mem_range.mpr hkl, by simp [headIs, hk]⟩
  have hin : ∀ {j : Nat} {lp' : List Fm} {r' : Fm}, rules[j]? = some (.node s lp', r') → ∀ (k : Nat) (p : Fm), lp'[k]? = some p → ∀ t hs, p = .node t hs → k ∈ row.worked ∧ hs.all Fm.isHole = true ∧ ∃ r, findR rows t = some r ∧ r.places = hs.length := by
    intro j lp' r' e
    obtain ⟨s', lp2, row', e1, e2, _, _, hpk⟩ := (hRu.ok _ (List.mem_of_getElem? e)).ex
    dsimp only at e1
    injection e1 with e3 e4
    subst e3 e4
    rw [hrow] at e2
    cases e2
    exact hpk
  obtain ⟨h1, _⟩ := fire_go hRu hrow hw _ hd
  unfold fireF
  cases e : (rulesOf rules rules.length s).find? (tryB rules ps row.worked) with
  | none =>
    have := List.find?_eq_none.mp e k hmem
    rw [tryB_at hk, (open_worked (hin hk) hw).1 hm] at this
    simp at this
  | some j =>
    obtain ⟨lp', r', e2, e3⟩ := h1 j e
    have hjp := List.find?_some e
    rw [tryB_at e2] at hjp
    have hjm : metF lp' ps := Classical.byContradiction fun z => by
      rw [(open_worked (hin e2) hw).2 z] at hjp
      simp at hjp
    have hjk : j = k := by
      rcases Nat.lt_trichotomy j k with z | z | z
      · exact absurd ⟨lp', r', e2, hjm⟩ (hno j z)
      · exact z
      · obtain ⟨_, as, bs, hab, hn⟩ := List.find?_eq_some_iff_append.mp e
        have hsort : (rulesOf rules rules.length s).Pairwise (· < ·) := List.pairwise_lt_range.filter _
        rw [hab] at hmem hsort
        have : k ∈ as := by
          rcases List.mem_append.mp hmem with y | y
          · exact y
          · rcases List.mem_cons.mp y with y | y
            · omega
            · have := (List.pairwise_cons.mp (List.pairwise_append.mp hsort).2.1).1 k y
              omega
        have := hn k this
        rw [tryB_at hk, (open_worked (hin hk) hw).1 hm] at this
        simp at this
    subst hjk
    rw [hk] at e2
    cases e2
    exact e3
theorem fire_stuck (hRu : RulesW rows rules) (hrow : findR rows s = some row) (hw : WorkedN row ps) (hno : ∀ j, ¬ fits rules s ps j) : fireF rules s ps row.worked = .stuck := by
  have hd : ∀ j ∈ rulesOf rules rules.length s, headIs rules s j = true := fun j hj => (List.mem_filter.mp hj).2
  obtain ⟨h1, h2⟩ := fire_go hRu hrow hw _ hd
  unfold fireF
  cases e : (rulesOf rules rules.length s).find? (tryB rules ps row.worked) with
  | none => exact h2 e
  | some j =>
    obtain ⟨lp', r', e2, e3⟩ := h1 j e
    have hjp := List.find?_some e
    rw [tryB_at e2] at hjp
    obtain ⟨s', lp2, row', e4, e5, _, _, hpk⟩ := (hRu.ok _ (List.mem_of_getElem? e2)).ex
    dsimp only at e4
    injection e4 with e6 e7
    subst e6 e7
    rw [hrow] at e5
    cases e5
    exact absurd ⟨lp', r', e2, Classical.byContradiction fun z => by
      rw [(open_worked hpk hw).2 z] at hjp
      simp at hjp⟩ (hno j)
end
theorem done_node {rows : List Row} {p : Fm} (h : doneF rows p = true) (hf : ∀ i ∈ p.flat, i < 1000) : ∃ t qs, p = .node t qs := by
  cases p with
  | node t qs => exact ⟨t, qs, rfl⟩
  | hole i =>
    have := hf i (by simp [Fm.flat])
    simp only [doneF, decide_eq_true_eq] at h
    omega
theorem fit_of {rows : List Row} {row : Row} {lp fp : List Fm} (hp : ∀ (k : Nat) (p : Fm), lp[k]? = some p → ∀ t hs, p = .node t hs → k ∈ row.worked ∧ hs.all Fm.isHole = true ∧ ∃ r, findR rows t = some r ∧ r.places = hs.length) (hw : WorkedN row fp) (nd : (rows.map Row.name).Nodup) (ho : ∀ p ∈ fp, p.over rows) :
    ∀ x ∈ lp.zip fp, FitOk x := by
  rintro ⟨l, p⟩ hx a hs e
  dsimp only at e
  subst e
  obtain ⟨k, hk⟩ := List.getElem?_of_mem hx
  obtain ⟨hl, hf⟩ : lp[k]? = some (.node a hs) ∧ fp[k]? = some p := by
    rw [List.getElem?_zip_eq_some] at hk
    exact hk
  obtain ⟨g1, g2, r, g3, g4⟩ := hp k _ hl a hs rfl
  obtain ⟨b, qs, e⟩ := hw k g1
  rw [hf] at e
  cases e
  refine ⟨g2, b, qs, rfl, fun e => ?_⟩
  subst e
  obtain ⟨r2, h1, _, _, h2, _⟩ := over_head nd (ho _ (List.mem_of_getElem? hf))
  rw [g3] at h1
  cases h1
  omega
namespace Ab
def sp_next (K : PySem.W.Frag) (n : Nat) : ASp := fun as M P _ => ∃ (a rl : Addr) (f : Fm) (rows : List Row) (rules : List (Fm × Fm)), as = [.ref a, .ref rl, f.a] ∧ f.depth < n ∧ f.depth < 40 ∧ f.size ≤ 10000 ∧ M a = some (.dK (rowKvs rows)) ∧ M rl = some (.lst (rules.map ruleA)) ∧
  RowsW rows ∧ RulesW rows rules ∧ f.over rows ∧ (∀ i ∈ f.flat, i < 1000) ∧ P (advF rows rules f).a M
end Ab
namespace Ab
theorem ln_next {K : PySem.W.Frag} {n : Nat} (as : List A) (M : AM) (P : AK) (X : AX) : sp_next K n as M P X → as.length = 3 := by rintro ⟨_, _, _, _, _, rfl, _⟩; rfl
end Ab
def sp_next (K : PySem.W.Frag) (n : Nat) : Sp := lift K (Ab.sp_next K n)
theorem len_next {K : PySem.W.Frag} {n : Nat} {vs : List V} {H : Hp} {Q : VK} {E : XK} (h : sp_next K n vs H Q E) : vs.length = 3 := lift_len Ab.ln_next h
theorem no_next {K : PySem.W.Frag} (vs : List V) (H : Hp) (Q : VK) (E : XK) : ¬ sp_next K 0 vs H Q E := lift_no (fun as M P X h => by obtain ⟨_, _, _, _, _, _, h⟩ := h; omega) vs H Q E
def t_next (K : PySem.W.Frag) (r : Sp) : TS := (tSeq (tIfS (tB (tCB (rIsi K) (tCons (tVar 2) (tCons (tC (.ty "int")) tNil)))) (tRet (tTup (tCons (tC (.str "waits")) (tCons (tVar 2) tNil))))
  tNext)
  (tSeq (tFor (iTup K (tOp (rIxT K) (tDGet (tVar 0) (tOp (rIxT K) (tVar 2) (tC (.int 0)))) (tC (.int 2)))) (gName 3)
  (tIfS (tNot (tB (tCall (sp_ldone K 40) [] E0 (tCons (tVar 0) (tCons (tOp (rIxT K) (tVar 2) (tOp rAddI (tVar 3) (tC (.int 1)))) tNil))))) (tSeq (tAsg (tCall r [] E0 (tCons (tVar 0) (tCons (tVar 1) (tCons (tOp (rIxT K) (tVar 2) (tOp rAddI (tVar 3) (tC (.int 1)))) tNil)))) (gName 4))
  (tSeq (tIfS (tTest (tOp rNe (tOp (rIxT K) (tVar 4) (tC (.int 0))) (tC (.str "steps")))) (tRet (tVar 4))
  tNext)
  (tRet (tTup (tCons (tC (.str "steps")) (tCons (tOp (rCatA K) (tOp (rCatA K) (tSl (rSlA K) (tVar 2) tNoPart (tPart (tOp rAddI (tVar 3) (tC (.int 1))))) (tTup (tCons (tOp (rIxT K) (tVar 4) (tC (.int 1))) tNil))) (tSl (rSlA K) (tVar 2) (tPart (tOp rAddI (tVar 3) (tC (.int 2)))) tNoPart)) (tCons (tC (.bl false)) (tCons (tOp (rIxT K) (tVar 4) (tC (.int 3))) tNil))))))))
  tNext))
  (tSeq (tFor (iRng1 (tCons (tCB (rLenSeq K) (tCons (tVar 1) tNil)) tNil)) (gName 5)
  (tSeq (tAsg (tCall (sp_match K) [] E0 (tCons (tOp (rIxT K) (tOp (rIxL K) (tVar 1) (tVar 5)) (tC (.int 0))) (tCons (tVar 2) tNil))) (gName 6))
  (tIfS (tTest (tOp rNotN_ (tVar 6) (tC .non))) (tRet (tTup (tCons (tC (.str "steps")) (tCons (tCall (sp_lfill K 40) [] E0 (tCons (tOp (rIxT K) (tOp (rIxL K) (tVar 1) (tVar 5)) (tC (.int 1))) (tCons (tVar 6) tNil))) (tCons (tC (.bl true)) (tCons (tVar 5) tNil))))))
  tNext)))
  (tRet (tOp (rIxL K) (tLst (tCons (tTup (tCons (tC (.str "stuck")) tNil)) (tCons (tTup (tCons (tC (.str "done")) tNil)) tNil))) (tCB rInt1 (tCons (tOp (rIxT K) (tDGet (tVar 0) (tOp (rIxT K) (tVar 2) (tC (.int 0)))) (tC (.int 3))) tNil)))))))
abbrev N_next : List Str := ["_law_table_here", "_law_rules_here", "_law_form", "_law_place", "_law_told", "_law_k", "_law_parts"]
namespace Ab
def t_next (K : PySem.W.Frag) (r : ASp) : TS := (tSeq (tIfS (tB (tCB (rIsi K) (tCons (tVar 2) (tCons (tC (.ty "int")) tNil)))) (tRet (tTup (tCons (tC (.str "waits")) (tCons (tVar 2) tNil))))
  tNext)
  (tSeq (tFor (iTup K (tOp (rIxT K) (tDGet (tVar 0) (tOp (rIxT K) (tVar 2) (tC (.int 0)))) (tC (.int 2)))) (gName 3)
  (tIfS (tNot (tB (tCall (sp_ldone K 40) [] E0 (tCons (tVar 0) (tCons (tOp (rIxT K) (tVar 2) (tOp rAddI (tVar 3) (tC (.int 1)))) tNil))))) (tSeq (tAsg (tCall r [] E0 (tCons (tVar 0) (tCons (tVar 1) (tCons (tOp (rIxT K) (tVar 2) (tOp rAddI (tVar 3) (tC (.int 1)))) tNil)))) (gName 4))
  (tSeq (tIfS (tTest (tOp rNe (tOp (rIxT K) (tVar 4) (tC (.int 0))) (tC (.str "steps")))) (tRet (tVar 4))
  tNext)
  (tRet (tTup (tCons (tC (.str "steps")) (tCons (tOp (rCatA K) (tOp (rCatA K) (tSl (rSlA K) (tVar 2) tNoPart (tPart (tOp rAddI (tVar 3) (tC (.int 1))))) (tTup (tCons (tOp (rIxT K) (tVar 4) (tC (.int 1))) tNil))) (tSl (rSlA K) (tVar 2) (tPart (tOp rAddI (tVar 3) (tC (.int 2)))) tNoPart)) (tCons (tC (.bl false)) (tCons (tOp (rIxT K) (tVar 4) (tC (.int 3))) tNil))))))))
  tNext))
  (tSeq (tFor (iRng1 (tCons (tCB (rLenSeq K) (tCons (tVar 1) tNil)) tNil)) (gName 5)
  (tSeq (tAsg (tCall (sp_match K) [] E0 (tCons (tOp (rIxT K) (tOp (rIxL K) (tVar 1) (tVar 5)) (tC (.int 0))) (tCons (tVar 2) tNil))) (gName 6))
  (tIfS (tTest (tOp rNotN_ (tVar 6) (tC .non))) (tRet (tTup (tCons (tC (.str "steps")) (tCons (tCall (sp_lfill K 40) [] E0 (tCons (tOp (rIxT K) (tOp (rIxL K) (tVar 1) (tVar 5)) (tC (.int 1))) (tCons (tVar 6) tNil))) (tCons (tC (.bl true)) (tCons (tVar 5) tNil))))))
  tNext)))
  (tRet (tOp (rIxL K) (tLst (tCons (tTup (tCons (tC (.str "stuck")) tNil)) (tCons (tTup (tCons (tC (.str "done")) tNil)) tNil))) (tCB rInt1 (tCons (tOp (rIxT K) (tDGet (tVar 0) (tOp (rIxT K) (tVar 2) (tC (.int 0)))) (tC (.int 3))) tNil)))))))
end Ab
theorem rf_next {K : PySem.W.Frag} {E : XK} {X : AX} {r : Sp} {ar : ASp} (hr : RSp K r ar) : RSt K E X (t_next K r) (Ab.t_next K ar) := by
  unfold My.t_next Ab.t_next
  walk_at "rf"
namespace Ab
theorem ab_next {K : PySem.W.Frag} {n : Nat} {as : List A} {M : AM} {P : AK} {X : AX} (h : sp_next K (n + 1) as M P X) : t_next K (sp_next K n) { nx := fun _ M' => Wk P .non M', rt := Wk P } (start N_next as) M := by
  obtain ⟨a, rl, f, rows, rules, rfl, hd, hd2, hz, ha, hrl, hR, hRu, ho, hf, k⟩ := h
  unfold t_next
  cases f with
  | hole i =>
    have hi := hf i (by simp [Fm.flat])
    simp only [advF] at k
    rw [if_neg (by omega)] at k
    simp only [Fm.a]
    walk_at "ao"
    exact wk (Sub.refl _) k
  | node s ps =>
    simp only [Fm.depth] at hd hd2
    simp only [Fm.size] at hz
    have hlz := Fm.len_sizes ps
    have hrl2 := hRu.len
    have hfp : ∀ p ∈ ps, ∀ i ∈ p.flat, i < 1000 := fun p hp i hi => hf i (by simp only [Fm.flat]; exact Fm.flats_mem.mpr ⟨p, hp, hi⟩)
    obtain ⟨row, hrow, hrm, hrn, hpl, hpo⟩ := over_head hR.nd ho
    have hne : (natsA row.worked).length = row.worked.length := by unfold natsA; rw [List.length_map]
    have e1 : ∀ w : Nat, cutA (A.str s :: Fm.as ps) none (some ((w : Int) + 1)) = A.str s :: (Fm.as ps).take w := fun w => by
      have := cut_hi (f := id) (A.str s :: Fm.as ps) (w + 1)
      simp only [List.map_id, Int.natCast_add, Int.cast_ofNat_Int] at this
      rw [this]
      rfl
    have e2 : ∀ w : Nat, cutA (A.str s :: Fm.as ps) (some ((w : Int) + 2)) none = (Fm.as ps).drop (w + 1) := fun w => by
      have := cut_lo (f := id) (A.str s :: Fm.as ps) (w + 2)
      simp only [List.map_id, Int.natCast_add, Int.cast_ofNat_Int] at this
      rw [this]
      rfl
    simp only [Fm.a]
    simp only [advF, hrow] at k
    walk_at "ao"
    refine g_ixT (v := .str s) (atI_nat (j := 0) rfl) ?_
    walk_at "ao"
    refine g_dgetS ha (v := row.a) (by rw [val_rows, hrow]; rfl) ?_
    walk_at "ao"
    refine for_ (fun i s' M' => M' = M ∧ (∃ o o4 : Option A, s' = [some (.ref a), some (.ref rl), some (.tup (.str s :: Fm.as ps)), o, o4, none, none]) ∧ ∀ w ∈ row.worked.take i, (!(donesF rows ps).getD w false) = false) ⟨rfl, ⟨none, none, rfl⟩, by simp⟩ (fun _ _ _ _ _ => trivial) ?_ ?_
    · rintro i y s' M' hy ⟨rfl, ⟨o, o4, rfl⟩, hdn⟩
      obtain ⟨w, hw, rfl⟩ := getA (f := fun (k : Nat) => A.int (k : Int)) (xs := row.worked) hy
      have hwp := hR.wk row hrm w (List.mem_of_getElem? hw)
      obtain ⟨p, hp⟩ : ∃ p, ps[w]? = some p := ⟨_, List.getElem?_eq_getElem (by omega)⟩
      have hpm := List.mem_of_getElem? hp
      have hd1 := Fm.depth_mem hpm
      have hz1 := Fm.sizes_mem hpm
      walk_at "ao"
      refine g_ixT (fm_at hp) ?_
      walk_at "ao"
      refine ⟨a, p, rows, rfl, by omega, ha, hR, hpo p hpm, hfp p hpm, ?_⟩
      walk_at "ao"
      refine g_2 (fun c2 => ?_) (fun c2 => ?_)
      · have c2 : doneF rows p = false := by simpa using c2
        rw [find_first hw (by rw [donesF_at hp, c2]; rfl) hdn] at k
        dsimp only at k
        rw [advsF_at hp] at k
        walk_at "ao"
        refine g_ixT (fm_at hp) ?_
        walk_at "ao"
        refine ⟨a, rl, p, rows, rules, rfl, by omega, by omega, by omega, ha, hrl, hR, hRu, hpo p hpm, hfp p hpm, ?_⟩
        walk_at "ao"
        cases hr : advF rows rules p with
        | done =>
          rw [hr] at k
          simp only [StR.a]
          walk_at "ao"
          refine g_2 (fun _ => ?_) (fun c => absurd c (by decide +kernel))
          walk_at "ao"
          exact wk (Sub.refl _) k
        | stuck =>
          rw [hr] at k
          simp only [StR.a]
          walk_at "ao"
          refine g_2 (fun _ => ?_) (fun c => absurd c (by decide +kernel))
          walk_at "ao"
          exact wk (Sub.refl _) k
        | waits j =>
          rw [hr] at k
          simp only [StR.a]
          walk_at "ao"
          refine g_2 (fun _ => ?_) (fun c => absurd c (by decide +kernel))
          walk_at "ao"
          exact wk (Sub.refl _) k
        | asks g =>
          rw [hr] at k
          simp only [StR.a]
          walk_at "ao"
          refine g_2 (fun _ => ?_) (fun c => absurd c (by decide +kernel))
          walk_at "ao"
          exact wk (Sub.refl _) k
        | steps g b j =>
          rw [hr] at k
          simp only [StR.a]
          walk_at "ao"
          refine g_2 (fun c => absurd c (by decide +kernel)) (fun _ => ?_)
          walk_at "ao"
          rw [e1]
          walk_at "ao"
          refine g_catA (big (by simp [Fm.as_length]; omega)) ?_
          walk_at "ao"
          rw [e2]
          walk_at "ao"
          refine g_catA (big (by simp [Fm.as_length]; omega)) ?_
          walk_at "ao"
          refine wk (Sub.refl _) ?_
          simp only [StR.a, Fm.a] at k
          have e3 : A.str s :: (Fm.as ps).take w ++ [g.a] ++ (Fm.as ps).drop (w + 1) = A.str s :: Fm.as (ps.set w g) := by
            rw [Fm.as_map, Fm.as_map, List.map_set, ← set_split (by rw [List.length_map]; omega)]
            simp
          rw [e3]
          exact k
      · walk_at "ao"
        refine ⟨rfl, ⟨_, _, rfl⟩, fun v hv => ?_⟩
        rw [List.take_add_one, hw] at hv
        rcases List.mem_append.mp hv with z | z
        · exact hdn v z
        · have : v = w := by simpa using z
          rw [this, donesF_at hp]
          simpa using c2
    · rintro s' M' ⟨rfl, ⟨o, o4, rfl⟩, hdn⟩
      rw [hne, List.take_length] at hdn
      rw [List.find?_eq_none.mpr (fun v hv => by rw [hdn v hv]; exact Bool.false_ne_true)] at k
      dsimp only at k
      have hwn : WorkedN row ps := fun w hw => by
        have hwp := hR.wk row hrm w hw
        obtain ⟨p, hp⟩ : ∃ p, ps[w]? = some p := ⟨_, List.getElem?_eq_getElem (by omega)⟩
        have h1 := hdn w hw
        rw [donesF_at hp] at h1
        obtain ⟨t, qs, e⟩ := done_node (by simpa using h1) (hfp p (List.mem_of_getElem? hp))
        exact ⟨t, qs, by rw [hp, e]⟩
      walk_at "ao"
      rw [List.length_map]
      refine ⟨by omega, by omega, ?_⟩
      have en : ((rules.length : Nat) : Int).toNat = rules.length := by omega
      rw [en]
      refine for_rng (fun i s' M2 => M2 = M' ∧ (∃ o5 o6 : Option A, s' = [some (.ref a), some (.ref rl), some (.tup (.str s :: Fm.as ps)), o, o4, o5, o6]) ∧ ∀ j, j < i → ¬ fits rules s ps j) ⟨rfl, ⟨none, none, rfl⟩, by omega⟩ ?_ ?_
      · rintro i s' M2 hi ⟨rfl, ⟨o5, o6, rfl⟩, hno⟩
        obtain ⟨y, hy⟩ : ∃ y, rules[i]? = some y := ⟨_, List.getElem?_eq_getElem hi⟩
        have hy2 := hRu.ok _ (List.mem_of_getElem? hy)
        obtain ⟨t, lp, row', e3, e4, hll, hnd, hpk⟩ := hy2.ex
        obtain ⟨l, r⟩ := y
        dsimp only at e3
        subst e3
        have hlz2 := hy2.lz
        have hrz := hy2.rz
        have hrd := hy2.rd
        dsimp only at hlz2 hrz hrd
        simp only [Fm.size] at hlz2
        have ay : L2.atI (rules.map ruleA) (0 + (i : Int)) = some (ruleA (.node t lp, r)) := by
          rw [Int.zero_add]
          exact atI_nat (by rw [List.getElem?_map, hy]; rfl)
        walk_at "ao"
        refine g_ixL hrl ay ?_
        walk_at "ao"
        refine ⟨t, s, lp, ps, rfl, by omega, fun e => ?_, fun e hm b hb => ?_, fun hm => ?_⟩
        · subst e
          rw [hrow] at e4
          cases e4
          exact ⟨by omega, fit_of hpk hwn hR.nd hpo⟩
        · subst e
          rw [hrow] at e4
          cases e4
          walk_at "ao"
          refine ⟨rfl, .inr ⟨by simp, ?_⟩⟩
          walk_at "ao"
          refine g_ixL (lk_new hb hrl) ay ?_
          walk_at "ao"
          refine ⟨b, r, boundF lp ps, rfl, by omega, aupd_same, by omega, ?_⟩
          walk_at "ao"
          refine wk (Sub.new hb (Sub.refl _)) ?_
          rw [hnd, if_neg Bool.false_ne_true, fire_steps hRu hrow hwn hy hm hno] at k
          simp only [StR.a] at k
          rw [Int.zero_add]
          exact k
        · walk_at "ao"
          refine ⟨rfl, .inl ⟨rfl, ?_⟩⟩
          walk_at "ao"
          refine ⟨rfl, ⟨_, _, rfl⟩, fun j hj => ?_⟩
          by_cases z : j < i
          · exact hno j z
          · have : j = i := by omega
            subst this
            rintro ⟨lp2, r2, e5, e6⟩
            rw [hy] at e5
            cases e5
            exact hm ⟨rfl, e6⟩
      · rintro s' M2 ⟨rfl, ⟨o5, o6, rfl⟩, hno⟩
        have hnone : ∀ j, ¬ fits rules s ps j := fun j h => by
          obtain ⟨lp, r, e, _⟩ := id h
          exact hno j (List.getElem?_eq_some_iff.mp e).1 h
        rw [fire_stuck hRu hrow hwn hnone] at k
        walk_at "ao"
        intro q hq
        walk_at "ao"
        refine g_ixT (v := .str s) (atI_nat (j := 0) rfl) ?_
        walk_at "ao"
        refine g_dgetS (lk_new hq ha) (v := row.a) (by rw [val_rows, hrow]; rfl) ?_
        walk_at "ao"
        cases hdn2 : row.done with
        | true =>
          rw [hdn2, if_pos rfl] at k
          walk_at "ao"
          refine g_ixL aupd_same (v := .tup [.str "done"]) (atI_nat (j := 1) rfl) ?_
          exact wk (Sub.new hq (Sub.refl _)) k
        | false =>
          rw [hdn2, if_neg Bool.false_ne_true] at k
          walk_at "ao"
          refine g_ixL aupd_same (v := .tup [.str "stuck"]) (atI_nat (j := 0) rfl) ?_
          exact wk (Sub.new hq (Sub.refl _)) k
end Ab
theorem rd_next {K : PySem.W.Frag} {n : Nat} {vs : List V} {H : Hp} {Q : VK} {E : XK} (h : sp_next K (n + 1) vs H Q E) : t_next K (sp_next K n) { nx := fun _ H' => Q .non H', rt := Q } (L2.start N_next vs) H := rd_of (fun _ => rf_next RSp.lift) (fun _ _ _ _ => Ab.ab_next) h

theorem ruleW_of {nms : List Str} {rows : List Row} (h : SgOk nms rows) {y : Fm × Fm} (g : RuleG rows y) : RuleW rows y := by
  obtain ⟨row, look, hr, hd, hlk, hl⟩ := g.left
  have small := flat_small hl (h.ok row hr).pl (fun x hx => (h.ok x.2 (List.mem_filter.mp (hlk.at_ x hx).2).1).pl)
  obtain ⟨ps, e, hpl, hpk⟩ := hl.ex
  have h2 := g.size
  have h3 := g.depth
  have : gB 2 = 21 := rfl
  refine ⟨⟨row.name, ps, row, e, findR_of h.nd hr, hpl, hd, fun k p hp t hs ep => ?_⟩, by omega, by omega, by omega⟩
  subst ep
  rcases hpk k _ hp with ⟨_, n, z, _⟩ | ⟨r, is, hr2, z, h4, _⟩
  · cases z
  · injection z with z1 z2
    obtain ⟨h5, h6⟩ := hlk.at_ _ hr2
    refine ⟨h5, ?_, r, ?_, ?_⟩
    · rw [z2]
      exact List.all_eq_true.mpr fun q hq => by obtain ⟨n, _, rfl⟩ := List.mem_map.mp hq; rfl
    · rw [z1]
      exact findR_of h.nd (List.mem_filter.mp h6).1
    · rw [z2, List.length_map]
      exact h4.symm
theorem rulesW_of {nms : List Str} {rows : List Row} {rules : List (Fm × Fm)} (h : SgOk nms rows) (g : RulesOk rows rules) : RulesW rows rules := ⟨fun y hy => ruleW_of h (g.ok y hy), by have := g.most; omega⟩

theorem sbGet_put {b : Sb} {n m : Int} {f : Fm} : sbGet (sbPut b n f) m = if m = n then some f else sbGet b m := by
  have app : ∀ b : Sb, sbGet (b ++ [(n, f)]) m = ((sbGet b m).or (if m = n then some f else none)) := by
    intro b
    unfold sbGet
    rw [List.find?_append, List.find?_cons]
    by_cases e : m = n
    · subst e
      cases List.find? (fun x => decide (x.fst = m)) b <;> simp
    · have : ¬ n = m := fun z => e z.symm
      cases List.find? (fun x => decide (x.fst = m)) b <;> simp [e, this]
  unfold sbPut
  by_cases c : (b.any fun x => decide (x.1 = n)) = true
  · rw [if_pos c]
    clear app
    have key : ∀ b : Sb, sbGet (b.map (fun x => if x.1 = n then (x.1, f) else x)) m = if m = n then (sbGet b m).map (fun _ => f) else sbGet b m := by
      intro b
      induction b with
      | nil => simp [sbGet]
      | cons x b ih =>
        unfold sbGet at ih ⊢
        rw [List.map_cons, List.find?_cons, List.find?_cons]
        by_cases e : x.1 = n
        · rw [if_pos e]
          by_cases e2 : x.1 = m
          · have : m = n := by rw [← e2, e]
            simp [e2, this]
          · simp only [e2, decide_false]
            exact ih
        · rw [if_neg e]
          by_cases e2 : x.1 = m
          · have : ¬ m = n := fun z => e (by rw [e2, z])
            simp [e2, this]
          · simp only [e2, decide_false]
            exact ih
    rw [key b]
    by_cases e : m = n
    · subst e
      rw [if_pos rfl, if_pos rfl]
      cases q : sbGet b m with
      | some v => rfl
      | none =>
        exfalso
        unfold sbGet at q
        rw [Option.map_eq_none_iff, List.find?_eq_none] at q
        obtain ⟨x, hx, e⟩ := List.any_eq_true.mp c
        exact q x hx e
    · rw [if_neg e, if_neg e]
  · rw [if_neg c, app b]
    by_cases e : m = n
    · subst e
      rw [if_pos rfl, if_pos rfl]
      have : sbGet b m = none := by
        unfold sbGet
        rw [Option.map_eq_none_iff, List.find?_eq_none]
        intro x hx z
        exact c (List.any_eq_true.mpr ⟨x, hx, z⟩)
      rw [this]
      rfl
    · rw [if_neg e, if_neg e]
      cases sbGet b m <;> rfl
theorem foldIn_get : ∀ {xs : List (Fm × Fm)} {b : Sb} {n : Int} {v : Fm}, sbGet (xs.foldl bindIn b) n = some v → sbGet b n = some v ∨ ∃ x ∈ xs, x.2 = v
  | [], b, n, v, h => .inl h
  | x :: xs, b, n, v, h => by
    rcases foldIn_get (xs := xs) h with h | ⟨y, hy, e⟩
    · unfold bindIn at h
      split at h
      · rw [sbGet_put] at h
        split at h
        · cases h
          exact .inr ⟨x, List.mem_cons_self, rfl⟩
        · exact .inl h
      · exact .inl h
    · exact .inr ⟨y, List.mem_cons_of_mem _ hy, e⟩
theorem foldP_get : ∀ {xs : List (Fm × Fm)} {b : Sb} {n : Int} {v : Fm}, sbGet (xs.foldl bindP b) n = some v → sbGet b n = some v ∨ ∃ x ∈ xs, x.2 = v ∨ ∃ t qs, x.2 = .node t qs ∧ v ∈ qs
  | [], b, n, v, h => .inl h
  | x :: xs, b, n, v, h => by
    rcases foldP_get (xs := xs) h with h | ⟨y, hy, e⟩
    · obtain ⟨l, p⟩ := x
      cases l with
      | hole m =>
        simp only [bindP] at h
        rw [sbGet_put] at h
        split at h
        · cases h
          exact .inr ⟨_, List.mem_cons_self, .inl rfl⟩
        · exact .inl h
      | node s hs =>
        cases p with
        | hole m => exact .inl h
        | node t qs =>
          simp only [bindP] at h
          rcases foldIn_get h with h | ⟨y, hy, e⟩
          · exact .inl h
          · exact .inr ⟨_, List.mem_cons_self, .inr ⟨t, qs, rfl, by rw [← e]; exact (List.of_mem_zip hy).2⟩⟩
    · exact .inr ⟨y, List.mem_cons_of_mem _ hy, e⟩
theorem bound_val {lp fp : List Fm} {n : Int} {v : Fm} (h : sbGet (boundF lp fp) n = some v) : ∃ p ∈ fp, p = v ∨ ∃ t qs, p = .node t qs ∧ v ∈ qs := by
  rcases foldP_get h with h | ⟨x, hx, e⟩
  · cases h
  · exact ⟨x.2, (List.of_mem_zip hx).2, e⟩
theorem foldIn_some : ∀ {xs : List (Fm × Fm)} {b : Sb} {n : Int}, ((sbGet b n).isSome = true ∨ ∃ x ∈ xs, x.1 = .hole n) → (sbGet (xs.foldl bindIn b) n).isSome = true
  | [], b, n, h => by
    rcases h with h | ⟨x, hx, _⟩
    · exact h
    · cases hx
  | x :: xs, b, n, h => by
    refine foldIn_some (xs := xs) ?_
    rcases h with h | ⟨y, hy, e⟩
    · left
      unfold bindIn
      split
      · rw [sbGet_put]; split
        · rfl
        · exact h
      · exact h
    · rcases List.mem_cons.mp hy with z | z
      · left
        subst z
        obtain ⟨l, p⟩ := y
        dsimp only at e
        subst e
        simp only [bindIn]
        rw [sbGet_put, if_pos rfl]
        rfl
      · exact .inr ⟨y, z, e⟩
theorem foldP_some : ∀ {xs : List (Fm × Fm)} {b : Sb} {n : Int}, ((sbGet b n).isSome = true ∨ ∃ x ∈ xs, x.1 = .hole n ∨ ∃ s hs t qs, x.1 = .node s hs ∧ x.2 = .node t qs ∧ hs.length = qs.length ∧ Fm.hole n ∈ hs) → (sbGet (xs.foldl bindP b) n).isSome = true
  | [], b, n, h => by
    rcases h with h | ⟨x, hx, _⟩
    · exact h
    · cases hx
  | x :: xs, b, n, h => by
    refine foldP_some (xs := xs) ?_
    rcases h with h | ⟨y, hy, e⟩
    · left
      obtain ⟨l, p⟩ := x
      cases l with
      | hole m =>
        simp only [bindP]
        rw [sbGet_put]; split
        · rfl
        · exact h
      | node s hs =>
        cases p with
        | hole m => exact h
        | node t qs =>
          simp only [bindP]
          exact foldIn_some (.inl h)
    · rcases List.mem_cons.mp hy with z | z
      · left
        subst z
        obtain ⟨l, p⟩ := y
        rcases e with e | ⟨s, hs, t, qs, e1, e2, hl, hm⟩
        · dsimp only at e
          subst e
          simp only [bindP]
          rw [sbGet_put, if_pos rfl]
          rfl
        · dsimp only at e1 e2
          subst e1 e2
          simp only [bindP]
          refine foldIn_some (.inr ?_)
          obtain ⟨i, hi⟩ := List.getElem?_of_mem hm
          have hil := (List.getElem?_eq_some_iff.mp hi).1
          refine ⟨(.hole n, qs[i]'(by omega)), ?_, rfl⟩
          refine List.mem_of_getElem? (i := i) ?_
          rw [List.getElem?_zip_eq_some]
          exact ⟨hi, List.getElem?_eq_getElem (by omega)⟩
      · exact .inr ⟨y, z, e⟩
mutual
theorem Fm.fill_flat {m : Int → Option Fm} {is : List Int} : ∀ {f : Fm}, (∀ n ∈ f.flat, ∃ v, m n = some v ∧ ∀ i ∈ v.flat, i ∈ is) → ∀ i ∈ (f.fill m).flat, i ∈ is
  | .hole n, h, i, hi => by
    obtain ⟨v, e, hv⟩ := h n (by simp [Fm.flat])
    simp only [Fm.fill, e, Option.getD_some] at hi
    exact hv i hi
  | .node s ps, h, i, hi => by
    simp only [Fm.fill, Fm.flat] at hi
    simp only [Fm.flat] at h
    exact Fm.fills_flat h i hi
theorem Fm.fills_flat {m : Int → Option Fm} {is : List Int} : ∀ {ps : List Fm}, (∀ n ∈ Fm.flats ps, ∃ v, m n = some v ∧ ∀ i ∈ v.flat, i ∈ is) → ∀ i ∈ Fm.flats (Fm.fills m ps), i ∈ is
  | [], _, i, hi => by simp [Fm.fills, Fm.flats] at hi
  | p :: ps, h, i, hi => by
    simp only [Fm.fills, Fm.flats, List.mem_append] at hi
    simp only [Fm.flats, List.mem_append] at h
    rcases hi with hi | hi
    · exact Fm.fill_flat (fun n hn => h n (.inl hn)) i hi
    · exact Fm.fills_flat (fun n hn => h n (.inr hn)) i hi
end
mutual
theorem Fm.fill_over {m : Int → Option Fm} {rows : List Row} (hm : ∀ n v, m n = some v → v.over rows) : ∀ {f : Fm}, f.over rows → (f.fill m).over rows
  | .hole n, h => by
    simp only [Fm.fill]
    cases e : m n with
    | none => simp [Fm.over]
    | some v => exact hm n v e
  | .node s ps, h => by
    simp only [Fm.over] at h
    simp only [Fm.fill, Fm.over]
    obtain ⟨⟨r, hr, e, hl⟩, ho⟩ := h
    exact ⟨⟨r, hr, e, by rw [Fm.fills_len]; exact hl⟩, Fm.overs_iff.mpr (Fm.fills_over hm (Fm.overs_iff.mp ho))⟩
theorem Fm.fills_over {m : Int → Option Fm} {rows : List Row} (hm : ∀ n v, m n = some v → v.over rows) : ∀ {ps : List Fm}, (∀ p ∈ ps, p.over rows) → ∀ p ∈ Fm.fills m ps, p.over rows
  | [], _, p, hp => by simp [Fm.fills] at hp
  | q :: ps, h, p, hp => by
    simp only [Fm.fills, List.mem_cons] at hp
    rcases hp with rfl | hp
    · exact Fm.fill_over hm (h q List.mem_cons_self)
    · exact Fm.fills_over hm (fun p hp => h p (List.mem_cons_of_mem _ hp)) p hp
end
structure RuleV (rows : List Row) (R D : Nat) (y : Fm × Fm) : Prop where
  over : y.2.over rows
  sub : ∀ i ∈ y.2.flat, i ∈ y.1.flat
  size : y.2.size ≤ R
  depth : y.2.depth ≤ D
theorem Fm.depth_part {t : Str} {qs : List Fm} {v : Fm} (h : v ∈ qs) : v.depth ≤ (Fm.node t qs).depth := by
  have := Fm.depth_mem h
  simp only [Fm.depth]
  omega
theorem Fm.size_part {t : Str} {qs : List Fm} {v : Fm} (h : v ∈ qs) : v.size ≤ (Fm.node t qs).size := by
  have := Fm.sizes_mem h
  simp only [Fm.size]
  omega
section
variable {rows : List Row} {rules : List (Fm × Fm)} {R D : Nat} {s : Str} {ps : List Fm} {row : Row}
theorem fireGo_steps {worked : List Nat} {g : Fm} {w : Bool} {k : Nat} : ∀ {ks : List Nat} {a : Nat}, fireGo rules ps worked ks a = .steps g w k → ∃ t lp r, rules[k]? = some (.node t lp, r) ∧ k ∈ ks ∧ openF lp ps worked = some worked.length ∧ g = r.fill (sbGet (boundF lp ps)) ∧ w = true
  | [], a, h => by
    simp only [fireGo] at h
    split at h
    · split at h <;> cases h
    · cases h
  | j :: ks, a, h => by
    simp only [fireGo] at h
    split at h
    · rename_i t lp r e
      split at h
      · rename_i n e2
        split at h
        · rename_i e3
          subst e3
          cases h
          exact ⟨_, _, _, e, List.mem_cons_self, e2, rfl, rfl⟩
        · obtain ⟨t, lp, r, h1, h2, h3⟩ := fireGo_steps h
          exact ⟨t, lp, r, h1, List.mem_cons_of_mem _ h2, h3⟩
      · obtain ⟨t, lp, r, h1, h2, h3⟩ := fireGo_steps h
        exact ⟨t, lp, r, h1, List.mem_cons_of_mem _ h2, h3⟩
    · obtain ⟨t, lp, r, h1, h2, h3⟩ := fireGo_steps h
      exact ⟨t, lp, r, h1, List.mem_cons_of_mem _ h2, h3⟩
theorem bound_some (hRu : RuleW rows (.node s lp, r)) (nd : (rows.map Row.name).Nodup) (hrow : findR rows s = some row) (hpl : row.places = ps.length) (hpo : ∀ p ∈ ps, p.over rows) (hop : openF lp ps row.worked = some row.worked.length) {n : Int} (hn : n ∈ Fm.flats lp) : ∃ v, sbGet (boundF lp ps) n = some v := by
  refine Option.isSome_iff_exists.mp (foldP_some (.inr ?_))
  obtain ⟨s', lp', row', e1, e2, hll, hnd, hpk⟩ := hRu.ex
  dsimp only at e1
  injection e1 with e3 e4
  subst e3 e4
  rw [hrow] at e2
  cases e2
  obtain ⟨l, hl, hnl⟩ := Fm.flats_mem.mp hn
  obtain ⟨i, hi⟩ := List.getElem?_of_mem hl
  have hil := (List.getElem?_eq_some_iff.mp hi).1
  obtain ⟨p, hp⟩ : ∃ p, ps[i]? = some p := ⟨_, List.getElem?_eq_getElem (by omega)⟩
  have hz : (lp.zip ps)[i]? = some (l, p) := by rw [List.getElem?_zip_eq_some]; exact ⟨hi, hp⟩
  have hmem := List.mem_of_getElem? hz
  refine ⟨(l, p), hmem, ?_⟩
  cases l with
  | hole m =>
    simp only [Fm.flat, List.mem_singleton] at hnl
    subst hnl
    exact .inl rfl
  | node a hs =>
    right
    obtain ⟨g1, g2, r2, g3, g4⟩ := hpk i _ hi a hs rfl
    obtain ⟨_, t, qs, e⟩ := open_meet hpk hop _ hmem a hs rfl
    dsimp only at e
    subst e
    have met := (openF_some hop).1
    have hmis : misF lp ps i = false := by simpa using List.any_eq_false.mp met i g1
    have et : a = t := by
      unfold misF at hmis
      rw [hi, hp] at hmis
      exact (by simpa using hmis : t = a).symm
    subst et
    obtain ⟨r3, h1, _, _, h2, _⟩ := over_head nd (hpo _ (List.mem_of_getElem? hp))
    rw [g3] at h1
    cases h1
    refine ⟨a, hs, a, qs, rfl, rfl, by omega, ?_⟩
    simp only [Fm.flat] at hnl
    obtain ⟨q, hq, hnq⟩ := Fm.flats_mem.mp hnl
    have := List.all_eq_true.mp g2 q hq
    cases q with
    | node _ _ => cases this
    | hole m =>
      simp only [Fm.flat, List.mem_singleton] at hnq
      subst hnq
      exact hq
structure StepOk (rows : List Row) (R D : Nat) (f g : Fm) : Prop where
  over : g.over rows
  flat : ∀ i ∈ g.flat, i ∈ f.flat
  size : g.size ≤ f.size + R * f.size
  depth : g.depth ≤ f.depth + D
theorem fire_ok (hR : RowsW rows) (hRu : RulesW rows rules) (hRv : ∀ y ∈ rules, RuleV rows R D y) (hrow : findR rows s = some row) (hpl : row.places = ps.length) (hpo : ∀ p ∈ ps, p.over rows) {g : Fm} {w : Bool} {k : Nat} (h : fireF rules s ps row.worked = .steps g w k) : StepOk rows R D (.node s ps) g := by
  obtain ⟨t, lp, r, h1, h2, h3, rfl, _⟩ := fireGo_steps h
  have ht : t = s := by
    have := (List.mem_filter.mp h2).2
    unfold headIs at this
    rw [h1] at this
    simpa using this
  subst ht
  have hy := List.mem_of_getElem? h1
  have hv := hRv _ hy
  have hb := fun n hn => bound_some (n := n) (hRu.ok _ hy) hR.nd hrow hpl hpo h3 hn
  have val : ∀ n v, sbGet (boundF lp ps) n = some v → v.over rows ∧ (∀ i ∈ v.flat, i ∈ (Fm.node t ps).flat) ∧ v.size ≤ (Fm.node t ps).size ∧ v.depth ≤ Fm.depths ps := by
    intro n v e
    obtain ⟨p, hp, e⟩ := bound_val e
    have ho := hpo p hp
    have hs := Fm.size_part (t := t) hp
    have hd := Fm.depth_mem hp
    rcases e with rfl | ⟨a, qs, rfl, hq⟩
    · exact ⟨ho, fun i hi => by simp only [Fm.flat]; exact Fm.flats_mem.mpr ⟨_, hp, hi⟩, hs, hd⟩
    · obtain ⟨_, _, _, _, _, hq2⟩ := over_head hR.nd ho
      have hs2 := Fm.size_part (t := a) hq
      have hd2 := Fm.depth_part (t := a) hq
      exact ⟨hq2 v hq, fun i hi => by
        simp only [Fm.flat]
        exact Fm.flats_mem.mpr ⟨_, hp, by simp only [Fm.flat]; exact Fm.flats_mem.mpr ⟨_, hq, hi⟩⟩, by omega, by omega⟩
  have hv1 := hv.size
  have hv2 := hv.depth
  dsimp only at hv1 hv2
  refine ⟨Fm.fill_over (fun n v e => (val n v e).1) hv.over, Fm.fill_flat fun n hn => ?_, ?_, ?_⟩
  · have := hv.sub n hn
    simp only [Fm.flat] at this
    obtain ⟨v, e⟩ := hb n this
    exact ⟨v, e, (val n v e).2.1⟩
  · have z := Fm.fill_size (m := sbGet (boundF lp ps)) (B := (Fm.node t ps).size) (by have := (Fm.node t ps).size_pos; omega) (fun n v e => (val n v e).2.2.1) r
    have : r.size * (Fm.node t ps).size ≤ R * (Fm.node t ps).size := Nat.mul_le_mul_right _ hv1
    omega
  · cases ps with
    | nil =>
      have z := Fm.fill_depth (m := sbGet (boundF lp [])) (B := 1) (Nat.le_refl _) (fun n v e => by have := (val n v e).2.2.2; simp [Fm.depths] at this; omega) r
      simp only [Fm.depth, Fm.depths]
      omega
    | cons p ps =>
      have hp := p.depth_pos
      have z := Fm.fill_depth (m := sbGet (boundF lp (p :: ps))) (B := Fm.depths (p :: ps)) (by simp only [Fm.depths]; omega) (fun n v e => (val n v e).2.2.2) r
      simp only [Fm.depth]
      omega
theorem Fm.flats_set {ps : List Fm} {w : Nat} {g : Fm} {i : Int} (h : i ∈ Fm.flats (ps.set w g)) : i ∈ Fm.flats ps ∨ i ∈ g.flat := by
  obtain ⟨q, hq, hi⟩ := Fm.flats_mem.mp h
  rcases List.mem_or_eq_of_mem_set hq with z | z
  · exact .inl (Fm.flats_mem.mpr ⟨q, z, hi⟩)
  · rw [z] at hi
    exact .inr hi
theorem Fm.sizes_set : ∀ {ps : List Fm} {w : Nat} {p g : Fm}, ps[w]? = some p → Fm.sizes (ps.set w g) + p.size = Fm.sizes ps + g.size
  | [], w, p, g, h => by simp at h
  | q :: ps, 0, p, g, h => by
    simp at h
    subst h
    simp only [List.set_cons_zero, Fm.sizes]
    omega
  | q :: ps, w + 1, p, g, h => by
    have := Fm.sizes_set (g := g) (ps := ps) (w := w) (p := p) (by simpa using h)
    simp only [List.set_cons_succ, Fm.sizes]
    omega
theorem adv_ok (hR : RowsW rows) (hRu : RulesW rows rules) (hRv : ∀ y ∈ rules, RuleV rows R D y) : ∀ {f g : Fm} {w : Bool} {k : Nat}, f.over rows → advF rows rules f = .steps g w k → StepOk rows R D f g := by
  have key : ∀ n : Nat, ∀ {f g : Fm} {w : Bool} {k : Nat}, f.size ≤ n → f.over rows → advF rows rules f = .steps g w k → StepOk rows R D f g := by
    intro n
    induction n with
    | zero => intro f g w k h; have := f.size_pos; omega
    | succ n ih =>
      intro f g w k hn ho h
      cases f with
      | hole i =>
        simp only [advF] at h
        split at h <;> cases h
      | node s ps =>
        obtain ⟨row, hrow, hrm, hrn, hpl, hpo⟩ := over_head hR.nd ho
        simp only [advF, hrow] at h
        split at h
        · rename_i v e
          have hv := List.mem_of_find?_eq_some e
          have hvp := hR.wk row hrm v hv
          obtain ⟨p, hp⟩ : ∃ p, ps[v]? = some p := ⟨_, List.getElem?_eq_getElem (by omega)⟩
          have hpm := List.mem_of_getElem? hp
          rw [advsF_at hp] at h
          have hsz := Fm.sizes_mem hpm
          have hdp := Fm.depth_mem hpm
          simp only [Fm.size] at hn
          cases q : advF rows rules p with
          | steps g2 w2 k2 =>
            rw [q] at h
            cases h
            have st := ih (by omega) (hpo p hpm) q
            have h1 := Fm.sizes_set (g := g2) hp
            have h2 := st.size
            have h3 := st.depth
            have h4 : Fm.depths (ps.set v g2) ≤ max (Fm.depths ps) g2.depth := Fm.depths_le fun q hq => by
              rcases List.mem_or_eq_of_mem_set hq with z | z
              · have := Fm.depth_mem z; omega
              · rw [z]; omega
            have h5 : R * p.size ≤ R * (1 + Fm.sizes ps) := Nat.mul_le_mul_left _ (by omega)
            refine ⟨?_, fun i hi => ?_, ?_, ?_⟩
            · simp only [Fm.over]
              refine ⟨⟨row, hrm, hrn, by rw [List.length_set]; exact hpl⟩, Fm.overs_iff.mpr fun q hq => ?_⟩
              rcases List.mem_or_eq_of_mem_set hq with z | z
              · exact hpo q z
              · rw [z]; exact st.over
            · simp only [Fm.flat] at hi ⊢
              rcases Fm.flats_set hi with z | z
              · exact z
              · exact Fm.flats_mem.mpr ⟨p, hpm, st.flat i z⟩
            · simp only [Fm.size]
              omega
            · simp only [Fm.depth]
              omega
          | done => rw [q] at h; cases h
          | stuck => rw [q] at h; cases h
          | waits i => rw [q] at h; cases h
          | asks i => rw [q] at h; cases h
        · split at h
          · cases h
          · exact fire_ok hR hRu hRv hrow hpl hpo h
  exact fun {f g w k} ho h => key f.size (Nat.le_refl _) ho h
end

section
variable {rows : List Row} {rules : List (Fm × Fm)}
end

namespace Ab
theorem g_table {K : PySem.W.Frag} {M : AM} {P : AK} {X : AX} {sg : Addr} {rows : List Row} (h : M sg = some (.lst (rowsA rows))) (nd : (rows.map Row.name).Nodup) (hl : rows.length ≤ 1000) (k : newO (.dK (rowKvs rows)) M P) : sp_table K ([.ref sg] ++ []) M P X := ⟨sg, rows, rfl, h, nd, hl, k⟩
end Ab
theorem ruleV_of {rows : List Row} {y : Fm × Fm} (g : RuleG rows y) : RuleV rows 21 3 y := ⟨g.over, g.sub, g.size, g.depth⟩
theorem none_sub {x : Addr} {M : AM} : Sub (adel (fun _ => none) x) M := fun a o e => by
  unfold adel at e
  split at e <;> cases e
def LangS (K : PySem.W.Frag) (M : AM) (x : Addr) (rows : List Row) (rules : List (Fm × Fm)) (S : List Addr) : Prop := ∃ a1 a2 a3 a4 qs, S = x :: a1 :: a2 :: a3 :: a4 :: qs ∧
  LI K (fun _ => none) M x a1 a2 a3 a4 qs (rowsA rows) (rules.map ruleA) (rowKvs rows) ((rows.map fun r => Sum.inr r.name).zip (qs.map A.ref)) (rows.map fun r => rulesOf rules rules.length r.name)
section
variable {K : PySem.W.Frag} {M0 M M' : AM} {x p : Addr} {rows : List Row} {rules : List (Fm × Fm)} {S : List Addr} {o : AO}
theorem LangS.obj (h : LangS K M x rows rules S) : LangObj K (fun _ => none) M x rows rules := by
  obtain ⟨a1, a2, a3, a4, qs, _, h⟩ := h
  exact ⟨a1, a2, a3, a4, qs, h⟩
theorem LangS.of (h : LangObj K M0 M x rows rules) : ∃ S, LangS K M x rows rules S ∧ ∀ a ∈ S, a ≠ x → M0 a = none := by
  obtain ⟨a1, a2, a3, a4, qs, h⟩ := h
  refine ⟨_, ⟨a1, a2, a3, a4, qs, rfl, ⟨none_sub, h.nd, fun _ _ => rfl, h.ox, h.o1, h.o2, h.o3, h.o4, h.lq, h.oq⟩⟩, fun a ha n => ?_⟩
  rcases List.mem_cons.mp ha with z | z
  · exact absurd z n
  · exact h.fr a z
theorem LangS.up (s : Sub M M') (h : LangS K M x rows rules S) : LangS K M' x rows rules S := by
  obtain ⟨a1, a2, a3, a4, qs, e, h⟩ := h
  exact ⟨a1, a2, a3, a4, qs, e, ⟨none_sub, h.nd, h.fr, s.at h.ox, s.at h.o1, s.at h.o2, s.at h.o3, s.at h.o4, h.lq, fun i q l h1 h2 => s.at (h.oq i q l h1 h2)⟩⟩
theorem LangS.set (n : p ∉ S) (h : LangS K M x rows rules S) : LangS K (aupd M p o) x rows rules S := by
  obtain ⟨a1, a2, a3, a4, qs, rfl, h⟩ := h
  simp only [List.mem_cons, not_or] at n
  obtain ⟨n0, n1, n2, n3, n4, n5⟩ := n
  refine ⟨a1, a2, a3, a4, qs, rfl, ⟨none_sub, h.nd, h.fr, ?_, ?_, ?_, ?_, ?_, h.lq, fun i q l h1 h2 => ?_⟩⟩
  · rw [aupd_ne (Ne.symm n0)]; exact h.ox
  · rw [aupd_ne (Ne.symm n1)]; exact h.o1
  · rw [aupd_ne (Ne.symm n2)]; exact h.o2
  · rw [aupd_ne (Ne.symm n3)]; exact h.o3
  · rw [aupd_ne (Ne.symm n4)]; exact h.o4
  · rw [aupd_ne (fun z => n5 (by rw [← z]; exact List.mem_of_getElem? h1))]
    exact h.oq i q l h1 h2
theorem LangS.alive (h : LangS K M x rows rules S) {a : Addr} (ha : a ∈ S) : M a ≠ none := by
  obtain ⟨a1, a2, a3, a4, qs, rfl, h⟩ := h
  simp only [List.mem_cons] at ha
  rcases ha with rfl | rfl | rfl | rfl | rfl | ha
  · rw [h.ox]; exact fun z => nomatch z
  · rw [h.o1]; exact fun z => nomatch z
  · rw [h.o2]; exact fun z => nomatch z
  · rw [h.o3]; exact fun z => nomatch z
  · rw [h.o4]; exact fun z => nomatch z
  · obtain ⟨i, hi⟩ := List.getElem?_of_mem ha
    have hl := h.lq
    have hil := (List.getElem?_eq_some_iff.mp hi).1
    rw [h.oq i a _ hi (List.getElem?_eq_getElem (by omega))]
    exact fun z => nomatch z
theorem LangS.new (h : LangS K M x rows rules S) (n : M p = none) : p ∉ S := fun z => h.alive z n
end
theorem Ab.g_langS {K : PySem.W.Frag} {M : AM} {P : Addr → AM → Prop} {nms : List Str} {rows : List Row} {rules : List (Fm × Fm)} {p q : Addr} (hK : LK K) (hp : M p = some (.lst (rowsA rows))) (hq : M q = some (.lst (rules.map ruleA))) (ok : SgOk nms rows) (ru : RulesOk rows rules)
    (k : ∀ (x : Addr) (M' : AM) (S : List Addr), Sub M M' → LangS K M' x rows rules S → (∀ a o, M a = some o → a ∉ S) → P x M') :
    ∀ x, M x = none → Ab.sp_init K (.ref x :: ([.ref p, .ref q] ++ [])) (aupd M x (.ins (He.ga K "Language") [])) (fun v M2 => v = .non ∧ P x M2) Ab.E0 := by
  refine Ab.g_lang hK hp hq ok ru fun x M' hx hs hO => ?_
  obtain ⟨S, hS, hf⟩ := LangS.of hO
  refine k x M' S hs hS fun a o e ha => ?_
  have : a ≠ x := fun z => by rw [z, hx] at e; cases e
  rw [hf a ha this] at e
  cases e
theorem LangS.ox {K : PySem.W.Frag} {M : AM} {x : Addr} {rows : List Row} {rules : List (Fm × Fm)} {S : List Addr} (h : LangS K M x rows rules S) : ∃ a1 a2 a3 a4, M x = some (.ins (He.ga K "Language") (langF a1 a2 a3 a4)) := by
  obtain ⟨a1, a2, a3, a4, qs, _, h⟩ := h
  exact ⟨a1, a2, a3, a4, h.ox⟩

local macro_rules | `(tactic| walk_at "x1") => `(tactic| first
  | walk_at "a1"
  | ((with_reducible refine' My.Ab.g_ixT ?ga ?gb); (case ga => first | exact L2.atI_nat (j := 0) rfl | exact L2.atI_nat (j := 1) rfl | exact L2.atI_nat (j := 2) rfl | exact L2.atI_nat (j := 3) rfl | assumption | exact My.fm_at (by assumption) | exact My.fm_at1 (by assumption) | exact My.nats_at (by assumption)))
  | ((with_reducible refine' My.Ab.g_ixL ?ga ?gb ?gc); (case ga => walk_at "mm"); (case gb => first | exact L2.atI_nat (j := 0) rfl | exact L2.atI_nat (j := 1) rfl | exact L2.atI_nat (j := 2) rfl | exact L2.atI_nat (j := 3) rfl | assumption | exact My.fm_at (by assumption) | exact My.fm_at1 (by assumption) | exact My.nats_at (by assumption)))
  | ((with_reducible refine' My.Ab.g_fld ?ga ?gb ?gc ?gd ?ge); (case ga => walk_at "mm"); (case gb => first | assumption | exact My.LK.cls (by assumption)); (case gc => first | assumption | exact My.LK.n1 (by assumption) | exact My.LK.n2 (by assumption) | exact My.LK.n3 (by assumption) | exact My.LK.n4 (by assumption)); (case gd => first | rfl | assumption))
  | ((with_reducible refine' My.Ab.g_methI ?ga ?gb ?gc); (case ga => walk_at "mm"); (case gb => first | rfl | assumption))
  | ((with_reducible refine' My.Ab.g_dgetS ?ga ?gb ?gc); (case ga => walk_at "mm"); (case gb => first | assumption | rfl))
  | ((with_reducible refine' My.Ab.g_dgetI ?ga ?gb ?gc); (case ga => walk_at "mm"); (case gb => first | assumption | rfl))
  | ((with_reducible refine' My.Ab.g_dinS ?ga ?gb); (case ga => walk_at "mm"))
  | ((with_reducible refine' My.Ab.g_dinI ?ga ?gb); (case ga => walk_at "mm"))
  | ((with_reducible refine' My.Ab.g_append ?ga ?gb ?gc); (case ga => walk_at "mm"); (case gb => first | assumption | (refine My.bigl ?_; omega) | (refine My.bigl ?_; simp; done) | (refine My.bigl ?_; simp; omega) | (refine My.big ?_; omega) | (refine My.big ?_; simp; done) | (refine My.big ?_; simp; omega)))
  | ((with_reducible refine' My.Ab.g_cat ?ga ?gb ?gc ?gd); (case ga => walk_at "mm"); (case gb => walk_at "mm"); (case gc => first | assumption | (refine My.bigl ?_; omega) | (refine My.bigl ?_; simp; done) | (refine My.bigl ?_; simp; omega) | (refine My.big ?_; omega) | (refine My.big ?_; simp; done) | (refine My.big ?_; simp; omega)))
  | ((with_reducible refine' My.Ab.g_catA ?ga ?gb); (case ga => first | assumption | (refine My.bigl ?_; omega) | (refine My.bigl ?_; simp; done) | (refine My.bigl ?_; simp; omega) | (refine My.big ?_; omega) | (refine My.big ?_; simp; done) | (refine My.big ?_; simp; omega)))
  | ((with_reducible refine' My.Ab.g_tupL ?ga ?gb); (case ga => first | assumption | (refine My.bigl ?_; omega) | (refine My.bigl ?_; simp; done) | (refine My.bigl ?_; simp; omega) | (refine My.big ?_; omega) | (refine My.big ?_; simp; done) | (refine My.big ?_; simp; omega))))
local macro_rules | `(tactic| walk_at "ax") => `(tactic| repeat walk_at "x1")
local macro_rules | `(tactic| walk_at "de") => `(tactic| first | decide +kernel | (simp; done))
local macro_rules | `(tactic| walk_at "y1") => `(tactic| first | walk_at "x1" | ((refine' My.Ab.g_tt ?ga ?gb); (case ga => walk_at "de")) | ((refine' My.Ab.g_ff ?ga ?gb); (case ga => walk_at "de")))
local macro_rules | `(tactic| walk_at "ay") => `(tactic| repeat walk_at "y1")
namespace Ab
def sp_lsize (K : PySem.W.Frag) (n : Nat) : ASp := fun as M P _ => ∃ f : Fm, as = [f.a] ∧ f.depth < n ∧ f.size ≤ 10000 ∧ P (.int (f.size : Int)) M
def sp_llev (K : PySem.W.Frag) (n : Nat) : ASp := fun as M P _ => ∃ f : Fm, as = [f.a] ∧ f.depth < n ∧ f.size ≤ 10000 ∧ P (.int (f.depth : Int)) M
end Ab
namespace Ab
theorem ln_lsize {K : PySem.W.Frag} {n : Nat} (as : List A) (M : AM) (P : AK) (X : AX) : sp_lsize K n as M P X → as.length = 1 := by rintro ⟨_, rfl, _⟩; rfl
end Ab
def sp_lsize (K : PySem.W.Frag) (n : Nat) : Sp := lift K (Ab.sp_lsize K n)
theorem len_lsize {K : PySem.W.Frag} {n : Nat} {vs : List V} {H : Hp} {Q : VK} {E : XK} (h : sp_lsize K n vs H Q E) : vs.length = 1 := lift_len Ab.ln_lsize h
theorem no_lsize {K : PySem.W.Frag} (vs : List V) (H : Hp) (Q : VK) (E : XK) : ¬ sp_lsize K 0 vs H Q E := lift_no (fun as M P X h => by obtain ⟨_, _, h⟩ := h; omega) vs H Q E
def t_lsize (K : PySem.W.Frag) (r : Sp) : TS := (tSeq (tIfS (tB (tCB (rIsi K) (tCons (tVar 0) (tCons (tC (.ty "int")) tNil)))) (tRet (tC (.int 1)))
  tNext)
  (tRet (tOp rAddI (tC (.int 1)) (tCB (rSum K) (tCons (tLc (iTup K (tSl (rSlT K) (tVar 0) (tPart (tC (.int 1))) tNoPart)) (gName 1) tYes (tCall r [] E0 (tCons (tVar 1) tNil)) [1]) tNil)))))
abbrev N_lsize : List Str := ["_law_form", "_law_part"]
namespace Ab
def t_lsize (K : PySem.W.Frag) (r : ASp) : TS := (tSeq (tIfS (tB (tCB (rIsi K) (tCons (tVar 0) (tCons (tC (.ty "int")) tNil)))) (tRet (tC (.int 1)))
  tNext)
  (tRet (tOp rAddI (tC (.int 1)) (tCB (rSum K) (tCons (tLc (iTup K (tSl (rSlT K) (tVar 0) (tPart (tC (.int 1))) tNoPart)) (gName 1) tYes (tCall r [] E0 (tCons (tVar 1) tNil)) [1]) tNil)))))
end Ab
theorem rf_lsize {K : PySem.W.Frag} {E : XK} {X : AX} {r : Sp} {ar : ASp} (hr : RSp K r ar) : RSt K E X (t_lsize K r) (Ab.t_lsize K ar) := by
  unfold My.t_lsize Ab.t_lsize
  walk_at "rf"
theorem sum_sizes : ∀ ps : List Fm, (ps.map fun p => ((p.size : Nat) : Int)).sum = (Fm.sizes ps : Int)
  | [] => rfl
  | p :: ps => by simp only [List.map_cons, List.sum_cons, Fm.sizes, sum_sizes ps]; omega
theorem depths_max {ps : List Fm} {m : Int} (h : m ∈ ps.map fun p => ((p.depth : Nat) : Int)) (k : ∀ y, y ∈ (ps.map fun p => ((p.depth : Nat) : Int)) → y ≤ m) : m = (Fm.depths ps : Int) := by
  obtain ⟨p, hp, rfl⟩ := List.mem_map.mp h
  have h1 := Fm.depth_mem hp
  have h2 : Fm.depths ps ≤ p.depth := Fm.depths_le fun q hq => by
    have := k _ (List.mem_map.mpr ⟨q, hq, rfl⟩)
    omega
  omega
namespace Ab
theorem ab_lsize {K : PySem.W.Frag} {n : Nat} {as : List A} {M : AM} {P : AK} {X : AX} (h : sp_lsize K (n + 1) as M P X) : t_lsize K (sp_lsize K n) { nx := fun _ M' => Wk P .non M', rt := Wk P } (start N_lsize as) M := by
  obtain ⟨f, rfl, hd, hz, k⟩ := h
  unfold t_lsize
  cases f with
  | hole i =>
    simp only [Fm.a]
    walk_at "ay"
    exact wk (Sub.refl _) k
  | node s ps =>
    simp only [Fm.depth] at hd
    simp only [Fm.size] at hz
    have hlz := Fm.len_sizes ps
    simp only [Fm.a]
    walk_at "ay"
    rw [Fm.as_map]
    refine lc_typed (a := Fm.a) (xs := ps) (fun _ => true) (fun p => A.int (p.size : Int)) trivial (bigl (by omega)) (fun p hp Yes No hy hn => ?_) ?_
    · walk_at "ay"
      have := Fm.depth_mem hp
      have := Fm.sizes_mem hp
      exact ⟨p, rfl, by omega, by omega, hy rfl⟩
    refine g_newA fun l M1 s1 h1 _ => ?_
    walk_at "ay"
    have e : (List.filter (fun _ => true) ps).map (fun p => A.int (p.size : Int)) = (ps.map fun p => ((p.size : Nat) : Int)).map A.int := by rw [List.filter_eq_self.mpr (fun _ _ => rfl), List.map_map]; rfl
    rw [e] at h1
    refine g_sum h1 ?_
    rw [sum_sizes]
    walk_at "ay"
    refine wk s1 ?_
    simp only [Fm.size, Int.natCast_add, Int.cast_ofNat_Int] at k
    exact k
end Ab
theorem rd_lsize {K : PySem.W.Frag} {n : Nat} {vs : List V} {H : Hp} {Q : VK} {E : XK} (h : sp_lsize K (n + 1) vs H Q E) : t_lsize K (sp_lsize K n) { nx := fun _ H' => Q .non H', rt := Q } (L2.start N_lsize vs) H := rd_of (fun _ => rf_lsize RSp.lift) (fun _ _ _ _ => Ab.ab_lsize) h
namespace Ab
theorem ln_llev {K : PySem.W.Frag} {n : Nat} (as : List A) (M : AM) (P : AK) (X : AX) : sp_llev K n as M P X → as.length = 1 := by rintro ⟨_, rfl, _⟩; rfl
end Ab
def sp_llev (K : PySem.W.Frag) (n : Nat) : Sp := lift K (Ab.sp_llev K n)
theorem len_llev {K : PySem.W.Frag} {n : Nat} {vs : List V} {H : Hp} {Q : VK} {E : XK} (h : sp_llev K n vs H Q E) : vs.length = 1 := lift_len Ab.ln_llev h
theorem no_llev {K : PySem.W.Frag} (vs : List V) (H : Hp) (Q : VK) (E : XK) : ¬ sp_llev K 0 vs H Q E := lift_no (fun as M P X h => by obtain ⟨_, _, h⟩ := h; omega) vs H Q E
def t_llev (K : PySem.W.Frag) (r : Sp) : TS := (tSeq (tIfS (tOr (tB (tCB (rIsi K) (tCons (tVar 0) (tCons (tC (.ty "int")) tNil)))) (tTest (tOp rEq (tCB (rLenSeq K) (tCons (tVar 0) tNil)) (tC (.int 1))))) (tRet (tC (.int 1)))
  tNext)
  (tRet (tOp rAddI (tC (.int 1)) (tCB (rMax K) (tCons (tLc (iTup K (tSl (rSlT K) (tVar 0) (tPart (tC (.int 1))) tNoPart)) (gName 1) tYes (tCB rInt1 (tCons (tCall r [] E0 (tCons (tVar 1) tNil)) tNil)) [1]) tNil)))))
abbrev N_llev : List Str := ["_law_form", "_law_part"]
namespace Ab
def t_llev (K : PySem.W.Frag) (r : ASp) : TS := (tSeq (tIfS (tOr (tB (tCB (rIsi K) (tCons (tVar 0) (tCons (tC (.ty "int")) tNil)))) (tTest (tOp rEq (tCB (rLenSeq K) (tCons (tVar 0) tNil)) (tC (.int 1))))) (tRet (tC (.int 1)))
  tNext)
  (tRet (tOp rAddI (tC (.int 1)) (tCB (rMax K) (tCons (tLc (iTup K (tSl (rSlT K) (tVar 0) (tPart (tC (.int 1))) tNoPart)) (gName 1) tYes (tCB rInt1 (tCons (tCall r [] E0 (tCons (tVar 1) tNil)) tNil)) [1]) tNil)))))
end Ab
theorem rf_llev {K : PySem.W.Frag} {E : XK} {X : AX} {r : Sp} {ar : ASp} (hr : RSp K r ar) : RSt K E X (t_llev K r) (Ab.t_llev K ar) := by
  unfold My.t_llev Ab.t_llev
  walk_at "rf"
namespace Ab
theorem ab_llev {K : PySem.W.Frag} {n : Nat} {as : List A} {M : AM} {P : AK} {X : AX} (h : sp_llev K (n + 1) as M P X) : t_llev K (sp_llev K n) { nx := fun _ M' => Wk P .non M', rt := Wk P } (start N_llev as) M := by
  obtain ⟨f, rfl, hd, hz, k⟩ := h
  unfold t_llev
  cases f with
  | hole i =>
    simp only [Fm.a]
    walk_at "ay"
    exact wk (Sub.refl _) k
  | node s ps =>
    simp only [Fm.depth] at hd
    simp only [Fm.size] at hz
    have hlz := Fm.len_sizes ps
    simp only [Fm.a]
    walk_at "ay"
    refine g_2 (fun c => ?_) (fun c => ?_)
    · have c : ps = [] := by
        have c := of_decide_eq_true c
        simp only [List.length_cons, Fm.as_length] at c
        exact List.length_eq_zero_iff.mp (by omega)
      subst c
      walk_at "ay"
      exact wk (Sub.refl _) k
    have c : ps ≠ [] := fun z => by subst z; simp [Fm.as] at c
    walk_at "ay"
    rw [Fm.as_map]
    refine lc_typed (a := Fm.a) (xs := ps) (fun _ => true) (fun p => A.int (p.depth : Int)) trivial (bigl (by omega)) (fun p hp Yes No hy hn => ?_) ?_
    · walk_at "ay"
      have := Fm.depth_mem hp
      have := Fm.sizes_mem hp
      refine ⟨p, rfl, by omega, by omega, ?_⟩
      walk_at "ay"
      exact hy rfl
    refine g_newA fun l M1 s1 h1 _ => ?_
    walk_at "ay"
    have e : (List.filter (fun _ => true) ps).map (fun p => A.int (p.depth : Int)) = (ps.map fun p => ((p.depth : Nat) : Int)).map A.int := by rw [List.filter_eq_self.mpr (fun _ _ => rfl), List.map_map]; rfl
    rw [e] at h1
    refine g_max h1 (by rw [List.length_map]; exact List.length_pos_iff.mpr c) fun m hm hy => ?_
    rw [depths_max hm hy]
    walk_at "ay"
    refine wk s1 ?_
    simp only [Fm.depth, Int.natCast_add, Int.cast_ofNat_Int] at k
    exact k
end Ab
theorem rd_llev {K : PySem.W.Frag} {n : Nat} {vs : List V} {H : Hp} {Q : VK} {E : XK} (h : sp_llev K (n + 1) vs H Q E) : t_llev K (sp_llev K n) { nx := fun _ H' => Q .non H', rt := Q } (L2.start N_llev vs) H := rd_of (fun _ => rf_llev RSp.lift) (fun _ _ _ _ => Ab.ab_llev) h

local macro_rules | `(tactic| walk_at "ls") => `(tactic| first | assumption | (refine My.LangS.up (by assumption) ?_; walk_at "ls"))
local macro_rules | `(tactic| walk_at "su") => `(tactic| first | exact My.Sub.refl _ | assumption | (refine My.Sub.trans ?_ (by assumption); walk_at "su"))
structure TK (K : PySem.W.Frag) : Prop where
  lk : LK K
  bf : ErrC K "BadForm" "BadForm" ∧ PySem.W.findIn K (.ref (He.ga K "BadForm")) "form" = some none
  bc : ExcC K (He.ga K "BadForm")
  xf : XfC K (He.ga K "BadForm")
  be : PySem.W.exmOne K (.ref (He.ga K "BadForm")) (.ref (He.ga K "TableError")) = some true
  b1 : PySem.W.kitOne K (.ref (He.ga K "BadForm")) (.ref (He.ga K "BadForm")) = some true
def StepsL (rows : List Row) (rules : List (Fm × Fm)) (L : List Fm) : Prop := ∀ (i : Nat) (g h : Fm), L[i]? = some g → L[i + 1]? = some h → ∃ b k, advF rows rules g = .steps h b k
structure RunL (rows : List Row) (rules : List (Fm × Fm)) (f : Fm) (m : Nat) (L : List Fm) : Prop where
  z : L[0]? = some f
  st : StepsL rows rules L
  len : L.length ≤ m + 1
  fin : L.length = m + 1 ∨ ∀ g, L[L.length - 1]? = some g → ∀ h b k, advF rows rules g ≠ .steps h b k
  ov : ∀ g ∈ L, g.over rows ∧ g.depth < 40 ∧ g.size ≤ 10000
theorem RunL.next {rows : List Row} {rules : List (Fm × Fm)} {f g h : Fm} {m i : Nat} {L : List Fm} {b : Bool} {k : Nat} (R : RunL rows rules f m L) (hi : i < m) (hg : L[i]? = some g) (e : advF rows rules g = .steps h b k) : L[i + 1]? = some h := by
  have hl := (List.getElem?_eq_some_iff.mp hg).1
  by_cases c : i + 1 < L.length
  · have h1 : L[i + 1]? = some L[i + 1] := List.getElem?_eq_getElem c
    obtain ⟨b2, k2, e2⟩ := R.st i g _ hg h1
    rw [e] at e2
    injection e2 with e2 _ _
    rw [h1, e2]
  · rcases R.fin with q | q
    · omega
    · refine absurd e (q g ?_ h b k)
      have : L.length - 1 = i := by omega
      rw [this]; exact hg
theorem RunL.ends {rows : List Row} {rules : List (Fm × Fm)} {f g : Fm} {m i : Nat} {L : List Fm} (R : RunL rows rules f m L) (hg : L[i]? = some g) (e : ∀ h b k, advF rows rules g ≠ .steps h b k) : L.length = i + 1 := by
  have hl := (List.getElem?_eq_some_iff.mp hg).1
  by_cases c : i + 1 < L.length
  · have h1 : L[i + 1]? = some L[i + 1] := List.getElem?_eq_getElem c
    obtain ⟨b2, k2, e2⟩ := R.st i g _ hg h1
    exact absurd e2 (e _ _ _)
  · omega
namespace Ab
def sp_run (K : PySem.W.Frag) : ASpH := fun as M P Q X => ∃ (x : Addr) (f : Fm) (m : Nat) (rows : List Row) (rules : List (Fm × Fm)) (S : List Addr) (L : List Fm), as = [.ref x, f.a, .int (m : Int)] ∧ f.depth < 40 ∧ f.size ≤ 10000 ∧ m ≤ 1000 ∧ TK K ∧ LangS K M x rows rules S ∧ RowsW rows ∧ RulesW rows rules ∧
  (knownF rows f = false → X (He.ga K "BadForm") [("form", f.a)] M) ∧
  (knownF rows f = true → RunL rows rules f m L ∧ (∀ (ys : List Fm) (z : Fm) (M1 : AM) (kp : AM → Prop), ys ++ [z] <+: L → Sub M M1 → (∀ M2, Sub M1 M2 → kp M2) → P (ys.map Fm.a) z.a M1 kp) ∧ ∀ M1, Sub M M1 → Q (L.map Fm.a) M1)
end Ab
def sp_run (K : PySem.W.Frag) : SpH := liftH K (Ab.sp_run K)
theorem len_run {K : PySem.W.Frag} {vs : List V} {H : Hp} {Pr : List V → V → Hp → (Hp → Prop) → Prop} {Q : List V → Hp → Prop} {E : XK} (h : sp_run K vs H Pr Q E) : vs.length = 3 := by
  obtain ⟨F, as, M, P, B, X, hv, _, a, _⟩ := h
  rw [hv.length]
  obtain ⟨_, _, _, _, _, _, _, rfl, _⟩ := a
  rfl
def t_run (K : PySem.W.Frag) (Pr : List V → V → Hp → (Hp → Prop) → Prop) (E : XK) : TGn := (tGThen (tPlain (tIfS (tNot (tB (tCall (sp_known K 40) [] E0 (tCons (tFld K (tVar 0) "row_of") (tCons (tVar 1) tNil))))) (tRaise1 K "BadForm" "BadForm" "form" (WF E) (tVar 1))
  tNext))
  (tGThen (My.tHYield Pr (tVar 1))
  (tGThen (My.tGFor (iRng1 (tCons (tVar 2) tNil)) (gName 3)
  (tGThen (tPlain (tAsg (tMeth (He.ga K "Language") "advance" (sp_advance K 40) [] E0 (tVar 0) (tCons (tVar 1) tNil)) (gName 4)))
  (tGThen (tPlain (tIfS (tTest (tOp rNe (tOp (rIxT K) (tVar 4) (tC (.int 0))) (tC (.str "steps")))) tRetN
  tNext))
  (tGThen (tPlain (tAsg (tOp (rIxT K) (tVar 4) (tC (.int 1))) (gName 1)))
  (tGThen (My.tHYield Pr (tVar 1))
  tG0)))))
  tG0)))
abbrev N_run : List Str := ["self", "form", "most", "count", "told"]
namespace Ab
def t_run (K : PySem.W.Frag) (Pr : List A → A → AM → (AM → Prop) → Prop) (E : AX) : Ab.TGn := (tGThen (tPlain (tIfS (tNot (tB (tCall (sp_known K 40) [] E0 (tCons (tFld K (tVar 0) "row_of") (tCons (tVar 1) tNil))))) (tRaise1 K "BadForm" "BadForm" "form" (WF E) (tVar 1))
  tNext))
  (tGThen (tHYield Pr (tVar 1))
  (tGThen (tGFor (iRng1 (tCons (tVar 2) tNil)) (gName 3)
  (tGThen (tPlain (tAsg (tMeth (He.ga K "Language") "advance" (sp_advance K 40) [] E0 (tVar 0) (tCons (tVar 1) tNil)) (gName 4)))
  (tGThen (tPlain (tIfS (tTest (tOp rNe (tOp (rIxT K) (tVar 4) (tC (.int 0))) (tC (.str "steps")))) tRetN
  tNext))
  (tGThen (tPlain (tAsg (tOp (rIxT K) (tVar 4) (tC (.int 1))) (gName 1)))
  (tGThen (tHYield Pr (tVar 1))
  tG0)))))
  tG0)))
end Ab
theorem rf_run {K : PySem.W.Frag} {E : XK} {X : AX} {F H : Hp} {P : List A → A → AM → (AM → Prop) → Prop} {Pr : List V → V → Hp → (Hp → Prop) → Prop} (pr : PrOk K F H P Pr) : RHn K E X F H (t_run K Pr E) (Ab.t_run K P X) := by
  unfold My.t_run Ab.t_run
  walk_at "rf"
theorem pre_at {L : List Fm} {i : Nat} {z : Fm} (h : L[i]? = some z) : L.take i ++ [z] <+: L ∧ L.take (i + 1) = L.take i ++ [z] := by
  have e : L.take (i + 1) = L.take i ++ [z] := by rw [List.take_add_one, h]; rfl
  exact ⟨by rw [← e]; exact List.take_prefix _ _, e⟩
namespace Ab
theorem ab_run {K : PySem.W.Frag} {as : List A} {M : AM} {P : List A → A → AM → (AM → Prop) → Prop} {B : List A → AM → Prop} {X : AX} (h : sp_run K as M P B X) : t_run K P X { nx := fun ys _ M' => WkG B ys M', rt := fun ys v M' => v = .non ∧ WkG B ys M' } [] (start N_run as) M := by
  obtain ⟨x, f, m, rows, rules, S, L, rfl, hd, hz, hm, hK, hS, hR, hRu, k0, k1⟩ := h
  obtain ⟨a1, a2, a3, a4, qs, hLI⟩ := hS.obj
  have ox := hLI.ox
  have o3 := hLI.o3
  have c0 := hK.lk.cls
  have c3 := hK.lk.n3
  unfold t_run
  unfold tGThen tPlain tHYield tGFor tG0 Ab.GEnds.at
  walk_at "ay"
  refine ⟨a3, rows, f, rfl, by omega, o3, by omega, ?_⟩
  walk_at "ay"
  refine g_2 (fun c => ?_) (fun c => ?_)
  · have c : knownF rows f = false := by simpa using c
    walk_at "ay"
    exact ⟨hK.bf, k0 c⟩
  have c : knownF rows f = true := by simpa using c
  obtain ⟨R, kP, kB⟩ := k1 c
  have hlen := R.len
  walk_at "ay"
  refine ⟨bigl (by simp), ?_⟩
  walk_at "ay"
  obtain ⟨p0, _⟩ := pre_at R.z
  refine kP [] f M _ p0 (Sub.refl _) fun M2 s2 => ?_
  walk_at "ay"
  refine ⟨by omega, by omega, fun i ys s M' => ∃ (g : Fm) (o3 o4 : Option A), Sub M M' ∧ L[i]? = some g ∧ ys = (L.take (i + 1)).map Fm.a ∧ s = [some (.ref x), some g.a, some (.int (m : Int)), o3, o4], ⟨f, _, _, s2, R.z, ?_, rfl⟩, fun _ _ _ _ _ _ => trivial, ?_, ?_⟩
  · rw [(pre_at R.z).2]
    rfl
  · rintro i y ys s M' hy ⟨g, o5, o6, sM, hg, rfl, rfl⟩
    obtain ⟨him, rfl⟩ := ints_get hy
    obtain ⟨gov, gd, gz⟩ := R.ov g (List.mem_of_getElem? hg)
    have hil := (List.getElem?_eq_some_iff.mp hg).1
    have hS' := hS.up sM
    walk_at "ay"
    refine ⟨x, g, _, rows, rules, rfl, by omega, by omega, by omega, hK.lk, hS'.obj, hR, hRu, gov, ?_⟩
    cases e : advF rows rules g with
    | steps h b k =>
      have hn := R.next (by simpa using him) hg e
      have hil2 := (List.getElem?_eq_some_iff.mp hn).1
      obtain ⟨pn, en⟩ := pre_at hn
      simp only [StR.a]
      walk_at "ay"
      refine ⟨bigl (by simp; omega), ?_⟩
      walk_at "ay"
      refine kP (L.take (i + 1)) h M' _ pn sM fun M3 s3 => ?_
      walk_at "ay"
      refine ⟨h, _, _, sM.trans s3, hn, ?_, rfl⟩
      rw [en, List.map_append]
      rfl
    | done =>
      have hE := R.ends hg fun h b k z => by rw [e] at z; cases z
      simp only [StR.a]
      walk_at "ay"
      refine ⟨rfl, M', Sub.refl _, ?_⟩
      rw [← hE, List.take_length]
      exact kB M' sM
    | stuck =>
      have hE := R.ends hg fun h b k z => by rw [e] at z; cases z
      simp only [StR.a]
      walk_at "ay"
      refine ⟨rfl, M', Sub.refl _, ?_⟩
      rw [← hE, List.take_length]
      exact kB M' sM
    | waits u =>
      have hE := R.ends hg fun h b k z => by rw [e] at z; cases z
      simp only [StR.a]
      walk_at "ay"
      refine ⟨rfl, M', Sub.refl _, ?_⟩
      rw [← hE, List.take_length]
      exact kB M' sM
    | asks u =>
      have hE := R.ends hg fun h b k z => by rw [e] at z; cases z
      simp only [StR.a]
      walk_at "ay"
      refine ⟨rfl, M', Sub.refl _, ?_⟩
      rw [← hE, List.take_length]
      exact kB M' sM
  · rintro ys s M' ⟨g, o5, o6, sM, hg, rfl, rfl⟩
    rw [ints_len] at hg ⊢
    have hil := (List.getElem?_eq_some_iff.mp hg).1
    refine ⟨M', Sub.refl _, ?_⟩
    have e : L.take (m + 1) = L := List.take_of_length_le (by omega)
    have em : ((m : Int)).toNat = m := by omega
    try rw [em]
    rw [e]
    exact kB M' sM
end Ab
theorem rd_run {K : PySem.W.Frag} {vs : List V} {H : Hp} {Pr : List V → V → Hp → (Hp → Prop) → Prop} {Q : List V → Hp → Prop} {E : XK} (h : sp_run K vs H Pr Q E) : t_run K Pr E { nx := fun ys _ H' => Q ys H', rt := fun ys v H' => v = .non ∧ Q ys H' } [] (L2.start N_run vs) H := rdH_of (t := t_run K) (u := Ab.t_run K) (fun _ _ _ _ _ pr => rf_run pr) (fun _ _ _ _ _ => Ab.ab_run) h
namespace Ab
def sp_asked (K : PySem.W.Frag) : ASp := fun as M P _ => ∃ (x p : Addr) (f : Fm) (m : Nat) (rows : List Row) (rules : List (Fm × Fm)) (S : List Addr) (L : List Fm), as = [.ref x, .ref p, .int (m : Int)] ∧ m ≤ 1000 ∧ TK K ∧ LangS K M x rows rules S ∧ RowsW rows ∧ RulesW rows rules ∧ knownF rows f = true ∧ RunL rows rules f m L ∧ M p = some (.lst (L.map Fm.a)) ∧ P (.bl true) M
end Ab
namespace Ab
theorem ln_asked {K : PySem.W.Frag} (as : List A) (M : AM) (P : AK) (X : AX) : sp_asked K as M P X → as.length = 3 := by rintro ⟨_, _, _, _, _, _, _, _, rfl, _⟩; rfl
end Ab
def sp_asked (K : PySem.W.Frag) : Sp := lift K (Ab.sp_asked K)
theorem len_asked {K : PySem.W.Frag} {vs : List V} {H : Hp} {Q : VK} {E : XK} (h : sp_asked K vs H Q E) : vs.length = 3 := lift_len Ab.ln_asked h
def t_asked (K : PySem.W.Frag) : TS := (tSeq (tAsg (tC (.int 0)) (gName 3))
  (tSeq (My.tForG (My.tMethX (He.ga K "Language") "run" (sp_run K) [] My.noE (tVar 0) (tCons (tOp (rIxL K) (tVar 1) (tC (.int 0))) (tCons (tVar 2) tNil))) (gName 4)
  (tSeq (tIfS (tOr (tTest (tOp rGeI (tVar 3) (tCB (rLenSeq K) (tCons (tVar 1) tNil)))) (tNot (tB (tCall (sp_lsame K 40) [] E0 (tCons (tVar 4) (tCons (tOp (rIxL K) (tVar 1) (tVar 3)) tNil)))))) (tRet (tC (.bl false)))
  tNext)
  (tAsg (tOp rAddI (tVar 3) (tC (.int 1))) (gName 3))))
  (tRet (tOp rEq (tVar 3) (tCB (rLenSeq K) (tCons (tVar 1) tNil))))))
abbrev N_asked : List Str := ["_law_language_here", "_law_due_here", "_law_most", "_law_count", "_law_form"]
namespace Ab
def t_asked (K : PySem.W.Frag) : TS := (tSeq (tAsg (tC (.int 0)) (gName 3))
  (tSeq (tForG (tMethX (He.ga K "Language") "run" (sp_run K) [] noE (tVar 0) (tCons (tOp (rIxL K) (tVar 1) (tC (.int 0))) (tCons (tVar 2) tNil))) (gName 4)
  (tSeq (tIfS (tOr (tTest (tOp rGeI (tVar 3) (tCB (rLenSeq K) (tCons (tVar 1) tNil)))) (tNot (tB (tCall (sp_lsame K 40) [] E0 (tCons (tVar 4) (tCons (tOp (rIxL K) (tVar 1) (tVar 3)) tNil)))))) (tRet (tC (.bl false)))
  tNext)
  (tAsg (tOp rAddI (tVar 3) (tC (.int 1))) (gName 3))))
  (tRet (tOp rEq (tVar 3) (tCB (rLenSeq K) (tCons (tVar 1) tNil))))))
end Ab
theorem rf_asked {K : PySem.W.Frag} {E : XK} {X : AX} : RSt K E X (t_asked K) (Ab.t_asked K) := by
  unfold My.t_asked Ab.t_asked
  walk_at "rf"
namespace Ab
theorem ab_asked {K : PySem.W.Frag} {as : List A} {M : AM} {P : AK} {X : AX} (h : sp_asked K as M P X) : t_asked K { nx := fun _ M' => Wk P .non M', rt := Wk P } (start N_asked as) M := by
  obtain ⟨x, p, f, m, rows, rules, S, L, rfl, hm, hK, hS, hR, hRu, hkn, R, hp, k⟩ := h
  obtain ⟨a1, a2, a3, a4, ox⟩ := hS.ox
  obtain ⟨fov, fd, fz⟩ := R.ov f (List.mem_of_getElem? R.z)
  have hlen := R.len
  have hl0 := (List.getElem?_eq_some_iff.mp R.z).1
  have at0 : L2.atI (L.map Fm.a) 0 = some f.a := L2.atI_nat (j := 0) (by rw [List.getElem?_map, R.z]; rfl)
  unfold t_asked
  walk_at "ay"
  refine ⟨fun i s => ∃ o : Option A, s = [some (.ref x), some (.ref p), some (.int (m : Int)), some (.int (i : Int)), o], ⟨_, rfl⟩, ?_⟩
  unfold tMethX
  walk_at "ay"
  refine ⟨x, f, m, rows, rules, S, L, rfl, fd, fz, hm, hK, hS, hR, hRu, (fun c => by rw [hkn] at c; cases c), fun _ => ⟨R, fun ys z M1 kp hpre sM hk => ?_, fun M1 sM => ?_⟩⟩
  · rintro s ⟨o, rfl⟩
    have hz : L[ys.length]? = some z := by
      obtain ⟨t, rfl⟩ := hpre
      rw [List.append_assoc, List.getElem?_append_right (Nat.le_refl _), Nat.sub_self]
      rfl
    have hlt := (List.getElem?_eq_some_iff.mp hz).1
    obtain ⟨zov, zd, zz⟩ := R.ov z (List.mem_of_getElem? hz)
    rw [List.length_map]
    have hp1 := sM.at hp
    have atz : L2.atI (L.map Fm.a) ((ys.length : Nat) : Int) = some z.a := L2.atI_nat (by rw [List.getElem?_map, hz]; rfl)
    have clt : decide (((ys.length : Nat) : Int) ≥ ((L.map Fm.a).length : Int)) = false := decide_eq_false (by rw [List.length_map]; omega)
    walk_at "ay"
    try rw [clt]
    walk_at "ay"
    refine ⟨z, rfl, by omega, by omega, ?_⟩
    walk_at "ay"
    exact ⟨⟨some z.a, by push_cast; rfl⟩, hk _ (Sub.refl _)⟩
  · rintro s ⟨o, rfl⟩
    have hp1 := sM.at hp
    rw [List.length_map]
    have ceq : decide (((L.length : Nat) : Int) = ((L.map Fm.a).length : Int)) = true := decide_eq_true (by rw [List.length_map])
    walk_at "ay"
    try rw [ceq]
    exact wk sM k
end Ab
theorem rd_asked {K : PySem.W.Frag} {vs : List V} {H : Hp} {Q : VK} {E : XK} (h : sp_asked K vs H Q E) : t_asked K { nx := fun _ H' => Q .non H', rt := Q } (L2.start N_asked vs) H := rd_of (fun _ => rf_asked) (fun _ _ _ _ => Ab.ab_asked) h
structure FormS (rows : List Row) (f : Fm) : Prop where
  over : f.over rows
  holes : ∀ i ∈ f.flat, 0 ≤ i ∧ i ≤ 99
  size : f.size ≤ 150
  depth : f.depth ≤ 25
structure DueL (rows : List Row) (rules : List (Fm × Fm)) (f : Fm) (n : Nat) (L : List Fm) : Prop where
  z : L[0]? = some f
  st : StepsL rows rules L
  len : L.length ≤ n + 1
  ok : ∀ g ∈ L, FormS rows g
theorem StepsL.snoc {rows : List Row} {rules : List (Fm × Fm)} {L : List Fm} {g h : Fm} {b : Bool} {k : Nat} (S : StepsL rows rules L) (hg : L[L.length - 1]? = some g) (e : advF rows rules g = .steps h b k) : StepsL rows rules (L ++ [h]) := fun i u v hu hv => by
  have hl := (List.getElem?_eq_some_iff.mp hv).1
  rw [List.length_append, List.length_singleton] at hl
  have hl0 := (List.getElem?_eq_some_iff.mp hg).1
  rw [List.getElem?_append_left (by omega)] at hu
  by_cases c : i + 1 < L.length
  · rw [List.getElem?_append_left c] at hv
    exact S i u v hu hv
  · have ei : i = L.length - 1 := by omega
    subst ei
    rw [hg] at hu
    cases hu
    rw [List.getElem?_append_right (by omega)] at hv
    have : L.length - 1 + 1 - L.length = 0 := by omega
    rw [this] at hv
    cases hv
    exact ⟨b, k, e⟩
namespace Ab
def sp_due (K : PySem.W.Frag) : ASp := fun as M P _ => ∃ (tq rl : Addr) (f : Fm) (n : Nat) (rows : List Row) (rules : List (Fm × Fm)), as = [.ref tq, .ref rl, f.a, .int (n : Int)] ∧ n ≤ 1000 ∧ M tq = some (.dK (rowKvs rows)) ∧ M rl = some (.lst (rules.map ruleA)) ∧ RowsW rows ∧ RulesW rows rules ∧ (∀ y ∈ rules, RuleV rows 21 3 y) ∧ FormS rows f ∧
  ∀ (L : List Fm) (p : Addr) (M' : AM), DueL rows rules f n L → M' p = some (.lst (L.map Fm.a)) → Sub M M' → M p = none → P (.ref p) M'
end Ab
namespace Ab
theorem ln_due {K : PySem.W.Frag} (as : List A) (M : AM) (P : AK) (X : AX) : sp_due K as M P X → as.length = 4 := by rintro ⟨_, _, _, _, _, _, rfl, _⟩; rfl
end Ab
def sp_due (K : PySem.W.Frag) : Sp := lift K (Ab.sp_due K)
theorem len_due {K : PySem.W.Frag} {vs : List V} {H : Hp} {Q : VK} {E : XK} (h : sp_due K vs H Q E) : vs.length = 4 := lift_len Ab.ln_due h
def t_due (K : PySem.W.Frag) : TS := (tSeq (tAsg (tLst (tCons (tVar 2) tNil)) (gName 4))
  (tSeq (tFor (iRng1 (tCons (tVar 3) tNil)) (gName 5)
  (tSeq (tAsg (tCall (sp_next K 40) [] E0 (tCons (tVar 0) (tCons (tVar 1) (tCons (tOp (rIxL K) (tVar 4) (tUn (rU fun i => .int (-i)) (tC (.int 1)))) tNil)))) (gName 6))
  (tIfS (tAnd (tTest (tOp rEq (tCB (rLenSeq K) (tCons (tVar 4) tNil)) (tOp rAddI (tVar 5) (tC (.int 1))))) (tTest (tOp rEq (tOp (rIxT K) (tVar 6) (tC (.int 0))) (tC (.str "steps"))))) (tIfS (tAnd (tTest (tOp rLeI (tCall (sp_lsize K 40) [] E0 (tCons (tOp (rIxT K) (tVar 6) (tC (.int 1))) tNil)) (tC (.int 150)))) (tTest (tOp rLeI (tCall (sp_llev K 40) [] E0 (tCons (tOp (rIxT K) (tVar 6) (tC (.int 1))) tNil)) (tC (.int 25))))) (tDrop (tBM K "list" rAppend (tVar 4) (tCons (tOp (rIxT K) (tVar 6) (tC (.int 1))) tNil)))
  tNext)
  tNext)))
  (tRet (tVar 4))))
abbrev N_due : List Str := ["_law_table_here", "_law_rules_here", "_law_form", "_law_most", "_law_due_here", "_law_k", "_law_told"]
namespace Ab
def t_due (K : PySem.W.Frag) : TS := (tSeq (tAsg (tLst (tCons (tVar 2) tNil)) (gName 4))
  (tSeq (tFor (iRng1 (tCons (tVar 3) tNil)) (gName 5)
  (tSeq (tAsg (tCall (sp_next K 40) [] E0 (tCons (tVar 0) (tCons (tVar 1) (tCons (tOp (rIxL K) (tVar 4) (tUn (rU fun i => .int (-i)) (tC (.int 1)))) tNil)))) (gName 6))
  (tIfS (tAnd (tTest (tOp rEq (tCB (rLenSeq K) (tCons (tVar 4) tNil)) (tOp rAddI (tVar 5) (tC (.int 1))))) (tTest (tOp rEq (tOp (rIxT K) (tVar 6) (tC (.int 0))) (tC (.str "steps"))))) (tIfS (tAnd (tTest (tOp rLeI (tCall (sp_lsize K 40) [] E0 (tCons (tOp (rIxT K) (tVar 6) (tC (.int 1))) tNil)) (tC (.int 150)))) (tTest (tOp rLeI (tCall (sp_llev K 40) [] E0 (tCons (tOp (rIxT K) (tVar 6) (tC (.int 1))) tNil)) (tC (.int 25))))) (tDrop (tBM K "list" rAppend (tVar 4) (tCons (tOp (rIxT K) (tVar 6) (tC (.int 1))) tNil)))
  tNext)
  tNext)))
  (tRet (tVar 4))))
end Ab
theorem rf_due {K : PySem.W.Frag} {E : XK} {X : AX} : RSt K E X (t_due K) (Ab.t_due K) := by
  unfold My.t_due Ab.t_due
  walk_at "rf"
namespace Ab
theorem ab_due {K : PySem.W.Frag} {as : List A} {M : AM} {P : AK} {X : AX} (h : sp_due K as M P X) : t_due K { nx := fun _ M' => Wk P .non M', rt := Wk P } (start N_due as) M := by
  obtain ⟨tq, rl, f, n, rows, rules, rfl, hn, htq, hrl, hR, hRu, hRv, hf, k⟩ := h
  unfold t_due
  walk_at "ay"
  refine g_newA fun p M1 s1 hp n1 => ?_
  walk_at "ay"
  refine ⟨by omega, by omega, for_rng (fun i s M' => ∃ (L : List Fm) (o1 o2 : Option A), DueL rows rules f i L ∧ M' p = some (.lst (L.map Fm.a)) ∧ Sub M M' ∧ s = [some (.ref tq), some (.ref rl), some f.a, some (.int (n : Int)), some (.ref p), o1, o2]) ⟨[f], _, _, ⟨rfl, fun i g h hg hh => by simp at hh, by simp, fun g hg => by rw [List.mem_singleton.mp hg]; exact hf⟩, hp, s1, rfl⟩ ?_ ?_⟩
  · rintro i s M' hi ⟨L, o1, o2, hL, hp', sM, rfl⟩
    have hll := hL.len
    have hl0 := (List.getElem?_eq_some_iff.mp hL.z).1
    have hlast : L[L.length - 1]? = some L[L.length - 1] := List.getElem?_eq_getElem (by omega)
    generalize L[L.length - 1] = u at hlast
    have hu := hL.ok u (List.mem_of_getElem? hlast)
    have u1 := hu.size
    have u2 := hu.depth
    have atl : L2.atI (L.map Fm.a) (-1) = some u.a := by
      have e : L = L.take (L.length - 1) ++ [u] := by
        have := (pre_at hlast).2
        rw [← this, List.take_of_length_le (by omega)]
      rw [e, List.map_append]
      exact L2.atI_last _ _
    have htq' := sM.at htq
    have hrl' := sM.at hrl
    walk_at "ay"
    refine ⟨tq, rl, u, rows, rules, rfl, by omega, by omega, by omega, htq', hrl', hR, hRu, hu.over, (fun i hi => by have := hu.holes i hi; omega), ?_⟩
    have keep : ∀ (x t : A), ∃ (L' : List Fm) (o1 o2 : Option A), DueL rows rules f (i + 1) L' ∧ M' p = some (.lst (L'.map Fm.a)) ∧ Sub M M' ∧ [some (.ref tq), some (.ref rl), some f.a, some (.int (n : Int)), some (.ref p), some x, some t] = [some (.ref tq), some (.ref rl), some f.a, some (.int (n : Int)), some (.ref p), o1, o2] := fun x t => ⟨L, _, _, ⟨hL.z, hL.st, by omega, hL.ok⟩, hp', sM, rfl⟩
    cases e : advF rows rules u with
    | steps h b j =>
      have st := adv_ok hR hRu hRv hu.over e
      have h1 := st.size
      have h2 := st.depth
      have hln : (L.map Fm.a).length = L.length := List.length_map ..
      simp only [StR.a]
      walk_at "ay"
      refine g_2 (fun c => ?_) (fun c => ?_)
      · walk_at "ay"
        refine ⟨h, rfl, by omega, by omega, ?_⟩
        walk_at "ay"
        refine g_2 (fun c1 => ?_) (fun c1 => ?_)
        · walk_at "ay"
          refine ⟨h, rfl, by omega, by omega, ?_⟩
          walk_at "ay"
          refine g_2 (fun c2 => ?_) (fun c2 => ?_)
          · have c1 : h.size ≤ 150 := by have := of_decide_eq_true c1; omega
            have c2 : h.depth ≤ 25 := by have := of_decide_eq_true c2; omega
            walk_at "ay"
            refine ⟨L ++ [h], _, _, ⟨?_, hL.st.snoc hlast e, by rw [List.length_append, List.length_singleton]; omega, fun v hv => ?_⟩, ?_, fun a o e => by rw [aupd_ne (ne_of_anone e n1)]; exact sM a o e, rfl⟩
            · rw [List.getElem?_append_left hl0]; exact hL.z
            · rcases List.mem_append.mp hv with hv | hv
              · exact hL.ok v hv
              · rw [List.mem_singleton.mp hv]
                exact ⟨st.over, fun i hi => hu.holes i (st.flat i hi), c1, c2⟩
            · rw [List.map_append]
              exact aupd_same
          · walk_at "ay"
            exact keep _ _
        · walk_at "ay"
          exact keep _ _
      · walk_at "ay"
        exact keep _ _
    | done =>
      simp only [StR.a]
      walk_at "ay"
      refine g_2 (fun c => ?_) (fun c => ?_)
      · walk_at "ay"
        exact keep _ _
      · walk_at "ay"
        exact keep _ _
    | stuck =>
      simp only [StR.a]
      walk_at "ay"
      refine g_2 (fun c => ?_) (fun c => ?_)
      · walk_at "ay"
        exact keep _ _
      · walk_at "ay"
        exact keep _ _
    | waits v =>
      simp only [StR.a]
      walk_at "ay"
      refine g_2 (fun c => ?_) (fun c => ?_)
      · walk_at "ay"
        exact keep _ _
      · walk_at "ay"
        exact keep _ _
    | asks v =>
      simp only [StR.a]
      walk_at "ay"
      refine g_2 (fun c => ?_) (fun c => ?_)
      · walk_at "ay"
        exact keep _ _
      · walk_at "ay"
        exact keep _ _
  · rintro s M' ⟨L, o1, o2, hL, hp', sM, rfl⟩
    walk_at "ay"
    have em : ((n : Int)).toNat = n := by omega
    try rw [em] at hL
    exact ⟨M', Sub.refl _, k L p M' hL hp' sM n1⟩
end Ab
theorem rd_due {K : PySem.W.Frag} {vs : List V} {H : Hp} {Q : VK} {E : XK} (h : sp_due K vs H Q E) : t_due K { nx := fun _ H' => Q .non H', rt := Q } (L2.start N_due vs) H := rd_of (fun _ => rf_due) (fun _ _ _ _ => Ab.ab_due) h
theorem left_own {nms : List Str} {rows : List Row} {row : Row} {look : Look} {f : Fm} (ok : SgOk nms rows) (hr : row ∈ rows) (hlk : LookOk row (rows.filter Row.done) look) (h : LeftOk row look f) : f.over rows ∧ f.size ≤ gB 2 ∧ f.depth ≤ 3 := by
  obtain ⟨ps, rfl, hpl, hpk⟩ := h.ex
  have part : ∀ p ∈ ps, p.over rows ∧ p.size ≤ 3 ∧ p.depth ≤ 2 := fun p hp => by
    obtain ⟨j, hj⟩ := List.getElem?_of_mem hp
    rcases hpk j p hj with ⟨_, n, rfl, _⟩ | ⟨r, is, hr2, rfl, h4, _⟩
    · exact ⟨by simp [Fm.over], by simp [Fm.size], by simp [Fm.depth]⟩
    · obtain ⟨h5, h6⟩ := hlk.at_ _ hr2
      obtain ⟨h7, h8⟩ := List.mem_filter.mp h6
      have h9 := (ok.three r h7).2 h8
      refine ⟨?_, ?_, ?_⟩
      · simp only [Fm.over]
        refine ⟨⟨r, h7, rfl, by rw [List.length_map]; exact h4.symm⟩, Fm.overs_iff.mpr fun q hq => ?_⟩
        obtain ⟨n, _, rfl⟩ := List.mem_map.mp hq
        simp [Fm.over]
      · have := Fm.sizes_le (B := 1) (ps := is.map Fm.hole) fun q hq => by obtain ⟨n, _, rfl⟩ := List.mem_map.mp hq; simp [Fm.size]
        rw [List.length_map] at this
        simp only [Fm.size]
        omega
      · have := Fm.depths_le (B := 1) (ps := is.map Fm.hole) fun q hq => by obtain ⟨n, _, rfl⟩ := List.mem_map.mp hq; simp [Fm.depth]
        simp only [Fm.depth]
        omega
  have h3 := (ok.three row hr).1
  have e2 : gB 2 = 21 := rfl
  refine ⟨?_, ?_, ?_⟩
  · simp only [Fm.over]
    exact ⟨⟨row, hr, rfl, hpl.symm⟩, Fm.overs_iff.mpr fun q hq => (part q hq).1⟩
  · have := Fm.sizes_le (B := 3) (ps := ps) fun q hq => (part q hq).2.1
    simp only [Fm.size]
    omega
  · have := Fm.depths_le (B := 2) (ps := ps) fun q hq => (part q hq).2.2
    simp only [Fm.depth]
    omega
theorem pw_set {α : Type} {R : α → α → Prop} {z : α} : ∀ {l : List α} {i : Nat} {y : α}, l[i]? = some y → (∀ x, R x y → R x z) → (∀ x, R y x → R z x) → l.Pairwise R → (l.set i z).Pairwise R
  | [], i, y, h, _, _, _ => by simp at h
  | a :: l, 0, y, h, k1, k2, p => by
    rw [List.getElem?_cons_zero] at h
    cases h
    rw [List.set_cons_zero, List.pairwise_cons]
    rw [List.pairwise_cons] at p
    exact ⟨fun x hx => k2 x (p.1 x hx), p.2⟩
  | a :: l, i + 1, y, h, k1, k2, p => by
    rw [List.getElem?_cons_succ] at h
    rw [List.set_cons_succ, List.pairwise_cons]
    rw [List.pairwise_cons] at p
    refine ⟨fun x hx => ?_, pw_set h k1 k2 p.2⟩
    rcases List.mem_or_eq_of_mem_set hx with hx | rfl
    · exact p.1 x hx
    · exact k1 a (p.1 y (List.mem_of_getElem? h))
theorem RulesOk.own {nms : List Str} {rows : List Row} {rules : List (Fm × Fm)} {i : Nat} {y : Fm × Fm} (ok : SgOk nms rows) (h : RulesOk rows rules) (hy : rules[i]? = some y) : RulesOk rows (rules.set i (y.1, y.1)) := by
  have g := h.ok y (List.mem_of_getElem? hy)
  obtain ⟨row, look, hr, hd, hlk, hl⟩ := g.left
  obtain ⟨o1, o2, o3⟩ := left_own ok hr hlk hl
  refine ⟨fun x hx => ?_, pw_set hy (fun x hx => hx) (fun x hx => hx) h.un, by rw [List.length_set]; exact h.most⟩
  rcases List.mem_or_eq_of_mem_set hx with hx | rfl
  · exact h.ok x hx
  · exact ⟨⟨row, look, hr, hd, hlk, hl⟩, o1, fun i hi => hi, o2, o3⟩
theorem strange {nms : List Str} {rows : List Row} (nm : NmOk nms) (ok : SgOk nms rows) {s : Str} (h : nms[25]? = some s) : findR rows s = none := by
  cases e : findR rows s with
  | none => rfl
  | some r =>
    obtain ⟨hr, hn⟩ := findR_mem e
    obtain ⟨i, hi⟩ := List.getElem?_of_mem (ok.from_ r hr)
    have hil := (List.getElem?_eq_some_iff.mp hi).1
    rw [List.length_take] at hil
    rw [List.getElem?_take, if_pos (by omega)] at hi
    rw [hn] at hi
    have := (List.getElem?_inj (List.getElem?_eq_some_iff.mp hi).1 nm.nd).mp (hi.trans h.symm)
    omega
theorem DueL.run {rows : List Row} {rules : List (Fm × Fm)} {f : Fm} {n : Nat} {L : List Fm} (h : DueL rows rules f n L) (m : Nat) (e : L.length = m + 1 ∨ (m = n ∧ (L.length = n + 1 ∨ ∀ g, L[L.length - 1]? = some g → ∀ h b k, advF rows rules g ≠ .steps h b k))) : RunL rows rules f m L := by
  have hl := h.len
  refine ⟨h.z, h.st, by omega, ?_, fun g hg => ?_⟩
  · rcases e with e | ⟨rfl, e | e⟩
    · exact .inl e
    · exact .inl e
    · exact .inr e
  · have := h.ok g hg
    have h1 := this.size
    have h2 := this.depth
    exact ⟨this.over, by omega, by omega⟩
def AskdZ (z : Addr × Nat × List Fm) : A := .tup [.ref z.1, .int (z.2.1 : Int)]
structure Askd (rows : List Row) (rules : List (Fm × Fm)) (M : AM) (l : Addr) (z : Addr × Nat × List Fm) : Prop where
  ex : ∃ h : Fm, h.size ≤ 85 ∧ h.depth ≤ 4 ∧ knownF rows h = true ∧ RunL rows rules h z.2.1 z.2.2
  m : z.2.1 ≤ 30
  at_ : M z.1 = some (.lst (z.2.2.map Fm.a))
  ne : z.1 ≠ l
def t_law_R (K : PySem.W.Frag) : TS := (tSeq (tAsg (tOp (rIxT K) (tVar 1) (tC (.int 0))) (gName 2))
  (tSeq (tAsg (tOp (rIxT K) (tVar 1) (tC (.int 2))) (gName 3))
  (tSeq (tAsg (tOp (rIxT K) (tVar 1) (tC (.int 3))) (gName 4))
  (tCut (tIfS (tAnd (tTest (tOp rGtI (tCB (rLenSeq K) (tCons (tVar 4) tNil)) (tC (.int 0)))) (tTest (tOp rEq (tCall (sp_take K) [] E0 (tCons (tVar 2) (tCons (tC (.int 3)) tNil))) (tC (.int 1))))) (tSeq (tAsg (tCall (sp_take K) [] E0 (tCons (tVar 2) (tCons (tCB (rLenSeq K) (tCons (tVar 4) tNil)) tNil))) (gName 5))
  (tAsg (tTup (tCons (tOp (rIxT K) (tOp (rIxL K) (tVar 4) (tVar 5)) (tC (.int 0))) (tCons (tOp (rIxT K) (tOp (rIxL K) (tVar 4) (tVar 5)) (tC (.int 0))) tNil))) (gSub (tVar 4) (tVar 5) rSetL)))
  tNext)
  (tSeq (tAsg (tMake (He.ga K "Language") (sp_init K) [] E0 (tCons (tCB (rListOf K) (tCons (tVar 3) tNil)) (tCons (tCB (rListOf K) (tCons (tVar 4) tNil)) tNil))) (gName 6))
  (tSeq (tAsg (tLc (iRng1 (tCons (tCall (sp_take K) [] E0 (tCons (tVar 2) (tCons (tC (.int 4)) tNil))) tNil)) (gName 16) tYes (tCall (sp_take K) [] E0 (tCons (tVar 2) (tCons (tC (.int 100)) tNil))) [16]) (gName 7))
  (tSeq (tAsg (tCall (sp_table K) [] E0 (tCons (tVar 3) tNil)) (gName 8))
  (tSeq (tAsg (tLst tNil) (gName 9))
  (tSeq (tFor (iList K (tLst (tCons (tCall (sp_grow K 7) [] E0 (tCons (tVar 2) (tCons (tVar 3) (tCons (tVar 7) (tCons (tC (.int 3)) tNil))))) (tCons (tCall (sp_grow K 7) [] E0 (tCons (tVar 2) (tCons (tVar 3) (tCons (tLst tNil) (tCons (tC (.int 3)) tNil))))) tNil)))) (gName 10)
  (tSeq (tAsg (tCall (sp_take K) [] E0 (tCons (tVar 2) (tCons (tC (.int 31)) tNil))) (gName 11))
  (tSeq (tAsg (tCall (sp_due K) [] E0 (tCons (tVar 8) (tCons (tVar 4) (tCons (tVar 10) (tCons (tVar 11) tNil))))) (gName 12))
  (tCut (tIfS (tAnd (tTest (tOp rEq (tOp (rIxT K) (tCall (sp_next K 40) [] E0 (tCons (tVar 8) (tCons (tVar 4) (tCons (tOp (rIxL K) (tVar 12) (tUn (rU fun i => .int (-i)) (tC (.int 1)))) tNil)))) (tC (.int 0))) (tC (.str "steps")))) (tTest (tOp rLeI (tCB (rLenSeq K) (tCons (tVar 12) tNil)) (tVar 11)))) (tAsg (tOp rSubI (tCB (rLenSeq K) (tCons (tVar 12) tNil)) (tC (.int 1))) (gName 11))
  tNext)
  (tDrop (tBM K "list" rAppend (tVar 9) (tCons (tTup (tCons (tVar 12) (tCons (tVar 11) tNil))) tNil)))))))
  (tSeq (tFor (iList K (tLst (tCons (tOp (rIxL K) (tVar 9) (tC (.int 0))) (tCons (tOp (rIxL K) (tVar 9) (tC (.int 1))) (tCons (tOp (rIxL K) (tVar 9) (tC (.int 0))) tNil))))) (gName 13)
  (tIfS (tNot (tB (tCall (sp_asked K) [] E0 (tCons (tVar 6) (tCons (tOp (rIxT K) (tVar 13) (tC (.int 0))) (tCons (tOp (rIxT K) (tVar 13) (tC (.int 1))) tNil)))))) (tRet (tC (.bl false)))
  tNext))
  (tSeq (tAsg (tOp (rIxL K) (tLst (tCons (tTup (tCons (tOp (rIxL K) (tOp (rIxT K) (tVar 1) (tC (.int 1))) (tC (.int 25))) (tCons (tOp (rIxL K) (tOp (rIxT K) (tOp (rIxL K) (tVar 9) (tC (.int 0))) (tC (.int 0))) (tC (.int 0))) tNil))) (tCons (tC (.int 100)) tNil))) (tCall (sp_take K) [] E0 (tCons (tVar 2) (tCons (tC (.int 2)) tNil)))) (gName 14))
  (tSeq (My.tTryZ K (.ref (He.ga K "TableError")) 15 (fun W => (My.tForX (My.tMethX (He.ga K "Language") "run" (sp_run K) [] (My.onlyW (He.ga K "BadForm") W) (tVar 6) (tCons (tVar 14) (tCons (tC (.int 3)) tNil)))))
  (fun a cls d => (tRet (tAndV (tCB (My.rIsZ K cls d a) (tCons (tVar 15) (tCons (tC (.ref (He.ga K "BadForm"))) tNil))) (tCall (sp_lsame K 40) [] E0 (tCons (My.tXfZ K a cls d "form" (tVar 15)) (tCons (tVar 14) tNil)))))))
  (tRet (tC (.bl false)))))))))))))))
namespace Ab
def t_law_R (K : PySem.W.Frag) : TS := (tSeq (tAsg (tOp (rIxT K) (tVar 1) (tC (.int 0))) (gName 2))
  (tSeq (tAsg (tOp (rIxT K) (tVar 1) (tC (.int 2))) (gName 3))
  (tSeq (tAsg (tOp (rIxT K) (tVar 1) (tC (.int 3))) (gName 4))
  (tCut (tIfS (tAnd (tTest (tOp rGtI (tCB (rLenSeq K) (tCons (tVar 4) tNil)) (tC (.int 0)))) (tTest (tOp rEq (tCall (sp_take K) [] E0 (tCons (tVar 2) (tCons (tC (.int 3)) tNil))) (tC (.int 1))))) (tSeq (tAsg (tCall (sp_take K) [] E0 (tCons (tVar 2) (tCons (tCB (rLenSeq K) (tCons (tVar 4) tNil)) tNil))) (gName 5))
  (tAsg (tTup (tCons (tOp (rIxT K) (tOp (rIxL K) (tVar 4) (tVar 5)) (tC (.int 0))) (tCons (tOp (rIxT K) (tOp (rIxL K) (tVar 4) (tVar 5)) (tC (.int 0))) tNil))) (gSub (tVar 4) (tVar 5) rSetL)))
  tNext)
  (tSeq (tAsg (tMake (He.ga K "Language") (sp_init K) [] E0 (tCons (tCB (rListOf K) (tCons (tVar 3) tNil)) (tCons (tCB (rListOf K) (tCons (tVar 4) tNil)) tNil))) (gName 6))
  (tSeq (tAsg (tLc (iRng1 (tCons (tCall (sp_take K) [] E0 (tCons (tVar 2) (tCons (tC (.int 4)) tNil))) tNil)) (gName 16) tYes (tCall (sp_take K) [] E0 (tCons (tVar 2) (tCons (tC (.int 100)) tNil))) [16]) (gName 7))
  (tSeq (tAsg (tCall (sp_table K) [] E0 (tCons (tVar 3) tNil)) (gName 8))
  (tSeq (tAsg (tLst tNil) (gName 9))
  (tSeq (tFor (iList K (tLst (tCons (tCall (sp_grow K 7) [] E0 (tCons (tVar 2) (tCons (tVar 3) (tCons (tVar 7) (tCons (tC (.int 3)) tNil))))) (tCons (tCall (sp_grow K 7) [] E0 (tCons (tVar 2) (tCons (tVar 3) (tCons (tLst tNil) (tCons (tC (.int 3)) tNil))))) tNil)))) (gName 10)
  (tSeq (tAsg (tCall (sp_take K) [] E0 (tCons (tVar 2) (tCons (tC (.int 31)) tNil))) (gName 11))
  (tSeq (tAsg (tCall (sp_due K) [] E0 (tCons (tVar 8) (tCons (tVar 4) (tCons (tVar 10) (tCons (tVar 11) tNil))))) (gName 12))
  (tCut (tIfS (tAnd (tTest (tOp rEq (tOp (rIxT K) (tCall (sp_next K 40) [] E0 (tCons (tVar 8) (tCons (tVar 4) (tCons (tOp (rIxL K) (tVar 12) (tUn (rU fun i => .int (-i)) (tC (.int 1)))) tNil)))) (tC (.int 0))) (tC (.str "steps")))) (tTest (tOp rLeI (tCB (rLenSeq K) (tCons (tVar 12) tNil)) (tVar 11)))) (tAsg (tOp rSubI (tCB (rLenSeq K) (tCons (tVar 12) tNil)) (tC (.int 1))) (gName 11))
  tNext)
  (tDrop (tBM K "list" rAppend (tVar 9) (tCons (tTup (tCons (tVar 12) (tCons (tVar 11) tNil))) tNil)))))))
  (tSeq (tFor (iList K (tLst (tCons (tOp (rIxL K) (tVar 9) (tC (.int 0))) (tCons (tOp (rIxL K) (tVar 9) (tC (.int 1))) (tCons (tOp (rIxL K) (tVar 9) (tC (.int 0))) tNil))))) (gName 13)
  (tIfS (tNot (tB (tCall (sp_asked K) [] E0 (tCons (tVar 6) (tCons (tOp (rIxT K) (tVar 13) (tC (.int 0))) (tCons (tOp (rIxT K) (tVar 13) (tC (.int 1))) tNil)))))) (tRet (tC (.bl false)))
  tNext))
  (tSeq (tAsg (tOp (rIxL K) (tLst (tCons (tTup (tCons (tOp (rIxL K) (tOp (rIxT K) (tVar 1) (tC (.int 1))) (tC (.int 25))) (tCons (tOp (rIxL K) (tOp (rIxT K) (tOp (rIxL K) (tVar 9) (tC (.int 0))) (tC (.int 0))) (tC (.int 0))) tNil))) (tCons (tC (.int 100)) tNil))) (tCall (sp_take K) [] E0 (tCons (tVar 2) (tCons (tC (.int 2)) tNil)))) (gName 14))
  (tSeq (tTryZ K (.ref (He.ga K "TableError")) 15 (fun W => (tForX (tMethX (He.ga K "Language") "run" (sp_run K) [] (onlyW (He.ga K "BadForm") W) (tVar 6) (tCons (tVar 14) (tCons (tC (.int 3)) tNil)))))
  (fun a cls d => (tRet (tAndV (tCB (rIsZ K cls d a) (tCons (tVar 15) (tCons (tC (.ref (He.ga K "BadForm"))) tNil))) (tCall (sp_lsame K 40) [] E0 (tCons (tXfZ K a cls d "form" (tVar 15)) (tCons (tVar 14) tNil)))))))
  (tRet (tC (.bl false)))))))))))))))
end Ab
def t_law (K : PySem.W.Frag) : TS := (tSeq (tAsg (tCall (sp_language K) [] E0 (tCons (tVar 0) (tCons (tC (.int 4)) tNil))) (gName 1))
  (t_law_R K))
abbrev N_law : List Str := ["_law_script", "_law_drawn", "_law_draws", "_law_signs_here", "_law_rules_here", "_law_at", "_law_language_here", "_law_holes_here", "_law_table_here", "_law_asked_here", "_law_form", "_law_most", "_law_due_here", "_law_pair", "_law_bad", "e", "_law_k"]
theorem rf_law_R {K : PySem.W.Frag} {E : XK} {X : AX} : RSt K E X (t_law_R K) (Ab.t_law_R K) := by
  have br_take := @My.rsp_take K
  unfold My.t_law_R Ab.t_law_R
  walk_at "rf"
theorem Ab.ab_law_R {K : PySem.W.Frag} (hK : TK K) {M : AM} {P : AK} {d r sg rl : Addr} {nms : List Str} {rows : List Row} {rules : List (Fm × Fm)} (hL : Lang M d r sg rl nms rows rules) (k : ∀ M', P (.bl true) M') :
    Ab.t_law_R K { nx := fun _ M' => P .non M', rt := P } [none, some (.tup [.ref d, .ref r, .ref sg, .ref rl]), none, none, none, none, none, none, none, none, none, none, none, none, none, none, none] M := by
  have hm := hL.ok.most
  have hm2 := hL.ru.most
  have hd := hL.d
  have hr := hL.r
  have hsg := hL.sg
  have hrl := hL.rl
  have ok := hL.ok
  have ru0 := hL.ru
  have nm := hL.nm
  clear hL
  unfold Ab.t_law_R
  walk_at "ay"
  refine ⟨fun s M' => ∃ (rules : List (Fm × Fm)) (o5 : Option A), RulesOk rows rules ∧ M' d = some .draws ∧ M' r = some (.lst (nms.map .str)) ∧ M' sg = some (.lst (rowsA rows)) ∧ M' rl = some (.lst (rules.map ruleA)) ∧ s = [none, some (.tup [.ref d, .ref r, .ref sg, .ref rl]), some (.ref d), some (.ref sg), some (.ref rl), o5, none, none, none, none, none, none, none, none, none, none, none], ?_, ?_⟩
  · have stay : ∀ o5 : Option A, ∃ (rules : List (Fm × Fm)) (o : Option A), RulesOk rows rules ∧ M d = some .draws ∧ M r = some (.lst (nms.map .str)) ∧ M sg = some (.lst (rowsA rows)) ∧ M rl = some (.lst (rules.map ruleA)) ∧ [none, some (.tup [.ref d, .ref r, .ref sg, .ref rl]), some (.ref d), some (.ref sg), some (.ref rl), o5, none, none, none, none, none, none, none, none, none, none, none] = [none, some (.tup [.ref d, .ref r, .ref sg, .ref rl]), some (.ref d), some (.ref sg), some (.ref rl), o, none, none, none, none, none, none, none, none, none, none, none] := fun o5 => ⟨rules, o5, ru0, hd, hr, hsg, hrl, rfl⟩
    walk_at "ay"
    refine Ab.g_2 (fun c => ?_) (fun c => ?_)
    · have c : 0 < rules.length := by have := of_decide_eq_true c; rw [List.length_map] at this; omega
      walk_at "ay"
      refine Ab.g_take (by walk_at "mm") (by decide) fun v v0 v1 => ?_
      walk_at "ay"
      refine Ab.g_2 (fun c2 => ?_) (fun c2 => ?_)
      · walk_at "ay"
        refine Ab.g_take (by walk_at "mm") (by rw [List.length_map]; omega) fun w w0 w1 => ?_
        rw [List.length_map] at w1
        obtain ⟨i, rfl⟩ : ∃ i : Nat, w = (i : Int) := ⟨w.toNat, by omega⟩
        have hil : i < rules.length := by omega
        obtain ⟨y, hy⟩ : ∃ y, rules[i]? = some y := ⟨_, List.getElem?_eq_getElem hil⟩
        have hy2 : L2.atI (rules.map ruleA) ((i : Nat) : Int) = some (ruleA y) := L2.atI_nat (by rw [List.getElem?_map, hy]; rfl)
        simp only [ruleA] at hy2
        walk_at "ay"
        have nl : ∀ {a : Addr} {xs : List A}, M a = some (.lst xs) → xs ≠ rules.map ruleA → a ≠ rl := fun {a xs} h n e => by
          rw [e, hrl] at h
          injection h with h
          injection h with h
          exact n h.symm
        have z0 : ∃ y0 rest, rules = y0 :: rest := by
          cases e : rules with
          | nil => rw [e] at c; exact absurd c (Nat.lt_irrefl 0)
          | cons y0 rest => exact ⟨_, _, rfl⟩
        have nr : r ≠ rl := nl hr (by
          obtain ⟨y0, rest, e⟩ := z0
          rw [e]
          cases nms with
          | nil => intro h; cases h
          | cons n0 ns => intro h; rw [List.map_cons, List.map_cons] at h; injection h with h; cases h)
        have ns : sg ≠ rl := nl hsg (by
          obtain ⟨y0, rest, e⟩ := z0
          rw [e]
          cases rows with
          | nil => intro h; cases h
          | cons n0 ns => intro h; rw [show rowsA (n0 :: ns) = n0.a :: rowsA ns from rfl, List.map_cons] at h; injection h with h; injection h with h; exact absurd (congrArg List.length h) (by simp))
        have nd : d ≠ rl := fun e => by rw [e, hrl] at hd; cases hd
        refine ⟨rl, rules.map ruleA, _, i, rfl, rfl, hrl, by (rw [List.length_map]; unfold L2.ixN; simp [hil]), ?_⟩
        exact ⟨rules.set i (y.1, y.1), _, ru0.own ok hy, lk_ne nd hd, lk_ne nr hr, lk_ne ns hsg, by rw [aupd_same, List.map_set], rfl⟩
      · walk_at "ay"
        exact stay _
    · walk_at "ay"
      exact stay _
  clear hd hr hsg hrl ru0
  clear hm2
  rintro s M ⟨rules, o5, ru, hd, hr, hsg, hrl, rfl⟩
  have hm2 := ru.most
  have hR := ok.w
  have hRu := rulesW_of ok ru
  have hRv : ∀ y ∈ rules, RuleV rows 21 3 y := fun y hy => ruleV_of (ru.ok y hy)
  have e3 : gB 3 = 85 := rfl
  walk_at "ay"
  refine Ab.g_newA fun p M1 s1 hp n1 => ?_
  walk_at "ay"
  refine Ab.g_newA fun q M2 s2 hq n2 => ?_
  walk_at "ay"
  refine Ab.g_langS hK.lk (p := p) (q := q) (by walk_at "mm") (by walk_at "mm") ok ru fun x M3 S s3 hS f1 => ?_
  walk_at "ay"
  refine Ab.g_take (by walk_at "mm") (by decide) fun v v0 v1 => ?_
  walk_at "ay"
  refine ⟨by omega, by omega, Ab.lc_out A.int (fun i : Int => 0 ≤ i ∧ i ≤ 99) trivial (bigl (by rw [Ab.ints_len]; omega)) (fun i x' hx' Yes hy => ?_) fun is hil his => ?_⟩
  · walk_at "ay"
    refine Ab.g_take (by walk_at "mm") (by decide) fun u u0 u1 => ?_
    exact hy u (by omega)
  rw [Ab.ints_len] at hil
  refine Ab.g_newA fun hs M4 s4 hhs n4 => ?_
  walk_at "ay"
  refine Ab.g_table (by walk_at "mm") ok.nd (by omega) (Ab.g_newO fun tq M5 s5 htq _ => ?_)
  walk_at "ay"
  refine Ab.g_newA fun l M6 s6 hl n6 => ?_
  walk_at "ay"
  refine ⟨d, sg, hs, rows, is, 3, rfl, by omega, by walk_at "mm", by walk_at "mm", by walk_at "mm", by omega, by omega, ok.leaf, fun r hr => (ok.ok r hr).pl, fun f hf => ?_⟩
  walk_at "ay"
  refine Ab.g_newA fun hs2 M7 s7 hhs2 n7 => ?_
  walk_at "ay"
  refine ⟨d, sg, hs2, rows, [], 3, rfl, by omega, by walk_at "mm", by walk_at "mm", hhs2, by omega, by simp, ok.leaf, fun r hr => (ok.ok r hr).pl, fun g hg => ?_⟩
  walk_at "ay"
  refine Ab.g_newA fun l2 M8 s8 hl2 n8 => ?_
  walk_at "ay"
  have t5 : Sub M3 M5 := by walk_at "su"
  replace hS := hS.up t5
  replace hd : M5 d = some .draws := by walk_at "mm"
  replace hr : M5 r = some (.lst (nms.map .str)) := by walk_at "mm"
  replace hrl : M5 rl = some (.lst (rules.map ruleA)) := by walk_at "mm"
  replace htq : M5 tq = some (.dK (rowKvs rows)) := by walk_at "mm"
  have t8 : Sub M5 M8 := by walk_at "su"
  have hl8 : M8 l = some (.lst []) := by walk_at "mm"
  have ne : l2 ≠ l := fun e => by rw [e] at n8; rw [s7.at hl] at n8; cases n8
  clear s1 s2 s3 s4 s5 s7 s8 n1 n2 n4 n7 n8 f1 t5
  have good : ∀ z : Fm, z = f ∨ z = g → FormS rows z ∧ z.size ≤ 85 ∧ z.depth ≤ 4 := by
    rintro z (rfl | rfl)
    · have h1 := hf.size
      have h2 := hf.depth
      exact ⟨⟨hf.over, fun i hi => his i (hf.holes i hi), by omega, by omega⟩, by omega, by omega⟩
    · have h1 := hg.size
      have h2 := hg.depth
      exact ⟨⟨hg.over, fun i hi => (by have := hg.holes i hi; cases this), by omega, by omega⟩, by omega, by omega⟩
  refine Ab.for_ (fun i s M' => ∃ (zs : List (Addr × Nat × List Fm)) (o1 o2 o3 : Option A), zs.length = i ∧ Sub M5 M' ∧ M' l2 = some (.lst [f.a, g.a]) ∧ M' l = some (.lst (zs.map AskdZ)) ∧ (∀ z ∈ zs, Askd rows rules M' l z) ∧ s = [none, some (.tup [.ref d, .ref r, .ref sg, .ref rl]), some (.ref d), some (.ref sg), some (.ref rl), o5, some (.ref x), some (.ref hs), some (.ref tq), some (.ref l), o1, o2, o3, none, none, none, none]) ⟨[], _, _, _, rfl, t8, hl2, hl8, fun z hz => (by cases hz), rfl⟩ ?_ ?_ ?_
  · rintro i s M' _ ⟨zs, o1, o2, o3, _, _, h, _⟩
    exact h
  · rintro i y s M' hy ⟨zs, o1, o2, o3, rfl, t', hl2', hl', hz', rfl⟩
    obtain ⟨z, hz, rfl⟩ := getA (f := Fm.a) (xs := [f, g]) hy
    have hz := List.mem_of_getElem? hz
    obtain ⟨z1, z2, z3⟩ := good z (by simp only [List.mem_cons, List.not_mem_nil, or_false] at hz; exact hz)
    walk_at "ay"
    refine Ab.g_take (t'.at hd) (by decide) fun v v0 v1 => ?_
    obtain ⟨n, rfl⟩ : ∃ n : Nat, v = (n : Int) := ⟨v.toNat, by omega⟩
    walk_at "ay"
    refine ⟨tq, rl, z, n, rows, rules, rfl, by omega, t'.at htq, t'.at hrl, hR, hRu, hRv, z1, fun L p N1 hL hp sp np => ?_⟩
    walk_at "ay"
    have hll := hL.len
    have hl0 := (List.getElem?_eq_some_iff.mp hL.z).1
    have hlast : L[L.length - 1]? = some L[L.length - 1] := List.getElem?_eq_getElem (by omega)
    obtain ⟨u, hlast⟩ : ∃ u, L[L.length - 1]? = some u := ⟨_, hlast⟩
    have hu := hL.ok u (List.mem_of_getElem? hlast)
    have u1 := hu.size
    have u2 := hu.depth
    have atl : L2.atI (L.map Fm.a) (-1) = some u.a := by
      have e : L = L.take (L.length - 1) ++ [u] := by
        have := (pre_at hlast).2
        rw [← this, List.take_of_length_le (by omega)]
      rw [e, List.map_append]
      exact L2.atI_last _ _
    have t1 := t'.trans sp
    have htq1 := t1.at htq
    have hrl1 := t1.at hrl
    have hln : (L.map Fm.a).length = L.length := List.length_map ..
    refine ⟨fun s M1 => ∃ (m : Nat), m ≤ 30 ∧ RunL rows rules z m L ∧ M1 = N1 ∧ s = [none, some (.tup [.ref d, .ref r, .ref sg, .ref rl]), some (.ref d), some (.ref sg), some (.ref rl), o5, some (.ref x), some (.ref hs), some (.ref tq), some (.ref l), some z.a, some (.int (m : Int)), some (.ref p), none, none, none, none], ?_, ?_⟩
    · have stop : (∀ h b k, advF rows rules u ≠ .steps h b k) → RunL rows rules z n L := fun h => hL.run n (.inr ⟨rfl, .inr fun g hg => by rw [hlast] at hg; cases hg; exact h⟩)
      walk_at "ay"
      refine ⟨tq, rl, u, rows, rules, rfl, by omega, by omega, by omega, htq1, hrl1, hR, hRu, hu.over, (fun i hi => by have := hu.holes i hi; omega), ?_⟩
      cases e : advF rows rules u with
      | steps h b j =>
        simp only [StR.a]
        walk_at "ay"
        refine Ab.g_2 (fun c => ?_) (fun c => ?_)
        · have c : L.length ≤ n := by have := of_decide_eq_true c; rw [hln] at this; omega
          walk_at "ay"
          refine ⟨L.length - 1, by omega, hL.run _ (.inl (by omega)), rfl, ?_⟩
          have : ((L.length : Nat) : Int) - 1 = ((L.length - 1 : Nat) : Int) := by omega
          rw [hln, this]
          rfl
        · have c : ¬ L.length ≤ n := by have := of_decide_eq_false c; rw [hln] at this; omega
          walk_at "ay"
          exact ⟨n, by omega, hL.run _ (.inl (by omega)), rfl, rfl⟩
      | done =>
        simp only [StR.a]
        walk_at "ay"
        exact ⟨n, by omega, stop (fun h b k z => by rw [e] at z; cases z), rfl, rfl⟩
      | stuck =>
        simp only [StR.a]
        walk_at "ay"
        exact ⟨n, by omega, stop (fun h b k z => by rw [e] at z; cases z), rfl, rfl⟩
      | waits v =>
        simp only [StR.a]
        walk_at "ay"
        exact ⟨n, by omega, stop (fun h b k z => by rw [e] at z; cases z), rfl, rfl⟩
      | asks v =>
        simp only [StR.a]
        walk_at "ay"
        exact ⟨n, by omega, stop (fun h b k z => by rw [e] at z; cases z), rfl, rfl⟩
    · rintro s M1 ⟨m, hm30, hrun, rfl, rfl⟩
      have hil := (List.getElem?_eq_some_iff.mp hy).1
      have hl1 := sp.at hl'
      have hl21 := sp.at hl2'
      have np1 : p ≠ l := fun e => by rw [e, hl'] at np; cases np
      walk_at "ay"
      refine Ab.g_append hl1 (bigl (by rw [List.length_map]; have : zs.length < 2 := hil; omega)) ?_
      refine ⟨zs ++ [(p, m, L)], _, _, _, by simp, fun a o e => by rw [aupd_ne (ne_of_anone e n6)]; exact t1 a o e, lk_ne ne hl21, by rw [aupd_same, List.map_append]; rfl, fun w hw => ?_, rfl⟩
      rcases List.mem_append.mp hw with hw | hw
      · have q := hz' w hw
        exact ⟨q.ex, q.m, lk_ne q.ne (sp.at q.at_), q.ne⟩
      · rw [List.mem_singleton.mp hw]
        exact ⟨⟨z, z2, z3, known_of hR.nd z1.over z1.holes, hrun⟩, hm30, lk_ne np1 hp, np1⟩
  · rintro s M' ⟨zs, o1, o2, o3, hzl, t', hl2', hl', hz', rfl⟩
    obtain ⟨⟨pa, ma, La⟩, ⟨pb, mb, Lb⟩, rfl⟩ : ∃ a b, zs = [a, b] := by
      match zs, hzl with
      | [a, b], _ => exact ⟨a, b, rfl⟩
    obtain ⟨⟨fa, xa1, xa2, xa6, xa3⟩, xa4, xa5, _⟩ := hz' (pa, ma, La) (by simp)
    obtain ⟨⟨fb, xb1, xb2, xb6, xb3⟩, xb4, xb5, _⟩ := hz' (pb, mb, Lb) (by simp)
    dsimp only at xa1 xa2 xa3 xa4 xa5 xb1 xb2 xb3 xb4 xb5
    replace hl' : M' l = some (.lst [.tup [.ref pa, .int (ma : Int)], .tup [.ref pb, .int (mb : Int)]]) := hl'
    clear hz' hzl hl2'
    walk_at "ay"
    refine Ab.g_newA fun l3 M9 s9 hl3 _ => ?_
    walk_at "ay"
    have t9 := t'.trans s9
    refine Ab.for_ (fun i s N => N = M9 ∧ ∃ o4 : Option A, s = [none, some (.tup [.ref d, .ref r, .ref sg, .ref rl]), some (.ref d), some (.ref sg), some (.ref rl), o5, some (.ref x), some (.ref hs), some (.ref tq), some (.ref l), o1, o2, o3, o4, none, none, none]) ⟨rfl, _, rfl⟩ ?_ ?_ ?_
    · rintro i s N _ ⟨rfl, _⟩
      exact hl3
    · rintro i y s N hy ⟨rfl, o4, rfl⟩
      have one : ∃ (pz : Addr) (mz : Nat) (Lz : List Fm) (fz : Fm), y = .tup [.ref pz, .int (mz : Int)] ∧ mz ≤ 30 ∧ knownF rows fz = true ∧ RunL rows rules fz mz Lz ∧ N pz = some (.lst (Lz.map Fm.a)) := by
        have := List.mem_of_getElem? hy
        simp only [List.mem_cons, List.not_mem_nil, or_false] at this
        rcases this with rfl | rfl | rfl
        · exact ⟨pa, ma, La, fa, rfl, xa4, xa6, xa3, s9.at xa5⟩
        · exact ⟨pb, mb, Lb, fb, rfl, xb4, xb6, xb3, s9.at xb5⟩
        · exact ⟨pa, ma, La, fa, rfl, xa4, xa6, xa3, s9.at xa5⟩
      obtain ⟨pz, mz, Lz, fz, rfl, y1, y4, y2, y3⟩ := one
      walk_at "ay"
      refine ⟨x, pz, fz, mz, rows, rules, S, Lz, rfl, by omega, hK, hS.up t9, hR, hRu, y4, y2, y3, ?_⟩
      walk_at "ay"
      exact ⟨rfl, _, rfl⟩
    · rintro s N ⟨rfl, o4, rfl⟩
      have hnl := nm.least
      obtain ⟨s25, h25⟩ : ∃ s, nms[25]? = some s := ⟨_, List.getElem?_eq_getElem (by omega)⟩
      have e25 : L2.atI (nms.map A.str) 25 = some (.str s25) := L2.atI_nat (j := 25) (by rw [List.getElem?_map, h25]; rfl)
      have e0 : L2.atI (La.map Fm.a) 0 = some fa.a := L2.atI_nat (j := 0) (by rw [List.getElem?_map, xa3.z]; rfl)
      have hl9 := s9.at hl'
      have xa9 := s9.at xa5
      have hr9 := t9.at hr
      have hd9 := t9.at hd
      walk_at "ay"
      refine Ab.g_newA fun l4 N2 s10 hl4 _ => ?_
      walk_at "ay"
      refine Ab.g_take (s10.at hd9) (by decide) fun v v0 v1 => ?_
      have bad : ∃ z : Fm, L2.atI [A.tup [.str s25, fa.a], .int 100] v = some z.a ∧ knownF rows z = false ∧ z.depth ≤ 5 ∧ z.size ≤ 86 := by
        obtain rfl | rfl : v = 0 ∨ v = 1 := by omega
        · refine ⟨.node s25 [fa], rfl, ?_, by simp only [Fm.depth, Fm.depths]; omega, by simp only [Fm.size, Fm.sizes]; omega⟩
          simp only [knownF, strange nm ok h25, Bool.false_and]
        · exact ⟨.hole 100, rfl, rfl, by simp [Fm.depth], by simp [Fm.size]⟩
      obtain ⟨z, z1, z2, z3, z4⟩ := bad
      walk_at "ay"
      try refine Ab.g_tryZ ?_
      unfold Ab.tForX Ab.tMethX
      obtain ⟨a1, a2, a3, a4, ox⟩ := (hS.up (t9.trans s10)).ox
      walk_at "ay"
      refine ⟨x, z, 3, rows, rules, S, [], rfl, by omega, by omega, by omega, hK, hS.up (t9.trans s10), hR, hRu, fun _ => ⟨rfl, hK.be, fun a dd hdd => ?_⟩, fun c => by rw [z2] at c; cases c⟩
      walk_at "ay"
      refine Ab.g_isZ (.inr ⟨dd, _, rfl, aupd_same⟩) hK.bc hK.b1 ?_
      walk_at "ay"
      refine ⟨rfl, hK.xf, hK.bf.2, dd, _, _, rfl, aupd_same, rfl, ?_⟩
      walk_at "ay"
      refine ⟨z, rfl, by omega, by omega, ?_⟩
      walk_at "ay"
      exact k _
theorem rd_law {K : PySem.W.Frag} (hK : TK K) {vs : List V} {H : Hp} {Q : VK} {E : XK} (h : spLaw K vs H Q E) : t_law K { nx := fun _ H' => Q .non H', rt := Q } (L2.start N_law vs) H := by
  obtain ⟨a, ns, rfl, hS, h63, k⟩ := h
  unfold t_law
  walk_at "go"
  refine ⟨a, ns, 4, rfl, hS, h63, by decide, fun v H' M d r sg rl nms rows rules rp rv hL => ?_⟩
  walk_at "go"
  refine (rf_law_R (E := L2.E0) (X := Ab.E0)).run F0 _ H' [none, some (.tup [.ref d, .ref r, .ref sg, .ref rl]), none, none, none, none, none, none, none, none, none, none, none, none, none, none, none] M _ _ XOk.no ?_ rp (Ab.ab_law_R hK hL (P := fun a _ => a = .bl true) fun _ => rfl) ⟨?_, ?_, fun _ _ _ _ h => h.elim, fun _ _ _ _ h => h.elim⟩
  · exact RS.skip (RS.keep rv (RS.skip (RS.skip (RS.skip (RS.skip (RS.skip (RS.skip (RS.skip (RS.skip (RS.skip (RS.skip (RS.skip (RS.skip (RS.skip (RS.skip (RS.skip RS.nil))))))))))))))))
  · rintro _ _ _ _ e
    cases e
  · rintro x M' v H' e _ rv _
    rw [e] at rv
    rw [RV.bl_iff.mp rv]
    exact k H'

end My

namespace Prog
open PySem PySem.Spec PyProof.Rows L2 My
theorem sc_take : FnScope N_take ["_law_draws", "_law_many"] (defScope s_take) := ⟨rfl, rfl, rfl, by decide +kernel, rfl, by decide +kernel, by decide +kernel⟩
theorem sc_stream : FnScope N_stream ["_law_script"] (defScope s_stream) := ⟨rfl, rfl, rfl, by decide +kernel, rfl, by decide +kernel, by decide +kernel⟩
theorem sc_names : FnScope N_names ["_law_cells"] (defScope s_names) := ⟨rfl, rfl, rfl, by decide +kernel, rfl, by decide +kernel, by decide +kernel⟩
theorem sc_worked : FnScope N_worked ["_law_draws", "_law_places", "_law_least"] (defScope s_worked) := ⟨rfl, rfl, rfl, by decide +kernel, rfl, by decide +kernel, by decide +kernel⟩
theorem sc_signs : FnScope N_signs ["_law_draws", "_law_names_here"] (defScope s_signs) := ⟨rfl, rfl, rfl, by decide +kernel, rfl, by decide +kernel, by decide +kernel⟩
theorem sc_looks : FnScope N_looks ["_law_draws", "_law_row", "_law_done_here", "_law_ways"] (defScope s_looks) := ⟨rfl, rfl, rfl, by decide +kernel, rfl, by decide +kernel, by decide +kernel⟩
theorem sc_left : FnScope N_left ["_law_draws", "_law_row", "_law_looks_here"] (defScope s_left) := ⟨rfl, rfl, rfl, by decide +kernel, rfl, by decide +kernel, by decide +kernel⟩
theorem sc_lholes : FnScope N_lholes ["_law_form"] (defScope s_lholes) := ⟨rfl, rfl, rfl, by decide +kernel, rfl, by decide +kernel, by decide +kernel⟩
theorem sc_grow : FnScope N_grow ["_law_draws", "_law_signs_here", "_law_holes_here", "_law_depth"] (defScope s_grow) := ⟨rfl, rfl, rfl, by decide +kernel, rfl, by decide +kernel, by decide +kernel⟩
theorem sc_rules : FnScope N_rules ["_law_draws", "_law_signs_here", "_law_ways"] (defScope s_rules) := ⟨rfl, rfl, rfl, by decide +kernel, rfl, by decide +kernel, by decide +kernel⟩
theorem sc_language : FnScope N_language ["_law_script", "_law_ways"] (defScope s_language) := ⟨rfl, rfl, rfl, by decide +kernel, rfl, by decide +kernel, by decide +kernel⟩
theorem sc_word : FnScope N_word ["text"] (defScope s_word) := ⟨rfl, rfl, rfl, by decide +kernel, rfl, by decide +kernel, by decide +kernel⟩
theorem sc_holes : FnScope N_holes ["form"] (defScope s_holes) := ⟨rfl, rfl, rfl, by decide +kernel, rfl, by decide +kernel, by decide +kernel⟩
theorem sc_rowok : FnScope N_rowok ["row"] (defScope s_rowok) := ⟨rfl, rfl, rfl, by decide +kernel, rfl, by decide +kernel, by decide +kernel⟩
theorem sc_known : FnScope N_known ["row_of", "form"] (defScope s_known) := ⟨rfl, rfl, rfl, by decide +kernel, rfl, by decide +kernel, by decide +kernel⟩
theorem sc_ruleok : FnScope N_ruleok ["row_of", "left", "right"] (defScope s_ruleok) := ⟨rfl, rfl, rfl, by decide +kernel, rfl, by decide +kernel, by decide +kernel⟩
theorem sc_overl : FnScope N_overl ["left", "other"] (defScope s_overl) := ⟨rfl, rfl, rfl, by decide +kernel, rfl, by decide +kernel, by decide +kernel⟩
theorem sc_init : FnScope N_init ["self", "signs", "rules"] (defScope s_init) := ⟨rfl, rfl, rfl, by decide +kernel, rfl, by decide +kernel, by decide +kernel⟩
theorem sc_fill : FnScope N_fill ["form", "parts"] (defScope s_fill) := ⟨rfl, rfl, rfl, by decide +kernel, rfl, by decide +kernel, by decide +kernel⟩
theorem sc_putp : FnScope N_putp ["form", "place", "part"] (defScope s_putp) := ⟨rfl, rfl, rfl, by decide +kernel, rfl, by decide +kernel, by decide +kernel⟩
theorem sc_opening : FnScope N_opening ["left", "form", "worked"] (defScope s_opening) := ⟨rfl, rfl, rfl, by decide +kernel, rfl, by decide +kernel, by decide +kernel⟩
theorem sc_bound : FnScope N_bound ["left", "form"] (defScope s_bound) := ⟨rfl, rfl, rfl, by decide +kernel, rfl, by decide +kernel, by decide +kernel⟩
theorem sc_isdone : FnScope N_isdone ["self", "form"] (defScope s_isdone) := ⟨rfl, rfl, rfl, by decide +kernel, rfl, by decide +kernel, by decide +kernel⟩
theorem sc_fire : FnScope N_fire ["self", "form", "worked"] (defScope s_fire) := ⟨rfl, rfl, rfl, by decide +kernel, rfl, by decide +kernel, by decide +kernel⟩
theorem sc_advance : FnScope N_advance ["self", "form"] (defScope s_advance) := ⟨rfl, rfl, rfl, by decide +kernel, rfl, by decide +kernel, by decide +kernel⟩
theorem sc_table : FnScope N_table ["_law_signs_here"] (defScope s_table) := ⟨rfl, rfl, rfl, by decide +kernel, rfl, by decide +kernel, by decide +kernel⟩
theorem sc_ldone : FnScope N_ldone ["_law_table_here", "_law_form"] (defScope s_ldone) := ⟨rfl, rfl, rfl, by decide +kernel, rfl, by decide +kernel, by decide +kernel⟩
theorem sc_lfill : FnScope N_lfill ["_law_form", "_law_parts"] (defScope s_lfill) := ⟨rfl, rfl, rfl, by decide +kernel, rfl, by decide +kernel, by decide +kernel⟩
theorem sc_match : FnScope N_match ["_law_left_here", "_law_form"] (defScope s_match) := ⟨rfl, rfl, rfl, by decide +kernel, rfl, by decide +kernel, by decide +kernel⟩
theorem sc_next : FnScope N_next ["_law_table_here", "_law_rules_here", "_law_form"] (defScope s_next) := ⟨rfl, rfl, rfl, by decide +kernel, rfl, by decide +kernel, by decide +kernel⟩
theorem sc_lsame : FnScope N_lsame ["_law_answer", "_law_due_here"] (defScope s_lsame) := ⟨rfl, rfl, rfl, by decide +kernel, rfl, by decide +kernel, by decide +kernel⟩
theorem sc_lsize : FnScope N_lsize ["_law_form"] (defScope s_lsize) := ⟨rfl, rfl, rfl, by decide +kernel, rfl, by decide +kernel, by decide +kernel⟩
theorem sc_llev : FnScope N_llev ["_law_form"] (defScope s_llev) := ⟨rfl, rfl, rfl, by decide +kernel, rfl, by decide +kernel, by decide +kernel⟩
theorem sc_run : GScope N_run ["self", "form", "most"] (defScope s_run) := ⟨rfl, rfl, rfl, by decide +kernel, rfl, by decide +kernel, by decide +kernel⟩
theorem sc_due : FnScope N_due ["_law_table_here", "_law_rules_here", "_law_form", "_law_most"] (defScope s_due) := ⟨rfl, rfl, rfl, by decide +kernel, rfl, by decide +kernel, by decide +kernel⟩
theorem sc_asked : FnScope N_asked ["_law_language_here", "_law_due_here", "_law_most"] (defScope s_asked) := ⟨rfl, rfl, rfl, by decide +kernel, rfl, by decide +kernel, by decide +kernel⟩
theorem sc_law : FnScope N_law ["_law_script"] (defScope s_law) := ⟨rfl, rfl, rfl, by decide +kernel, rfl, by decide +kernel, by decide +kernel⟩
theorem sc_init_BadSign : SupScope ["self", "index"] ["self", "index"] (defScope s_init_BadSign) := ⟨rfl, rfl, rfl, by decide +kernel, rfl, by decide +kernel, by decide +kernel, by decide +kernel, rfl, rfl⟩
theorem sc_init_BadRule : SupScope ["self", "index"] ["self", "index"] (defScope s_init_BadRule) := ⟨rfl, rfl, rfl, by decide +kernel, rfl, by decide +kernel, by decide +kernel, by decide +kernel, rfl, rfl⟩
theorem sc_init_Overlap : SupScope ["self", "first", "second"] ["self", "first", "second"] (defScope s_init_Overlap) := ⟨rfl, rfl, rfl, by decide +kernel, rfl, by decide +kernel, by decide +kernel, by decide +kernel, rfl, rfl⟩
theorem sc_init_BadForm : SupScope ["self", "form"] ["self", "form"] (defScope s_init_BadForm) := ⟨rfl, rfl, rfl, by decide +kernel, rfl, by decide +kernel, by decide +kernel, by decide +kernel, rfl, rfl⟩
theorem SaysP.fact {P : Program} {K : PySem.W.Frag} (c : SaysP P K) (i : Nat) {f : He.Fa} (h : fa[i]? = some f := by rfl) : f.ok K = true := c.c.fact i h
theorem SaysP.more {P : Program} {K : PySem.W.Frag} (c : SaysP P K) (i : Nat) {x : Ex} (h : ex[i]? = some x := by rfl) : x K = true := c.c.more i h
theorem SaysP.defC {P : Program} {K : PySem.W.Frag} (c : SaysP P K) (i : Nat) {d : DefM} (h : fn[i]? = some d := by rfl) : ∃ fd, FunC K d.name d.qual d.params d.body d.scope (d.cl K) (d.at_ K) fd := c.c.defC i h
theorem SaysP.def_ {P : Program} {K : PySem.W.Frag} (c : SaysP P K) (i : Nat) {d : DefM} (h : fn[i]? = some d := by rfl) (hc : d.clo = [] := by rfl) : ∃ fd, FunD K d.name d.qual d.params d.body d.scope [] [] (d.at_ K) fd := c.c.def_ i h hc
section
variable {P : Program} {w : World} {K : PySem.W.Frag} {mg : Str → Option Value} {base : Heap} {h : Heap}
theorem ok_err_BadSign (X : K.In h) (G : h.Ns mainGlobals mg) (c : SaysP P K) : ErrK P w K mg base 1 "BadSign" "BadSign" "index" := by
  obtain ⟨h1, h2, h3, h4, h5⟩ := errM_ok (c.more 4 (x := errM "BadSign" "BadSign" "index" "/claim/cut.py") rfl)
  obtain ⟨fd, F⟩ := c.defC 37 (d := d_init_BadSign) rfl
  refine ⟨h1, h2, h3, h4, He.glo_ok X G (c.fact 62 (f := .glo "BadSign") rfl), fd, ["self", "index"], ?_, FunC.bindsN F (fun _ _ _ _ _ _ us hl => match us, hl with | [_, _], _ => rfl)⟩
  exact fn_init (t := tOst K "index" (tVar 0) (tVar 1)) F sc_init_BadSign h1.cellAt h5 c.hf c.ht rfl rfl rfl init1_len (init1_sp rfl) (fun cdv A outer s H E => pss_one (ps_ost (pv 0) (pv 1))) (fun _ _ => rfl)
theorem ok_err_BadRule (X : K.In h) (G : h.Ns mainGlobals mg) (c : SaysP P K) : ErrK P w K mg base 1 "BadRule" "BadRule" "index" := by
  obtain ⟨h1, h2, h3, h4, h5⟩ := errM_ok (c.more 5 (x := errM "BadRule" "BadRule" "index" "/claim/cut.py") rfl)
  obtain ⟨fd, F⟩ := c.defC 38 (d := d_init_BadRule) rfl
  refine ⟨h1, h2, h3, h4, He.glo_ok X G (c.fact 63 (f := .glo "BadRule") rfl), fd, ["self", "index"], ?_, FunC.bindsN F (fun _ _ _ _ _ _ us hl => match us, hl with | [_, _], _ => rfl)⟩
  exact fn_init (t := tOst K "index" (tVar 0) (tVar 1)) F sc_init_BadRule h1.cellAt h5 c.hf c.ht rfl rfl rfl init1_len (init1_sp rfl) (fun cdv A outer s H E => pss_one (ps_ost (pv 0) (pv 1))) (fun _ _ => rfl)
theorem ok_err_Overlap (X : K.In h) (G : h.Ns mainGlobals mg) (c : SaysP P K) : ErrK2 P w K mg base 1 "Overlap" "Overlap" "first" "second" := by
  obtain ⟨h1, h2, h2b, h3, h4, h5⟩ := errM2_ok (c.more 6 (x := errM2 "Overlap" "Overlap" "first" "second" "/claim/cut.py") rfl)
  obtain ⟨fd, F⟩ := c.defC 39 (d := d_init_Overlap) rfl
  refine ⟨h1, h2, h2b, h3, h4, He.glo_ok X G (c.fact 64 (f := .glo "Overlap") rfl), fd, ["self", "first", "second"], ?_, FunC.bindsN F (fun _ _ _ _ _ _ us hl => match us, hl with | [_, _, _], _ => rfl)⟩
  exact fn_init (t := tSeq (tOst K "first" (tVar 0) (tVar 1)) (tOst K "second" (tVar 0) (tVar 2))) F sc_init_Overlap h1.cellAt h5 c.hf c.ht rfl rfl rfl init2_len (init2_sp rfl) (fun cdv A outer s H E => pss_cons (ps_ost (pv 0) (pv 1)) (pss_one (ps_ost (pv 0) (pv 2)))) (fun _ _ => rfl)
theorem ok_err_BadForm (X : K.In h) (G : h.Ns mainGlobals mg) (c : SaysP P K) : ErrK P w K mg base 1 "BadForm" "BadForm" "form" := by
  obtain ⟨h1, h2, h3, h4, h5⟩ := errM_ok (c.more 7 (x := errM "BadForm" "BadForm" "form" "/claim/cut.py") rfl)
  obtain ⟨fd, F⟩ := c.defC 40 (d := d_init_BadForm) rfl
  refine ⟨h1, h2, h3, h4, He.glo_ok X G (c.fact 50 (f := .glo "BadForm") rfl), fd, ["self", "form"], ?_, FunC.bindsN F (fun _ _ _ _ _ _ us hl => match us, hl with | [_, _], _ => rfl)⟩
  exact fn_init (t := tOst K "form" (tVar 0) (tVar 1)) F sc_init_BadForm h1.cellAt h5 c.hf c.ht rfl rfl rfl init1_len (init1_sp rfl) (fun cdv A outer s H E => pss_one (ps_ost (pv 0) (pv 1))) (fun _ _ => rfl)
theorem ok_take (X : K.In h) (G : h.Ns mainGlobals mg) (c : SaysP P K) : Cl P w K mg base CX0 1 "_law_take" (sp_take K) := by
  obtain ⟨fd, F⟩ := c.def_ 0 (d := d_take) rfl
  have f_int := He.free_ok X G (c.fact 33 (f := .free "int") rfl)
  have f_len := He.free_ok X G (c.fact 34 (f := .free "len") rfl)
  refine ⟨_, fd, ["_law_draws", "_law_many"], F.ok sc_take (fun vs H Q E h => len_take h) (fun cdv A outer s H vs Q E hr h => ⟨t_take K, PSs.nox ?_, rd_take h⟩), He.glo_ok X G (c.fact 0 (f := .glo "_law_take") rfl), F.kp, FunD.bindsN F (fun _ _ _ _ _ _ us hl => match us, hl with | [_, _], _ => rfl)⟩
  exact (pss_cons (ps_if (pt_cmpR op_eq (pe_callB call_len_seq rfl f_len boot_len (pa_cons (pv 0) pa_nil)) pe_int (nomark _)) (pss_one (ps_ret pe_int))
    pss_nil)
    (pss_one (ps_ret (pe_op op_mod (pe_callTy call_int1 rfl f_int boot_int (pa_cons (pe_bm PySem.F.plainAttrs_list PySem.F.slot_list_pop PySem.F.type_list_pop mt_popAt (pv 0) (pa_cons pe_int pa_nil)) pa_nil)) (pv 1)))))
theorem ok_stream (X : K.In h) (G : h.Ns mainGlobals mg) (c : SaysP P K) : Cl P w K mg base CX0 1 "_law_stream" (sp_stream K) := by
  obtain ⟨fd, F⟩ := c.def_ 1 (d := d_stream) rfl
  have f_abs := He.free_ok X G (c.fact 35 (f := .free "abs") rfl)
  have f_int := He.free_ok X G (c.fact 33 (f := .free "int") rfl)
  have f_len := He.free_ok X G (c.fact 34 (f := .free "len") rfl)
  have f_range := He.free_ok X G (c.fact 36 (f := .free "range") rfl)
  refine ⟨_, fd, ["_law_script"], F.ok sc_stream (fun vs H Q E h => len_stream h) (fun cdv A outer s H vs Q E hr h => ⟨t_stream K, PSs.nox ?_, rd_stream h⟩), He.glo_ok X G (c.fact 1 (f := .glo "_law_stream") rfl), F.kp, FunD.bindsN F (fun _ _ _ _ _ _ us hl => match us, hl with | [_], _ => rfl)⟩
  exact (pss_cons (ps_set (i := 1) sc_stream.nd rfl (Or.inl rfl) (pe_lst pa_nil))
    (pss_cons (ps_set (i := 2) sc_stream.nd rfl (Or.inl rfl) pe_int)
    (pss_cons (ps_for PassesOwn.never rfl (pi_list (pv 0)) (pg_name (i := 3) sc_stream.nd rfl (Or.inl rfl))
    (pss_cons (ps_set (i := 4) sc_stream.nd rfl (Or.inl rfl) (pe_callB call_abs rfl f_abs boot_abs (pa_cons (pe_callTy call_int1 rfl f_int boot_int (pa_cons (pv 3) pa_nil)) pa_nil)))
    (pss_cut (ps_if (pt_cmpR op_lt (pv 4) (pe_op op_pow pe_int pe_int) (nomark _)) (pss_cons (ps_expr (pe_bm PySem.F.plainAttrs_list PySem.F.slot_list_append PySem.F.type_list_append mt_append (pv 1) (pa_cons (pe_op op_mod (pe_callTy call_int1 rfl f_int boot_int (pa_cons (pv 3) pa_nil)) pe_int) pa_nil)))
    (pss_one (ps_set (i := 4) sc_stream.nd rfl (Or.inl rfl) pe_int)))
    pss_nil)
    (pss_cons (ps_for PassesOwn.never rfl (pi_range1 rfl f_range (pa_cons pe_int pa_nil)) (pg_name (i := 5) sc_stream.nd rfl (Or.inl rfl))
    (pss_one (ps_if (pt_cmpR op_gt (pv 4) pe_int (nomark _)) (pss_cons (ps_expr (pe_bm PySem.F.plainAttrs_list PySem.F.slot_list_append PySem.F.type_list_append mt_append (pv 1) (pa_cons (pe_op op_mod (pe_callTy call_int1 rfl f_int boot_int (pa_cons (pv 4) pa_nil)) pe_int) pa_nil)))
    (pss_one (ps_set (i := 4) sc_stream.nd rfl (Or.inl rfl) (pe_op op_fdiv (pv 4) pe_int))))
    pss_nil)))
    (pss_one (ps_set (i := 2) sc_stream.nd rfl (Or.inl rfl) (pe_op op_add (pe_op op_mod (pe_callTy call_int1 rfl f_int boot_int (pa_cons (pe_op op_add (pe_op op_mul (pv 2) pe_int) (pe_callTy call_int1 rfl f_int boot_int (pa_cons (pv 3) pa_nil))) pa_nil)) pe_int) pe_int)))))))
    (pss_cons (ps_set (i := 6) sc_stream.nd rfl (Or.inl rfl) (pe_op op_add (pe_op op_mul (pv 2) pe_int) pe_int))
    (pss_cons (ps_for PassesOwn.never rfl (pi_range1 rfl f_range (pa_cons (pe_op op_mul pe_int (pe_callTy call_int1 rfl f_int boot_int (pa_cons (pe_cmpR op_gt (pe_callB call_len_seq rfl f_len boot_len (pa_cons (pv 0) pa_nil)) pe_int (nomark _)) pa_nil))) pa_nil)) (pg_name (i := 5) sc_stream.nd rfl (Or.inl rfl))
    (pss_cons (ps_set (i := 2) sc_stream.nd rfl (Or.inl rfl) (pe_op op_mod (pe_callTy call_int1 rfl f_int boot_int (pa_cons (pe_op op_mul (pv 2) pe_int) pa_nil)) pe_int))
    (pss_cons (ps_set (i := 6) sc_stream.nd rfl (Or.inl rfl) (pe_op op_mod (pe_callTy call_int1 rfl f_int boot_int (pa_cons (pe_op op_mul (pv 6) pe_int) pa_nil)) pe_int))
    (pss_one (ps_expr (pe_bm PySem.F.plainAttrs_list PySem.F.slot_list_append PySem.F.type_list_append mt_append (pv 1) (pa_cons (pe_op op_mod (pe_callTy call_int1 rfl f_int boot_int (pa_cons (pe_op op_add (pe_op op_fdiv (pv 2) pe_int) (pe_op op_fdiv (pv 6) pe_int)) pa_nil)) pe_int) pa_nil)))))))
    (pss_one (ps_ret (pe_slice sl_list (pv 1) po_none (po_some pe_int)))))))))
theorem ok_names (X : K.In h) (G : h.Ns mainGlobals mg) (c : SaysP P K) : Cl P w K mg base CX0 1 "_law_names" (sp_names K) := by
  obtain ⟨fd, F⟩ := c.def_ 2 (d := d_names) rfl
  have f_abs := He.free_ok X G (c.fact 35 (f := .free "abs") rfl)
  have f_int := He.free_ok X G (c.fact 33 (f := .free "int") rfl)
  have f_range := He.free_ok X G (c.fact 36 (f := .free "range") rfl)
  have f_sum := He.free_ok X G (c.fact 37 (f := .free "sum") rfl)
  refine ⟨_, fd, ["_law_cells"], F.ok sc_names (fun vs H Q E h => len_names h) (fun cdv A outer s H vs Q E hr h => ⟨t_names K, PSs.nox ?_, rd_names h⟩), He.glo_ok X G (c.fact 2 (f := .glo "_law_names") rfl), F.kp, FunD.bindsN F (fun _ _ _ _ _ _ us hl => match us, hl with | [_], _ => rfl)⟩
  exact (pss_cons (ps_set (i := 1) sc_names.nd rfl (Or.inr rfl) pe_str)
    (pss_cons (ps_set (i := 2) sc_names.nd rfl (Or.inl rfl) (pe_callB call_abs rfl f_abs boot_abs (pa_cons (pe_callB (cr_sum rfl) rfl f_sum boot_sum (pa_cons (pe_lc (own := [("_law_cell", 12)]) (g := (gName 12)) (tt := tYes) rfl sc_names.nd  (pi_list (pv 0)) (blkOk_by (own := [("_law_cell", 12)]) (N := N_names) (sc := defScope s_names) (by decide +kernel)) (fun _ _ _ _ _ => pg_name (i := 12) sc_names.nd rfl (Or.inl rfl)) (fun _ _ _ _ _ => pts_nil) (fun _ _ _ _ _ => (pe_callTy call_int1 rfl f_int boot_int (pa_cons (pv 12) pa_nil)))) pa_nil)) pa_nil)))
    (pss_cut (ps_if (PW.pt (pw_and (pt_cmpR op_lt pe_int (pv 2) (nomark _)) (pw_and1 (pt_cmpR op_lt (pv 2) (pe_op op_pow pe_int pe_int) (nomark _))))) (pss_one (ps_set (i := 2) sc_names.nd rfl (Or.inl rfl) (pe_op op_pow (pe_op op_add (pv 2) pe_int) pe_int)))
    pss_nil)
    (pss_cons (ps_set (i := 3) sc_names.nd rfl (Or.inl rfl) (pe_ix ix_list (pe_lst (pa_cons pe_int (pa_cons pe_int (pa_cons pe_int (pa_cons pe_int (pa_cons pe_int (pa_cons pe_int (pa_cons pe_int (pa_cons pe_int (pa_cons pe_int (pa_cons pe_int (pa_cons pe_int (pa_cons pe_int pa_nil))))))))))))) (pe_op op_mod (pe_callTy call_int1 rfl f_int boot_int (pa_cons (pv 2) pa_nil)) pe_int) (fun _ _ => rfl)))
    (pss_cons (ps_set (i := 4) sc_names.nd rfl (Or.inl rfl) (pe_op op_mod (pe_callTy call_int1 rfl f_int boot_int (pa_cons (pe_op op_fdiv (pv 2) pe_int) pa_nil)) pe_int))
    (pss_cons (ps_set (i := 5) sc_names.nd rfl (Or.inl rfl) (pe_op op_mod (pe_callTy call_int1 rfl f_int boot_int (pa_cons (pe_op op_fdiv (pv 2) pe_int) pa_nil)) pe_int))
    (pss_cons (ps_set (i := 2) sc_names.nd rfl (Or.inl rfl) (pe_op op_fdiv (pv 2) pe_int))
    (pss_cons (ps_set (i := 6) sc_names.nd rfl (Or.inr rfl) (pe_lst pa_nil))
    (pss_cons (ps_for PassesOwn.never rfl (pi_range1 rfl f_range (pa_cons pe_int pa_nil)) (pg_name (i := 7) sc_names.nd rfl (Or.inl rfl))
    (pss_cons (ps_set (i := 8) sc_names.nd rfl (Or.inl rfl) (pe_ix ix_str (pv 1) (pe_op op_mod (pe_callTy call_int1 rfl f_int boot_int (pa_cons (pe_op op_add (pe_op op_mul (pv 7) (pv 3)) (pv 4)) pa_nil)) pe_int) (fun _ _ => rfl)))
    (pss_cons (ps_set (i := 9) sc_names.nd rfl (Or.inl rfl) (pe_slice sl_str (pe_slice sl_str (pe_op op_add_str (pv 1) (pv 1)) (po_some (pe_op op_mod (pe_callTy call_int1 rfl f_int boot_int (pa_cons (pv 2) pa_nil)) pe_int)) po_none) po_none (po_some (pe_op op_mod (pe_callTy call_int1 rfl f_int boot_int (pa_cons (pe_op op_fdiv (pv 2) pe_int) pa_nil)) pe_int))))
    (pss_cons (ps_expr (pe_bm PySem.F.plainAttrs_list PySem.F.slot_list_append PySem.F.type_list_append mt_append (pv 6) (pa_cons (pe_ix ix_list (pe_lst (pa_cons (pe_op op_add_str (pv 8) (pv 9)) (pa_cons (pe_op op_add_str (pv 9) (pv 8)) pa_nil))) (pv 5) (fun _ _ => rfl)) pa_nil)))
    (pss_one (ps_set (i := 2) sc_names.nd rfl (Or.inl rfl) (pe_op op_fdiv (pv 2) pe_int)))))))
    (pss_cons (ps_setLc (i := 10) (own := [("_law_k", 7)]) (g := (gName 7)) (tt := tYes) rfl sc_names.nd rfl rfl (sw_true rfl rfl rfl (by decide +kernel)) (pi_range1 rfl f_range (pa_cons pe_int pa_nil)) (blkOk_by (own := [("_law_k", 7)]) (N := N_names) (sc := defScope s_names) (by decide +kernel)) (fun _ _ _ _ _ => pg_name (i := 7) sc_names.nd rfl (Or.inl rfl)) (fun _ _ _ _ _ => pts_nil) (fun _ _ _ _ _ => (pe_op op_add_str (pe_ix ix_str (pv 1) (pe_op op_mod (pe_callTy call_int1 rfl f_int boot_int (pa_cons (pv 7) pa_nil)) pe_int) (fun _ _ => rfl)) (pe_ix ix_str (pv 1) (pe_op op_mod (pe_callTy call_int1 rfl f_int boot_int (pa_cons (pe_op op_add (pe_op op_add (pe_op op_mul (pv 7) pe_int) (pe_op op_fdiv (pv 7) pe_int)) pe_int) pa_nil)) pe_int) (fun _ _ => rfl)))))
    (pss_one (ps_ret (pe_op op_cat (pv 6) (pe_lc (own := [("_law_name", 11)]) (g := (gName 11)) (tt := (tTest (tOp (rIn K true) (tVar 11) (tVar 6)))) rfl sc_names.nd  (pi_list (pv 10)) (blkOk_by (own := [("_law_name", 11)]) (N := N_names) (sc := defScope s_names) (by decide +kernel)) (fun _ _ _ _ _ => pg_name (i := 11) sc_names.nd rfl (Or.inl rfl)) (fun _ _ _ _ _ => pts_one (pt_cmpR op_notIn_seq (pv 11) (pv 6) (by with_unfolding_all rfl))) (fun _ _ _ _ _ => (pv 11))))))))))))))))
theorem ok_worked (X : K.In h) (G : h.Ns mainGlobals mg) (c : SaysP P K) : Cl P w K mg base CX0 2 "_law_worked" (sp_worked K) := by
  obtain ⟨fd, F⟩ := c.def_ 3 (d := d_worked) rfl
  have f_range := He.free_ok X G (c.fact 36 (f := .free "range") rfl)
  have f_tuple := He.free_ok X G (c.fact 38 (f := .free "tuple") rfl)
  have c_take := ok_take (P := P) (w := w) (base := base) X G c
  refine ⟨_, fd, ["_law_draws", "_law_places", "_law_least"], F.ok sc_worked (fun vs H Q E h => len_worked h) (fun cdv A outer s H vs Q E hr h => ⟨t_worked K, PSs.nox ?_, rd_worked h⟩), He.glo_ok X G (c.fact 3 (f := .glo "_law_worked") rfl), F.kp, FunD.bindsN F (fun _ _ _ _ _ _ us hl => match us, hl with | [_, _, _], _ => rfl)⟩
  exact (pss_cons (ps_set (i := 3) sc_worked.nd rfl (Or.inl rfl) (pe_lst pa_nil))
    (pss_cons (ps_for PassesOwn.never rfl (pi_range1 rfl f_range (pa_cons (pv 1) pa_nil)) (pg_name (i := 4) sc_worked.nd rfl (Or.inl rfl))
    (pss_one (ps_expr (pe_bm PySem.F.plainAttrs_list PySem.F.slot_list_insert PySem.F.type_list_insert mt_insert (pv 3) (pa_cons (pe_cl c_take hr (by omega) pass0 (pa_cons (pv 0) (pa_cons (pe_op op_add (pv 4) pe_int) pa_nil))) (pa_cons (pv 4) pa_nil))))))
    (pss_one (ps_ret (pe_callTy call_tuple_of rfl f_tuple boot_tuple (pa_cons (pe_slice sl_list (pv 3) po_none (po_some (pe_op op_sub (pv 1) (pe_cl c_take hr (by omega) pass0 (pa_cons (pv 0) (pa_cons (pe_op op_add (pe_op op_sub (pv 1) (pv 2)) pe_int) pa_nil)))))) pa_nil))))))
theorem ok_signs (X : K.In h) (G : h.Ns mainGlobals mg) (c : SaysP P K) : Cl P w K mg base CX0 3 "_law_signs" (sp_signs K) := by
  obtain ⟨fd, F⟩ := c.def_ 4 (d := d_signs) rfl
  have f_int := He.free_ok X G (c.fact 33 (f := .free "int") rfl)
  have f_len := He.free_ok X G (c.fact 34 (f := .free "len") rfl)
  have f_range := He.free_ok X G (c.fact 36 (f := .free "range") rfl)
  have c_take := ok_take (P := P) (w := w) (base := base) X G c
  have c_worked := ok_worked (P := P) (w := w) (base := base) X G c
  refine ⟨_, fd, ["_law_draws", "_law_names_here"], F.ok sc_signs (fun vs H Q E h => len_signs h) (fun cdv A outer s H vs Q E hr h => ⟨t_signs K, PSs.nox ?_, rd_signs h⟩), He.glo_ok X G (c.fact 4 (f := .glo "_law_signs") rfl), F.kp, FunD.bindsN F (fun _ _ _ _ _ _ us hl => match us, hl with | [_, _], _ => rfl)⟩
  exact (pss_cons (ps_set (i := 2) sc_signs.nd rfl (Or.inl rfl) (pe_op op_add pe_int (pe_cl c_take hr (by omega) pass0 (pa_cons (pv 0) (pa_cons pe_int pa_nil)))))
    (pss_cons (ps_set (i := 3) sc_signs.nd rfl (Or.inl rfl) (pe_lst (pa_cons (pe_tup (pa_cons (pe_ix ix_list (pv 1) pe_int (fun _ _ => rfl)) (pa_cons pe_int (pa_cons (pe_tup pa_nil) (pa_cons pe_bl pa_nil))))) (pa_cons (pe_tup (pa_cons (pe_ix ix_list (pv 1) pe_int (fun _ _ => rfl)) (pa_cons (pv 2) (pa_cons (pe_cl c_worked hr (by omega) pass0 (pa_cons (pv 0) (pa_cons (pv 2) (pa_cons pe_int pa_nil)))) (pa_cons pe_bl pa_nil))))) pa_nil))))
    (pss_cut (ps_if (pt_cmpR op_gt (pe_cl c_take hr (by omega) pass0 (pa_cons (pv 0) (pa_cons pe_int pa_nil))) pe_int (nomark _)) (pss_cons (ps_set (i := 2) sc_signs.nd rfl (Or.inl rfl) (pe_cl c_take hr (by omega) pass0 (pa_cons (pv 0) (pa_cons pe_int pa_nil))))
    (pss_one (ps_expr (pe_bm PySem.F.plainAttrs_list PySem.F.slot_list_append PySem.F.type_list_append mt_append (pv 3) (pa_cons (pe_tup (pa_cons (pe_ix ix_list (pv 1) pe_int (fun _ _ => rfl)) (pa_cons (pv 2) (pa_cons (pe_cl c_worked hr (by omega) pass0 (pa_cons (pv 0) (pa_cons (pv 2) (pa_cons pe_int pa_nil)))) (pa_cons pe_bl pa_nil))))) pa_nil)))))
    pss_nil)
    (pss_cons (ps_for PassesOwn.never rfl (pi_range1 rfl f_range (pa_cons (pe_op op_add pe_int (pe_cl c_take hr (by omega) pass0 (pa_cons (pv 0) (pa_cons pe_int pa_nil)))) pa_nil)) (pg_name (i := 4) sc_signs.nd rfl (Or.inl rfl))
    (pss_cons (ps_set (i := 2) sc_signs.nd rfl (Or.inl rfl) (pe_op op_mod (pe_callTy call_int1 rfl f_int boot_int (pa_cons (pe_op op_add pe_int (pe_cl c_take hr (by omega) pass0 (pa_cons (pv 0) (pa_cons pe_int pa_nil)))) pa_nil)) pe_int))
    (pss_one (ps_expr (pe_bm PySem.F.plainAttrs_list PySem.F.slot_list_append PySem.F.type_list_append mt_append (pv 3) (pa_cons (pe_tup (pa_cons (pe_ix ix_list (pv 1) (pe_op op_add pe_int (pv 4)) (fun _ _ => rfl)) (pa_cons (pv 2) (pa_cons (pe_cl c_worked hr (by omega) pass0 (pa_cons (pv 0) (pa_cons (pv 2) (pa_cons pe_int pa_nil)))) (pa_cons pe_bl pa_nil))))) pa_nil))))))
    (pss_cons (ps_set (i := 5) sc_signs.nd rfl (Or.inl rfl) (pe_cl c_take hr (by omega) pass0 (pa_cons (pv 0) (pa_cons (pe_callB call_len_seq rfl f_len boot_len (pa_cons (pv 3) pa_nil)) pa_nil))))
    (pss_one (ps_ret (pe_op op_cat (pe_slice sl_list (pv 3) (po_some (pv 5)) po_none) (pe_slice sl_list (pv 3) po_none (po_some (pv 5)))))))))))
theorem ok_looks (X : K.In h) (G : h.Ns mainGlobals mg) (c : SaysP P K) : Cl P w K mg base CX0 2 "_law_looks" (sp_looks K) := by
  obtain ⟨fd, F⟩ := c.def_ 5 (d := d_looks) rfl
  have f_int := He.free_ok X G (c.fact 33 (f := .free "int") rfl)
  have f_len := He.free_ok X G (c.fact 34 (f := .free "len") rfl)
  have c_take := ok_take (P := P) (w := w) (base := base) X G c
  refine ⟨_, fd, ["_law_draws", "_law_row", "_law_done_here", "_law_ways"], F.ok sc_looks (fun vs H Q E h => len_looks h) (fun cdv A outer s H vs Q E hr h => ⟨t_looks K, PSs.nox ?_, rd_looks h⟩), He.glo_ok X G (c.fact 5 (f := .glo "_law_looks") rfl), F.kp, FunD.bindsN F (fun _ _ _ _ _ _ us hl => match us, hl with | [_, _, _, _], _ => rfl)⟩
  exact (pss_cons (ps_set (i := 4) sc_looks.nd rfl (Or.inl rfl) (pe_cl c_take hr (by omega) pass0 (pa_cons (pv 0) (pa_cons (pv 3) pa_nil))))
    (pss_cons (ps_if (PW.pt (pw_or (pt_cmpR op_eq (pe_callB call_len_seq rfl f_len boot_len (pa_cons (pe_ix ix_tup (pv 1) pe_int (fun _ _ => rfl)) pa_nil)) pe_int (nomark _)) (pw_or1 (pt_cmpR op_eq (pv 4) pe_int (nomark _))))) (pss_one (ps_ret (pe_slice sl_list (pe_lst (pa_cons (pe_lst pa_nil) pa_nil)) (po_some (pe_callTy call_int1 rfl f_int boot_int (pa_cons (pe_cmpR op_eq (pe_cl c_take hr (by omega) pass0 (pa_cons (pv 0) (pa_cons pe_int pa_nil))) pe_int (nomark _)) pa_nil))) po_none)))
    pss_nil)
    (pss_cons (ps_set (i := 5) sc_looks.nd rfl (Or.inr rfl) (pe_ix ix_tup (pe_ix ix_tup (pv 1) pe_int (fun _ _ => rfl)) (pe_cl c_take hr (by omega) pass0 (pa_cons (pv 0) (pa_cons (pe_callB call_len_seq rfl f_len boot_len (pa_cons (pe_ix ix_tup (pv 1) pe_int (fun _ _ => rfl)) pa_nil)) pa_nil))) (fun _ _ => rfl)))
    (pss_cons (ps_set (i := 6) sc_looks.nd rfl (Or.inr rfl) (pe_lc (own := [("_law_place", 10)]) (g := (gName 10)) (tt := (tTest (tOp rNe (tVar 10) (tVar 5)))) rfl sc_looks.nd  (pi_tup (pe_ix ix_tup (pv 1) pe_int (fun _ _ => rfl))) (blkOk_by (own := [("_law_place", 10)]) (N := N_looks) (sc := defScope s_looks) (by decide +kernel)) (fun _ _ _ _ _ => pg_name (i := 10) sc_looks.nd rfl (Or.inl rfl)) (fun _ _ _ _ _ => pts_one (pt_cmpR op_ne (pv 10) (pv 5) (nomark _))) (fun _ _ _ _ _ => (pv 10))))
    (pss_cons (ps_set (i := 7) sc_looks.nd rfl (Or.inl rfl) (pe_lst pa_nil))
    (pss_cons (ps_for PassesOwn.never rfl (pi_list (pv 2)) (pg_name (i := 8) sc_looks.nd rfl (Or.inr rfl))
    (pss_one (ps_if (PW.pt (pw_and (pt_cmpR op_lt (pe_cl c_take hr (by omega) pass0 (pa_cons (pv 0) (pa_cons pe_int pa_nil))) pe_int (nomark _)) (pw_and1 (PW.pt (pw_or (pt_cmpR op_lt (pv 4) pe_int (nomark _)) (pw_or1 (pt_cmpR op_eq (pe_callB call_len_seq rfl f_len boot_len (pa_cons (pv 6) pa_nil)) pe_int (nomark _)))))))) (pss_one (ps_expr (pe_bm PySem.F.plainAttrs_list PySem.F.slot_list_append PySem.F.type_list_append mt_append (pv 7) (pa_cons (pe_lst (pa_cons (pe_tup (pa_cons (pv 5) (pa_cons (pv 8) pa_nil))) pa_nil)) pa_nil))))
    (pss_one (ps_if (PW.pt (pw_and (pt_cmpR op_eq (pv 4) pe_int (nomark _)) (pw_and1 (pt_cmpR op_gt (pe_callB call_len_seq rfl f_len boot_len (pa_cons (pv 6) pa_nil)) pe_int (nomark _))))) (pss_cons (ps_setLc (i := 9) (own := [("_law_other", 11)]) (g := (gName 11)) (tt := (tTest (tOp rLtI (tCall (sp_take K) [] E0 (tCons (tVar 0) (tCons (tC (.int 4)) tNil))) (tC (.int 3))))) rfl sc_looks.nd rfl rfl (sw_true rfl rfl rfl (by decide +kernel)) (pi_list (pv 2)) (blkOk_by (own := [("_law_other", 11)]) (N := N_looks) (sc := defScope s_looks) (by decide +kernel)) (fun _ _ _ _ _ => pg_name (i := 11) sc_looks.nd rfl (Or.inl rfl)) (fun _ _ _ _ _ => pts_one (pt_cmpR op_lt (pe_cl c_take hr (by omega) pass0 (pa_cons (pv 0) (pa_cons pe_int pa_nil))) pe_int (nomark _))) (fun _ _ _ _ _ => (pv 11)))
    (pss_one (ps_set (i := 7) sc_looks.nd rfl (Or.inl rfl) (pe_op op_cat (pv 7) (pe_lc (own := [("_law_other", 11)]) (g := (gName 11)) (tt := tYes) rfl sc_looks.nd  (pi_list (pv 9)) (blkOk_by (own := [("_law_other", 11)]) (N := N_looks) (sc := defScope s_looks) (by decide +kernel)) (fun _ _ _ _ _ => pg_name (i := 11) sc_looks.nd rfl (Or.inl rfl)) (fun _ _ _ _ _ => pts_nil) (fun _ _ _ _ _ => (pe_lst (pa_cons (pe_tup (pa_cons (pv 5) (pa_cons (pv 8) pa_nil))) (pa_cons (pe_tup (pa_cons (pe_ix ix_list (pv 6) pe_int (fun _ _ => rfl)) (pa_cons (pv 11) pa_nil))) pa_nil)))))))))
    pss_nil)))))
    (pss_one (ps_ret (pv 7)))))))))
theorem ok_left (X : K.In h) (G : h.Ns mainGlobals mg) (c : SaysP P K) : Cl P w K mg base CX0 2 "_law_left" (sp_left K) := by
  obtain ⟨fd, F⟩ := c.def_ 6 (d := d_left) rfl
  have f_int := He.free_ok X G (c.fact 33 (f := .free "int") rfl)
  have f_isinstance := He.free_ok X G (c.fact 39 (f := .free "isinstance") rfl)
  have f_range := He.free_ok X G (c.fact 36 (f := .free "range") rfl)
  have f_tuple := He.free_ok X G (c.fact 38 (f := .free "tuple") rfl)
  have c_take := ok_take (P := P) (w := w) (base := base) X G c
  refine ⟨_, fd, ["_law_draws", "_law_row", "_law_looks_here"], F.ok sc_left (fun vs H Q E h => len_left h) (fun cdv A outer s H vs Q E hr h => ⟨t_left K, PSs.nox ?_, rd_left h⟩), He.glo_ok X G (c.fact 6 (f := .glo "_law_left") rfl), F.kp, FunD.bindsN F (fun _ _ _ _ _ _ us hl => match us, hl with | [_, _, _], _ => rfl)⟩
  exact (pss_cons (ps_set (i := 3) sc_left.nd rfl (Or.inr rfl) (pe_cl c_take hr (by omega) pass0 (pa_cons (pv 0) (pa_cons pe_int pa_nil))))
    (pss_cons (ps_set (i := 4) sc_left.nd rfl (Or.inr rfl) (pe_ix ix_list (pe_lst (pa_cons pe_int (pa_cons pe_int (pa_cons pe_int (pa_cons pe_int (pa_cons pe_int (pa_cons pe_int (pa_cons pe_int pa_nil)))))))) (pe_cl c_take hr (by omega) pass0 (pa_cons (pv 0) (pa_cons pe_int pa_nil))) (fun _ _ => rfl)))
    (pss_cons (ps_set (i := 5) sc_left.nd rfl (Or.inl rfl) (pe_lst (pa_cons (pe_ix ix_tup (pv 1) pe_int (fun _ _ => rfl)) pa_nil)))
    (pss_cons (ps_for PassesOwn.never rfl (pi_range1 rfl f_range (pa_cons (pe_ix ix_tup (pv 1) pe_int (fun _ _ => rfl)) pa_nil)) (pg_name (i := 6) sc_left.nd rfl (Or.inl rfl))
    (pss_cons (ps_set (i := 7) sc_left.nd rfl (Or.inl rfl) (pe_lst (pa_cons (pv 3) pa_nil)))
    (pss_cons (ps_for PassesOwn.never rfl (pi_list (pv 2)) (pg_name (i := 8) sc_left.nd rfl (Or.inl rfl))
    (pss_one (ps_if (pt_cmpR op_eq (pe_ix ix_tup (pv 8) pe_int (fun _ _ => rfl)) (pv 6) (nomark _)) (pss_one (ps_set (i := 7) sc_left.nd rfl (Or.inl rfl) (pe_op op_cat (pe_lst (pa_cons (pe_ix ix_tup (pe_ix ix_tup (pv 8) pe_int (fun _ _ => rfl)) pe_int (fun _ _ => rfl)) pa_nil)) (pe_lc (own := [("_law_k", 9)]) (g := (gName 9)) (tt := tYes) rfl sc_left.nd  (pi_range1 rfl f_range (pa_cons (pe_ix ix_tup (pe_ix ix_tup (pv 8) pe_int (fun _ _ => rfl)) pe_int (fun _ _ => rfl)) pa_nil)) (blkOk_by (own := [("_law_k", 9)]) (N := N_left) (sc := defScope s_left) (by decide +kernel)) (fun _ _ _ _ _ => pg_name (i := 9) sc_left.nd rfl (Or.inl rfl)) (fun _ _ _ _ _ => pts_nil) (fun _ _ _ _ _ => (pe_op op_mod (pe_callTy call_int1 rfl f_int boot_int (pa_cons (pe_op op_add (pv 3) (pe_op op_mul (pv 9) (pv 4))) pa_nil)) pe_int))))))
    pss_nil)))
    (pss_cons (ps_set (i := 3) sc_left.nd rfl (Or.inr rfl) (pe_op op_mod (pe_callTy call_int1 rfl f_int boot_int (pa_cons (pe_op op_add (pv 3) (pe_op op_mul pe_int (pv 4))) pa_nil)) pe_int))
    (pss_one (ps_expr (pe_bm PySem.F.plainAttrs_list PySem.F.slot_list_append PySem.F.type_list_append mt_append (pv 5) (pa_cons (pe_ix ix_list (pe_lst (pa_cons (pe_callTy call_tuple_of rfl f_tuple boot_tuple (pa_cons (pv 7) pa_nil)) (pa_cons (pe_ix ix_list (pv 7) pe_int (fun _ _ => rfl)) pa_nil))) (pe_callTy call_int1 rfl f_int boot_int (pa_cons (pe_callB call_isi rfl f_isinstance boot_isinstance (pa_cons (pe_ix ix_list (pv 7) pe_int (fun _ _ => rfl)) (pa_cons (pe_bltn rfl f_int boot_int rfl) pa_nil))) pa_nil)) (fun _ _ => rfl)) pa_nil))))))))
    (pss_one (ps_ret (pe_callTy call_tuple_of rfl f_tuple boot_tuple (pa_cons (pv 5) pa_nil))))))))
theorem ok_lholes (X : K.In h) (G : h.Ns mainGlobals mg) (c : SaysP P K) : ∀ n : Nat, Cl P w K mg base CX0 (0 + n) "_law_holes" (sp_lholes K n) := by
  obtain ⟨fd, F⟩ := c.def_ 7 (d := d_lholes) rfl
  have f_int := He.free_ok X G (c.fact 33 (f := .free "int") rfl)
  have f_isinstance := He.free_ok X G (c.fact 39 (f := .free "isinstance") rfl)
  have gl := He.glo_ok X G (c.fact 7 (f := .glo "_law_holes") rfl)
  have bd := FunD.bindsN (ps := ["_law_form"]) F (fun _ _ _ _ _ _ us hl => match us, hl with | [_], _ => rfl)
  intro n
  induction n with
  | zero => exact ⟨_, fd, ["_law_form"], ⟨fun vs H Q E h => absurd h (no_lholes vs H Q E), fun A outer s H args us vs Q E _ _ _ _ h => absurd h (no_lholes vs H Q E)⟩, gl, F.kp, bd⟩
  | succ n ih =>
    refine ⟨_, fd, ["_law_form"], F.ok (k := 0 + n) sc_lholes (fun vs H Q E h => len_lholes h) (fun cdv A outer s H vs Q E hr h => ⟨t_lholes K (sp_lholes K n), PSs.nox ?_, rd_lholes h⟩), gl, F.kp, bd⟩
    exact (pss_cons (ps_set (i := 1) sc_lholes.nd rfl (Or.inl rfl) (pe_lst (pa_cons (pv 0) pa_nil)))
    (pss_cons (ps_if (pt_not (pt_val (pe_callB call_isi rfl f_isinstance boot_isinstance (pa_cons (pv 0) (pa_cons (pe_bltn rfl f_int boot_int rfl) pa_nil))))) (pss_cons (ps_set (i := 1) sc_lholes.nd rfl (Or.inl rfl) (pe_lst pa_nil))
    (pss_one (ps_for PassesOwn.never rfl (pi_tup (pe_slice sl_tup (pv 0) (po_some pe_int) po_none)) (pg_name (i := 2) sc_lholes.nd rfl (Or.inl rfl))
    (pss_one (ps_set (i := 1) sc_lholes.nd rfl (Or.inl rfl) (pe_op op_cat (pv 1) (pe_cl ih hr (by omega) pass0 (pa_cons (pv 2) pa_nil))))))))
    pss_nil)
    (pss_one (ps_ret (pv 1)))))
theorem ok_grow (X : K.In h) (G : h.Ns mainGlobals mg) (c : SaysP P K) : ∀ n : Nat, Cl P w K mg base CX0 (1 + n) "_law_grow" (sp_grow K n) := by
  obtain ⟨fd, F⟩ := c.def_ 8 (d := d_grow) rfl
  have f_len := He.free_ok X G (c.fact 34 (f := .free "len") rfl)
  have f_range := He.free_ok X G (c.fact 36 (f := .free "range") rfl)
  have f_tuple := He.free_ok X G (c.fact 38 (f := .free "tuple") rfl)
  have c_take := ok_take (P := P) (w := w) (base := base) X G c
  have gl := He.glo_ok X G (c.fact 8 (f := .glo "_law_grow") rfl)
  have bd := FunD.bindsN (ps := ["_law_draws", "_law_signs_here", "_law_holes_here", "_law_depth"]) F (fun _ _ _ _ _ _ us hl => match us, hl with | [_, _, _, _], _ => rfl)
  intro n
  induction n with
  | zero => exact ⟨_, fd, ["_law_draws", "_law_signs_here", "_law_holes_here", "_law_depth"], ⟨fun vs H Q E h => absurd h (no_grow vs H Q E), fun A outer s H args us vs Q E _ _ _ _ h => absurd h (no_grow vs H Q E)⟩, gl, F.kp, bd⟩
  | succ n ih =>
    refine ⟨_, fd, ["_law_draws", "_law_signs_here", "_law_holes_here", "_law_depth"], F.ok (k := 1 + n) sc_grow (fun vs H Q E h => len_grow h) (fun cdv A outer s H vs Q E hr h => ⟨t_grow K (sp_grow K n), PSs.nox ?_, rd_grow h⟩), gl, F.kp, bd⟩
    exact (pss_cons (ps_if (PW.pt (pw_or (pt_cmpR op_eq (pv 3) pe_int (nomark _)) (pw_or1 (pt_cmpR op_eq (pe_cl c_take hr (by omega) pass0 (pa_cons (pv 0) (pa_cons pe_int pa_nil))) pe_int (nomark _))))) (pss_cons (ps_if (PW.pt (pw_and (pt_cmpR op_gt (pe_callB call_len_seq rfl f_len boot_len (pa_cons (pv 2) pa_nil)) pe_int (nomark _)) (pw_and1 (pt_cmpR op_lt (pe_cl c_take hr (by omega) pass0 (pa_cons (pv 0) (pa_cons pe_int pa_nil))) pe_int (nomark _))))) (pss_one (ps_ret (pe_ix ix_list (pv 2) (pe_cl c_take hr (by omega) pass0 (pa_cons (pv 0) (pa_cons (pe_callB call_len_seq rfl f_len boot_len (pa_cons (pv 2) pa_nil)) pa_nil))) (fun _ _ => rfl))))
    pss_nil)
    (pss_one (ps_ret (pe_tup (pa_cons (pe_ix ix_list (pe_lc (own := [("_law_row", 4)]) (g := (gName 4)) (tt := (tAnd (tB (tOp (rIxT K) (tVar 4) (tC (.int 3)))) (tTest (tOp rEq (tOp (rIxT K) (tVar 4) (tC (.int 1))) (tC (.int 0)))))) rfl sc_grow.nd  (pi_list (pv 1)) (blkOk_by (own := [("_law_row", 4)]) (N := N_grow) (sc := defScope s_grow) (by decide +kernel)) (fun _ _ _ _ _ => pg_name (i := 4) sc_grow.nd rfl (Or.inl rfl)) (fun _ _ _ _ _ => pts_one (PW.pt (pw_and (pt_val (pe_ix ix_tup (pv 4) pe_int (fun _ _ => rfl))) (pw_and1 (pt_cmpR op_eq (pe_ix ix_tup (pv 4) pe_int (fun _ _ => rfl)) pe_int (nomark _)))))) (fun _ _ _ _ _ => (pe_ix ix_tup (pv 4) pe_int (fun _ _ => rfl)))) pe_int (fun _ _ => rfl)) pa_nil)))))
    pss_nil)
    (pss_cons (ps_set (i := 4) sc_grow.nd rfl (Or.inl rfl) (pe_ix ix_list (pv 1) (pe_cl c_take hr (by omega) pass0 (pa_cons (pv 0) (pa_cons (pe_callB call_len_seq rfl f_len boot_len (pa_cons (pv 1) pa_nil)) pa_nil))) (fun _ _ => rfl)))
    (pss_cons (ps_setLc (i := 5) (own := [("_law_k", 6)]) (g := (gName 6)) (tt := tYes) rfl sc_grow.nd rfl rfl (sw_true rfl rfl rfl (by decide +kernel)) (pi_range1 rfl f_range (pa_cons (pe_ix ix_tup (pv 4) pe_int (fun _ _ => rfl)) pa_nil)) (blkOk_by (own := [("_law_k", 6)]) (N := N_grow) (sc := defScope s_grow) (by decide +kernel)) (fun _ _ _ _ _ => pg_name (i := 6) sc_grow.nd rfl (Or.inl rfl)) (fun _ _ _ _ _ => pts_nil) (fun _ _ _ _ _ => (pe_cl ih hr (by omega) pass0 (pa_cons (pv 0) (pa_cons (pv 1) (pa_cons (pv 2) (pa_cons (pe_op op_sub (pv 3) pe_int) pa_nil)))))))
    (pss_one (ps_ret (pe_callTy call_tuple_of rfl f_tuple boot_tuple (pa_cons (pe_op op_cat (pe_lst (pa_cons (pe_ix ix_tup (pv 4) pe_int (fun _ _ => rfl)) pa_nil)) (pv 5)) pa_nil)))))))
theorem ok_rules (X : K.In h) (G : h.Ns mainGlobals mg) (c : SaysP P K) : Cl P w K mg base CX0 9 "_law_rules" (sp_rules K) := by
  obtain ⟨fd, F⟩ := c.def_ 9 (d := d_rules) rfl
  have c_take := ok_take (P := P) (w := w) (base := base) X G c
  have c_looks := ok_looks (P := P) (w := w) (base := base) X G c
  have c_left := ok_left (P := P) (w := w) (base := base) X G c
  have c_lholes := ok_lholes (P := P) (w := w) (base := base) X G c 6
  have c_grow := ok_grow (P := P) (w := w) (base := base) X G c 7
  refine ⟨_, fd, ["_law_draws", "_law_signs_here", "_law_ways"], F.ok sc_rules (fun vs H Q E h => len_rules h) (fun cdv A outer s H vs Q E hr h => ⟨t_rules K, PSs.nox ?_, rd_rules h⟩), He.glo_ok X G (c.fact 9 (f := .glo "_law_rules") rfl), F.kp, FunD.bindsN F (fun _ _ _ _ _ _ us hl => match us, hl with | [_, _, _], _ => rfl)⟩
  exact (pss_cons (ps_setLc (i := 4) (own := [("_law_row", 3)]) (g := (gName 3)) (tt := (tB (tOp (rIxT K) (tVar 3) (tC (.int 3))))) rfl sc_rules.nd rfl rfl (sw_true rfl rfl rfl (by decide +kernel)) (pi_list (pv 1)) (blkOk_by (own := [("_law_row", 3)]) (N := N_rules) (sc := defScope s_rules) (by decide +kernel)) (fun _ _ _ _ _ => pg_name (i := 3) sc_rules.nd rfl (Or.inl rfl)) (fun _ _ _ _ _ => pts_one (pt_val (pe_ix ix_tup (pv 3) pe_int (fun _ _ => rfl)))) (fun _ _ _ _ _ => (pv 3)))
    (pss_cons (ps_set (i := 5) sc_rules.nd rfl (Or.inl rfl) (pe_lst pa_nil))
    (pss_cons (ps_for PassesOwn.never rfl (pi_list (pe_lc (own := [("_law_own", 8)]) (g := (gName 8)) (tt := (tNot (tB (tOp (rIxT K) (tVar 8) (tC (.int 3)))))) rfl sc_rules.nd  (pi_list (pv 1)) (blkOk_by (own := [("_law_own", 8)]) (N := N_rules) (sc := defScope s_rules) (by decide +kernel)) (fun _ _ _ _ _ => pg_name (i := 8) sc_rules.nd rfl (Or.inl rfl)) (fun _ _ _ _ _ => pts_one (pt_not (pt_val (pe_ix ix_tup (pv 8) pe_int (fun _ _ => rfl))))) (fun _ _ _ _ _ => (pv 8)))) (pg_name (i := 3) sc_rules.nd rfl (Or.inl rfl))
    (pss_one (ps_for PassesOwn.never rfl (pi_list (pe_cl c_looks hr (by omega) pass0 (pa_cons (pv 0) (pa_cons (pv 3) (pa_cons (pv 4) (pa_cons (pv 2) pa_nil)))))) (pg_name (i := 6) sc_rules.nd rfl (Or.inl rfl))
    (pss_cons (ps_set (i := 7) sc_rules.nd rfl (Or.inl rfl) (pe_cl c_left hr (by omega) pass0 (pa_cons (pv 0) (pa_cons (pv 3) (pa_cons (pv 6) pa_nil)))))
    (pss_one (ps_expr (pe_bm PySem.F.plainAttrs_list PySem.F.slot_list_append PySem.F.type_list_append mt_append (pv 5) (pa_cons (pe_tup (pa_cons (pv 7) (pa_cons (pe_cl c_grow hr (by omega) pass0 (pa_cons (pv 0) (pa_cons (pv 1) (pa_cons (pe_cl c_lholes hr (by omega) pass0 (pa_cons (pv 7) pa_nil)) (pa_cons pe_int pa_nil))))) pa_nil))) pa_nil))))))))
    (pss_one (ps_ret (pv 5))))))
theorem ok_language (X : K.In h) (G : h.Ns mainGlobals mg) (c : SaysP P K) : Cl P w K mg base CX0 10 "_law_language" (sp_language K) := by
  obtain ⟨fd, F⟩ := c.def_ 10 (d := d_language) rfl
  have c_names := ok_names (P := P) (w := w) (base := base) X G c
  have c_stream := ok_stream (P := P) (w := w) (base := base) X G c
  have c_signs := ok_signs (P := P) (w := w) (base := base) X G c
  have c_rules := ok_rules (P := P) (w := w) (base := base) X G c
  refine ⟨_, fd, ["_law_script", "_law_ways"], F.ok sc_language (fun vs H Q E h => len_language h) (fun cdv A outer s H vs Q E hr h => ⟨t_language K, PSs.nox ?_, rd_language h⟩), He.glo_ok X G (c.fact 10 (f := .glo "_law_language") rfl), F.kp, FunD.bindsN F (fun _ _ _ _ _ _ us hl => match us, hl with | [_, _], _ => rfl)⟩
  exact (pss_cons (ps_set (i := 2) sc_language.nd rfl (Or.inl rfl) (pe_cl c_names hr (by omega) pass0 (pa_cons (pe_slice sl_list (pv 0) po_none (po_some pe_int)) pa_nil)))
    (pss_cons (ps_set (i := 3) sc_language.nd rfl (Or.inl rfl) (pe_cl c_stream hr (by omega) pass0 (pa_cons (pe_slice sl_list (pv 0) (po_some pe_int) po_none) pa_nil)))
    (pss_cons (ps_set (i := 4) sc_language.nd rfl (Or.inl rfl) (pe_cl c_signs hr (by omega) pass0 (pa_cons (pv 3) (pa_cons (pv 2) pa_nil))))
    (pss_one (ps_ret (pe_tup (pa_cons (pv 3) (pa_cons (pv 2) (pa_cons (pv 4) (pa_cons (pe_cl c_rules hr (by omega) pass0 (pa_cons (pv 3) (pa_cons (pv 4) (pa_cons (pv 1) pa_nil)))) pa_nil))))))))))
theorem ok_word (X : K.In h) (G : h.Ns mainGlobals mg) (c : SaysP P K) : Cl P w K mg base CX0 1 "is_word" (sp_word K) := by
  obtain ⟨fd, F⟩ := c.def_ 11 (d := d_word) rfl
  have k_LETTERS : ∃ u, mg "LETTERS" = some u ∧ RelV (.str "abcdefghijklmnopqrstuvwxyz") u := by
    obtain ⟨t, e⟩ := He.str_ok X G (c.fact 40 (f := .str "LETTERS" "abcdefghijklmnopqrstuvwxyz") rfl)
    exact ⟨_, e, ⟨t, rfl⟩⟩
  have f_len := He.free_ok X G (c.fact 34 (f := .free "len") rfl)
  refine ⟨_, fd, ["text"], F.ok sc_word (fun vs H Q E h => len_word h) (fun cdv A outer s H vs Q E hr h => ⟨t_word K, PSs.nox ?_, rd_word h⟩), He.glo_ok X G (c.fact 11 (f := .glo "is_word") rfl), F.kp, FunD.bindsN F (fun _ _ _ _ _ _ us hl => match us, hl with | [_], _ => rfl)⟩
  exact (pss_cons (ps_if (pt_not (pt_chain op_le op_le pe_int (pe_callB call_len_str rfl f_len boot_len (pa_cons (pv 0) pa_nil)) pe_int)) (pss_one (ps_ret pe_bl))
    pss_nil)
    (pss_cons (ps_for PassesOwn.never rfl (pi_str (pv 0)) (pg_name (i := 1) sc_word.nd rfl (Or.inl rfl))
    (pss_one (ps_if (pt_cmpR op_notIn_sign (pv 1) (pe_gc rfl k_LETTERS) (by with_unfolding_all rfl)) (pss_one (ps_ret pe_bl))
    pss_nil)))
    (pss_one (ps_ret pe_bl))))
theorem ok_holes (X : K.In h) (G : h.Ns mainGlobals mg) (c : SaysP P K) : ∀ n : Nat, Cl P w K mg base CX0 (0 + n) "form_holes" (sp_holes K n) := by
  obtain ⟨fd, F⟩ := c.def_ 12 (d := d_holes) rfl
  have f_int := He.free_ok X G (c.fact 33 (f := .free "int") rfl)
  have f_isinstance := He.free_ok X G (c.fact 39 (f := .free "isinstance") rfl)
  have gl := He.glo_ok X G (c.fact 12 (f := .glo "form_holes") rfl)
  have bd := FunD.bindsN (ps := ["form"]) F (fun _ _ _ _ _ _ us hl => match us, hl with | [_], _ => rfl)
  intro n
  induction n with
  | zero => exact ⟨_, fd, ["form"], ⟨fun vs H Q E h => absurd h (no_holes vs H Q E), fun A outer s H args us vs Q E _ _ _ _ h => absurd h (no_holes vs H Q E)⟩, gl, F.kp, bd⟩
  | succ n ih =>
    refine ⟨_, fd, ["form"], F.ok (k := 0 + n) sc_holes (fun vs H Q E h => len_holes h) (fun cdv A outer s H vs Q E hr h => ⟨t_holes K (sp_holes K n), PSs.nox ?_, rd_holes h⟩), gl, F.kp, bd⟩
    exact (pss_cons (ps_if (pt_val (pe_callB call_isi rfl f_isinstance boot_isinstance (pa_cons (pv 0) (pa_cons (pe_bltn rfl f_int boot_int rfl) pa_nil)))) (pss_one (ps_ret (pe_lst (pa_cons (pv 0) pa_nil))))
    pss_nil)
    (pss_cons (ps_set (i := 1) sc_holes.nd rfl (Or.inr rfl) (pe_lst pa_nil))
    (pss_cons (ps_for PassesOwn.never rfl (pi_tup (pe_slice sl_tup (pv 0) (po_some pe_int) po_none)) (pg_name (i := 2) sc_holes.nd rfl (Or.inl rfl))
    (pss_one (ps_aug (i := 1) sc_holes.nd rfl (Or.inr rfl) (pe_lc (own := [("hole", 3)]) (g := (gName 3)) (tt := (tTest (tOp (rIn K true) (tVar 3) (tVar 1)))) rfl sc_holes.nd  (pi_list (pe_cl ih hr (by omega) pass0 (pa_cons (pv 2) pa_nil))) (blkOk_by (own := [("hole", 3)]) (N := N_holes) (sc := defScope s_holes) (by decide +kernel)) (fun _ _ _ _ _ => pg_name (i := 3) sc_holes.nd rfl (Or.inl rfl)) (fun _ _ _ _ _ => pts_one (pt_cmpR op_notIn_seq (pv 3) (pv 1) (by with_unfolding_all rfl))) (fun _ _ _ _ _ => (pv 3))) iop_ext)))
    (pss_one (ps_ret (pv 1))))))
theorem ok_rowok (X : K.In h) (G : h.Ns mainGlobals mg) (c : SaysP P K) : Cl P w K mg base CX0 2 "row_allowed" (sp_rowok K) := by
  obtain ⟨fd, F⟩ := c.def_ 13 (d := d_rowok) rfl
  have f_enumerate := He.free_ok X G (c.fact 41 (f := .free "enumerate") rfl)
  have c_word := ok_word (P := P) (w := w) (base := base) X G c
  refine ⟨_, fd, ["row"], F.ok sc_rowok (fun vs H Q E h => len_rowok h) (fun cdv A outer s H vs Q E hr h => ⟨t_rowok K, PSs.nox ?_, rd_rowok h⟩), He.glo_ok X G (c.fact 13 (f := .glo "row_allowed") rfl), F.kp, FunD.bindsN F (fun _ _ _ _ _ _ us hl => match us, hl with | [_], _ => rfl)⟩
  exact (pss_cons (ps_if (PW.pt (pw_or (pt_not (pt_val (pe_cl c_word hr (by omega) pass0 (pa_cons (pe_ix ix_tup (pv 0) pe_int (fun _ _ => rfl)) pa_nil)))) (pw_or1 (pt_not (pt_chain op_le op_le pe_int (pe_ix ix_tup (pv 0) pe_int (fun _ _ => rfl)) pe_int))))) (pss_one (ps_ret pe_bl))
    pss_nil)
    (pss_cons (ps_for PassesOwn.never rfl (pi_enumT rfl f_enumerate (pa_cons (pe_ix ix_tup (pv 0) pe_int (fun _ _ => rfl)) pa_nil)) (pg_tup rfl (pgs_cons (pg_name (i := 1) sc_rowok.nd rfl (Or.inl rfl)) (pgs_cons (pg_name (i := 2) sc_rowok.nd rfl (Or.inl rfl)) pgs_nil)))
    (pss_one (ps_if (PW.pt (pw_or (pt_not (pt_chain op_le op_lt pe_int (pv 2) (pe_ix ix_tup (pv 0) pe_int (fun _ _ => rfl)))) (pw_or1 (pt_cmpR op_in_seq (pv 2) (pe_slice sl_tupA (pe_ix ix_tup (pv 0) pe_int (fun _ _ => rfl)) po_none (po_some (pv 1))) (by with_unfolding_all rfl))))) (pss_one (ps_ret pe_bl))
    pss_nil)))
    (pss_one (ps_ret pe_bl))))
theorem ok_known (X : K.In h) (G : h.Ns mainGlobals mg) (c : SaysP P K) : ∀ n : Nat, Cl P w K mg base CX0 (0 + n) "known" (sp_known K n) := by
  obtain ⟨fd, F⟩ := c.def_ 14 (d := d_known) rfl
  have k_LAST_HOLE : ∃ u, mg "LAST_HOLE" = some u ∧ RelV (.int 99) u := by
    obtain ⟨t, e⟩ := He.int_ok X G (c.fact 42 (f := .int "LAST_HOLE" 99) rfl)
    exact ⟨_, e, ⟨t, rfl⟩⟩
  have f_int := He.free_ok X G (c.fact 33 (f := .free "int") rfl)
  have f_isinstance := He.free_ok X G (c.fact 39 (f := .free "isinstance") rfl)
  have f_len := He.free_ok X G (c.fact 34 (f := .free "len") rfl)
  have gl := He.glo_ok X G (c.fact 14 (f := .glo "known") rfl)
  have bd := FunD.bindsN (ps := ["row_of", "form"]) F (fun _ _ _ _ _ _ us hl => match us, hl with | [_, _], _ => rfl)
  intro n
  induction n with
  | zero => exact ⟨_, fd, ["row_of", "form"], ⟨fun vs H Q E h => absurd h (no_known vs H Q E), fun A outer s H args us vs Q E _ _ _ _ h => absurd h (no_known vs H Q E)⟩, gl, F.kp, bd⟩
  | succ n ih =>
    refine ⟨_, fd, ["row_of", "form"], F.ok (k := 0 + n) sc_known (fun vs H Q E h => len_known h) (fun cdv A outer s H vs Q E hr h => ⟨t_known K (sp_known K n), PSs.nox ?_, rd_known h⟩), gl, F.kp, bd⟩
    exact (pss_cons (ps_if (pt_val (pe_callB call_isi rfl f_isinstance boot_isinstance (pa_cons (pv 1) (pa_cons (pe_bltn rfl f_int boot_int rfl) pa_nil)))) (pss_one (ps_ret (pe_chain op_le op_le pe_int (pv 1) (pe_gc rfl k_LAST_HOLE))))
    pss_nil)
    (pss_cons (ps_if (PW.pt (pw_or (pt_cmp (pc_dnotin (hu_of hr) (pe_ix ix_tup (pv 1) pe_int (fun _ _ => rfl)) (pv 0))) (pw_or1 (pt_cmpR op_ne (pe_callB call_len_seq rfl f_len boot_len (pa_cons (pv 1) pa_nil)) (pe_op op_add (pe_ix ix_tup (pe_dget (hu_of hr) (pv 0) (pe_ix ix_tup (pv 1) pe_int (fun _ _ => rfl)) (fun _ _ => rfl)) pe_int (fun _ _ => rfl)) pe_int) (nomark _))))) (pss_one (ps_ret pe_bl))
    pss_nil)
    (pss_cons (ps_for PassesOwn.never rfl (pi_tup (pe_slice sl_tup (pv 1) (po_some pe_int) po_none)) (pg_name (i := 2) sc_known.nd rfl (Or.inl rfl))
    (pss_one (ps_if (pt_not (pt_val (pe_cl ih hr (by omega) pass0 (pa_cons (pv 0) (pa_cons (pv 2) pa_nil))))) (pss_one (ps_ret pe_bl))
    pss_nil)))
    (pss_one (ps_ret pe_bl)))))
theorem ok_ruleok (X : K.In h) (G : h.Ns mainGlobals mg) (c : SaysP P K) : Cl P w K mg base CX0 41 "rule_allowed" (sp_ruleok K) := by
  obtain ⟨fd, F⟩ := c.def_ 15 (d := d_ruleok) rfl
  have f_enumerate := He.free_ok X G (c.fact 41 (f := .free "enumerate") rfl)
  have f_int := He.free_ok X G (c.fact 33 (f := .free "int") rfl)
  have f_isinstance := He.free_ok X G (c.fact 39 (f := .free "isinstance") rfl)
  have f_len := He.free_ok X G (c.fact 34 (f := .free "len") rfl)
  have c_known := ok_known (P := P) (w := w) (base := base) X G c 40
  have c_holes := ok_holes (P := P) (w := w) (base := base) X G c 40
  refine ⟨_, fd, ["row_of", "left", "right"], F.ok sc_ruleok (fun vs H Q E h => len_ruleok h) (fun cdv A outer s H vs Q E hr h => ⟨t_ruleok K, PSs.nox ?_, rd_ruleok h⟩), He.glo_ok X G (c.fact 15 (f := .glo "rule_allowed") rfl), F.kp, FunD.bindsN F (fun _ _ _ _ _ _ us hl => match us, hl with | [_, _, _], _ => rfl)⟩
  exact (pss_cons (ps_if (PW.pt (pw_or (pt_val (pe_callB call_isi rfl f_isinstance boot_isinstance (pa_cons (pv 1) (pa_cons (pe_bltn rfl f_int boot_int rfl) pa_nil)))) (pw_or (pt_not (pt_val (pe_cl c_known hr (by omega) pass0 (pa_cons (pv 0) (pa_cons (pv 1) pa_nil))))) (pw_or1 (pt_not (pt_val (pe_cl c_known hr (by omega) pass0 (pa_cons (pv 0) (pa_cons (pv 2) pa_nil))))))))) (pss_one (ps_ret pe_bl))
    pss_nil)
    (pss_cons (ps_set (i := 3) sc_ruleok.nd rfl (Or.inl rfl) (pe_dget (hu_of hr) (pv 0) (pe_ix ix_tup (pv 1) pe_int (fun _ _ => rfl)) (fun _ _ => rfl)))
    (pss_cons (ps_if (pt_val (pe_ix ix_tup (pv 3) pe_int (fun _ _ => rfl))) (pss_one (ps_ret pe_bl))
    pss_nil)
    (pss_cons (ps_set (i := 4) sc_ruleok.nd rfl (Or.inl rfl) pe_int)
    (pss_cons (ps_for PassesOwn.never rfl (pi_enumT rfl f_enumerate (pa_cons (pe_slice sl_tup (pv 1) (po_some pe_int) po_none) pa_nil)) (pg_tup rfl (pgs_cons (pg_name (i := 5) sc_ruleok.nd rfl (Or.inl rfl)) (pgs_cons (pg_name (i := 6) sc_ruleok.nd rfl (Or.inl rfl)) pgs_nil)))
    (pss_cons (ps_if (pt_val (pe_callB call_isi rfl f_isinstance boot_isinstance (pa_cons (pv 6) (pa_cons (pe_bltn rfl f_int boot_int rfl) pa_nil)))) (pss_cons (ps_aug (i := 4) sc_ruleok.nd rfl (Or.inl rfl) pe_int ip_add)
    (pss_one ps_continue))
    pss_nil)
    (pss_cons (ps_if (PW.pt (pw_or (pt_cmpR op_notIn_seq (pv 5) (pe_ix ix_tup (pv 3) pe_int (fun _ _ => rfl)) (by with_unfolding_all rfl)) (pw_or1 (pt_not (pt_val (pe_ix ix_tup (pe_dget (hu_of hr) (pv 0) (pe_ix ix_tup (pv 6) pe_int (fun _ _ => rfl)) (fun _ _ => rfl)) pe_int (fun _ _ => rfl))))))) (pss_one (ps_ret pe_bl))
    pss_nil)
    (pss_one (ps_for PassesOwn.never rfl (pi_tup (pe_slice sl_tup (pv 6) (po_some pe_int) po_none)) (pg_name (i := 7) sc_ruleok.nd rfl (Or.inl rfl))
    (pss_cons (ps_if (pt_not (pt_val (pe_callB call_isi rfl f_isinstance boot_isinstance (pa_cons (pv 7) (pa_cons (pe_bltn rfl f_int boot_int rfl) pa_nil))))) (pss_one (ps_ret pe_bl))
    pss_nil)
    (pss_one (ps_aug (i := 4) sc_ruleok.nd rfl (Or.inl rfl) pe_int ip_add))))))))
    (pss_cons (ps_set (i := 8) sc_ruleok.nd rfl (Or.inl rfl) (pe_cl c_holes hr (by omega) pass0 (pa_cons (pv 1) pa_nil)))
    (pss_cons (ps_if (pt_cmpR op_ne (pe_callB call_len_seq rfl f_len boot_len (pa_cons (pv 8) pa_nil)) (pv 4) (nomark _)) (pss_one (ps_ret pe_bl))
    pss_nil)
    (pss_cons (ps_for PassesOwn.never rfl (pi_list (pe_cl c_holes hr (by omega) pass0 (pa_cons (pv 2) pa_nil))) (pg_name (i := 9) sc_ruleok.nd rfl (Or.inl rfl))
    (pss_one (ps_if (pt_cmpR op_notIn_seq (pv 9) (pv 8) (by with_unfolding_all rfl)) (pss_one (ps_ret pe_bl))
    pss_nil)))
    (pss_one (ps_ret pe_bl))))))))))
theorem ok_overl (X : K.In h) (G : h.Ns mainGlobals mg) (c : SaysP P K) : Cl P w K mg base CX0 1 "overlapping" (sp_overl K) := by
  obtain ⟨fd, F⟩ := c.def_ 16 (d := d_overl) rfl
  have f_int := He.free_ok X G (c.fact 33 (f := .free "int") rfl)
  have f_isinstance := He.free_ok X G (c.fact 39 (f := .free "isinstance") rfl)
  have f_zip := He.free_ok X G (c.fact 43 (f := .free "zip") rfl)
  refine ⟨_, fd, ["left", "other"], F.ok sc_overl (fun vs H Q E h => len_overl h) (fun cdv A outer s H vs Q E hr h => ⟨t_overl K, PSs.nox ?_, rd_overl h⟩), He.glo_ok X G (c.fact 16 (f := .glo "overlapping") rfl), F.kp, FunD.bindsN F (fun _ _ _ _ _ _ us hl => match us, hl with | [_, _], _ => rfl)⟩
  exact (pss_cons (ps_for PassesOwn.never rfl (RZ.pi_zipA rfl f_zip (pa_cons (pe_slice sl_tup (pv 0) (po_some pe_int) po_none) (pa_cons (pe_slice sl_tup (pv 1) (po_some pe_int) po_none) pa_nil))) (pg_tup rfl (pgs_cons (pg_name (i := 2) sc_overl.nd rfl (Or.inl rfl)) (pgs_cons (pg_name (i := 3) sc_overl.nd rfl (Or.inl rfl)) pgs_nil)))
    (pss_one (ps_if (PW.pt (pw_and (pt_not (pt_val (pe_callB call_isi rfl f_isinstance boot_isinstance (pa_cons (pv 2) (pa_cons (pe_bltn rfl f_int boot_int rfl) pa_nil))))) (pw_and (pt_not (pt_val (pe_callB call_isi rfl f_isinstance boot_isinstance (pa_cons (pv 3) (pa_cons (pe_bltn rfl f_int boot_int rfl) pa_nil))))) (pw_and1 (pt_cmpR op_ne (pe_ix ix_tup (pv 2) pe_int (fun _ _ => rfl)) (pe_ix ix_tup (pv 3) pe_int (fun _ _ => rfl)) (nomark _)))))) (pss_one (ps_ret pe_bl))
    pss_nil)))
    (pss_one (ps_ret pe_bl)))
theorem ok_init (X : K.In h) (G : h.Ns mainGlobals mg) (c : SaysP P K) : ClK P w K mg base (L2N.CX P w) 42 "Language" (sp_init K) := by
  obtain ⟨fd, F⟩ := c.def_ 17 (d := d_init) rfl
  have e_BadRule := ok_err_BadRule (P := P) (w := w) (base := base) X G c
  have e_BadSign := ok_err_BadSign (P := P) (w := w) (base := base) X G c
  have e_Overlap := ok_err_Overlap (P := P) (w := w) (base := base) X G c
  have f_enumerate := He.free_ok X G (c.fact 41 (f := .free "enumerate") rfl)
  have f_list := He.free_ok X G (c.fact 44 (f := .free "list") rfl)
  have c_rowok := ok_rowok (P := P) (w := w) (base := base) X G c
  have c_ruleok := ok_ruleok (P := P) (w := w) (base := base) X G c
  have c_overl := ok_overl (P := P) (w := w) (base := base) X G c
  refine ⟨_, fd, ["self", "signs", "rules"], He.mkr_ok (c.fact 57 (f := .mkr "Language") rfl), F.ok sc_init (fun vs H Q E h => len_init h) (fun cdv A outer s H vs Q E hr h => ⟨t_init K E, ?_, rd_init h⟩), He.glo_ok X G (c.fact 17 (f := .glo "Language") rfl), FunD.bindsN F (fun _ _ _ _ _ _ us hl => match us, hl with | [_, _, _], _ => rfl)⟩
  exact (pss_cons (ps_fld (pv 0) (pe_callTy call_list_of rfl f_list boot_list (pa_cons (pv 1) pa_nil)) rfl)
    (pss_cons (ps_fld (pv 0) (pe_callTy call_list_of rfl f_list boot_list (pa_cons (pv 2) pa_nil)) rfl)
    (pss_cons (ps_fld (pv 0) pe_dnewK rfl)
    (pss_cons (ps_fld (pv 0) pe_dnewK rfl)
    (pss_cons (ps_for (passes_of rfl) rfl (pi_enum rfl f_enumerate (pa_cons (pe_fld (pv 0) rfl) pa_nil)) (pg_tup rfl (pgs_cons (pg_name (i := 3) sc_init.nd rfl (Or.inl rfl)) (pgs_cons (pg_name (i := 4) sc_init.nd rfl (Or.inl rfl)) pgs_nil)))
    (pss_cons (ps_if (PW.pt (pw_or (pt_not (pt_val (pe_cl c_rowok hr (by omega) pass0 (pa_cons (pv 4) pa_nil)))) (pw_or1 (pt_cmp (pc_din (hu_of hr) (pe_ix ix_tup (pv 4) pe_int (fun _ _ => rfl)) (pe_fld (pv 0) rfl)))))) (pss_one (ps_raise1 e_BadSign rfl (L2N.takes_of rfl rfl rfl rfl) hr (by omega) (pv 3)))
    pss_nil)
    (pss_cons (ps_dput (hu_of hr) (pe_fld (pv 0) rfl) (pe_ix ix_tup (pv 4) pe_int (fun _ _ => rfl)) (pv 4) rfl)
    (pss_one (ps_dput (hu_of hr) (pe_fld (pv 0) rfl) (pe_ix ix_tup (pv 4) pe_int (fun _ _ => rfl)) (pe_lst pa_nil) rfl)))))
    (pss_cons (ps_for (passes_of rfl) rfl (pi_enum rfl f_enumerate (pa_cons (pe_fld (pv 0) rfl) pa_nil)) (pg_tup rfl (pgs_cons (pg_name (i := 3) sc_init.nd rfl (Or.inl rfl)) (pgs_cons (pg_tup rfl (pgs_cons (pg_name (i := 5) sc_init.nd rfl (Or.inl rfl)) (pgs_cons (pg_name (i := 6) sc_init.nd rfl (Or.inl rfl)) pgs_nil))) pgs_nil)))
    (pss_one (ps_if (pt_not (pt_val (pe_cl c_ruleok hr (by omega) pass0 (pa_cons (pe_fld (pv 0) rfl) (pa_cons (pv 5) (pa_cons (pv 6) pa_nil)))))) (pss_one (ps_raise1 e_BadRule rfl (L2N.takes_of rfl rfl rfl rfl) hr (by omega) (pv 3)))
    pss_nil)))
    (pss_one (ps_for (passes_of rfl) rfl (pi_enum rfl f_enumerate (pa_cons (pe_fld (pv 0) rfl) pa_nil)) (pg_tup rfl (pgs_cons (pg_name (i := 7) sc_init.nd rfl (Or.inl rfl)) (pgs_cons (pg_tup rfl (pgs_cons (pg_name (i := 5) sc_init.nd rfl (Or.inl rfl)) (pgs_cons (pg_name (i := 6) sc_init.nd rfl (Or.inl rfl)) pgs_nil))) pgs_nil)))
    (pss_cons (ps_for (passes_of rfl) rfl (pi_list (pe_dget (hu_of hr) (pe_fld (pv 0) rfl) (pe_ix ix_tup (pv 5) pe_int (fun _ _ => rfl)) (fun _ _ => rfl))) (pg_name (i := 8) sc_init.nd rfl (Or.inl rfl))
    (pss_one (ps_if (pt_val (pe_cl c_overl hr (by omega) pass0 (pa_cons (pe_ix ix_tup (pe_ix ix_list (pe_fld (pv 0) rfl) (pv 8) (fun _ _ => rfl)) pe_int (fun _ _ => rfl)) (pa_cons (pv 5) pa_nil)))) (pss_one (ps_raise2 e_Overlap rfl (L2N.takes_of rfl rfl rfl rfl) hr (by omega) (pv 8) (pv 7)))
    pss_nil)))
    (pss_one (ps_expr (pe_bm PySem.F.plainAttrs_list PySem.F.slot_list_append PySem.F.type_list_append mt_append (pe_dget (hu_of hr) (pe_fld (pv 0) rfl) (pe_ix ix_tup (pv 5) pe_int (fun _ _ => rfl)) (fun _ _ => rfl)) (pa_cons (pv 7) pa_nil)))))))))))))
theorem ok_fill (X : K.In h) (G : h.Ns mainGlobals mg) (c : SaysP P K) : ∀ n : Nat, Cl P w K mg base CX0 (0 + n) "fill_form" (sp_fill K n) := by
  obtain ⟨fd, F⟩ := c.def_ 18 (d := d_fill) rfl
  have f_int := He.free_ok X G (c.fact 33 (f := .free "int") rfl)
  have f_isinstance := He.free_ok X G (c.fact 39 (f := .free "isinstance") rfl)
  have gl := He.glo_ok X G (c.fact 18 (f := .glo "fill_form") rfl)
  have bd := FunD.bindsN (ps := ["form", "parts"]) F (fun _ _ _ _ _ _ us hl => match us, hl with | [_, _], _ => rfl)
  intro n
  induction n with
  | zero => exact ⟨_, fd, ["form", "parts"], ⟨fun vs H Q E h => absurd h (no_fill vs H Q E), fun A outer s H args us vs Q E _ _ _ _ h => absurd h (no_fill vs H Q E)⟩, gl, F.kp, bd⟩
  | succ n ih =>
    refine ⟨_, fd, ["form", "parts"], F.ok (k := 0 + n) sc_fill (fun vs H Q E h => len_fill h) (fun cdv A outer s H vs Q E hr h => ⟨t_fill K (sp_fill K n), PSs.nox ?_, rd_fill h⟩), gl, F.kp, bd⟩
    exact (pss_cons (ps_if (pt_val (pe_callB call_isi rfl f_isinstance boot_isinstance (pa_cons (pv 0) (pa_cons (pe_bltn rfl f_int boot_int rfl) pa_nil)))) (pss_one (ps_ret (pe_dget2 (hu_of hr) (pv 1) (pv 0) (pv 0) ⟨rfl, rfl, rfl, rfl⟩)))
    pss_nil)
    (pss_cons (ps_setLc (i := 2) (own := [("part", 3)]) (g := (gName 3)) (tt := tYes) rfl sc_fill.nd rfl rfl (sw_true rfl rfl rfl (by decide +kernel)) (pi_tup (pe_slice sl_tup (pv 0) (po_some pe_int) po_none)) (blkOk_by (own := [("part", 3)]) (N := N_fill) (sc := defScope s_fill) (by decide +kernel)) (fun _ _ _ _ _ => pg_name (i := 3) sc_fill.nd rfl (Or.inl rfl)) (fun _ _ _ _ _ => pts_nil) (fun _ _ _ _ _ => (pe_cl ih hr (by omega) pass0 (pa_cons (pv 3) (pa_cons (pv 1) pa_nil)))))
    (pss_one (ps_ret (pe_tup (pa_cons (pe_ix ix_tup (pv 0) pe_int (fun _ _ => rfl)) (StX.pa_star (pv 2) pa_nil)))))))
theorem ok_putp (X : K.In h) (G : h.Ns mainGlobals mg) (c : SaysP P K) : Cl P w K mg base CX0 1 "put_part" (sp_putp K) := by
  obtain ⟨fd, F⟩ := c.def_ 19 (d := d_putp) rfl
  refine ⟨_, fd, ["form", "place", "part"], F.ok sc_putp (fun vs H Q E h => len_putp h) (fun cdv A outer s H vs Q E hr h => ⟨t_putp K, PSs.nox ?_, rd_putp h⟩), He.glo_ok X G (c.fact 19 (f := .glo "put_part") rfl), F.kp, FunD.bindsN F (fun _ _ _ _ _ _ us hl => match us, hl with | [_, _, _], _ => rfl)⟩
  exact (pss_one (ps_ret (pe_op op_catA (pe_op op_catA (pe_slice sl_tupA (pv 0) po_none (po_some (pe_op op_add (pv 1) pe_int))) (pe_tup (pa_cons (pv 2) pa_nil))) (pe_slice sl_tupA (pv 0) (po_some (pe_op op_add (pv 1) pe_int)) po_none))))
theorem ok_opening (X : K.In h) (G : h.Ns mainGlobals mg) (c : SaysP P K) : Cl P w K mg base CX0 1 "opening" (sp_opening K) := by
  obtain ⟨fd, F⟩ := c.def_ 20 (d := d_opening) rfl
  have f_int := He.free_ok X G (c.fact 33 (f := .free "int") rfl)
  have f_isinstance := He.free_ok X G (c.fact 39 (f := .free "isinstance") rfl)
  have f_len := He.free_ok X G (c.fact 34 (f := .free "len") rfl)
  have f_range := He.free_ok X G (c.fact 36 (f := .free "range") rfl)
  refine ⟨_, fd, ["left", "form", "worked"], F.ok sc_opening (fun vs H Q E h => len_opening h) (fun cdv A outer s H vs Q E hr h => ⟨t_opening K, PSs.nox ?_, rd_opening h⟩), He.glo_ok X G (c.fact 20 (f := .glo "opening") rfl), F.kp, FunD.bindsN F (fun _ _ _ _ _ _ us hl => match us, hl with | [_, _, _], _ => rfl)⟩
  exact (pss_cons (ps_set (i := 3) sc_opening.nd rfl (Or.inl rfl) (pe_callB call_len_seq rfl f_len boot_len (pa_cons (pv 2) pa_nil)))
    (pss_cons (ps_for PassesOwn.never rfl (pi_range3 rfl f_range (pa_cons (pe_op op_sub (pe_callB call_len_seq rfl f_len boot_len (pa_cons (pv 2) pa_nil)) pe_int) (pa_cons (pe_un un_neg pe_int) (pa_cons (pe_un un_neg pe_int) pa_nil)))) (pg_name (i := 4) sc_opening.nd rfl (Or.inl rfl))
    (pss_cons (ps_set (i := 5) sc_opening.nd rfl (Or.inl rfl) (pe_ix ix_tup (pv 0) (pe_op op_add (pe_ix ix_tup (pv 2) (pv 4) (fun _ _ => rfl)) pe_int) (fun _ _ => rfl)))
    (pss_cons (ps_set (i := 6) sc_opening.nd rfl (Or.inl rfl) (pe_ix ix_tup (pv 1) (pe_op op_add (pe_ix ix_tup (pv 2) (pv 4) (fun _ _ => rfl)) pe_int) (fun _ _ => rfl)))
    (pss_cons (ps_if (pt_val (pe_callB call_isi rfl f_isinstance boot_isinstance (pa_cons (pv 5) (pa_cons (pe_bltn rfl f_int boot_int rfl) pa_nil)))) (pss_one ps_continue)
    pss_nil)
    (pss_one (ps_if (pt_val (pe_callB call_isi rfl f_isinstance boot_isinstance (pa_cons (pv 6) (pa_cons (pe_bltn rfl f_int boot_int rfl) pa_nil)))) (pss_one (ps_set (i := 3) sc_opening.nd rfl (Or.inl rfl) (pv 4)))
    (pss_one (ps_if (pt_cmpR op_ne (pe_ix ix_tup (pv 6) pe_int (fun _ _ => rfl)) (pe_ix ix_tup (pv 5) pe_int (fun _ _ => rfl)) (nomark _)) (pss_one (ps_ret (pe_un un_neg pe_int)))
    pss_nil))))))))
    (pss_one (ps_ret (pv 3)))))
theorem ok_bound (X : K.In h) (G : h.Ns mainGlobals mg) (c : SaysP P K) : Cl P w K mg base CX0 1 "bound_parts" (sp_bound K) := by
  obtain ⟨fd, F⟩ := c.def_ 21 (d := d_bound) rfl
  have f_int := He.free_ok X G (c.fact 33 (f := .free "int") rfl)
  have f_isinstance := He.free_ok X G (c.fact 39 (f := .free "isinstance") rfl)
  have f_zip := He.free_ok X G (c.fact 43 (f := .free "zip") rfl)
  refine ⟨_, fd, ["left", "form"], F.ok sc_bound (fun vs H Q E h => len_bound h) (fun cdv A outer s H vs Q E hr h => ⟨t_bound K, PSs.nox ?_, rd_bound h⟩), He.glo_ok X G (c.fact 21 (f := .glo "bound_parts") rfl), F.kp, FunD.bindsN F (fun _ _ _ _ _ _ us hl => match us, hl with | [_, _], _ => rfl)⟩
  exact (pss_cons (ps_set (i := 2) sc_bound.nd rfl (Or.inl rfl) pe_dnewK)
    (pss_cons (ps_for PassesOwn.never rfl (RZ.pi_zipA rfl f_zip (pa_cons (pe_slice sl_tup (pv 0) (po_some pe_int) po_none) (pa_cons (pe_slice sl_tup (pv 1) (po_some pe_int) po_none) pa_nil))) (pg_tup rfl (pgs_cons (pg_name (i := 3) sc_bound.nd rfl (Or.inl rfl)) (pgs_cons (pg_name (i := 4) sc_bound.nd rfl (Or.inl rfl)) pgs_nil)))
    (pss_one (ps_if (pt_val (pe_callB call_isi rfl f_isinstance boot_isinstance (pa_cons (pv 3) (pa_cons (pe_bltn rfl f_int boot_int rfl) pa_nil)))) (pss_one (ps_dput (hu_of hr) (pv 2) (pv 3) (pv 4) rfl))
    (pss_one (ps_for PassesOwn.never rfl (RZ.pi_zipA rfl f_zip (pa_cons (pe_slice sl_tup (pv 3) (po_some pe_int) po_none) (pa_cons (pe_slice sl_tup (pv 4) (po_some pe_int) po_none) pa_nil))) (pg_tup rfl (pgs_cons (pg_name (i := 5) sc_bound.nd rfl (Or.inl rfl)) (pgs_cons (pg_name (i := 6) sc_bound.nd rfl (Or.inl rfl)) pgs_nil)))
    (pss_one (ps_dput (hu_of hr) (pv 2) (pv 5) (pv 6) rfl)))))))
    (pss_one (ps_ret (pv 2)))))
theorem ok_isdone (X : K.In h) (G : h.Ns mainGlobals mg) (c : SaysP P K) : ∀ n : Nat, ClM P w K mg base CX0 (0 + n) "Language" "is_done" (sp_isdone K n) := by
  obtain ⟨fd, F⟩ := c.def_ 22 (d := d_isdone) rfl
  have k_UNKNOWN : ∃ u, mg "UNKNOWN" = some u ∧ RelV (.int 1000) u := by
    obtain ⟨t, e⟩ := He.int_ok X G (c.fact 45 (f := .int "UNKNOWN" 1000) rfl)
    exact ⟨_, e, ⟨t, rfl⟩⟩
  have f_int := He.free_ok X G (c.fact 33 (f := .free "int") rfl)
  have f_isinstance := He.free_ok X G (c.fact 39 (f := .free "isinstance") rfl)
  have m1 := And.intro (He.cls_ok (c.fact 52 (f := .cls "Language") rfl)) (He.meth_ok (c.fact 58 (f := .meth "Language" "is_done") rfl))
  have bd := FunD.bindsN (ps := ["self", "form"]) F (fun _ _ _ _ _ _ us hl => match us, hl with | [_, _], _ => rfl)
  intro n
  induction n with
  | zero => exact ⟨_, fd, ["self", "form"], m1.1, m1.2, ⟨fun vs H Q E h => absurd h (no_isdone vs H Q E), fun A outer s H args us vs Q E _ _ _ _ h => absurd h (no_isdone vs H Q E)⟩, bd⟩
  | succ n ih =>
    refine ⟨_, fd, ["self", "form"], m1.1, m1.2, F.ok (k := 0 + n) sc_isdone (fun vs H Q E h => len_isdone h) (fun cdv A outer s H vs Q E hr h => ⟨t_isdone K (sp_isdone K n), PSs.nox ?_, rd_isdone h⟩), bd⟩
    exact (pss_cons (ps_if (pt_val (pe_callB call_isi rfl f_isinstance boot_isinstance (pa_cons (pv 1) (pa_cons (pe_bltn rfl f_int boot_int rfl) pa_nil)))) (pss_one (ps_ret (pe_cmpR op_ge (pv 1) (pe_gc rfl k_UNKNOWN) (nomark _))))
    pss_nil)
    (pss_cons (ps_set (i := 2) sc_isdone.nd rfl (Or.inl rfl) (pe_dget (hu_of hr) (pe_fld (pv 0) rfl) (pe_ix ix_tup (pv 1) pe_int (fun _ _ => rfl)) (fun _ _ => rfl)))
    (pss_cons (ps_if (pt_not (pt_val (pe_ix ix_tup (pv 2) pe_int (fun _ _ => rfl)))) (pss_one (ps_ret pe_bl))
    pss_nil)
    (pss_cons (ps_for PassesOwn.never rfl (pi_tup (pe_ix ix_tup (pv 2) pe_int (fun _ _ => rfl))) (pg_name (i := 3) sc_isdone.nd rfl (Or.inl rfl))
    (pss_one (ps_if (pt_not (pt_val (pe_clm ih hr (by omega) pass0 (pv 0) (pa_cons (pe_ix ix_tup (pv 1) (pe_op op_add (pv 3) pe_int) (fun _ _ => rfl)) pa_nil)))) (pss_one (ps_ret pe_bl))
    pss_nil)))
    (pss_one (ps_ret pe_bl))))))
theorem ok_fire (X : K.In h) (G : h.Ns mainGlobals mg) (c : SaysP P K) : ClM P w K mg base CX0 41 "Language" "fire" (sp_fire K) := by
  obtain ⟨fd, F⟩ := c.def_ 23 (d := d_fire) rfl
  have f_len := He.free_ok X G (c.fact 34 (f := .free "len") rfl)
  have c_opening := ok_opening (P := P) (w := w) (base := base) X G c
  have c_fill := ok_fill (P := P) (w := w) (base := base) X G c 40
  have c_bound := ok_bound (P := P) (w := w) (base := base) X G c
  refine ⟨_, fd, ["self", "form", "worked"], He.cls_ok (c.fact 52 (f := .cls "Language") rfl), He.meth_ok (c.fact 59 (f := .meth "Language" "fire") rfl), F.ok sc_fire (fun vs H Q E h => len_fire h) (fun cdv A outer s H vs Q E hr h => ⟨t_fire K, PSs.nox ?_, rd_fire h⟩), FunD.bindsN F (fun _ _ _ _ _ _ us hl => match us, hl with | [_, _, _], _ => rfl)⟩
  exact (pss_cons (ps_set (i := 3) sc_fire.nd rfl (Or.inl rfl) (pe_callB call_len_seq rfl f_len boot_len (pa_cons (pv 2) pa_nil)))
    (pss_cons (ps_for PassesOwn.never rfl (pi_list (pe_dget (hu_of hr) (pe_fld (pv 0) rfl) (pe_ix ix_tup (pv 1) pe_int (fun _ _ => rfl)) (fun _ _ => rfl))) (pg_name (i := 4) sc_fire.nd rfl (Or.inl rfl))
    (pss_cons (ps_asg (pe_ix ix_list (pe_fld (pv 0) rfl) (pv 4) (fun _ _ => rfl)) (pg_tup rfl (pgs_cons (pg_name (i := 5) sc_fire.nd rfl (Or.inl rfl)) (pgs_cons (pg_name (i := 6) sc_fire.nd rfl (Or.inl rfl)) pgs_nil))))
    (pss_cons (ps_set (i := 7) sc_fire.nd rfl (Or.inl rfl) (pe_cl c_opening hr (by omega) pass0 (pa_cons (pv 5) (pa_cons (pv 1) (pa_cons (pv 2) pa_nil)))))
    (pss_cons (ps_if (pt_cmpR op_eq (pv 7) (pe_callB call_len_seq rfl f_len boot_len (pa_cons (pv 2) pa_nil)) (nomark _)) (pss_one (ps_ret (pe_tup (pa_cons pe_str (pa_cons (pe_cl c_fill hr (by omega) pass0 (pa_cons (pv 6) (pa_cons (pe_cl c_bound hr (by omega) pass0 (pa_cons (pv 5) (pa_cons (pv 1) pa_nil))) pa_nil))) (pa_cons pe_bl (pa_cons (pv 4) pa_nil)))))))
    pss_nil)
    (pss_one (ps_if (pt_chain op_le op_lt pe_int (pv 7) (pv 3)) (pss_one (ps_set (i := 3) sc_fire.nd rfl (Or.inl rfl) (pv 7)))
    pss_nil))))))
    (pss_cons (ps_if (pt_cmpR op_lt (pv 3) (pe_callB call_len_seq rfl f_len boot_len (pa_cons (pv 2) pa_nil)) (nomark _)) (pss_one (ps_ret (pe_tup (pa_cons pe_str (pa_cons (pe_ix ix_tup (pv 1) (pe_op op_add (pe_ix ix_tup (pv 2) (pv 3) (fun _ _ => rfl)) pe_int) (fun _ _ => rfl)) pa_nil)))))
    pss_nil)
    (pss_one (ps_ret (pe_tup (pa_cons pe_str pa_nil)))))))
theorem ok_advance (X : K.In h) (G : h.Ns mainGlobals mg) (c : SaysP P K) : ∀ n : Nat, ClM P w K mg base CX0 (41 + n) "Language" "advance" (sp_advance K n) := by
  obtain ⟨fd, F⟩ := c.def_ 24 (d := d_advance) rfl
  have k_UNKNOWN : ∃ u, mg "UNKNOWN" = some u ∧ RelV (.int 1000) u := by
    obtain ⟨t, e⟩ := He.int_ok X G (c.fact 45 (f := .int "UNKNOWN" 1000) rfl)
    exact ⟨_, e, ⟨t, rfl⟩⟩
  have f_int := He.free_ok X G (c.fact 33 (f := .free "int") rfl)
  have f_isinstance := He.free_ok X G (c.fact 39 (f := .free "isinstance") rfl)
  have c_isdone := ok_isdone (P := P) (w := w) (base := base) X G c 40
  have c_putp := ok_putp (P := P) (w := w) (base := base) X G c
  have c_fire := ok_fire (P := P) (w := w) (base := base) X G c
  have m1 := And.intro (He.cls_ok (c.fact 52 (f := .cls "Language") rfl)) (He.meth_ok (c.fact 60 (f := .meth "Language" "advance") rfl))
  have bd := FunD.bindsN (ps := ["self", "form"]) F (fun _ _ _ _ _ _ us hl => match us, hl with | [_, _], _ => rfl)
  intro n
  induction n with
  | zero => exact ⟨_, fd, ["self", "form"], m1.1, m1.2, ⟨fun vs H Q E h => absurd h (no_advance vs H Q E), fun A outer s H args us vs Q E _ _ _ _ h => absurd h (no_advance vs H Q E)⟩, bd⟩
  | succ n ih =>
    refine ⟨_, fd, ["self", "form"], m1.1, m1.2, F.ok (k := 41 + n) sc_advance (fun vs H Q E h => len_advance h) (fun cdv A outer s H vs Q E hr h => ⟨t_advance K (sp_advance K n), PSs.nox ?_, rd_advance h⟩), bd⟩
    exact (pss_cons (ps_if (pt_val (pe_callB call_isi rfl f_isinstance boot_isinstance (pa_cons (pv 1) (pa_cons (pe_bltn rfl f_int boot_int rfl) pa_nil)))) (pss_one (ps_ret (pe_ifExp (pt_cmpR op_ge (pv 1) (pe_gc rfl k_UNKNOWN) (nomark _)) (pe_tup (pa_cons pe_str pa_nil)) (pe_tup (pa_cons pe_str (pa_cons (pv 1) pa_nil))))))
    pss_nil)
    (pss_cons (ps_set (i := 2) sc_advance.nd rfl (Or.inl rfl) (pe_dget (hu_of hr) (pe_fld (pv 0) rfl) (pe_ix ix_tup (pv 1) pe_int (fun _ _ => rfl)) (fun _ _ => rfl)))
    (pss_cons (ps_for PassesOwn.never rfl (pi_tup (pe_ix ix_tup (pv 2) pe_int (fun _ _ => rfl))) (pg_name (i := 3) sc_advance.nd rfl (Or.inl rfl))
    (pss_one (ps_if (pt_not (pt_val (pe_clm c_isdone hr (by omega) pass0 (pv 0) (pa_cons (pe_ix ix_tup (pv 1) (pe_op op_add (pv 3) pe_int) (fun _ _ => rfl)) pa_nil)))) (pss_cons (ps_set (i := 4) sc_advance.nd rfl (Or.inl rfl) (pe_clm ih hr (by omega) pass0 (pv 0) (pa_cons (pe_ix ix_tup (pv 1) (pe_op op_add (pv 3) pe_int) (fun _ _ => rfl)) pa_nil)))
    (pss_cons (ps_if (pt_cmpR op_ne (pe_ix ix_tup (pv 4) pe_int (fun _ _ => rfl)) pe_str (nomark _)) (pss_one (ps_ret (pv 4)))
    pss_nil)
    (pss_one (ps_ret (pe_tup (pa_cons pe_str (pa_cons (pe_cl c_putp hr (by omega) pass0 (pa_cons (pv 1) (pa_cons (pv 3) (pa_cons (pe_ix ix_tup (pv 4) pe_int (fun _ _ => rfl)) pa_nil)))) (pa_cons pe_bl (pa_cons (pe_ix ix_tup (pv 4) pe_int (fun _ _ => rfl)) pa_nil)))))))))
    pss_nil)))
    (pss_cons (ps_if (pt_val (pe_ix ix_tup (pv 2) pe_int (fun _ _ => rfl))) (pss_one (ps_ret (pe_tup (pa_cons pe_str pa_nil))))
    pss_nil)
    (pss_one (ps_ret (pe_clm c_fire hr (by omega) pass0 (pv 0) (pa_cons (pv 1) (pa_cons (pe_ix ix_tup (pv 2) pe_int (fun _ _ => rfl)) pa_nil)))))))))
theorem ok_table (X : K.In h) (G : h.Ns mainGlobals mg) (c : SaysP P K) : Cl P w K mg base CX0 1 "_law_table" (sp_table K) := by
  obtain ⟨fd, F⟩ := c.def_ 25 (d := d_table) rfl
  refine ⟨_, fd, ["_law_signs_here"], F.ok sc_table (fun vs H Q E h => len_table h) (fun cdv A outer s H vs Q E hr h => ⟨t_table K, PSs.nox ?_, rd_table h⟩), He.glo_ok X G (c.fact 22 (f := .glo "_law_table") rfl), F.kp, FunD.bindsN F (fun _ _ _ _ _ _ us hl => match us, hl with | [_], _ => rfl)⟩
  exact (pss_cons (ps_set (i := 1) sc_table.nd rfl (Or.inl rfl) pe_dnewK)
    (pss_cons (ps_for PassesOwn.never rfl (pi_list (pv 0)) (pg_name (i := 2) sc_table.nd rfl (Or.inl rfl))
    (pss_one (ps_dput (hu_of hr) (pv 1) (pe_ix ix_tup (pv 2) pe_int (fun _ _ => rfl)) (pv 2) rfl)))
    (pss_one (ps_ret (pv 1)))))
theorem ok_ldone (X : K.In h) (G : h.Ns mainGlobals mg) (c : SaysP P K) : ∀ n : Nat, Cl P w K mg base CX0 (0 + n) "_law_done" (sp_ldone K n) := by
  obtain ⟨fd, F⟩ := c.def_ 26 (d := d_ldone) rfl
  have f_all := He.free_ok X G (c.fact 46 (f := .free "all") rfl)
  have f_int := He.free_ok X G (c.fact 33 (f := .free "int") rfl)
  have f_isinstance := He.free_ok X G (c.fact 39 (f := .free "isinstance") rfl)
  have gl := He.glo_ok X G (c.fact 23 (f := .glo "_law_done") rfl)
  have bd := FunD.bindsN (ps := ["_law_table_here", "_law_form"]) F (fun _ _ _ _ _ _ us hl => match us, hl with | [_, _], _ => rfl)
  intro n
  induction n with
  | zero => exact ⟨_, fd, ["_law_table_here", "_law_form"], ⟨fun vs H Q E h => absurd h (no_ldone vs H Q E), fun A outer s H args us vs Q E _ _ _ _ h => absurd h (no_ldone vs H Q E)⟩, gl, F.kp, bd⟩
  | succ n ih =>
    refine ⟨_, fd, ["_law_table_here", "_law_form"], F.ok (k := 0 + n) sc_ldone (fun vs H Q E h => len_ldone h) (fun cdv A outer s H vs Q E hr h => ⟨t_ldone K (sp_ldone K n), PSs.nox ?_, rd_ldone h⟩), gl, F.kp, bd⟩
    exact (pss_cons (ps_if (PW.pt (pw_or (pt_val (pe_callB call_isi rfl f_isinstance boot_isinstance (pa_cons (pv 1) (pa_cons (pe_bltn rfl f_int boot_int rfl) pa_nil)))) (pw_or1 (pt_not (pt_val (pe_ix ix_tup (pe_dget (hu_of hr) (pv 0) (pe_ix ix_tup (pv 1) pe_int (fun _ _ => rfl)) (fun _ _ => rfl)) pe_int (fun _ _ => rfl))))))) (pss_one (ps_ret pe_bl))
    pss_nil)
    (pss_one (ps_ret (pe_callB (cr_all rfl) rfl f_all boot_all (pa_cons (pe_lc (own := [("_law_place", 2)]) (g := (gName 2)) (tt := tYes) rfl sc_ldone.nd  (pi_tup (pe_ix ix_tup (pe_dget (hu_of hr) (pv 0) (pe_ix ix_tup (pv 1) pe_int (fun _ _ => rfl)) (fun _ _ => rfl)) pe_int (fun _ _ => rfl))) (blkOk_by (own := [("_law_place", 2)]) (N := N_ldone) (sc := defScope s_ldone) (by decide +kernel)) (fun _ _ _ _ _ => pg_name (i := 2) sc_ldone.nd rfl (Or.inl rfl)) (fun _ _ _ _ _ => pts_nil) (fun _ _ _ _ _ => (pe_cl ih hr (by omega) pass0 (pa_cons (pv 0) (pa_cons (pe_ix ix_tup (pv 1) (pe_op op_add (pv 2) pe_int) (fun _ _ => rfl)) pa_nil))))) pa_nil)))))
theorem ok_lfill (X : K.In h) (G : h.Ns mainGlobals mg) (c : SaysP P K) : ∀ n : Nat, Cl P w K mg base CX0 (0 + n) "_law_fill" (sp_lfill K n) := by
  obtain ⟨fd, F⟩ := c.def_ 27 (d := d_lfill) rfl
  have f_int := He.free_ok X G (c.fact 33 (f := .free "int") rfl)
  have f_isinstance := He.free_ok X G (c.fact 39 (f := .free "isinstance") rfl)
  have f_tuple := He.free_ok X G (c.fact 38 (f := .free "tuple") rfl)
  have gl := He.glo_ok X G (c.fact 24 (f := .glo "_law_fill") rfl)
  have bd := FunD.bindsN (ps := ["_law_form", "_law_parts"]) F (fun _ _ _ _ _ _ us hl => match us, hl with | [_, _], _ => rfl)
  intro n
  induction n with
  | zero => exact ⟨_, fd, ["_law_form", "_law_parts"], ⟨fun vs H Q E h => absurd h (no_lfill vs H Q E), fun A outer s H args us vs Q E _ _ _ _ h => absurd h (no_lfill vs H Q E)⟩, gl, F.kp, bd⟩
  | succ n ih =>
    refine ⟨_, fd, ["_law_form", "_law_parts"], F.ok (k := 0 + n) sc_lfill (fun vs H Q E h => len_lfill h) (fun cdv A outer s H vs Q E hr h => ⟨t_lfill K (sp_lfill K n), PSs.nox ?_, rd_lfill h⟩), gl, F.kp, bd⟩
    exact (pss_cons (ps_if (pt_val (pe_callB call_isi rfl f_isinstance boot_isinstance (pa_cons (pv 0) (pa_cons (pe_bltn rfl f_int boot_int rfl) pa_nil)))) (pss_one (ps_ret (pe_dget2 (hu_of hr) (pv 1) (pv 0) (pv 0) ⟨rfl, rfl, rfl, rfl⟩)))
    pss_nil)
    (pss_one (ps_ret (pe_callTy call_tuple_of rfl f_tuple boot_tuple (pa_cons (pe_op op_cat (pe_lst (pa_cons (pe_ix ix_tup (pv 0) pe_int (fun _ _ => rfl)) pa_nil)) (pe_lc (own := [("_law_part", 2)]) (g := (gName 2)) (tt := tYes) rfl sc_lfill.nd  (pi_tup (pe_slice sl_tup (pv 0) (po_some pe_int) po_none)) (blkOk_by (own := [("_law_part", 2)]) (N := N_lfill) (sc := defScope s_lfill) (by decide +kernel)) (fun _ _ _ _ _ => pg_name (i := 2) sc_lfill.nd rfl (Or.inl rfl)) (fun _ _ _ _ _ => pts_nil) (fun _ _ _ _ _ => (pe_cl ih hr (by omega) pass0 (pa_cons (pv 2) (pa_cons (pv 1) pa_nil)))))) pa_nil)))))
theorem ok_match (X : K.In h) (G : h.Ns mainGlobals mg) (c : SaysP P K) : Cl P w K mg base CX0 1 "_law_match" (sp_match K) := by
  obtain ⟨fd, F⟩ := c.def_ 28 (d := d_match) rfl
  have f_int := He.free_ok X G (c.fact 33 (f := .free "int") rfl)
  have f_isinstance := He.free_ok X G (c.fact 39 (f := .free "isinstance") rfl)
  have f_len := He.free_ok X G (c.fact 34 (f := .free "len") rfl)
  have f_range := He.free_ok X G (c.fact 36 (f := .free "range") rfl)
  refine ⟨_, fd, ["_law_left_here", "_law_form"], F.ok sc_match (fun vs H Q E h => len_match h) (fun cdv A outer s H vs Q E hr h => ⟨t_match K, PSs.nox ?_, rd_match h⟩), He.glo_ok X G (c.fact 25 (f := .glo "_law_match") rfl), F.kp, FunD.bindsN F (fun _ _ _ _ _ _ us hl => match us, hl with | [_, _], _ => rfl)⟩
  exact (pss_cons (ps_set (i := 2) sc_match.nd rfl (Or.inl rfl) pe_dnewK)
    (pss_cons (ps_if (pt_cmpR op_ne (pe_ix ix_tup (pv 0) pe_int (fun _ _ => rfl)) (pe_ix ix_tup (pv 1) pe_int (fun _ _ => rfl)) (nomark _)) (pss_one (ps_ret pe_non))
    pss_nil)
    (pss_cons (ps_for PassesOwn.never rfl (pi_range2 rfl f_range (pa_cons pe_int (pa_cons (pe_callB call_len_seq rfl f_len boot_len (pa_cons (pv 0) pa_nil)) pa_nil))) (pg_name (i := 3) sc_match.nd rfl (Or.inl rfl))
    (pss_one (ps_if (pt_val (pe_callB call_isi rfl f_isinstance boot_isinstance (pa_cons (pe_ix ix_tup (pv 0) (pv 3) (fun _ _ => rfl)) (pa_cons (pe_bltn rfl f_int boot_int rfl) pa_nil)))) (pss_one (ps_dput (hu_of hr) (pv 2) (pe_ix ix_tup (pv 0) (pv 3) (fun _ _ => rfl)) (pe_ix ix_tup (pv 1) (pv 3) (fun _ _ => rfl)) rfl))
    (pss_one (ps_if (pt_cmpR op_ne (pe_ix ix_tup (pe_ix ix_tup (pv 0) (pv 3) (fun _ _ => rfl)) pe_int (fun _ _ => rfl)) (pe_ix ix_tup (pe_ix ix_tup (pv 1) (pv 3) (fun _ _ => rfl)) pe_int (fun _ _ => rfl)) (nomark _)) (pss_one (ps_ret pe_non))
    (pss_one (ps_for PassesOwn.never rfl (pi_range2 rfl f_range (pa_cons pe_int (pa_cons (pe_callB call_len_seq rfl f_len boot_len (pa_cons (pe_ix ix_tup (pv 0) (pv 3) (fun _ _ => rfl)) pa_nil)) pa_nil))) (pg_name (i := 4) sc_match.nd rfl (Or.inl rfl))
    (pss_one (ps_dput (hu_of hr) (pv 2) (pe_ix ix_tup (pe_ix ix_tup (pv 0) (pv 3) (fun _ _ => rfl)) (pv 4) (fun _ _ => rfl)) (pe_ix ix_tup (pe_ix ix_tup (pv 1) (pv 3) (fun _ _ => rfl)) (pv 4) (fun _ _ => rfl)) rfl)))))))))
    (pss_one (ps_ret (pv 2))))))
theorem ok_next (X : K.In h) (G : h.Ns mainGlobals mg) (c : SaysP P K) : ∀ n : Nat, Cl P w K mg base CX0 (40 + n) "_law_next" (sp_next K n) := by
  obtain ⟨fd, F⟩ := c.def_ 29 (d := d_next) rfl
  have f_int := He.free_ok X G (c.fact 33 (f := .free "int") rfl)
  have f_isinstance := He.free_ok X G (c.fact 39 (f := .free "isinstance") rfl)
  have f_len := He.free_ok X G (c.fact 34 (f := .free "len") rfl)
  have f_range := He.free_ok X G (c.fact 36 (f := .free "range") rfl)
  have c_ldone := ok_ldone (P := P) (w := w) (base := base) X G c 40
  have c_match := ok_match (P := P) (w := w) (base := base) X G c
  have c_lfill := ok_lfill (P := P) (w := w) (base := base) X G c 40
  have gl := He.glo_ok X G (c.fact 26 (f := .glo "_law_next") rfl)
  have bd := FunD.bindsN (ps := ["_law_table_here", "_law_rules_here", "_law_form"]) F (fun _ _ _ _ _ _ us hl => match us, hl with | [_, _, _], _ => rfl)
  intro n
  induction n with
  | zero => exact ⟨_, fd, ["_law_table_here", "_law_rules_here", "_law_form"], ⟨fun vs H Q E h => absurd h (no_next vs H Q E), fun A outer s H args us vs Q E _ _ _ _ h => absurd h (no_next vs H Q E)⟩, gl, F.kp, bd⟩
  | succ n ih =>
    refine ⟨_, fd, ["_law_table_here", "_law_rules_here", "_law_form"], F.ok (k := 40 + n) sc_next (fun vs H Q E h => len_next h) (fun cdv A outer s H vs Q E hr h => ⟨t_next K (sp_next K n), PSs.nox ?_, rd_next h⟩), gl, F.kp, bd⟩
    exact (pss_cons (ps_if (pt_val (pe_callB call_isi rfl f_isinstance boot_isinstance (pa_cons (pv 2) (pa_cons (pe_bltn rfl f_int boot_int rfl) pa_nil)))) (pss_one (ps_ret (pe_tup (pa_cons pe_str (pa_cons (pv 2) pa_nil)))))
    pss_nil)
    (pss_cons (ps_for PassesOwn.never rfl (pi_tup (pe_ix ix_tup (pe_dget (hu_of hr) (pv 0) (pe_ix ix_tup (pv 2) pe_int (fun _ _ => rfl)) (fun _ _ => rfl)) pe_int (fun _ _ => rfl))) (pg_name (i := 3) sc_next.nd rfl (Or.inl rfl))
    (pss_one (ps_if (pt_not (pt_val (pe_cl c_ldone hr (by omega) pass0 (pa_cons (pv 0) (pa_cons (pe_ix ix_tup (pv 2) (pe_op op_add (pv 3) pe_int) (fun _ _ => rfl)) pa_nil))))) (pss_cons (ps_set (i := 4) sc_next.nd rfl (Or.inl rfl) (pe_cl ih hr (by omega) pass0 (pa_cons (pv 0) (pa_cons (pv 1) (pa_cons (pe_ix ix_tup (pv 2) (pe_op op_add (pv 3) pe_int) (fun _ _ => rfl)) pa_nil)))))
    (pss_cons (ps_if (pt_cmpR op_ne (pe_ix ix_tup (pv 4) pe_int (fun _ _ => rfl)) pe_str (nomark _)) (pss_one (ps_ret (pv 4)))
    pss_nil)
    (pss_one (ps_ret (pe_tup (pa_cons pe_str (pa_cons (pe_op op_catA (pe_op op_catA (pe_slice sl_tupA (pv 2) po_none (po_some (pe_op op_add (pv 3) pe_int))) (pe_tup (pa_cons (pe_ix ix_tup (pv 4) pe_int (fun _ _ => rfl)) pa_nil))) (pe_slice sl_tupA (pv 2) (po_some (pe_op op_add (pv 3) pe_int)) po_none)) (pa_cons pe_bl (pa_cons (pe_ix ix_tup (pv 4) pe_int (fun _ _ => rfl)) pa_nil)))))))))
    pss_nil)))
    (pss_cons (ps_for PassesOwn.never rfl (pi_range1 rfl f_range (pa_cons (pe_callB call_len_seq rfl f_len boot_len (pa_cons (pv 1) pa_nil)) pa_nil)) (pg_name (i := 5) sc_next.nd rfl (Or.inl rfl))
    (pss_cons (ps_set (i := 6) sc_next.nd rfl (Or.inl rfl) (pe_cl c_match hr (by omega) pass0 (pa_cons (pe_ix ix_tup (pe_ix ix_list (pv 1) (pv 5) (fun _ _ => rfl)) pe_int (fun _ _ => rfl)) (pa_cons (pv 2) pa_nil))))
    (pss_one (ps_if (pt_cmpR op_notN (pv 6) pe_non (nomark _)) (pss_one (ps_ret (pe_tup (pa_cons pe_str (pa_cons (pe_cl c_lfill hr (by omega) pass0 (pa_cons (pe_ix ix_tup (pe_ix ix_list (pv 1) (pv 5) (fun _ _ => rfl)) pe_int (fun _ _ => rfl)) (pa_cons (pv 6) pa_nil))) (pa_cons pe_bl (pa_cons (pv 5) pa_nil)))))))
    pss_nil))))
    (pss_one (ps_ret (pe_ix ix_list (pe_lst (pa_cons (pe_tup (pa_cons pe_str pa_nil)) (pa_cons (pe_tup (pa_cons pe_str pa_nil)) pa_nil))) (pe_callTy call_int1 rfl f_int boot_int (pa_cons (pe_ix ix_tup (pe_dget (hu_of hr) (pv 0) (pe_ix ix_tup (pv 2) pe_int (fun _ _ => rfl)) (fun _ _ => rfl)) pe_int (fun _ _ => rfl)) pa_nil)) (fun _ _ => rfl)))))))
theorem ok_lsame (X : K.In h) (G : h.Ns mainGlobals mg) (c : SaysP P K) : ∀ n : Nat, Cl P w K mg base CX0 (0 + n) "_law_same" (sp_lsame K n) := by
  obtain ⟨fd, F⟩ := c.def_ 30 (d := d_lsame) rfl
  have f_bool := He.free_ok X G (c.fact 47 (f := .free "bool") rfl)
  have f_int := He.free_ok X G (c.fact 33 (f := .free "int") rfl)
  have f_isinstance := He.free_ok X G (c.fact 39 (f := .free "isinstance") rfl)
  have f_len := He.free_ok X G (c.fact 34 (f := .free "len") rfl)
  have f_range := He.free_ok X G (c.fact 36 (f := .free "range") rfl)
  have f_str := He.free_ok X G (c.fact 48 (f := .free "str") rfl)
  have f_tuple := He.free_ok X G (c.fact 38 (f := .free "tuple") rfl)
  have gl := He.glo_ok X G (c.fact 27 (f := .glo "_law_same") rfl)
  have bd := FunD.bindsN (ps := ["_law_answer", "_law_due_here"]) F (fun _ _ _ _ _ _ us hl => match us, hl with | [_, _], _ => rfl)
  intro n
  induction n with
  | zero => exact ⟨_, fd, ["_law_answer", "_law_due_here"], ⟨fun vs H Q E h => absurd h (no_lsame vs H Q E), fun A outer s H args us vs Q E _ _ _ _ h => absurd h (no_lsame vs H Q E)⟩, gl, F.kp, bd⟩
  | succ n ih =>
    refine ⟨_, fd, ["_law_answer", "_law_due_here"], F.ok (k := 0 + n) sc_lsame (fun vs H Q E h => len_lsame h) (fun cdv A outer s H vs Q E hr h => ⟨t_lsame K (sp_lsame K n), PSs.nox ?_, rd_lsame h⟩), gl, F.kp, bd⟩
    exact (pss_cons (ps_if (pt_val (pe_callB call_isi rfl f_isinstance boot_isinstance (pa_cons (pv 1) (pa_cons (pe_bltn rfl f_int boot_int rfl) pa_nil)))) (pss_one (ps_ret (pe_and (pe_callB call_isi rfl f_isinstance boot_isinstance (pa_cons (pv 0) (pa_cons (pe_bltn rfl f_int boot_int rfl) pa_nil))) (pe_and (pe_not (pe_callB call_isi rfl f_isinstance boot_isinstance (pa_cons (pv 0) (pa_cons (pe_bltn rfl f_bool boot_bool rfl) pa_nil)))) (pe_one (pe_cmpR op_eq (pv 0) (pv 1) (nomark _)))))))
    pss_nil)
    (pss_cons (ps_if (PW.pt (pw_or (pt_not (pt_val (pe_callB call_isi rfl f_isinstance boot_isinstance (pa_cons (pv 0) (pa_cons (pe_bltn rfl f_tuple boot_tuple rfl) pa_nil))))) (pw_or1 (pt_cmpR op_ne (pe_callB call_len_seq rfl f_len boot_len (pa_cons (pv 0) pa_nil)) (pe_callB call_len_seq rfl f_len boot_len (pa_cons (pv 1) pa_nil)) (nomark _))))) (pss_one (ps_ret pe_bl))
    pss_nil)
    (pss_cons (ps_if (PW.pt (pw_or (pt_not (pt_val (pe_callB call_isi rfl f_isinstance boot_isinstance (pa_cons (pe_ix ix_tup (pv 0) pe_int (fun _ _ => rfl)) (pa_cons (pe_bltn rfl f_str boot_str rfl) pa_nil))))) (pw_or1 (pt_cmpR op_ne (pe_ix ix_tup (pv 0) pe_int (fun _ _ => rfl)) (pe_ix ix_tup (pv 1) pe_int (fun _ _ => rfl)) (nomark _))))) (pss_one (ps_ret pe_bl))
    pss_nil)
    (pss_cons (ps_for PassesOwn.never rfl (pi_range2 rfl f_range (pa_cons pe_int (pa_cons (pe_callB call_len_seq rfl f_len boot_len (pa_cons (pv 1) pa_nil)) pa_nil))) (pg_name (i := 2) sc_lsame.nd rfl (Or.inl rfl))
    (pss_one (ps_if (pt_not (pt_val (pe_cl ih hr (by omega) pass0 (pa_cons (pe_ix ix_tup (pv 0) (pv 2) (fun _ _ => rfl)) (pa_cons (pe_ix ix_tup (pv 1) (pv 2) (fun _ _ => rfl)) pa_nil))))) (pss_one (ps_ret pe_bl))
    pss_nil)))
    (pss_one (ps_ret pe_bl))))))
theorem okH_lsame (X : K.In h) (G : h.Ns mainGlobals mg) (c : SaysP P K) : ∀ n : Nat, ClH P w K mg base CX0 (0 + n) "_law_same" (sp_lsame K n) := by
  obtain ⟨fd, F⟩ := c.def_ 30 (d := d_lsame) rfl
  have f_bool := He.free_ok X G (c.fact 47 (f := .free "bool") rfl)
  have f_int := He.free_ok X G (c.fact 33 (f := .free "int") rfl)
  have f_isinstance := He.free_ok X G (c.fact 39 (f := .free "isinstance") rfl)
  have f_len := He.free_ok X G (c.fact 34 (f := .free "len") rfl)
  have f_range := He.free_ok X G (c.fact 36 (f := .free "range") rfl)
  have f_str := He.free_ok X G (c.fact 48 (f := .free "str") rfl)
  have f_tuple := He.free_ok X G (c.fact 38 (f := .free "tuple") rfl)
  have gl := He.glo_ok X G (c.fact 27 (f := .glo "_law_same") rfl)
  have bd := FunD.bindsN (ps := ["_law_answer", "_law_due_here"]) F (fun _ _ _ _ _ _ us hl => match us, hl with | [_, _], _ => rfl)
  intro n
  induction n with
  | zero => exact ⟨_, fd, ["_law_answer", "_law_due_here"], ⟨fun vs H Q E h => absurd h (no_lsame vs H Q E), fun A outer s H args us vs Q E p _ _ _ _ _ _ h => absurd h (no_lsame vs H Q E)⟩, gl, F.kp, bd⟩
  | succ n ih =>
    refine ⟨_, fd, ["_law_answer", "_law_due_here"], My.FunD.okH F (k := 0 + n) sc_lsame (fun vs H Q E h => len_lsame h) (fun cdv A outer s H vs Q E p hh hr h => ⟨t_lsame K (sp_lsame K n), PSs.nox ?_, rd_lsame h⟩), gl, F.kp, bd⟩
    exact (pss_cons (ps_if (pt_val (pe_callB call_isi rfl f_isinstance boot_isinstance (pa_cons (pv 1) (pa_cons (pe_bltn rfl f_int boot_int rfl) pa_nil)))) (pss_one (ps_ret (pe_and (pe_callB call_isi rfl f_isinstance boot_isinstance (pa_cons (pv 0) (pa_cons (pe_bltn rfl f_int boot_int rfl) pa_nil))) (pe_and (pe_not (pe_callB call_isi rfl f_isinstance boot_isinstance (pa_cons (pv 0) (pa_cons (pe_bltn rfl f_bool boot_bool rfl) pa_nil)))) (pe_one (pe_cmpR op_eq (pv 0) (pv 1) (nomark _)))))))
    pss_nil)
    (pss_cons (ps_if (PW.pt (pw_or (pt_not (pt_val (pe_callB call_isi rfl f_isinstance boot_isinstance (pa_cons (pv 0) (pa_cons (pe_bltn rfl f_tuple boot_tuple rfl) pa_nil))))) (pw_or1 (pt_cmpR op_ne (pe_callB call_len_seq rfl f_len boot_len (pa_cons (pv 0) pa_nil)) (pe_callB call_len_seq rfl f_len boot_len (pa_cons (pv 1) pa_nil)) (nomark _))))) (pss_one (ps_ret pe_bl))
    pss_nil)
    (pss_cons (ps_if (PW.pt (pw_or (pt_not (pt_val (pe_callB call_isi rfl f_isinstance boot_isinstance (pa_cons (pe_ix ix_tup (pv 0) pe_int (fun _ _ => rfl)) (pa_cons (pe_bltn rfl f_str boot_str rfl) pa_nil))))) (pw_or1 (pt_cmpR op_ne (pe_ix ix_tup (pv 0) pe_int (fun _ _ => rfl)) (pe_ix ix_tup (pv 1) pe_int (fun _ _ => rfl)) (nomark _))))) (pss_one (ps_ret pe_bl))
    pss_nil)
    (pss_cons (L2H.ps_forH PassesOwn.never (by exact ⟨p, hh, List.mem_singleton.mpr rfl⟩) (pi_range2H rfl f_range (pa_cons pe_int (pa_cons (pe_callB call_len_seq rfl f_len boot_len (pa_cons (pv 1) pa_nil)) pa_nil))) (pg_name (i := 2) sc_lsame.nd rfl (Or.inl rfl))
    (pss_one (ps_if (pt_not (pt_val (pe_clH ih hr (by exact ⟨p, hh, List.mem_singleton.mpr rfl⟩) (by omega) (fun _ => at0) (pa_cons (pe_ix ix_tup (pv 0) (pv 2) (fun _ _ => rfl)) (pa_cons (pe_ix ix_tup (pv 1) (pv 2) (fun _ _ => rfl)) pa_nil))))) (pss_one (ps_ret pe_bl))
    pss_nil)))
    (pss_one (ps_ret pe_bl))))))
theorem ok_lsize (X : K.In h) (G : h.Ns mainGlobals mg) (c : SaysP P K) : ∀ n : Nat, Cl P w K mg base CX0 (0 + n) "_law_size" (sp_lsize K n) := by
  obtain ⟨fd, F⟩ := c.def_ 31 (d := d_lsize) rfl
  have f_int := He.free_ok X G (c.fact 33 (f := .free "int") rfl)
  have f_isinstance := He.free_ok X G (c.fact 39 (f := .free "isinstance") rfl)
  have f_sum := He.free_ok X G (c.fact 37 (f := .free "sum") rfl)
  have gl := He.glo_ok X G (c.fact 28 (f := .glo "_law_size") rfl)
  have bd := FunD.bindsN (ps := ["_law_form"]) F (fun _ _ _ _ _ _ us hl => match us, hl with | [_], _ => rfl)
  intro n
  induction n with
  | zero => exact ⟨_, fd, ["_law_form"], ⟨fun vs H Q E h => absurd h (no_lsize vs H Q E), fun A outer s H args us vs Q E _ _ _ _ h => absurd h (no_lsize vs H Q E)⟩, gl, F.kp, bd⟩
  | succ n ih =>
    refine ⟨_, fd, ["_law_form"], F.ok (k := 0 + n) sc_lsize (fun vs H Q E h => len_lsize h) (fun cdv A outer s H vs Q E hr h => ⟨t_lsize K (sp_lsize K n), PSs.nox ?_, rd_lsize h⟩), gl, F.kp, bd⟩
    exact (pss_cons (ps_if (pt_val (pe_callB call_isi rfl f_isinstance boot_isinstance (pa_cons (pv 0) (pa_cons (pe_bltn rfl f_int boot_int rfl) pa_nil)))) (pss_one (ps_ret pe_int))
    pss_nil)
    (pss_one (ps_ret (pe_op op_add pe_int (pe_callB (cr_sum rfl) rfl f_sum boot_sum (pa_cons (pe_lc (own := [("_law_part", 1)]) (g := (gName 1)) (tt := tYes) rfl sc_lsize.nd  (pi_tup (pe_slice sl_tup (pv 0) (po_some pe_int) po_none)) (blkOk_by (own := [("_law_part", 1)]) (N := N_lsize) (sc := defScope s_lsize) (by decide +kernel)) (fun _ _ _ _ _ => pg_name (i := 1) sc_lsize.nd rfl (Or.inl rfl)) (fun _ _ _ _ _ => pts_nil) (fun _ _ _ _ _ => (pe_cl ih hr (by omega) pass0 (pa_cons (pv 1) pa_nil)))) pa_nil))))))
theorem ok_llev (X : K.In h) (G : h.Ns mainGlobals mg) (c : SaysP P K) : ∀ n : Nat, Cl P w K mg base CX0 (0 + n) "_law_levels" (sp_llev K n) := by
  obtain ⟨fd, F⟩ := c.def_ 32 (d := d_llev) rfl
  have f_int := He.free_ok X G (c.fact 33 (f := .free "int") rfl)
  have f_isinstance := He.free_ok X G (c.fact 39 (f := .free "isinstance") rfl)
  have f_len := He.free_ok X G (c.fact 34 (f := .free "len") rfl)
  have f_max := He.free_ok X G (c.fact 49 (f := .free "max") rfl)
  have gl := He.glo_ok X G (c.fact 29 (f := .glo "_law_levels") rfl)
  have bd := FunD.bindsN (ps := ["_law_form"]) F (fun _ _ _ _ _ _ us hl => match us, hl with | [_], _ => rfl)
  intro n
  induction n with
  | zero => exact ⟨_, fd, ["_law_form"], ⟨fun vs H Q E h => absurd h (no_llev vs H Q E), fun A outer s H args us vs Q E _ _ _ _ h => absurd h (no_llev vs H Q E)⟩, gl, F.kp, bd⟩
  | succ n ih =>
    refine ⟨_, fd, ["_law_form"], F.ok (k := 0 + n) sc_llev (fun vs H Q E h => len_llev h) (fun cdv A outer s H vs Q E hr h => ⟨t_llev K (sp_llev K n), PSs.nox ?_, rd_llev h⟩), gl, F.kp, bd⟩
    exact (pss_cons (ps_if (PW.pt (pw_or (pt_val (pe_callB call_isi rfl f_isinstance boot_isinstance (pa_cons (pv 0) (pa_cons (pe_bltn rfl f_int boot_int rfl) pa_nil)))) (pw_or1 (pt_cmpR op_eq (pe_callB call_len_seq rfl f_len boot_len (pa_cons (pv 0) pa_nil)) pe_int (nomark _))))) (pss_one (ps_ret pe_int))
    pss_nil)
    (pss_one (ps_ret (pe_op op_add pe_int (pe_callB (cr_max rfl) rfl f_max boot_max (pa_cons (pe_lc (own := [("_law_part", 1)]) (g := (gName 1)) (tt := tYes) rfl sc_llev.nd  (pi_tup (pe_slice sl_tup (pv 0) (po_some pe_int) po_none)) (blkOk_by (own := [("_law_part", 1)]) (N := N_llev) (sc := defScope s_llev) (by decide +kernel)) (fun _ _ _ _ _ => pg_name (i := 1) sc_llev.nd rfl (Or.inl rfl)) (fun _ _ _ _ _ => pts_nil) (fun _ _ _ _ _ => (pe_callTy call_int1 rfl f_int boot_int (pa_cons (pe_cl ih hr (by omega) pass0 (pa_cons (pv 1) pa_nil)) pa_nil)))) pa_nil))))))
theorem ok_run (X : K.In h) (G : h.Ns mainGlobals mg) (c : SaysP P K) : ClMH P w K mg base 82 "Language" "run" (sp_run K) := by
  obtain ⟨fd, F⟩ := c.def_ 33 (d := d_run) rfl
  have e_BadForm := ok_err_BadForm (P := P) (w := w) (base := base) X G c
  have f_range := He.free_ok X G (c.fact 36 (f := .free "range") rfl)
  have c_known := ok_known (P := P) (w := w) (base := base) X G c 40
  have c_advance := ok_advance (P := P) (w := w) (base := base) X G c 40
  refine ⟨_, fd, ["self", "form", "most"], He.cls_ok (c.fact 52 (f := .cls "Language") rfl), He.meth_ok (c.fact 61 (f := .meth "Language" "run") rfl), My.FunD.okGen F sc_run (by decide +kernel) (fun vs H Pr Q E h => len_run h) (fun cdv A outer L a go CI H vs Pr Q E hr h => ⟨t_run K Pr E, ?_, rd_run h⟩), FunD.bindsN F (fun _ _ _ _ _ _ us hl => match us, hl with | [_, _, _], _ => rfl)⟩
  exact (hss_cons (hs_ps (fun _ _ => (ps_if (pt_not (pt_val (pe_cl c_known hr (by omega) pass0 (pa_cons (pe_fld (pv 0) rfl) (pa_cons (pv 1) pa_nil))))) (pss_one (ps_raise1 e_BadForm rfl My.takes_turn hr (by omega) (pv 1)))
    pss_nil)))
    (hss_cons (hs_yield (fun _ _ => (pv 1)))
    (hss_cons (hs_for (fun _ _ => (pi_range1 rfl f_range (pa_cons (pv 2) pa_nil))) (fun _ _ => pg_name (i := 3) sc_run.nd rfl (Or.inl rfl))
    (hss_cons (hs_ps (fun _ _ => (ps_set (i := 4) sc_run.nd rfl (Or.inl rfl) (pe_clm c_advance hr (by omega) pass0 (pv 0) (pa_cons (pv 1) pa_nil)))))
    (hss_cons (hs_ps (fun _ _ => (ps_if (pt_cmpR op_ne (pe_ix ix_tup (pv 4) pe_int (fun _ _ => rfl)) pe_str (nomark _)) (pss_one ps_retN)
    pss_nil)))
    (hss_cons (hs_ps (fun _ _ => (ps_set (i := 1) sc_run.nd rfl (Or.inl rfl) (pe_ix ix_tup (pv 4) pe_int (fun _ _ => rfl)))))
    (hss_cons (hs_yield (fun _ _ => (pv 1)))
    hss_nil)))))
    hss_nil)))
theorem ok_due (X : K.In h) (G : h.Ns mainGlobals mg) (c : SaysP P K) : Cl P w K mg base CX0 81 "_law_due" (sp_due K) := by
  obtain ⟨fd, F⟩ := c.def_ 34 (d := d_due) rfl
  have f_len := He.free_ok X G (c.fact 34 (f := .free "len") rfl)
  have f_range := He.free_ok X G (c.fact 36 (f := .free "range") rfl)
  have c_next := ok_next (P := P) (w := w) (base := base) X G c 40
  have c_lsize := ok_lsize (P := P) (w := w) (base := base) X G c 40
  have c_llev := ok_llev (P := P) (w := w) (base := base) X G c 40
  refine ⟨_, fd, ["_law_table_here", "_law_rules_here", "_law_form", "_law_most"], F.ok sc_due (fun vs H Q E h => len_due h) (fun cdv A outer s H vs Q E hr h => ⟨t_due K, PSs.nox ?_, rd_due h⟩), He.glo_ok X G (c.fact 30 (f := .glo "_law_due") rfl), F.kp, FunD.bindsN F (fun _ _ _ _ _ _ us hl => match us, hl with | [_, _, _, _], _ => rfl)⟩
  exact (pss_cons (ps_set (i := 4) sc_due.nd rfl (Or.inl rfl) (pe_lst (pa_cons (pv 2) pa_nil)))
    (pss_cons (ps_for PassesOwn.never rfl (pi_range1 rfl f_range (pa_cons (pv 3) pa_nil)) (pg_name (i := 5) sc_due.nd rfl (Or.inl rfl))
    (pss_cons (ps_set (i := 6) sc_due.nd rfl (Or.inl rfl) (pe_cl c_next hr (by omega) pass0 (pa_cons (pv 0) (pa_cons (pv 1) (pa_cons (pe_ix ix_list (pv 4) (pe_un un_neg pe_int) (fun _ _ => rfl)) pa_nil)))))
    (pss_one (ps_if (PW.pt (pw_and (pt_cmpR op_eq (pe_callB call_len_seq rfl f_len boot_len (pa_cons (pv 4) pa_nil)) (pe_op op_add (pv 5) pe_int) (nomark _)) (pw_and1 (pt_cmpR op_eq (pe_ix ix_tup (pv 6) pe_int (fun _ _ => rfl)) pe_str (nomark _))))) (pss_one (ps_if (PW.pt (pw_and (pt_cmpR op_le (pe_cl c_lsize hr (by omega) pass0 (pa_cons (pe_ix ix_tup (pv 6) pe_int (fun _ _ => rfl)) pa_nil)) pe_int (nomark _)) (pw_and1 (pt_cmpR op_le (pe_cl c_llev hr (by omega) pass0 (pa_cons (pe_ix ix_tup (pv 6) pe_int (fun _ _ => rfl)) pa_nil)) pe_int (nomark _))))) (pss_one (ps_expr (pe_bm PySem.F.plainAttrs_list PySem.F.slot_list_append PySem.F.type_list_append mt_append (pv 4) (pa_cons (pe_ix ix_tup (pv 6) pe_int (fun _ _ => rfl)) pa_nil))))
    pss_nil))
    pss_nil))))
    (pss_one (ps_ret (pv 4)))))
theorem ok_asked (X : K.In h) (G : h.Ns mainGlobals mg) (c : SaysP P K) : Cl P w K mg base CX0 86 "_law_asked" (sp_asked K) := by
  obtain ⟨fd, F⟩ := c.def_ 35 (d := d_asked) rfl
  have f_len := He.free_ok X G (c.fact 34 (f := .free "len") rfl)
  have c_run := ok_run (P := P) (w := w) (base := base) X G c
  have c_lsame := ok_lsame (P := P) (w := w) (base := base) X G c 40
  refine ⟨_, fd, ["_law_language_here", "_law_due_here", "_law_most"], F.ok sc_asked (fun vs H Q E h => len_asked h) (fun cdv A outer s H vs Q E hr h => ⟨t_asked K, PSs.nox ?_, rd_asked h⟩), He.glo_ok X G (c.fact 31 (f := .glo "_law_asked") rfl), F.kp, FunD.bindsN F (fun _ _ _ _ _ _ us hl => match us, hl with | [_, _, _], _ => rfl)⟩
  exact (pss_cons (ps_set (i := 3) sc_asked.nd rfl (Or.inl rfl) pe_int)
    (pss_cons (My.ps_forG rfl rfl (My.pgx_cm c_run hr (by omega) (pv 0) (pa_cons (pe_ix ix_list (pv 1) pe_int (fun _ _ => rfl)) (pa_cons (pv 2) pa_nil))) (hr.mono (by omega)) (pg_name (i := 4) sc_asked.nd rfl (Or.inl rfl))
    (pss_cons (ps_if (PW.pt (pw_or (pt_cmpR op_ge (pv 3) (pe_callB call_len_seq rfl f_len boot_len (pa_cons (pv 1) pa_nil)) (nomark _)) (pw_or1 (pt_not (pt_val (pe_cl c_lsame hr (by omega) pass0 (pa_cons (pv 4) (pa_cons (pe_ix ix_list (pv 1) (pv 3) (fun _ _ => rfl)) pa_nil)))))))) (pss_one (ps_ret pe_bl))
    pss_nil)
    (pss_one (ps_set (i := 3) sc_asked.nd rfl (Or.inl rfl) (pe_op op_add (pv 3) pe_int)))))
    (pss_one (ps_ret (pe_cmpR op_eq (pv 3) (pe_callB call_len_seq rfl f_len boot_len (pa_cons (pv 1) pa_nil)) (nomark _))))))
theorem ok_law_fn (X : K.In h) (G : h.Ns mainGlobals mg) (c : SaysP P K) {f : Addr} {fd : FuncData} (F : FnP K "law" "law" s_law f fd) : FnOk P w K mg base CX0 87 f fd ["_law_script"] (spLaw K) := by
  have g_BadForm := He.glo_ok X G (c.fact 50 (f := .glo "BadForm") rfl)
  have g_TableError := He.glo_ok X G (c.fact 51 (f := .glo "TableError") rfl)
  have f_isinstance := He.free_ok X G (c.fact 39 (f := .free "isinstance") rfl)
  have f_len := He.free_ok X G (c.fact 34 (f := .free "len") rfl)
  have f_list := He.free_ok X G (c.fact 44 (f := .free "list") rfl)
  have f_range := He.free_ok X G (c.fact 36 (f := .free "range") rfl)
  have hst := sbE_ok (c.more 3 (x := sbE "BadForm" "StopIteration" false) rfl)
  have c_language := ok_language (P := P) (w := w) (base := base) X G c
  have c_take := ok_take (P := P) (w := w) (base := base) X G c
  have c_init := ok_init (P := P) (w := w) (base := base) X G c
  have c_grow := ok_grow (P := P) (w := w) (base := base) X G c 7
  have c_table := ok_table (P := P) (w := w) (base := base) X G c
  have c_due := ok_due (P := P) (w := w) (base := base) X G c
  have c_next := ok_next (P := P) (w := w) (base := base) X G c 40
  have c_asked := ok_asked (P := P) (w := w) (base := base) X G c
  have c_run := ok_run (P := P) (w := w) (base := base) X G c
  have c_lsame := ok_lsame (P := P) (w := w) (base := base) X G c 40
  have cH_lsame := okH_lsame (P := P) (w := w) (base := base) X G c 40
  have e_BadSign := errM_ok (c.more 4 (x := errM "BadSign" "BadSign" "index" "/claim/cut.py") rfl)
  have e_BadRule := errM_ok (c.more 5 (x := errM "BadRule" "BadRule" "index" "/claim/cut.py") rfl)
  have e_Overlap := errM2_ok (c.more 6 (x := errM2 "Overlap" "Overlap" "first" "second" "/claim/cut.py") rfl)
  have hL : LK K := ⟨He.cls_ok (c.fact 52 (f := .cls "Language") rfl), He.noat_ok (c.fact 53 (f := .noat "Language" "sign_rows") rfl), He.noat_ok (c.fact 54 (f := .noat "Language" "rule_pairs") rfl), He.noat_ok (c.fact 55 (f := .noat "Language" "row_of") rfl), He.noat_ok (c.fact 56 (f := .noat "Language" "rules_of") rfl), ⟨e_BadSign.1, e_BadSign.2.1⟩, ⟨e_BadRule.1, e_BadRule.2.1⟩, ⟨e_Overlap.1, e_Overlap.2.1, e_Overlap.2.2.1⟩⟩
  have q := errM_ok (c.more 7 (x := errM "BadForm" "BadForm" "form" "/claim/cut.py") rfl)
  have hK : TK K := ⟨hL, ⟨q.1, q.2.1⟩, (excE_ok (c.more 0 (x := excE "BadForm") rfl)).1, (excE_ok (c.more 0 (x := excE "BadForm") rfl)).2, exmE_ok (c.more 1 (x := exmE "BadForm" "TableError" true) rfl), kitE_ok (c.more 2 (x := kitE "BadForm" "BadForm" true) rfl)⟩
  refine F.ok sc_law (fun vs H Q E h => len_law h) (fun cdv A outer s H vs Q E hr h => ⟨t_law K, PSs.nox ?_, rd_law hK h⟩)
  exact (pss_cons (ps_set (i := 1) sc_law.nd rfl (Or.inl rfl) (pe_cl c_language hr (by omega) pass0 (pa_cons (pv 0) (pa_cons pe_int pa_nil))))
    (pss_cons (ps_set (i := 2) sc_law.nd rfl (Or.inr rfl) (pe_ix ix_tup (pv 1) pe_int (fun _ _ => rfl)))
    (pss_cons (ps_set (i := 3) sc_law.nd rfl (Or.inl rfl) (pe_ix ix_tup (pv 1) pe_int (fun _ _ => rfl)))
    (pss_cons (ps_set (i := 4) sc_law.nd rfl (Or.inl rfl) (pe_ix ix_tup (pv 1) pe_int (fun _ _ => rfl)))
    (pss_cut (ps_if (PW.pt (pw_and (pt_cmpR op_gt (pe_callB call_len_seq rfl f_len boot_len (pa_cons (pv 4) pa_nil)) pe_int (nomark _)) (pw_and1 (pt_cmpR op_eq (pe_cl c_take hr (by omega) pass0 (pa_cons (pv 2) (pa_cons pe_int pa_nil))) pe_int (nomark _))))) (pss_cons (ps_set (i := 5) sc_law.nd rfl (Or.inl rfl) (pe_cl c_take hr (by omega) pass0 (pa_cons (pv 2) (pa_cons (pe_callB call_len_seq rfl f_len boot_len (pa_cons (pv 4) pa_nil)) pa_nil))))
    (pss_one (ps_asg (pe_tup (pa_cons (pe_ix ix_tup (pe_ix ix_list (pv 4) (pv 5) (fun _ _ => rfl)) pe_int (fun _ _ => rfl)) (pa_cons (pe_ix ix_tup (pe_ix ix_list (pv 4) (pv 5) (fun _ _ => rfl)) pe_int (fun _ _ => rfl)) pa_nil))) (pg_sub (pv 4) (pv 5) set_list))))
    pss_nil)
    (pss_cons (ps_set (i := 6) sc_law.nd rfl (Or.inl rfl) (pe_clk c_init hr (by omega) passN (pa_cons (pe_callTy call_list_of rfl f_list boot_list (pa_cons (pv 3) pa_nil)) (pa_cons (pe_callTy call_list_of rfl f_list boot_list (pa_cons (pv 4) pa_nil)) pa_nil))))
    (pss_cons (ps_setLc (i := 7) (own := [("_law_k", 16)]) (g := (gName 16)) (tt := tYes) rfl sc_law.nd rfl rfl (sw_true rfl rfl rfl (by decide +kernel)) (pi_range1 rfl f_range (pa_cons (pe_cl c_take hr (by omega) pass0 (pa_cons (pv 2) (pa_cons pe_int pa_nil))) pa_nil)) (blkOk_by (own := [("_law_k", 16)]) (N := N_law) (sc := defScope s_law) (by decide +kernel)) (fun _ _ _ _ _ => pg_name (i := 16) sc_law.nd rfl (Or.inl rfl)) (fun _ _ _ _ _ => pts_nil) (fun _ _ _ _ _ => (pe_cl c_take hr (by omega) pass0 (pa_cons (pv 2) (pa_cons pe_int pa_nil)))))
    (pss_cons (ps_set (i := 8) sc_law.nd rfl (Or.inl rfl) (pe_cl c_table hr (by omega) pass0 (pa_cons (pv 3) pa_nil)))
    (pss_cons (ps_set (i := 9) sc_law.nd rfl (Or.inl rfl) (pe_lst pa_nil))
    (pss_cons (ps_for PassesOwn.never rfl (pi_list (pe_lst (pa_cons (pe_cl c_grow hr (by omega) pass0 (pa_cons (pv 2) (pa_cons (pv 3) (pa_cons (pv 7) (pa_cons pe_int pa_nil))))) (pa_cons (pe_cl c_grow hr (by omega) pass0 (pa_cons (pv 2) (pa_cons (pv 3) (pa_cons (pe_lst pa_nil) (pa_cons pe_int pa_nil))))) pa_nil)))) (pg_name (i := 10) sc_law.nd rfl (Or.inl rfl))
    (pss_cons (ps_set (i := 11) sc_law.nd rfl (Or.inl rfl) (pe_cl c_take hr (by omega) pass0 (pa_cons (pv 2) (pa_cons pe_int pa_nil))))
    (pss_cons (ps_set (i := 12) sc_law.nd rfl (Or.inl rfl) (pe_cl c_due hr (by omega) pass0 (pa_cons (pv 8) (pa_cons (pv 4) (pa_cons (pv 10) (pa_cons (pv 11) pa_nil))))))
    (pss_cut (ps_if (PW.pt (pw_and (pt_cmpR op_eq (pe_ix ix_tup (pe_cl c_next hr (by omega) pass0 (pa_cons (pv 8) (pa_cons (pv 4) (pa_cons (pe_ix ix_list (pv 12) (pe_un un_neg pe_int) (fun _ _ => rfl)) pa_nil)))) pe_int (fun _ _ => rfl)) pe_str (nomark _)) (pw_and1 (pt_cmpR op_le (pe_callB call_len_seq rfl f_len boot_len (pa_cons (pv 12) pa_nil)) (pv 11) (nomark _))))) (pss_one (ps_set (i := 11) sc_law.nd rfl (Or.inl rfl) (pe_op op_sub (pe_callB call_len_seq rfl f_len boot_len (pa_cons (pv 12) pa_nil)) pe_int)))
    pss_nil)
    (pss_one (ps_expr (pe_bm PySem.F.plainAttrs_list PySem.F.slot_list_append PySem.F.type_list_append mt_append (pv 9) (pa_cons (pe_tup (pa_cons (pv 12) (pa_cons (pv 11) pa_nil))) pa_nil))))))))
    (pss_cons (ps_for PassesOwn.never rfl (pi_list (pe_lst (pa_cons (pe_ix ix_list (pv 9) pe_int (fun _ _ => rfl)) (pa_cons (pe_ix ix_list (pv 9) pe_int (fun _ _ => rfl)) (pa_cons (pe_ix ix_list (pv 9) pe_int (fun _ _ => rfl)) pa_nil))))) (pg_name (i := 13) sc_law.nd rfl (Or.inl rfl))
    (pss_one (ps_if (pt_not (pt_val (pe_cl c_asked hr (by omega) pass0 (pa_cons (pv 6) (pa_cons (pe_ix ix_tup (pv 13) pe_int (fun _ _ => rfl)) (pa_cons (pe_ix ix_tup (pv 13) pe_int (fun _ _ => rfl)) pa_nil)))))) (pss_one (ps_ret pe_bl))
    pss_nil)))
    (pss_cons (ps_set (i := 14) sc_law.nd rfl (Or.inl rfl) (pe_ix ix_list (pe_lst (pa_cons (pe_tup (pa_cons (pe_ix ix_list (pe_ix ix_tup (pv 1) pe_int (fun _ _ => rfl)) pe_int (fun _ _ => rfl)) (pa_cons (pe_ix ix_list (pe_ix ix_tup (pe_ix ix_list (pv 9) pe_int (fun _ _ => rfl)) pe_int (fun _ _ => rfl)) pe_int (fun _ _ => rfl)) pa_nil))) (pa_cons pe_int pa_nil))) (pe_cl c_take hr (by omega) pass0 (pa_cons (pv 2) (pa_cons pe_int pa_nil))) (fun _ _ => rfl)))
    (pss_cons (ps_tryZ (i := 15) rfl rfl sc_law.nd rfl rfl (by exact ⟨rfl, by decide, .inl g_TableError⟩) (fun W pn xe tk po => (pss_one (My.ps_forX po rfl (My.pgx_cm c_run hr (by omega) (pv 6) (pa_cons (pv 14) (pa_cons pe_int pa_nil))) (fun σ => My.passOnly tk σ) (fun σ => My.nostopC hst) (hr.mono (by omega)))))
    (fun a oe cls d pn hz hf => (pss_one (ps_ret (pe_and (pe_callB (call_isZ hz.zc hf) rfl f_isinstance boot_isinstance (pa_cons (pv 15) (pa_cons (pe_gc rfl ⟨_, g_BadForm, rfl⟩) pa_nil))) (pe_one (pe_clH cH_lsame (roomZ hr) (hotZ hz hf) (by omega) (fun _ => at0) (pa_cons (pe_xfP List.mem_cons_self hz.zc hf (pv 15)) (pa_cons (pv 14) pa_nil)))))))))
    (pss_one (ps_ret pe_bl)))))))))))))))
end
theorem facts {P : Program} {w : World} {K : PySem.W.Frag} {h : Heap} {mg : Str → Option Value} {f : Addr} (X : K.In h) (G : h.Ns mainGlobals mg) (hfa : mg ("law" : Str) = some (.ref f)) (c : SaysP P K) :
    ∃ fd : FuncData, (∀ (s : Shared) (v : Value), BindsTo s fd ⟨[v], []⟩ [("_law_script", v)]) ∧ ∀ base : Heap, K.In base → base.Ns mainGlobals mg → FnOk P w K mg base CX0 87 f fd ["_law_script"] (spLaw K) := by
  obtain ⟨fd, F⟩ := c.def_ 36 (d := d_law) rfl
  have b := FunD.bindsA (ps := ["_law_script"]) F fun _ _ _ _ _ _ us hl => match us, hl with | [_], _ => rfl
  have e := hfa.symm.trans (He.glo_ok X G (c.fact 32 (f := .glo "law") rfl))
  cases e
  refine ⟨fd, fun s v => b s [v] rfl, fun base KB GB => ?_⟩
  exact ok_law_fn (P := P) (w := w) (base := base) X G c F
end Prog

theorem PySem.Challenge.cw_signbysign_k12_runs_holds : PySem.Challenge.rw_signbysign_k12_runs.Holds := by
  exact Prog.late fun {P w K h mg f} X G hfa c => Prog.facts X G hfa c
