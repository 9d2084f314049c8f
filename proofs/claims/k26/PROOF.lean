import PyProof.Rows.All
import Wide.All
import OpenK.AllK
import Wide.FinOn
import HandS.ForMost
import HandS.More
import HandS.TupAny
import HandS.Wide
import HandS.IsInst
import HandS.Style
import KE.KxIndex
import HandS.SortRule
import HandS.Conv
import HandS.Finally
import HandS.Deep
import HandS.DictComp
import KE.KDictCopyH
import HandS.TupLen
import KE.DataMinMax
import KE.SortData
import KE.KExcSuper
import HandS.ForExc
import HandS.ExcField
import HandS.ExcIs
import KE.KExcIs
import PySem.Challenge.RW_storelife_k26_differences_that_do_not_fi
set_option Elab.async false
set_option linter.all false
set_option maxRecDepth 100000
namespace Zk
open PySem PySem.Spec L2
open PyProof.Rows hiding St

/-! ### heaps that grow -/
def Imm : HO → Prop
  | .tup _ => True
  | .frz _ _ => True
  | _ => False
/-- everything but the objects at M stands as it stood -/
structure Ext (M : List Addr) (H H' : Hp) : Prop where
  keep : ∀ a o, H a = some o → a ∉ M → H' a = some o
  imm : ∀ a o, H a = some o → Imm o → H' a = some o
  live : ∀ a o, H a = some o → ∃ o', H' a = some o'
theorem Ext.refl {M : List Addr} {H : Hp} : Ext M H H := ⟨fun _ _ h _ => h, fun _ _ h _ => h, fun _ o h => ⟨o, h⟩⟩
theorem Ext.trans {M : List Addr} {H H1 H2 : Hp} (a : Ext M H H1) (b : Ext M H1 H2) : Ext M H H2 :=
  ⟨fun x o h n => b.keep x o (a.keep x o h n) n, fun x o h i => b.imm x o (a.imm x o h i) i, fun x o h => (a.live x o h).elim fun o' h' => b.live x o' h'⟩
theorem Ext.mono {M N : List Addr} {H H' : Hp} (a : Ext M H H') (s : ∀ x ∈ M, x ∈ N) : Ext N H H' :=
  ⟨fun x o h n => a.keep x o h fun z => n (s x z), a.imm, a.live⟩
theorem Ext.up {M : List Addr} {H H' : Hp} (a : Ext [] H H') : Ext M H H' := a.mono fun _ z => nomatch z
theorem Ext.free {M : List Addr} {H H' : Hp} (e : Ext M H H') {l : Addr} (h : H' l = none) : H l = none := by
  cases q : H l with
  | none => rfl
  | some o =>
    obtain ⟨o', q'⟩ := e.live l o q
    rw [h] at q'
    cases q'
/-- what changes at an address that was free at the start is no change -/
theorem Ext.drop {M : List Addr} {H H1 H2 : Hp} {p : Addr} (a : Ext M H H1) (b : Ext (p :: M) H1 H2) (np : H p = none) : Ext M H H2 :=
  ⟨fun x o h n => b.keep x o (a.keep x o h n) fun z => by
      rcases List.mem_cons.mp z with z | z
      · subst z; rw [np] at h; cases h
      · exact n z, fun x o h i => b.imm x o (a.imm x o h i) i, fun x o h => (a.live x o h).elim fun o' h' => b.live x o' h'⟩
theorem Ext.new {H : Hp} {p : Addr} {o : HO} (h : H p = none) : Ext [] H (upd H p o) :=
  ⟨fun a u e _ => by rw [upd_ne (ne_of_none e h)]; exact e, fun a u e _ => by rw [upd_ne (ne_of_none e h)]; exact e, fun a u e => ⟨u, by rw [upd_ne (ne_of_none e h)]; exact e⟩⟩
theorem Ext.mut {M : List Addr} {H : Hp} {p : Addr} {o u : HO} (h : H p = some u) (hm : ¬ Imm u) (hp : p ∈ M) : Ext M H (upd H p o) := by
  refine ⟨fun a x e n => ?_, fun a x e i => ?_, fun a x e => ?_⟩
  · have : a ≠ p := fun z => n (z ▸ hp)
    rw [upd_ne this]; exact e
  · have : a ≠ p := fun z => by subst z; rw [h] at e; cases e; exact hm i
    rw [upd_ne this]; exact e
  · by_cases z : a = p
    · subst z; exact ⟨o, upd_same⟩
    · exact ⟨x, by rw [upd_ne z]; exact e⟩
theorem Ext.tup {M : List Addr} {H H' : Hp} (e : Ext M H H') {a : Addr} {xs : List V} (h : H a = some (.tup xs)) : H' a = some (.tup xs) := e.imm a _ h trivial
theorem Ext.at {M : List Addr} {H H' : Hp} (e : Ext M H H') {a : Addr} {o : HO} (h : H a = some o) (n : a ∉ M) : H' a = some o := e.keep a o h n
/-- the dict at d is locked while it is walked -/
theorem Ext.lock {M : List Addr} {H H' : Hp} {d : Addr} {u : HO} {od : Obj} (h : H d = some u) (hm : ¬ Imm u) (e : Ext M (upd H d (.frz od u)) H') : Ext M H (upd H' d u) := by
  refine ⟨fun a x q n => ?_, fun a x q i => ?_, fun a x q => ?_⟩
  · by_cases z : a = d
    · subst z; rw [upd_same]; rw [h] at q; exact q
    · rw [upd_ne z]; exact e.keep a x (by rw [upd_ne z]; exact q) n
  · by_cases z : a = d
    · subst z; rw [upd_same]; rw [h] at q; exact q
    · rw [upd_ne z]; exact e.imm a x (by rw [upd_ne z]; exact q) i
  · by_cases z : a = d
    · subst z; exact ⟨u, upd_same⟩
    · obtain ⟨o', q'⟩ := e.live a x (by rw [upd_ne z]; exact q)
      exact ⟨o', by rw [upd_ne z]; exact q'⟩

/-! ### an object is laid, an object is changed, with the heap behind it a letter -/
def Alc (o : HO) (H : Hp) (Q : VK) : Prop := ∀ p, H p = none → Q (.ref p) (upd H p o)
theorem w_alc {o : HO} {H : Hp} {Q : VK} (h : ∀ p H', Ext [] H H' → H p = none → H' p = some o → Q (.ref p) H') : Alc o H Q := fun p np => h p _ (Ext.new np) np upd_same
def Chg (p : Addr) (o : HO) (H : Hp) (Q : Hp → Prop) : Prop := Q (upd H p o)
theorem w_chg {p : Addr} {o u : HO} {H : Hp} {Q : Hp → Prop} (hp : H p = some u) (hm : ¬ Imm u) (h : ∀ H', Ext [p] H H' → H' p = some o → Q H') : Chg p o H Q :=
  h _ (Ext.mut hp hm (List.mem_singleton.mpr rfl)) upd_same

/-! ### lists and tuples to be read -/
theorem sql {K : PySem.W.Frag} {H : Hp} {a : Addr} {xs : List V} (h : H a = some (.lst xs)) : SqL K H a xs := .inl (.inl h)
theorem sqt {K : PySem.W.Frag} {H : Hp} {a : Addr} {xs : List V} (h : H a = some (.tup xs)) : SqT K H a xs := .inl (.inl h)
/-- the script: locked, or of the written part -/
def Scr (K : PySem.W.Frag) (H : Hp) (a : Addr) (xs : List V) : Prop := (∃ o, H a = some (.frz o (.lst xs))) ∨ (∀ H', SqL K H' a xs)
theorem Scr.ext {K : PySem.W.Frag} {M : List Addr} {H H' : Hp} {a : Addr} {xs : List V} (e : Ext M H H') (h : Scr K H a xs) : Scr K H' a xs := by
  rcases h with ⟨o, h⟩ | h
  · exact .inl ⟨o, e.imm _ _ h trivial⟩
  · exact .inr h
theorem Scr.sql {K : PySem.W.Frag} {H : Hp} {a : Addr} {xs : List V} (h : Scr K H a xs) : SqL K H a xs := by
  rcases h with ⟨o, h⟩ | h
  · exact .inl (.inr ⟨o, h⟩)
  · exact h H
theorem Scr.of {K : PySem.W.Frag} {H : Hp} {a : Addr} {xs : List V} (hO : Only H) (h : SqL K H a xs) : Scr K H a xs := by
  rcases h with (h | ⟨o, h⟩) | h
  · rcases hO a with z | ⟨o, ys, z⟩
    · rw [h] at z; cases z
    · rw [h] at z; cases z
  · exact .inl ⟨o, h⟩
  · exact .inr fun H' => .inr h
theorem sz {n : Nat} (h : n ≤ 1000000) : n ≤ sizeLine := Nat.le_trans h (by decide)
theorem szl {n : Nat} (h : n < 1000000) : n < sizeLine := Nat.lt_of_lt_of_le h (by decide)

/-! ### readings, by name -/
def zTup (t : TA) : TE := fun σ H Q => t σ H fun xs H1 => xs.length ≤ sizeLine ∧ Alc (.tup xs) H1 Q
def zLst (t : TA) : TE := fun σ H Q => t σ H fun xs H1 => xs.length ≤ sizeLine ∧ Alc (.lst xs) H1 Q
def zDNewK : TE := fun _ H Q => Alc (.dK []) H Q
def zDNewT : TE := fun _ H Q => Alc (.dT []) H Q
def rLtS : R2 := fun x y H Q => ∃ i j, x = .str i ∧ y = .str j ∧ Q (.bl (decide (i.cps.toList < j.cps.toList))) H
def rAddSt : R2 := fun x y H Q => ∃ i j, x = .str i ∧ y = .str j ∧ i.length + j.length ≤ sizeLine ∧ Q (.str (i ++ j)) H
def rMulSt : R2 := fun x y H Q => ∃ i j, x = .str i ∧ y = .int j ∧ i.length ≤ 16 ∧ (-(2 ^ 63 : Int) ≤ j ∧ j ≤ 1048576) ∧ Q (.str (Txt.mul i j)) H
def rIsNn : R2 := fun x y H Q => y = .non ∧ Q (.bl (decide (x = .non))) H
def rIsNt : R2 := fun x y H Q => y = .non ∧ Q (.bl (!decide (x = .non))) H
def rIsBv : R2 := fun x y H Q => ∃ b, y = .bl b ∧ Q (.bl (decide (x = .bl b))) H
def rIsNtBv : R2 := fun x y H Q => ∃ b, y = .bl b ∧ Q (.bl (!decide (x = .bl b))) H
def zCat : R2 := fun x y H Q => ∃ l b xs zs, x = .ref l ∧ y = .ref b ∧ H l = some (.lst xs) ∧ H b = some (.lst zs) ∧ xs.length + zs.length ≤ sizeLine ∧ Alc (.lst (xs ++ zs)) H Q
def zCatA (K : PySem.W.Frag) : R2 := fun x y H Q => ∃ a b xs ys, x = .ref a ∧ y = .ref b ∧ SqT K H a xs ∧ SqT K H b ys ∧ xs.length + ys.length ≤ sizeLine ∧
  (xs = [] → Q (.ref b) H) ∧ (xs ≠ [] → ys = [] → Q (.ref a) H) ∧ (xs ≠ [] → ys ≠ [] → Alc (.tup (xs ++ ys)) H Q)
def zSetL : V → V → V → Hp → (Hp → Prop) → Prop := fun o i v H Q => ∃ p xs k j, o = .ref p ∧ i = .int k ∧ H p = some (.lst xs) ∧ ixN xs.length k = some j ∧ Chg p (.lst (xs.set j v)) H Q
def zAppend : V → List V → Hp → VK → Prop := fun x vs H Q => ∃ l xs y, x = .ref l ∧ vs = [y] ∧ H l = some (.lst xs) ∧ xs.length < sizeLine ∧ Chg l (.lst (xs ++ [y])) H (Q .non)
def rJoin (K : PySem.W.Frag) : V → List V → Hp → VK → Prop := fun x xs H Q => ∃ a p, ∃ ys : List Str, x = .str a ∧ xs = [.ref p] ∧ (SqL K H p (ys.map V.str) ∨ SqT K H p (ys.map V.str)) ∧
    (ys.map (·.length)).sum + ys.length * a.length ≤ 16777216 ∧ Q (.str (Txt.join a ys)) H
/-! calls of built-ins -/
abbrev RC := List V → Hp → VK → Prop
def cInt : RC := fun xs H Q => (∃ i, xs = [.int i] ∧ Q (.int i) H) ∨ ∃ k, xs = [.bl k] ∧ Q (.int (if k then 1 else 0)) H
def cTup (K : PySem.W.Frag) : RC := fun xs H Q => ∃ p ys, xs = [.ref p] ∧ ((SqL K H p ys ∧ Alc (.tup ys) H Q) ∨ (SqT K H p ys ∧ Q (.ref p) H))
def cLen (K : PySem.W.Frag) : RC := fun xs H Q => ∃ x n, xs = [x] ∧ LenV K x H n ∧ Q (.int n) H
def cLenD : RC := fun xs H Q => ∃ a kvs, xs = [V.ref a] ∧ H a = some (.dK kvs) ∧ Q (.int kvs.length) H
def cDictD : RC := fun xs H Q => ∃ (a : Addr) (kvs : List (Key × V)), xs = [.ref a] ∧ Rd H a (.dK kvs) ∧ Alc (.dK kvs) H Q
def cSortD : RC := fun xs H Q => ∃ (a : Addr) (kvs : List (Key × V)) (ks : List Str), xs = [.ref a] ∧ Rd H a (.dK kvs) ∧ kvs.map (·.1) = ks.map Sum.inr ∧ ks.length < 64 ∧
    ∀ ys, ys.Perm ks → sortedS ys = true → Alc (.lst (ys.map V.str)) H Q
section
variable {X : Cx} {es : List Expr} {t : TA} {pos : Pos}
theorem pe_tupZ {x1} (h : PA X es t) : PE X (.Tuple es x1 pos) (zTup t) := pe_tup h
theorem pe_lstZ (h : PA X es t) : PE X (.List es pos) (zLst t) := pe_lst h
theorem pe_dnewKZ : PE X (.Dict [] [] pos) zDNewK := pe_dnewK
theorem pe_dnewTZ : PE X (.Dict [] [] pos) zDNewT := pe_dnewT
theorem zpe_join {o e : Expr} {to te : TE} {apos : Pos} (ho : PE X o to) (he : PE X e te) (hs : starEach [e] X.env = [(false, eval e X.env)] := by rfl) (hbase : attributeBase o "join" X.env (eval o X.env) = eval o X.env := by rfl) (hline : (apos.endLine == pos.line) = true := by rfl) :
    PE X (.Call (.Attribute o "join" apos) [e] [] pos) (tM1 (rJoin X.K) to te) := pe_join ho he hs hbase hline
theorem zop_ltS : OpR X (compareOp .Lt) rLtS := op_lt_str
theorem zop_addS : OpR X (binaryOp .Add) rAddSt := op_add_str
theorem zop_isN : OpR X (compareOp .Is) rIsNn := op_isN
theorem zop_notN : OpR X (compareOp .IsNot) rIsNt := op_notN
theorem plain_bool {x : V} {v : Value} {b : Bool} (r : RelV x v) : plainIs v (.bool b) = true := by
  cases x with
  | non => cases (show v = _ from r); rfl
  | bl c => cases (show v = _ from r); rfl
  | int i => obtain ⟨t, e⟩ := (show ∃ t, v = _ from r); subst e; rfl
  | str i => obtain ⟨t, e⟩ := (show ∃ t, v = _ from r); subst e; rfl
  | byt i => obtain ⟨t, e⟩ := (show ∃ t, v = _ from r); subst e; rfl
  | flt i => obtain ⟨t, e⟩ := (show ∃ t, v = _ from r); subst e; rfl
  | ref a => cases (show v = _ from r); rfl
  | ty n => cases (show v = _ from r); rfl
theorem rel_bool {x : V} {v : Value} {b : Bool} (r : RelV x v) : (v = .bool b) ↔ x = .bl b := by
  constructor
  · intro z
    subst z
    cases x with
    | bl c => cases (show Value.bool b = Value.bool c from r); rfl
    | non => cases (show Value.bool b = _ from r)
    | int i => obtain ⟨t, e⟩ := (show ∃ t, Value.bool b = _ from r); cases e
    | str i => obtain ⟨t, e⟩ := (show ∃ t, Value.bool b = _ from r); cases e
    | byt i => obtain ⟨t, e⟩ := (show ∃ t, Value.bool b = _ from r); cases e
    | flt i => obtain ⟨t, e⟩ := (show ∃ t, Value.bool b = _ from r); cases e
    | ref a => cases (show Value.bool b = _ from r)
    | ty n => cases (show Value.bool b = _ from r)
  · intro z
    subst z
    exact r
theorem zop_isB : OpR X (compareOp .Is) rIsBv := by
  intro pins s σ H x y v u Q I rx ry h
  obtain ⟨b, rfl, q⟩ := h
  cases (show u = Value.bool b from ry)
  by_cases e : x = .bl b
  · have e2 := (rel_bool (b := b) rx).mpr e
    subst e2
    exact wpAny_is_self rfl ⟨.bl true, H, I, rfl, by rw [decide_eq_true e] at q; exact q⟩
  · exact wpAny_is_other (plain_bool rx) (fun z => e ((rel_bool rx).mp z)) ⟨.bl false, H, I, rfl, by rw [decide_eq_false e] at q; exact q⟩
theorem zop_isNotB : OpR X (compareOp .IsNot) rIsNtBv := by
  intro pins s σ H x y v u Q I rx ry h
  obtain ⟨b, rfl, q⟩ := h
  cases (show u = Value.bool b from ry)
  by_cases e : x = .bl b
  · have e2 := (rel_bool (b := b) rx).mpr e
    subst e2
    exact wpAny_isNot_self rfl ⟨.bl false, H, I, rfl, by rw [decide_eq_true e] at q; exact q⟩
  · exact wpAny_isNot_other (plain_bool rx) (fun z => e ((rel_bool rx).mp z)) ⟨.bl true, H, I, rfl, by rw [decide_eq_false e] at q; exact q⟩
theorem zop_mulS : OpR X (binaryOp .Mult) rMulSt := by
  intro pins s σ H x y v u Q I rx ry h
  obtain ⟨i, j, rfl, rfl, hi, hj, q⟩ := h
  obtain ⟨t, rfl⟩ := rx
  obtain ⟨t', rfl⟩ := ry
  exact PySem.W.KXi.mul rfl hi hj.1 hj.2 fun t' tk _ _ => ⟨.str (Txt.mul i j), H, I.tok _, ⟨_, rfl⟩, q⟩
theorem zop_cat : OpR X (binaryOp .Add) zCat := op_cat
theorem zop_catA : OpR X (binaryOp .Add) (zCatA X.K) := op_catA
theorem zset_list : PSet X zSetL := set_list
theorem zmt_append : MtR X "list.append" zAppend := mt_append
theorem zop_catAK {K : PySem.W.Frag} (h : X.K = K) : OpR X (binaryOp .Add) (zCatA K) := h ▸ zop_catA
theorem op_in_seqK {K : PySem.W.Frag} (h : X.K = K) : OpR X (compareOp .In) (rIn K false) := h ▸ op_in_seq
theorem op_notIn_seqK {K : PySem.W.Frag} (h : X.K = K) : OpR X (compareOp .NotIn) (rIn K true) := h ▸ op_notIn_seq
theorem ix_listK {K : PySem.W.Frag} (h : X.K = K) : IxR X (rIxL K) := h ▸ ix_list
theorem ix_tupK {K : PySem.W.Frag} (h : X.K = K) : IxR X (rIxT K) := h ▸ ix_tup
theorem zc_lenK {K : PySem.W.Frag} (h : X.K = K) : CallR X (.builtin "len") (cLen K) := h ▸ call_len
theorem cr_sumK {K : PySem.W.Frag} (hc : X.calm = true) (h : X.K = K) : CallR X (.builtin "sum") (rSum K) := h ▸ cr_sum hc
theorem zc_int : CallR X (.type "int") cInt := call_int1
theorem zc_tup : CallR X (.type "tuple") (cTup X.K) := call_tuple_of
theorem zc_len : CallR X (.builtin "len") (cLen X.K) := call_len
theorem zc_lenD : CallR X (.builtin "len") cLenD := call_lenD
theorem zc_dictD : CallR X (.type "dict") cDictD := call_dictD
theorem zc_sortD (hc : X.calm = true) : CallR X (.builtin "sorted") cSortD := by
  intro pins s σ H xs us Q I r h
  obtain ⟨a, kvs, ks, e, h1, h2, h3, q⟩ := h
  exact call_sortedD hc pins s σ H xs us Q I r ⟨a, kvs, ks, e, h1, h2, h3, fun ys p hp hs np => q ys hp hs p np⟩
end
end Zk

set_option Elab.async false
set_option linter.all false
set_option maxRecDepth 100000
namespace Zk
open PySem PySem.Spec L2
open PyProof.Rows hiding St

theorem nm1 {a p : Addr} (h : a ≠ p) : a ∉ [p] := fun z => h (List.mem_singleton.mp z)
theorem nm2 {a p q : Addr} (h : a ≠ p) (g : a ≠ q) : a ∉ [p, q] := fun z => by
  rcases List.mem_cons.mp z with z | z
  · exact h z
  · exact g (List.mem_singleton.mp z)
theorem Ext.get {M : List Addr} {H H' : Hp} (e : Ext M H H') {a : Addr} {o : HO} (h : H a = some o) (n : a ∉ M ∨ Imm o) : H' a = some o :=
  n.elim (e.keep a o h) (e.imm a o h)

theorem at_some {α : Type} {xs : List α} {r : Int} (h0 : 0 ≤ r) (h1 : r < (xs.length : Int)) : ∃ v, atI xs r = some v ∧ xs[r.toNat]? = some v := by
  have hl : r.toNat < xs.length := by omega
  refine ⟨xs[r.toNat], ?_, List.getElem?_eq_getElem hl⟩
  have h := atI_nat (xs := xs) (j := r.toNat) (List.getElem?_eq_getElem hl)
  rw [Int.toNat_of_nonneg h0] at h
  exact h
theorem at_map {α : Type} {f : α → V} {xs : List α} {r : Int} (h0 : 0 ≤ r) (h1 : r < (xs.length : Int)) : ∃ v, v ∈ xs ∧ atI (xs.map f) r = some (f v) := by
  obtain ⟨v, h, g⟩ := at_some (xs := xs.map f) h0 (by rw [List.length_map]; exact h1)
  rw [List.getElem?_map, Option.map_eq_some_iff] at g
  obtain ⟨y, hy, e⟩ := g
  subst e
  exact ⟨y, List.mem_of_getElem? hy, h⟩

theorem str_app_inj {z : Str} {c d : Nat} (h : z ++ (⟨#[c]⟩ : Str) = z ++ (⟨#[d]⟩ : Str)) : c = d := by
  have h1 : z.cps ++ #[c] = z.cps ++ #[d] := congrArg Str.cps h
  have h2 := congrArg Array.toList h1
  simp at h2
  exact h2
theorem str_len_append (a b : Str) : (a ++ b).length = a.length + b.length := Array.size_append
theorem str_len_join {sep : Str} (h0 : sep.length = 0) : ∀ ys : List Str, (Txt.join sep ys).length = (ys.map (·.length)).sum := by
  intro ys
  show (Builtin.Str.glued sep ys).length = _
  rw [StrLaws.glued_eq_join]
  induction ys with
  | nil => rfl
  | cons x r ih =>
    cases r with
    | nil => simp [Str.join]
    | cons y r =>
      show (x ++ sep ++ Str.join sep (y :: r)).length = _
      rw [str_len_append, str_len_append, ih, h0]
      simp
theorem str_len_mul {x : Str} {n : Int} (h : 0 ≤ n) : (Txt.mul x n).length = x.length * n.toNat := by
  have e := PyProof.Rows.len_mul x n
  rw [if_neg (by simp; omega)] at e
  have : (x.length : Int) * n = ((x.length * n.toNat : Nat) : Int) := by
    rw [Int.natCast_mul, Int.toNat_of_nonneg h]
  omega
theorem nodup_len {α : Type} [DecidableEq α] : ∀ {l m : List α}, l.Nodup → (∀ x ∈ l, x ∈ m) → l.length ≤ m.length
  | [], m, _, _ => Nat.zero_le _
  | x :: l, m, hn, hs => by
    obtain ⟨h1, h2⟩ := List.nodup_cons.mp hn
    have hx := hs x List.mem_cons_self
    have ih := nodup_len (l := l) (m := m.erase x) h2 fun y hy => by
      have ne : y ≠ x := fun z => h1 (z ▸ hy)
      exact (List.mem_erase_of_ne ne).mpr (hs y (List.mem_cons_of_mem _ hy))
    rw [List.length_erase_of_mem hx] at ih
    have : 0 < m.length := List.length_pos_of_mem hx
    show l.length + 1 ≤ m.length
    omega

theorem paired_snoc {α β : Type} {R : α → β → Prop} {x : α} {y : β} (r : R x y) : ∀ {xs : List α} {ys : List β}, Paired R xs ys → Paired R (xs ++ [x]) (ys ++ [y])
  | _, _, .nil => .cons r .nil
  | _, _, .cons h t => .cons h (paired_snoc r t)
theorem paired_at {α β : Type} {R : α → β → Prop} : ∀ {xs : List α} {ys : List β} {i : Nat} {x : α}, Paired R xs ys → xs[i]? = some x → ∃ y, ys[i]? = some y ∧ R x y
  | _, _, _, _, .nil, e => by simp at e
  | _, _, 0, _, .cons r _, e => by simp at e; subst e; exact ⟨_, rfl, r⟩
  | _, _, i + 1, x, .cons _ t, e => by
    obtain ⟨y, h1, h2⟩ := paired_at (i := i) (x := x) t (by simpa using e)
    exact ⟨y, by simpa using h1, h2⟩
theorem paired_len {α β : Type} {R : α → β → Prop} : ∀ {xs : List α} {ys : List β}, Paired R xs ys → xs.length = ys.length
  | _, _, .nil => rfl
  | _, _, .cons _ t => congrArg (· + 1) (paired_len t)
theorem at_nat0 {α : Type} {xs : List α} {i : Nat} {v : α} (h : xs[i]? = some v) : atI xs (0 + (i : Int)) = some v := by
  rw [Int.zero_add]
  exact atI_nat h
theorem get_snoc {α : Type} {xs : List α} {x : α} {i : Nat} (h : xs.length = i) : (xs ++ [x])[i]? = some x := by
  subst h
  simp
theorem Ext.dropq {M : List Addr} {H H1 H2 : Hp} {p : Addr} (a : Ext M H H1) (b : Ext [p] H1 H2) (np : H p = none) : Ext M H H2 :=
  a.drop (p := p) (b.mono fun _ z => List.mem_cons.mpr (.inl (List.mem_singleton.mp z))) np

/-! ### promises by the number of arguments -/
def sp0 (P : Hp → VK → Prop) : Sp := fun vs H Q _ => vs = [] ∧ P H Q
def sp1 (P : V → Hp → VK → Prop) : Sp := fun vs H Q _ => ∃ a, vs = [a] ∧ P a H Q
def sp2 (P : V → V → Hp → VK → Prop) : Sp := fun vs H Q _ => ∃ a b, vs = [a, b] ∧ P a b H Q
def sp3 (P : V → V → V → Hp → VK → Prop) : Sp := fun vs H Q _ => ∃ a b c, vs = [a, b, c] ∧ P a b c H Q
def sp4 (P : V → V → V → V → Hp → VK → Prop) : Sp := fun vs H Q _ => ∃ a b c d, vs = [a, b, c, d] ∧ P a b c d H Q
theorem w_sp1 {P : V → Hp → VK → Prop} {a H Q E} (h : P a H Q) : sp1 P ([a] ++ []) H Q E := ⟨a, rfl, h⟩
theorem w_sp2 {P : V → V → Hp → VK → Prop} {a b H Q E} (h : P a b H Q) : sp2 P ([a, b] ++ []) H Q E := ⟨a, b, rfl, h⟩
theorem w_sp3 {P : V → V → V → Hp → VK → Prop} {a b c H Q E} (h : P a b c H Q) : sp3 P ([a, b, c] ++ []) H Q E := ⟨a, b, c, rfl, h⟩
theorem w_sp4 {P : V → V → V → V → Hp → VK → Prop} {a b c d H Q E} (h : P a b c d H Q) : sp4 P ([a, b, c, d] ++ []) H Q E := ⟨a, b, c, d, rfl, h⟩
theorem len1 {P : V → Hp → VK → Prop} {x : Str} : ∀ vs H Q E, sp1 P vs H Q E → vs.length = [x].length := fun _ _ _ _ ⟨_, e, _⟩ => e ▸ rfl
theorem len2 {P : V → V → Hp → VK → Prop} {x y : Str} : ∀ vs H Q E, sp2 P vs H Q E → vs.length = [x, y].length := fun _ _ _ _ ⟨_, _, e, _⟩ => e ▸ rfl
theorem len3 {P : V → V → V → Hp → VK → Prop} {x y z : Str} : ∀ vs H Q E, sp3 P vs H Q E → vs.length = [x, y, z].length := fun _ _ _ _ ⟨_, _, _, e, _⟩ => e ▸ rfl
theorem len4 {P : V → V → V → V → Hp → VK → Prop} {x y z u : Str} : ∀ vs H Q E, sp4 P vs H Q E → vs.length = [x, y, z, u].length := fun _ _ _ _ ⟨_, _, _, _, e, _⟩ => e ▸ rfl

/-! ### one step of a reading -/
section
variable {σ : St} {H : Hp} {Q : VK} {QB : Bool → Hp → Prop} {QL : List V → Hp → Prop} {v x y : V} {ta tb tc te : TE} {tt tu : TT} {tl : TA} {t u : TS} {r : R2} {K : PySem.W.Frag} {i : Nat} {nx bk ct : St → Hp → Prop} {rt : VK} {a b : Addr}
theorem w_var (h : σ[i]? = some (some v)) (q : Q v H) : tVar i σ H Q := ⟨v, h, q⟩
theorem w_c (q : Q v H) : tC v σ H Q := q
theorem w_op (h : ta σ H fun x H1 => tb σ H1 fun y H2 => r x y H2 Q) : tOp r ta tb σ H Q := h
theorem w_un {r : V → Hp → VK → Prop} (h : ta σ H fun x H1 => r x H1 Q) : tUn r ta σ H Q := h
theorem w_rU {g : Int → V} {j : Int} (q : Q (g j) H) : rU g (.int j) H Q := ⟨j, rfl, q⟩
theorem w_I0 {g : Int → Int → V} {i j : Int} (q : Q (g i j) H) : rI0 g (.int i) (.int j) H Q := ⟨i, j, rfl, rfl, q⟩
theorem w_I {C : Int → Int → Prop} {g : Int → Int → V} {i j : Int} (c : C i j) (q : Q (g i j) H) : rI C g (.int i) (.int j) H Q := ⟨i, j, rfl, rfl, c, q⟩
theorem w_modA {i j : Int} (c : 0 < j) (q : ∀ r, 0 ≤ r → r < j → Q (.int r) H) : rI (fun _ j => 0 < j) (fun i j => .int (i % j)) (.int i) (.int j) H Q := ⟨i, j, rfl, rfl, c, q _ (Int.emod_nonneg i (by omega)) (Int.emod_lt_of_pos i c)⟩
theorem w_eq (c : scal x y = true) (q : Q (.bl (decide (x = y))) H) : rEq x y H Q := ⟨c, q⟩
theorem w_ne (c : scal x y = true) (q : Q (.bl (!decide (x = y))) H) : rNe x y H Q := ⟨c, q⟩
theorem w_eqI {i j : Int} (q : Q (.bl (decide (i = j))) H) : rEq (.int i) (.int j) H Q := ⟨rfl, by rw [show decide (V.int i = V.int j) = decide (i = j) by simp]; exact q⟩
theorem w_neI {i j : Int} (q : Q (.bl (!decide (i = j))) H) : rNe (.int i) (.int j) H Q := ⟨rfl, by rw [show decide (V.int i = V.int j) = decide (i = j) by simp]; exact q⟩
theorem w_eqS {i j : Str} (q : Q (.bl (decide (i = j))) H) : rEq (.str i) (.str j) H Q := ⟨rfl, by rw [show decide (V.str i = V.str j) = decide (i = j) by simp]; exact q⟩
theorem w_neS {i j : Str} (q : Q (.bl (!decide (i = j))) H) : rNe (.str i) (.str j) H Q := ⟨rfl, by rw [show decide (V.str i = V.str j) = decide (i = j) by simp]; exact q⟩
theorem w_isN (q : Q (.bl (decide (x = .non))) H) : rIsNn x .non H Q := ⟨rfl, q⟩
theorem w_isNt (q : Q (.bl (!decide (x = .non))) H) : rIsNt x .non H Q := ⟨rfl, q⟩
theorem w_isB {c : Bool} (q : Q (.bl (decide (x = .bl c))) H) : rIsBv x (.bl c) H Q := ⟨c, rfl, q⟩
theorem w_isNtB {c : Bool} (q : Q (.bl (!decide (x = .bl c))) H) : rIsNtBv x (.bl c) H Q := ⟨c, rfl, q⟩
theorem w_ltS {i j : Str} (q : Q (.bl (decide (i.cps.toList < j.cps.toList))) H) : rLtS (.str i) (.str j) H Q := ⟨i, j, rfl, rfl, q⟩
theorem w_addS {i j : Str} (c : i.length + j.length ≤ sizeLine) (q : Q (.str (i ++ j)) H) : rAddSt (.str i) (.str j) H Q := ⟨i, j, rfl, rfl, c, q⟩
theorem w_mulS {i : Str} {j : Int} (c : i.length ≤ 16) (d : -(2 ^ 63 : Int) ≤ j ∧ j ≤ 1048576) (q : Q (.str (Txt.mul i j)) H) : rMulSt (.str i) (.int j) H Q := ⟨i, j, rfl, rfl, c, d, q⟩
theorem w_ixL {xs : List V} {j : Int} (h : SqL K H a xs) (e : atI xs j = some v) (q : Q v H) : rIxL K (.ref a) (.int j) H Q := ⟨a, xs, j, v, rfl, rfl, h, e, q⟩
theorem w_ixT {xs : List V} {j : Int} (h : SqT K H a xs) (e : atI xs j = some v) (q : Q v H) : rIxT K (.ref a) (.int j) H Q := ⟨a, xs, j, v, rfl, rfl, h, e, q⟩
theorem w_ixS {z : Str} {j : Int} {c : Nat} (h : z.length ≤ sizeLine) (e : atI z.cps.toList j = some c) (q : Q (.str ⟨#[c]⟩) H) : rIxS (.str z) (.int j) H Q := ⟨z, j, c, rfl, rfl, h, e, q⟩
theorem w_inL {neg : Bool} {xs : List V} (h : SqL K H a xs) (f : flatV x = true) (g : xs.all flatV = true) (q : Q (.bl (if neg then !inV x xs else inV x xs)) H) : rIn K neg x (.ref a) H Q := ⟨a, xs, rfl, .inl h, f, g, q⟩
theorem w_inT {neg : Bool} {xs : List V} (h : SqT K H a xs) (f : flatV x = true) (g : xs.all flatV = true) (q : Q (.bl (if neg then !inV x xs else inV x xs)) H) : rIn K neg x (.ref a) H Q := ⟨a, xs, rfl, .inr h, f, g, q⟩
theorem w_cat {xs zs : List V} (h : H a = some (.lst xs)) (g : H b = some (.lst zs)) (c : xs.length + zs.length ≤ sizeLine) (q : Alc (.lst (xs ++ zs)) H Q) : zCat (.ref a) (.ref b) H Q := ⟨a, b, xs, zs, rfl, rfl, h, g, c, q⟩
theorem w_setL {xs : List V} {k : Int} {j : Nat} {Q : Hp → Prop} (h : H a = some (.lst xs)) (e : ixN xs.length k = some j) (q : Chg a (.lst (xs.set j v)) H Q) : zSetL (.ref a) (.int k) v H Q := ⟨a, xs, k, j, rfl, rfl, h, e, q⟩
theorem w_append {xs : List V} (h : H a = some (.lst xs)) (c : xs.length < sizeLine) (q : Chg a (.lst (xs ++ [y])) H (Q .non)) : zAppend (.ref a) [y] H Q := ⟨a, xs, y, rfl, rfl, h, c, q⟩
theorem w_m1 {r : V → List V → Hp → VK → Prop} (h : ta σ H fun x H1 => (∃ a, x = .str a) ∧ tb σ H1 fun y H2 => r x [y] H2 Q) : tM1 r ta tb σ H Q := h
theorem w_str {s : Str} {R : Prop} (h : R) : (∃ a, V.str s = .str a) ∧ R := ⟨⟨s, rfl⟩, h⟩
theorem w_join {s : Str} {ys : List Str} (h : SqL K H a (ys.map V.str)) (c : (ys.map (·.length)).sum + ys.length * s.length ≤ 16777216) (q : Q (.str (Txt.join s ys)) H) : rJoin K (.str s) [.ref a] H Q := ⟨s, a, ys, rfl, rfl, .inl h, c, q⟩
theorem inV_str {z : Str} {ns : List Str} : inV (.str z) (ns.map V.str) = decide (z ∈ ns) := by
  unfold inV
  induction ns with
  | nil => rfl
  | cons a r ih =>
    rw [List.map_cons, List.any_cons, ih]
    show (a == z || decide (z ∈ r)) = _
    by_cases h : a = z
    · subst h; simp
    · have h2 : ¬ z = a := fun e => h e.symm
      simp [h, h2]
theorem flat_str : ∀ ns : List Str, (ns.map V.str).all flatV = true
  | [] => rfl
  | _ :: r => by rw [List.map_cons, List.all_cons, flat_str r]; rfl
theorem w_inS {z : Str} {ns : List Str} (h : SqL K H a (ns.map V.str) ∨ SqT K H a (ns.map V.str)) (q : Q (.bl (decide (z ∈ ns))) H) : rIn K false (.str z) (.ref a) H Q :=
  ⟨a, _, rfl, h, rfl, flat_str ns, by rw [if_neg Bool.false_ne_true, inV_str]; exact q⟩
theorem w_ninS {z : Str} {ns : List Str} (h : SqL K H a (ns.map V.str) ∨ SqT K H a (ns.map V.str)) (q : Q (.bl (!decide (z ∈ ns))) H) : rIn K true (.str z) (.ref a) H Q :=
  ⟨a, _, rfl, h, rfl, flat_str ns, by rw [if_pos rfl, inV_str]; exact q⟩
theorem w_bm {T : String} {r : V → List V → Hp → VK → Prop} (h : ta σ H fun x H1 => tyV K T x H1 ∧ tl σ H1 fun xs H2 => r x xs H2 Q) : tBM K T r ta tl σ H Q := h
theorem w_bm0 {T : String} {r : V → List V → Hp → VK → Prop} (h : ta σ H fun x H1 => tyV K T x H1 ∧ r x [] H1 Q) : tBM0 K T r ta σ H Q := h
theorem w_tyL {xs : List V} {R : Prop} (h : SqL K H a xs) (q : R) : tyV K "list" (.ref a) H ∧ R := ⟨.inl ⟨rfl, xs, h⟩, q⟩
/-! tests -/
theorem w_test (h : te σ H fun x H1 => ∃ k, x = .bl k ∧ QB k H1) : tTest te σ H QB := h
theorem w_tB (h : te σ H fun x H1 => ∃ k, x = .bl k ∧ QB k H1) : tB te σ H QB := h
theorem w_bl {k : Bool} {P : Bool → Prop} (q : P k) : ∃ c, V.bl k = .bl c ∧ P c := ⟨k, rfl, q⟩
theorem w_and (h : tt σ H fun c H1 => if c = true then tu σ H1 QB else QB false H1) : tAnd tt tu σ H QB := h
theorem w_or (h : tt σ H fun c H1 => if c = true then QB true H1 else tu σ H1 QB) : tOr tt tu σ H QB := h
theorem w_not (h : tt σ H fun c H1 => QB (!c) H1) : tNot tt σ H QB := h
theorem w_andV (h : ta σ H fun x H1 => ∃ c, x = .bl c ∧ if c = true then tb σ H1 Q else Q (.bl false) H1) : tAndV ta tb σ H Q := h
theorem w_orV (h : ta σ H fun x H1 => ∃ c, x = .bl c ∧ if c = true then Q (.bl true) H1 else tb σ H1 Q) : tOrV ta tb σ H Q := h
theorem w_notV (h : ta σ H fun x H1 => ∃ c, x = .bl c ∧ Q (.bl (!c)) H1) : tNotV ta σ H Q := h
theorem w_if (h : tt σ H fun c H1 => if c = true then ta σ H1 Q else tb σ H1 Q) : tIf tt ta tb σ H Q := h
theorem w_yes (q : QB true H) : tYes σ H QB := q
/-! arguments, displays, calls -/
theorem w_nil (q : QL [] H) : tNil σ H QL := q
theorem w_cons (h : te σ H fun x H1 => tl σ H1 fun xs H2 => QL (x :: xs) H2) : tCons te tl σ H QL := h
theorem w_tup (h : tl σ H fun xs H1 => xs.length ≤ sizeLine ∧ Alc (.tup xs) H1 Q) : zTup tl σ H Q := h
theorem w_lst (h : tl σ H fun xs H1 => xs.length ≤ sizeLine ∧ Alc (.lst xs) H1 Q) : zLst tl σ H Q := h
theorem w_dnewK (h : Alc (.dK []) H Q) : zDNewK σ H Q := h
theorem w_dnewT (h : Alc (.dT []) H Q) : zDNewT σ H Q := h
theorem w_cb {r : RC} (h : tl σ H fun vs H1 => r vs H1 Q) : tCB r tl σ H Q := h
theorem w_call {sp : Sp} {dvs : List V} {E : XK} (h : tl σ H fun vs H1 => sp (vs ++ dvs) H1 Q E) : tCall sp dvs E tl σ H Q := h
theorem w_int {j : Int} (q : Q (.int j) H) : cInt [.int j] H Q := .inl ⟨j, rfl, q⟩
theorem w_lenL {xs : List V} (h : SqL K H a xs) (q : Q (.int (xs.length : Int)) H) : cLen K [.ref a] H Q := ⟨_, _, rfl, .inl ⟨xs, h, rfl⟩, q⟩
theorem w_lenT {xs : List V} (h : SqT K H a xs) (q : Q (.int (xs.length : Int)) H) : cLen K [.ref a] H Q := ⟨_, _, rfl, .inr ⟨xs, h, rfl⟩, q⟩
theorem w_lenD {kvs : List (Key × V)} (h : H a = some (.dK kvs)) (q : Q (.int (kvs.length : Int)) H) : cLenD [.ref a] H Q := ⟨_, _, rfl, h, q⟩
theorem w_tupL {xs : List V} (h : SqL K H a xs) (q : Alc (.tup xs) H Q) : cTup K [.ref a] H Q := ⟨a, xs, rfl, .inl ⟨h, q⟩⟩
theorem w_dictD {kvs : List (Key × V)} (h : H a = some (.dK kvs)) (q : Alc (.dK kvs) H Q) : cDictD [.ref a] H Q := ⟨a, kvs, rfl, .inl h, q⟩
theorem w_sum {ns : List Int} (h : SqL K H a (ns.map V.int)) (q : Q (.int ns.sum) H) : rSum K [.ref a] H Q := ⟨a, ns, rfl, h, q⟩
theorem w_isi {c : V} {t w : Value} {k : Bool} (cl : ClsV c w) (ty : TyX K H x t) (e : PySem.W.kitOne K t w = some k) (q : Q (.bl k) H) : rIsi K [x, c] H Q := ⟨x, c, t, w, k, rfl, cl, ty, e, q⟩
theorem w_dget (h : ta σ H fun x H1 => tb σ H1 fun y H2 => ∃ a v, x = .ref a ∧ DGet H2 a y (some v) ∧ Q v H2) : tDGet ta tb σ H Q := h
theorem w_dgetS {kvs : List (Key × V)} {z : Str} {P : V → Prop} (h : H a = some (.dK kvs)) (e : valV kvs (Sum.inr z : Key) = some v) (q : P v) : ∃ b u, V.ref a = .ref b ∧ DGet H b (.str z) (some u) ∧ P u := ⟨a, v, rfl, by rw [← e]; exact DGet.k (k := Sum.inr z) h, q⟩
theorem w_din (h : ta σ H fun y H1 => tb σ H1 fun x H2 => ∃ a o, x = .ref a ∧ DGet H2 a y o ∧ Q (.bl o.isSome) H2) : tDIn ta tb σ H Q := h
theorem w_dnotin (h : ta σ H fun y H1 => tb σ H1 fun x H2 => ∃ a o, x = .ref a ∧ DGet H2 a y o ∧ Q (.bl (!o.isSome)) H2) : tDNotIn ta tb σ H Q := h
/-! statements -/
theorem w_seq (h : t ⟨u ⟨nx, rt, bk, ct⟩, rt, bk, ct⟩ σ H) : tSeq t u ⟨nx, rt, bk, ct⟩ σ H := h
theorem w_next (q : nx σ H) : tNext ⟨nx, rt, bk, ct⟩ σ H := q
theorem w_break (q : bk σ H) : tBreak ⟨nx, rt, bk, ct⟩ σ H := q
theorem w_cont (q : ct σ H) : tCont ⟨nx, rt, bk, ct⟩ σ H := q
theorem w_asg {g : TG} (h : te σ H fun x H1 => g x σ H1 nx) : tAsg te g ⟨nx, rt, bk, ct⟩ σ H := h
theorem w_gname {N : St → Hp → Prop} (q : N (σ.set i (some v)) H) : gName i v σ H N := q
theorem w_gsub {N : St → Hp → Prop} {s : TSet} (h : ta σ H fun o H1 => tb σ H1 fun i H2 => s o i v H2 fun H3 => N σ H3) : gSub ta tb s v σ H N := h
theorem w_drop (h : te σ H fun _ H1 => nx σ H1) : tDrop te ⟨nx, rt, bk, ct⟩ σ H := h
theorem w_ret (h : te σ H rt) : tRet te ⟨nx, rt, bk, ct⟩ σ H := h
theorem w_retN (h : rt .non H) : tRetN ⟨nx, rt, bk, ct⟩ σ H := h
theorem w_ifS (h : tt σ H fun b H1 => if b = true then t ⟨nx, rt, bk, ct⟩ σ H1 else u ⟨nx, rt, bk, ct⟩ σ H1) : tIfS tt t u ⟨nx, rt, bk, ct⟩ σ H := h
theorem w_cut (P : St → Hp → Prop) (h : ∀ σ' H', P σ' H' → nx σ' H') (g : ∀ nx', (∀ σ' H', P σ' H' → nx' σ' H') → tIfS tt t u ⟨nx', rt, bk, ct⟩ σ H) : tIfS tt t u ⟨nx, rt, bk, ct⟩ σ H := g nx h
theorem w_cutA {g : TG} (P : St → Hp → Prop) (h : ∀ σ' H', P σ' H' → nx σ' H') (k : ∀ nx', (∀ σ' H', P σ' H' → nx' σ' H') → tAsg te g ⟨nx', rt, bk, ct⟩ σ H) : tAsg te g ⟨nx, rt, bk, ct⟩ σ H := k nx h
theorem w_cutE (P : V → Hp → Prop) (h : ∀ v H', P v H' → Q v H') (k : ∀ Q' : VK, (∀ v H', P v H' → Q' v H') → tIf tt ta tb σ H Q') : tIf tt ta tb σ H Q := k Q h
theorem w_d {c A B : Prop} [Decidable c] (h1 : c → A) (h2 : ¬ c → B) : if decide c = true then A else B := ite2 (fun h => h1 (of_decide_eq_true h)) fun h => h2 fun z => h (decide_eq_true z)
theorem w_nd {c A B : Prop} [Decidable c] (h1 : ¬ c → A) (h2 : c → B) : if (!decide c) = true then A else B := ite2 (fun h => h1 fun z => by rw [decide_eq_true z] at h; cases h) fun h => h2 (by
  by_cases z : c
  · exact z
  · rw [decide_eq_false z] at h; exact absurd rfl h)
theorem w_b {c : Bool} {A B : Prop} (h1 : c = true → A) (h2 : c = false → B) : if c = true then A else B := by cases c with | true => exact iteT (h1 rfl) | false => exact iteF (h2 rfl)
theorem w_nb {c : Bool} {A B : Prop} (h1 : c = false → A) (h2 : c = true → B) : if (!c) = true then A else B := by cases c with | true => exact iteF (h2 rfl) | false => exact iteT (h1 rfl)
theorem w_for {wi : TI} {g : TG} (h : wi σ H fun J H1 => ∃ W : Nat → Nat → St → Hp → Prop, (∃ m, W 0 m σ H1) ∧ ∀ i m σ H, W i m σ H →
  (J.stop i H ∧ nx σ H) ∨ (J.go i H ∧ ∃ N : St → Hp → Prop, (∀ σ' H', N σ' H' → ∃ m', m' < m ∧ W (i + 1) m' σ' H') ∧ ∀ x H', J.yld i H x H' → g x σ H' fun σ2 H2 => t ⟨N, rt, nx, N⟩ σ2 H2)) : tFor wi g t ⟨nx, rt, bk, ct⟩ σ H := h
theorem w_iList {R : It → Hp → Prop} (h : te σ H fun x H1 => ∃ a, x = .ref a ∧ (∃ xs, SqL K H1 a xs) ∧ R (Itl K a) H1) : iList K te σ H R := h
theorem w_iTup {R : It → Hp → Prop} (h : te σ H fun x H1 => ∃ a, x = .ref a ∧ (∃ xs, SqT K H1 a xs) ∧ R (Itt K a) H1) : iTup K te σ H R := h
theorem w_iRng1 {R : It → Hp → Prop} (h : tl σ H fun vs H1 => ∃ j : Int, vs = [.int j] ∧ -(2 ^ 62) ≤ j ∧ j < 2 ^ 62 ∧ R (Itr 0 j.toNat) H1) : iRng1 tl σ H R := h
theorem w_iRng2 {R : It → Hp → Prop} (h : tl σ H fun vs H1 => ∃ i j : Int, vs = [.int i, .int j] ∧ (-(2 ^ 62) ≤ i ∧ i < 2 ^ 62 ∧ -(2 ^ 62) ≤ j ∧ j < 2 ^ 62) ∧ R (Itr i (j - i).toNat) H1) : iRng2 tl σ H R := h
theorem w_iStr {R : It → Hp → Prop} (h : te σ H fun v H1 => ∃ x, v = .str x ∧ R (Its x) H1) : iStr te σ H R := h
theorem iteNF {A B : Prop} (h : A) : if (!false) = true then A else B := iteT h
theorem iteNT {A B : Prop} (h : B) : if (!true) = true then A else B := iteF h
theorem w_f {c : Bool} {A B : Prop} (h : c = false) (q : B) : if c = true then A else B := by rw [h]; exact iteF q
theorem w_t {c : Bool} {A B : Prop} (h : c = true) (q : A) : if c = true then A else B := by rw [h]; exact iteT q
theorem w_gtup {n : Nat} {g : TGs} {xs : List V} {N : St → Hp → Prop} (h : SqT K H a xs) (l : xs.length = n) (q : g xs σ H N) : gTup K n g (.ref a) σ H N := ⟨a, xs, rfl, h, l, q⟩
theorem w_gcons {g : TG} {gs : TGs} {r : List V} {N : St → Hp → Prop} (q : g v σ H fun σ' H' => gs r σ' H' N) : gCons g gs (v :: r) σ H N := ⟨v, r, rfl, q⟩
theorem w_gnil {N : St → Hp → Prop} (q : N σ H) : gNil [] σ H N := ⟨rfl, q⟩
theorem w_sdput (h : te σ H fun v H1 => ta σ H1 fun x H2 => tb σ H2 fun y H3 => ∃ a H4, x = .ref a ∧ DPut H3 a y v H4 ∧ nx σ H4) : sDPut ta tb te ⟨nx, rt, bk, ct⟩ σ H := h
theorem w_dputS {kvs : List (Key × V)} {z : Str} {N : Hp → Prop} (h : H a = some (.dK kvs)) (l : kvs.length < sizeLine) (k : ∀ H', Ext [a] H H' → H' a = some (.dK (putK kvs (Sum.inr z) v)) → N H') : ∃ b H4, V.ref a = .ref b ∧ DPut H b (.str z) v H4 ∧ N H4 :=
  ⟨a, _, rfl, DPut.k (k := Sum.inr z) h l, k _ (Ext.mut h (fun z => z) (List.mem_singleton.mpr rfl)) upd_same⟩
theorem w_sortD {kvs : List (Key × V)} {ks : List Str} (h : H a = some (.dK kvs)) (e : kvs.map (·.1) = ks.map Sum.inr) (l : ks.length < 64) (q : ∀ ys, ys.Perm ks → sortedS ys = true → Alc (.lst (ys.map V.str)) H Q) : cSortD [.ref a] H Q := ⟨a, kvs, ks, rfl, .inl h, e, l, q⟩
/-! a dict is locked while it is walked -/
structure Lk (d : Addr) (u : HO) (od : Obj) (H H1 : Hp) : Prop where
  was : H d = some u
  ni : ¬ Imm u
  eq : H1 = upd H d (.frz od u)
theorem Lk.at {d : Addr} {u : HO} {od : Obj} {H H1 : Hp} (L : Lk d u od H H1) : H1 d = some (.frz od u) := by rw [L.eq]; exact upd_same
theorem Lk.keep {d : Addr} {u : HO} {od : Obj} {H H1 : Hp} (L : Lk d u od H H1) {b : Addr} {o : HO} (h : H b = some o) (n : b ≠ d) : H1 b = some o := by rw [L.eq, upd_ne n]; exact h
theorem Lk.tup {d : Addr} {u : HO} {od : Obj} {H H1 : Hp} (L : Lk d u od H H1) {b : Addr} {xs : List V} (h : H b = some (.tup xs)) : H1 b = some (.tup xs) :=
  L.keep h fun z => L.ni (by subst z; have := L.was; rw [h] at this; cases this; trivial)
theorem Lk.frz {d : Addr} {u : HO} {od : Obj} {H H1 : Hp} (L : Lk d u od H H1) {b : Addr} {o : Obj} {x : HO} (h : H b = some (.frz o x)) : H1 b = some (.frz o x) :=
  L.keep h fun z => L.ni (by subst z; have := L.was; rw [h] at this; cases this; trivial)
theorem Lk.free {d : Addr} {u : HO} {od : Obj} {H H1 : Hp} (L : Lk d u od H H1) {b : Addr} (h : H1 b = none) : H b = none := by
  rw [L.eq] at h
  by_cases z : b = d
  · subst z; rw [upd_same] at h; cases h
  · rw [upd_ne z] at h; exact h
theorem Lk.scr {d : Addr} {u : HO} {od : Obj} {H H1 : Hp} (L : Lk d u od H H1) {b : Addr} {xs : List V} (h : Scr K H b xs) : Scr K H1 b xs := by
  rcases h with ⟨o, h⟩ | h
  · exact .inl ⟨o, L.frz h⟩
  · exact .inr h
theorem w_lock {d : Addr} {u : HO} (h : H d = some u) (m : Mut (some u)) (ni : ¬ Imm u) (k : ∀ od H1, Lk d u od H H1 → t ⟨fun σ' H' => H' d = some (.frz od u) ∧ nx σ' (upd H' d u), fun v H' => H' d = some (.frz od u) ∧ rt v (upd H' d u), fun σ' H' => H' d = some (.frz od u) ∧ bk σ' (upd H' d u), fun σ' H' => H' d = some (.frz od u) ∧ ct σ' (upd H' d u)⟩ σ H1) :
    tLock t ⟨nx, rt, bk, ct⟩ σ H := ⟨d, u, h, m, fun od => k od _ ⟨h, ni, rfl⟩⟩
theorem w_lockE {d : Addr} {u : HO} (h : H d = some u) (m : Mut (some u)) (ni : ¬ Imm u) (k : ∀ od H1, Lk d u od H H1 → te σ H1 fun v H' => H' d = some (.frz od u) ∧ Q v (upd H' d u)) : tLockE te σ H Q := ⟨d, u, h, m, fun od => k od _ ⟨h, ni, rfl⟩⟩
theorem w_unlock {d : Addr} {u : HO} {od : Obj} {H0 H1 : Hp} {M : List Addr} {N : Hp → Prop} (L : Lk d u od H0 H1) (e : Ext M H1 H) (k : ∀ H', Ext M H0 H' → (∀ b o, H b = some o → b ≠ d → H' b = some o) → N H') : H d = some (.frz od u) ∧ N (upd H d u) := by
  refine ⟨e.imm _ _ L.at trivial, k _ ?_ fun b o h n => by rw [upd_ne n]; exact h⟩
  have e' := e
  rw [L.eq] at e'
  exact Ext.lock L.was L.ni e'
theorem w_iKeys {R : It → Hp → Prop} (h : te σ H fun x H1 => ∃ d o, x = .ref d ∧ ((∃ kvs, H1 d = some (.frz o (.dK kvs)) ∧ R (Itk d o kvs) H1) ∨ ∃ kvs, H1 d = some (.frz o (.dT kvs)) ∧ R (Itkt d o kvs) H1)) : iKeys te σ H R := h
theorem w_keysK {kvs : List (Key × V)} {o : Obj} {R : It → Hp → Prop} (h : H a = some (.frz o (.dK kvs))) (q : R (Itk a o kvs) H) : ∃ d o, V.ref a = .ref d ∧ ((∃ kvs, H d = some (.frz o (.dK kvs)) ∧ R (Itk d o kvs) H) ∨ ∃ kvs, H d = some (.frz o (.dT kvs)) ∧ R (Itkt d o kvs) H) := ⟨a, o, rfl, .inl ⟨kvs, h, q⟩⟩
theorem w_keysV {kvs : List (Key × V)} {o : Obj} {R : It → Hp → Prop} (e : σ[i]? = some (some (.ref a))) (h : H a = some (.frz o (.dK kvs))) (q : R (Itk a o kvs) H) : iKeys (tVar i) σ H R := ⟨.ref a, e, a, o, rfl, .inl ⟨kvs, h, q⟩⟩
theorem w_dgetR {kvs : List (Key × V)} {z : Str} {P : V → Prop} (h : Rd H a (.dK kvs)) (e : valV kvs (Sum.inr z : Key) = some v) (q : P v) : ∃ b u, V.ref a = .ref b ∧ DGet H b (.str z) (some u) ∧ P u := ⟨a, v, rfl, .inl ⟨kvs, Sum.inr z, h, rfl, e.symm⟩, q⟩
theorem w_dinS {kvs : List (Key × V)} {z : Str} {P : Option V → Prop} (h : Rd H a (.dK kvs)) (q : P (valV kvs (Sum.inr z : Key))) : ∃ b o, V.ref a = .ref b ∧ DGet H b (.str z) o ∧ P o := ⟨a, _, rfl, .inl ⟨kvs, Sum.inr z, h, rfl, rfl⟩, q⟩
/-! loops by an invariant; what a turn is to reach is a letter -/
theorem z_for_list {xs : List V} {g : TG} (Pv : Nat → St → Hp → Prop) (h0 : Pv 0 σ H) (hl : ∀ i σ H, i ≤ xs.length → Pv i σ H → SqL K H a xs)
    (hs : ∀ (N : St → Hp → Prop) i x σ H, xs[i]? = some x → Pv i σ H → (∀ σ' H', Pv (i + 1) σ' H' → N σ' H') → g x σ H fun σ2 H2 => t ⟨N, rt, nx, N⟩ σ2 H2) (hd : ∀ σ H, Pv xs.length σ H → nx σ H) :
    ∃ W : Nat → Nat → St → Hp → Prop, (∃ m, W 0 m σ H) ∧ ∀ i m σ H, W i m σ H →
      ((Itl K a).stop i H ∧ nx σ H) ∨ ((Itl K a).go i H ∧ ∃ N : St → Hp → Prop, (∀ σ' H', N σ' H' → ∃ m', m' < m ∧ W (i + 1) m' σ' H') ∧ ∀ x H', (Itl K a).yld i H x H' → g x σ H' fun σ2 H2 => t ⟨N, rt, nx, N⟩ σ2 H2) :=
  for_list (D := ⟨nx, rt, nx, nx⟩) Pv h0 hl (fun i x σ H hx p => hs (Pv (i + 1)) i x σ H hx p fun _ _ q => q) hd
theorem z_for_tup {xs : List V} {g : TG} (Pv : Nat → St → Hp → Prop) (h0 : Pv 0 σ H) (hl : ∀ i σ H, i ≤ xs.length → Pv i σ H → SqT K H a xs)
    (hs : ∀ (N : St → Hp → Prop) i x σ H, xs[i]? = some x → Pv i σ H → (∀ σ' H', Pv (i + 1) σ' H' → N σ' H') → g x σ H fun σ2 H2 => t ⟨N, rt, nx, N⟩ σ2 H2) (hd : ∀ σ H, Pv xs.length σ H → nx σ H) :
    ∃ W : Nat → Nat → St → Hp → Prop, (∃ m, W 0 m σ H) ∧ ∀ i m σ H, W i m σ H →
      ((Itt K a).stop i H ∧ nx σ H) ∨ ((Itt K a).go i H ∧ ∃ N : St → Hp → Prop, (∀ σ' H', N σ' H' → ∃ m', m' < m ∧ W (i + 1) m' σ' H') ∧ ∀ x H', (Itt K a).yld i H x H' → g x σ H' fun σ2 H2 => t ⟨N, rt, nx, N⟩ σ2 H2) :=
  for_tup (D := ⟨nx, rt, nx, nx⟩) Pv h0 hl (fun i x σ H hx p => hs (Pv (i + 1)) i x σ H hx p fun _ _ q => q) hd
theorem z_for_range {lo : Int} {n : Nat} {g : TG} (Pv : Nat → St → Hp → Prop) (h0 : Pv 0 σ H)
    (hs : ∀ (N : St → Hp → Prop) i σ H, i < n → Pv i σ H → (∀ σ' H', Pv (i + 1) σ' H' → N σ' H') → g (.int (lo + i)) σ H fun σ2 H2 => t ⟨N, rt, nx, N⟩ σ2 H2) (hd : ∀ σ H, Pv n σ H → nx σ H) :
    ∃ W : Nat → Nat → St → Hp → Prop, (∃ m, W 0 m σ H) ∧ ∀ i m σ H, W i m σ H →
      ((Itr lo n).stop i H ∧ nx σ H) ∨ ((Itr lo n).go i H ∧ ∃ N : St → Hp → Prop, (∀ σ' H', N σ' H' → ∃ m', m' < m ∧ W (i + 1) m' σ' H') ∧ ∀ x H', (Itr lo n).yld i H x H' → g x σ H' fun σ2 H2 => t ⟨N, rt, nx, N⟩ σ2 H2) :=
  for_range (D := ⟨nx, rt, nx, nx⟩) Pv h0 (fun i σ H hx p => hs (Pv (i + 1)) i σ H hx p fun _ _ q => q) hd
theorem z_for_str {z : Str} {g : TG} (Pv : Nat → St → Hp → Prop) (h0 : Pv 0 σ H)
    (hs : ∀ (N : St → Hp → Prop) i c σ H, z.cps[i]? = some c → Pv i σ H → (∀ σ' H', Pv (i + 1) σ' H' → N σ' H') → g (.str ⟨#[c]⟩) σ H fun σ2 H2 => t ⟨N, rt, nx, N⟩ σ2 H2) (hd : ∀ σ H, Pv z.cps.size σ H → nx σ H) :
    ∃ W : Nat → Nat → St → Hp → Prop, (∃ m, W 0 m σ H) ∧ ∀ i m σ H, W i m σ H →
      ((Its z).stop i H ∧ nx σ H) ∨ ((Its z).go i H ∧ ∃ N : St → Hp → Prop, (∀ σ' H', N σ' H' → ∃ m', m' < m ∧ W (i + 1) m' σ' H') ∧ ∀ x H', (Its z).yld i H x H' → g x σ H' fun σ2 H2 => t ⟨N, rt, nx, N⟩ σ2 H2) := by
  refine ⟨fun i m σ H => m = z.cps.size - i ∧ i ≤ z.cps.size ∧ Pv i σ H, ⟨_, rfl, Nat.zero_le _, h0⟩, ?_⟩
  rintro i m σ H ⟨rfl, hi, p⟩
  by_cases hlt : i < z.cps.size
  · refine .inr ⟨hlt, Pv (i + 1), fun σ' H' p' => ⟨z.cps.size - (i + 1), by omega, rfl, hlt, p'⟩, fun x H' y => ?_⟩
    obtain ⟨e, c, hc, rfl⟩ := y
    subst e
    exact hs (Pv (i + 1)) i c σ _ hc p fun _ _ q => q
  · have e : i = z.cps.size := by omega
    subst e
    exact .inl ⟨Nat.le_refl _, hd σ H p⟩
/-- over the keys of a locked dict -/
theorem z_for_keys {kvs : List (Key × V)} {d : Addr} {o : Obj} {g : TG} (Pv : Nat → St → Hp → Prop) (h0 : Pv 0 σ H) (hl : ∀ i σ H, i ≤ kvs.length → Pv i σ H → H d = some (.frz o (.dK kvs)))
    (hs : ∀ (N : St → Hp → Prop) i k v σ H, kvs[i]? = some (k, v) → Pv i σ H → (∀ σ' H', Pv (i + 1) σ' H' → N σ' H') → g (kV k) σ H fun σ2 H2 => t ⟨N, rt, nx, N⟩ σ2 H2) (hd : ∀ σ H, Pv kvs.length σ H → nx σ H) :
    ∃ W : Nat → Nat → St → Hp → Prop, (∃ m, W 0 m σ H) ∧ ∀ i m σ H, W i m σ H →
      ((Itk d o kvs).stop i H ∧ nx σ H) ∨ ((Itk d o kvs).go i H ∧ ∃ N : St → Hp → Prop, (∀ σ' H', N σ' H' → ∃ m', m' < m ∧ W (i + 1) m' σ' H') ∧ ∀ x H', (Itk d o kvs).yld i H x H' → g x σ H' fun σ2 H2 => t ⟨N, rt, nx, N⟩ σ2 H2) := by
  refine ⟨fun i m σ H => m = kvs.length - i ∧ i ≤ kvs.length ∧ Pv i σ H, ⟨_, rfl, Nat.zero_le _, h0⟩, ?_⟩
  rintro i m σ H ⟨rfl, hi, p⟩
  by_cases hlt : i < kvs.length
  · refine .inr ⟨⟨hl i σ H hi p, hlt⟩, Pv (i + 1), fun σ' H' p' => ⟨kvs.length - (i + 1), by omega, rfl, hlt, p'⟩, fun x H' y => ?_⟩
    obtain ⟨e, k, v, hk, rfl⟩ := y
    subst e
    exact hs (Pv (i + 1)) i k v σ _ hk p fun _ _ q => q
  · have e : i = kvs.length := by omega
    subst e
    exact .inl ⟨⟨hl _ σ H hi p, Nat.le_refl _⟩, hd σ H p⟩
/-! comprehensions -/
theorem w_lc {wi : TI} {g : TG} {vs : List Nat} (h : wi σ H fun J H1 => ∀ D, H1 D = none → ∃ W : Nat → Nat → Hp → Prop, (∃ m, W 0 m (upd H1 D (.lst []))) ∧ ∀ i m H, W i m H →
  (J.stop i H ∧ Q (.ref D) H) ∨ (J.go i H ∧ ∃ Nx : Hp → Prop, (∀ H', Nx H' → ∃ m', m' < m ∧ W (i + 1) m' H') ∧ ∀ x H', J.yld i H x H' → g x (wipe σ vs) H' fun σ2 H2 => wipe σ2 vs = wipe σ vs ∧ tt σ2 H2 fun b H3 =>
    if b = true then te σ2 H3 fun y H4 => ∃ acc, H4 D = some (.lst acc) ∧ acc.length < sizeLine ∧ Nx (upd H4 D (.lst (acc ++ [y]))) else Nx H3)) : tLc wi g tt te vs σ H Q := h
theorem w_app {Nx : Hp → Prop} {acc : List V} {D : Addr} (hD : H D = some (.lst acc)) (c : acc.length < sizeLine) (k : ∀ H', Ext [D] H H' → H' D = some (.lst (acc ++ [y])) → Nx H') :
    ∃ acc, H D = some (.lst acc) ∧ acc.length < sizeLine ∧ Nx (upd H D (.lst (acc ++ [y]))) := ⟨acc, hD, c, k _ (Ext.mut hD (fun z => z) (List.mem_singleton.mpr rfl)) upd_same⟩
theorem z_lc_list {xs : List V} {g : TG} {vs : List Nat} {D : Addr} {Qd : Hp → Prop} (Pv : Nat → List V → Hp → Prop) (nD : H D = none) (h0 : ∀ H', Ext [] H H' → Pv 0 [] H') (hl : ∀ i acc H, i ≤ xs.length → Pv i acc H → SqL K H a xs)
    (hs : ∀ (Nx : Hp → Prop) i x acc H, xs[i]? = some x → Pv i acc H → H D = some (.lst acc) → (∀ acc' H', Pv (i + 1) acc' H' → H' D = some (.lst acc') → Nx H') → g x (wipe σ vs) H fun σ2 H2 => wipe σ2 vs = wipe σ vs ∧ tt σ2 H2 fun b H3 =>
      if b = true then te σ2 H3 fun y H4 => ∃ acc, H4 D = some (.lst acc) ∧ acc.length < sizeLine ∧ Nx (upd H4 D (.lst (acc ++ [y]))) else Nx H3) (hd : ∀ acc H, Pv xs.length acc H → H D = some (.lst acc) → Qd H) :
    ∃ W : Nat → Nat → Hp → Prop, (∃ m, W 0 m (upd H D (.lst []))) ∧ ∀ i m H, W i m H →
      ((Itl K a).stop i H ∧ Qd H) ∨ ((Itl K a).go i H ∧ ∃ Nx : Hp → Prop, (∀ H', Nx H' → ∃ m', m' < m ∧ W (i + 1) m' H') ∧ ∀ x H', (Itl K a).yld i H x H' → g x (wipe σ vs) H' fun σ2 H2 => wipe σ2 vs = wipe σ vs ∧ tt σ2 H2 fun b H3 =>
        if b = true then te σ2 H3 fun y H4 => ∃ acc, H4 D = some (.lst acc) ∧ acc.length < sizeLine ∧ Nx (upd H4 D (.lst (acc ++ [y]))) else Nx H3) :=
  lc_list (fun i H => ∃ acc, Pv i acc H ∧ H D = some (.lst acc)) ⟨[], h0 _ (Ext.new nD), upd_same⟩ (fun i H hi ⟨acc, p, _⟩ => hl i acc H hi p)
    (fun i x H hx ⟨acc, p, hD⟩ => hs _ i x acc H hx p hD fun acc' H' p' h' => ⟨acc', p', h'⟩) fun H ⟨acc, p, hD⟩ => hd acc H p hD
theorem z_lc_tup {xs : List V} {g : TG} {vs : List Nat} {D : Addr} {Qd : Hp → Prop} (Pv : Nat → List V → Hp → Prop) (nD : H D = none) (h0 : ∀ H', Ext [] H H' → Pv 0 [] H') (hl : ∀ i acc H, i ≤ xs.length → Pv i acc H → SqT K H a xs)
    (hs : ∀ (Nx : Hp → Prop) i x acc H, xs[i]? = some x → Pv i acc H → H D = some (.lst acc) → (∀ acc' H', Pv (i + 1) acc' H' → H' D = some (.lst acc') → Nx H') → g x (wipe σ vs) H fun σ2 H2 => wipe σ2 vs = wipe σ vs ∧ tt σ2 H2 fun b H3 =>
      if b = true then te σ2 H3 fun y H4 => ∃ acc, H4 D = some (.lst acc) ∧ acc.length < sizeLine ∧ Nx (upd H4 D (.lst (acc ++ [y]))) else Nx H3) (hd : ∀ acc H, Pv xs.length acc H → H D = some (.lst acc) → Qd H) :
    ∃ W : Nat → Nat → Hp → Prop, (∃ m, W 0 m (upd H D (.lst []))) ∧ ∀ i m H, W i m H →
      ((Itt K a).stop i H ∧ Qd H) ∨ ((Itt K a).go i H ∧ ∃ Nx : Hp → Prop, (∀ H', Nx H' → ∃ m', m' < m ∧ W (i + 1) m' H') ∧ ∀ x H', (Itt K a).yld i H x H' → g x (wipe σ vs) H' fun σ2 H2 => wipe σ2 vs = wipe σ vs ∧ tt σ2 H2 fun b H3 =>
        if b = true then te σ2 H3 fun y H4 => ∃ acc, H4 D = some (.lst acc) ∧ acc.length < sizeLine ∧ Nx (upd H4 D (.lst (acc ++ [y]))) else Nx H3) :=
  lc_tup (fun i H => ∃ acc, Pv i acc H ∧ H D = some (.lst acc)) ⟨[], h0 _ (Ext.new nD), upd_same⟩ (fun i H hi ⟨acc, p, _⟩ => hl i acc H hi p)
    (fun i x H hx ⟨acc, p, hD⟩ => hs _ i x acc H hx p hD fun acc' H' p' h' => ⟨acc', p', h'⟩) fun H ⟨acc, p, hD⟩ => hd acc H p hD
theorem z_lc_range {lo : Int} {n : Nat} {g : TG} {vs : List Nat} {D : Addr} {Qd : Hp → Prop} (Pv : Nat → List V → Hp → Prop) (nD : H D = none) (h0 : ∀ H', Ext [] H H' → Pv 0 [] H')
    (hs : ∀ (Nx : Hp → Prop) i acc H, i < n → Pv i acc H → H D = some (.lst acc) → (∀ acc' H', Pv (i + 1) acc' H' → H' D = some (.lst acc') → Nx H') → g (.int (lo + i)) (wipe σ vs) H fun σ2 H2 => wipe σ2 vs = wipe σ vs ∧ tt σ2 H2 fun b H3 =>
      if b = true then te σ2 H3 fun y H4 => ∃ acc, H4 D = some (.lst acc) ∧ acc.length < sizeLine ∧ Nx (upd H4 D (.lst (acc ++ [y]))) else Nx H3) (hd : ∀ acc H, Pv n acc H → H D = some (.lst acc) → Qd H) :
    ∃ W : Nat → Nat → Hp → Prop, (∃ m, W 0 m (upd H D (.lst []))) ∧ ∀ i m H, W i m H →
      ((Itr lo n).stop i H ∧ Qd H) ∨ ((Itr lo n).go i H ∧ ∃ Nx : Hp → Prop, (∀ H', Nx H' → ∃ m', m' < m ∧ W (i + 1) m' H') ∧ ∀ x H', (Itr lo n).yld i H x H' → g x (wipe σ vs) H' fun σ2 H2 => wipe σ2 vs = wipe σ vs ∧ tt σ2 H2 fun b H3 =>
        if b = true then te σ2 H3 fun y H4 => ∃ acc, H4 D = some (.lst acc) ∧ acc.length < sizeLine ∧ Nx (upd H4 D (.lst (acc ++ [y]))) else Nx H3) :=
  lc_range (fun i H => ∃ acc, Pv i acc H ∧ H D = some (.lst acc)) ⟨[], h0 _ (Ext.new nD), upd_same⟩
    (fun i H hx ⟨acc, p, hD⟩ => hs _ i acc H hx p hD fun acc' H' p' h' => ⟨acc', p', h'⟩) fun H ⟨acc, p, hD⟩ => hd acc H p hD
theorem z_lc_keys {kvs : List (Key × V)} {d : Addr} {o : Obj} {g : TG} {vs : List Nat} {D : Addr} {Qd : Hp → Prop} (Pv : Nat → List V → Hp → Prop) (nD : H D = none) (h0 : ∀ H', Ext [] H H' → Pv 0 [] H') (hl : ∀ i acc H, i ≤ kvs.length → Pv i acc H → H d = some (.frz o (.dK kvs)))
    (hs : ∀ (Nx : Hp → Prop) i k v acc H, kvs[i]? = some (k, v) → Pv i acc H → H D = some (.lst acc) → (∀ acc' H', Pv (i + 1) acc' H' → H' D = some (.lst acc') → Nx H') → g (kV k) (wipe σ vs) H fun σ2 H2 => wipe σ2 vs = wipe σ vs ∧ tt σ2 H2 fun b H3 =>
      if b = true then te σ2 H3 fun y H4 => ∃ acc, H4 D = some (.lst acc) ∧ acc.length < sizeLine ∧ Nx (upd H4 D (.lst (acc ++ [y]))) else Nx H3) (hd : ∀ acc H, Pv kvs.length acc H → H D = some (.lst acc) → Qd H) :
    ∃ W : Nat → Nat → Hp → Prop, (∃ m, W 0 m (upd H D (.lst []))) ∧ ∀ i m H, W i m H →
      ((Itk d o kvs).stop i H ∧ Qd H) ∨ ((Itk d o kvs).go i H ∧ ∃ Nx : Hp → Prop, (∀ H', Nx H' → ∃ m', m' < m ∧ W (i + 1) m' H') ∧ ∀ x H', (Itk d o kvs).yld i H x H' → g x (wipe σ vs) H' fun σ2 H2 => wipe σ2 vs = wipe σ vs ∧ tt σ2 H2 fun b H3 =>
        if b = true then te σ2 H3 fun y H4 => ∃ acc, H4 D = some (.lst acc) ∧ acc.length < sizeLine ∧ Nx (upd H4 D (.lst (acc ++ [y]))) else Nx H3) := by
  refine ⟨fun i m H => m = kvs.length - i ∧ i ≤ kvs.length ∧ ∃ acc, Pv i acc H ∧ H D = some (.lst acc), ⟨_, rfl, Nat.zero_le _, [], h0 _ (Ext.new nD), upd_same⟩, ?_⟩
  rintro i m H ⟨rfl, hi, acc, p, hD⟩
  by_cases hlt : i < kvs.length
  · refine .inr ⟨⟨hl i acc H hi p, hlt⟩, (fun H => ∃ acc, Pv (i + 1) acc H ∧ H D = some (.lst acc)), fun H' p' => ⟨kvs.length - (i + 1), by omega, rfl, hlt, p'⟩, fun x H' y => ?_⟩
    obtain ⟨e, k, v, hk, rfl⟩ := y
    subst e
    exact hs _ i k v acc _ hk p hD fun acc' H' p' h' => ⟨acc', p', h'⟩
  · have e : i = kvs.length := by omega
    subst e
    exact .inl ⟨⟨hl _ acc H hi p, Nat.le_refl _⟩, hd acc H p hD⟩
end
end Zk

set_option Elab.async false
set_option linter.all false
set_option maxRecDepth 100000
set_option maxHeartbeats 4000000
namespace Zk
open PySem PySem.Spec L2
open PyProof.Rows hiding St

/-! ### slots: a text and two ints; their order -/
abbrev Slot := Str × Int × Int
def sVs (s : Slot) : List V := [.str s.1, .int s.2.1, .int s.2.2]
def sKey (s : Slot) : List Key := [Sum.inr s.1, Sum.inl s.2.1, Sum.inl s.2.2]
theorem sKey_vs (s : Slot) : (sKey s).map kV = sVs s := rfl
theorem sKey_inj {s t : Slot} (h : sKey s = sKey t) : s = t := by
  unfold sKey at h
  injection h with h1 h2
  injection h2 with h2 h3
  injection h3 with h3 _
  obtain ⟨a, b, c⟩ := s
  obtain ⟨a', b', c'⟩ := t
  simp only [Sum.inr.injEq, Sum.inl.injEq] at h1 h2 h3
  subst h1 h2 h3
  rfl
theorem sVs_inj {s t : Slot} (h : sVs s = sVs t) : s = t := by
  obtain ⟨a, b, c⟩ := s
  obtain ⟨a', b', c'⟩ := t
  unfold sVs at h
  simp only [List.cons.injEq, V.str.injEq, V.int.injEq] at h
  obtain ⟨h1, h2, h3, _⟩ := h
  subst h1 h2 h3
  rfl
def sLt (p q : Slot) : Bool := if p.1 = q.1 then (if p.2.1 = q.2.1 then decide (p.2.2 < q.2.2) else decide (p.2.1 < q.2.1)) else decide (p.1.cps.toList < q.1.cps.toList)
theorem str_tri (a b : Str) : a.cps.toList < b.cps.toList ∨ a = b ∨ b.cps.toList < a.cps.toList := by
  by_cases h : a.cps.toList < b.cps.toList
  · exact .inl h
  · by_cases h2 : b.cps.toList < a.cps.toList
    · exact .inr (.inr h2)
    · refine .inr (.inl ?_)
      have := List.le_antisymm (List.not_lt.mp h2) (List.not_lt.mp h)
      cases a; cases b
      simp only [Str.mk.injEq]
      exact Array.toList_inj.mp this
def SLt (p q : Slot) : Prop := p.1.cps.toList < q.1.cps.toList ∨ (p.1 = q.1 ∧ (p.2.1 < q.2.1 ∨ (p.2.1 = q.2.1 ∧ p.2.2 < q.2.2)))
theorem sLt_iff {p q : Slot} : sLt p q = true ↔ SLt p q := by
  unfold sLt SLt
  by_cases e : p.1 = q.1
  · rw [if_pos e]
    have no : ¬ p.1.cps.toList < q.1.cps.toList := by rw [e]; exact List.lt_irrefl _
    by_cases e2 : p.2.1 = q.2.1
    · rw [if_pos e2, decide_eq_true_eq]
      constructor
      · intro h; exact .inr ⟨e, .inr ⟨e2, h⟩⟩
      · rintro (h | ⟨_, h | h⟩)
        · exact absurd h no
        · omega
        · exact h.2
    · rw [if_neg e2, decide_eq_true_eq]
      constructor
      · intro h; exact .inr ⟨e, .inl h⟩
      · rintro (h | ⟨_, h | h⟩)
        · exact absurd h no
        · exact h
        · exact absurd h.1 e2
  · rw [if_neg e, decide_eq_true_eq]
    constructor
    · intro h; exact .inl h
    · rintro (h | h)
      · exact h
      · exact absurd h.1 e
theorem SLt.tri (p q : Slot) : SLt p q ∨ p = q ∨ SLt q p := by
  obtain ⟨a, b, c⟩ := p
  obtain ⟨a', b', c'⟩ := q
  unfold SLt
  rcases str_tri a a' with h | h | h
  · exact .inl (.inl h)
  · subst h
    rcases Int.lt_trichotomy b b' with h | h | h
    · exact .inl (.inr ⟨rfl, .inl h⟩)
    · subst h
      rcases Int.lt_trichotomy c c' with h | h | h
      · exact .inl (.inr ⟨rfl, .inr ⟨rfl, h⟩⟩)
      · subst h; exact .inr (.inl rfl)
      · exact .inr (.inr (.inr ⟨rfl, .inr ⟨rfl, h⟩⟩))
    · exact .inr (.inr (.inr ⟨rfl, .inl h⟩))
  · exact .inr (.inr (.inl h))
theorem SLt.trans {p q r : Slot} (h1 : SLt p q) (h2 : SLt q r) : SLt p r := by
  unfold SLt at *
  rcases h1 with h1 | ⟨e1, h1⟩ <;> rcases h2 with h2 | ⟨e2, h2⟩
  · exact .inl (List.lt_trans h1 h2)
  · exact .inl (by rw [← e2]; exact h1)
  · exact .inl (by rw [e1]; exact h2)
  · exact .inr ⟨e1.trans e2, by omega⟩
theorem SLt.irr {p : Slot} (h : SLt p p) : False := by
  unfold SLt at h
  rcases h with h | ⟨_, h⟩
  · exact List.lt_irrefl _ h
  · omega
theorem sLt_no {p q : Slot} : sLt p q = false ↔ ¬ SLt p q := by rw [← sLt_iff]; simp
theorem sLt_swo {α : Type} (k : α → Slot) : SrtO.Swo fun v u => sLt (k v) (k u) := by
  refine ⟨fun x y h => sLt_no.mpr fun z => (SLt.trans (sLt_iff.mp h) z).irr, fun x y z h1 h2 => sLt_no.mpr fun q => ?_⟩
  have a := sLt_no.mp h1
  have b := sLt_no.mp h2
  rcases SLt.tri (k x) (k y) with c | c | c
  · exact b (SLt.trans q c)
  · rw [← c] at b; exact b q
  · exact a c
/-! ### sorting lists of slots, of any length -/
section
variable {prog : Program} {w : World} {A : Around} {E : Value → Shared → Prop} {s : Shared}
def IsSlotV (h : Heap) (v : Value) (z : Slot) : Prop := ∃ (a : Addr) (o : Obj) (t u r : Tok) (n : Nat), v = .ref a ∧ h.get? a = some o ∧ o.cls = .type "tuple" ∧ o.data = .seq #[.str z.1 t, .int z.2.1 u, .int z.2.2 r] n
theorem IsSlotV.stays {h h' : Heap} {v : Value} {z : Slot} (p : IsSlotV h v z) (k : ∀ b o, h.get? b = some o → o.cls = .type "tuple" → h'.get? b = some o) : IsSlotV h' v z := by
  obtain ⟨a, o, t, u, r, n, e, ho, hc, hd⟩ := p
  exact ⟨a, o, t, u, r, n, e, k _ _ ho hc, hc, hd⟩
theorem slot_cmp {vs : List Value} {k : Value → Slot} (hp : ∀ v ∈ vs, IsSlotV s.heap v (k v)) : SrtO.Cmp prog w A s (tuples' true) (fun p => p.1 ∈ vs) (SrtO.lt2 fun v u => sLt (k v) (k u)) := by
  intro p q hm hm'
  have g1 := hp _ hm
  have g2 := hp _ hm'
  show wpAny (model prog w) A (keyLt' (tuples' true) p.1 q.1) (fun r s' => s' = s ∧ r = sLt (k p.1) (k q.1)) (fun _ _ => False) s
  generalize k p.1 = x at g1 ⊢
  generalize k q.1 = y at g2 ⊢
  obtain ⟨x1, x2, x3⟩ := x
  obtain ⟨y1, y2, y3⟩ := y
  obtain ⟨a, o, t, u, r, n, e, ho, hc, hd⟩ := g1
  obtain ⟨a', o', t', u', r', n', e', ho', hc', hd'⟩ := g2
  rw [e, e']
  refine PySem.W.kat_lt ho hd ho' hd' ?_
  show PySem.W.KatLex prog w A true (decide (3 < 3)) _ [(.str x1 t, .str y1 t'), (.int x2 u, .int y2 u'), (.int x3 r, .int y3 r')] 0 s
  refine PySem.W.kat_cons (wpAny_eqBool_str ?_)
  refine PySem.W.kat_go (fun e1 => ?_) (fun e1 => ?_)
  · have ex : x1 = y1 := by simpa using e1
    refine PySem.W.kat_yes (PySem.W.kat_cons (wpAny_eqBool_int ?_))
    refine PySem.W.kat_go (fun e2 => ?_) (fun e2 => ?_)
    · have ey : x2 = y2 := by simpa using e2
      refine PySem.W.kat_yes (PySem.W.kat_cons (wpAny_eqBool_int ?_))
      refine PySem.W.kat_go (fun e3 => ?_) (fun e3 => ?_)
      · have ez : x3 = y3 := by simpa using e3
        refine PySem.W.kat_yes (PySem.W.kat_nil ⟨rfl, ?_⟩)
        show false = sLt (x1, x2, x3) (y1, y2, y3)
        unfold sLt
        rw [if_pos ex, if_pos ey, ez]
        exact (decide_eq_false (Int.lt_irrefl _)).symm
      · refine PySem.W.kat_no (PySem.W.kat_one _ _ (lt_int ?_))
        refine (show s = s ∧ decide (x3 < y3) = sLt (x1, x2, x3) (y1, y2, y3) from ⟨rfl, ?_⟩)
        unfold sLt
        rw [if_pos ex, if_pos ey]
    · have ey : ¬ x2 = y2 := by simpa using e2
      refine PySem.W.kat_no (PySem.W.kat_one _ _ (lt_int ?_))
      refine (show s = s ∧ decide (x2 < y2) = sLt (x1, x2, x3) (y1, y2, y3) from ⟨rfl, ?_⟩)
      unfold sLt
      rw [if_pos ex, if_neg ey]
  · have ex : ¬ x1 = y1 := by simpa using e1
    refine PySem.W.kat_no (oneLt_str ?_)
    refine (show s = s ∧ decide (x1.cps.toList < y1.cps.toList) = sLt (x1, x2, x3) (y1, y2, y3) from ⟨rfl, ?_⟩)
    unfold sLt
    rw [if_neg ex]
theorem slot_firsts {h : Heap} : ∀ {vs : List Value}, (∀ v ∈ vs, ∃ z, IsSlotV h v z) → ∃ fs : List Value, PySem.W.KatTups h vs fs ∧ fs.length = vs.length ∧ ∀ f ∈ fs, ∃ x t, f = Value.str x t
  | [], _ => ⟨[], PySem.W.KatTups.nil, rfl, fun _ z => nomatch z⟩
  | v :: vs, hp => by
    obtain ⟨fs, k, hl, hi⟩ := slot_firsts (vs := vs) fun u m => hp u (List.mem_cons_of_mem _ m)
    obtain ⟨z, a, o, t, u, r, n, rfl, ho, hc, hd⟩ := hp v List.mem_cons_self
    refine ⟨.str z.1 t :: fs, PySem.W.KatTups.cons ho hc hd rfl k, congrArg (· + 1) hl, fun f m => ?_⟩
    rcases List.mem_cons.mp m with m | m
    · exact ⟨_, _, m⟩
    · exact hi f m
theorem slots_able {a : Addr} {vs : List Value} {k : Value → Slot} (h0 : 0 < vs.length) (hp : ∀ v ∈ vs, IsSlotV s.heap v (k v)) (ha : ∀ o, s.heap.get? a = some o → o.cls ≠ .type "tuple") : SrtO.SortableO prog w A s a vs fun v u => sLt (k v) (k u) := by
  intro h' keep
  have g : ∀ v ∈ vs, IsSlotV h' v (k v) := fun v m => (hp v m).stays fun b o e c => keep b o (fun z => ha o (z ▸ e) c) e
  obtain ⟨fs, k1, hl, hi⟩ := slot_firsts fun v m => ⟨_, g v m⟩
  refine ⟨tuples' true, fun Q E q => ?_, slot_cmp g⟩
  refine PySem.W.kat_kind (T := .type "str") k1 (by omega) (fun f m => ?_) (by rfl) ?_
  · obtain ⟨x, t, rfl⟩ := hi f m
    exact PySem.W.Looks.now
  · rw [show (Value.type "str" != Value.type "tuple") = true by decide +kernel]
    exact q
theorem sorted_slots {l : Addr} {vs : List Value} {k : Value → Slot} {Q : Value → Shared → Prop} (hl : s.heap.IsList l vs.toArray) (hz : vs.length ≤ sizeLine) (hp : ∀ v ∈ vs, IsSlotV s.heap v (k v))
    (h : ∀ (h' : Heap) (d : Addr) (out : List Value), SrtO.Srtd (fun v u => sLt (k v) (k u)) out → out.Perm vs → (∀ b o, s.heap.get? b = some o → h'.get? b = some o) → s.heap.objs.size ≤ d → (∃ n, h'.get? d = some (seqObj "list" out.toArray n)) → Q (.ref d) { s with heap := h' }) :
    wpAny (model prog w) A (call (.builtin "sorted") [.ref l]) Q E s := by
  refine SrtO.sorted_ord (sLt_swo k) hl hz (fun h2 g a ha kk => ?_) fun out hs hb => h _ _ out hs hb.perm (fun b o e => sortedAll_old e) (Nat.le_succ _) (sortedAll_at s.heap vs out.toArray)
  refine slots_able (s := { s with heap := g }) (by omega) (fun v m => (hp v m).stays fun b o e _ => (kk b o e).2) fun o e c => ?_
  rw [ha] at e
  cases e
  exact absurd (Value.type.inj c) (by decide)
end
/-- the slot whose tuple stands at a -/
def slotAt (H : Hp) (a : Addr) : Slot := match H a with
  | some (.tup [.str z, .int n, .int k]) => (z, n, k)
  | _ => (Str.empty, 0, 0)
theorem slotAt_eq {H : Hp} {a : Addr} {s : Slot} (h : H a = some (.tup (sVs s))) : slotAt H a = s := by
  unfold slotAt
  rw [h]
  rfl
/-- addresses and the slots whose tuples stand there -/
def SlotsAt (H : Hp) (as : List Addr) (ss : List Slot) : Prop := Paired (fun (a : Addr) (s : Slot) => H a = some (.tup (sVs s))) as ss
theorem SlotsAt.ext {M : List Addr} {H H' : Hp} {as : List Addr} {ss : List Slot} (h : SlotsAt H as ss) (e : Ext M H H') : SlotsAt H' as ss := Paired.mapP h fun _ _ q => e.tup q
theorem SlotsAt.map {H : Hp} : ∀ {as : List Addr} {ss : List Slot}, SlotsAt H as ss → ss = as.map (slotAt H)
  | _, _, .nil => rfl
  | _, _, .cons h t => by rw [List.map_cons, slotAt_eq h, ← SlotsAt.map t]
theorem SlotsAt.mem {H : Hp} : ∀ {as : List Addr} {ss : List Slot}, SlotsAt H as ss → ∀ a ∈ as, H a = some (.tup (sVs (slotAt H a)))
  | _, _, .nil, a, h => nomatch h
  | _, _, .cons h t, a, m => by
    rcases List.mem_cons.mp m with m | m
    · rw [m, slotAt_eq h]; exact h
    · exact SlotsAt.mem t a m
theorem SlotsAt.of {H : Hp} : ∀ {as : List Addr}, (∀ a ∈ as, H a = some (.tup (sVs (slotAt H a)))) → SlotsAt H as (as.map (slotAt H))
  | [], _ => .nil
  | a :: as, h => .cons (h a List.mem_cons_self) (SlotsAt.of fun b m => h b (List.mem_cons_of_mem _ m))
theorem refs_list : ∀ {us : List Value}, (∀ u ∈ us, ∃ a, u = Value.ref a) → ∃ bs : List Addr, us = bs.map Value.ref
  | [], _ => ⟨[], rfl⟩
  | u :: us, h => by
    obtain ⟨bs, e⟩ := refs_list fun v m => h v (List.mem_cons_of_mem _ m)
    obtain ⟨a, ea⟩ := h u List.mem_cons_self
    exact ⟨a :: bs, by rw [ea, e]; rfl⟩
theorem vals_refs : ∀ bs : List Addr, Vals (bs.map V.ref) (bs.map Value.ref)
  | [] => .nil
  | _ :: r => .cons rfl (vals_refs r)
theorem perm_of_map {as bs : List Addr} (h : (as.map Value.ref).Perm (bs.map Value.ref)) : as.Perm bs := by
  have e := h.map fun v => match v with | Value.ref a => a | _ => 0
  rw [List.map_map, List.map_map] at e
  have id1 : ∀ l : List Addr, l.map ((fun v => match v with | Value.ref a => a | _ => 0) ∘ Value.ref) = l := fun l => by
    induction l with
    | nil => rfl
    | cons a r ih => rw [List.map_cons, ih]; rfl
  rw [id1, id1] at e
  exact e
/-- sorted(a list of slots) -/
def cSortSl (K : PySem.W.Frag) : RC := fun vs H Q => ∃ (a : Addr) (as : List Addr) (ss : List Slot), vs = [V.ref a] ∧ SqL K H a (as.map V.ref) ∧ SlotsAt H as ss ∧
  ∀ (bs : List Addr) (ts : List Slot), SlotsAt H bs ts → ts.Perm ss → ts.Pairwise (fun x y => sLt y x = false) → Alc (.lst (bs.map V.ref)) H Q
section
variable {X : Cx}
theorem zc_sortSl : CallR X (.builtin "sorted") (cSortSl X.K) := by
  intro pins s σ H vs us Q I r h
  obtain ⟨a, as, ss, rfl, hs, hx, q⟩ := h
  obtain ⟨its, rv, hl, hz⟩ := I.list hs
  obtain ⟨u, rfl, ru⟩ := vals1 r
  obtain rfl : u = Value.ref a := ru
  obtain ⟨e1, e2⟩ := refs_back rv fun x m => by
    obtain ⟨t, _, e⟩ := List.mem_map.mp m
    exact ⟨t, e.symm⟩
  let k : Value → Slot := fun v => match v with | .ref b => slotAt H b | _ => (Str.empty, 0, 0)
  have hm : ∀ b : Addr, Value.ref b ∈ its → b ∈ as := fun b m => by
    have h1 : V.ref b ∈ as.map V.ref := by rw [e1]; exact List.mem_map.mpr ⟨_, m, rfl⟩
    obtain ⟨c, hc, e⟩ := List.mem_map.mp h1
    cases e
    exact hc
  refine sorted_slots (k := k) hl.isList (by rw [← rv.length]; exact hz) (fun v hv => ?_) fun h' d out h1 h2 kp hd hn => ?_
  · obtain ⟨t, rfl⟩ := e2 v hv
    have ht := SlotsAt.mem hx t (hm t hv)
    obtain ⟨_, its2, r2, o, ho, hc, n, hd⟩ := I.hok _ _ ht
    cases r2 with
    | cons ra r2 => cases r2 with
      | cons rb r2 => cases r2 with
        | cons rc r2 =>
          cases r2
          obtain ⟨t1, rfl⟩ := ra
          obtain ⟨t2, rfl⟩ := rb
          obtain ⟨t3, rfl⟩ := rc
          exact ⟨t, o, t1, t2, t3, n, rfl, ho, hc, hd⟩
  · have h3 : ∀ u ∈ out, ∃ a, u = Value.ref a := fun u hu => e2 u (h2.mem_iff.mp hu)
    obtain ⟨n, hn⟩ := hn
    obtain ⟨bs, hb⟩ := refs_list h3
    subst hb
    obtain ⟨cs, hcs⟩ := refs_list e2
    subst hcs
    have hac : as = cs := by
      rw [List.map_map] at e1
      refine List.map_inj_right (f := V.ref) (fun x y h => V.ref.inj h) |>.mp (e1.trans ?_)
      rfl
    subst hac
    have hp : bs.Perm as := perm_of_map h2
    have hbm : ∀ b ∈ bs, H b = some (.tup (sVs (slotAt H b))) := fun b m => SlotsAt.mem hx b (hp.mem_iff.mp m)
    have hq := q bs (bs.map (slotAt H)) (SlotsAt.of hbm) (by rw [SlotsAt.map hx]; exact hp.map _) (by
      rw [List.pairwise_map]
      have h1' := List.pairwise_map.mp h1
      exact h1')
    refine ⟨.ref d, upd H d (.lst (bs.map V.ref)), I.laid (t' := s.toks) kp hd ⟨?_, _, n, vals_refs bs, hn⟩, rfl, hq d (I.hok.fresh hd)⟩
    rw [List.length_map, hp.length_eq]
    rw [List.length_map] at hz
    exact hz
end

/-! ### d.clear() of a dict with tuple keys -/
def rClearT : V → List V → Hp → VK → Prop := fun x vs H Q => ∃ (a : Addr) (kvs : List (List Key × V)), x = .ref a ∧ vs = [] ∧ H a = some (.dT kvs) ∧ Chg a (.dT []) H (Q .non)
theorem zmt_clearT {X : Cx} : MtR X "dict.clear" rClearT := by
  intro pins s σ H x vs v us Q I rx rv h
  obtain ⟨a, kvs, rfl, rfl, e, q⟩ := h
  obtain rfl : v = Value.ref a := rx
  obtain rfl := rv.zero
  obtain ⟨z, hd, xs, rel, o, es, ep, ho, hx, hdat, he, hn⟩ := I.hok _ _ e
  have raw : s.heap.DictRaw a es ep := ⟨o, ho, hx, hdat⟩
  have hz : es.size ≤ sizeLine := by
    have h1 : es.toList.length = xs.length := by rw [he, List.length_map]
    have h2 := Paired.length rel
    rw [Array.length_toList] at h1
    omega
  refine call_meetsIn PySem.F.slot_dict_clear raw.typeIs PySem.F.entry_dict_clear (PySem.F.args_dict_clear_1 _) (meets_dict_clear_raw a) ⟨es, ep, raw, hz, fun h' r' hs => ?_⟩
  obtain ⟨o', ho', hx', hd'⟩ := r'
  refine ⟨.non, _, d_write (t' := s.toks) I (by rw [e]; exact True.intro) hs ⟨o', ho'⟩ ?_, rfl, q⟩
  exact ⟨Nat.zero_le _, hd, [], .nil, o', _, _, ho', hx', hd', rfl, List.nodup_nil⟩

/-! ### {slot: e for slot in ..}: a dict comprehension whose keys are tuples -/
section
variable {X : Cx} {pins : List (Addr × Obj)} {σ : St} {H : Hp} {s : Shared}
theorem dictSet_tup {E : Value → Shared → Prop} {D b : Addr} {kvs : List (List Key × V)} {k : List Key} {v : V} {r : Value} {Q : Unit → Shared → Prop} (hu : X.A.units + 1 < cLine) (I : L2.Inv X pins σ H s) (hD : H D = some (.dT kvs)) (hb : H b = some (.tup (k.map kV))) (hz : kvs.length < sizeLine)
    (rv : RelV v r) (h : ∀ s', L2.Inv X pins σ (upd H D (.dT (putK kvs k v))) s' → Q () s') : wpAny (model X.prog X.w) X.A (dictSet D (.ref b) r) Q E s := by
  obtain ⟨z, hd, xs, rel, dd⟩ := dt_of I.hok hD
  have hxl : xs.length ≤ sizeLine := by
    have := Paired.length rel
    omega
  have hl : (putK kvs k v).length ≤ sizeLine := by
    have := length_putK kvs k v
    omega
  refine wpAny_dictSet_heap (hsz := hxl) (show X.A.units < cLine from Nat.lt_of_succ_lt hu) (key_of I.hok hb) dd fun h' dd' hs => h _ ?_
  obtain ⟨q, es, ep, hq, a2, a3, a4, _, a5⟩ := dd'
  refine d_write I (by rw [hD]; exact True.intro) hs ⟨q, hq⟩ ⟨hl, hd, _, (rel.put k hb rv).keeps fun c ys ec => ?_, q, es, ep, hq, a2, a3, a4, a5⟩
  rw [upd_ne (ne_of ec hD (fun z => by cases z))]
  exact ec
/-- D: the new dict; W, Nx as in a list comprehension's reading -/
def zDcT (wi : TI) (g : TG) (tt : TT) (tk tv : TE) (vs : List Nat) : TE := fun σ H Q => wi σ H fun J H1 => ∀ D, H1 D = none → ∃ W : Nat → Nat → Hp → Prop, (∃ m, W 0 m (upd H1 D (.dT []))) ∧
  ∀ i m H, W i m H → (J.stop i H ∧ Q (.ref D) H) ∨ (J.go i H ∧ ∃ Nx : Hp → Prop, (∀ H', Nx H' → ∃ m', m' < m ∧ W (i + 1) m' H') ∧
    ∀ x H', J.yld i H x H' → g x (wipe σ vs) H' fun σ2 H2 => wipe σ2 vs = wipe σ vs ∧ tt σ2 H2 fun b H3 =>
      if b = true then tk σ2 H3 fun y H4 => tv σ2 H4 fun z H5 => ∃ kvs k q, y = .ref q ∧ H5 q = some (.tup (k.map kV)) ∧ H5 D = some (.dT kvs) ∧ kvs.length < sizeLine ∧ Nx (upd H5 D (.dT (putK kvs k z))) else Nx H3)
abbrev AllB (X : Cx) (scope : Scope) (G : Cx → Prop) : Prop := ∀ (s : Shared) (H : Hp) (C : Addr) (cl : List (Str × Addr)) (fp : List Addr), G (X.blk s H scope (compEnvC scope cl C X.env) fp)
theorem zdc_run {Q : VK} {kx vx tg iter : Expr} {ifs : List Expr} {scope : Scope} {own : List (Str × Nat)} {pos pos' : Pos} {wi : TI} {g : TG} {tt : TT} {tk tv : TE} {use : Option (Value → Sem Unit)} {Qf : Value → Shared → Prop}
    (hu : X.A.units + 1 < cLine) (hc : X.calm = true) (hN : X.N.Nodup) (I : L2.Inv X pins σ H s) (hi : PI X tg iter wi) (ok : BlkOk X.N X.env.scope scope own)
    (hg : AllB X scope fun Y => PG Y tg g) (ht : AllB X scope fun Y => PTs Y ifs tt) (hk : AllB X scope fun Y => PE Y kx tk) (he : AllB X scope fun Y => PE Y vx tv) (hs : ∀ x, foldedSetIterable iter X.env x = pure x)
    (h : zDcT wi g tt tk tv (own.map (·.2)) σ H Q)
    (fin : ∀ D C s' m H', L2.Inv X pins σ H' s' → Q (.ref D) H' → s'.heap.Ns C m → FpOk X pins H' C → compPost (model X.prog X.w) X.A X.xe use Qf (.ref D) C (.ok .next) s') :
    wpAny (model X.prog X.w) X.A (comprehension (.DictComp kx vx [⟨tg, iter, ifs, 0⟩] scope pos) scope X.env pos' newDict false (eval iter X.env) use) Qf X.xe s := by
  have cells : ∀ y ∈ scope.names, y.2 = .free → ∃ c, X.env.cells.lookup y.1 = some c := fun y m e => I.ok.has _ ((ok.free y m e).elim .inl .inr)
  refine wpAny_comprehension_free (use := use) rfl hs (closure_ok cells) ok.kind (fun y m e => (ok.uniq y m).trans (congrArg some e)) (thn (hi.run pins s σ H _ I h) fun xv s1 hx => thn hx fun itv s2 h2 => ?_)
  obtain ⟨it, fp, tn, J, H2, rfl, I2, T, st2, f2, q⟩ := h2
  refine wpAny_newObj_type (newEnv_comp ?_)
  generalize eD : s2.heap.objs.size = D
  obtain ⟨W, ⟨m0, w0⟩, turn⟩ := q D (I2.hok.fresh (Nat.le_of_eq eD))
  generalize e3 : ({ s2 with heap := s2.heap.push { cls := .type "dict", data := .dict #[] } } : Shared) = s3
  have hp3 : s3.heap = s2.heap.push { cls := .type "dict", data := .dict #[] } := by rw [← e3]
  have I3 : L2.Inv X pins σ (upd H2 D (.dT [])) s3 := by
    rw [← e3, ← eD]
    exact I2.laid (t' := s2.toks) (fun b o e => Heap.get?_push_of_some _ e) (Nat.le_refl _) (dt_empty s2.heap I2.big)
  have old : ∀ b ∈ fp, b < s2.heap.objs.size := fun b m => (T.obj _ _ st2 b m).elim fun o x => Heap.lt_size x.1
  have f3 : ∀ b ∈ fp, FpOk X pins (upd H2 D (.dT [])) b ∧ b < s3.heap.objs.size := fun b m => by
    have lt := old b m
    refine ⟨⟨?_, (f2 b m).2⟩, ?_⟩
    · rw [upd_ne (fun z => absurd lt (by rw [eD, z]; exact Nat.lt_irrefl D))]
      exact (f2 b m).1
    · rw [hp3, Heap.size_push]
      exact Nat.lt_succ_of_lt lt
  have st3 : tn 0 s3.heap := T.keep _ _ _ st2 fun b _ o e => by rw [hp3]; exact Heap.get?_push_of_some _ e
  have I4 := block_start I3 ok hN f3
  generalize ecl : cellsFrom (s3.heap.objs.size + 1) scope.names (cloFrom X.env.cells scope.names []) = cl at I4
  have pg := hg s3 (upd H2 D (.dT [])) s3.heap.objs.size cl fp
  have pt := ht s3 (upd H2 D (.dT [])) s3.heap.objs.size cl fp
  have pk := hk s3 (upd H2 D (.dT [])) s3.heap.objs.size cl fp
  have pe := he s3 (upd H2 D (.dT [])) s3.heap.objs.size cl fp
  have gone : ∀ b ∈ fp, (upd H2 D (.dT [])) b = none := fun b m => (f3 b m).1.1
  show codeAny _ _ (.compStart (.DictComp kx vx [⟨tg, iter, ifs, 0⟩] scope pos) 0 (.ref it) (.ref D) (compEnvC scope cl s3.heap.objs.size X.env)) (compPost (model X.prog X.w) X.A X.xe use Qf (.ref D) s3.heap.objs.size) { s3 with heap := pushCells (s3.heap.push { cls := .type "dict", data := .dict #[] }) scope.names }
  generalize ece : compEnvC scope cl s3.heap.objs.size X.env = ce at I4 pg pt pk pe ⊢
  have loc : ce.locals = s3.heap.objs.size := by rw [← ece]; rfl
  generalize eH : upd H2 D (.dT []) = H3 at I3 I4 pg pt pk pe w0 gone f3
  generalize e4 : ({ s3 with heap := pushCells (s3.heap.push { cls := .type "dict", data := .dict #[] }) scope.names } : Shared) = s4 at I4 ⊢
  have st4 : tn 0 s4.heap := T.keep _ _ _ st3 fun b _ o e => by rw [← e4]; exact pushCells_keeps _ _ _ _ (Heap.get?_push_of_some _ e)
  let Y : Cx := X.blk s3 H3 scope ce fp
  have mine : ∀ {σ' : L2.St} {H' : Hp} {s' : Shared}, L2.Inv Y [] σ' H' s' → (∀ b ∈ fp, H' b = none) → ∀ b ∈ fp, FpOk Y [] H' b := fun {_ H' _} J' n b m =>
    ⟨n b m, (J'.ok.exf b m).1, J'.ok.exfs b m, .inl m, (J'.ok.exf b m).2, fun p hp => nomatch (show p ∈ ([] : List (Addr × Obj)) from hp)⟩
  have run : codeAny (model X.prog X.w) X.A (.compLoop (.DictComp kx vx [⟨tg, iter, ifs, 0⟩] scope pos) 0 (.ref it) (.ref D) ce) (compPost (model X.prog X.w) X.A X.xe use Qf (.ref D) s3.heap.objs.size) s4 := by
    refine compLoop_anyD (fun n s' => ∃ i H', L2.Inv Y [] (wipe σ (own.map (·.2))) H' s' ∧ tn i s'.heap ∧ (∀ b ∈ fp, H' b = none) ∧ W i n H') (fun n s5 => ?_) m0 ⟨0, H3, I4, st4, gone, w0⟩
    rintro ⟨i, H5, I5, st5, n5, w5⟩
    rcases turn i n H5 w5 with ⟨stop, qq⟩ | ⟨go, Nx, hNx, step⟩
    · refine thnF (T.done Y rfl rfl rfl hc i [] s5 _ H5 (fun _ _ => False) I5 (mine I5 n5) st5 stop) fun r s6 ⟨hr, I6⟩ => ?_
      subst hr
      have back : L2.Inv X pins σ H5 s6 := I3.call' (ch := fp) I6.os I6.base I6.hok I6.bare fun b m =>
        let ⟨_, x1, _, x3, x4, x5⟩ := (f3 b m).1
        ⟨x3, x1, x4, x5⟩
      have nC : H5 s3.heap.objs.size = none := loc ▸ (show H5 ce.locals = none from I6.free)
      obtain ⟨m, ns, _⟩ := I6.loc
      exact fin D s3.heap.objs.size s6 m H5 back qq (loc ▸ (show s6.heap.Ns ce.locals m from ns)) (I3.fpOk (Nat.le_refl _) nC)
    · refine thnF (T.item Y rfl rfl rfl hc i [] s5 _ H5 (fun _ _ => False) I5 (mine I5 n5) st5 go) fun r s6 ⟨u, hr, h6⟩ => ?_
      subst hr
      refine thnF h6 fun _ s7 ⟨x, H7, I7, r7, y7, st7, n7⟩ => ?_
      refine thnF (pg.run _ s7 _ H7 x u _ (I7.pinned (mine I7 n7) (T.obj _ _ st7)) r7 (step x H7 y7)) fun _ s8 ⟨σ8, H8, I8, hw8, q8⟩ => ?_
      refine thnF (pt.run _ s8 σ8 H8 _ I8 q8) fun b s9 ⟨H9, I9, q9⟩ => ?_
      have over : ∀ {s' : Shared} {H' : Hp}, L2.Inv Y ([] ++ pinsAt fp s7.heap) σ8 H' s' → Nx H' → ∃ m, m < n ∧ ∃ i H', L2.Inv Y [] (wipe σ (own.map (·.2))) H' s' ∧ tn i s'.heap ∧ (∀ b ∈ fp, H' b = none) ∧ W i m H' := fun {s' H'} J' nx => by
        obtain ⟨m', lt, w'⟩ := hNx H' nx
        have pn : ∀ b ∈ fp, ∀ o, s7.heap.get? b = some o → s'.heap.get? b = some o ∧ H' b = none := fun b m o e =>
          let z := J'.pin (b, o) (List.mem_append_right _ (List.mem_append_right _ (mem_pinsAt m e)))
          ⟨z.1, z.2.1⟩
        refine ⟨m', lt, i + 1, H', (J'.unpinned (pins := [])).weak (by rw [← hw8, wipe_length]) (fun j v e => ?_), T.keep _ _ _ st7 fun b m o e => (pn b m o e).1, fun b m => ?_, w'⟩
        · rw [← hw8] at e
          exact (wipe_some e).1
        · obtain ⟨o, e, _⟩ := T.obj _ _ st7 b m
          exact (pn b m o e).2
      cases b with
      | false =>
        simp only [Bool.false_eq_true, if_false] at q9 ⊢
        exact over I9 q9
      | true =>
        simp only [if_true] at q9 ⊢
        refine thnF (pk.run _ s9 σ8 H9 _ I9 q9) fun z1 s10 ⟨yk, H10, I10, r10, q10⟩ => ?_
        refine thnF (pe.run _ s10 σ8 H10 _ I10 q10) fun z2 s11 ⟨yv, H11, I11, r11, kvs, k, b2, ek, hb2, hD, hz, nx⟩ => ?_
        subst ek
        obtain rfl : z1 = Value.ref b2 := r10
        exact dictSet_tup (X := Y) hu I11 hD hb2 hz r11 fun s12 I12 => over I12 nx
  exact codeAny_compStart_dict run (T.self X.A 0 _ _ _ st4 run)
theorem zpe_dcT {kx vx tg iter : Expr} {ifs : List Expr} {scope : Scope} {own : List (Str × Nat)} {pos : Pos} {wi : TI} {g : TG} {tt : TT} {tk tv : TE} (hu : X.A.units + 1 < cLine) (hc : X.calm = true) (hN : X.N.Nodup) (hi : PI X tg iter wi) (ok : BlkOk X.N X.env.scope scope own)
    (hg : AllB X scope fun Y => PG Y tg g) (ht : AllB X scope fun Y => PTs Y ifs tt) (hk : AllB X scope fun Y => PE Y kx tk) (he : AllB X scope fun Y => PE Y vx tv) (hs : ∀ x, foldedSetIterable iter X.env x = pure x := by intro _; rfl) :
    PE X (.DictComp kx vx [⟨tg, iter, ifs, 0⟩] scope pos) (zDcT wi g tt tk tv (own.map (·.2))) := by
  refine ⟨fun pins s σ H Q I h => ?_⟩
  rw [arm_eval_DictComp]
  refine zdc_run hu hc hN I hi ok hg ht hk he hs h fun D C s' m H' I' q ns f => ⟨m, ns, fun h2 sb => ?_⟩
  obtain ⟨y0, y1, _, y3, y4, y5⟩ := f
  exact ⟨.ref D, H', I'.turned (t' := s'.toks) (fun b o hb e => (sb.2 b hb).trans e) y0 y1 y3 y4 y5, rfl, q⟩
end
end Zk

set_option Elab.async false
set_option linter.all false
set_option maxRecDepth 100000
set_option maxHeartbeats 4000000
namespace Zk
open PySem PySem.Spec L2
open PyProof.Rows hiding St

/-! ### data that do not change: flat ones and tuples of such -/
mutual
inductive Im (H : Hp) : V → PyData → Prop
  | non : Im H .non .none
  | bl (b : Bool) : Im H (.bl b) (.bool b)
  | int (i : Int) : Im H (.int i) (.int i)
  | str (x : Str) : Im H (.str x) (.str x)
  | tup {a : Addr} {xs : List V} {ds : List PyData} : H a = some (.tup xs) → xs.length ≤ 1000 → ImAll H xs ds → Im H (.ref a) (.tuple ds)
inductive ImAll (H : Hp) : List V → List PyData → Prop
  | nil : ImAll H [] []
  | cons {v : V} {vs : List V} {d : PyData} {ds : List PyData} : Im H v d → ImAll H vs ds → ImAll H (v :: vs) (d :: ds)
end
mutual
theorem Im.go {H H' : Hp} (e : ∀ a xs, H a = some (.tup xs) → H' a = some (.tup xs)) : ∀ (d : PyData) (v : V), Im H v d → Im H' v d
  | .none, _, .non => .non
  | .bool _, _, .bl b => .bl b
  | .int _, _, .int i => .int i
  | .str _, _, .str x => .str x
  | .tuple ds, _, .tup h l k => .tup (e _ _ h) l (ImAll.go e ds _ k)
theorem ImAll.go {H H' : Hp} (e : ∀ a xs, H a = some (.tup xs) → H' a = some (.tup xs)) : ∀ (ds : List PyData) (vs : List V), ImAll H vs ds → ImAll H' vs ds
  | [], _, .nil => .nil
  | d :: ds, _, .cons h k => .cons (Im.go e d _ h) (ImAll.go e ds _ k)
end
theorem Im.ext {M : List Addr} {H H' : Hp} {v : V} {d : PyData} (h : Im H v d) (e : Ext M H H') : Im H' v d := Im.go (fun _ _ q => e.tup q) d v h
theorem ImAll.ext {M : List Addr} {H H' : Hp} {v : List V} {d : List PyData} (h : ImAll H v d) (e : Ext M H H') : ImAll H' v d := ImAll.go (fun _ _ q => e.tup q) d v h
theorem Im.lk {p : Addr} {u : HO} {od : Obj} {H H' : Hp} {v : V} {d : PyData} (h : Im H v d) (e : Lk p u od H H') : Im H' v d := Im.go (fun _ _ q => e.tup q) d v h
mutual
theorem Im.dp {K : PySem.W.Frag} {H : Hp} : ∀ (d : PyData) (v : V), Im H v d → Dp K H v d
  | .none, _, .non => .non
  | .bool _, _, .bl b => .bl b
  | .int _, _, .int i => .int i
  | .str _, _, .str x => .str x
  | .tuple ds, _, .tup h _ k => .tup (sqt h) (ImAll.dp ds _ k)
theorem ImAll.dp {K : PySem.W.Frag} {H : Hp} : ∀ (ds : List PyData) (vs : List V), ImAll H vs ds → DpAll K H vs ds
  | [], _, .nil => .nil
  | d :: ds, _, .cons h k => .cons (Im.dp d _ h) (ImAll.dp ds _ k)
end
theorem ImAll.len {H : Hp} : ∀ {vs : List V} {ds : List PyData}, ImAll H vs ds → vs.length = ds.length
  | _, _, .nil => rfl
  | _, _, .cons _ k => congrArg (· + 1) k.len
theorem ImAll.at {H : Hp} : ∀ {vs : List V} {ds : List PyData} {i : Nat} {d : PyData}, ImAll H vs ds → ds[i]? = some d → ∃ v, vs[i]? = some v ∧ Im H v d
  | _, _, 0, _, .cons h _, e => by cases e; exact ⟨_, rfl, h⟩
  | _, _, i + 1, _, .cons _ k, e => ImAll.at (i := i) k e
theorem ImAll.at' {H : Hp} : ∀ {vs : List V} {ds : List PyData} {i : Nat} {v : V}, ImAll H vs ds → vs[i]? = some v → ∃ d, ds[i]? = some d ∧ Im H v d
  | _, _, 0, _, .cons h _, e => by cases e; exact ⟨_, rfl, h⟩
  | _, _, i + 1, _, .cons _ k, e => ImAll.at' (i := i) k e
theorem ImAll.snoc {H : Hp} {v : V} {d : PyData} (h : Im H v d) : ∀ {vs : List V} {ds : List PyData}, ImAll H vs ds → ImAll H (vs ++ [v]) (ds ++ [d])
  | _, _, .nil => .cons h .nil
  | _, _, .cons g k => .cons g (ImAll.snoc h k)
theorem Im.tupE {H : Hp} {v : V} {ds : List PyData} (h : Im H v (.tuple ds)) : ∃ a xs, v = .ref a ∧ H a = some (.tup xs) ∧ ImAll H xs ds := by
  cases h with
  | tup h _ k => exact ⟨_, _, rfl, h, k⟩
/-- an equation of data -/
theorem w_eqD {K : PySem.W.Frag} {H : Hp} {Q : VK} {x y : V} {d e : PyData} (hx : Im H x d) (hy : Im H y e) (sd : SeqAt.shaped d = true) (se : SeqAt.shaped e = true) (q : Q (.bl (PyData.eqv d e)) H) : rEqD K x y H Q := ⟨d, e, hx.dp, hy.dp, sd, se, q⟩
theorem w_neD {K : PySem.W.Frag} {H : Hp} {Q : VK} {x y : V} {d e : PyData} (hx : Im H x d) (hy : Im H y e) (sd : SeqAt.shaped d = true) (se : SeqAt.shaped e = true) (q : Q (.bl (!PyData.eqv d e)) H) : rNeD K x y H Q := ⟨d, e, hx.dp, hy.dp, sd, se, q⟩

/-! ### dicts whose keys are slots, read as functions -/
def ORel (H : Hp) : Option V → Option PyData → Prop
  | none, none => True
  | some v, some d => Im H v d
  | _, _ => False
theorem ORel.ext {M : List Addr} {H H' : Hp} {x : Option V} {y : Option PyData} (h : ORel H x y) (e : Ext M H H') : ORel H' x y := by
  cases x <;> cases y
  · exact h
  · exact h
  · exact h
  · exact Im.ext h e
theorem ORel.lk {p : Addr} {u : HO} {od : Obj} {H H' : Hp} {x : Option V} {y : Option PyData} (h : ORel H x y) (e : Lk p u od H H') : ORel H' x y := by
  cases x <;> cases y
  · exact h
  · exact h
  · exact h
  · exact Im.lk h e
theorem ORel.some {H : Hp} {x : Option V} {d : PyData} (h : ORel H x (Option.some d)) : ∃ v, x = Option.some v ∧ Im H v d := by
  cases x with
  | none => exact h.elim
  | some v => exact ⟨v, rfl, h⟩
theorem ORel.none {H : Hp} {x : Option V} (h : ORel H x Option.none) : x = Option.none := by
  cases x with
  | none => rfl
  | some v => exact h.elim
theorem ORel.iss {H : Hp} {x : Option V} {y : Option PyData} (h : ORel H x y) : x.isSome = y.isSome := by
  cases x <;> cases y <;> first | rfl | exact h.elim
abbrev Fd := Slot → Option PyData
structure DMk (U : List Slot) (H : Hp) (kvs : List (List Key × V)) (ks : List Slot) (f : Fd) : Prop where
  keys : kvs.map (·.1) = ks.map sKey
  nd : ks.Nodup
  sub : ∀ s ∈ ks, s ∈ U
  val : ∀ s, ORel H (valV kvs (sKey s)) (f s)
theorem DMk.ext {U : List Slot} {M : List Addr} {H H' : Hp} {kvs : List (List Key × V)} {ks : List Slot} {f : Fd} (h : DMk U H kvs ks f) (e : Ext M H H') : DMk U H' kvs ks f := ⟨h.keys, h.nd, h.sub, fun s => (h.val s).ext e⟩
theorem DMk.lk {U : List Slot} {p : Addr} {u : HO} {od : Obj} {H H' : Hp} {kvs : List (List Key × V)} {ks : List Slot} {f : Fd} (h : DMk U H kvs ks f) (e : Lk p u od H H') : DMk U H' kvs ks f := ⟨h.keys, h.nd, h.sub, fun s => (h.val s).lk e⟩
theorem val_mem {kvs : List (List Key × V)} {k : List Key} : (valV kvs k).isSome = true ↔ k ∈ kvs.map (·.1) := by
  rw [← valV_any, List.any_eq_true]
  constructor
  · rintro ⟨p, hp, e⟩
    exact List.mem_map.mpr ⟨p, hp, of_decide_eq_true e⟩
  · intro h
    obtain ⟨p, hp, e⟩ := List.mem_map.mp h
    exact ⟨p, hp, decide_eq_true e⟩
theorem DMk.mem {U : List Slot} {H : Hp} {kvs : List (List Key × V)} {ks : List Slot} {f : Fd} (h : DMk U H kvs ks f) {s : Slot} : s ∈ ks ↔ (f s).isSome = true := by
  rw [← (h.val s).iss, val_mem, h.keys, List.mem_map]
  constructor
  · intro m; exact ⟨s, m, rfl⟩
  · rintro ⟨t, m, e⟩; rw [← sKey_inj e]; exact m
theorem DMk.len {U : List Slot} {H : Hp} {kvs : List (List Key × V)} {ks : List Slot} {f : Fd} (h : DMk U H kvs ks f) : kvs.length = ks.length := by
  have := congrArg List.length h.keys
  rwa [List.length_map, List.length_map] at this
theorem DMk.small {U : List Slot} {H : Hp} {kvs : List (List Key × V)} {ks : List Slot} {f : Fd} (h : DMk U H kvs ks f) (hU : U.length ≤ 1000) : kvs.length ≤ 1000 := by
  rw [h.len]; exact Nat.le_trans (nodup_len h.nd h.sub) hU
theorem DMk.at {U : List Slot} {H : Hp} {kvs : List (List Key × V)} {ks : List Slot} {f : Fd} (h : DMk U H kvs ks f) {i : Nat} {k : List Key} {v : V} (e : kvs[i]? = some (k, v)) : ∃ s d, ks[i]? = some s ∧ k = sKey s ∧ f s = some d ∧ valV kvs k = some v ∧ Im H v d := by
  have e1 : (kvs.map (·.1))[i]? = some k := by rw [List.getElem?_map, e]; rfl
  rw [h.keys, List.getElem?_map] at e1
  cases q : ks[i]? with
  | none => rw [q] at e1; cases e1
  | some s =>
    rw [q] at e1
    have e2 : sKey s = k := Option.some.inj e1
    have m : s ∈ ks := List.mem_of_getElem? q
    have m2 := h.mem.mp m
    obtain ⟨d, hd⟩ := Option.isSome_iff_exists.mp m2
    have o := h.val s
    rw [hd, e2] at o
    obtain ⟨v', hv, im⟩ := o.some
    have nk : (kvs.map (·.1)).Nodup := by
      rw [h.keys]
      exact List.pairwise_map.mpr (h.nd.imp fun hn e => hn (sKey_inj e))
    have hv2 : valV kvs k = some v := by
      clear hv im o hd m2 m e2 q e1 h
      induction kvs generalizing i with
      | nil => simp at e
      | cons p r ih =>
        cases i with
        | zero =>
          have : p = (k, v) := Option.some.inj e
          subst this
          exact valV_pos rfl
        | succ i =>
          have e' : r[i]? = some (k, v) := e
          have km : k ∈ r.map (·.1) := List.mem_map.mpr ⟨_, List.mem_of_getElem? e', rfl⟩
          rw [List.map_cons, List.nodup_cons] at nk
          rw [valV_neg (fun z => nk.1 (z ▸ km))]
          exact ih e' nk.2
    rw [hv] at hv2
    cases hv2
    exact ⟨s, d, rfl, e2.symm, hd, hv, im⟩
/-- a dict of slots in use; one that may be locked -/
def DM (U : List Slot) (H : Hp) (p : Addr) (f : Fd) : Prop := ∃ kvs ks, H p = some (.dT kvs) ∧ DMk U H kvs ks f
def DR (U : List Slot) (H : Hp) (p : Addr) (f : Fd) : Prop := ∃ kvs ks, Rd H p (.dT kvs) ∧ DMk U H kvs ks f
theorem DM.dr {U : List Slot} {H : Hp} {p : Addr} {f : Fd} : DM U H p f → DR U H p f := fun ⟨kvs, ks, h, k⟩ => ⟨kvs, ks, .inl h, k⟩
theorem DM.ext {U : List Slot} {M : List Addr} {H H' : Hp} {p : Addr} {f : Fd} (h : DM U H p f) (e : Ext M H H') (n : p ∉ M) : DM U H' p f := by
  obtain ⟨kvs, ks, h, k⟩ := h
  exact ⟨kvs, ks, e.keep _ _ h n, k.ext e⟩
theorem DR.ext {U : List Slot} {M : List Addr} {H H' : Hp} {p : Addr} {f : Fd} (h : DR U H p f) (e : Ext M H H') (n : p ∉ M) : DR U H' p f := by
  obtain ⟨kvs, ks, h, k⟩ := h
  rcases h with h | ⟨o, h⟩
  · exact ⟨kvs, ks, .inl (e.keep _ _ h n), k.ext e⟩
  · exact ⟨kvs, ks, .inr ⟨o, e.imm _ _ h trivial⟩, k.ext e⟩
theorem DR.lk {U : List Slot} {H H' : Hp} {p q : Addr} {u : HO} {od : Obj} {f : Fd} (h : DR U H p f) (e : Lk q u od H H') : DR U H' p f := by
  obtain ⟨kvs, ks, h, k⟩ := h
  rcases h with h | ⟨o, h⟩
  · by_cases z : p = q
    · subst z
      have := e.was
      rw [h] at this
      cases this
      exact ⟨kvs, ks, .inr ⟨od, e.at⟩, k.lk e⟩
    · exact ⟨kvs, ks, .inl (e.keep h z), k.lk e⟩
  · exact ⟨kvs, ks, .inr ⟨o, e.frz h⟩, k.lk e⟩
theorem DM.lk {U : List Slot} {H H' : Hp} {p q : Addr} {u : HO} {od : Obj} {f : Fd} (h : DM U H p f) (e : Lk q u od H H') (n : p ≠ q) : DM U H' p f := by
  obtain ⟨kvs, ks, h, k⟩ := h
  exact ⟨kvs, ks, e.keep h n, k.lk e⟩
theorem DM.ne {U : List Slot} {H : Hp} {p q : Addr} {f : Fd} (h : DM U H p f) (n : H q = none) : p ≠ q := by
  obtain ⟨kvs, ks, h, k⟩ := h
  exact ne_of_none h n
theorem DR.ne {U : List Slot} {H : Hp} {p q : Addr} {f : Fd} (h : DR U H p f) (n : H q = none) : p ≠ q := by
  obtain ⟨kvs, ks, h, k⟩ := h
  rcases h with h | ⟨o, h⟩ <;> exact ne_of_none h n
theorem DM.nil {U : List Slot} {H : Hp} {p : Addr} (h : H p = some (.dT [])) : DM U H p fun _ => none := ⟨[], [], h, ⟨rfl, List.nodup_nil, fun _ m => (nomatch m), fun _ => trivial⟩⟩
theorem DM.congr {U : List Slot} {H : Hp} {p : Addr} {f g : Fd} (h : DM U H p f) (e : ∀ s, f s = g s) : DM U H p g := by rw [← funext e]; exact h
theorem DM.fsub {U : List Slot} {H : Hp} {p : Addr} {f : Fd} (h : DM U H p f) {s : Slot} (e : (f s).isSome = true) : s ∈ U := by
  obtain ⟨kvs, ks, h, k⟩ := h
  exact k.sub _ (k.mem.mpr e)
theorem DR.fsub {U : List Slot} {H : Hp} {p : Addr} {f : Fd} (h : DR U H p f) {s : Slot} (e : (f s).isSome = true) : s ∈ U := by
  obtain ⟨kvs, ks, h, k⟩ := h
  exact k.sub _ (k.mem.mpr e)
def putF (f : Fd) (s : Slot) (d : PyData) : Fd := fun t => if t = s then some d else f t
theorem DMk.put {U : List Slot} {H : Hp} {kvs : List (List Key × V)} {ks : List Slot} {f : Fd} (h : DMk U H kvs ks f) {s : Slot} (m : s ∈ U) {v : V} {d : PyData} (i : Im H v d) : ∃ ks', DMk U H (putK kvs (sKey s) v) ks' (putF f s d) := by
  have hv : ∀ t, ORel H (valV (putK kvs (sKey s) v) (sKey t)) (putF f s d t) := fun t => by
    rw [valV_put]
    unfold putF
    by_cases e : t = s
    · subst e; rw [if_pos rfl, if_pos rfl]; exact i
    · rw [if_neg e, if_neg (fun z => e (sKey_inj z))]; exact h.val t
  by_cases hs : s ∈ ks
  · refine ⟨ks, ?_, h.nd, h.sub, hv⟩
    have : (kvs.any fun kv => decide (kv.1 = sKey s)) = true := by
      rw [valV_any, val_mem, h.keys]; exact List.mem_map.mpr ⟨s, hs, rfl⟩
    unfold putK
    rw [this, if_pos rfl, List.map_map, ← h.keys]
    refine List.map_congr_left fun p _ => ?_
    show (if p.1 = sKey s then (p.1, v) else p).1 = p.1
    by_cases z : p.1 = sKey s
    · rw [if_pos z]
    · rw [if_neg z]
  · have no : valV kvs (sKey s) = none := by
      have := fun z => hs (h.mem.mpr z)
      rw [← (h.val s).iss] at this
      exact Option.not_isSome_iff_eq_none.mp this
    refine ⟨ks ++ [s], ?_, ?_, fun t mt => ?_, hv⟩
    · rw [putK_new v no, List.map_append, List.map_append, h.keys]; rfl
    · rw [List.nodup_append]
      refine ⟨h.nd, List.nodup_cons.mpr ⟨fun z => (nomatch z), List.nodup_nil⟩, fun a ha b hb e => ?_⟩
      subst e
      rw [List.mem_singleton.mp hb] at ha
      exact hs ha
    · rcases List.mem_append.mp mt with z | z
      · exact h.sub t z
      · rw [List.mem_singleton.mp z]; exact m
/-! readings of such dicts -/
section
variable {U : List Slot} {K : PySem.W.Frag} {σ : St} {H : Hp} {Q : VK} {a b p q : Addr} {f g : Fd} {s : Slot} {v : V}
theorem dgetT {kvs : List (List Key × V)} (h : Rd H a (.dT kvs)) (eb : H b = some (.tup (sVs s))) : DGet H a (.ref b) (valV kvs (sKey s)) := .inr ⟨kvs, sKey s, b, h, rfl, eb, rfl⟩
theorem w_dgetT {d : PyData} {P : V → Prop} (h : DR U H a f) (eb : H b = some (.tup (sVs s))) (e : f s = some d) (k : ∀ v, Im H v d → P v) : ∃ c v, V.ref a = .ref c ∧ DGet H c (.ref b) (some v) ∧ P v := by
  obtain ⟨kvs, ks, h, m⟩ := h
  have o := m.val s
  rw [e] at o
  obtain ⟨v, hv, i⟩ := o.some
  exact ⟨a, v, rfl, hv ▸ dgetT h eb, k v i⟩
theorem w_dinT {P : Option V → Prop} (h : DR U H a f) (eb : H b = some (.tup (sVs s))) (k : ∀ o, o.isSome = (f s).isSome → P o) : ∃ c o, V.ref a = .ref c ∧ DGet H c (.ref b) o ∧ P o := by
  obtain ⟨kvs, ks, h, m⟩ := h
  exact ⟨a, _, rfl, dgetT h eb, k _ (m.val s).iss⟩
theorem w_get1 {te : TE} {ty : TE} (h : te σ H fun x H1 => ∃ a, x = .ref a ∧ IsD H1 a ∧ ty σ H1 fun y H2 => ∃ o, DGet H2 a y o ∧ Q (o.getD .non) H2) : tDGet1 te ty σ H Q := h
theorem w_isD {P : Addr → Prop} (h : DR U H a f) (k : P a) : ∃ c, V.ref a = .ref c ∧ IsD H c ∧ P c := by
  obtain ⟨kvs, ks, h, m⟩ := h
  exact ⟨a, rfl, .inr ⟨kvs, h⟩, k⟩
theorem w_get1T {P : Option V → Prop} (h : DR U H a f) (eb : H b = some (.tup (sVs s))) (k : ∀ o, Im H (o.getD .non) ((f s).getD .none) → P o) : ∃ o, DGet H a (.ref b) o ∧ P o := by
  obtain ⟨kvs, ks, h, m⟩ := h
  refine ⟨_, dgetT h eb, k _ ?_⟩
  have o := m.val s
  revert o
  cases valV kvs (sKey s) <;> cases f s <;> intro o
  · exact .non
  · exact o.elim
  · exact o.elim
  · exact o
theorem w_dputT {N : Hp → Prop} {d : PyData} (hU : U.length ≤ 1000) (h : DM U H a f) (eb : H b = some (.tup (sVs s))) (m : s ∈ U) (i : Im H v d) (k : ∀ H', Ext [a] H H' → DM U H' a (putF f s d) → N H') :
    ∃ c H4, V.ref a = .ref c ∧ DPut H c (.ref b) v H4 ∧ N H4 := by
  obtain ⟨kvs, ks, h, w⟩ := h
  have eb' : H b = some (.tup ((sKey s).map kV)) := eb
  have e : Ext [a] H (upd H a (.dT (putK kvs (sKey s) v))) := Ext.mut h (fun z => z) (List.mem_singleton.mpr rfl)
  refine ⟨a, _, rfl, DPut.t (k := sKey s) h eb' (szl (Nat.lt_of_le_of_lt (w.small hU) (by decide))), k _ e ?_⟩
  obtain ⟨ks', w'⟩ := w.put m i
  exact ⟨_, ks', upd_same, w'.ext e⟩
/-- len of a list, a tuple, a dict with tuple keys -/
def cLenX (K : PySem.W.Frag) : RC := fun xs H Q => cLen K xs H Q ∨ ∃ p kvs, xs = [V.ref p] ∧ H p = some (.dT kvs) ∧ Q (.int kvs.length) H
theorem zc_lenX {X : Cx} : CallR X (.builtin "len") (cLenX X.K) := by
  intro pins s σ H vs us Q I r h
  rcases h with h | ⟨p, kvs, e, hp, q⟩
  · exact zc_len pins s σ H vs us Q I r h
  · exact call_len_dT pins s σ H vs us Q I r ⟨p, kvs, e, hp, q⟩
/-- list(d), d a dict of slots -/
def cListT : RC := fun xs H Q => ∃ d kvs, xs = [V.ref d] ∧ Rd H d (.dT kvs) ∧ ∀ bs, IsKeys H kvs bs → Alc (.lst (bs.map V.ref)) H Q
theorem zc_listT {X : Cx} (hc : X.calm = true) : CallR X (.type "list") cListT := by
  intro pins s σ H vs us Q I r h
  obtain ⟨d, kvs, e, hd, q⟩ := h
  exact call_list_dT hc pins s σ H vs us Q I r ⟨d, kvs, e, hd, fun p bs np ib => q bs ib p np⟩
theorem DMk.slots {kvs : List (List Key × V)} {ks : List Slot} {bs : List Addr} (m : DMk U H kvs ks f) (i : IsKeys H kvs bs) : SlotsAt H bs ks := by
  have e := m.keys
  clear m
  unfold IsKeys at i
  unfold SlotsAt
  induction i generalizing ks with
  | nil => cases ks with
    | nil => exact .nil
    | cons s r => cases e
  | cons h t ih => cases ks with
    | nil => cases e
    | cons s r =>
      injection e with e1 e2
      refine .cons ?_ (ih e2)
      show _ = some (HO.tup (sVs s))
      rw [h]
      have e1' : _ = sKey s := e1
      rw [← sKey_vs, ← e1']
theorem w_listT {P : V → Hp → Prop} (h : DR U H a f) (k : ∀ p bs ks H', Ext [] H H' → H p = none → H' p = some (.lst (bs.map V.ref)) → SlotsAt H' bs ks → ks.Nodup → (∀ s, s ∈ ks ↔ (f s).isSome = true) → ks.length ≤ U.length → P (.ref p) H') : cListT [.ref a] H P := by
  obtain ⟨kvs, ks, h, m⟩ := h
  refine ⟨a, kvs, rfl, h, fun bs ib => w_alc fun p H' e n hp => ?_⟩
  exact k p bs ks H' e n hp ((m.slots ib).ext e) m.nd (fun s => m.mem) (nodup_len m.nd m.sub)
/-- sorted(d), d a dict of slots; the dict is not changed by it -/
def cSortT (K : PySem.W.Frag) : RC := fun vs H Q => cSortSl K vs H Q ∨ ∃ (d : Addr) (kvs : List (List Key × V)) (ks : List Slot), vs = [V.ref d] ∧ Rd H d (.dT kvs) ∧ kvs.map (·.1) = ks.map sKey ∧
  ∀ (bs : List Addr) (ts : List Slot), SlotsAt H bs ts → ts.Perm ks → ts.Pairwise (fun x y => sLt y x = false) → Alc (.lst (bs.map V.ref)) H Q
theorem SlotsAt.vals {X : Cx} {pins : List (Addr × Obj)} {s : Shared} (I : L2.Inv X pins σ H s) {as : List Addr} {ss : List Slot} (hx : SlotsAt H as ss) {h' : Heap} (kp : ∀ b o, s.heap.get? b = some o → h'.get? b = some o) :
    ∀ v ∈ as.map Value.ref, IsSlotV h' v (match v with | .ref b => slotAt H b | _ => (Str.empty, 0, 0)) := by
  intro v hv
  obtain ⟨t, ht, rfl⟩ := List.mem_map.mp hv
  obtain ⟨_, its2, r2, o, ho, hc, n, hd⟩ := I.hok _ _ (SlotsAt.mem hx t ht)
  cases r2 with
  | cons ra r2 => cases r2 with
    | cons rb r2 => cases r2 with
      | cons rc r2 =>
        cases r2
        obtain ⟨t1, rfl⟩ := ra
        obtain ⟨t2, rfl⟩ := rb
        obtain ⟨t3, rfl⟩ := rc
        exact ⟨t, o, t1, t2, t3, n, rfl, kp _ _ ho, hc, hd⟩
theorem zc_sortT {X : Cx} (hc : X.calm = true) : CallR X (.builtin "sorted") (cSortT X.K) := by
  intro pins s σ H vs us Q I r h
  rcases h with h | ⟨d, kvs, ks, rfl, hd, hk, q⟩
  · exact zc_sortSl pins s σ H vs us Q I r h
  obtain ⟨u, rfl, rx⟩ := r.one
  cases rx
  obtain ⟨z, hs, ys, pr, o, es, ep, ho, hx, hdt, he, hn⟩ := (show ObjOk X.prog X.w H s.heap d (.dT kvs) from hd.ok I.hok)
  have l1 : es.size = ys.length := size_of_entries he
  have l2 : kvs.length = ys.length := Paired.length pr
  refine Calls.call_function_entry PyProof.Rows.kind_sorted PyProof.Rows.plain_sorted PyProof.Rows.entry_sorted (PyProof.Rows.args_sorted1 _) ?_
  unfold Builtin.«sorted»
  refine wpAny_bind (m := checkCount "sorted" 1 1 _) (wpAny_pure ?_)
  refine wpAny_bind (PySem.W.kdu_collect (A := X.A.in1) (kdl_raw hs hx hdt) (I.ok.hd hc) ho (by omega) fun h' tk acc' kp it => ?_)
  have ea : acc'.toList = ys.map fun x => Value.ref x.2.1 := by
    have hl : acc'.toList.length = ys.length := by rw [Array.length_toList, it.1]; exact l1
    apply List.ext_getElem?
    intro j
    rw [List.getElem?_map]
    cases hj : acc'.toList[j]? with
    | none =>
      have h1 := List.getElem?_eq_none_iff.mp hj
      rw [List.getElem?_eq_none (by omega)]
      all_goals rfl
    | some v =>
      obtain ⟨en, hen, hv⟩ := it.2 j v (by rw [← Array.getElem?_toList]; exact hj)
      have qe := entry_at he j
      rw [hen] at qe
      cases hb : ys[j]? with
      | none =>
        rw [hb] at qe
        exact nomatch (show some en = none from qe)
      | some b =>
        rw [hb] at qe
        have e2 : en = entryOfKey (tupleKind (mixKind X.prog X.w)) b := Option.some.inj qe
        rw [hv, e2]
        all_goals rfl
  have eb : acc'.toList = (ys.map fun x => x.2.1).map Value.ref := by rw [ea, List.map_map]; all_goals rfl
  have ik := isKeys_of pr
  generalize (ys.map fun x => x.2.1) = as at eb ik
  have hx2 : SlotsAt H as ks := by
    have e := hk
    clear q hd hx pr l2 ho he hn z hk
    unfold IsKeys at ik
    unfold SlotsAt
    clear eb ea
    induction ik generalizing ks with
    | nil => cases ks with
      | nil => exact .nil
      | cons s r => cases e
    | cons h t ih => cases ks with
      | nil => cases e
      | cons s r =>
        injection e with e1 e2
        refine .cons ?_ (ih (ks := r) e2)
        show _ = some (HO.tup (sVs s))
        rw [h]
        have e1' : _ = sKey s := e1
        rw [← sKey_vs, ← e1']
  have lz : (as.map Value.ref).length ≤ sizeLine := by
    rw [← eb, Array.length_toList, it.1, l1]; omega
  have I1 : L2.Inv X pins σ H { s with heap := h', toks := tk } := I.kept kp
  rw [eb]
  refine wpAny_bind (wpAny_newList ?_ lz)
  have hoL : (h'.push (seqObj "list" (as.map Value.ref).toArray 0)).get? h'.objs.size = some (seqObj "list" (as.map Value.ref).toArray 0) := Heap.get?_push_size _ rfl
  show wpAny _ _ _ _ _ { s with heap := h'.push (seqObj "list" (as.map Value.ref).toArray 0), toks := tk }
  let k : Value → Slot := fun v => match v with | .ref b => slotAt H b | _ => (Str.empty, 0, 0)
  refine wpAny_bind (wpAny_holding (wpAny_call_entry PyProof.Rows.slot_list_sort ⟨_, hoL, rfl⟩ PyProof.Rows.entry_list_sort
    (SrtO.list_sort_ord (s := { s with heap := h'.push (seqObj "list" (as.map Value.ref).toArray 0), toks := tk }) (sLt_swo k) hoL lz (fun h2 => slots_able (by omega) (SlotsAt.vals I hx2 fun b o e => Heap.get?_push_of_some _ (kp b o e)) fun o e c => ?_) fun out h1 hb => ⟨_, rfl, ?_⟩) (PyProof.Rows.args_list_sort _)))
  · rw [hoL] at e
    cases e
    exact absurd (Value.type.inj c) (by decide)
  have h2 := hb.perm
  obtain ⟨e', he'⟩ := PyProof.Rows.sortedHeap_at (vs := as.map Value.ref) (out := out.toArray) hoL
  obtain ⟨bs, hbs⟩ := refs_list (us := out) fun u hu => by
    obtain ⟨t, _, e⟩ := List.mem_map.mp (h2.mem_iff.mp hu)
    exact ⟨t, e.symm⟩
  subst hbs
  have hp : bs.Perm as := perm_of_map h2
  have hbm : ∀ b ∈ bs, H b = some (.tup (sVs (slotAt H b))) := fun b m => SlotsAt.mem hx2 b (hp.mem_iff.mp m)
  have hq := q bs (bs.map (slotAt H)) (SlotsAt.of hbm) (by rw [SlotsAt.map hx2]; exact hp.map _) (by
    rw [List.pairwise_map]
    exact List.pairwise_map.mp h1)
  refine wpAny_pure ⟨_, rfl, .ref h'.objs.size, upd H h'.objs.size (.lst (bs.map V.ref)), I1.laid (t' := tk) (fun b u e => ?_) (Nat.le_refl _)
    (show ObjOk X.prog X.w _ _ _ (.lst (bs.map V.ref)) from ⟨?_, bs.map Value.ref, e', vals_refs bs, he'⟩), rfl, hq _ (I1.hok.fresh (Nat.le_refl _))⟩
  · have hb : b < h'.objs.size := Heap.lt_size e
    rw [PyProof.Rows.sortedHeap_old (Nat.ne_of_lt hb) (by rw [size_push']; exact Nat.lt_succ_of_lt hb)]
    exact Heap.get?_push_of_some _ e
  · rw [List.length_map, hp.length_eq]
    rw [List.length_map] at lz
    exact lz
end
end Zk

set_option Elab.async false
set_option linter.all false
set_option maxRecDepth 100000
set_option maxHeartbeats 4000000
namespace Zk
open PySem PySem.Spec L2
open PyProof.Rows hiding St

theorem depthAll_mem {d : PyData} : ∀ {ds : List PyData}, d ∈ ds → d.depth ≤ PyData.depthAll ds
  | x :: xs, h => by
    rw [PyData.depthAll]
    rcases List.mem_cons.mp h with h | h
    · rw [h]; exact Nat.le_max_left _ _
    · exact Nat.le_trans (depthAll_mem h) (Nat.le_max_right _ _)
theorem depth_tup (ds : List PyData) : (PyData.tuple ds).depth = PyData.depthAll ds + 1 := by rw [PyData.depth]
/-- two that are told to be the same: data of the same form, lists of such, dicts of slots that are the same functions -/
def Sm (U : List Slot) : Nat → Hp → V → V → Prop
  | 0, _, _, _ => False
  | n + 1, H, a, b => (∃ d, d.depth ≤ n ∧ Im H a d ∧ Im H b d) ∨ (∃ p q xs ys, a = .ref p ∧ b = .ref q ∧ H p = some (.lst xs) ∧ H q = some (.lst ys) ∧ xs.length ≤ 1000 ∧ Paired (Sm U n H) xs ys) ∨
    (3 ≤ n ∧ U.length ≤ 1000 ∧ ∃ p q f, a = .ref p ∧ b = .ref q ∧ DM U H p f ∧ DM U H q f ∧ ∀ s d, f s = some d → d.depth < n)
theorem Sm.im {U : List Slot} {n : Nat} {H : Hp} {a b : V} {d : PyData} (l : d.depth < n) (h : Im H a d) (k : Im H b d) : Sm U n H a b := by
  cases n with
  | zero => omega
  | succ n => exact .inl ⟨d, by omega, h, k⟩
theorem Sm.ext {U : List Slot} {H H' : Hp} (e : Ext [] H H') : ∀ {n : Nat} {a b : V}, Sm U n H a b → Sm U n H' a b
  | 0, _, _, h => h
  | n + 1, a, b, h => by
    rcases h with ⟨d, l, i, j⟩ | ⟨p, q, xs, ys, rfl, rfl, hp, hq, lz, w⟩ | ⟨l, hU, p, q, f, rfl, rfl, hp, hq, w⟩
    · exact .inl ⟨d, l, i.ext e, j.ext e⟩
    · exact .inr (.inl ⟨p, q, xs, ys, rfl, rfl, e.keep _ _ hp List.not_mem_nil, e.keep _ _ hq List.not_mem_nil, lz, Paired.mapP w fun _ _ z => Sm.ext e z⟩)
    · exact .inr (.inr ⟨l, hU, p, q, f, rfl, rfl, hp.ext e List.not_mem_nil, hq.ext e List.not_mem_nil, w⟩)
theorem sle_anti {x y : Slot} (h : sLt y x = false) (k : sLt x y = false) : x = y := by
  rcases SLt.tri x y with z | z | z
  · exact absurd z (sLt_no.mp k)
  · exact z
  · exact absurd z (sLt_no.mp h)
theorem sorted_uniq : ∀ {xs ys : List Slot}, xs.Perm ys → xs.Pairwise (fun x y => sLt y x = false) → ys.Pairwise (fun x y => sLt y x = false) → xs = ys
  | [], ys, p, _, _ => (List.nil_perm.mp p).symm
  | x :: xs, [], p, _, _ => absurd (List.perm_nil.mp p) (fun z => nomatch z)
  | x :: xs, y :: ys, p, h, k => by
    obtain ⟨h1, h2⟩ := List.pairwise_cons.mp h
    obtain ⟨k1, k2⟩ := List.pairwise_cons.mp k
    have e : x = y := by
      have m1 : x ∈ y :: ys := p.mem_iff.mp List.mem_cons_self
      have m2 : y ∈ x :: xs := p.mem_iff.mpr List.mem_cons_self
      rcases List.mem_cons.mp m1 with m1 | m1
      · exact m1
      · rcases List.mem_cons.mp m2 with m2 | m2
        · exact m2.symm
        · exact sle_anti (h1 y m2) (k1 x m1)
    subst e
    rw [sorted_uniq ((List.perm_cons x).mp p) h2 k2]
theorem DMk.perm {U : List Slot} {H H' : Hp} {kvs kvs' : List (List Key × V)} {ks ks' : List Slot} {f : Fd} (h : DMk U H kvs ks f) (h' : DMk U H' kvs' ks' f) : ks.Perm ks' :=
  (List.perm_ext_iff_of_nodup h.nd h'.nd).mpr fun s => by rw [h.mem, h'.mem]
/-- the items of a slot's tuple -/
def sD (s : Slot) : PyData := .tuple [.str s.1, .int s.2.1, .int s.2.2]
theorem sD_depth (s : Slot) : (sD s).depth = 1 := by simp [sD, PyData.depth, PyData.depthAll]
theorem im_slot {H : Hp} {b : Addr} {s : Slot} (h : H b = some (.tup (sVs s))) : Im H (.ref b) (sD s) := .tup h (show 3 ≤ 1000 by decide) (.cons (.str _) (.cons (.int _) (.cons (.int _) .nil)))
theorem sm_slots {U : List Slot} {n : Nat} {H : Hp} (hn : 2 ≤ n) : ∀ {as bs : List Addr} {ss : List Slot}, SlotsAt H as ss → SlotsAt H bs ss → Paired (Sm U n H) (as.map V.ref) (bs.map V.ref)
  | _, _, _, .nil, .nil => .nil
  | _, _, _, .cons h t, .cons k u => .cons (Sm.im (d := sD _) (by rw [sD_depth]; omega) (im_slot h) (im_slot k)) (sm_slots hn t u)

theorem SlotsAt.app {H : Hp} {as bs : List Addr} {ss ts : List Slot} (h : SlotsAt H as ss) (k : SlotsAt H bs ts) : SlotsAt H (as ++ bs) (ss ++ ts) := by
  unfold SlotsAt at *
  induction h with
  | nil => exact k
  | cons h t ih => exact .cons h ih
theorem SlotsAt.snoc {H : Hp} {as : List Addr} {b : Addr} {ss : List Slot} {s : Slot} (h : SlotsAt H as ss) (k : H b = some (.tup (sVs s))) : SlotsAt H (as ++ [b]) (ss ++ [s]) := h.app (.cons k .nil)
theorem SlotsAt.len {H : Hp} {as : List Addr} {ss : List Slot} (h : SlotsAt H as ss) : as.length = ss.length := paired_len h
theorem SlotsAt.get {H : Hp} {as : List Addr} {ss : List Slot} (h : SlotsAt H as ss) {i : Nat} {v : V} (e : (as.map V.ref)[i]? = some v) : ∃ a s, v = .ref a ∧ as[i]? = some a ∧ ss[i]? = some s ∧ H a = some (.tup (sVs s)) := by
  rw [List.getElem?_map] at e
  cases q : as[i]? with
  | none => rw [q] at e; cases e
  | some a =>
    rw [q] at e
    obtain ⟨s, hs, hh⟩ := paired_at h q
    exact ⟨a, s, (Option.some.inj e).symm, rfl, hs, hh⟩
/-! ### walks over the keys of a dict of slots -/
section
variable {K : PySem.W.Frag} {σ : St} {H : Hp} {Q : VK} {a b : Addr} {rt : VK} {nx : St → Hp → Prop} {t : TS} {tt : TT} {te : TE} {U : List Slot} {f : Fd}
theorem w_keysT {kvs : List (List Key × V)} {o : Obj} {R : It → Hp → Prop} {i : Nat} (e : σ[i]? = some (some (.ref a))) (h : H a = some (.frz o (.dT kvs))) (q : R (Itkt a o kvs) H) : iKeys (tVar i) σ H R := ⟨.ref a, e, a, o, rfl, .inr ⟨kvs, h, q⟩⟩
theorem w_keysKT {kvs : List (List Key × V)} {o : Obj} {R : It → Hp → Prop} (h : H a = some (.frz o (.dT kvs))) (q : R (Itkt a o kvs) H) : ∃ d o, V.ref a = .ref d ∧ ((∃ kvs, H d = some (.frz o (.dK kvs)) ∧ R (Itk d o kvs) H) ∨ ∃ kvs, H d = some (.frz o (.dT kvs)) ∧ R (Itkt d o kvs) H) := ⟨a, o, rfl, .inr ⟨kvs, h, q⟩⟩
theorem z_for_keysT {kvs : List (List Key × V)} {ks : List Slot} {H0 : Hp} (m : DMk U H0 kvs ks f) {d : Addr} {o : Obj} {g : TG} (Pv : Nat → St → Hp → Prop) (h0 : Pv 0 σ H) (hl : ∀ i σ H, i ≤ ks.length → Pv i σ H → H d = some (.frz o (.dT kvs)))
    (hs : ∀ (N : St → Hp → Prop) i s e b σ H, ks[i]? = some s → f s = some e → H b = some (.tup (sVs s)) → Pv i σ H → (∀ σ' H', Pv (i + 1) σ' H' → N σ' H') → g (.ref b) σ H fun σ2 H2 => t ⟨N, rt, nx, N⟩ σ2 H2) (hd : ∀ σ H, Pv ks.length σ H → nx σ H) :
    ∃ W : Nat → Nat → St → Hp → Prop, (∃ m, W 0 m σ H) ∧ ∀ i m σ H, W i m σ H →
      ((Itkt d o kvs).stop i H ∧ nx σ H) ∨ ((Itkt d o kvs).go i H ∧ ∃ N : St → Hp → Prop, (∀ σ' H', N σ' H' → ∃ m', m' < m ∧ W (i + 1) m' σ' H') ∧ ∀ x H', (Itkt d o kvs).yld i H x H' → g x σ H' fun σ2 H2 => t ⟨N, rt, nx, N⟩ σ2 H2) := by
  rw [← m.len] at hl hd
  refine ⟨fun i m σ H => m = kvs.length - i ∧ i ≤ kvs.length ∧ Pv i σ H, ⟨_, rfl, Nat.zero_le _, h0⟩, ?_⟩
  rintro i m' σ H ⟨rfl, hi, p⟩
  by_cases hlt : i < kvs.length
  · refine .inr ⟨⟨hl i σ H hi p, hlt⟩, Pv (i + 1), fun σ' H' p' => ⟨kvs.length - (i + 1), by omega, rfl, hlt, p'⟩, fun x H' y => ?_⟩
    obtain ⟨e, k, v, q, hk, rfl, hq⟩ := y
    subst e
    obtain ⟨s, d', hs', ek, hf, _, _⟩ := m.at hk
    subst ek
    exact hs (Pv (i + 1)) i s d' q σ _ hs' hf hq p fun _ _ q => q
  · have e : i = kvs.length := by omega
    subst e
    exact .inl ⟨⟨hl _ σ H hi p, Nat.le_refl _⟩, hd σ H p⟩
theorem z_lc_keysT {kvs : List (List Key × V)} {ks : List Slot} {H0 : Hp} (m : DMk U H0 kvs ks f) {d : Addr} {o : Obj} {g : TG} {vs : List Nat} {D : Addr} {Qd : Hp → Prop} (Pv : Nat → List V → Hp → Prop) (nD : H D = none) (h0 : ∀ H', Ext [] H H' → Pv 0 [] H') (hl : ∀ i acc H, i ≤ ks.length → Pv i acc H → H d = some (.frz o (.dT kvs)))
    (hs : ∀ (Nx : Hp → Prop) i s e b acc H, ks[i]? = some s → f s = some e → H b = some (.tup (sVs s)) → Pv i acc H → H D = some (.lst acc) → (∀ acc' H', Pv (i + 1) acc' H' → H' D = some (.lst acc') → Nx H') → g (.ref b) (wipe σ vs) H fun σ2 H2 => wipe σ2 vs = wipe σ vs ∧ tt σ2 H2 fun b H3 =>
      if b = true then te σ2 H3 fun y H4 => ∃ acc, H4 D = some (.lst acc) ∧ acc.length < sizeLine ∧ Nx (upd H4 D (.lst (acc ++ [y]))) else Nx H3) (hd : ∀ acc H, Pv ks.length acc H → H D = some (.lst acc) → Qd H) :
    ∃ W : Nat → Nat → Hp → Prop, (∃ m, W 0 m (upd H D (.lst []))) ∧ ∀ i m H, W i m H →
      ((Itkt d o kvs).stop i H ∧ Qd H) ∨ ((Itkt d o kvs).go i H ∧ ∃ Nx : Hp → Prop, (∀ H', Nx H' → ∃ m', m' < m ∧ W (i + 1) m' H') ∧ ∀ x H', (Itkt d o kvs).yld i H x H' → g x (wipe σ vs) H' fun σ2 H2 => wipe σ2 vs = wipe σ vs ∧ tt σ2 H2 fun b H3 =>
        if b = true then te σ2 H3 fun y H4 => ∃ acc, H4 D = some (.lst acc) ∧ acc.length < sizeLine ∧ Nx (upd H4 D (.lst (acc ++ [y]))) else Nx H3) := by
  rw [← m.len] at hl hd
  refine ⟨fun i m H => m = kvs.length - i ∧ i ≤ kvs.length ∧ ∃ acc, Pv i acc H ∧ H D = some (.lst acc), ⟨_, rfl, Nat.zero_le _, [], h0 _ (Ext.new nD), upd_same⟩, ?_⟩
  rintro i m' H ⟨rfl, hi, acc, p, hD⟩
  by_cases hlt : i < kvs.length
  · refine .inr ⟨⟨hl i acc H hi p, hlt⟩, (fun H => ∃ acc, Pv (i + 1) acc H ∧ H D = some (.lst acc)), fun H' p' => ⟨kvs.length - (i + 1), by omega, rfl, hlt, p'⟩, fun x H' y => ?_⟩
    obtain ⟨e, k, v, q, hk, rfl, hq⟩ := y
    subst e
    obtain ⟨s, d', hs', ek, hf, _, _⟩ := m.at hk
    subst ek
    exact hs _ i s d' q acc _ hs' hf hq p hD fun acc' H' p' h' => ⟨acc', p', h'⟩
  · have e : i = kvs.length := by omega
    subst e
    exact .inl ⟨⟨hl _ acc H hi p, Nat.le_refl _⟩, hd acc H p hD⟩
/-- .. and a dict is made of them -/
theorem w_dc {wi : TI} {g : TG} {tk tv : TE} {vs : List Nat} (h : wi σ H fun J H1 => ∀ D, H1 D = none → ∃ W : Nat → Nat → Hp → Prop, (∃ m, W 0 m (upd H1 D (.dT []))) ∧
  ∀ i m H, W i m H → (J.stop i H ∧ Q (.ref D) H) ∨ (J.go i H ∧ ∃ Nx : Hp → Prop, (∀ H', Nx H' → ∃ m', m' < m ∧ W (i + 1) m' H') ∧
    ∀ x H', J.yld i H x H' → g x (wipe σ vs) H' fun σ2 H2 => wipe σ2 vs = wipe σ vs ∧ tt σ2 H2 fun b H3 =>
      if b = true then tk σ2 H3 fun y H4 => tv σ2 H4 fun z H5 => ∃ kvs k q, y = .ref q ∧ H5 q = some (.tup (k.map kV)) ∧ H5 D = some (.dT kvs) ∧ kvs.length < sizeLine ∧ Nx (upd H5 D (.dT (putK kvs k z))) else Nx H3)) : zDcT wi g tt tk tv vs σ H Q := h
theorem w_dcput {D q : Addr} {v : V} {N : Hp → Prop} {s : Slot} {d : PyData} (hU : U.length ≤ 1000) (h : DM U H D f) (eb : H q = some (.tup (sVs s))) (m : s ∈ U) (i : Im H v d) (k : ∀ H', Ext [D] H H' → DM U H' D (putF f s d) → N H') :
    ∃ kvs k c, V.ref q = .ref c ∧ H c = some (.tup (k.map kV)) ∧ H D = some (.dT kvs) ∧ kvs.length < sizeLine ∧ N (upd H D (.dT (putK kvs k v))) := by
  obtain ⟨kvs, ks, h, w⟩ := h
  have e : Ext [D] H (upd H D (.dT (putK kvs (sKey s) v))) := Ext.mut h (fun z => z) (List.mem_singleton.mpr rfl)
  refine ⟨kvs, sKey s, q, rfl, eb, h, szl (Nat.lt_of_le_of_lt (w.small hU) (by decide)), k _ e ?_⟩
  obtain ⟨ks', w'⟩ := w.put m i
  exact ⟨_, ks', upd_same, w'.ext e⟩
theorem z_dc_keysT {kvs : List (List Key × V)} {ks : List Slot} {H0 : Hp} (m : DMk U H0 kvs ks f) {d : Addr} {o : Obj} {g : TG} {tk tv : TE} {vs : List Nat} {D : Addr} {Qd : Hp → Prop} (Pv : Nat → Hp → Prop) (h0 : ∀ H', Ext [] H H' → H' D = some (.dT []) → Pv 0 H') (nD : H D = none) (hl : ∀ i H, i ≤ ks.length → Pv i H → H d = some (.frz o (.dT kvs)))
    (hs : ∀ (Nx : Hp → Prop) i s e b H, ks[i]? = some s → f s = some e → H b = some (.tup (sVs s)) → Pv i H → (∀ H', Pv (i + 1) H' → Nx H') → g (.ref b) (wipe σ vs) H fun σ2 H2 => wipe σ2 vs = wipe σ vs ∧ tt σ2 H2 fun b H3 =>
      if b = true then tk σ2 H3 fun y H4 => tv σ2 H4 fun z H5 => ∃ kvs k q, y = .ref q ∧ H5 q = some (.tup (k.map kV)) ∧ H5 D = some (.dT kvs) ∧ kvs.length < sizeLine ∧ Nx (upd H5 D (.dT (putK kvs k z))) else Nx H3) (hd : ∀ H, Pv ks.length H → Qd H) :
    ∃ W : Nat → Nat → Hp → Prop, (∃ m, W 0 m (upd H D (.dT []))) ∧ ∀ i m H, W i m H →
      ((Itkt d o kvs).stop i H ∧ Qd H) ∨ ((Itkt d o kvs).go i H ∧ ∃ Nx : Hp → Prop, (∀ H', Nx H' → ∃ m', m' < m ∧ W (i + 1) m' H') ∧ ∀ x H', (Itkt d o kvs).yld i H x H' → g x (wipe σ vs) H' fun σ2 H2 => wipe σ2 vs = wipe σ vs ∧ tt σ2 H2 fun b H3 =>
        if b = true then tk σ2 H3 fun y H4 => tv σ2 H4 fun z H5 => ∃ kvs k q, y = .ref q ∧ H5 q = some (.tup (k.map kV)) ∧ H5 D = some (.dT kvs) ∧ kvs.length < sizeLine ∧ Nx (upd H5 D (.dT (putK kvs k z))) else Nx H3) := by
  rw [← m.len] at hl hd
  refine ⟨fun i m H => m = kvs.length - i ∧ i ≤ kvs.length ∧ Pv i H, ⟨_, rfl, Nat.zero_le _, h0 _ (Ext.new nD) upd_same⟩, ?_⟩
  rintro i m' H ⟨rfl, hi, p⟩
  by_cases hlt : i < kvs.length
  · refine .inr ⟨⟨hl i H hi p, hlt⟩, Pv (i + 1), fun H' p' => ⟨kvs.length - (i + 1), by omega, rfl, hlt, p'⟩, fun x H' y => ?_⟩
    obtain ⟨e, k, v, q, hk, rfl, hq⟩ := y
    subst e
    obtain ⟨s, d', hs', ek, hf, _, _⟩ := m.at hk
    subst ek
    exact hs (Pv (i + 1)) i s d' q _ hs' hf hq p fun _ q => q
  · have e : i = kvs.length := by omega
    subst e
    exact .inl ⟨⟨hl _ H hi p, Nat.le_refl _⟩, hd H p⟩
theorem w_sortT {P : V → Hp → Prop} (h : DR U H a f) (k : ∀ p bs ts H', Ext [] H H' → H p = none → H' p = some (.lst (bs.map V.ref)) → SlotsAt H' bs ts → ts.Nodup → (∀ s, s ∈ ts ↔ (f s).isSome = true) → ts.length ≤ U.length → ts.Pairwise (fun x y => sLt y x = false) → P (.ref p) H') : cSortT K [.ref a] H P := by
  obtain ⟨kvs, ks, h, m⟩ := h
  refine .inr ⟨a, kvs, ks, rfl, h, m.keys, fun bs ts hb hp hs => w_alc fun p H' e n hh => ?_⟩
  exact k p bs ts H' e n hh (hb.ext e) (hp.nodup_iff.mpr m.nd) (fun s => by rw [hp.mem_iff]; exact m.mem) (by rw [hp.length_eq]; exact nodup_len m.nd m.sub) hs
theorem w_sortSl {P : V → Hp → Prop} {as : List Addr} {ss : List Slot} (h : SqL K H a (as.map V.ref)) (hx : SlotsAt H as ss) (k : ∀ p bs ts H', Ext [] H H' → H p = none → H' p = some (.lst (bs.map V.ref)) → SlotsAt H' bs ts → ts.Perm ss → ts.Pairwise (fun x y => sLt y x = false) → P (.ref p) H') : cSortT K [.ref a] H P :=
  .inl ⟨a, as, ss, rfl, h, hx, fun bs ts hb hp hs => w_alc fun p H' e n hh => k p bs ts H' e n hh (hb.ext e) hp hs⟩
theorem w_lenX {xs : List V} (h : SqL K H a xs ∨ SqT K H a xs) (q : Q (.int (xs.length : Int)) H) : cLenX K [.ref a] H Q := .inl ⟨_, _, rfl, h.elim (fun h => .inl ⟨xs, h, rfl⟩) (fun h => .inr ⟨xs, h, rfl⟩), q⟩
theorem w_lenXT {kvs : List (List Key × V)} (h : H a = some (.dT kvs)) (q : Q (.int (kvs.length : Int)) H) : cLenX K [.ref a] H Q := .inr ⟨a, kvs, rfl, h, q⟩
theorem w_ixA {v : V} {xs : List V} {j : Int} (h : SqL K H a xs ∨ SqT K H a xs) (e : atI xs j = some v) (q : Q v H) : rIx K (.ref a) (.int j) H Q :=
  h.elim (fun h => .inl ⟨a, xs, j, v, rfl, rfl, h, e, q⟩) fun h => .inr (.inl ⟨a, xs, j, v, rfl, rfl, h, e, q⟩)
theorem w_clearT {kvs : List (List Key × V)} {Q : VK} (h : H a = some (.dT kvs)) (k : ∀ H', Ext [a] H H' → Q .non H') : rClearT (.ref a) [] H Q := ⟨a, kvs, rfl, rfl, h, w_chg h (fun z => z) fun H' e _ => k H' e⟩
end
end Zk

set_option Elab.async false
set_option linter.all false
set_option maxRecDepth 100000
set_option maxHeartbeats 4000000
namespace Zk
open PySem PySem.Spec L2
open PyProof.Rows hiding St

/-! ### texts of plain signs -/
def Sg (z : Str) : Prop := ∀ c ∈ z.cps.toList, c < 128
theorem Sg.ok {z : Str} (h : Sg z) : PyData.strOk z = true := by
  unfold PyData.strOk
  rw [Array.all_eq_true']
  intro c hc
  have := h c (by simpa using hc)
  simp only [decide_eq_true_eq]
  omega
theorem Sg.app {a b : Str} (ha : Sg a) (hb : Sg b) : Sg (a ++ b) := fun c hc => by
  have e : (a ++ b).cps.toList = a.cps.toList ++ b.cps.toList := by
    show (a.cps ++ b.cps).toList = _
    simp
  rw [e, List.mem_append] at hc
  exact hc.elim (ha c) (hb c)
theorem Sg.one {c : Nat} (h : c < 128) : Sg ⟨#[c]⟩ := fun d hd => by
  have : d = c := by simpa using hd
  omega
theorem Sg.empty : Sg Str.empty := fun c hc => by simp [Str.empty] at hc
theorem Sg.join {sep : Str} (h0 : Sg sep) : ∀ {ys : List Str}, (∀ y ∈ ys, Sg y) → Sg (Txt.join sep ys) := by
  intro ys h
  show Sg (Builtin.Str.glued sep ys)
  rw [StrLaws.glued_eq_join]
  induction ys with
  | nil => exact Sg.empty
  | cons x r ih =>
    cases r with
    | nil => exact h x List.mem_cons_self
    | cons y r => exact ((h x List.mem_cons_self).app h0).app (ih fun z m => h z (List.mem_cons_of_mem _ m))
theorem Sg.mul {x : Str} (h : Sg x) (n : Int) : Sg (Txt.mul x n) := by
  unfold Txt.mul
  split
  · exact Sg.empty
  · split
    · exact h
    · have g : ∀ (k : Nat) (acc : Array Nat), (∀ c ∈ acc.toList, c < 128) → ∀ c ∈ ((List.replicate k x.cps).foldl (· ++ ·) acc).toList, c < 128 := by
        intro k
        induction k with
        | zero => intro acc ha; exact ha
        | succ k ih =>
          intro acc ha
          rw [List.replicate_succ, List.foldl_cons]
          refine ih _ fun c hc => ?_
          rw [Array.toList_append, List.mem_append] at hc
          exact hc.elim (ha c) (h c)
      exact g _ _ fun c hc => by simp at hc

/-! ### contents of slots -/
def Cell : Nat → PyData → Prop
  | 0, d => d = .none ∨ ∃ n, d = .int n
  | 1, d => d = .none ∨ ∃ z, Sg z ∧ d = .str z
  | 2, d => d = .none ∨ ∃ b, d = .bool b
  | 3, d => d = .none ∨ ∃ n m, d = .tuple [.str "sealed", .str "int", .int n, .int m]
  | _, _ => False
def Cells : Nat → List PyData → Prop
  | _, [] => True
  | i, d :: ds => Cell i d ∧ Cells (i + 1) ds
def Cont (d : PyData) : Prop := (∃ a b cs, Cells 0 cs ∧ d = .tuple [.str "row", .int a, .int b, .tuple cs]) ∨ (∃ n, d = .tuple [.str "closed", .int n]) ∨ ∃ a b k c, d = .tuple [.str "shelf", .int a, .int b, .bool k, .int c]
theorem Cell.eqv : ∀ {i : Nat} {d e : PyData}, Cell i d → Cell i e → (PyData.eqv d e = true ↔ d = e)
  | 0, d, e, h, k => by
    rcases h with rfl | ⟨n, rfl⟩ <;> rcases k with rfl | ⟨m, rfl⟩ <;> simp [PyData.eqv]
  | 1, d, e, h, k => by
    rcases h with rfl | ⟨n, _, rfl⟩ <;> rcases k with rfl | ⟨m, _, rfl⟩ <;> simp [PyData.eqv]
  | 2, d, e, h, k => by
    rcases h with rfl | ⟨n, rfl⟩ <;> rcases k with rfl | ⟨m, rfl⟩ <;> simp [PyData.eqv]
  | 3, d, e, h, k => by
    rcases h with rfl | ⟨n, m, rfl⟩ <;> rcases k with rfl | ⟨n', m', rfl⟩ <;> simp [PyData.eqv, PyData.eqvAll]
  | _ + 4, d, e, h, k => h.elim
theorem Cells.eqv : ∀ {i : Nat} {ds es : List PyData}, Cells i ds → Cells i es → (PyData.eqvAll ds es = true ↔ ds = es)
  | _, [], [], _, _ => by simp [PyData.eqvAll]
  | _, [], _ :: _, _, _ => by simp [PyData.eqvAll]
  | _, _ :: _, [], _, _ => by simp [PyData.eqvAll]
  | i, d :: ds, e :: es, h, k => by
    rw [PyData.eqvAll, Bool.and_eq_true, Cell.eqv h.1 k.1, Cells.eqv h.2 k.2, List.cons.injEq]
theorem Cont.eqv {d e : PyData} (h : Cont d) (k : Cont e) : PyData.eqv d e = true ↔ d = e := by
  rcases h with ⟨a, b, cs, hc, rfl⟩ | ⟨n, rfl⟩ | ⟨a, b, f, c, rfl⟩ <;> rcases k with ⟨a', b', cs', hc', rfl⟩ | ⟨n', rfl⟩ | ⟨a', b', f', c', rfl⟩
  · simp only [PyData.eqv, PyData.eqvAll, Bool.and_eq_true, Cells.eqv hc hc']
    simp
  all_goals simp [PyData.eqv, PyData.eqvAll]
theorem Cell.lay : ∀ {i : Nat} {d : PyData}, Cell i d → d.canLay0 = true ∧ d.depth ≤ 1
  | 0, d, h => by
    rcases h with rfl | ⟨n, rfl⟩ <;> simp [PyData.canLay0, PyData.depth]
  | 1, d, h => by
    rcases h with rfl | ⟨n, hn, rfl⟩
    · simp [PyData.canLay0, PyData.depth]
    · have := hn.ok
      simp [PyData.canLay0, PyData.depth]
      exact this
  | 2, d, h => by
    rcases h with rfl | ⟨n, rfl⟩ <;> simp [PyData.canLay0, PyData.depth]
  | 3, d, h => by
    rcases h with rfl | ⟨n, m, rfl⟩
    · simp [PyData.canLay0, PyData.depth]
    · simp [PyData.canLay0, PyData.canLayAll0, PyData.depth, PyData.depthAll]
      decide +kernel
  | _ + 4, d, h => h.elim
theorem Cells.lay : ∀ {i : Nat} {ds : List PyData}, Cells i ds → PyData.canLayAll0 ds = true ∧ PyData.depthAll ds ≤ 1
  | _, [], _ => by simp [PyData.canLayAll0, PyData.depthAll]
  | i, d :: ds, h => by
    obtain ⟨a1, a2⟩ := Cell.lay h.1
    obtain ⟨b1, b2⟩ := Cells.lay h.2
    rw [PyData.canLayAll0, PyData.depthAll, a1, b1]
    exact ⟨rfl, Nat.max_le.mpr ⟨a2, b2⟩⟩
theorem Cont.lay {d : PyData} (h : Cont d) : d.canLay0 = true ∧ d.depth ≤ 3 := by
  rcases h with ⟨a, b, cs, hc, rfl⟩ | ⟨n, rfl⟩ | ⟨a, b, f, c, rfl⟩
  · obtain ⟨b1, b2⟩ := Cells.lay hc
    simp only [PyData.canLay0, PyData.canLayAll0, PyData.depth, PyData.depthAll, b1]
    refine ⟨by decide +kernel, ?_⟩
    omega
  · simp [PyData.canLay0, PyData.canLayAll0, PyData.depth, PyData.depthAll]; decide +kernel
  · simp [PyData.canLay0, PyData.canLayAll0, PyData.depth, PyData.depthAll]; decide +kernel
/-- what a slot holds, None where it holds nothing -/
def oD (x : Option PyData) : PyData := x.getD .none
def OCt (x : Option PyData) : Prop := ∀ d, x = some d → Cont d
theorem Cont.ne_none {d : PyData} (h : Cont d) : d ≠ .none := by
  rcases h with ⟨a, b, cs, hc, rfl⟩ | ⟨n, rfl⟩ | ⟨a, b, f, c, rfl⟩ <;> exact fun z => nomatch z
theorem OCt.eqv {x y : Option PyData} (h : OCt x) (k : OCt y) : PyData.eqv (oD x) (oD y) = true ↔ x = y := by
  cases x with
  | none => cases y with
    | none => simp [oD, PyData.eqv]
    | some e =>
      have := k e rfl
      rcases this with ⟨a, b, cs, hc, rfl⟩ | ⟨n, rfl⟩ | ⟨a, b, f, c, rfl⟩ <;> simp [oD, PyData.eqv]
  | some d => cases y with
    | none =>
      have := h d rfl
      rcases this with ⟨a, b, cs, hc, rfl⟩ | ⟨n, rfl⟩ | ⟨a, b, f, c, rfl⟩ <;> simp [oD, PyData.eqv]
    | some e =>
      show PyData.eqv d e = true ↔ _
      rw [Cont.eqv (h d rfl) (k e rfl), Option.some.injEq]
theorem OCt.shaped {x : Option PyData} (h : OCt x) : SeqAt.shaped (oD x) = true := by
  unfold SeqAt.shaped
  cases x with
  | none => simp [oD, PyData.canLay0, PyData.depth]
  | some d =>
    obtain ⟨a, b⟩ := (h d rfl).lay
    show (d.canLay0 && decide (d.depth ≤ 64)) = true
    rw [a, decide_eq_true (by omega)]; rfl
theorem OCt.depth {x : Option PyData} (h : OCt x) : (oD x).depth ≤ 3 := by
  cases x with
  | none => simp [oD, PyData.depth]
  | some d => exact (h d rfl).lay.2
theorem OCt.non {x : Option PyData} (h : OCt x) {H : Hp} {v : V} (i : Im H v (oD x)) : v = .non ↔ x = none := by
  cases x with
  | none => cases i; simp
  | some d =>
    refine ⟨fun z => ?_, fun z => nomatch z⟩
    subst z
    have := (h d rfl).ne_none
    change Im H .non d at i
    cases i
    exact absurd rfl this
theorem OCt.inj {x y : Option PyData} (h : OCt x) (k : OCt y) (e : oD x = oD y) : x = y := by
  cases x with
  | none => cases y with
    | none => rfl
    | some e' => exact absurd e.symm (k e' rfl).ne_none
  | some d => cases y with
    | none => exact absurd e (h d rfl).ne_none
    | some e' => exact congrArg some e
/-! ### differences -/
open Classical in
noncomputable def btw (x y : Option PyData) : Option PyData := if x = y then none else some (.tuple [oD x, oD y])
theorem btw_eq {x y : Option PyData} (h : x = y) : btw x y = none := if_pos h
theorem btw_ne {x y : Option PyData} (h : x ≠ y) : btw x y = some (.tuple [oD x, oD y]) := if_neg h
theorem btw_none {x y : Option PyData} (h : btw x y = none) : x = y := Classical.byContradiction fun z => by rw [btw_ne z] at h; cases h
theorem btw_some {x y : Option PyData} {d : PyData} (h : btw x y = some d) : x ≠ y ∧ d = .tuple [oD x, oD y] := by
  by_cases z : x = y
  · rw [btw_eq z] at h; cases h
  · rw [btw_ne z] at h; exact ⟨z, (Option.some.inj h).symm⟩
noncomputable def btwF (f g : Fd) : Fd := fun s => btw (f s) (g s)
def Stt (f : Fd) : Prop := ∀ s, OCt (f s)
theorem btw_depth {x y : Option PyData} {d : PyData} (h : OCt x) (k : OCt y) (e : btw x y = some d) : d.depth ≤ 4 := by
  obtain ⟨_, rfl⟩ := btw_some e
  have a := h.depth
  have b := k.depth
  simp only [PyData.depth, PyData.depthAll]
  omega
theorem stt_none : Stt fun _ => none := fun _ _ h => nomatch h
theorem stt_put {f : Fd} {s : Slot} {d : PyData} (h : Stt f) (c : Cont d) : Stt (putF f s d) := fun t e q => by
  unfold putF at q
  by_cases z : t = s
  · rw [if_pos z] at q; cases q; exact c
  · rw [if_neg z] at q; exact h t e q
/-- what of F is worked out for the slots of l -/
def resF (l : List Slot) (F : Fd) : Fd := fun s => if s ∈ l then F s else none
theorem resF_nil {F : Fd} : resF [] F = fun _ => none := by funext s; exact if_neg (fun z => nomatch z)
theorem resF_put {l : List Slot} {F : Fd} {s : Slot} {d : PyData} (h : F s = some d) : putF (resF l F) s d = resF (l ++ [s]) F := by
  funext t
  unfold putF resF
  by_cases e : t = s
  · subst e
    rw [if_pos rfl, if_pos (List.mem_append.mpr (.inr (List.mem_singleton.mpr rfl))), h]
  · rw [if_neg e]
    by_cases m : t ∈ l
    · rw [if_pos m, if_pos (List.mem_append.mpr (.inl m))]
    · rw [if_neg m, if_neg (fun z => (List.mem_append.mp z).elim m fun q => e (List.mem_singleton.mp q))]
theorem resF_skip {l : List Slot} {F : Fd} {s : Slot} (h : F s = none) : resF (l ++ [s]) F = resF l F := by
  funext t
  unfold resF
  by_cases e : t = s
  · subst e
    rw [h, ite_self, ite_self]
  · by_cases m : t ∈ l
    · rw [if_pos m, if_pos (List.mem_append.mpr (.inl m))]
    · rw [if_neg m, if_neg (fun z => (List.mem_append.mp z).elim m fun q => e (List.mem_singleton.mp q))]
theorem resF_all {l : List Slot} {F : Fd} (h : ∀ s, s ∉ l → F s = none) : resF l F = F := by
  funext s
  unfold resF
  by_cases m : s ∈ l
  · rw [if_pos m]
  · rw [if_neg m, h s m]
theorem take_snoc {α : Type} {l : List α} {i : Nat} {x : α} (h : l[i]? = some x) : l.take (i + 1) = l.take i ++ [x] := by rw [List.take_add_one, h]; rfl
theorem room65 {k : Nat} {A : Around} (r : Room k A) : A.units + 65 < cLine := by have := r.un; omega
end Zk

set_option Elab.async false
set_option linter.all false
set_option maxRecDepth 100000
set_option maxHeartbeats 4000000
namespace Zk
open PySem PySem.Spec L2
open PyProof.Rows hiding St

/-! ### min of a list of slots -/
theorem slots_dp' {K : PySem.W.Frag} {H : Hp} {as : List Addr} {ss : List Slot} (h : SlotsAt H as ss) : DpAll K H (as.map V.ref) (ss.map sD) := by
  unfold SlotsAt at h
  induction h with
  | nil => exact .nil
  | cons h t ih => exact .cons (im_slot h).dp ih
theorem sD_inj {s t : Slot} (h : sD s = sD t) : s = t := by
  obtain ⟨a, b, c⟩ := s
  obtain ⟨a', b', c'⟩ := t
  simp [sD] at h
  obtain ⟨h1, h2, h3⟩ := h
  subst h1 h2 h3
  rfl
theorem sD_alike (s t : Slot) : PySem.W.alike (sD s) (sD t) = true := by simp [sD, PySem.W.alike, PySem.W.alikeAll]
theorem sD_lt (s t : Slot) : PySem.W.dataLt (sD s) (sD t) = sLt s t := by
  unfold sD
  rw [PySem.W.dataLt_tuple, PySem.W.dataLt_cons (by simp [PySem.W.alike]), PySem.W.dataLt_cons (by simp [PySem.W.alike]), PySem.W.dataLt_cons (by simp [PySem.W.alike])]
  rw [PySem.W.dataLt_str, PySem.W.dataLt_int, PySem.W.dataLt_int]
  have e1 : (PyData.eqv (.str s.1) (.str t.1) = true) ↔ s.1 = t.1 := by simp [PyData.eqv]
  have e2 : (PyData.eqv (.int s.2.1) (.int t.2.1) = true) ↔ s.2.1 = t.2.1 := by simp [PyData.eqv]
  have e3 : (PyData.eqv (.int s.2.2) (.int t.2.2) = true) ↔ s.2.2 = t.2.2 := by simp [PyData.eqv]
  unfold sLt
  by_cases h1 : s.1 = t.1
  · rw [if_pos (e1.mpr h1), if_pos h1]
    by_cases h2 : s.2.1 = t.2.1
    · rw [if_pos (e2.mpr h2), if_pos h2]
      by_cases h3 : s.2.2 = t.2.2
      · rw [if_pos (e3.mpr h3), h3, decide_eq_false (Int.lt_irrefl _)]
        rfl
      · rw [if_neg (fun z => h3 (e3.mp z))]
    · rw [if_neg (fun z => h2 (e2.mp z)), if_neg h2]
  · rw [if_neg (fun z => h1 (e1.mp z)), if_neg h1]
theorem minD_slots : ∀ (ss : List Slot) (s : Slot), ∃ m, m ∈ s :: ss ∧ PySem.W.minD (sD s) (ss.map sD) = sD m ∧ ∀ t ∈ s :: ss, sLt t m = false
  | [], s => ⟨s, List.mem_cons_self, rfl, fun t ht => by
      rw [List.mem_singleton.mp ht]
      exact sLt_no.mpr fun z => z.irr⟩
  | x :: ss, s => by
    have step : PySem.W.minD (sD s) ((x :: ss).map sD) = PySem.W.minD (sD (if sLt x s = true then x else s)) (ss.map sD) := by
      unfold PySem.W.minD
      rw [List.map_cons, List.foldl_cons, sD_lt]
      by_cases h : sLt x s = true
      · rw [if_pos h, if_pos h]
      · rw [if_neg h, if_neg h]
    rw [step]
    by_cases h : sLt x s = true
    · rw [if_pos h]
      obtain ⟨m, hm, e, hl⟩ := minD_slots ss x
      refine ⟨m, List.mem_cons_of_mem _ hm, e, fun t ht => ?_⟩
      rcases List.mem_cons.mp ht with rfl | ht
      · refine sLt_no.mpr fun z => ?_
        have a := sLt_no.mp (hl x List.mem_cons_self)
        exact a (SLt.trans (sLt_iff.mp h) z)
      · exact hl t ht
    · rw [if_neg h]
      obtain ⟨m, hm, e, hl⟩ := minD_slots ss s
      refine ⟨m, ?_, e, fun t ht => ?_⟩
      · rcases List.mem_cons.mp hm with rfl | hm
        · exact List.mem_cons_self
        · exact List.mem_cons_of_mem _ (List.mem_cons_of_mem _ hm)
      · rcases List.mem_cons.mp ht with rfl | ht
        · exact hl t List.mem_cons_self
        · rcases List.mem_cons.mp ht with rfl | ht
          · have a := sLt_no.mp (hl s List.mem_cons_self)
            have b : ¬ SLt t s := fun z => h (sLt_iff.mpr z)
            refine sLt_no.mpr fun z => ?_
            rcases SLt.tri s m with c | c | c
            · exact a c
            · rw [← c] at z; exact b z
            · exact b (SLt.trans z c)
          · exact hl t (List.mem_cons_of_mem _ ht)
def cMinSl (K : PySem.W.Frag) : RC := fun vs H Q => ∃ (a : Addr) (as : List Addr) (ss : List Slot), vs = [V.ref a] ∧ SqL K H a (as.map V.ref) ∧ SlotsAt H as ss ∧ 0 < ss.length ∧
  ∀ (b : Addr) (m : Slot), H b = some (.tup (sVs m)) → m ∈ ss → (∀ s ∈ ss, sLt s m = false) → Q (.ref b) H
theorem zc_minSl {X : Cx} (hc : X.calm = true) (hu : X.A.units + 64 < cLine) : CallR X (.builtin "min") (cMinSl X.K) := by
  intro pins s σ H vs us Q I r h
  obtain ⟨a, as, ss, rfl, hs, hx, hp, q⟩ := h
  obtain ⟨its, rv, hl, hz⟩ := I.list hs
  obtain ⟨u, rfl, ru⟩ := vals1 r
  obtain rfl : u = Value.ref a := ru
  obtain ⟨ads, hr⟩ := Dp.readsAll I (ss.map sD) (as.map V.ref) its (slots_dp' hx) rv
  cases ss with
  | nil => exact absurd hp (Nat.lt_irrefl 0)
  | cons s0 rest =>
    have dp : PyData.depthAll ((s0 :: rest).map sD) ≤ 1 := by
      have : ∀ l : List Slot, PyData.depthAll (l.map sD) ≤ 1 := by
        intro l
        induction l with
        | nil => simp [PyData.depthAll]
        | cons x l ih => rw [List.map_cons, PyData.depthAll, sD_depth]; exact Nat.max_le.mpr ⟨Nat.le_refl _, ih⟩
      exact this _
    refine PySem.W.min_list_data (x := sD s0) (xs := rest.map sD) (I.ok.hd hc) hl.isList hr ⟨?_, ?_⟩ (by have := dp; rw [List.map_cons] at this; omega) fun i v h' tk bs hv hv2 kp => ?_
    · intro x hx y hy
      rw [← List.map_cons] at hx hy
      obtain ⟨s, _, rfl⟩ := List.mem_map.mp hx
      obtain ⟨t, _, rfl⟩ := List.mem_map.mp hy
      exact sD_alike s t
    · intro x hx
      rw [← List.map_cons] at hx
      obtain ⟨s, _, rfl⟩ := List.mem_map.mp hx
      exact fun z => nomatch z
    · obtain ⟨m, hm, e, hl⟩ := minD_slots rest s0
      rw [e] at hv2
      have hv' : its[i]? = some v := by simpa using hv
      have li : i < as.length := by
        obtain ⟨l, _⟩ := List.getElem?_eq_some_iff.mp hv'
        have := rv.length
        rw [List.length_map] at this
        omega
      have ha : as[i]? = some as[i] := List.getElem?_eq_getElem li
      obtain ⟨t, ht, hb⟩ := paired_at hx ha
      obtain ⟨u, hu2, ru2⟩ := rv.get (x := V.ref as[i]) (by rw [List.getElem?_map, ha]; rfl)
      rw [hv'] at hu2
      cases hu2
      obtain rfl : v = Value.ref as[i] := ru2
      obtain ⟨bs2, r2⟩ := Dp.reads I (sD t) (.ref as[i]) (.ref as[i]) (im_slot hb).dp rfl
      have em := sD_inj (PySem.W.alike_unique _ _ _ _ _ (sD_alike m t) hv2 (PySem.W.reads_keeps kp r2))
      subst em
      exact ⟨.ref as[i], H, I.kept kp, rfl, q _ _ hb hm hl⟩
end Zk

set_option Elab.async false
set_option linter.all false
set_option maxRecDepth 100000
set_option maxHeartbeats 4000000
namespace PySem
namespace ZEX
open PySem.W PySem.Calls PyProof.Rows PySem.HandSPX
section
variable {prog : Program} {w : World} {A : Around} {E : Value → Shared → Prop} {h : Heap} {g : Array GenState} {d : Drawn} {t : Nat} {os : OsState}
variable {nm q : Str} {C N : Addr} {bs bm : List Value} {hdct : Bool} {sn : List Str} {sub : List Value} {ab : Bool} {col : Option Bool} {dd : Option Addr} {k0 k1 k2 k3 k5 : Option Value}
/-- ValueError.__init__, bound to e at u, called -/
theorem call_bv {u e t0 : Addr} {rest : List Value} {Q : Value → Shared → Prop}
    (hC : h.get? C = some (excClassObj nm q C N bs bm hdct sn sub ab col dd k0 k1 k2 k3 k5 "ValueError.__new__")) (he : h.get? e = some (excO C t0)) (hu : h.get? u = some (kxs_mw "ValueError.__init__" e)) (hrest : rest.length ≤ sizeLine)
    (hq : ∀ h' t1, (∀ b o, b ≠ e → h.get? b = some o → h'.get? b = some o) → h'.get? e = some (excO C t1) → Q .none ⟨h', g, d, t, os⟩) :
    wpAny (model prog w) A (call (.ref u) rest) Q E ⟨h, g, d, t, os⟩ := by
  refine wpAny_call (codeAny_of_tree ?_)
  show wpAny _ A.in1 (callAny (.ref u) ⟨rest, []⟩) _ _ _
  simp only [callAny]
  refine wpAny_bind (wpAny_load hu ?_)
  simp only [kxs_mw, show (Value.type "method-wrapper" == Value.type "method" || Value.type "method-wrapper" == Value.type "builtin_function_or_method" || Value.type "method-wrapper" == Value.type "method-wrapper") = true by decide, if_true]
  refine KFB.if_so (by decide) ?_
  refine wpAny_bind (check_bound_init F.excBase_ValueError.toExcCallFacts hC he rfl ?_)
  refine wpAny_bind (wpAny_pure (wpAny_pure ?_))
  refine ⟨plainId_quiet F.excBase_ValueError.init.plain _, codeAny_builtin F.excBase_ValueError.initEntry ?_⟩
  exact exc_init_tree (cls := .ref C) (t0 := t0) (dv := none) (c2 := .none) (c3 := .none) (b4 := .bool false) he hrest fun h' k e' _ => hq h' _ k e'
end
end ZEX
end PySem
namespace L2
open PySem PySem.Spec PyProof.Rows
/-- isinstance(e, c), e the exception that the suite holds, its dict at dd -/
def rIsED (K : PySem.W.Frag) (D a dd : Addr) : List V → Hp → VK → Prop := fun xs H Q => ∃ (c : V) (cv : Value) (b : Bool) (fs : List (Str × V)), xs = [.ref a, c] ∧ (∀ u, RelV c u → u = cv) ∧ H dd = some (.xd fs) ∧ PySem.W.kitOne K (.ref D) cv = some b ∧ Q (.bl b) H
theorem call_isED {X : Cx} {a D dd : Addr} {oe : Obj} {pn : List (Addr × Obj)} (C : ExcC X.K D) (hz : Zc (.ref D) (some dd) oe) (hf : ∃ vs, oe.data = .fields vs) : CallR (X.suite a ((a, oe) :: pn)) (.builtin "isinstance") (rIsED X.K D a dd) := by
  intro pins s σ H xs us Q I r h
  obtain ⟨c, cv, b, fs, rfl, hcv, hd, e, q⟩ := h
  obtain ⟨u, w, rfl, rx, rt⟩ : ∃ u w, us = [u, w] ∧ RelV (.ref a) u ∧ RelV c w := by
    cases r with
    | cons rx rr => cases rr with
      | cons rt rr => cases rr; exact ⟨_, _, rfl, rx, rt⟩
  obtain rfl : u = Value.ref a := rx
  obtain rfl := hcv _ rt
  obtain ⟨hget, _⟩ := I.pin (a, oe) (List.mem_append.mpr (.inl List.mem_cons_self))
  obtain ⟨vs, hv⟩ := hf
  obtain ⟨mA, hns, _⟩ := (show ObjOk X.prog X.w H s.heap dd (.xd fs) from I.hok dd _ hd)
  obtain ⟨od, ho, _⟩ := lookIn_ns hns
  have J : PySem.W.InstAt s.heap a oe D (some od) := ⟨hget, hz.1, by unfold PySem.W.notCls; rw [hv] <;> rfl, by rw [hz.2]; exact ho⟩
  have hcl : (PySem.W.clsIn X.K D).isSome = true := by
    obtain ⟨cd, hc, _⟩ := PySem.W.any_some C.hd
    rw [hc]; rfl
  exact PySem.W.kia_one (PySem.W.kitx_exc hcl C.hg C.hk C.hs C.ha C.hn C.ht C.hm) I.kIn J e (fun z => nomatch z) fun tk => ⟨.bl b, H, I.kept (t' := tk) fun _ _ z => z, rfl, q⟩
/-- .. whatever class and dict the suite has been told -/
def rIsEE (K : PySem.W.Frag) (a : Addr) (cls : Value) (d : Option Addr) : List V → Hp → VK → Prop := fun xs H Q => ∃ (D dd : Addr), cls = .ref D ∧ d = some dd ∧ ExcC K D ∧ rIsED K D a dd xs H Q
theorem call_isEE {X : Cx} {a : Addr} {cls : Value} {d : Option Addr} {oe : Obj} {pn : List (Addr × Obj)} (hz : Zc cls d oe) (hf : ∃ vs, oe.data = .fields vs) : CallR (X.suite a ((a, oe) :: pn)) (.builtin "isinstance") (rIsEE X.K a cls d) := by
  intro pins s σ H xs us Q I r h
  obtain ⟨D, dd, rfl, rfl, C, h⟩ := h
  exact call_isED C hz hf pins s σ H xs us Q I r h
end L2

set_option Elab.async false
set_option linter.all false
set_option maxRecDepth 100000
set_option maxHeartbeats 4000000
namespace PySem
namespace ZEX
open PySem.W PySem.Calls PyProof.Rows PySem.HandSPX
/-! ### Mismatch(slot) -/
def Mismatch_mA : Arguments := { posonlyargs := [], args := [{ arg := "self", annotation := none, pos := ⟨6, 17, 6, 21⟩ }, { arg := "slot", annotation := none, pos := ⟨6, 23, 6, 27⟩ }], vararg := none, kwonlyargs := [], kw_defaults := [], kwarg := none, defaults := [] }
def Mismatch_mMsg : Str := PySem.Str.ofString "a slot does not hold what the difference expects"
def Mismatch_mB : List Stmt :=
  [.Expr (.Call (.Attribute (.Call (.Name "super" ⟨7, 8, 7, 13⟩) [] [] ⟨7, 8, 7, 15⟩) "__init__" ⟨7, 8, 7, 24⟩) [.Constant (.str Mismatch_mMsg) 0 ⟨7, 25, 7, 75⟩] [] ⟨7, 8, 7, 76⟩) ⟨7, 8, 7, 76⟩, .Assign [.Attribute (.Name "self" ⟨8, 8, 8, 12⟩) "slot" ⟨8, 8, 8, 17⟩] (.Name "slot" ⟨8, 20, 8, 24⟩) ⟨8, 8, 8, 24⟩]
def Mismatch_mS : Scope := { kind := .function, names := [(PySem.Str.ofString "self", .local), (PySem.Str.ofString "slot", .local), (PySem.Str.ofString "__class__", .free), (PySem.Str.ofString "super", .globalImplicit)], isGenerator := false, isCoroutine := false, more := [] }
structure MismatchTxt (prog : Program) (K : Frag) (mg : Str → Option Value) (C fI : Addr) : Prop where
  gC : mg "Mismatch" = some (.ref C)
  cls : ∃ nm q N bs bm sn sub ab col dd k0 k1 k2 k3 k5, K.lookup C = some (excClassObj nm q C N bs bm true sn sub ab col dd k0 k1 k2 k3 k5 "ValueError.__new__") ∧ refsVE bm = true
  sa : findIn K (.ref C) "__setattr__" = some (some (.builtin "object.__setattr__"))
  noN : findIn K (.ref C) "slot" = some none
  iC : findIn K (.ref C) "__init__" = some (some (.ref fI))
  tC : typeIn K (.ref fI) = some (.type "function")
  kC : keepIn K (.ref C) = true
  exC : subIn K (.ref C) (.type "BaseException") = some true
  veC : subIn K (.ref C) (.type "ValueError") = some true
  tyC : typeIn K (.ref C) = some (.type "type")
  mro : mroIn K C (.ref C) = some true
  sup : ks_superIn K C C "__init__" = some (some (.builtin "ValueError.__init__"))
  op : nsIn K cStatics "thirdparty.any" = some none
  noS : mg "super" = none
  top : (prog.main.scope.names.lookup ("super" : Str)).isSome = false
  fn : ∃ (oc : Value) (od : Option Addr) (doc pm : Value) (an : Option Addr) (cda : Addr) (ct : Value) (osl : Array (Option Value)) (cc : Addr) (cl : Value) (cld : Option Addr) (csl : Array (Option Value)) (vs : Array Value) (ccl : Value) (cdd : Option Addr) (ccs : Array (Option Value)) (file : Str) (tf : Tok),
    K.lookup fI = some ⟨oc, od, .func (ksFn "__init__" "Mismatch.__init__" Mismatch_mA Mismatch_mB Mismatch_mS .none .none doc pm an (.ref cda) ct cc), osl⟩ ∧ codeIn K (.ref cda) "Mismatch.__init__" = true ∧
    K.lookup cc = some ⟨cl, cld, .cell (some (.ref C)), csl⟩ ∧ K.lookup cda = some ⟨ccl, cdd, .fields vs, ccs⟩ ∧ vs[2]? = some (.str file tf) ∧ ((prog.main.file : Str) == file) = true
/-- what __init__ leaves of a fresh exception at x -/
structure MismatchEnd (h h' : Heap) (x C dx t1 : Addr) (v : Value) : Prop where
  keep : ∀ b o, b ≠ x → h.get? b = some o → h'.get? b = some o
  obj : h'.get? x = some { cls := .ref C, dict := some dx, data := .fields #[.ref t1, .none, .none, .none, .bool false, .none] }
  dbig : h.objs.size ≤ dx
  dne : dx ≠ x
  ns : h'.Ns1 dx (fun y => if y = "slot" then some v else none)
section
variable {prog : Program} {w : World} {A : Around} {E : Value → Shared → Prop} {R : Result → Shared → Prop} {s : Shared} {K : Frag} {mg mb : Str → Option Value} {C fI : Addr}
theorem Mismatch_init (T : MismatchTxt prog K mg C fI) {x t0 : Addr} {v : Value} (X : K.In s.heap) (hlim : s.heap.NoLimit) (G : s.heap.Ns mainGlobals mg) (Bl : s.heap.Ns builtinsNs mb) (hb : mb "super" = bootBuiltins "super") (hx : s.heap.get? x = some (excO C t0)) (hnx : K.lookup x = none) (hroom : A.depth < recursionLimit)
    (hq : ∀ h' tk dx t1, MismatchEnd s.heap h' x C dx t1 v → R (.ok (.ret .none)) { s with heap := h', toks := tk }) :
    codeAny (model prog w) A (.call (.ref fI) ⟨[.ref x, v], []⟩) R s := by
  obtain ⟨oc, od, doc, pm, an, cda, ct, osl, cc, cl, cld, csl, vs, ccl, cdd, ccs, file, tf, ho, hcd, hcell, hcode, hvs, hfile⟩ := T.fn
  obtain ⟨nm, q, N, bs, bm, sn, sub, ab, col, dd, k0, k1, k2, k3, k5, hC, hbm⟩ := T.cls
  have hcl : clsIn K C = some { name := nm, bases := bs, mro := .ref C :: bm, ns := N, qualname := q, hasDict := true, slotNames := sn, subclasses := sub, abstract := ab, collection := col, hasDel := false } := by unfold clsIn; rw [hC] <;> rfl
  refine ks_codeAny_call_defAt (fd := ksFn "__init__" "Mismatch.__init__" Mismatch_mA Mismatch_mB Mismatch_mS .none .none doc pm an (.ref cda) ct cc) (body := Mismatch_mB) (binds := [("self", .ref x), ("slot", v)]) hroom (X _ _ ho) rfl hlim (codeRec_of X hcd) rfl (BindsTo.of_eq (by first | rfl | with_unfolding_all rfl)) (by show ∀ x ∈ Mismatch_mS.names, x.2 ≠ .cell; decide) (by show ∀ y ∈ [(Str.ofString "self", Value.ref x), (Str.ofString "slot", v)], Mismatch_mS.names.lookup y.1 = some .local; intro y m; simp only [List.mem_cons, List.not_mem_nil, or_false] at m; rcases m with rfl | rfl <;> rfl) (fun h₁ hns k => ?_)
  have X1 : K.In h₁ := X.keeps k
  have hx1 := k _ _ hx
  refine ks_wpAt_execs_cons (ks_wpAt_Expr_any (ks_wpAt_MethodCall ?_))
  refine ks_wpAt_super_base rfl rfl (by decide) rfl (X1 _ _ ho) rfl rfl rfl (X1 _ _ hcode) rfl hvs hfile T.top ?_
  refine ks_loadName_global rfl rfl (loadGlobal_builtin (mg := mg) (mb := mb) (G.keeps k) T.noS (Bl.keeps k) (hb.trans (show bootBuiltins "super" = some (.type "super") by rfl)) ⟨rfl, ?_⟩)
  refine wpAny_loadName_free rfl rfl rfl ⟨_, X1 _ _ hcell, rfl⟩ ?_
  refine wpAny_loadName_local rfl rfl hns (show (_ : Option Value) = some (.ref x) from rfl) ?_
  refine ks_wpAny_isType_cls (X1 _ _ hC) rfl ⟨rfl, ?_⟩
  refine ks_wpAny_call_super (X1 _ _ hC) rfl hx1 rfl (fun c e => nomatch e) (looks_mroIn X1 T.mro) (fun h2 hso k2 => ?_)
  have X2 : K.In h2 := X1.keeps k2
  have hx2 := k2 _ _ hx1
  have I2 : InstAt h2 x (excO C t0) C none := ⟨hx2, rfl, rfl, trivial⟩
  have hI : Looks (model prog w) h2 (isInstance (.ref x) (.type "ValueError")) true := I2.type.andThen (looks_subIn X2 T.veC)
  have hxC : x ≠ C := ks_ne X2 I2 hcl
  have hm := T.sup
  unfold ks_superIn at hm
  rw [hcl] at hm
  refine kxs_getMethod kxs_ValueError hso (looks_opaque X2 T.op) (l₀ := .ref C :: bm) (fun A Q E s k q => wpAny_bind ((looks_clsIn X2 hcl) A _ E s k (wpAny_pure q))) rfl X2 hm hI hxC (by decide) ?_
  have hu3 : (h2.push (kxs_mw "ValueError.__init__" x)).get? h2.objs.size = some (kxs_mw "ValueError.__init__" x) := Heap.get?_push_at rfl rfl
  have k3 : ∀ b o, h2.get? b = some o → (h2.push (kxs_mw "ValueError.__init__" x)).get? b = some o := fun b o e => Heap.get?_push_of_some _ e
  have k03 : ∀ b o, s.heap.get? b = some o → (h2.push (kxs_mw "ValueError.__init__" x)).get? b = some o := fun b o e => k3 _ _ (k2 _ _ (k _ _ e))
  refine kxs_callWith (i := "ValueError.__init__") (x := x) rfl ?_
  refine evalArgs_plain (spliced_cons (wpAny_Constant_str (k := 0) (pos := ⟨7, 25, 7, 75⟩) (spliced_nil ⟨hu3, ?_⟩)))
  refine call_bv (k03 _ _ (X _ _ hC)) (k3 _ _ hx2) hu3 (by show 1 ≤ sizeLine; rw [sizeLine_eq]; decide) (fun h4 t1 k4 hx4 => ?_)
  have hxL : s.heap.objs.size ≠ x := Nat.ne_of_gt (Heap.lt_size hx)
  have X4 : K.In h4 := fun a o e => k4 a o (fun z => by rw [z, hnx] at e; cases e) (k3 _ _ (X2 _ _ e))
  have hns4 : h4.Ns s.heap.objs.size (fun y => [(Str.ofString "self", Value.ref x), (Str.ofString "slot", v)].reverse.lookup y) := by
    obtain ⟨oL, es, ep, hL, r⟩ := hns
    exact ⟨oL, es, ep, k4 _ _ hxL (k3 _ _ (k2 _ _ hL)), r⟩
  refine wpAt_of_wpAny (wpAny_execs_cons (plainObj_wpAny_Assign_Attribute ?_))
  refine wpAny_Name (wpAny_loadName_local rfl rfl hns4 (show (_ : Option Value) = some v from rfl) ?_) (by decide)
  refine wpAny_Name (wpAny_loadName_local rfl rfl hns4 (show (_ : Option Value) = some (.ref x) from rfl) ?_) (by decide)
  refine set_plain X4 (ox := excO C t1) (od := none) ⟨hx4, rfl, rfl, trivial⟩ T.sa ?_
  refine exc_osa X4 hx4 hcl (show refsVE (.ref C :: bm) = true from hbm) rfl T.noN (fun h5 tk5 dx k5 dn dne hx5 hn5 => ?_)
  show wpAny _ _ (execs _ _) _ _ _
  have keep : ∀ b o, b ≠ x → s.heap.get? b = some o → h5.get? b = some o := fun b o hb e => k5 b o hb (k4 b o hb (k03 b o e))
  have big : s.heap.objs.size ≤ dx := by
    obtain ⟨oL, _, _, hL, _⟩ := hns4
    exact Nat.le_of_lt (Nat.lt_of_lt_of_le (Heap.lt_size hL) dn)
  exact wpAny_execs_nil (hq h5 tk5 dx t1 ⟨keep, hx5, big, dne, hn5⟩)
/-- a made Mismatch -/
structure MismatchMade (h h' : Heap) (e C d : Addr) (v : Value) : Prop where
  keep : ∀ b o, h.get? b = some o → h'.get? b = some o
  new : h.objs.size ≤ e
  obj : ∃ oe vs, h'.get? e = some oe ∧ oe.cls = .ref C ∧ oe.dict = some d ∧ oe.data = .fields vs ∧ vs[1]? = some .none
  dbig : h.objs.size ≤ d
  dne : d ≠ e
  ns : h'.Ns1 d (fun y => if y = "slot" then some v else none)
theorem Mismatch_made (T : MismatchTxt prog K mg C fI) {v : Value} (X : K.In s.heap) (hlim : s.heap.NoLimit) (G : s.heap.Ns mainGlobals mg) (Bl : s.heap.Ns builtinsNs mb) (hb : mb "super" = bootBuiltins "super") (hroom : A.depth + 1 < recursionLimit)
    (hq : ∀ h' tk e d, MismatchMade s.heap h' e C d v → R (.ok (.ret (.ref e))) { s with heap := h', toks := tk }) :
    codeAny (model prog w) A (.call (.ref C) ⟨[v], []⟩) R s := by
  obtain ⟨nm, q, N, bs, bm, sn, sub, ab, col, dd, k0, k1, k2, k3, k5, hC, hbm⟩ := T.cls
  obtain ⟨hp, g, dr, tk, os⟩ := s
  have k : ∀ b o, hp.get? b = some o → ((hp.push (kdv_tup [v])).push (excO C hp.objs.size)).get? b = some o := fun b o e => Heap.get?_push_of_some _ (Heap.get?_push_of_some _ e)
  have hget : ((hp.push (kdv_tup [v])).push (excO C hp.objs.size)).get? (hp.objs.size + 1) = some (excO C hp.objs.size) := by heap_get
  have hnx : K.lookup (hp.objs.size + 1) = none := by
    cases e : K.lookup (hp.objs.size + 1) with
    | none => rfl
    | some o =>
      have z : hp.get? (hp.objs.size + 1) = some o := X _ _ e
      exact absurd (Nat.lt_of_succ_lt (Heap.lt_size z)) (Nat.lt_irrefl _)
  refine call_own F.excBase_ValueError (fun X => refsVE_contains X bm hbm) (X _ _ hC) (looks_findIn X T.iC) (fun self => bind_fn X self T.tC) (by show 1 ≤ sizeLine; rw [sizeLine_eq]; decide) ?_
  refine Mismatch_init (s := ⟨(hp.push (kdv_tup [v])).push (excO C hp.objs.size), g, dr, tk, os⟩) T (X.keeps k) (hlim.keeps k) (G.keeps k) (Bl.keeps k) hb hget hnx ?_ fun h' tk' dx t1 ⟨k', hx, dn, dne, hns⟩ => ?_
  · show A.depth + 1 < recursionLimit
    exact hroom
  · have old : ∀ b o, hp.get? b = some o → h'.get? b = some o := fun b o e => k' b o (Nat.ne_of_lt (Nat.lt_succ_of_lt (Heap.lt_size e))) (k b o e)
    have z : hp.objs.size + 1 + 1 ≤ dx := by
      first
        | (simpa only [Heap.size_push] using dn)
        | exact dn
        | (have q := dn; rw [Heap.size_push, Heap.size_push] at q; exact q)
    exact ⟨rfl, hq h' tk' (hp.objs.size + 1) dx ⟨old, Nat.le_succ _, ⟨_, _, hx, rfl, rfl, rfl, rfl⟩, Nat.le_trans (Nat.le_trans (Nat.le_succ _) (Nat.le_succ _)) z, dne, hns⟩⟩
end
end ZEX
end PySem
namespace L2
open PySem PySem.Spec PyProof.Rows
theorem relO_Mismatch {v : V} {v' : Value} (r : RelV v v') (f : Str) : RelO (List.lookup f [(("slot" : Str), v)]) (if f = "slot" then some v' else none) := by
  by_cases hw : f = "slot"
  · subst hw
    rw [if_pos rfl]
    have q : List.lookup ("slot" : Str) [(("slot" : Str), v)] = some v := by simp [List.lookup]
    rw [q]
    exact r
  · rw [if_neg hw]
    have qw : (f == ("slot" : Str)) = false := by simpa using hw
    have q2 : List.lookup f [(("slot" : Str), v)] = none := by simp [List.lookup, qw]
    rw [q2]
    trivial
section
variable {X : Cx} {C fI : Addr}
/-- Mismatch(e) -/
def tMkMismatch (C : Addr) (ta : TA) : St → Hp → XK → Prop := fun σ H Q => ta σ H fun vs H1 => ∃ v, vs = [v] ∧ ∀ d, H1 d = none → Q (.ref C) (some d) (upd H1 d (.xd [(("slot" : Str), v)]))
theorem pmk_Mismatch {a : Expr} {ta : TA} {p pos : Pos} {k : Nat} (T : PySem.ZEX.MismatchTxt X.prog X.K X.mg C fI) (hr : Room k X.A) (ha : PA X [a] ta) (hg : Gl X "Mismatch" := by rfl)
    (he : starEach (a :: []) X.env = (false, eval a X.env) :: starEach [] X.env := by rfl) (hpl : (backTo pos (starEach [] X.env)).any (·.1) = false := by rfl) :
    PMk X (.Call (.Name "Mismatch" p) [a] [] pos) (tMkMismatch C ta) := by
  intro pins s σ H Q I h
  refine wpAny_Call_Name_kw (ld_glob I hg T.gC ?_)
  refine PySem.W.callWith_K (h₀ := X.base) I.ok.mod.kin T.kC (thn (ha.run pos pins s σ H _ I h) fun us s1 hh => ?_) he hpl
  obtain ⟨vs, H1, I1, r1, v, ev, q1⟩ := hh
  subst ev
  refine ⟨I1.kIn, ?_⟩
  cases r1 with
  | cons rv rn =>
    rename_i v' us'
    cases rn
    show wpAny _ _ (call (.ref C) [v']) _ _ _
    have hlim := I1.nolimit
    obtain ⟨mb, h1, h2⟩ := I1.mod.blt
    have hG := I1.mod.glob.keeps I1.bk
    have hB := h1.keeps I1.bk
    obtain ⟨hp, g, dr, tk, os⟩ := s1
    refine wpAny_call (PySem.ZEX.Mismatch_made T I1.kIn hlim hG hB (h2 _ (by decide)) (by have := hr.dp; omega) fun h' tk' e d M => ?_)
    show MkP X pins σ Q (.ref e) ⟨h', g, dr, tk', os⟩
    obtain ⟨oe, fv, hoe, hc, hd, hdat, h1⟩ := M.obj
    have hns := M.ns
    obtain ⟨G', g1, g2⟩ := restrict h' fun b => decide (b ≠ e)
    have gk : ∀ b, b ≠ e → G'.get? b = h'.get? b := fun b hb => g1 b (decide_eq_true hb)
    have ge : G'.get? e = none := g2 e (by simp)
    have old : ∀ b o, hp.get? b = some o → G'.get? b = some o := fun b o q => (gk b (Nat.ne_of_lt (Nat.lt_of_lt_of_le (Heap.lt_size q) M.new))).trans (M.keep b o q)
    have ob : ObjOk X.prog X.w (upd H1 d (.xd [(("slot" : Str), v)])) G' d (.xd [(("slot" : Str), v)]) :=
      ⟨_, hns.at (fun o q => (gk d M.dne).trans q), fun f => relO_Mismatch rv f⟩
    have J : Inv X pins σ (upd H1 d (.xd [(("slot" : Str), v)])) ⟨G', g, dr, tk', os⟩ := I1.laid (t' := tk') old M.dbig ob
    refine ⟨e, oe, fv, ⟨G', g, dr, tk', os⟩, _, .ref C, some d, rfl, J, fun b o q => ?_, ge, hoe, ⟨hc, hd⟩, hdat, h1, ?_, rfl, I1.bare, raises_own T.exC T.tyC, q1 d (I1.hok.fresh M.dbig)⟩
    · by_cases hb : b = e
      · have q' : G'.get? b = some o := q
        rw [hb, ge] at q'; cases q'
      · exact (gk b hb).symm.trans q
    · rw [upd_ne (Ne.symm M.dne)]
      exact I1.hok.fresh M.new
end
end L2

set_option Elab.async false
set_option linter.all false
set_option maxRecDepth 100000
set_option maxHeartbeats 8000000
namespace Law
open PySem PySem.Spec L2 Zk
open PyProof.Rows hiding St
local macro_rules | `(tactic| walk_at "ne") => `(tactic| first
  | assumption
  | exact Ne.symm (by assumption)
  | (refine ne_of_none (H := ?zg) (o := ?zo) ?zh ?zn; (case zn => assumption); (case zh => walk_at "hold"))
  | (refine Ne.symm (ne_of_none (H := ?zg) (o := ?zo) ?zh ?zn); (case zn => assumption); (case zh => walk_at "hold")))
local macro_rules | `(tactic| walk_at "nm") => `(tactic| first
  | exact List.not_mem_nil
  | (refine nm1 ?_; walk_at "ne")
  | (refine nm2 ?_ ?_ <;> walk_at "ne")
  | assumption)
local macro_rules | `(tactic| walk_at "hold") => `(tactic| first
  | assumption
  | (refine Ext.get (M := ?em) (H := ?eg) ?ek ?eh ?en; (case ek => assumption); (case eh => walk_at "hold"); (case en => first | exact Or.inr trivial | (refine Or.inl ?_; walk_at "nm")))
  | (refine sql ?_; walk_at "hold")
  | (refine sqt ?_; walk_at "hold")
  | (refine Scr.ext (M := ?em) (H := ?eg) ?ek ?eh; (case ek => assumption); (case eh => walk_at "hold"))
  | (refine Scr.sql ?_; walk_at "hold"))
local macro_rules | `(tactic| walk_at "go1") => `(tactic| first
  | (with_reducible refine w_seq ?_)
  | (with_reducible refine w_asg ?_)
  | (with_reducible refine w_gname ?_)
  | (with_reducible refine w_op ?_)
  | ((with_reducible refine w_var (v := ?zw) ?zv ?_); (case zv => exact rfl))
  | (with_reducible refine w_c ?_)
  | (with_reducible refine w_I0 ?_)
  | (with_reducible refine w_test ?_)
  | (with_reducible refine w_bl ?_)
  | (with_reducible refine w_eqI ?_)
  | (with_reducible refine w_neI ?_)
  | (with_reducible refine w_cb ?_)
  | (with_reducible refine w_cons ?_)
  | (with_reducible refine w_nil ?_)
  | (with_reducible refine w_int ?_)
  | (with_reducible refine w_call ?_)
  | (with_reducible refine w_ret ?_)
  | ((with_reducible refine w_I ?zc ?_); (case zc => first | exact Or.inr ⟨by decide, by decide⟩ | exact Or.inl ⟨by decide, by decide⟩ | (show (0 : Int) < _; first | decide | omega) | exact ⟨by decide, by decide⟩ | (show CPow _ _; exact ⟨by decide, by decide, by decide⟩) | (refine wide_mul (a := 200) (b := 200) ?_ ?_ (by decide) (by decide) (by decide) <;> omega)))
  | ((with_reducible refine w_ixL (xs := ?zx) (v := ?zw) ?zh ?ze ?_); (case zh => walk_at "hold"); (case ze => first | exact rfl | assumption))
  | ((with_reducible refine w_ixT (xs := ?zx) (v := ?zw) ?zh ?ze ?_); (case zh => walk_at "hold"); (case ze => first | exact rfl | assumption))
  | ((with_reducible refine w_lenL (xs := ?zx) ?zh ?_); (case zh => walk_at "hold"))
  | ((with_reducible refine w_lenT (xs := ?zx) ?zh ?_); (case zh => walk_at "hold"))
  | ((with_reducible refine w_lenD (kvs := ?zx) ?zh ?_); (case zh => walk_at "hold"))
  | (with_reducible refine w_gsub ?_)
  | ((with_reducible refine w_setL (xs := ?zx) (j := ?zj) ?zh ?ze ?_); (case zh => walk_at "hold"); (case ze => first | exact rfl | assumption))
  | (with_reducible refine w_and ?_)
  | (with_reducible refine w_or ?_)
  | (with_reducible refine w_not ?_)
  | (with_reducible refine w_tB ?_)
  | (with_reducible refine w_andV ?_)
  | (with_reducible refine w_orV ?_)
  | (with_reducible refine w_notV ?_)
  | (with_reducible refine w_next ?_)
  | (with_reducible refine w_drop ?_)
  | (with_reducible refine w_retN ?_)
  | (with_reducible refine w_tup ?_)
  | (with_reducible refine w_lst ?_)
  | (with_reducible refine w_un ?_)
  | (with_reducible refine w_rU ?_)
  | (with_reducible refine w_eqS ?_)
  | (with_reducible refine w_neS ?_)
  | (with_reducible refine w_isN ?_)
  | (with_reducible refine w_isNt ?_)
  | (with_reducible refine w_isB ?_)
  | (with_reducible refine w_ltS ?_)
  | (with_reducible refine w_dnewK ?_)
  | (with_reducible refine w_dnewT ?_)
  | (with_reducible refine w_break ?_)
  | (with_reducible refine w_cont ?_)
  | (with_reducible refine w_dget ?_)
  | (with_reducible refine w_din ?_)
  | (with_reducible refine w_dnotin ?_)
  | (with_reducible refine w_yes ?_)
  | (with_reducible refine w_m1 ?_)
  | (with_reducible refine w_gcons ?_)
  | (with_reducible refine w_gnil ?_)
  | (with_reducible refine w_sdput ?_)
  | ((with_reducible refine w_gtup (xs := ?zx) ?zh ?zl ?_); (case zh => walk_at "hold"); (case zl => exact rfl))
  | (with_reducible refine w_bm ?_)
  | (with_reducible refine w_bm0 ?_)
  | ((with_reducible refine w_tyL (xs := ?zx) ?zh ?_); (case zh => walk_at "hold"))
  | (with_reducible refine w_lc ?_)
  | (with_reducible refine w_for ?_)
  | (with_reducible refine w_str ?_)
  | (with_reducible refine w_iList ?_)
  | (with_reducible refine w_iTup ?_)
  | (with_reducible refine w_iRng1 ?_)
  | (with_reducible refine w_iRng2 ?_)
  | (with_reducible refine w_iStr ?_)
  | (with_reducible refine iteT ?_)
  | (with_reducible refine iteF ?_)
  | (with_reducible refine iteNF ?_)
  | (with_reducible refine iteNT ?_))
local macro_rules | `(tactic| walk_at "go") => `(tactic| repeat walk_at "go1")
local macro_rules | `(tactic| walk_at "goa") => `(tactic| repeat (first
  | ((with_reducible refine w_modA ?zc ?_); (case zc => first | decide | omega); (intro r r0 r1))
  | walk_at "go1"))
local macro_rules | `(tactic| walk_at "if") => `(tactic| ((with_reducible refine w_ifS ?_); walk_at "go"))
local macro_rules | `(tactic| walk_at "ife") => `(tactic| ((with_reducible refine w_if ?_); walk_at "go"))
def topS (i : Nat) : Stmt := PySem.Challenge.pw_storelife_k26_differences_that_do_not_fi.main.body.getD i (.Pass ⟨0, 0, 0, 0⟩)
abbrev s_slots_of_both : Stmt := topS 5
theorem sc_slots_of_both : FnScope ["one", "other", "slot"] ["one", "other"] (defScope s_slots_of_both) := ⟨rfl, rfl, rfl, by decide +kernel, rfl, by decide +kernel, by decide +kernel⟩
abbrev s_applied : Stmt := topS 6
theorem sc_applied : FnScope ["slots", "difference", "slot", "found", "held"] ["slots", "difference"] (defScope s_applied) := ⟨rfl, rfl, rfl, by decide +kernel, rfl, by decide +kernel, by decide +kernel⟩
abbrev s_composed : Stmt := topS 7
theorem sc_composed : FnScope ["one", "other", "slot", "found", "before", "after"] ["one", "other"] (defScope s_composed) := ⟨rfl, rfl, rfl, by decide +kernel, rfl, by decide +kernel, by decide +kernel⟩
abbrev s_law_mixed : Stmt := topS 9
theorem sc_law_mixed : FnScope ["number", "place", "first", "second", "third"] ["number", "place"] (defScope s_law_mixed) := ⟨rfl, rfl, rfl, by decide +kernel, rfl, by decide +kernel, by decide +kernel⟩
abbrev s_law_rest : Stmt := topS 10
theorem sc_law_rest : FnScope ["script", "place", "fills", "number"] ["script", "place", "fills"] (defScope s_law_rest) := ⟨rfl, rfl, rfl, by decide +kernel, rfl, by decide +kernel, by decide +kernel⟩
abbrev s_law_pool : Stmt := topS 11
theorem sc_law_pool : FnScope ["script"] ["script"] (defScope s_law_pool) := ⟨rfl, rfl, rfl, by decide +kernel, rfl, by decide +kernel, by decide +kernel⟩
abbrev s_law_next : Stmt := topS 12
theorem sc_law_next : FnScope ["pool"] ["pool"] (defScope s_law_next) := ⟨rfl, rfl, rfl, by decide +kernel, rfl, by decide +kernel, by decide +kernel⟩
abbrev s_law_draw : Stmt := topS 13
theorem sc_law_draw : FnScope ["pool", "limit", "value"] ["pool", "limit"] (defScope s_law_draw) := ⟨rfl, rfl, rfl, by decide +kernel, rfl, by decide +kernel, by decide +kernel⟩
abbrev s_law_pick : Stmt := topS 14
theorem sc_law_pick : FnScope ["pool", "options"] ["pool", "options"] (defScope s_law_pick) := ⟨rfl, rfl, rfl, by decide +kernel, rfl, by decide +kernel, by decide +kernel⟩
abbrev s_law_same : Stmt := topS 15
theorem sc_law_same : FnScope ["one", "other", "key", "k"] ["one", "other"] (defScope s_law_same) := ⟨rfl, rfl, rfl, by decide +kernel, rfl, by decide +kernel, by decide +kernel⟩
abbrev s_law_name : Stmt := topS 16
theorem sc_law_name : FnScope ["pool", "signs", "first", "k"] ["pool"] (defScope s_law_name) := ⟨rfl, rfl, rfl, by decide +kernel, rfl, by decide +kernel, by decide +kernel⟩
abbrev s_law_cells : Stmt := topS 17
theorem sc_law_cells : FnScope ["pool", "cells", "k"] ["pool"] (defScope s_law_cells) := ⟨rfl, rfl, rfl, by decide +kernel, rfl, by decide +kernel, by decide +kernel⟩
abbrev s_law_content : Stmt := topS 18
theorem sc_law_content : FnScope ["pool", "slot"] ["pool", "slot"] (defScope s_law_content) := ⟨rfl, rfl, rfl, by decide +kernel, rfl, by decide +kernel, by decide +kernel⟩
abbrev s_law_universe : Stmt := topS 19
theorem sc_law_universe : FnScope ["pool", "many", "k", "names", "found", "slot"] ["pool", "many"] (defScope s_law_universe) := ⟨rfl, rfl, rfl, by decide +kernel, rfl, by decide +kernel, by decide +kernel⟩
abbrev s_law_copy : Stmt := topS 20
theorem sc_law_copy : FnScope ["row", "found", "key"] ["row"] (defScope s_law_copy) := ⟨rfl, rfl, rfl, by decide +kernel, rfl, by decide +kernel, by decide +kernel⟩
abbrev s_law_without : Stmt := topS 21
theorem sc_law_without : FnScope ["row", "gone", "found", "key"] ["row", "gone"] (defScope s_law_without) := ⟨rfl, rfl, rfl, by decide +kernel, rfl, by decide +kernel, by decide +kernel⟩
abbrev s_law_moved : Stmt := topS 22
theorem sc_law_moved : FnScope ["pool", "slots", "state", "most", "found", "k", "slot"] ["pool", "slots", "state", "most"] (defScope s_law_moved) := ⟨rfl, rfl, rfl, by decide +kernel, rfl, by decide +kernel, by decide +kernel⟩
abbrev s_law_applied : Stmt := topS 23
theorem sc_law_applied : FnScope ["slots", "difference", "wrong", "found", "slot"] ["slots", "difference"] (defScope s_law_applied) := ⟨rfl, rfl, rfl, by decide +kernel, rfl, by decide +kernel, by decide +kernel⟩
abbrev s_law_composed : Stmt := topS 24
theorem sc_law_composed : FnScope ["one", "other", "wrong", "found", "slot", "pair"] ["one", "other"] (defScope s_law_composed) := ⟨rfl, rfl, rfl, by decide +kernel, rfl, by decide +kernel, by decide +kernel⟩
abbrev s_law_difference : Stmt := topS 25
theorem sc_law_difference : FnScope ["pool", "slots", "state", "before", "found", "k", "slot", "pair", "side"] ["pool", "slots", "state", "before"] (defScope s_law_difference) := ⟨rfl, rfl, rfl, by decide +kernel, rfl, by decide +kernel, by decide +kernel⟩
abbrev s_law_told : Stmt := topS 26
theorem sc_law_told : FnScope ["one", "other", "name", "e"] ["one", "other", "name"] (defScope s_law_told) := ⟨rfl, rfl, rfl, by decide +kernel, rfl, by decide +kernel, by decide +kernel⟩
abbrev s_law : Stmt := topS 27
theorem sc_law : FnScope ["script", "pool", "slots", "state", "steps", "last", "k", "step", "kept", "other", "one"] ["script"] (defScope s_law) := ⟨rfl, rfl, rfl, by decide +kernel, rfl, by decide +kernel, by decide +kernel⟩
structure Txt (K : PySem.W.Frag) (mg : Str → Option Value) where
  f_slots_of_both : Addr
  d_slots_of_both : FuncData
  F_slots_of_both : L2.Fun K "slots_of_both" "slots_of_both" s_slots_of_both f_slots_of_both d_slots_of_both
  g_slots_of_both : mg "slots_of_both" = some (.ref f_slots_of_both)
  k_slots_of_both : Binds K d_slots_of_both ["one", "other"] []
  f_applied : Addr
  d_applied : FuncData
  F_applied : L2.Fun K "applied" "applied" s_applied f_applied d_applied
  g_applied : mg "applied" = some (.ref f_applied)
  k_applied : Binds K d_applied ["slots", "difference"] []
  f_composed : Addr
  d_composed : FuncData
  F_composed : L2.Fun K "composed" "composed" s_composed f_composed d_composed
  g_composed : mg "composed" = some (.ref f_composed)
  k_composed : Binds K d_composed ["one", "other"] []
  f__law_mixed : Addr
  d__law_mixed : FuncData
  F__law_mixed : L2.Fun K "_law_mixed" "_law_mixed" s_law_mixed f__law_mixed d__law_mixed
  g__law_mixed : mg "_law_mixed" = some (.ref f__law_mixed)
  k__law_mixed : Binds K d__law_mixed ["number", "place"] []
  f__law_rest : Addr
  d__law_rest : FuncData
  F__law_rest : L2.Fun K "_law_rest" "_law_rest" s_law_rest f__law_rest d__law_rest
  g__law_rest : mg "_law_rest" = some (.ref f__law_rest)
  k__law_rest : Binds K d__law_rest ["script", "place", "fills"] []
  f__law_pool : Addr
  d__law_pool : FuncData
  F__law_pool : L2.Fun K "_law_pool" "_law_pool" s_law_pool f__law_pool d__law_pool
  g__law_pool : mg "_law_pool" = some (.ref f__law_pool)
  k__law_pool : Binds K d__law_pool ["script"] []
  f__law_next : Addr
  d__law_next : FuncData
  F__law_next : L2.Fun K "_law_next" "_law_next" s_law_next f__law_next d__law_next
  g__law_next : mg "_law_next" = some (.ref f__law_next)
  k__law_next : Binds K d__law_next ["pool"] []
  f__law_draw : Addr
  d__law_draw : FuncData
  F__law_draw : L2.Fun K "_law_draw" "_law_draw" s_law_draw f__law_draw d__law_draw
  g__law_draw : mg "_law_draw" = some (.ref f__law_draw)
  k__law_draw : Binds K d__law_draw ["pool", "limit"] []
  f__law_pick : Addr
  d__law_pick : FuncData
  F__law_pick : L2.Fun K "_law_pick" "_law_pick" s_law_pick f__law_pick d__law_pick
  g__law_pick : mg "_law_pick" = some (.ref f__law_pick)
  k__law_pick : Binds K d__law_pick ["pool", "options"] []
  f__law_same : Addr
  d__law_same : FuncData
  F__law_same : L2.Fun K "_law_same" "_law_same" s_law_same f__law_same d__law_same
  g__law_same : mg "_law_same" = some (.ref f__law_same)
  k__law_same : Binds K d__law_same ["one", "other"] []
  f__law_name : Addr
  d__law_name : FuncData
  F__law_name : L2.Fun K "_law_name" "_law_name" s_law_name f__law_name d__law_name
  g__law_name : mg "_law_name" = some (.ref f__law_name)
  k__law_name : Binds K d__law_name ["pool"] []
  f__law_cells : Addr
  d__law_cells : FuncData
  F__law_cells : L2.Fun K "_law_cells" "_law_cells" s_law_cells f__law_cells d__law_cells
  g__law_cells : mg "_law_cells" = some (.ref f__law_cells)
  k__law_cells : Binds K d__law_cells ["pool"] []
  f__law_content : Addr
  d__law_content : FuncData
  F__law_content : L2.Fun K "_law_content" "_law_content" s_law_content f__law_content d__law_content
  g__law_content : mg "_law_content" = some (.ref f__law_content)
  k__law_content : Binds K d__law_content ["pool", "slot"] []
  f__law_universe : Addr
  d__law_universe : FuncData
  F__law_universe : L2.Fun K "_law_universe" "_law_universe" s_law_universe f__law_universe d__law_universe
  g__law_universe : mg "_law_universe" = some (.ref f__law_universe)
  k__law_universe : Binds K d__law_universe ["pool", "many"] []
  f__law_copy : Addr
  d__law_copy : FuncData
  F__law_copy : L2.Fun K "_law_copy" "_law_copy" s_law_copy f__law_copy d__law_copy
  g__law_copy : mg "_law_copy" = some (.ref f__law_copy)
  k__law_copy : Binds K d__law_copy ["row"] []
  f__law_without : Addr
  d__law_without : FuncData
  F__law_without : L2.Fun K "_law_without" "_law_without" s_law_without f__law_without d__law_without
  g__law_without : mg "_law_without" = some (.ref f__law_without)
  k__law_without : Binds K d__law_without ["row", "gone"] []
  f__law_moved : Addr
  d__law_moved : FuncData
  F__law_moved : L2.Fun K "_law_moved" "_law_moved" s_law_moved f__law_moved d__law_moved
  g__law_moved : mg "_law_moved" = some (.ref f__law_moved)
  k__law_moved : Binds K d__law_moved ["pool", "slots", "state", "most"] []
  f__law_applied : Addr
  d__law_applied : FuncData
  F__law_applied : L2.Fun K "_law_applied" "_law_applied" s_law_applied f__law_applied d__law_applied
  g__law_applied : mg "_law_applied" = some (.ref f__law_applied)
  k__law_applied : Binds K d__law_applied ["slots", "difference"] []
  f__law_composed : Addr
  d__law_composed : FuncData
  F__law_composed : L2.Fun K "_law_composed" "_law_composed" s_law_composed f__law_composed d__law_composed
  g__law_composed : mg "_law_composed" = some (.ref f__law_composed)
  k__law_composed : Binds K d__law_composed ["one", "other"] []
  f__law_difference : Addr
  d__law_difference : FuncData
  F__law_difference : L2.Fun K "_law_difference" "_law_difference" s_law_difference f__law_difference d__law_difference
  g__law_difference : mg "_law_difference" = some (.ref f__law_difference)
  k__law_difference : Binds K d__law_difference ["pool", "slots", "state", "before"] []
  f__law_told : Addr
  d__law_told : FuncData
  F__law_told : L2.Fun K "_law_told" "_law_told" s_law_told f__law_told d__law_told
  g__law_told : mg "_law_told" = some (.ref f__law_told)
  k__law_told : Binds K d__law_told ["one", "other", "name"] []
  f_law : Addr
  d_law : FuncData
  F_law : L2.Fun K "law" "law" s_law f_law d_law
  g_law : mg "law" = some (.ref f_law)
  k_law : Binds K d_law ["script"] []
  b_ValueError : mg "ValueError" = none
  b_bool : mg "bool" = none
  b_dict : mg "dict" = none
  b_int : mg "int" = none
  b_isinstance : mg "isinstance" = none
  b_len : mg "len" = none
  b_list : mg "list" = none
  b_min : mg "min" = none
  b_range : mg "range" = none
  b_sorted : mg "sorted" = none
  b_str : mg "str" = none
  b_tuple : mg "tuple" = none
structure Errs (P : Program) (K : PySem.W.Frag) (mg : Str → Option Value) where
  C_StoreError : Addr
  g_StoreError : mg "StoreError" = some (.ref C_StoreError)
  C_Mismatch : Addr
  g_Mismatch : mg "Mismatch" = some (.ref C_Mismatch)
  C_NoMoment : Addr
  g_NoMoment : mg "NoMoment" = some (.ref C_NoMoment)
  I_Mismatch : Addr
  E_Mismatch : PySem.ZEX.MismatchTxt P K mg C_Mismatch I_Mismatch
  x_Mismatch : XfC K C_Mismatch
  i_Mismatch : ExcC K C_Mismatch
  t_Mismatch : PySem.W.exmOne K (.ref C_Mismatch) (.ref C_Mismatch) = some true
  k_store : PySem.W.kitOne K (.ref C_Mismatch) (.ref C_StoreError) = some true
  k_value : PySem.W.kitOne K (.ref C_Mismatch) (.type "ValueError") = some true
  k_nomo : PySem.W.kitOne K (.ref C_Mismatch) (.ref C_NoMoment) = some false
section
variable {P : Program} {w : World} {K : PySem.W.Frag} {mg : Str → Option Value} {base : Heap}

/-! ### the drawn numbers -/
def sp_law_mixed (K : PySem.W.Frag) : Sp := sp2 fun a b H Q => ∃ n p, a = .int n ∧ b = .int p ∧ ∀ v : Int, 0 ≤ v → Q (.int v) H
theorem ok_law_mixed (T : Txt K mg) : FnOk P w K mg base CX0 1 T.f__law_mixed T.d__law_mixed ["number", "place"] (sp_law_mixed K) := by
  refine T.F__law_mixed.ok sc_law_mixed len2 (fun cdv A outer s H vs Q E hr h => ?_)
  have nd := sc_law_mixed.nd
  have hu := hu_of hr
  obtain ⟨_, _, rfl, n, p, rfl, rfl, k⟩ := h
  refine ⟨_,
      (pss_cons (ps_set (i := 2) nd rfl (Or.inl rfl) (pe_op op_mod (pe_callTy zc_int (by rfl) T.b_int (by decide +kernel) (pa_cons (pe_op op_add (pe_op op_add (pe_op op_mul (pv 0) pe_int) (pe_op op_mul (pv 1) pe_int)) pe_int) pa_nil)) pe_int)) 
      (pss_cons (ps_set (i := 3) nd rfl (Or.inl rfl) (pe_op op_mod (pe_callTy zc_int (by rfl) T.b_int (by decide +kernel) (pa_cons (pe_op op_add (pe_op op_add (pe_op op_mulW (pv 2) (pv 2)) (pe_op op_mul pe_int (pv 2))) (pv 1)) pa_nil)) pe_int)) 
      (pss_cons (ps_set (i := 4) nd rfl (Or.inl rfl) (pe_op op_mod (pe_callTy zc_int (by rfl) T.b_int (by decide +kernel) (pa_cons (pe_op op_add (pe_op op_mulW (pv 3) (pv 3)) (pv 2)) pa_nil)) pe_int)) 
      (pss_one (ps_ret (pe_op op_add (pe_op op_mulW (pv 3) pe_int) (pv 4))))))), ?_⟩
  change (_ : TS) _ [some _, some _, none, none, none] _
  try dsimp only [cxOf, Cx.nox, Cx.wish]
  walk_at "goa"
  refine k _ ?_
  omega
def sp_law_rest (K : PySem.W.Frag) : Sp := sp3 fun a b c H Q => ∃ (sc : Addr) (ns : List Int) (p f : Int), a = .ref sc ∧ b = .int p ∧ c = .int f ∧ Scr K H sc (ns.map V.int) ∧ ∀ v : Int, 0 ≤ v → Q (.int v) H
theorem ok_law_rest (T : Txt K mg) : FnOk P w K mg base CX0 2 T.f__law_rest T.d__law_rest ["script", "place", "fills"] (sp_law_rest K) := by
  refine T.F__law_rest.ok sc_law_rest len3 (fun cdv A outer s H vs Q E hr h => ?_)
  have nd := sc_law_rest.nd
  have hu := hu_of hr
  obtain ⟨_, _, _, rfl, sc, ns, p, f, rfl, rfl, rfl, hS, k⟩ := h
  refine ⟨_,
      (pss_cons (ps_set (i := 3) nd rfl (Or.inl rfl) pe_int) 
      (pss_cons (ps_if (pt_cmpR op_gt (pe_callB zc_len (by rfl) T.b_len (by decide +kernel) (pa_cons (pv 0) pa_nil)) pe_int (nomark _)) 
        (pss_one (ps_set (i := 3) nd rfl (Or.inl rfl) (pe_callTy zc_int (by rfl) T.b_int (by decide +kernel) (pa_cons (pe_ix ix_list (pv 0) (pe_op op_mod (pe_callTy zc_int (by rfl) T.b_int (by decide +kernel) (pa_cons (pv 1) pa_nil)) (pe_callB zc_len (by rfl) T.b_len (by decide +kernel) (pa_cons (pv 0) pa_nil))) (fun _ _ => rfl)) pa_nil)))) pss_nil) 
      (pss_cons (ps_if (pt_cmpR op_lt (pv 3) pe_int (nomark _)) 
        (pss_one (ps_set (i := 3) nd rfl (Or.inl rfl) (pe_op op_sub pe_int (pe_op op_mul pe_int (pv 3))))) pss_nil) 
      (pss_cons (ps_if (PW.pt (pw_and (pt_cmpR op_eq (pv 2) pe_int (nomark _)) (pw_and (pt_cmpR op_lt (pv 1) (pe_callB zc_len (by rfl) T.b_len (by decide +kernel) (pa_cons (pv 0) pa_nil)) (nomark _)) (pw_and1 (pt_cmpR op_ge (pv 3) (pe_op op_pow pe_int pe_int) (nomark _)))))) 
        (pss_one (ps_ret (pe_op op_sub (pv 3) (pe_op op_pow pe_int pe_int)))) pss_nil) 
      (pss_one (ps_ret (pe_call (ok_law_mixed T) (hr.mono (by decide)) (by rfl) T.g__law_mixed T.F__law_mixed.kp T.k__law_mixed .nil pass0 (pa_cons (pe_op op_add (pv 3) (pe_op op_mul (pv 2) pe_int)) (pa_cons (pv 1) pa_nil))))))))), ?_⟩
  change (_ : TS) _ [some _, some _, some _, none] _
  try dsimp only [cxOf, Cx.nox, Cx.wish]
  have hS2 := hS.sql
  walk_at "go"
  refine w_cut (fun σ' H' => H = H' ∧ ∃ n : Int, σ' = [some (V.ref sc), some (V.int p), some (V.int f), some (V.int n)]) ?_ fun nx hn => ?_
  · rintro _ _ ⟨rfl, n, rfl⟩
    walk_at "go"
    refine w_cut (fun σ' H' => H = H' ∧ ∃ n : Int, 0 ≤ n ∧ σ' = [some (V.ref sc), some (V.int p), some (V.int f), some (V.int n)]) ?_ fun nx hn => ?_
    · rintro _ _ ⟨rfl, n, n0, rfl⟩
      walk_at "go"
      refine w_cut (fun σ' H' => H = H' ∧ σ' = [some (V.ref sc), some (V.int p), some (V.int f), some (V.int n)]) ?_ fun nx hn => ?_
      · rintro _ _ ⟨rfl, rfl⟩
        walk_at "go"
        exact w_sp2 ⟨_, _, rfl, rfl, k⟩
      · walk_at "if"
        refine w_d (fun h => ?_) fun h => ?_ <;> walk_at "go"
        · refine w_d (fun h => ?_) fun h => ?_ <;> walk_at "go"
          · refine w_d (fun h => ?_) fun h => ?_ <;> walk_at "go"
            · exact k _ (by omega)
            · exact hn _ _ ⟨rfl, rfl⟩
          · exact hn _ _ ⟨rfl, rfl⟩
        · exact hn _ _ ⟨rfl, rfl⟩
    · walk_at "if"
      refine w_d (fun h => ?_) fun h => ?_ <;> walk_at "go"
      · exact hn _ _ ⟨rfl, _, by omega, rfl⟩
      · exact hn _ _ ⟨rfl, _, by omega, rfl⟩
  · walk_at "if"
    refine w_d (fun h => ?_) fun h => ?_
    · walk_at "goa"
      rename_i r r0 r1
      rw [List.length_map] at r1
      obtain ⟨z, _, hz⟩ := at_map (f := V.int) r0 r1
      refine w_ixL hS2 hz ?_
      walk_at "go"
      exact hn _ _ ⟨rfl, _, rfl⟩
    · walk_at "go"
      exact hn _ _ ⟨rfl, _, rfl⟩
/-- the pool: the script, a place, what is left of the number, how often it was filled -/
def PoolAt (K : PySem.W.Frag) (H : Hp) (p : Addr) : Prop := ∃ (sc : Addr) (ns : List Int) (pl re fi : Int), H p = some (.lst [.ref sc, .int pl, .int re, .int fi]) ∧ Scr K H sc (ns.map V.int) ∧ 0 ≤ re
theorem PoolAt.ext {M : List Addr} {H H' : Hp} {p : Addr} (e : Ext M H H') (h : PoolAt K H p) (n : p ∉ M) : PoolAt K H' p := by
  obtain ⟨sc, ns, pl, re, fi, h1, h2, h3⟩ := h
  exact ⟨sc, ns, pl, re, fi, e.keep _ _ h1 n, h2.ext e, h3⟩
theorem PoolAt.ne {H : Hp} {p q : Addr} (h : PoolAt K H p) (n : H q = none) : p ≠ q := by
  obtain ⟨sc, ns, pl, re, fi, h1, h2, h3⟩ := h
  exact ne_of_none h1 n
def sp_law_pool (K : PySem.W.Frag) : Sp := sp1 fun a H Q => ∃ (sc : Addr) (ns : List Int), a = .ref sc ∧ Scr K H sc (ns.map V.int) ∧ ∀ p H', Ext [] H H' → H p = none → PoolAt K H' p → Q (.ref p) H'
theorem ok_law_pool (T : Txt K mg) : FnOk P w K mg base CX0 3 T.f__law_pool T.d__law_pool ["script"] (sp_law_pool K) := by
  refine T.F__law_pool.ok sc_law_pool len1 (fun cdv A outer s H vs Q E hr h => ?_)
  have nd := sc_law_pool.nd
  have hu := hu_of hr
  obtain ⟨_, rfl, sc, ns, rfl, hS, k⟩ := h
  refine ⟨_,
      (pss_one (ps_ret (pe_lstZ (pa_cons (pv 0) (pa_cons pe_int (pa_cons (pe_call (ok_law_rest T) (hr.mono (by decide)) (by rfl) T.g__law_rest T.F__law_rest.kp T.k__law_rest .nil pass0 (pa_cons (pv 0) (pa_cons pe_int (pa_cons pe_int pa_nil)))) (pa_cons pe_int pa_nil))))))), ?_⟩
  change (_ : TS) _ [some _] _
  try dsimp only [cxOf, Cx.nox, Cx.wish]
  walk_at "go"
  refine w_sp3 ⟨_, _, _, _, rfl, rfl, rfl, hS, fun v v0 => ?_⟩
  walk_at "go"
  refine ⟨sz (by show 4 ≤ _; decide), w_alc fun p H1 e1 n1 h1 => ?_⟩
  exact k p H1 e1 n1 ⟨sc, ns, _, _, _, h1, hS.ext e1, v0⟩
def sp_law_draw (K : PySem.W.Frag) : Sp := sp2 fun a b H Q => ∃ (p : Addr) (l : Int), a = .ref p ∧ b = .int l ∧ PoolAt K H p ∧ 0 < l ∧ l < 2 ^ 200 ∧ ∀ v H', 0 ≤ v → v < l → Ext [p] H H' → PoolAt K H' p → Q (.int v) H'
theorem ok_law_draw (T : Txt K mg) : FnOk P w K mg base CX0 3 T.f__law_draw T.d__law_draw ["pool", "limit"] (sp_law_draw K) := by
  refine T.F__law_draw.ok sc_law_draw len2 (fun cdv A outer s H vs Q E hr h => ?_)
  have nd := sc_law_draw.nd
  have hu := hu_of hr
  obtain ⟨_, _, rfl, p, l, rfl, rfl, hP, l0, l1, k⟩ := h
  refine ⟨_,
      (pss_cons (ps_if (pt_cmpR op_le (pe_ix ix_list (pv 0) pe_int (fun _ _ => rfl)) pe_int (nomark _)) 
        (pss_cons (ps_asg (pe_op op_add (pe_ix ix_list (pv 0) pe_int (fun _ _ => rfl)) pe_int) (pg_sub (pv 0) pe_int zset_list)) 
        (pss_one (ps_asg (pe_call (ok_law_rest T) (hr.mono (by decide)) (by rfl) T.g__law_rest T.F__law_rest.kp T.k__law_rest .nil pass0 (pa_cons (pe_ix ix_list (pv 0) pe_int (fun _ _ => rfl)) (pa_cons (pe_ix ix_list (pv 0) pe_int (fun _ _ => rfl)) (pa_cons (pe_ix ix_list (pv 0) pe_int (fun _ _ => rfl)) pa_nil)))) (pg_sub (pv 0) pe_int zset_list)))) pss_nil) 
      (pss_cons (ps_set (i := 2) nd rfl (Or.inl rfl) (pe_op op_mod (pe_callTy zc_int (by rfl) T.b_int (by decide +kernel) (pa_cons (pe_ix ix_list (pv 0) pe_int (fun _ _ => rfl)) pa_nil)) (pv 1))) 
      (pss_cons (ps_asg (pe_op op_fdivW (pe_callTy zc_int (by rfl) T.b_int (by decide +kernel) (pa_cons (pe_ix ix_list (pv 0) pe_int (fun _ _ => rfl)) pa_nil)) (pv 1)) (pg_sub (pv 0) pe_int zset_list)) 
      (pss_one (ps_ret (pv 2)))))), ?_⟩
  change (_ : TS) _ [some _, some _, none] _
  try dsimp only [cxOf, Cx.nox, Cx.wish]
  walk_at "go"
  refine w_cut (fun σ' H' => Ext [p] H H' ∧ PoolAt K H' p ∧ σ' = [some (V.ref p), some (V.int l), none]) ?_ fun nx hn => ?_
  · rintro _ H1 ⟨e1, ⟨sc, ns, pl, re, fi, h1, h2, h3⟩, rfl⟩
    walk_at "goa"
    rename_i r r0 r1
    refine w_I (wide_div (b := 200) l0 (by omega) (by decide) (by decide)) ?_
    walk_at "go"
    refine w_chg h1 (fun z => z) fun H2 e2 h4 => ?_
    walk_at "go"
    exact k r H2 r0 r1 (e1.trans e2) ⟨sc, ns, _, _, _, h4, h2.ext e2, Int.ediv_nonneg h3 (by omega)⟩
  · obtain ⟨sc, ns, pl, re, fi, h1, h2, h3⟩ := id hP
    walk_at "if"
    refine w_d (fun h => ?_) fun h => ?_ <;> walk_at "go"
    · refine w_chg h1 (fun z => z) fun H2 e2 h4 => ?_
      change H2 p = some (.lst [.ref sc, .int pl, .int re, .int (fi + 1)]) at h4
      walk_at "go"
      refine w_sp3 ⟨_, _, _, _, rfl, rfl, rfl, h2.ext e2, fun v v0 => ?_⟩
      walk_at "go"
      refine w_chg h4 (fun z => z) fun H3 e3 h5 => ?_
      exact hn _ _ ⟨e2.trans e3, ⟨sc, ns, _, _, _, h5, (h2.ext e2).ext e3, v0⟩, rfl⟩
    · exact hn _ _ ⟨Ext.refl, hP, rfl⟩
theorem w_draw {H : Hp} {p : Addr} {l : Int} {Q : VK} {E : XK} (hP : PoolAt K H p) (l0 : 0 < l) (l1 : l < 2 ^ 200) (k : ∀ v H', 0 ≤ v → v < l → Ext [p] H H' → PoolAt K H' p → Q (.int v) H') :
    sp_law_draw K ([.ref p, .int l] ++ []) H Q E := ⟨_, _, rfl, p, l, rfl, rfl, hP, l0, l1, k⟩

/-! ### the next cell of the script; a drawn item -/
def sp_law_next (K : PySem.W.Frag) : Sp := sp1 fun a H Q => ∃ p, a = .ref p ∧ PoolAt K H p ∧ ∀ H', Ext [p] H H' → PoolAt K H' p → Q .non H'
theorem ok_law_next (T : Txt K mg) : FnOk P w K mg base CX0 3 T.f__law_next T.d__law_next ["pool"] (sp_law_next K) := by
  refine T.F__law_next.ok sc_law_next len1 (fun cdv A outer s H vs Q E hr h => ?_)
  have nd := sc_law_next.nd
  have hu := hu_of hr
  obtain ⟨_, rfl, p, rfl, ⟨sc, ns, pl, re, fi, h1, h2, h3⟩, k⟩ := h
  refine ⟨_,
      (pss_cons (ps_asg (pe_op op_add (pe_ix ix_list (pv 0) pe_int (fun _ _ => rfl)) pe_int) (pg_sub (pv 0) pe_int zset_list)) 
      (pss_cons (ps_asg (pe_call (ok_law_rest T) (hr.mono (by decide)) (by rfl) T.g__law_rest T.F__law_rest.kp T.k__law_rest .nil pass0 (pa_cons (pe_ix ix_list (pv 0) pe_int (fun _ _ => rfl)) (pa_cons (pe_ix ix_list (pv 0) pe_int (fun _ _ => rfl)) (pa_cons pe_int pa_nil)))) (pg_sub (pv 0) pe_int zset_list)) 
      (pss_one (ps_asg pe_int (pg_sub (pv 0) pe_int zset_list))))), ?_⟩
  change (_ : TS) _ [some _] _
  try dsimp only [cxOf, Cx.nox, Cx.wish]
  walk_at "go"
  refine w_chg h1 (fun z => z) fun H1 e1 g1 => ?_
  change H1 p = some (.lst [.ref sc, .int (pl + 1), .int re, .int fi]) at g1
  walk_at "go"
  refine w_sp3 ⟨_, _, _, _, rfl, rfl, rfl, h2.ext e1, fun v v0 => ?_⟩
  walk_at "go"
  refine w_chg g1 (fun z => z) fun H2 e2 g2 => ?_
  change H2 p = some (.lst [.ref sc, .int (pl + 1), .int v, .int fi]) at g2
  walk_at "go"
  refine w_chg g2 (fun z => z) fun H3 e3 g3 => ?_
  exact k _ ((e1.trans e2).trans e3) ⟨sc, ns, _, _, _, g3, ((h2.ext e1).ext e2).ext e3, v0⟩
theorem w_next_ {H : Hp} {p : Addr} {Q : VK} {E : XK} (hP : PoolAt K H p) (k : ∀ H', Ext [p] H H' → PoolAt K H' p → Q .non H') : sp_law_next K ([.ref p] ++ []) H Q E := ⟨_, rfl, p, rfl, hP, k⟩
def sp_law_pick (K : PySem.W.Frag) : Sp := sp2 fun a b H Q => ∃ (p o : Addr) (xs : List V), a = .ref p ∧ b = .ref o ∧ PoolAt K H p ∧ H o = some (.lst xs) ∧ o ≠ p ∧ 0 < xs.length ∧ xs.length ≤ 1000 ∧ ∀ v H', v ∈ xs → Ext [p] H H' → PoolAt K H' p → Q v H'
theorem ok_law_pick (T : Txt K mg) : FnOk P w K mg base CX0 4 T.f__law_pick T.d__law_pick ["pool", "options"] (sp_law_pick K) := by
  refine T.F__law_pick.ok sc_law_pick len2 (fun cdv A outer s H vs Q E hr h => ?_)
  have nd := sc_law_pick.nd
  have hu := hu_of hr
  obtain ⟨_, _, rfl, p, o, xs, rfl, rfl, hP, ho, n, l0, l1, k⟩ := h
  refine ⟨_,
      (pss_one (ps_ret (pe_ix ix_list (pv 1) (pe_call (ok_law_draw T) (hr.mono (by decide)) (by rfl) T.g__law_draw T.F__law_draw.kp T.k__law_draw .nil pass0 (pa_cons (pv 0) (pa_cons (pe_callB zc_len (by rfl) T.b_len (by decide +kernel) (pa_cons (pv 1) pa_nil)) pa_nil))) (fun _ _ => rfl)))), ?_⟩
  change (_ : TS) _ [some _, some _] _
  try dsimp only [cxOf, Cx.nox, Cx.wish]
  walk_at "go"
  refine w_draw hP (by omega) (by omega) fun r H1 r0 r1 e1 hP1 => ?_
  obtain ⟨v, hv, hm⟩ := at_some r0 r1
  refine w_ixL (sql (e1.keep _ _ ho (nm1 n))) hv ?_
  exact k v H1 (List.mem_of_getElem? hm) e1 hP1
theorem w_pick {H : Hp} {p o : Addr} {xs : List V} {Q : VK} {E : XK} (hP : PoolAt K H p) (ho : H o = some (.lst xs)) (n : o ≠ p) (l0 : 0 < xs.length) (l1 : xs.length ≤ 1000) (k : ∀ v H', v ∈ xs → Ext [p] H H' → PoolAt K H' p → Q v H') :
    sp_law_pick K ([.ref p, .ref o] ++ []) H Q E := ⟨_, _, rfl, p, o, xs, rfl, rfl, hP, ho, n, l0, l1, k⟩

/-! ### _law_same of what is the same -/
def sp_same (n : Nat) (K : PySem.W.Frag) : Sp := sp2 fun a b H Q => (∃ U, Sm U n H a b) ∧ ∀ H', Ext [] H H' → Q (.bl true) H'
theorem ok_same_no (T : Txt K mg) : FnOk P w K mg base CX0 0 T.f__law_same T.d__law_same ["one", "other"] (sp_same 0 K) :=
  ⟨fun _ _ _ _ h => by obtain ⟨_, _, rfl, _⟩ := h; rfl, fun _ _ _ _ _ _ _ _ _ _ _ _ _ h => by obtain ⟨_, _, _, ⟨_, h⟩, _⟩ := h; exact h.elim⟩
theorem step_same (T : Txt K mg)  (n l : Nat) (ih : FnOk P w K mg base CX0 l T.f__law_same T.d__law_same ["one", "other"] (sp_same n K)) : FnOk P w K mg base CX0 (l+1) T.f__law_same T.d__law_same ["one", "other"] (sp_same (n+1) K) := by
  refine T.F__law_same.ok sc_law_same len2 (fun cdv A outer s H vs Q E hr h => ?_)
  have nd := sc_law_same.nd
  have hu := hu_of hr
  obtain ⟨a, b, rfl, ⟨U, h⟩, k⟩ := h
  refine ⟨_,
      (pss_cons (ps_if (pt_cmpR zop_isN (pv 0) pe_non (nomark _)) 
        (pss_one (ps_ret (pe_cmpR zop_isN (pv 1) pe_non (nomark _)))) pss_nil) 
      (pss_cons (ps_if (PW.pt (pw_or (pt_val (pe_callB call_isi (by rfl) T.b_isinstance (by decide +kernel) (pa_cons (pv 0) (pa_cons (pe_bltn (v := .ty "bool") (by rfl) T.b_bool (by decide +kernel) rfl) pa_nil)))) (pw_or1 (pt_val (pe_callB call_isi (by rfl) T.b_isinstance (by decide +kernel) (pa_cons (pv 1) (pa_cons (pe_bltn (v := .ty "bool") (by rfl) T.b_bool (by decide +kernel) rfl) pa_nil))))))) 
        (pss_one (ps_ret (pe_and (pe_callB call_isi (by rfl) T.b_isinstance (by decide +kernel) (pa_cons (pv 0) (pa_cons (pe_bltn (v := .ty "bool") (by rfl) T.b_bool (by decide +kernel) rfl) pa_nil))) (pe_and (pe_callB call_isi (by rfl) T.b_isinstance (by decide +kernel) (pa_cons (pv 1) (pa_cons (pe_bltn (v := .ty "bool") (by rfl) T.b_bool (by decide +kernel) rfl) pa_nil))) (pe_one (pe_cmpR op_eq (pv 0) (pv 1) (nomark _))))))) pss_nil) 
      (pss_cons (ps_if (pt_val (pe_callB call_isi (by rfl) T.b_isinstance (by decide +kernel) (pa_cons (pv 0) (pa_cons (pe_bltn (v := .ty "int") (by rfl) T.b_int (by decide +kernel) rfl) pa_nil)))) 
        (pss_one (ps_ret (pe_and (pe_callB call_isi (by rfl) T.b_isinstance (by decide +kernel) (pa_cons (pv 1) (pa_cons (pe_bltn (v := .ty "int") (by rfl) T.b_int (by decide +kernel) rfl) pa_nil))) (pe_one (pe_cmpR op_eq (pv 0) (pv 1) (nomark _)))))) pss_nil) 
      (pss_cons (ps_if (pt_val (pe_callB call_isi (by rfl) T.b_isinstance (by decide +kernel) (pa_cons (pv 0) (pa_cons (pe_bltn (v := .ty "str") (by rfl) T.b_str (by decide +kernel) rfl) pa_nil)))) 
        (pss_one (ps_ret (pe_and (pe_callB call_isi (by rfl) T.b_isinstance (by decide +kernel) (pa_cons (pv 1) (pa_cons (pe_bltn (v := .ty "str") (by rfl) T.b_str (by decide +kernel) rfl) pa_nil))) (pe_one (pe_cmpR op_eq (pv 0) (pv 1) (nomark _)))))) pss_nil) 
      (pss_cons (ps_if (pt_val (pe_callB call_isi (by rfl) T.b_isinstance (by decide +kernel) (pa_cons (pv 0) (pa_cons (pe_bltn (v := .ty "dict") (by rfl) T.b_dict (by decide +kernel) rfl) pa_nil)))) 
        (pss_cons (ps_if (PW.pt (pw_or (pt_not (pt_val (pe_callB call_isi (by rfl) T.b_isinstance (by decide +kernel) (pa_cons (pv 1) (pa_cons (pe_bltn (v := .ty "dict") (by rfl) T.b_dict (by decide +kernel) rfl) pa_nil))))) (pw_or1 (pt_cmpR op_ne (pe_callB zc_lenX (by rfl) T.b_len (by decide +kernel) (pa_cons (pv 0) pa_nil)) (pe_callB zc_lenX (by rfl) T.b_len (by decide +kernel) (pa_cons (pv 1) pa_nil)) (nomark _))))) 
          (pss_one (ps_ret pe_bl)) pss_nil) 
        (pss_cons (ps_lock (ps_for PassesOwn.never rfl (pi_keys (pv 0)) (pg_name (i := 2) nd rfl (Or.inl rfl)) 
          (pss_one (ps_if (PW.pt (pw_or (pt_cmp (pc_dnotin hu (pv 2) (pv 1))) (pw_or1 (pt_not (pt_val (pe_call ih (hr.mono (by omega)) (by rfl) T.g__law_same T.F__law_same.kp T.k__law_same .nil pass0 (pa_cons (pe_dget hu (pv 0) (pv 2) (fun _ _ => rfl)) (pa_cons (pe_dget hu (pv 1) (pv 2) (fun _ _ => rfl)) pa_nil)))))))) 
            (pss_one (ps_ret pe_bl)) pss_nil)))) 
        (pss_one (ps_ret (pe_call ih (hr.mono (by omega)) (by rfl) T.g__law_same T.F__law_same.kp T.k__law_same .nil pass0 (pa_cons (pe_callB (zc_sortT rfl) (by rfl) T.b_sorted (by decide +kernel) (pa_cons (pv 0) pa_nil)) (pa_cons (pe_callB (zc_sortT rfl) (by rfl) T.b_sorted (by decide +kernel) (pa_cons (pv 1) pa_nil)) pa_nil))))))) pss_nil) 
      (pss_cons (ps_if (PW.pt (pw_and (pt_val (pe_callB call_isi (by rfl) T.b_isinstance (by decide +kernel) (pa_cons (pv 0) (pa_cons (pe_bltn (v := .ty "tuple") (by rfl) T.b_tuple (by decide +kernel) rfl) pa_nil)))) (pw_and1 (pt_not (pt_val (pe_callB call_isi (by rfl) T.b_isinstance (by decide +kernel) (pa_cons (pv 1) (pa_cons (pe_bltn (v := .ty "tuple") (by rfl) T.b_tuple (by decide +kernel) rfl) pa_nil)))))))) 
        (pss_one (ps_ret pe_bl)) pss_nil) 
      (pss_cons (ps_if (PW.pt (pw_and (pt_val (pe_callB call_isi (by rfl) T.b_isinstance (by decide +kernel) (pa_cons (pv 0) (pa_cons (pe_bltn (v := .ty "list") (by rfl) T.b_list (by decide +kernel) rfl) pa_nil)))) (pw_and1 (pt_not (pt_val (pe_callB call_isi (by rfl) T.b_isinstance (by decide +kernel) (pa_cons (pv 1) (pa_cons (pe_bltn (v := .ty "list") (by rfl) T.b_list (by decide +kernel) rfl) pa_nil)))))))) 
        (pss_one (ps_ret pe_bl)) pss_nil) 
      (pss_cons (ps_if (pt_cmpR op_ne (pe_callB zc_lenX (by rfl) T.b_len (by decide +kernel) (pa_cons (pv 0) pa_nil)) (pe_callB zc_lenX (by rfl) T.b_len (by decide +kernel) (pa_cons (pv 1) pa_nil)) (nomark _)) 
        (pss_one (ps_ret pe_bl)) pss_nil) 
      (pss_cons (ps_for PassesOwn.never rfl (pi_range1 (by rfl) T.b_range (pa_cons (pe_callB zc_lenX (by rfl) T.b_len (by decide +kernel) (pa_cons (pv 0) pa_nil)) pa_nil)) (pg_name (i := 3) nd rfl (Or.inl rfl)) 
        (pss_one (ps_if (pt_not (pt_val (pe_call ih (hr.mono (by omega)) (by rfl) T.g__law_same T.F__law_same.kp T.k__law_same .nil pass0 (pa_cons (pe_ix ix_seq (pv 0) (pv 3) (fun _ _ => rfl)) (pa_cons (pe_ix ix_seq (pv 1) (pv 3) (fun _ _ => rfl)) pa_nil))))) 
          (pss_one (ps_ret pe_bl)) pss_nil))) 
      (pss_one (ps_ret pe_bl))))))))))), ?_⟩
  change (_ : TS) _ [some _, some _, none, none] _
  try dsimp only [cxOf, Cx.nox, Cx.wish]
  rcases h with ⟨d, ld, i, j⟩ | ⟨p, q, xs, ys, rfl, rfl, hp, hq, lz, hw⟩ | ⟨l3, hU, p, q, f, rfl, rfl, hp, hq, hw⟩
  · cases i with
    | non =>
      cases j
      walk_at "go"; walk_at "if"
      refine w_t rfl ?_
      walk_at "go"
      exact k _ Ext.refl
    | bl z =>
      cases j
      walk_at "go"; walk_at "if"
      refine w_f rfl ?_; walk_at "go"; walk_at "if"
      refine w_isi (k := true) (.ty _) (.base (.bl _)) (kit_ty (by decide +kernel)) ?_
      walk_at "go"
      refine w_isi (k := true) (.ty _) (.base (.bl _)) (kit_ty (by decide +kernel)) ?_
      refine w_bl ?_
      walk_at "go"
      refine w_isi (k := true) (.ty _) (.base (.bl _)) (kit_ty (by decide +kernel)) ?_
      refine w_bl ?_
      walk_at "go"
      refine w_eq rfl ?_
      rw [decide_eq_true rfl]
      exact k _ Ext.refl
    | int z =>
      cases j
      walk_at "go"; walk_at "if"
      refine w_f rfl ?_; walk_at "go"; walk_at "if"
      refine w_isi (k := false) (.ty _) (.base (.int _)) (kit_ty (by decide +kernel)) ?_
      walk_at "go"
      refine w_isi (k := false) (.ty _) (.base (.int _)) (kit_ty (by decide +kernel)) ?_
      walk_at "go"; walk_at "if"
      refine w_isi (k := true) (.ty _) (.base (.int _)) (kit_ty (by decide +kernel)) ?_
      walk_at "go"
      refine w_isi (k := true) (.ty _) (.base (.int _)) (kit_ty (by decide +kernel)) ?_
      refine w_bl ?_
      walk_at "go"
      rw [decide_eq_true rfl]
      exact k _ Ext.refl
    | str z =>
      cases j
      walk_at "go"; walk_at "if"
      refine w_f rfl ?_; walk_at "go"; walk_at "if"
      refine w_isi (k := false) (.ty _) (.base (.str _)) (kit_ty (by decide +kernel)) ?_
      walk_at "go"
      refine w_isi (k := false) (.ty _) (.base (.str _)) (kit_ty (by decide +kernel)) ?_
      walk_at "go"; walk_at "if"
      refine w_isi (k := false) (.ty _) (.base (.str _)) (kit_ty (by decide +kernel)) ?_
      walk_at "go"; walk_at "if"
      refine w_isi (k := true) (.ty _) (.base (.str _)) (kit_ty (by decide +kernel)) ?_
      walk_at "go"
      refine w_isi (k := true) (.ty _) (.base (.str _)) (kit_ty (by decide +kernel)) ?_
      refine w_bl ?_
      walk_at "go"
      rw [decide_eq_true rfl]
      exact k _ Ext.refl
    | @tup p xs ds ha lz wa =>
      cases j with
      | @tup q ys _ hb _ wb =>
        have la := wa.len
        have lb := wb.len
        have ta := TyX.base (K := K) (.tup ha)
        have tb := TyX.base (K := K) (.tup hb)
        walk_at "go"; walk_at "if"
        refine w_f rfl ?_; walk_at "go"; walk_at "if"
        refine w_isi (k := false) (.ty _) ta (kit_ty (by decide +kernel)) ?_
        walk_at "go"
        refine w_isi (k := false) (.ty _) tb (kit_ty (by decide +kernel)) ?_
        walk_at "go"; walk_at "if"
        refine w_isi (k := false) (.ty _) ta (kit_ty (by decide +kernel)) ?_
        walk_at "go"; walk_at "if"
        refine w_isi (k := false) (.ty _) ta (kit_ty (by decide +kernel)) ?_
        walk_at "go"; walk_at "if"
        refine w_isi (k := false) (.ty _) ta (kit_ty (by decide +kernel)) ?_
        walk_at "go"; walk_at "if"
        refine w_isi (k := true) (.ty _) ta (kit_ty (by decide +kernel)) ?_
        walk_at "go"
        refine w_isi (k := true) (.ty _) tb (kit_ty (by decide +kernel)) ?_
        walk_at "go"; walk_at "if"
        refine w_isi (k := false) (.ty _) ta (kit_ty (by decide +kernel)) ?_
        walk_at "go"; walk_at "if"
        refine w_lenX (.inr (sqt ha)) ?_
        walk_at "go"
        refine w_lenX (.inr (sqt hb)) ?_
        walk_at "go"
        refine w_f (by rw [la, lb]; simp) ?_
        walk_at "go"
        refine w_lenX (.inr (sqt ha)) ?_
        refine w_nil ?_
        refine ⟨_, rfl, by omega, by omega, ?_⟩
        rw [Int.toNat_natCast]
        refine z_for_range (fun i σ' H' => Ext [] H H' ∧ ∃ v, σ' = [some (.ref p), some (.ref q), none, v]) ⟨Ext.refl, _, rfl⟩ ?_ ?_
        · rintro N i σ' H1 hi ⟨e1, v, rfl⟩ hN
          walk_at "go"; walk_at "if"
          obtain ⟨d, hd⟩ : ∃ d, ds[i]? = some d := ⟨_, List.getElem?_eq_getElem (by omega)⟩
          obtain ⟨x, hx, ix⟩ := wa.at hd
          obtain ⟨y, hy, iy⟩ := wb.at hd
          refine w_ixA (.inr (sqt (e1.tup ha))) (at_nat0 hx) ?_
          walk_at "go"
          refine w_ixA (.inr (sqt (e1.tup hb))) (at_nat0 hy) ?_
          walk_at "go"
          have dm := depthAll_mem (List.mem_of_getElem? hd)
          rw [depth_tup] at ld
          refine w_sp2 ⟨⟨U, Sm.im (d := d) (by omega) (ix.ext e1) (iy.ext e1)⟩, fun H2 e2 => ?_⟩
          walk_at "go"
          exact hN _ _ ⟨e1.trans e2, _, rfl⟩
        · rintro σ' H1 ⟨e1, v, rfl⟩
          walk_at "go"
          exact k _ e1
  · have ta := TyX.base (K := K) (.lst hp)
    have tb := TyX.base (K := K) (.lst hq)
    have la := paired_len hw
    walk_at "go"; walk_at "if"
    refine w_f rfl ?_; walk_at "go"; walk_at "if"
    refine w_isi (k := false) (.ty _) ta (kit_ty (by decide +kernel)) ?_
    walk_at "go"
    refine w_isi (k := false) (.ty _) tb (kit_ty (by decide +kernel)) ?_
    walk_at "go"; walk_at "if"
    refine w_isi (k := false) (.ty _) ta (kit_ty (by decide +kernel)) ?_
    walk_at "go"; walk_at "if"
    refine w_isi (k := false) (.ty _) ta (kit_ty (by decide +kernel)) ?_
    walk_at "go"; walk_at "if"
    refine w_isi (k := false) (.ty _) ta (kit_ty (by decide +kernel)) ?_
    walk_at "go"; walk_at "if"
    refine w_isi (k := false) (.ty _) ta (kit_ty (by decide +kernel)) ?_
    walk_at "go"; walk_at "if"
    refine w_isi (k := true) (.ty _) ta (kit_ty (by decide +kernel)) ?_
    walk_at "go"
    refine w_isi (k := true) (.ty _) tb (kit_ty (by decide +kernel)) ?_
    walk_at "go"; walk_at "if"
    refine w_lenX (.inl (sql hp)) ?_
    walk_at "go"
    refine w_lenX (.inl (sql hq)) ?_
    walk_at "go"
    refine w_f (by rw [la]; simp) ?_
    walk_at "go"
    refine w_lenX (.inl (sql hp)) ?_
    refine w_nil ?_
    refine ⟨_, rfl, by omega, by omega, ?_⟩
    rw [Int.toNat_natCast]
    refine z_for_range (fun i σ' H' => Ext [] H H' ∧ ∃ v, σ' = [some (.ref p), some (.ref q), none, v]) ⟨Ext.refl, _, rfl⟩ ?_ ?_
    · rintro N i σ' H1 hi ⟨e1, v, rfl⟩ hN
      walk_at "go"; walk_at "if"
      obtain ⟨x, hx⟩ : ∃ d, xs[i]? = some d := ⟨_, List.getElem?_eq_getElem (by omega)⟩
      obtain ⟨y, hy, hs⟩ := paired_at hw hx
      refine w_ixA (.inl (sql (e1.keep _ _ hp List.not_mem_nil))) (at_nat0 hx) ?_
      walk_at "go"
      refine w_ixA (.inl (sql (e1.keep _ _ hq List.not_mem_nil))) (at_nat0 hy) ?_
      walk_at "go"
      refine w_sp2 ⟨⟨U, hs.ext e1⟩, fun H2 e2 => ?_⟩
      walk_at "go"
      exact hN _ _ ⟨e1.trans e2, _, rfl⟩
    · rintro σ' H1 ⟨e1, v, rfl⟩
      walk_at "go"
      exact k _ e1
  · obtain ⟨kvs, ks, hp, mp⟩ := hp
    obtain ⟨kvs', ks', hq, mq⟩ := hq
    have ta := TyX.base (K := K) (.dT hp)
    have tb := TyX.base (K := K) (.dT hq)
    walk_at "go"; walk_at "if"
    refine w_f rfl ?_; walk_at "go"; walk_at "if"
    refine w_isi (k := false) (.ty _) ta (kit_ty (by decide +kernel)) ?_
    walk_at "go"
    refine w_isi (k := false) (.ty _) tb (kit_ty (by decide +kernel)) ?_
    walk_at "go"; walk_at "if"
    refine w_isi (k := false) (.ty _) ta (kit_ty (by decide +kernel)) ?_
    walk_at "go"; walk_at "if"
    refine w_isi (k := false) (.ty _) ta (kit_ty (by decide +kernel)) ?_
    walk_at "go"; walk_at "if"
    refine w_isi (k := true) (.ty _) ta (kit_ty (by decide +kernel)) ?_
    walk_at "go"; walk_at "if"
    refine w_isi (k := true) (.ty _) tb (kit_ty (by decide +kernel)) ?_
    walk_at "go"
    refine w_lenXT hp ?_
    walk_at "go"
    refine w_lenXT hq ?_
    walk_at "go"
    have lk : kvs.length = kvs'.length := by rw [mp.len, mq.len]; exact (mp.perm mq).length_eq
    refine w_f (by rw [lk]; simp) ?_
    walk_at "go"
    refine w_lock hp trivial (fun z => z) fun od H1 L => ?_
    walk_at "go"
    refine w_keysT rfl L.at ?_
    have dp1 : DR U H1 p f := DR.lk ⟨kvs, ks, .inl hp, mp⟩ L
    have dq1 : DR U H1 q f := DR.lk ⟨kvs', ks', .inl hq, mq⟩ L
    refine z_for_keysT mp (fun i σ' H' => Ext [] H1 H' ∧ ∃ v, σ' = [some (.ref p), some (.ref q), v, none]) ⟨Ext.refl, _, rfl⟩ (fun i σ' H' _ ⟨e, _⟩ => e.imm _ _ L.at trivial) ?_ ?_
    · rintro N i sl d b σ' H2 hi hf hb ⟨e2, v, rfl⟩ hN
      have dp2 := dp1.ext e2 List.not_mem_nil
      have dq2 := dq1.ext e2 List.not_mem_nil
      walk_at "go"; walk_at "if"
      refine w_dinT dq2 hb fun o ho => ?_
      rw [ho, hf]
      walk_at "go"
      refine w_f rfl ?_
      walk_at "go"
      refine w_dgetT dp2 hb hf fun x ix => ?_
      walk_at "go"
      refine w_dgetT dq2 hb hf fun y iy => ?_
      walk_at "go"
      refine w_sp2 ⟨⟨U, Sm.im (d := d) (hw _ _ hf) ix iy⟩, fun H3 e3 => ?_⟩
      walk_at "go"
      exact hN _ _ ⟨e2.trans e3, _, rfl⟩
    · rintro σ' H2 ⟨e2, v, rfl⟩
      refine w_unlock L e2 fun H3 e3 _ => ?_
      walk_at "go"
      have dp3 : DR U H3 p f := (DM.dr ⟨kvs, ks, hp, mp⟩).ext e3 List.not_mem_nil
      have dq3 : DR U H3 q f := (DM.dr ⟨kvs', ks', hq, mq⟩).ext e3 List.not_mem_nil
      refine w_sortT dp3 fun p1 bs1 ts1 H4 e4 n4 h4 s4 nd4 m4 z4 o4 => ?_
      walk_at "go"
      refine w_sortT (dq3.ext e4 List.not_mem_nil) fun p2 bs2 ts2 H5 e5 n5 h5 s5 nd5 m5 z5 o5 => ?_
      have et : ts1 = ts2 := sorted_uniq ((List.perm_ext_iff_of_nodup nd4 nd5).mpr fun s => by rw [m4, m5]) o4 o5
      subst et
      walk_at "go"
      refine w_sp2 ⟨⟨U, ?_⟩, fun H6 e6 => k _ (((e3.trans e4).trans e5).trans e6)⟩
      have s4' := s4.ext e5
      have lb : (bs1.map V.ref).length ≤ 1000 := by
        rw [List.length_map, paired_len s4]; omega
      cases n with
      | zero => omega
      | succ n => exact .inr (.inl ⟨p1, p2, _, _, rfl, rfl, e5.keep _ _ h4 List.not_mem_nil, h5, lb, sm_slots (by omega) s4' s5⟩)

def sp_law_same (K : PySem.W.Frag) : Sp := sp_same 7 K
theorem ok_law_same (T : Txt K mg) : FnOk P w K mg base CX0 7 T.f__law_same T.d__law_same ["one", "other"] (sp_law_same K) :=
  step_same T 6 6 (step_same T 5 5 (step_same T 4 4 (step_same T 3 3 (step_same T 2 2 (step_same T 1 1 (step_same T 0 0 (ok_same_no T)))))))
theorem w_same {H : Hp} {U : List Zk.Slot} {a b : V} {Q : VK} {E : XK} (h : Sm U 7 H a b) (k : ∀ H', Ext [] H H' → Q (.bl true) H') : sp_law_same K ([a, b] ++ []) H Q E := ⟨_, _, rfl, ⟨U, h⟩, k⟩

/-! ### the slots of two dicts -/
def sp_slots_of_both (K : PySem.W.Frag) : Sp := sp2 fun a b H Q => ∃ (U : List Zk.Slot) (p q : Addr) (f g : Fd), a = .ref p ∧ b = .ref q ∧ U.length ≤ 1000 ∧ DM U H p f ∧ DM U H q g ∧
  ∀ r bs ts H', Ext [] H H' → H r = none → H' r = some (.lst (bs.map V.ref)) → SlotsAt H' bs ts → (∀ s, s ∈ ts ↔ (f s).isSome = true ∨ (g s).isSome = true) → Q (.ref r) H'
theorem ok_slots_of_both (T : Txt K mg) : FnOk P w K mg base CX0 1 T.f_slots_of_both T.d_slots_of_both ["one", "other"] (sp_slots_of_both K) := by
  refine T.F_slots_of_both.ok sc_slots_of_both len2 (fun cdv A outer s H vs Q E hr h => ?_)
  have nd := sc_slots_of_both.nd
  have hu := hu_of hr
  obtain ⟨_, _, rfl, U, p, q, f, g, rfl, rfl, hU, hf, hg, k⟩ := h
  refine ⟨_,
      (pss_one (ps_ret (pe_callB (zc_sortT rfl) (by rfl) T.b_sorted (by decide +kernel) (pa_cons (pe_op zop_cat (pe_callTy (zc_listT rfl) (by rfl) T.b_list (by decide +kernel) (pa_cons (pv 0) pa_nil)) (pe_lock (pe_lc (own := [("slot", 2)]) rfl nd (pi_keys (pv 1)) (blkOk_by (own := [("slot", 2)]) (N := ["one", "other", "slot"]) (sc := defScope s_slots_of_both) (by decide +kernel)) (fun _ _ _ _ _ => (pg_name (i := 2) nd rfl (Or.inl rfl))) (fun _ _ _ _ _ => (pts_one (pt_cmp (pc_dnotin hu (pv 2) (pv 0))))) (fun _ _ _ _ _ => (pv 2))))) pa_nil)))), ?_⟩
  change (_ : TS) _ [some _, some _, none] _
  try dsimp only [cxOf, Cx.nox, Cx.wish]
  walk_at "go"
  refine w_listT hf.dr fun r1 bs1 ks1 H1 e1 n1 h1 s1 nd1 m1 z1 => ?_
  obtain ⟨kvs, ks, hq, mq⟩ := hg.ext e1 List.not_mem_nil
  have f1 := hf.ext e1 List.not_mem_nil
  refine w_lockE hq trivial (fun z => z) fun od H2 L => ?_
  walk_at "go"
  refine w_keysT rfl L.at fun D nD => ?_
  have f2 := f1.dr.lk L
  refine z_lc_keysT mq (fun i acc H' => Ext [] H2 H' ∧ ∃ bs ss, acc = bs.map V.ref ∧ SlotsAt H' bs ss ∧ ss.length ≤ i ∧ ∀ s, s ∈ ss ↔ (f s).isSome = false ∧ s ∈ ks.take i) nD (fun H' e => ⟨e, [], [], rfl, .nil, Nat.le_refl _, fun s => by simp⟩) (fun i acc H' _ ⟨e, _⟩ => e.imm _ _ L.at trivial) ?_ ?_
  · rintro Nx i sl d b acc H3 hi hgs hb ⟨e3, bs, ss, rfl, hss, lss, hm⟩ hD hN
    walk_at "go"
    refine ⟨rfl, ?_⟩
    walk_at "go"
    refine w_dinT (f2.ext e3 List.not_mem_nil) hb fun o ho => ?_
    rw [ho]
    refine w_bl ?_
    have tk : ks.take (i + 1) = ks.take i ++ [sl] := by rw [List.take_add_one, hi]; rfl
    refine w_nb (fun z => ?_) fun z => ?_
    · walk_at "go"
      have lz : (bs.map V.ref).length < sizeLine := by
        have := mq.small hU
        rw [mq.len] at this
        obtain ⟨j1, _⟩ := List.getElem?_eq_some_iff.mp hi
        rw [List.length_map, paired_len hss]
        exact szl (by omega)
      refine w_app hD lz fun H4 e4 h4 => ?_
      rw [← List.map_singleton (f := V.ref), ← List.map_append] at h4
      refine hN _ _ ⟨e3.dropq e4 nD, bs ++ [b], ss ++ [sl], rfl, (hss.ext e4).snoc (e4.tup hb), ?_, fun s => ?_⟩ h4
      · rw [List.length_append]; exact Nat.succ_le_succ lss
      · rw [tk, List.mem_append, List.mem_append, hm s, List.mem_singleton]
        constructor
        · rintro (⟨a, b⟩ | rfl)
          · exact ⟨a, .inl b⟩
          · exact ⟨z, .inr rfl⟩
        · rintro ⟨a, b | rfl⟩
          · exact .inl ⟨a, b⟩
          · exact .inr rfl
    · refine hN _ _ ⟨e3, bs, ss, rfl, hss, Nat.le_succ_of_le lss, fun s => ?_⟩ hD
      rw [tk, List.mem_append, hm s, List.mem_singleton]
      constructor
      · rintro ⟨a, b⟩; exact ⟨a, .inl b⟩
      · rintro ⟨a, b | rfl⟩
        · exact ⟨a, b⟩
        · rw [z] at a; cases a
  · rintro acc H3 ⟨e3, bs, ss, rfl, hss, lss, hm⟩ hD
    have nqD := ne_of_none L.at nD
    refine w_unlock (N := fun H' => zCat (.ref r1) (.ref D) H' fun x H1 => tNil [some (V.ref p), some (V.ref q), none] H1 fun xs H2 => cSortT K (x :: xs) H2 Q) L e3 fun H4 e4 kp => ?_
    walk_at "go"
    have h4 := kp D _ hD nqD.symm
    have hr1 := e4.keep _ _ h1 List.not_mem_nil
    have hs4 : SlotsAt H4 bs ss := by
      refine Paired.mapP hss fun a s h => kp a _ h fun z => ?_
      subst z
      have := e3.imm _ _ L.at trivial
      rw [h] at this; cases this
    have l1 : bs1.length ≤ 1000 := by rw [paired_len s1]; omega
    have l2 : bs.length ≤ 1000 := by
      have := mq.small hU
      rw [mq.len] at this
      rw [paired_len hss]; omega
    refine w_cat hr1 h4 (sz (by rw [List.length_map, List.length_map]; omega)) (w_alc fun r2 H5 e5 n5 h5 => ?_)
    walk_at "go"
    rw [← List.map_append] at h5
    have hall : SlotsAt H5 (bs1 ++ bs) (ks1 ++ ss) := ((s1.ext e4).ext e5).app (hs4.ext e5)
    refine w_sortSl (sql h5) hall fun r3 bs3 ts H6 e6 n6 h6 s6 p6 o6 => ?_
    refine k r3 bs3 ts H6 (((e1.trans e4).trans e5).trans e6) ((e1.trans e4).free (e5.free n6)) h6 s6 fun s => ?_
    rw [p6.mem_iff, List.mem_append, m1, hm, List.take_length, mq.mem]
    cases (f s).isSome <;> cases (g s).isSome <;> simp

theorem w_slots {H : Hp} {U : List Zk.Slot} {p q : Addr} {f g : Fd} {Q : VK} {E : XK} (hU : U.length ≤ 1000) (hf : DM U H p f) (hg : DM U H q g)
    (k : ∀ r bs ts H', Ext [] H H' → H r = none → H' r = some (.lst (bs.map V.ref)) → SlotsAt H' bs ts → (∀ s, s ∈ ts ↔ (f s).isSome = true ∨ (g s).isSome = true) → Q (.ref r) H') : sp_slots_of_both K ([.ref p, .ref q] ++ []) H Q E :=
  ⟨_, _, rfl, U, p, q, f, g, rfl, rfl, hU, hf, hg, k⟩
theorem im_pair {H : Hp} {v : V} {x y : PyData} (h : Im H v (.tuple [x, y])) : ∃ a u w, v = .ref a ∧ H a = some (.tup [u, w]) ∧ Im H u x ∧ Im H w y := by
  obtain ⟨a, xs, rfl, ha, wa⟩ := h.tupE
  cases wa with
  | cons h1 k1 => cases k1 with
    | cons h2 k2 => cases k2; exact ⟨a, _, _, rfl, ha, h1, h2⟩
/-! ### any difference: two different contents for each of its slots -/
abbrev Df := Zk.Slot → Option (Option PyData × Option PyData)
def dF (D : Df) : Fd := fun s => (D s).map fun p => .tuple [oD p.1, oD p.2]
def DOk (D : Df) : Prop := ∀ s p, D s = some p → OCt p.1 ∧ OCt p.2 ∧ p.1 ≠ p.2
theorem dF_some {D : Df} {s : Zk.Slot} {d : PyData} (h : dF D s = some d) : ∃ p, D s = some p ∧ d = .tuple [oD p.1, oD p.2] := by
  unfold dF at h
  obtain ⟨p, hp, e⟩ := Option.map_eq_some_iff.mp h
  exact ⟨p, hp, e.symm⟩
theorem dF_is {D : Df} {s : Zk.Slot} : (dF D s).isSome = (D s).isSome := by unfold dF; rw [Option.isSome_map]
theorem dF_at {D : Df} {s : Zk.Slot} {p : Option PyData × Option PyData} (h : D s = some p) : dF D s = some (.tuple [oD p.1, oD p.2]) := by unfold dF; rw [h]; rfl
def wrA (f : Fd) (D : Df) (s : Zk.Slot) : Prop := ∃ p, D s = some p ∧ f s ≠ p.1
def appF (f : Fd) (D : Df) : Fd := fun s => match D s with | some p => p.2 | none => f s
theorem w_mk {C : Addr} {ta : TA} {σ : L2.St} {H : Hp} {Q : XK} (h : ta σ H fun vs H1 => ∃ v, vs = [v] ∧ ∀ d, H1 d = none → Q (.ref C) (some d) (upd H1 d (.xd [(("slot" : Str), v)]))) : tMkMismatch C ta σ H Q := h
def sp2X (P : V → V → Hp → VK → XK → Prop) : Sp := fun vs H Q E => ∃ a b, vs = [a, b] ∧ P a b H Q E
theorem len2X {P : V → V → Hp → VK → XK → Prop} {x y : Str} : ∀ vs H Q E, sp2X P vs H Q E → vs.length = [x, y].length := fun _ _ _ _ ⟨_, _, e, _⟩ => e ▸ rfl
/-- an exception in the air: its slot is m -/
def Air (C : Addr) (H : Hp) (m : Zk.Slot) (E : XK) : Prop := ∀ dd b H', Ext [] H H' → H' dd = some (.xd [("slot", .ref b)]) → H' b = some (.tup (sVs m)) → E (.ref C) (some dd) H'
def Least (W : Zk.Slot → Prop) (m : Zk.Slot) : Prop := W m ∧ ∀ s, W s → sLt s m = false
def sp_applied (C : Addr) (K : PySem.W.Frag) : Sp := sp2X fun a b H Q E => ∃ (U : List Zk.Slot) (p q : Addr) (f : Fd) (D : Df), a = .ref p ∧ b = .ref q ∧ U.length ≤ 1000 ∧ DM U H p f ∧ DM U H q (dF D) ∧ Stt f ∧ DOk D ∧
  (∀ r H', (∀ s, ¬ wrA f D s) → Ext [] H H' → H r = none → DM U H' r (appF f D) → Q (.ref r) H') ∧ ∀ m, Least (wrA f D) m → Air C H m E
theorem ok_applied (T : Txt K mg) (TE : Errs P K mg) : FnOk P w K mg base (L2.CX P w) 2 T.f_applied T.d_applied ["slots", "difference"] (sp_applied TE.C_Mismatch K) := by
  refine T.F_applied.okX sc_applied len2X (fun cdv A outer s H vs Q E hr h => ?_)
  have nd := sc_applied.nd
  have hu := hu_of hr
  obtain ⟨_, _, rfl, U, p, q, f, D, rfl, rfl, hU, hf, hg, sf, sD', k, kx⟩ := h
  refine ⟨_,
      (pss_cons (ps_for (passes_of rfl) rfl (pi_list (pe_callB (zc_sortT rfl) (by rfl) T.b_sorted (by decide +kernel) (pa_cons (pv 1) pa_nil))) (pg_name (i := 2) nd rfl (Or.inl rfl)) 
        (pss_one (ps_if (pt_cmpR (op_neD hr.units) (pe_dget1 hu (pv 0) (pv 2) ⟨rfl, rfl, rfl, rfl⟩) (pe_ix ix_tup (pe_dget hu (pv 1) (pv 2) (fun _ _ => rfl)) pe_int (fun _ _ => rfl)) (nomark _)) 
          (pss_one (ps_raise rfl (takes_of rfl rfl rfl rfl) (pmk_Mismatch TE.E_Mismatch hr (pa_cons (pv 2) pa_nil)))) pss_nil))) 
      (pss_cons (ps_set (i := 3) nd rfl (Or.inl rfl) pe_dnewTZ) 
      (pss_cons (ps_for (passes_of rfl) rfl (pi_list (pe_call (ok_slots_of_both T) (hr.mono (by decide)) (by rfl) T.g_slots_of_both T.F_slots_of_both.kp T.k_slots_of_both .nil pass0 (pa_cons (pv 0) (pa_cons (pv 1) pa_nil)))) (pg_name (i := 2) nd rfl (Or.inl rfl)) 
        (pss_cons (ps_set (i := 4) nd rfl (Or.inl rfl) (pe_ifExp (pt_cmp (pc_din hu (pv 2) (pv 1))) (pe_ix ix_tup (pe_dget hu (pv 1) (pv 2) (fun _ _ => rfl)) pe_int (fun _ _ => rfl)) (pe_dget hu (pv 0) (pv 2) (fun _ _ => rfl)))) 
        (pss_one (ps_if (pt_cmpR zop_notN (pv 4) pe_non (nomark _)) 
          (pss_one (ps_dput hu (pv 3) (pv 2) (pv 4) rfl)) pss_nil)))) 
      (pss_one (ps_ret (pv 3)))))), ?_⟩
  change (_ : TS) _ [some _, some _, none, none, none] _
  try dsimp only [cxOf, Cx.nox, Cx.wish]
  walk_at "go"
  refine w_sortT hg.dr fun r0 bs0 ts0 H1 e1 n1 h1 s1 nd1 m1 z1 o1 => ?_
  refine ⟨r0, rfl, ⟨_, sql h1⟩, ?_⟩
  have f1 := hf.ext e1 List.not_mem_nil
  have g1 := hg.ext e1 List.not_mem_nil
  refine z_for_list (xs := bs0.map V.ref) (fun i σ' H' => Ext [] H1 H' ∧ (∀ s ∈ ts0.take i, ¬ wrA f D s) ∧ ∃ u, σ' = [some (.ref p), some (.ref q), u, none, none]) ⟨Ext.refl, fun _ m => (by simp at m), _, rfl⟩ (fun i σ' H' _ ⟨e, _⟩ => sql (e.keep _ _ h1 List.not_mem_nil)) ?_ ?_
  · rintro N i x σ' H3 hx ⟨e3, hok, u, rfl⟩ hN
    obtain ⟨b, s, rfl, hb, hs, hb2⟩ := s1.get hx
    have hb3 := e3.tup hb2
    have f3 := f1.ext e3 List.not_mem_nil
    have g3 := g1.ext e3 List.not_mem_nil
    obtain ⟨d, hd⟩ := Option.isSome_iff_exists.mp ((m1 s).mp (List.mem_of_getElem? hs))
    obtain ⟨pr, hp, rfl⟩ := dF_some hd
    obtain ⟨o1', o2', _⟩ := sD' s pr hp
    walk_at "go"; walk_at "if"
    refine w_get1 ?_
    walk_at "go"
    refine w_isD f3.dr ?_
    walk_at "go"
    refine w_get1T f3.dr hb3 fun oo i1 => ?_
    walk_at "go"
    refine w_dgetT g3.dr hb3 hd fun v iv => ?_
    obtain ⟨a, y, z, rfl, ha, iy, iz⟩ := im_pair iv
    walk_at "go"
    refine w_neD i1 iy (sf s).shaped o1'.shaped ?_
    refine w_bl ?_
    refine w_nb (fun z => ?_) fun z => ?_
    · have ne : f s ≠ pr.1 := fun q => Bool.noConfusion ((((sf s).eqv o1').mpr q).symm.trans z)
      walk_at "go"
      refine w_mk ?_
      walk_at "go"
      refine ⟨_, rfl, fun dd ndd => ?_⟩
      refine kx s ⟨⟨pr, hp, ne⟩, fun t ht => ?_⟩ dd b _ ((e1.trans e3).trans (Ext.new ndd)) upd_same ((Ext.new ndd).tup hb3)
      have tm : t ∈ ts0 := (m1 t).mpr (by
        obtain ⟨p', hp', _⟩ := ht
        rw [dF_is, hp']; rfl)
      obtain ⟨j, hj⟩ := List.mem_iff_getElem?.mp tm
      rcases Nat.lt_trichotomy j i with c | c | c
      · exact absurd ht (hok t (by
          rw [List.mem_iff_getElem?]
          exact ⟨j, by rw [List.getElem?_take, if_pos c]; exact hj⟩))
      · subst c
        rw [hs] at hj
        cases hj
        exact sLt_no.mpr fun z => z.irr
      · obtain ⟨l1, e1'⟩ := List.getElem?_eq_some_iff.mp hs
        obtain ⟨l2, e2'⟩ := List.getElem?_eq_some_iff.mp hj
        have := List.pairwise_iff_getElem.mp o1 i j l1 l2 c
        rw [e1', e2'] at this
        exact this
    · have eq : f s = pr.1 := ((sf s).eqv o1').mp z
      walk_at "go"
      refine hN _ _ ⟨e3, fun t m => ?_, _, rfl⟩
      rw [take_snoc hs] at m
      rcases List.mem_append.mp m with m | m
      · exact hok t m
      · rw [List.mem_singleton.mp m]
        rintro ⟨p', hp', hn⟩
        rw [hp] at hp'
        cases hp'
        exact hn eq
  · rintro σ' H2 ⟨e2, hok, u, rfl⟩
    rw [List.length_map, s1.len, List.take_length] at hok
    have ok : ∀ s, ¬ wrA f D s := fun s hw => by
      obtain ⟨p', hp', hn⟩ := id hw
      exact hok s ((m1 s).mpr (by rw [dF_is, hp']; rfl)) hw
    have f2 := f1.ext e2 List.not_mem_nil
    have g2 := g1.ext e2 List.not_mem_nil
    walk_at "go"
    refine w_alc fun F H3 e3 n3 h3 => ?_
    walk_at "go"
    refine w_slots hU (f2.ext e3 List.not_mem_nil) (g2.ext e3 List.not_mem_nil) fun r bs ts H4 e4 n4 h4 s4 m4 => ?_
    refine ⟨r, rfl, ⟨_, sql h4⟩, ?_⟩
    have f4 := (f2.ext e3 List.not_mem_nil).ext e4 List.not_mem_nil
    have g4 := (g2.ext e3 List.not_mem_nil).ext e4 List.not_mem_nil
    have d4 := e4.keep _ _ h3 List.not_mem_nil
    have nrF : r ≠ F := fun z => by subst z; rw [h3] at n4; cases n4
    have sg : Stt (appF f D) := fun s d h => by
      unfold appF at h
      cases hD : D s with
      | none => rw [hD] at h; exact sf s d h
      | some p' => rw [hD] at h; exact (sD' s p' hD).2.1 d h
    refine z_for_list (xs := bs.map V.ref) (fun i σ' H' => Ext [F] H4 H' ∧ DM U H' F (resF (ts.take i) (appF f D)) ∧ ∃ u v, σ' = [some (.ref p), some (.ref q), u, some (.ref F), v]) ⟨Ext.refl, by rw [List.take_zero, resF_nil]; exact DM.nil d4, _, _, rfl⟩ (fun i σ' H' _ ⟨e, _⟩ => sql (e.keep _ _ h4 (nm1 nrF))) ?_ ?_
    · rintro N i x σ' H5 hx ⟨e5, hD, u, v, rfl⟩ hN
      obtain ⟨b, s, rfl, hb, hs, hb2⟩ := s4.get hx
      have hb3 := e5.tup hb2
      have f5 := f4.ext e5 (nm1 (f2.ne n3))
      have g5 := g4.ext e5 (nm1 (g2.ne n3))
      have sm := (m4 s).mp (List.mem_of_getElem? hs)
      have sU : s ∈ U := by
        rcases sm with z | z
        · exact hf.fsub z
        · exact hg.fsub z
      walk_at "go"
      refine w_cutE (fun v' H' => H5 = H' ∧ Im H5 v' (oD (appF f D s))) ?_ fun Q' hQ => ?_
      · rintro v' _ ⟨rfl, iv⟩
        walk_at "go"; walk_at "if"
        cases eg : appF f D s with
        | none =>
          have : v' = .non := ((sg s).non iv).mpr eg
          subst this
          refine w_f rfl ?_
          walk_at "go"
          refine hN _ _ ⟨e5, ?_, _, _, rfl⟩
          rw [take_snoc hs, resF_skip (F := appF f D) eg]
          exact hD
        | some d =>
          have : v' ≠ .non := fun z => by have := ((sg s).non iv).mp z; rw [eg] at this; cases this
          refine w_t (by rw [decide_eq_false this]; rfl) ?_
          rw [eg] at iv
          walk_at "go"
          refine w_dputT hU hD hb3 sU iv fun H6 e6 h6 => ?_
          refine hN _ _ ⟨e5.trans e6, ?_, _, _, rfl⟩
          change DM U H6 F (putF (resF (ts.take i) (appF f D)) s d) at h6
          rw [resF_put (F := appF f D) eg] at h6
          rw [take_snoc hs]; exact h6
      · walk_at "ife"
        refine w_dinT g5.dr hb3 fun o ho => ?_
        rw [ho, dF_is]
        refine w_bl ?_
        cases hp : D s with
        | none =>
          refine w_f rfl ?_
          have fs : (f s).isSome = true := by
            rcases sm with z | z
            · exact z
            · rw [dF_is, hp] at z; cases z
          obtain ⟨d, hfd⟩ := Option.isSome_iff_exists.mp fs
          walk_at "go"
          refine w_dgetT f5.dr hb3 hfd fun v iv => ?_
          refine hQ _ _ ⟨rfl, ?_⟩
          unfold appF; rw [hp, hfd]; exact iv
        | some pr =>
          refine w_t rfl ?_
          walk_at "go"
          refine w_dgetT g5.dr hb3 (dF_at hp) fun v iv => ?_
          obtain ⟨a, y, z, rfl, ha, iy, iz⟩ := im_pair iv
          walk_at "go"
          refine hQ _ _ ⟨rfl, ?_⟩
          unfold appF; rw [hp]; exact iz
    · rintro σ' H5 ⟨e5, hD, u, v, rfl⟩
      walk_at "go"
      rw [List.length_map, s4.len, List.take_length, resF_all fun s ns => ?_] at hD
      · have n0 := (e1.trans e2).free n3
        exact k F H5 ok ((((e1.trans e2).trans e3).trans e4).dropq e5 n0) n0 hD
      · have a : ¬ (f s).isSome = true := fun z => ns ((m4 s).mpr (.inl z))
        have b : ¬ (dF D s).isSome = true := fun z => ns ((m4 s).mpr (.inr z))
        rw [dF_is] at b
        unfold appF
        rw [Option.not_isSome_iff_eq_none.mp b]
        exact Option.not_isSome_iff_eq_none.mp a

/-! ### one difference behind another, or the least slot that does not fit -/
def fstC (A B : Df) (s : Zk.Slot) : Option PyData := match A s with | some p => p.1 | none => (match B s with | some q => q.1 | none => none)
def sndC (A B : Df) (s : Zk.Slot) : Option PyData := match B s with | some q => q.2 | none => (match A s with | some p => p.2 | none => none)
open Classical in
noncomputable def cmpD (A B : Df) : Df := fun s => if fstC A B s = sndC A B s then none else some (fstC A B s, sndC A B s)
theorem dF_cmp (A B : Df) : dF (cmpD A B) = fun s => btw (fstC A B s) (sndC A B s) := by
  funext s
  unfold dF cmpD
  by_cases h : fstC A B s = sndC A B s
  · rw [if_pos h, btw_eq h]; rfl
  · rw [if_neg h, btw_ne h]; rfl
theorem fst_ok {A B : Df} (ha : DOk A) (hb : DOk B) (s : Zk.Slot) : OCt (fstC A B s) := by
  unfold fstC
  cases hA : A s with
  | some p => exact (ha s p hA).1
  | none => cases hB : B s with
    | some q => exact (hb s q hB).1
    | none => exact fun _ h => nomatch h
theorem snd_ok {A B : Df} (ha : DOk A) (hb : DOk B) (s : Zk.Slot) : OCt (sndC A B s) := by
  unfold sndC
  cases hB : B s with
  | some q => exact (hb s q hB).2.1
  | none => cases hA : A s with
    | some p => exact (ha s p hA).2.1
    | none => exact fun _ h => nomatch h
theorem cmp_ok {A B : Df} (ha : DOk A) (hb : DOk B) : DOk (cmpD A B) := fun s p h => by
  unfold cmpD at h
  by_cases e : fstC A B s = sndC A B s
  · rw [if_pos e] at h; cases h
  · rw [if_neg e] at h; cases h; exact ⟨fst_ok ha hb s, snd_ok ha hb s, e⟩
def wrC (A B : Df) (s : Zk.Slot) : Prop := ∃ p q, A s = some p ∧ B s = some q ∧ p.2 ≠ q.1
def sp_composed (C : Addr) (K : PySem.W.Frag) : Sp := sp2X fun a b H Q E => ∃ (U : List Zk.Slot) (p q : Addr) (A B : Df), a = .ref p ∧ b = .ref q ∧ U.length ≤ 1000 ∧ DM U H p (dF A) ∧ DM U H q (dF B) ∧ DOk A ∧ DOk B ∧
  (∀ r H', (∀ s, ¬ wrC A B s) → Ext [] H H' → H r = none → DM U H' r (dF (cmpD A B)) → Q (.ref r) H') ∧ ∀ m, Least (wrC A B) m → Air C H m E
theorem ok_composed (T : Txt K mg) (TE : Errs P K mg) : FnOk P w K mg base (L2.CX P w) 2 T.f_composed T.d_composed ["one", "other"] (sp_composed TE.C_Mismatch K) := by
  refine T.F_composed.okX sc_composed len2X (fun cdv A outer s H vs Q E hr h => ?_)
  have nd := sc_composed.nd
  have hu := hu_of hr
  obtain ⟨_, _, rfl, U, p, q, A0, B0, rfl, rfl, hU, hf, hg, oA, oB, k, kx⟩ := h
  refine ⟨_,
      (pss_cons (ps_for (passes_of rfl) rfl (pi_list (pe_callB (zc_sortT rfl) (by rfl) T.b_sorted (by decide +kernel) (pa_cons (pv 1) pa_nil))) (pg_name (i := 2) nd rfl (Or.inl rfl)) 
        (pss_one (ps_if (PW.pt (pw_and (pt_cmp (pc_din hu (pv 2) (pv 0))) (pw_and1 (pt_cmpR (op_neD hr.units) (pe_ix ix_tup (pe_dget hu (pv 0) (pv 2) (fun _ _ => rfl)) pe_int (fun _ _ => rfl)) (pe_ix ix_tup (pe_dget hu (pv 1) (pv 2) (fun _ _ => rfl)) pe_int (fun _ _ => rfl)) (nomark _))))) 
          (pss_one (ps_raise rfl (takes_of rfl rfl rfl rfl) (pmk_Mismatch TE.E_Mismatch hr (pa_cons (pv 2) pa_nil)))) pss_nil))) 
      (pss_cons (ps_set (i := 3) nd rfl (Or.inl rfl) pe_dnewTZ) 
      (pss_cons (ps_for (passes_of rfl) rfl (pi_list (pe_call (ok_slots_of_both T) (hr.mono (by decide)) (by rfl) T.g_slots_of_both T.F_slots_of_both.kp T.k_slots_of_both .nil pass0 (pa_cons (pv 0) (pa_cons (pv 1) pa_nil)))) (pg_name (i := 2) nd rfl (Or.inl rfl)) 
        (pss_cons (ps_set (i := 4) nd rfl (Or.inl rfl) (pe_ifExp (pt_cmp (pc_din hu (pv 2) (pv 0))) (pe_ix ix_tup (pe_dget hu (pv 0) (pv 2) (fun _ _ => rfl)) pe_int (fun _ _ => rfl)) (pe_ix ix_tup (pe_dget hu (pv 1) (pv 2) (fun _ _ => rfl)) pe_int (fun _ _ => rfl)))) 
        (pss_cons (ps_set (i := 5) nd rfl (Or.inl rfl) (pe_ifExp (pt_cmp (pc_din hu (pv 2) (pv 1))) (pe_ix ix_tup (pe_dget hu (pv 1) (pv 2) (fun _ _ => rfl)) pe_int (fun _ _ => rfl)) (pe_ix ix_tup (pe_dget hu (pv 0) (pv 2) (fun _ _ => rfl)) pe_int (fun _ _ => rfl)))) 
        (pss_one (ps_if (pt_cmpR (op_neD hr.units) (pv 4) (pv 5) (nomark _)) 
          (pss_one (ps_dput hu (pv 3) (pv 2) (pe_tupZ (pa_cons (pv 4) (pa_cons (pv 5) pa_nil))) rfl)) pss_nil))))) 
      (pss_one (ps_ret (pv 3)))))), ?_⟩
  change (_ : TS) _ [some _, some _, none, none, none, none] _
  try dsimp only [cxOf, Cx.nox, Cx.wish]
  walk_at "go"
  refine w_sortT hg.dr fun r0 bs0 ts0 H1 e1 n1 h1 s1 nd1 m1 z1 o1 => ?_
  refine ⟨r0, rfl, ⟨_, sql h1⟩, ?_⟩
  have f1 := hf.ext e1 List.not_mem_nil
  have g1 := hg.ext e1 List.not_mem_nil
  refine z_for_list (xs := bs0.map V.ref) (fun i σ' H' => Ext [] H1 H' ∧ (∀ s ∈ ts0.take i, ¬ wrC A0 B0 s) ∧ ∃ u, σ' = [some (.ref p), some (.ref q), u, none, none, none]) ⟨Ext.refl, fun _ m => (by simp at m), _, rfl⟩ (fun i σ' H' _ ⟨e, _⟩ => sql (e.keep _ _ h1 List.not_mem_nil)) ?_ ?_
  · rintro N i x σ' H3 hx ⟨e3, hok, u, rfl⟩ hN
    obtain ⟨b, s, rfl, hb, hs, hb2⟩ := s1.get hx
    have hb3 := e3.tup hb2
    have f3 := f1.ext e3 List.not_mem_nil
    have g3 := g1.ext e3 List.not_mem_nil
    obtain ⟨d, hd⟩ := Option.isSome_iff_exists.mp ((m1 s).mp (List.mem_of_getElem? hs))
    obtain ⟨pb, hB, rfl⟩ := dF_some hd
    obtain ⟨ob1, ob2, _⟩ := oB s pb hB
    have more : ¬ wrC A0 B0 s → ∀ t ∈ ts0.take (i + 1), ¬ wrC A0 B0 t := fun h t m => by
      rw [take_snoc hs] at m
      rcases List.mem_append.mp m with m | m
      · exact hok t m
      · rw [List.mem_singleton.mp m]; exact h
    walk_at "go"; walk_at "if"
    refine w_dinT f3.dr hb3 fun o ho => ?_
    rw [ho, dF_is]
    refine w_bl ?_
    cases hA : A0 s with
    | none =>
      refine w_f rfl ?_
      walk_at "go"
      exact hN _ _ ⟨e3, more (fun ⟨p', q', h', _⟩ => by rw [hA] at h'; cases h'), _, rfl⟩
    | some pa =>
      obtain ⟨oa1, oa2, _⟩ := oA s pa hA
      refine w_t rfl ?_
      walk_at "go"
      refine w_dgetT f3.dr hb3 (dF_at hA) fun v iv => ?_
      obtain ⟨a, y, z, rfl, ha, iy, iz⟩ := im_pair iv
      walk_at "go"
      refine w_dgetT g3.dr hb3 hd fun v' iv' => ?_
      obtain ⟨a', y', z', rfl, ha', iy', iz'⟩ := im_pair iv'
      walk_at "go"
      refine w_neD iz iy' oa2.shaped ob1.shaped ?_
      refine w_bl ?_
      refine w_nb (fun z => ?_) fun z => ?_
      · have ne : pa.2 ≠ pb.1 := fun q => Bool.noConfusion (((oa2.eqv ob1).mpr q).symm.trans z)
        walk_at "go"
        refine w_mk ?_
        walk_at "go"
        refine ⟨_, rfl, fun dd ndd => ?_⟩
        refine kx s ⟨⟨pa, pb, hA, hB, ne⟩, fun t ht => ?_⟩ dd b _ ((e1.trans e3).trans (Ext.new ndd)) upd_same ((Ext.new ndd).tup hb3)
        have tm : t ∈ ts0 := (m1 t).mpr (by
          obtain ⟨p', q', _, hq', _⟩ := ht
          rw [dF_is, hq']; rfl)
        obtain ⟨j, hj⟩ := List.mem_iff_getElem?.mp tm
        rcases Nat.lt_trichotomy j i with c | c | c
        · exact absurd ht (hok t (by
            rw [List.mem_iff_getElem?]
            exact ⟨j, by rw [List.getElem?_take, if_pos c]; exact hj⟩))
        · subst c
          rw [hs] at hj
          cases hj
          exact sLt_no.mpr fun z => z.irr
        · obtain ⟨l1, e1'⟩ := List.getElem?_eq_some_iff.mp hs
          obtain ⟨l2, e2'⟩ := List.getElem?_eq_some_iff.mp hj
          have := List.pairwise_iff_getElem.mp o1 i j l1 l2 c
          rw [e1', e2'] at this
          exact this
      · have eq : pa.2 = pb.1 := (oa2.eqv ob1).mp z
        walk_at "go"
        refine hN _ _ ⟨e3, more ?_, _, rfl⟩
        rintro ⟨p', q', hp', hq', hn⟩
        rw [hA] at hp'
        rw [hB] at hq'
        cases hp'
        cases hq'
        exact hn eq
  · rintro σ' H2 ⟨e2, hok, u, rfl⟩
    rw [List.length_map, s1.len, List.take_length] at hok
    have ok : ∀ s, ¬ wrC A0 B0 s := fun s hw => by
      obtain ⟨p', q', hp', hq', hn⟩ := id hw
      exact hok s ((m1 s).mpr (by rw [dF_is, hq']; rfl)) hw
    have f2 := f1.ext e2 List.not_mem_nil
    have g2 := g1.ext e2 List.not_mem_nil
    walk_at "go"
    refine w_alc fun F H3 e3 n3 h3 => ?_
    walk_at "go"
    refine w_slots hU (f2.ext e3 List.not_mem_nil) (g2.ext e3 List.not_mem_nil) fun r bs ts H4 e4 n4 h4 s4 m4 => ?_
    refine ⟨r, rfl, ⟨_, sql h4⟩, ?_⟩
    have f4 := (f2.ext e3 List.not_mem_nil).ext e4 List.not_mem_nil
    have g4 := (g2.ext e3 List.not_mem_nil).ext e4 List.not_mem_nil
    have d4 := e4.keep _ _ h3 List.not_mem_nil
    have nrF : r ≠ F := fun z => by subst z; rw [h3] at n4; cases n4
    rw [dF_cmp] at k
    refine z_for_list (xs := bs.map V.ref) (fun i σ' H' => Ext [F] H4 H' ∧ DM U H' F (resF (ts.take i) (fun s => btw (fstC A0 B0 s) (sndC A0 B0 s))) ∧ ∃ u v v', σ' = [some (.ref p), some (.ref q), u, some (.ref F), v, v']) ⟨Ext.refl, by rw [List.take_zero, resF_nil]; exact DM.nil d4, _, _, _, rfl⟩ (fun i σ' H' _ ⟨e, _⟩ => sql (e.keep _ _ h4 (nm1 nrF))) ?_ ?_
    · rintro N i x σ' H5 hx ⟨e5, hD, u, v, v', rfl⟩ hN
      obtain ⟨b, s, rfl, hb, hs, hb2⟩ := s4.get hx
      have hb3 := e5.tup hb2
      have f5 := f4.ext e5 (nm1 (f2.ne n3))
      have g5 := g4.ext e5 (nm1 (g2.ne n3))
      have sm := (m4 s).mp (List.mem_of_getElem? hs)
      rw [dF_is, dF_is] at sm
      have sU : s ∈ U := by
        rcases sm with z | z
        · exact hf.fsub (s := s) (by rw [dF_is]; exact z)
        · exact hg.fsub (s := s) (by rw [dF_is]; exact z)
      have sf := fst_ok oA oB s
      have sh := snd_ok oA oB s
      walk_at "go"
      refine w_cutE (fun v' H' => H5 = H' ∧ Im H5 v' (oD (fstC A0 B0 s))) ?_ fun Q' hQ => ?_
      · rintro x1 _ ⟨rfl, i1⟩
        walk_at "go"
        refine w_cutE (fun v' H' => H5 = H' ∧ Im H5 v' (oD (sndC A0 B0 s))) ?_ fun Q' hQ => ?_
        · rintro x2 _ ⟨rfl, i2⟩
          walk_at "go"; walk_at "if"
          refine w_neD i1 i2 sf.shaped sh.shaped ?_
          refine w_bl ?_
          refine w_nb (fun z => ?_) fun z => ?_
          · have ne : fstC A0 B0 s ≠ sndC A0 B0 s := fun q => Bool.noConfusion (((sf.eqv sh).mpr q).symm.trans z)
            walk_at "go"
            refine ⟨sz (by show 2 ≤ _; decide), w_alc fun t H6 e6 n6 h6 => ?_⟩
            walk_at "go"
            have im : Im H6 (.ref t) (.tuple [oD (fstC A0 B0 s), oD (sndC A0 B0 s)]) := .tup h6 (show 2 ≤ 1000 by decide) (.cons (i1.ext e6) (.cons (i2.ext e6) .nil))
            refine w_dputT hU (hD.ext e6 List.not_mem_nil) (e6.tup hb3) sU im fun H7 e7 h7 => ?_
            refine hN _ _ ⟨(e5.trans e6.up).trans e7, ?_, _, _, _, rfl⟩
            rw [resF_put (F := fun s => btw (fstC A0 B0 s) (sndC A0 B0 s)) (btw_ne ne)] at h7
            rw [take_snoc hs]; exact h7
          · have eq : fstC A0 B0 s = sndC A0 B0 s := (sf.eqv sh).mp z
            walk_at "go"
            refine hN _ _ ⟨e5, ?_, _, _, _, rfl⟩
            rw [take_snoc hs, resF_skip (F := fun s => btw (fstC A0 B0 s) (sndC A0 B0 s)) (btw_eq eq)]
            exact hD
        · walk_at "ife"
          refine w_dinT g5.dr hb3 fun o ho => ?_
          rw [ho, dF_is]
          refine w_bl ?_
          cases hB : B0 s with
          | none =>
            refine w_f rfl ?_
            cases hA : A0 s with
            | none => rw [hA, hB] at sm; exact absurd sm (by decide)
            | some pa =>
              walk_at "go"
              refine w_dgetT f5.dr hb3 (dF_at hA) fun v iv => ?_
              obtain ⟨a, y, z, rfl, ha, iy, iz⟩ := im_pair iv
              walk_at "go"
              refine hQ _ _ ⟨rfl, ?_⟩
              unfold sndC; rw [hB, hA]; exact iz
          | some pb =>
            refine w_t rfl ?_
            walk_at "go"
            refine w_dgetT g5.dr hb3 (dF_at hB) fun v iv => ?_
            obtain ⟨a, y, z, rfl, ha, iy, iz⟩ := im_pair iv
            walk_at "go"
            refine hQ _ _ ⟨rfl, ?_⟩
            unfold sndC; rw [hB]; exact iz
      · walk_at "ife"
        refine w_dinT f5.dr hb3 fun o ho => ?_
        rw [ho, dF_is]
        refine w_bl ?_
        cases hA : A0 s with
        | none =>
          refine w_f rfl ?_
          cases hB : B0 s with
          | none => rw [hA, hB] at sm; exact absurd sm (by decide)
          | some pb =>
            walk_at "go"
            refine w_dgetT g5.dr hb3 (dF_at hB) fun v iv => ?_
            obtain ⟨a, y, z, rfl, ha, iy, iz⟩ := im_pair iv
            walk_at "go"
            refine hQ _ _ ⟨rfl, ?_⟩
            unfold fstC; rw [hA, hB]; exact iy
        | some pa =>
          refine w_t rfl ?_
          walk_at "go"
          refine w_dgetT f5.dr hb3 (dF_at hA) fun v iv => ?_
          obtain ⟨a, y, z, rfl, ha, iy, iz⟩ := im_pair iv
          walk_at "go"
          refine hQ _ _ ⟨rfl, ?_⟩
          unfold fstC; rw [hA]; exact iy
    · rintro σ' H5 ⟨e5, hD, u, v, v', rfl⟩
      walk_at "go"
      rw [List.length_map, s4.len, List.take_length, resF_all fun s ns => ?_] at hD
      · have n0 := (e1.trans e2).free n3
        exact k F H5 ok ((((e1.trans e2).trans e3).trans e4).dropq e5 n0) n0 hD
      · have a : ¬ (dF A0 s).isSome = true := fun z => ns ((m4 s).mpr (.inl z))
        have b : ¬ (dF B0 s).isSome = true := fun z => ns ((m4 s).mpr (.inr z))
        rw [dF_is] at a b
        refine btw_eq ?_
        unfold fstC sndC
        rw [Option.not_isSome_iff_eq_none.mp a, Option.not_isSome_iff_eq_none.mp b]

/-! ### what the program tells of it -/
def sApp : Str := Str.ofString "applied"
def sCom : Str := Str.ofString "composed"
def sMis : Str := Str.ofString "mismatch"
def MisAt (H : Hp) (o : Addr) (m : Zk.Slot) : Prop := ∃ b, H o = some (.lst [.str sMis, .ref b]) ∧ H b = some (.tup (sVs m))
theorem w_callS {sp : Sp} {E : L2.St → XK} {tl : TA} {σ : L2.St} {H : Hp} {Q : VK} (h : tl σ H fun vs H1 => sp vs H1 Q (E σ)) : tCallS sp E tl σ H Q := h
theorem w_isEE {C a dd : Addr} {c : V} {cv : Value} {b : Bool} {fs : List (Str × V)} {H : Hp} {Q : VK} (i : ExcC K C) (r : ∀ u, RelV c u → u = cv) (h : H dd = some (.xd fs)) (k : PySem.W.kitOne K (.ref C) cv = some b) (q : Q (.bl b) H) : rIsEE K a (.ref C) (some dd) [.ref a, c] H Q :=
  ⟨C, dd, rfl, rfl, i, c, cv, b, fs, rfl, r, h, k, q⟩
theorem w_xf {a C dd : Addr} {n : Str} {te : TE} {σ : L2.St} {H : Hp} {Q : VK} (h : te σ H fun x H1 => x = .ref a ∧ (.ref C : Value) = .ref C ∧ ∃ (d2 : Addr) (fs : List (Str × V)) (v : V), some dd = some d2 ∧ H1 d2 = some (.xd fs) ∧ fs.lookup n = some v ∧ Q v H1) : tXf a (.ref C) (some dd) C n te σ H Q := h
def sp_law_told (K : PySem.W.Frag) : Sp := sp3 fun a b c H Q => ∃ (U : List Zk.Slot) (p q : Addr), a = .ref p ∧ b = .ref q ∧ U.length ≤ 1000 ∧
  ((∃ (f : Fd) (D : Df), c = .str sApp ∧ DM U H p f ∧ DM U H q (dF D) ∧ Stt f ∧ DOk D ∧ (∀ r o H', (∀ s, ¬ wrA f D s) → Ext [] H H' → H r = none → H o = none → H' o = some (.lst [.ref r]) → DM U H' r (appF f D) → Q (.ref o) H') ∧
    ∀ m o H', Least (wrA f D) m → Ext [] H H' → H o = none → MisAt H' o m → Q (.ref o) H') ∨
  ∃ (A B : Df), c = .str sCom ∧ DM U H p (dF A) ∧ DM U H q (dF B) ∧ DOk A ∧ DOk B ∧ (∀ r o H', (∀ s, ¬ wrC A B s) → Ext [] H H' → H r = none → H o = none → H' o = some (.lst [.ref r]) → DM U H' r (dF (cmpD A B)) → Q (.ref o) H') ∧
    ∀ m o H', Least (wrC A B) m → Ext [] H H' → H o = none → MisAt H' o m → Q (.ref o) H')
theorem ok_law_told (T : Txt K mg) (TE : Errs P K mg) : FnOk P w K mg base CX0 3 T.f__law_told T.d__law_told ["one", "other", "name"] (sp_law_told K) := by
  refine T.F__law_told.ok sc_law_told len3 (fun cdv A outer s H vs Q E hr h => ?_)
  have nd := sc_law_told.nd
  have hu := hu_of hr
  obtain ⟨_, _, _, rfl, U, p, q, rfl, rfl, hU, h⟩ := h
  refine ⟨_,
      (pss_one (ps_try_as (i := 3) (Wout := fun _ _ _ _ => False) rfl rfl nd rfl rfl ⟨rfl, by decide, Or.inl TE.E_Mismatch.gC⟩ takes0 (fun W pn xe tk _ => 
        (pss_cons (ps_if (pt_cmpR op_eq (pv 2) pe_str (nomark _)) 
          (pss_one (ps_ret (pe_lstZ (pa_cons (pe_callS (ok_applied T TE) (hr.mono (by decide)) (by rfl) T.g_applied T.F_applied.kp T.k_applied (fun σ => passAt tk σ) (pa_cons (pv 0) (pa_cons (pv 1) pa_nil))) pa_nil)))) pss_nil) 
        (pss_one (ps_ret (pe_lstZ (pa_cons (pe_callS (ok_composed T TE) (hr.mono (by decide)) (by rfl) T.g_composed T.F_composed.kp T.k_composed (fun σ => passAt tk σ) (pa_cons (pv 0) (pa_cons (pv 1) pa_nil))) pa_nil)))))) (fun a oe cls d pn hz hf => 
        (pss_cons (ps_if (PW.pt (pw_or (pt_not (pt_val (pe_callB (call_isEE hz hf) (by rfl) T.b_isinstance (by decide +kernel) (pa_cons (pv 3) (pa_cons (pe_glob (v := .ref TE.C_StoreError) rfl TE.g_StoreError rfl) pa_nil))))) (pw_or (pt_not (pt_val (pe_callB (call_isEE hz hf) (by rfl) T.b_isinstance (by decide +kernel) (pa_cons (pv 3) (pa_cons (pe_bltn (v := .ty "ValueError") (by rfl) T.b_ValueError (by decide +kernel) rfl) pa_nil))))) (pw_or1 (pt_val (pe_callB (call_isEE hz hf) (by rfl) T.b_isinstance (by decide +kernel) (pa_cons (pv 3) (pa_cons (pe_glob (v := .ref TE.C_NoMoment) rfl TE.g_NoMoment rfl) pa_nil)))))))) 
          (pss_one (ps_ret (pe_lstZ (pa_cons pe_str pa_nil)))) pss_nil) 
        (pss_one (ps_ret (pe_lstZ (pa_cons pe_str (pa_cons (pe_xf TE.x_Mismatch TE.E_Mismatch.noN hz hf (pv 3)) pa_nil))))))))), ?_⟩
  change (_ : TS) _ [some _, some _, some _, none] _
  try dsimp only [cxOf, Cx.nox, Cx.wish]
  rcases h with ⟨f, D, rfl, hf, hg, sf, sD, k, kx⟩ | ⟨A0, B0, rfl, hf, hg, oA, oB, k, kx⟩
  · walk_at "go"
    walk_at "if"
    refine w_t (by decide +kernel) ?_
    walk_at "go"
    refine w_callS ?_
    walk_at "go"
    refine ⟨_, _, rfl, U, p, q, f, D, rfl, rfl, hU, hf, hg, sf, sD, fun r H1 ok e1 n1 h1 => ?_, fun m hm dd b H1 e1 hd hb => ?_⟩
    · walk_at "go"
      refine ⟨sz (by show 1 ≤ _; decide), w_alc fun o H2 e2 n2 h2 => ?_⟩
      exact k r o H2 ok (e1.trans e2) n1 (e1.free n2) h2 (h1.ext e2 List.not_mem_nil)
    · refine ⟨true, TE.t_Mismatch, fun _ a na => ?_, fun z => nomatch z⟩
      dsimp only
      walk_at "go"; walk_at "if"
      refine w_isEE TE.i_Mismatch (fun u r => r) hd TE.k_store ?_
      walk_at "go"
      refine w_isEE TE.i_Mismatch (fun u r => r) hd TE.k_value ?_
      walk_at "go"
      refine w_isEE TE.i_Mismatch (fun u r => r) hd TE.k_nomo ?_
      walk_at "go"
      refine w_xf ?_
      walk_at "go"
      refine ⟨rfl, rfl, dd, _, _, rfl, hd, rfl, ?_⟩
      walk_at "go"
      refine ⟨sz (by show 2 ≤ _; decide), w_alc fun o H2 e2 n2 h2 => ?_⟩
      exact kx m o H2 hm (e1.trans e2) (e1.free n2) ⟨b, h2, e2.tup hb⟩
  · walk_at "go"
    walk_at "if"
    refine w_f (by decide +kernel) ?_
    walk_at "go"
    refine w_callS ?_
    walk_at "go"
    refine ⟨_, _, rfl, U, p, q, A0, B0, rfl, rfl, hU, hf, hg, oA, oB, fun r H1 ok e1 n1 h1 => ?_, fun m hm dd b H1 e1 hd hb => ?_⟩
    · walk_at "go"
      refine ⟨sz (by show 1 ≤ _; decide), w_alc fun o H2 e2 n2 h2 => ?_⟩
      exact k r o H2 ok (e1.trans e2) n1 (e1.free n2) h2 (h1.ext e2 List.not_mem_nil)
    · refine ⟨true, TE.t_Mismatch, fun _ a na => ?_, fun z => nomatch z⟩
      dsimp only
      walk_at "go"; walk_at "if"
      refine w_isEE TE.i_Mismatch (fun u r => r) hd TE.k_store ?_
      walk_at "go"
      refine w_isEE TE.i_Mismatch (fun u r => r) hd TE.k_value ?_
      walk_at "go"
      refine w_isEE TE.i_Mismatch (fun u r => r) hd TE.k_nomo ?_
      walk_at "go"
      refine w_xf ?_
      walk_at "go"
      refine ⟨rfl, rfl, dd, _, _, rfl, hd, rfl, ?_⟩
      walk_at "go"
      refine ⟨sz (by show 2 ≤ _; decide), w_alc fun o H2 e2 n2 h2 => ?_⟩
      exact kx m o H2 hm (e1.trans e2) (e1.free n2) ⟨b, h2, e2.tup hb⟩

theorem dm_unlk {U : List Zk.Slot} {H0 H1 H3 H4 : Hp} {M : List Addr} {d D : Addr} {u : HO} {od : Obj} {f : Fd} (L : Lk d u od H0 H1) (e : Ext M H1 H3) (kp : ∀ b o, H3 b = some o → b ≠ d → H4 b = some o) (n : D ≠ d) (h : DM U H3 D f) : DM U H4 D f := by
  obtain ⟨kv3, ks3, h3, m3⟩ := h
  refine ⟨kv3, ks3, kp D _ h3 n, m3.keys, m3.nd, m3.sub, fun s => ?_⟩
  have v3 := m3.val s
  revert v3
  cases valV kv3 (sKey s) <;> cases f s <;> intro v3
  · exact v3
  · exact v3
  · exact v3
  · refine Im.go (fun a xs h => kp a _ h fun z => ?_) _ _ v3
    subst z
    have := e.imm _ _ L.at trivial
    rw [h] at this; cases this
/-! ### copies -/
def sp_law_copy (K : PySem.W.Frag) : Sp := sp1 fun a H Q => ∃ (U : List Zk.Slot) (p : Addr) (f : Fd), a = .ref p ∧ U.length ≤ 1000 ∧ DM U H p f ∧ ∀ r H', Ext [] H H' → H r = none → DM U H' r f → Q (.ref r) H'
theorem ok_law_copy (T : Txt K mg) : FnOk P w K mg base CX0 1 T.f__law_copy T.d__law_copy ["row"] (sp_law_copy K) := by
  refine T.F__law_copy.ok sc_law_copy len1 (fun cdv A outer s H vs Q E hr h => ?_)
  have nd := sc_law_copy.nd
  have hu := hu_of hr
  obtain ⟨_, rfl, U, p, f, rfl, hU, hf, k⟩ := h
  refine ⟨_,
      (pss_cons (ps_set (i := 1) nd rfl (Or.inl rfl) pe_dnewTZ) 
      (pss_cons (ps_lock (ps_for PassesOwn.never rfl (pi_keys (pv 0)) (pg_name (i := 2) nd rfl (Or.inl rfl)) 
        (pss_one (ps_dput hu (pv 1) (pv 2) (pe_dget hu (pv 0) (pv 2) (fun _ _ => rfl)) rfl)))) 
      (pss_one (ps_ret (pv 1))))), ?_⟩
  change (_ : TS) _ [some _, none, none] _
  try dsimp only [cxOf, Cx.nox, Cx.wish]
  walk_at "go"
  refine w_alc fun D H1 e1 n1 h1 => ?_
  have hf1 := hf.ext e1 List.not_mem_nil
  obtain ⟨kvs, ks, hp, mp⟩ := id hf1
  walk_at "go"
  refine w_lock hp trivial (fun z => z) fun od H2 L => ?_
  walk_at "go"
  have npD : D ≠ p := (hf.ne n1).symm
  refine w_keysT rfl L.at ?_
  have f2 := hf1.dr.lk L
  have h2 := L.keep h1 npD
  refine z_for_keysT mp (fun i σ' H' => Ext [D] H2 H' ∧ DM U H' D (resF (ks.take i) f) ∧ ∃ u, σ' = [some (.ref p), some (.ref D), u]) ⟨Ext.refl, by rw [List.take_zero, resF_nil]; exact DM.nil h2, _, rfl⟩ (fun i σ' H' _ ⟨e, _⟩ => e.imm _ _ L.at trivial) ?_ ?_
  · rintro N i s d b σ' H3 hi hd hb ⟨e3, hD, u, rfl⟩ hN
    have f3 := f2.ext e3 (nm1 npD.symm)
    walk_at "go"
    refine w_dgetT f3 hb hd fun v iv => ?_
    walk_at "go"
    refine w_dputT hU hD hb (mp.sub _ (List.mem_of_getElem? hi)) iv fun H5 e5 h5 => ?_
    refine hN _ _ ⟨e3.trans e5, ?_, _, rfl⟩
    rw [resF_put (F := f) hd] at h5
    rw [take_snoc hi]; exact h5
  · rintro σ' H3 ⟨e3, hD, u, rfl⟩
    rw [List.take_length, resF_all fun s ns => Option.not_isSome_iff_eq_none.mp fun z => ns (mp.mem.mpr z)] at hD
    refine w_unlock L e3 fun H4 e4 kp => ?_
    walk_at "go"
    exact k D H4 (e1.dropq e4 n1) n1 (dm_unlk L e3 kp npD hD)
theorem w_copy {H : Hp} {U : List Zk.Slot} {p : Addr} {f : Fd} {Q : VK} {E : XK} (hU : U.length ≤ 1000) (hf : DM U H p f)
    (k : ∀ r H', Ext [] H H' → H r = none → DM U H' r f → Q (.ref r) H') : sp_law_copy K ([.ref p] ++ []) H Q E := ⟨_, rfl, U, p, f, rfl, hU, hf, k⟩
/-- slots whose texts are plain -/
def Pln (U : List Zk.Slot) : Prop := U.length ≤ 1000 ∧ ∀ s ∈ U, Sg s.1
theorem sD_shaped {s : Zk.Slot} (h : Sg s.1) : SeqAt.shaped (sD s) = true := by
  unfold SeqAt.shaped
  rw [sD_depth]
  have := h.ok
  simp [sD, PyData.canLay0, PyData.canLayAll0]
  exact this
def sp_law_without (K : PySem.W.Frag) : Sp := sp2 fun a b H Q => ∃ (U : List Zk.Slot) (p q : Addr) (f : Fd) (s : Zk.Slot), a = .ref p ∧ b = .ref q ∧ Pln U ∧ s ∈ U ∧ H q = some (.tup (sVs s)) ∧ DM U H p f ∧ Stt f ∧ ∀ r f' H', Ext [] H H' → H r = none → DM U H' r f' → Stt f' → Q (.ref r) H'
theorem ok_law_without (T : Txt K mg) : FnOk P w K mg base CX0 1 T.f__law_without T.d__law_without ["row", "gone"] (sp_law_without K) := by
  refine T.F__law_without.ok sc_law_without len2 (fun cdv A outer s H vs Q E hr h => ?_)
  have nd := sc_law_without.nd
  have hu := hu_of hr
  obtain ⟨_, _, rfl, U, p, q, f, s0, rfl, rfl, ⟨hU, hS⟩, m0, hq, hf, sf, k⟩ := h
  refine ⟨_,
      (pss_cons (ps_set (i := 2) nd rfl (Or.inl rfl) pe_dnewTZ) 
      (pss_cons (ps_lock (ps_for PassesOwn.never rfl (pi_keys (pv 0)) (pg_name (i := 3) nd rfl (Or.inl rfl)) 
        (pss_one (ps_if (pt_cmpR (op_neD hr.units) (pv 3) (pv 1) (nomark _)) 
          (pss_one (ps_dput hu (pv 2) (pv 3) (pe_dget hu (pv 0) (pv 3) (fun _ _ => rfl)) rfl)) pss_nil)))) 
      (pss_one (ps_ret (pv 2))))), ?_⟩
  change (_ : TS) _ [some _, some _, none, none] _
  try dsimp only [cxOf, Cx.nox, Cx.wish]
  walk_at "go"
  refine w_alc fun D H1 e1 n1 h1 => ?_
  have hf1 := hf.ext e1 List.not_mem_nil
  obtain ⟨kvs, ks, hp, mp⟩ := id hf1
  walk_at "go"
  refine w_lock hp trivial (fun z => z) fun od H2 L => ?_
  walk_at "go"
  have npD : D ≠ p := (hf.ne n1).symm
  refine w_keysT rfl L.at ?_
  have f2 := hf1.dr.lk L
  have h2 := L.keep h1 npD
  have hq2 := L.tup (e1.tup hq)
  refine z_for_keysT mp (fun i σ' H' => Ext [D] H2 H' ∧ (∃ f', DM U H' D f' ∧ Stt f') ∧ ∃ u, σ' = [some (.ref p), some (.ref q), some (.ref D), u]) ⟨Ext.refl, ⟨_, DM.nil h2, stt_none⟩, _, rfl⟩ (fun i σ' H' _ ⟨e, _⟩ => e.imm _ _ L.at trivial) ?_ ?_
  · rintro N i s d b σ' H3 hi hd hb ⟨e3, ⟨f', hD, st⟩, u, rfl⟩ hN
    have f3 := f2.ext e3 (nm1 npD.symm)
    have sU := mp.sub _ (List.mem_of_getElem? hi)
    walk_at "go"; walk_at "if"
    refine w_neD (im_slot hb) (im_slot (e3.tup hq2)) (sD_shaped (hS _ sU)) (sD_shaped (hS _ m0)) ?_
    refine w_bl ?_
    refine w_nb (fun z => ?_) fun z => ?_
    · walk_at "go"
      refine w_dgetT f3 hb hd fun v iv => ?_
      walk_at "go"
      refine w_dputT hU hD hb sU iv fun H5 e5 h5 => ?_
      exact hN _ _ ⟨e3.trans e5, ⟨_, h5, stt_put st (sf s d hd)⟩, _, rfl⟩
    · walk_at "go"
      exact hN _ _ ⟨e3, ⟨_, hD, st⟩, _, rfl⟩
  · rintro σ' H3 ⟨e3, ⟨f', hD, st⟩, u, rfl⟩
    refine w_unlock L e3 fun H4 e4 kp => ?_
    walk_at "go"
    exact k D f' H4 (e1.dropq e4 n1) n1 (dm_unlk L e3 kp npD hD) st

/-! ### names -/
def sgn : Str := Str.ofString "abcdefghijklmnopqrstuvwxyz0123456789"
theorem sgn_len : sgn.cps.toList.length = 36 := by decide +kernel
theorem sgn_ok : ∀ c ∈ sgn.cps.toList, c < 128 := by decide +kernel
theorem sgn_at {r : Int} (h0 : 0 ≤ r) (h1 : r < 36) : ∃ c, atI sgn.cps.toList r = some c ∧ c < 128 := by
  obtain ⟨c, hc, hm⟩ := at_some (xs := sgn.cps.toList) (r := r) h0 (by rw [sgn_len]; exact h1)
  exact ⟨c, hc, sgn_ok c (List.mem_of_getElem? hm)⟩
def sp_law_name (K : PySem.W.Frag) : Sp := sp1 fun a H Q => ∃ (p : Addr), a = .ref p ∧ PoolAt K H p ∧ ∀ (z : Str) H', z.length ≤ 12 → Sg z → Ext [p] H H' → PoolAt K H' p → Q (.str z) H'
theorem ok_law_name (T : Txt K mg) : FnOk P w K mg base CX0 5 T.f__law_name T.d__law_name ["pool"] (sp_law_name K) := by
  refine T.F__law_name.ok sc_law_name len1 (fun cdv A outer s H vs Q E hr h => ?_)
  have nd := sc_law_name.nd
  have hu := hu_of hr
  obtain ⟨_, rfl, p, rfl, hP, k⟩ := h
  refine ⟨_,
      (pss_cons (ps_set (i := 1) nd rfl (Or.inr rfl) pe_str) 
      (pss_cons (ps_set (i := 2) nd rfl (Or.inl rfl) (pe_ix ix_str (pv 1) (pe_call (ok_law_draw T) (hr.mono (by decide)) (by rfl) T.g__law_draw T.F__law_draw.kp T.k__law_draw .nil pass0 (pa_cons (pv 0) (pa_cons pe_int pa_nil))) (fun _ _ => rfl))) 
      (pss_one (ps_ret (pe_op zop_addS (pv 2) (zpe_join pe_str (pe_lc (own := [("k", 3)]) rfl nd (pi_range1 (by rfl) T.b_range (pa_cons (pe_call (ok_law_pick T) (hr.mono (by decide)) (by rfl) T.g__law_pick T.F__law_pick.kp T.k__law_pick .nil pass0 (pa_cons (pv 0) (pa_cons (pe_lstZ (pa_cons pe_int (pa_cons pe_int (pa_cons pe_int (pa_cons pe_int (pa_cons pe_int (pa_cons pe_int pa_nil))))))) pa_nil))) pa_nil)) (blkOk_by (own := [("k", 3)]) (N := ["pool", "signs", "first", "k"]) (sc := defScope s_law_name) (by decide +kernel)) (fun _ _ _ _ _ => (pg_name (i := 3) nd rfl (Or.inl rfl))) (fun _ _ _ _ _ => pts_nil) (fun _ _ _ _ _ => (pe_ix ix_str (pv 1) (pe_call (ok_law_draw T) (hr.mono (by decide)) (by rfl) T.g__law_draw T.F__law_draw.kp T.k__law_draw .nil pass0 (pa_cons (pv 0) (pa_cons pe_int pa_nil))) (fun _ _ => rfl)))))))))), ?_⟩
  change (_ : TS) _ [some _, none, none, none] _
  try dsimp only [cxOf, Cx.nox, Cx.wish]
  walk_at "go"
  refine w_draw hP (by decide) (by decide) fun d H1 a0 a1 e1 P1 => ?_
  obtain ⟨c, hc, c1⟩ := sgn_at a0 (by omega)
  refine w_ixS (sz (by decide +kernel)) hc ?_
  walk_at "go"
  refine ⟨sz (by show 6 ≤ _; decide), w_alc fun o H2 e2 n2 h2 => ?_⟩
  walk_at "go"
  have P2 := P1.ext e2 List.not_mem_nil
  refine w_pick P2 h2 (P1.ne n2).symm (by decide) (by decide) fun v H3 hv e3 P3 => ?_
  obtain ⟨n, rfl, n0, n1⟩ : ∃ n : Int, v = .int n ∧ 0 ≤ n ∧ n ≤ 11 := by
    simp only [List.mem_cons, List.not_mem_nil, or_false] at hv
    rcases hv with rfl | rfl | rfl | rfl | rfl | rfl <;> exact ⟨_, rfl, by decide, by decide⟩
  walk_at "go"
  have e03 : Ext [p] H H3 := (e1.trans e2.up).trans e3
  refine ⟨_, rfl, by omega, by omega, fun D nD => ?_⟩
  refine z_lc_range (lo := 0) (fun i acc H' => Ext [p] H3 H' ∧ PoolAt K H' p ∧ ∃ ss : List Str, acc = ss.map V.str ∧ ss.length = i ∧ (ss.map (·.length)).sum = i ∧ ∀ y ∈ ss, Sg y) nD (fun H' e => ⟨e.up, P3.ext e List.not_mem_nil, [], rfl, rfl, rfl, fun _ m => nomatch m⟩) ?_ ?_
  · rintro Nx i acc H4 hi ⟨e4, P4, ss, rfl, hl, hs, hg⟩ hD hN
    walk_at "go"
    refine ⟨rfl, ?_⟩
    walk_at "go"
    refine w_draw P4 (by decide) (by decide) fun u H5 d0 d1 e5 P5 => ?_
    walk_at "go"
    obtain ⟨c', hc', c2⟩ := sgn_at d0 (by omega)
    refine w_ixS (sz (by decide +kernel)) hc' ?_
    have nDp : D ≠ p := (P3.ne nD).symm
    refine w_app (e5.keep _ _ hD (nm1 nDp)) (szl (by rw [List.length_map]; omega)) fun H6 e6 hD6 => ?_
    refine hN _ _ ⟨(e4.trans e5).dropq e6 nD, P5.ext e6 (nm1 nDp.symm), ss ++ [⟨#[c']⟩], by rw [List.map_append]; rfl, by rw [List.length_append, hl]; rfl, ?_, fun y m => ?_⟩ hD6
    · rw [List.map_append, List.sum_append, hs]
      rfl
    · rcases List.mem_append.mp m with m | m
      · exact hg y m
      · rw [List.mem_singleton.mp m]; exact Sg.one c2
  · rintro acc H4 ⟨e4, P4, ss, rfl, hl, hs, hg⟩ hD
    refine w_join (ys := ss) (sql hD) (by rw [hs, hl, show (Str.ofString "").length = 0 from by decide]; omega) ?_
    have l3 : (Txt.join (Str.ofString "") ss).length = n.toNat := by
      rw [str_len_join (by decide), hs]
    have l2 : (⟨#[c]⟩ : Str).length = 1 := rfl
    refine w_addS (sz (by omega)) ?_
    exact k _ _ (by rw [str_len_append]; omega) ((Sg.one c1).app (Sg.join Sg.empty hg)) (e03.trans e4) P4
theorem w_name {H : Hp} {p : Addr} {Q : VK} {E : XK} (hP : PoolAt K H p) (k : ∀ (z : Str) H', z.length ≤ 12 → Sg z → Ext [p] H H' → PoolAt K H' p → Q (.str z) H') : sp_law_name K ([.ref p] ++ []) H Q E := ⟨_, rfl, p, rfl, hP, k⟩
/-! ### cells -/
theorem cells_snoc {d : PyData} : ∀ {i : Nat} {ds : List PyData}, Cells i ds → Cell (i + ds.length) d → Cells i (ds ++ [d])
  | i, [], _, h => ⟨h, trivial⟩
  | i, x :: ds, h, k => ⟨h.1, cells_snoc h.2 (by rw [show i + 1 + ds.length = i + (x :: ds).length from by rw [List.length_cons]; omega]; exact k)⟩
theorem cell_non : ∀ {i : Nat}, i < 4 → Cell i .none
  | 0, _ => .inl rfl
  | 1, _ => .inl rfl
  | 2, _ => .inl rfl
  | 3, _ => .inl rfl
  | _ + 4, h => by omega
theorem cell_of {H : Hp} {n a b : Int} {z : Str} {k : Bool} {t : Addr} (hz : Sg z) (ht : H t = some (.tup [.str (Str.ofString "sealed"), .str (Str.ofString "int"), .int a, .int b])) : ∀ {i : Nat}, i < 4 → ∃ v d, ([.int n, .str z] ++ [.bl k, .ref t] : List V)[i]? = some v ∧ Cell i d ∧ Im H v d
  | 0, _ => ⟨_, _, rfl, .inr ⟨n, rfl⟩, .int n⟩
  | 1, _ => ⟨_, _, rfl, .inr ⟨z, hz, rfl⟩, .str z⟩
  | 2, _ => ⟨_, _, rfl, .inr ⟨k, rfl⟩, .bl k⟩
  | 3, _ => ⟨_, _, rfl, .inr ⟨a, b, rfl⟩, .tup ht (show 4 ≤ 1000 by decide) (.cons (.str _) (.cons (.str _) (.cons (.int _) (.cons (.int _) .nil))))⟩
  | _ + 4, h => by omega
def sp_law_cells (K : PySem.W.Frag) : Sp := sp1 fun a H Q => ∃ (p : Addr), a = .ref p ∧ PoolAt K H p ∧ ∀ q xs ds H', Ext [p] H H' → PoolAt K H' p → H' q = some (.tup xs) → xs.length ≤ 4 → ImAll H' xs ds → Cells 0 ds → Q (.ref q) H'
theorem ok_law_cells (T : Txt K mg) : FnOk P w K mg base CX0 6 T.f__law_cells T.d__law_cells ["pool"] (sp_law_cells K) := by
  refine T.F__law_cells.ok sc_law_cells len1 (fun cdv A outer s H vs Q E hr h => ?_)
  have nd := sc_law_cells.nd
  have hu := hu_of hr
  obtain ⟨_, rfl, p, rfl, hP, k⟩ := h
  refine ⟨_,
      (pss_cons (ps_set (i := 1) nd rfl (Or.inr rfl) (pe_lstZ (pa_cons (pe_op op_sub (pe_call (ok_law_draw T) (hr.mono (by decide)) (by rfl) T.g__law_draw T.F__law_draw.kp T.k__law_draw .nil pass0 (pa_cons (pv 0) (pa_cons (pe_op op_add (pe_op op_mul pe_int (pe_op op_pow pe_int pe_int)) pe_int) pa_nil))) (pe_op op_pow pe_int pe_int)) (pa_cons (pe_op zop_addS (pe_op zop_mulS pe_str (pe_call (ok_law_draw T) (hr.mono (by decide)) (by rfl) T.g__law_draw T.F__law_draw.kp T.k__law_draw .nil pass0 (pa_cons (pv 0) (pa_cons pe_int pa_nil)))) (pe_call (ok_law_name T) (hr.mono (by decide)) (by rfl) T.g__law_name T.F__law_name.kp T.k__law_name .nil pass0 (pa_cons (pv 0) pa_nil))) pa_nil)))) 
      (pss_cons (ps_set (i := 1) nd rfl (Or.inr rfl) (pe_op zop_cat (pv 1) (pe_lstZ (pa_cons (pe_cmpR op_eq (pe_call (ok_law_draw T) (hr.mono (by decide)) (by rfl) T.g__law_draw T.F__law_draw.kp T.k__law_draw .nil pass0 (pa_cons (pv 0) (pa_cons pe_int pa_nil))) pe_int (nomark _)) (pa_cons (pe_tupZ (pa_cons pe_str (pa_cons pe_str (pa_cons (pe_op op_add pe_int (pe_call (ok_law_draw T) (hr.mono (by decide)) (by rfl) T.g__law_draw T.F__law_draw.kp T.k__law_draw .nil pass0 (pa_cons (pv 0) (pa_cons pe_int pa_nil)))) (pa_cons (pe_call (ok_law_draw T) (hr.mono (by decide)) (by rfl) T.g__law_draw T.F__law_draw.kp T.k__law_draw .nil pass0 (pa_cons (pv 0) (pa_cons (pe_op op_mul pe_int (pe_op op_pow pe_int pe_int)) pa_nil))) pa_nil))))) pa_nil))))) 
      (pss_one (ps_ret (pe_callTy zc_tup (by rfl) T.b_tuple (by decide +kernel) (pa_cons (pe_lc (own := [("k", 2)]) rfl nd (pi_range1 (by rfl) T.b_range (pa_cons (pe_call (ok_law_draw T) (hr.mono (by decide)) (by rfl) T.g__law_draw T.F__law_draw.kp T.k__law_draw .nil pass0 (pa_cons (pv 0) (pa_cons pe_int pa_nil))) pa_nil)) (blkOk_by (own := [("k", 2)]) (N := ["pool", "cells", "k"]) (sc := defScope s_law_cells) (by decide +kernel)) (fun _ _ _ _ _ => (pg_name (i := 2) nd rfl (Or.inl rfl))) (fun _ _ _ _ _ => pts_nil) (fun _ _ _ _ _ => (pe_ifExp (pt_cmpR op_gt (pe_call (ok_law_draw T) (hr.mono (by decide)) (by rfl) T.g__law_draw T.F__law_draw.kp T.k__law_draw .nil pass0 (pa_cons (pv 0) (pa_cons pe_int pa_nil))) pe_int (nomark _)) (pe_ix (ix_listK (K := K) rfl) (pv 1) (pv 2) (fun _ _ => rfl)) pe_non))) pa_nil)))))), ?_⟩
  change (_ : TS) _ [some _, none, none] _
  try dsimp only [cxOf, Cx.nox, Cx.wish]
  walk_at "go"
  refine w_draw hP (by decide) (by decide) fun d H1 a0 a1 e1 P1 => ?_
  walk_at "go"
  refine w_draw P1 (by decide) (by decide) fun x H2 b0 b1 e2 P2 => ?_
  walk_at "go"
  refine w_mulS (by decide) (by omega) ?_
  walk_at "go"
  refine w_name P2 fun z H3 zl zg e3 P3 => ?_
  have lx : (Txt.mul (Str.ofString "x") x).length = x.toNat := by
    rw [str_len_mul b0, show (Str.ofString "x").length = 1 from by decide, Nat.one_mul]
  refine w_addS (sz (by omega)) ?_
  have sg : Sg (Txt.mul (Str.ofString "x") x ++ z) := (Sg.mul (fun c hc => by
    have : ∀ c ∈ (Str.ofString "x").cps.toList, c < 128 := by decide
    exact this c hc) x).app zg
  generalize Txt.mul (Str.ofString "x") x ++ z = zz at sg ⊢
  walk_at "go"
  refine ⟨sz (by show 2 ≤ _; decide), w_alc fun q1 H4 e4 n4 h4 => ?_⟩
  walk_at "go"
  refine w_draw (P3.ext e4 List.not_mem_nil) (by decide) (by decide) fun y H5 c0 c1 e5 P5 => ?_
  walk_at "go"
  refine w_draw P5 (by decide) (by decide) fun u H6 f0 f1 e6 P6 => ?_
  walk_at "go"
  refine w_draw P6 (by decide) (by decide) fun v H7 g0 g1 e7 P7 => ?_
  walk_at "go"
  refine ⟨sz (by show 4 ≤ _; decide), w_alc fun t H8 e8 n8 h8 => ?_⟩
  walk_at "go"
  refine ⟨sz (by show 2 ≤ _; decide), w_alc fun q2 H9 e9 n9 h9 => ?_⟩
  have nq1 : q1 ≠ p := (P3.ne n4).symm
  have h4' := e9.keep _ _ (e8.keep _ _ (e7.keep _ _ (e6.keep _ _ (e5.keep _ _ h4 (nm1 nq1)) (nm1 nq1)) (nm1 nq1)) List.not_mem_nil) List.not_mem_nil
  have P9 := (P7.ext e8 List.not_mem_nil).ext e9 List.not_mem_nil
  refine w_cat h4' h9 (sz (by show 2 + 2 ≤ _; decide)) (w_alc fun q3 HA eA nA hA => ?_)
  walk_at "go"
  have PA := P9.ext eA List.not_mem_nil
  have hT := eA.tup (e9.tup h8)
  have eHA : Ext [p] H HA := ((((((((e1.trans e2).trans e3).trans e4.up).trans e5).trans e6).trans e7).trans e8.up).trans e9.up).trans eA.up
  refine w_draw PA (by decide) (by decide) fun n HB m0 m1 eB PB => ?_
  walk_at "go"
  have nq3 : q3 ≠ p := (P9.ne nA).symm
  have hB := eB.keep _ _ hA (nm1 nq3)
  refine ⟨_, rfl, by omega, by omega, fun D nD => ?_⟩
  have nDp : D ≠ p := (PB.ne nD).symm
  refine z_lc_range (lo := 0) (fun i acc H' => Ext [p] HB H' ∧ PoolAt K H' p ∧ ∃ ds, ImAll H' acc ds ∧ Cells 0 ds ∧ ds.length = i) nD (fun H' e => ⟨e.up, PB.ext e List.not_mem_nil, [], .nil, trivial, rfl⟩) ?_ ?_
  · rintro Nx i acc HC hi ⟨eC, PC, ds, hia, hcs, hl⟩ hD hN
    walk_at "go"
    refine ⟨rfl, ?_⟩
    walk_at "go"
    refine w_cutE (fun v H' => Ext [p] HC H' ∧ PoolAt K H' p ∧ ∃ d, Cell i d ∧ Im H' v d) ?_ fun Q' hQ => ?_
    · rintro v HE ⟨eE, PE, d, hc, im⟩
      refine w_app (eE.keep _ _ hD (nm1 nDp)) (szl (by rw [hia.len]; omega)) fun HF eF hF => ?_
      exact hN _ _ ⟨(eC.trans eE).dropq eF nD, PE.ext eF (nm1 nDp.symm), ds ++ [d], ImAll.snoc (im.ext eF) ((hia.ext eE).ext eF), cells_snoc hcs (by rw [hl, Nat.zero_add]; exact hc), by rw [List.length_append, hl]; rfl⟩ hF
    · walk_at "ife"
      refine w_draw PC (by decide) (by decide) fun w HE w0 w1 eE PE => ?_
      walk_at "go"
      refine w_d (fun h => ?_) fun h => ?_
      · walk_at "go"
        obtain ⟨v, d, hv, hc, im⟩ := cell_of (n := d - 10 ^ 9) (z := zz) (k := decide (y = 1)) sg hT (i := i) (by omega)
        refine w_ixL (sql (eE.keep _ _ (eC.keep _ _ hB (nm1 nq3)) (nm1 nq3))) (at_nat0 hv) ?_
        exact hQ _ _ ⟨eE, PE, d, hc, ((im.ext eB).ext eC).ext eE⟩
      · walk_at "go"
        exact hQ _ _ ⟨eE, PE, _, cell_non (by omega), .non⟩
  · rintro acc HC ⟨eC, PC, ds, hia, hcs, hl⟩ hD
    walk_at "go"
    refine w_tupL (sql hD) (w_alc fun q HE eE nE hE => ?_)
    refine k q acc ds HE (((eHA.trans eB).trans eC).trans eE.up) (PC.ext eE List.not_mem_nil) hE (by rw [hia.len]; omega) (hia.ext eE) hcs
theorem w_cells {H : Hp} {p : Addr} {Q : VK} {E : XK} (hP : PoolAt K H p) (k : ∀ q xs ds H', Ext [p] H H' → PoolAt K H' p → H' q = some (.tup xs) → xs.length ≤ 4 → ImAll H' xs ds → Cells 0 ds → Q (.ref q) H') : sp_law_cells K ([.ref p] ++ []) H Q E := ⟨_, rfl, p, rfl, hP, k⟩

/-! ### contents -/
def sp_law_content (K : PySem.W.Frag) : Sp := sp2 fun a b H Q => ∃ (p q : Addr) (s : Zk.Slot), a = .ref p ∧ b = .ref q ∧ PoolAt K H p ∧ H q = some (.tup (sVs s)) ∧ ∀ v d H', Ext [p] H H' → PoolAt K H' p → Im H' v d → Cont d → Q v H'
theorem ok_law_content (T : Txt K mg) : FnOk P w K mg base CX0 7 T.f__law_content T.d__law_content ["pool", "slot"] (sp_law_content K) := by
  refine T.F__law_content.ok sc_law_content len2 (fun cdv A outer s H vs Q E hr h => ?_)
  have nd := sc_law_content.nd
  have hu := hu_of hr
  obtain ⟨_, _, rfl, p, q, s, rfl, rfl, hP, hq, k⟩ := h
  refine ⟨_,
      (pss_cons (ps_if (pt_cmpR op_gt (pe_ix ix_tup (pv 1) pe_int (fun _ _ => rfl)) pe_int (nomark _)) 
        (pss_one (ps_ret (pe_tupZ (pa_cons pe_str (pa_cons (pe_call (ok_law_draw T) (hr.mono (by decide)) (by rfl) T.g__law_draw T.F__law_draw.kp T.k__law_draw .nil pass0 (pa_cons (pv 0) (pa_cons pe_int pa_nil))) (pa_cons (pe_call (ok_law_pick T) (hr.mono (by decide)) (by rfl) T.g__law_pick T.F__law_pick.kp T.k__law_pick .nil pass0 (pa_cons (pv 0) (pa_cons (pe_lstZ (pa_cons pe_int (pa_cons pe_int (pa_cons pe_int (pa_cons (pe_op op_pow pe_int pe_int) pa_nil))))) pa_nil))) (pa_cons (pe_call (ok_law_cells T) (hr.mono (by decide)) (by rfl) T.g__law_cells T.F__law_cells.kp T.k__law_cells .nil pass0 (pa_cons (pv 0) pa_nil)) pa_nil))))))) pss_nil) 
      (pss_cons (ps_if (pt_cmpR op_eq (pe_call (ok_law_draw T) (hr.mono (by decide)) (by rfl) T.g__law_draw T.F__law_draw.kp T.k__law_draw .nil pass0 (pa_cons (pv 0) (pa_cons pe_int pa_nil))) pe_int (nomark _)) 
        (pss_one (ps_ret (pe_tupZ (pa_cons pe_str (pa_cons (pe_op op_add pe_int (pe_call (ok_law_draw T) (hr.mono (by decide)) (by rfl) T.g__law_draw T.F__law_draw.kp T.k__law_draw .nil pass0 (pa_cons (pv 0) (pa_cons pe_int pa_nil)))) pa_nil))))) pss_nil) 
      (pss_one (ps_ret (pe_tupZ (pa_cons pe_str (pa_cons (pe_call (ok_law_draw T) (hr.mono (by decide)) (by rfl) T.g__law_draw T.F__law_draw.kp T.k__law_draw .nil pass0 (pa_cons (pv 0) (pa_cons pe_int pa_nil))) (pa_cons (pe_op op_add pe_int (pe_call (ok_law_draw T) (hr.mono (by decide)) (by rfl) T.g__law_draw T.F__law_draw.kp T.k__law_draw .nil pass0 (pa_cons (pv 0) (pa_cons pe_int pa_nil)))) (pa_cons (pe_cmpR op_eq (pe_call (ok_law_draw T) (hr.mono (by decide)) (by rfl) T.g__law_draw T.F__law_draw.kp T.k__law_draw .nil pass0 (pa_cons (pv 0) (pa_cons pe_int pa_nil))) pe_int (nomark _)) (pa_cons (pe_op op_add pe_int (pe_call (ok_law_draw T) (hr.mono (by decide)) (by rfl) T.g__law_draw T.F__law_draw.kp T.k__law_draw .nil pass0 (pa_cons (pv 0) (pa_cons pe_int pa_nil)))) pa_nil)))))))))), ?_⟩
  change (_ : TS) _ [some _, some _] _
  try dsimp only [cxOf, Cx.nox, Cx.wish]
  walk_at "go"
  refine w_cut (fun σ' H' => H = H' ∧ σ' = [some (.ref p), some (.ref q)]) ?_ fun nx hn => ?_
  · rintro _ _ ⟨rfl, rfl⟩
    walk_at "go"
    refine w_cut (fun σ' H' => Ext [p] H H' ∧ PoolAt K H' p ∧ σ' = [some (.ref p), some (.ref q)]) ?_ fun nx hn => ?_
    · rintro _ H1 ⟨e1, P1, rfl⟩
      walk_at "go"
      refine w_draw P1 (by decide) (by decide) fun a H2 a0 a1 e2 P2 => ?_
      walk_at "go"
      refine w_draw P2 (by decide) (by decide) fun b H3 b0 b1 e3 P3 => ?_
      walk_at "go"
      refine w_draw P3 (by decide) (by decide) fun c H4 c0 c1 e4 P4 => ?_
      walk_at "go"
      refine w_draw P4 (by decide) (by decide) fun d H5 d0 d1 e5 P5 => ?_
      walk_at "go"
      refine ⟨sz (by show 5 ≤ _; decide), w_alc fun t H6 e6 n6 h6 => ?_⟩
      exact k _ _ _ (((((e1.trans e2).trans e3).trans e4).trans e5).trans e6.up) (P5.ext e6 List.not_mem_nil) (.tup h6 (show 5 ≤ 1000 by decide) (.cons (.str _) (.cons (.int _) (.cons (.int _) (.cons (.bl _) (.cons (.int _) .nil)))))) (.inr (.inr ⟨_, _, _, _, rfl⟩))
    · walk_at "if"
      refine w_draw hP (by decide) (by decide) fun a H2 a0 a1 e2 P2 => ?_
      walk_at "go"
      refine w_d (fun h => ?_) fun h => ?_ <;> walk_at "go"
      · refine w_draw P2 (by decide) (by decide) fun b H3 b0 b1 e3 P3 => ?_
        walk_at "go"
        refine ⟨sz (by show 2 ≤ _; decide), w_alc fun t H6 e6 n6 h6 => ?_⟩
        exact k _ _ _ ((e2.trans e3).trans e6.up) (P3.ext e6 List.not_mem_nil) (.tup h6 (show 2 ≤ 1000 by decide) (.cons (.str _) (.cons (.int _) .nil))) (.inr (.inl ⟨_, rfl⟩))
      · exact hn _ _ ⟨e2, P2, rfl⟩
  · walk_at "if"
    refine w_d (fun h => ?_) fun h => ?_ <;> walk_at "go"
    · refine w_draw hP (by decide) (by decide) fun a H2 a0 a1 e2 P2 => ?_
      walk_at "go"
      refine ⟨sz (by show 4 ≤ _; decide), w_alc fun o H3 e3 n3 h3 => ?_⟩
      walk_at "go"
      refine w_pick (P2.ext e3 List.not_mem_nil) h3 (P2.ne n3).symm (by decide) (by decide) fun v H4 hv e4 P4 => ?_
      obtain ⟨n, rfl⟩ : ∃ n : Int, v = .int n := by
        simp only [List.mem_cons, List.not_mem_nil, or_false] at hv
        rcases hv with rfl | rfl | rfl | rfl <;> exact ⟨_, rfl⟩
      walk_at "go"
      refine w_cells P4 fun t xs ds H5 e5 P5 h5 lz ia hc => ?_
      walk_at "go"
      refine ⟨sz (by show 4 ≤ _; decide), w_alc fun t2 H6 e6 n6 h6 => ?_⟩
      exact k _ _ _ ((((e2.trans e3.up).trans e4).trans e5).trans e6.up) (P5.ext e6 List.not_mem_nil) (.tup h6 (show 4 ≤ 1000 by decide) (.cons (.str _) (.cons (.int _) (.cons (.int _) (.cons (.tup (e6.tup h5) (by omega) (ia.ext e6)) .nil))))) (.inl ⟨_, _, _, hc, rfl⟩)
    · exact hn _ _ ⟨rfl, rfl⟩
theorem w_content {H : Hp} {p q : Addr} {s : Zk.Slot} {Q : VK} {E : XK} (hP : PoolAt K H p) (hq : H q = some (.tup (sVs s))) (k : ∀ v d H', Ext [p] H H' → PoolAt K H' p → Im H' v d → Cont d → Q v H') : sp_law_content K ([.ref p, .ref q] ++ []) H Q E := ⟨_, _, rfl, p, q, s, rfl, rfl, hP, hq, k⟩
/-! ### the slots that are drawn from -/
theorem slots_dp {H : Hp} {as : List Addr} {ss : List Zk.Slot} (h : SlotsAt H as ss) : DpAll K H (as.map V.ref) (ss.map sD) := by
  unfold SlotsAt at h
  induction h with
  | nil => exact .nil
  | cons h t ih => exact .cons (im_slot h).dp ih
theorem slots_shaped : ∀ {ss : List Zk.Slot}, (∀ s ∈ ss, Sg s.1) → PyData.canLayAll0 (ss.map sD) = true ∧ PyData.depthAll (ss.map sD) ≤ 1
  | [], _ => by simp [PyData.canLayAll0, PyData.depthAll]
  | s :: ss, h => by
    obtain ⟨a, b⟩ := slots_shaped fun t m => h t (List.mem_cons_of_mem _ m)
    have c := SeqAt.canLay_of_shaped (sD_shaped (h s List.mem_cons_self))
    rw [List.map_cons, PyData.canLayAll0, PyData.depthAll, a, c, sD_depth]
    exact ⟨rfl, Nat.max_le.mpr ⟨Nat.le_refl _, b⟩⟩
theorem slots_shaped' {ss : List Zk.Slot} (h : ∀ s ∈ ss, Sg s.1) : SeqAt.shaped (.list (ss.map sD)) = true := by
  obtain ⟨a, b⟩ := slots_shaped h
  unfold SeqAt.shaped
  rw [PyData.canLay0, PyData.depth, a, decide_eq_true (by omega)]
  rfl
def sp_law_universe (K : PySem.W.Frag) : Sp := sp2 fun a b H Q => ∃ (p : Addr), a = .ref p ∧ b = .int 7 ∧ PoolAt K H p ∧
  ∀ o bs ss H', Ext [p] H H' → PoolAt K H' p → H o = none → H' o = some (.lst (bs.map V.ref)) → SlotsAt H' bs ss → 1 ≤ ss.length → ss.length ≤ 8 → (∀ s ∈ ss, Sg s.1) → o ≠ p → Q (.ref o) H'
theorem ok_law_universe (T : Txt K mg) : FnOk P w K mg base CX0 6 T.f__law_universe T.d__law_universe ["pool", "many"] (sp_law_universe K) := by
  refine T.F__law_universe.ok sc_law_universe len2 (fun cdv A outer s H vs Q E hr h => ?_)
  have nd := sc_law_universe.nd
  have hu := hu_of hr
  obtain ⟨_, _, rfl, p, rfl, rfl, hP, k⟩ := h
  refine ⟨_,
      (pss_cons (ps_setLc (i := 3) (own := [("k", 2)]) rfl nd rfl rfl (sw_true rfl rfl rfl (by decide +kernel)) (pi_range1 (by rfl) T.b_range (pa_cons (pe_op op_add pe_int (pe_call (ok_law_draw T) (hr.mono (by decide)) (by rfl) T.g__law_draw T.F__law_draw.kp T.k__law_draw .nil pass0 (pa_cons (pv 0) (pa_cons pe_int pa_nil)))) pa_nil)) (blkOk_by (own := [("k", 2)]) (N := ["pool", "many", "k", "names", "found", "slot"]) (sc := defScope s_law_universe) (by decide +kernel)) (fun _ _ _ _ _ => (pg_name (i := 2) nd rfl (Or.inl rfl))) (fun _ _ _ _ _ => pts_nil) (fun _ _ _ _ _ => (pe_call (ok_law_name T) (hr.mono (by decide)) (by rfl) T.g__law_name T.F__law_name.kp T.k__law_name .nil pass0 (pa_cons (pv 0) pa_nil)))) 
      (pss_cons (ps_set (i := 4) nd rfl (Or.inl rfl) (pe_lstZ pa_nil)) 
      (pss_cons (ps_for PassesOwn.never rfl (pi_range1 (by rfl) T.b_range (pa_cons (pe_op op_add pe_int (pe_call (ok_law_draw T) (hr.mono (by decide)) (by rfl) T.g__law_draw T.F__law_draw.kp T.k__law_draw .nil pass0 (pa_cons (pv 0) (pa_cons (pv 1) pa_nil)))) pa_nil)) (pg_name (i := 2) nd rfl (Or.inl rfl)) 
        (pss_cons (ps_set (i := 5) nd rfl (Or.inl rfl) (pe_tupZ (pa_cons (pe_call (ok_law_pick T) (hr.mono (by decide)) (by rfl) T.g__law_pick T.F__law_pick.kp T.k__law_pick .nil pass0 (pa_cons (pv 0) (pa_cons (pv 3) pa_nil))) (pa_cons (pe_op op_add pe_int (pe_call (ok_law_draw T) (hr.mono (by decide)) (by rfl) T.g__law_draw T.F__law_draw.kp T.k__law_draw .nil pass0 (pa_cons (pv 0) (pa_cons pe_int pa_nil)))) (pa_cons (pe_op op_add pe_int (pe_call (ok_law_draw T) (hr.mono (by decide)) (by rfl) T.g__law_draw T.F__law_draw.kp T.k__law_draw .nil pass0 (pa_cons (pv 0) (pa_cons (pe_op op_pow pe_int pe_int) pa_nil)))) pa_nil))))) 
        (pss_cons (ps_if (pt_cmpR op_eq (pe_call (ok_law_draw T) (hr.mono (by decide)) (by rfl) T.g__law_draw T.F__law_draw.kp T.k__law_draw .nil pass0 (pa_cons (pv 0) (pa_cons pe_int pa_nil))) pe_int (nomark _)) 
          (pss_one (ps_set (i := 5) nd rfl (Or.inl rfl) (pe_tupZ (pa_cons (pe_ix ix_tup (pv 5) pe_int (fun _ _ => rfl)) (pa_cons pe_int (pa_cons pe_int pa_nil)))))) pss_nil) 
        (pss_one (ps_if (pt_cmpR (op_notInD (room65 hr)) (pv 5) (pv 4) (by rfl)) 
          (pss_one (ps_expr (pe_bm PySem.F.plainAttrs_list PySem.F.slot_list_append PySem.F.type_list_append zmt_append (pv 4) (pa_cons (pv 5) pa_nil)))) pss_nil))))) 
      (pss_one (ps_ret (pv 4)))))), ?_⟩
  change (_ : TS) _ [some _, some _, none, none, none, none] _
  try dsimp only [cxOf, Cx.nox, Cx.wish]
  walk_at "go"
  refine w_draw hP (by decide) (by decide) fun n H1 n0 n1 e1 P1 => ?_
  walk_at "go"
  refine ⟨_, rfl, by omega, by omega, fun D nD => ?_⟩
  have nDp : D ≠ p := (P1.ne nD).symm
  refine z_lc_range (lo := 0) (fun i acc H' => Ext [p] H1 H' ∧ PoolAt K H' p ∧ ∃ ns : List Str, acc = ns.map V.str ∧ ns.length = i ∧ ∀ y ∈ ns, Sg y) nD (fun H' e => ⟨e.up, P1.ext e List.not_mem_nil, [], rfl, rfl, fun _ m => nomatch m⟩) ?_ ?_
  · rintro Nx i acc H2 hi ⟨e2, P2, ns, rfl, hl, hg⟩ hD hN
    walk_at "go"
    refine ⟨rfl, ?_⟩
    walk_at "go"
    refine w_name P2 fun z H3 zl zg e3 P3 => ?_
    refine w_app (e3.keep _ _ hD (nm1 nDp)) (szl (by rw [List.length_map]; omega)) fun H4 e4 h4 => ?_
    refine hN _ _ ⟨(e2.trans e3).dropq e4 nD, P3.ext e4 (nm1 nDp.symm), ns ++ [z], by rw [List.map_append]; rfl, by rw [List.length_append, hl]; rfl, fun y m => ?_⟩ h4
    rcases List.mem_append.mp m with m | m
    · exact hg y m
    · rw [List.mem_singleton.mp m]; exact zg
  · rintro acc H2 ⟨e2, P2, ns, rfl, hl, hg⟩ hD
    walk_at "go"
    refine ⟨Nat.zero_le _, w_alc fun o H3 e3 n3 h3 => ?_⟩
    walk_at "go"
    have P3 := P2.ext e3 List.not_mem_nil
    have nop : o ≠ p := (P2.ne n3).symm
    have nDo : D ≠ o := ne_of_none hD n3
    have hD3 := e3.keep _ _ hD List.not_mem_nil
    refine w_draw P3 (by decide) (by decide) fun m H4 m0 m1 e4 P4 => ?_
    walk_at "go"
    have nD0 : H D = none := e1.free nD
    have no0 : H o = none := (e1.trans e2).free n3
    have e04 : Ext [p] H H4 := ((e1.trans e2).trans e3.up).trans e4
    have hD4 := e4.keep _ _ hD3 (nm1 nDp)
    have h4 := e4.keep _ _ h3 (nm1 nop)
    refine ⟨_, rfl, by omega, by omega, z_for_range (lo := 0) (fun i σ' H' => ∃ (bs : List Addr) (ss : List Zk.Slot) (u v : Option V), σ' = [some (.ref p), some (.int 7), u, some (.ref D), some (.ref o), v] ∧ Ext [p] H H' ∧ PoolAt K H' p ∧
      H' D = some (.lst (ns.map V.str)) ∧ H' o = some (.lst (bs.map V.ref)) ∧ SlotsAt H' bs ss ∧ ss.length ≤ i ∧ (0 < i → 1 ≤ ss.length) ∧ ∀ s ∈ ss, Sg s.1) ⟨[], [], _, _, rfl, e04, P4, hD4, h4, .nil, Nat.zero_le _, fun h => by omega, fun _ m => nomatch m⟩ ?_ ?_⟩
    · rintro N i σ' H5 hi ⟨bs, ss, u, v, rfl, e5, P5, hD5, h5, hss, hl5, hl6, hsg⟩ hN
      walk_at "go"
      refine w_pick P5 hD5 nDp (by rw [List.length_map, hl]; omega) (by rw [List.length_map, hl]; omega) fun v H6 hv e6 P6 => ?_
      obtain ⟨z, hz, rfl⟩ := List.mem_map.mp hv
      have zg := hg z hz
      walk_at "go"
      refine w_draw P6 (by decide) (by decide) fun a H7 a0 a1 e7 P7 => ?_
      walk_at "go"
      refine w_draw P7 (by decide) (by decide) fun b H8 b0 b1 e8 P8 => ?_
      walk_at "go"
      refine ⟨sz (by show 3 ≤ _; decide), w_alc fun t H9 e9 n9 h9 => ?_⟩
      walk_at "go"
      have P9 := P8.ext e9 List.not_mem_nil
      have e59 : Ext [p] H5 H9 := ((e6.trans e7).trans e8).trans e9.up
      refine w_cut (fun σ' H' => Ext [p] H5 H' ∧ PoolAt K H' p ∧ ∃ (t : Addr) (s : Zk.Slot) (u : Option V), σ' = [some (.ref p), some (.int 7), u, some (.ref D), some (.ref o), some (.ref t)] ∧ H' t = some (.tup (sVs s)) ∧ Sg s.1) ?_ fun nx hn => ?_
      · rintro _ HA ⟨eA, PA, t, s, u, rfl, ht, sg⟩
        have hA := eA.keep _ _ h5 (nm1 nop)
        have hDA := eA.keep _ _ hD5 (nm1 nDp)
        have sA := hss.ext eA
        walk_at "go"; walk_at "if"
        refine ⟨sD s, ss.map sD, (im_slot ht).dp, .lst (sql hA) (slots_dp sA), sD_shaped sg, slots_shaped' hsg, ?_⟩
        refine w_bl ?_
        refine w_nb (fun z => ?_) fun z => ?_
        · walk_at "go"
          refine w_append hA (szl (by rw [List.length_map, hss.len]; omega)) ?_
          refine w_chg hA (fun z => z) fun HB eB hB => ?_
          walk_at "go"
          rw [← List.map_singleton (f := V.ref), ← List.map_append] at hB
          refine hN _ _ ⟨bs ++ [t], ss ++ [s], _, _, rfl, (e5.trans eA).dropq eB no0, PA.ext eB (nm1 nop.symm), eB.keep _ _ hDA (nm1 nDo), hB, (sA.ext eB).snoc (eB.tup ht), by rw [List.length_append]; exact Nat.succ_le_succ hl5, fun _ => by rw [List.length_append]; exact Nat.le_add_left _ _, fun y m => ?_⟩
          rcases List.mem_append.mp m with m | m
          · exact hsg y m
          · rw [List.mem_singleton.mp m]; exact sg
        · walk_at "go"
          refine hN _ _ ⟨bs, ss, _, _, rfl, e5.trans eA, PA, hDA, hA, sA, Nat.le_succ_of_le hl5, fun _ => ?_, hsg⟩
          cases ss with
          | nil => cases z
          | cons s r => exact Nat.succ_le_succ (Nat.zero_le _)
      · walk_at "if"
        refine w_draw P9 (by decide) (by decide) fun w HA w0 w1 eA PA => ?_
        walk_at "go"
        refine w_d (fun h => ?_) fun h => ?_
        · have hA := eA.tup h9
          walk_at "go"
          refine ⟨sz (by show 3 ≤ _; decide), w_alc fun t' HB eB nB hB => ?_⟩
          walk_at "go"
          exact hn _ _ ⟨(e59.trans eA).trans eB.up, PA.ext eB List.not_mem_nil, t', (z, 0, 0), _, rfl, hB, zg⟩
        · walk_at "go"
          exact hn _ _ ⟨e59.trans eA, PA, t, (z, 1 + a, 1 + b), _, rfl, eA.tup h9, zg⟩
    · rintro σ' H5 ⟨bs, ss, u, v, rfl, e5, P5, hD5, h5, hss, hl5, hl6, hsg⟩
      walk_at "go"
      exact k o bs ss H5 e5 P5 no0 h5 hss (hl6 (by omega)) (by omega) hsg nop
theorem w_universe {H : Hp} {p : Addr} {Q : VK} {E : XK} (hP : PoolAt K H p) (k : ∀ o bs ss H', Ext [p] H H' → PoolAt K H' p → H o = none → H' o = some (.lst (bs.map V.ref)) → SlotsAt H' bs ss → 1 ≤ ss.length → ss.length ≤ 8 → (∀ s ∈ ss, Sg s.1) → o ≠ p → Q (.ref o) H') :
    sp_law_universe K ([.ref p, .int 7] ++ []) H Q E := ⟨_, _, rfl, p, rfl, rfl, hP, k⟩

theorem pd_ne {U : List Zk.Slot} {H : Hp} {p d : Addr} {f : Fd} (hP : PoolAt K H p) (h : DM U H d f) : d ≠ p := by
  obtain ⟨sc, ns, pl, re, fi, h1, _⟩ := hP
  obtain ⟨kvs, ks, h2, _⟩ := h
  intro z
  subst z
  rw [h1] at h2
  cases h2
theorem ld_ne {U : List Zk.Slot} {H : Hp} {q d : Addr} {xs : List V} {f : Fd} (hq : H q = some (.lst xs)) (h : DM U H d f) : d ≠ q := by
  obtain ⟨kvs, ks, h2, _⟩ := h
  intro z
  subst z
  rw [hq] at h2
  cases h2
theorem w_tyT {H : Hp} {a : Addr} {kvs : List (List Key × V)} {R : Prop} (h : H a = some (.dT kvs)) (q : R) : tyV K "dict" (.ref a) H ∧ R := ⟨.inr (.inr (.inl ⟨rfl, .inr ⟨kvs, h⟩⟩)), q⟩
theorem w_clearD {U : List Zk.Slot} {H : Hp} {a : Addr} {f : Fd} {Q : VK} (h : DM U H a f) (k : ∀ H', Ext [a] H H' → Q .non H') : tyV K "dict" (.ref a) H ∧ rClearT (.ref a) [] H Q := by
  obtain ⟨kvs, ks, h, _⟩ := h
  exact w_tyT h (w_clearT h k)
/-! ### a state moved on -/
def sp_law_moved (K : PySem.W.Frag) : Sp := sp4 fun a b c d H Q => ∃ (U : List Zk.Slot) (p o q : Addr) (bs : List Addr) (ss : List Zk.Slot) (f : Fd) (mo : Int), a = .ref p ∧ b = .ref o ∧ c = .ref q ∧ d = .int mo ∧ 0 ≤ mo ∧ mo ≤ 100 ∧ Pln U ∧ PoolAt K H p ∧ H o = some (.lst (bs.map V.ref)) ∧ o ≠ p ∧ SlotsAt H bs ss ∧ 1 ≤ ss.length ∧ ss.length ≤ 8 ∧ (∀ s ∈ ss, s ∈ U) ∧ DM U H q f ∧ Stt f ∧
  ∀ r f' H', Ext [p] H H' → PoolAt K H' p → H r = none → DM U H' r f' → Stt f' → Q (.ref r) H'
theorem ok_law_moved (T : Txt K mg) : FnOk P w K mg base CX0 8 T.f__law_moved T.d__law_moved ["pool", "slots", "state", "most"] (sp_law_moved K) := by
  refine T.F__law_moved.ok sc_law_moved len4 (fun cdv A outer s H vs Q E hr h => ?_)
  have nd := sc_law_moved.nd
  have hu := hu_of hr
  obtain ⟨_, _, _, _, rfl, U, p, o, q, bs, ss, f, mo, rfl, rfl, rfl, rfl, mo0, mo1, hU, hP, ho, nop, hss, l1, l8, hsU, hf, sf, k⟩ := h
  refine ⟨_,
      (pss_cons (ps_set (i := 4) nd rfl (Or.inl rfl) (pe_call (ok_law_copy T) (hr.mono (by decide)) (by rfl) T.g__law_copy T.F__law_copy.kp T.k__law_copy .nil pass0 (pa_cons (pv 2) pa_nil))) 
      (pss_cons (ps_for PassesOwn.never rfl (pi_range1 (by rfl) T.b_range (pa_cons (pe_call (ok_law_draw T) (hr.mono (by decide)) (by rfl) T.g__law_draw T.F__law_draw.kp T.k__law_draw .nil pass0 (pa_cons (pv 0) (pa_cons (pe_op op_add (pv 3) pe_int) pa_nil))) pa_nil)) (pg_name (i := 5) nd rfl (Or.inl rfl)) 
        (pss_cons (ps_set (i := 6) nd rfl (Or.inl rfl) (pe_call (ok_law_pick T) (hr.mono (by decide)) (by rfl) T.g__law_pick T.F__law_pick.kp T.k__law_pick .nil pass0 (pa_cons (pv 0) (pa_cons (pv 1) pa_nil)))) 
        (pss_one (ps_if (PW.pt (pw_and (pt_cmp (pc_din hu (pv 6) (pv 4))) (pw_and1 (pt_cmpR op_eq (pe_call (ok_law_draw T) (hr.mono (by decide)) (by rfl) T.g__law_draw T.F__law_draw.kp T.k__law_draw .nil pass0 (pa_cons (pv 0) (pa_cons pe_int pa_nil))) pe_int (nomark _))))) 
          (pss_one (ps_set (i := 4) nd rfl (Or.inl rfl) (pe_call (ok_law_without T) (hr.mono (by decide)) (by rfl) T.g__law_without T.F__law_without.kp T.k__law_without .nil pass0 (pa_cons (pv 4) (pa_cons (pv 6) pa_nil))))) 
          (pss_one (ps_dput hu (pv 4) (pv 6) (pe_call (ok_law_content T) (hr.mono (by decide)) (by rfl) T.g__law_content T.F__law_content.kp T.k__law_content .nil pass0 (pa_cons (pv 0) (pa_cons (pv 6) pa_nil))) rfl)))))) 
      (pss_one (ps_ret (pv 4))))), ?_⟩
  change (_ : TS) _ [some _, some _, some _, some _, none, none, none] _
  try dsimp only [cxOf, Cx.nox, Cx.wish]
  walk_at "go"
  refine w_sp1 ⟨U, q, f, rfl, hU.1, hf, fun D H1 e1 n1 h1 => ?_⟩
  walk_at "go"
  have P1 := hP.ext e1 List.not_mem_nil
  refine w_draw P1 (by omega) (by omega) fun n H2 n0 n1' e2 P2 => ?_
  walk_at "go"
  have nDp : D ≠ p := pd_ne P1 h1
  refine ⟨_, rfl, by omega, by omega, z_for_range (lo := 0) (fun i σ' H' => Ext [p] H H' ∧ PoolAt K H' p ∧ ∃ (D : Addr) (f' : Fd) (u v : Option V), σ' = [some (.ref p), some (.ref o), some (.ref q), some (.int mo), some (.ref D), u, v] ∧ H D = none ∧ DM U H' D f' ∧ Stt f')
    ⟨e1.up.trans e2, P2, D, f, _, _, rfl, n1, h1.ext e2 (nm1 nDp), sf⟩ ?_ ?_⟩
  · rintro N i σ' H3 hi ⟨e3, P3, D, f', u, v, rfl, nD, hD, sf'⟩ hN
    have ho3 := e3.keep _ _ ho (nm1 nop)
    have hs3 := hss.ext e3
    have nDp := pd_ne P3 hD
    walk_at "go"
    refine w_pick P3 ho3 nop (by rw [List.length_map, hss.len]; omega) (by rw [List.length_map, hss.len]; omega) fun v H4 hv e4 P4 => ?_
    obtain ⟨j, hj⟩ := List.mem_iff_getElem?.mp hv
    obtain ⟨b, s, rfl, hb, hs, hb3⟩ := hs3.get hj
    have sU := hsU s (List.mem_of_getElem? hs)
    have hb4 := e4.tup hb3
    have D4 := hD.ext e4 (nm1 nDp)
    walk_at "go"; walk_at "if"
    have other : ∀ {H5 : Hp}, Ext [p] H4 H5 → PoolAt K H5 p → ∀ v d H6, Ext [p] H5 H6 → PoolAt K H6 p → Im H6 v d → Cont d → ∀ H7, Ext [D] H6 H7 → DM U H7 D (putF f' s d) → Ext [p] H H7 ∧ PoolAt K H7 p ∧ H D = none ∧ DM U H7 D (putF f' s d) ∧ Stt (putF f' s d) := fun e5 P5 v d H6 e6 P6 im co H7 e7 h7 =>
      ⟨(((e3.trans e4).trans e5).trans e6).dropq e7 nD, P6.ext e7 (nm1 nDp.symm), nD, h7, stt_put sf' co⟩
    refine w_dinT D4.dr hb4 fun o' ho' => ?_
    rw [ho']
    refine w_bl ?_
    refine w_b (fun z => ?_) fun z => ?_
    · walk_at "go"
      refine w_draw P4 (by decide) (by decide) fun w H5 w0 w1 e5 P5 => ?_
      walk_at "go"
      have D5 := D4.ext e5 (nm1 nDp)
      have hb5 := e5.tup hb4
      refine w_d (fun h => ?_) fun h => ?_
      · walk_at "go"
        refine w_sp2 ⟨U, D, b, f', s, rfl, rfl, hU, sU, hb5, D5, sf', fun r f2 H6 e6 n6 h6 st6 => ?_⟩
        walk_at "go"
        exact hN _ _ ⟨((e3.trans e4).trans e5).trans e6.up, P5.ext e6 List.not_mem_nil, r, f2, _, _, rfl, ((e3.trans e4).trans e5).free n6, h6, st6⟩
      · walk_at "go"
        refine w_content P5 hb5 fun v d H6 e6 P6 im co => ?_
        walk_at "go"
        refine w_dputT hU.1 (D5.ext e6 (nm1 nDp)) (e6.tup hb5) sU im fun H7 e7 h7 => ?_
        obtain ⟨a1, a2, a3, a4, a5⟩ := other e5 P5 v d H6 e6 P6 im co H7 e7 h7
        exact hN _ _ ⟨a1, a2, D, _, _, _, rfl, a3, a4, a5⟩
    · walk_at "go"
      refine w_content P4 hb4 fun v d H6 e6 P6 im co => ?_
      walk_at "go"
      refine w_dputT hU.1 (D4.ext e6 (nm1 nDp)) (e6.tup hb4) sU im fun H7 e7 h7 => ?_
      obtain ⟨a1, a2, a3, a4, a5⟩ := other Ext.refl P4 v d H6 e6 P6 im co H7 e7 h7
      exact hN _ _ ⟨a1, a2, D, _, _, _, rfl, a3, a4, a5⟩
  · rintro σ' H3 ⟨e3, P3, D, f', u, v, rfl, nD, hD, sf'⟩
    walk_at "go"
    exact k D f' H3 e3 P3 nD hD sf'
theorem w_moved {H : Hp} {U : List Zk.Slot} {p o q : Addr} {bs : List Addr} {ss : List Zk.Slot} {f : Fd} {mo : Int} {Q : VK} {E : XK} (m0 : 0 ≤ mo) (m1 : mo ≤ 100) (hU : Pln U) (hP : PoolAt K H p) (ho : H o = some (.lst (bs.map V.ref))) (nop : o ≠ p) (hss : SlotsAt H bs ss) (l1 : 1 ≤ ss.length) (l8 : ss.length ≤ 8) (hsU : ∀ s ∈ ss, s ∈ U) (hf : DM U H q f) (sf : Stt f)
    (k : ∀ r f' H', Ext [p] H H' → PoolAt K H' p → H r = none → DM U H' r f' → Stt f' → Q (.ref r) H') : sp_law_moved K ([.ref p, .ref o, .ref q, .int mo] ++ []) H Q E :=
  ⟨_, _, _, _, rfl, U, p, o, q, bs, ss, f, mo, rfl, rfl, rfl, rfl, m0, m1, hU, hP, ho, nop, hss, l1, l8, hsU, hf, sf, k⟩

/-! ### the law's own application -/
theorem slotsD_nil {ss : List Zk.Slot} : (PyData.eqv (.list (ss.map sD)) (.list [])) = decide (ss = []) := by
  cases ss with
  | nil => simp [PyData.eqv, PyData.eqvAll]
  | cons s r => simp [PyData.eqv, PyData.eqvAll]
theorem shaped_nil : SeqAt.shaped (.list []) = true := by
  unfold SeqAt.shaped
  simp [PyData.canLay0, PyData.canLayAll0, PyData.depth, PyData.depthAll]
def sp_law_applied (K : PySem.W.Frag) : Sp := sp2 fun a b H Q => ∃ (U : List Zk.Slot) (p q : Addr) (f : Fd) (D : Df), a = .ref p ∧ b = .ref q ∧ Pln U ∧ DM U H p f ∧ DM U H q (dF D) ∧ Stt f ∧ DOk D ∧
  (∀ r o H', (∀ s, ¬ wrA f D s) → Ext [] H H' → H r = none → H o = none → H' o = some (.lst [.ref r]) → DM U H' r (appF f D) → Q (.ref o) H') ∧ ∀ m o H', Least (wrA f D) m → Ext [] H H' → H o = none → MisAt H' o m → Q (.ref o) H'
theorem ok_law_applied (T : Txt K mg) : FnOk P w K mg base CX0 1 T.f__law_applied T.d__law_applied ["slots", "difference"] (sp_law_applied K) := by
  refine T.F__law_applied.ok sc_law_applied len2 (fun cdv A outer s H vs Q E hr h => ?_)
  have nd := sc_law_applied.nd
  have hu := hu_of hr
  obtain ⟨_, _, rfl, U, p, q, f, D, rfl, rfl, ⟨hU, hS⟩, hf, hg, sf, oD', k, kx⟩ := h
  refine ⟨_,
      (pss_cons (ps_set (i := 2) nd rfl (Or.inl rfl) (pe_lstZ pa_nil)) 
      (pss_cons (ps_set (i := 3) nd rfl (Or.inl rfl) pe_dnewTZ) 
      (pss_cons (ps_lock (ps_for PassesOwn.never rfl (pi_keys (pv 0)) (pg_name (i := 4) nd rfl (Or.inl rfl)) 
        (pss_one (ps_if (pt_cmp (pc_dnotin hu (pv 4) (pv 1))) 
          (pss_one (ps_dput hu (pv 3) (pv 4) (pe_dget hu (pv 0) (pv 4) (fun _ _ => rfl)) rfl)) pss_nil)))) 
      (pss_cons (ps_lock (ps_for PassesOwn.never rfl (pi_keys (pv 1)) (pg_name (i := 4) nd rfl (Or.inl rfl)) 
        (pss_cons (ps_if (pt_cmpR (op_neD hr.units) (pe_ix ix_tup (pe_dget hu (pv 1) (pv 4) (fun _ _ => rfl)) pe_int (fun _ _ => rfl)) (pe_ifExp (pt_cmp (pc_din hu (pv 4) (pv 0))) (pe_dget hu (pv 0) (pv 4) (fun _ _ => rfl)) pe_non) (nomark _)) 
          (pss_one (ps_expr (pe_bm PySem.F.plainAttrs_list PySem.F.slot_list_append PySem.F.type_list_append zmt_append (pv 2) (pa_cons (pv 4) pa_nil)))) pss_nil) 
        (pss_one (ps_if (pt_cmpR zop_notN (pe_ix ix_tup (pe_dget hu (pv 1) (pv 4) (fun _ _ => rfl)) pe_int (fun _ _ => rfl)) pe_non (nomark _)) 
          (pss_one (ps_dput hu (pv 3) (pv 4) (pe_ix ix_tup (pe_dget hu (pv 1) (pv 4) (fun _ _ => rfl)) pe_int (fun _ _ => rfl)) rfl)) pss_nil))))) 
      (pss_cons (ps_if (pt_cmpR (op_neD hr.units) (pv 2) (pe_lstZ pa_nil) (nomark _)) 
        (pss_one (ps_ret (pe_lstZ (pa_cons pe_str (pa_cons (pe_callB (zc_minSl rfl hr.units) (by rfl) T.b_min (by decide +kernel) (pa_cons (pv 2) pa_nil)) pa_nil))))) pss_nil) 
      (pss_one (ps_ret (pe_lstZ (pa_cons (pv 3) pa_nil))))))))), ?_⟩
  change (_ : TS) _ [some _, some _, none, none, none] _
  try dsimp only [cxOf, Cx.nox, Cx.wish]
  walk_at "go"
  refine ⟨Nat.zero_le _, w_alc fun W H1 e1 n1 h1 => ?_⟩
  walk_at "go"
  refine w_alc fun F H2 e2 n2 h2 => ?_
  have e02 := e1.trans e2
  have hf2 := hf.ext e02 List.not_mem_nil
  have hg2 := hg.ext e02 List.not_mem_nil
  have nF0 : H F = none := e1.free n2
  have nWF : W ≠ F := ne_of_none h1 n2
  have hW2 := e2.keep _ _ h1 List.not_mem_nil
  obtain ⟨kvs, ks, hp, mp⟩ := id hf2
  walk_at "go"
  refine w_lock hp trivial (fun z => z) fun od H3 L => ?_
  walk_at "go"
  have npF : F ≠ p := (hf.ne nF0).symm
  have nqF : F ≠ q := (hg.ne nF0).symm
  have npW : W ≠ p := (hf.ne n1).symm
  have nqW : W ≠ q := (hg.ne n1).symm
  refine w_keysT rfl L.at ?_
  have f3 := hf2.dr.lk L
  have g3 := hg2.dr.lk L
  have h3 := L.keep h2 npF
  have hW3 := L.keep hW2 npW
  let F1 : Fd := fun s => if (D s).isSome = true then none else f s
  refine z_for_keysT mp (fun i σ' H' => Ext [F] H3 H' ∧ DM U H' F (resF (ks.take i) F1) ∧ ∃ u, σ' = [some (.ref p), some (.ref q), some (.ref W), some (.ref F), u]) ⟨Ext.refl, by rw [List.take_zero, resF_nil]; exact DM.nil h3, _, rfl⟩ (fun i σ' H' _ ⟨e, _⟩ => e.imm _ _ L.at trivial) ?_ ?_
  · rintro N i s d b σ' H4 hi hd hb ⟨e4, hD, u, rfl⟩ hN
    have f4 := f3.ext e4 (nm1 npF.symm)
    have g4 := g3.ext e4 (nm1 nqF.symm)
    have sU := mp.sub _ (List.mem_of_getElem? hi)
    walk_at "go"; walk_at "if"
    refine w_dinT g4 hb fun o ho => ?_
    rw [ho, dF_is]
    refine w_bl ?_
    refine w_nb (fun z => ?_) fun z => ?_
    · walk_at "go"
      refine w_dgetT f4 hb hd fun v iv => ?_
      walk_at "go"
      refine w_dputT hU hD hb sU iv fun H5 e5 h5 => ?_
      refine hN _ _ ⟨e4.trans e5, ?_, _, rfl⟩
      rw [resF_put (F := F1) (show F1 s = some d from (if_neg (by rw [z]; exact fun y => nomatch y)).trans hd)] at h5
      rw [take_snoc hi]; exact h5
    · walk_at "go"
      refine hN _ _ ⟨e4, ?_, _, rfl⟩
      rw [take_snoc hi, resF_skip (F := F1) (show F1 s = none from if_pos z)]
      exact hD
  · rintro σ' H4 ⟨e4, hD, u, rfl⟩
    rw [List.take_length, resF_all fun s ns => ?_] at hD
    · refine w_unlock L e4 fun H5 e5 kp => ?_
      have D5 := dm_unlk L e4 kp npF hD
      have hW4 := e4.keep _ _ hW3 (nm1 nWF)
      have hW5 := kp W _ hW4 npW
      have f5 := hf2.ext e5 (nm1 npF.symm)
      have g5 := hg2.ext e5 (nm1 nqF.symm)
      obtain ⟨kvs', ks', hq, mq⟩ := id g5
      walk_at "go"
      refine w_lock hq trivial (fun z => z) fun od' H6 L' => ?_
      walk_at "go"
      refine w_keysT rfl L'.at ?_
      have f6 := f5.dr.lk L'
      have g6 := g5.dr.lk L'
      have D6 := D5.lk L' nqF
      have hW6 := L'.keep hW5 nqW
      let G : Nat → Fd := fun i s => if (D s).isSome = true ∧ s ∉ ks'.take i then none else appF f D s
      have G0 : F1 = G 0 := by
        funext s
        show (if (D s).isSome = true then none else f s) = if (D s).isSome = true ∧ s ∉ ks'.take 0 then none else appF f D s
        by_cases z : (D s).isSome = true
        · rw [if_pos z, if_pos ⟨z, by simp⟩]
        · rw [if_neg z, if_neg (fun y => z y.1)]
          unfold appF; rw [Option.not_isSome_iff_eq_none.mp z]
      rw [G0] at D6
      have two : ∀ {a : Addr}, a ≠ F → a ≠ W → a ∉ [F, W] := fun x y => nm2 x y
      refine z_for_keysT mq (fun i σ' H' => Ext [F, W] H6 H' ∧ DM U H' F (G i) ∧ (∃ bs ss, H' W = some (.lst (bs.map V.ref)) ∧ SlotsAt H' bs ss ∧ ss.length ≤ i ∧ ∀ s, s ∈ ss ↔ s ∈ ks'.take i ∧ wrA f D s) ∧ ∃ u, σ' = [some (.ref p), some (.ref q), some (.ref W), some (.ref F), u])
        ⟨Ext.refl, D6, ⟨[], [], hW6, .nil, Nat.le_refl _, fun s => by simp⟩, _, rfl⟩ (fun i σ' H' _ ⟨e, _⟩ => e.imm _ _ L'.at trivial) ?_ ?_
      · rintro N i s d b σ' H7 hi hd hb ⟨e7, hD7, ⟨bs, ss, hW7, hss, ls, hm⟩, u, rfl⟩ hN
        have f7 := f6.ext e7 (two npF.symm npW.symm)
        have g7 := g6.ext e7 (two nqF.symm nqW.symm)
        obtain ⟨pr, hpr, rfl⟩ := dF_some hd
        obtain ⟨oc1, oc2, _⟩ := oD' s pr hpr
        have sU := mq.sub _ (List.mem_of_getElem? hi)
        walk_at "go"
        refine w_cut (fun σ' H' => Ext [F, W] H7 H' ∧ DM U H' F (G i) ∧ (∃ bs ss, H' W = some (.lst (bs.map V.ref)) ∧ SlotsAt H' bs ss ∧ ss.length ≤ i + 1 ∧ ∀ s, s ∈ ss ↔ s ∈ ks'.take (i + 1) ∧ wrA f D s) ∧ σ' = [some (.ref p), some (.ref q), some (.ref W), some (.ref F), some (.ref b)]) ?_ fun nx hn => ?_
        · rintro _ H8 ⟨e8, hD8, hw8, rfl⟩
          have g8 := g7.ext e8 (two nqF.symm nqW.symm)
          have hb8 := e8.tup hb
          have tk := take_snoc hi
          walk_at "go"; walk_at "if"
          refine w_dgetT g8 hb8 hd fun v iv => ?_
          obtain ⟨a, y, z, rfl, ha, iy, iz⟩ := im_pair iv
          walk_at "go"
          cases h2 : pr.2 with
          | none =>
            have zn : z = .non := (oc2.non iz).mpr h2
            subst zn
            refine w_f rfl ?_
            walk_at "go"
            refine hN _ _ ⟨e7.trans e8, ?_, hw8, _, rfl⟩
            have ge : G (i + 1) = G i := by
              funext t
              show (if (D t).isSome = true ∧ t ∉ ks'.take (i + 1) then none else appF f D t) = if (D t).isSome = true ∧ t ∉ ks'.take i then none else appF f D t
              by_cases e : t = s
              · subst e
                have ap : appF f D t = none := by unfold appF; rw [hpr]; exact h2
                rw [ap, ite_self, ite_self]
              · rw [tk]
                simp only [List.mem_append, List.mem_singleton, e, or_false]
            rw [ge]; exact hD8
          | some c =>
            have zn : z ≠ .non := fun q => by have := (oc2.non iz).mp q; rw [h2] at this; cases this
            refine w_t (by rw [decide_eq_false zn]; rfl) ?_
            walk_at "go"
            refine w_dgetT g8 hb8 hd fun v iv => ?_
            obtain ⟨a2, y2, z2, rfl, ha2, iy2, iz2⟩ := im_pair iv
            walk_at "go"
            rw [h2] at iz2
            refine w_dputT hU hD8 hb8 sU iz2 fun H9 e9 h9 => ?_
            obtain ⟨bs, ss, hW8, hss, ls, hm⟩ := hw8
            refine hN _ _ ⟨(e7.trans e8).trans (e9.mono fun x m => by rw [List.mem_singleton.mp m]; exact List.mem_cons_self), ?_, ⟨bs, ss, e9.keep _ _ hW8 (nm1 nWF), hss.ext e9, ls, hm⟩, _, rfl⟩
            have ge : G (i + 1) = putF (G i) s (oD (some c)) := by
              funext t
              show (if (D t).isSome = true ∧ t ∉ ks'.take (i + 1) then none else appF f D t) = if t = s then some (oD (some c)) else if (D t).isSome = true ∧ t ∉ ks'.take i then none else appF f D t
              by_cases e : t = s
              · subst e
                rw [if_pos rfl, if_neg (fun y => y.2 (by rw [tk]; simp))]
                unfold appF; rw [hpr]; exact h2
              · rw [if_neg e, tk]
                simp only [List.mem_append, List.mem_singleton, e, or_false]
            rw [ge]; exact h9
        · walk_at "if"
          refine w_dgetT g7 hb hd fun v iv => ?_
          obtain ⟨a, y, z, rfl, ha, iy, iz⟩ := im_pair iv
          walk_at "go"
          refine w_cutE (fun v' H' => H7 = H' ∧ Im H7 v' (oD (f s))) ?_ fun Q' hQ => ?_
          · rintro v' _ ⟨rfl, i2⟩
            refine w_neD iy i2 oc1.shaped (sf s).shaped ?_
            refine w_bl ?_
            have tk := take_snoc hi
            refine w_nb (fun z => ?_) fun z => ?_
            · have ne : f s ≠ pr.1 := fun q => Bool.noConfusion (((oc1.eqv (sf s)).mpr q.symm).symm.trans z)
              walk_at "go"
              refine w_append hW7 (szl (by have := mq.small hU; rw [mq.len] at this; obtain ⟨l, _⟩ := List.getElem?_eq_some_iff.mp hi; rw [List.length_map, hss.len]; omega)) ?_
              refine w_chg hW7 (fun z => z) fun H8 e8 h8 => ?_
              rw [← List.map_singleton (f := V.ref), ← List.map_append] at h8
              refine hn _ _ ⟨e8.mono fun x m => by rw [List.mem_singleton.mp m]; exact List.mem_cons_of_mem _ List.mem_cons_self, hD7.ext e8 (nm1 nWF.symm), ⟨bs ++ [b], ss ++ [s], h8, (hss.ext e8).snoc (e8.tup hb), by rw [List.length_append]; exact Nat.succ_le_succ ls, fun t => ?_⟩, rfl⟩
              rw [tk, List.mem_append, List.mem_append, hm t, List.mem_singleton]
              constructor
              · rintro (⟨x, y⟩ | rfl)
                · exact ⟨.inl x, y⟩
                · exact ⟨.inr rfl, pr, hpr, ne⟩
              · rintro ⟨x | rfl, y⟩
                · exact .inl ⟨x, y⟩
                · exact .inr rfl
            · have eq : pr.1 = f s := (oc1.eqv (sf s)).mp z
              walk_at "go"
              refine hn _ _ ⟨Ext.refl, hD7, ⟨bs, ss, hW7, hss, Nat.le_succ_of_le ls, fun t => ?_⟩, rfl⟩
              rw [tk, List.mem_append, hm t, List.mem_singleton]
              constructor
              · rintro ⟨x, y⟩; exact ⟨.inl x, y⟩
              · rintro ⟨x | rfl, y⟩
                · exact ⟨x, y⟩
                · obtain ⟨p', hp', hn'⟩ := y
                  rw [hpr] at hp'
                  cases hp'
                  exact absurd eq.symm hn'
          · walk_at "ife"
            refine w_dinT f7 hb fun o ho => ?_
            rw [ho]
            refine w_bl ?_
            cases hfs : f s with
            | none =>
              refine w_f rfl ?_
              walk_at "go"
              exact hQ _ _ ⟨rfl, by rw [hfs]; exact .non⟩
            | some c =>
              refine w_t rfl ?_
              walk_at "go"
              refine w_dgetT f7 hb hfs fun v iv => ?_
              exact hQ _ _ ⟨rfl, by rw [hfs]; exact iv⟩
      · rintro σ' H7 ⟨e7, hD7, ⟨bs, ss, hW7, hss, ls, hm⟩, u, rfl⟩
        have GE : G ks'.length = appF f D := by
          funext s
          show (if (D s).isSome = true ∧ s ∉ ks'.take ks'.length then none else appF f D s) = appF f D s
          rw [List.take_length, if_neg fun y => y.2 (mq.mem.mpr (by rw [dF_is]; exact y.1))]
        rw [GE] at hD7
        refine w_unlock L' e7 fun H8 e8 kp' => ?_
        have D8 := dm_unlk L' e7 kp' nqF hD7
        have hW8 := kp' W _ hW7 nqW
        have hs8 : SlotsAt H8 bs ss := Paired.mapP hss fun a s h => kp' a _ h fun z => by
          subst z
          have := e7.imm _ _ L'.at trivial
          rw [h] at this; cases this
        have e08 : Ext [] H H8 := Ext.dropq Ext.refl (Ext.drop (M := [W]) (e02.dropq e5 nF0).up e8 nF0) n1
        have hmU : ∀ s ∈ ss, Sg s.1 := fun s m => hS s (mq.sub _ (List.mem_of_mem_take ((hm s).mp m).1))
        walk_at "go"; walk_at "if"
        refine ⟨Nat.zero_le _, w_alc fun Z H9 e9 n9 h9 => ?_⟩
        have hW9 := e9.keep _ _ hW8 List.not_mem_nil
        have hs9 := hs8.ext e9
        refine ⟨.list (ss.map sD), .list [], .lst (sql hW9) (slots_dp' hs9), .lst (sql h9) .nil, slots_shaped' hmU, shaped_nil, ?_⟩
        rw [slotsD_nil]
        refine w_bl ?_
        refine w_nd (fun z => ?_) fun z => ?_
        · walk_at "go"
          refine ⟨W, bs, ss, rfl, sql hW9, hs9, List.length_pos_iff.mpr z, fun b m hb hmm hl => ?_⟩
          walk_at "go"
          refine ⟨sz (by show 2 ≤ _; decide), w_alc fun o HA eA nA hA => ?_⟩
          refine kx m o HA ⟨((hm m).mp hmm).2, fun t ht => hl t ((hm t).mpr ⟨?_, ht⟩)⟩ ((e08.trans e9).trans eA) ((e08.trans e9).free nA) ⟨b, hA, eA.tup hb⟩
          obtain ⟨p', hp', _⟩ := ht
          rw [List.take_length]
          exact mq.mem.mpr (by rw [dF_is, hp']; rfl)
        · walk_at "go"
          refine ⟨sz (by show 1 ≤ _; decide), w_alc fun o HA eA nA hA => ?_⟩
          refine k F o HA (fun s hs => ?_) ((e08.trans e9).trans eA) nF0 ((e08.trans e9).free nA) hA ((D8.ext e9 List.not_mem_nil).ext eA List.not_mem_nil)
          have : s ∈ ss := (hm s).mpr ⟨by
            obtain ⟨p', hp', _⟩ := hs
            rw [List.take_length]
            exact mq.mem.mpr (by rw [dF_is, hp']; rfl), hs⟩
          rw [z] at this
          cases this
    · show (if (D s).isSome = true then none else f s) = none
      rw [show f s = none from Option.not_isSome_iff_eq_none.mp fun z => ns (mp.mem.mpr z), ite_self]

theorem resF_memx {l : List Zk.Slot} {F : Fd} {s : Zk.Slot} (h : s ∈ l) : resF (l ++ [s]) F = resF l F := by
  funext t
  unfold resF
  by_cases e : t = s
  · subst e
    rw [if_pos h, if_pos (List.mem_append.mpr (.inl h))]
  · by_cases m : t ∈ l
    · rw [if_pos m, if_pos (List.mem_append.mpr (.inl m))]
    · rw [if_neg m, if_neg (fun z => (List.mem_append.mp z).elim m fun q => e (List.mem_singleton.mp q))]
def sp_law_composed (K : PySem.W.Frag) : Sp := sp2 fun a b H Q => ∃ (U : List Zk.Slot) (p q : Addr) (A B : Df), a = .ref p ∧ b = .ref q ∧ Pln U ∧ DM U H p (dF A) ∧ DM U H q (dF B) ∧ DOk A ∧ DOk B ∧
  (∀ r o H', (∀ s, ¬ wrC A B s) → Ext [] H H' → H r = none → H o = none → H' o = some (.lst [.ref r]) → DM U H' r (dF (cmpD A B)) → Q (.ref o) H') ∧ ∀ m o H', Least (wrC A B) m → Ext [] H H' → H o = none → MisAt H' o m → Q (.ref o) H'
theorem ok_law_composed (T : Txt K mg) : FnOk P w K mg base CX0 1 T.f__law_composed T.d__law_composed ["one", "other"] (sp_law_composed K) := by
  refine T.F__law_composed.ok sc_law_composed len2 (fun cdv A outer s H vs Q E hr h => ?_)
  have nd := sc_law_composed.nd
  have hu := hu_of hr
  obtain ⟨_, _, rfl, U, p, q, A0, B0, rfl, rfl, ⟨hU, hS⟩, hf, hg, oA, oB, k, kx⟩ := h
  refine ⟨_,
      (pss_cons (ps_set (i := 2) nd rfl (Or.inl rfl) (pe_lstZ pa_nil)) 
      (pss_cons (ps_set (i := 3) nd rfl (Or.inl rfl) pe_dnewTZ) 
      (pss_cons (ps_lock (ps_for PassesOwn.never rfl (pi_keys (pv 0)) (pg_name (i := 4) nd rfl (Or.inl rfl)) 
        (pss_cons (ps_set (i := 5) nd rfl (Or.inl rfl) (pe_dget hu (pv 0) (pv 4) (fun _ _ => rfl))) 
        (pss_cons (ps_if (pt_cmp (pc_din hu (pv 4) (pv 1))) 
          (pss_cons (ps_if (pt_cmpR (op_neD hr.units) (pe_ix ix_tup (pe_dget hu (pv 1) (pv 4) (fun _ _ => rfl)) pe_int (fun _ _ => rfl)) (pe_ix ix_tup (pv 5) pe_int (fun _ _ => rfl)) (nomark _)) 
            (pss_one (ps_expr (pe_bm PySem.F.plainAttrs_list PySem.F.slot_list_append PySem.F.type_list_append zmt_append (pv 2) (pa_cons (pv 4) pa_nil)))) pss_nil) 
          (pss_one (ps_set (i := 5) nd rfl (Or.inl rfl) (pe_tupZ (pa_cons (pe_ix ix_tup (pv 5) pe_int (fun _ _ => rfl)) (pa_cons (pe_ix ix_tup (pe_dget hu (pv 1) (pv 4) (fun _ _ => rfl)) pe_int (fun _ _ => rfl)) pa_nil)))))) pss_nil) 
        (pss_one (ps_if (pt_cmpR (op_neD hr.units) (pe_ix ix_tup (pv 5) pe_int (fun _ _ => rfl)) (pe_ix ix_tup (pv 5) pe_int (fun _ _ => rfl)) (nomark _)) 
          (pss_one (ps_dput hu (pv 3) (pv 4) (pv 5) rfl)) pss_nil)))))) 
      (pss_cons (ps_lock (ps_for PassesOwn.never rfl (pi_keys (pv 1)) (pg_name (i := 4) nd rfl (Or.inl rfl)) 
        (pss_one (ps_if (pt_cmp (pc_dnotin hu (pv 4) (pv 0))) 
          (pss_one (ps_dput hu (pv 3) (pv 4) (pe_dget hu (pv 1) (pv 4) (fun _ _ => rfl)) rfl)) pss_nil)))) 
      (pss_cons (ps_if (pt_cmpR (op_neD hr.units) (pv 2) (pe_lstZ pa_nil) (nomark _)) 
        (pss_one (ps_ret (pe_lstZ (pa_cons pe_str (pa_cons (pe_callB (zc_minSl rfl hr.units) (by rfl) T.b_min (by decide +kernel) (pa_cons (pv 2) pa_nil)) pa_nil))))) pss_nil) 
      (pss_one (ps_ret (pe_lstZ (pa_cons (pv 3) pa_nil))))))))), ?_⟩
  change (_ : TS) _ [some _, some _, none, none, none, none] _
  try dsimp only [cxOf, Cx.nox, Cx.wish]
  rw [dF_cmp] at k
  walk_at "go"
  refine ⟨Nat.zero_le _, w_alc fun W H1 e1 n1 h1 => ?_⟩
  walk_at "go"
  refine w_alc fun F H2 e2 n2 h2 => ?_
  have e02 := e1.trans e2
  have hf2 := hf.ext e02 List.not_mem_nil
  have hg2 := hg.ext e02 List.not_mem_nil
  have nF0 : H F = none := e1.free n2
  have nWF : W ≠ F := ne_of_none h1 n2
  have hW2 := e2.keep _ _ h1 List.not_mem_nil
  obtain ⟨kvs, ks, hp, mp⟩ := id hf2
  walk_at "go"
  refine w_lock hp trivial (fun z => z) fun od H3 L => ?_
  walk_at "go"
  have npF : F ≠ p := (hf.ne nF0).symm
  have nqF : F ≠ q := (hg.ne nF0).symm
  have npW : W ≠ p := (hf.ne n1).symm
  have nqW : W ≠ q := (hg.ne n1).symm
  refine w_keysT rfl L.at ?_
  have f3 := hf2.dr.lk L
  have g3 := hg2.dr.lk L
  have h3 := L.keep h2 npF
  have hW3 := L.keep hW2 npW
  have two : ∀ {a : Addr}, a ≠ F → a ≠ W → a ∉ [F, W] := fun x y => nm2 x y
  refine z_for_keysT mp (fun i σ' H' => Ext [F, W] H3 H' ∧ DM U H' F (resF (ks.take i) (fun s => btw (fstC A0 B0 s) (sndC A0 B0 s))) ∧ (∃ bs ss, H' W = some (.lst (bs.map V.ref)) ∧ SlotsAt H' bs ss ∧ ss.length ≤ i ∧ ∀ s, s ∈ ss ↔ s ∈ ks.take i ∧ wrC A0 B0 s) ∧ ∃ u v, σ' = [some (.ref p), some (.ref q), some (.ref W), some (.ref F), u, v])
    ⟨Ext.refl, by rw [List.take_zero, resF_nil]; exact DM.nil h3, ⟨[], [], hW3, .nil, Nat.le_refl _, fun s => by simp⟩, _, _, rfl⟩ (fun i σ' H' _ ⟨e, _⟩ => e.imm _ _ L.at trivial) ?_ ?_
  · rintro N i s d b σ' H7 hi hd hb ⟨e7, hD7, ⟨bs, ss, hW7, hss, ls, hm⟩, u, v, rfl⟩ hN
    have f7 := f3.ext e7 (two npF.symm npW.symm)
    have g7 := g3.ext e7 (two nqF.symm nqW.symm)
    obtain ⟨pa, hA, rfl⟩ := dF_some hd
    walk_at "go"
    refine w_dgetT f7 hb hd fun v iv => ?_
    walk_at "go"
    obtain ⟨pt, y, z, rfl, ha, iy, iz⟩ := im_pair iv
    obtain ⟨oa1, oa2, _⟩ := oA s pa hA
    have sU := mp.sub _ (List.mem_of_getElem? hi)
    have sf := fst_ok oA oB s
    have sh := snd_ok oA oB s
    have tk := take_snoc hi
    have lks : bs.length < 1000000 := by
      have := mp.small hU; rw [mp.len] at this; obtain ⟨l, _⟩ := List.getElem?_eq_some_iff.mp hi; rw [hss.len]; omega
    refine w_cut (fun σ' H' => Ext [F, W] H7 H' ∧ DM U H' F (resF (ks.take i) (fun s => btw (fstC A0 B0 s) (sndC A0 B0 s))) ∧ (∃ bs ss, H' W = some (.lst (bs.map V.ref)) ∧ SlotsAt H' bs ss ∧ ss.length ≤ i + 1 ∧ ∀ s, s ∈ ss ↔ s ∈ ks.take (i + 1) ∧ wrC A0 B0 s) ∧
      ∃ t x y, H' t = some (.tup [x, y]) ∧ Im H' x (oD (fstC A0 B0 s)) ∧ Im H' y (oD (sndC A0 B0 s)) ∧ σ' = [some (.ref p), some (.ref q), some (.ref W), some (.ref F), some (.ref b), some (.ref t)]) ?_ fun nx hn => ?_
    · rintro _ H8 ⟨e8, hD8, ⟨bs, ss, hW8, hss, ls, hm⟩, t, x, y, ht, ix, iy2, rfl⟩
      walk_at "go"; walk_at "if"
      refine w_neD ix iy2 sf.shaped sh.shaped ?_
      refine w_bl ?_
      refine w_nb (fun z => ?_) fun z => ?_
      · have ne : fstC A0 B0 s ≠ sndC A0 B0 s := fun q => Bool.noConfusion (((sf.eqv sh).mpr q).symm.trans z)
        walk_at "go"
        refine w_dputT (d := .tuple [oD (fstC A0 B0 s), oD (sndC A0 B0 s)]) hU hD8 (e8.tup hb) sU (.tup ht (show 2 ≤ 1000 by decide) (.cons ix (.cons iy2 .nil))) fun H9 e9 h9 => ?_
        refine hN _ _ ⟨(e7.trans e8).trans (e9.mono fun x m => by rw [List.mem_singleton.mp m]; exact List.mem_cons_self), ?_, ⟨bs, ss, e9.keep _ _ hW8 (nm1 nWF), hss.ext e9, ls, hm⟩, _, _, rfl⟩
        rw [resF_put (F := fun s => btw (fstC A0 B0 s) (sndC A0 B0 s)) (btw_ne ne)] at h9
        rw [tk]; exact h9
      · have eq : fstC A0 B0 s = sndC A0 B0 s := (sf.eqv sh).mp z
        walk_at "go"
        refine hN _ _ ⟨e7.trans e8, ?_, ⟨bs, ss, hW8, hss, ls, hm⟩, _, _, rfl⟩
        rw [tk, resF_skip (F := fun s => btw (fstC A0 B0 s) (sndC A0 B0 s)) (btw_eq eq)]
        exact hD8
    · walk_at "if"
      refine w_dinT g7 hb fun o ho => ?_
      rw [ho, dF_is]
      refine w_bl ?_
      cases hB : B0 s with
      | none =>
        refine w_f rfl ?_
        walk_at "go"
        refine hn _ _ ⟨Ext.refl, hD7, ⟨bs, ss, hW7, hss, Nat.le_succ_of_le ls, fun t => ?_⟩, pt, y, z, ha, by unfold fstC; rw [hA]; exact iy, by unfold sndC; rw [hB, hA]; exact iz, rfl⟩
        rw [tk, List.mem_append, hm t, List.mem_singleton]
        constructor
        · rintro ⟨x, y⟩; exact ⟨.inl x, y⟩
        · rintro ⟨x | rfl, y⟩
          · exact ⟨x, y⟩
          · obtain ⟨p', q', _, hq', _⟩ := y
            rw [hB] at hq'; cases hq'
      | some pb =>
        obtain ⟨ob1, ob2, _⟩ := oB s pb hB
        refine w_t rfl ?_
        have hf1 : fstC A0 B0 s = pa.1 := by unfold fstC; rw [hA]
        have hs1 : sndC A0 B0 s = pb.2 := by unfold sndC; rw [hB]
        walk_at "go"
        refine w_cut (fun σ' H' => Ext [F, W] H7 H' ∧ DM U H' F (resF (ks.take i) (fun s => btw (fstC A0 B0 s) (sndC A0 B0 s))) ∧ (∃ bs ss, H' W = some (.lst (bs.map V.ref)) ∧ SlotsAt H' bs ss ∧ ss.length ≤ i + 1 ∧ ∀ s, s ∈ ss ↔ s ∈ ks.take (i + 1) ∧ wrC A0 B0 s) ∧ σ' = [some (.ref p), some (.ref q), some (.ref W), some (.ref F), some (.ref b), some (.ref pt)]) ?_ fun nx' hn' => ?_
        · rintro _ H8 ⟨e8, hD8, ⟨bs, ss, hW8, hss, ls, hm⟩, rfl⟩
          have g8 := g7.ext e8 (two nqF.symm nqW.symm)
          have ha8 := e8.tup ha
          walk_at "go"
          refine w_dgetT g8 (e8.tup hb) (dF_at hB) fun v iv => ?_
          obtain ⟨a2, y2, z2, rfl, ha2, iy2, iz2⟩ := im_pair iv
          walk_at "go"
          refine ⟨sz (by show 2 ≤ _; decide), w_alc fun t H9 e9 n9 h9 => ?_⟩
          walk_at "go"
          exact hn _ _ ⟨e8.trans e9.up, hD8.ext e9 List.not_mem_nil, ⟨bs, ss, e9.keep _ _ hW8 List.not_mem_nil, hss.ext e9, ls, hm⟩, t, y, z2, h9, by rw [hf1]; exact (iy.ext e8).ext e9, by rw [hs1]; exact iz2.ext e9, rfl⟩
        · walk_at "if"
          refine w_dgetT g7 hb (dF_at hB) fun v iv => ?_
          obtain ⟨a2, y2, z2, rfl, ha2, iy2, iz2⟩ := im_pair iv
          walk_at "go"
          refine w_neD iy2 iz ob1.shaped oa2.shaped ?_
          refine w_bl ?_
          refine w_nb (fun z => ?_) fun z => ?_
          · have ne : pa.2 ≠ pb.1 := fun q => Bool.noConfusion (((ob1.eqv oa2).mpr q.symm).symm.trans z)
            walk_at "go"
            refine w_append hW7 (szl (by rw [List.length_map]; exact lks)) ?_
            refine w_chg hW7 (fun z => z) fun H8 e8 h8 => ?_
            rw [← List.map_singleton (f := V.ref), ← List.map_append] at h8
            refine hn' _ _ ⟨e8.mono fun x m => by rw [List.mem_singleton.mp m]; exact List.mem_cons_of_mem _ List.mem_cons_self, hD7.ext e8 (nm1 nWF.symm), ⟨bs ++ [b], ss ++ [s], h8, (hss.ext e8).snoc (e8.tup hb), by rw [List.length_append]; exact Nat.succ_le_succ ls, fun t => ?_⟩, rfl⟩
            rw [tk, List.mem_append, List.mem_append, hm t, List.mem_singleton]
            constructor
            · rintro (⟨x, y⟩ | rfl)
              · exact ⟨.inl x, y⟩
              · exact ⟨.inr rfl, pa, pb, hA, hB, ne⟩
            · rintro ⟨x | rfl, y⟩
              · exact .inl ⟨x, y⟩
              · exact .inr rfl
          · have eq : pb.1 = pa.2 := (ob1.eqv oa2).mp z
            walk_at "go"
            refine hn' _ _ ⟨Ext.refl, hD7, ⟨bs, ss, hW7, hss, Nat.le_succ_of_le ls, fun t => ?_⟩, rfl⟩
            rw [tk, List.mem_append, hm t, List.mem_singleton]
            constructor
            · rintro ⟨x, y⟩; exact ⟨.inl x, y⟩
            · rintro ⟨x | rfl, y⟩
              · exact ⟨x, y⟩
              · obtain ⟨p', q', hp', hq', hn'⟩ := y
                rw [hA] at hp'
                rw [hB] at hq'
                cases hp'
                cases hq'
                exact absurd eq.symm hn'
  · rintro σ' H4 ⟨e4, hD, ⟨bs, ss, hW4, hss, ls, hm⟩, u, v, rfl⟩
    rw [List.take_length] at hD
    refine w_unlock L e4 fun H5 e5 kp => ?_
    have D5 := dm_unlk L e4 kp npF hD
    have hW5 := kp W _ hW4 npW
    have s5 : SlotsAt H5 bs ss := Paired.mapP hss fun a s h => kp a _ h fun z => by
      subst z
      have := e4.imm _ _ L.at trivial
      rw [h] at this; cases this
    have f5 := hf2.ext e5 (two npF.symm npW.symm)
    have g5 := hg2.ext e5 (two nqF.symm nqW.symm)
    obtain ⟨kvs', ks', hq, mq⟩ := id g5
    walk_at "go"
    refine w_lock hq trivial (fun z => z) fun od' H6 L' => ?_
    walk_at "go"
    refine w_keysT rfl L'.at ?_
    have f6 := f5.dr.lk L'
    have g6 := g5.dr.lk L'
    have D6 := D5.lk L' nqF
    have hW6 := L'.keep hW5 nqW
    have s6 : SlotsAt H6 bs ss := Paired.mapP s5 fun a s h => L'.tup h
    refine z_for_keysT mq (fun i σ' H' => Ext [F] H6 H' ∧ DM U H' F (resF (ks ++ ks'.take i) (fun s => btw (fstC A0 B0 s) (sndC A0 B0 s))) ∧ ∃ u v, σ' = [some (.ref p), some (.ref q), some (.ref W), some (.ref F), u, v]) ⟨Ext.refl, by rw [List.take_zero, List.append_nil]; exact D6, _, _, rfl⟩ (fun i σ' H' _ ⟨e, _⟩ => e.imm _ _ L'.at trivial) ?_ ?_
    · rintro N i s d b σ' H7 hi hd hb ⟨e7, hD7, u, v, rfl⟩ hN
      have f7 := f6.ext e7 (nm1 npF.symm)
      have g7 := g6.ext e7 (nm1 nqF.symm)
      obtain ⟨pb, hB, rfl⟩ := dF_some hd
      obtain ⟨ob1, ob2, obn⟩ := oB s pb hB
      have sU := mq.sub _ (List.mem_of_getElem? hi)
      walk_at "go"; walk_at "if"
      refine w_dinT f7 hb fun o ho => ?_
      rw [ho, dF_is]
      refine w_bl ?_
      refine w_nb (fun z => ?_) fun z => ?_
      · have hA : A0 s = none := Option.not_isSome_iff_eq_none.mp (by rw [z]; exact fun y => nomatch y)
        have hv : (fun s => btw (fstC A0 B0 s) (sndC A0 B0 s)) s = some (.tuple [oD pb.1, oD pb.2]) := by
          show btw (fstC A0 B0 s) (sndC A0 B0 s) = _
          have x1 : fstC A0 B0 s = pb.1 := by unfold fstC; rw [hA, hB]
          have x2 : sndC A0 B0 s = pb.2 := by unfold sndC; rw [hB]
          rw [x1, x2, btw_ne obn]
        walk_at "go"
        refine w_dgetT g7 hb hd fun v iv => ?_
        walk_at "go"
        refine w_dputT hU hD7 hb sU iv fun H8 e8 h8 => ?_
        refine hN _ _ ⟨e7.trans e8, ?_, _, _, rfl⟩
        rw [resF_put (F := fun s => btw (fstC A0 B0 s) (sndC A0 B0 s)) hv] at h8
        rw [take_snoc hi, ← List.append_assoc]; exact h8
      · walk_at "go"
        refine hN _ _ ⟨e7, ?_, _, _, rfl⟩
        have ms : s ∈ ks := mp.mem.mpr (by rw [dF_is]; exact z)
        rw [take_snoc hi, ← List.append_assoc, resF_memx (List.mem_append.mpr (.inl ms))]
        exact hD7
    · rintro σ' H7 ⟨e7, hD7, u, v, rfl⟩
      rw [List.take_length, resF_all fun s ns => ?_] at hD7
      · refine w_unlock L' e7 fun H8 e8 kp' => ?_
        have D8 := dm_unlk L' e7 kp' nqF hD7
        have hW8 := kp' W _ (e7.keep _ _ hW6 (nm1 nWF)) nqW
        have hs8 : SlotsAt H8 bs ss := s5.ext e8
        have e08 : Ext [] H H8 := Ext.dropq Ext.refl (Ext.drop (M := [W]) (e02.up (M := [W])) (e5.trans (e8.mono fun x m => by rw [List.mem_singleton.mp m]; exact List.mem_cons_self)) nF0) n1
        have hmU : ∀ s ∈ ss, Sg s.1 := fun s m => hS s (mp.sub _ (List.mem_of_mem_take ((hm s).mp m).1))
        walk_at "go"; walk_at "if"
        refine ⟨Nat.zero_le _, w_alc fun Z H9 e9 n9 h9 => ?_⟩
        have hW9 := e9.keep _ _ hW8 List.not_mem_nil
        have hs9 := hs8.ext e9
        refine ⟨.list (ss.map sD), .list [], .lst (sql hW9) (slots_dp' hs9), .lst (sql h9) .nil, slots_shaped' hmU, shaped_nil, ?_⟩
        rw [slotsD_nil]
        refine w_bl ?_
        refine w_nd (fun z => ?_) fun z => ?_
        · walk_at "go"
          refine ⟨W, bs, ss, rfl, sql hW9, hs9, List.length_pos_iff.mpr z, fun b m hb hmm hl => ?_⟩
          walk_at "go"
          refine ⟨sz (by show 2 ≤ _; decide), w_alc fun o HA eA nA hA => ?_⟩
          refine kx m o HA ⟨((hm m).mp hmm).2, fun t ht => hl t ((hm t).mpr ⟨?_, ht⟩)⟩ ((e08.trans e9).trans eA) ((e08.trans e9).free nA) ⟨b, hA, eA.tup hb⟩
          obtain ⟨p', q', hp', _⟩ := ht
          rw [List.take_length]
          exact mp.mem.mpr (by rw [dF_is, hp']; rfl)
        · walk_at "go"
          refine ⟨sz (by show 1 ≤ _; decide), w_alc fun o HA eA nA hA => ?_⟩
          refine k F o HA (fun s hs => ?_) ((e08.trans e9).trans eA) nF0 ((e08.trans e9).free nA) hA ((D8.ext e9 List.not_mem_nil).ext eA List.not_mem_nil)
          have : s ∈ ss := (hm s).mpr ⟨by
            obtain ⟨p', q', hp', _⟩ := hs
            rw [List.take_length]
            exact mp.mem.mpr (by rw [dF_is, hp']; rfl), hs⟩
          rw [z] at this
          cases this
      · have a : ¬ (dF A0 s).isSome = true := fun z => ns (List.mem_append.mpr (.inl (mp.mem.mpr z)))
        have b : ¬ (dF B0 s).isSome = true := fun z => ns (List.mem_append.mpr (.inr (mq.mem.mpr z)))
        rw [dF_is] at a b
        refine btw_eq ?_
        unfold fstC sndC
        rw [Option.not_isSome_iff_eq_none.mp a, Option.not_isSome_iff_eq_none.mp b]

/-! ### a difference that is drawn -/
def putD (D : Df) (s : Zk.Slot) (p : Option PyData × Option PyData) : Df := fun t => if t = s then some p else D t
theorem dF_put {D : Df} {s : Zk.Slot} {x y : Option PyData} : Zk.putF (dF D) s (.tuple [oD x, oD y]) = dF (putD D s (x, y)) := by
  funext t
  unfold Zk.putF dF putD
  by_cases e : t = s
  · rw [if_pos e, if_pos e]; rfl
  · rw [if_neg e, if_neg e]
theorem dok_put {D : Df} {s : Zk.Slot} {x y : Option PyData} (h : DOk D) (hx : OCt x) (hy : OCt y) (n : x ≠ y) : DOk (putD D s (x, y)) := fun t p e => by
  unfold putD at e
  by_cases z : t = s
  · rw [if_pos z] at e; cases e; exact ⟨hx, hy, n⟩
  · rw [if_neg z] at e; exact h t p e
theorem dok_none : DOk fun _ => none := fun _ _ e => nomatch e
/-- a content, or None -/
def Oc (H : Hp) (v : V) : Prop := ∃ x, OCt x ∧ Im H v (oD x)
theorem oc_non {H : Hp} : Oc H .non := ⟨none, (fun _ e => nomatch e), .non⟩
theorem Oc.ext {M : List Addr} {H H' : Hp} {v : V} (h : Oc H v) (e : Ext M H H') : Oc H' v := h.elim fun x z => ⟨x, z.1, z.2.ext e⟩
def sp_law_difference (K : PySem.W.Frag) : Sp := sp4 fun a b c d H Q => ∃ (U : List Zk.Slot) (p o q r : Addr) (bs : List Addr) (ss : List Zk.Slot) (f : Fd) (D : Df), a = .ref p ∧ b = .ref o ∧ c = .ref q ∧ d = .ref r ∧ Pln U ∧ PoolAt K H p ∧ H o = some (.lst (bs.map V.ref)) ∧ o ≠ p ∧ SlotsAt H bs ss ∧ 1 ≤ ss.length ∧ ss.length ≤ 8 ∧ (∀ s ∈ ss, s ∈ U) ∧ DM U H q f ∧ Stt f ∧ DM U H r (dF D) ∧ DOk D ∧
  ∀ t D' H', Ext [p] H H' → PoolAt K H' p → H t = none → DM U H' t (dF D') → DOk D' → Q (.ref t) H'
theorem ok_law_difference (T : Txt K mg) : FnOk P w K mg base CX0 8 T.f__law_difference T.d__law_difference ["pool", "slots", "state", "before"] (sp_law_difference K) := by
  refine T.F__law_difference.ok sc_law_difference len4 (fun cdv A outer s H vs Q E hr h => ?_)
  have nd := sc_law_difference.nd
  have hu := hu_of hr
  obtain ⟨_, _, _, _, rfl, U, p, o, q, r, bs, ss, f, D, rfl, rfl, rfl, rfl, hU, hP, ho, nop, hss, l1, l8, hsU, hf, sf, hg, oD', k⟩ := h
  refine ⟨_,
      (pss_cons (ps_set (i := 4) nd rfl (Or.inl rfl) pe_dnewTZ) 
      (pss_cons (ps_for PassesOwn.never rfl (pi_range1 (by rfl) T.b_range (pa_cons (pe_call (ok_law_draw T) (hr.mono (by decide)) (by rfl) T.g__law_draw T.F__law_draw.kp T.k__law_draw .nil pass0 (pa_cons (pv 0) (pa_cons pe_int pa_nil))) pa_nil)) (pg_name (i := 5) nd rfl (Or.inl rfl)) 
        (pss_cons (ps_set (i := 6) nd rfl (Or.inr rfl) (pe_call (ok_law_pick T) (hr.mono (by decide)) (by rfl) T.g__law_pick T.F__law_pick.kp T.k__law_pick .nil pass0 (pa_cons (pv 0) (pa_cons (pv 1) pa_nil)))) 
        (pss_cons (ps_setLc (i := 7) (own := [("side", 8)]) rfl nd rfl rfl (sw_true rfl rfl rfl (by decide +kernel)) (pi_range1 (by rfl) T.b_range (pa_cons pe_int pa_nil)) (blkOk_by (own := [("side", 8)]) (N := ["pool", "slots", "state", "before", "found", "k", "slot", "pair", "side"]) (sc := defScope s_law_difference) (by decide +kernel)) (fun _ _ _ _ _ => (pg_name (i := 8) nd rfl (Or.inl rfl))) (fun _ _ _ _ _ => pts_nil) (fun _ _ _ _ _ => (pe_ifExp (pt_cmpR op_gt (pe_call (ok_law_draw T) (hr.mono (by decide)) (by rfl) T.g__law_draw T.F__law_draw.kp T.k__law_draw .nil pass0 (pa_cons (pv 0) (pa_cons pe_int pa_nil))) pe_int (nomark _)) (pe_call (ok_law_content T) (hr.mono (by decide)) (by rfl) T.g__law_content T.F__law_content.kp T.k__law_content .nil pass0 (pa_cons (pv 0) (pa_cons (pv 6) pa_nil))) pe_non))) 
        (pss_cons (ps_if (pt_cmpR op_gt (pe_call (ok_law_draw T) (hr.mono (by decide)) (by rfl) T.g__law_draw T.F__law_draw.kp T.k__law_draw .nil pass0 (pa_cons (pv 0) (pa_cons pe_int pa_nil))) pe_int (nomark _)) 
          (pss_cons (ps_asg (pe_ifExp (pt_cmp (pc_din hu (pv 6) (pv 2))) (pe_dget hu (pv 2) (pv 6) (fun _ _ => rfl)) pe_non) (pg_sub (pv 7) pe_int zset_list)) 
          (pss_one (ps_if (pt_cmp (pc_din hu (pv 6) (pv 3))) 
            (pss_one (ps_asg (pe_ix ix_tup (pe_dget hu (pv 3) (pv 6) (fun _ _ => rfl)) pe_int (fun _ _ => rfl)) (pg_sub (pv 7) pe_int zset_list))) pss_nil))) pss_nil) 
        (pss_one (ps_if (pt_cmpR (op_neD hr.units) (pe_ix ix_list (pv 7) pe_int (fun _ _ => rfl)) (pe_ix ix_list (pv 7) pe_int (fun _ _ => rfl)) (nomark _)) 
          (pss_one (ps_dput hu (pv 4) (pv 6) (pe_tupZ (pa_cons (pe_ix ix_list (pv 7) pe_int (fun _ _ => rfl)) (pa_cons (pe_ix ix_list (pv 7) pe_int (fun _ _ => rfl)) pa_nil))) rfl)) pss_nil)))))) 
      (pss_one (ps_ret (pv 4))))), ?_⟩
  change (_ : TS) _ [some _, some _, some _, some _, none, none, none, none, none] _
  try dsimp only [cxOf, Cx.nox, Cx.wish]
  walk_at "go"
  refine w_alc fun F H1 e1 n1 h1 => ?_
  walk_at "go"
  have P1 := hP.ext e1 List.not_mem_nil
  refine w_draw P1 (by decide) (by decide) fun n H2 n0 n1' e2 P2 => ?_
  walk_at "go"
  have nFp : F ≠ p := (hP.ne n1).symm
  have nqp : q ≠ p := pd_ne hP hf
  have nrp : r ≠ p := pd_ne hP hg
  have nqF : q ≠ F := hf.ne n1
  have nrF : r ≠ F := hg.ne n1
  have noF : o ≠ F := ne_of_none ho n1
  refine ⟨_, rfl, by omega, by omega, z_for_range (lo := 0) (fun i σ' H' => Ext [F, p] H1 H' ∧ PoolAt K H' p ∧ (∃ D', DM U H' F (dF D') ∧ DOk D') ∧ ∃ (u v w : Option V), σ' = [some (.ref p), some (.ref o), some (.ref q), some (.ref r), some (.ref F), u, v, w, none])
    ⟨e2.mono fun x m => List.mem_cons_of_mem _ m, P2, ⟨fun _ => none, (DM.nil h1).ext e2 (nm1 nFp), dok_none⟩, _, _, _, rfl⟩ ?_ ?_⟩
  · rintro N i σ' H3 hi ⟨e3, P3, ⟨D3, hD3, oD3⟩, u, v, w, rfl⟩ hN
    have ho3 := e3.keep _ _ (e1.keep _ _ ho List.not_mem_nil) (nm2 noF nop)
    have hs3 := (hss.ext e1).ext e3
    have f3 := (hf.ext e1 List.not_mem_nil).ext e3 (nm2 nqF nqp)
    have g3 := (hg.ext e1 List.not_mem_nil).ext e3 (nm2 nrF nrp)
    walk_at "go"
    refine w_pick P3 ho3 nop (by rw [List.length_map, hss.len]; omega) (by rw [List.length_map, hss.len]; omega) fun v H4 hv e4 P4 => ?_
    obtain ⟨j, hj⟩ := List.mem_iff_getElem?.mp hv
    obtain ⟨b, s, rfl, hb, hs, hb3⟩ := hs3.get hj
    have sU := hsU s (List.mem_of_getElem? hs)
    have hb4 := e4.tup hb3
    have f4 := f3.ext e4 (nm1 nqp)
    have g4 := g3.ext e4 (nm1 nrp)
    have D4 := hD3.ext e4 (nm1 nFp)
    walk_at "go"
    refine ⟨_, rfl, by decide, by decide, fun W nW => ?_⟩
    have nWp : W ≠ p := (P4.ne nW).symm
    refine z_lc_range (lo := 0) (n := 2) (fun i acc H' => Ext [p] H4 H' ∧ PoolAt K H' p ∧ acc.length = i ∧ ∀ v ∈ acc, Oc H' v) nW (fun H' e => ⟨e.up, P4.ext e List.not_mem_nil, rfl, fun _ m => nomatch m⟩) ?_ ?_
    · rintro Nx m acc H5 hm ⟨e5, P5, la, hall⟩ hW hNx
      walk_at "go"
      refine ⟨rfl, ?_⟩
      walk_at "go"
      refine w_cutE (fun v' H' => Ext [p] H5 H' ∧ PoolAt K H' p ∧ Oc H' v') ?_ fun Q' hQ => ?_
      · rintro v' H6 ⟨e6, P6, hv'⟩
        refine w_app (e6.keep _ _ hW (nm1 nWp)) (szl (by omega)) fun H7 e7 h7 => ?_
        refine hNx _ _ ⟨(e5.trans e6).dropq e7 nW, P6.ext e7 (nm1 nWp.symm), by rw [List.length_append, la]; rfl, fun y my => ?_⟩ h7
        rcases List.mem_append.mp my with my | my
        · exact ((hall y my).ext e6).ext e7
        · rw [List.mem_singleton.mp my]; exact hv'.ext e7
      · walk_at "ife"
        refine w_draw P5 (by decide) (by decide) fun x H6 x0 x1 e6 P6 => ?_
        walk_at "go"
        refine w_d (fun h => ?_) fun h => ?_
        · walk_at "go"
          refine w_content P6 (e6.tup (e5.tup hb4)) fun v d H7 e7 P7 im co => ?_
          exact hQ _ _ ⟨e6.trans e7, P7, some d, fun d' e => by cases e; exact co, im⟩
        · walk_at "go"
          exact hQ _ _ ⟨e6, P6, oc_non⟩
    · rintro acc H5 ⟨e5, P5, la, hall⟩ hW
      walk_at "go"
      obtain ⟨v0, v1, rfl⟩ : ∃ v0 v1, acc = [v0, v1] := by
        match acc, la with
        | [a, b], _ => exact ⟨a, b, rfl⟩
      have o0 := hall v0 List.mem_cons_self
      have o1 := hall v1 (List.mem_cons_of_mem _ List.mem_cons_self)
      have nqW : q ≠ W := f4.ne nW
      have nrW : r ≠ W := g4.ne nW
      have nFW : F ≠ W := D4.ne nW
      have f5 := f4.ext e5 (nm1 nqp)
      have g5 := g4.ext e5 (nm1 nrp)
      have D5 := D4.ext e5 (nm1 nFp)
      have hb5 := e5.tup hb4
      refine w_cut (fun σ' H' => Ext [W, p] H5 H' ∧ PoolAt K H' p ∧ (∃ v0 v1, H' W = some (.lst [v0, v1]) ∧ Oc H' v0 ∧ Oc H' v1) ∧ σ' = [some (.ref p), some (.ref o), some (.ref q), some (.ref r), some (.ref F), some (.int (0 + i)), some (.ref b), some (.ref W), none]) ?_ fun nx hn => ?_
      · rintro _ H6 ⟨e6, P6, ⟨v0, v1, h6, ⟨x, ox, ix⟩, ⟨y, oy, iy⟩⟩, rfl⟩
        have D6 := D5.ext e6 (nm2 nFW nFp)
        have hb6 := e6.tup hb5
        have e36 : Ext [p] H3 H6 := Ext.drop (M := [p]) (e4.trans e5) e6 (e4.free nW)
        walk_at "go"; walk_at "if"
        refine w_neD ix iy ox.shaped oy.shaped ?_
        refine w_bl ?_
        refine w_nb (fun z => ?_) fun z => ?_
        · have ne : x ≠ y := fun q => Bool.noConfusion (((ox.eqv oy).mpr q).symm.trans z)
          walk_at "go"
          refine ⟨sz (by show 2 ≤ _; decide), w_alc fun t H7 e7 n7 h7 => ?_⟩
          walk_at "go"
          refine w_dputT hU.1 (D6.ext e7 List.not_mem_nil) (e7.tup hb6) sU (.tup h7 (show 2 ≤ 1000 by decide) (.cons (ix.ext e7) (.cons (iy.ext e7) .nil))) fun H8 e8 h8 => ?_
          rw [dF_put] at h8
          exact hN _ _ ⟨(e3.trans ((e36.trans e7.up).mono fun x m => List.mem_cons_of_mem _ m)).trans (e8.mono fun x m => by rw [List.mem_singleton.mp m]; exact List.mem_cons_self), (P6.ext e7 List.not_mem_nil).ext e8 (nm1 nFp.symm), ⟨_, h8, dok_put oD3 ox oy ne⟩, _, _, _, rfl⟩
        · walk_at "go"
          exact hN _ _ ⟨e3.trans (e36.mono fun x m => List.mem_cons_of_mem _ m), P6, ⟨_, D6, oD3⟩, _, _, _, rfl⟩
      · walk_at "if"
        refine w_draw P5 (by decide) (by decide) fun x H6 x0 x1 e6 P6 => ?_
        have hW6 := e6.keep _ _ hW (nm1 nWp)
        have f6 := f5.ext e6 (nm1 nqp)
        have g6 := g5.ext e6 (nm1 nrp)
        have hb6 := e6.tup hb5
        have up6 : Ext [W, p] H5 H6 := e6.mono fun x m => List.mem_cons_of_mem _ m
        walk_at "go"
        refine w_d (fun h => ?_) fun h => ?_
        · walk_at "go"
          refine w_cutE (fun v' H' => H6 = H' ∧ Oc H6 v') ?_ fun Q' hQ => ?_
          · rintro v' _ ⟨rfl, hv'⟩
            walk_at "go"
            refine w_chg hW6 (fun z => z) fun H7 e7 h7 => ?_
            change H7 W = some (.lst [v', v1]) at h7
            have up7 : Ext [W, p] H5 H7 := up6.trans (e7.mono fun x m => by rw [List.mem_singleton.mp m]; exact List.mem_cons_self)
            have g7 := g6.ext e7 (nm1 nrW)
            have hb7 := e7.tup hb6
            have P7 := P6.ext e7 (nm1 nWp.symm)
            walk_at "go"; walk_at "if"
            refine w_dinT g7.dr hb7 fun oo ho' => ?_
            rw [ho', dF_is]
            refine w_bl ?_
            cases hp : D s with
            | none =>
              refine w_f rfl ?_
              walk_at "go"
              exact hn _ _ ⟨up7, P7, ⟨_, _, h7, hv'.ext e7, (o1.ext e6).ext e7⟩, rfl⟩
            | some pr =>
              refine w_t rfl ?_
              walk_at "go"
              refine w_dgetT g7.dr hb7 (dF_at hp) fun v iv => ?_
              obtain ⟨a, y, z, rfl, ha, iy, iz⟩ := im_pair iv
              walk_at "go"
              refine w_chg h7 (fun z => z) fun H8 e8 h8 => ?_
              change H8 W = some (.lst [z, v1]) at h8
              exact hn _ _ ⟨up7.trans (e8.mono fun x m => by rw [List.mem_singleton.mp m]; exact List.mem_cons_self), P7.ext e8 (nm1 nWp.symm), ⟨_, _, h8, ⟨pr.2, (oD' s pr hp).2.1, iz.ext e8⟩, ((o1.ext e6).ext e7).ext e8⟩, rfl⟩
          · walk_at "ife"
            refine w_dinT f6.dr hb6 fun oo ho' => ?_
            rw [ho']
            refine w_bl ?_
            cases hfs : f s with
            | none =>
              refine w_f rfl ?_
              walk_at "go"
              exact hQ _ _ ⟨rfl, oc_non⟩
            | some c =>
              refine w_t rfl ?_
              walk_at "go"
              refine w_dgetT f6.dr hb6 hfs fun v iv => ?_
              exact hQ _ _ ⟨rfl, some c, fun d' e => by cases e; exact sf s c hfs, iv⟩
        · walk_at "go"
          exact hn _ _ ⟨up6, P6, ⟨_, _, hW6, o0.ext e6, o1.ext e6⟩, rfl⟩
  · rintro σ' H3 ⟨e3, P3, ⟨D3, hD3, oD3⟩, u, v, w, rfl⟩
    walk_at "go"
    exact k F D3 H3 (Ext.drop (M := [p]) e1.up e3 n1) P3 n1 hD3 oD3
theorem w_difference {H : Hp} {U : List Zk.Slot} {p o q r : Addr} {bs : List Addr} {ss : List Zk.Slot} {f : Fd} {D : Df} {Q : VK} {E : XK} (hU : Pln U) (hP : PoolAt K H p) (ho : H o = some (.lst (bs.map V.ref))) (nop : o ≠ p) (hss : SlotsAt H bs ss) (l1 : 1 ≤ ss.length) (l8 : ss.length ≤ 8) (hsU : ∀ s ∈ ss, s ∈ U) (hf : DM U H q f) (sf : Stt f) (hg : DM U H r (dF D)) (oD' : DOk D)
    (k : ∀ t D' H', Ext [p] H H' → PoolAt K H' p → H t = none → DM U H' t (dF D') → DOk D' → Q (.ref t) H') : sp_law_difference K ([.ref p, .ref o, .ref q, .ref r] ++ []) H Q E :=
  ⟨_, _, _, _, rfl, U, p, o, q, r, bs, ss, f, D, rfl, rfl, rfl, rfl, hU, hP, ho, nop, hss, l1, l8, hsU, hf, sf, hg, oD', k⟩

/-! ### composing three: the same in both orders -/
abbrev Pr := Option (Option PyData × Option PyData)
open Classical in
noncomputable def cmp1 (x y : Pr) : Pr :=
  let a := match x with | some p => p.1 | none => (match y with | some q => q.1 | none => none)
  let b := match y with | some q => q.2 | none => (match x with | some p => p.2 | none => none)
  if a = b then none else some (a, b)
theorem cmp1_eq (A B : Df) (s : Zk.Slot) : cmpD A B s = cmp1 (A s) (B s) := rfl
def wr1 (x y : Pr) : Prop := ∃ p q, x = some p ∧ y = some q ∧ p.2 ≠ q.1
def Fn (x : Pr) : Prop := ∀ p, x = some p → p.1 ≠ p.2
open Classical in
theorem cmp1_ss (a b c d : Option PyData) : cmp1 (some (a, b)) (some (c, d)) = if a = d then none else some (a, d) := rfl
theorem cmp1_ns (c d : Option PyData) (h : c ≠ d) : cmp1 none (some (c, d)) = some (c, d) := if_neg h
theorem cmp1_sn (c d : Option PyData) (h : c ≠ d) : cmp1 (some (c, d)) none = some (c, d) := if_neg h
theorem cmp1_nn : cmp1 none none = none := by unfold cmp1; simp
theorem wr1_n (x : Pr) : ¬ wr1 none x := fun ⟨_, _, h, _⟩ => nomatch h
theorem wr1_n' (x : Pr) : ¬ wr1 x none := fun ⟨_, _, _, h, _⟩ => nomatch h
theorem wr1_s (a b c d : Option PyData) : wr1 (some (a, b)) (some (c, d)) ↔ b ≠ c := ⟨fun ⟨p, q, h, k, e⟩ => by cases h; cases k; exact e, fun h => ⟨_, _, rfl, rfl, h⟩⟩
theorem cmp1_assoc (x y z : Pr) (hx : Fn x) (hy : Fn y) (hz : Fn z) (hxy : ¬ wr1 x y) (hyz : ¬ wr1 y z) : cmp1 (cmp1 x y) z = cmp1 x (cmp1 y z) ∧ (wr1 (cmp1 x y) z ↔ wr1 x (cmp1 y z)) := by
  cases x with
  | none =>
    cases y with
    | none =>
      rw [cmp1_nn]
      cases z with
      | none => rw [cmp1_nn]; exact ⟨cmp1_nn ▸ rfl, Iff.rfl⟩
      | some r =>
        obtain ⟨e, f⟩ := r
        have h3 := hz _ rfl
        rw [cmp1_ns _ _ h3, cmp1_ns _ _ h3]
        exact ⟨rfl, Iff.rfl⟩
    | some q =>
      obtain ⟨c, d⟩ := q
      have h2 := hy _ rfl
      rw [cmp1_ns _ _ h2]
      cases z with
      | none => rw [cmp1_sn _ _ h2, cmp1_ns _ _ h2]; exact ⟨rfl, iff_of_false (wr1_n' _) (wr1_n _)⟩
      | some r =>
        obtain ⟨e, f⟩ := r
        refine ⟨?_, iff_of_false hyz (wr1_n _)⟩
        rw [cmp1_ss]
        by_cases h : c = f
        · rw [if_pos h, cmp1_nn]
        · rw [if_neg h, cmp1_ns _ _ h]
  | some p =>
    obtain ⟨a, b⟩ := p
    have h1 := hx _ rfl
    cases y with
    | none =>
      rw [cmp1_sn _ _ h1]
      cases z with
      | none => rw [cmp1_nn, cmp1_sn _ _ h1]; exact ⟨rfl, Iff.rfl⟩
      | some r =>
        obtain ⟨e, f⟩ := r
        have h3 := hz _ rfl
        rw [cmp1_ns _ _ h3]
        exact ⟨rfl, Iff.rfl⟩
    | some q =>
      obtain ⟨c, d⟩ := q
      have h2 := hy _ rfl
      have e1 : b = c := Classical.byContradiction fun n => hxy ((wr1_s _ _ _ _).mpr n)
      subst e1
      cases z with
      | none =>
        rw [cmp1_sn _ _ h2]
        refine ⟨?_, iff_of_false (wr1_n' _) hxy⟩
        rw [cmp1_ss]
        by_cases h : a = d
        · rw [if_pos h, cmp1_nn]
        · rw [if_neg h, cmp1_sn _ _ h]
      | some r =>
        obtain ⟨e, f⟩ := r
        have h3 := hz _ rfl
        have e2 : d = e := Classical.byContradiction fun n => hyz ((wr1_s _ _ _ _).mpr n)
        subst e2
        rw [cmp1_ss a b b d, cmp1_ss b d d f]
        by_cases h : a = d
        · subst h
          rw [if_pos rfl, cmp1_ns _ _ h3]
          by_cases k : b = f
          · subst k
            rw [if_pos rfl, cmp1_sn _ _ h1]
            exact ⟨rfl, iff_of_false (wr1_n _) (wr1_n' _)⟩
          · rw [if_neg k, cmp1_ss, if_neg h3]
            exact ⟨rfl, iff_of_false (wr1_n _) fun z => (wr1_s _ _ _ _).mp z rfl⟩
        · rw [if_neg h, cmp1_ss]
          by_cases k : b = f
          · subst k
            rw [if_pos rfl, cmp1_sn _ _ h1, if_neg h1]
            exact ⟨rfl, iff_of_false (fun z => (wr1_s _ _ _ _).mp z rfl) (wr1_n' _)⟩
          · rw [if_neg k, cmp1_ss]
            exact ⟨rfl, iff_of_false (fun z => (wr1_s _ _ _ _).mp z rfl) fun z => (wr1_s _ _ _ _).mp z rfl⟩
theorem fn_of {D : Df} (h : DOk D) (s : Zk.Slot) : Fn (D s) := fun p e => (h s p e).2.2
theorem cmpD_assoc {A B C : Df} (ha : DOk A) (hb : DOk B) (hc : DOk C) (hAB : ∀ s, ¬ wrC A B s) (hBC : ∀ s, ¬ wrC B C s) : cmpD (cmpD A B) C = cmpD A (cmpD B C) ∧ wrC (cmpD A B) C = wrC A (cmpD B C) := by
  have key := fun s => cmp1_assoc (A s) (B s) (C s) (fn_of ha s) (fn_of hb s) (fn_of hc s) (hAB s) (hBC s)
  exact ⟨funext fun s => (key s).1, funext fun s => propext (key s).2⟩
/-! ### what is told: the made one, or the least slot -/
theorem sm_dict {U : List Zk.Slot} {n : Nat} {H : Hp} {a b : Addr} {f : Fd} (hU : U.length ≤ 1000) (hn : 4 ≤ n) (ha : DM U H a f) (hb : DM U H b f) (dp : ∀ s d, f s = some d → d.depth < n) : Sm U (n + 1) H (.ref a) (.ref b) :=
  .inr (.inr ⟨by omega, hU, a, b, f, rfl, rfl, ha, hb, dp⟩)
theorem dp_st5 {f : Fd} (sf : Stt f) : ∀ s d, f s = some d → d.depth < 5 := fun s d e => Nat.lt_succ_of_lt (Nat.lt_succ_of_le ((sf s d e).lay.2))
def Res (U : List Zk.Slot) (W : Zk.Slot → Prop) (F : Fd) (H : Hp) (o : Addr) : Prop :=
  ((∀ s, ¬ W s) ∧ ∃ r, H o = some (.lst [.ref r]) ∧ DM U H r F) ∨ ∃ m, Least W m ∧ MisAt H o m
theorem Res.ext {U : List Zk.Slot} {W : Zk.Slot → Prop} {F : Fd} {H H' : Hp} {o : Addr} (h : Res U W F H o) (e : Ext [] H H') : Res U W F H' o := by
  rcases h with ⟨n, r, h, k⟩ | ⟨m, l, b, h, k⟩
  · exact .inl ⟨n, r, e.keep _ _ h List.not_mem_nil, k.ext e List.not_mem_nil⟩
  · exact .inr ⟨m, l, b, e.keep _ _ h List.not_mem_nil, e.tup k⟩
theorem least_uniq {W : Zk.Slot → Prop} {m n : Zk.Slot} (h : Least W m) (k : Least W n) : m = n := sle_anti (h.2 n k.1) (k.2 m h.1)
theorem Res.same {U : List Zk.Slot} {W : Zk.Slot → Prop} {F : Fd} {H : Hp} {o o' : Addr} (hU : U.length ≤ 1000) (h : Res U W F H o) (k : Res U W F H o') (dp : ∀ s d, F s = some d → d.depth < 5) : Sm U 7 H (.ref o) (.ref o') := by
  rcases h with ⟨n, r, h, h2⟩ | ⟨m, l, b, h, h2⟩ <;> rcases k with ⟨n', r', k, k2⟩ | ⟨m', l', b', k, k2⟩
  · exact .inr (.inl ⟨o, o', _, _, rfl, rfl, h, k, Nat.le_of_ble_eq_true rfl, .cons (sm_dict hU (by decide) h2 k2 dp) .nil⟩)
  · exact absurd l'.1 (n _)
  · exact absurd l.1 (n' _)
  · have e := least_uniq l l'
    subst e
    exact .inr (.inl ⟨o, o', _, _, rfl, rfl, h, k, Nat.le_of_ble_eq_true rfl, .cons (Sm.im (d := .str sMis) (by simp [PyData.depth]) (.str _) (.str _)) (.cons (Sm.im (d := sD m) (by rw [sD_depth]; decide) (im_slot h2) (im_slot k2)) .nil)⟩)
theorem dp_dF {D : Df} (h : DOk D) : ∀ s d, dF D s = some d → d.depth < 5 := fun s d e => by
  obtain ⟨p, hp, rfl⟩ := dF_some e
  obtain ⟨a, b, _⟩ := h s p hp
  have a' := a.depth
  have b' := b.depth
  simp only [PyData.depth, PyData.depthAll]
  omega
theorem dp_app {f : Fd} {D : Df} (sf : Stt f) (h : DOk D) : ∀ s d, appF f D s = some d → d.depth < 5 := fun s d e => by
  unfold appF at e
  cases hD : D s with
  | none => rw [hD] at e; exact dp_st5 sf s d e
  | some p => rw [hD] at e; exact Nat.lt_succ_of_lt (Nat.lt_succ_of_le ((h s p hD).2.1 d e).lay.2)
theorem w_lapp {H : Hp} {U : List Zk.Slot} {p q : Addr} {f : Fd} {D : Df} {Q : VK} {E : XK} (hU : Pln U) (hf : DM U H p f) (hg : DM U H q (dF D)) (sf : Stt f) (oD' : DOk D) (k : ∀ o H', Ext [] H H' → H o = none → Res U (wrA f D) (appF f D) H' o → Q (.ref o) H') : sp_law_applied K ([.ref p, .ref q] ++ []) H Q E :=
  ⟨_, _, rfl, U, p, q, f, D, rfl, rfl, hU, hf, hg, sf, oD', fun r o H' n e _ no h h2 => k o H' e no (.inl ⟨n, r, h, h2⟩), fun m o H' l e no h => k o H' e no (.inr ⟨m, l, h⟩)⟩
theorem w_lcmp {H : Hp} {U : List Zk.Slot} {p q : Addr} {A B : Df} {Q : VK} {E : XK} (hU : Pln U) (hf : DM U H p (dF A)) (hg : DM U H q (dF B)) (oA : DOk A) (oB : DOk B) (k : ∀ o H', Ext [] H H' → H o = none → Res U (wrC A B) (dF (cmpD A B)) H' o → Q (.ref o) H') : sp_law_composed K ([.ref p, .ref q] ++ []) H Q E :=
  ⟨_, _, rfl, U, p, q, A, B, rfl, rfl, hU, hf, hg, oA, oB, fun r o H' n e _ no h h2 => k o H' e no (.inl ⟨n, r, h, h2⟩), fun m o H' l e no h => k o H' e no (.inr ⟨m, l, h⟩)⟩
theorem w_tapp {H : Hp} {U : List Zk.Slot} {p q : Addr} {f : Fd} {D : Df} {Q : VK} {E : XK} (hU : Pln U) (hf : DM U H p f) (hg : DM U H q (dF D)) (sf : Stt f) (oD' : DOk D) (k : ∀ o H', Ext [] H H' → H o = none → Res U (wrA f D) (appF f D) H' o → Q (.ref o) H') : sp_law_told K ([.ref p, .ref q, .str sApp] ++ []) H Q E :=
  ⟨_, _, _, rfl, U, p, q, rfl, rfl, hU.1, .inl ⟨f, D, rfl, hf, hg, sf, oD', fun r o H' n e _ no h h2 => k o H' e no (.inl ⟨n, r, h, h2⟩), fun m o H' l e no h => k o H' e no (.inr ⟨m, l, h⟩)⟩⟩
theorem w_tcmp {H : Hp} {U : List Zk.Slot} {p q : Addr} {A B : Df} {Q : VK} {E : XK} (hU : Pln U) (hf : DM U H p (dF A)) (hg : DM U H q (dF B)) (oA : DOk A) (oB : DOk B) (k : ∀ o H', Ext [] H H' → H o = none → Res U (wrC A B) (dF (cmpD A B)) H' o → Q (.ref o) H') : sp_law_told K ([.ref p, .ref q, .str sCom] ++ []) H Q E :=
  ⟨_, _, _, rfl, U, p, q, rfl, rfl, hU.1, .inr ⟨A, B, rfl, hf, hg, oA, oB, fun r o H' n e _ no h h2 => k o H' e no (.inl ⟨n, r, h, h2⟩), fun m o H' l e no h => k o H' e no (.inr ⟨m, l, h⟩)⟩⟩
/-- differences one behind another -/
def DL (U : List Zk.Slot) (H : Hp) (as : List Addr) (Ls : List Df) : Prop := Paired (fun a D => DM U H a (dF D) ∧ DOk D) as Ls
theorem DL.ext {U : List Zk.Slot} {H H' : Hp} {as : List Addr} {Ls : List Df} {M : List Addr} (h : DL U H as Ls) (e : Ext M H H') (n : ∀ a ∈ as, a ∉ M) : DL U H' as Ls := by
  unfold DL at *
  induction h with
  | nil => exact .nil
  | cons h t ih => exact .cons ⟨h.1.ext e (n _ List.mem_cons_self), h.2⟩ (ih fun a m => n a (List.mem_cons_of_mem _ m))
theorem DL.mem {U : List Zk.Slot} {H : Hp} {as : List Addr} {Ls : List Df} (h : DL U H as Ls) {a : Addr} (m : a ∈ as) : ∃ D, DM U H a (dF D) := by
  unfold DL at *
  induction h with
  | nil => cases m
  | cons h t ih =>
    rcases List.mem_cons.mp m with m | m
    · subst m; exact ⟨_, h.1⟩
    · exact ih m
theorem DL.snoc {U : List Zk.Slot} {H : Hp} {as : List Addr} {Ls : List Df} {a : Addr} {D : Df} (h : DL U H as Ls) (k : DM U H a (dF D)) (o : DOk D) : DL U H (as ++ [a]) (Ls ++ [D]) := paired_snoc ⟨k, o⟩ h
theorem DL.len {U : List Zk.Slot} {H : Hp} {as : List Addr} {Ls : List Df} (h : DL U H as Ls) : as.length = Ls.length := paired_len h
theorem DL.at {U : List Zk.Slot} {H : Hp} {as : List Addr} {Ls : List Df} (h : DL U H as Ls) {i : Nat} {v : V} (e : (as.map V.ref)[i]? = some v) : ∃ a D, v = .ref a ∧ as[i]? = some a ∧ Ls[i]? = some D ∧ DM U H a (dF D) ∧ DOk D := by
  rw [List.getElem?_map] at e
  cases q : as[i]? with
  | none => rw [q] at e; cases e
  | some a =>
    rw [q] at e
    obtain ⟨D, hs, hh⟩ := paired_at h q
    exact ⟨a, D, (Option.some.inj e).symm, rfl, hs, hh⟩

def sp_law (K : PySem.W.Frag) : Sp := sp1 fun a H Q => ∃ (sc : Addr) (ns : List Int), a = .ref sc ∧ Scr K H sc (ns.map V.int) ∧ ∀ H', Q (.bl true) H'
theorem start_law {H : Hp} {a : Addr} {ns : List Int} (hO : Only H) (hl : ns.length ≤ 63) (hS : SqL K H a (ns.map V.int)) : sp_law K [.ref a] H (fun v _ => v = .bl true) (fun _ _ _ => False) :=
  ⟨_, rfl, a, ns, rfl, Scr.of hO hS, fun _ => rfl⟩
theorem DL.three {U : List Zk.Slot} {H : Hp} {as : List Addr} {Ls : List Df} (h : DL U H as Ls) (l : as.length = 3) : ∃ a b c A B C, as = [a, b, c] ∧ Ls = [A, B, C] ∧ DM U H a (dF A) ∧ DM U H b (dF B) ∧ DM U H c (dF C) ∧ DOk A ∧ DOk B ∧ DOk C := by
  cases h with
  | nil => cases l
  | cons h1 h => cases h with
    | nil => cases l
    | cons h2 h => cases h with
      | nil => cases l
      | cons h3 h => cases h with
        | nil => exact ⟨_, _, _, _, _, _, rfl, rfl, h1.1, h2.1, h3.1, h1.2, h2.2, h3.2⟩
        | cons h4 h => cases l
theorem DL.sm {U : List Zk.Slot} {H : Hp} (hU : U.length ≤ 1000) {as bs : List Addr} {Ls : List Df} (h : DL U H as Ls) (k : DL U H bs Ls) : Paired (Sm U 6 H) (as.map V.ref) (bs.map V.ref) := by
  unfold DL at *
  induction h generalizing bs with
  | nil => cases k; exact .nil
  | cons h t ih => cases k with
    | cons k u => exact .cons (sm_dict hU (by decide) h.1 k.1 (dp_dF h.2)) (ih u)
theorem ok_law (T : Txt K mg) (TE : Errs P K mg) : FnOk P w K mg base CX0 9 T.f_law T.d_law ["script"] (sp_law K) := by
  refine T.F_law.ok sc_law len1 (fun cdv A outer s H vs Q E hr h => ?_)
  have nd := sc_law.nd
  have hu := hu_of hr
  obtain ⟨_, rfl, sc, ns, rfl, hS, k⟩ := h
  refine ⟨_,
      (pss_cons (ps_set (i := 1) nd rfl (Or.inl rfl) (pe_call (ok_law_pool T) (hr.mono (by decide)) (by rfl) T.g__law_pool T.F__law_pool.kp T.k__law_pool .nil pass0 (pa_cons (pv 0) pa_nil))) 
      (pss_cons (ps_set (i := 2) nd rfl (Or.inl rfl) (pe_call (ok_law_universe T) (hr.mono (by decide)) (by rfl) T.g__law_universe T.F__law_universe.kp T.k__law_universe .nil pass0 (pa_cons (pv 1) (pa_cons pe_int pa_nil)))) 
      (pss_cons (ps_set (i := 3) nd rfl (Or.inl rfl) (pe_call (ok_law_moved T) (hr.mono (by decide)) (by rfl) T.g__law_moved T.F__law_moved.kp T.k__law_moved .nil pass0 (pa_cons (pv 1) (pa_cons (pv 2) (pa_cons pe_dnewTZ (pa_cons pe_int pa_nil)))))) 
      (pss_cons (ps_set (i := 4) nd rfl (Or.inl rfl) (pe_lstZ pa_nil)) 
      (pss_cons (ps_set (i := 5) nd rfl (Or.inl rfl) pe_dnewTZ) 
      (pss_cons (ps_for PassesOwn.never rfl (pi_range1 (by rfl) T.b_range (pa_cons pe_int pa_nil)) (pg_name (i := 6) nd rfl (Or.inl rfl)) 
        (pss_cons (ps_expr (pe_call (ok_law_next T) (hr.mono (by decide)) (by rfl) T.g__law_next T.F__law_next.kp T.k__law_next .nil pass0 (pa_cons (pv 1) pa_nil))) 
        (pss_cons (ps_set (i := 5) nd rfl (Or.inl rfl) (pe_call (ok_law_difference T) (hr.mono (by decide)) (by rfl) T.g__law_difference T.F__law_difference.kp T.k__law_difference .nil pass0 (pa_cons (pv 1) (pa_cons (pv 2) (pa_cons (pv 3) (pa_cons (pv 5) pa_nil)))))) 
        (pss_one (ps_expr (pe_bm PySem.F.plainAttrs_list PySem.F.slot_list_append PySem.F.type_list_append zmt_append (pv 4) (pa_cons (pv 5) pa_nil))))))) 
      (pss_cons (ps_set (i := 8) nd rfl (Or.inl rfl) (pe_op zop_cat (pe_lstZ (pa_cons (pe_call (ok_law_copy T) (hr.mono (by decide)) (by rfl) T.g__law_copy T.F__law_copy.kp T.k__law_copy .nil pass0 (pa_cons (pv 3) pa_nil)) pa_nil)) (pe_lc (own := [("step", 7)]) rfl nd (pi_list (pv 4)) (blkOk_by (own := [("step", 7)]) (N := ["script", "pool", "slots", "state", "steps", "last", "k", "step", "kept", "other", "one"]) (sc := defScope s_law) (by decide +kernel)) (fun _ _ _ _ _ => (pg_name (i := 7) nd rfl (Or.inl rfl))) (fun _ _ _ _ _ => pts_nil) (fun _ _ _ _ _ => (pe_call (ok_law_copy T) (hr.mono (by decide)) (by rfl) T.g__law_copy T.F__law_copy.kp T.k__law_copy .nil pass0 (pa_cons (pv 7) pa_nil)))))) 
      (pss_cons (ps_for PassesOwn.never rfl (pi_list (pv 4)) (pg_name (i := 7) nd rfl (Or.inl rfl)) 
        (pss_cons (ps_if (pt_not (pt_val (pe_call (ok_law_same T) (hr.mono (by decide)) (by rfl) T.g__law_same T.F__law_same.kp T.k__law_same .nil pass0 (pa_cons (pe_call (ok_law_applied T) (hr.mono (by decide)) (by rfl) T.g__law_applied T.F__law_applied.kp T.k__law_applied .nil pass0 (pa_cons (pv 3) (pa_cons (pv 7) pa_nil))) (pa_cons (pe_call (ok_law_told T TE) (hr.mono (by decide)) (by rfl) T.g__law_told T.F__law_told.kp T.k__law_told .nil pass0 (pa_cons (pv 3) (pa_cons (pv 7) (pa_cons pe_str pa_nil)))) pa_nil))))) 
          (pss_one (ps_ret pe_bl)) pss_nil) 
        (pss_one (ps_for PassesOwn.never rfl (pi_list (pv 4)) (pg_name (i := 9) nd rfl (Or.inl rfl)) 
          (pss_one (ps_if (pt_not (pt_val (pe_call (ok_law_same T) (hr.mono (by decide)) (by rfl) T.g__law_same T.F__law_same.kp T.k__law_same .nil pass0 (pa_cons (pe_call (ok_law_composed T) (hr.mono (by decide)) (by rfl) T.g__law_composed T.F__law_composed.kp T.k__law_composed .nil pass0 (pa_cons (pv 7) (pa_cons (pv 9) pa_nil))) (pa_cons (pe_call (ok_law_told T TE) (hr.mono (by decide)) (by rfl) T.g__law_told T.F__law_told.kp T.k__law_told .nil pass0 (pa_cons (pv 7) (pa_cons (pv 9) (pa_cons pe_str pa_nil)))) pa_nil))))) 
            (pss_one (ps_ret pe_bl)) pss_nil)))))) 
      (pss_cons (ps_set (i := 10) nd rfl (Or.inl rfl) (pe_call (ok_law_told T TE) (hr.mono (by decide)) (by rfl) T.g__law_told T.F__law_told.kp T.k__law_told .nil pass0 (pa_cons (pe_ix ix_list (pv 4) pe_int (fun _ _ => rfl)) (pa_cons (pe_ix ix_list (pv 4) pe_int (fun _ _ => rfl)) (pa_cons pe_str pa_nil))))) 
      (pss_cons (ps_set (i := 9) nd rfl (Or.inl rfl) (pe_call (ok_law_told T TE) (hr.mono (by decide)) (by rfl) T.g__law_told T.F__law_told.kp T.k__law_told .nil pass0 (pa_cons (pe_ix ix_list (pv 4) pe_int (fun _ _ => rfl)) (pa_cons (pe_ix ix_list (pv 4) pe_int (fun _ _ => rfl)) (pa_cons pe_str pa_nil))))) 
      (pss_cons (ps_if (PW.pt (pw_and (pt_cmpR op_eq (pe_callB zc_len (by rfl) T.b_len (by decide +kernel) (pa_cons (pv 10) pa_nil)) pe_int (nomark _)) (pw_and1 (pt_cmpR op_eq (pe_callB zc_len (by rfl) T.b_len (by decide +kernel) (pa_cons (pv 9) pa_nil)) pe_int (nomark _))))) 
        (pss_one (ps_if (pt_not (pt_val (pe_call (ok_law_same T) (hr.mono (by decide)) (by rfl) T.g__law_same T.F__law_same.kp T.k__law_same .nil pass0 (pa_cons (pe_call (ok_law_told T TE) (hr.mono (by decide)) (by rfl) T.g__law_told T.F__law_told.kp T.k__law_told .nil pass0 (pa_cons (pe_ix ix_list (pv 10) pe_int (fun _ _ => rfl)) (pa_cons (pe_ix ix_list (pv 4) pe_int (fun _ _ => rfl)) (pa_cons pe_str pa_nil)))) (pa_cons (pe_call (ok_law_told T TE) (hr.mono (by decide)) (by rfl) T.g__law_told T.F__law_told.kp T.k__law_told .nil pass0 (pa_cons (pe_ix ix_list (pv 4) pe_int (fun _ _ => rfl)) (pa_cons (pe_ix ix_list (pv 9) pe_int (fun _ _ => rfl)) (pa_cons pe_str pa_nil)))) pa_nil))))) 
          (pss_one (ps_ret pe_bl)) pss_nil)) pss_nil) 
      (pss_one (ps_ret (pe_call (ok_law_same T) (hr.mono (by decide)) (by rfl) T.g__law_same T.F__law_same.kp T.k__law_same .nil pass0 (pa_cons (pv 8) (pa_cons (pe_op zop_cat (pe_lstZ (pa_cons (pv 3) pa_nil)) (pv 4)) pa_nil)))))))))))))))), ?_⟩
  change (_ : TS) _ [some _, none, none, none, none, none, none, none, none, none, none] _
  try dsimp only [cxOf, Cx.nox, Cx.wish]
  walk_at "go"
  refine w_sp1 ⟨sc, ns, rfl, hS, fun p H1 e1 n1 P1 => ?_⟩
  walk_at "go"
  refine w_universe P1 fun o bs ss H2 e2 P2 no h2 hss l1 l8 hsg nop => ?_
  have hU : Pln ss := ⟨by omega, hsg⟩
  have hsU : ∀ s ∈ ss, s ∈ ss := fun s m => m
  walk_at "go"
  refine w_alc fun Z H3 e3 n3 h3 => ?_
  walk_at "go"
  have P3 := P2.ext e3 List.not_mem_nil
  have ho3 := e3.keep _ _ h2 List.not_mem_nil
  have hs3 := hss.ext e3
  refine w_moved (by decide) (by decide) hU P3 ho3 nop hs3 l1 l8 hsU (DM.nil h3) stt_none fun S f H4 e4 P4 nS hf sf => ?_
  walk_at "go"
  refine ⟨Nat.zero_le _, w_alc fun L H5 e5 nL hL => ?_⟩
  walk_at "go"
  refine w_alc fun Z2 H6 e6 n6 h6 => ?_
  walk_at "go"
  have P6 := (P4.ext e5 List.not_mem_nil).ext e6 List.not_mem_nil
  have ho6 := e6.keep _ _ (e5.keep _ _ (e4.keep _ _ ho3 (nm1 nop)) List.not_mem_nil) List.not_mem_nil
  have hs6 := ((hs3.ext e4).ext e5).ext e6
  have f6 := (hf.ext e5 List.not_mem_nil).ext e6 List.not_mem_nil
  have hL6 := e6.keep _ _ hL List.not_mem_nil
  have nLp : L ≠ p := (P4.ne nL).symm
  have noL : o ≠ L := ne_of_none (e4.keep _ _ ho3 (nm1 nop)) nL
  have nSp : S ≠ p := pd_ne P6 f6
  have nSL : S ≠ L := ld_ne hL6 f6
  refine ⟨_, rfl, by decide, by decide, z_for_range (lo := 0) (n := 3) (fun i σ' H' => ∃ (as : List Addr) (Ls : List Df) (l : Addr) (D : Df) (u : Option V), σ' = [some (.ref sc), some (.ref p), some (.ref o), some (.ref S), some (.ref L), some (.ref l), u, none, none, none, none] ∧ Ext [L, p] H6 H' ∧ PoolAt K H' p ∧
    H' L = some (.lst (as.map V.ref)) ∧ as.length = i ∧ DL ss H' as Ls ∧ DM ss H' l (dF D) ∧ DOk D) ⟨[], [], Z2, fun _ => none, _, rfl, Ext.refl, P6, hL6, rfl, .nil, DM.nil h6, dok_none⟩ ?_ ?_⟩
  · rintro N i σ' H7 hi ⟨as, Ls, l, D, u, rfl, e7, P7, hL7, la, dl, hl, oD'⟩ hN
    walk_at "go"
    refine w_next_ P7 fun H8 e8 P8 => ?_
    walk_at "go"
    have e68 : Ext [L, p] H6 H8 := e7.trans (e8.mono fun x m => List.mem_cons_of_mem _ m)
    have ho8 := e68.keep _ _ ho6 (nm2 noL nop)
    have f8 := f6.ext e68 (nm2 nSL nSp)
    have hl8 := hl.ext e8 (nm1 (pd_ne P7 hl))
    have dl8 := dl.ext e8 fun a m => (dl.mem m).elim fun D h => nm1 (pd_ne P7 h)
    have hL8 := e8.keep _ _ hL7 (nm1 nLp)
    refine w_difference hU P8 ho8 nop (hs6.ext e68) l1 l8 hsU f8 sf hl8 oD' fun t D' H9 e9 P9 nt ht ot => ?_
    walk_at "go"
    have hL9 := e9.keep _ _ hL8 (nm1 nLp)
    have dl9 := dl8.ext e9 fun a m => (dl8.mem m).elim fun D h => nm1 (pd_ne P8 h)
    refine w_append hL9 (szl (by rw [List.length_map]; omega)) ?_
    refine w_chg hL9 (fun z => z) fun HA eA hA => ?_
    rw [← List.map_singleton (f := V.ref), ← List.map_append] at hA
    have ntL := ld_ne hL9 ht
    walk_at "go"
    exact hN _ _ ⟨as ++ [t], Ls ++ [D'], t, D', _, rfl, (e68.trans (e9.mono fun x m => List.mem_cons_of_mem _ m)).trans (eA.mono fun x m => by rw [List.mem_singleton.mp m]; exact List.mem_cons_self), P9.ext eA (nm1 nLp.symm), hA, by rw [List.length_append, la]; rfl,
      (dl9.ext eA fun a m => (dl9.mem m).elim fun D h => nm1 (ld_ne hL9 h)).snoc (ht.ext eA (nm1 ntL)) ot, ht.ext eA (nm1 ntL), ot⟩
  · rintro σ' H7 ⟨as, Ls, l, D, u, rfl, e7, P7, hL7, la, dl, hl, oD'⟩
    obtain ⟨a, b, c, A, B, C, rfl, rfl, ha, hb, hc, oA, oB, oC⟩ := dl.three la
    have f7 := f6.ext e7 (nm2 nSL nSp)
    have no_ : ∀ {x : Addr}, x ∉ ([] : List Addr) := List.not_mem_nil
    walk_at "go"
    refine w_copy hU.1 f7 fun S' H8 e8 n8 h8 => ?_
    walk_at "go"
    refine ⟨sz (by show 1 ≤ _; decide), w_alc fun T1 H9 e9 n9 h9 => ?_⟩
    walk_at "go"
    have e79 := e8.trans e9
    have hL9 := e79.keep _ _ hL7 no_
    have dl9 := dl.ext e79 fun _ _ => no_
    have hS9 := h8.ext e9 no_
    refine ⟨L, rfl, ⟨_, sql hL9⟩, fun W nW => ?_⟩
    refine z_lc_list (xs := ([a, b, c] : List Addr).map V.ref) (fun i acc H' => Ext [] H9 H' ∧ ∃ cs : List Addr, acc = cs.map V.ref ∧ DL ss H' cs (([A, B, C] : List Df).take i)) nW (fun H' e => ⟨e, [], rfl, .nil⟩) (fun i acc H' _ ⟨e, _⟩ => sql (e.keep _ _ hL9 no_)) ?_ ?_
    · rintro Nx i x acc HA hx ⟨eA, cs, rfl, dcs⟩ hW hNx
      have lc := dcs.len
      obtain ⟨a', D1, rfl, ha', hD1, da, oda⟩ := (dl9.ext eA fun _ _ => no_).at hx
      walk_at "go"
      refine ⟨rfl, ?_⟩
      walk_at "go"
      refine w_copy hU.1 da fun c' HB eB nB hB => ?_
      have hWB := eB.keep _ _ hW no_
      have dB := dcs.ext eB fun _ _ => no_
      refine w_app hWB (szl (by rw [List.length_map, lc, List.length_take]; simp only [List.length_cons, List.length_nil]; omega)) fun HC eC hC => ?_
      rw [← List.map_singleton (f := V.ref), ← List.map_append] at hC
      refine hNx _ _ ⟨(eA.trans eB).dropq eC nW, cs ++ [c'], rfl, ?_⟩ hC
      rw [take_snoc hD1]
      exact (dB.ext eC fun a m => (dB.mem m).elim fun D h => nm1 (ld_ne hWB h)).snoc (hB.ext eC (nm1 (ld_ne hWB hB))) oda
    · rintro acc HA ⟨eA, cs, rfl, dcs⟩ hW
      change DL ss HA cs [A, B, C] at dcs
      have lc := dcs.len
      walk_at "go"
      refine w_cat (eA.keep _ _ h9 no_) hW (by rw [List.length_map, lc]; exact sz (show 4 ≤ 1000000 by decide)) (w_alc fun KP HB eB nB hB => ?_)
      have e9B := eA.trans eB
      have hLB := e9B.keep _ _ hL9 no_
      have dlB := dl9.ext e9B fun _ _ => no_
      have fB := f7.ext (e79.trans e9B) no_
      have SB := hS9.ext e9B no_
      have csB := dcs.ext eB fun _ _ => no_
      walk_at "go"
      refine ⟨L, rfl, ⟨_, sql hLB⟩, z_for_list (xs := ([a, b, c] : List Addr).map V.ref) (fun i σ' H' => Ext [] HB H' ∧ ∃ v w : Option V, σ' = [some (.ref sc), some (.ref p), some (.ref o), some (.ref S), some (.ref L), some (.ref l), u, v, some (.ref KP), w, none]) ⟨Ext.refl, _, _, rfl⟩ (fun i σ' H' _ ⟨e, _⟩ => sql (e.keep _ _ hLB no_)) ?_ ?_⟩
      · rintro N i x σ' HC hx ⟨eC, v, w, rfl⟩ hN
        have dlC := dlB.ext eC fun _ _ => no_
        have fC := fB.ext eC no_
        have hLC := eC.keep _ _ hLB no_
        obtain ⟨a', D1, rfl, ha', hD1, da, oda⟩ := dlC.at hx
        walk_at "go"; walk_at "if"
        refine w_lapp hU fC da sf oda fun o1 HD eD nD r1 => ?_
        walk_at "go"
        refine w_tapp hU (fC.ext eD no_) (da.ext eD no_) sf oda fun o2 HE eE nE r2 => ?_
        walk_at "go"
        refine w_same ((r1.ext eE).same hU.1 r2 (dp_app sf oda)) fun HF eF => ?_
        have eCF := (eD.trans eE).trans eF
        walk_at "go"
        refine ⟨L, rfl, ⟨_, sql (eCF.keep _ _ hLC no_)⟩, z_for_list (xs := ([a, b, c] : List Addr).map V.ref) (fun i σ' H' => Ext [] HC H' ∧ ∃ w : Option V, σ' = [some (.ref sc), some (.ref p), some (.ref o), some (.ref S), some (.ref L), some (.ref l), u, some (.ref a'), some (.ref KP), w, none]) ⟨eCF, _, rfl⟩ (fun i σ' H' _ ⟨e, _⟩ => sql (e.keep _ _ hLC no_)) ?_ ?_⟩
        · rintro N' i' x' σ' HG hx' ⟨eG, w', rfl⟩ hN'
          have dlG := dlC.ext eG fun _ _ => no_
          have daG := da.ext eG no_
          obtain ⟨a2, D2, rfl, ha2, hD2, d2, od2⟩ := dlG.at hx'
          walk_at "go"; walk_at "if"
          refine w_lcmp hU daG d2 oda od2 fun o1 HI eI nI r1 => ?_
          walk_at "go"
          refine w_tcmp hU (daG.ext eI no_) (d2.ext eI no_) oda od2 fun o2 HJ eJ nJ r2 => ?_
          walk_at "go"
          refine w_same ((r1.ext eJ).same hU.1 r2 (dp_dF (cmp_ok oda od2))) fun HK eK => ?_
          walk_at "go"
          exact hN' _ _ ⟨eG.trans ((eI.trans eJ).trans eK), _, rfl⟩
        · rintro σ' HG ⟨eG, w', rfl⟩
          exact hN _ _ ⟨eC.trans eG, _, _, rfl⟩
      · rintro σ' HC ⟨eC, v, w, rfl⟩
        have dlC := dlB.ext eC fun _ _ => no_
        have fC := fB.ext eC no_
        have hLC : HC L = some (.lst [.ref a, .ref b, .ref c]) := eC.keep _ _ hLB no_
        have hKC := eC.keep _ _ hB no_
        have SC := SB.ext eC no_
        have csC := csB.ext eC fun _ _ => no_
        obtain ⟨ha, hb, hc⟩ : DM ss HC a (dF A) ∧ DM ss HC b (dF B) ∧ DM ss HC c (dF C) := by
          have e := (e79.trans e9B).trans eC
          exact ⟨ha.ext e no_, hb.ext e no_, hc.ext e no_⟩
        walk_at "go"
        refine w_tcmp hU ha hb oA oB fun o1 HD eD nD r1 => ?_
        walk_at "go"
        refine w_tcmp hU (hb.ext eD no_) (hc.ext eD no_) oB oC fun o2 HE eE nE r2 => ?_
        have r1 := r1.ext eE
        have eCE := eD.trans eE
        have hLE := eCE.keep _ _ hLC no_
        walk_at "go"
        refine w_cut (fun σ' H' => Ext [] HC H' ∧ σ' = [some (.ref sc), some (.ref p), some (.ref o), some (.ref S), some (.ref L), some (.ref l), u, v, some (.ref KP), some (.ref o2), some (.ref o1)]) ?_ fun nx hn => ?_
        · rintro _ HF ⟨eF, rfl⟩
          walk_at "go"
          refine ⟨sz (by show 1 ≤ _; decide), w_alc fun T2 HG eG nG hG => ?_⟩
          have eCG := eF.trans eG
          walk_at "go"
          refine w_cat hG (eCG.keep _ _ hLC no_) (sz (show 4 ≤ 1000000 by decide)) (w_alc fun T3 HI eI nI hI => ?_)
          have eCI := eCG.trans eI
          walk_at "go"
          refine w_same (U := ss) (.inr (.inl ⟨KP, T3, _, _, rfl, rfl, eCI.keep _ _ hKC no_, hI, ?_, ?_⟩)) fun HJ eJ => k _
          · rw [List.length_append, List.length_map, lc]; exact (show 4 ≤ 1000 by decide)
          · exact .cons (sm_dict hU.1 (by decide) (SC.ext eCI no_) (fC.ext eCI no_) (dp_st5 sf)) (DL.sm hU.1 (csC.ext eCI fun _ _ => no_) (dlC.ext eCI fun _ _ => no_))
        · walk_at "if"
          rcases id r1 with ⟨nAB, r, h1, hr⟩ | ⟨m, lm, b', h1, hb'⟩
          · refine w_lenL (sql h1) ?_
            walk_at "go"
            refine w_t (by simp) ?_
            walk_at "go"
            rcases id r2 with ⟨nBC, r', h2, hr'⟩ | ⟨m', lm', b2, h2, hb2⟩
            · refine w_lenL (sql h2) ?_
              walk_at "go"
              refine w_t (by simp) ?_
              walk_at "go"; walk_at "if"
              refine w_tcmp hU hr (hc.ext eCE no_) (cmp_ok oA oB) oC fun o3 HF eF nF r3 => ?_
              walk_at "go"
              refine w_tcmp hU ((ha.ext eCE no_).ext eF no_) (hr'.ext eF no_) oA (cmp_ok oB oC) fun o4 HG eG nG r4 => ?_
              walk_at "go"
              obtain ⟨q1, q2⟩ := cmpD_assoc oA oB oC nAB nBC
              have r3 := r3.ext eG
              rw [q1, q2] at r3
              refine w_same (r3.same hU.1 r4 (dp_dF (cmp_ok oA (cmp_ok oB oC)))) fun HI eI => ?_
              walk_at "go"
              exact hn _ _ ⟨((eCE.trans eF).trans eG).trans eI, rfl⟩
            · refine w_lenL (sql h2) ?_
              walk_at "go"
              refine w_f (by simp) ?_
              walk_at "go"
              exact hn _ _ ⟨eCE, rfl⟩
          · refine w_lenL (sql h1) ?_
            walk_at "go"
            refine w_f (by simp) ?_
            walk_at "go"
            exact hn _ _ ⟨eCE, rfl⟩

end
theorem all_mk {l : PySem.W.OpenLaw} {w : World} {K : PySem.W.Frag} {h : Heap} {mg : Str → Option Value} {fa : Addr} (X : K.In h) (G : h.Ns mainGlobals mg) (hfa : mg "law" = some (.ref fa))
    {f_slots_of_both : Addr} {od_slots_of_both an_slots_of_both : Option Addr} {sl_slots_of_both : Array (Option Value)} {oc_slots_of_both kV_slots_of_both dc_slots_of_both pm_slots_of_both cd_slots_of_both ct_slots_of_both : Value} {f_applied : Addr} {od_applied an_applied : Option Addr} {sl_applied : Array (Option Value)} {oc_applied kV_applied dc_applied pm_applied cd_applied ct_applied : Value} {f_composed : Addr} {od_composed an_composed : Option Addr} {sl_composed : Array (Option Value)} {oc_composed kV_composed dc_composed pm_composed cd_composed ct_composed : Value} {f_law_mixed : Addr} {od_law_mixed an_law_mixed : Option Addr} {sl_law_mixed : Array (Option Value)} {oc_law_mixed kV_law_mixed dc_law_mixed pm_law_mixed cd_law_mixed ct_law_mixed : Value} {f_law_rest : Addr} {od_law_rest an_law_rest : Option Addr} {sl_law_rest : Array (Option Value)} {oc_law_rest kV_law_rest dc_law_rest pm_law_rest cd_law_rest ct_law_rest : Value} {f_law_pool : Addr} {od_law_pool an_law_pool : Option Addr} {sl_law_pool : Array (Option Value)} {oc_law_pool kV_law_pool dc_law_pool pm_law_pool cd_law_pool ct_law_pool : Value} {f_law_next : Addr} {od_law_next an_law_next : Option Addr} {sl_law_next : Array (Option Value)} {oc_law_next kV_law_next dc_law_next pm_law_next cd_law_next ct_law_next : Value} {f_law_draw : Addr} {od_law_draw an_law_draw : Option Addr} {sl_law_draw : Array (Option Value)} {oc_law_draw kV_law_draw dc_law_draw pm_law_draw cd_law_draw ct_law_draw : Value} {f_law_pick : Addr} {od_law_pick an_law_pick : Option Addr} {sl_law_pick : Array (Option Value)} {oc_law_pick kV_law_pick dc_law_pick pm_law_pick cd_law_pick ct_law_pick : Value} {f_law_same : Addr} {od_law_same an_law_same : Option Addr} {sl_law_same : Array (Option Value)} {oc_law_same kV_law_same dc_law_same pm_law_same cd_law_same ct_law_same : Value} {f_law_name : Addr} {od_law_name an_law_name : Option Addr} {sl_law_name : Array (Option Value)} {oc_law_name kV_law_name dc_law_name pm_law_name cd_law_name ct_law_name : Value} {f_law_cells : Addr} {od_law_cells an_law_cells : Option Addr} {sl_law_cells : Array (Option Value)} {oc_law_cells kV_law_cells dc_law_cells pm_law_cells cd_law_cells ct_law_cells : Value} {f_law_content : Addr} {od_law_content an_law_content : Option Addr} {sl_law_content : Array (Option Value)} {oc_law_content kV_law_content dc_law_content pm_law_content cd_law_content ct_law_content : Value} {f_law_universe : Addr} {od_law_universe an_law_universe : Option Addr} {sl_law_universe : Array (Option Value)} {oc_law_universe kV_law_universe dc_law_universe pm_law_universe cd_law_universe ct_law_universe : Value} {f_law_copy : Addr} {od_law_copy an_law_copy : Option Addr} {sl_law_copy : Array (Option Value)} {oc_law_copy kV_law_copy dc_law_copy pm_law_copy cd_law_copy ct_law_copy : Value} {f_law_without : Addr} {od_law_without an_law_without : Option Addr} {sl_law_without : Array (Option Value)} {oc_law_without kV_law_without dc_law_without pm_law_without cd_law_without ct_law_without : Value} {f_law_moved : Addr} {od_law_moved an_law_moved : Option Addr} {sl_law_moved : Array (Option Value)} {oc_law_moved kV_law_moved dc_law_moved pm_law_moved cd_law_moved ct_law_moved : Value} {f_law_applied : Addr} {od_law_applied an_law_applied : Option Addr} {sl_law_applied : Array (Option Value)} {oc_law_applied kV_law_applied dc_law_applied pm_law_applied cd_law_applied ct_law_applied : Value} {f_law_composed : Addr} {od_law_composed an_law_composed : Option Addr} {sl_law_composed : Array (Option Value)} {oc_law_composed kV_law_composed dc_law_composed pm_law_composed cd_law_composed ct_law_composed : Value} {f_law_difference : Addr} {od_law_difference an_law_difference : Option Addr} {sl_law_difference : Array (Option Value)} {oc_law_difference kV_law_difference dc_law_difference pm_law_difference cd_law_difference ct_law_difference : Value} {f_law_told : Addr} {od_law_told an_law_told : Option Addr} {sl_law_told : Array (Option Value)} {oc_law_told kV_law_told dc_law_told pm_law_told cd_law_told ct_law_told : Value} {f_law : Addr} {od_law an_law : Option Addr} {sl_law : Array (Option Value)} {oc_law kV_law dc_law pm_law cd_law ct_law : Value} {C_StoreError : Addr} {C_Mismatch : Addr} {C_NoMoment : Addr} {I_Mismatch : Addr} {nm_Mismatch q_Mismatch : Str} {N_Mismatch : Addr} {bs_Mismatch bm_Mismatch : List Value} {sn_Mismatch : List Str} {sub_Mismatch : List Value} {ab_Mismatch : Bool} {col_Mismatch : Option Bool} {dd_Mismatch : Option Addr} {m0_Mismatch m1_Mismatch m2_Mismatch m3_Mismatch m5_Mismatch : Option Value} {oc_Mismatch : Value} {od_Mismatch : Option Addr} {dc_Mismatch pm_Mismatch : Value} {an_Mismatch : Option Addr} {cda_Mismatch : Addr} {ct_Mismatch : Value} {osl_Mismatch : Array (Option Value)} {cc_Mismatch : Addr} {cl_Mismatch : Value} {cld_Mismatch : Option Addr} {csl_Mismatch : Array (Option Value)} {vs_Mismatch : Array Value} {ccl_Mismatch : Value} {cdd_Mismatch : Option Addr} {ccs_Mismatch : Array (Option Value)} {file_Mismatch : Str} {tf_Mismatch : Tok} 
    (a_slots_of_both : PySem.W.nsIn K mainGlobals "slots_of_both" = some (some (.ref f_slots_of_both)))
    (l_slots_of_both : K.lookup f_slots_of_both = some ⟨oc_slots_of_both, od_slots_of_both, .func (PySem.W.fnOf "slots_of_both" "slots_of_both" (defArgs s_slots_of_both) (defBody s_slots_of_both) (defScope s_slots_of_both) .none kV_slots_of_both dc_slots_of_both pm_slots_of_both an_slots_of_both cd_slots_of_both ct_slots_of_both), sl_slots_of_both⟩)
    (c_slots_of_both : PySem.W.codeIn K cd_slots_of_both "slots_of_both" = true)
    (k_slots_of_both : PySem.W.keepIn K (.ref f_slots_of_both) = true)
    (a_applied : PySem.W.nsIn K mainGlobals "applied" = some (some (.ref f_applied)))
    (l_applied : K.lookup f_applied = some ⟨oc_applied, od_applied, .func (PySem.W.fnOf "applied" "applied" (defArgs s_applied) (defBody s_applied) (defScope s_applied) .none kV_applied dc_applied pm_applied an_applied cd_applied ct_applied), sl_applied⟩)
    (c_applied : PySem.W.codeIn K cd_applied "applied" = true)
    (k_applied : PySem.W.keepIn K (.ref f_applied) = true)
    (a_composed : PySem.W.nsIn K mainGlobals "composed" = some (some (.ref f_composed)))
    (l_composed : K.lookup f_composed = some ⟨oc_composed, od_composed, .func (PySem.W.fnOf "composed" "composed" (defArgs s_composed) (defBody s_composed) (defScope s_composed) .none kV_composed dc_composed pm_composed an_composed cd_composed ct_composed), sl_composed⟩)
    (c_composed : PySem.W.codeIn K cd_composed "composed" = true)
    (k_composed : PySem.W.keepIn K (.ref f_composed) = true)
    (a_law_mixed : PySem.W.nsIn K mainGlobals "_law_mixed" = some (some (.ref f_law_mixed)))
    (l_law_mixed : K.lookup f_law_mixed = some ⟨oc_law_mixed, od_law_mixed, .func (PySem.W.fnOf "_law_mixed" "_law_mixed" (defArgs s_law_mixed) (defBody s_law_mixed) (defScope s_law_mixed) .none kV_law_mixed dc_law_mixed pm_law_mixed an_law_mixed cd_law_mixed ct_law_mixed), sl_law_mixed⟩)
    (c_law_mixed : PySem.W.codeIn K cd_law_mixed "_law_mixed" = true)
    (k_law_mixed : PySem.W.keepIn K (.ref f_law_mixed) = true)
    (a_law_rest : PySem.W.nsIn K mainGlobals "_law_rest" = some (some (.ref f_law_rest)))
    (l_law_rest : K.lookup f_law_rest = some ⟨oc_law_rest, od_law_rest, .func (PySem.W.fnOf "_law_rest" "_law_rest" (defArgs s_law_rest) (defBody s_law_rest) (defScope s_law_rest) .none kV_law_rest dc_law_rest pm_law_rest an_law_rest cd_law_rest ct_law_rest), sl_law_rest⟩)
    (c_law_rest : PySem.W.codeIn K cd_law_rest "_law_rest" = true)
    (k_law_rest : PySem.W.keepIn K (.ref f_law_rest) = true)
    (a_law_pool : PySem.W.nsIn K mainGlobals "_law_pool" = some (some (.ref f_law_pool)))
    (l_law_pool : K.lookup f_law_pool = some ⟨oc_law_pool, od_law_pool, .func (PySem.W.fnOf "_law_pool" "_law_pool" (defArgs s_law_pool) (defBody s_law_pool) (defScope s_law_pool) .none kV_law_pool dc_law_pool pm_law_pool an_law_pool cd_law_pool ct_law_pool), sl_law_pool⟩)
    (c_law_pool : PySem.W.codeIn K cd_law_pool "_law_pool" = true)
    (k_law_pool : PySem.W.keepIn K (.ref f_law_pool) = true)
    (a_law_next : PySem.W.nsIn K mainGlobals "_law_next" = some (some (.ref f_law_next)))
    (l_law_next : K.lookup f_law_next = some ⟨oc_law_next, od_law_next, .func (PySem.W.fnOf "_law_next" "_law_next" (defArgs s_law_next) (defBody s_law_next) (defScope s_law_next) .none kV_law_next dc_law_next pm_law_next an_law_next cd_law_next ct_law_next), sl_law_next⟩)
    (c_law_next : PySem.W.codeIn K cd_law_next "_law_next" = true)
    (k_law_next : PySem.W.keepIn K (.ref f_law_next) = true)
    (a_law_draw : PySem.W.nsIn K mainGlobals "_law_draw" = some (some (.ref f_law_draw)))
    (l_law_draw : K.lookup f_law_draw = some ⟨oc_law_draw, od_law_draw, .func (PySem.W.fnOf "_law_draw" "_law_draw" (defArgs s_law_draw) (defBody s_law_draw) (defScope s_law_draw) .none kV_law_draw dc_law_draw pm_law_draw an_law_draw cd_law_draw ct_law_draw), sl_law_draw⟩)
    (c_law_draw : PySem.W.codeIn K cd_law_draw "_law_draw" = true)
    (k_law_draw : PySem.W.keepIn K (.ref f_law_draw) = true)
    (a_law_pick : PySem.W.nsIn K mainGlobals "_law_pick" = some (some (.ref f_law_pick)))
    (l_law_pick : K.lookup f_law_pick = some ⟨oc_law_pick, od_law_pick, .func (PySem.W.fnOf "_law_pick" "_law_pick" (defArgs s_law_pick) (defBody s_law_pick) (defScope s_law_pick) .none kV_law_pick dc_law_pick pm_law_pick an_law_pick cd_law_pick ct_law_pick), sl_law_pick⟩)
    (c_law_pick : PySem.W.codeIn K cd_law_pick "_law_pick" = true)
    (k_law_pick : PySem.W.keepIn K (.ref f_law_pick) = true)
    (a_law_same : PySem.W.nsIn K mainGlobals "_law_same" = some (some (.ref f_law_same)))
    (l_law_same : K.lookup f_law_same = some ⟨oc_law_same, od_law_same, .func (PySem.W.fnOf "_law_same" "_law_same" (defArgs s_law_same) (defBody s_law_same) (defScope s_law_same) .none kV_law_same dc_law_same pm_law_same an_law_same cd_law_same ct_law_same), sl_law_same⟩)
    (c_law_same : PySem.W.codeIn K cd_law_same "_law_same" = true)
    (k_law_same : PySem.W.keepIn K (.ref f_law_same) = true)
    (a_law_name : PySem.W.nsIn K mainGlobals "_law_name" = some (some (.ref f_law_name)))
    (l_law_name : K.lookup f_law_name = some ⟨oc_law_name, od_law_name, .func (PySem.W.fnOf "_law_name" "_law_name" (defArgs s_law_name) (defBody s_law_name) (defScope s_law_name) .none kV_law_name dc_law_name pm_law_name an_law_name cd_law_name ct_law_name), sl_law_name⟩)
    (c_law_name : PySem.W.codeIn K cd_law_name "_law_name" = true)
    (k_law_name : PySem.W.keepIn K (.ref f_law_name) = true)
    (a_law_cells : PySem.W.nsIn K mainGlobals "_law_cells" = some (some (.ref f_law_cells)))
    (l_law_cells : K.lookup f_law_cells = some ⟨oc_law_cells, od_law_cells, .func (PySem.W.fnOf "_law_cells" "_law_cells" (defArgs s_law_cells) (defBody s_law_cells) (defScope s_law_cells) .none kV_law_cells dc_law_cells pm_law_cells an_law_cells cd_law_cells ct_law_cells), sl_law_cells⟩)
    (c_law_cells : PySem.W.codeIn K cd_law_cells "_law_cells" = true)
    (k_law_cells : PySem.W.keepIn K (.ref f_law_cells) = true)
    (a_law_content : PySem.W.nsIn K mainGlobals "_law_content" = some (some (.ref f_law_content)))
    (l_law_content : K.lookup f_law_content = some ⟨oc_law_content, od_law_content, .func (PySem.W.fnOf "_law_content" "_law_content" (defArgs s_law_content) (defBody s_law_content) (defScope s_law_content) .none kV_law_content dc_law_content pm_law_content an_law_content cd_law_content ct_law_content), sl_law_content⟩)
    (c_law_content : PySem.W.codeIn K cd_law_content "_law_content" = true)
    (k_law_content : PySem.W.keepIn K (.ref f_law_content) = true)
    (a_law_universe : PySem.W.nsIn K mainGlobals "_law_universe" = some (some (.ref f_law_universe)))
    (l_law_universe : K.lookup f_law_universe = some ⟨oc_law_universe, od_law_universe, .func (PySem.W.fnOf "_law_universe" "_law_universe" (defArgs s_law_universe) (defBody s_law_universe) (defScope s_law_universe) .none kV_law_universe dc_law_universe pm_law_universe an_law_universe cd_law_universe ct_law_universe), sl_law_universe⟩)
    (c_law_universe : PySem.W.codeIn K cd_law_universe "_law_universe" = true)
    (k_law_universe : PySem.W.keepIn K (.ref f_law_universe) = true)
    (a_law_copy : PySem.W.nsIn K mainGlobals "_law_copy" = some (some (.ref f_law_copy)))
    (l_law_copy : K.lookup f_law_copy = some ⟨oc_law_copy, od_law_copy, .func (PySem.W.fnOf "_law_copy" "_law_copy" (defArgs s_law_copy) (defBody s_law_copy) (defScope s_law_copy) .none kV_law_copy dc_law_copy pm_law_copy an_law_copy cd_law_copy ct_law_copy), sl_law_copy⟩)
    (c_law_copy : PySem.W.codeIn K cd_law_copy "_law_copy" = true)
    (k_law_copy : PySem.W.keepIn K (.ref f_law_copy) = true)
    (a_law_without : PySem.W.nsIn K mainGlobals "_law_without" = some (some (.ref f_law_without)))
    (l_law_without : K.lookup f_law_without = some ⟨oc_law_without, od_law_without, .func (PySem.W.fnOf "_law_without" "_law_without" (defArgs s_law_without) (defBody s_law_without) (defScope s_law_without) .none kV_law_without dc_law_without pm_law_without an_law_without cd_law_without ct_law_without), sl_law_without⟩)
    (c_law_without : PySem.W.codeIn K cd_law_without "_law_without" = true)
    (k_law_without : PySem.W.keepIn K (.ref f_law_without) = true)
    (a_law_moved : PySem.W.nsIn K mainGlobals "_law_moved" = some (some (.ref f_law_moved)))
    (l_law_moved : K.lookup f_law_moved = some ⟨oc_law_moved, od_law_moved, .func (PySem.W.fnOf "_law_moved" "_law_moved" (defArgs s_law_moved) (defBody s_law_moved) (defScope s_law_moved) .none kV_law_moved dc_law_moved pm_law_moved an_law_moved cd_law_moved ct_law_moved), sl_law_moved⟩)
    (c_law_moved : PySem.W.codeIn K cd_law_moved "_law_moved" = true)
    (k_law_moved : PySem.W.keepIn K (.ref f_law_moved) = true)
    (a_law_applied : PySem.W.nsIn K mainGlobals "_law_applied" = some (some (.ref f_law_applied)))
    (l_law_applied : K.lookup f_law_applied = some ⟨oc_law_applied, od_law_applied, .func (PySem.W.fnOf "_law_applied" "_law_applied" (defArgs s_law_applied) (defBody s_law_applied) (defScope s_law_applied) .none kV_law_applied dc_law_applied pm_law_applied an_law_applied cd_law_applied ct_law_applied), sl_law_applied⟩)
    (c_law_applied : PySem.W.codeIn K cd_law_applied "_law_applied" = true)
    (k_law_applied : PySem.W.keepIn K (.ref f_law_applied) = true)
    (a_law_composed : PySem.W.nsIn K mainGlobals "_law_composed" = some (some (.ref f_law_composed)))
    (l_law_composed : K.lookup f_law_composed = some ⟨oc_law_composed, od_law_composed, .func (PySem.W.fnOf "_law_composed" "_law_composed" (defArgs s_law_composed) (defBody s_law_composed) (defScope s_law_composed) .none kV_law_composed dc_law_composed pm_law_composed an_law_composed cd_law_composed ct_law_composed), sl_law_composed⟩)
    (c_law_composed : PySem.W.codeIn K cd_law_composed "_law_composed" = true)
    (k_law_composed : PySem.W.keepIn K (.ref f_law_composed) = true)
    (a_law_difference : PySem.W.nsIn K mainGlobals "_law_difference" = some (some (.ref f_law_difference)))
    (l_law_difference : K.lookup f_law_difference = some ⟨oc_law_difference, od_law_difference, .func (PySem.W.fnOf "_law_difference" "_law_difference" (defArgs s_law_difference) (defBody s_law_difference) (defScope s_law_difference) .none kV_law_difference dc_law_difference pm_law_difference an_law_difference cd_law_difference ct_law_difference), sl_law_difference⟩)
    (c_law_difference : PySem.W.codeIn K cd_law_difference "_law_difference" = true)
    (k_law_difference : PySem.W.keepIn K (.ref f_law_difference) = true)
    (a_law_told : PySem.W.nsIn K mainGlobals "_law_told" = some (some (.ref f_law_told)))
    (l_law_told : K.lookup f_law_told = some ⟨oc_law_told, od_law_told, .func (PySem.W.fnOf "_law_told" "_law_told" (defArgs s_law_told) (defBody s_law_told) (defScope s_law_told) .none kV_law_told dc_law_told pm_law_told an_law_told cd_law_told ct_law_told), sl_law_told⟩)
    (c_law_told : PySem.W.codeIn K cd_law_told "_law_told" = true)
    (k_law_told : PySem.W.keepIn K (.ref f_law_told) = true)
    (a_law : PySem.W.nsIn K mainGlobals "law" = some (some (.ref f_law)))
    (l_law : K.lookup f_law = some ⟨oc_law, od_law, .func (PySem.W.fnOf "law" "law" (defArgs s_law) (defBody s_law) (defScope s_law) .none kV_law dc_law pm_law an_law cd_law ct_law), sl_law⟩)
    (c_law : PySem.W.codeIn K cd_law "law" = true)
    (k_law : PySem.W.keepIn K (.ref f_law) = true)
    (z_ValueError : PySem.W.nsIn K mainGlobals "ValueError" = some none)
    (z_bool : PySem.W.nsIn K mainGlobals "bool" = some none)
    (z_dict : PySem.W.nsIn K mainGlobals "dict" = some none)
    (z_int : PySem.W.nsIn K mainGlobals "int" = some none)
    (z_isinstance : PySem.W.nsIn K mainGlobals "isinstance" = some none)
    (z_len : PySem.W.nsIn K mainGlobals "len" = some none)
    (z_list : PySem.W.nsIn K mainGlobals "list" = some none)
    (z_min : PySem.W.nsIn K mainGlobals "min" = some none)
    (z_range : PySem.W.nsIn K mainGlobals "range" = some none)
    (z_sorted : PySem.W.nsIn K mainGlobals "sorted" = some none)
    (z_str : PySem.W.nsIn K mainGlobals "str" = some none)
    (z_tuple : PySem.W.nsIn K mainGlobals "tuple" = some none)
    (a_StoreError : PySem.W.nsIn K mainGlobals "StoreError" = some (some (.ref C_StoreError)))
    (a_Mismatch : PySem.W.nsIn K mainGlobals "Mismatch" = some (some (.ref C_Mismatch)))
    (a_NoMoment : PySem.W.nsIn K mainGlobals "NoMoment" = some (some (.ref C_NoMoment)))
    (z_super : PySem.W.nsIn K mainGlobals "super" = some none)
    (xp : (l.prog.main.scope.names.lookup ("super" : Str)).isSome = false)
    (xo : PySem.W.nsIn K cStatics "thirdparty.any" = some none)
    (y6 : PySem.W.specialIn K (.builtin "object.__class__") "__get__" = some (some (.builtin "getset_descriptor.__get__")))
    (y7 : PySem.W.takesIn K (.builtin "object.__class__") = some true)
    (xl_Mismatch : K.lookup C_Mismatch = some (PySem.excClassObj nm_Mismatch q_Mismatch C_Mismatch N_Mismatch bs_Mismatch bm_Mismatch true sn_Mismatch sub_Mismatch ab_Mismatch col_Mismatch dd_Mismatch m0_Mismatch m1_Mismatch m2_Mismatch m3_Mismatch m5_Mismatch "ValueError.__new__"))
    (xr_Mismatch : PySem.HandSPX.refsVE bm_Mismatch = true)
    (xs_Mismatch : PySem.W.findIn K (.ref C_Mismatch) "__setattr__" = some (some (.builtin "object.__setattr__")))
    (xn_Mismatch : PySem.W.findIn K (.ref C_Mismatch) "slot" = some none)
    (xi_Mismatch : PySem.W.findIn K (.ref C_Mismatch) "__init__" = some (some (.ref I_Mismatch)))
    (xt_Mismatch : PySem.W.typeIn K (.ref I_Mismatch) = some (.type "function"))
    (xk_Mismatch : PySem.W.keepIn K (.ref C_Mismatch) = true)
    (xe_Mismatch : PySem.W.subIn K (.ref C_Mismatch) (.type "BaseException") = some true)
    (xv_Mismatch : PySem.W.subIn K (.ref C_Mismatch) (.type "ValueError") = some true)
    (xy_Mismatch : PySem.W.typeIn K (.ref C_Mismatch) = some (.type "type"))
    (xm_Mismatch : PySem.W.mroIn K C_Mismatch (.ref C_Mismatch) = some true)
    (xu_Mismatch : PySem.W.ks_superIn K C_Mismatch C_Mismatch "__init__" = some (some (.builtin "ValueError.__init__")))
    (xf_Mismatch : K.lookup I_Mismatch = some ⟨oc_Mismatch, od_Mismatch, .func (PySem.W.ksFn "__init__" "Mismatch.__init__" PySem.ZEX.Mismatch_mA PySem.ZEX.Mismatch_mB PySem.ZEX.Mismatch_mS .none .none dc_Mismatch pm_Mismatch an_Mismatch (.ref cda_Mismatch) ct_Mismatch cc_Mismatch), osl_Mismatch⟩)
    (xc_Mismatch : PySem.W.codeIn K (.ref cda_Mismatch) "Mismatch.__init__" = true)
    (xd_Mismatch : K.lookup cc_Mismatch = some ⟨cl_Mismatch, cld_Mismatch, .cell (some (.ref C_Mismatch)), csl_Mismatch⟩)
    (xg_Mismatch : K.lookup cda_Mismatch = some ⟨ccl_Mismatch, cdd_Mismatch, .fields vs_Mismatch, ccs_Mismatch⟩)
    (xh_Mismatch : vs_Mismatch[2]? = some (.str file_Mismatch tf_Mismatch))
    (xj_Mismatch : ((l.prog.main.file : Str) == file_Mismatch) = true)
    (xq_Mismatch : PySem.W.hasDictIn K C_Mismatch = true)
    (y1_Mismatch : PySem.W.findIn K (.ref C_Mismatch) "__getattribute__" = some (some (.builtin "BaseException.__getattribute__")))
    (y2_Mismatch : PySem.W.findIn K (.ref C_Mismatch) "__getattr__" = some none)
    (y5_Mismatch : PySem.W.findIn K (.ref C_Mismatch) "__class__" = some (some (.builtin "object.__class__")))
    (y8_Mismatch : PySem.W.mroIn K C_Mismatch (.type "object") = some true)
    (y9_Mismatch : PySem.W.subIn K (.ref C_Mismatch) (.ref C_Mismatch) = some true)
    (w0 : PySem.W.kitOne K (.ref C_Mismatch) (.ref C_StoreError) = some true)
    (w1 : PySem.W.kitOne K (.ref C_Mismatch) (.type "ValueError") = some true)
    (w2 : PySem.W.kitOne K (.ref C_Mismatch) (.ref C_NoMoment) = some false)
    : ∃ fd : FuncData, (∀ (s : Shared) (v : Value), BindsTo s fd ⟨[v], []⟩ [("script", v)]) ∧ ∀ base : Heap, K.In base → base.Ns mainGlobals mg → FnOk l.prog w K mg base CX0 9 fa fd ["script"] (sp_law K) := by
  have e := hfa.symm.trans (PySem.W.mg_of X G a_law)
  cases e
  have F_slots_of_both := fun_mk (st := s_slots_of_both) l_slots_of_both c_slots_of_both k_slots_of_both
  have b_slots_of_both := F_slots_of_both.binds (ps := ["one", "other"]) fun _ _ _ _ _ _ us hl => match us, hl with | [_, _], _ => rfl
  have F_applied := fun_mk (st := s_applied) l_applied c_applied k_applied
  have b_applied := F_applied.binds (ps := ["slots", "difference"]) fun _ _ _ _ _ _ us hl => match us, hl with | [_, _], _ => rfl
  have F_composed := fun_mk (st := s_composed) l_composed c_composed k_composed
  have b_composed := F_composed.binds (ps := ["one", "other"]) fun _ _ _ _ _ _ us hl => match us, hl with | [_, _], _ => rfl
  have F_law_mixed := fun_mk (st := s_law_mixed) l_law_mixed c_law_mixed k_law_mixed
  have b_law_mixed := F_law_mixed.binds (ps := ["number", "place"]) fun _ _ _ _ _ _ us hl => match us, hl with | [_, _], _ => rfl
  have F_law_rest := fun_mk (st := s_law_rest) l_law_rest c_law_rest k_law_rest
  have b_law_rest := F_law_rest.binds (ps := ["script", "place", "fills"]) fun _ _ _ _ _ _ us hl => match us, hl with | [_, _, _], _ => rfl
  have F_law_pool := fun_mk (st := s_law_pool) l_law_pool c_law_pool k_law_pool
  have b_law_pool := F_law_pool.binds (ps := ["script"]) fun _ _ _ _ _ _ us hl => match us, hl with | [_], _ => rfl
  have F_law_next := fun_mk (st := s_law_next) l_law_next c_law_next k_law_next
  have b_law_next := F_law_next.binds (ps := ["pool"]) fun _ _ _ _ _ _ us hl => match us, hl with | [_], _ => rfl
  have F_law_draw := fun_mk (st := s_law_draw) l_law_draw c_law_draw k_law_draw
  have b_law_draw := F_law_draw.binds (ps := ["pool", "limit"]) fun _ _ _ _ _ _ us hl => match us, hl with | [_, _], _ => rfl
  have F_law_pick := fun_mk (st := s_law_pick) l_law_pick c_law_pick k_law_pick
  have b_law_pick := F_law_pick.binds (ps := ["pool", "options"]) fun _ _ _ _ _ _ us hl => match us, hl with | [_, _], _ => rfl
  have F_law_same := fun_mk (st := s_law_same) l_law_same c_law_same k_law_same
  have b_law_same := F_law_same.binds (ps := ["one", "other"]) fun _ _ _ _ _ _ us hl => match us, hl with | [_, _], _ => rfl
  have F_law_name := fun_mk (st := s_law_name) l_law_name c_law_name k_law_name
  have b_law_name := F_law_name.binds (ps := ["pool"]) fun _ _ _ _ _ _ us hl => match us, hl with | [_], _ => rfl
  have F_law_cells := fun_mk (st := s_law_cells) l_law_cells c_law_cells k_law_cells
  have b_law_cells := F_law_cells.binds (ps := ["pool"]) fun _ _ _ _ _ _ us hl => match us, hl with | [_], _ => rfl
  have F_law_content := fun_mk (st := s_law_content) l_law_content c_law_content k_law_content
  have b_law_content := F_law_content.binds (ps := ["pool", "slot"]) fun _ _ _ _ _ _ us hl => match us, hl with | [_, _], _ => rfl
  have F_law_universe := fun_mk (st := s_law_universe) l_law_universe c_law_universe k_law_universe
  have b_law_universe := F_law_universe.binds (ps := ["pool", "many"]) fun _ _ _ _ _ _ us hl => match us, hl with | [_, _], _ => rfl
  have F_law_copy := fun_mk (st := s_law_copy) l_law_copy c_law_copy k_law_copy
  have b_law_copy := F_law_copy.binds (ps := ["row"]) fun _ _ _ _ _ _ us hl => match us, hl with | [_], _ => rfl
  have F_law_without := fun_mk (st := s_law_without) l_law_without c_law_without k_law_without
  have b_law_without := F_law_without.binds (ps := ["row", "gone"]) fun _ _ _ _ _ _ us hl => match us, hl with | [_, _], _ => rfl
  have F_law_moved := fun_mk (st := s_law_moved) l_law_moved c_law_moved k_law_moved
  have b_law_moved := F_law_moved.binds (ps := ["pool", "slots", "state", "most"]) fun _ _ _ _ _ _ us hl => match us, hl with | [_, _, _, _], _ => rfl
  have F_law_applied := fun_mk (st := s_law_applied) l_law_applied c_law_applied k_law_applied
  have b_law_applied := F_law_applied.binds (ps := ["slots", "difference"]) fun _ _ _ _ _ _ us hl => match us, hl with | [_, _], _ => rfl
  have F_law_composed := fun_mk (st := s_law_composed) l_law_composed c_law_composed k_law_composed
  have b_law_composed := F_law_composed.binds (ps := ["one", "other"]) fun _ _ _ _ _ _ us hl => match us, hl with | [_, _], _ => rfl
  have F_law_difference := fun_mk (st := s_law_difference) l_law_difference c_law_difference k_law_difference
  have b_law_difference := F_law_difference.binds (ps := ["pool", "slots", "state", "before"]) fun _ _ _ _ _ _ us hl => match us, hl with | [_, _, _, _], _ => rfl
  have F_law_told := fun_mk (st := s_law_told) l_law_told c_law_told k_law_told
  have b_law_told := F_law_told.binds (ps := ["one", "other", "name"]) fun _ _ _ _ _ _ us hl => match us, hl with | [_, _, _], _ => rfl
  have F_law := fun_mk (st := s_law) l_law c_law k_law
  have b_law := F_law.binds (ps := ["script"]) fun _ _ _ _ _ _ us hl => match us, hl with | [_], _ => rfl
  let T : Txt K mg := {
    f_slots_of_both := f_slots_of_both, d_slots_of_both := _, F_slots_of_both := F_slots_of_both, g_slots_of_both := PySem.W.mg_of X G a_slots_of_both, k_slots_of_both := b_slots_of_both,
    f_applied := f_applied, d_applied := _, F_applied := F_applied, g_applied := PySem.W.mg_of X G a_applied, k_applied := b_applied,
    f_composed := f_composed, d_composed := _, F_composed := F_composed, g_composed := PySem.W.mg_of X G a_composed, k_composed := b_composed,
    f__law_mixed := f_law_mixed, d__law_mixed := _, F__law_mixed := F_law_mixed, g__law_mixed := PySem.W.mg_of X G a_law_mixed, k__law_mixed := b_law_mixed,
    f__law_rest := f_law_rest, d__law_rest := _, F__law_rest := F_law_rest, g__law_rest := PySem.W.mg_of X G a_law_rest, k__law_rest := b_law_rest,
    f__law_pool := f_law_pool, d__law_pool := _, F__law_pool := F_law_pool, g__law_pool := PySem.W.mg_of X G a_law_pool, k__law_pool := b_law_pool,
    f__law_next := f_law_next, d__law_next := _, F__law_next := F_law_next, g__law_next := PySem.W.mg_of X G a_law_next, k__law_next := b_law_next,
    f__law_draw := f_law_draw, d__law_draw := _, F__law_draw := F_law_draw, g__law_draw := PySem.W.mg_of X G a_law_draw, k__law_draw := b_law_draw,
    f__law_pick := f_law_pick, d__law_pick := _, F__law_pick := F_law_pick, g__law_pick := PySem.W.mg_of X G a_law_pick, k__law_pick := b_law_pick,
    f__law_same := f_law_same, d__law_same := _, F__law_same := F_law_same, g__law_same := PySem.W.mg_of X G a_law_same, k__law_same := b_law_same,
    f__law_name := f_law_name, d__law_name := _, F__law_name := F_law_name, g__law_name := PySem.W.mg_of X G a_law_name, k__law_name := b_law_name,
    f__law_cells := f_law_cells, d__law_cells := _, F__law_cells := F_law_cells, g__law_cells := PySem.W.mg_of X G a_law_cells, k__law_cells := b_law_cells,
    f__law_content := f_law_content, d__law_content := _, F__law_content := F_law_content, g__law_content := PySem.W.mg_of X G a_law_content, k__law_content := b_law_content,
    f__law_universe := f_law_universe, d__law_universe := _, F__law_universe := F_law_universe, g__law_universe := PySem.W.mg_of X G a_law_universe, k__law_universe := b_law_universe,
    f__law_copy := f_law_copy, d__law_copy := _, F__law_copy := F_law_copy, g__law_copy := PySem.W.mg_of X G a_law_copy, k__law_copy := b_law_copy,
    f__law_without := f_law_without, d__law_without := _, F__law_without := F_law_without, g__law_without := PySem.W.mg_of X G a_law_without, k__law_without := b_law_without,
    f__law_moved := f_law_moved, d__law_moved := _, F__law_moved := F_law_moved, g__law_moved := PySem.W.mg_of X G a_law_moved, k__law_moved := b_law_moved,
    f__law_applied := f_law_applied, d__law_applied := _, F__law_applied := F_law_applied, g__law_applied := PySem.W.mg_of X G a_law_applied, k__law_applied := b_law_applied,
    f__law_composed := f_law_composed, d__law_composed := _, F__law_composed := F_law_composed, g__law_composed := PySem.W.mg_of X G a_law_composed, k__law_composed := b_law_composed,
    f__law_difference := f_law_difference, d__law_difference := _, F__law_difference := F_law_difference, g__law_difference := PySem.W.mg_of X G a_law_difference, k__law_difference := b_law_difference,
    f__law_told := f_law_told, d__law_told := _, F__law_told := F_law_told, g__law_told := PySem.W.mg_of X G a_law_told, k__law_told := b_law_told,
    f_law := _, d_law := _, F_law := F_law, g_law := PySem.W.mg_of X G a_law, k_law := b_law,
    b_ValueError := PySem.W.mg_none_of X G z_ValueError,
    b_bool := PySem.W.mg_none_of X G z_bool,
    b_dict := PySem.W.mg_none_of X G z_dict,
    b_int := PySem.W.mg_none_of X G z_int,
    b_isinstance := PySem.W.mg_none_of X G z_isinstance,
    b_len := PySem.W.mg_none_of X G z_len,
    b_list := PySem.W.mg_none_of X G z_list,
    b_min := PySem.W.mg_none_of X G z_min,
    b_range := PySem.W.mg_none_of X G z_range,
    b_sorted := PySem.W.mg_none_of X G z_sorted,
    b_str := PySem.W.mg_none_of X G z_str,
    b_tuple := PySem.W.mg_none_of X G z_tuple }
  let TE : Errs l.prog K mg := {
    C_StoreError := C_StoreError, g_StoreError := PySem.W.mg_of X G a_StoreError,
    C_Mismatch := C_Mismatch, g_Mismatch := PySem.W.mg_of X G a_Mismatch,
    C_NoMoment := C_NoMoment, g_NoMoment := PySem.W.mg_of X G a_NoMoment,
    I_Mismatch := I_Mismatch, E_Mismatch := { gC := PySem.W.mg_of X G a_Mismatch, cls := ⟨_, _, _, _, _, _, _, _, _, _, _, _, _, _, _, xl_Mismatch, xr_Mismatch⟩, sa := xs_Mismatch, noN := xn_Mismatch, iC := xi_Mismatch, tC := xt_Mismatch, kC := xk_Mismatch, exC := xe_Mismatch, veC := xv_Mismatch, tyC := xy_Mismatch, mro := xm_Mismatch, sup := xu_Mismatch, op := xo, noS := PySem.W.mg_none_of X G z_super, top := xp, fn := ⟨_, _, _, _, _, _, _, _, _, _, _, _, _, _, _, _, _, _, xf_Mismatch, xc_Mismatch, xd_Mismatch, xg_Mismatch, xh_Mismatch, xj_Mismatch⟩ },
    x_Mismatch := ⟨y1_Mismatch, y2_Mismatch, xe_Mismatch, xq_Mismatch⟩, i_Mismatch := ⟨y1_Mismatch, y2_Mismatch, xe_Mismatch, xq_Mismatch, y5_Mismatch, y6, y7, y8_Mismatch⟩, t_Mismatch := PySem.W.exm_ref xe_Mismatch xq_Mismatch xy_Mismatch y9_Mismatch,
    k_store := w0,
    k_value := w1,
    k_nomo := w2 }
  exact ⟨_, fun s v => .of_eq rfl, fun base _ _ => ok_law T TE⟩
end Law
open PySem PySem.W PyProof.Rows
set_option maxRecDepth 100000 in
set_option maxHeartbeats 0 in
theorem PySem.Challenge.cw_storelife_k26_differences_that_do_not_fi_holds : PySem.Challenge.rw_storelife_k26_differences_that_do_not_fi.Holds := by
  w_on; o_law; k_head; (case hw => w_witness2)
  k_fill
  refine L2.walk_of (l := PySem.Challenge.rw_storelife_k26_differences_that_do_not_fi) (n := 63) (k := 9) (x := "script") (CX := fun _ => L2.CX0) (sp := fun w => Law.sp_law _) rfl (by decide) rfl ⟨rfl, by decide, by decide⟩ (fun w h Y => PySem.W.kIn_of Y) ?F (fun _ H a ns hl hO hS => Law.start_law hO hl hS) (fun _ _ _ _ _ h => h)
  case F =>
    intro w mg fa h KX G hmg
    refine' Law.all_mk KX G hmg ?a_slots_of_both ?l_slots_of_both ?c_slots_of_both ?k_slots_of_both ?a_applied ?l_applied ?c_applied ?k_applied ?a_composed ?l_composed ?c_composed ?k_composed ?a_law_mixed ?l_law_mixed ?c_law_mixed ?k_law_mixed ?a_law_rest ?l_law_rest ?c_law_rest ?k_law_rest ?a_law_pool ?l_law_pool ?c_law_pool ?k_law_pool ?a_law_next ?l_law_next ?c_law_next ?k_law_next ?a_law_draw ?l_law_draw ?c_law_draw ?k_law_draw ?a_law_pick ?l_law_pick ?c_law_pick ?k_law_pick ?a_law_same ?l_law_same ?c_law_same ?k_law_same ?a_law_name ?l_law_name ?c_law_name ?k_law_name ?a_law_cells ?l_law_cells ?c_law_cells ?k_law_cells ?a_law_content ?l_law_content ?c_law_content ?k_law_content ?a_law_universe ?l_law_universe ?c_law_universe ?k_law_universe ?a_law_copy ?l_law_copy ?c_law_copy ?k_law_copy ?a_law_without ?l_law_without ?c_law_without ?k_law_without ?a_law_moved ?l_law_moved ?c_law_moved ?k_law_moved ?a_law_applied ?l_law_applied ?c_law_applied ?k_law_applied ?a_law_composed ?l_law_composed ?c_law_composed ?k_law_composed ?a_law_difference ?l_law_difference ?c_law_difference ?k_law_difference ?a_law_told ?l_law_told ?c_law_told ?k_law_told ?a_law ?l_law ?c_law ?k_law ?z_ValueError ?z_bool ?z_dict ?z_int ?z_isinstance ?z_len ?z_list ?z_min ?z_range ?z_sorted ?z_str ?z_tuple ?a_StoreError ?a_Mismatch ?a_NoMoment ?z_super ?xp ?xo ?y6 ?y7 ?xl_Mismatch ?xr_Mismatch ?xs_Mismatch ?xn_Mismatch ?xi_Mismatch ?xt_Mismatch ?xk_Mismatch ?xe_Mismatch ?xv_Mismatch ?xy_Mismatch ?xm_Mismatch ?xu_Mismatch ?xf_Mismatch ?xc_Mismatch ?xd_Mismatch ?xg_Mismatch ?xh_Mismatch ?xj_Mismatch ?xq_Mismatch ?y1_Mismatch ?y2_Mismatch ?y5_Mismatch ?y8_Mismatch ?y9_Mismatch ?w0 ?w1 ?w2
    (case a_slots_of_both => k_is)
    (case l_slots_of_both => k_is)
    (case c_slots_of_both => k_is)
    (case k_slots_of_both => k_is)
    (case a_applied => k_is)
    (case l_applied => k_is)
    (case c_applied => k_is)
    (case k_applied => k_is)
    (case a_composed => k_is)
    (case l_composed => k_is)
    (case c_composed => k_is)
    (case k_composed => k_is)
    (case a_law_mixed => k_is)
    (case l_law_mixed => k_is)
    (case c_law_mixed => k_is)
    (case k_law_mixed => k_is)
    (case a_law_rest => k_is)
    (case l_law_rest => k_is)
    (case c_law_rest => k_is)
    (case k_law_rest => k_is)
    (case a_law_pool => k_is)
    (case l_law_pool => k_is)
    (case c_law_pool => k_is)
    (case k_law_pool => k_is)
    (case a_law_next => k_is)
    (case l_law_next => k_is)
    (case c_law_next => k_is)
    (case k_law_next => k_is)
    (case a_law_draw => k_is)
    (case l_law_draw => k_is)
    (case c_law_draw => k_is)
    (case k_law_draw => k_is)
    (case a_law_pick => k_is)
    (case l_law_pick => k_is)
    (case c_law_pick => k_is)
    (case k_law_pick => k_is)
    (case a_law_same => k_is)
    (case l_law_same => k_is)
    (case c_law_same => k_is)
    (case k_law_same => k_is)
    (case a_law_name => k_is)
    (case l_law_name => k_is)
    (case c_law_name => k_is)
    (case k_law_name => k_is)
    (case a_law_cells => k_is)
    (case l_law_cells => k_is)
    (case c_law_cells => k_is)
    (case k_law_cells => k_is)
    (case a_law_content => k_is)
    (case l_law_content => k_is)
    (case c_law_content => k_is)
    (case k_law_content => k_is)
    (case a_law_universe => k_is)
    (case l_law_universe => k_is)
    (case c_law_universe => k_is)
    (case k_law_universe => k_is)
    (case a_law_copy => k_is)
    (case l_law_copy => k_is)
    (case c_law_copy => k_is)
    (case k_law_copy => k_is)
    (case a_law_without => k_is)
    (case l_law_without => k_is)
    (case c_law_without => k_is)
    (case k_law_without => k_is)
    (case a_law_moved => k_is)
    (case l_law_moved => k_is)
    (case c_law_moved => k_is)
    (case k_law_moved => k_is)
    (case a_law_applied => k_is)
    (case l_law_applied => k_is)
    (case c_law_applied => k_is)
    (case k_law_applied => k_is)
    (case a_law_composed => k_is)
    (case l_law_composed => k_is)
    (case c_law_composed => k_is)
    (case k_law_composed => k_is)
    (case a_law_difference => k_is)
    (case l_law_difference => k_is)
    (case c_law_difference => k_is)
    (case k_law_difference => k_is)
    (case a_law_told => k_is)
    (case l_law_told => k_is)
    (case c_law_told => k_is)
    (case k_law_told => k_is)
    (case a_law => k_is)
    (case l_law => k_is)
    (case c_law => k_is)
    (case k_law => k_is)
    (case z_ValueError => k_is)
    (case z_bool => k_is)
    (case z_dict => k_is)
    (case z_int => k_is)
    (case z_isinstance => k_is)
    (case z_len => k_is)
    (case z_list => k_is)
    (case z_min => k_is)
    (case z_range => k_is)
    (case z_sorted => k_is)
    (case z_str => k_is)
    (case z_tuple => k_is)
    (case a_StoreError => k_is)
    (case a_Mismatch => k_is)
    (case a_NoMoment => k_is)
    (case z_super => k_is)
    (case xp => first | rfl | decide +kernel)
    (case xo => k_is)
    (case y6 => k_is)
    (case y7 => k_is)
    (case xl_Mismatch => k_is)
    (case xr_Mismatch => decide +kernel)
    (case xs_Mismatch => k_is)
    (case xn_Mismatch => k_is)
    (case xi_Mismatch => k_is)
    (case xt_Mismatch => k_is)
    (case xk_Mismatch => k_is)
    (case xe_Mismatch => k_is)
    (case xv_Mismatch => k_is)
    (case xy_Mismatch => k_is)
    (case xm_Mismatch => k_is)
    (case xu_Mismatch => ks_is)
    (case xf_Mismatch => k_is)
    (case xc_Mismatch => k_is)
    (case xd_Mismatch => k_is)
    (case xg_Mismatch => k_is)
    (case xh_Mismatch => rfl)
    (case xj_Mismatch => first | rfl | decide +kernel)
    (case xq_Mismatch => k_is)
    (case y1_Mismatch => k_is)
    (case y2_Mismatch => k_is)
    (case y5_Mismatch => k_is)
    (case y8_Mismatch => k_is)
    (case y9_Mismatch => first | rfl | k_is)
    (case w0 => kit_is)
    (case w1 => kit_is)
    (case w2 => kit_is)
