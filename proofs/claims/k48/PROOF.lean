import PyProof.Rows.All
import Wide.All
import OpenK.AllK
import Wide.FinOn
import HandS.ForMost
import HandS.More
import HandS.TupAny
import HandS.Wide
import HandS.IsInst
import HandS.Style
import KE.KxIndex
import HandS.SortRule
import HandS.Conv
import HandS.Finally
import HandS.Deep
import HandS.DictComp
import KE.KDictCopyH
import HandS.TupLen
import KE.DataMinMax
import KE.SortData
import HandS.Text
import HandS.Steps
import HandS.ForExc
import HandS.TryMany
import KE.DataCmp
import PyProof.DictTable
import KE.KExcSuper
import HandS.ExcField
import HandS.ExcIs
import KE.KExcIs
import PySem.Challenge.RW_storelife_k48_whole_image_while_the_line
set_option Elab.async false
set_option linter.all false
set_option maxRecDepth 100000
namespace Zk
open PySem PySem.Spec L2
open PyProof.Rows hiding St

/-! ### heaps that grow -/
def Imm : HO → Prop
  | .tup _ => True
  | .frz _ _ => True
  | _ => False
/-- everything but the objects at M stands as it stood -/
structure Ext (M : List Addr) (H H' : Hp) : Prop where
  keep : ∀ a o, H a = some o → a ∉ M → H' a = some o
  imm : ∀ a o, H a = some o → Imm o → H' a = some o
  live : ∀ a o, H a = some o → ∃ o', H' a = some o'
theorem Ext.refl {M : List Addr} {H : Hp} : Ext M H H := ⟨fun _ _ h _ => h, fun _ _ h _ => h, fun _ o h => ⟨o, h⟩⟩
theorem Ext.trans {M : List Addr} {H H1 H2 : Hp} (a : Ext M H H1) (b : Ext M H1 H2) : Ext M H H2 :=
  ⟨fun x o h n => b.keep x o (a.keep x o h n) n, fun x o h i => b.imm x o (a.imm x o h i) i, fun x o h => (a.live x o h).elim fun o' h' => b.live x o' h'⟩
theorem Ext.mono {M N : List Addr} {H H' : Hp} (a : Ext M H H') (s : ∀ x ∈ M, x ∈ N) : Ext N H H' :=
  ⟨fun x o h n => a.keep x o h fun z => n (s x z), a.imm, a.live⟩
theorem Ext.up {M : List Addr} {H H' : Hp} (a : Ext [] H H') : Ext M H H' := a.mono fun _ z => nomatch z
theorem Ext.free {M : List Addr} {H H' : Hp} (e : Ext M H H') {l : Addr} (h : H' l = none) : H l = none := by
  cases q : H l with
  | none => rfl
  | some o =>
    obtain ⟨o', q'⟩ := e.live l o q
    rw [h] at q'
    cases q'
/-- what changes at an address that was free at the start is no change -/
theorem Ext.drop {M : List Addr} {H H1 H2 : Hp} {p : Addr} (a : Ext M H H1) (b : Ext (p :: M) H1 H2) (np : H p = none) : Ext M H H2 :=
  ⟨fun x o h n => b.keep x o (a.keep x o h n) fun z => by
      rcases List.mem_cons.mp z with z | z
      · subst z; rw [np] at h; cases h
      · exact n z, fun x o h i => b.imm x o (a.imm x o h i) i, fun x o h => (a.live x o h).elim fun o' h' => b.live x o' h'⟩
theorem Ext.new {H : Hp} {p : Addr} {o : HO} (h : H p = none) : Ext [] H (upd H p o) :=
  ⟨fun a u e _ => by rw [upd_ne (ne_of_none e h)]; exact e, fun a u e _ => by rw [upd_ne (ne_of_none e h)]; exact e, fun a u e => ⟨u, by rw [upd_ne (ne_of_none e h)]; exact e⟩⟩
theorem Ext.mut {M : List Addr} {H : Hp} {p : Addr} {o u : HO} (h : H p = some u) (hm : ¬ Imm u) (hp : p ∈ M) : Ext M H (upd H p o) := by
  refine ⟨fun a x e n => ?_, fun a x e i => ?_, fun a x e => ?_⟩
  · have : a ≠ p := fun z => n (z ▸ hp)
    rw [upd_ne this]; exact e
  · have : a ≠ p := fun z => by subst z; rw [h] at e; cases e; exact hm i
    rw [upd_ne this]; exact e
  · by_cases z : a = p
    · subst z; exact ⟨o, upd_same⟩
    · exact ⟨x, by rw [upd_ne z]; exact e⟩
theorem Ext.tup {M : List Addr} {H H' : Hp} (e : Ext M H H') {a : Addr} {xs : List V} (h : H a = some (.tup xs)) : H' a = some (.tup xs) := e.imm a _ h trivial
theorem Ext.at {M : List Addr} {H H' : Hp} (e : Ext M H H') {a : Addr} {o : HO} (h : H a = some o) (n : a ∉ M) : H' a = some o := e.keep a o h n
/-- the dict at d is locked while it is walked -/
theorem Ext.lock {M : List Addr} {H H' : Hp} {d : Addr} {u : HO} {od : Obj} (h : H d = some u) (hm : ¬ Imm u) (e : Ext M (upd H d (.frz od u)) H') : Ext M H (upd H' d u) := by
  refine ⟨fun a x q n => ?_, fun a x q i => ?_, fun a x q => ?_⟩
  · by_cases z : a = d
    · subst z; rw [upd_same]; rw [h] at q; exact q
    · rw [upd_ne z]; exact e.keep a x (by rw [upd_ne z]; exact q) n
  · by_cases z : a = d
    · subst z; rw [upd_same]; rw [h] at q; exact q
    · rw [upd_ne z]; exact e.imm a x (by rw [upd_ne z]; exact q) i
  · by_cases z : a = d
    · subst z; exact ⟨u, upd_same⟩
    · obtain ⟨o', q'⟩ := e.live a x (by rw [upd_ne z]; exact q)
      exact ⟨o', by rw [upd_ne z]; exact q'⟩

/-! ### an object is laid, an object is changed, with the heap behind it a letter -/
def Alc (o : HO) (H : Hp) (Q : VK) : Prop := ∀ p, H p = none → Q (.ref p) (upd H p o)
theorem w_alc {o : HO} {H : Hp} {Q : VK} (h : ∀ p H', Ext [] H H' → H p = none → H' p = some o → Q (.ref p) H') : Alc o H Q := fun p np => h p _ (Ext.new np) np upd_same
def Chg (p : Addr) (o : HO) (H : Hp) (Q : Hp → Prop) : Prop := Q (upd H p o)
theorem w_chg {p : Addr} {o u : HO} {H : Hp} {Q : Hp → Prop} (hp : H p = some u) (hm : ¬ Imm u) (h : ∀ H', Ext [p] H H' → H' p = some o → Q H') : Chg p o H Q :=
  h _ (Ext.mut hp hm (List.mem_singleton.mpr rfl)) upd_same

/-! ### lists and tuples to be read -/
theorem sql {K : PySem.W.Frag} {H : Hp} {a : Addr} {xs : List V} (h : H a = some (.lst xs)) : SqL K H a xs := .inl (.inl h)
theorem sqt {K : PySem.W.Frag} {H : Hp} {a : Addr} {xs : List V} (h : H a = some (.tup xs)) : SqT K H a xs := .inl (.inl h)
/-- the script: locked, or of the written part -/
def Scr (K : PySem.W.Frag) (H : Hp) (a : Addr) (xs : List V) : Prop := (∃ o, H a = some (.frz o (.lst xs))) ∨ (∀ H', SqL K H' a xs)
theorem Scr.ext {K : PySem.W.Frag} {M : List Addr} {H H' : Hp} {a : Addr} {xs : List V} (e : Ext M H H') (h : Scr K H a xs) : Scr K H' a xs := by
  rcases h with ⟨o, h⟩ | h
  · exact .inl ⟨o, e.imm _ _ h trivial⟩
  · exact .inr h
theorem Scr.sql {K : PySem.W.Frag} {H : Hp} {a : Addr} {xs : List V} (h : Scr K H a xs) : SqL K H a xs := by
  rcases h with ⟨o, h⟩ | h
  · exact .inl (.inr ⟨o, h⟩)
  · exact h H
theorem Scr.of {K : PySem.W.Frag} {H : Hp} {a : Addr} {xs : List V} (hO : Only H) (h : SqL K H a xs) : Scr K H a xs := by
  rcases h with (h | ⟨o, h⟩) | h
  · rcases hO a with z | ⟨o, ys, z⟩
    · rw [h] at z; cases z
    · rw [h] at z; cases z
  · exact .inl ⟨o, h⟩
  · exact .inr fun H' => .inr h
theorem sz {n : Nat} (h : n ≤ 1000000) : n ≤ sizeLine := Nat.le_trans h (by decide)
theorem szl {n : Nat} (h : n < 1000000) : n < sizeLine := Nat.lt_of_lt_of_le h (by decide)

/-! ### readings, by name -/
def zTup (t : TA) : TE := fun σ H Q => t σ H fun xs H1 => xs.length ≤ sizeLine ∧ Alc (.tup xs) H1 Q
def zLst (t : TA) : TE := fun σ H Q => t σ H fun xs H1 => xs.length ≤ sizeLine ∧ Alc (.lst xs) H1 Q
def zDNewK : TE := fun _ H Q => Alc (.dK []) H Q
def zDNewT : TE := fun _ H Q => Alc (.dT []) H Q
def rLtS : R2 := fun x y H Q => ∃ i j, x = .str i ∧ y = .str j ∧ Q (.bl (decide (i.cps.toList < j.cps.toList))) H
def rAddSt : R2 := fun x y H Q => ∃ i j, x = .str i ∧ y = .str j ∧ i.length + j.length ≤ sizeLine ∧ Q (.str (i ++ j)) H
def rMulSt : R2 := fun x y H Q => ∃ i j, x = .str i ∧ y = .int j ∧ i.length ≤ 16 ∧ (-(2 ^ 63 : Int) ≤ j ∧ j ≤ 1048576) ∧ Q (.str (Txt.mul i j)) H
def rIsNn : R2 := fun x y H Q => y = .non ∧ Q (.bl (decide (x = .non))) H
def rIsNt : R2 := fun x y H Q => y = .non ∧ Q (.bl (!decide (x = .non))) H
def rIsBv : R2 := fun x y H Q => ∃ b, y = .bl b ∧ Q (.bl (decide (x = .bl b))) H
def rIsNtBv : R2 := fun x y H Q => ∃ b, y = .bl b ∧ Q (.bl (!decide (x = .bl b))) H
def zCat : R2 := fun x y H Q => ∃ l b xs zs, x = .ref l ∧ y = .ref b ∧ H l = some (.lst xs) ∧ H b = some (.lst zs) ∧ xs.length + zs.length ≤ sizeLine ∧ Alc (.lst (xs ++ zs)) H Q
def zCatA (K : PySem.W.Frag) : R2 := fun x y H Q => ∃ a b xs ys, x = .ref a ∧ y = .ref b ∧ SqT K H a xs ∧ SqT K H b ys ∧ xs.length + ys.length ≤ sizeLine ∧
  (xs = [] → Q (.ref b) H) ∧ (xs ≠ [] → ys = [] → Q (.ref a) H) ∧ (xs ≠ [] → ys ≠ [] → Alc (.tup (xs ++ ys)) H Q)
def zSetL : V → V → V → Hp → (Hp → Prop) → Prop := fun o i v H Q => ∃ p xs k j, o = .ref p ∧ i = .int k ∧ H p = some (.lst xs) ∧ ixN xs.length k = some j ∧ Chg p (.lst (xs.set j v)) H Q
def zAppend : V → List V → Hp → VK → Prop := fun x vs H Q => ∃ l xs y, x = .ref l ∧ vs = [y] ∧ H l = some (.lst xs) ∧ xs.length < sizeLine ∧ Chg l (.lst (xs ++ [y])) H (Q .non)
def rJoin (K : PySem.W.Frag) : V → List V → Hp → VK → Prop := fun x xs H Q => ∃ a p, ∃ ys : List Str, x = .str a ∧ xs = [.ref p] ∧ (SqL K H p (ys.map V.str) ∨ SqT K H p (ys.map V.str)) ∧
    (ys.map (·.length)).sum + ys.length * a.length ≤ 16777216 ∧ Q (.str (Txt.join a ys)) H
/-! calls of built-ins -/
abbrev RC := List V → Hp → VK → Prop
def cInt : RC := fun xs H Q => (∃ i, xs = [.int i] ∧ Q (.int i) H) ∨ ∃ k, xs = [.bl k] ∧ Q (.int (if k then 1 else 0)) H
def cTup (K : PySem.W.Frag) : RC := fun xs H Q => ∃ p ys, xs = [.ref p] ∧ ((SqL K H p ys ∧ Alc (.tup ys) H Q) ∨ (SqT K H p ys ∧ Q (.ref p) H))
def cLen (K : PySem.W.Frag) : RC := fun xs H Q => ∃ x n, xs = [x] ∧ LenV K x H n ∧ Q (.int n) H
def cLenD : RC := fun xs H Q => ∃ a kvs, xs = [V.ref a] ∧ H a = some (.dK kvs) ∧ Q (.int kvs.length) H
def cDictD : RC := fun xs H Q => ∃ (a : Addr) (kvs : List (Key × V)), xs = [.ref a] ∧ Rd H a (.dK kvs) ∧ Alc (.dK kvs) H Q
def cSortD : RC := fun xs H Q => ∃ (a : Addr) (kvs : List (Key × V)) (ks : List Str), xs = [.ref a] ∧ Rd H a (.dK kvs) ∧ kvs.map (·.1) = ks.map Sum.inr ∧ ks.length < 64 ∧
    ∀ ys, ys.Perm ks → sortedS ys = true → Alc (.lst (ys.map V.str)) H Q
section
variable {X : Cx} {es : List Expr} {t : TA} {pos : Pos}
theorem pe_tupZ {x1} (h : PA X es t) : PE X (.Tuple es x1 pos) (zTup t) := pe_tup h
theorem pe_lstZ (h : PA X es t) : PE X (.List es pos) (zLst t) := pe_lst h
theorem pe_dnewKZ : PE X (.Dict [] [] pos) zDNewK := pe_dnewK
theorem pe_dnewTZ : PE X (.Dict [] [] pos) zDNewT := pe_dnewT
theorem zpe_join {o e : Expr} {to te : TE} {apos : Pos} (ho : PE X o to) (he : PE X e te) (hs : starEach [e] X.env = [(false, eval e X.env)] := by rfl) (hbase : attributeBase o "join" X.env (eval o X.env) = eval o X.env := by rfl) (hline : (apos.endLine == pos.line) = true := by rfl) :
    PE X (.Call (.Attribute o "join" apos) [e] [] pos) (tM1 (rJoin X.K) to te) := pe_join ho he hs hbase hline
theorem zop_ltS : OpR X (compareOp .Lt) rLtS := op_lt_str
theorem zop_addS : OpR X (binaryOp .Add) rAddSt := op_add_str
theorem zop_isN : OpR X (compareOp .Is) rIsNn := op_isN
theorem zop_notN : OpR X (compareOp .IsNot) rIsNt := op_notN
theorem plain_bool {x : V} {v : Value} {b : Bool} (r : RelV x v) : plainIs v (.bool b) = true := by
  cases x with
  | non => cases (show v = _ from r); rfl
  | bl c => cases (show v = _ from r); rfl
  | int i => obtain ⟨t, e⟩ := (show ∃ t, v = _ from r); subst e; rfl
  | str i => obtain ⟨t, e⟩ := (show ∃ t, v = _ from r); subst e; rfl
  | byt i => obtain ⟨t, e⟩ := (show ∃ t, v = _ from r); subst e; rfl
  | flt i => obtain ⟨t, e⟩ := (show ∃ t, v = _ from r); subst e; rfl
  | ref a => cases (show v = _ from r); rfl
  | ty n => cases (show v = _ from r); rfl
theorem rel_bool {x : V} {v : Value} {b : Bool} (r : RelV x v) : (v = .bool b) ↔ x = .bl b := by
  constructor
  · intro z
    subst z
    cases x with
    | bl c => cases (show Value.bool b = Value.bool c from r); rfl
    | non => cases (show Value.bool b = _ from r)
    | int i => obtain ⟨t, e⟩ := (show ∃ t, Value.bool b = _ from r); cases e
    | str i => obtain ⟨t, e⟩ := (show ∃ t, Value.bool b = _ from r); cases e
    | byt i => obtain ⟨t, e⟩ := (show ∃ t, Value.bool b = _ from r); cases e
    | flt i => obtain ⟨t, e⟩ := (show ∃ t, Value.bool b = _ from r); cases e
    | ref a => cases (show Value.bool b = _ from r)
    | ty n => cases (show Value.bool b = _ from r)
  · intro z
    subst z
    exact r
theorem zop_isB : OpR X (compareOp .Is) rIsBv := by
  intro pins s σ H x y v u Q I rx ry h
  obtain ⟨b, rfl, q⟩ := h
  cases (show u = Value.bool b from ry)
  by_cases e : x = .bl b
  · have e2 := (rel_bool (b := b) rx).mpr e
    subst e2
    exact wpAny_is_self rfl ⟨.bl true, H, I, rfl, by rw [decide_eq_true e] at q; exact q⟩
  · exact wpAny_is_other (plain_bool rx) (fun z => e ((rel_bool rx).mp z)) ⟨.bl false, H, I, rfl, by rw [decide_eq_false e] at q; exact q⟩
theorem zop_isNotB : OpR X (compareOp .IsNot) rIsNtBv := by
  intro pins s σ H x y v u Q I rx ry h
  obtain ⟨b, rfl, q⟩ := h
  cases (show u = Value.bool b from ry)
  by_cases e : x = .bl b
  · have e2 := (rel_bool (b := b) rx).mpr e
    subst e2
    exact wpAny_isNot_self rfl ⟨.bl false, H, I, rfl, by rw [decide_eq_true e] at q; exact q⟩
  · exact wpAny_isNot_other (plain_bool rx) (fun z => e ((rel_bool rx).mp z)) ⟨.bl true, H, I, rfl, by rw [decide_eq_false e] at q; exact q⟩
theorem zop_mulS : OpR X (binaryOp .Mult) rMulSt := by
  intro pins s σ H x y v u Q I rx ry h
  obtain ⟨i, j, rfl, rfl, hi, hj, q⟩ := h
  obtain ⟨t, rfl⟩ := rx
  obtain ⟨t', rfl⟩ := ry
  exact PySem.W.KXi.mul rfl hi hj.1 hj.2 fun t' tk _ _ => ⟨.str (Txt.mul i j), H, I.tok _, ⟨_, rfl⟩, q⟩
theorem zop_cat : OpR X (binaryOp .Add) zCat := op_cat
theorem zop_catA : OpR X (binaryOp .Add) (zCatA X.K) := op_catA
theorem zset_list : PSet X zSetL := set_list
theorem zmt_append : MtR X "list.append" zAppend := mt_append
theorem zop_catAK {K : PySem.W.Frag} (h : X.K = K) : OpR X (binaryOp .Add) (zCatA K) := h ▸ zop_catA
theorem op_in_seqK {K : PySem.W.Frag} (h : X.K = K) : OpR X (compareOp .In) (rIn K false) := h ▸ op_in_seq
theorem op_notIn_seqK {K : PySem.W.Frag} (h : X.K = K) : OpR X (compareOp .NotIn) (rIn K true) := h ▸ op_notIn_seq
theorem ix_listK {K : PySem.W.Frag} (h : X.K = K) : IxR X (rIxL K) := h ▸ ix_list
theorem ix_tupK {K : PySem.W.Frag} (h : X.K = K) : IxR X (rIxT K) := h ▸ ix_tup
theorem zc_lenK {K : PySem.W.Frag} (h : X.K = K) : CallR X (.builtin "len") (cLen K) := h ▸ call_len
theorem cr_sumK {K : PySem.W.Frag} (hc : X.calm = true) (h : X.K = K) : CallR X (.builtin "sum") (rSum K) := h ▸ cr_sum hc
theorem zc_int : CallR X (.type "int") cInt := call_int1
theorem zc_tup : CallR X (.type "tuple") (cTup X.K) := call_tuple_of
theorem zc_len : CallR X (.builtin "len") (cLen X.K) := call_len
theorem zc_lenD : CallR X (.builtin "len") cLenD := call_lenD
theorem zc_dictD : CallR X (.type "dict") cDictD := call_dictD
theorem zc_sortD (hc : X.calm = true) : CallR X (.builtin "sorted") cSortD := by
  intro pins s σ H xs us Q I r h
  obtain ⟨a, kvs, ks, e, h1, h2, h3, q⟩ := h
  exact call_sortedD hc pins s σ H xs us Q I r ⟨a, kvs, ks, e, h1, h2, h3, fun ys p hp hs np => q ys hp hs p np⟩
end
end Zk

set_option Elab.async false
set_option linter.all false
set_option maxRecDepth 100000
namespace Zk
open PySem PySem.Spec L2
open PyProof.Rows hiding St

theorem nm1 {a p : Addr} (h : a ≠ p) : a ∉ [p] := fun z => h (List.mem_singleton.mp z)
theorem nm2 {a p q : Addr} (h : a ≠ p) (g : a ≠ q) : a ∉ [p, q] := fun z => by
  rcases List.mem_cons.mp z with z | z
  · exact h z
  · exact g (List.mem_singleton.mp z)
theorem Ext.get {M : List Addr} {H H' : Hp} (e : Ext M H H') {a : Addr} {o : HO} (h : H a = some o) (n : a ∉ M ∨ Imm o) : H' a = some o :=
  n.elim (e.keep a o h) (e.imm a o h)

theorem at_some {α : Type} {xs : List α} {r : Int} (h0 : 0 ≤ r) (h1 : r < (xs.length : Int)) : ∃ v, atI xs r = some v ∧ xs[r.toNat]? = some v := by
  have hl : r.toNat < xs.length := by omega
  refine ⟨xs[r.toNat], ?_, List.getElem?_eq_getElem hl⟩
  have h := atI_nat (xs := xs) (j := r.toNat) (List.getElem?_eq_getElem hl)
  rw [Int.toNat_of_nonneg h0] at h
  exact h
theorem at_map {α : Type} {f : α → V} {xs : List α} {r : Int} (h0 : 0 ≤ r) (h1 : r < (xs.length : Int)) : ∃ v, v ∈ xs ∧ atI (xs.map f) r = some (f v) := by
  obtain ⟨v, h, g⟩ := at_some (xs := xs.map f) h0 (by rw [List.length_map]; exact h1)
  rw [List.getElem?_map, Option.map_eq_some_iff] at g
  obtain ⟨y, hy, e⟩ := g
  subst e
  exact ⟨y, List.mem_of_getElem? hy, h⟩

theorem str_app_inj {z : Str} {c d : Nat} (h : z ++ (⟨#[c]⟩ : Str) = z ++ (⟨#[d]⟩ : Str)) : c = d := by
  have h1 : z.cps ++ #[c] = z.cps ++ #[d] := congrArg Str.cps h
  have h2 := congrArg Array.toList h1
  simp at h2
  exact h2
theorem str_len_append (a b : Str) : (a ++ b).length = a.length + b.length := Array.size_append
theorem str_len_join {sep : Str} (h0 : sep.length = 0) : ∀ ys : List Str, (Txt.join sep ys).length = (ys.map (·.length)).sum := by
  intro ys
  show (Builtin.Str.glued sep ys).length = _
  rw [StrLaws.glued_eq_join]
  induction ys with
  | nil => rfl
  | cons x r ih =>
    cases r with
    | nil => simp [Str.join]
    | cons y r =>
      show (x ++ sep ++ Str.join sep (y :: r)).length = _
      rw [str_len_append, str_len_append, ih, h0]
      simp
theorem str_len_mul {x : Str} {n : Int} (h : 0 ≤ n) : (Txt.mul x n).length = x.length * n.toNat := by
  have e := PyProof.Rows.len_mul x n
  rw [if_neg (by simp; omega)] at e
  have : (x.length : Int) * n = ((x.length * n.toNat : Nat) : Int) := by
    rw [Int.natCast_mul, Int.toNat_of_nonneg h]
  omega
theorem nodup_len {α : Type} [DecidableEq α] : ∀ {l m : List α}, l.Nodup → (∀ x ∈ l, x ∈ m) → l.length ≤ m.length
  | [], m, _, _ => Nat.zero_le _
  | x :: l, m, hn, hs => by
    obtain ⟨h1, h2⟩ := List.nodup_cons.mp hn
    have hx := hs x List.mem_cons_self
    have ih := nodup_len (l := l) (m := m.erase x) h2 fun y hy => by
      have ne : y ≠ x := fun z => h1 (z ▸ hy)
      exact (List.mem_erase_of_ne ne).mpr (hs y (List.mem_cons_of_mem _ hy))
    rw [List.length_erase_of_mem hx] at ih
    have : 0 < m.length := List.length_pos_of_mem hx
    show l.length + 1 ≤ m.length
    omega

theorem paired_snoc {α β : Type} {R : α → β → Prop} {x : α} {y : β} (r : R x y) : ∀ {xs : List α} {ys : List β}, Paired R xs ys → Paired R (xs ++ [x]) (ys ++ [y])
  | _, _, .nil => .cons r .nil
  | _, _, .cons h t => .cons h (paired_snoc r t)
theorem paired_at {α β : Type} {R : α → β → Prop} : ∀ {xs : List α} {ys : List β} {i : Nat} {x : α}, Paired R xs ys → xs[i]? = some x → ∃ y, ys[i]? = some y ∧ R x y
  | _, _, _, _, .nil, e => by simp at e
  | _, _, 0, _, .cons r _, e => by simp at e; subst e; exact ⟨_, rfl, r⟩
  | _, _, i + 1, x, .cons _ t, e => by
    obtain ⟨y, h1, h2⟩ := paired_at (i := i) (x := x) t (by simpa using e)
    exact ⟨y, by simpa using h1, h2⟩
theorem paired_len {α β : Type} {R : α → β → Prop} : ∀ {xs : List α} {ys : List β}, Paired R xs ys → xs.length = ys.length
  | _, _, .nil => rfl
  | _, _, .cons _ t => congrArg (· + 1) (paired_len t)
theorem at_nat0 {α : Type} {xs : List α} {i : Nat} {v : α} (h : xs[i]? = some v) : atI xs (0 + (i : Int)) = some v := by
  rw [Int.zero_add]
  exact atI_nat h
theorem get_snoc {α : Type} {xs : List α} {x : α} {i : Nat} (h : xs.length = i) : (xs ++ [x])[i]? = some x := by
  subst h
  simp
theorem Ext.dropq {M : List Addr} {H H1 H2 : Hp} {p : Addr} (a : Ext M H H1) (b : Ext [p] H1 H2) (np : H p = none) : Ext M H H2 :=
  a.drop (p := p) (b.mono fun _ z => List.mem_cons.mpr (.inl (List.mem_singleton.mp z))) np

/-! ### promises by the number of arguments -/
def sp0 (P : Hp → VK → Prop) : Sp := fun vs H Q _ => vs = [] ∧ P H Q
def sp1 (P : V → Hp → VK → Prop) : Sp := fun vs H Q _ => ∃ a, vs = [a] ∧ P a H Q
def sp2 (P : V → V → Hp → VK → Prop) : Sp := fun vs H Q _ => ∃ a b, vs = [a, b] ∧ P a b H Q
def sp3 (P : V → V → V → Hp → VK → Prop) : Sp := fun vs H Q _ => ∃ a b c, vs = [a, b, c] ∧ P a b c H Q
def sp4 (P : V → V → V → V → Hp → VK → Prop) : Sp := fun vs H Q _ => ∃ a b c d, vs = [a, b, c, d] ∧ P a b c d H Q
theorem w_sp1 {P : V → Hp → VK → Prop} {a H Q E} (h : P a H Q) : sp1 P ([a] ++ []) H Q E := ⟨a, rfl, h⟩
theorem w_sp2 {P : V → V → Hp → VK → Prop} {a b H Q E} (h : P a b H Q) : sp2 P ([a, b] ++ []) H Q E := ⟨a, b, rfl, h⟩
theorem w_sp3 {P : V → V → V → Hp → VK → Prop} {a b c H Q E} (h : P a b c H Q) : sp3 P ([a, b, c] ++ []) H Q E := ⟨a, b, c, rfl, h⟩
theorem w_sp4 {P : V → V → V → V → Hp → VK → Prop} {a b c d H Q E} (h : P a b c d H Q) : sp4 P ([a, b, c, d] ++ []) H Q E := ⟨a, b, c, d, rfl, h⟩
theorem len1 {P : V → Hp → VK → Prop} {x : Str} : ∀ vs H Q E, sp1 P vs H Q E → vs.length = [x].length := fun _ _ _ _ ⟨_, e, _⟩ => e ▸ rfl
theorem len2 {P : V → V → Hp → VK → Prop} {x y : Str} : ∀ vs H Q E, sp2 P vs H Q E → vs.length = [x, y].length := fun _ _ _ _ ⟨_, _, e, _⟩ => e ▸ rfl
theorem len3 {P : V → V → V → Hp → VK → Prop} {x y z : Str} : ∀ vs H Q E, sp3 P vs H Q E → vs.length = [x, y, z].length := fun _ _ _ _ ⟨_, _, _, e, _⟩ => e ▸ rfl
theorem len4 {P : V → V → V → V → Hp → VK → Prop} {x y z u : Str} : ∀ vs H Q E, sp4 P vs H Q E → vs.length = [x, y, z, u].length := fun _ _ _ _ ⟨_, _, _, _, e, _⟩ => e ▸ rfl

/-! ### one step of a reading -/
section
variable {σ : St} {H : Hp} {Q : VK} {QB : Bool → Hp → Prop} {QL : List V → Hp → Prop} {v x y : V} {ta tb tc te : TE} {tt tu : TT} {tl : TA} {t u : TS} {r : R2} {K : PySem.W.Frag} {i : Nat} {nx bk ct : St → Hp → Prop} {rt : VK} {a b : Addr}
theorem w_var (h : σ[i]? = some (some v)) (q : Q v H) : tVar i σ H Q := ⟨v, h, q⟩
theorem w_c (q : Q v H) : tC v σ H Q := q
theorem w_op (h : ta σ H fun x H1 => tb σ H1 fun y H2 => r x y H2 Q) : tOp r ta tb σ H Q := h
theorem w_un {r : V → Hp → VK → Prop} (h : ta σ H fun x H1 => r x H1 Q) : tUn r ta σ H Q := h
theorem w_rU {g : Int → V} {j : Int} (q : Q (g j) H) : rU g (.int j) H Q := ⟨j, rfl, q⟩
theorem w_I0 {g : Int → Int → V} {i j : Int} (q : Q (g i j) H) : rI0 g (.int i) (.int j) H Q := ⟨i, j, rfl, rfl, q⟩
theorem w_I {C : Int → Int → Prop} {g : Int → Int → V} {i j : Int} (c : C i j) (q : Q (g i j) H) : rI C g (.int i) (.int j) H Q := ⟨i, j, rfl, rfl, c, q⟩
theorem w_modA {i j : Int} (c : 0 < j) (q : ∀ r, 0 ≤ r → r < j → Q (.int r) H) : rI (fun _ j => 0 < j) (fun i j => .int (i % j)) (.int i) (.int j) H Q := ⟨i, j, rfl, rfl, c, q _ (Int.emod_nonneg i (by omega)) (Int.emod_lt_of_pos i c)⟩
theorem w_eq (c : scal x y = true) (q : Q (.bl (decide (x = y))) H) : rEq x y H Q := ⟨c, q⟩
theorem w_ne (c : scal x y = true) (q : Q (.bl (!decide (x = y))) H) : rNe x y H Q := ⟨c, q⟩
theorem w_eqI {i j : Int} (q : Q (.bl (decide (i = j))) H) : rEq (.int i) (.int j) H Q := ⟨rfl, by rw [show decide (V.int i = V.int j) = decide (i = j) by simp]; exact q⟩
theorem w_neI {i j : Int} (q : Q (.bl (!decide (i = j))) H) : rNe (.int i) (.int j) H Q := ⟨rfl, by rw [show decide (V.int i = V.int j) = decide (i = j) by simp]; exact q⟩
theorem w_eqS {i j : Str} (q : Q (.bl (decide (i = j))) H) : rEq (.str i) (.str j) H Q := ⟨rfl, by rw [show decide (V.str i = V.str j) = decide (i = j) by simp]; exact q⟩
theorem w_neS {i j : Str} (q : Q (.bl (!decide (i = j))) H) : rNe (.str i) (.str j) H Q := ⟨rfl, by rw [show decide (V.str i = V.str j) = decide (i = j) by simp]; exact q⟩
theorem w_isN (q : Q (.bl (decide (x = .non))) H) : rIsNn x .non H Q := ⟨rfl, q⟩
theorem w_isNt (q : Q (.bl (!decide (x = .non))) H) : rIsNt x .non H Q := ⟨rfl, q⟩
theorem w_isB {c : Bool} (q : Q (.bl (decide (x = .bl c))) H) : rIsBv x (.bl c) H Q := ⟨c, rfl, q⟩
theorem w_isNtB {c : Bool} (q : Q (.bl (!decide (x = .bl c))) H) : rIsNtBv x (.bl c) H Q := ⟨c, rfl, q⟩
theorem w_ltS {i j : Str} (q : Q (.bl (decide (i.cps.toList < j.cps.toList))) H) : rLtS (.str i) (.str j) H Q := ⟨i, j, rfl, rfl, q⟩
theorem w_addS {i j : Str} (c : i.length + j.length ≤ sizeLine) (q : Q (.str (i ++ j)) H) : rAddSt (.str i) (.str j) H Q := ⟨i, j, rfl, rfl, c, q⟩
theorem w_mulS {i : Str} {j : Int} (c : i.length ≤ 16) (d : -(2 ^ 63 : Int) ≤ j ∧ j ≤ 1048576) (q : Q (.str (Txt.mul i j)) H) : rMulSt (.str i) (.int j) H Q := ⟨i, j, rfl, rfl, c, d, q⟩
theorem w_ixL {xs : List V} {j : Int} (h : SqL K H a xs) (e : atI xs j = some v) (q : Q v H) : rIxL K (.ref a) (.int j) H Q := ⟨a, xs, j, v, rfl, rfl, h, e, q⟩
theorem w_ixT {xs : List V} {j : Int} (h : SqT K H a xs) (e : atI xs j = some v) (q : Q v H) : rIxT K (.ref a) (.int j) H Q := ⟨a, xs, j, v, rfl, rfl, h, e, q⟩
theorem w_ixS {z : Str} {j : Int} {c : Nat} (h : z.length ≤ sizeLine) (e : atI z.cps.toList j = some c) (q : Q (.str ⟨#[c]⟩) H) : rIxS (.str z) (.int j) H Q := ⟨z, j, c, rfl, rfl, h, e, q⟩
theorem w_inL {neg : Bool} {xs : List V} (h : SqL K H a xs) (f : flatV x = true) (g : xs.all flatV = true) (q : Q (.bl (if neg then !inV x xs else inV x xs)) H) : rIn K neg x (.ref a) H Q := ⟨a, xs, rfl, .inl h, f, g, q⟩
theorem w_inT {neg : Bool} {xs : List V} (h : SqT K H a xs) (f : flatV x = true) (g : xs.all flatV = true) (q : Q (.bl (if neg then !inV x xs else inV x xs)) H) : rIn K neg x (.ref a) H Q := ⟨a, xs, rfl, .inr h, f, g, q⟩
theorem w_cat {xs zs : List V} (h : H a = some (.lst xs)) (g : H b = some (.lst zs)) (c : xs.length + zs.length ≤ sizeLine) (q : Alc (.lst (xs ++ zs)) H Q) : zCat (.ref a) (.ref b) H Q := ⟨a, b, xs, zs, rfl, rfl, h, g, c, q⟩
theorem w_setL {xs : List V} {k : Int} {j : Nat} {Q : Hp → Prop} (h : H a = some (.lst xs)) (e : ixN xs.length k = some j) (q : Chg a (.lst (xs.set j v)) H Q) : zSetL (.ref a) (.int k) v H Q := ⟨a, xs, k, j, rfl, rfl, h, e, q⟩
theorem w_append {xs : List V} (h : H a = some (.lst xs)) (c : xs.length < sizeLine) (q : Chg a (.lst (xs ++ [y])) H (Q .non)) : zAppend (.ref a) [y] H Q := ⟨a, xs, y, rfl, rfl, h, c, q⟩
theorem w_m1 {r : V → List V → Hp → VK → Prop} (h : ta σ H fun x H1 => (∃ a, x = .str a) ∧ tb σ H1 fun y H2 => r x [y] H2 Q) : tM1 r ta tb σ H Q := h
theorem w_str {s : Str} {R : Prop} (h : R) : (∃ a, V.str s = .str a) ∧ R := ⟨⟨s, rfl⟩, h⟩
theorem w_join {s : Str} {ys : List Str} (h : SqL K H a (ys.map V.str)) (c : (ys.map (·.length)).sum + ys.length * s.length ≤ 16777216) (q : Q (.str (Txt.join s ys)) H) : rJoin K (.str s) [.ref a] H Q := ⟨s, a, ys, rfl, rfl, .inl h, c, q⟩
theorem inV_str {z : Str} {ns : List Str} : inV (.str z) (ns.map V.str) = decide (z ∈ ns) := by
  unfold inV
  induction ns with
  | nil => rfl
  | cons a r ih =>
    rw [List.map_cons, List.any_cons, ih]
    show (a == z || decide (z ∈ r)) = _
    by_cases h : a = z
    · subst h; simp
    · have h2 : ¬ z = a := fun e => h e.symm
      simp [h, h2]
theorem flat_str : ∀ ns : List Str, (ns.map V.str).all flatV = true
  | [] => rfl
  | _ :: r => by rw [List.map_cons, List.all_cons, flat_str r]; rfl
theorem w_inS {z : Str} {ns : List Str} (h : SqL K H a (ns.map V.str) ∨ SqT K H a (ns.map V.str)) (q : Q (.bl (decide (z ∈ ns))) H) : rIn K false (.str z) (.ref a) H Q :=
  ⟨a, _, rfl, h, rfl, flat_str ns, by rw [if_neg Bool.false_ne_true, inV_str]; exact q⟩
theorem w_ninS {z : Str} {ns : List Str} (h : SqL K H a (ns.map V.str) ∨ SqT K H a (ns.map V.str)) (q : Q (.bl (!decide (z ∈ ns))) H) : rIn K true (.str z) (.ref a) H Q :=
  ⟨a, _, rfl, h, rfl, flat_str ns, by rw [if_pos rfl, inV_str]; exact q⟩
theorem w_bm {T : String} {r : V → List V → Hp → VK → Prop} (h : ta σ H fun x H1 => tyV K T x H1 ∧ tl σ H1 fun xs H2 => r x xs H2 Q) : tBM K T r ta tl σ H Q := h
theorem w_bm0 {T : String} {r : V → List V → Hp → VK → Prop} (h : ta σ H fun x H1 => tyV K T x H1 ∧ r x [] H1 Q) : tBM0 K T r ta σ H Q := h
theorem w_tyL {xs : List V} {R : Prop} (h : SqL K H a xs) (q : R) : tyV K "list" (.ref a) H ∧ R := ⟨.inl ⟨rfl, xs, h⟩, q⟩
/-! tests -/
theorem w_test (h : te σ H fun x H1 => ∃ k, x = .bl k ∧ QB k H1) : tTest te σ H QB := h
theorem w_tB (h : te σ H fun x H1 => ∃ k, x = .bl k ∧ QB k H1) : tB te σ H QB := h
theorem w_bl {k : Bool} {P : Bool → Prop} (q : P k) : ∃ c, V.bl k = .bl c ∧ P c := ⟨k, rfl, q⟩
theorem w_and (h : tt σ H fun c H1 => if c = true then tu σ H1 QB else QB false H1) : tAnd tt tu σ H QB := h
theorem w_or (h : tt σ H fun c H1 => if c = true then QB true H1 else tu σ H1 QB) : tOr tt tu σ H QB := h
theorem w_not (h : tt σ H fun c H1 => QB (!c) H1) : tNot tt σ H QB := h
theorem w_andV (h : ta σ H fun x H1 => ∃ c, x = .bl c ∧ if c = true then tb σ H1 Q else Q (.bl false) H1) : tAndV ta tb σ H Q := h
theorem w_orV (h : ta σ H fun x H1 => ∃ c, x = .bl c ∧ if c = true then Q (.bl true) H1 else tb σ H1 Q) : tOrV ta tb σ H Q := h
theorem w_notV (h : ta σ H fun x H1 => ∃ c, x = .bl c ∧ Q (.bl (!c)) H1) : tNotV ta σ H Q := h
theorem w_if (h : tt σ H fun c H1 => if c = true then ta σ H1 Q else tb σ H1 Q) : tIf tt ta tb σ H Q := h
theorem w_yes (q : QB true H) : tYes σ H QB := q
/-! arguments, displays, calls -/
theorem w_nil (q : QL [] H) : tNil σ H QL := q
theorem w_cons (h : te σ H fun x H1 => tl σ H1 fun xs H2 => QL (x :: xs) H2) : tCons te tl σ H QL := h
theorem w_tup (h : tl σ H fun xs H1 => xs.length ≤ sizeLine ∧ Alc (.tup xs) H1 Q) : zTup tl σ H Q := h
theorem w_lst (h : tl σ H fun xs H1 => xs.length ≤ sizeLine ∧ Alc (.lst xs) H1 Q) : zLst tl σ H Q := h
theorem w_dnewK (h : Alc (.dK []) H Q) : zDNewK σ H Q := h
theorem w_dnewT (h : Alc (.dT []) H Q) : zDNewT σ H Q := h
theorem w_cb {r : RC} (h : tl σ H fun vs H1 => r vs H1 Q) : tCB r tl σ H Q := h
theorem w_call {sp : Sp} {dvs : List V} {E : XK} (h : tl σ H fun vs H1 => sp (vs ++ dvs) H1 Q E) : tCall sp dvs E tl σ H Q := h
theorem w_int {j : Int} (q : Q (.int j) H) : cInt [.int j] H Q := .inl ⟨j, rfl, q⟩
theorem w_lenL {xs : List V} (h : SqL K H a xs) (q : Q (.int (xs.length : Int)) H) : cLen K [.ref a] H Q := ⟨_, _, rfl, .inl ⟨xs, h, rfl⟩, q⟩
theorem w_lenT {xs : List V} (h : SqT K H a xs) (q : Q (.int (xs.length : Int)) H) : cLen K [.ref a] H Q := ⟨_, _, rfl, .inr ⟨xs, h, rfl⟩, q⟩
theorem w_lenD {kvs : List (Key × V)} (h : H a = some (.dK kvs)) (q : Q (.int (kvs.length : Int)) H) : cLenD [.ref a] H Q := ⟨_, _, rfl, h, q⟩
theorem w_tupL {xs : List V} (h : SqL K H a xs) (q : Alc (.tup xs) H Q) : cTup K [.ref a] H Q := ⟨a, xs, rfl, .inl ⟨h, q⟩⟩
theorem w_dictD {kvs : List (Key × V)} (h : H a = some (.dK kvs)) (q : Alc (.dK kvs) H Q) : cDictD [.ref a] H Q := ⟨a, kvs, rfl, .inl h, q⟩
theorem w_sum {ns : List Int} (h : SqL K H a (ns.map V.int)) (q : Q (.int ns.sum) H) : rSum K [.ref a] H Q := ⟨a, ns, rfl, h, q⟩
theorem w_isi {c : V} {t w : Value} {k : Bool} (cl : ClsV c w) (ty : TyX K H x t) (e : PySem.W.kitOne K t w = some k) (q : Q (.bl k) H) : rIsi K [x, c] H Q := ⟨x, c, t, w, k, rfl, cl, ty, e, q⟩
theorem w_dget (h : ta σ H fun x H1 => tb σ H1 fun y H2 => ∃ a v, x = .ref a ∧ DGet H2 a y (some v) ∧ Q v H2) : tDGet ta tb σ H Q := h
theorem w_dgetS {kvs : List (Key × V)} {z : Str} {P : V → Prop} (h : H a = some (.dK kvs)) (e : valV kvs (Sum.inr z : Key) = some v) (q : P v) : ∃ b u, V.ref a = .ref b ∧ DGet H b (.str z) (some u) ∧ P u := ⟨a, v, rfl, by rw [← e]; exact DGet.k (k := Sum.inr z) h, q⟩
theorem w_din (h : ta σ H fun y H1 => tb σ H1 fun x H2 => ∃ a o, x = .ref a ∧ DGet H2 a y o ∧ Q (.bl o.isSome) H2) : tDIn ta tb σ H Q := h
theorem w_dnotin (h : ta σ H fun y H1 => tb σ H1 fun x H2 => ∃ a o, x = .ref a ∧ DGet H2 a y o ∧ Q (.bl (!o.isSome)) H2) : tDNotIn ta tb σ H Q := h
/-! statements -/
theorem w_seq (h : t ⟨u ⟨nx, rt, bk, ct⟩, rt, bk, ct⟩ σ H) : tSeq t u ⟨nx, rt, bk, ct⟩ σ H := h
theorem w_next (q : nx σ H) : tNext ⟨nx, rt, bk, ct⟩ σ H := q
theorem w_break (q : bk σ H) : tBreak ⟨nx, rt, bk, ct⟩ σ H := q
theorem w_cont (q : ct σ H) : tCont ⟨nx, rt, bk, ct⟩ σ H := q
theorem w_asg {g : TG} (h : te σ H fun x H1 => g x σ H1 nx) : tAsg te g ⟨nx, rt, bk, ct⟩ σ H := h
theorem w_gname {N : St → Hp → Prop} (q : N (σ.set i (some v)) H) : gName i v σ H N := q
theorem w_gsub {N : St → Hp → Prop} {s : TSet} (h : ta σ H fun o H1 => tb σ H1 fun i H2 => s o i v H2 fun H3 => N σ H3) : gSub ta tb s v σ H N := h
theorem w_drop (h : te σ H fun _ H1 => nx σ H1) : tDrop te ⟨nx, rt, bk, ct⟩ σ H := h
theorem w_ret (h : te σ H rt) : tRet te ⟨nx, rt, bk, ct⟩ σ H := h
theorem w_retN (h : rt .non H) : tRetN ⟨nx, rt, bk, ct⟩ σ H := h
theorem w_ifS (h : tt σ H fun b H1 => if b = true then t ⟨nx, rt, bk, ct⟩ σ H1 else u ⟨nx, rt, bk, ct⟩ σ H1) : tIfS tt t u ⟨nx, rt, bk, ct⟩ σ H := h
theorem w_cut (P : St → Hp → Prop) (h : ∀ σ' H', P σ' H' → nx σ' H') (g : ∀ nx', (∀ σ' H', P σ' H' → nx' σ' H') → tIfS tt t u ⟨nx', rt, bk, ct⟩ σ H) : tIfS tt t u ⟨nx, rt, bk, ct⟩ σ H := g nx h
theorem w_cutA {g : TG} (P : St → Hp → Prop) (h : ∀ σ' H', P σ' H' → nx σ' H') (k : ∀ nx', (∀ σ' H', P σ' H' → nx' σ' H') → tAsg te g ⟨nx', rt, bk, ct⟩ σ H) : tAsg te g ⟨nx, rt, bk, ct⟩ σ H := k nx h
theorem w_cutE (P : V → Hp → Prop) (h : ∀ v H', P v H' → Q v H') (k : ∀ Q' : VK, (∀ v H', P v H' → Q' v H') → tIf tt ta tb σ H Q') : tIf tt ta tb σ H Q := k Q h
theorem w_d {c A B : Prop} [Decidable c] (h1 : c → A) (h2 : ¬ c → B) : if decide c = true then A else B := ite2 (fun h => h1 (of_decide_eq_true h)) fun h => h2 fun z => h (decide_eq_true z)
theorem w_nd {c A B : Prop} [Decidable c] (h1 : ¬ c → A) (h2 : c → B) : if (!decide c) = true then A else B := ite2 (fun h => h1 fun z => by rw [decide_eq_true z] at h; cases h) fun h => h2 (by
  by_cases z : c
  · exact z
  · rw [decide_eq_false z] at h; exact absurd rfl h)
theorem w_b {c : Bool} {A B : Prop} (h1 : c = true → A) (h2 : c = false → B) : if c = true then A else B := by cases c with | true => exact iteT (h1 rfl) | false => exact iteF (h2 rfl)
theorem w_nb {c : Bool} {A B : Prop} (h1 : c = false → A) (h2 : c = true → B) : if (!c) = true then A else B := by cases c with | true => exact iteF (h2 rfl) | false => exact iteT (h1 rfl)
theorem w_for {wi : TI} {g : TG} (h : wi σ H fun J H1 => ∃ W : Nat → Nat → St → Hp → Prop, (∃ m, W 0 m σ H1) ∧ ∀ i m σ H, W i m σ H →
  (J.stop i H ∧ nx σ H) ∨ (J.go i H ∧ ∃ N : St → Hp → Prop, (∀ σ' H', N σ' H' → ∃ m', m' < m ∧ W (i + 1) m' σ' H') ∧ ∀ x H', J.yld i H x H' → g x σ H' fun σ2 H2 => t ⟨N, rt, nx, N⟩ σ2 H2)) : tFor wi g t ⟨nx, rt, bk, ct⟩ σ H := h
theorem w_iList {R : It → Hp → Prop} (h : te σ H fun x H1 => ∃ a, x = .ref a ∧ (∃ xs, SqL K H1 a xs) ∧ R (Itl K a) H1) : iList K te σ H R := h
theorem w_iTup {R : It → Hp → Prop} (h : te σ H fun x H1 => ∃ a, x = .ref a ∧ (∃ xs, SqT K H1 a xs) ∧ R (Itt K a) H1) : iTup K te σ H R := h
theorem w_iRng1 {R : It → Hp → Prop} (h : tl σ H fun vs H1 => ∃ j : Int, vs = [.int j] ∧ -(2 ^ 62) ≤ j ∧ j < 2 ^ 62 ∧ R (Itr 0 j.toNat) H1) : iRng1 tl σ H R := h
theorem w_iRng2 {R : It → Hp → Prop} (h : tl σ H fun vs H1 => ∃ i j : Int, vs = [.int i, .int j] ∧ (-(2 ^ 62) ≤ i ∧ i < 2 ^ 62 ∧ -(2 ^ 62) ≤ j ∧ j < 2 ^ 62) ∧ R (Itr i (j - i).toNat) H1) : iRng2 tl σ H R := h
theorem w_iStr {R : It → Hp → Prop} (h : te σ H fun v H1 => ∃ x, v = .str x ∧ R (Its x) H1) : iStr te σ H R := h
theorem iteNF {A B : Prop} (h : A) : if (!false) = true then A else B := iteT h
theorem iteNT {A B : Prop} (h : B) : if (!true) = true then A else B := iteF h
theorem w_f {c : Bool} {A B : Prop} (h : c = false) (q : B) : if c = true then A else B := by rw [h]; exact iteF q
theorem w_t {c : Bool} {A B : Prop} (h : c = true) (q : A) : if c = true then A else B := by rw [h]; exact iteT q
theorem w_gtup {n : Nat} {g : TGs} {xs : List V} {N : St → Hp → Prop} (h : SqT K H a xs) (l : xs.length = n) (q : g xs σ H N) : gTup K n g (.ref a) σ H N := ⟨a, xs, rfl, h, l, q⟩
theorem w_gcons {g : TG} {gs : TGs} {r : List V} {N : St → Hp → Prop} (q : g v σ H fun σ' H' => gs r σ' H' N) : gCons g gs (v :: r) σ H N := ⟨v, r, rfl, q⟩
theorem w_gnil {N : St → Hp → Prop} (q : N σ H) : gNil [] σ H N := ⟨rfl, q⟩
theorem w_sdput (h : te σ H fun v H1 => ta σ H1 fun x H2 => tb σ H2 fun y H3 => ∃ a H4, x = .ref a ∧ DPut H3 a y v H4 ∧ nx σ H4) : sDPut ta tb te ⟨nx, rt, bk, ct⟩ σ H := h
theorem w_dputS {kvs : List (Key × V)} {z : Str} {N : Hp → Prop} (h : H a = some (.dK kvs)) (l : kvs.length < sizeLine) (k : ∀ H', Ext [a] H H' → H' a = some (.dK (putK kvs (Sum.inr z) v)) → N H') : ∃ b H4, V.ref a = .ref b ∧ DPut H b (.str z) v H4 ∧ N H4 :=
  ⟨a, _, rfl, DPut.k (k := Sum.inr z) h l, k _ (Ext.mut h (fun z => z) (List.mem_singleton.mpr rfl)) upd_same⟩
theorem w_sortD {kvs : List (Key × V)} {ks : List Str} (h : H a = some (.dK kvs)) (e : kvs.map (·.1) = ks.map Sum.inr) (l : ks.length < 64) (q : ∀ ys, ys.Perm ks → sortedS ys = true → Alc (.lst (ys.map V.str)) H Q) : cSortD [.ref a] H Q := ⟨a, kvs, ks, rfl, .inl h, e, l, q⟩
/-! a dict is locked while it is walked -/
structure Lk (d : Addr) (u : HO) (od : Obj) (H H1 : Hp) : Prop where
  was : H d = some u
  ni : ¬ Imm u
  eq : H1 = upd H d (.frz od u)
theorem Lk.at {d : Addr} {u : HO} {od : Obj} {H H1 : Hp} (L : Lk d u od H H1) : H1 d = some (.frz od u) := by rw [L.eq]; exact upd_same
theorem Lk.keep {d : Addr} {u : HO} {od : Obj} {H H1 : Hp} (L : Lk d u od H H1) {b : Addr} {o : HO} (h : H b = some o) (n : b ≠ d) : H1 b = some o := by rw [L.eq, upd_ne n]; exact h
theorem Lk.tup {d : Addr} {u : HO} {od : Obj} {H H1 : Hp} (L : Lk d u od H H1) {b : Addr} {xs : List V} (h : H b = some (.tup xs)) : H1 b = some (.tup xs) :=
  L.keep h fun z => L.ni (by subst z; have := L.was; rw [h] at this; cases this; trivial)
theorem Lk.frz {d : Addr} {u : HO} {od : Obj} {H H1 : Hp} (L : Lk d u od H H1) {b : Addr} {o : Obj} {x : HO} (h : H b = some (.frz o x)) : H1 b = some (.frz o x) :=
  L.keep h fun z => L.ni (by subst z; have := L.was; rw [h] at this; cases this; trivial)
theorem Lk.free {d : Addr} {u : HO} {od : Obj} {H H1 : Hp} (L : Lk d u od H H1) {b : Addr} (h : H1 b = none) : H b = none := by
  rw [L.eq] at h
  by_cases z : b = d
  · subst z; rw [upd_same] at h; cases h
  · rw [upd_ne z] at h; exact h
theorem Lk.scr {d : Addr} {u : HO} {od : Obj} {H H1 : Hp} (L : Lk d u od H H1) {b : Addr} {xs : List V} (h : Scr K H b xs) : Scr K H1 b xs := by
  rcases h with ⟨o, h⟩ | h
  · exact .inl ⟨o, L.frz h⟩
  · exact .inr h
theorem w_lock {d : Addr} {u : HO} (h : H d = some u) (m : Mut (some u)) (ni : ¬ Imm u) (k : ∀ od H1, Lk d u od H H1 → t ⟨fun σ' H' => H' d = some (.frz od u) ∧ nx σ' (upd H' d u), fun v H' => H' d = some (.frz od u) ∧ rt v (upd H' d u), fun σ' H' => H' d = some (.frz od u) ∧ bk σ' (upd H' d u), fun σ' H' => H' d = some (.frz od u) ∧ ct σ' (upd H' d u)⟩ σ H1) :
    tLock t ⟨nx, rt, bk, ct⟩ σ H := ⟨d, u, h, m, fun od => k od _ ⟨h, ni, rfl⟩⟩
theorem w_lockE {d : Addr} {u : HO} (h : H d = some u) (m : Mut (some u)) (ni : ¬ Imm u) (k : ∀ od H1, Lk d u od H H1 → te σ H1 fun v H' => H' d = some (.frz od u) ∧ Q v (upd H' d u)) : tLockE te σ H Q := ⟨d, u, h, m, fun od => k od _ ⟨h, ni, rfl⟩⟩
theorem w_unlock {d : Addr} {u : HO} {od : Obj} {H0 H1 : Hp} {M : List Addr} {N : Hp → Prop} (L : Lk d u od H0 H1) (e : Ext M H1 H) (k : ∀ H', Ext M H0 H' → (∀ b o, H b = some o → b ≠ d → H' b = some o) → N H') : H d = some (.frz od u) ∧ N (upd H d u) := by
  refine ⟨e.imm _ _ L.at trivial, k _ ?_ fun b o h n => by rw [upd_ne n]; exact h⟩
  have e' := e
  rw [L.eq] at e'
  exact Ext.lock L.was L.ni e'
theorem w_iKeys {R : It → Hp → Prop} (h : te σ H fun x H1 => ∃ d o, x = .ref d ∧ ((∃ kvs, H1 d = some (.frz o (.dK kvs)) ∧ R (Itk d o kvs) H1) ∨ ∃ kvs, H1 d = some (.frz o (.dT kvs)) ∧ R (Itkt d o kvs) H1)) : iKeys te σ H R := h
theorem w_keysK {kvs : List (Key × V)} {o : Obj} {R : It → Hp → Prop} (h : H a = some (.frz o (.dK kvs))) (q : R (Itk a o kvs) H) : ∃ d o, V.ref a = .ref d ∧ ((∃ kvs, H d = some (.frz o (.dK kvs)) ∧ R (Itk d o kvs) H) ∨ ∃ kvs, H d = some (.frz o (.dT kvs)) ∧ R (Itkt d o kvs) H) := ⟨a, o, rfl, .inl ⟨kvs, h, q⟩⟩
theorem w_keysV {kvs : List (Key × V)} {o : Obj} {R : It → Hp → Prop} (e : σ[i]? = some (some (.ref a))) (h : H a = some (.frz o (.dK kvs))) (q : R (Itk a o kvs) H) : iKeys (tVar i) σ H R := ⟨.ref a, e, a, o, rfl, .inl ⟨kvs, h, q⟩⟩
theorem w_dgetR {kvs : List (Key × V)} {z : Str} {P : V → Prop} (h : Rd H a (.dK kvs)) (e : valV kvs (Sum.inr z : Key) = some v) (q : P v) : ∃ b u, V.ref a = .ref b ∧ DGet H b (.str z) (some u) ∧ P u := ⟨a, v, rfl, .inl ⟨kvs, Sum.inr z, h, rfl, e.symm⟩, q⟩
theorem w_dinS {kvs : List (Key × V)} {z : Str} {P : Option V → Prop} (h : Rd H a (.dK kvs)) (q : P (valV kvs (Sum.inr z : Key))) : ∃ b o, V.ref a = .ref b ∧ DGet H b (.str z) o ∧ P o := ⟨a, _, rfl, .inl ⟨kvs, Sum.inr z, h, rfl, rfl⟩, q⟩
/-! loops by an invariant; what a turn is to reach is a letter -/
theorem z_for_list {xs : List V} {g : TG} (Pv : Nat → St → Hp → Prop) (h0 : Pv 0 σ H) (hl : ∀ i σ H, i ≤ xs.length → Pv i σ H → SqL K H a xs)
    (hs : ∀ (N : St → Hp → Prop) i x σ H, xs[i]? = some x → Pv i σ H → (∀ σ' H', Pv (i + 1) σ' H' → N σ' H') → g x σ H fun σ2 H2 => t ⟨N, rt, nx, N⟩ σ2 H2) (hd : ∀ σ H, Pv xs.length σ H → nx σ H) :
    ∃ W : Nat → Nat → St → Hp → Prop, (∃ m, W 0 m σ H) ∧ ∀ i m σ H, W i m σ H →
      ((Itl K a).stop i H ∧ nx σ H) ∨ ((Itl K a).go i H ∧ ∃ N : St → Hp → Prop, (∀ σ' H', N σ' H' → ∃ m', m' < m ∧ W (i + 1) m' σ' H') ∧ ∀ x H', (Itl K a).yld i H x H' → g x σ H' fun σ2 H2 => t ⟨N, rt, nx, N⟩ σ2 H2) :=
  for_list (D := ⟨nx, rt, nx, nx⟩) Pv h0 hl (fun i x σ H hx p => hs (Pv (i + 1)) i x σ H hx p fun _ _ q => q) hd
theorem z_for_tup {xs : List V} {g : TG} (Pv : Nat → St → Hp → Prop) (h0 : Pv 0 σ H) (hl : ∀ i σ H, i ≤ xs.length → Pv i σ H → SqT K H a xs)
    (hs : ∀ (N : St → Hp → Prop) i x σ H, xs[i]? = some x → Pv i σ H → (∀ σ' H', Pv (i + 1) σ' H' → N σ' H') → g x σ H fun σ2 H2 => t ⟨N, rt, nx, N⟩ σ2 H2) (hd : ∀ σ H, Pv xs.length σ H → nx σ H) :
    ∃ W : Nat → Nat → St → Hp → Prop, (∃ m, W 0 m σ H) ∧ ∀ i m σ H, W i m σ H →
      ((Itt K a).stop i H ∧ nx σ H) ∨ ((Itt K a).go i H ∧ ∃ N : St → Hp → Prop, (∀ σ' H', N σ' H' → ∃ m', m' < m ∧ W (i + 1) m' σ' H') ∧ ∀ x H', (Itt K a).yld i H x H' → g x σ H' fun σ2 H2 => t ⟨N, rt, nx, N⟩ σ2 H2) :=
  for_tup (D := ⟨nx, rt, nx, nx⟩) Pv h0 hl (fun i x σ H hx p => hs (Pv (i + 1)) i x σ H hx p fun _ _ q => q) hd
theorem z_for_range {lo : Int} {n : Nat} {g : TG} (Pv : Nat → St → Hp → Prop) (h0 : Pv 0 σ H)
    (hs : ∀ (N : St → Hp → Prop) i σ H, i < n → Pv i σ H → (∀ σ' H', Pv (i + 1) σ' H' → N σ' H') → g (.int (lo + i)) σ H fun σ2 H2 => t ⟨N, rt, nx, N⟩ σ2 H2) (hd : ∀ σ H, Pv n σ H → nx σ H) :
    ∃ W : Nat → Nat → St → Hp → Prop, (∃ m, W 0 m σ H) ∧ ∀ i m σ H, W i m σ H →
      ((Itr lo n).stop i H ∧ nx σ H) ∨ ((Itr lo n).go i H ∧ ∃ N : St → Hp → Prop, (∀ σ' H', N σ' H' → ∃ m', m' < m ∧ W (i + 1) m' σ' H') ∧ ∀ x H', (Itr lo n).yld i H x H' → g x σ H' fun σ2 H2 => t ⟨N, rt, nx, N⟩ σ2 H2) :=
  for_range (D := ⟨nx, rt, nx, nx⟩) Pv h0 (fun i σ H hx p => hs (Pv (i + 1)) i σ H hx p fun _ _ q => q) hd
theorem z_for_str {z : Str} {g : TG} (Pv : Nat → St → Hp → Prop) (h0 : Pv 0 σ H)
    (hs : ∀ (N : St → Hp → Prop) i c σ H, z.cps[i]? = some c → Pv i σ H → (∀ σ' H', Pv (i + 1) σ' H' → N σ' H') → g (.str ⟨#[c]⟩) σ H fun σ2 H2 => t ⟨N, rt, nx, N⟩ σ2 H2) (hd : ∀ σ H, Pv z.cps.size σ H → nx σ H) :
    ∃ W : Nat → Nat → St → Hp → Prop, (∃ m, W 0 m σ H) ∧ ∀ i m σ H, W i m σ H →
      ((Its z).stop i H ∧ nx σ H) ∨ ((Its z).go i H ∧ ∃ N : St → Hp → Prop, (∀ σ' H', N σ' H' → ∃ m', m' < m ∧ W (i + 1) m' σ' H') ∧ ∀ x H', (Its z).yld i H x H' → g x σ H' fun σ2 H2 => t ⟨N, rt, nx, N⟩ σ2 H2) := by
  refine ⟨fun i m σ H => m = z.cps.size - i ∧ i ≤ z.cps.size ∧ Pv i σ H, ⟨_, rfl, Nat.zero_le _, h0⟩, ?_⟩
  rintro i m σ H ⟨rfl, hi, p⟩
  by_cases hlt : i < z.cps.size
  · refine .inr ⟨hlt, Pv (i + 1), fun σ' H' p' => ⟨z.cps.size - (i + 1), by omega, rfl, hlt, p'⟩, fun x H' y => ?_⟩
    obtain ⟨e, c, hc, rfl⟩ := y
    subst e
    exact hs (Pv (i + 1)) i c σ _ hc p fun _ _ q => q
  · have e : i = z.cps.size := by omega
    subst e
    exact .inl ⟨Nat.le_refl _, hd σ H p⟩
/-- over the keys of a locked dict -/
theorem z_for_keys {kvs : List (Key × V)} {d : Addr} {o : Obj} {g : TG} (Pv : Nat → St → Hp → Prop) (h0 : Pv 0 σ H) (hl : ∀ i σ H, i ≤ kvs.length → Pv i σ H → H d = some (.frz o (.dK kvs)))
    (hs : ∀ (N : St → Hp → Prop) i k v σ H, kvs[i]? = some (k, v) → Pv i σ H → (∀ σ' H', Pv (i + 1) σ' H' → N σ' H') → g (kV k) σ H fun σ2 H2 => t ⟨N, rt, nx, N⟩ σ2 H2) (hd : ∀ σ H, Pv kvs.length σ H → nx σ H) :
    ∃ W : Nat → Nat → St → Hp → Prop, (∃ m, W 0 m σ H) ∧ ∀ i m σ H, W i m σ H →
      ((Itk d o kvs).stop i H ∧ nx σ H) ∨ ((Itk d o kvs).go i H ∧ ∃ N : St → Hp → Prop, (∀ σ' H', N σ' H' → ∃ m', m' < m ∧ W (i + 1) m' σ' H') ∧ ∀ x H', (Itk d o kvs).yld i H x H' → g x σ H' fun σ2 H2 => t ⟨N, rt, nx, N⟩ σ2 H2) := by
  refine ⟨fun i m σ H => m = kvs.length - i ∧ i ≤ kvs.length ∧ Pv i σ H, ⟨_, rfl, Nat.zero_le _, h0⟩, ?_⟩
  rintro i m σ H ⟨rfl, hi, p⟩
  by_cases hlt : i < kvs.length
  · refine .inr ⟨⟨hl i σ H hi p, hlt⟩, Pv (i + 1), fun σ' H' p' => ⟨kvs.length - (i + 1), by omega, rfl, hlt, p'⟩, fun x H' y => ?_⟩
    obtain ⟨e, k, v, hk, rfl⟩ := y
    subst e
    exact hs (Pv (i + 1)) i k v σ _ hk p fun _ _ q => q
  · have e : i = kvs.length := by omega
    subst e
    exact .inl ⟨⟨hl _ σ H hi p, Nat.le_refl _⟩, hd σ H p⟩
/-! comprehensions -/
theorem w_lc {wi : TI} {g : TG} {vs : List Nat} (h : wi σ H fun J H1 => ∀ D, H1 D = none → ∃ W : Nat → Nat → Hp → Prop, (∃ m, W 0 m (upd H1 D (.lst []))) ∧ ∀ i m H, W i m H →
  (J.stop i H ∧ Q (.ref D) H) ∨ (J.go i H ∧ ∃ Nx : Hp → Prop, (∀ H', Nx H' → ∃ m', m' < m ∧ W (i + 1) m' H') ∧ ∀ x H', J.yld i H x H' → g x (wipe σ vs) H' fun σ2 H2 => wipe σ2 vs = wipe σ vs ∧ tt σ2 H2 fun b H3 =>
    if b = true then te σ2 H3 fun y H4 => ∃ acc, H4 D = some (.lst acc) ∧ acc.length < sizeLine ∧ Nx (upd H4 D (.lst (acc ++ [y]))) else Nx H3)) : tLc wi g tt te vs σ H Q := h
theorem w_app {Nx : Hp → Prop} {acc : List V} {D : Addr} (hD : H D = some (.lst acc)) (c : acc.length < sizeLine) (k : ∀ H', Ext [D] H H' → H' D = some (.lst (acc ++ [y])) → Nx H') :
    ∃ acc, H D = some (.lst acc) ∧ acc.length < sizeLine ∧ Nx (upd H D (.lst (acc ++ [y]))) := ⟨acc, hD, c, k _ (Ext.mut hD (fun z => z) (List.mem_singleton.mpr rfl)) upd_same⟩
theorem z_lc_list {xs : List V} {g : TG} {vs : List Nat} {D : Addr} {Qd : Hp → Prop} (Pv : Nat → List V → Hp → Prop) (nD : H D = none) (h0 : ∀ H', Ext [] H H' → Pv 0 [] H') (hl : ∀ i acc H, i ≤ xs.length → Pv i acc H → SqL K H a xs)
    (hs : ∀ (Nx : Hp → Prop) i x acc H, xs[i]? = some x → Pv i acc H → H D = some (.lst acc) → (∀ acc' H', Pv (i + 1) acc' H' → H' D = some (.lst acc') → Nx H') → g x (wipe σ vs) H fun σ2 H2 => wipe σ2 vs = wipe σ vs ∧ tt σ2 H2 fun b H3 =>
      if b = true then te σ2 H3 fun y H4 => ∃ acc, H4 D = some (.lst acc) ∧ acc.length < sizeLine ∧ Nx (upd H4 D (.lst (acc ++ [y]))) else Nx H3) (hd : ∀ acc H, Pv xs.length acc H → H D = some (.lst acc) → Qd H) :
    ∃ W : Nat → Nat → Hp → Prop, (∃ m, W 0 m (upd H D (.lst []))) ∧ ∀ i m H, W i m H →
      ((Itl K a).stop i H ∧ Qd H) ∨ ((Itl K a).go i H ∧ ∃ Nx : Hp → Prop, (∀ H', Nx H' → ∃ m', m' < m ∧ W (i + 1) m' H') ∧ ∀ x H', (Itl K a).yld i H x H' → g x (wipe σ vs) H' fun σ2 H2 => wipe σ2 vs = wipe σ vs ∧ tt σ2 H2 fun b H3 =>
        if b = true then te σ2 H3 fun y H4 => ∃ acc, H4 D = some (.lst acc) ∧ acc.length < sizeLine ∧ Nx (upd H4 D (.lst (acc ++ [y]))) else Nx H3) :=
  lc_list (fun i H => ∃ acc, Pv i acc H ∧ H D = some (.lst acc)) ⟨[], h0 _ (Ext.new nD), upd_same⟩ (fun i H hi ⟨acc, p, _⟩ => hl i acc H hi p)
    (fun i x H hx ⟨acc, p, hD⟩ => hs _ i x acc H hx p hD fun acc' H' p' h' => ⟨acc', p', h'⟩) fun H ⟨acc, p, hD⟩ => hd acc H p hD
theorem z_lc_tup {xs : List V} {g : TG} {vs : List Nat} {D : Addr} {Qd : Hp → Prop} (Pv : Nat → List V → Hp → Prop) (nD : H D = none) (h0 : ∀ H', Ext [] H H' → Pv 0 [] H') (hl : ∀ i acc H, i ≤ xs.length → Pv i acc H → SqT K H a xs)
    (hs : ∀ (Nx : Hp → Prop) i x acc H, xs[i]? = some x → Pv i acc H → H D = some (.lst acc) → (∀ acc' H', Pv (i + 1) acc' H' → H' D = some (.lst acc') → Nx H') → g x (wipe σ vs) H fun σ2 H2 => wipe σ2 vs = wipe σ vs ∧ tt σ2 H2 fun b H3 =>
      if b = true then te σ2 H3 fun y H4 => ∃ acc, H4 D = some (.lst acc) ∧ acc.length < sizeLine ∧ Nx (upd H4 D (.lst (acc ++ [y]))) else Nx H3) (hd : ∀ acc H, Pv xs.length acc H → H D = some (.lst acc) → Qd H) :
    ∃ W : Nat → Nat → Hp → Prop, (∃ m, W 0 m (upd H D (.lst []))) ∧ ∀ i m H, W i m H →
      ((Itt K a).stop i H ∧ Qd H) ∨ ((Itt K a).go i H ∧ ∃ Nx : Hp → Prop, (∀ H', Nx H' → ∃ m', m' < m ∧ W (i + 1) m' H') ∧ ∀ x H', (Itt K a).yld i H x H' → g x (wipe σ vs) H' fun σ2 H2 => wipe σ2 vs = wipe σ vs ∧ tt σ2 H2 fun b H3 =>
        if b = true then te σ2 H3 fun y H4 => ∃ acc, H4 D = some (.lst acc) ∧ acc.length < sizeLine ∧ Nx (upd H4 D (.lst (acc ++ [y]))) else Nx H3) :=
  lc_tup (fun i H => ∃ acc, Pv i acc H ∧ H D = some (.lst acc)) ⟨[], h0 _ (Ext.new nD), upd_same⟩ (fun i H hi ⟨acc, p, _⟩ => hl i acc H hi p)
    (fun i x H hx ⟨acc, p, hD⟩ => hs _ i x acc H hx p hD fun acc' H' p' h' => ⟨acc', p', h'⟩) fun H ⟨acc, p, hD⟩ => hd acc H p hD
theorem z_lc_range {lo : Int} {n : Nat} {g : TG} {vs : List Nat} {D : Addr} {Qd : Hp → Prop} (Pv : Nat → List V → Hp → Prop) (nD : H D = none) (h0 : ∀ H', Ext [] H H' → Pv 0 [] H')
    (hs : ∀ (Nx : Hp → Prop) i acc H, i < n → Pv i acc H → H D = some (.lst acc) → (∀ acc' H', Pv (i + 1) acc' H' → H' D = some (.lst acc') → Nx H') → g (.int (lo + i)) (wipe σ vs) H fun σ2 H2 => wipe σ2 vs = wipe σ vs ∧ tt σ2 H2 fun b H3 =>
      if b = true then te σ2 H3 fun y H4 => ∃ acc, H4 D = some (.lst acc) ∧ acc.length < sizeLine ∧ Nx (upd H4 D (.lst (acc ++ [y]))) else Nx H3) (hd : ∀ acc H, Pv n acc H → H D = some (.lst acc) → Qd H) :
    ∃ W : Nat → Nat → Hp → Prop, (∃ m, W 0 m (upd H D (.lst []))) ∧ ∀ i m H, W i m H →
      ((Itr lo n).stop i H ∧ Qd H) ∨ ((Itr lo n).go i H ∧ ∃ Nx : Hp → Prop, (∀ H', Nx H' → ∃ m', m' < m ∧ W (i + 1) m' H') ∧ ∀ x H', (Itr lo n).yld i H x H' → g x (wipe σ vs) H' fun σ2 H2 => wipe σ2 vs = wipe σ vs ∧ tt σ2 H2 fun b H3 =>
        if b = true then te σ2 H3 fun y H4 => ∃ acc, H4 D = some (.lst acc) ∧ acc.length < sizeLine ∧ Nx (upd H4 D (.lst (acc ++ [y]))) else Nx H3) :=
  lc_range (fun i H => ∃ acc, Pv i acc H ∧ H D = some (.lst acc)) ⟨[], h0 _ (Ext.new nD), upd_same⟩
    (fun i H hx ⟨acc, p, hD⟩ => hs _ i acc H hx p hD fun acc' H' p' h' => ⟨acc', p', h'⟩) fun H ⟨acc, p, hD⟩ => hd acc H p hD
theorem z_lc_keys {kvs : List (Key × V)} {d : Addr} {o : Obj} {g : TG} {vs : List Nat} {D : Addr} {Qd : Hp → Prop} (Pv : Nat → List V → Hp → Prop) (nD : H D = none) (h0 : ∀ H', Ext [] H H' → Pv 0 [] H') (hl : ∀ i acc H, i ≤ kvs.length → Pv i acc H → H d = some (.frz o (.dK kvs)))
    (hs : ∀ (Nx : Hp → Prop) i k v acc H, kvs[i]? = some (k, v) → Pv i acc H → H D = some (.lst acc) → (∀ acc' H', Pv (i + 1) acc' H' → H' D = some (.lst acc') → Nx H') → g (kV k) (wipe σ vs) H fun σ2 H2 => wipe σ2 vs = wipe σ vs ∧ tt σ2 H2 fun b H3 =>
      if b = true then te σ2 H3 fun y H4 => ∃ acc, H4 D = some (.lst acc) ∧ acc.length < sizeLine ∧ Nx (upd H4 D (.lst (acc ++ [y]))) else Nx H3) (hd : ∀ acc H, Pv kvs.length acc H → H D = some (.lst acc) → Qd H) :
    ∃ W : Nat → Nat → Hp → Prop, (∃ m, W 0 m (upd H D (.lst []))) ∧ ∀ i m H, W i m H →
      ((Itk d o kvs).stop i H ∧ Qd H) ∨ ((Itk d o kvs).go i H ∧ ∃ Nx : Hp → Prop, (∀ H', Nx H' → ∃ m', m' < m ∧ W (i + 1) m' H') ∧ ∀ x H', (Itk d o kvs).yld i H x H' → g x (wipe σ vs) H' fun σ2 H2 => wipe σ2 vs = wipe σ vs ∧ tt σ2 H2 fun b H3 =>
        if b = true then te σ2 H3 fun y H4 => ∃ acc, H4 D = some (.lst acc) ∧ acc.length < sizeLine ∧ Nx (upd H4 D (.lst (acc ++ [y]))) else Nx H3) := by
  refine ⟨fun i m H => m = kvs.length - i ∧ i ≤ kvs.length ∧ ∃ acc, Pv i acc H ∧ H D = some (.lst acc), ⟨_, rfl, Nat.zero_le _, [], h0 _ (Ext.new nD), upd_same⟩, ?_⟩
  rintro i m H ⟨rfl, hi, acc, p, hD⟩
  by_cases hlt : i < kvs.length
  · refine .inr ⟨⟨hl i acc H hi p, hlt⟩, (fun H => ∃ acc, Pv (i + 1) acc H ∧ H D = some (.lst acc)), fun H' p' => ⟨kvs.length - (i + 1), by omega, rfl, hlt, p'⟩, fun x H' y => ?_⟩
    obtain ⟨e, k, v, hk, rfl⟩ := y
    subst e
    exact hs _ i k v acc _ hk p hD fun acc' H' p' h' => ⟨acc', p', h'⟩
  · have e : i = kvs.length := by omega
    subst e
    exact .inl ⟨⟨hl _ acc H hi p, Nat.le_refl _⟩, hd acc H p hD⟩
end
end Zk

set_option Elab.async false
set_option linter.all false
set_option maxRecDepth 100000
set_option maxHeartbeats 4000000
namespace Zk
open PySem PySem.Spec L2
open PyProof.Rows hiding St

/-! ### slots: a text and two ints; their order -/
abbrev Slot := Str × Int × Int
def sVs (s : Slot) : List V := [.str s.1, .int s.2.1, .int s.2.2]
def sKey (s : Slot) : List Key := [Sum.inr s.1, Sum.inl s.2.1, Sum.inl s.2.2]
theorem sKey_vs (s : Slot) : (sKey s).map kV = sVs s := rfl
theorem sKey_inj {s t : Slot} (h : sKey s = sKey t) : s = t := by
  unfold sKey at h
  injection h with h1 h2
  injection h2 with h2 h3
  injection h3 with h3 _
  obtain ⟨a, b, c⟩ := s
  obtain ⟨a', b', c'⟩ := t
  simp only [Sum.inr.injEq, Sum.inl.injEq] at h1 h2 h3
  subst h1 h2 h3
  rfl
theorem sVs_inj {s t : Slot} (h : sVs s = sVs t) : s = t := by
  obtain ⟨a, b, c⟩ := s
  obtain ⟨a', b', c'⟩ := t
  unfold sVs at h
  simp only [List.cons.injEq, V.str.injEq, V.int.injEq] at h
  obtain ⟨h1, h2, h3, _⟩ := h
  subst h1 h2 h3
  rfl
def sLt (p q : Slot) : Bool := if p.1 = q.1 then (if p.2.1 = q.2.1 then decide (p.2.2 < q.2.2) else decide (p.2.1 < q.2.1)) else decide (p.1.cps.toList < q.1.cps.toList)
theorem str_tri (a b : Str) : a.cps.toList < b.cps.toList ∨ a = b ∨ b.cps.toList < a.cps.toList := by
  by_cases h : a.cps.toList < b.cps.toList
  · exact .inl h
  · by_cases h2 : b.cps.toList < a.cps.toList
    · exact .inr (.inr h2)
    · refine .inr (.inl ?_)
      have := List.le_antisymm (List.not_lt.mp h2) (List.not_lt.mp h)
      cases a; cases b
      simp only [Str.mk.injEq]
      exact Array.toList_inj.mp this
def SLt (p q : Slot) : Prop := p.1.cps.toList < q.1.cps.toList ∨ (p.1 = q.1 ∧ (p.2.1 < q.2.1 ∨ (p.2.1 = q.2.1 ∧ p.2.2 < q.2.2)))
theorem sLt_iff {p q : Slot} : sLt p q = true ↔ SLt p q := by
  unfold sLt SLt
  by_cases e : p.1 = q.1
  · rw [if_pos e]
    have no : ¬ p.1.cps.toList < q.1.cps.toList := by rw [e]; exact List.lt_irrefl _
    by_cases e2 : p.2.1 = q.2.1
    · rw [if_pos e2, decide_eq_true_eq]
      constructor
      · intro h; exact .inr ⟨e, .inr ⟨e2, h⟩⟩
      · rintro (h | ⟨_, h | h⟩)
        · exact absurd h no
        · omega
        · exact h.2
    · rw [if_neg e2, decide_eq_true_eq]
      constructor
      · intro h; exact .inr ⟨e, .inl h⟩
      · rintro (h | ⟨_, h | h⟩)
        · exact absurd h no
        · exact h
        · exact absurd h.1 e2
  · rw [if_neg e, decide_eq_true_eq]
    constructor
    · intro h; exact .inl h
    · rintro (h | h)
      · exact h
      · exact absurd h.1 e
theorem SLt.tri (p q : Slot) : SLt p q ∨ p = q ∨ SLt q p := by
  obtain ⟨a, b, c⟩ := p
  obtain ⟨a', b', c'⟩ := q
  unfold SLt
  rcases str_tri a a' with h | h | h
  · exact .inl (.inl h)
  · subst h
    rcases Int.lt_trichotomy b b' with h | h | h
    · exact .inl (.inr ⟨rfl, .inl h⟩)
    · subst h
      rcases Int.lt_trichotomy c c' with h | h | h
      · exact .inl (.inr ⟨rfl, .inr ⟨rfl, h⟩⟩)
      · subst h; exact .inr (.inl rfl)
      · exact .inr (.inr (.inr ⟨rfl, .inr ⟨rfl, h⟩⟩))
    · exact .inr (.inr (.inr ⟨rfl, .inl h⟩))
  · exact .inr (.inr (.inl h))
theorem SLt.trans {p q r : Slot} (h1 : SLt p q) (h2 : SLt q r) : SLt p r := by
  unfold SLt at *
  rcases h1 with h1 | ⟨e1, h1⟩ <;> rcases h2 with h2 | ⟨e2, h2⟩
  · exact .inl (List.lt_trans h1 h2)
  · exact .inl (by rw [← e2]; exact h1)
  · exact .inl (by rw [e1]; exact h2)
  · exact .inr ⟨e1.trans e2, by omega⟩
theorem SLt.irr {p : Slot} (h : SLt p p) : False := by
  unfold SLt at h
  rcases h with h | ⟨_, h⟩
  · exact List.lt_irrefl _ h
  · omega
theorem sLt_no {p q : Slot} : sLt p q = false ↔ ¬ SLt p q := by rw [← sLt_iff]; simp
theorem sLt_swo {α : Type} (k : α → Slot) : SrtO.Swo fun v u => sLt (k v) (k u) := by
  refine ⟨fun x y h => sLt_no.mpr fun z => (SLt.trans (sLt_iff.mp h) z).irr, fun x y z h1 h2 => sLt_no.mpr fun q => ?_⟩
  have a := sLt_no.mp h1
  have b := sLt_no.mp h2
  rcases SLt.tri (k x) (k y) with c | c | c
  · exact b (SLt.trans q c)
  · rw [← c] at b; exact b q
  · exact a c
/-! ### sorting lists of slots, of any length -/
section
variable {prog : Program} {w : World} {A : Around} {E : Value → Shared → Prop} {s : Shared}
def IsSlotV (h : Heap) (v : Value) (z : Slot) : Prop := ∃ (a : Addr) (o : Obj) (t u r : Tok) (n : Nat), v = .ref a ∧ h.get? a = some o ∧ o.cls = .type "tuple" ∧ o.data = .seq #[.str z.1 t, .int z.2.1 u, .int z.2.2 r] n
theorem IsSlotV.stays {h h' : Heap} {v : Value} {z : Slot} (p : IsSlotV h v z) (k : ∀ b o, h.get? b = some o → o.cls = .type "tuple" → h'.get? b = some o) : IsSlotV h' v z := by
  obtain ⟨a, o, t, u, r, n, e, ho, hc, hd⟩ := p
  exact ⟨a, o, t, u, r, n, e, k _ _ ho hc, hc, hd⟩
theorem slot_cmp {vs : List Value} {k : Value → Slot} (hp : ∀ v ∈ vs, IsSlotV s.heap v (k v)) : SrtO.Cmp prog w A s (tuples' true) (fun p => p.1 ∈ vs) (SrtO.lt2 fun v u => sLt (k v) (k u)) := by
  intro p q hm hm'
  have g1 := hp _ hm
  have g2 := hp _ hm'
  show wpAny (model prog w) A (keyLt' (tuples' true) p.1 q.1) (fun r s' => s' = s ∧ r = sLt (k p.1) (k q.1)) (fun _ _ => False) s
  generalize k p.1 = x at g1 ⊢
  generalize k q.1 = y at g2 ⊢
  obtain ⟨x1, x2, x3⟩ := x
  obtain ⟨y1, y2, y3⟩ := y
  obtain ⟨a, o, t, u, r, n, e, ho, hc, hd⟩ := g1
  obtain ⟨a', o', t', u', r', n', e', ho', hc', hd'⟩ := g2
  rw [e, e']
  refine PySem.W.kat_lt ho hd ho' hd' ?_
  show PySem.W.KatLex prog w A true (decide (3 < 3)) _ [(.str x1 t, .str y1 t'), (.int x2 u, .int y2 u'), (.int x3 r, .int y3 r')] 0 s
  refine PySem.W.kat_cons (wpAny_eqBool_str ?_)
  refine PySem.W.kat_go (fun e1 => ?_) (fun e1 => ?_)
  · have ex : x1 = y1 := by simpa using e1
    refine PySem.W.kat_yes (PySem.W.kat_cons (wpAny_eqBool_int ?_))
    refine PySem.W.kat_go (fun e2 => ?_) (fun e2 => ?_)
    · have ey : x2 = y2 := by simpa using e2
      refine PySem.W.kat_yes (PySem.W.kat_cons (wpAny_eqBool_int ?_))
      refine PySem.W.kat_go (fun e3 => ?_) (fun e3 => ?_)
      · have ez : x3 = y3 := by simpa using e3
        refine PySem.W.kat_yes (PySem.W.kat_nil ⟨rfl, ?_⟩)
        show false = sLt (x1, x2, x3) (y1, y2, y3)
        unfold sLt
        rw [if_pos ex, if_pos ey, ez]
        exact (decide_eq_false (Int.lt_irrefl _)).symm
      · refine PySem.W.kat_no (PySem.W.kat_one _ _ (lt_int ?_))
        refine (show s = s ∧ decide (x3 < y3) = sLt (x1, x2, x3) (y1, y2, y3) from ⟨rfl, ?_⟩)
        unfold sLt
        rw [if_pos ex, if_pos ey]
    · have ey : ¬ x2 = y2 := by simpa using e2
      refine PySem.W.kat_no (PySem.W.kat_one _ _ (lt_int ?_))
      refine (show s = s ∧ decide (x2 < y2) = sLt (x1, x2, x3) (y1, y2, y3) from ⟨rfl, ?_⟩)
      unfold sLt
      rw [if_pos ex, if_neg ey]
  · have ex : ¬ x1 = y1 := by simpa using e1
    refine PySem.W.kat_no (oneLt_str ?_)
    refine (show s = s ∧ decide (x1.cps.toList < y1.cps.toList) = sLt (x1, x2, x3) (y1, y2, y3) from ⟨rfl, ?_⟩)
    unfold sLt
    rw [if_neg ex]
theorem slot_firsts {h : Heap} : ∀ {vs : List Value}, (∀ v ∈ vs, ∃ z, IsSlotV h v z) → ∃ fs : List Value, PySem.W.KatTups h vs fs ∧ fs.length = vs.length ∧ ∀ f ∈ fs, ∃ x t, f = Value.str x t
  | [], _ => ⟨[], PySem.W.KatTups.nil, rfl, fun _ z => nomatch z⟩
  | v :: vs, hp => by
    obtain ⟨fs, k, hl, hi⟩ := slot_firsts (vs := vs) fun u m => hp u (List.mem_cons_of_mem _ m)
    obtain ⟨z, a, o, t, u, r, n, rfl, ho, hc, hd⟩ := hp v List.mem_cons_self
    refine ⟨.str z.1 t :: fs, PySem.W.KatTups.cons ho hc hd rfl k, congrArg (· + 1) hl, fun f m => ?_⟩
    rcases List.mem_cons.mp m with m | m
    · exact ⟨_, _, m⟩
    · exact hi f m
theorem slots_able {a : Addr} {vs : List Value} {k : Value → Slot} (h0 : 0 < vs.length) (hp : ∀ v ∈ vs, IsSlotV s.heap v (k v)) (ha : ∀ o, s.heap.get? a = some o → o.cls ≠ .type "tuple") : SrtO.SortableO prog w A s a vs fun v u => sLt (k v) (k u) := by
  intro h' keep
  have g : ∀ v ∈ vs, IsSlotV h' v (k v) := fun v m => (hp v m).stays fun b o e c => keep b o (fun z => ha o (z ▸ e) c) e
  obtain ⟨fs, k1, hl, hi⟩ := slot_firsts fun v m => ⟨_, g v m⟩
  refine ⟨tuples' true, fun Q E q => ?_, slot_cmp g⟩
  refine PySem.W.kat_kind (T := .type "str") k1 (by omega) (fun f m => ?_) (by rfl) ?_
  · obtain ⟨x, t, rfl⟩ := hi f m
    exact PySem.W.Looks.now
  · rw [show (Value.type "str" != Value.type "tuple") = true by decide +kernel]
    exact q
theorem sorted_slots {l : Addr} {vs : List Value} {k : Value → Slot} {Q : Value → Shared → Prop} (hl : s.heap.IsList l vs.toArray) (hz : vs.length ≤ sizeLine) (hp : ∀ v ∈ vs, IsSlotV s.heap v (k v))
    (h : ∀ (h' : Heap) (d : Addr) (out : List Value), SrtO.Srtd (fun v u => sLt (k v) (k u)) out → out.Perm vs → (∀ b o, s.heap.get? b = some o → h'.get? b = some o) → s.heap.objs.size ≤ d → (∃ n, h'.get? d = some (seqObj "list" out.toArray n)) → Q (.ref d) { s with heap := h' }) :
    wpAny (model prog w) A (call (.builtin "sorted") [.ref l]) Q E s := by
  refine SrtO.sorted_ord (sLt_swo k) hl hz (fun h2 g a ha kk => ?_) fun out hs hb => h _ _ out hs hb.perm (fun b o e => sortedAll_old e) (Nat.le_succ _) (sortedAll_at s.heap vs out.toArray)
  refine slots_able (s := { s with heap := g }) (by omega) (fun v m => (hp v m).stays fun b o e _ => (kk b o e).2) fun o e c => ?_
  rw [ha] at e
  cases e
  exact absurd (Value.type.inj c) (by decide)
end
/-- the slot whose tuple stands at a -/
def slotAt (H : Hp) (a : Addr) : Slot := match H a with
  | some (.tup [.str z, .int n, .int k]) => (z, n, k)
  | _ => (Str.empty, 0, 0)
theorem slotAt_eq {H : Hp} {a : Addr} {s : Slot} (h : H a = some (.tup (sVs s))) : slotAt H a = s := by
  unfold slotAt
  rw [h]
  rfl
/-- addresses and the slots whose tuples stand there -/
def SlotsAt (H : Hp) (as : List Addr) (ss : List Slot) : Prop := Paired (fun (a : Addr) (s : Slot) => H a = some (.tup (sVs s))) as ss
theorem SlotsAt.ext {M : List Addr} {H H' : Hp} {as : List Addr} {ss : List Slot} (h : SlotsAt H as ss) (e : Ext M H H') : SlotsAt H' as ss := Paired.mapP h fun _ _ q => e.tup q
theorem SlotsAt.map {H : Hp} : ∀ {as : List Addr} {ss : List Slot}, SlotsAt H as ss → ss = as.map (slotAt H)
  | _, _, .nil => rfl
  | _, _, .cons h t => by rw [List.map_cons, slotAt_eq h, ← SlotsAt.map t]
theorem SlotsAt.mem {H : Hp} : ∀ {as : List Addr} {ss : List Slot}, SlotsAt H as ss → ∀ a ∈ as, H a = some (.tup (sVs (slotAt H a)))
  | _, _, .nil, a, h => nomatch h
  | _, _, .cons h t, a, m => by
    rcases List.mem_cons.mp m with m | m
    · rw [m, slotAt_eq h]; exact h
    · exact SlotsAt.mem t a m
theorem SlotsAt.of {H : Hp} : ∀ {as : List Addr}, (∀ a ∈ as, H a = some (.tup (sVs (slotAt H a)))) → SlotsAt H as (as.map (slotAt H))
  | [], _ => .nil
  | a :: as, h => .cons (h a List.mem_cons_self) (SlotsAt.of fun b m => h b (List.mem_cons_of_mem _ m))
theorem refs_list : ∀ {us : List Value}, (∀ u ∈ us, ∃ a, u = Value.ref a) → ∃ bs : List Addr, us = bs.map Value.ref
  | [], _ => ⟨[], rfl⟩
  | u :: us, h => by
    obtain ⟨bs, e⟩ := refs_list fun v m => h v (List.mem_cons_of_mem _ m)
    obtain ⟨a, ea⟩ := h u List.mem_cons_self
    exact ⟨a :: bs, by rw [ea, e]; rfl⟩
theorem vals_refs : ∀ bs : List Addr, Vals (bs.map V.ref) (bs.map Value.ref)
  | [] => .nil
  | _ :: r => .cons rfl (vals_refs r)
theorem perm_of_map {as bs : List Addr} (h : (as.map Value.ref).Perm (bs.map Value.ref)) : as.Perm bs := by
  have e := h.map fun v => match v with | Value.ref a => a | _ => 0
  rw [List.map_map, List.map_map] at e
  have id1 : ∀ l : List Addr, l.map ((fun v => match v with | Value.ref a => a | _ => 0) ∘ Value.ref) = l := fun l => by
    induction l with
    | nil => rfl
    | cons a r ih => rw [List.map_cons, ih]; rfl
  rw [id1, id1] at e
  exact e
/-- sorted(a list of slots) -/
def cSortSl (K : PySem.W.Frag) : RC := fun vs H Q => ∃ (a : Addr) (as : List Addr) (ss : List Slot), vs = [V.ref a] ∧ SqL K H a (as.map V.ref) ∧ SlotsAt H as ss ∧
  ∀ (bs : List Addr) (ts : List Slot), SlotsAt H bs ts → ts.Perm ss → ts.Pairwise (fun x y => sLt y x = false) → Alc (.lst (bs.map V.ref)) H Q
section
variable {X : Cx}
theorem zc_sortSl : CallR X (.builtin "sorted") (cSortSl X.K) := by
  intro pins s σ H vs us Q I r h
  obtain ⟨a, as, ss, rfl, hs, hx, q⟩ := h
  obtain ⟨its, rv, hl, hz⟩ := I.list hs
  obtain ⟨u, rfl, ru⟩ := vals1 r
  obtain rfl : u = Value.ref a := ru
  obtain ⟨e1, e2⟩ := refs_back rv fun x m => by
    obtain ⟨t, _, e⟩ := List.mem_map.mp m
    exact ⟨t, e.symm⟩
  let k : Value → Slot := fun v => match v with | .ref b => slotAt H b | _ => (Str.empty, 0, 0)
  have hm : ∀ b : Addr, Value.ref b ∈ its → b ∈ as := fun b m => by
    have h1 : V.ref b ∈ as.map V.ref := by rw [e1]; exact List.mem_map.mpr ⟨_, m, rfl⟩
    obtain ⟨c, hc, e⟩ := List.mem_map.mp h1
    cases e
    exact hc
  refine sorted_slots (k := k) hl.isList (by rw [← rv.length]; exact hz) (fun v hv => ?_) fun h' d out h1 h2 kp hd hn => ?_
  · obtain ⟨t, rfl⟩ := e2 v hv
    have ht := SlotsAt.mem hx t (hm t hv)
    obtain ⟨_, its2, r2, o, ho, hc, n, hd⟩ := I.hok _ _ ht
    cases r2 with
    | cons ra r2 => cases r2 with
      | cons rb r2 => cases r2 with
        | cons rc r2 =>
          cases r2
          obtain ⟨t1, rfl⟩ := ra
          obtain ⟨t2, rfl⟩ := rb
          obtain ⟨t3, rfl⟩ := rc
          exact ⟨t, o, t1, t2, t3, n, rfl, ho, hc, hd⟩
  · have h3 : ∀ u ∈ out, ∃ a, u = Value.ref a := fun u hu => e2 u (h2.mem_iff.mp hu)
    obtain ⟨n, hn⟩ := hn
    obtain ⟨bs, hb⟩ := refs_list h3
    subst hb
    obtain ⟨cs, hcs⟩ := refs_list e2
    subst hcs
    have hac : as = cs := by
      rw [List.map_map] at e1
      refine List.map_inj_right (f := V.ref) (fun x y h => V.ref.inj h) |>.mp (e1.trans ?_)
      rfl
    subst hac
    have hp : bs.Perm as := perm_of_map h2
    have hbm : ∀ b ∈ bs, H b = some (.tup (sVs (slotAt H b))) := fun b m => SlotsAt.mem hx b (hp.mem_iff.mp m)
    have hq := q bs (bs.map (slotAt H)) (SlotsAt.of hbm) (by rw [SlotsAt.map hx]; exact hp.map _) (by
      rw [List.pairwise_map]
      have h1' := List.pairwise_map.mp h1
      exact h1')
    refine ⟨.ref d, upd H d (.lst (bs.map V.ref)), I.laid (t' := s.toks) kp hd ⟨?_, _, n, vals_refs bs, hn⟩, rfl, hq d (I.hok.fresh hd)⟩
    rw [List.length_map, hp.length_eq]
    rw [List.length_map] at hz
    exact hz
end

/-! ### d.clear() of a dict with tuple keys -/
def rClearT : V → List V → Hp → VK → Prop := fun x vs H Q => ∃ (a : Addr) (kvs : List (List Key × V)), x = .ref a ∧ vs = [] ∧ H a = some (.dT kvs) ∧ Chg a (.dT []) H (Q .non)
theorem zmt_clearT {X : Cx} : MtR X "dict.clear" rClearT := by
  intro pins s σ H x vs v us Q I rx rv h
  obtain ⟨a, kvs, rfl, rfl, e, q⟩ := h
  obtain rfl : v = Value.ref a := rx
  obtain rfl := rv.zero
  obtain ⟨z, hd, xs, rel, o, es, ep, ho, hx, hdat, he, hn⟩ := I.hok _ _ e
  have raw : s.heap.DictRaw a es ep := ⟨o, ho, hx, hdat⟩
  have hz : es.size ≤ sizeLine := by
    have h1 : es.toList.length = xs.length := by rw [he, List.length_map]
    have h2 := Paired.length rel
    rw [Array.length_toList] at h1
    omega
  refine call_meetsIn PySem.F.slot_dict_clear raw.typeIs PySem.F.entry_dict_clear (PySem.F.args_dict_clear_1 _) (meets_dict_clear_raw a) ⟨es, ep, raw, hz, fun h' r' hs => ?_⟩
  obtain ⟨o', ho', hx', hd'⟩ := r'
  refine ⟨.non, _, d_write (t' := s.toks) I (by rw [e]; exact True.intro) hs ⟨o', ho'⟩ ?_, rfl, q⟩
  exact ⟨Nat.zero_le _, hd, [], .nil, o', _, _, ho', hx', hd', rfl, List.nodup_nil⟩

/-! ### {slot: e for slot in ..}: a dict comprehension whose keys are tuples -/
section
variable {X : Cx} {pins : List (Addr × Obj)} {σ : St} {H : Hp} {s : Shared}
theorem dictSet_tup {E : Value → Shared → Prop} {D b : Addr} {kvs : List (List Key × V)} {k : List Key} {v : V} {r : Value} {Q : Unit → Shared → Prop} (hu : X.A.units + 1 < cLine) (I : L2.Inv X pins σ H s) (hD : H D = some (.dT kvs)) (hb : H b = some (.tup (k.map kV))) (hz : kvs.length < sizeLine)
    (rv : RelV v r) (h : ∀ s', L2.Inv X pins σ (upd H D (.dT (putK kvs k v))) s' → Q () s') : wpAny (model X.prog X.w) X.A (dictSet D (.ref b) r) Q E s := by
  obtain ⟨z, hd, xs, rel, dd⟩ := dt_of I.hok hD
  have hxl : xs.length ≤ sizeLine := by
    have := Paired.length rel
    omega
  have hl : (putK kvs k v).length ≤ sizeLine := by
    have := length_putK kvs k v
    omega
  refine wpAny_dictSet_heap (hsz := hxl) (show X.A.units < cLine from Nat.lt_of_succ_lt hu) (key_of I.hok hb) dd fun h' dd' hs => h _ ?_
  obtain ⟨q, es, ep, hq, a2, a3, a4, _, a5⟩ := dd'
  refine d_write I (by rw [hD]; exact True.intro) hs ⟨q, hq⟩ ⟨hl, hd, _, (rel.put k hb rv).keeps fun c ys ec => ?_, q, es, ep, hq, a2, a3, a4, a5⟩
  rw [upd_ne (ne_of ec hD (fun z => by cases z))]
  exact ec
/-- D: the new dict; W, Nx as in a list comprehension's reading -/
def zDcT (wi : TI) (g : TG) (tt : TT) (tk tv : TE) (vs : List Nat) : TE := fun σ H Q => wi σ H fun J H1 => ∀ D, H1 D = none → ∃ W : Nat → Nat → Hp → Prop, (∃ m, W 0 m (upd H1 D (.dT []))) ∧
  ∀ i m H, W i m H → (J.stop i H ∧ Q (.ref D) H) ∨ (J.go i H ∧ ∃ Nx : Hp → Prop, (∀ H', Nx H' → ∃ m', m' < m ∧ W (i + 1) m' H') ∧
    ∀ x H', J.yld i H x H' → g x (wipe σ vs) H' fun σ2 H2 => wipe σ2 vs = wipe σ vs ∧ tt σ2 H2 fun b H3 =>
      if b = true then tk σ2 H3 fun y H4 => tv σ2 H4 fun z H5 => ∃ kvs k q, y = .ref q ∧ H5 q = some (.tup (k.map kV)) ∧ H5 D = some (.dT kvs) ∧ kvs.length < sizeLine ∧ Nx (upd H5 D (.dT (putK kvs k z))) else Nx H3)
abbrev AllB (X : Cx) (scope : Scope) (G : Cx → Prop) : Prop := ∀ (s : Shared) (H : Hp) (C : Addr) (cl : List (Str × Addr)) (fp : List Addr), G (X.blk s H scope (compEnvC scope cl C X.env) fp)
theorem zdc_run {Q : VK} {kx vx tg iter : Expr} {ifs : List Expr} {scope : Scope} {own : List (Str × Nat)} {pos pos' : Pos} {wi : TI} {g : TG} {tt : TT} {tk tv : TE} {use : Option (Value → Sem Unit)} {Qf : Value → Shared → Prop}
    (hu : X.A.units + 1 < cLine) (hc : X.calm = true) (hN : X.N.Nodup) (I : L2.Inv X pins σ H s) (hi : PI X tg iter wi) (ok : BlkOk X.N X.env.scope scope own)
    (hg : AllB X scope fun Y => PG Y tg g) (ht : AllB X scope fun Y => PTs Y ifs tt) (hk : AllB X scope fun Y => PE Y kx tk) (he : AllB X scope fun Y => PE Y vx tv) (hs : ∀ x, foldedSetIterable iter X.env x = pure x)
    (h : zDcT wi g tt tk tv (own.map (·.2)) σ H Q)
    (fin : ∀ D C s' m H', L2.Inv X pins σ H' s' → Q (.ref D) H' → s'.heap.Ns C m → FpOk X pins H' C → compPost (model X.prog X.w) X.A X.xe use Qf (.ref D) C (.ok .next) s') :
    wpAny (model X.prog X.w) X.A (comprehension (.DictComp kx vx [⟨tg, iter, ifs, 0⟩] scope pos) scope X.env pos' newDict false (eval iter X.env) use) Qf X.xe s := by
  have cells : ∀ y ∈ scope.names, y.2 = .free → ∃ c, X.env.cells.lookup y.1 = some c := fun y m e => I.ok.has _ ((ok.free y m e).elim .inl .inr)
  refine wpAny_comprehension_free (use := use) rfl hs (closure_ok cells) ok.kind (fun y m e => (ok.uniq y m).trans (congrArg some e)) (thn (hi.run pins s σ H _ I h) fun xv s1 hx => thn hx fun itv s2 h2 => ?_)
  obtain ⟨it, fp, tn, J, H2, rfl, I2, T, st2, f2, q⟩ := h2
  refine wpAny_newObj_type (newEnv_comp ?_)
  generalize eD : s2.heap.objs.size = D
  obtain ⟨W, ⟨m0, w0⟩, turn⟩ := q D (I2.hok.fresh (Nat.le_of_eq eD))
  generalize e3 : ({ s2 with heap := s2.heap.push { cls := .type "dict", data := .dict #[] } } : Shared) = s3
  have hp3 : s3.heap = s2.heap.push { cls := .type "dict", data := .dict #[] } := by rw [← e3]
  have I3 : L2.Inv X pins σ (upd H2 D (.dT [])) s3 := by
    rw [← e3, ← eD]
    exact I2.laid (t' := s2.toks) (fun b o e => Heap.get?_push_of_some _ e) (Nat.le_refl _) (dt_empty s2.heap I2.big)
  have old : ∀ b ∈ fp, b < s2.heap.objs.size := fun b m => (T.obj _ _ st2 b m).elim fun o x => Heap.lt_size x.1
  have f3 : ∀ b ∈ fp, FpOk X pins (upd H2 D (.dT [])) b ∧ b < s3.heap.objs.size := fun b m => by
    have lt := old b m
    refine ⟨⟨?_, (f2 b m).2⟩, ?_⟩
    · rw [upd_ne (fun z => absurd lt (by rw [eD, z]; exact Nat.lt_irrefl D))]
      exact (f2 b m).1
    · rw [hp3, Heap.size_push]
      exact Nat.lt_succ_of_lt lt
  have st3 : tn 0 s3.heap := T.keep _ _ _ st2 fun b _ o e => by rw [hp3]; exact Heap.get?_push_of_some _ e
  have I4 := block_start I3 ok hN f3
  generalize ecl : cellsFrom (s3.heap.objs.size + 1) scope.names (cloFrom X.env.cells scope.names []) = cl at I4
  have pg := hg s3 (upd H2 D (.dT [])) s3.heap.objs.size cl fp
  have pt := ht s3 (upd H2 D (.dT [])) s3.heap.objs.size cl fp
  have pk := hk s3 (upd H2 D (.dT [])) s3.heap.objs.size cl fp
  have pe := he s3 (upd H2 D (.dT [])) s3.heap.objs.size cl fp
  have gone : ∀ b ∈ fp, (upd H2 D (.dT [])) b = none := fun b m => (f3 b m).1.1
  show codeAny _ _ (.compStart (.DictComp kx vx [⟨tg, iter, ifs, 0⟩] scope pos) 0 (.ref it) (.ref D) (compEnvC scope cl s3.heap.objs.size X.env)) (compPost (model X.prog X.w) X.A X.xe use Qf (.ref D) s3.heap.objs.size) { s3 with heap := pushCells (s3.heap.push { cls := .type "dict", data := .dict #[] }) scope.names }
  generalize ece : compEnvC scope cl s3.heap.objs.size X.env = ce at I4 pg pt pk pe ⊢
  have loc : ce.locals = s3.heap.objs.size := by rw [← ece]; rfl
  generalize eH : upd H2 D (.dT []) = H3 at I3 I4 pg pt pk pe w0 gone f3
  generalize e4 : ({ s3 with heap := pushCells (s3.heap.push { cls := .type "dict", data := .dict #[] }) scope.names } : Shared) = s4 at I4 ⊢
  have st4 : tn 0 s4.heap := T.keep _ _ _ st3 fun b _ o e => by rw [← e4]; exact pushCells_keeps _ _ _ _ (Heap.get?_push_of_some _ e)
  let Y : Cx := X.blk s3 H3 scope ce fp
  have mine : ∀ {σ' : L2.St} {H' : Hp} {s' : Shared}, L2.Inv Y [] σ' H' s' → (∀ b ∈ fp, H' b = none) → ∀ b ∈ fp, FpOk Y [] H' b := fun {_ H' _} J' n b m =>
    ⟨n b m, (J'.ok.exf b m).1, J'.ok.exfs b m, .inl m, (J'.ok.exf b m).2, fun p hp => nomatch (show p ∈ ([] : List (Addr × Obj)) from hp)⟩
  have run : codeAny (model X.prog X.w) X.A (.compLoop (.DictComp kx vx [⟨tg, iter, ifs, 0⟩] scope pos) 0 (.ref it) (.ref D) ce) (compPost (model X.prog X.w) X.A X.xe use Qf (.ref D) s3.heap.objs.size) s4 := by
    refine compLoop_anyD (fun n s' => ∃ i H', L2.Inv Y [] (wipe σ (own.map (·.2))) H' s' ∧ tn i s'.heap ∧ (∀ b ∈ fp, H' b = none) ∧ W i n H') (fun n s5 => ?_) m0 ⟨0, H3, I4, st4, gone, w0⟩
    rintro ⟨i, H5, I5, st5, n5, w5⟩
    rcases turn i n H5 w5 with ⟨stop, qq⟩ | ⟨go, Nx, hNx, step⟩
    · refine thnF (T.done Y rfl rfl rfl hc i [] s5 _ H5 (fun _ _ => False) I5 (mine I5 n5) st5 stop) fun r s6 ⟨hr, I6⟩ => ?_
      subst hr
      have back : L2.Inv X pins σ H5 s6 := I3.call' (ch := fp) I6.os I6.base I6.hok I6.bare fun b m =>
        let ⟨_, x1, _, x3, x4, x5⟩ := (f3 b m).1
        ⟨x3, x1, x4, x5⟩
      have nC : H5 s3.heap.objs.size = none := loc ▸ (show H5 ce.locals = none from I6.free)
      obtain ⟨m, ns, _⟩ := I6.loc
      exact fin D s3.heap.objs.size s6 m H5 back qq (loc ▸ (show s6.heap.Ns ce.locals m from ns)) (I3.fpOk (Nat.le_refl _) nC)
    · refine thnF (T.item Y rfl rfl rfl hc i [] s5 _ H5 (fun _ _ => False) I5 (mine I5 n5) st5 go) fun r s6 ⟨u, hr, h6⟩ => ?_
      subst hr
      refine thnF h6 fun _ s7 ⟨x, H7, I7, r7, y7, st7, n7⟩ => ?_
      refine thnF (pg.run _ s7 _ H7 x u _ (I7.pinned (mine I7 n7) (T.obj _ _ st7)) r7 (step x H7 y7)) fun _ s8 ⟨σ8, H8, I8, hw8, q8⟩ => ?_
      refine thnF (pt.run _ s8 σ8 H8 _ I8 q8) fun b s9 ⟨H9, I9, q9⟩ => ?_
      have over : ∀ {s' : Shared} {H' : Hp}, L2.Inv Y ([] ++ pinsAt fp s7.heap) σ8 H' s' → Nx H' → ∃ m, m < n ∧ ∃ i H', L2.Inv Y [] (wipe σ (own.map (·.2))) H' s' ∧ tn i s'.heap ∧ (∀ b ∈ fp, H' b = none) ∧ W i m H' := fun {s' H'} J' nx => by
        obtain ⟨m', lt, w'⟩ := hNx H' nx
        have pn : ∀ b ∈ fp, ∀ o, s7.heap.get? b = some o → s'.heap.get? b = some o ∧ H' b = none := fun b m o e =>
          let z := J'.pin (b, o) (List.mem_append_right _ (List.mem_append_right _ (mem_pinsAt m e)))
          ⟨z.1, z.2.1⟩
        refine ⟨m', lt, i + 1, H', (J'.unpinned (pins := [])).weak (by rw [← hw8, wipe_length]) (fun j v e => ?_), T.keep _ _ _ st7 fun b m o e => (pn b m o e).1, fun b m => ?_, w'⟩
        · rw [← hw8] at e
          exact (wipe_some e).1
        · obtain ⟨o, e, _⟩ := T.obj _ _ st7 b m
          exact (pn b m o e).2
      cases b with
      | false =>
        simp only [Bool.false_eq_true, if_false] at q9 ⊢
        exact over I9 q9
      | true =>
        simp only [if_true] at q9 ⊢
        refine thnF (pk.run _ s9 σ8 H9 _ I9 q9) fun z1 s10 ⟨yk, H10, I10, r10, q10⟩ => ?_
        refine thnF (pe.run _ s10 σ8 H10 _ I10 q10) fun z2 s11 ⟨yv, H11, I11, r11, kvs, k, b2, ek, hb2, hD, hz, nx⟩ => ?_
        subst ek
        obtain rfl : z1 = Value.ref b2 := r10
        exact dictSet_tup (X := Y) hu I11 hD hb2 hz r11 fun s12 I12 => over I12 nx
  exact codeAny_compStart_dict run (T.self X.A 0 _ _ _ st4 run)
theorem zpe_dcT {kx vx tg iter : Expr} {ifs : List Expr} {scope : Scope} {own : List (Str × Nat)} {pos : Pos} {wi : TI} {g : TG} {tt : TT} {tk tv : TE} (hu : X.A.units + 1 < cLine) (hc : X.calm = true) (hN : X.N.Nodup) (hi : PI X tg iter wi) (ok : BlkOk X.N X.env.scope scope own)
    (hg : AllB X scope fun Y => PG Y tg g) (ht : AllB X scope fun Y => PTs Y ifs tt) (hk : AllB X scope fun Y => PE Y kx tk) (he : AllB X scope fun Y => PE Y vx tv) (hs : ∀ x, foldedSetIterable iter X.env x = pure x := by intro _; rfl) :
    PE X (.DictComp kx vx [⟨tg, iter, ifs, 0⟩] scope pos) (zDcT wi g tt tk tv (own.map (·.2))) := by
  refine ⟨fun pins s σ H Q I h => ?_⟩
  rw [arm_eval_DictComp]
  refine zdc_run hu hc hN I hi ok hg ht hk he hs h fun D C s' m H' I' q ns f => ⟨m, ns, fun h2 sb => ?_⟩
  obtain ⟨y0, y1, _, y3, y4, y5⟩ := f
  exact ⟨.ref D, H', I'.turned (t' := s'.toks) (fun b o hb e => (sb.2 b hb).trans e) y0 y1 y3 y4 y5, rfl, q⟩
end
end Zk

set_option Elab.async false
set_option linter.all false
set_option maxRecDepth 100000
set_option maxHeartbeats 4000000
namespace Zk
open PySem PySem.Spec L2
open PyProof.Rows hiding St

/-! ### data that do not change: flat ones and tuples of such -/
mutual
inductive Im (H : Hp) : V → PyData → Prop
  | non : Im H .non .none
  | bl (b : Bool) : Im H (.bl b) (.bool b)
  | int (i : Int) : Im H (.int i) (.int i)
  | str (x : Str) : Im H (.str x) (.str x)
  | tup {a : Addr} {xs : List V} {ds : List PyData} : H a = some (.tup xs) → xs.length ≤ 1000 → ImAll H xs ds → Im H (.ref a) (.tuple ds)
inductive ImAll (H : Hp) : List V → List PyData → Prop
  | nil : ImAll H [] []
  | cons {v : V} {vs : List V} {d : PyData} {ds : List PyData} : Im H v d → ImAll H vs ds → ImAll H (v :: vs) (d :: ds)
end
mutual
theorem Im.go {H H' : Hp} (e : ∀ a xs, H a = some (.tup xs) → H' a = some (.tup xs)) : ∀ (d : PyData) (v : V), Im H v d → Im H' v d
  | .none, _, .non => .non
  | .bool _, _, .bl b => .bl b
  | .int _, _, .int i => .int i
  | .str _, _, .str x => .str x
  | .tuple ds, _, .tup h l k => .tup (e _ _ h) l (ImAll.go e ds _ k)
theorem ImAll.go {H H' : Hp} (e : ∀ a xs, H a = some (.tup xs) → H' a = some (.tup xs)) : ∀ (ds : List PyData) (vs : List V), ImAll H vs ds → ImAll H' vs ds
  | [], _, .nil => .nil
  | d :: ds, _, .cons h k => .cons (Im.go e d _ h) (ImAll.go e ds _ k)
end
theorem Im.ext {M : List Addr} {H H' : Hp} {v : V} {d : PyData} (h : Im H v d) (e : Ext M H H') : Im H' v d := Im.go (fun _ _ q => e.tup q) d v h
theorem ImAll.ext {M : List Addr} {H H' : Hp} {v : List V} {d : List PyData} (h : ImAll H v d) (e : Ext M H H') : ImAll H' v d := ImAll.go (fun _ _ q => e.tup q) d v h
theorem Im.lk {p : Addr} {u : HO} {od : Obj} {H H' : Hp} {v : V} {d : PyData} (h : Im H v d) (e : Lk p u od H H') : Im H' v d := Im.go (fun _ _ q => e.tup q) d v h
mutual
theorem Im.dp {K : PySem.W.Frag} {H : Hp} : ∀ (d : PyData) (v : V), Im H v d → Dp K H v d
  | .none, _, .non => .non
  | .bool _, _, .bl b => .bl b
  | .int _, _, .int i => .int i
  | .str _, _, .str x => .str x
  | .tuple ds, _, .tup h _ k => .tup (sqt h) (ImAll.dp ds _ k)
theorem ImAll.dp {K : PySem.W.Frag} {H : Hp} : ∀ (ds : List PyData) (vs : List V), ImAll H vs ds → DpAll K H vs ds
  | [], _, .nil => .nil
  | d :: ds, _, .cons h k => .cons (Im.dp d _ h) (ImAll.dp ds _ k)
end
theorem ImAll.len {H : Hp} : ∀ {vs : List V} {ds : List PyData}, ImAll H vs ds → vs.length = ds.length
  | _, _, .nil => rfl
  | _, _, .cons _ k => congrArg (· + 1) k.len
theorem ImAll.at {H : Hp} : ∀ {vs : List V} {ds : List PyData} {i : Nat} {d : PyData}, ImAll H vs ds → ds[i]? = some d → ∃ v, vs[i]? = some v ∧ Im H v d
  | _, _, 0, _, .cons h _, e => by cases e; exact ⟨_, rfl, h⟩
  | _, _, i + 1, _, .cons _ k, e => ImAll.at (i := i) k e
theorem ImAll.at' {H : Hp} : ∀ {vs : List V} {ds : List PyData} {i : Nat} {v : V}, ImAll H vs ds → vs[i]? = some v → ∃ d, ds[i]? = some d ∧ Im H v d
  | _, _, 0, _, .cons h _, e => by cases e; exact ⟨_, rfl, h⟩
  | _, _, i + 1, _, .cons _ k, e => ImAll.at' (i := i) k e
theorem ImAll.snoc {H : Hp} {v : V} {d : PyData} (h : Im H v d) : ∀ {vs : List V} {ds : List PyData}, ImAll H vs ds → ImAll H (vs ++ [v]) (ds ++ [d])
  | _, _, .nil => .cons h .nil
  | _, _, .cons g k => .cons g (ImAll.snoc h k)
theorem Im.tupE {H : Hp} {v : V} {ds : List PyData} (h : Im H v (.tuple ds)) : ∃ a xs, v = .ref a ∧ H a = some (.tup xs) ∧ ImAll H xs ds := by
  cases h with
  | tup h _ k => exact ⟨_, _, rfl, h, k⟩
/-- an equation of data -/
theorem w_eqD {K : PySem.W.Frag} {H : Hp} {Q : VK} {x y : V} {d e : PyData} (hx : Im H x d) (hy : Im H y e) (sd : SeqAt.shaped d = true) (se : SeqAt.shaped e = true) (q : Q (.bl (PyData.eqv d e)) H) : rEqD K x y H Q := ⟨d, e, hx.dp, hy.dp, sd, se, q⟩
theorem w_neD {K : PySem.W.Frag} {H : Hp} {Q : VK} {x y : V} {d e : PyData} (hx : Im H x d) (hy : Im H y e) (sd : SeqAt.shaped d = true) (se : SeqAt.shaped e = true) (q : Q (.bl (!PyData.eqv d e)) H) : rNeD K x y H Q := ⟨d, e, hx.dp, hy.dp, sd, se, q⟩

/-! ### dicts whose keys are slots, read as functions -/
def ORel (H : Hp) : Option V → Option PyData → Prop
  | none, none => True
  | some v, some d => Im H v d
  | _, _ => False
theorem ORel.ext {M : List Addr} {H H' : Hp} {x : Option V} {y : Option PyData} (h : ORel H x y) (e : Ext M H H') : ORel H' x y := by
  cases x <;> cases y
  · exact h
  · exact h
  · exact h
  · exact Im.ext h e
theorem ORel.lk {p : Addr} {u : HO} {od : Obj} {H H' : Hp} {x : Option V} {y : Option PyData} (h : ORel H x y) (e : Lk p u od H H') : ORel H' x y := by
  cases x <;> cases y
  · exact h
  · exact h
  · exact h
  · exact Im.lk h e
theorem ORel.some {H : Hp} {x : Option V} {d : PyData} (h : ORel H x (Option.some d)) : ∃ v, x = Option.some v ∧ Im H v d := by
  cases x with
  | none => exact h.elim
  | some v => exact ⟨v, rfl, h⟩
theorem ORel.none {H : Hp} {x : Option V} (h : ORel H x Option.none) : x = Option.none := by
  cases x with
  | none => rfl
  | some v => exact h.elim
theorem ORel.iss {H : Hp} {x : Option V} {y : Option PyData} (h : ORel H x y) : x.isSome = y.isSome := by
  cases x <;> cases y <;> first | rfl | exact h.elim
abbrev Fd := Slot → Option PyData
structure DMk (U : List Slot) (H : Hp) (kvs : List (List Key × V)) (ks : List Slot) (f : Fd) : Prop where
  keys : kvs.map (·.1) = ks.map sKey
  nd : ks.Nodup
  sub : ∀ s ∈ ks, s ∈ U
  val : ∀ s, ORel H (valV kvs (sKey s)) (f s)
theorem DMk.ext {U : List Slot} {M : List Addr} {H H' : Hp} {kvs : List (List Key × V)} {ks : List Slot} {f : Fd} (h : DMk U H kvs ks f) (e : Ext M H H') : DMk U H' kvs ks f := ⟨h.keys, h.nd, h.sub, fun s => (h.val s).ext e⟩
theorem DMk.lk {U : List Slot} {p : Addr} {u : HO} {od : Obj} {H H' : Hp} {kvs : List (List Key × V)} {ks : List Slot} {f : Fd} (h : DMk U H kvs ks f) (e : Lk p u od H H') : DMk U H' kvs ks f := ⟨h.keys, h.nd, h.sub, fun s => (h.val s).lk e⟩
theorem val_mem {kvs : List (List Key × V)} {k : List Key} : (valV kvs k).isSome = true ↔ k ∈ kvs.map (·.1) := by
  rw [← valV_any, List.any_eq_true]
  constructor
  · rintro ⟨p, hp, e⟩
    exact List.mem_map.mpr ⟨p, hp, of_decide_eq_true e⟩
  · intro h
    obtain ⟨p, hp, e⟩ := List.mem_map.mp h
    exact ⟨p, hp, decide_eq_true e⟩
theorem DMk.mem {U : List Slot} {H : Hp} {kvs : List (List Key × V)} {ks : List Slot} {f : Fd} (h : DMk U H kvs ks f) {s : Slot} : s ∈ ks ↔ (f s).isSome = true := by
  rw [← (h.val s).iss, val_mem, h.keys, List.mem_map]
  constructor
  · intro m; exact ⟨s, m, rfl⟩
  · rintro ⟨t, m, e⟩; rw [← sKey_inj e]; exact m
theorem DMk.len {U : List Slot} {H : Hp} {kvs : List (List Key × V)} {ks : List Slot} {f : Fd} (h : DMk U H kvs ks f) : kvs.length = ks.length := by
  have := congrArg List.length h.keys
  rwa [List.length_map, List.length_map] at this
theorem DMk.small {U : List Slot} {H : Hp} {kvs : List (List Key × V)} {ks : List Slot} {f : Fd} (h : DMk U H kvs ks f) (hU : U.length ≤ 1000) : kvs.length ≤ 1000 := by
  rw [h.len]; exact Nat.le_trans (nodup_len h.nd h.sub) hU
theorem DMk.at {U : List Slot} {H : Hp} {kvs : List (List Key × V)} {ks : List Slot} {f : Fd} (h : DMk U H kvs ks f) {i : Nat} {k : List Key} {v : V} (e : kvs[i]? = some (k, v)) : ∃ s d, ks[i]? = some s ∧ k = sKey s ∧ f s = some d ∧ valV kvs k = some v ∧ Im H v d := by
  have e1 : (kvs.map (·.1))[i]? = some k := by rw [List.getElem?_map, e]; rfl
  rw [h.keys, List.getElem?_map] at e1
  cases q : ks[i]? with
  | none => rw [q] at e1; cases e1
  | some s =>
    rw [q] at e1
    have e2 : sKey s = k := Option.some.inj e1
    have m : s ∈ ks := List.mem_of_getElem? q
    have m2 := h.mem.mp m
    obtain ⟨d, hd⟩ := Option.isSome_iff_exists.mp m2
    have o := h.val s
    rw [hd, e2] at o
    obtain ⟨v', hv, im⟩ := o.some
    have nk : (kvs.map (·.1)).Nodup := by
      rw [h.keys]
      exact List.pairwise_map.mpr (h.nd.imp fun hn e => hn (sKey_inj e))
    have hv2 : valV kvs k = some v := by
      clear hv im o hd m2 m e2 q e1 h
      induction kvs generalizing i with
      | nil => simp at e
      | cons p r ih =>
        cases i with
        | zero =>
          have : p = (k, v) := Option.some.inj e
          subst this
          exact valV_pos rfl
        | succ i =>
          have e' : r[i]? = some (k, v) := e
          have km : k ∈ r.map (·.1) := List.mem_map.mpr ⟨_, List.mem_of_getElem? e', rfl⟩
          rw [List.map_cons, List.nodup_cons] at nk
          rw [valV_neg (fun z => nk.1 (z ▸ km))]
          exact ih e' nk.2
    rw [hv] at hv2
    cases hv2
    exact ⟨s, d, rfl, e2.symm, hd, hv, im⟩
/-- a dict of slots in use; one that may be locked -/
def DM (U : List Slot) (H : Hp) (p : Addr) (f : Fd) : Prop := ∃ kvs ks, H p = some (.dT kvs) ∧ DMk U H kvs ks f
def DR (U : List Slot) (H : Hp) (p : Addr) (f : Fd) : Prop := ∃ kvs ks, Rd H p (.dT kvs) ∧ DMk U H kvs ks f
theorem DM.dr {U : List Slot} {H : Hp} {p : Addr} {f : Fd} : DM U H p f → DR U H p f := fun ⟨kvs, ks, h, k⟩ => ⟨kvs, ks, .inl h, k⟩
theorem DM.ext {U : List Slot} {M : List Addr} {H H' : Hp} {p : Addr} {f : Fd} (h : DM U H p f) (e : Ext M H H') (n : p ∉ M) : DM U H' p f := by
  obtain ⟨kvs, ks, h, k⟩ := h
  exact ⟨kvs, ks, e.keep _ _ h n, k.ext e⟩
theorem DR.ext {U : List Slot} {M : List Addr} {H H' : Hp} {p : Addr} {f : Fd} (h : DR U H p f) (e : Ext M H H') (n : p ∉ M) : DR U H' p f := by
  obtain ⟨kvs, ks, h, k⟩ := h
  rcases h with h | ⟨o, h⟩
  · exact ⟨kvs, ks, .inl (e.keep _ _ h n), k.ext e⟩
  · exact ⟨kvs, ks, .inr ⟨o, e.imm _ _ h trivial⟩, k.ext e⟩
theorem DR.lk {U : List Slot} {H H' : Hp} {p q : Addr} {u : HO} {od : Obj} {f : Fd} (h : DR U H p f) (e : Lk q u od H H') : DR U H' p f := by
  obtain ⟨kvs, ks, h, k⟩ := h
  rcases h with h | ⟨o, h⟩
  · by_cases z : p = q
    · subst z
      have := e.was
      rw [h] at this
      cases this
      exact ⟨kvs, ks, .inr ⟨od, e.at⟩, k.lk e⟩
    · exact ⟨kvs, ks, .inl (e.keep h z), k.lk e⟩
  · exact ⟨kvs, ks, .inr ⟨o, e.frz h⟩, k.lk e⟩
theorem DM.lk {U : List Slot} {H H' : Hp} {p q : Addr} {u : HO} {od : Obj} {f : Fd} (h : DM U H p f) (e : Lk q u od H H') (n : p ≠ q) : DM U H' p f := by
  obtain ⟨kvs, ks, h, k⟩ := h
  exact ⟨kvs, ks, e.keep h n, k.lk e⟩
theorem DM.ne {U : List Slot} {H : Hp} {p q : Addr} {f : Fd} (h : DM U H p f) (n : H q = none) : p ≠ q := by
  obtain ⟨kvs, ks, h, k⟩ := h
  exact ne_of_none h n
theorem DR.ne {U : List Slot} {H : Hp} {p q : Addr} {f : Fd} (h : DR U H p f) (n : H q = none) : p ≠ q := by
  obtain ⟨kvs, ks, h, k⟩ := h
  rcases h with h | ⟨o, h⟩ <;> exact ne_of_none h n
theorem DM.nil {U : List Slot} {H : Hp} {p : Addr} (h : H p = some (.dT [])) : DM U H p fun _ => none := ⟨[], [], h, ⟨rfl, List.nodup_nil, fun _ m => (nomatch m), fun _ => trivial⟩⟩
theorem DM.congr {U : List Slot} {H : Hp} {p : Addr} {f g : Fd} (h : DM U H p f) (e : ∀ s, f s = g s) : DM U H p g := by rw [← funext e]; exact h
theorem DM.fsub {U : List Slot} {H : Hp} {p : Addr} {f : Fd} (h : DM U H p f) {s : Slot} (e : (f s).isSome = true) : s ∈ U := by
  obtain ⟨kvs, ks, h, k⟩ := h
  exact k.sub _ (k.mem.mpr e)
theorem DR.fsub {U : List Slot} {H : Hp} {p : Addr} {f : Fd} (h : DR U H p f) {s : Slot} (e : (f s).isSome = true) : s ∈ U := by
  obtain ⟨kvs, ks, h, k⟩ := h
  exact k.sub _ (k.mem.mpr e)
def putF (f : Fd) (s : Slot) (d : PyData) : Fd := fun t => if t = s then some d else f t
theorem DMk.put {U : List Slot} {H : Hp} {kvs : List (List Key × V)} {ks : List Slot} {f : Fd} (h : DMk U H kvs ks f) {s : Slot} (m : s ∈ U) {v : V} {d : PyData} (i : Im H v d) : ∃ ks', DMk U H (putK kvs (sKey s) v) ks' (putF f s d) := by
  have hv : ∀ t, ORel H (valV (putK kvs (sKey s) v) (sKey t)) (putF f s d t) := fun t => by
    rw [valV_put]
    unfold putF
    by_cases e : t = s
    · subst e; rw [if_pos rfl, if_pos rfl]; exact i
    · rw [if_neg e, if_neg (fun z => e (sKey_inj z))]; exact h.val t
  by_cases hs : s ∈ ks
  · refine ⟨ks, ?_, h.nd, h.sub, hv⟩
    have : (kvs.any fun kv => decide (kv.1 = sKey s)) = true := by
      rw [valV_any, val_mem, h.keys]; exact List.mem_map.mpr ⟨s, hs, rfl⟩
    unfold putK
    rw [this, if_pos rfl, List.map_map, ← h.keys]
    refine List.map_congr_left fun p _ => ?_
    show (if p.1 = sKey s then (p.1, v) else p).1 = p.1
    by_cases z : p.1 = sKey s
    · rw [if_pos z]
    · rw [if_neg z]
  · have no : valV kvs (sKey s) = none := by
      have := fun z => hs (h.mem.mpr z)
      rw [← (h.val s).iss] at this
      exact Option.not_isSome_iff_eq_none.mp this
    refine ⟨ks ++ [s], ?_, ?_, fun t mt => ?_, hv⟩
    · rw [putK_new v no, List.map_append, List.map_append, h.keys]; rfl
    · rw [List.nodup_append]
      refine ⟨h.nd, List.nodup_cons.mpr ⟨fun z => (nomatch z), List.nodup_nil⟩, fun a ha b hb e => ?_⟩
      subst e
      rw [List.mem_singleton.mp hb] at ha
      exact hs ha
    · rcases List.mem_append.mp mt with z | z
      · exact h.sub t z
      · rw [List.mem_singleton.mp z]; exact m
/-! readings of such dicts -/
section
variable {U : List Slot} {K : PySem.W.Frag} {σ : St} {H : Hp} {Q : VK} {a b p q : Addr} {f g : Fd} {s : Slot} {v : V}
theorem dgetT {kvs : List (List Key × V)} (h : Rd H a (.dT kvs)) (eb : H b = some (.tup (sVs s))) : DGet H a (.ref b) (valV kvs (sKey s)) := .inr ⟨kvs, sKey s, b, h, rfl, eb, rfl⟩
theorem w_dgetT {d : PyData} {P : V → Prop} (h : DR U H a f) (eb : H b = some (.tup (sVs s))) (e : f s = some d) (k : ∀ v, Im H v d → P v) : ∃ c v, V.ref a = .ref c ∧ DGet H c (.ref b) (some v) ∧ P v := by
  obtain ⟨kvs, ks, h, m⟩ := h
  have o := m.val s
  rw [e] at o
  obtain ⟨v, hv, i⟩ := o.some
  exact ⟨a, v, rfl, hv ▸ dgetT h eb, k v i⟩
theorem w_dinT {P : Option V → Prop} (h : DR U H a f) (eb : H b = some (.tup (sVs s))) (k : ∀ o, o.isSome = (f s).isSome → P o) : ∃ c o, V.ref a = .ref c ∧ DGet H c (.ref b) o ∧ P o := by
  obtain ⟨kvs, ks, h, m⟩ := h
  exact ⟨a, _, rfl, dgetT h eb, k _ (m.val s).iss⟩
theorem w_get1 {te : TE} {ty : TE} (h : te σ H fun x H1 => ∃ a, x = .ref a ∧ IsD H1 a ∧ ty σ H1 fun y H2 => ∃ o, DGet H2 a y o ∧ Q (o.getD .non) H2) : tDGet1 te ty σ H Q := h
theorem w_isD {P : Addr → Prop} (h : DR U H a f) (k : P a) : ∃ c, V.ref a = .ref c ∧ IsD H c ∧ P c := by
  obtain ⟨kvs, ks, h, m⟩ := h
  exact ⟨a, rfl, .inr ⟨kvs, h⟩, k⟩
theorem w_get1T {P : Option V → Prop} (h : DR U H a f) (eb : H b = some (.tup (sVs s))) (k : ∀ o, Im H (o.getD .non) ((f s).getD .none) → P o) : ∃ o, DGet H a (.ref b) o ∧ P o := by
  obtain ⟨kvs, ks, h, m⟩ := h
  refine ⟨_, dgetT h eb, k _ ?_⟩
  have o := m.val s
  revert o
  cases valV kvs (sKey s) <;> cases f s <;> intro o
  · exact .non
  · exact o.elim
  · exact o.elim
  · exact o
theorem w_dputT {N : Hp → Prop} {d : PyData} (hU : U.length ≤ 1000) (h : DM U H a f) (eb : H b = some (.tup (sVs s))) (m : s ∈ U) (i : Im H v d) (k : ∀ H', Ext [a] H H' → DM U H' a (putF f s d) → N H') :
    ∃ c H4, V.ref a = .ref c ∧ DPut H c (.ref b) v H4 ∧ N H4 := by
  obtain ⟨kvs, ks, h, w⟩ := h
  have eb' : H b = some (.tup ((sKey s).map kV)) := eb
  have e : Ext [a] H (upd H a (.dT (putK kvs (sKey s) v))) := Ext.mut h (fun z => z) (List.mem_singleton.mpr rfl)
  refine ⟨a, _, rfl, DPut.t (k := sKey s) h eb' (szl (Nat.lt_of_le_of_lt (w.small hU) (by decide))), k _ e ?_⟩
  obtain ⟨ks', w'⟩ := w.put m i
  exact ⟨_, ks', upd_same, w'.ext e⟩
/-- len of a list, a tuple, a dict with tuple keys -/
def cLenX (K : PySem.W.Frag) : RC := fun xs H Q => cLen K xs H Q ∨ ∃ p kvs, xs = [V.ref p] ∧ H p = some (.dT kvs) ∧ Q (.int kvs.length) H
theorem zc_lenX {X : Cx} : CallR X (.builtin "len") (cLenX X.K) := by
  intro pins s σ H vs us Q I r h
  rcases h with h | ⟨p, kvs, e, hp, q⟩
  · exact zc_len pins s σ H vs us Q I r h
  · exact call_len_dT pins s σ H vs us Q I r ⟨p, kvs, e, hp, q⟩
/-- list(d), d a dict of slots -/
def cListT : RC := fun xs H Q => ∃ d kvs, xs = [V.ref d] ∧ Rd H d (.dT kvs) ∧ ∀ bs, IsKeys H kvs bs → Alc (.lst (bs.map V.ref)) H Q
theorem zc_listT {X : Cx} (hc : X.calm = true) : CallR X (.type "list") cListT := by
  intro pins s σ H vs us Q I r h
  obtain ⟨d, kvs, e, hd, q⟩ := h
  exact call_list_dT hc pins s σ H vs us Q I r ⟨d, kvs, e, hd, fun p bs np ib => q bs ib p np⟩
theorem DMk.slots {kvs : List (List Key × V)} {ks : List Slot} {bs : List Addr} (m : DMk U H kvs ks f) (i : IsKeys H kvs bs) : SlotsAt H bs ks := by
  have e := m.keys
  clear m
  unfold IsKeys at i
  unfold SlotsAt
  induction i generalizing ks with
  | nil => cases ks with
    | nil => exact .nil
    | cons s r => cases e
  | cons h t ih => cases ks with
    | nil => cases e
    | cons s r =>
      injection e with e1 e2
      refine .cons ?_ (ih e2)
      show _ = some (HO.tup (sVs s))
      rw [h]
      have e1' : _ = sKey s := e1
      rw [← sKey_vs, ← e1']
theorem w_listT {P : V → Hp → Prop} (h : DR U H a f) (k : ∀ p bs ks H', Ext [] H H' → H p = none → H' p = some (.lst (bs.map V.ref)) → SlotsAt H' bs ks → ks.Nodup → (∀ s, s ∈ ks ↔ (f s).isSome = true) → ks.length ≤ U.length → P (.ref p) H') : cListT [.ref a] H P := by
  obtain ⟨kvs, ks, h, m⟩ := h
  refine ⟨a, kvs, rfl, h, fun bs ib => w_alc fun p H' e n hp => ?_⟩
  exact k p bs ks H' e n hp ((m.slots ib).ext e) m.nd (fun s => m.mem) (nodup_len m.nd m.sub)
/-- sorted(d), d a dict of slots; the dict is not changed by it -/
def cSortT (K : PySem.W.Frag) : RC := fun vs H Q => cSortSl K vs H Q ∨ ∃ (d : Addr) (kvs : List (List Key × V)) (ks : List Slot), vs = [V.ref d] ∧ Rd H d (.dT kvs) ∧ kvs.map (·.1) = ks.map sKey ∧
  ∀ (bs : List Addr) (ts : List Slot), SlotsAt H bs ts → ts.Perm ks → ts.Pairwise (fun x y => sLt y x = false) → Alc (.lst (bs.map V.ref)) H Q
theorem SlotsAt.vals {X : Cx} {pins : List (Addr × Obj)} {s : Shared} (I : L2.Inv X pins σ H s) {as : List Addr} {ss : List Slot} (hx : SlotsAt H as ss) {h' : Heap} (kp : ∀ b o, s.heap.get? b = some o → h'.get? b = some o) :
    ∀ v ∈ as.map Value.ref, IsSlotV h' v (match v with | .ref b => slotAt H b | _ => (Str.empty, 0, 0)) := by
  intro v hv
  obtain ⟨t, ht, rfl⟩ := List.mem_map.mp hv
  obtain ⟨_, its2, r2, o, ho, hc, n, hd⟩ := I.hok _ _ (SlotsAt.mem hx t ht)
  cases r2 with
  | cons ra r2 => cases r2 with
    | cons rb r2 => cases r2 with
      | cons rc r2 =>
        cases r2
        obtain ⟨t1, rfl⟩ := ra
        obtain ⟨t2, rfl⟩ := rb
        obtain ⟨t3, rfl⟩ := rc
        exact ⟨t, o, t1, t2, t3, n, rfl, kp _ _ ho, hc, hd⟩
theorem zc_sortT {X : Cx} (hc : X.calm = true) : CallR X (.builtin "sorted") (cSortT X.K) := by
  intro pins s σ H vs us Q I r h
  rcases h with h | ⟨d, kvs, ks, rfl, hd, hk, q⟩
  · exact zc_sortSl pins s σ H vs us Q I r h
  obtain ⟨u, rfl, rx⟩ := r.one
  cases rx
  obtain ⟨z, hs, ys, pr, o, es, ep, ho, hx, hdt, he, hn⟩ := (show ObjOk X.prog X.w H s.heap d (.dT kvs) from hd.ok I.hok)
  have l1 : es.size = ys.length := size_of_entries he
  have l2 : kvs.length = ys.length := Paired.length pr
  refine Calls.call_function_entry PyProof.Rows.kind_sorted PyProof.Rows.plain_sorted PyProof.Rows.entry_sorted (PyProof.Rows.args_sorted1 _) ?_
  unfold Builtin.«sorted»
  refine wpAny_bind (m := checkCount "sorted" 1 1 _) (wpAny_pure ?_)
  refine wpAny_bind (PySem.W.kdu_collect (A := X.A.in1) (kdl_raw hs hx hdt) (I.ok.hd hc) ho (by omega) fun h' tk acc' kp it => ?_)
  have ea : acc'.toList = ys.map fun x => Value.ref x.2.1 := by
    have hl : acc'.toList.length = ys.length := by rw [Array.length_toList, it.1]; exact l1
    apply List.ext_getElem?
    intro j
    rw [List.getElem?_map]
    cases hj : acc'.toList[j]? with
    | none =>
      have h1 := List.getElem?_eq_none_iff.mp hj
      rw [List.getElem?_eq_none (by omega)]
      all_goals rfl
    | some v =>
      obtain ⟨en, hen, hv⟩ := it.2 j v (by rw [← Array.getElem?_toList]; exact hj)
      have qe := entry_at he j
      rw [hen] at qe
      cases hb : ys[j]? with
      | none =>
        rw [hb] at qe
        exact nomatch (show some en = none from qe)
      | some b =>
        rw [hb] at qe
        have e2 : en = entryOfKey (tupleKind (mixKind X.prog X.w)) b := Option.some.inj qe
        rw [hv, e2]
        all_goals rfl
  have eb : acc'.toList = (ys.map fun x => x.2.1).map Value.ref := by rw [ea, List.map_map]; all_goals rfl
  have ik := isKeys_of pr
  generalize (ys.map fun x => x.2.1) = as at eb ik
  have hx2 : SlotsAt H as ks := by
    have e := hk
    clear q hd hx pr l2 ho he hn z hk
    unfold IsKeys at ik
    unfold SlotsAt
    clear eb ea
    induction ik generalizing ks with
    | nil => cases ks with
      | nil => exact .nil
      | cons s r => cases e
    | cons h t ih => cases ks with
      | nil => cases e
      | cons s r =>
        injection e with e1 e2
        refine .cons ?_ (ih (ks := r) e2)
        show _ = some (HO.tup (sVs s))
        rw [h]
        have e1' : _ = sKey s := e1
        rw [← sKey_vs, ← e1']
  have lz : (as.map Value.ref).length ≤ sizeLine := by
    rw [← eb, Array.length_toList, it.1, l1]; omega
  have I1 : L2.Inv X pins σ H { s with heap := h', toks := tk } := I.kept kp
  rw [eb]
  refine wpAny_bind (wpAny_newList ?_ lz)
  have hoL : (h'.push (seqObj "list" (as.map Value.ref).toArray 0)).get? h'.objs.size = some (seqObj "list" (as.map Value.ref).toArray 0) := Heap.get?_push_size _ rfl
  show wpAny _ _ _ _ _ { s with heap := h'.push (seqObj "list" (as.map Value.ref).toArray 0), toks := tk }
  let k : Value → Slot := fun v => match v with | .ref b => slotAt H b | _ => (Str.empty, 0, 0)
  refine wpAny_bind (wpAny_holding (wpAny_call_entry PyProof.Rows.slot_list_sort ⟨_, hoL, rfl⟩ PyProof.Rows.entry_list_sort
    (SrtO.list_sort_ord (s := { s with heap := h'.push (seqObj "list" (as.map Value.ref).toArray 0), toks := tk }) (sLt_swo k) hoL lz (fun h2 => slots_able (by omega) (SlotsAt.vals I hx2 fun b o e => Heap.get?_push_of_some _ (kp b o e)) fun o e c => ?_) fun out h1 hb => ⟨_, rfl, ?_⟩) (PyProof.Rows.args_list_sort _)))
  · rw [hoL] at e
    cases e
    exact absurd (Value.type.inj c) (by decide)
  have h2 := hb.perm
  obtain ⟨e', he'⟩ := PyProof.Rows.sortedHeap_at (vs := as.map Value.ref) (out := out.toArray) hoL
  obtain ⟨bs, hbs⟩ := refs_list (us := out) fun u hu => by
    obtain ⟨t, _, e⟩ := List.mem_map.mp (h2.mem_iff.mp hu)
    exact ⟨t, e.symm⟩
  subst hbs
  have hp : bs.Perm as := perm_of_map h2
  have hbm : ∀ b ∈ bs, H b = some (.tup (sVs (slotAt H b))) := fun b m => SlotsAt.mem hx2 b (hp.mem_iff.mp m)
  have hq := q bs (bs.map (slotAt H)) (SlotsAt.of hbm) (by rw [SlotsAt.map hx2]; exact hp.map _) (by
    rw [List.pairwise_map]
    exact List.pairwise_map.mp h1)
  refine wpAny_pure ⟨_, rfl, .ref h'.objs.size, upd H h'.objs.size (.lst (bs.map V.ref)), I1.laid (t' := tk) (fun b u e => ?_) (Nat.le_refl _)
    (show ObjOk X.prog X.w _ _ _ (.lst (bs.map V.ref)) from ⟨?_, bs.map Value.ref, e', vals_refs bs, he'⟩), rfl, hq _ (I1.hok.fresh (Nat.le_refl _))⟩
  · have hb : b < h'.objs.size := Heap.lt_size e
    rw [PyProof.Rows.sortedHeap_old (Nat.ne_of_lt hb) (by rw [size_push']; exact Nat.lt_succ_of_lt hb)]
    exact Heap.get?_push_of_some _ e
  · rw [List.length_map, hp.length_eq]
    rw [List.length_map] at lz
    exact lz
end
end Zk

set_option Elab.async false
set_option linter.all false
set_option maxRecDepth 100000
set_option maxHeartbeats 4000000
namespace Zk
open PySem PySem.Spec L2
open PyProof.Rows hiding St

theorem depthAll_mem {d : PyData} : ∀ {ds : List PyData}, d ∈ ds → d.depth ≤ PyData.depthAll ds
  | x :: xs, h => by
    rw [PyData.depthAll]
    rcases List.mem_cons.mp h with h | h
    · rw [h]; exact Nat.le_max_left _ _
    · exact Nat.le_trans (depthAll_mem h) (Nat.le_max_right _ _)
theorem depth_tup (ds : List PyData) : (PyData.tuple ds).depth = PyData.depthAll ds + 1 := by rw [PyData.depth]
/-- two that are told to be the same: data of the same form, lists of such, dicts of slots that are the same functions -/
def Sm (U : List Slot) : Nat → Hp → V → V → Prop
  | 0, _, _, _ => False
  | n + 1, H, a, b => (∃ d, d.depth ≤ n ∧ Im H a d ∧ Im H b d) ∨ (∃ p q xs ys, a = .ref p ∧ b = .ref q ∧ H p = some (.lst xs) ∧ H q = some (.lst ys) ∧ xs.length ≤ 1000 ∧ Paired (Sm U n H) xs ys) ∨
    (3 ≤ n ∧ U.length ≤ 1000 ∧ ∃ p q f, a = .ref p ∧ b = .ref q ∧ DM U H p f ∧ DM U H q f ∧ ∀ s d, f s = some d → d.depth < n)
theorem Sm.im {U : List Slot} {n : Nat} {H : Hp} {a b : V} {d : PyData} (l : d.depth < n) (h : Im H a d) (k : Im H b d) : Sm U n H a b := by
  cases n with
  | zero => omega
  | succ n => exact .inl ⟨d, by omega, h, k⟩
theorem Sm.ext {U : List Slot} {H H' : Hp} (e : Ext [] H H') : ∀ {n : Nat} {a b : V}, Sm U n H a b → Sm U n H' a b
  | 0, _, _, h => h
  | n + 1, a, b, h => by
    rcases h with ⟨d, l, i, j⟩ | ⟨p, q, xs, ys, rfl, rfl, hp, hq, lz, w⟩ | ⟨l, hU, p, q, f, rfl, rfl, hp, hq, w⟩
    · exact .inl ⟨d, l, i.ext e, j.ext e⟩
    · exact .inr (.inl ⟨p, q, xs, ys, rfl, rfl, e.keep _ _ hp List.not_mem_nil, e.keep _ _ hq List.not_mem_nil, lz, Paired.mapP w fun _ _ z => Sm.ext e z⟩)
    · exact .inr (.inr ⟨l, hU, p, q, f, rfl, rfl, hp.ext e List.not_mem_nil, hq.ext e List.not_mem_nil, w⟩)
theorem sle_anti {x y : Slot} (h : sLt y x = false) (k : sLt x y = false) : x = y := by
  rcases SLt.tri x y with z | z | z
  · exact absurd z (sLt_no.mp k)
  · exact z
  · exact absurd z (sLt_no.mp h)
theorem sorted_uniq : ∀ {xs ys : List Slot}, xs.Perm ys → xs.Pairwise (fun x y => sLt y x = false) → ys.Pairwise (fun x y => sLt y x = false) → xs = ys
  | [], ys, p, _, _ => (List.nil_perm.mp p).symm
  | x :: xs, [], p, _, _ => absurd (List.perm_nil.mp p) (fun z => nomatch z)
  | x :: xs, y :: ys, p, h, k => by
    obtain ⟨h1, h2⟩ := List.pairwise_cons.mp h
    obtain ⟨k1, k2⟩ := List.pairwise_cons.mp k
    have e : x = y := by
      have m1 : x ∈ y :: ys := p.mem_iff.mp List.mem_cons_self
      have m2 : y ∈ x :: xs := p.mem_iff.mpr List.mem_cons_self
      rcases List.mem_cons.mp m1 with m1 | m1
      · exact m1
      · rcases List.mem_cons.mp m2 with m2 | m2
        · exact m2.symm
        · exact sle_anti (h1 y m2) (k1 x m1)
    subst e
    rw [sorted_uniq ((List.perm_cons x).mp p) h2 k2]
theorem DMk.perm {U : List Slot} {H H' : Hp} {kvs kvs' : List (List Key × V)} {ks ks' : List Slot} {f : Fd} (h : DMk U H kvs ks f) (h' : DMk U H' kvs' ks' f) : ks.Perm ks' :=
  (List.perm_ext_iff_of_nodup h.nd h'.nd).mpr fun s => by rw [h.mem, h'.mem]
/-- the items of a slot's tuple -/
def sD (s : Slot) : PyData := .tuple [.str s.1, .int s.2.1, .int s.2.2]
theorem sD_depth (s : Slot) : (sD s).depth = 1 := by simp [sD, PyData.depth, PyData.depthAll]
theorem im_slot {H : Hp} {b : Addr} {s : Slot} (h : H b = some (.tup (sVs s))) : Im H (.ref b) (sD s) := .tup h (show 3 ≤ 1000 by decide) (.cons (.str _) (.cons (.int _) (.cons (.int _) .nil)))
theorem sm_slots {U : List Slot} {n : Nat} {H : Hp} (hn : 2 ≤ n) : ∀ {as bs : List Addr} {ss : List Slot}, SlotsAt H as ss → SlotsAt H bs ss → Paired (Sm U n H) (as.map V.ref) (bs.map V.ref)
  | _, _, _, .nil, .nil => .nil
  | _, _, _, .cons h t, .cons k u => .cons (Sm.im (d := sD _) (by rw [sD_depth]; omega) (im_slot h) (im_slot k)) (sm_slots hn t u)

theorem SlotsAt.app {H : Hp} {as bs : List Addr} {ss ts : List Slot} (h : SlotsAt H as ss) (k : SlotsAt H bs ts) : SlotsAt H (as ++ bs) (ss ++ ts) := by
  unfold SlotsAt at *
  induction h with
  | nil => exact k
  | cons h t ih => exact .cons h ih
theorem SlotsAt.snoc {H : Hp} {as : List Addr} {b : Addr} {ss : List Slot} {s : Slot} (h : SlotsAt H as ss) (k : H b = some (.tup (sVs s))) : SlotsAt H (as ++ [b]) (ss ++ [s]) := h.app (.cons k .nil)
theorem SlotsAt.len {H : Hp} {as : List Addr} {ss : List Slot} (h : SlotsAt H as ss) : as.length = ss.length := paired_len h
theorem SlotsAt.get {H : Hp} {as : List Addr} {ss : List Slot} (h : SlotsAt H as ss) {i : Nat} {v : V} (e : (as.map V.ref)[i]? = some v) : ∃ a s, v = .ref a ∧ as[i]? = some a ∧ ss[i]? = some s ∧ H a = some (.tup (sVs s)) := by
  rw [List.getElem?_map] at e
  cases q : as[i]? with
  | none => rw [q] at e; cases e
  | some a =>
    rw [q] at e
    obtain ⟨s, hs, hh⟩ := paired_at h q
    exact ⟨a, s, (Option.some.inj e).symm, rfl, hs, hh⟩
/-! ### walks over the keys of a dict of slots -/
section
variable {K : PySem.W.Frag} {σ : St} {H : Hp} {Q : VK} {a b : Addr} {rt : VK} {nx : St → Hp → Prop} {t : TS} {tt : TT} {te : TE} {U : List Slot} {f : Fd}
theorem w_keysT {kvs : List (List Key × V)} {o : Obj} {R : It → Hp → Prop} {i : Nat} (e : σ[i]? = some (some (.ref a))) (h : H a = some (.frz o (.dT kvs))) (q : R (Itkt a o kvs) H) : iKeys (tVar i) σ H R := ⟨.ref a, e, a, o, rfl, .inr ⟨kvs, h, q⟩⟩
theorem w_keysKT {kvs : List (List Key × V)} {o : Obj} {R : It → Hp → Prop} (h : H a = some (.frz o (.dT kvs))) (q : R (Itkt a o kvs) H) : ∃ d o, V.ref a = .ref d ∧ ((∃ kvs, H d = some (.frz o (.dK kvs)) ∧ R (Itk d o kvs) H) ∨ ∃ kvs, H d = some (.frz o (.dT kvs)) ∧ R (Itkt d o kvs) H) := ⟨a, o, rfl, .inr ⟨kvs, h, q⟩⟩
theorem z_for_keysT {kvs : List (List Key × V)} {ks : List Slot} {H0 : Hp} (m : DMk U H0 kvs ks f) {d : Addr} {o : Obj} {g : TG} (Pv : Nat → St → Hp → Prop) (h0 : Pv 0 σ H) (hl : ∀ i σ H, i ≤ ks.length → Pv i σ H → H d = some (.frz o (.dT kvs)))
    (hs : ∀ (N : St → Hp → Prop) i s e b σ H, ks[i]? = some s → f s = some e → H b = some (.tup (sVs s)) → Pv i σ H → (∀ σ' H', Pv (i + 1) σ' H' → N σ' H') → g (.ref b) σ H fun σ2 H2 => t ⟨N, rt, nx, N⟩ σ2 H2) (hd : ∀ σ H, Pv ks.length σ H → nx σ H) :
    ∃ W : Nat → Nat → St → Hp → Prop, (∃ m, W 0 m σ H) ∧ ∀ i m σ H, W i m σ H →
      ((Itkt d o kvs).stop i H ∧ nx σ H) ∨ ((Itkt d o kvs).go i H ∧ ∃ N : St → Hp → Prop, (∀ σ' H', N σ' H' → ∃ m', m' < m ∧ W (i + 1) m' σ' H') ∧ ∀ x H', (Itkt d o kvs).yld i H x H' → g x σ H' fun σ2 H2 => t ⟨N, rt, nx, N⟩ σ2 H2) := by
  rw [← m.len] at hl hd
  refine ⟨fun i m σ H => m = kvs.length - i ∧ i ≤ kvs.length ∧ Pv i σ H, ⟨_, rfl, Nat.zero_le _, h0⟩, ?_⟩
  rintro i m' σ H ⟨rfl, hi, p⟩
  by_cases hlt : i < kvs.length
  · refine .inr ⟨⟨hl i σ H hi p, hlt⟩, Pv (i + 1), fun σ' H' p' => ⟨kvs.length - (i + 1), by omega, rfl, hlt, p'⟩, fun x H' y => ?_⟩
    obtain ⟨e, k, v, q, hk, rfl, hq⟩ := y
    subst e
    obtain ⟨s, d', hs', ek, hf, _, _⟩ := m.at hk
    subst ek
    exact hs (Pv (i + 1)) i s d' q σ _ hs' hf hq p fun _ _ q => q
  · have e : i = kvs.length := by omega
    subst e
    exact .inl ⟨⟨hl _ σ H hi p, Nat.le_refl _⟩, hd σ H p⟩
theorem z_lc_keysT {kvs : List (List Key × V)} {ks : List Slot} {H0 : Hp} (m : DMk U H0 kvs ks f) {d : Addr} {o : Obj} {g : TG} {vs : List Nat} {D : Addr} {Qd : Hp → Prop} (Pv : Nat → List V → Hp → Prop) (nD : H D = none) (h0 : ∀ H', Ext [] H H' → Pv 0 [] H') (hl : ∀ i acc H, i ≤ ks.length → Pv i acc H → H d = some (.frz o (.dT kvs)))
    (hs : ∀ (Nx : Hp → Prop) i s e b acc H, ks[i]? = some s → f s = some e → H b = some (.tup (sVs s)) → Pv i acc H → H D = some (.lst acc) → (∀ acc' H', Pv (i + 1) acc' H' → H' D = some (.lst acc') → Nx H') → g (.ref b) (wipe σ vs) H fun σ2 H2 => wipe σ2 vs = wipe σ vs ∧ tt σ2 H2 fun b H3 =>
      if b = true then te σ2 H3 fun y H4 => ∃ acc, H4 D = some (.lst acc) ∧ acc.length < sizeLine ∧ Nx (upd H4 D (.lst (acc ++ [y]))) else Nx H3) (hd : ∀ acc H, Pv ks.length acc H → H D = some (.lst acc) → Qd H) :
    ∃ W : Nat → Nat → Hp → Prop, (∃ m, W 0 m (upd H D (.lst []))) ∧ ∀ i m H, W i m H →
      ((Itkt d o kvs).stop i H ∧ Qd H) ∨ ((Itkt d o kvs).go i H ∧ ∃ Nx : Hp → Prop, (∀ H', Nx H' → ∃ m', m' < m ∧ W (i + 1) m' H') ∧ ∀ x H', (Itkt d o kvs).yld i H x H' → g x (wipe σ vs) H' fun σ2 H2 => wipe σ2 vs = wipe σ vs ∧ tt σ2 H2 fun b H3 =>
        if b = true then te σ2 H3 fun y H4 => ∃ acc, H4 D = some (.lst acc) ∧ acc.length < sizeLine ∧ Nx (upd H4 D (.lst (acc ++ [y]))) else Nx H3) := by
  rw [← m.len] at hl hd
  refine ⟨fun i m H => m = kvs.length - i ∧ i ≤ kvs.length ∧ ∃ acc, Pv i acc H ∧ H D = some (.lst acc), ⟨_, rfl, Nat.zero_le _, [], h0 _ (Ext.new nD), upd_same⟩, ?_⟩
  rintro i m' H ⟨rfl, hi, acc, p, hD⟩
  by_cases hlt : i < kvs.length
  · refine .inr ⟨⟨hl i acc H hi p, hlt⟩, (fun H => ∃ acc, Pv (i + 1) acc H ∧ H D = some (.lst acc)), fun H' p' => ⟨kvs.length - (i + 1), by omega, rfl, hlt, p'⟩, fun x H' y => ?_⟩
    obtain ⟨e, k, v, q, hk, rfl, hq⟩ := y
    subst e
    obtain ⟨s, d', hs', ek, hf, _, _⟩ := m.at hk
    subst ek
    exact hs _ i s d' q acc _ hs' hf hq p hD fun acc' H' p' h' => ⟨acc', p', h'⟩
  · have e : i = kvs.length := by omega
    subst e
    exact .inl ⟨⟨hl _ acc H hi p, Nat.le_refl _⟩, hd acc H p hD⟩
/-- .. and a dict is made of them -/
theorem w_dc {wi : TI} {g : TG} {tk tv : TE} {vs : List Nat} (h : wi σ H fun J H1 => ∀ D, H1 D = none → ∃ W : Nat → Nat → Hp → Prop, (∃ m, W 0 m (upd H1 D (.dT []))) ∧
  ∀ i m H, W i m H → (J.stop i H ∧ Q (.ref D) H) ∨ (J.go i H ∧ ∃ Nx : Hp → Prop, (∀ H', Nx H' → ∃ m', m' < m ∧ W (i + 1) m' H') ∧
    ∀ x H', J.yld i H x H' → g x (wipe σ vs) H' fun σ2 H2 => wipe σ2 vs = wipe σ vs ∧ tt σ2 H2 fun b H3 =>
      if b = true then tk σ2 H3 fun y H4 => tv σ2 H4 fun z H5 => ∃ kvs k q, y = .ref q ∧ H5 q = some (.tup (k.map kV)) ∧ H5 D = some (.dT kvs) ∧ kvs.length < sizeLine ∧ Nx (upd H5 D (.dT (putK kvs k z))) else Nx H3)) : zDcT wi g tt tk tv vs σ H Q := h
theorem w_dcput {D q : Addr} {v : V} {N : Hp → Prop} {s : Slot} {d : PyData} (hU : U.length ≤ 1000) (h : DM U H D f) (eb : H q = some (.tup (sVs s))) (m : s ∈ U) (i : Im H v d) (k : ∀ H', Ext [D] H H' → DM U H' D (putF f s d) → N H') :
    ∃ kvs k c, V.ref q = .ref c ∧ H c = some (.tup (k.map kV)) ∧ H D = some (.dT kvs) ∧ kvs.length < sizeLine ∧ N (upd H D (.dT (putK kvs k v))) := by
  obtain ⟨kvs, ks, h, w⟩ := h
  have e : Ext [D] H (upd H D (.dT (putK kvs (sKey s) v))) := Ext.mut h (fun z => z) (List.mem_singleton.mpr rfl)
  refine ⟨kvs, sKey s, q, rfl, eb, h, szl (Nat.lt_of_le_of_lt (w.small hU) (by decide)), k _ e ?_⟩
  obtain ⟨ks', w'⟩ := w.put m i
  exact ⟨_, ks', upd_same, w'.ext e⟩
theorem z_dc_keysT {kvs : List (List Key × V)} {ks : List Slot} {H0 : Hp} (m : DMk U H0 kvs ks f) {d : Addr} {o : Obj} {g : TG} {tk tv : TE} {vs : List Nat} {D : Addr} {Qd : Hp → Prop} (Pv : Nat → Hp → Prop) (h0 : ∀ H', Ext [] H H' → H' D = some (.dT []) → Pv 0 H') (nD : H D = none) (hl : ∀ i H, i ≤ ks.length → Pv i H → H d = some (.frz o (.dT kvs)))
    (hs : ∀ (Nx : Hp → Prop) i s e b H, ks[i]? = some s → f s = some e → H b = some (.tup (sVs s)) → Pv i H → (∀ H', Pv (i + 1) H' → Nx H') → g (.ref b) (wipe σ vs) H fun σ2 H2 => wipe σ2 vs = wipe σ vs ∧ tt σ2 H2 fun b H3 =>
      if b = true then tk σ2 H3 fun y H4 => tv σ2 H4 fun z H5 => ∃ kvs k q, y = .ref q ∧ H5 q = some (.tup (k.map kV)) ∧ H5 D = some (.dT kvs) ∧ kvs.length < sizeLine ∧ Nx (upd H5 D (.dT (putK kvs k z))) else Nx H3) (hd : ∀ H, Pv ks.length H → Qd H) :
    ∃ W : Nat → Nat → Hp → Prop, (∃ m, W 0 m (upd H D (.dT []))) ∧ ∀ i m H, W i m H →
      ((Itkt d o kvs).stop i H ∧ Qd H) ∨ ((Itkt d o kvs).go i H ∧ ∃ Nx : Hp → Prop, (∀ H', Nx H' → ∃ m', m' < m ∧ W (i + 1) m' H') ∧ ∀ x H', (Itkt d o kvs).yld i H x H' → g x (wipe σ vs) H' fun σ2 H2 => wipe σ2 vs = wipe σ vs ∧ tt σ2 H2 fun b H3 =>
        if b = true then tk σ2 H3 fun y H4 => tv σ2 H4 fun z H5 => ∃ kvs k q, y = .ref q ∧ H5 q = some (.tup (k.map kV)) ∧ H5 D = some (.dT kvs) ∧ kvs.length < sizeLine ∧ Nx (upd H5 D (.dT (putK kvs k z))) else Nx H3) := by
  rw [← m.len] at hl hd
  refine ⟨fun i m H => m = kvs.length - i ∧ i ≤ kvs.length ∧ Pv i H, ⟨_, rfl, Nat.zero_le _, h0 _ (Ext.new nD) upd_same⟩, ?_⟩
  rintro i m' H ⟨rfl, hi, p⟩
  by_cases hlt : i < kvs.length
  · refine .inr ⟨⟨hl i H hi p, hlt⟩, Pv (i + 1), fun H' p' => ⟨kvs.length - (i + 1), by omega, rfl, hlt, p'⟩, fun x H' y => ?_⟩
    obtain ⟨e, k, v, q, hk, rfl, hq⟩ := y
    subst e
    obtain ⟨s, d', hs', ek, hf, _, _⟩ := m.at hk
    subst ek
    exact hs (Pv (i + 1)) i s d' q _ hs' hf hq p fun _ q => q
  · have e : i = kvs.length := by omega
    subst e
    exact .inl ⟨⟨hl _ H hi p, Nat.le_refl _⟩, hd H p⟩
theorem w_sortT {P : V → Hp → Prop} (h : DR U H a f) (k : ∀ p bs ts H', Ext [] H H' → H p = none → H' p = some (.lst (bs.map V.ref)) → SlotsAt H' bs ts → ts.Nodup → (∀ s, s ∈ ts ↔ (f s).isSome = true) → ts.length ≤ U.length → ts.Pairwise (fun x y => sLt y x = false) → P (.ref p) H') : cSortT K [.ref a] H P := by
  obtain ⟨kvs, ks, h, m⟩ := h
  refine .inr ⟨a, kvs, ks, rfl, h, m.keys, fun bs ts hb hp hs => w_alc fun p H' e n hh => ?_⟩
  exact k p bs ts H' e n hh (hb.ext e) (hp.nodup_iff.mpr m.nd) (fun s => by rw [hp.mem_iff]; exact m.mem) (by rw [hp.length_eq]; exact nodup_len m.nd m.sub) hs
theorem w_sortSl {P : V → Hp → Prop} {as : List Addr} {ss : List Slot} (h : SqL K H a (as.map V.ref)) (hx : SlotsAt H as ss) (k : ∀ p bs ts H', Ext [] H H' → H p = none → H' p = some (.lst (bs.map V.ref)) → SlotsAt H' bs ts → ts.Perm ss → ts.Pairwise (fun x y => sLt y x = false) → P (.ref p) H') : cSortT K [.ref a] H P :=
  .inl ⟨a, as, ss, rfl, h, hx, fun bs ts hb hp hs => w_alc fun p H' e n hh => k p bs ts H' e n hh (hb.ext e) hp hs⟩
theorem w_lenX {xs : List V} (h : SqL K H a xs ∨ SqT K H a xs) (q : Q (.int (xs.length : Int)) H) : cLenX K [.ref a] H Q := .inl ⟨_, _, rfl, h.elim (fun h => .inl ⟨xs, h, rfl⟩) (fun h => .inr ⟨xs, h, rfl⟩), q⟩
theorem w_lenXT {kvs : List (List Key × V)} (h : H a = some (.dT kvs)) (q : Q (.int (kvs.length : Int)) H) : cLenX K [.ref a] H Q := .inr ⟨a, kvs, rfl, h, q⟩
theorem w_ixA {v : V} {xs : List V} {j : Int} (h : SqL K H a xs ∨ SqT K H a xs) (e : atI xs j = some v) (q : Q v H) : rIx K (.ref a) (.int j) H Q :=
  h.elim (fun h => .inl ⟨a, xs, j, v, rfl, rfl, h, e, q⟩) fun h => .inr (.inl ⟨a, xs, j, v, rfl, rfl, h, e, q⟩)
theorem w_clearT {kvs : List (List Key × V)} {Q : VK} (h : H a = some (.dT kvs)) (k : ∀ H', Ext [a] H H' → Q .non H') : rClearT (.ref a) [] H Q := ⟨a, kvs, rfl, rfl, h, w_chg h (fun z => z) fun H' e _ => k H' e⟩
end
end Zk

set_option Elab.async false
set_option linter.all false
set_option maxRecDepth 100000
set_option maxHeartbeats 4000000
namespace Zk
open PySem PySem.Spec L2
open PyProof.Rows hiding St

/-! ### texts of plain signs -/
def Sg (z : Str) : Prop := ∀ c ∈ z.cps.toList, c < 128
theorem Sg.ok {z : Str} (h : Sg z) : PyData.strOk z = true := by
  unfold PyData.strOk
  rw [Array.all_eq_true']
  intro c hc
  have := h c (by simpa using hc)
  simp only [decide_eq_true_eq]
  omega
theorem Sg.app {a b : Str} (ha : Sg a) (hb : Sg b) : Sg (a ++ b) := fun c hc => by
  have e : (a ++ b).cps.toList = a.cps.toList ++ b.cps.toList := by
    show (a.cps ++ b.cps).toList = _
    simp
  rw [e, List.mem_append] at hc
  exact hc.elim (ha c) (hb c)
theorem Sg.one {c : Nat} (h : c < 128) : Sg ⟨#[c]⟩ := fun d hd => by
  have : d = c := by simpa using hd
  omega
theorem Sg.empty : Sg Str.empty := fun c hc => by simp [Str.empty] at hc
theorem Sg.join {sep : Str} (h0 : Sg sep) : ∀ {ys : List Str}, (∀ y ∈ ys, Sg y) → Sg (Txt.join sep ys) := by
  intro ys h
  show Sg (Builtin.Str.glued sep ys)
  rw [StrLaws.glued_eq_join]
  induction ys with
  | nil => exact Sg.empty
  | cons x r ih =>
    cases r with
    | nil => exact h x List.mem_cons_self
    | cons y r => exact ((h x List.mem_cons_self).app h0).app (ih fun z m => h z (List.mem_cons_of_mem _ m))
theorem Sg.mul {x : Str} (h : Sg x) (n : Int) : Sg (Txt.mul x n) := by
  unfold Txt.mul
  split
  · exact Sg.empty
  · split
    · exact h
    · have g : ∀ (k : Nat) (acc : Array Nat), (∀ c ∈ acc.toList, c < 128) → ∀ c ∈ ((List.replicate k x.cps).foldl (· ++ ·) acc).toList, c < 128 := by
        intro k
        induction k with
        | zero => intro acc ha; exact ha
        | succ k ih =>
          intro acc ha
          rw [List.replicate_succ, List.foldl_cons]
          refine ih _ fun c hc => ?_
          rw [Array.toList_append, List.mem_append] at hc
          exact hc.elim (ha c) (h c)
      exact g _ _ fun c hc => by simp at hc

/-! ### contents of slots -/
def Cell : Nat → PyData → Prop
  | 0, d => d = .none ∨ ∃ n, d = .int n
  | 1, d => d = .none ∨ ∃ z, Sg z ∧ d = .str z
  | 2, d => d = .none ∨ ∃ b, d = .bool b
  | 3, d => d = .none ∨ ∃ n m, d = .tuple [.str "sealed", .str "int", .int n, .int m]
  | _, _ => False
def Cells : Nat → List PyData → Prop
  | _, [] => True
  | i, d :: ds => Cell i d ∧ Cells (i + 1) ds
def Cont (d : PyData) : Prop := (∃ a b cs, Cells 0 cs ∧ d = .tuple [.str "row", .int a, .int b, .tuple cs]) ∨ (∃ n, d = .tuple [.str "closed", .int n]) ∨ ∃ a b k c, d = .tuple [.str "shelf", .int a, .int b, .bool k, .int c]
theorem Cell.eqv : ∀ {i : Nat} {d e : PyData}, Cell i d → Cell i e → (PyData.eqv d e = true ↔ d = e)
  | 0, d, e, h, k => by
    rcases h with rfl | ⟨n, rfl⟩ <;> rcases k with rfl | ⟨m, rfl⟩ <;> simp [PyData.eqv]
  | 1, d, e, h, k => by
    rcases h with rfl | ⟨n, _, rfl⟩ <;> rcases k with rfl | ⟨m, _, rfl⟩ <;> simp [PyData.eqv]
  | 2, d, e, h, k => by
    rcases h with rfl | ⟨n, rfl⟩ <;> rcases k with rfl | ⟨m, rfl⟩ <;> simp [PyData.eqv]
  | 3, d, e, h, k => by
    rcases h with rfl | ⟨n, m, rfl⟩ <;> rcases k with rfl | ⟨n', m', rfl⟩ <;> simp [PyData.eqv, PyData.eqvAll]
  | _ + 4, d, e, h, k => h.elim
theorem Cells.eqv : ∀ {i : Nat} {ds es : List PyData}, Cells i ds → Cells i es → (PyData.eqvAll ds es = true ↔ ds = es)
  | _, [], [], _, _ => by simp [PyData.eqvAll]
  | _, [], _ :: _, _, _ => by simp [PyData.eqvAll]
  | _, _ :: _, [], _, _ => by simp [PyData.eqvAll]
  | i, d :: ds, e :: es, h, k => by
    rw [PyData.eqvAll, Bool.and_eq_true, Cell.eqv h.1 k.1, Cells.eqv h.2 k.2, List.cons.injEq]
theorem Cont.eqv {d e : PyData} (h : Cont d) (k : Cont e) : PyData.eqv d e = true ↔ d = e := by
  rcases h with ⟨a, b, cs, hc, rfl⟩ | ⟨n, rfl⟩ | ⟨a, b, f, c, rfl⟩ <;> rcases k with ⟨a', b', cs', hc', rfl⟩ | ⟨n', rfl⟩ | ⟨a', b', f', c', rfl⟩
  · simp only [PyData.eqv, PyData.eqvAll, Bool.and_eq_true, Cells.eqv hc hc']
    simp
  all_goals simp [PyData.eqv, PyData.eqvAll]
theorem Cell.lay : ∀ {i : Nat} {d : PyData}, Cell i d → d.canLay0 = true ∧ d.depth ≤ 1
  | 0, d, h => by
    rcases h with rfl | ⟨n, rfl⟩ <;> simp [PyData.canLay0, PyData.depth]
  | 1, d, h => by
    rcases h with rfl | ⟨n, hn, rfl⟩
    · simp [PyData.canLay0, PyData.depth]
    · have := hn.ok
      simp [PyData.canLay0, PyData.depth]
      exact this
  | 2, d, h => by
    rcases h with rfl | ⟨n, rfl⟩ <;> simp [PyData.canLay0, PyData.depth]
  | 3, d, h => by
    rcases h with rfl | ⟨n, m, rfl⟩
    · simp [PyData.canLay0, PyData.depth]
    · simp [PyData.canLay0, PyData.canLayAll0, PyData.depth, PyData.depthAll]
      decide +kernel
  | _ + 4, d, h => h.elim
theorem Cells.lay : ∀ {i : Nat} {ds : List PyData}, Cells i ds → PyData.canLayAll0 ds = true ∧ PyData.depthAll ds ≤ 1
  | _, [], _ => by simp [PyData.canLayAll0, PyData.depthAll]
  | i, d :: ds, h => by
    obtain ⟨a1, a2⟩ := Cell.lay h.1
    obtain ⟨b1, b2⟩ := Cells.lay h.2
    rw [PyData.canLayAll0, PyData.depthAll, a1, b1]
    exact ⟨rfl, Nat.max_le.mpr ⟨a2, b2⟩⟩
theorem Cont.lay {d : PyData} (h : Cont d) : d.canLay0 = true ∧ d.depth ≤ 3 := by
  rcases h with ⟨a, b, cs, hc, rfl⟩ | ⟨n, rfl⟩ | ⟨a, b, f, c, rfl⟩
  · obtain ⟨b1, b2⟩ := Cells.lay hc
    simp only [PyData.canLay0, PyData.canLayAll0, PyData.depth, PyData.depthAll, b1]
    refine ⟨by decide +kernel, ?_⟩
    omega
  · simp [PyData.canLay0, PyData.canLayAll0, PyData.depth, PyData.depthAll]; decide +kernel
  · simp [PyData.canLay0, PyData.canLayAll0, PyData.depth, PyData.depthAll]; decide +kernel
/-- what a slot holds, None where it holds nothing -/
def oD (x : Option PyData) : PyData := x.getD .none
def OCt (x : Option PyData) : Prop := ∀ d, x = some d → Cont d
theorem Cont.ne_none {d : PyData} (h : Cont d) : d ≠ .none := by
  rcases h with ⟨a, b, cs, hc, rfl⟩ | ⟨n, rfl⟩ | ⟨a, b, f, c, rfl⟩ <;> exact fun z => nomatch z
theorem OCt.eqv {x y : Option PyData} (h : OCt x) (k : OCt y) : PyData.eqv (oD x) (oD y) = true ↔ x = y := by
  cases x with
  | none => cases y with
    | none => simp [oD, PyData.eqv]
    | some e =>
      have := k e rfl
      rcases this with ⟨a, b, cs, hc, rfl⟩ | ⟨n, rfl⟩ | ⟨a, b, f, c, rfl⟩ <;> simp [oD, PyData.eqv]
  | some d => cases y with
    | none =>
      have := h d rfl
      rcases this with ⟨a, b, cs, hc, rfl⟩ | ⟨n, rfl⟩ | ⟨a, b, f, c, rfl⟩ <;> simp [oD, PyData.eqv]
    | some e =>
      show PyData.eqv d e = true ↔ _
      rw [Cont.eqv (h d rfl) (k e rfl), Option.some.injEq]
theorem OCt.shaped {x : Option PyData} (h : OCt x) : SeqAt.shaped (oD x) = true := by
  unfold SeqAt.shaped
  cases x with
  | none => simp [oD, PyData.canLay0, PyData.depth]
  | some d =>
    obtain ⟨a, b⟩ := (h d rfl).lay
    show (d.canLay0 && decide (d.depth ≤ 64)) = true
    rw [a, decide_eq_true (by omega)]; rfl
theorem OCt.depth {x : Option PyData} (h : OCt x) : (oD x).depth ≤ 3 := by
  cases x with
  | none => simp [oD, PyData.depth]
  | some d => exact (h d rfl).lay.2
theorem OCt.non {x : Option PyData} (h : OCt x) {H : Hp} {v : V} (i : Im H v (oD x)) : v = .non ↔ x = none := by
  cases x with
  | none => cases i; simp
  | some d =>
    refine ⟨fun z => ?_, fun z => nomatch z⟩
    subst z
    have := (h d rfl).ne_none
    change Im H .non d at i
    cases i
    exact absurd rfl this
theorem OCt.inj {x y : Option PyData} (h : OCt x) (k : OCt y) (e : oD x = oD y) : x = y := by
  cases x with
  | none => cases y with
    | none => rfl
    | some e' => exact absurd e.symm (k e' rfl).ne_none
  | some d => cases y with
    | none => exact absurd e (h d rfl).ne_none
    | some e' => exact congrArg some e
/-! ### differences -/
open Classical in
noncomputable def btw (x y : Option PyData) : Option PyData := if x = y then none else some (.tuple [oD x, oD y])
theorem btw_eq {x y : Option PyData} (h : x = y) : btw x y = none := if_pos h
theorem btw_ne {x y : Option PyData} (h : x ≠ y) : btw x y = some (.tuple [oD x, oD y]) := if_neg h
theorem btw_none {x y : Option PyData} (h : btw x y = none) : x = y := Classical.byContradiction fun z => by rw [btw_ne z] at h; cases h
theorem btw_some {x y : Option PyData} {d : PyData} (h : btw x y = some d) : x ≠ y ∧ d = .tuple [oD x, oD y] := by
  by_cases z : x = y
  · rw [btw_eq z] at h; cases h
  · rw [btw_ne z] at h; exact ⟨z, (Option.some.inj h).symm⟩
noncomputable def btwF (f g : Fd) : Fd := fun s => btw (f s) (g s)
def Stt (f : Fd) : Prop := ∀ s, OCt (f s)
theorem btw_depth {x y : Option PyData} {d : PyData} (h : OCt x) (k : OCt y) (e : btw x y = some d) : d.depth ≤ 4 := by
  obtain ⟨_, rfl⟩ := btw_some e
  have a := h.depth
  have b := k.depth
  simp only [PyData.depth, PyData.depthAll]
  omega
theorem stt_none : Stt fun _ => none := fun _ _ h => nomatch h
theorem stt_put {f : Fd} {s : Slot} {d : PyData} (h : Stt f) (c : Cont d) : Stt (putF f s d) := fun t e q => by
  unfold putF at q
  by_cases z : t = s
  · rw [if_pos z] at q; cases q; exact c
  · rw [if_neg z] at q; exact h t e q
/-- what of F is worked out for the slots of l -/
def resF (l : List Slot) (F : Fd) : Fd := fun s => if s ∈ l then F s else none
theorem resF_nil {F : Fd} : resF [] F = fun _ => none := by funext s; exact if_neg (fun z => nomatch z)
theorem resF_put {l : List Slot} {F : Fd} {s : Slot} {d : PyData} (h : F s = some d) : putF (resF l F) s d = resF (l ++ [s]) F := by
  funext t
  unfold putF resF
  by_cases e : t = s
  · subst e
    rw [if_pos rfl, if_pos (List.mem_append.mpr (.inr (List.mem_singleton.mpr rfl))), h]
  · rw [if_neg e]
    by_cases m : t ∈ l
    · rw [if_pos m, if_pos (List.mem_append.mpr (.inl m))]
    · rw [if_neg m, if_neg (fun z => (List.mem_append.mp z).elim m fun q => e (List.mem_singleton.mp q))]
theorem resF_skip {l : List Slot} {F : Fd} {s : Slot} (h : F s = none) : resF (l ++ [s]) F = resF l F := by
  funext t
  unfold resF
  by_cases e : t = s
  · subst e
    rw [h, ite_self, ite_self]
  · by_cases m : t ∈ l
    · rw [if_pos m, if_pos (List.mem_append.mpr (.inl m))]
    · rw [if_neg m, if_neg (fun z => (List.mem_append.mp z).elim m fun q => e (List.mem_singleton.mp q))]
theorem resF_all {l : List Slot} {F : Fd} (h : ∀ s, s ∉ l → F s = none) : resF l F = F := by
  funext s
  unfold resF
  by_cases m : s ∈ l
  · rw [if_pos m]
  · rw [if_neg m, h s m]
theorem take_snoc {α : Type} {l : List α} {i : Nat} {x : α} (h : l[i]? = some x) : l.take (i + 1) = l.take i ++ [x] := by rw [List.take_add_one, h]; rfl
theorem room65 {k : Nat} {A : Around} (r : Room k A) : A.units + 65 < cLine := by have := r.un; omega
end Zk

set_option Elab.async false
set_option linter.all false
set_option maxRecDepth 100000
set_option maxHeartbeats 4000000
namespace Zk
open PySem PySem.Spec L2
open PyProof.Rows hiding St

/-! ### min of a list of slots -/
theorem slots_dp' {K : PySem.W.Frag} {H : Hp} {as : List Addr} {ss : List Slot} (h : SlotsAt H as ss) : DpAll K H (as.map V.ref) (ss.map sD) := by
  unfold SlotsAt at h
  induction h with
  | nil => exact .nil
  | cons h t ih => exact .cons (im_slot h).dp ih
theorem sD_inj {s t : Slot} (h : sD s = sD t) : s = t := by
  obtain ⟨a, b, c⟩ := s
  obtain ⟨a', b', c'⟩ := t
  simp [sD] at h
  obtain ⟨h1, h2, h3⟩ := h
  subst h1 h2 h3
  rfl
theorem sD_alike (s t : Slot) : PySem.W.alike (sD s) (sD t) = true := by simp [sD, PySem.W.alike, PySem.W.alikeAll]
theorem sD_lt (s t : Slot) : PySem.W.dataLt (sD s) (sD t) = sLt s t := by
  unfold sD
  rw [PySem.W.dataLt_tuple, PySem.W.dataLt_cons (by simp [PySem.W.alike]), PySem.W.dataLt_cons (by simp [PySem.W.alike]), PySem.W.dataLt_cons (by simp [PySem.W.alike])]
  rw [PySem.W.dataLt_str, PySem.W.dataLt_int, PySem.W.dataLt_int]
  have e1 : (PyData.eqv (.str s.1) (.str t.1) = true) ↔ s.1 = t.1 := by simp [PyData.eqv]
  have e2 : (PyData.eqv (.int s.2.1) (.int t.2.1) = true) ↔ s.2.1 = t.2.1 := by simp [PyData.eqv]
  have e3 : (PyData.eqv (.int s.2.2) (.int t.2.2) = true) ↔ s.2.2 = t.2.2 := by simp [PyData.eqv]
  unfold sLt
  by_cases h1 : s.1 = t.1
  · rw [if_pos (e1.mpr h1), if_pos h1]
    by_cases h2 : s.2.1 = t.2.1
    · rw [if_pos (e2.mpr h2), if_pos h2]
      by_cases h3 : s.2.2 = t.2.2
      · rw [if_pos (e3.mpr h3), h3, decide_eq_false (Int.lt_irrefl _)]
        rfl
      · rw [if_neg (fun z => h3 (e3.mp z))]
    · rw [if_neg (fun z => h2 (e2.mp z)), if_neg h2]
  · rw [if_neg (fun z => h1 (e1.mp z)), if_neg h1]
theorem minD_slots : ∀ (ss : List Slot) (s : Slot), ∃ m, m ∈ s :: ss ∧ PySem.W.minD (sD s) (ss.map sD) = sD m ∧ ∀ t ∈ s :: ss, sLt t m = false
  | [], s => ⟨s, List.mem_cons_self, rfl, fun t ht => by
      rw [List.mem_singleton.mp ht]
      exact sLt_no.mpr fun z => z.irr⟩
  | x :: ss, s => by
    have step : PySem.W.minD (sD s) ((x :: ss).map sD) = PySem.W.minD (sD (if sLt x s = true then x else s)) (ss.map sD) := by
      unfold PySem.W.minD
      rw [List.map_cons, List.foldl_cons, sD_lt]
      by_cases h : sLt x s = true
      · rw [if_pos h, if_pos h]
      · rw [if_neg h, if_neg h]
    rw [step]
    by_cases h : sLt x s = true
    · rw [if_pos h]
      obtain ⟨m, hm, e, hl⟩ := minD_slots ss x
      refine ⟨m, List.mem_cons_of_mem _ hm, e, fun t ht => ?_⟩
      rcases List.mem_cons.mp ht with rfl | ht
      · refine sLt_no.mpr fun z => ?_
        have a := sLt_no.mp (hl x List.mem_cons_self)
        exact a (SLt.trans (sLt_iff.mp h) z)
      · exact hl t ht
    · rw [if_neg h]
      obtain ⟨m, hm, e, hl⟩ := minD_slots ss s
      refine ⟨m, ?_, e, fun t ht => ?_⟩
      · rcases List.mem_cons.mp hm with rfl | hm
        · exact List.mem_cons_self
        · exact List.mem_cons_of_mem _ (List.mem_cons_of_mem _ hm)
      · rcases List.mem_cons.mp ht with rfl | ht
        · exact hl t List.mem_cons_self
        · rcases List.mem_cons.mp ht with rfl | ht
          · have a := sLt_no.mp (hl s List.mem_cons_self)
            have b : ¬ SLt t s := fun z => h (sLt_iff.mpr z)
            refine sLt_no.mpr fun z => ?_
            rcases SLt.tri s m with c | c | c
            · exact a c
            · rw [← c] at z; exact b z
            · exact b (SLt.trans z c)
          · exact hl t (List.mem_cons_of_mem _ ht)
def cMinSl (K : PySem.W.Frag) : RC := fun vs H Q => ∃ (a : Addr) (as : List Addr) (ss : List Slot), vs = [V.ref a] ∧ SqL K H a (as.map V.ref) ∧ SlotsAt H as ss ∧ 0 < ss.length ∧
  ∀ (b : Addr) (m : Slot), H b = some (.tup (sVs m)) → m ∈ ss → (∀ s ∈ ss, sLt s m = false) → Q (.ref b) H
theorem zc_minSl {X : Cx} (hc : X.calm = true) (hu : X.A.units + 64 < cLine) : CallR X (.builtin "min") (cMinSl X.K) := by
  intro pins s σ H vs us Q I r h
  obtain ⟨a, as, ss, rfl, hs, hx, hp, q⟩ := h
  obtain ⟨its, rv, hl, hz⟩ := I.list hs
  obtain ⟨u, rfl, ru⟩ := vals1 r
  obtain rfl : u = Value.ref a := ru
  obtain ⟨ads, hr⟩ := Dp.readsAll I (ss.map sD) (as.map V.ref) its (slots_dp' hx) rv
  cases ss with
  | nil => exact absurd hp (Nat.lt_irrefl 0)
  | cons s0 rest =>
    have dp : PyData.depthAll ((s0 :: rest).map sD) ≤ 1 := by
      have : ∀ l : List Slot, PyData.depthAll (l.map sD) ≤ 1 := by
        intro l
        induction l with
        | nil => simp [PyData.depthAll]
        | cons x l ih => rw [List.map_cons, PyData.depthAll, sD_depth]; exact Nat.max_le.mpr ⟨Nat.le_refl _, ih⟩
      exact this _
    refine PySem.W.min_list_data (x := sD s0) (xs := rest.map sD) (I.ok.hd hc) hl.isList hr ⟨?_, ?_⟩ (by have := dp; rw [List.map_cons] at this; omega) fun i v h' tk bs hv hv2 kp => ?_
    · intro x hx y hy
      rw [← List.map_cons] at hx hy
      obtain ⟨s, _, rfl⟩ := List.mem_map.mp hx
      obtain ⟨t, _, rfl⟩ := List.mem_map.mp hy
      exact sD_alike s t
    · intro x hx
      rw [← List.map_cons] at hx
      obtain ⟨s, _, rfl⟩ := List.mem_map.mp hx
      exact fun z => nomatch z
    · obtain ⟨m, hm, e, hl⟩ := minD_slots rest s0
      rw [e] at hv2
      have hv' : its[i]? = some v := by simpa using hv
      have li : i < as.length := by
        obtain ⟨l, _⟩ := List.getElem?_eq_some_iff.mp hv'
        have := rv.length
        rw [List.length_map] at this
        omega
      have ha : as[i]? = some as[i] := List.getElem?_eq_getElem li
      obtain ⟨t, ht, hb⟩ := paired_at hx ha
      obtain ⟨u, hu2, ru2⟩ := rv.get (x := V.ref as[i]) (by rw [List.getElem?_map, ha]; rfl)
      rw [hv'] at hu2
      cases hu2
      obtain rfl : v = Value.ref as[i] := ru2
      obtain ⟨bs2, r2⟩ := Dp.reads I (sD t) (.ref as[i]) (.ref as[i]) (im_slot hb).dp rfl
      have em := sD_inj (PySem.W.alike_unique _ _ _ _ _ (sD_alike m t) hv2 (PySem.W.reads_keeps kp r2))
      subst em
      exact ⟨.ref as[i], H, I.kept kp, rfl, q _ _ hb hm hl⟩
end Zk

set_option Elab.async false
set_option linter.all false
set_option maxRecDepth 100000
set_option maxHeartbeats 4000000
namespace Zk
open PySem PySem.Spec L2
open PyProof.Rows hiding St

/-! ### values and kinds -/
inductive Val where
  | fl (b : Bool)
  | nm (n : Int)
  | tx (z : Str)
inductive Kd where
  | F
  | I
  | T
def kS : Kd → Str
  | .F => Str.ofString "flag"
  | .I => Str.ofString "int"
  | .T => Str.ofString "text"
def vV : Val → V
  | .fl b => .bl b
  | .nm n => .int n
  | .tx z => .str z
def vD : Val → PyData
  | .fl b => .bool b
  | .nm n => .int n
  | .tx z => .str z
theorem vV_inj : ∀ {a b : Val}, vV a = vV b → a = b
  | .fl a, .fl b, h => by injection h with h; rw [h]
  | .nm a, .nm b, h => by injection h with h; rw [h]
  | .tx a, .tx b, h => by injection h with h; rw [h]
  | .fl _, .nm _, h => nomatch h
  | .fl _, .tx _, h => nomatch h
  | .nm _, .fl _, h => nomatch h
  | .nm _, .tx _, h => nomatch h
  | .tx _, .fl _, h => nomatch h
  | .tx _, .nm _, h => nomatch h
theorem im_val {H : Hp} : ∀ v : Val, Im H (vV v) (vD v)
  | .fl b => .bl b
  | .nm n => .int n
  | .tx z => .str z
def alph : Str := Str.ofString " !\"#$&'()*+,-./0123456789:;<=>?@ABCDEFGHIJKLMNOPQRSTUVWXYZ[\\]^_`abcdefghijklmnopqrstuvwxyz{|}~"
/-- its signs are of the alphabet -/
def Al (l : List Nat) : Prop := ∀ c ∈ l, c ∈ alph.cps.toList
/-- the values of a kind -/
def VOk : Kd → Val → Prop
  | .F, .fl _ => True
  | .I, .nm n => -1000000000 ≤ n ∧ n ≤ 1000000000
  | .T, .tx z => z.length ≤ 20 ∧ Al z.cps.toList
  | _, _ => False
theorem vok_scal : ∀ {k : Kd} {a b : Val}, VOk k a → VOk k b → scal (vV a) (vV b) = true
  | .F, .fl _, .fl _, _, _ => rfl
  | .I, .nm _, .nm _, _, _ => rfl
  | .T, .tx _, .tx _, _, _ => rfl
  | .F, .nm _, _, h, _ => h.elim
  | .F, .tx _, _, h, _ => h.elim
  | .I, .fl _, _, h, _ => h.elim
  | .I, .tx _, _, h, _ => h.elim
  | .T, .fl _, _, h, _ => h.elim
  | .T, .nm _, _, h, _ => h.elim
  | .F, .fl _, .nm _, _, h => h.elim
  | .F, .fl _, .tx _, _, h => h.elim
  | .I, .nm _, .fl _, _, h => h.elim
  | .I, .nm _, .tx _, _, h => h.elim
  | .T, .tx _, .fl _, _, h => h.elim
  | .T, .tx _, .nm _, _, h => h.elim
theorem vok_I {v : Val} (h : VOk .I v) : ∃ n, v = .nm n ∧ -1000000000 ≤ n ∧ n ≤ 1000000000 := by
  cases v with
  | nm n => exact ⟨n, rfl, h⟩
  | fl _ => exact h.elim
  | tx _ => exact h.elim
theorem vok_T {v : Val} (h : VOk .T v) : ∃ z, v = .tx z ∧ z.length ≤ 20 ∧ Al z.cps.toList := by
  cases v with
  | tx z => exact ⟨z, rfl, h⟩
  | fl _ => exact h.elim
  | nm _ => exact h.elim
/-! ### conversions -/
inductive Cv where
  | aff (a b : Int)
  | una (a b : Int)
  | pre (p : Str)
  | unp (p : Str)
  | rcd (k l : Kd) (ps : List (Val × Val))
def prD3 (p : Val × Val) : PyData := .tuple [vD p.1, vD p.2]
def cD : Cv → PyData
  | .aff a b => .tuple [.str (Str.ofString "affine"), .int a, .int b]
  | .una a b => .tuple [.str (Str.ofString "unaffine"), .int a, .int b]
  | .pre p => .tuple [.str (Str.ofString "prefix"), .str p]
  | .unp p => .tuple [.str (Str.ofString "unprefix"), .str p]
  | .rcd k l ps => .tuple [.str (Str.ofString "recode"), .str (kS k), .str (kS l), .tuple (ps.map prD3)]
def k1 : Cv → Kd
  | .aff _ _ => .I
  | .una _ _ => .I
  | .pre _ => .T
  | .unp _ => .T
  | .rcd k _ _ => k
def k2 : Cv → Kd
  | .aff _ _ => .I
  | .una _ _ => .I
  | .pre _ => .T
  | .unp _ => .T
  | .rcd _ l _ => l
def COk : Cv → Prop
  | .aff a b => a ≠ 0 ∧ -1000 ≤ a ∧ a ≤ 1000 ∧ -1000000 ≤ b ∧ b ≤ 1000000
  | .una a b => a ≠ 0 ∧ -1000 ≤ a ∧ a ≤ 1000 ∧ -1000000 ≤ b ∧ b ≤ 1000000
  | .pre p => 1 ≤ p.length ∧ p.length ≤ 6 ∧ Al p.cps.toList
  | .unp p => 1 ≤ p.length ∧ p.length ≤ 6 ∧ Al p.cps.toList
  | .rcd k l ps => ps.length ≤ 8 ∧ (∀ p ∈ ps, VOk k p.1 ∧ VOk l p.2) ∧ (ps.map (·.1)).Nodup ∧ (ps.map (·.2)).Nodup
def cI : Cv → Cv
  | .aff a b => .una a b
  | .una a b => .aff a b
  | .pre p => .unp p
  | .unp p => .pre p
  | .rcd k l ps => .rcd l k (ps.map fun p => (p.2, p.1))
theorem cI_ok : ∀ {c : Cv}, COk c → COk (cI c)
  | .aff _ _, h => h
  | .una _ _, h => h
  | .pre _, h => h
  | .unp _, h => h
  | .rcd k l ps, ⟨h1, h2, h3, h4⟩ => by
    refine ⟨by rw [List.length_map]; exact h1, fun p m => ?_, ?_, ?_⟩
    · obtain ⟨q, hq, rfl⟩ := List.mem_map.mp m
      exact ⟨(h2 q hq).2, (h2 q hq).1⟩
    · rw [List.map_map]; exact h4
    · rw [List.map_map]; exact h3
theorem cI_k1 : ∀ c : Cv, k1 (cI c) = k2 c
  | .aff _ _ => rfl
  | .una _ _ => rfl
  | .pre _ => rfl
  | .unp _ => rfl
  | .rcd _ _ _ => rfl
theorem cI_k2 : ∀ c : Cv, k2 (cI c) = k1 c
  | .aff _ _ => rfl
  | .una _ _ => rfl
  | .pre _ => rfl
  | .unp _ => rfl
  | .rcd _ _ _ => rfl
open Classical in
noncomputable def look : List (Val × Val) → Val → Option Val
  | [], _ => none
  | p :: ps, v => if p.1 = v then some p.2 else look ps v
def rng (n : Int) : Option Val := if -1000000000 ≤ n ∧ n ≤ 1000000000 then some (.nm n) else none
/-- z begins with p -/
def beg (z p : Str) : Bool := decide (z.cps.toList.take p.length = p.cps.toList)
def cut (z : Str) (n : Nat) : Str := ⟨(z.cps.toList.drop n).toArray⟩
def aB (a : Int) : Int := if a < 0 then -a else a
noncomputable def cvt : Cv → Val → Option Val
  | .aff a b, .nm n => rng (a * n + b)
  | .una a b, .nm n => if (n - b) % aB a = 0 then rng ((n - b).fdiv a) else none
  | .pre p, .tx z => if (p ++ z).length ≤ 20 then some (.tx (p ++ z)) else none
  | .unp p, .tx z => if beg z p = true then some (.tx (cut z p.length)) else none
  | .rcd _ _ ps, v => look ps v
  | _, _ => none
theorem rng_ok {n : Int} {r : Val} (h : rng n = some r) : r = .nm n ∧ -1000000000 ≤ n ∧ n ≤ 1000000000 := by
  unfold rng at h
  split at h
  · rename_i c; exact ⟨(Option.some.inj h).symm, c⟩
  · cases h
theorem look_mem : ∀ {ps : List (Val × Val)} {v r : Val}, look ps v = some r → (v, r) ∈ ps
  | p :: ps, v, r, h => by
    unfold look at h
    by_cases e : p.1 = v
    · rw [if_pos e] at h
      cases h
      rw [← e]
      exact List.mem_cons_self
    · rw [if_neg e] at h
      exact List.mem_cons_of_mem _ (look_mem h)
theorem look_at : ∀ {ps : List (Val × Val)} {v r : Val}, (ps.map (·.1)).Nodup → (v, r) ∈ ps → look ps v = some r
  | p :: ps, v, r, nd, m => by
    unfold look
    rw [List.map_cons, List.nodup_cons] at nd
    rcases List.mem_cons.mp m with m | m
    · rw [← m, if_pos rfl]
    · rw [if_neg (fun e => nd.1 (List.mem_map.mpr ⟨_, m, e.symm⟩))]
      exact look_at nd.2 m
theorem app_tl (a b : Str) : (a ++ b).cps.toList = a.cps.toList ++ b.cps.toList := by
  show (a.cps ++ b.cps).toList = _
  simp
theorem len_tl (a : Str) : a.cps.toList.length = a.length := by
  show a.cps.toList.length = a.cps.size
  rw [Array.length_toList]
theorem str_tl {a b : Str} (h : a.cps.toList = b.cps.toList) : a = b := by
  cases a; cases b
  simp only [Str.mk.injEq]
  exact Array.toList_inj.mp h
theorem beg_app (p z : Str) : beg (p ++ z) p = true := by
  unfold beg
  rw [app_tl, ← len_tl p, List.take_left, decide_eq_true rfl]
theorem cut_app (p z : Str) : cut (p ++ z) p.length = z := by
  refine str_tl ?_
  show ((p ++ z).cps.toList.drop p.length) = _
  rw [app_tl, ← len_tl p, List.drop_left]
theorem beg_cut {z p : Str} (h : beg z p = true) : p ++ cut z p.length = z := by
  refine str_tl ?_
  rw [app_tl, ← of_decide_eq_true h]
  exact List.take_append_drop _ _
theorem cvt_ok {c : Cv} {v r : Val} (hc : COk c) (hv : VOk (k1 c) v) (h : cvt c v = some r) : VOk (k2 c) r := by
  cases c with
  | aff a b =>
    obtain ⟨n, rfl, _⟩ := vok_I hv
    obtain ⟨rfl, x⟩ := rng_ok h
    exact x
  | una a b =>
    obtain ⟨n, rfl, _⟩ := vok_I hv
    change (if _ then _ else _) = _ at h
    split at h
    · obtain ⟨rfl, x⟩ := rng_ok h
      exact x
    · cases h
  | pre p =>
    obtain ⟨z, rfl, l, al⟩ := vok_T hv
    change (if _ then _ else _) = _ at h
    split at h
    · rename_i lz
      cases h
      exact ⟨lz, fun x m => by rw [app_tl, List.mem_append] at m; exact m.elim (hc.2.2 x) (al x)⟩
    · cases h
  | unp p =>
    obtain ⟨z, rfl, l, al⟩ := vok_T hv
    change (if _ then _ else _) = _ at h
    split at h
    · cases h
      refine ⟨?_, fun x m => al x (List.mem_of_mem_drop m)⟩
      rw [← len_tl]
      show (z.cps.toList.drop p.length).length ≤ 20
      rw [List.length_drop, len_tl]; omega
    · cases h
  | rcd k l ps => exact (hc.2.1 _ (look_mem h)).2
theorem abs_mod {a n : Int} (h : n % aB a = 0) : ∃ q, n = a * q := by
  unfold aB at h
  split at h
  · obtain ⟨q, e⟩ := Int.dvd_of_emod_eq_zero h
    exact ⟨-q, by rw [e, Int.neg_mul, Int.mul_neg]⟩
  · obtain ⟨q, e⟩ := Int.dvd_of_emod_eq_zero h
    exact ⟨q, e⟩
theorem mul_mod (a q : Int) : (a * q) % aB a = 0 := by
  unfold aB
  split
  · rw [show a * q = -a * (-q) by rw [Int.neg_mul_neg]]; exact Int.mul_emod_right _ _
  · exact Int.mul_emod_right _ _
theorem cvt_back {c : Cv} {v r : Val} (hc : COk c) (hv : VOk (k1 c) v) (h : cvt c v = some r) : cvt (cI c) r = some v := by
  cases c with
  | aff a b =>
    obtain ⟨n, rfl, n0, n1⟩ := vok_I hv
    obtain ⟨rfl, x⟩ := rng_ok h
    show (if (a * n + b - b) % _ = 0 then rng ((a * n + b - b).fdiv a) else none) = _
    rw [Int.add_sub_cancel, if_pos (mul_mod a n), Int.mul_fdiv_cancel_left _ hc.1]
    exact if_pos ⟨n0, n1⟩
  | una a b =>
    obtain ⟨n, rfl, n0, n1⟩ := vok_I hv
    change (if _ then _ else _) = _ at h
    split at h
    · rename_i d
      obtain ⟨rfl, x⟩ := rng_ok h
      obtain ⟨q, e⟩ := abs_mod d
      show rng (a * (n - b).fdiv a + b) = _
      rw [e, Int.mul_fdiv_cancel_left _ hc.1, ← e, Int.sub_add_cancel]
      exact if_pos ⟨n0, n1⟩
    · cases h
  | pre p =>
    obtain ⟨z, rfl, l, al⟩ := vok_T hv
    change (if _ then _ else _) = _ at h
    split at h
    · cases h
      show (if beg (p ++ z) p = true then some (Val.tx (cut (p ++ z) p.length)) else none) = _
      rw [if_pos (beg_app p z), cut_app]
    · cases h
  | unp p =>
    obtain ⟨z, rfl, l, al⟩ := vok_T hv
    change (if _ then _ else _) = _ at h
    split at h
    · rename_i b
      cases h
      show (if (p ++ cut z p.length).length ≤ 20 then some (Val.tx (p ++ cut z p.length)) else none) = _
      rw [beg_cut b, if_pos l]
    · cases h
  | rcd k l ps =>
    refine look_at ?_ ?_
    · rw [List.map_map]; exact hc.2.2.2
    · exact List.mem_map.mpr ⟨_, look_mem h, rfl⟩
/-! ### lists of conversions -/
noncomputable def thr : List Cv → Val → Option Val
  | [], v => some v
  | c :: cs, v => (cvt c v).bind (thr cs)
def Chn : Kd → List Cv → Kd → Prop
  | k, [], l => k = l
  | k, c :: cs, l => COk c ∧ k1 c = k ∧ Chn (k2 c) cs l
theorem thr_app : ∀ (cs ds : List Cv) (v : Val), thr (cs ++ ds) v = (thr cs v).bind (thr ds)
  | [], _, _ => rfl
  | c :: cs, ds, v => by
    show (cvt c v).bind (thr (cs ++ ds)) = ((cvt c v).bind (thr cs)).bind (thr ds)
    cases cvt c v with
    | none => rfl
    | some r => exact thr_app cs ds r
theorem chn_app : ∀ {cs ds : List Cv} {k l m : Kd}, Chn k cs l → Chn l ds m → Chn k (cs ++ ds) m
  | [], _, _, _, _, h, g => by cases h; exact g
  | _ :: _, _, _, _, _, h, g => ⟨h.1, h.2.1, chn_app h.2.2 g⟩
theorem chn_back : ∀ {cs : List Cv} {k l : Kd}, Chn k cs l → Chn l (cs.reverse.map cI) k
  | [], _, _, h => h.symm
  | c :: cs, k, l, h => by
    rw [List.reverse_cons, List.map_append]
    refine chn_app (chn_back h.2.2) ⟨cI_ok h.1, cI_k1 c, ?_⟩
    exact (cI_k2 c).trans h.2.1
theorem thr_ok : ∀ {cs : List Cv} {k l : Kd} {v r : Val}, Chn k cs l → VOk k v → thr cs v = some r → VOk l r
  | [], _, _, _, _, h, hv, e => by cases h; cases e; exact hv
  | c :: cs, k, l, v, r, h, hv, e => by
    change (cvt c v).bind (thr cs) = some r at e
    have hv' : VOk (k1 c) v := h.2.1 ▸ hv
    cases q : cvt c v with
    | none => rw [q] at e; cases e
    | some u =>
      rw [q] at e
      exact thr_ok h.2.2 (cvt_ok h.1 hv' q) e
theorem thr_back : ∀ {cs : List Cv} {k l : Kd} {v r : Val}, Chn k cs l → VOk k v → thr cs v = some r → thr (cs.reverse.map cI) r = some v
  | [], _, _, _, _, h, hv, e => by cases h; cases e; rfl
  | c :: cs, k, l, v, r, h, hv, e => by
    change (cvt c v).bind (thr cs) = some r at e
    have hv' : VOk (k1 c) v := h.2.1 ▸ hv
    cases q : cvt c v with
    | none => rw [q] at e; cases e
    | some u =>
      rw [q] at e
      rw [List.reverse_cons, List.map_append, thr_app, thr_back h.2.2 (cvt_ok h.1 hv' q) e]
      show (cvt (cI c) u).bind (thr []) = _
      rw [cvt_back h.1 hv' q]
      rfl
end Zk

set_option Elab.async false
set_option linter.all false
set_option maxRecDepth 100000
set_option maxHeartbeats 4000000
namespace Zk
open PySem PySem.Spec L2
open PyProof.Rows hiding St

def rStarts : V → List V → Hp → VK → Prop := fun x xs H Q => ∃ a b, x = .str a ∧ xs = [.str b] ∧ Q (.bl (Txt.startswith a b)) H
def cAbs : RC := fun xs H Q => ∃ i, xs = [.int i] ∧ Q (.int (if i < 0 then -i else i)) H
def cListL (K : PySem.W.Frag) : RC := fun xs H Q => ∃ p ys, xs = [.ref p] ∧ (SqL K H p ys ∨ SqT K H p ys) ∧ Alc (.lst ys) H Q
section
variable {X : Cx}
theorem zmt_starts : MtR X "str.startswith" rStarts := mt_startswith
theorem zc_abs : CallR X (.builtin "abs") cAbs := call_abs
theorem zc_list : CallR X (.type "list") (cListL X.K) := call_list_of
theorem zop_notInS : OpR X (compareOp .NotIn) rNotInS := op_notInS
theorem pg_tupK {K : PySem.W.Frag} {es : List Expr} {k : Nat} {t : TGs} {n : Nat} {pos : Pos} (e : X.K = K) (hc : X.calm = true) (h : PGs X es t)
    (hn : (assignEach es X.env).length = n := by rfl) (hst : (assignEach es X.env).findIdx? (·.1) = none := by rfl) : PG X (.Tuple es k pos) (gTup K n t) := e ▸ pg_tup hc h hn hst
end
section
variable {K : PySem.W.Frag} {σ : St} {H : Hp} {Q : VK} {a : Addr} {v x y : V} {te ta tb tc : TE} {rt : VK} {nx : St → Hp → Prop} {t : TS} {tt : TT}
theorem w_starts {p z : Str} (q : Q (.bl (Txt.startswith z p)) H) : rStarts (.str z) [.str p] H Q := ⟨z, p, rfl, rfl, q⟩
theorem w_abs {i : Int} (q : Q (.int (aB i)) H) : cAbs [.int i] H Q := ⟨i, rfl, q⟩
theorem w_listL {ys : List V} (h : SqL K H a ys) (q : Alc (.lst ys) H Q) : cListL K [.ref a] H Q := ⟨a, ys, rfl, .inl h, q⟩
theorem w_lenS {z : Str} (h : z.length ≤ sizeLine) (q : Q (.int (z.length : Int)) H) : cLen K [.str z] H Q := ⟨.str z, z.length, rfl, ⟨h, rfl⟩, q⟩
theorem w_slice {r : V → Option Int → Option Int → Hp → VK → Prop} {tl th : TO} (h : te σ H fun x H1 => tl σ H1 fun l H2 => th σ H2 fun u H3 => r x l u H3 Q) : L2.tSl r te tl th σ H Q := h
theorem w_noPart {P : Option Int → Hp → Prop} (q : P none H) : tNoPart σ H P := q
theorem w_slS {z : Str} {lo hi : Option Int} (l : z.length ≤ sizeLine) (q : Q (.str (cutS z lo hi)) H) : rSlS (.str z) lo hi H Q := ⟨z, rfl, l, q⟩
theorem w_chain {r r' : R2} (h : ta σ H fun x H1 => tb σ H1 fun y H2 => r x y H2 fun z H3 => ∃ k, z = .bl k ∧ (if k = true then tc σ H3 fun w' H4 => r' y w' H4 Q else Q (.bl false) H3)) : tChain r r' ta tb tc σ H Q := h
theorem w_notInC {c : Nat} {z : Str} (q : Q (.bl (!decide (c ∈ z.cps.toList))) H) : rNotInS (.str ⟨#[c]⟩) (.str z) H Q := ⟨c, z, rfl, rfl, q⟩
theorem aB_pos {i : Int} (h : i ≠ 0) : 0 < aB i := by unfold aB; split <;> omega
theorem starts_beg (z p : Str) : Txt.startswith z p = beg z p := by
  have e : Txt.startswith z p = (decide (0 + p.length ≤ z.length) && Builtin.Str.subAt z p 0) := rfl
  rw [e, StrLaws.subAt_eq, List.drop_zero]
  unfold beg
  by_cases h : z.cps.toList.take p.length = p.cps.toList
  · have l : p.length ≤ z.length := by
      have := congrArg List.length h
      rw [List.length_take, len_tl, len_tl] at this
      omega
    rw [decide_eq_true h, decide_eq_true (by omega), h]
    simp
  · rw [decide_eq_false h]
    have : (z.cps.toList.take p.length == p.cps.toList) = false := by simpa using h
    rw [this, Bool.and_false]
theorem cutS_tl (z : Str) (lo hi : Option Int) : (cutS z lo hi).cps.toList = (z.cps.toList.drop (HT.sIx z.length 0 lo)).take (HT.sIx z.length z.length hi - HT.sIx z.length 0 lo) := rfl
theorem cutS_from (z : Str) (n : Nat) : cutS z (some (n : Int)) none = cut z n := by
  refine str_tl ?_
  rw [cutS_tl]
  show _ = z.cps.toList.drop n
  rw [HT.sIx_nat, HT.sIx_none, ← len_tl]
  by_cases h : n ≤ z.cps.toList.length
  · rw [Nat.min_eq_left h]
    refine List.take_of_length_le ?_
    rw [List.length_drop]
    exact Nat.le_refl _
  · rw [Nat.min_eq_right (by omega), List.drop_eq_nil_of_le (Nat.le_refl _), List.drop_eq_nil_of_le (by omega), List.take_nil]
theorem cutS_to_eq (z p : Str) : decide (cutS z none (some (p.length : Int)) = p) = beg z p := by
  have e : (cutS z none (some (p.length : Int))).cps.toList = z.cps.toList.take p.length := by
    rw [cutS_tl, HT.sIx_nat, HT.sIx_none, List.drop_zero, Nat.sub_zero, ← len_tl z, List.take_eq_take_iff]
    omega
  unfold beg
  rw [← e]
  by_cases h : cutS z none (some (p.length : Int)) = p
  · rw [decide_eq_true h, decide_eq_true (by rw [h])]
  · rw [decide_eq_false h, decide_eq_false (fun q => h (str_tl q))]
theorem cutS_al {z : Str} {lo hi : Option Int} (h : Al z.cps.toList) : Al (cutS z lo hi).cps.toList := fun c m => by
  rw [cutS_tl] at m
  exact h c (List.mem_of_mem_drop (List.mem_of_mem_take m))
theorem cutS_to_len (z : Str) (n : Int) (h : 0 ≤ n) : (cutS z none (some n)).length ≤ n.toNat := by
  rw [← len_tl, cutS_tl, List.length_take, HT.sIx_none]
  obtain ⟨k, rfl⟩ := Int.eq_ofNat_of_zero_le h
  have : HT.sIx z.length z.length (some (k : Int)) = min k z.length := HT.sIx_nat _ _ _
  rw [this]
  have : ((k : Int)).toNat = k := by omega
  rw [this]
  omega
/-! reversed walks over a list -/
theorem w_iRev {tl : TA} {R : It → Hp → Prop} (h : tl σ H fun vs H1 => ∃ a xs, vs = [V.ref a] ∧ SqL K H1 a xs ∧ R (Itv K a xs.length) H1) : iRev K tl σ H R := h
theorem z_for_rev {xs : List V} {g : TG} (Pv : Nat → St → Hp → Prop) (h0 : Pv 0 σ H) (hl : ∀ i σ H, i ≤ xs.length → Pv i σ H → SqL K H a xs)
    (hs : ∀ (N : St → Hp → Prop) i x σ H, xs.reverse[i]? = some x → Pv i σ H → (∀ σ' H', Pv (i + 1) σ' H' → N σ' H') → g x σ H fun σ2 H2 => t ⟨N, rt, nx, N⟩ σ2 H2) (hd : ∀ σ H, Pv xs.length σ H → nx σ H) :
    ∃ W : Nat → Nat → St → Hp → Prop, (∃ m, W 0 m σ H) ∧ ∀ i m σ H, W i m σ H →
      ((Itv K a xs.length).stop i H ∧ nx σ H) ∨ ((Itv K a xs.length).go i H ∧ ∃ N : St → Hp → Prop, (∀ σ' H', N σ' H' → ∃ m', m' < m ∧ W (i + 1) m' σ' H') ∧ ∀ x H', (Itv K a xs.length).yld i H x H' → g x σ H' fun σ2 H2 => t ⟨N, rt, nx, N⟩ σ2 H2) := by
  refine ⟨fun i m σ H => m = xs.length - i ∧ i ≤ xs.length ∧ Pv i σ H, ⟨_, rfl, Nat.zero_le _, h0⟩, ?_⟩
  rintro i m σ H ⟨rfl, hi, p⟩
  by_cases hlt : i < xs.length
  · have hx : xs[xs.length - 1 - i]? = some xs[xs.length - 1 - i] := List.getElem?_eq_getElem (by omega)
    refine .inr ⟨⟨hlt, xs, _, hl i σ H hi p, hx⟩, Pv (i + 1), fun σ' H' p' => ⟨xs.length - (i + 1), by omega, rfl, hlt, p'⟩, fun x H' y => ?_⟩
    obtain ⟨e, hy⟩ := y
    subst e
    have h1 := hy xs (hl i σ _ hi p)
    exact hs (Pv (i + 1)) i x σ _ (by rw [List.getElem?_reverse hlt]; exact h1) p fun _ _ q => q
  · have e : i = xs.length := by omega
    subst e
    exact .inl ⟨Nat.le_refl _, hd σ H p⟩
theorem z_lc_rev {xs : List V} {g : TG} {vs : List Nat} {D : Addr} {Qd : Hp → Prop} (Pv : Nat → List V → Hp → Prop) (nD : H D = none) (h0 : ∀ H', Ext [] H H' → Pv 0 [] H') (hl : ∀ i acc H, i ≤ xs.length → Pv i acc H → SqL K H a xs)
    (hs : ∀ (Nx : Hp → Prop) i x acc H, xs.reverse[i]? = some x → Pv i acc H → H D = some (.lst acc) → (∀ acc' H', Pv (i + 1) acc' H' → H' D = some (.lst acc') → Nx H') → g x (wipe σ vs) H fun σ2 H2 => wipe σ2 vs = wipe σ vs ∧ tt σ2 H2 fun b H3 =>
      if b = true then te σ2 H3 fun y H4 => ∃ acc, H4 D = some (.lst acc) ∧ acc.length < sizeLine ∧ Nx (upd H4 D (.lst (acc ++ [y]))) else Nx H3) (hd : ∀ acc H, Pv xs.length acc H → H D = some (.lst acc) → Qd H) :
    ∃ W : Nat → Nat → Hp → Prop, (∃ m, W 0 m (upd H D (.lst []))) ∧ ∀ i m H, W i m H →
      ((Itv K a xs.length).stop i H ∧ Qd H) ∨ ((Itv K a xs.length).go i H ∧ ∃ Nx : Hp → Prop, (∀ H', Nx H' → ∃ m', m' < m ∧ W (i + 1) m' H') ∧ ∀ x H', (Itv K a xs.length).yld i H x H' → g x (wipe σ vs) H' fun σ2 H2 => wipe σ2 vs = wipe σ vs ∧ tt σ2 H2 fun b H3 =>
        if b = true then te σ2 H3 fun y H4 => ∃ acc, H4 D = some (.lst acc) ∧ acc.length < sizeLine ∧ Nx (upd H4 D (.lst (acc ++ [y]))) else Nx H3) := by
  refine ⟨fun i m H => m = xs.length - i ∧ i ≤ xs.length ∧ ∃ acc, Pv i acc H ∧ H D = some (.lst acc), ⟨_, rfl, Nat.zero_le _, [], h0 _ (Ext.new nD), upd_same⟩, ?_⟩
  rintro i m H ⟨rfl, hi, acc, p, hD⟩
  by_cases hlt : i < xs.length
  · have hx : xs[xs.length - 1 - i]? = some xs[xs.length - 1 - i] := List.getElem?_eq_getElem (by omega)
    refine .inr ⟨⟨hlt, xs, _, hl i acc H hi p, hx⟩, (fun H => ∃ acc, Pv (i + 1) acc H ∧ H D = some (.lst acc)), fun H' p' => ⟨xs.length - (i + 1), by omega, rfl, hlt, p'⟩, fun x H' y => ?_⟩
    obtain ⟨e, hy⟩ := y
    subst e
    have h1 := hy xs (hl i acc _ hi p)
    exact hs _ i x acc _ (by rw [List.getElem?_reverse hlt]; exact h1) p hD fun acc' H' p' h' => ⟨acc', p', h'⟩
  · have e : i = xs.length := by omega
    subst e
    exact .inl ⟨Nat.le_refl _, hd acc H p hD⟩
/-! what is told the same: data of one form, lists of such -/
def Sl : Nat → Hp → V → V → Prop
  | 0, _, _, _ => False
  | n + 1, H, a, b => (∃ d, d.depth ≤ n ∧ Im H a d ∧ Im H b d) ∨ (∃ p q xs ys, a = .ref p ∧ b = .ref q ∧ H p = some (.lst xs) ∧ H q = some (.lst ys) ∧ xs.length ≤ 1000 ∧ Paired (Sl n H) xs ys)
theorem dAll_mem {d : PyData} : ∀ {ds : List PyData}, d ∈ ds → d.depth ≤ PyData.depthAll ds
  | x :: xs, h => by
    rw [PyData.depthAll]
    rcases List.mem_cons.mp h with h | h
    · rw [h]; exact Nat.le_max_left _ _
    · exact Nat.le_trans (dAll_mem h) (Nat.le_max_right _ _)
theorem d_tup (ds : List PyData) : (PyData.tuple ds).depth = PyData.depthAll ds + 1 := by rw [PyData.depth]
theorem Sl.im {n : Nat} {H : Hp} {a b : V} {d : PyData} (l : d.depth < n) (h : Im H a d) (k : Im H b d) : Sl n H a b := by
  cases n with
  | zero => omega
  | succ n => exact .inl ⟨d, by omega, h, k⟩
theorem Sl.ext {H H' : Hp} (e : Ext [] H H') : ∀ {n : Nat} {a b : V}, Sl n H a b → Sl n H' a b
  | 0, _, _, h => h
  | n + 1, a, b, h => by
    rcases h with ⟨d, l, i, j⟩ | ⟨p, q, xs, ys, rfl, rfl, hp, hq, lz, w⟩
    · exact .inl ⟨d, l, i.ext e, j.ext e⟩
    · exact .inr ⟨p, q, xs, ys, rfl, rfl, e.keep _ _ hp List.not_mem_nil, e.keep _ _ hq List.not_mem_nil, lz, Paired.mapP w fun _ _ z => Sl.ext e z⟩
theorem im_at0 {H : Hp} {a : Addr} {xs : List V} {ds : List PyData} (h : H a = some (.tup xs)) (i : Im H (.ref a) (.tuple ds)) : ImAll H xs ds := by
  cases i with
  | tup h' _ k => rw [h] at h'; cases h'; exact k
end
end Zk

set_option Elab.async false
set_option linter.all false
set_option maxRecDepth 100000
set_option maxHeartbeats 4000000
namespace L2
open PySem PySem.Spec PyProof.Rows
/-! ### several except clauses, each with a name or without -/
abbrev Cl3 := Value × Option Nat × (Addr → Value → Option Addr → TS)
def behindAs (D : Ends) (i : Nat) : Ends := { nx := fun σ' H' => D.nx (σ'.set i none) H', rt := D.rt, bk := fun σ' H' => D.bk (σ'.set i none) H', ct := fun σ' H' => D.ct (σ'.set i none) H' }
def wAll (K : PySem.W.Frag) (Wout : WX) (D : Ends) : List Cl3 → WX
  | [] => Wout
  | (c, none, ts) :: r => fun cls d σ H => ∃ b, PySem.W.exmOne K cls c = some b ∧ (b = true → ∀ a, H a = none → ts a cls d D σ H) ∧ (b = false → wAll K Wout D r cls d σ H)
  | (c, some i, ts) :: r => fun cls d σ H => ∃ b, PySem.W.exmOne K cls c = some b ∧ (b = true → ∀ a, H a = none → ts a cls d (behindAs D i) (σ.set i (some (.ref a))) H) ∧ (b = false → wAll K Wout D r cls d σ H)
inductive HdsZ (X : Cx) : List ExceptHandler → List Cl3 → Prop
  | nil : HdsZ X [] []
  | bare {x : Str} {c : Value} {ts : Addr → Value → Option Addr → TS} {st : Stmt} {su : List Stmt} {p1 p2 : Pos} {hds : List ExceptHandler} {l : List Cl3} (hc : Names X x c)
      (hsu : ∀ (a : Addr) (oe : Obj) (cls : Value) (d : Option Addr) (pn : List (Addr × Obj)), Zc cls d oe → (∃ vs, oe.data = .fields vs) → PSs (X.suite a ((a, oe) :: pn)) (st :: su) (ts a cls d)) (r : HdsZ X hds l) :
      HdsZ X (.ExceptHandler (some (.Name x p1)) none (st :: su) p2 :: hds) ((c, none, ts) :: l)
  | named {x n : Str} {c : Value} {i : Nat} {ts : Addr → Value → Option Addr → TS} {st : Stmt} {su : List Stmt} {p1 p2 : Pos} {hds : List ExceptHandler} {l : List Cl3} (hi : X.N[i]? = some n) (hl : X.env.kindOf n = some .local) (hc : Names X x c)
      (hsu : ∀ (a : Addr) (oe : Obj) (cls : Value) (d : Option Addr) (pn : List (Addr × Obj)), Zc cls d oe → (∃ vs, oe.data = .fields vs) → PSs (X.suite a ((a, oe) :: pn)) (st :: su) (ts a cls d)) (r : HdsZ X hds l) :
      HdsZ X (.ExceptHandler (some (.Name x p1)) (some n) (st :: su) p2 :: hds) ((c, some i, ts) :: l)
section
variable {X : Cx} {bd : List Stmt} {hd0 : ExceptHandler} {hds : List ExceptHandler} {l : List Cl3} {pos : Pos} {tb : WX → TS} {Wout : WX}
theorem ps_try_all (hs : X.stack = X.env :: X.outer) (hf : X.env.frame = some X.env.locals) (hN : X.N.Nodup) (tk : Takes X Wout)
    (hb : ∀ (W : WX) (pn : List (Addr × Obj)) (xe : Value → Shared → Prop), Takes (X.tr pn xe) W → PassesOwn (model X.prog X.w) X.A X.env xe → PSs (X.tr pn xe) bd (tb W))
    (hh : HdsZ X (hd0 :: hds) l) : PS X (.Try bd (hd0 :: hds) [] [] pos) (fun D σ H => tb (wAll X.K Wout D l) D σ H) := by
  refine ⟨fun pins s σ H D I h => ?_⟩
  have okX := I.ok
  have frX : X.A.frames = some (X.env :: X.outer) := by rw [okX.frames, hs]
  refine wpAny_Try_except ?_
  refine wpAny_mono ((hb (wAll X.K Wout D l) (X.pn ++ pins) (fun u1 t1 => wpAny (model X.prog X.w) X.A (noteFrame u1 X.env) (fun _ t2 => wpAny (model X.prog X.w) X.A (setFlight u1 none) (fun _ t3 =>
    wpAny (model X.prog X.w) X.A (handleBy u1 X.env (hd0 :: hds)) (SP X pins D) X.xe t3) X.xe t2) X.xe t1) (fun u s' xx => ?_) PassesOwn.looking).run [] s σ H D (I.toTry _) h) (fun fl s1 got => ?_) (fun _ _ z => z)
  · obtain ⟨a, B, sI, pins', σ', H', cls, d, rfl, Jt, nb, up, sky, na, os, ag, wsh⟩ := xx
    have J0 : Inv X pins σ' H' sI := Jt.ofTry okX
    have sky2 : Sky B (X.env :: X.outer) a (Zc cls d) X.env.locals s'.heap := by rw [← hs]; exact sky
    show wpAny (model X.prog X.w) X.A (noteFrame (.ref a) X.env) _ _ _
    refine Sky.land Zc.steady frX hf sky2 fun hp3 w3 up3 => ?_
    have I3 : Inv X pins σ' H' { s' with heap := hp3 } := J0.landed nb w3.1 (up.trans up3) os ag
    obtain ⟨ob3, fv3, at3, zc3, da3⟩ := w3.there
    have noFrame : ∀ {hh : Heap} {oo : Obj} {ff : Array Value}, hh.FunFrames B (X.env :: X.outer) → hh.get? a = some oo → oo.data = .fields ff → a ∉ frs (X.env :: X.outer) := fun {hh oo ff} fr e1 e2 hm => by
      obtain ⟨_, o2, e3, nf⟩ := fr.mem hm
      rw [e1] at e3; cases e3
      exact nf _ e2
    have nfr3 := noFrame w3.2.2.1 at3 da3
    have neL : a ≠ X.env.locals := fun z => nfr3 (List.mem_filterMap.mpr ⟨X.env, List.mem_cons_self, by rw [hf, z]⟩)
    have neF : a ∉ X.fs := fun hm => by
      obtain ⟨ev, hv, q⟩ := List.mem_filterMap.mp hm
      exact nfr3 (List.mem_filterMap.mpr ⟨ev, List.mem_cons_of_mem _ hv, q⟩)
    have Su3 := I3.suite at3 da3 na neL neF
    have look : PySem.W.Looks (model X.prog X.w) hp3 (typeOf (.ref a)) cls := fun A Q E s k q => wpAny_typeOf_ref (k _ _ at3) (by rw [zc3.1]; exact q)
    have asks : ∀ {x : Str} {c : Value} {np : Pos} {Q : Value → Shared → Prop} {E : Value → Shared → Prop}, Names X x c → Q c { s' with heap := hp3 } → wpAny (model X.prog X.w) (X.A.mark (some (.ref a))) (eval (.Name x np) X.env) Q E { s' with heap := hp3 } := fun {x c np Q E} hc q => by
      obtain ⟨hg, hdbg, hm | ⟨hm, hv, hnn⟩⟩ := hc
      · exact ld_glob (X := X.suite a ((a, ob3) :: (X.pn ++ pins))) Su3 hg hm q hdbg
      · exact ld_blt (X := X.suite a ((a, ob3) :: (X.pn ++ pins))) Su3 hg hm hv q hnn hdbg
    have walk : ∀ {hs2 : List ExceptHandler} {l2 : List Cl3}, HdsZ X hs2 l2 → wAll X.K Wout D l2 cls d σ' H' →
        wpAny (model X.prog X.w) X.A (handleBy (.ref a) X.env hs2) (SP X pins D) X.xe { s' with heap := hp3 } := by
      intro hs2 l2 hk
      induction hk with
      | nil =>
        intro w
        refine wpAny_handleBy_nil ?_
        obtain ⟨_, _, _, ob, fv, T, oT, _, hat, _, hda, h1, _⟩ := id w3
        unfold PySem.passOn
        refine wpAny_bind (wpAny_field hat hda h1 ?_)
        rw [if_neg (show ¬ ((Value.ref T == Value.none) = true) from by simp)]
        have leave : wpAny (model X.prog X.w) X.A (setFlight (.ref a) X.env.frame) (fun _ s4 => wpAny (model X.prog X.w) X.A (throw (.ref a) : Sem Flow) (SP X pins D) X.xe s4) X.xe { s' with heap := hp3 } := by
          rw [hf]
          refine HandSPX.setFlight_upZ w3 fun hp4 w4 up4 => wpAny_throw (tk _ _ ?_)
          exact ⟨a, B, sI, pins, σ', H', cls, d, rfl, J0, nb, (up.trans up3).trans up4, .inr (.inr (by rw [hs]; exact w4)), na, os, ag, w⟩
        first
          | exact wpAny_bind (wpAny_pure (wpAny_bind leave))
          | exact wpAny_bind leave
      | @bare x c ts st su p1 p2 hds2 l2 hc hsu r ih =>
        intro w
        obtain ⟨b, hb1, yes, no⟩ := w
        refine wpAny_handleBy_cons (codeAny_handlers_test ?_) (by intro q; cases q)
        refine asks hc ((PySem.W.exm_one (M := model X.prog X.w) (I3.kIn) look hb1).here ?_)
        cases b with
        | true =>
          refine codeAny_handlers_suite ?_
          refine HandSPX.lands_againZ w3 fun hp4 w4 up4 => ?_
          have I4 : Inv X pins σ' H' { s' with heap := hp4 } := J0.landed nb w4.1 ((up.trans up3).trans up4) os ag
          obtain ⟨ob4, fv4, at4, zc4, da4⟩ := w4.there
          have Su4 := I4.suite at4 da4 na neL neF
          refine wpAny_mono ((hsu a ob4 cls d (X.pn ++ pins) zc4 ⟨_, da4⟩).run [] _ _ H' _ Su4 (yes rfl a na)) (fun fl s6 got => ?_) (fun _ _ z => False.elim z)
          cases fl with
          | next =>
            obtain ⟨σ6, H6, Su6, q6⟩ := got
            exact ⟨_, _, Su6.unsuite okX, q6⟩
          | brk =>
            obtain ⟨σ6, H6, Su6, q6⟩ := got
            exact ⟨_, _, Su6.unsuite okX, q6⟩
          | cont =>
            obtain ⟨σ6, H6, Su6, q6⟩ := got
            exact ⟨_, _, Su6.unsuite okX, q6⟩
          | ret u =>
            obtain ⟨v6, σ6, H6, Su6, r6, q6⟩ := got
            exact ⟨_, _, _, Su6.unsuite okX, r6, q6⟩
        | false =>
          show wpAny _ X.A (handleBy (.ref a) X.env hds2) _ _ _
          exact ih (no rfl)
      | @named x n c i ts st su p1 p2 hds2 l2 hi hl hc hsu r ih =>
        intro w
        obtain ⟨b, hb1, yes, no⟩ := w
        refine wpAny_handleBy_cons (codeAny_handlers_test ?_) (by intro q; cases q)
        refine asks hc ((PySem.W.exm_one (M := model X.prog X.w) (I3.kIn) look hb1).here ?_)
        cases b with
        | true =>
          refine codeAny_handlers_suite_as ?_
          refine HandSPX.lands_againZ w3 fun hp4 w4 up4 => ?_
          have I4 : Inv X pins σ' H' { s' with heap := hp4 } := J0.landed nb w4.1 ((up.trans up3).trans up4) os ag
          obtain ⟨ob4, fv4, at4, zc4, da4⟩ := w4.there
          have Su4 := I4.suite at4 da4 na neL neF
          have hloc : Loc X.env.scope n := .inl hl
          refine store_ok (X := X.suite a ((a, ob4) :: (X.pn ++ pins))) (v := .ref a) Su4 hN hi hloc rfl (fun s5 Su5 => ?_) (.inr hl)
          refine wpAny_mono ((hsu a ob4 cls d (X.pn ++ pins) zc4 ⟨_, da4⟩).run [] s5 _ H' _ Su5 (yes rfl a na)) (fun fl s6 got => ?_) (fun _ _ z => False.elim z)
          have out : ∀ {σ6 : St} {H6 : Hp} {Q : Shared → Prop}, Inv (X.suite a ((a, ob4) :: (X.pn ++ pins))) [] σ6 H6 s6 → (∀ s7, Inv X pins (σ6.set i none) H6 s7 → Q s7) →
              wpAny (model X.prog X.w) X.A (do bindName X.env n .none; unbindBehindTheSuite X.env n p2) (fun _ s7 => Q s7) X.xe s6 := fun {σ6 H6 Q} Su6 hq => gone_ok (Su6.unsuite okX) hN hi hl hq
          cases fl with
          | next =>
            obtain ⟨σ6, H6, Su6, q6⟩ := got
            exact out Su6 fun s7 J7 => ⟨_, _, J7, q6⟩
          | brk =>
            obtain ⟨σ6, H6, Su6, q6⟩ := got
            exact out Su6 fun s7 J7 => ⟨_, _, J7, q6⟩
          | cont =>
            obtain ⟨σ6, H6, Su6, q6⟩ := got
            exact out Su6 fun s7 J7 => ⟨_, _, J7, q6⟩
          | ret u =>
            obtain ⟨v6, σ6, H6, Su6, r6, q6⟩ := got
            exact out Su6 fun s7 J7 => ⟨_, _, _, J7, r6, q6⟩
        | false =>
          show wpAny _ X.A (handleBy (.ref a) X.env hds2) _ _ _
          exact ih (no rfl)
    exact walk hh wsh
  · cases fl with
    | next =>
      obtain ⟨σ2, H2, J2, q⟩ := got
      exact wpAny_execs_nil ⟨σ2, H2, J2.ofTry okX, q⟩
    | brk =>
      obtain ⟨σ2, H2, J2, q⟩ := got
      exact ⟨σ2, H2, J2.ofTry okX, q⟩
    | cont =>
      obtain ⟨σ2, H2, J2, q⟩ := got
      exact ⟨σ2, H2, J2.ofTry okX, q⟩
    | ret u =>
      obtain ⟨v, σ2, H2, J2, rv, q⟩ := got
      exact ⟨v, σ2, H2, J2.ofTry okX, rv, q⟩
end
theorem takesNo {X : Cx} : Takes X (fun _ _ _ _ => False) := takes_none5
/-! ### a method that may raise, called within a try; one that is called where it does not raise -/
def tMethT (C : Addr) (m : Str) (sp : Sp) (E : St → XK) (ta : TE) (t : TA) : TE := fun σ H Q => ta σ H fun x H1 => ∃ a dx fs, x = .ref a ∧ H1 a = some (.ins C dx fs) ∧ fs.lookup m = none ∧ t σ H1 fun vs H2 => sp (x :: vs) H2 Q (E σ)
section
variable {X : Cx} {CX : CXT} {k : Nat} {f C : Addr} {fd : FuncData} {ps : List Str} {sp : Sp} {E : St → XK} {m : Str} {pos apos : Pos} {e o : Expr} {es : List Expr} {ta : TE} {t : TA}
theorem pe_methT {pl : Sem Bool} (he : PE X o ta) (c : Cls X.K C) (hm : Meth X.K C m f) (F : FnOk X.prog X.w X.K X.mg X.base CX k f fd ps sp) (hr : Room k X.A) (hb : Binds X.K fd ps []) (hx : ∀ σ, PassesAt CX X σ (E σ)) (ha : PA X (e :: es) t)
    (h1 : starEach (e :: es) X.env = (false, eval e X.env) :: starEach es X.env := by rfl) (h2 : (backTo pos (starEach es X.env)).any (·.1) = false := by rfl)
    (h3 : eval (.Call (.Attribute o m apos) (e :: es) [] pos) X.env = (do
      let w ← eval o X.env
      standAt apos.atName
      let (g, args) ← holding [w] (getMethod w m pl)
      callWith pos g args (backTo pos (starEach (e :: es) X.env)) (backToKw pos (keywordEach [] X.env))) := by rfl) :
    PE X (.Call (.Attribute o m apos) (e :: es) [] pos) (tMethT C m sp E ta t) := by
  refine ⟨fun pins s σ H Q I h => PySem.W.methodCall_KW (pl := pl) (thn (he.run pins s σ H _ I h) fun u s1 hh => ?_) h3⟩
  obtain ⟨x, H1, I1, rx, a, dx, fs, ex, ea, ml, q⟩ := hh
  subst ex
  obtain rfl : u = Value.ref a := rx
  refine getmeth_ok I1 ea c hm ml (PySem.W.callWith_K (first := [.ref a]) (h₀ := X.base) I.ok.mod.kin hm.kp (thn (ha.run pos pins s1 σ H1 _ I1 q) fun us s2 z => ?_) h1 h2)
  obtain ⟨vs, H2, I2, r, q2⟩ := z
  exact ⟨I2.kIn, run_fnS (us := .ref a :: us) (vs := .ref a :: vs) F hr hb (hx σ) I2 (.cons rfl r) q2⟩
end
/-- no way out that is ever taken -/
theorem passF {X : Cx} {CX : CXT} (h : ∀ st H s e s', ¬ CX st H s (fun _ _ _ => False) e s') : Passes CX X (fun _ _ _ => False) := fun _ _ _ _ _ _ _ z => (h _ _ _ _ _ z).elim
end L2
namespace Zk
open PySem PySem.Spec L2
open PyProof.Rows hiding St
theorem passX {X : Cx} : Passes (L2.CX X.prog X.w) X (fun _ _ _ => False) := fun _ _ _ _ _ _ _ z => by
  obtain ⟨_, _, _, _, _, _, _, _, _, _, _, _, e⟩ := z
  exact e.elim
/-! ### data compared -/
def rGtD (K : PySem.W.Frag) : R2 := fun x y H Q => ∃ d e, Dp K H x d ∧ Dp K H y e ∧ PySem.W.alike d e = true ∧ d ≠ .none ∧ min d.depth e.depth ≤ 64 ∧ Q (.bl (PySem.W.dataLt e d)) H
theorem op_gtD {X : Cx} {K : PySem.W.Frag} (hK : X.K = K) (hu : X.A.units + 64 < cLine) : OpR X (compareOp .Gt) (rGtD K) := by
  subst hK
  intro pins s σ H x y v u Q I rx ry h
  obtain ⟨d, e, hd, he, al, nn, dp, q⟩ := h
  obtain ⟨as, r1⟩ := Dp.reads I d x v hd rx
  obtain ⟨bs, r2⟩ := Dp.reads I e y u he ry
  exact PySem.W.gt_data r1 r2 al nn (Nat.lt_of_le_of_lt (Nat.add_le_add_left dp _) hu) ⟨.bl _, H, I, rfl, q⟩
theorem pe_fldK {X : Cx} {e : Expr} {f : Str} {pos : Pos} {ta : TE} {K : PySem.W.Frag} (hK : X.K = K) (he : PE X e ta) (hb : attributeBase e f X.env (eval e X.env) = eval e X.env := by rfl) : PE X (.Attribute e f pos) (tFld K ta f) := by
  subst hK
  exact pe_fld he hb
/-! ### objects: reading a field, storing one, calling a method, making one -/
section
variable {K : PySem.W.Frag} {σ : L2.St} {H : Hp} {Q : VK} {a C dx : Addr} {fs : List (Str × V)} {f m : Str} {v y : V} {ta tv : TE} {t : TA} {nx bk ct : L2.St → Hp → Prop} {rt : VK} {sp : Sp} {dvs : List V} {E : XK}
theorem w_tfld (h : ta σ H fun x H1 => ∃ a C dx fs v, x = .ref a ∧ H1 a = some (.ins C dx fs) ∧ Cls K C ∧ NoAttr K C f ∧ fs.lookup f = some v ∧ Q v H1) : tFld K ta f σ H Q := h
theorem w_fld (h : H a = some (.ins C dx fs)) (c : Cls K C) (n : NoAttr K C f) (l : fs.lookup f = some v) (q : Q v H) : ∃ a' C dx fs v, V.ref a = .ref a' ∧ H a' = some (.ins C dx fs) ∧ Cls K C ∧ NoAttr K C f ∧ fs.lookup f = some v ∧ Q v H := ⟨a, C, dx, fs, v, rfl, h, c, n, l, q⟩
theorem w_tsfld (h : tv σ H fun y H1 => ta σ H1 fun x H2 => ∃ a C dx fs, x = .ref a ∧ H2 a = some (.ins C dx fs) ∧ Cls K C ∧ NoAttr K C f ∧ fs.length < 1000 ∧ nx σ (upd H2 a (.ins C dx (L2.putF f y fs)))) : sFld K ta tv f ⟨nx, rt, bk, ct⟩ σ H := h
theorem w_sfld {gs : List (Str × V)} {N : Hp → Prop} (h : H a = some (.ins C dx fs)) (c : Cls K C) (n : NoAttr K C f) (l : fs.length < 1000) (e : L2.putF f y fs = gs) (k : ∀ H', Ext [a] H H' → H' a = some (.ins C dx gs) → N H') :
    ∃ a' C dx fs, V.ref a = .ref a' ∧ H a' = some (.ins C dx fs) ∧ Cls K C ∧ NoAttr K C f ∧ fs.length < 1000 ∧ N (upd H a' (.ins C dx (L2.putF f y fs))) :=
  ⟨a, C, dx, fs, rfl, h, c, n, l, by rw [e]; exact k _ (Ext.mut h (fun z => z) (List.mem_singleton.mpr rfl)) upd_same⟩
theorem w_tmeth (h : ta σ H fun x H1 => ∃ a dx fs, x = .ref a ∧ H1 a = some (.ins C dx fs) ∧ fs.lookup m = none ∧ t σ H1 fun vs H2 => sp (x :: (vs ++ dvs)) H2 Q E) : tMeth C m sp dvs E ta t σ H Q := h
theorem w_tmethT {ET : L2.St → XK} (h : ta σ H fun x H1 => ∃ a dx fs, x = .ref a ∧ H1 a = some (.ins C dx fs) ∧ fs.lookup m = none ∧ t σ H1 fun vs H2 => sp (x :: vs) H2 Q (ET σ)) : tMethT C m sp ET ta t σ H Q := h
theorem w_meth {P : Prop} (h : H a = some (.ins C dx fs)) (l : fs.lookup m = none) (k : P) : ∃ a' dx fs, V.ref a = .ref a' ∧ H a' = some (.ins C dx fs) ∧ fs.lookup m = none ∧ P := ⟨a, dx, fs, rfl, h, l, k⟩
theorem w_tmake (h : t σ H fun vs H1 => ∀ x dx, H1 x = none → H1 dx = none → dx ≠ x → sp (.ref x :: (vs ++ dvs)) (upd (upd H1 dx (.own x)) x (.ins C dx [])) (fun v H2 => v = .non ∧ Q (.ref x) H2) E) : tMake C sp dvs E t σ H Q := h
/-- a fresh instance -/
theorem make_ext {x dx : Addr} (nx : H x = none) (nd : H dx = none) (ne : dx ≠ x) : Ext [] H (upd (upd H dx (.own x)) x (.ins C dx [])) :=
  (Ext.new nd).trans (Ext.new (by rw [upd_ne (Ne.symm ne)]; exact nx))
end
/-- the fields by name -/
theorem lk_same {f : Str} {v : V} {r : List (Str × V)} : List.lookup f ((f, v) :: r) = some v := by simp [List.lookup]
theorem lk_other {f g : Str} {v : V} {r : List (Str × V)} (h : (f == g) = false) : List.lookup f ((g, v) :: r) = List.lookup f r := by simp [List.lookup, h]
theorem pf_same {f : Str} {v w : V} {r : List (Str × V)} : L2.putF f v ((f, w) :: r) = (f, v) :: r := by unfold L2.putF; rw [if_pos rfl]
theorem pf_other {f g : Str} {v w : V} {r : List (Str × V)} (h : (g == f) = false) : L2.putF f v ((g, w) :: r) = (g, w) :: L2.putF f v r := by
  show (if g = f then _ else _) = _
  rw [if_neg (fun e => by rw [e] at h; simp at h)]
theorem pf_nil {f : Str} {v : V} : L2.putF f v [] = [(f, v)] := rfl
end Zk

set_option Elab.async false
set_option linter.all false
set_option maxRecDepth 100000
set_option maxHeartbeats 4000000
namespace Zk
open PySem PySem.Spec L2
open PyProof.Rows hiding St
/-! ### {(a, b): c, ..}: a display whose keys are tuples -/
section
variable {X : Cx} {pins : List (Addr × Obj)} {σ : L2.St} {s : Shared}
def putAll (qs : List (List Key × Addr × V)) (acc : List (List Key × V)) : List (List Key × V) := qs.foldl (fun acc q => putK acc q.1 q.2.2) acc
theorem upd_twice {H : Hp} {p : Addr} {a b : HO} : upd (upd H p a) p b = upd H p b := by
  funext x
  by_cases z : x = p
  · subst z; rw [upd_same, upd_same]
  · rw [upd_ne z, upd_ne z, upd_ne z]
theorem storeAllT {E : Value → Shared → Prop} {D : Addr} (hu : X.A.units + 1 < cLine) : ∀ (qs : List (List Key × Addr × V)) (ws : List (Value × Value)) (acc : List (List Key × V)) (H : Hp) (s : Shared) (Q : PUnit → Shared → Prop),
    L2.Inv X pins σ (upd H D (.dT acc)) s → VV (qs.map fun q => (V.ref q.2.1, q.2.2)) ws → (∀ q ∈ qs, q.2.1 ≠ D ∧ H q.2.1 = some (.tup (q.1.map kV))) → acc.length + qs.length < sizeLine →
    (∀ s', L2.Inv X pins σ (upd H D (.dT (putAll qs acc))) s' → Q PUnit.unit s') →
    wpAny (model X.prog X.w) X.A (forIn ws PUnit.unit fun (x : Value × Value) (_ : PUnit) => (do dictSet D x.1 x.2; pure (ForInStep.yield PUnit.unit) : Sem (ForInStep PUnit))) Q E s
  | [], ws, acc, H, s, Q, I, r, _, _, hQ => by
    cases r
    rw [List.forIn_nil]
    exact wpAny_pure (hQ s I)
  | q :: qs, ws, acc, H, s, Q, I, r, hk, hz, hQ => by
    rw [List.map_cons] at r
    rw [List.length_cons] at hz
    cases r with
    | @cons a b as bs h t =>
      obtain ⟨b1, b2⟩ := b
      obtain rfl : b1 = Value.ref q.2.1 := h.1
      obtain ⟨n1, n2⟩ := hk q List.mem_cons_self
      rw [List.forIn_cons]
      refine wpAny_bind (wpAny_bind (dictSet_tup hu I upd_same (by rw [upd_ne n1]; exact n2) (by omega) h.2 fun s1 I1 => wpAny_pure ?_))
      rw [upd_twice] at I1
      have l := length_putK acc q.1 (V.ref q.2.1, q.2.2).2
      exact storeAllT hu qs bs _ H s1 Q I1 t (fun x m => hk x (List.mem_cons_of_mem _ m)) (by omega) hQ
def tDispT (trs : List (TE × TE)) : TE := fun σ H Q => ∀ p, H p = none → tPairs trs σ (upd H p (.dT [])) fun ps H2 => H2 p = some (.dT []) ∧ ∃ qs : List (List Key × Addr × V), ps = qs.map (fun q => (V.ref q.2.1, q.2.2)) ∧
  (∀ q ∈ qs, H2 q.2.1 = some (.tup (q.1.map kV))) ∧ Q (.ref p) (upd H2 p (.dT (putAll qs [])))
theorem pe_dispT {pos : Pos} {keys : List (Option Expr)} {values : List Expr} {trs : List (TE × TE)} (hu : X.A.units + 1 < cLine) (h : PPs X pos keys values trs) (hall : keys.all (·.isSome) = true) (hl : keys.length = values.length) (h0 : keys ≠ [])
    (h15 : keys.length ≤ 15) : PE X (.Dict keys values pos) (tDispT trs) := by
  refine ⟨fun pins s σ H Q I q => ?_⟩
  have hn := I.hok.fresh (Nat.le_refl s.heap.objs.size)
  have I1 := I.laid (a := s.heap.objs.size) (o := .dT []) (h' := s.heap.push { cls := .type "dict", data := .dict #[] }) (t' := s.toks) (fun _ _ q => Heap.get?_push_of_some _ q) (Nat.le_refl _) (dt_empty s.heap I.big)
  have ln := pairTrees_length keys values X.env pos hall hl
  have ne : pairTrees keys values X.env pos ≠ [] := fun z => by
    rw [z] at ln
    exact h0 (List.length_eq_zero_iff.mp ln.symm)
  rw [arm_eval_Dict, zip_pairTrees keys values X.env pos hall hl, dictDisplay_pairs _ ne (by omega)]
  refine wpAny_bind (wpAny_standAt (wpAny_bind ?_))
  unfold subDict
  refine wpAny_bind (wpAny_alloc (wpAny_bind (wpAny_holding ?_)))
  rw [if_pos (by rw [ln]; exact h15)]
  refine wpAny_bind (wpAny_mono (wpAny_evalPairs_len (h.run pins _ σ _ _ I1 (q _ hn))) (fun ws s2 h2 => ?_) fun _ _ e => e)
  obtain ⟨hv, ps, H2, I2, rel, e, qs, ep, hk, q2⟩ := h2
  subst ep
  have lq : qs.length = ws.length := by have := paired_len rel; rwa [List.length_map] at this
  have I3 : L2.Inv X pins σ (upd H2 s.heap.objs.size (.dT [])) s2 := by
    have : upd H2 s.heap.objs.size (.dT []) = H2 := by
      funext x
      by_cases z : x = s.heap.objs.size
      · rw [z, upd_same, e]
      · rw [upd_ne z]
    rw [this]; exact I2
  refine wpAny_holding (wpAny_bind (storeAllT hu qs ws [] H2 s2 _ I3 rel (fun x m => ⟨fun z => ?_, hk x m⟩) ?_ fun s3 I4 => wpAny_pure (wpAny_pure (wpAny_pure ⟨.ref s.heap.objs.size, _, I4, rfl, q2⟩))))
  · have := hk x m
    rw [z, e] at this; cases this
  · rw [sizeLine_eq, lq, hv, ln, List.length_nil]; omega
end
section
variable {H : Hp} {Q : VK} {σ : L2.St} {te : TE}
theorem w_part {P : Option Int → Hp → Prop} (h : te σ H fun x H1 => ∃ j : Int, x = .int j ∧ P (some j) H1) : tPart te σ H P := h
theorem w_slL {K : PySem.W.Frag} {a : Addr} {xs : List V} {lo hi : Option Int} (h : SqL K H a xs) (q : Alc (.lst (cutV xs lo hi)) H Q) : rSlL K (.ref a) lo hi H Q := ⟨a, xs, rfl, h, q⟩
theorem w_max2 {i j : Int} (q : Q (.int (if j > i then j else i)) H) : ∃ i' j', [V.int i, V.int j] = [V.int i', V.int j'] ∧ Q (.int (if j' > i' then j' else i')) H := ⟨i, j, rfl, q⟩
theorem w_gtS {K : PySem.W.Frag} {a b : Addr} {s t : Slot} (ha : H a = some (.tup (sVs s))) (hb : H b = some (.tup (sVs t))) (q : Q (.bl (sLt t s)) H) : rGtD K (.ref a) (.ref b) H Q := by
  refine ⟨sD s, sD t, (im_slot ha).dp, (im_slot hb).dp, sD_alike _ _, (fun z => nomatch z), ?_, ?_⟩
  · rw [sD_depth, sD_depth]; decide
  · rw [sD_lt]; exact q
theorem SlotsAt.take {H : Hp} {as : List Addr} {ss : List Slot} (h : SlotsAt H as ss) (n : Nat) : SlotsAt H (as.take n) (ss.take n) := by
  unfold SlotsAt at *
  induction h generalizing n with
  | nil => rw [List.take_nil, List.take_nil]; exact .nil
  | cons h t ih => cases n with
    | zero => exact .nil
    | succ n => exact .cons h (ih n)
end
section
variable {H : Hp} {Q : List (V × V) → Hp → Prop} {tk tv : TE} {σ : L2.St} {r : List (TE × TE)}
theorem w_pnil (q : Q [] H) : tPairs [] σ H Q := q
theorem w_pcons (h : tk σ H fun x H1 => tv σ H1 fun y H2 => tPairs r σ H2 fun ps H3 => Q ((x, y) :: ps) H3) : tPairs ((tk, tv) :: r) σ H Q := h
theorem w_dispT {trs : List (TE × TE)} {QV : VK} (k : ∀ p H', Ext [] H H' → H p = none → H' p = some (.dT []) → tPairs trs σ H' fun ps H2 => H2 p = some (.dT []) ∧ ∃ qs : List (List Key × Addr × V), ps = qs.map (fun q => (V.ref q.2.1, q.2.2)) ∧
  (∀ q ∈ qs, H2 q.2.1 = some (.tup (q.1.map kV))) ∧ QV (.ref p) (upd H2 p (.dT (putAll qs [])))) : tDispT trs σ H QV := fun p np => k p _ (Ext.new np) np upd_same
end
/-! ### a dict made of a list, of a tuple -/
theorem z_dc_list {xs : List V} {a : Addr} {g : TG} {tk tv : TE} {tt : TT} {vs : List Nat} {D : Addr} {Qd : Hp → Prop} {σ : L2.St} {H : Hp} {K : PySem.W.Frag} (Pv : Nat → Hp → Prop) (h0 : ∀ H', Ext [] H H' → H' D = some (.dT []) → Pv 0 H') (nD : H D = none) (hl : ∀ i H, i ≤ xs.length → Pv i H → SqL K H a xs)
    (hs : ∀ (Nx : Hp → Prop) i x H, xs[i]? = some x → Pv i H → (∀ H', Pv (i + 1) H' → Nx H') → g x (wipe σ vs) H fun σ2 H2 => wipe σ2 vs = wipe σ vs ∧ tt σ2 H2 fun b H3 =>
      if b = true then tk σ2 H3 fun y H4 => tv σ2 H4 fun z H5 => ∃ kvs k q, y = .ref q ∧ H5 q = some (.tup (k.map kV)) ∧ H5 D = some (.dT kvs) ∧ kvs.length < sizeLine ∧ Nx (upd H5 D (.dT (putK kvs k z))) else Nx H3) (hd : ∀ H, Pv xs.length H → Qd H) :
    ∃ W : Nat → Nat → Hp → Prop, (∃ m, W 0 m (upd H D (.dT []))) ∧ ∀ i m H, W i m H →
      ((Itl K a).stop i H ∧ Qd H) ∨ ((Itl K a).go i H ∧ ∃ Nx : Hp → Prop, (∀ H', Nx H' → ∃ m', m' < m ∧ W (i + 1) m' H') ∧ ∀ x H', (Itl K a).yld i H x H' → g x (wipe σ vs) H' fun σ2 H2 => wipe σ2 vs = wipe σ vs ∧ tt σ2 H2 fun b H3 =>
        if b = true then tk σ2 H3 fun y H4 => tv σ2 H4 fun z H5 => ∃ kvs k q, y = .ref q ∧ H5 q = some (.tup (k.map kV)) ∧ H5 D = some (.dT kvs) ∧ kvs.length < sizeLine ∧ Nx (upd H5 D (.dT (putK kvs k z))) else Nx H3) := by
  refine ⟨fun i m H => m = xs.length - i ∧ i ≤ xs.length ∧ Pv i H, ⟨_, rfl, Nat.zero_le _, h0 _ (Ext.new nD) upd_same⟩, ?_⟩
  rintro i m' H ⟨rfl, hi, p⟩
  have sq := hl i H hi p
  rcases Nat.lt_or_ge i xs.length with hlt | hge
  · refine .inr ⟨⟨xs, xs[i], sq, List.getElem?_eq_getElem hlt⟩, Pv (i + 1), fun H' p' => ⟨xs.length - (i + 1), by omega, rfl, hlt, p'⟩, fun x H' y => ?_⟩
    obtain ⟨e, y⟩ := y
    subst e
    exact hs (Pv (i + 1)) i x _ (y xs sq) p fun _ q => q
  · have e : i = xs.length := by omega
    subst e
    exact .inl ⟨⟨xs, sq, Nat.le_refl _⟩, hd H p⟩
theorem z_dc_tup {xs : List V} {a : Addr} {g : TG} {tk tv : TE} {tt : TT} {vs : List Nat} {D : Addr} {Qd : Hp → Prop} {σ : L2.St} {H : Hp} {K : PySem.W.Frag} (Pv : Nat → Hp → Prop) (h0 : ∀ H', Ext [] H H' → H' D = some (.dT []) → Pv 0 H') (nD : H D = none) (hl : ∀ i H, i ≤ xs.length → Pv i H → SqT K H a xs)
    (hs : ∀ (Nx : Hp → Prop) i x H, xs[i]? = some x → Pv i H → (∀ H', Pv (i + 1) H' → Nx H') → g x (wipe σ vs) H fun σ2 H2 => wipe σ2 vs = wipe σ vs ∧ tt σ2 H2 fun b H3 =>
      if b = true then tk σ2 H3 fun y H4 => tv σ2 H4 fun z H5 => ∃ kvs k q, y = .ref q ∧ H5 q = some (.tup (k.map kV)) ∧ H5 D = some (.dT kvs) ∧ kvs.length < sizeLine ∧ Nx (upd H5 D (.dT (putK kvs k z))) else Nx H3) (hd : ∀ H, Pv xs.length H → Qd H) :
    ∃ W : Nat → Nat → Hp → Prop, (∃ m, W 0 m (upd H D (.dT []))) ∧ ∀ i m H, W i m H →
      ((Itt K a).stop i H ∧ Qd H) ∨ ((Itt K a).go i H ∧ ∃ Nx : Hp → Prop, (∀ H', Nx H' → ∃ m', m' < m ∧ W (i + 1) m' H') ∧ ∀ x H', (Itt K a).yld i H x H' → g x (wipe σ vs) H' fun σ2 H2 => wipe σ2 vs = wipe σ vs ∧ tt σ2 H2 fun b H3 =>
        if b = true then tk σ2 H3 fun y H4 => tv σ2 H4 fun z H5 => ∃ kvs k q, y = .ref q ∧ H5 q = some (.tup (k.map kV)) ∧ H5 D = some (.dT kvs) ∧ kvs.length < sizeLine ∧ Nx (upd H5 D (.dT (putK kvs k z))) else Nx H3) := by
  refine ⟨fun i m H => m = xs.length - i ∧ i ≤ xs.length ∧ Pv i H, ⟨_, rfl, Nat.zero_le _, h0 _ (Ext.new nD) upd_same⟩, ?_⟩
  rintro i m' H ⟨rfl, hi, p⟩
  have sq := hl i H hi p
  rcases Nat.lt_or_ge i xs.length with hlt | hge
  · refine .inr ⟨⟨xs, xs[i], sq, List.getElem?_eq_getElem hlt⟩, Pv (i + 1), fun H' p' => ⟨xs.length - (i + 1), by omega, rfl, hlt, p'⟩, fun x H' y => ?_⟩
    obtain ⟨e, y⟩ := y
    subst e
    exact hs (Pv (i + 1)) i x _ (y xs sq) p fun _ q => q
  · have e : i = xs.length := by omega
    subst e
    exact .inl ⟨⟨xs, sq, Nat.le_refl _⟩, hd H p⟩
end Zk

set_option Elab.async false
set_option linter.all false
set_option maxRecDepth 100000
set_option maxHeartbeats 4000000
namespace PySem
namespace ZEX
open PySem.W PySem.Calls PyProof.Rows PySem.HandSPX
section
variable {prog : Program} {w : World} {A : Around} {E : Value → Shared → Prop} {h : Heap} {g : Array GenState} {d : Drawn} {t : Nat} {os : OsState}
variable {nm q : Str} {C N : Addr} {bs bm : List Value} {hdct : Bool} {sn : List Str} {sub : List Value} {ab : Bool} {col : Option Bool} {dd : Option Addr} {k0 k1 k2 k3 k5 : Option Value}
/-- ValueError.__init__, bound to e at u, called -/
theorem call_bv {u e t0 : Addr} {rest : List Value} {Q : Value → Shared → Prop}
    (hC : h.get? C = some (excClassObj nm q C N bs bm hdct sn sub ab col dd k0 k1 k2 k3 k5 "ValueError.__new__")) (he : h.get? e = some (excO C t0)) (hu : h.get? u = some (kxs_mw "ValueError.__init__" e)) (hrest : rest.length ≤ sizeLine)
    (hq : ∀ h' t1, (∀ b o, b ≠ e → h.get? b = some o → h'.get? b = some o) → h'.get? e = some (excO C t1) → Q .none ⟨h', g, d, t, os⟩) :
    wpAny (model prog w) A (call (.ref u) rest) Q E ⟨h, g, d, t, os⟩ := by
  refine wpAny_call (codeAny_of_tree ?_)
  show wpAny _ A.in1 (callAny (.ref u) ⟨rest, []⟩) _ _ _
  simp only [callAny]
  refine wpAny_bind (wpAny_load hu ?_)
  simp only [kxs_mw, show (Value.type "method-wrapper" == Value.type "method" || Value.type "method-wrapper" == Value.type "builtin_function_or_method" || Value.type "method-wrapper" == Value.type "method-wrapper") = true by decide, if_true]
  refine KFB.if_so (by decide) ?_
  refine wpAny_bind (check_bound_init F.excBase_ValueError.toExcCallFacts hC he rfl ?_)
  refine wpAny_bind (wpAny_pure (wpAny_pure ?_))
  refine ⟨plainId_quiet F.excBase_ValueError.init.plain _, codeAny_builtin F.excBase_ValueError.initEntry ?_⟩
  exact exc_init_tree (cls := .ref C) (t0 := t0) (dv := none) (c2 := .none) (c3 := .none) (b4 := .bool false) he hrest fun h' k e' _ => hq h' _ k e'
end
end ZEX
end PySem
namespace L2
open PySem PySem.Spec PyProof.Rows
/-- isinstance(e, c), e the exception that the suite holds, its dict at dd -/
def rIsED (K : PySem.W.Frag) (D a dd : Addr) : List V → Hp → VK → Prop := fun xs H Q => ∃ (c : V) (cv : Value) (b : Bool) (fs : List (Str × V)), xs = [.ref a, c] ∧ (∀ u, RelV c u → u = cv) ∧ H dd = some (.xd fs) ∧ PySem.W.kitOne K (.ref D) cv = some b ∧ Q (.bl b) H
theorem call_isED {X : Cx} {a D dd : Addr} {oe : Obj} {pn : List (Addr × Obj)} (C : ExcC X.K D) (hz : Zc (.ref D) (some dd) oe) (hf : ∃ vs, oe.data = .fields vs) : CallR (X.suite a ((a, oe) :: pn)) (.builtin "isinstance") (rIsED X.K D a dd) := by
  intro pins s σ H xs us Q I r h
  obtain ⟨c, cv, b, fs, rfl, hcv, hd, e, q⟩ := h
  obtain ⟨u, w, rfl, rx, rt⟩ : ∃ u w, us = [u, w] ∧ RelV (.ref a) u ∧ RelV c w := by
    cases r with
    | cons rx rr => cases rr with
      | cons rt rr => cases rr; exact ⟨_, _, rfl, rx, rt⟩
  obtain rfl : u = Value.ref a := rx
  obtain rfl := hcv _ rt
  obtain ⟨hget, _⟩ := I.pin (a, oe) (List.mem_append.mpr (.inl List.mem_cons_self))
  obtain ⟨vs, hv⟩ := hf
  obtain ⟨mA, hns, _⟩ := (show ObjOk X.prog X.w H s.heap dd (.xd fs) from I.hok dd _ hd)
  obtain ⟨od, ho, _⟩ := lookIn_ns hns
  have J : PySem.W.InstAt s.heap a oe D (some od) := ⟨hget, hz.1, by unfold PySem.W.notCls; rw [hv] <;> rfl, by rw [hz.2]; exact ho⟩
  have hcl : (PySem.W.clsIn X.K D).isSome = true := by
    obtain ⟨cd, hc, _⟩ := PySem.W.any_some C.hd
    rw [hc]; rfl
  exact PySem.W.kia_one (PySem.W.kitx_exc hcl C.hg C.hk C.hs C.ha C.hn C.ht C.hm) I.kIn J e (fun z => nomatch z) fun tk => ⟨.bl b, H, I.kept (t' := tk) fun _ _ z => z, rfl, q⟩
/-- .. whatever class and dict the suite has been told -/
def rIsEE (K : PySem.W.Frag) (a : Addr) (cls : Value) (d : Option Addr) : List V → Hp → VK → Prop := fun xs H Q => ∃ (D dd : Addr), cls = .ref D ∧ d = some dd ∧ ExcC K D ∧ rIsED K D a dd xs H Q
theorem call_isEE {X : Cx} {a : Addr} {cls : Value} {d : Option Addr} {oe : Obj} {pn : List (Addr × Obj)} (hz : Zc cls d oe) (hf : ∃ vs, oe.data = .fields vs) : CallR (X.suite a ((a, oe) :: pn)) (.builtin "isinstance") (rIsEE X.K a cls d) := by
  intro pins s σ H xs us Q I r h
  obtain ⟨D, dd, rfl, rfl, C, h⟩ := h
  exact call_isED C hz hf pins s σ H xs us Q I r h
end L2

set_option Elab.async false
set_option linter.all false
set_option maxRecDepth 100000
set_option maxHeartbeats 4000000
namespace PySem
namespace ZEX
open PySem.W PySem.Calls PyProof.Rows PySem.HandSPX
/-! ### NoMoment(slot) -/
def NoMoment_mA : Arguments := { posonlyargs := [], args := [{ arg := "self", annotation := none, pos := ⟨6, 17, 6, 21⟩ }, { arg := "position", annotation := none, pos := ⟨6, 23, 6, 31⟩ }], vararg := none, kwonlyargs := [], kw_defaults := [], kwarg := none, defaults := [] }
def NoMoment_mMsg : Str := PySem.Str.ofString "the position or moment is not there"
def NoMoment_mB : List Stmt :=
  [.Expr (.Call (.Attribute (.Call (.Name "super" ⟨7, 8, 7, 13⟩) [] [] ⟨7, 8, 7, 15⟩) "__init__" ⟨7, 8, 7, 24⟩) [.Constant (.str NoMoment_mMsg) 0 ⟨7, 25, 7, 62⟩] [] ⟨7, 8, 7, 63⟩) ⟨7, 8, 7, 63⟩, .Assign [.Attribute (.Name "self" ⟨8, 8, 8, 12⟩) "position" ⟨8, 8, 8, 21⟩] (.Name "position" ⟨8, 24, 8, 32⟩) ⟨8, 8, 8, 32⟩]
def NoMoment_mS : Scope := { kind := .function, names := [(PySem.Str.ofString "self", .local), (PySem.Str.ofString "position", .local), (PySem.Str.ofString "__class__", .free), (PySem.Str.ofString "super", .globalImplicit)], isGenerator := false, isCoroutine := false, more := [] }
structure NoMomentTxt (prog : Program) (K : Frag) (mg : Str → Option Value) (C fI : Addr) : Prop where
  gC : mg "NoMoment" = some (.ref C)
  cls : ∃ nm q N bs bm sn sub ab col dd k0 k1 k2 k3 k5, K.lookup C = some (excClassObj nm q C N bs bm true sn sub ab col dd k0 k1 k2 k3 k5 "ValueError.__new__") ∧ refsVE bm = true
  sa : findIn K (.ref C) "__setattr__" = some (some (.builtin "object.__setattr__"))
  noN : findIn K (.ref C) "position" = some none
  iC : findIn K (.ref C) "__init__" = some (some (.ref fI))
  tC : typeIn K (.ref fI) = some (.type "function")
  kC : keepIn K (.ref C) = true
  exC : subIn K (.ref C) (.type "BaseException") = some true
  veC : subIn K (.ref C) (.type "ValueError") = some true
  tyC : typeIn K (.ref C) = some (.type "type")
  mro : mroIn K C (.ref C) = some true
  sup : ks_superIn K C C "__init__" = some (some (.builtin "ValueError.__init__"))
  op : nsIn K cStatics "thirdparty.any" = some none
  noS : mg "super" = none
  top : (prog.main.scope.names.lookup ("super" : Str)).isSome = false
  fn : ∃ (oc : Value) (od : Option Addr) (doc pm : Value) (an : Option Addr) (cda : Addr) (ct : Value) (osl : Array (Option Value)) (cc : Addr) (cl : Value) (cld : Option Addr) (csl : Array (Option Value)) (vs : Array Value) (ccl : Value) (cdd : Option Addr) (ccs : Array (Option Value)) (file : Str) (tf : Tok),
    K.lookup fI = some ⟨oc, od, .func (ksFn "__init__" "NoMoment.__init__" NoMoment_mA NoMoment_mB NoMoment_mS .none .none doc pm an (.ref cda) ct cc), osl⟩ ∧ codeIn K (.ref cda) "NoMoment.__init__" = true ∧
    K.lookup cc = some ⟨cl, cld, .cell (some (.ref C)), csl⟩ ∧ K.lookup cda = some ⟨ccl, cdd, .fields vs, ccs⟩ ∧ vs[2]? = some (.str file tf) ∧ ((prog.main.file : Str) == file) = true
/-- what __init__ leaves of a fresh exception at x -/
structure NoMomentEnd (h h' : Heap) (x C dx t1 : Addr) (v : Value) : Prop where
  keep : ∀ b o, b ≠ x → h.get? b = some o → h'.get? b = some o
  obj : h'.get? x = some { cls := .ref C, dict := some dx, data := .fields #[.ref t1, .none, .none, .none, .bool false, .none] }
  dbig : h.objs.size ≤ dx
  dne : dx ≠ x
  ns : h'.Ns1 dx (fun y => if y = "position" then some v else none)
section
variable {prog : Program} {w : World} {A : Around} {E : Value → Shared → Prop} {R : Result → Shared → Prop} {s : Shared} {K : Frag} {mg mb : Str → Option Value} {C fI : Addr}
theorem NoMoment_init (T : NoMomentTxt prog K mg C fI) {x t0 : Addr} {v : Value} (X : K.In s.heap) (hlim : s.heap.NoLimit) (G : s.heap.Ns mainGlobals mg) (Bl : s.heap.Ns builtinsNs mb) (hb : mb "super" = bootBuiltins "super") (hx : s.heap.get? x = some (excO C t0)) (hnx : K.lookup x = none) (hroom : A.depth < recursionLimit)
    (hq : ∀ h' tk dx t1, NoMomentEnd s.heap h' x C dx t1 v → R (.ok (.ret .none)) { s with heap := h', toks := tk }) :
    codeAny (model prog w) A (.call (.ref fI) ⟨[.ref x, v], []⟩) R s := by
  obtain ⟨oc, od, doc, pm, an, cda, ct, osl, cc, cl, cld, csl, vs, ccl, cdd, ccs, file, tf, ho, hcd, hcell, hcode, hvs, hfile⟩ := T.fn
  obtain ⟨nm, q, N, bs, bm, sn, sub, ab, col, dd, k0, k1, k2, k3, k5, hC, hbm⟩ := T.cls
  have hcl : clsIn K C = some { name := nm, bases := bs, mro := .ref C :: bm, ns := N, qualname := q, hasDict := true, slotNames := sn, subclasses := sub, abstract := ab, collection := col, hasDel := false } := by unfold clsIn; rw [hC] <;> rfl
  refine ks_codeAny_call_defAt (fd := ksFn "__init__" "NoMoment.__init__" NoMoment_mA NoMoment_mB NoMoment_mS .none .none doc pm an (.ref cda) ct cc) (body := NoMoment_mB) (binds := [("self", .ref x), ("position", v)]) hroom (X _ _ ho) rfl hlim (codeRec_of X hcd) rfl (BindsTo.of_eq (by first | rfl | with_unfolding_all rfl)) (by show ∀ x ∈ NoMoment_mS.names, x.2 ≠ .cell; decide) (by show ∀ y ∈ [(Str.ofString "self", Value.ref x), (Str.ofString "position", v)], NoMoment_mS.names.lookup y.1 = some .local; intro y m; simp only [List.mem_cons, List.not_mem_nil, or_false] at m; rcases m with rfl | rfl <;> rfl) (fun h₁ hns k => ?_)
  have X1 : K.In h₁ := X.keeps k
  have hx1 := k _ _ hx
  refine ks_wpAt_execs_cons (ks_wpAt_Expr_any (ks_wpAt_MethodCall ?_))
  refine ks_wpAt_super_base rfl rfl (by decide) rfl (X1 _ _ ho) rfl rfl rfl (X1 _ _ hcode) rfl hvs hfile T.top ?_
  refine ks_loadName_global rfl rfl (loadGlobal_builtin (mg := mg) (mb := mb) (G.keeps k) T.noS (Bl.keeps k) (hb.trans (show bootBuiltins "super" = some (.type "super") by rfl)) ⟨rfl, ?_⟩)
  refine wpAny_loadName_free rfl rfl rfl ⟨_, X1 _ _ hcell, rfl⟩ ?_
  refine wpAny_loadName_local rfl rfl hns (show (_ : Option Value) = some (.ref x) from rfl) ?_
  refine ks_wpAny_isType_cls (X1 _ _ hC) rfl ⟨rfl, ?_⟩
  refine ks_wpAny_call_super (X1 _ _ hC) rfl hx1 rfl (fun c e => nomatch e) (looks_mroIn X1 T.mro) (fun h2 hso k2 => ?_)
  have X2 : K.In h2 := X1.keeps k2
  have hx2 := k2 _ _ hx1
  have I2 : InstAt h2 x (excO C t0) C none := ⟨hx2, rfl, rfl, trivial⟩
  have hI : Looks (model prog w) h2 (isInstance (.ref x) (.type "ValueError")) true := I2.type.andThen (looks_subIn X2 T.veC)
  have hxC : x ≠ C := ks_ne X2 I2 hcl
  have hm := T.sup
  unfold ks_superIn at hm
  rw [hcl] at hm
  refine kxs_getMethod kxs_ValueError hso (looks_opaque X2 T.op) (l₀ := .ref C :: bm) (fun A Q E s k q => wpAny_bind ((looks_clsIn X2 hcl) A _ E s k (wpAny_pure q))) rfl X2 hm hI hxC (by decide) ?_
  have hu3 : (h2.push (kxs_mw "ValueError.__init__" x)).get? h2.objs.size = some (kxs_mw "ValueError.__init__" x) := Heap.get?_push_at rfl rfl
  have k3 : ∀ b o, h2.get? b = some o → (h2.push (kxs_mw "ValueError.__init__" x)).get? b = some o := fun b o e => Heap.get?_push_of_some _ e
  have k03 : ∀ b o, s.heap.get? b = some o → (h2.push (kxs_mw "ValueError.__init__" x)).get? b = some o := fun b o e => k3 _ _ (k2 _ _ (k _ _ e))
  refine kxs_callWith (i := "ValueError.__init__") (x := x) rfl ?_
  refine evalArgs_plain (spliced_cons (wpAny_Constant_str (k := 0) (pos := ⟨7, 25, 7, 62⟩) (spliced_nil ⟨hu3, ?_⟩)))
  refine call_bv (k03 _ _ (X _ _ hC)) (k3 _ _ hx2) hu3 (by show 1 ≤ sizeLine; rw [sizeLine_eq]; decide) (fun h4 t1 k4 hx4 => ?_)
  have hxL : s.heap.objs.size ≠ x := Nat.ne_of_gt (Heap.lt_size hx)
  have X4 : K.In h4 := fun a o e => k4 a o (fun z => by rw [z, hnx] at e; cases e) (k3 _ _ (X2 _ _ e))
  have hns4 : h4.Ns s.heap.objs.size (fun y => [(Str.ofString "self", Value.ref x), (Str.ofString "position", v)].reverse.lookup y) := by
    obtain ⟨oL, es, ep, hL, r⟩ := hns
    exact ⟨oL, es, ep, k4 _ _ hxL (k3 _ _ (k2 _ _ hL)), r⟩
  refine wpAt_of_wpAny (wpAny_execs_cons (plainObj_wpAny_Assign_Attribute ?_))
  refine wpAny_Name (wpAny_loadName_local rfl rfl hns4 (show (_ : Option Value) = some v from rfl) ?_) (by decide)
  refine wpAny_Name (wpAny_loadName_local rfl rfl hns4 (show (_ : Option Value) = some (.ref x) from rfl) ?_) (by decide)
  refine set_plain X4 (ox := excO C t1) (od := none) ⟨hx4, rfl, rfl, trivial⟩ T.sa ?_
  refine exc_osa X4 hx4 hcl (show refsVE (.ref C :: bm) = true from hbm) rfl T.noN (fun h5 tk5 dx k5 dn dne hx5 hn5 => ?_)
  show wpAny _ _ (execs _ _) _ _ _
  have keep : ∀ b o, b ≠ x → s.heap.get? b = some o → h5.get? b = some o := fun b o hb e => k5 b o hb (k4 b o hb (k03 b o e))
  have big : s.heap.objs.size ≤ dx := by
    obtain ⟨oL, _, _, hL, _⟩ := hns4
    exact Nat.le_of_lt (Nat.lt_of_lt_of_le (Heap.lt_size hL) dn)
  exact wpAny_execs_nil (hq h5 tk5 dx t1 ⟨keep, hx5, big, dne, hn5⟩)
/-- a made NoMoment -/
structure NoMomentMade (h h' : Heap) (e C d : Addr) (v : Value) : Prop where
  keep : ∀ b o, h.get? b = some o → h'.get? b = some o
  new : h.objs.size ≤ e
  obj : ∃ oe vs, h'.get? e = some oe ∧ oe.cls = .ref C ∧ oe.dict = some d ∧ oe.data = .fields vs ∧ vs[1]? = some .none
  dbig : h.objs.size ≤ d
  dne : d ≠ e
  ns : h'.Ns1 d (fun y => if y = "position" then some v else none)
theorem NoMoment_made (T : NoMomentTxt prog K mg C fI) {v : Value} (X : K.In s.heap) (hlim : s.heap.NoLimit) (G : s.heap.Ns mainGlobals mg) (Bl : s.heap.Ns builtinsNs mb) (hb : mb "super" = bootBuiltins "super") (hroom : A.depth + 1 < recursionLimit)
    (hq : ∀ h' tk e d, NoMomentMade s.heap h' e C d v → R (.ok (.ret (.ref e))) { s with heap := h', toks := tk }) :
    codeAny (model prog w) A (.call (.ref C) ⟨[v], []⟩) R s := by
  obtain ⟨nm, q, N, bs, bm, sn, sub, ab, col, dd, k0, k1, k2, k3, k5, hC, hbm⟩ := T.cls
  obtain ⟨hp, g, dr, tk, os⟩ := s
  have k : ∀ b o, hp.get? b = some o → ((hp.push (kdv_tup [v])).push (excO C hp.objs.size)).get? b = some o := fun b o e => Heap.get?_push_of_some _ (Heap.get?_push_of_some _ e)
  have hget : ((hp.push (kdv_tup [v])).push (excO C hp.objs.size)).get? (hp.objs.size + 1) = some (excO C hp.objs.size) := by heap_get
  have hnx : K.lookup (hp.objs.size + 1) = none := by
    cases e : K.lookup (hp.objs.size + 1) with
    | none => rfl
    | some o =>
      have z : hp.get? (hp.objs.size + 1) = some o := X _ _ e
      exact absurd (Nat.lt_of_succ_lt (Heap.lt_size z)) (Nat.lt_irrefl _)
  refine call_own F.excBase_ValueError (fun X => refsVE_contains X bm hbm) (X _ _ hC) (looks_findIn X T.iC) (fun self => bind_fn X self T.tC) (by show 1 ≤ sizeLine; rw [sizeLine_eq]; decide) ?_
  refine NoMoment_init (s := ⟨(hp.push (kdv_tup [v])).push (excO C hp.objs.size), g, dr, tk, os⟩) T (X.keeps k) (hlim.keeps k) (G.keeps k) (Bl.keeps k) hb hget hnx ?_ fun h' tk' dx t1 ⟨k', hx, dn, dne, hns⟩ => ?_
  · show A.depth + 1 < recursionLimit
    exact hroom
  · have old : ∀ b o, hp.get? b = some o → h'.get? b = some o := fun b o e => k' b o (Nat.ne_of_lt (Nat.lt_succ_of_lt (Heap.lt_size e))) (k b o e)
    have z : hp.objs.size + 1 + 1 ≤ dx := by
      first
        | (simpa only [Heap.size_push] using dn)
        | exact dn
        | (have q := dn; rw [Heap.size_push, Heap.size_push] at q; exact q)
    exact ⟨rfl, hq h' tk' (hp.objs.size + 1) dx ⟨old, Nat.le_succ _, ⟨_, _, hx, rfl, rfl, rfl, rfl⟩, Nat.le_trans (Nat.le_trans (Nat.le_succ _) (Nat.le_succ _)) z, dne, hns⟩⟩
end
end ZEX
end PySem
namespace L2
open PySem PySem.Spec PyProof.Rows
theorem relO_NoMoment {v : V} {v' : Value} (r : RelV v v') (f : Str) : RelO (List.lookup f [(("position" : Str), v)]) (if f = "position" then some v' else none) := by
  by_cases hw : f = "position"
  · subst hw
    rw [if_pos rfl]
    have q : List.lookup ("position" : Str) [(("position" : Str), v)] = some v := by simp [List.lookup]
    rw [q]
    exact r
  · rw [if_neg hw]
    have qw : (f == ("position" : Str)) = false := by simpa using hw
    have q2 : List.lookup f [(("position" : Str), v)] = none := by simp [List.lookup, qw]
    rw [q2]
    trivial
section
variable {X : Cx} {C fI : Addr}
/-- NoMoment(e) -/
def tMkNoMoment (C : Addr) (ta : TA) : St → Hp → XK → Prop := fun σ H Q => ta σ H fun vs H1 => ∃ v, vs = [v] ∧ ∀ d, H1 d = none → Q (.ref C) (some d) (upd H1 d (.xd [(("position" : Str), v)]))
theorem pmk_NoMoment {a : Expr} {ta : TA} {p pos : Pos} {k : Nat} (T : PySem.ZEX.NoMomentTxt X.prog X.K X.mg C fI) (hr : Room k X.A) (ha : PA X [a] ta) (hg : Gl X "NoMoment" := by rfl)
    (he : starEach (a :: []) X.env = (false, eval a X.env) :: starEach [] X.env := by rfl) (hpl : (backTo pos (starEach [] X.env)).any (·.1) = false := by rfl) :
    PMk X (.Call (.Name "NoMoment" p) [a] [] pos) (tMkNoMoment C ta) := by
  intro pins s σ H Q I h
  refine wpAny_Call_Name_kw (ld_glob I hg T.gC ?_)
  refine PySem.W.callWith_K (h₀ := X.base) I.ok.mod.kin T.kC (thn (ha.run pos pins s σ H _ I h) fun us s1 hh => ?_) he hpl
  obtain ⟨vs, H1, I1, r1, v, ev, q1⟩ := hh
  subst ev
  refine ⟨I1.kIn, ?_⟩
  cases r1 with
  | cons rv rn =>
    rename_i v' us'
    cases rn
    show wpAny _ _ (call (.ref C) [v']) _ _ _
    have hlim := I1.nolimit
    obtain ⟨mb, h1, h2⟩ := I1.mod.blt
    have hG := I1.mod.glob.keeps I1.bk
    have hB := h1.keeps I1.bk
    obtain ⟨hp, g, dr, tk, os⟩ := s1
    refine wpAny_call (PySem.ZEX.NoMoment_made T I1.kIn hlim hG hB (h2 _ (by decide)) (by have := hr.dp; omega) fun h' tk' e d M => ?_)
    show MkP X pins σ Q (.ref e) ⟨h', g, dr, tk', os⟩
    obtain ⟨oe, fv, hoe, hc, hd, hdat, h1⟩ := M.obj
    have hns := M.ns
    obtain ⟨G', g1, g2⟩ := restrict h' fun b => decide (b ≠ e)
    have gk : ∀ b, b ≠ e → G'.get? b = h'.get? b := fun b hb => g1 b (decide_eq_true hb)
    have ge : G'.get? e = none := g2 e (by simp)
    have old : ∀ b o, hp.get? b = some o → G'.get? b = some o := fun b o q => (gk b (Nat.ne_of_lt (Nat.lt_of_lt_of_le (Heap.lt_size q) M.new))).trans (M.keep b o q)
    have ob : ObjOk X.prog X.w (upd H1 d (.xd [(("position" : Str), v)])) G' d (.xd [(("position" : Str), v)]) :=
      ⟨_, hns.at (fun o q => (gk d M.dne).trans q), fun f => relO_NoMoment rv f⟩
    have J : Inv X pins σ (upd H1 d (.xd [(("position" : Str), v)])) ⟨G', g, dr, tk', os⟩ := I1.laid (t' := tk') old M.dbig ob
    refine ⟨e, oe, fv, ⟨G', g, dr, tk', os⟩, _, .ref C, some d, rfl, J, fun b o q => ?_, ge, hoe, ⟨hc, hd⟩, hdat, h1, ?_, rfl, I1.bare, raises_own T.exC T.tyC, q1 d (I1.hok.fresh M.dbig)⟩
    · by_cases hb : b = e
      · have q' : G'.get? b = some o := q
        rw [hb, ge] at q'; cases q'
      · exact (gk b hb).symm.trans q
    · rw [upd_ne (Ne.symm M.dne)]
      exact I1.hok.fresh M.new
end
end L2
namespace PySem
namespace ZEX
open PySem.W PySem.Calls PyProof.Rows PySem.HandSPX
/-! ### WrongPhase(slot) -/
def WrongPhase_mA : Arguments := { posonlyargs := [], args := [{ arg := "self", annotation := none, pos := ⟨11, 17, 11, 21⟩ }, { arg := "phase", annotation := none, pos := ⟨11, 23, 11, 28⟩ }], vararg := none, kwonlyargs := [], kw_defaults := [], kwarg := none, defaults := [] }
def WrongPhase_mMsg : Str := PySem.Str.ofString "the move is in a phase that does not allow this"
def WrongPhase_mB : List Stmt :=
  [.Expr (.Call (.Attribute (.Call (.Name "super" ⟨12, 8, 12, 13⟩) [] [] ⟨12, 8, 12, 15⟩) "__init__" ⟨12, 8, 12, 24⟩) [.Constant (.str WrongPhase_mMsg) 0 ⟨12, 25, 12, 74⟩] [] ⟨12, 8, 12, 75⟩) ⟨12, 8, 12, 75⟩, .Assign [.Attribute (.Name "self" ⟨13, 8, 13, 12⟩) "phase" ⟨13, 8, 13, 18⟩] (.Name "phase" ⟨13, 21, 13, 26⟩) ⟨13, 8, 13, 26⟩]
def WrongPhase_mS : Scope := { kind := .function, names := [(PySem.Str.ofString "self", .local), (PySem.Str.ofString "phase", .local), (PySem.Str.ofString "__class__", .free), (PySem.Str.ofString "super", .globalImplicit)], isGenerator := false, isCoroutine := false, more := [] }
structure WrongPhaseTxt (prog : Program) (K : Frag) (mg : Str → Option Value) (C fI : Addr) : Prop where
  gC : mg "WrongPhase" = some (.ref C)
  cls : ∃ nm q N bs bm sn sub ab col dd k0 k1 k2 k3 k5, K.lookup C = some (excClassObj nm q C N bs bm true sn sub ab col dd k0 k1 k2 k3 k5 "ValueError.__new__") ∧ refsVE bm = true
  sa : findIn K (.ref C) "__setattr__" = some (some (.builtin "object.__setattr__"))
  noN : findIn K (.ref C) "phase" = some none
  iC : findIn K (.ref C) "__init__" = some (some (.ref fI))
  tC : typeIn K (.ref fI) = some (.type "function")
  kC : keepIn K (.ref C) = true
  exC : subIn K (.ref C) (.type "BaseException") = some true
  veC : subIn K (.ref C) (.type "ValueError") = some true
  tyC : typeIn K (.ref C) = some (.type "type")
  mro : mroIn K C (.ref C) = some true
  sup : ks_superIn K C C "__init__" = some (some (.builtin "ValueError.__init__"))
  op : nsIn K cStatics "thirdparty.any" = some none
  noS : mg "super" = none
  top : (prog.main.scope.names.lookup ("super" : Str)).isSome = false
  fn : ∃ (oc : Value) (od : Option Addr) (doc pm : Value) (an : Option Addr) (cda : Addr) (ct : Value) (osl : Array (Option Value)) (cc : Addr) (cl : Value) (cld : Option Addr) (csl : Array (Option Value)) (vs : Array Value) (ccl : Value) (cdd : Option Addr) (ccs : Array (Option Value)) (file : Str) (tf : Tok),
    K.lookup fI = some ⟨oc, od, .func (ksFn "__init__" "WrongPhase.__init__" WrongPhase_mA WrongPhase_mB WrongPhase_mS .none .none doc pm an (.ref cda) ct cc), osl⟩ ∧ codeIn K (.ref cda) "WrongPhase.__init__" = true ∧
    K.lookup cc = some ⟨cl, cld, .cell (some (.ref C)), csl⟩ ∧ K.lookup cda = some ⟨ccl, cdd, .fields vs, ccs⟩ ∧ vs[2]? = some (.str file tf) ∧ ((prog.main.file : Str) == file) = true
/-- what __init__ leaves of a fresh exception at x -/
structure WrongPhaseEnd (h h' : Heap) (x C dx t1 : Addr) (v : Value) : Prop where
  keep : ∀ b o, b ≠ x → h.get? b = some o → h'.get? b = some o
  obj : h'.get? x = some { cls := .ref C, dict := some dx, data := .fields #[.ref t1, .none, .none, .none, .bool false, .none] }
  dbig : h.objs.size ≤ dx
  dne : dx ≠ x
  ns : h'.Ns1 dx (fun y => if y = "phase" then some v else none)
section
variable {prog : Program} {w : World} {A : Around} {E : Value → Shared → Prop} {R : Result → Shared → Prop} {s : Shared} {K : Frag} {mg mb : Str → Option Value} {C fI : Addr}
theorem WrongPhase_init (T : WrongPhaseTxt prog K mg C fI) {x t0 : Addr} {v : Value} (X : K.In s.heap) (hlim : s.heap.NoLimit) (G : s.heap.Ns mainGlobals mg) (Bl : s.heap.Ns builtinsNs mb) (hb : mb "super" = bootBuiltins "super") (hx : s.heap.get? x = some (excO C t0)) (hnx : K.lookup x = none) (hroom : A.depth < recursionLimit)
    (hq : ∀ h' tk dx t1, WrongPhaseEnd s.heap h' x C dx t1 v → R (.ok (.ret .none)) { s with heap := h', toks := tk }) :
    codeAny (model prog w) A (.call (.ref fI) ⟨[.ref x, v], []⟩) R s := by
  obtain ⟨oc, od, doc, pm, an, cda, ct, osl, cc, cl, cld, csl, vs, ccl, cdd, ccs, file, tf, ho, hcd, hcell, hcode, hvs, hfile⟩ := T.fn
  obtain ⟨nm, q, N, bs, bm, sn, sub, ab, col, dd, k0, k1, k2, k3, k5, hC, hbm⟩ := T.cls
  have hcl : clsIn K C = some { name := nm, bases := bs, mro := .ref C :: bm, ns := N, qualname := q, hasDict := true, slotNames := sn, subclasses := sub, abstract := ab, collection := col, hasDel := false } := by unfold clsIn; rw [hC] <;> rfl
  refine ks_codeAny_call_defAt (fd := ksFn "__init__" "WrongPhase.__init__" WrongPhase_mA WrongPhase_mB WrongPhase_mS .none .none doc pm an (.ref cda) ct cc) (body := WrongPhase_mB) (binds := [("self", .ref x), ("phase", v)]) hroom (X _ _ ho) rfl hlim (codeRec_of X hcd) rfl (BindsTo.of_eq (by first | rfl | with_unfolding_all rfl)) (by show ∀ x ∈ WrongPhase_mS.names, x.2 ≠ .cell; decide) (by show ∀ y ∈ [(Str.ofString "self", Value.ref x), (Str.ofString "phase", v)], WrongPhase_mS.names.lookup y.1 = some .local; intro y m; simp only [List.mem_cons, List.not_mem_nil, or_false] at m; rcases m with rfl | rfl <;> rfl) (fun h₁ hns k => ?_)
  have X1 : K.In h₁ := X.keeps k
  have hx1 := k _ _ hx
  refine ks_wpAt_execs_cons (ks_wpAt_Expr_any (ks_wpAt_MethodCall ?_))
  refine ks_wpAt_super_base rfl rfl (by decide) rfl (X1 _ _ ho) rfl rfl rfl (X1 _ _ hcode) rfl hvs hfile T.top ?_
  refine ks_loadName_global rfl rfl (loadGlobal_builtin (mg := mg) (mb := mb) (G.keeps k) T.noS (Bl.keeps k) (hb.trans (show bootBuiltins "super" = some (.type "super") by rfl)) ⟨rfl, ?_⟩)
  refine wpAny_loadName_free rfl rfl rfl ⟨_, X1 _ _ hcell, rfl⟩ ?_
  refine wpAny_loadName_local rfl rfl hns (show (_ : Option Value) = some (.ref x) from rfl) ?_
  refine ks_wpAny_isType_cls (X1 _ _ hC) rfl ⟨rfl, ?_⟩
  refine ks_wpAny_call_super (X1 _ _ hC) rfl hx1 rfl (fun c e => nomatch e) (looks_mroIn X1 T.mro) (fun h2 hso k2 => ?_)
  have X2 : K.In h2 := X1.keeps k2
  have hx2 := k2 _ _ hx1
  have I2 : InstAt h2 x (excO C t0) C none := ⟨hx2, rfl, rfl, trivial⟩
  have hI : Looks (model prog w) h2 (isInstance (.ref x) (.type "ValueError")) true := I2.type.andThen (looks_subIn X2 T.veC)
  have hxC : x ≠ C := ks_ne X2 I2 hcl
  have hm := T.sup
  unfold ks_superIn at hm
  rw [hcl] at hm
  refine kxs_getMethod kxs_ValueError hso (looks_opaque X2 T.op) (l₀ := .ref C :: bm) (fun A Q E s k q => wpAny_bind ((looks_clsIn X2 hcl) A _ E s k (wpAny_pure q))) rfl X2 hm hI hxC (by decide) ?_
  have hu3 : (h2.push (kxs_mw "ValueError.__init__" x)).get? h2.objs.size = some (kxs_mw "ValueError.__init__" x) := Heap.get?_push_at rfl rfl
  have k3 : ∀ b o, h2.get? b = some o → (h2.push (kxs_mw "ValueError.__init__" x)).get? b = some o := fun b o e => Heap.get?_push_of_some _ e
  have k03 : ∀ b o, s.heap.get? b = some o → (h2.push (kxs_mw "ValueError.__init__" x)).get? b = some o := fun b o e => k3 _ _ (k2 _ _ (k _ _ e))
  refine kxs_callWith (i := "ValueError.__init__") (x := x) rfl ?_
  refine evalArgs_plain (spliced_cons (wpAny_Constant_str (k := 0) (pos := ⟨12, 25, 12, 74⟩) (spliced_nil ⟨hu3, ?_⟩)))
  refine call_bv (k03 _ _ (X _ _ hC)) (k3 _ _ hx2) hu3 (by show 1 ≤ sizeLine; rw [sizeLine_eq]; decide) (fun h4 t1 k4 hx4 => ?_)
  have hxL : s.heap.objs.size ≠ x := Nat.ne_of_gt (Heap.lt_size hx)
  have X4 : K.In h4 := fun a o e => k4 a o (fun z => by rw [z, hnx] at e; cases e) (k3 _ _ (X2 _ _ e))
  have hns4 : h4.Ns s.heap.objs.size (fun y => [(Str.ofString "self", Value.ref x), (Str.ofString "phase", v)].reverse.lookup y) := by
    obtain ⟨oL, es, ep, hL, r⟩ := hns
    exact ⟨oL, es, ep, k4 _ _ hxL (k3 _ _ (k2 _ _ hL)), r⟩
  refine wpAt_of_wpAny (wpAny_execs_cons (plainObj_wpAny_Assign_Attribute ?_))
  refine wpAny_Name (wpAny_loadName_local rfl rfl hns4 (show (_ : Option Value) = some v from rfl) ?_) (by decide)
  refine wpAny_Name (wpAny_loadName_local rfl rfl hns4 (show (_ : Option Value) = some (.ref x) from rfl) ?_) (by decide)
  refine set_plain X4 (ox := excO C t1) (od := none) ⟨hx4, rfl, rfl, trivial⟩ T.sa ?_
  refine exc_osa X4 hx4 hcl (show refsVE (.ref C :: bm) = true from hbm) rfl T.noN (fun h5 tk5 dx k5 dn dne hx5 hn5 => ?_)
  show wpAny _ _ (execs _ _) _ _ _
  have keep : ∀ b o, b ≠ x → s.heap.get? b = some o → h5.get? b = some o := fun b o hb e => k5 b o hb (k4 b o hb (k03 b o e))
  have big : s.heap.objs.size ≤ dx := by
    obtain ⟨oL, _, _, hL, _⟩ := hns4
    exact Nat.le_of_lt (Nat.lt_of_lt_of_le (Heap.lt_size hL) dn)
  exact wpAny_execs_nil (hq h5 tk5 dx t1 ⟨keep, hx5, big, dne, hn5⟩)
/-- a made WrongPhase -/
structure WrongPhaseMade (h h' : Heap) (e C d : Addr) (v : Value) : Prop where
  keep : ∀ b o, h.get? b = some o → h'.get? b = some o
  new : h.objs.size ≤ e
  obj : ∃ oe vs, h'.get? e = some oe ∧ oe.cls = .ref C ∧ oe.dict = some d ∧ oe.data = .fields vs ∧ vs[1]? = some .none
  dbig : h.objs.size ≤ d
  dne : d ≠ e
  ns : h'.Ns1 d (fun y => if y = "phase" then some v else none)
theorem WrongPhase_made (T : WrongPhaseTxt prog K mg C fI) {v : Value} (X : K.In s.heap) (hlim : s.heap.NoLimit) (G : s.heap.Ns mainGlobals mg) (Bl : s.heap.Ns builtinsNs mb) (hb : mb "super" = bootBuiltins "super") (hroom : A.depth + 1 < recursionLimit)
    (hq : ∀ h' tk e d, WrongPhaseMade s.heap h' e C d v → R (.ok (.ret (.ref e))) { s with heap := h', toks := tk }) :
    codeAny (model prog w) A (.call (.ref C) ⟨[v], []⟩) R s := by
  obtain ⟨nm, q, N, bs, bm, sn, sub, ab, col, dd, k0, k1, k2, k3, k5, hC, hbm⟩ := T.cls
  obtain ⟨hp, g, dr, tk, os⟩ := s
  have k : ∀ b o, hp.get? b = some o → ((hp.push (kdv_tup [v])).push (excO C hp.objs.size)).get? b = some o := fun b o e => Heap.get?_push_of_some _ (Heap.get?_push_of_some _ e)
  have hget : ((hp.push (kdv_tup [v])).push (excO C hp.objs.size)).get? (hp.objs.size + 1) = some (excO C hp.objs.size) := by heap_get
  have hnx : K.lookup (hp.objs.size + 1) = none := by
    cases e : K.lookup (hp.objs.size + 1) with
    | none => rfl
    | some o =>
      have z : hp.get? (hp.objs.size + 1) = some o := X _ _ e
      exact absurd (Nat.lt_of_succ_lt (Heap.lt_size z)) (Nat.lt_irrefl _)
  refine call_own F.excBase_ValueError (fun X => refsVE_contains X bm hbm) (X _ _ hC) (looks_findIn X T.iC) (fun self => bind_fn X self T.tC) (by show 1 ≤ sizeLine; rw [sizeLine_eq]; decide) ?_
  refine WrongPhase_init (s := ⟨(hp.push (kdv_tup [v])).push (excO C hp.objs.size), g, dr, tk, os⟩) T (X.keeps k) (hlim.keeps k) (G.keeps k) (Bl.keeps k) hb hget hnx ?_ fun h' tk' dx t1 ⟨k', hx, dn, dne, hns⟩ => ?_
  · show A.depth + 1 < recursionLimit
    exact hroom
  · have old : ∀ b o, hp.get? b = some o → h'.get? b = some o := fun b o e => k' b o (Nat.ne_of_lt (Nat.lt_succ_of_lt (Heap.lt_size e))) (k b o e)
    have z : hp.objs.size + 1 + 1 ≤ dx := by
      first
        | (simpa only [Heap.size_push] using dn)
        | exact dn
        | (have q := dn; rw [Heap.size_push, Heap.size_push] at q; exact q)
    exact ⟨rfl, hq h' tk' (hp.objs.size + 1) dx ⟨old, Nat.le_succ _, ⟨_, _, hx, rfl, rfl, rfl, rfl⟩, Nat.le_trans (Nat.le_trans (Nat.le_succ _) (Nat.le_succ _)) z, dne, hns⟩⟩
end
end ZEX
end PySem
namespace L2
open PySem PySem.Spec PyProof.Rows
theorem relO_WrongPhase {v : V} {v' : Value} (r : RelV v v') (f : Str) : RelO (List.lookup f [(("phase" : Str), v)]) (if f = "phase" then some v' else none) := by
  by_cases hw : f = "phase"
  · subst hw
    rw [if_pos rfl]
    have q : List.lookup ("phase" : Str) [(("phase" : Str), v)] = some v := by simp [List.lookup]
    rw [q]
    exact r
  · rw [if_neg hw]
    have qw : (f == ("phase" : Str)) = false := by simpa using hw
    have q2 : List.lookup f [(("phase" : Str), v)] = none := by simp [List.lookup, qw]
    rw [q2]
    trivial
section
variable {X : Cx} {C fI : Addr}
/-- WrongPhase(e) -/
def tMkWrongPhase (C : Addr) (ta : TA) : St → Hp → XK → Prop := fun σ H Q => ta σ H fun vs H1 => ∃ v, vs = [v] ∧ ∀ d, H1 d = none → Q (.ref C) (some d) (upd H1 d (.xd [(("phase" : Str), v)]))
theorem pmk_WrongPhase {a : Expr} {ta : TA} {p pos : Pos} {k : Nat} (T : PySem.ZEX.WrongPhaseTxt X.prog X.K X.mg C fI) (hr : Room k X.A) (ha : PA X [a] ta) (hg : Gl X "WrongPhase" := by rfl)
    (he : starEach (a :: []) X.env = (false, eval a X.env) :: starEach [] X.env := by rfl) (hpl : (backTo pos (starEach [] X.env)).any (·.1) = false := by rfl) :
    PMk X (.Call (.Name "WrongPhase" p) [a] [] pos) (tMkWrongPhase C ta) := by
  intro pins s σ H Q I h
  refine wpAny_Call_Name_kw (ld_glob I hg T.gC ?_)
  refine PySem.W.callWith_K (h₀ := X.base) I.ok.mod.kin T.kC (thn (ha.run pos pins s σ H _ I h) fun us s1 hh => ?_) he hpl
  obtain ⟨vs, H1, I1, r1, v, ev, q1⟩ := hh
  subst ev
  refine ⟨I1.kIn, ?_⟩
  cases r1 with
  | cons rv rn =>
    rename_i v' us'
    cases rn
    show wpAny _ _ (call (.ref C) [v']) _ _ _
    have hlim := I1.nolimit
    obtain ⟨mb, h1, h2⟩ := I1.mod.blt
    have hG := I1.mod.glob.keeps I1.bk
    have hB := h1.keeps I1.bk
    obtain ⟨hp, g, dr, tk, os⟩ := s1
    refine wpAny_call (PySem.ZEX.WrongPhase_made T I1.kIn hlim hG hB (h2 _ (by decide)) (by have := hr.dp; omega) fun h' tk' e d M => ?_)
    show MkP X pins σ Q (.ref e) ⟨h', g, dr, tk', os⟩
    obtain ⟨oe, fv, hoe, hc, hd, hdat, h1⟩ := M.obj
    have hns := M.ns
    obtain ⟨G', g1, g2⟩ := restrict h' fun b => decide (b ≠ e)
    have gk : ∀ b, b ≠ e → G'.get? b = h'.get? b := fun b hb => g1 b (decide_eq_true hb)
    have ge : G'.get? e = none := g2 e (by simp)
    have old : ∀ b o, hp.get? b = some o → G'.get? b = some o := fun b o q => (gk b (Nat.ne_of_lt (Nat.lt_of_lt_of_le (Heap.lt_size q) M.new))).trans (M.keep b o q)
    have ob : ObjOk X.prog X.w (upd H1 d (.xd [(("phase" : Str), v)])) G' d (.xd [(("phase" : Str), v)]) :=
      ⟨_, hns.at (fun o q => (gk d M.dne).trans q), fun f => relO_WrongPhase rv f⟩
    have J : Inv X pins σ (upd H1 d (.xd [(("phase" : Str), v)])) ⟨G', g, dr, tk', os⟩ := I1.laid (t' := tk') old M.dbig ob
    refine ⟨e, oe, fv, ⟨G', g, dr, tk', os⟩, _, .ref C, some d, rfl, J, fun b o q => ?_, ge, hoe, ⟨hc, hd⟩, hdat, h1, ?_, rfl, I1.bare, raises_own T.exC T.tyC, q1 d (I1.hok.fresh M.dbig)⟩
    · by_cases hb : b = e
      · have q' : G'.get? b = some o := q
        rw [hb, ge] at q'; cases q'
      · exact (gk b hb).symm.trans q
    · rw [upd_ne (Ne.symm M.dne)]
      exact I1.hok.fresh M.new
end
end L2

set_option Elab.async false
set_option linter.all false
set_option maxRecDepth 100000
set_option maxHeartbeats 8000000
namespace Law
open PySem PySem.Spec L2 Zk
open PyProof.Rows hiding St
local macro_rules | `(tactic| walk_at "ne") => `(tactic| first
  | assumption
  | exact Ne.symm (by assumption)
  | (refine ne_of_none (H := ?zg) (o := ?zo) ?zh ?zn; (case zn => assumption); (case zh => walk_at "hold"))
  | (refine Ne.symm (ne_of_none (H := ?zg) (o := ?zo) ?zh ?zn); (case zn => assumption); (case zh => walk_at "hold")))
local macro_rules | `(tactic| walk_at "nm") => `(tactic| first
  | exact List.not_mem_nil
  | (refine nm1 ?_; walk_at "ne")
  | (refine nm2 ?_ ?_ <;> walk_at "ne")
  | assumption)
local macro_rules | `(tactic| walk_at "hold") => `(tactic| first
  | assumption
  | (refine Ext.get (M := ?em) (H := ?eg) ?ek ?eh ?en; (case ek => assumption); (case eh => walk_at "hold"); (case en => first | exact Or.inr trivial | (refine Or.inl ?_; walk_at "nm")))
  | (refine sql ?_; walk_at "hold")
  | (refine sqt ?_; walk_at "hold")
  | (refine Scr.ext (M := ?em) (H := ?eg) ?ek ?eh; (case ek => assumption); (case eh => walk_at "hold"))
  | (refine Scr.sql ?_; walk_at "hold"))
local macro_rules | `(tactic| walk_at "go1") => `(tactic| first
  | (with_reducible refine w_seq ?_)
  | (with_reducible refine w_asg ?_)
  | (with_reducible refine w_gname ?_)
  | (with_reducible refine w_op ?_)
  | ((with_reducible refine w_var (v := ?zw) ?zv ?_); (case zv => exact rfl))
  | (with_reducible refine w_c ?_)
  | (with_reducible refine w_I0 ?_)
  | (with_reducible refine w_test ?_)
  | (with_reducible refine w_bl ?_)
  | (with_reducible refine w_eqI ?_)
  | (with_reducible refine w_neI ?_)
  | (with_reducible refine w_cb ?_)
  | (with_reducible refine w_cons ?_)
  | (with_reducible refine w_nil ?_)
  | (with_reducible refine w_int ?_)
  | (with_reducible refine w_call ?_)
  | (with_reducible refine w_ret ?_)
  | ((with_reducible refine w_I ?zc ?_); (case zc => first | exact Or.inr ⟨by decide, by decide⟩ | exact Or.inl ⟨by decide, by decide⟩ | (show (0 : Int) < _; first | decide | omega) | exact ⟨by decide, by decide⟩ | (show CPow _ _; exact ⟨by decide, by decide, by decide⟩) | (refine wide_mul (a := 200) (b := 200) ?_ ?_ (by decide) (by decide) (by decide) <;> omega)))
  | ((with_reducible refine w_ixL (xs := ?zx) (v := ?zw) ?zh ?ze ?_); (case zh => walk_at "hold"); (case ze => first | exact rfl | assumption))
  | ((with_reducible refine w_ixT (xs := ?zx) (v := ?zw) ?zh ?ze ?_); (case zh => walk_at "hold"); (case ze => first | exact rfl | assumption))
  | ((with_reducible refine w_lenL (xs := ?zx) ?zh ?_); (case zh => walk_at "hold"))
  | ((with_reducible refine w_lenT (xs := ?zx) ?zh ?_); (case zh => walk_at "hold"))
  | ((with_reducible refine w_lenD (kvs := ?zx) ?zh ?_); (case zh => walk_at "hold"))
  | (with_reducible refine w_gsub ?_)
  | ((with_reducible refine w_setL (xs := ?zx) (j := ?zj) ?zh ?ze ?_); (case zh => walk_at "hold"); (case ze => first | exact rfl | assumption))
  | (with_reducible refine w_and ?_)
  | (with_reducible refine w_or ?_)
  | (with_reducible refine w_not ?_)
  | (with_reducible refine w_tB ?_)
  | (with_reducible refine w_andV ?_)
  | (with_reducible refine w_orV ?_)
  | (with_reducible refine w_notV ?_)
  | (with_reducible refine w_next ?_)
  | (with_reducible refine w_drop ?_)
  | (with_reducible refine w_retN ?_)
  | (with_reducible refine w_tup ?_)
  | (with_reducible refine w_lst ?_)
  | (with_reducible refine w_un ?_)
  | (with_reducible refine w_rU ?_)
  | (with_reducible refine w_eqS ?_)
  | (with_reducible refine w_neS ?_)
  | (with_reducible refine w_isN ?_)
  | (with_reducible refine w_isNt ?_)
  | (with_reducible refine w_isB ?_)
  | (with_reducible refine w_ltS ?_)
  | (with_reducible refine w_dnewK ?_)
  | (with_reducible refine w_dnewT ?_)
  | (with_reducible refine w_break ?_)
  | (with_reducible refine w_cont ?_)
  | (with_reducible refine w_dget ?_)
  | (with_reducible refine w_din ?_)
  | (with_reducible refine w_dnotin ?_)
  | (with_reducible refine w_yes ?_)
  | (with_reducible refine w_m1 ?_)
  | (with_reducible refine w_gcons ?_)
  | (with_reducible refine w_gnil ?_)
  | (with_reducible refine w_sdput ?_)
  | ((with_reducible refine w_gtup (xs := ?zx) ?zh ?zl ?_); (case zh => walk_at "hold"); (case zl => exact rfl))
  | (with_reducible refine w_bm ?_)
  | (with_reducible refine w_bm0 ?_)
  | ((with_reducible refine w_tyL (xs := ?zx) ?zh ?_); (case zh => walk_at "hold"))
  | (with_reducible refine w_lc ?_)
  | (with_reducible refine w_for ?_)
  | (with_reducible refine w_str ?_)
  | (with_reducible refine w_iList ?_)
  | (with_reducible refine w_iTup ?_)
  | (with_reducible refine w_iRng1 ?_)
  | (with_reducible refine w_iRng2 ?_)
  | (with_reducible refine w_iStr ?_)
  | (with_reducible refine iteT ?_)
  | (with_reducible refine iteF ?_)
  | (with_reducible refine iteNF ?_)
  | (with_reducible refine iteNT ?_))
local macro_rules | `(tactic| walk_at "go") => `(tactic| repeat walk_at "go1")
local macro_rules | `(tactic| walk_at "goa") => `(tactic| repeat (first
  | ((with_reducible refine w_modA ?zc ?_); (case zc => first | decide | omega); (intro r r0 r1))
  | walk_at "go1"))
local macro_rules | `(tactic| walk_at "if") => `(tactic| ((with_reducible refine w_ifS ?_); walk_at "go"))
local macro_rules | `(tactic| walk_at "ife") => `(tactic| ((with_reducible refine w_if ?_); walk_at "go"))
def topS (i : Nat) : Stmt := PySem.Challenge.pw_storelife_k48_whole_image_while_the_line.main.body.getD i (.Pass ⟨0, 0, 0, 0⟩)
abbrev s_ImageCopier___init__ : Stmt := inClass (topS 5) 0
theorem sc_ImageCopier___init__ : FnScope ["self", "position"] ["self", "position"] (defScope s_ImageCopier___init__) := ⟨rfl, rfl, rfl, by decide +kernel, rfl, by decide +kernel, by decide +kernel⟩
abbrev s_ImageCopier_take_slots : Stmt := inClass (topS 5) 1
theorem sc_ImageCopier_take_slots : FnScope ["self", "position", "slots", "count", "slot", "left"] ["self", "position", "slots", "count"] (defScope s_ImageCopier_take_slots) := ⟨rfl, rfl, rfl, by decide +kernel, rfl, by decide +kernel, by decide +kernel⟩
abbrev s_ImageCopier_complete : Stmt := inClass (topS 5) 2
theorem sc_ImageCopier_complete : FnScope ["self"] ["self"] (defScope s_ImageCopier_complete) := ⟨rfl, rfl, rfl, by decide +kernel, rfl, by decide +kernel, by decide +kernel⟩
abbrev s_ImageCopier_begun_at : Stmt := inClass (topS 5) 3
theorem sc_ImageCopier_begun_at : FnScope ["self"] ["self"] (defScope s_ImageCopier_begun_at) := ⟨rfl, rfl, rfl, by decide +kernel, rfl, by decide +kernel, by decide +kernel⟩
abbrev s_ImageCopier_reach : Stmt := inClass (topS 5) 4
theorem sc_ImageCopier_reach : FnScope ["self"] ["self"] (defScope s_ImageCopier_reach) := ⟨rfl, rfl, rfl, by decide +kernel, rfl, by decide +kernel, by decide +kernel⟩
abbrev s_ImageCopier_finish : Stmt := inClass (topS 5) 5
theorem sc_ImageCopier_finish : FnScope ["self", "differences", "slot", "found", "difference"] ["self", "differences"] (defScope s_ImageCopier_finish) := ⟨rfl, rfl, rfl, by decide +kernel, rfl, by decide +kernel, by decide +kernel⟩
abbrev s_ImageCopier_saved : Stmt := inClass (topS 5) 6
theorem sc_ImageCopier_saved : FnScope ["self", "pairs", "slot"] ["self"] (defScope s_ImageCopier_saved) := ⟨rfl, rfl, rfl, by decide +kernel, rfl, by decide +kernel, by decide +kernel⟩
abbrev s_load_image : Stmt := topS 6
theorem sc_load_image : FnScope ["saved", "image", "slot", "held"] ["saved"] (defScope s_load_image) := ⟨rfl, rfl, rfl, by decide +kernel, rfl, by decide +kernel, by decide +kernel⟩
abbrev s_law_mixed : Stmt := topS 8
theorem sc_law_mixed : FnScope ["number", "place", "first", "second", "third"] ["number", "place"] (defScope s_law_mixed) := ⟨rfl, rfl, rfl, by decide +kernel, rfl, by decide +kernel, by decide +kernel⟩
abbrev s_law_rest : Stmt := topS 9
theorem sc_law_rest : FnScope ["script", "place", "fills", "number"] ["script", "place", "fills"] (defScope s_law_rest) := ⟨rfl, rfl, rfl, by decide +kernel, rfl, by decide +kernel, by decide +kernel⟩
abbrev s_law_pool : Stmt := topS 10
theorem sc_law_pool : FnScope ["script"] ["script"] (defScope s_law_pool) := ⟨rfl, rfl, rfl, by decide +kernel, rfl, by decide +kernel, by decide +kernel⟩
abbrev s_law_next : Stmt := topS 11
theorem sc_law_next : FnScope ["pool"] ["pool"] (defScope s_law_next) := ⟨rfl, rfl, rfl, by decide +kernel, rfl, by decide +kernel, by decide +kernel⟩
abbrev s_law_draw : Stmt := topS 12
theorem sc_law_draw : FnScope ["pool", "limit", "value"] ["pool", "limit"] (defScope s_law_draw) := ⟨rfl, rfl, rfl, by decide +kernel, rfl, by decide +kernel, by decide +kernel⟩
abbrev s_law_pick : Stmt := topS 13
theorem sc_law_pick : FnScope ["pool", "options"] ["pool", "options"] (defScope s_law_pick) := ⟨rfl, rfl, rfl, by decide +kernel, rfl, by decide +kernel, by decide +kernel⟩
abbrev s_law_same : Stmt := topS 14
theorem sc_law_same : FnScope ["one", "other", "key", "k"] ["one", "other"] (defScope s_law_same) := ⟨rfl, rfl, rfl, by decide +kernel, rfl, by decide +kernel, by decide +kernel⟩
abbrev s_law_name : Stmt := topS 15
theorem sc_law_name : FnScope ["pool", "signs", "first", "k"] ["pool"] (defScope s_law_name) := ⟨rfl, rfl, rfl, by decide +kernel, rfl, by decide +kernel, by decide +kernel⟩
abbrev s_law_cells : Stmt := topS 16
theorem sc_law_cells : FnScope ["pool", "cells", "k"] ["pool"] (defScope s_law_cells) := ⟨rfl, rfl, rfl, by decide +kernel, rfl, by decide +kernel, by decide +kernel⟩
abbrev s_law_content : Stmt := topS 17
theorem sc_law_content : FnScope ["pool", "slot"] ["pool", "slot"] (defScope s_law_content) := ⟨rfl, rfl, rfl, by decide +kernel, rfl, by decide +kernel, by decide +kernel⟩
abbrev s_law_universe : Stmt := topS 18
theorem sc_law_universe : FnScope ["pool", "many", "k", "names", "found", "slot"] ["pool", "many"] (defScope s_law_universe) := ⟨rfl, rfl, rfl, by decide +kernel, rfl, by decide +kernel, by decide +kernel⟩
abbrev s_law_copy : Stmt := topS 19
theorem sc_law_copy : FnScope ["row", "found", "key"] ["row"] (defScope s_law_copy) := ⟨rfl, rfl, rfl, by decide +kernel, rfl, by decide +kernel, by decide +kernel⟩
abbrev s_law_without : Stmt := topS 20
theorem sc_law_without : FnScope ["row", "gone", "found", "key"] ["row", "gone"] (defScope s_law_without) := ⟨rfl, rfl, rfl, by decide +kernel, rfl, by decide +kernel, by decide +kernel⟩
abbrev s_law_moved : Stmt := topS 21
theorem sc_law_moved : FnScope ["pool", "slots", "state", "most", "found", "k", "slot"] ["pool", "slots", "state", "most"] (defScope s_law_moved) := ⟨rfl, rfl, rfl, by decide +kernel, rfl, by decide +kernel, by decide +kernel⟩
abbrev s_law_between : Stmt := topS 22
theorem sc_law_between : FnScope ["one", "other", "found", "slot"] ["one", "other"] (defScope s_law_between) := ⟨rfl, rfl, rfl, by decide +kernel, rfl, by decide +kernel, by decide +kernel⟩
abbrev s_law_states : Stmt := topS 23
theorem sc_law_states : FnScope ["pool", "many", "slots", "state", "slot", "states", "k"] ["pool"] (defScope s_law_states) := ⟨rfl, rfl, rfl, by decide +kernel, rfl, by decide +kernel, by decide +kernel⟩
abbrev s_law_finish : Stmt := topS 24
theorem sc_law_finish : FnScope ["image", "differences", "e"] ["image", "differences"] (defScope s_law_finish) := ⟨rfl, rfl, rfl, by decide +kernel, rfl, by decide +kernel, by decide +kernel⟩
abbrev s_law_take : Stmt := topS 25
theorem sc_law_take : FnScope ["image", "position", "slots", "count", "e"] ["image", "position", "slots", "count"] (defScope s_law_take) := ⟨rfl, rfl, rfl, by decide +kernel, rfl, by decide +kernel, by decide +kernel⟩
abbrev s_law_agrees : Stmt := topS 26
theorem sc_law_agrees : FnScope ["image", "model", "pairs", "due", "slot"] ["image", "model"] (defScope s_law_agrees) := ⟨rfl, rfl, rfl, by decide +kernel, rfl, by decide +kernel, by decide +kernel⟩
abbrev s_law_settled : Stmt := topS 27
theorem sc_law_settled : FnScope ["model", "position", "slots", "count", "slot", "left"] ["model", "position", "slots", "count"] (defScope s_law_settled) := ⟨rfl, rfl, rfl, by decide +kernel, rfl, by decide +kernel, by decide +kernel⟩
abbrev s_law_steps : Stmt := topS 28
theorem sc_law_steps : FnScope ["states", "first", "last", "k"] ["states", "first", "last"] (defScope s_law_steps) := ⟨rfl, rfl, rfl, by decide +kernel, rfl, by decide +kernel, by decide +kernel⟩
abbrev s_law : Stmt := topS 29
theorem sc_law : FnScope ["script", "pool", "base", "states", "first", "image", "side", "model", "k", "place", "count", "slots", "told", "last", "steps", "due", "thing"] ["script"] (defScope s_law) := ⟨rfl, rfl, rfl, by decide +kernel, rfl, by decide +kernel, by decide +kernel⟩
structure Txt (K : PySem.W.Frag) (mg : Str → Option Value) where
  f_ImageCopier___init__ : Addr
  d_ImageCopier___init__ : FuncData
  F_ImageCopier___init__ : L2.Fun K "__init__" "ImageCopier.__init__" s_ImageCopier___init__ f_ImageCopier___init__ d_ImageCopier___init__
  k_ImageCopier___init__ : Binds K d_ImageCopier___init__ ["self", "position"] []
  f_ImageCopier_take_slots : Addr
  d_ImageCopier_take_slots : FuncData
  F_ImageCopier_take_slots : L2.Fun K "take_slots" "ImageCopier.take_slots" s_ImageCopier_take_slots f_ImageCopier_take_slots d_ImageCopier_take_slots
  k_ImageCopier_take_slots : Binds K d_ImageCopier_take_slots ["self", "position", "slots", "count"] []
  f_ImageCopier_complete : Addr
  d_ImageCopier_complete : FuncData
  F_ImageCopier_complete : L2.Fun K "complete" "ImageCopier.complete" s_ImageCopier_complete f_ImageCopier_complete d_ImageCopier_complete
  k_ImageCopier_complete : Binds K d_ImageCopier_complete ["self"] []
  f_ImageCopier_begun_at : Addr
  d_ImageCopier_begun_at : FuncData
  F_ImageCopier_begun_at : L2.Fun K "begun_at" "ImageCopier.begun_at" s_ImageCopier_begun_at f_ImageCopier_begun_at d_ImageCopier_begun_at
  k_ImageCopier_begun_at : Binds K d_ImageCopier_begun_at ["self"] []
  f_ImageCopier_reach : Addr
  d_ImageCopier_reach : FuncData
  F_ImageCopier_reach : L2.Fun K "reach" "ImageCopier.reach" s_ImageCopier_reach f_ImageCopier_reach d_ImageCopier_reach
  k_ImageCopier_reach : Binds K d_ImageCopier_reach ["self"] []
  f_ImageCopier_finish : Addr
  d_ImageCopier_finish : FuncData
  F_ImageCopier_finish : L2.Fun K "finish" "ImageCopier.finish" s_ImageCopier_finish f_ImageCopier_finish d_ImageCopier_finish
  k_ImageCopier_finish : Binds K d_ImageCopier_finish ["self", "differences"] []
  f_ImageCopier_saved : Addr
  d_ImageCopier_saved : FuncData
  F_ImageCopier_saved : L2.Fun K "saved" "ImageCopier.saved" s_ImageCopier_saved f_ImageCopier_saved d_ImageCopier_saved
  k_ImageCopier_saved : Binds K d_ImageCopier_saved ["self"] []
  f_load_image : Addr
  d_load_image : FuncData
  F_load_image : L2.Fun K "load_image" "load_image" s_load_image f_load_image d_load_image
  g_load_image : mg "load_image" = some (.ref f_load_image)
  k_load_image : Binds K d_load_image ["saved"] []
  f__law_mixed : Addr
  d__law_mixed : FuncData
  F__law_mixed : L2.Fun K "_law_mixed" "_law_mixed" s_law_mixed f__law_mixed d__law_mixed
  g__law_mixed : mg "_law_mixed" = some (.ref f__law_mixed)
  k__law_mixed : Binds K d__law_mixed ["number", "place"] []
  f__law_rest : Addr
  d__law_rest : FuncData
  F__law_rest : L2.Fun K "_law_rest" "_law_rest" s_law_rest f__law_rest d__law_rest
  g__law_rest : mg "_law_rest" = some (.ref f__law_rest)
  k__law_rest : Binds K d__law_rest ["script", "place", "fills"] []
  f__law_pool : Addr
  d__law_pool : FuncData
  F__law_pool : L2.Fun K "_law_pool" "_law_pool" s_law_pool f__law_pool d__law_pool
  g__law_pool : mg "_law_pool" = some (.ref f__law_pool)
  k__law_pool : Binds K d__law_pool ["script"] []
  f__law_next : Addr
  d__law_next : FuncData
  F__law_next : L2.Fun K "_law_next" "_law_next" s_law_next f__law_next d__law_next
  g__law_next : mg "_law_next" = some (.ref f__law_next)
  k__law_next : Binds K d__law_next ["pool"] []
  f__law_draw : Addr
  d__law_draw : FuncData
  F__law_draw : L2.Fun K "_law_draw" "_law_draw" s_law_draw f__law_draw d__law_draw
  g__law_draw : mg "_law_draw" = some (.ref f__law_draw)
  k__law_draw : Binds K d__law_draw ["pool", "limit"] []
  f__law_pick : Addr
  d__law_pick : FuncData
  F__law_pick : L2.Fun K "_law_pick" "_law_pick" s_law_pick f__law_pick d__law_pick
  g__law_pick : mg "_law_pick" = some (.ref f__law_pick)
  k__law_pick : Binds K d__law_pick ["pool", "options"] []
  f__law_same : Addr
  d__law_same : FuncData
  F__law_same : L2.Fun K "_law_same" "_law_same" s_law_same f__law_same d__law_same
  g__law_same : mg "_law_same" = some (.ref f__law_same)
  k__law_same : Binds K d__law_same ["one", "other"] []
  f__law_name : Addr
  d__law_name : FuncData
  F__law_name : L2.Fun K "_law_name" "_law_name" s_law_name f__law_name d__law_name
  g__law_name : mg "_law_name" = some (.ref f__law_name)
  k__law_name : Binds K d__law_name ["pool"] []
  f__law_cells : Addr
  d__law_cells : FuncData
  F__law_cells : L2.Fun K "_law_cells" "_law_cells" s_law_cells f__law_cells d__law_cells
  g__law_cells : mg "_law_cells" = some (.ref f__law_cells)
  k__law_cells : Binds K d__law_cells ["pool"] []
  f__law_content : Addr
  d__law_content : FuncData
  F__law_content : L2.Fun K "_law_content" "_law_content" s_law_content f__law_content d__law_content
  g__law_content : mg "_law_content" = some (.ref f__law_content)
  k__law_content : Binds K d__law_content ["pool", "slot"] []
  f__law_universe : Addr
  d__law_universe : FuncData
  F__law_universe : L2.Fun K "_law_universe" "_law_universe" s_law_universe f__law_universe d__law_universe
  g__law_universe : mg "_law_universe" = some (.ref f__law_universe)
  k__law_universe : Binds K d__law_universe ["pool", "many"] []
  f__law_copy : Addr
  d__law_copy : FuncData
  F__law_copy : L2.Fun K "_law_copy" "_law_copy" s_law_copy f__law_copy d__law_copy
  g__law_copy : mg "_law_copy" = some (.ref f__law_copy)
  k__law_copy : Binds K d__law_copy ["row"] []
  f__law_without : Addr
  d__law_without : FuncData
  F__law_without : L2.Fun K "_law_without" "_law_without" s_law_without f__law_without d__law_without
  g__law_without : mg "_law_without" = some (.ref f__law_without)
  k__law_without : Binds K d__law_without ["row", "gone"] []
  f__law_moved : Addr
  d__law_moved : FuncData
  F__law_moved : L2.Fun K "_law_moved" "_law_moved" s_law_moved f__law_moved d__law_moved
  g__law_moved : mg "_law_moved" = some (.ref f__law_moved)
  k__law_moved : Binds K d__law_moved ["pool", "slots", "state", "most"] []
  f__law_between : Addr
  d__law_between : FuncData
  F__law_between : L2.Fun K "_law_between" "_law_between" s_law_between f__law_between d__law_between
  g__law_between : mg "_law_between" = some (.ref f__law_between)
  k__law_between : Binds K d__law_between ["one", "other"] []
  f__law_states : Addr
  d__law_states : FuncData
  F__law_states : L2.Fun K "_law_states" "_law_states" s_law_states f__law_states d__law_states
  g__law_states : mg "_law_states" = some (.ref f__law_states)
  k__law_states : Binds K d__law_states ["pool"] []
  f__law_finish : Addr
  d__law_finish : FuncData
  F__law_finish : L2.Fun K "_law_finish" "_law_finish" s_law_finish f__law_finish d__law_finish
  g__law_finish : mg "_law_finish" = some (.ref f__law_finish)
  k__law_finish : Binds K d__law_finish ["image", "differences"] []
  f__law_take : Addr
  d__law_take : FuncData
  F__law_take : L2.Fun K "_law_take" "_law_take" s_law_take f__law_take d__law_take
  g__law_take : mg "_law_take" = some (.ref f__law_take)
  k__law_take : Binds K d__law_take ["image", "position", "slots", "count"] []
  f__law_agrees : Addr
  d__law_agrees : FuncData
  F__law_agrees : L2.Fun K "_law_agrees" "_law_agrees" s_law_agrees f__law_agrees d__law_agrees
  g__law_agrees : mg "_law_agrees" = some (.ref f__law_agrees)
  k__law_agrees : Binds K d__law_agrees ["image", "model"] []
  f__law_settled : Addr
  d__law_settled : FuncData
  F__law_settled : L2.Fun K "_law_settled" "_law_settled" s_law_settled f__law_settled d__law_settled
  g__law_settled : mg "_law_settled" = some (.ref f__law_settled)
  k__law_settled : Binds K d__law_settled ["model", "position", "slots", "count"] []
  f__law_steps : Addr
  d__law_steps : FuncData
  F__law_steps : L2.Fun K "_law_steps" "_law_steps" s_law_steps f__law_steps d__law_steps
  g__law_steps : mg "_law_steps" = some (.ref f__law_steps)
  k__law_steps : Binds K d__law_steps ["states", "first", "last"] []
  f_law : Addr
  d_law : FuncData
  F_law : L2.Fun K "law" "law" s_law f_law d_law
  g_law : mg "law" = some (.ref f_law)
  k_law : Binds K d_law ["script"] []
  C_ImageCopier : Addr
  c_ImageCopier : Cls K C_ImageCopier
  g_ImageCopier : mg "ImageCopier" = some (.ref C_ImageCopier)
  mk_ImageCopier : Mk K C_ImageCopier f_ImageCopier___init__
  na_ImageCopier_begun : NoAttr K C_ImageCopier "begun"
  na_ImageCopier_highest : NoAttr K C_ImageCopier "highest"
  na_ImageCopier_last_taken : NoAttr K C_ImageCopier "last_taken"
  na_ImageCopier_whole : NoAttr K C_ImageCopier "whole"
  na_ImageCopier_taken : NoAttr K C_ImageCopier "taken"
  m_ImageCopier___init__ : Meth K C_ImageCopier "__init__" f_ImageCopier___init__
  m_ImageCopier_take_slots : Meth K C_ImageCopier "take_slots" f_ImageCopier_take_slots
  m_ImageCopier_complete : Meth K C_ImageCopier "complete" f_ImageCopier_complete
  m_ImageCopier_begun_at : Meth K C_ImageCopier "begun_at" f_ImageCopier_begun_at
  m_ImageCopier_reach : Meth K C_ImageCopier "reach" f_ImageCopier_reach
  m_ImageCopier_finish : Meth K C_ImageCopier "finish" f_ImageCopier_finish
  m_ImageCopier_saved : Meth K C_ImageCopier "saved" f_ImageCopier_saved
  b_bool : mg "bool" = none
  b_dict : mg "dict" = none
  b_int : mg "int" = none
  b_isinstance : mg "isinstance" = none
  b_len : mg "len" = none
  b_list : mg "list" = none
  b_max : mg "max" = none
  b_range : mg "range" = none
  b_sorted : mg "sorted" = none
  b_str : mg "str" = none
  b_tuple : mg "tuple" = none
def fs_ImageCopier (v0 v1 v2 v3 v4 : V) : List (Str × V) := [("begun", v0), ("highest", v1), ("last_taken", v2), ("whole", v3), ("taken", v4)]
theorem lk_ImageCopier_begun {v0 v1 v2 v3 v4 : V} : (fs_ImageCopier v0 v1 v2 v3 v4).lookup ("begun" : Str) = some v0 := lk_same
theorem pf_ImageCopier_begun {v0 v1 v2 v3 v4 y : V} : L2.putF "begun" y (fs_ImageCopier v0 v1 v2 v3 v4) = fs_ImageCopier y v1 v2 v3 v4 := by
  unfold fs_ImageCopier
  rw [pf_same]
theorem lk_ImageCopier_highest {v0 v1 v2 v3 v4 : V} : (fs_ImageCopier v0 v1 v2 v3 v4).lookup ("highest" : Str) = some v1 := (lk_other (by decide +kernel)).trans (lk_same)
theorem pf_ImageCopier_highest {v0 v1 v2 v3 v4 y : V} : L2.putF "highest" y (fs_ImageCopier v0 v1 v2 v3 v4) = fs_ImageCopier v0 y v2 v3 v4 := by
  unfold fs_ImageCopier
  rw [pf_other (by decide +kernel)]
  rw [pf_same]
theorem lk_ImageCopier_last_taken {v0 v1 v2 v3 v4 : V} : (fs_ImageCopier v0 v1 v2 v3 v4).lookup ("last_taken" : Str) = some v2 := (lk_other (by decide +kernel)).trans ((lk_other (by decide +kernel)).trans (lk_same))
theorem pf_ImageCopier_last_taken {v0 v1 v2 v3 v4 y : V} : L2.putF "last_taken" y (fs_ImageCopier v0 v1 v2 v3 v4) = fs_ImageCopier v0 v1 y v3 v4 := by
  unfold fs_ImageCopier
  rw [pf_other (by decide +kernel)]
  rw [pf_other (by decide +kernel)]
  rw [pf_same]
theorem lk_ImageCopier_whole {v0 v1 v2 v3 v4 : V} : (fs_ImageCopier v0 v1 v2 v3 v4).lookup ("whole" : Str) = some v3 := (lk_other (by decide +kernel)).trans ((lk_other (by decide +kernel)).trans ((lk_other (by decide +kernel)).trans (lk_same)))
theorem pf_ImageCopier_whole {v0 v1 v2 v3 v4 y : V} : L2.putF "whole" y (fs_ImageCopier v0 v1 v2 v3 v4) = fs_ImageCopier v0 v1 v2 y v4 := by
  unfold fs_ImageCopier
  rw [pf_other (by decide +kernel)]
  rw [pf_other (by decide +kernel)]
  rw [pf_other (by decide +kernel)]
  rw [pf_same]
theorem lk_ImageCopier_taken {v0 v1 v2 v3 v4 : V} : (fs_ImageCopier v0 v1 v2 v3 v4).lookup ("taken" : Str) = some v4 := (lk_other (by decide +kernel)).trans ((lk_other (by decide +kernel)).trans ((lk_other (by decide +kernel)).trans ((lk_other (by decide +kernel)).trans (lk_same))))
theorem pf_ImageCopier_taken {v0 v1 v2 v3 v4 y : V} : L2.putF "taken" y (fs_ImageCopier v0 v1 v2 v3 v4) = fs_ImageCopier v0 v1 v2 v3 y := by
  unfold fs_ImageCopier
  rw [pf_other (by decide +kernel)]
  rw [pf_other (by decide +kernel)]
  rw [pf_other (by decide +kernel)]
  rw [pf_other (by decide +kernel)]
  rw [pf_same]
theorem pi_ImageCopier_begun { y : V} : L2.putF "begun" y ([] : List (Str × V)) = ([("begun", y)] : List (Str × V)) := by
  rfl
theorem pi_ImageCopier_highest {v0 y : V} : L2.putF "highest" y ([("begun", v0)] : List (Str × V)) = ([("begun", v0), ("highest", y)] : List (Str × V)) := by
  rw [pf_other (by decide +kernel)]
  rfl
theorem pi_ImageCopier_last_taken {v0 v1 y : V} : L2.putF "last_taken" y ([("begun", v0), ("highest", v1)] : List (Str × V)) = ([("begun", v0), ("highest", v1), ("last_taken", y)] : List (Str × V)) := by
  rw [pf_other (by decide +kernel)]
  rw [pf_other (by decide +kernel)]
  rfl
theorem pi_ImageCopier_whole {v0 v1 v2 y : V} : L2.putF "whole" y ([("begun", v0), ("highest", v1), ("last_taken", v2)] : List (Str × V)) = ([("begun", v0), ("highest", v1), ("last_taken", v2), ("whole", y)] : List (Str × V)) := by
  rw [pf_other (by decide +kernel)]
  rw [pf_other (by decide +kernel)]
  rw [pf_other (by decide +kernel)]
  rfl
theorem pi_ImageCopier_taken {v0 v1 v2 v3 y : V} : L2.putF "taken" y ([("begun", v0), ("highest", v1), ("last_taken", v2), ("whole", v3)] : List (Str × V)) = ([("begun", v0), ("highest", v1), ("last_taken", v2), ("whole", v3), ("taken", y)] : List (Str × V)) := by
  rw [pf_other (by decide +kernel)]
  rw [pf_other (by decide +kernel)]
  rw [pf_other (by decide +kernel)]
  rw [pf_other (by decide +kernel)]
  rfl
theorem no_ImageCopier___init__ {v0 v1 v2 v3 v4 : V} : (fs_ImageCopier v0 v1 v2 v3 v4).lookup ("__init__" : Str) = none := (lk_other (by decide +kernel)).trans ((lk_other (by decide +kernel)).trans ((lk_other (by decide +kernel)).trans ((lk_other (by decide +kernel)).trans ((lk_other (by decide +kernel)).trans (rfl)))))
theorem no_ImageCopier_take_slots {v0 v1 v2 v3 v4 : V} : (fs_ImageCopier v0 v1 v2 v3 v4).lookup ("take_slots" : Str) = none := (lk_other (by decide +kernel)).trans ((lk_other (by decide +kernel)).trans ((lk_other (by decide +kernel)).trans ((lk_other (by decide +kernel)).trans ((lk_other (by decide +kernel)).trans (rfl)))))
theorem no_ImageCopier_complete {v0 v1 v2 v3 v4 : V} : (fs_ImageCopier v0 v1 v2 v3 v4).lookup ("complete" : Str) = none := (lk_other (by decide +kernel)).trans ((lk_other (by decide +kernel)).trans ((lk_other (by decide +kernel)).trans ((lk_other (by decide +kernel)).trans ((lk_other (by decide +kernel)).trans (rfl)))))
theorem no_ImageCopier_begun_at {v0 v1 v2 v3 v4 : V} : (fs_ImageCopier v0 v1 v2 v3 v4).lookup ("begun_at" : Str) = none := (lk_other (by decide +kernel)).trans ((lk_other (by decide +kernel)).trans ((lk_other (by decide +kernel)).trans ((lk_other (by decide +kernel)).trans ((lk_other (by decide +kernel)).trans (rfl)))))
theorem no_ImageCopier_reach {v0 v1 v2 v3 v4 : V} : (fs_ImageCopier v0 v1 v2 v3 v4).lookup ("reach" : Str) = none := (lk_other (by decide +kernel)).trans ((lk_other (by decide +kernel)).trans ((lk_other (by decide +kernel)).trans ((lk_other (by decide +kernel)).trans ((lk_other (by decide +kernel)).trans (rfl)))))
theorem no_ImageCopier_finish {v0 v1 v2 v3 v4 : V} : (fs_ImageCopier v0 v1 v2 v3 v4).lookup ("finish" : Str) = none := (lk_other (by decide +kernel)).trans ((lk_other (by decide +kernel)).trans ((lk_other (by decide +kernel)).trans ((lk_other (by decide +kernel)).trans ((lk_other (by decide +kernel)).trans (rfl)))))
theorem no_ImageCopier_saved {v0 v1 v2 v3 v4 : V} : (fs_ImageCopier v0 v1 v2 v3 v4).lookup ("saved" : Str) = none := (lk_other (by decide +kernel)).trans ((lk_other (by decide +kernel)).trans ((lk_other (by decide +kernel)).trans ((lk_other (by decide +kernel)).trans ((lk_other (by decide +kernel)).trans (rfl)))))
local macro_rules | `(tactic| walk_at "go1") => do let c := Lean.mkIdent `T.c_ImageCopier; let n := Lean.mkIdent `T.na_ImageCopier_begun; `(tactic| ((refine ⟨_, _, ?fx, fs_ImageCopier ?f0 ?f1 ?f2 ?f3 ?f4, _, rfl, ?zh, $c, $n, lk_ImageCopier_begun, ?_⟩); (case zh => walk_at "hold")))
local macro_rules | `(tactic| walk_at "go1") => do let c := Lean.mkIdent `T.c_ImageCopier; let n := Lean.mkIdent `T.na_ImageCopier_highest; `(tactic| ((refine ⟨_, _, ?fx, fs_ImageCopier ?f0 ?f1 ?f2 ?f3 ?f4, _, rfl, ?zh, $c, $n, lk_ImageCopier_highest, ?_⟩); (case zh => walk_at "hold")))
local macro_rules | `(tactic| walk_at "go1") => do let c := Lean.mkIdent `T.c_ImageCopier; let n := Lean.mkIdent `T.na_ImageCopier_last_taken; `(tactic| ((refine ⟨_, _, ?fx, fs_ImageCopier ?f0 ?f1 ?f2 ?f3 ?f4, _, rfl, ?zh, $c, $n, lk_ImageCopier_last_taken, ?_⟩); (case zh => walk_at "hold")))
local macro_rules | `(tactic| walk_at "go1") => do let c := Lean.mkIdent `T.c_ImageCopier; let n := Lean.mkIdent `T.na_ImageCopier_whole; `(tactic| ((refine ⟨_, _, ?fx, fs_ImageCopier ?f0 ?f1 ?f2 ?f3 ?f4, _, rfl, ?zh, $c, $n, lk_ImageCopier_whole, ?_⟩); (case zh => walk_at "hold")))
local macro_rules | `(tactic| walk_at "go1") => do let c := Lean.mkIdent `T.c_ImageCopier; let n := Lean.mkIdent `T.na_ImageCopier_taken; `(tactic| ((refine ⟨_, _, ?fx, fs_ImageCopier ?f0 ?f1 ?f2 ?f3 ?f4, _, rfl, ?zh, $c, $n, lk_ImageCopier_taken, ?_⟩); (case zh => walk_at "hold")))
local macro_rules | `(tactic| walk_at "go1") => `(tactic| first | (with_reducible refine w_tfld ?_) | (with_reducible refine w_tsfld ?_) | (with_reducible refine w_tmeth ?_) | (with_reducible refine w_tmethT ?_) | (with_reducible refine w_tmake ?_) | (with_reducible refine w_slice ?_) | (with_reducible refine w_noPart ?_) | (with_reducible refine w_part ?_) | (with_reducible refine w_max2 ?_))
structure Errs (P : Program) (K : PySem.W.Frag) (mg : Str → Option Value) where
  C_StoreError : Addr
  g_StoreError : mg "StoreError" = some (.ref C_StoreError)
  C_NoMoment : Addr
  g_NoMoment : mg "NoMoment" = some (.ref C_NoMoment)
  C_WrongPhase : Addr
  g_WrongPhase : mg "WrongPhase" = some (.ref C_WrongPhase)
  C_ImageCopier : Addr
  g_ImageCopier : mg "ImageCopier" = some (.ref C_ImageCopier)
  I_NoMoment : Addr
  E_NoMoment : PySem.ZEX.NoMomentTxt P K mg C_NoMoment I_NoMoment
  x_NoMoment : XfC K C_NoMoment
  i_NoMoment : ExcC K C_NoMoment
  t_NoMoment : PySem.W.exmOne K (.ref C_NoMoment) (.ref C_NoMoment) = some true
  I_WrongPhase : Addr
  E_WrongPhase : PySem.ZEX.WrongPhaseTxt P K mg C_WrongPhase I_WrongPhase
  x_WrongPhase : XfC K C_WrongPhase
  i_WrongPhase : ExcC K C_WrongPhase
  t_WrongPhase : PySem.W.exmOne K (.ref C_WrongPhase) (.ref C_WrongPhase) = some true
  n_NoMoment_WrongPhase : PySem.W.exmOne K (.ref C_NoMoment) (.ref C_WrongPhase) = some false
  k_s1 : PySem.W.kitOne K (.ref C_WrongPhase) (.ref C_StoreError) = some true
  k_s2 : PySem.W.kitOne K (.ref C_NoMoment) (.ref C_StoreError) = some true
section
variable {P : Program} {w : World} {K : PySem.W.Frag} {mg : Str → Option Value} {base : Heap}

/-! ### the drawn numbers -/
def sp_law_mixed (K : PySem.W.Frag) : Sp := sp2 fun a b H Q => ∃ n p, a = .int n ∧ b = .int p ∧ ∀ v : Int, 0 ≤ v → Q (.int v) H
theorem ok_law_mixed (T : Txt K mg) : FnOk P w K mg base CX0 1 T.f__law_mixed T.d__law_mixed ["number", "place"] (sp_law_mixed K) := by
  refine T.F__law_mixed.ok sc_law_mixed len2 (fun cdv A outer s H vs Q E hr h => ?_)
  have nd := sc_law_mixed.nd
  have hu := hu_of hr
  obtain ⟨_, _, rfl, n, p, rfl, rfl, k⟩ := h
  refine ⟨_,
      (pss_cons (ps_set (i := 2) nd rfl (Or.inl rfl) (pe_op op_mod (pe_callTy zc_int (by rfl) T.b_int (by decide +kernel) (pa_cons (pe_op op_add (pe_op op_add (pe_op op_mul (pv 0) pe_int) (pe_op op_mul (pv 1) pe_int)) pe_int) pa_nil)) pe_int)) 
      (pss_cons (ps_set (i := 3) nd rfl (Or.inl rfl) (pe_op op_mod (pe_callTy zc_int (by rfl) T.b_int (by decide +kernel) (pa_cons (pe_op op_add (pe_op op_add (pe_op op_mulW (pv 2) (pv 2)) (pe_op op_mul pe_int (pv 2))) (pv 1)) pa_nil)) pe_int)) 
      (pss_cons (ps_set (i := 4) nd rfl (Or.inl rfl) (pe_op op_mod (pe_callTy zc_int (by rfl) T.b_int (by decide +kernel) (pa_cons (pe_op op_add (pe_op op_mulW (pv 3) (pv 3)) (pv 2)) pa_nil)) pe_int)) 
      (pss_one (ps_ret (pe_op op_add (pe_op op_mulW (pv 3) pe_int) (pv 4))))))), ?_⟩
  change (_ : TS) _ [some _, some _, none, none, none] _
  try dsimp only [cxOf, Cx.nox, Cx.wish]
  walk_at "goa"
  refine k _ ?_
  omega
def sp_law_rest (K : PySem.W.Frag) : Sp := sp3 fun a b c H Q => ∃ (sc : Addr) (ns : List Int) (p f : Int), a = .ref sc ∧ b = .int p ∧ c = .int f ∧ Scr K H sc (ns.map V.int) ∧ ∀ v : Int, 0 ≤ v → Q (.int v) H
theorem ok_law_rest (T : Txt K mg) : FnOk P w K mg base CX0 2 T.f__law_rest T.d__law_rest ["script", "place", "fills"] (sp_law_rest K) := by
  refine T.F__law_rest.ok sc_law_rest len3 (fun cdv A outer s H vs Q E hr h => ?_)
  have nd := sc_law_rest.nd
  have hu := hu_of hr
  obtain ⟨_, _, _, rfl, sc, ns, p, f, rfl, rfl, rfl, hS, k⟩ := h
  refine ⟨_,
      (pss_cons (ps_set (i := 3) nd rfl (Or.inl rfl) pe_int) 
      (pss_cons (ps_if (pt_cmpR op_gt (pe_callB zc_len (by rfl) T.b_len (by decide +kernel) (pa_cons (pv 0) pa_nil)) pe_int (nomark _)) 
        (pss_one (ps_set (i := 3) nd rfl (Or.inl rfl) (pe_callTy zc_int (by rfl) T.b_int (by decide +kernel) (pa_cons (pe_ix ix_list (pv 0) (pe_op op_mod (pe_callTy zc_int (by rfl) T.b_int (by decide +kernel) (pa_cons (pv 1) pa_nil)) (pe_callB zc_len (by rfl) T.b_len (by decide +kernel) (pa_cons (pv 0) pa_nil))) (fun _ _ => rfl)) pa_nil)))) pss_nil) 
      (pss_cons (ps_if (pt_cmpR op_lt (pv 3) pe_int (nomark _)) 
        (pss_one (ps_set (i := 3) nd rfl (Or.inl rfl) (pe_op op_sub pe_int (pe_op op_mul pe_int (pv 3))))) pss_nil) 
      (pss_cons (ps_if (PW.pt (pw_and (pt_cmpR op_eq (pv 2) pe_int (nomark _)) (pw_and (pt_cmpR op_lt (pv 1) (pe_callB zc_len (by rfl) T.b_len (by decide +kernel) (pa_cons (pv 0) pa_nil)) (nomark _)) (pw_and1 (pt_cmpR op_ge (pv 3) (pe_op op_pow pe_int pe_int) (nomark _)))))) 
        (pss_one (ps_ret (pe_op op_sub (pv 3) (pe_op op_pow pe_int pe_int)))) pss_nil) 
      (pss_one (ps_ret (pe_call (ok_law_mixed T) (hr.mono (by decide)) (by rfl) T.g__law_mixed T.F__law_mixed.kp T.k__law_mixed .nil pass0 (pa_cons (pe_op op_add (pv 3) (pe_op op_mul (pv 2) pe_int)) (pa_cons (pv 1) pa_nil))))))))), ?_⟩
  change (_ : TS) _ [some _, some _, some _, none] _
  try dsimp only [cxOf, Cx.nox, Cx.wish]
  have hS2 := hS.sql
  walk_at "go"
  refine w_cut (fun σ' H' => H = H' ∧ ∃ n : Int, σ' = [some (V.ref sc), some (V.int p), some (V.int f), some (V.int n)]) ?_ fun nx hn => ?_
  · rintro _ _ ⟨rfl, n, rfl⟩
    walk_at "go"
    refine w_cut (fun σ' H' => H = H' ∧ ∃ n : Int, 0 ≤ n ∧ σ' = [some (V.ref sc), some (V.int p), some (V.int f), some (V.int n)]) ?_ fun nx hn => ?_
    · rintro _ _ ⟨rfl, n, n0, rfl⟩
      walk_at "go"
      refine w_cut (fun σ' H' => H = H' ∧ σ' = [some (V.ref sc), some (V.int p), some (V.int f), some (V.int n)]) ?_ fun nx hn => ?_
      · rintro _ _ ⟨rfl, rfl⟩
        walk_at "go"
        exact w_sp2 ⟨_, _, rfl, rfl, k⟩
      · walk_at "if"
        refine w_d (fun h => ?_) fun h => ?_ <;> walk_at "go"
        · refine w_d (fun h => ?_) fun h => ?_ <;> walk_at "go"
          · refine w_d (fun h => ?_) fun h => ?_ <;> walk_at "go"
            · exact k _ (by omega)
            · exact hn _ _ ⟨rfl, rfl⟩
          · exact hn _ _ ⟨rfl, rfl⟩
        · exact hn _ _ ⟨rfl, rfl⟩
    · walk_at "if"
      refine w_d (fun h => ?_) fun h => ?_ <;> walk_at "go"
      · exact hn _ _ ⟨rfl, _, by omega, rfl⟩
      · exact hn _ _ ⟨rfl, _, by omega, rfl⟩
  · walk_at "if"
    refine w_d (fun h => ?_) fun h => ?_
    · walk_at "goa"
      rename_i r r0 r1
      rw [List.length_map] at r1
      obtain ⟨z, _, hz⟩ := at_map (f := V.int) r0 r1
      refine w_ixL hS2 hz ?_
      walk_at "go"
      exact hn _ _ ⟨rfl, _, rfl⟩
    · walk_at "go"
      exact hn _ _ ⟨rfl, _, rfl⟩
/-- the pool: the script, a place, what is left of the number, how often it was filled -/
def PoolAt (K : PySem.W.Frag) (H : Hp) (p : Addr) : Prop := ∃ (sc : Addr) (ns : List Int) (pl re fi : Int), H p = some (.lst [.ref sc, .int pl, .int re, .int fi]) ∧ Scr K H sc (ns.map V.int) ∧ 0 ≤ re
theorem PoolAt.ext {M : List Addr} {H H' : Hp} {p : Addr} (e : Ext M H H') (h : PoolAt K H p) (n : p ∉ M) : PoolAt K H' p := by
  obtain ⟨sc, ns, pl, re, fi, h1, h2, h3⟩ := h
  exact ⟨sc, ns, pl, re, fi, e.keep _ _ h1 n, h2.ext e, h3⟩
theorem PoolAt.ne {H : Hp} {p q : Addr} (h : PoolAt K H p) (n : H q = none) : p ≠ q := by
  obtain ⟨sc, ns, pl, re, fi, h1, h2, h3⟩ := h
  exact ne_of_none h1 n
def sp_law_pool (K : PySem.W.Frag) : Sp := sp1 fun a H Q => ∃ (sc : Addr) (ns : List Int), a = .ref sc ∧ Scr K H sc (ns.map V.int) ∧ ∀ p H', Ext [] H H' → H p = none → PoolAt K H' p → Q (.ref p) H'
theorem ok_law_pool (T : Txt K mg) : FnOk P w K mg base CX0 3 T.f__law_pool T.d__law_pool ["script"] (sp_law_pool K) := by
  refine T.F__law_pool.ok sc_law_pool len1 (fun cdv A outer s H vs Q E hr h => ?_)
  have nd := sc_law_pool.nd
  have hu := hu_of hr
  obtain ⟨_, rfl, sc, ns, rfl, hS, k⟩ := h
  refine ⟨_,
      (pss_one (ps_ret (pe_lstZ (pa_cons (pv 0) (pa_cons pe_int (pa_cons (pe_call (ok_law_rest T) (hr.mono (by decide)) (by rfl) T.g__law_rest T.F__law_rest.kp T.k__law_rest .nil pass0 (pa_cons (pv 0) (pa_cons pe_int (pa_cons pe_int pa_nil)))) (pa_cons pe_int pa_nil))))))), ?_⟩
  change (_ : TS) _ [some _] _
  try dsimp only [cxOf, Cx.nox, Cx.wish]
  walk_at "go"
  refine w_sp3 ⟨_, _, _, _, rfl, rfl, rfl, hS, fun v v0 => ?_⟩
  walk_at "go"
  refine ⟨sz (by show 4 ≤ _; decide), w_alc fun p H1 e1 n1 h1 => ?_⟩
  exact k p H1 e1 n1 ⟨sc, ns, _, _, _, h1, hS.ext e1, v0⟩
def sp_law_draw (K : PySem.W.Frag) : Sp := sp2 fun a b H Q => ∃ (p : Addr) (l : Int), a = .ref p ∧ b = .int l ∧ PoolAt K H p ∧ 0 < l ∧ l < 2 ^ 200 ∧ ∀ v H', 0 ≤ v → v < l → Ext [p] H H' → PoolAt K H' p → Q (.int v) H'
theorem ok_law_draw (T : Txt K mg) : FnOk P w K mg base CX0 3 T.f__law_draw T.d__law_draw ["pool", "limit"] (sp_law_draw K) := by
  refine T.F__law_draw.ok sc_law_draw len2 (fun cdv A outer s H vs Q E hr h => ?_)
  have nd := sc_law_draw.nd
  have hu := hu_of hr
  obtain ⟨_, _, rfl, p, l, rfl, rfl, hP, l0, l1, k⟩ := h
  refine ⟨_,
      (pss_cons (ps_if (pt_cmpR op_le (pe_ix ix_list (pv 0) pe_int (fun _ _ => rfl)) pe_int (nomark _)) 
        (pss_cons (ps_asg (pe_op op_add (pe_ix ix_list (pv 0) pe_int (fun _ _ => rfl)) pe_int) (pg_sub (pv 0) pe_int zset_list)) 
        (pss_one (ps_asg (pe_call (ok_law_rest T) (hr.mono (by decide)) (by rfl) T.g__law_rest T.F__law_rest.kp T.k__law_rest .nil pass0 (pa_cons (pe_ix ix_list (pv 0) pe_int (fun _ _ => rfl)) (pa_cons (pe_ix ix_list (pv 0) pe_int (fun _ _ => rfl)) (pa_cons (pe_ix ix_list (pv 0) pe_int (fun _ _ => rfl)) pa_nil)))) (pg_sub (pv 0) pe_int zset_list)))) pss_nil) 
      (pss_cons (ps_set (i := 2) nd rfl (Or.inl rfl) (pe_op op_mod (pe_callTy zc_int (by rfl) T.b_int (by decide +kernel) (pa_cons (pe_ix ix_list (pv 0) pe_int (fun _ _ => rfl)) pa_nil)) (pv 1))) 
      (pss_cons (ps_asg (pe_op op_fdivW (pe_callTy zc_int (by rfl) T.b_int (by decide +kernel) (pa_cons (pe_ix ix_list (pv 0) pe_int (fun _ _ => rfl)) pa_nil)) (pv 1)) (pg_sub (pv 0) pe_int zset_list)) 
      (pss_one (ps_ret (pv 2)))))), ?_⟩
  change (_ : TS) _ [some _, some _, none] _
  try dsimp only [cxOf, Cx.nox, Cx.wish]
  walk_at "go"
  refine w_cut (fun σ' H' => Ext [p] H H' ∧ PoolAt K H' p ∧ σ' = [some (V.ref p), some (V.int l), none]) ?_ fun nx hn => ?_
  · rintro _ H1 ⟨e1, ⟨sc, ns, pl, re, fi, h1, h2, h3⟩, rfl⟩
    walk_at "goa"
    rename_i r r0 r1
    refine w_I (wide_div (b := 200) l0 (by omega) (by decide) (by decide)) ?_
    walk_at "go"
    refine w_chg h1 (fun z => z) fun H2 e2 h4 => ?_
    walk_at "go"
    exact k r H2 r0 r1 (e1.trans e2) ⟨sc, ns, _, _, _, h4, h2.ext e2, Int.ediv_nonneg h3 (by omega)⟩
  · obtain ⟨sc, ns, pl, re, fi, h1, h2, h3⟩ := id hP
    walk_at "if"
    refine w_d (fun h => ?_) fun h => ?_ <;> walk_at "go"
    · refine w_chg h1 (fun z => z) fun H2 e2 h4 => ?_
      change H2 p = some (.lst [.ref sc, .int pl, .int re, .int (fi + 1)]) at h4
      walk_at "go"
      refine w_sp3 ⟨_, _, _, _, rfl, rfl, rfl, h2.ext e2, fun v v0 => ?_⟩
      walk_at "go"
      refine w_chg h4 (fun z => z) fun H3 e3 h5 => ?_
      exact hn _ _ ⟨e2.trans e3, ⟨sc, ns, _, _, _, h5, (h2.ext e2).ext e3, v0⟩, rfl⟩
    · exact hn _ _ ⟨Ext.refl, hP, rfl⟩
theorem w_draw {H : Hp} {p : Addr} {l : Int} {Q : VK} {E : XK} (hP : PoolAt K H p) (l0 : 0 < l) (l1 : l < 2 ^ 200) (k : ∀ v H', 0 ≤ v → v < l → Ext [p] H H' → PoolAt K H' p → Q (.int v) H') :
    sp_law_draw K ([.ref p, .int l] ++ []) H Q E := ⟨_, _, rfl, p, l, rfl, rfl, hP, l0, l1, k⟩

/-! ### the next cell of the script; a drawn item -/
def sp_law_next (K : PySem.W.Frag) : Sp := sp1 fun a H Q => ∃ p, a = .ref p ∧ PoolAt K H p ∧ ∀ H', Ext [p] H H' → PoolAt K H' p → Q .non H'
theorem ok_law_next (T : Txt K mg) : FnOk P w K mg base CX0 3 T.f__law_next T.d__law_next ["pool"] (sp_law_next K) := by
  refine T.F__law_next.ok sc_law_next len1 (fun cdv A outer s H vs Q E hr h => ?_)
  have nd := sc_law_next.nd
  have hu := hu_of hr
  obtain ⟨_, rfl, p, rfl, ⟨sc, ns, pl, re, fi, h1, h2, h3⟩, k⟩ := h
  refine ⟨_,
      (pss_cons (ps_asg (pe_op op_add (pe_ix ix_list (pv 0) pe_int (fun _ _ => rfl)) pe_int) (pg_sub (pv 0) pe_int zset_list)) 
      (pss_cons (ps_asg (pe_call (ok_law_rest T) (hr.mono (by decide)) (by rfl) T.g__law_rest T.F__law_rest.kp T.k__law_rest .nil pass0 (pa_cons (pe_ix ix_list (pv 0) pe_int (fun _ _ => rfl)) (pa_cons (pe_ix ix_list (pv 0) pe_int (fun _ _ => rfl)) (pa_cons pe_int pa_nil)))) (pg_sub (pv 0) pe_int zset_list)) 
      (pss_one (ps_asg pe_int (pg_sub (pv 0) pe_int zset_list))))), ?_⟩
  change (_ : TS) _ [some _] _
  try dsimp only [cxOf, Cx.nox, Cx.wish]
  walk_at "go"
  refine w_chg h1 (fun z => z) fun H1 e1 g1 => ?_
  change H1 p = some (.lst [.ref sc, .int (pl + 1), .int re, .int fi]) at g1
  walk_at "go"
  refine w_sp3 ⟨_, _, _, _, rfl, rfl, rfl, h2.ext e1, fun v v0 => ?_⟩
  walk_at "go"
  refine w_chg g1 (fun z => z) fun H2 e2 g2 => ?_
  change H2 p = some (.lst [.ref sc, .int (pl + 1), .int v, .int fi]) at g2
  walk_at "go"
  refine w_chg g2 (fun z => z) fun H3 e3 g3 => ?_
  exact k _ ((e1.trans e2).trans e3) ⟨sc, ns, _, _, _, g3, ((h2.ext e1).ext e2).ext e3, v0⟩
theorem w_next_ {H : Hp} {p : Addr} {Q : VK} {E : XK} (hP : PoolAt K H p) (k : ∀ H', Ext [p] H H' → PoolAt K H' p → Q .non H') : sp_law_next K ([.ref p] ++ []) H Q E := ⟨_, rfl, p, rfl, hP, k⟩
def sp_law_pick (K : PySem.W.Frag) : Sp := sp2 fun a b H Q => ∃ (p o : Addr) (xs : List V), a = .ref p ∧ b = .ref o ∧ PoolAt K H p ∧ H o = some (.lst xs) ∧ o ≠ p ∧ 0 < xs.length ∧ xs.length ≤ 1000 ∧ ∀ v H', v ∈ xs → Ext [p] H H' → PoolAt K H' p → Q v H'
theorem ok_law_pick (T : Txt K mg) : FnOk P w K mg base CX0 4 T.f__law_pick T.d__law_pick ["pool", "options"] (sp_law_pick K) := by
  refine T.F__law_pick.ok sc_law_pick len2 (fun cdv A outer s H vs Q E hr h => ?_)
  have nd := sc_law_pick.nd
  have hu := hu_of hr
  obtain ⟨_, _, rfl, p, o, xs, rfl, rfl, hP, ho, n, l0, l1, k⟩ := h
  refine ⟨_,
      (pss_one (ps_ret (pe_ix ix_list (pv 1) (pe_call (ok_law_draw T) (hr.mono (by decide)) (by rfl) T.g__law_draw T.F__law_draw.kp T.k__law_draw .nil pass0 (pa_cons (pv 0) (pa_cons (pe_callB zc_len (by rfl) T.b_len (by decide +kernel) (pa_cons (pv 1) pa_nil)) pa_nil))) (fun _ _ => rfl)))), ?_⟩
  change (_ : TS) _ [some _, some _] _
  try dsimp only [cxOf, Cx.nox, Cx.wish]
  walk_at "go"
  refine w_draw hP (by omega) (by omega) fun r H1 r0 r1 e1 hP1 => ?_
  obtain ⟨v, hv, hm⟩ := at_some r0 r1
  refine w_ixL (sql (e1.keep _ _ ho (nm1 n))) hv ?_
  exact k v H1 (List.mem_of_getElem? hm) e1 hP1
theorem w_pick {H : Hp} {p o : Addr} {xs : List V} {Q : VK} {E : XK} (hP : PoolAt K H p) (ho : H o = some (.lst xs)) (n : o ≠ p) (l0 : 0 < xs.length) (l1 : xs.length ≤ 1000) (k : ∀ v H', v ∈ xs → Ext [p] H H' → PoolAt K H' p → Q v H') :
    sp_law_pick K ([.ref p, .ref o] ++ []) H Q E := ⟨_, _, rfl, p, o, xs, rfl, rfl, hP, ho, n, l0, l1, k⟩

/-! ### _law_same of what is the same -/
def sp_same (n : Nat) (K : PySem.W.Frag) : Sp := sp2 fun a b H Q => (∃ U, Sm U n H a b) ∧ ∀ H', Ext [] H H' → Q (.bl true) H'
theorem ok_same_no (T : Txt K mg) : FnOk P w K mg base CX0 0 T.f__law_same T.d__law_same ["one", "other"] (sp_same 0 K) :=
  ⟨fun _ _ _ _ h => by obtain ⟨_, _, rfl, _⟩ := h; rfl, fun _ _ _ _ _ _ _ _ _ _ _ _ _ h => by obtain ⟨_, _, _, ⟨_, h⟩, _⟩ := h; exact h.elim⟩
theorem step_same (T : Txt K mg)  (n l : Nat) (ih : FnOk P w K mg base CX0 l T.f__law_same T.d__law_same ["one", "other"] (sp_same n K)) : FnOk P w K mg base CX0 (l+1) T.f__law_same T.d__law_same ["one", "other"] (sp_same (n+1) K) := by
  refine T.F__law_same.ok sc_law_same len2 (fun cdv A outer s H vs Q E hr h => ?_)
  have nd := sc_law_same.nd
  have hu := hu_of hr
  obtain ⟨a, b, rfl, ⟨U, h⟩, k⟩ := h
  refine ⟨_,
      (pss_cons (ps_if (pt_cmpR zop_isN (pv 0) pe_non (nomark _)) 
        (pss_one (ps_ret (pe_cmpR zop_isN (pv 1) pe_non (nomark _)))) pss_nil) 
      (pss_cons (ps_if (PW.pt (pw_or (pt_val (pe_callB call_isi (by rfl) T.b_isinstance (by decide +kernel) (pa_cons (pv 0) (pa_cons (pe_bltn (v := .ty "bool") (by rfl) T.b_bool (by decide +kernel) rfl) pa_nil)))) (pw_or1 (pt_val (pe_callB call_isi (by rfl) T.b_isinstance (by decide +kernel) (pa_cons (pv 1) (pa_cons (pe_bltn (v := .ty "bool") (by rfl) T.b_bool (by decide +kernel) rfl) pa_nil))))))) 
        (pss_one (ps_ret (pe_and (pe_callB call_isi (by rfl) T.b_isinstance (by decide +kernel) (pa_cons (pv 0) (pa_cons (pe_bltn (v := .ty "bool") (by rfl) T.b_bool (by decide +kernel) rfl) pa_nil))) (pe_and (pe_callB call_isi (by rfl) T.b_isinstance (by decide +kernel) (pa_cons (pv 1) (pa_cons (pe_bltn (v := .ty "bool") (by rfl) T.b_bool (by decide +kernel) rfl) pa_nil))) (pe_one (pe_cmpR op_eq (pv 0) (pv 1) (nomark _))))))) pss_nil) 
      (pss_cons (ps_if (pt_val (pe_callB call_isi (by rfl) T.b_isinstance (by decide +kernel) (pa_cons (pv 0) (pa_cons (pe_bltn (v := .ty "int") (by rfl) T.b_int (by decide +kernel) rfl) pa_nil)))) 
        (pss_one (ps_ret (pe_and (pe_callB call_isi (by rfl) T.b_isinstance (by decide +kernel) (pa_cons (pv 1) (pa_cons (pe_bltn (v := .ty "int") (by rfl) T.b_int (by decide +kernel) rfl) pa_nil))) (pe_one (pe_cmpR op_eq (pv 0) (pv 1) (nomark _)))))) pss_nil) 
      (pss_cons (ps_if (pt_val (pe_callB call_isi (by rfl) T.b_isinstance (by decide +kernel) (pa_cons (pv 0) (pa_cons (pe_bltn (v := .ty "str") (by rfl) T.b_str (by decide +kernel) rfl) pa_nil)))) 
        (pss_one (ps_ret (pe_and (pe_callB call_isi (by rfl) T.b_isinstance (by decide +kernel) (pa_cons (pv 1) (pa_cons (pe_bltn (v := .ty "str") (by rfl) T.b_str (by decide +kernel) rfl) pa_nil))) (pe_one (pe_cmpR op_eq (pv 0) (pv 1) (nomark _)))))) pss_nil) 
      (pss_cons (ps_if (pt_val (pe_callB call_isi (by rfl) T.b_isinstance (by decide +kernel) (pa_cons (pv 0) (pa_cons (pe_bltn (v := .ty "dict") (by rfl) T.b_dict (by decide +kernel) rfl) pa_nil)))) 
        (pss_cons (ps_if (PW.pt (pw_or (pt_not (pt_val (pe_callB call_isi (by rfl) T.b_isinstance (by decide +kernel) (pa_cons (pv 1) (pa_cons (pe_bltn (v := .ty "dict") (by rfl) T.b_dict (by decide +kernel) rfl) pa_nil))))) (pw_or1 (pt_cmpR op_ne (pe_callB zc_lenX (by rfl) T.b_len (by decide +kernel) (pa_cons (pv 0) pa_nil)) (pe_callB zc_lenX (by rfl) T.b_len (by decide +kernel) (pa_cons (pv 1) pa_nil)) (nomark _))))) 
          (pss_one (ps_ret pe_bl)) pss_nil) 
        (pss_cons (ps_lock (ps_for PassesOwn.never rfl (pi_keys (pv 0)) (pg_name (i := 2) nd rfl (Or.inl rfl)) 
          (pss_one (ps_if (PW.pt (pw_or (pt_cmp (pc_dnotin hu (pv 2) (pv 1))) (pw_or1 (pt_not (pt_val (pe_call ih (hr.mono (by omega)) (by rfl) T.g__law_same T.F__law_same.kp T.k__law_same .nil pass0 (pa_cons (pe_dget hu (pv 0) (pv 2) (fun _ _ => rfl)) (pa_cons (pe_dget hu (pv 1) (pv 2) (fun _ _ => rfl)) pa_nil)))))))) 
            (pss_one (ps_ret pe_bl)) pss_nil)))) 
        (pss_one (ps_ret (pe_call ih (hr.mono (by omega)) (by rfl) T.g__law_same T.F__law_same.kp T.k__law_same .nil pass0 (pa_cons (pe_callB (zc_sortT rfl) (by rfl) T.b_sorted (by decide +kernel) (pa_cons (pv 0) pa_nil)) (pa_cons (pe_callB (zc_sortT rfl) (by rfl) T.b_sorted (by decide +kernel) (pa_cons (pv 1) pa_nil)) pa_nil))))))) pss_nil) 
      (pss_cons (ps_if (PW.pt (pw_and (pt_val (pe_callB call_isi (by rfl) T.b_isinstance (by decide +kernel) (pa_cons (pv 0) (pa_cons (pe_bltn (v := .ty "tuple") (by rfl) T.b_tuple (by decide +kernel) rfl) pa_nil)))) (pw_and1 (pt_not (pt_val (pe_callB call_isi (by rfl) T.b_isinstance (by decide +kernel) (pa_cons (pv 1) (pa_cons (pe_bltn (v := .ty "tuple") (by rfl) T.b_tuple (by decide +kernel) rfl) pa_nil)))))))) 
        (pss_one (ps_ret pe_bl)) pss_nil) 
      (pss_cons (ps_if (PW.pt (pw_and (pt_val (pe_callB call_isi (by rfl) T.b_isinstance (by decide +kernel) (pa_cons (pv 0) (pa_cons (pe_bltn (v := .ty "list") (by rfl) T.b_list (by decide +kernel) rfl) pa_nil)))) (pw_and1 (pt_not (pt_val (pe_callB call_isi (by rfl) T.b_isinstance (by decide +kernel) (pa_cons (pv 1) (pa_cons (pe_bltn (v := .ty "list") (by rfl) T.b_list (by decide +kernel) rfl) pa_nil)))))))) 
        (pss_one (ps_ret pe_bl)) pss_nil) 
      (pss_cons (ps_if (pt_cmpR op_ne (pe_callB zc_lenX (by rfl) T.b_len (by decide +kernel) (pa_cons (pv 0) pa_nil)) (pe_callB zc_lenX (by rfl) T.b_len (by decide +kernel) (pa_cons (pv 1) pa_nil)) (nomark _)) 
        (pss_one (ps_ret pe_bl)) pss_nil) 
      (pss_cons (ps_for PassesOwn.never rfl (pi_range1 (by rfl) T.b_range (pa_cons (pe_callB zc_lenX (by rfl) T.b_len (by decide +kernel) (pa_cons (pv 0) pa_nil)) pa_nil)) (pg_name (i := 3) nd rfl (Or.inl rfl)) 
        (pss_one (ps_if (pt_not (pt_val (pe_call ih (hr.mono (by omega)) (by rfl) T.g__law_same T.F__law_same.kp T.k__law_same .nil pass0 (pa_cons (pe_ix ix_seq (pv 0) (pv 3) (fun _ _ => rfl)) (pa_cons (pe_ix ix_seq (pv 1) (pv 3) (fun _ _ => rfl)) pa_nil))))) 
          (pss_one (ps_ret pe_bl)) pss_nil))) 
      (pss_one (ps_ret pe_bl))))))))))), ?_⟩
  change (_ : TS) _ [some _, some _, none, none] _
  try dsimp only [cxOf, Cx.nox, Cx.wish]
  rcases h with ⟨d, ld, i, j⟩ | ⟨p, q, xs, ys, rfl, rfl, hp, hq, lz, hw⟩ | ⟨l3, hU, p, q, f, rfl, rfl, hp, hq, hw⟩
  · cases i with
    | non =>
      cases j
      walk_at "go"; walk_at "if"
      refine w_t rfl ?_
      walk_at "go"
      exact k _ Ext.refl
    | bl z =>
      cases j
      walk_at "go"; walk_at "if"
      refine w_f rfl ?_; walk_at "go"; walk_at "if"
      refine w_isi (k := true) (.ty _) (.base (.bl _)) (kit_ty (by decide +kernel)) ?_
      walk_at "go"
      refine w_isi (k := true) (.ty _) (.base (.bl _)) (kit_ty (by decide +kernel)) ?_
      refine w_bl ?_
      walk_at "go"
      refine w_isi (k := true) (.ty _) (.base (.bl _)) (kit_ty (by decide +kernel)) ?_
      refine w_bl ?_
      walk_at "go"
      refine w_eq rfl ?_
      rw [decide_eq_true rfl]
      exact k _ Ext.refl
    | int z =>
      cases j
      walk_at "go"; walk_at "if"
      refine w_f rfl ?_; walk_at "go"; walk_at "if"
      refine w_isi (k := false) (.ty _) (.base (.int _)) (kit_ty (by decide +kernel)) ?_
      walk_at "go"
      refine w_isi (k := false) (.ty _) (.base (.int _)) (kit_ty (by decide +kernel)) ?_
      walk_at "go"; walk_at "if"
      refine w_isi (k := true) (.ty _) (.base (.int _)) (kit_ty (by decide +kernel)) ?_
      walk_at "go"
      refine w_isi (k := true) (.ty _) (.base (.int _)) (kit_ty (by decide +kernel)) ?_
      refine w_bl ?_
      walk_at "go"
      rw [decide_eq_true rfl]
      exact k _ Ext.refl
    | str z =>
      cases j
      walk_at "go"; walk_at "if"
      refine w_f rfl ?_; walk_at "go"; walk_at "if"
      refine w_isi (k := false) (.ty _) (.base (.str _)) (kit_ty (by decide +kernel)) ?_
      walk_at "go"
      refine w_isi (k := false) (.ty _) (.base (.str _)) (kit_ty (by decide +kernel)) ?_
      walk_at "go"; walk_at "if"
      refine w_isi (k := false) (.ty _) (.base (.str _)) (kit_ty (by decide +kernel)) ?_
      walk_at "go"; walk_at "if"
      refine w_isi (k := true) (.ty _) (.base (.str _)) (kit_ty (by decide +kernel)) ?_
      walk_at "go"
      refine w_isi (k := true) (.ty _) (.base (.str _)) (kit_ty (by decide +kernel)) ?_
      refine w_bl ?_
      walk_at "go"
      rw [decide_eq_true rfl]
      exact k _ Ext.refl
    | @tup p xs ds ha lz wa =>
      cases j with
      | @tup q ys _ hb _ wb =>
        have la := wa.len
        have lb := wb.len
        have ta := TyX.base (K := K) (.tup ha)
        have tb := TyX.base (K := K) (.tup hb)
        walk_at "go"; walk_at "if"
        refine w_f rfl ?_; walk_at "go"; walk_at "if"
        refine w_isi (k := false) (.ty _) ta (kit_ty (by decide +kernel)) ?_
        walk_at "go"
        refine w_isi (k := false) (.ty _) tb (kit_ty (by decide +kernel)) ?_
        walk_at "go"; walk_at "if"
        refine w_isi (k := false) (.ty _) ta (kit_ty (by decide +kernel)) ?_
        walk_at "go"; walk_at "if"
        refine w_isi (k := false) (.ty _) ta (kit_ty (by decide +kernel)) ?_
        walk_at "go"; walk_at "if"
        refine w_isi (k := false) (.ty _) ta (kit_ty (by decide +kernel)) ?_
        walk_at "go"; walk_at "if"
        refine w_isi (k := true) (.ty _) ta (kit_ty (by decide +kernel)) ?_
        walk_at "go"
        refine w_isi (k := true) (.ty _) tb (kit_ty (by decide +kernel)) ?_
        walk_at "go"; walk_at "if"
        refine w_isi (k := false) (.ty _) ta (kit_ty (by decide +kernel)) ?_
        walk_at "go"; walk_at "if"
        refine w_lenX (.inr (sqt ha)) ?_
        walk_at "go"
        refine w_lenX (.inr (sqt hb)) ?_
        walk_at "go"
        refine w_f (by rw [la, lb]; simp) ?_
        walk_at "go"
        refine w_lenX (.inr (sqt ha)) ?_
        refine w_nil ?_
        refine ⟨_, rfl, by omega, by omega, ?_⟩
        rw [Int.toNat_natCast]
        refine z_for_range (fun i σ' H' => Ext [] H H' ∧ ∃ v, σ' = [some (.ref p), some (.ref q), none, v]) ⟨Ext.refl, _, rfl⟩ ?_ ?_
        · rintro N i σ' H1 hi ⟨e1, v, rfl⟩ hN
          walk_at "go"; walk_at "if"
          obtain ⟨d, hd⟩ : ∃ d, ds[i]? = some d := ⟨_, List.getElem?_eq_getElem (by omega)⟩
          obtain ⟨x, hx, ix⟩ := wa.at hd
          obtain ⟨y, hy, iy⟩ := wb.at hd
          refine w_ixA (.inr (sqt (e1.tup ha))) (at_nat0 hx) ?_
          walk_at "go"
          refine w_ixA (.inr (sqt (e1.tup hb))) (at_nat0 hy) ?_
          walk_at "go"
          have dm := depthAll_mem (List.mem_of_getElem? hd)
          rw [depth_tup] at ld
          refine w_sp2 ⟨⟨U, Sm.im (d := d) (by omega) (ix.ext e1) (iy.ext e1)⟩, fun H2 e2 => ?_⟩
          walk_at "go"
          exact hN _ _ ⟨e1.trans e2, _, rfl⟩
        · rintro σ' H1 ⟨e1, v, rfl⟩
          walk_at "go"
          exact k _ e1
  · have ta := TyX.base (K := K) (.lst hp)
    have tb := TyX.base (K := K) (.lst hq)
    have la := paired_len hw
    walk_at "go"; walk_at "if"
    refine w_f rfl ?_; walk_at "go"; walk_at "if"
    refine w_isi (k := false) (.ty _) ta (kit_ty (by decide +kernel)) ?_
    walk_at "go"
    refine w_isi (k := false) (.ty _) tb (kit_ty (by decide +kernel)) ?_
    walk_at "go"; walk_at "if"
    refine w_isi (k := false) (.ty _) ta (kit_ty (by decide +kernel)) ?_
    walk_at "go"; walk_at "if"
    refine w_isi (k := false) (.ty _) ta (kit_ty (by decide +kernel)) ?_
    walk_at "go"; walk_at "if"
    refine w_isi (k := false) (.ty _) ta (kit_ty (by decide +kernel)) ?_
    walk_at "go"; walk_at "if"
    refine w_isi (k := false) (.ty _) ta (kit_ty (by decide +kernel)) ?_
    walk_at "go"; walk_at "if"
    refine w_isi (k := true) (.ty _) ta (kit_ty (by decide +kernel)) ?_
    walk_at "go"
    refine w_isi (k := true) (.ty _) tb (kit_ty (by decide +kernel)) ?_
    walk_at "go"; walk_at "if"
    refine w_lenX (.inl (sql hp)) ?_
    walk_at "go"
    refine w_lenX (.inl (sql hq)) ?_
    walk_at "go"
    refine w_f (by rw [la]; simp) ?_
    walk_at "go"
    refine w_lenX (.inl (sql hp)) ?_
    refine w_nil ?_
    refine ⟨_, rfl, by omega, by omega, ?_⟩
    rw [Int.toNat_natCast]
    refine z_for_range (fun i σ' H' => Ext [] H H' ∧ ∃ v, σ' = [some (.ref p), some (.ref q), none, v]) ⟨Ext.refl, _, rfl⟩ ?_ ?_
    · rintro N i σ' H1 hi ⟨e1, v, rfl⟩ hN
      walk_at "go"; walk_at "if"
      obtain ⟨x, hx⟩ : ∃ d, xs[i]? = some d := ⟨_, List.getElem?_eq_getElem (by omega)⟩
      obtain ⟨y, hy, hs⟩ := paired_at hw hx
      refine w_ixA (.inl (sql (e1.keep _ _ hp List.not_mem_nil))) (at_nat0 hx) ?_
      walk_at "go"
      refine w_ixA (.inl (sql (e1.keep _ _ hq List.not_mem_nil))) (at_nat0 hy) ?_
      walk_at "go"
      refine w_sp2 ⟨⟨U, hs.ext e1⟩, fun H2 e2 => ?_⟩
      walk_at "go"
      exact hN _ _ ⟨e1.trans e2, _, rfl⟩
    · rintro σ' H1 ⟨e1, v, rfl⟩
      walk_at "go"
      exact k _ e1
  · obtain ⟨kvs, ks, hp, mp⟩ := hp
    obtain ⟨kvs', ks', hq, mq⟩ := hq
    have ta := TyX.base (K := K) (.dT hp)
    have tb := TyX.base (K := K) (.dT hq)
    walk_at "go"; walk_at "if"
    refine w_f rfl ?_; walk_at "go"; walk_at "if"
    refine w_isi (k := false) (.ty _) ta (kit_ty (by decide +kernel)) ?_
    walk_at "go"
    refine w_isi (k := false) (.ty _) tb (kit_ty (by decide +kernel)) ?_
    walk_at "go"; walk_at "if"
    refine w_isi (k := false) (.ty _) ta (kit_ty (by decide +kernel)) ?_
    walk_at "go"; walk_at "if"
    refine w_isi (k := false) (.ty _) ta (kit_ty (by decide +kernel)) ?_
    walk_at "go"; walk_at "if"
    refine w_isi (k := true) (.ty _) ta (kit_ty (by decide +kernel)) ?_
    walk_at "go"; walk_at "if"
    refine w_isi (k := true) (.ty _) tb (kit_ty (by decide +kernel)) ?_
    walk_at "go"
    refine w_lenXT hp ?_
    walk_at "go"
    refine w_lenXT hq ?_
    walk_at "go"
    have lk : kvs.length = kvs'.length := by rw [mp.len, mq.len]; exact (mp.perm mq).length_eq
    refine w_f (by rw [lk]; simp) ?_
    walk_at "go"
    refine w_lock hp trivial (fun z => z) fun od H1 L => ?_
    walk_at "go"
    refine w_keysT rfl L.at ?_
    have dp1 : DR U H1 p f := DR.lk ⟨kvs, ks, .inl hp, mp⟩ L
    have dq1 : DR U H1 q f := DR.lk ⟨kvs', ks', .inl hq, mq⟩ L
    refine z_for_keysT mp (fun i σ' H' => Ext [] H1 H' ∧ ∃ v, σ' = [some (.ref p), some (.ref q), v, none]) ⟨Ext.refl, _, rfl⟩ (fun i σ' H' _ ⟨e, _⟩ => e.imm _ _ L.at trivial) ?_ ?_
    · rintro N i sl d b σ' H2 hi hf hb ⟨e2, v, rfl⟩ hN
      have dp2 := dp1.ext e2 List.not_mem_nil
      have dq2 := dq1.ext e2 List.not_mem_nil
      walk_at "go"; walk_at "if"
      refine w_dinT dq2 hb fun o ho => ?_
      rw [ho, hf]
      walk_at "go"
      refine w_f rfl ?_
      walk_at "go"
      refine w_dgetT dp2 hb hf fun x ix => ?_
      walk_at "go"
      refine w_dgetT dq2 hb hf fun y iy => ?_
      walk_at "go"
      refine w_sp2 ⟨⟨U, Sm.im (d := d) (hw _ _ hf) ix iy⟩, fun H3 e3 => ?_⟩
      walk_at "go"
      exact hN _ _ ⟨e2.trans e3, _, rfl⟩
    · rintro σ' H2 ⟨e2, v, rfl⟩
      refine w_unlock L e2 fun H3 e3 _ => ?_
      walk_at "go"
      have dp3 : DR U H3 p f := (DM.dr ⟨kvs, ks, hp, mp⟩).ext e3 List.not_mem_nil
      have dq3 : DR U H3 q f := (DM.dr ⟨kvs', ks', hq, mq⟩).ext e3 List.not_mem_nil
      refine w_sortT dp3 fun p1 bs1 ts1 H4 e4 n4 h4 s4 nd4 m4 z4 o4 => ?_
      walk_at "go"
      refine w_sortT (dq3.ext e4 List.not_mem_nil) fun p2 bs2 ts2 H5 e5 n5 h5 s5 nd5 m5 z5 o5 => ?_
      have et : ts1 = ts2 := sorted_uniq ((List.perm_ext_iff_of_nodup nd4 nd5).mpr fun s => by rw [m4, m5]) o4 o5
      subst et
      walk_at "go"
      refine w_sp2 ⟨⟨U, ?_⟩, fun H6 e6 => k _ (((e3.trans e4).trans e5).trans e6)⟩
      have s4' := s4.ext e5
      have lb : (bs1.map V.ref).length ≤ 1000 := by
        rw [List.length_map, paired_len s4]; omega
      cases n with
      | zero => omega
      | succ n => exact .inr (.inl ⟨p1, p2, _, _, rfl, rfl, e5.keep _ _ h4 List.not_mem_nil, h5, lb, sm_slots (by omega) s4' s5⟩)

def sp_law_same (K : PySem.W.Frag) : Sp := sp_same 7 K
theorem ok_law_same (T : Txt K mg) : FnOk P w K mg base CX0 7 T.f__law_same T.d__law_same ["one", "other"] (sp_law_same K) :=
  step_same T 6 6 (step_same T 5 5 (step_same T 4 4 (step_same T 3 3 (step_same T 2 2 (step_same T 1 1 (step_same T 0 0 (ok_same_no T)))))))
theorem w_same {H : Hp} {U : List Zk.Slot} {a b : V} {Q : VK} {E : XK} (h : Sm U 7 H a b) (k : ∀ H', Ext [] H H' → Q (.bl true) H') : sp_law_same K ([a, b] ++ []) H Q E := ⟨_, _, rfl, ⟨U, h⟩, k⟩

theorem dm_unlk {U : List Zk.Slot} {H0 H1 H3 H4 : Hp} {M : List Addr} {d D : Addr} {u : HO} {od : Obj} {f : Fd} (L : Lk d u od H0 H1) (e : Ext M H1 H3) (kp : ∀ b o, H3 b = some o → b ≠ d → H4 b = some o) (n : D ≠ d) (h : DM U H3 D f) : DM U H4 D f := by
  obtain ⟨kv3, ks3, h3, m3⟩ := h
  refine ⟨kv3, ks3, kp D _ h3 n, m3.keys, m3.nd, m3.sub, fun s => ?_⟩
  have v3 := m3.val s
  revert v3
  cases valV kv3 (sKey s) <;> cases f s <;> intro v3
  · exact v3
  · exact v3
  · exact v3
  · refine Im.go (fun a xs h => kp a _ h fun z => ?_) _ _ v3
    subst z
    have := e.imm _ _ L.at trivial
    rw [h] at this; cases this
/-! ### copies -/
def sp_law_copy (K : PySem.W.Frag) : Sp := sp1 fun a H Q => ∃ (U : List Zk.Slot) (p : Addr) (f : Fd), a = .ref p ∧ U.length ≤ 1000 ∧ DM U H p f ∧ ∀ r H', Ext [] H H' → H r = none → DM U H' r f → Q (.ref r) H'
theorem ok_law_copy (T : Txt K mg) : FnOk P w K mg base CX0 1 T.f__law_copy T.d__law_copy ["row"] (sp_law_copy K) := by
  refine T.F__law_copy.ok sc_law_copy len1 (fun cdv A outer s H vs Q E hr h => ?_)
  have nd := sc_law_copy.nd
  have hu := hu_of hr
  obtain ⟨_, rfl, U, p, f, rfl, hU, hf, k⟩ := h
  refine ⟨_,
      (pss_cons (ps_set (i := 1) nd rfl (Or.inl rfl) pe_dnewTZ) 
      (pss_cons (ps_lock (ps_for PassesOwn.never rfl (pi_keys (pv 0)) (pg_name (i := 2) nd rfl (Or.inl rfl)) 
        (pss_one (ps_dput hu (pv 1) (pv 2) (pe_dget hu (pv 0) (pv 2) (fun _ _ => rfl)) rfl)))) 
      (pss_one (ps_ret (pv 1))))), ?_⟩
  change (_ : TS) _ [some _, none, none] _
  try dsimp only [cxOf, Cx.nox, Cx.wish]
  walk_at "go"
  refine w_alc fun D H1 e1 n1 h1 => ?_
  have hf1 := hf.ext e1 List.not_mem_nil
  obtain ⟨kvs, ks, hp, mp⟩ := id hf1
  walk_at "go"
  refine w_lock hp trivial (fun z => z) fun od H2 L => ?_
  walk_at "go"
  have npD : D ≠ p := (hf.ne n1).symm
  refine w_keysT rfl L.at ?_
  have f2 := hf1.dr.lk L
  have h2 := L.keep h1 npD
  refine z_for_keysT mp (fun i σ' H' => Ext [D] H2 H' ∧ DM U H' D (resF (ks.take i) f) ∧ ∃ u, σ' = [some (.ref p), some (.ref D), u]) ⟨Ext.refl, by rw [List.take_zero, resF_nil]; exact DM.nil h2, _, rfl⟩ (fun i σ' H' _ ⟨e, _⟩ => e.imm _ _ L.at trivial) ?_ ?_
  · rintro N i s d b σ' H3 hi hd hb ⟨e3, hD, u, rfl⟩ hN
    have f3 := f2.ext e3 (nm1 npD.symm)
    walk_at "go"
    refine w_dgetT f3 hb hd fun v iv => ?_
    walk_at "go"
    refine w_dputT hU hD hb (mp.sub _ (List.mem_of_getElem? hi)) iv fun H5 e5 h5 => ?_
    refine hN _ _ ⟨e3.trans e5, ?_, _, rfl⟩
    rw [resF_put (F := f) hd] at h5
    rw [take_snoc hi]; exact h5
  · rintro σ' H3 ⟨e3, hD, u, rfl⟩
    rw [List.take_length, resF_all fun s ns => Option.not_isSome_iff_eq_none.mp fun z => ns (mp.mem.mpr z)] at hD
    refine w_unlock L e3 fun H4 e4 kp => ?_
    walk_at "go"
    exact k D H4 (e1.dropq e4 n1) n1 (dm_unlk L e3 kp npD hD)
theorem w_copy {H : Hp} {U : List Zk.Slot} {p : Addr} {f : Fd} {Q : VK} {E : XK} (hU : U.length ≤ 1000) (hf : DM U H p f)
    (k : ∀ r H', Ext [] H H' → H r = none → DM U H' r f → Q (.ref r) H') : sp_law_copy K ([.ref p] ++ []) H Q E := ⟨_, rfl, U, p, f, rfl, hU, hf, k⟩
/-- slots whose texts are plain -/
def Pln (U : List Zk.Slot) : Prop := U.length ≤ 1000 ∧ ∀ s ∈ U, Sg s.1
theorem sD_shaped {s : Zk.Slot} (h : Sg s.1) : SeqAt.shaped (sD s) = true := by
  unfold SeqAt.shaped
  rw [sD_depth]
  have := h.ok
  simp [sD, PyData.canLay0, PyData.canLayAll0]
  exact this
def sp_law_without (K : PySem.W.Frag) : Sp := sp2 fun a b H Q => ∃ (U : List Zk.Slot) (p q : Addr) (f : Fd) (s : Zk.Slot), a = .ref p ∧ b = .ref q ∧ Pln U ∧ s ∈ U ∧ H q = some (.tup (sVs s)) ∧ DM U H p f ∧ Stt f ∧ ∀ r f' H', Ext [] H H' → H r = none → DM U H' r f' → Stt f' → Q (.ref r) H'
theorem ok_law_without (T : Txt K mg) : FnOk P w K mg base CX0 1 T.f__law_without T.d__law_without ["row", "gone"] (sp_law_without K) := by
  refine T.F__law_without.ok sc_law_without len2 (fun cdv A outer s H vs Q E hr h => ?_)
  have nd := sc_law_without.nd
  have hu := hu_of hr
  obtain ⟨_, _, rfl, U, p, q, f, s0, rfl, rfl, ⟨hU, hS⟩, m0, hq, hf, sf, k⟩ := h
  refine ⟨_,
      (pss_cons (ps_set (i := 2) nd rfl (Or.inl rfl) pe_dnewTZ) 
      (pss_cons (ps_lock (ps_for PassesOwn.never rfl (pi_keys (pv 0)) (pg_name (i := 3) nd rfl (Or.inl rfl)) 
        (pss_one (ps_if (pt_cmpR (op_neD hr.units) (pv 3) (pv 1) (nomark _)) 
          (pss_one (ps_dput hu (pv 2) (pv 3) (pe_dget hu (pv 0) (pv 3) (fun _ _ => rfl)) rfl)) pss_nil)))) 
      (pss_one (ps_ret (pv 2))))), ?_⟩
  change (_ : TS) _ [some _, some _, none, none] _
  try dsimp only [cxOf, Cx.nox, Cx.wish]
  walk_at "go"
  refine w_alc fun D H1 e1 n1 h1 => ?_
  have hf1 := hf.ext e1 List.not_mem_nil
  obtain ⟨kvs, ks, hp, mp⟩ := id hf1
  walk_at "go"
  refine w_lock hp trivial (fun z => z) fun od H2 L => ?_
  walk_at "go"
  have npD : D ≠ p := (hf.ne n1).symm
  refine w_keysT rfl L.at ?_
  have f2 := hf1.dr.lk L
  have h2 := L.keep h1 npD
  have hq2 := L.tup (e1.tup hq)
  refine z_for_keysT mp (fun i σ' H' => Ext [D] H2 H' ∧ (∃ f', DM U H' D f' ∧ Stt f') ∧ ∃ u, σ' = [some (.ref p), some (.ref q), some (.ref D), u]) ⟨Ext.refl, ⟨_, DM.nil h2, stt_none⟩, _, rfl⟩ (fun i σ' H' _ ⟨e, _⟩ => e.imm _ _ L.at trivial) ?_ ?_
  · rintro N i s d b σ' H3 hi hd hb ⟨e3, ⟨f', hD, st⟩, u, rfl⟩ hN
    have f3 := f2.ext e3 (nm1 npD.symm)
    have sU := mp.sub _ (List.mem_of_getElem? hi)
    walk_at "go"; walk_at "if"
    refine w_neD (im_slot hb) (im_slot (e3.tup hq2)) (sD_shaped (hS _ sU)) (sD_shaped (hS _ m0)) ?_
    refine w_bl ?_
    refine w_nb (fun z => ?_) fun z => ?_
    · walk_at "go"
      refine w_dgetT f3 hb hd fun v iv => ?_
      walk_at "go"
      refine w_dputT hU hD hb sU iv fun H5 e5 h5 => ?_
      exact hN _ _ ⟨e3.trans e5, ⟨_, h5, stt_put st (sf s d hd)⟩, _, rfl⟩
    · walk_at "go"
      exact hN _ _ ⟨e3, ⟨_, hD, st⟩, _, rfl⟩
  · rintro σ' H3 ⟨e3, ⟨f', hD, st⟩, u, rfl⟩
    refine w_unlock L e3 fun H4 e4 kp => ?_
    walk_at "go"
    exact k D f' H4 (e1.dropq e4 n1) n1 (dm_unlk L e3 kp npD hD) st

theorem resF_memx {l : List Zk.Slot} {F : Fd} {s : Zk.Slot} (h : s ∈ l) : resF (l ++ [s]) F = resF l F := by
  funext t
  unfold resF
  by_cases e : t = s
  · subst e
    rw [if_pos h, if_pos (List.mem_append.mpr (.inl h))]
  · by_cases m : t ∈ l
    · rw [if_pos m, if_pos (List.mem_append.mpr (.inl m))]
    · rw [if_neg m, if_neg (fun z => (List.mem_append.mp z).elim m fun q => e (List.mem_singleton.mp q))]
/-! ### the difference of two states -/
def sp_law_between (K : PySem.W.Frag) : Sp := sp2 fun a b H Q => ∃ (U : List Zk.Slot) (p q : Addr) (f g : Fd), a = .ref p ∧ b = .ref q ∧ U.length ≤ 1000 ∧ DM U H p f ∧ DM U H q g ∧ Stt f ∧ Stt g ∧ ∀ r H', Ext [] H H' → H r = none → DM U H' r (btwF f g) → Q (.ref r) H'
theorem ok_law_between (T : Txt K mg) : FnOk P w K mg base CX0 1 T.f__law_between T.d__law_between ["one", "other"] (sp_law_between K) := by
  refine T.F__law_between.ok sc_law_between len2 (fun cdv A outer s H vs Q E hr h => ?_)
  have nd := sc_law_between.nd
  have hu := hu_of hr
  obtain ⟨_, _, rfl, U, p, q, f, g, rfl, rfl, hU, hf, hg, sf, sg, k⟩ := h
  refine ⟨_,
      (pss_cons (ps_set (i := 2) nd rfl (Or.inl rfl) pe_dnewTZ) 
      (pss_cons (ps_lock (ps_for PassesOwn.never rfl (pi_keys (pv 0)) (pg_name (i := 3) nd rfl (Or.inl rfl)) 
        (pss_one (ps_if (PW.pt (pw_or (pt_cmp (pc_dnotin hu (pv 3) (pv 1))) (pw_or1 (pt_cmpR (op_neD hr.units) (pe_dget hu (pv 0) (pv 3) (fun _ _ => rfl)) (pe_dget hu (pv 1) (pv 3) (fun _ _ => rfl)) (nomark _))))) 
          (pss_one (ps_dput hu (pv 2) (pv 3) (pe_tupZ (pa_cons (pe_dget hu (pv 0) (pv 3) (fun _ _ => rfl)) (pa_cons (pe_ifExp (pt_cmp (pc_din hu (pv 3) (pv 1))) (pe_dget hu (pv 1) (pv 3) (fun _ _ => rfl)) pe_non) pa_nil))) rfl)) pss_nil)))) 
      (pss_cons (ps_lock (ps_for PassesOwn.never rfl (pi_keys (pv 1)) (pg_name (i := 3) nd rfl (Or.inl rfl)) 
        (pss_one (ps_if (pt_cmp (pc_dnotin hu (pv 3) (pv 0))) 
          (pss_one (ps_dput hu (pv 2) (pv 3) (pe_tupZ (pa_cons pe_non (pa_cons (pe_dget hu (pv 1) (pv 3) (fun _ _ => rfl)) pa_nil))) rfl)) pss_nil)))) 
      (pss_one (ps_ret (pv 2)))))), ?_⟩
  change (_ : TS) _ [some _, some _, none, none] _
  try dsimp only [cxOf, Cx.nox, Cx.wish]
  walk_at "go"
  refine w_alc fun D H1 e1 n1 h1 => ?_
  have hf1 := hf.ext e1 List.not_mem_nil
  have hg1 := hg.ext e1 List.not_mem_nil
  obtain ⟨kvs, ks, hp, mp⟩ := id hf1
  walk_at "go"
  refine w_lock hp trivial (fun z => z) fun od H2 L => ?_
  walk_at "go"
  have npD : D ≠ p := (hf.ne n1).symm
  have nqD : D ≠ q := (hg.ne n1).symm
  refine w_keysT rfl L.at ?_
  have f2 := hf1.dr.lk L
  have g2 := hg1.dr.lk L
  have h2 := L.keep h1 npD
  refine z_for_keysT mp (fun i σ' H' => Ext [D] H2 H' ∧ DM U H' D (resF (ks.take i) (btwF f g)) ∧ ∃ u, σ' = [some (.ref p), some (.ref q), some (.ref D), u]) ⟨Ext.refl, by rw [List.take_zero, resF_nil]; exact DM.nil h2, _, rfl⟩ (fun i σ' H' _ ⟨e, _⟩ => e.imm _ _ L.at trivial) ?_ ?_
  · rintro N i s d b σ' H3 hi hd hb ⟨e3, hD, u, rfl⟩ hN
    have f3 := f2.ext e3 (nm1 npD.symm)
    have g3 := g2.ext e3 (nm1 nqD.symm)
    have sU := mp.sub _ (List.mem_of_getElem? hi)
    have odf : oD (f s) = d := by rw [hd]; rfl
    walk_at "go"; walk_at "if"
    refine w_dinT g3 hb fun o ho => ?_
    rw [ho]
    refine w_bl ?_
    cases hgs : g s with
    | none =>
      have im0 : ∀ {H5 : Hp} {x : V} {t : Addr}, Im H5 x d → H5 t = some (.tup [x, .non]) → Im H5 (.ref t) (.tuple [oD (f s), oD (g s)]) := fun i h => .tup h (show 2 ≤ 1000 by decide) (.cons (by rw [odf]; exact i) (.cons (by rw [hgs]; exact .non) .nil))
      have ne : f s ≠ g s := by rw [hd, hgs]; exact fun z => nomatch z
      refine w_nb (fun z => ?_) (fun z => by cases z)
      walk_at "go"
      refine w_dgetT f3 hb hd fun v iv => ?_
      walk_at "go"; walk_at "ife"
      refine w_dinT g3 hb fun o ho => ?_
      rw [ho, hgs]
      refine w_bl ?_
      refine w_f rfl ?_
      walk_at "go"
      refine ⟨sz (by show 2 ≤ _; decide), w_alc fun t H4 e4 n4 h4 => ?_⟩
      walk_at "go"
      refine w_dputT hU (hD.ext e4 List.not_mem_nil) (e4.tup hb) sU (im0 (iv.ext e4) h4) fun H5 e5 h5 => ?_
      refine hN _ _ ⟨(e3.trans e4.up).trans e5, ?_, _, rfl⟩
      rw [resF_put (F := btwF f g) (btw_ne ne)] at h5
      rw [take_snoc hi]; exact h5
    | some c =>
      have odg : oD (g s) = c := by rw [hgs]; rfl
      refine w_nb (fun z => by cases z) (fun z => ?_)
      walk_at "go"
      refine w_dgetT f3 hb hd fun v iv => ?_
      walk_at "go"
      refine w_dgetT g3 hb hgs fun v' iv' => ?_
      have s1 := (sf s).shaped
      have s2 := (sg s).shaped
      rw [odf] at s1
      rw [odg] at s2
      refine w_neD iv iv' s1 s2 ?_
      refine w_bl ?_
      have hq := (sf s).eqv (sg s)
      rw [odf, odg] at hq
      refine w_nb (fun z => ?_) fun z => ?_
      · have ne : f s ≠ g s := fun y => Bool.noConfusion ((hq.mpr y).symm.trans z)
        walk_at "go"
        refine w_dgetT f3 hb hd fun v iv => ?_
        walk_at "go"; walk_at "ife"
        refine w_dinT g3 hb fun o ho => ?_
        rw [ho, hgs]
        refine w_bl ?_
        refine w_t rfl ?_
        walk_at "go"
        refine w_dgetT g3 hb hgs fun v' iv' => ?_
        walk_at "go"
        refine ⟨sz (by show 2 ≤ _; decide), w_alc fun t H4 e4 n4 h4 => ?_⟩
        walk_at "go"
        have im : Im H4 (.ref t) (.tuple [oD (f s), oD (g s)]) := .tup h4 (show 2 ≤ 1000 by decide) (.cons (by rw [odf]; exact iv.ext e4) (.cons (by rw [odg]; exact iv'.ext e4) .nil))
        refine w_dputT hU (hD.ext e4 List.not_mem_nil) (e4.tup hb) sU im fun H5 e5 h5 => ?_
        refine hN _ _ ⟨(e3.trans e4.up).trans e5, ?_, _, rfl⟩
        rw [resF_put (F := btwF f g) (btw_ne ne)] at h5
        rw [take_snoc hi]; exact h5
      · walk_at "go"
        refine hN _ _ ⟨e3, ?_, _, rfl⟩
        rw [take_snoc hi, resF_skip (F := btwF f g) (btw_eq (hq.mp z))]
        exact hD
  · rintro σ' H3 ⟨e3, hD, u, rfl⟩
    rw [List.take_length] at hD
    refine w_unlock L e3 fun H4 e4 kp => ?_
    have D4 := dm_unlk L e3 kp npD hD
    have f4 := hf1.ext e4 (nm1 npD.symm)
    have g4 := hg1.ext e4 (nm1 nqD.symm)
    obtain ⟨kvs', ks', hq, mq⟩ := id g4
    walk_at "go"
    refine w_lock hq trivial (fun z => z) fun od' H5 L' => ?_
    walk_at "go"
    refine w_keysT rfl L'.at ?_
    have f5 := f4.dr.lk L'
    have g5 := g4.dr.lk L'
    have D5 := D4.lk L' nqD
    refine z_for_keysT mq (fun i σ' H' => Ext [D] H5 H' ∧ DM U H' D (resF (ks ++ ks'.take i) (btwF f g)) ∧ ∃ u, σ' = [some (.ref p), some (.ref q), some (.ref D), u]) ⟨Ext.refl, by rw [List.take_zero, List.append_nil]; exact D5, _, rfl⟩ (fun i σ' H' _ ⟨e, _⟩ => e.imm _ _ L'.at trivial) ?_ ?_
    · rintro N i s d b σ' H6 hi hd hb ⟨e6, hD6, u, rfl⟩ hN
      have f6 := f5.ext e6 (nm1 npD.symm)
      have g6 := g5.ext e6 (nm1 nqD.symm)
      have sU := mq.sub _ (List.mem_of_getElem? hi)
      walk_at "go"; walk_at "if"
      refine w_dinT f6 hb fun o ho => ?_
      rw [ho]
      refine w_bl ?_
      refine w_nb (fun z => ?_) fun z => ?_
      · have fs : f s = none := Option.not_isSome_iff_eq_none.mp (by rw [z]; exact fun y => nomatch y)
        have ne : f s ≠ g s := by rw [fs, hd]; exact fun z => nomatch z
        walk_at "go"
        refine w_dgetT g6 hb hd fun v iv => ?_
        walk_at "go"
        refine ⟨sz (by show 2 ≤ _; decide), w_alc fun t H7 e7 n7 h7 => ?_⟩
        walk_at "go"
        have im : Im H7 (.ref t) (.tuple [oD (f s), oD (g s)]) := .tup h7 (show 2 ≤ 1000 by decide) (.cons (by rw [fs]; exact .non) (.cons (by rw [hd]; exact iv.ext e7) .nil))
        refine w_dputT hU (hD6.ext e7 List.not_mem_nil) (e7.tup hb) sU im fun H8 e8 h8 => ?_
        refine hN _ _ ⟨(e6.trans e7.up).trans e8, ?_, _, rfl⟩
        rw [resF_put (F := btwF f g) (btw_ne ne)] at h8
        rw [take_snoc hi, ← List.append_assoc]; exact h8
      · walk_at "go"
        refine hN _ _ ⟨e6, ?_, _, rfl⟩
        rw [take_snoc hi, ← List.append_assoc, resF_memx (List.mem_append.mpr (.inl (mp.mem.mpr z)))]
        exact hD6
    · rintro σ' H6 ⟨e6, hD6, u, rfl⟩
      rw [List.take_length, resF_all fun s ns => ?_] at hD6
      · refine w_unlock L' e6 fun H7 e7 kp' => ?_
        walk_at "go"
        exact k D H7 ((e1.dropq e4 n1).dropq e7 n1) n1 (dm_unlk L' e6 kp' nqD hD6)
      · refine btw_eq ?_
        have a : ¬ (f s).isSome = true := fun z => ns (List.mem_append.mpr (.inl (mp.mem.mpr z)))
        have b : ¬ (g s).isSome = true := fun z => ns (List.mem_append.mpr (.inr (mq.mem.mpr z)))
        rw [Option.not_isSome_iff_eq_none.mp a, Option.not_isSome_iff_eq_none.mp b]
theorem w_lbetween {H : Hp} {U : List Zk.Slot} {p q : Addr} {f g : Fd} {Q : VK} {E : XK} (hU : U.length ≤ 1000) (hf : DM U H p f) (hg : DM U H q g) (sf : Stt f) (sg : Stt g)
    (k : ∀ r H', Ext [] H H' → H r = none → DM U H' r (btwF f g) → Q (.ref r) H') : sp_law_between K ([.ref p, .ref q] ++ []) H Q E := ⟨_, _, rfl, U, p, q, f, g, rfl, rfl, hU, hf, hg, sf, sg, k⟩

/-! ### names -/
def sgn : Str := Str.ofString "abcdefghijklmnopqrstuvwxyz0123456789"
theorem sgn_len : sgn.cps.toList.length = 36 := by decide +kernel
theorem sgn_ok : ∀ c ∈ sgn.cps.toList, c < 128 := by decide +kernel
theorem sgn_at {r : Int} (h0 : 0 ≤ r) (h1 : r < 36) : ∃ c, atI sgn.cps.toList r = some c ∧ c < 128 := by
  obtain ⟨c, hc, hm⟩ := at_some (xs := sgn.cps.toList) (r := r) h0 (by rw [sgn_len]; exact h1)
  exact ⟨c, hc, sgn_ok c (List.mem_of_getElem? hm)⟩
def sp_law_name (K : PySem.W.Frag) : Sp := sp1 fun a H Q => ∃ (p : Addr), a = .ref p ∧ PoolAt K H p ∧ ∀ (z : Str) H', z.length ≤ 12 → Sg z → Ext [p] H H' → PoolAt K H' p → Q (.str z) H'
theorem ok_law_name (T : Txt K mg) : FnOk P w K mg base CX0 5 T.f__law_name T.d__law_name ["pool"] (sp_law_name K) := by
  refine T.F__law_name.ok sc_law_name len1 (fun cdv A outer s H vs Q E hr h => ?_)
  have nd := sc_law_name.nd
  have hu := hu_of hr
  obtain ⟨_, rfl, p, rfl, hP, k⟩ := h
  refine ⟨_,
      (pss_cons (ps_set (i := 1) nd rfl (Or.inr rfl) pe_str) 
      (pss_cons (ps_set (i := 2) nd rfl (Or.inl rfl) (pe_ix ix_str (pv 1) (pe_call (ok_law_draw T) (hr.mono (by decide)) (by rfl) T.g__law_draw T.F__law_draw.kp T.k__law_draw .nil pass0 (pa_cons (pv 0) (pa_cons pe_int pa_nil))) (fun _ _ => rfl))) 
      (pss_one (ps_ret (pe_op zop_addS (pv 2) (zpe_join pe_str (pe_lc (own := [("k", 3)]) rfl nd (pi_range1 (by rfl) T.b_range (pa_cons (pe_call (ok_law_pick T) (hr.mono (by decide)) (by rfl) T.g__law_pick T.F__law_pick.kp T.k__law_pick .nil pass0 (pa_cons (pv 0) (pa_cons (pe_lstZ (pa_cons pe_int (pa_cons pe_int (pa_cons pe_int (pa_cons pe_int (pa_cons pe_int (pa_cons pe_int pa_nil))))))) pa_nil))) pa_nil)) (blkOk_by (own := [("k", 3)]) (N := ["pool", "signs", "first", "k"]) (sc := defScope s_law_name) (by decide +kernel)) (fun _ _ _ _ _ => (pg_name (i := 3) nd rfl (Or.inl rfl))) (fun _ _ _ _ _ => pts_nil) (fun _ _ _ _ _ => (pe_ix ix_str (pv 1) (pe_call (ok_law_draw T) (hr.mono (by decide)) (by rfl) T.g__law_draw T.F__law_draw.kp T.k__law_draw .nil pass0 (pa_cons (pv 0) (pa_cons pe_int pa_nil))) (fun _ _ => rfl)))))))))), ?_⟩
  change (_ : TS) _ [some _, none, none, none] _
  try dsimp only [cxOf, Cx.nox, Cx.wish]
  walk_at "go"
  refine w_draw hP (by decide) (by decide) fun d H1 a0 a1 e1 P1 => ?_
  obtain ⟨c, hc, c1⟩ := sgn_at a0 (by omega)
  refine w_ixS (sz (by decide +kernel)) hc ?_
  walk_at "go"
  refine ⟨sz (by show 6 ≤ _; decide), w_alc fun o H2 e2 n2 h2 => ?_⟩
  walk_at "go"
  have P2 := P1.ext e2 List.not_mem_nil
  refine w_pick P2 h2 (P1.ne n2).symm (by decide) (by decide) fun v H3 hv e3 P3 => ?_
  obtain ⟨n, rfl, n0, n1⟩ : ∃ n : Int, v = .int n ∧ 0 ≤ n ∧ n ≤ 11 := by
    simp only [List.mem_cons, List.not_mem_nil, or_false] at hv
    rcases hv with rfl | rfl | rfl | rfl | rfl | rfl <;> exact ⟨_, rfl, by decide, by decide⟩
  walk_at "go"
  have e03 : Ext [p] H H3 := (e1.trans e2.up).trans e3
  refine ⟨_, rfl, by omega, by omega, fun D nD => ?_⟩
  refine z_lc_range (lo := 0) (fun i acc H' => Ext [p] H3 H' ∧ PoolAt K H' p ∧ ∃ ss : List Str, acc = ss.map V.str ∧ ss.length = i ∧ (ss.map (·.length)).sum = i ∧ ∀ y ∈ ss, Sg y) nD (fun H' e => ⟨e.up, P3.ext e List.not_mem_nil, [], rfl, rfl, rfl, fun _ m => nomatch m⟩) ?_ ?_
  · rintro Nx i acc H4 hi ⟨e4, P4, ss, rfl, hl, hs, hg⟩ hD hN
    walk_at "go"
    refine ⟨rfl, ?_⟩
    walk_at "go"
    refine w_draw P4 (by decide) (by decide) fun u H5 d0 d1 e5 P5 => ?_
    walk_at "go"
    obtain ⟨c', hc', c2⟩ := sgn_at d0 (by omega)
    refine w_ixS (sz (by decide +kernel)) hc' ?_
    have nDp : D ≠ p := (P3.ne nD).symm
    refine w_app (e5.keep _ _ hD (nm1 nDp)) (szl (by rw [List.length_map]; omega)) fun H6 e6 hD6 => ?_
    refine hN _ _ ⟨(e4.trans e5).dropq e6 nD, P5.ext e6 (nm1 nDp.symm), ss ++ [⟨#[c']⟩], by rw [List.map_append]; rfl, by rw [List.length_append, hl]; rfl, ?_, fun y m => ?_⟩ hD6
    · rw [List.map_append, List.sum_append, hs]
      rfl
    · rcases List.mem_append.mp m with m | m
      · exact hg y m
      · rw [List.mem_singleton.mp m]; exact Sg.one c2
  · rintro acc H4 ⟨e4, P4, ss, rfl, hl, hs, hg⟩ hD
    refine w_join (ys := ss) (sql hD) (by rw [hs, hl, show (Str.ofString "").length = 0 from by decide]; omega) ?_
    have l3 : (Txt.join (Str.ofString "") ss).length = n.toNat := by
      rw [str_len_join (by decide), hs]
    have l2 : (⟨#[c]⟩ : Str).length = 1 := rfl
    refine w_addS (sz (by omega)) ?_
    exact k _ _ (by rw [str_len_append]; omega) ((Sg.one c1).app (Sg.join Sg.empty hg)) (e03.trans e4) P4
theorem w_name {H : Hp} {p : Addr} {Q : VK} {E : XK} (hP : PoolAt K H p) (k : ∀ (z : Str) H', z.length ≤ 12 → Sg z → Ext [p] H H' → PoolAt K H' p → Q (.str z) H') : sp_law_name K ([.ref p] ++ []) H Q E := ⟨_, rfl, p, rfl, hP, k⟩
/-! ### cells -/
theorem cells_snoc {d : PyData} : ∀ {i : Nat} {ds : List PyData}, Cells i ds → Cell (i + ds.length) d → Cells i (ds ++ [d])
  | i, [], _, h => ⟨h, trivial⟩
  | i, x :: ds, h, k => ⟨h.1, cells_snoc h.2 (by rw [show i + 1 + ds.length = i + (x :: ds).length from by rw [List.length_cons]; omega]; exact k)⟩
theorem cell_non : ∀ {i : Nat}, i < 4 → Cell i .none
  | 0, _ => .inl rfl
  | 1, _ => .inl rfl
  | 2, _ => .inl rfl
  | 3, _ => .inl rfl
  | _ + 4, h => by omega
theorem cell_of {H : Hp} {n a b : Int} {z : Str} {k : Bool} {t : Addr} (hz : Sg z) (ht : H t = some (.tup [.str (Str.ofString "sealed"), .str (Str.ofString "int"), .int a, .int b])) : ∀ {i : Nat}, i < 4 → ∃ v d, ([.int n, .str z] ++ [.bl k, .ref t] : List V)[i]? = some v ∧ Cell i d ∧ Im H v d
  | 0, _ => ⟨_, _, rfl, .inr ⟨n, rfl⟩, .int n⟩
  | 1, _ => ⟨_, _, rfl, .inr ⟨z, hz, rfl⟩, .str z⟩
  | 2, _ => ⟨_, _, rfl, .inr ⟨k, rfl⟩, .bl k⟩
  | 3, _ => ⟨_, _, rfl, .inr ⟨a, b, rfl⟩, .tup ht (show 4 ≤ 1000 by decide) (.cons (.str _) (.cons (.str _) (.cons (.int _) (.cons (.int _) .nil))))⟩
  | _ + 4, h => by omega
def sp_law_cells (K : PySem.W.Frag) : Sp := sp1 fun a H Q => ∃ (p : Addr), a = .ref p ∧ PoolAt K H p ∧ ∀ q xs ds H', Ext [p] H H' → PoolAt K H' p → H' q = some (.tup xs) → xs.length ≤ 4 → ImAll H' xs ds → Cells 0 ds → Q (.ref q) H'
theorem ok_law_cells (T : Txt K mg) : FnOk P w K mg base CX0 6 T.f__law_cells T.d__law_cells ["pool"] (sp_law_cells K) := by
  refine T.F__law_cells.ok sc_law_cells len1 (fun cdv A outer s H vs Q E hr h => ?_)
  have nd := sc_law_cells.nd
  have hu := hu_of hr
  obtain ⟨_, rfl, p, rfl, hP, k⟩ := h
  refine ⟨_,
      (pss_cons (ps_set (i := 1) nd rfl (Or.inr rfl) (pe_lstZ (pa_cons (pe_op op_sub (pe_call (ok_law_draw T) (hr.mono (by decide)) (by rfl) T.g__law_draw T.F__law_draw.kp T.k__law_draw .nil pass0 (pa_cons (pv 0) (pa_cons (pe_op op_add (pe_op op_mul pe_int (pe_op op_pow pe_int pe_int)) pe_int) pa_nil))) (pe_op op_pow pe_int pe_int)) (pa_cons (pe_op zop_addS (pe_op zop_mulS pe_str (pe_call (ok_law_draw T) (hr.mono (by decide)) (by rfl) T.g__law_draw T.F__law_draw.kp T.k__law_draw .nil pass0 (pa_cons (pv 0) (pa_cons pe_int pa_nil)))) (pe_call (ok_law_name T) (hr.mono (by decide)) (by rfl) T.g__law_name T.F__law_name.kp T.k__law_name .nil pass0 (pa_cons (pv 0) pa_nil))) pa_nil)))) 
      (pss_cons (ps_set (i := 1) nd rfl (Or.inr rfl) (pe_op zop_cat (pv 1) (pe_lstZ (pa_cons (pe_cmpR op_eq (pe_call (ok_law_draw T) (hr.mono (by decide)) (by rfl) T.g__law_draw T.F__law_draw.kp T.k__law_draw .nil pass0 (pa_cons (pv 0) (pa_cons pe_int pa_nil))) pe_int (nomark _)) (pa_cons (pe_tupZ (pa_cons pe_str (pa_cons pe_str (pa_cons (pe_op op_add pe_int (pe_call (ok_law_draw T) (hr.mono (by decide)) (by rfl) T.g__law_draw T.F__law_draw.kp T.k__law_draw .nil pass0 (pa_cons (pv 0) (pa_cons pe_int pa_nil)))) (pa_cons (pe_call (ok_law_draw T) (hr.mono (by decide)) (by rfl) T.g__law_draw T.F__law_draw.kp T.k__law_draw .nil pass0 (pa_cons (pv 0) (pa_cons (pe_op op_mul pe_int (pe_op op_pow pe_int pe_int)) pa_nil))) pa_nil))))) pa_nil))))) 
      (pss_one (ps_ret (pe_callTy zc_tup (by rfl) T.b_tuple (by decide +kernel) (pa_cons (pe_lc (own := [("k", 2)]) rfl nd (pi_range1 (by rfl) T.b_range (pa_cons (pe_call (ok_law_draw T) (hr.mono (by decide)) (by rfl) T.g__law_draw T.F__law_draw.kp T.k__law_draw .nil pass0 (pa_cons (pv 0) (pa_cons pe_int pa_nil))) pa_nil)) (blkOk_by (own := [("k", 2)]) (N := ["pool", "cells", "k"]) (sc := defScope s_law_cells) (by decide +kernel)) (fun _ _ _ _ _ => (pg_name (i := 2) nd rfl (Or.inl rfl))) (fun _ _ _ _ _ => pts_nil) (fun _ _ _ _ _ => (pe_ifExp (pt_cmpR op_gt (pe_call (ok_law_draw T) (hr.mono (by decide)) (by rfl) T.g__law_draw T.F__law_draw.kp T.k__law_draw .nil pass0 (pa_cons (pv 0) (pa_cons pe_int pa_nil))) pe_int (nomark _)) (pe_ix (ix_listK (K := K) rfl) (pv 1) (pv 2) (fun _ _ => rfl)) pe_non))) pa_nil)))))), ?_⟩
  change (_ : TS) _ [some _, none, none] _
  try dsimp only [cxOf, Cx.nox, Cx.wish]
  walk_at "go"
  refine w_draw hP (by decide) (by decide) fun d H1 a0 a1 e1 P1 => ?_
  walk_at "go"
  refine w_draw P1 (by decide) (by decide) fun x H2 b0 b1 e2 P2 => ?_
  walk_at "go"
  refine w_mulS (by decide) (by omega) ?_
  walk_at "go"
  refine w_name P2 fun z H3 zl zg e3 P3 => ?_
  have lx : (Txt.mul (Str.ofString "x") x).length = x.toNat := by
    rw [str_len_mul b0, show (Str.ofString "x").length = 1 from by decide, Nat.one_mul]
  refine w_addS (sz (by omega)) ?_
  have sg : Sg (Txt.mul (Str.ofString "x") x ++ z) := (Sg.mul (fun c hc => by
    have : ∀ c ∈ (Str.ofString "x").cps.toList, c < 128 := by decide
    exact this c hc) x).app zg
  generalize Txt.mul (Str.ofString "x") x ++ z = zz at sg ⊢
  walk_at "go"
  refine ⟨sz (by show 2 ≤ _; decide), w_alc fun q1 H4 e4 n4 h4 => ?_⟩
  walk_at "go"
  refine w_draw (P3.ext e4 List.not_mem_nil) (by decide) (by decide) fun y H5 c0 c1 e5 P5 => ?_
  walk_at "go"
  refine w_draw P5 (by decide) (by decide) fun u H6 f0 f1 e6 P6 => ?_
  walk_at "go"
  refine w_draw P6 (by decide) (by decide) fun v H7 g0 g1 e7 P7 => ?_
  walk_at "go"
  refine ⟨sz (by show 4 ≤ _; decide), w_alc fun t H8 e8 n8 h8 => ?_⟩
  walk_at "go"
  refine ⟨sz (by show 2 ≤ _; decide), w_alc fun q2 H9 e9 n9 h9 => ?_⟩
  have nq1 : q1 ≠ p := (P3.ne n4).symm
  have h4' := e9.keep _ _ (e8.keep _ _ (e7.keep _ _ (e6.keep _ _ (e5.keep _ _ h4 (nm1 nq1)) (nm1 nq1)) (nm1 nq1)) List.not_mem_nil) List.not_mem_nil
  have P9 := (P7.ext e8 List.not_mem_nil).ext e9 List.not_mem_nil
  refine w_cat h4' h9 (sz (by show 2 + 2 ≤ _; decide)) (w_alc fun q3 HA eA nA hA => ?_)
  walk_at "go"
  have PA := P9.ext eA List.not_mem_nil
  have hT := eA.tup (e9.tup h8)
  have eHA : Ext [p] H HA := ((((((((e1.trans e2).trans e3).trans e4.up).trans e5).trans e6).trans e7).trans e8.up).trans e9.up).trans eA.up
  refine w_draw PA (by decide) (by decide) fun n HB m0 m1 eB PB => ?_
  walk_at "go"
  have nq3 : q3 ≠ p := (P9.ne nA).symm
  have hB := eB.keep _ _ hA (nm1 nq3)
  refine ⟨_, rfl, by omega, by omega, fun D nD => ?_⟩
  have nDp : D ≠ p := (PB.ne nD).symm
  refine z_lc_range (lo := 0) (fun i acc H' => Ext [p] HB H' ∧ PoolAt K H' p ∧ ∃ ds, ImAll H' acc ds ∧ Cells 0 ds ∧ ds.length = i) nD (fun H' e => ⟨e.up, PB.ext e List.not_mem_nil, [], .nil, trivial, rfl⟩) ?_ ?_
  · rintro Nx i acc HC hi ⟨eC, PC, ds, hia, hcs, hl⟩ hD hN
    walk_at "go"
    refine ⟨rfl, ?_⟩
    walk_at "go"
    refine w_cutE (fun v H' => Ext [p] HC H' ∧ PoolAt K H' p ∧ ∃ d, Cell i d ∧ Im H' v d) ?_ fun Q' hQ => ?_
    · rintro v HE ⟨eE, PE, d, hc, im⟩
      refine w_app (eE.keep _ _ hD (nm1 nDp)) (szl (by rw [hia.len]; omega)) fun HF eF hF => ?_
      exact hN _ _ ⟨(eC.trans eE).dropq eF nD, PE.ext eF (nm1 nDp.symm), ds ++ [d], ImAll.snoc (im.ext eF) ((hia.ext eE).ext eF), cells_snoc hcs (by rw [hl, Nat.zero_add]; exact hc), by rw [List.length_append, hl]; rfl⟩ hF
    · walk_at "ife"
      refine w_draw PC (by decide) (by decide) fun w HE w0 w1 eE PE => ?_
      walk_at "go"
      refine w_d (fun h => ?_) fun h => ?_
      · walk_at "go"
        obtain ⟨v, d, hv, hc, im⟩ := cell_of (n := d - 10 ^ 9) (z := zz) (k := decide (y = 1)) sg hT (i := i) (by omega)
        refine w_ixL (sql (eE.keep _ _ (eC.keep _ _ hB (nm1 nq3)) (nm1 nq3))) (at_nat0 hv) ?_
        exact hQ _ _ ⟨eE, PE, d, hc, ((im.ext eB).ext eC).ext eE⟩
      · walk_at "go"
        exact hQ _ _ ⟨eE, PE, _, cell_non (by omega), .non⟩
  · rintro acc HC ⟨eC, PC, ds, hia, hcs, hl⟩ hD
    walk_at "go"
    refine w_tupL (sql hD) (w_alc fun q HE eE nE hE => ?_)
    refine k q acc ds HE (((eHA.trans eB).trans eC).trans eE.up) (PC.ext eE List.not_mem_nil) hE (by rw [hia.len]; omega) (hia.ext eE) hcs
theorem w_cells {H : Hp} {p : Addr} {Q : VK} {E : XK} (hP : PoolAt K H p) (k : ∀ q xs ds H', Ext [p] H H' → PoolAt K H' p → H' q = some (.tup xs) → xs.length ≤ 4 → ImAll H' xs ds → Cells 0 ds → Q (.ref q) H') : sp_law_cells K ([.ref p] ++ []) H Q E := ⟨_, rfl, p, rfl, hP, k⟩

/-! ### contents -/
def sp_law_content (K : PySem.W.Frag) : Sp := sp2 fun a b H Q => ∃ (p q : Addr) (s : Zk.Slot), a = .ref p ∧ b = .ref q ∧ PoolAt K H p ∧ H q = some (.tup (sVs s)) ∧ ∀ v d H', Ext [p] H H' → PoolAt K H' p → Im H' v d → Cont d → Q v H'
theorem ok_law_content (T : Txt K mg) : FnOk P w K mg base CX0 7 T.f__law_content T.d__law_content ["pool", "slot"] (sp_law_content K) := by
  refine T.F__law_content.ok sc_law_content len2 (fun cdv A outer s H vs Q E hr h => ?_)
  have nd := sc_law_content.nd
  have hu := hu_of hr
  obtain ⟨_, _, rfl, p, q, s, rfl, rfl, hP, hq, k⟩ := h
  refine ⟨_,
      (pss_cons (ps_if (pt_cmpR op_gt (pe_ix ix_tup (pv 1) pe_int (fun _ _ => rfl)) pe_int (nomark _)) 
        (pss_one (ps_ret (pe_tupZ (pa_cons pe_str (pa_cons (pe_call (ok_law_draw T) (hr.mono (by decide)) (by rfl) T.g__law_draw T.F__law_draw.kp T.k__law_draw .nil pass0 (pa_cons (pv 0) (pa_cons pe_int pa_nil))) (pa_cons (pe_call (ok_law_pick T) (hr.mono (by decide)) (by rfl) T.g__law_pick T.F__law_pick.kp T.k__law_pick .nil pass0 (pa_cons (pv 0) (pa_cons (pe_lstZ (pa_cons pe_int (pa_cons pe_int (pa_cons pe_int (pa_cons (pe_op op_pow pe_int pe_int) pa_nil))))) pa_nil))) (pa_cons (pe_call (ok_law_cells T) (hr.mono (by decide)) (by rfl) T.g__law_cells T.F__law_cells.kp T.k__law_cells .nil pass0 (pa_cons (pv 0) pa_nil)) pa_nil))))))) pss_nil) 
      (pss_cons (ps_if (pt_cmpR op_eq (pe_call (ok_law_draw T) (hr.mono (by decide)) (by rfl) T.g__law_draw T.F__law_draw.kp T.k__law_draw .nil pass0 (pa_cons (pv 0) (pa_cons pe_int pa_nil))) pe_int (nomark _)) 
        (pss_one (ps_ret (pe_tupZ (pa_cons pe_str (pa_cons (pe_op op_add pe_int (pe_call (ok_law_draw T) (hr.mono (by decide)) (by rfl) T.g__law_draw T.F__law_draw.kp T.k__law_draw .nil pass0 (pa_cons (pv 0) (pa_cons pe_int pa_nil)))) pa_nil))))) pss_nil) 
      (pss_one (ps_ret (pe_tupZ (pa_cons pe_str (pa_cons (pe_call (ok_law_draw T) (hr.mono (by decide)) (by rfl) T.g__law_draw T.F__law_draw.kp T.k__law_draw .nil pass0 (pa_cons (pv 0) (pa_cons pe_int pa_nil))) (pa_cons (pe_op op_add pe_int (pe_call (ok_law_draw T) (hr.mono (by decide)) (by rfl) T.g__law_draw T.F__law_draw.kp T.k__law_draw .nil pass0 (pa_cons (pv 0) (pa_cons pe_int pa_nil)))) (pa_cons (pe_cmpR op_eq (pe_call (ok_law_draw T) (hr.mono (by decide)) (by rfl) T.g__law_draw T.F__law_draw.kp T.k__law_draw .nil pass0 (pa_cons (pv 0) (pa_cons pe_int pa_nil))) pe_int (nomark _)) (pa_cons (pe_op op_add pe_int (pe_call (ok_law_draw T) (hr.mono (by decide)) (by rfl) T.g__law_draw T.F__law_draw.kp T.k__law_draw .nil pass0 (pa_cons (pv 0) (pa_cons pe_int pa_nil)))) pa_nil)))))))))), ?_⟩
  change (_ : TS) _ [some _, some _] _
  try dsimp only [cxOf, Cx.nox, Cx.wish]
  walk_at "go"
  refine w_cut (fun σ' H' => H = H' ∧ σ' = [some (.ref p), some (.ref q)]) ?_ fun nx hn => ?_
  · rintro _ _ ⟨rfl, rfl⟩
    walk_at "go"
    refine w_cut (fun σ' H' => Ext [p] H H' ∧ PoolAt K H' p ∧ σ' = [some (.ref p), some (.ref q)]) ?_ fun nx hn => ?_
    · rintro _ H1 ⟨e1, P1, rfl⟩
      walk_at "go"
      refine w_draw P1 (by decide) (by decide) fun a H2 a0 a1 e2 P2 => ?_
      walk_at "go"
      refine w_draw P2 (by decide) (by decide) fun b H3 b0 b1 e3 P3 => ?_
      walk_at "go"
      refine w_draw P3 (by decide) (by decide) fun c H4 c0 c1 e4 P4 => ?_
      walk_at "go"
      refine w_draw P4 (by decide) (by decide) fun d H5 d0 d1 e5 P5 => ?_
      walk_at "go"
      refine ⟨sz (by show 5 ≤ _; decide), w_alc fun t H6 e6 n6 h6 => ?_⟩
      exact k _ _ _ (((((e1.trans e2).trans e3).trans e4).trans e5).trans e6.up) (P5.ext e6 List.not_mem_nil) (.tup h6 (show 5 ≤ 1000 by decide) (.cons (.str _) (.cons (.int _) (.cons (.int _) (.cons (.bl _) (.cons (.int _) .nil)))))) (.inr (.inr ⟨_, _, _, _, rfl⟩))
    · walk_at "if"
      refine w_draw hP (by decide) (by decide) fun a H2 a0 a1 e2 P2 => ?_
      walk_at "go"
      refine w_d (fun h => ?_) fun h => ?_ <;> walk_at "go"
      · refine w_draw P2 (by decide) (by decide) fun b H3 b0 b1 e3 P3 => ?_
        walk_at "go"
        refine ⟨sz (by show 2 ≤ _; decide), w_alc fun t H6 e6 n6 h6 => ?_⟩
        exact k _ _ _ ((e2.trans e3).trans e6.up) (P3.ext e6 List.not_mem_nil) (.tup h6 (show 2 ≤ 1000 by decide) (.cons (.str _) (.cons (.int _) .nil))) (.inr (.inl ⟨_, rfl⟩))
      · exact hn _ _ ⟨e2, P2, rfl⟩
  · walk_at "if"
    refine w_d (fun h => ?_) fun h => ?_ <;> walk_at "go"
    · refine w_draw hP (by decide) (by decide) fun a H2 a0 a1 e2 P2 => ?_
      walk_at "go"
      refine ⟨sz (by show 4 ≤ _; decide), w_alc fun o H3 e3 n3 h3 => ?_⟩
      walk_at "go"
      refine w_pick (P2.ext e3 List.not_mem_nil) h3 (P2.ne n3).symm (by decide) (by decide) fun v H4 hv e4 P4 => ?_
      obtain ⟨n, rfl⟩ : ∃ n : Int, v = .int n := by
        simp only [List.mem_cons, List.not_mem_nil, or_false] at hv
        rcases hv with rfl | rfl | rfl | rfl <;> exact ⟨_, rfl⟩
      walk_at "go"
      refine w_cells P4 fun t xs ds H5 e5 P5 h5 lz ia hc => ?_
      walk_at "go"
      refine ⟨sz (by show 4 ≤ _; decide), w_alc fun t2 H6 e6 n6 h6 => ?_⟩
      exact k _ _ _ ((((e2.trans e3.up).trans e4).trans e5).trans e6.up) (P5.ext e6 List.not_mem_nil) (.tup h6 (show 4 ≤ 1000 by decide) (.cons (.str _) (.cons (.int _) (.cons (.int _) (.cons (.tup (e6.tup h5) (by omega) (ia.ext e6)) .nil))))) (.inl ⟨_, _, _, hc, rfl⟩)
    · exact hn _ _ ⟨rfl, rfl⟩
theorem w_content {H : Hp} {p q : Addr} {s : Zk.Slot} {Q : VK} {E : XK} (hP : PoolAt K H p) (hq : H q = some (.tup (sVs s))) (k : ∀ v d H', Ext [p] H H' → PoolAt K H' p → Im H' v d → Cont d → Q v H') : sp_law_content K ([.ref p, .ref q] ++ []) H Q E := ⟨_, _, rfl, p, q, s, rfl, rfl, hP, hq, k⟩

/-! ### the slots that are drawn from -/
theorem slots_dp {H : Hp} {as : List Addr} {ss : List Zk.Slot} (h : SlotsAt H as ss) : DpAll K H (as.map V.ref) (ss.map sD) := by
  unfold SlotsAt at h
  induction h with
  | nil => exact .nil
  | cons h t ih => exact .cons (im_slot h).dp ih
theorem slots_shaped : ∀ {ss : List Zk.Slot}, (∀ s ∈ ss, Sg s.1) → PyData.canLayAll0 (ss.map sD) = true ∧ PyData.depthAll (ss.map sD) ≤ 1
  | [], _ => by simp [PyData.canLayAll0, PyData.depthAll]
  | s :: ss, h => by
    obtain ⟨a, b⟩ := slots_shaped fun t m => h t (List.mem_cons_of_mem _ m)
    have c := SeqAt.canLay_of_shaped (sD_shaped (h s List.mem_cons_self))
    rw [List.map_cons, PyData.canLayAll0, PyData.depthAll, a, c, sD_depth]
    exact ⟨rfl, Nat.max_le.mpr ⟨Nat.le_refl _, b⟩⟩
theorem slots_shaped' {ss : List Zk.Slot} (h : ∀ s ∈ ss, Sg s.1) : SeqAt.shaped (.list (ss.map sD)) = true := by
  obtain ⟨a, b⟩ := slots_shaped h
  unfold SeqAt.shaped
  rw [PyData.canLay0, PyData.depth, a, decide_eq_true (by omega)]
  rfl
def sp_law_universe (K : PySem.W.Frag) : Sp := sp2 fun a b H Q => ∃ (p : Addr) (mn : Int), a = .ref p ∧ b = .int mn ∧ 1 ≤ mn ∧ mn ≤ 100 ∧ PoolAt K H p ∧
  ∀ o bs ss H', Ext [p] H H' → PoolAt K H' p → H o = none → H' o = some (.lst (bs.map V.ref)) → SlotsAt H' bs ss → 1 ≤ ss.length → ss.length ≤ 101 → (∀ s ∈ ss, Sg s.1) → o ≠ p → Q (.ref o) H'
theorem ok_law_universe (T : Txt K mg) : FnOk P w K mg base CX0 6 T.f__law_universe T.d__law_universe ["pool", "many"] (sp_law_universe K) := by
  refine T.F__law_universe.ok sc_law_universe len2 (fun cdv A outer s H vs Q E hr h => ?_)
  have nd := sc_law_universe.nd
  have hu := hu_of hr
  obtain ⟨_, _, rfl, p, mn, rfl, rfl, mn1, mn2, hP, k⟩ := h
  refine ⟨_,
      (pss_cons (ps_setLc (i := 3) (own := [("k", 2)]) rfl nd rfl rfl (sw_true rfl rfl rfl (by decide +kernel)) (pi_range1 (by rfl) T.b_range (pa_cons (pe_op op_add pe_int (pe_call (ok_law_draw T) (hr.mono (by decide)) (by rfl) T.g__law_draw T.F__law_draw.kp T.k__law_draw .nil pass0 (pa_cons (pv 0) (pa_cons pe_int pa_nil)))) pa_nil)) (blkOk_by (own := [("k", 2)]) (N := ["pool", "many", "k", "names", "found", "slot"]) (sc := defScope s_law_universe) (by decide +kernel)) (fun _ _ _ _ _ => (pg_name (i := 2) nd rfl (Or.inl rfl))) (fun _ _ _ _ _ => pts_nil) (fun _ _ _ _ _ => (pe_call (ok_law_name T) (hr.mono (by decide)) (by rfl) T.g__law_name T.F__law_name.kp T.k__law_name .nil pass0 (pa_cons (pv 0) pa_nil)))) 
      (pss_cons (ps_set (i := 4) nd rfl (Or.inl rfl) (pe_lstZ pa_nil)) 
      (pss_cons (ps_for PassesOwn.never rfl (pi_range1 (by rfl) T.b_range (pa_cons (pe_op op_add pe_int (pe_call (ok_law_draw T) (hr.mono (by decide)) (by rfl) T.g__law_draw T.F__law_draw.kp T.k__law_draw .nil pass0 (pa_cons (pv 0) (pa_cons (pv 1) pa_nil)))) pa_nil)) (pg_name (i := 2) nd rfl (Or.inl rfl)) 
        (pss_cons (ps_set (i := 5) nd rfl (Or.inl rfl) (pe_tupZ (pa_cons (pe_call (ok_law_pick T) (hr.mono (by decide)) (by rfl) T.g__law_pick T.F__law_pick.kp T.k__law_pick .nil pass0 (pa_cons (pv 0) (pa_cons (pv 3) pa_nil))) (pa_cons (pe_op op_add pe_int (pe_call (ok_law_draw T) (hr.mono (by decide)) (by rfl) T.g__law_draw T.F__law_draw.kp T.k__law_draw .nil pass0 (pa_cons (pv 0) (pa_cons pe_int pa_nil)))) (pa_cons (pe_op op_add pe_int (pe_call (ok_law_draw T) (hr.mono (by decide)) (by rfl) T.g__law_draw T.F__law_draw.kp T.k__law_draw .nil pass0 (pa_cons (pv 0) (pa_cons (pe_op op_pow pe_int pe_int) pa_nil)))) pa_nil))))) 
        (pss_cons (ps_if (pt_cmpR op_eq (pe_call (ok_law_draw T) (hr.mono (by decide)) (by rfl) T.g__law_draw T.F__law_draw.kp T.k__law_draw .nil pass0 (pa_cons (pv 0) (pa_cons pe_int pa_nil))) pe_int (nomark _)) 
          (pss_one (ps_set (i := 5) nd rfl (Or.inl rfl) (pe_tupZ (pa_cons (pe_ix ix_tup (pv 5) pe_int (fun _ _ => rfl)) (pa_cons pe_int (pa_cons pe_int pa_nil)))))) pss_nil) 
        (pss_one (ps_if (pt_cmpR (op_notInD (room65 hr)) (pv 5) (pv 4) (by rfl)) 
          (pss_one (ps_expr (pe_bm PySem.F.plainAttrs_list PySem.F.slot_list_append PySem.F.type_list_append zmt_append (pv 4) (pa_cons (pv 5) pa_nil)))) pss_nil))))) 
      (pss_one (ps_ret (pv 4)))))), ?_⟩
  change (_ : TS) _ [some _, some _, none, none, none, none] _
  try dsimp only [cxOf, Cx.nox, Cx.wish]
  walk_at "go"
  refine w_draw hP (by decide) (by decide) fun n H1 n0 n1 e1 P1 => ?_
  walk_at "go"
  refine ⟨_, rfl, by omega, by omega, fun D nD => ?_⟩
  have nDp : D ≠ p := (P1.ne nD).symm
  refine z_lc_range (lo := 0) (fun i acc H' => Ext [p] H1 H' ∧ PoolAt K H' p ∧ ∃ ns : List Str, acc = ns.map V.str ∧ ns.length = i ∧ ∀ y ∈ ns, Sg y) nD (fun H' e => ⟨e.up, P1.ext e List.not_mem_nil, [], rfl, rfl, fun _ m => nomatch m⟩) ?_ ?_
  · rintro Nx i acc H2 hi ⟨e2, P2, ns, rfl, hl, hg⟩ hD hN
    walk_at "go"
    refine ⟨rfl, ?_⟩
    walk_at "go"
    refine w_name P2 fun z H3 zl zg e3 P3 => ?_
    refine w_app (e3.keep _ _ hD (nm1 nDp)) (szl (by rw [List.length_map]; omega)) fun H4 e4 h4 => ?_
    refine hN _ _ ⟨(e2.trans e3).dropq e4 nD, P3.ext e4 (nm1 nDp.symm), ns ++ [z], by rw [List.map_append]; rfl, by rw [List.length_append, hl]; rfl, fun y m => ?_⟩ h4
    rcases List.mem_append.mp m with m | m
    · exact hg y m
    · rw [List.mem_singleton.mp m]; exact zg
  · rintro acc H2 ⟨e2, P2, ns, rfl, hl, hg⟩ hD
    walk_at "go"
    refine ⟨Nat.zero_le _, w_alc fun o H3 e3 n3 h3 => ?_⟩
    walk_at "go"
    have P3 := P2.ext e3 List.not_mem_nil
    have nop : o ≠ p := (P2.ne n3).symm
    have nDo : D ≠ o := ne_of_none hD n3
    have hD3 := e3.keep _ _ hD List.not_mem_nil
    refine w_draw P3 (by omega) (by omega) fun m H4 m0 m1 e4 P4 => ?_
    walk_at "go"
    have nD0 : H D = none := e1.free nD
    have no0 : H o = none := (e1.trans e2).free n3
    have e04 : Ext [p] H H4 := ((e1.trans e2).trans e3.up).trans e4
    have hD4 := e4.keep _ _ hD3 (nm1 nDp)
    have h4 := e4.keep _ _ h3 (nm1 nop)
    refine ⟨_, rfl, by omega, by omega, z_for_range (lo := 0) (fun i σ' H' => ∃ (bs : List Addr) (ss : List Zk.Slot) (u v : Option V), σ' = [some (.ref p), some (.int mn), u, some (.ref D), some (.ref o), v] ∧ Ext [p] H H' ∧ PoolAt K H' p ∧
      H' D = some (.lst (ns.map V.str)) ∧ H' o = some (.lst (bs.map V.ref)) ∧ SlotsAt H' bs ss ∧ ss.length ≤ i ∧ (0 < i → 1 ≤ ss.length) ∧ ∀ s ∈ ss, Sg s.1) ⟨[], [], _, _, rfl, e04, P4, hD4, h4, .nil, Nat.zero_le _, fun h => by omega, fun _ m => nomatch m⟩ ?_ ?_⟩
    · rintro N i σ' H5 hi ⟨bs, ss, u, v, rfl, e5, P5, hD5, h5, hss, hl5, hl6, hsg⟩ hN
      walk_at "go"
      refine w_pick P5 hD5 nDp (by rw [List.length_map, hl]; omega) (by rw [List.length_map, hl]; omega) fun v H6 hv e6 P6 => ?_
      obtain ⟨z, hz, rfl⟩ := List.mem_map.mp hv
      have zg := hg z hz
      walk_at "go"
      refine w_draw P6 (by decide) (by decide) fun a H7 a0 a1 e7 P7 => ?_
      walk_at "go"
      refine w_draw P7 (by decide) (by decide) fun b H8 b0 b1 e8 P8 => ?_
      walk_at "go"
      refine ⟨sz (by show 3 ≤ _; decide), w_alc fun t H9 e9 n9 h9 => ?_⟩
      walk_at "go"
      have P9 := P8.ext e9 List.not_mem_nil
      have e59 : Ext [p] H5 H9 := ((e6.trans e7).trans e8).trans e9.up
      refine w_cut (fun σ' H' => Ext [p] H5 H' ∧ PoolAt K H' p ∧ ∃ (t : Addr) (s : Zk.Slot) (u : Option V), σ' = [some (.ref p), some (.int mn), u, some (.ref D), some (.ref o), some (.ref t)] ∧ H' t = some (.tup (sVs s)) ∧ Sg s.1) ?_ fun nx hn => ?_
      · rintro _ HA ⟨eA, PA, t, s, u, rfl, ht, sg⟩
        have hA := eA.keep _ _ h5 (nm1 nop)
        have hDA := eA.keep _ _ hD5 (nm1 nDp)
        have sA := hss.ext eA
        walk_at "go"; walk_at "if"
        refine ⟨sD s, ss.map sD, (im_slot ht).dp, .lst (sql hA) (slots_dp sA), sD_shaped sg, slots_shaped' hsg, ?_⟩
        refine w_bl ?_
        refine w_nb (fun z => ?_) fun z => ?_
        · walk_at "go"
          refine w_append hA (szl (by rw [List.length_map, hss.len]; omega)) ?_
          refine w_chg hA (fun z => z) fun HB eB hB => ?_
          walk_at "go"
          rw [← List.map_singleton (f := V.ref), ← List.map_append] at hB
          refine hN _ _ ⟨bs ++ [t], ss ++ [s], _, _, rfl, (e5.trans eA).dropq eB no0, PA.ext eB (nm1 nop.symm), eB.keep _ _ hDA (nm1 nDo), hB, (sA.ext eB).snoc (eB.tup ht), by rw [List.length_append]; exact Nat.succ_le_succ hl5, fun _ => by rw [List.length_append]; exact Nat.le_add_left _ _, fun y m => ?_⟩
          rcases List.mem_append.mp m with m | m
          · exact hsg y m
          · rw [List.mem_singleton.mp m]; exact sg
        · walk_at "go"
          refine hN _ _ ⟨bs, ss, _, _, rfl, e5.trans eA, PA, hDA, hA, sA, Nat.le_succ_of_le hl5, fun _ => ?_, hsg⟩
          cases ss with
          | nil => cases z
          | cons s r => exact Nat.succ_le_succ (Nat.zero_le _)
      · walk_at "if"
        refine w_draw P9 (by decide) (by decide) fun w HA w0 w1 eA PA => ?_
        walk_at "go"
        refine w_d (fun h => ?_) fun h => ?_
        · have hA := eA.tup h9
          walk_at "go"
          refine ⟨sz (by show 3 ≤ _; decide), w_alc fun t' HB eB nB hB => ?_⟩
          walk_at "go"
          exact hn _ _ ⟨(e59.trans eA).trans eB.up, PA.ext eB List.not_mem_nil, t', (z, 0, 0), _, rfl, hB, zg⟩
        · walk_at "go"
          exact hn _ _ ⟨e59.trans eA, PA, t, (z, 1 + a, 1 + b), _, rfl, eA.tup h9, zg⟩
    · rintro σ' H5 ⟨bs, ss, u, v, rfl, e5, P5, hD5, h5, hss, hl5, hl6, hsg⟩
      walk_at "go"
      exact k o bs ss H5 e5 P5 no0 h5 hss (hl6 (by omega)) (by omega) hsg nop
theorem w_universe {H : Hp} {p : Addr} {mn : Int} {Q : VK} {E : XK} (mn1 : 1 ≤ mn) (mn2 : mn ≤ 100) (hP : PoolAt K H p) (k : ∀ o bs ss H', Ext [p] H H' → PoolAt K H' p → H o = none → H' o = some (.lst (bs.map V.ref)) → SlotsAt H' bs ss → 1 ≤ ss.length → ss.length ≤ 101 → (∀ s ∈ ss, Sg s.1) → o ≠ p → Q (.ref o) H') :
    sp_law_universe K ([.ref p, .int mn] ++ []) H Q E := ⟨_, _, rfl, p, mn, rfl, rfl, mn1, mn2, hP, k⟩

theorem pd_ne {U : List Zk.Slot} {H : Hp} {p d : Addr} {f : Fd} (hP : PoolAt K H p) (h : DM U H d f) : d ≠ p := by
  obtain ⟨sc, ns, pl, re, fi, h1, _⟩ := hP
  obtain ⟨kvs, ks, h2, _⟩ := h
  intro z
  subst z
  rw [h1] at h2
  cases h2
theorem ld_ne {U : List Zk.Slot} {H : Hp} {q d : Addr} {xs : List V} {f : Fd} (hq : H q = some (.lst xs)) (h : DM U H d f) : d ≠ q := by
  obtain ⟨kvs, ks, h2, _⟩ := h
  intro z
  subst z
  rw [hq] at h2
  cases h2
theorem w_tyT {H : Hp} {a : Addr} {kvs : List (List Key × V)} {R : Prop} (h : H a = some (.dT kvs)) (q : R) : tyV K "dict" (.ref a) H ∧ R := ⟨.inr (.inr (.inl ⟨rfl, .inr ⟨kvs, h⟩⟩)), q⟩
theorem w_clearD {U : List Zk.Slot} {H : Hp} {a : Addr} {f : Fd} {Q : VK} (h : DM U H a f) (k : ∀ H', Ext [a] H H' → Q .non H') : tyV K "dict" (.ref a) H ∧ rClearT (.ref a) [] H Q := by
  obtain ⟨kvs, ks, h, _⟩ := h
  exact w_tyT h (w_clearT h k)
/-! ### a state moved on -/
def sp_law_moved (K : PySem.W.Frag) : Sp := sp4 fun a b c d H Q => ∃ (U : List Zk.Slot) (p o q : Addr) (bs : List Addr) (ss : List Zk.Slot) (f : Fd) (mo : Int), a = .ref p ∧ b = .ref o ∧ c = .ref q ∧ d = .int mo ∧ 0 ≤ mo ∧ mo ≤ 100 ∧ Pln U ∧ PoolAt K H p ∧ H o = some (.lst (bs.map V.ref)) ∧ o ≠ p ∧ SlotsAt H bs ss ∧ 1 ≤ ss.length ∧ ss.length ≤ 200 ∧ (∀ s ∈ ss, s ∈ U) ∧ DM U H q f ∧ Stt f ∧
  ∀ r f' H', Ext [p] H H' → PoolAt K H' p → H r = none → DM U H' r f' → Stt f' → Q (.ref r) H'
theorem ok_law_moved (T : Txt K mg) : FnOk P w K mg base CX0 8 T.f__law_moved T.d__law_moved ["pool", "slots", "state", "most"] (sp_law_moved K) := by
  refine T.F__law_moved.ok sc_law_moved len4 (fun cdv A outer s H vs Q E hr h => ?_)
  have nd := sc_law_moved.nd
  have hu := hu_of hr
  obtain ⟨_, _, _, _, rfl, U, p, o, q, bs, ss, f, mo, rfl, rfl, rfl, rfl, mo0, mo1, hU, hP, ho, nop, hss, l1, l8, hsU, hf, sf, k⟩ := h
  refine ⟨_,
      (pss_cons (ps_set (i := 4) nd rfl (Or.inl rfl) (pe_call (ok_law_copy T) (hr.mono (by decide)) (by rfl) T.g__law_copy T.F__law_copy.kp T.k__law_copy .nil pass0 (pa_cons (pv 2) pa_nil))) 
      (pss_cons (ps_for PassesOwn.never rfl (pi_range1 (by rfl) T.b_range (pa_cons (pe_call (ok_law_draw T) (hr.mono (by decide)) (by rfl) T.g__law_draw T.F__law_draw.kp T.k__law_draw .nil pass0 (pa_cons (pv 0) (pa_cons (pe_op op_add (pv 3) pe_int) pa_nil))) pa_nil)) (pg_name (i := 5) nd rfl (Or.inl rfl)) 
        (pss_cons (ps_set (i := 6) nd rfl (Or.inl rfl) (pe_call (ok_law_pick T) (hr.mono (by decide)) (by rfl) T.g__law_pick T.F__law_pick.kp T.k__law_pick .nil pass0 (pa_cons (pv 0) (pa_cons (pv 1) pa_nil)))) 
        (pss_one (ps_if (PW.pt (pw_and (pt_cmp (pc_din hu (pv 6) (pv 4))) (pw_and1 (pt_cmpR op_eq (pe_call (ok_law_draw T) (hr.mono (by decide)) (by rfl) T.g__law_draw T.F__law_draw.kp T.k__law_draw .nil pass0 (pa_cons (pv 0) (pa_cons pe_int pa_nil))) pe_int (nomark _))))) 
          (pss_one (ps_set (i := 4) nd rfl (Or.inl rfl) (pe_call (ok_law_without T) (hr.mono (by decide)) (by rfl) T.g__law_without T.F__law_without.kp T.k__law_without .nil pass0 (pa_cons (pv 4) (pa_cons (pv 6) pa_nil))))) 
          (pss_one (ps_dput hu (pv 4) (pv 6) (pe_call (ok_law_content T) (hr.mono (by decide)) (by rfl) T.g__law_content T.F__law_content.kp T.k__law_content .nil pass0 (pa_cons (pv 0) (pa_cons (pv 6) pa_nil))) rfl)))))) 
      (pss_one (ps_ret (pv 4))))), ?_⟩
  change (_ : TS) _ [some _, some _, some _, some _, none, none, none] _
  try dsimp only [cxOf, Cx.nox, Cx.wish]
  walk_at "go"
  refine w_sp1 ⟨U, q, f, rfl, hU.1, hf, fun D H1 e1 n1 h1 => ?_⟩
  walk_at "go"
  have P1 := hP.ext e1 List.not_mem_nil
  refine w_draw P1 (by omega) (by omega) fun n H2 n0 n1' e2 P2 => ?_
  walk_at "go"
  have nDp : D ≠ p := pd_ne P1 h1
  refine ⟨_, rfl, by omega, by omega, z_for_range (lo := 0) (fun i σ' H' => Ext [p] H H' ∧ PoolAt K H' p ∧ ∃ (D : Addr) (f' : Fd) (u v : Option V), σ' = [some (.ref p), some (.ref o), some (.ref q), some (.int mo), some (.ref D), u, v] ∧ H D = none ∧ DM U H' D f' ∧ Stt f')
    ⟨e1.up.trans e2, P2, D, f, _, _, rfl, n1, h1.ext e2 (nm1 nDp), sf⟩ ?_ ?_⟩
  · rintro N i σ' H3 hi ⟨e3, P3, D, f', u, v, rfl, nD, hD, sf'⟩ hN
    have ho3 := e3.keep _ _ ho (nm1 nop)
    have hs3 := hss.ext e3
    have nDp := pd_ne P3 hD
    walk_at "go"
    refine w_pick P3 ho3 nop (by rw [List.length_map, hss.len]; omega) (by rw [List.length_map, hss.len]; omega) fun v H4 hv e4 P4 => ?_
    obtain ⟨j, hj⟩ := List.mem_iff_getElem?.mp hv
    obtain ⟨b, s, rfl, hb, hs, hb3⟩ := hs3.get hj
    have sU := hsU s (List.mem_of_getElem? hs)
    have hb4 := e4.tup hb3
    have D4 := hD.ext e4 (nm1 nDp)
    walk_at "go"; walk_at "if"
    have other : ∀ {H5 : Hp}, Ext [p] H4 H5 → PoolAt K H5 p → ∀ v d H6, Ext [p] H5 H6 → PoolAt K H6 p → Im H6 v d → Cont d → ∀ H7, Ext [D] H6 H7 → DM U H7 D (putF f' s d) → Ext [p] H H7 ∧ PoolAt K H7 p ∧ H D = none ∧ DM U H7 D (putF f' s d) ∧ Stt (putF f' s d) := fun e5 P5 v d H6 e6 P6 im co H7 e7 h7 =>
      ⟨(((e3.trans e4).trans e5).trans e6).dropq e7 nD, P6.ext e7 (nm1 nDp.symm), nD, h7, stt_put sf' co⟩
    refine w_dinT D4.dr hb4 fun o' ho' => ?_
    rw [ho']
    refine w_bl ?_
    refine w_b (fun z => ?_) fun z => ?_
    · walk_at "go"
      refine w_draw P4 (by decide) (by decide) fun w H5 w0 w1 e5 P5 => ?_
      walk_at "go"
      have D5 := D4.ext e5 (nm1 nDp)
      have hb5 := e5.tup hb4
      refine w_d (fun h => ?_) fun h => ?_
      · walk_at "go"
        refine w_sp2 ⟨U, D, b, f', s, rfl, rfl, hU, sU, hb5, D5, sf', fun r f2 H6 e6 n6 h6 st6 => ?_⟩
        walk_at "go"
        exact hN _ _ ⟨((e3.trans e4).trans e5).trans e6.up, P5.ext e6 List.not_mem_nil, r, f2, _, _, rfl, ((e3.trans e4).trans e5).free n6, h6, st6⟩
      · walk_at "go"
        refine w_content P5 hb5 fun v d H6 e6 P6 im co => ?_
        walk_at "go"
        refine w_dputT hU.1 (D5.ext e6 (nm1 nDp)) (e6.tup hb5) sU im fun H7 e7 h7 => ?_
        obtain ⟨a1, a2, a3, a4, a5⟩ := other e5 P5 v d H6 e6 P6 im co H7 e7 h7
        exact hN _ _ ⟨a1, a2, D, _, _, _, rfl, a3, a4, a5⟩
    · walk_at "go"
      refine w_content P4 hb4 fun v d H6 e6 P6 im co => ?_
      walk_at "go"
      refine w_dputT hU.1 (D4.ext e6 (nm1 nDp)) (e6.tup hb4) sU im fun H7 e7 h7 => ?_
      obtain ⟨a1, a2, a3, a4, a5⟩ := other Ext.refl P4 v d H6 e6 P6 im co H7 e7 h7
      exact hN _ _ ⟨a1, a2, D, _, _, _, rfl, a3, a4, a5⟩
  · rintro σ' H3 ⟨e3, P3, D, f', u, v, rfl, nD, hD, sf'⟩
    walk_at "go"
    exact k D f' H3 e3 P3 nD hD sf'
theorem w_moved {H : Hp} {U : List Zk.Slot} {p o q : Addr} {bs : List Addr} {ss : List Zk.Slot} {f : Fd} {mo : Int} {Q : VK} {E : XK} (m0 : 0 ≤ mo) (m1 : mo ≤ 100) (hU : Pln U) (hP : PoolAt K H p) (ho : H o = some (.lst (bs.map V.ref))) (nop : o ≠ p) (hss : SlotsAt H bs ss) (l1 : 1 ≤ ss.length) (l8 : ss.length ≤ 200) (hsU : ∀ s ∈ ss, s ∈ U) (hf : DM U H q f) (sf : Stt f)
    (k : ∀ r f' H', Ext [p] H H' → PoolAt K H' p → H r = none → DM U H' r f' → Stt f' → Q (.ref r) H') : sp_law_moved K ([.ref p, .ref o, .ref q, .int mo] ++ []) H Q E :=
  ⟨_, _, _, _, rfl, U, p, o, q, bs, ss, f, mo, rfl, rfl, rfl, rfl, m0, m1, hU, hP, ho, nop, hss, l1, l8, hsU, hf, sf, k⟩

/-! ### an image that is taken while the line runs: what it holds -/
structure Img where
  b : Int
  h : Int
  last : Option Zk.Slot
  w : Bool
  tk : Fd
def Keys (ts : List Zk.Slot) (f : Fd) : Prop := ts.Nodup ∧ (∀ s, s ∈ ts ↔ (f s).isSome = true) ∧ ts.Pairwise (fun x y => sLt y x = false)
theorem keys_uniq {ts us : List Zk.Slot} {f : Fd} (h : Keys ts f) (k : Keys us f) : ts = us :=
  sorted_uniq ((List.perm_ext_iff_of_nodup h.1 k.1).mpr fun s => by rw [h.2.1, k.2.1]) h.2.2 k.2.2
def beyond (last : Option Zk.Slot) (s : Zk.Slot) : Bool := match last with | none => true | some l => sLt l s
def leftOf (M : Img) (ts : List Zk.Slot) : List Zk.Slot := ts.filter (beyond M.last)
def lastOf (last : Option Zk.Slot) (xs : List Zk.Slot) : Option Zk.Slot := match xs.getLast? with | some s => some s | none => last
def ovr (l : List Zk.Slot) (f tk : Fd) : Fd := fun s => if s ∈ l then f s else tk s
def takeM (M : Img) (pos : Int) (ts : List Zk.Slot) (f : Fd) (c : Nat) : Img :=
  { b := M.b, h := if pos > M.h then pos else M.h, last := lastOf M.last ((leftOf M ts).take c), w := decide ((leftOf M ts).length ≤ c), tk := ovr ((leftOf M ts).take c) f M.tk }
theorem ovr_nil {f tk : Fd} : ovr [] f tk = tk := by funext s; exact if_neg (fun z => nomatch z)
theorem ovr_put {l : List Zk.Slot} {f tk : Fd} {s : Zk.Slot} {d : PyData} (h : f s = some d) : Zk.putF (ovr l f tk) s d = ovr (l ++ [s]) f tk := by
  funext t
  unfold Zk.putF ovr
  by_cases e : t = s
  · subst e
    rw [if_pos rfl, if_pos (List.mem_append.mpr (.inr (List.mem_singleton.mpr rfl))), h]
  · rw [if_neg e]
    by_cases m : t ∈ l
    · rw [if_pos m, if_pos (List.mem_append.mpr (.inl m))]
    · rw [if_neg m, if_neg (fun z => (List.mem_append.mp z).elim m fun q => e (List.mem_singleton.mp q))]
theorem lastOf_snoc {last : Option Zk.Slot} {l : List Zk.Slot} {s : Zk.Slot} : lastOf last (l ++ [s]) = some s := by unfold lastOf; rw [List.getLast?_append]; rfl
theorem lastOf_nil {last : Option Zk.Slot} : lastOf last [] = last := rfl
/-- an image of the states g, begun at the place i, taken up to the place hp -/
structure Good (g : Nat → Fd) (base : Int) (i : Nat) (M : Img) (hp : Nat) : Prop where
  eb : M.b = base + i
  eh : M.h = base + hp
  le : i ≤ hp
  cov : ∀ s, (M.w = true ∨ beyond M.last s = false) → ∃ p, i ≤ p ∧ p ≤ hp ∧ M.tk s = g p s
  unc : ∀ s, M.w = false → beyond M.last s = true → M.tk s = none
theorem good_new (g : Nat → Fd) (base : Int) (i : Nat) : Good g base i { b := base + i, h := base + i, last := none, w := false, tk := fun _ => none } i :=
  ⟨rfl, rfl, Nat.le_refl _, (fun s h => by rcases h with h | h <;> cases h), fun _ _ _ => rfl⟩
theorem slt_of {x y : Zk.Slot} (h : sLt x y = false) (n : x ≠ y) : sLt y x = true := by
  cases e : sLt y x with
  | true => rfl
  | false => exact absurd (sle_anti e h) n
theorem slt_irr (x : Zk.Slot) : sLt x x = false := sLt_no.mpr fun z => z.irr
theorem good_take {g : Nat → Fd} {base : Int} {i hp p : Nat} {M : Img} {ts : List Zk.Slot} {c : Nat} (G : Good g base i M hp) (hw : M.w = false) (ip : i ≤ p) (hk : Keys ts (g p)) (c1 : 1 ≤ c) :
    Good g base i (takeM M (base + p) ts (g p) c) (max hp p) := by
  obtain ⟨nd, mem, srt⟩ := hk
  have srtL : (leftOf M ts).Pairwise (fun x y => sLt y x = false) := srt.filter _
  have ndL : (leftOf M ts).Nodup := nd.filter _
  have memL : ∀ s, s ∈ leftOf M ts ↔ (g p s).isSome = true ∧ beyond M.last s = true := fun s => by
    unfold leftOf; rw [List.mem_filter, mem]
  have inLast : ∀ s, s ∈ (leftOf M ts).take c → ∃ l, lastOf M.last ((leftOf M ts).take c) = some l ∧ l ∈ (leftOf M ts).take c ∧ sLt l s = false := fun s ms => by
    have ne : (leftOf M ts).take c ≠ [] := List.ne_nil_of_mem ms
    refine ⟨_, by unfold lastOf; rw [List.getLast?_eq_some_getLast ne], List.getLast_mem ne, ?_⟩
    obtain ⟨j, hj, e⟩ := List.getElem_of_mem ms
    rw [← e, List.getLast_eq_getElem]
    by_cases q : j = ((leftOf M ts).take c).length - 1
    · subst q; exact slt_irr _
    · exact List.pairwise_iff_getElem.mp (srtL.sublist (List.take_sublist _ _)) _ _ _ _ (by omega)
  have more : ∀ s, beyond (lastOf M.last ((leftOf M ts).take c)) s = true → beyond M.last s = true := fun s h => by
    by_cases e : (leftOf M ts).take c = []
    · rw [e, lastOf_nil] at h; exact h
    · obtain ⟨s0, r, e0⟩ := List.exists_cons_of_ne_nil e
      have m0 : s0 ∈ (leftOf M ts).take c := by rw [e0]; exact List.mem_cons_self
      obtain ⟨l, e1, e2, _⟩ := inLast s0 m0
      rw [e1] at h
      have hl := ((memL l).mp (List.mem_of_mem_take e2)).2
      have h' : sLt l s = true := h
      cases hm : M.last with
      | none => rfl
      | some k =>
        rw [hm] at hl
        have hl' : sLt k l = true := hl
        show sLt k s = true
        exact sLt_iff.mpr ((sLt_iff.mp hl').trans (sLt_iff.mp h'))
  refine ⟨G.eb, ?_, Nat.le_trans G.le (Nat.le_max_left _ _), fun s h => ?_, fun s h1 h2 => ?_⟩
  · show (if base + (p : Int) > M.h then base + (p : Int) else M.h) = _
    rw [G.eh]
    by_cases q : hp < p
    · rw [if_pos (by omega), Nat.max_eq_right (by omega)]
    · rw [if_neg (by omega), Nat.max_eq_left (by omega)]
  · show ∃ q, i ≤ q ∧ q ≤ max hp p ∧ (if s ∈ (leftOf M ts).take c then g p s else M.tk s) = g q s
    by_cases ms : s ∈ (leftOf M ts).take c
    · rw [if_pos ms]; exact ⟨p, ip, Nat.le_max_right _ _, rfl⟩
    · rw [if_neg ms]
      cases hb : beyond M.last s with
      | false =>
        obtain ⟨q, h1, h2, h3⟩ := G.cov s (.inr hb)
        exact ⟨q, h1, Nat.le_trans h2 (Nat.le_max_left _ _), h3⟩
      | true =>
        refine ⟨p, ip, Nat.le_max_right _ _, ?_⟩
        rw [G.unc s hw hb]
        cases hg : g p s with
        | none => rfl
        | some d =>
          exfalso
          have ml : s ∈ leftOf M ts := (memL s).mpr ⟨by rw [hg]; rfl, hb⟩
          obtain ⟨j, hj, e⟩ := List.getElem_of_mem ml
          have jc : c ≤ j := Nat.le_of_not_lt fun z => ms (by
            rw [← e]
            exact List.mem_take_iff_getElem.mpr ⟨j, by omega, rfl⟩)
          have n0 : 0 < ((leftOf M ts).take c).length := by rw [List.length_take]; omega
          have m0 : ((leftOf M ts).take c)[0] ∈ (leftOf M ts).take c := List.getElem_mem n0
          obtain ⟨l, e1, e2, _⟩ := inLast _ m0
          rcases h with h | h
          · have : (leftOf M ts).length ≤ c := of_decide_eq_true h
            omega
          · have h' : beyond (lastOf M.last ((leftOf M ts).take c)) s = false := h
            rw [e1] at h'
            have h'' : sLt l s = false := h'
            obtain ⟨k, hk, e3⟩ := List.getElem_of_mem e2
            have hk' := hk
            rw [List.length_take] at hk'
            rw [List.getElem_take] at e3
            have := List.pairwise_iff_getElem.mp srtL k j (by omega) hj (by omega)
            rw [e, e3] at this
            have ne : l ≠ s := fun z => ms (z ▸ e2)
            rw [slt_of this (Ne.symm ne)] at h''
            cases h''
  · show (if s ∈ (leftOf M ts).take c then g p s else M.tk s) = none
    have h2' : beyond (lastOf M.last ((leftOf M ts).take c)) s = true := h2
    by_cases ms : s ∈ (leftOf M ts).take c
    · obtain ⟨l, e1, _, e3⟩ := inLast s ms
      rw [e1] at h2'
      have : sLt l s = true := h2'
      rw [e3] at this; cases this
    · rw [if_neg ms]
      exact G.unc s hw (more s h2')
/-! ### the end of a copy -/
open Classical in
noncomputable def fnd (tk : Fd) (G : Nat → Fd) : Nat → Fd
  | 0 => tk
  | k + 1 => fun s => if G k s = G (k + 1) s then fnd tk G k s else some (oD (G (k + 1) s))
def clean1 (x : Option PyData) : Option PyData := match x with | some .none => none | y => y
def clean (F : Fd) : Fd := fun s => clean1 (F s)
theorem clean1_oD {x : Option PyData} (h : OCt x) : clean1 (some (oD x)) = x := by
  cases x with
  | none => rfl
  | some d =>
    have := (h d rfl).ne_none
    show clean1 (some d) = some d
    cases d <;> first | rfl | exact absurd rfl this
theorem clean1_ok {x : Option PyData} (h : OCt x) : clean1 x = x := by
  cases x with
  | none => rfl
  | some d => exact clean1_oD (x := some d) h
theorem fnd_is {tk : Fd} {G : Nat → Fd} (st : ∀ k, Stt (G k)) (s : Zk.Slot) : ∀ n : Nat, clean1 (fnd tk G n s) = G n s ∨ ((∀ j, j ≤ n → G j s = G 0 s) ∧ fnd tk G n s = tk s)
  | 0 => .inr ⟨fun j h => by rw [Nat.le_zero.mp h], rfl⟩
  | n + 1 => by
    by_cases e : G n s = G (n + 1) s
    · have f : fnd tk G (n + 1) s = fnd tk G n s := if_pos e
      rw [f]
      rcases fnd_is st s n with h | ⟨h1, h2⟩
      · exact .inl (h.trans e)
      · refine .inr ⟨fun j hj => ?_, h2⟩
        rcases Nat.lt_or_ge n j with q | q
        · have : j = n + 1 := by omega
          rw [this, ← e]; exact h1 n (Nat.le_refl _)
        · exact h1 j q
    · have f : fnd tk G (n + 1) s = some (oD (G (n + 1) s)) := if_neg e
      rw [f]
      exact .inl (clean1_oD (st _ s))
theorem finish_is {g : Nat → Fd} {base : Int} {i hp n : Nat} {M : Img} (G : Good g base i M hp) (hw : M.w = true) (hn : hp ≤ i + n) (st : ∀ k, Stt (g k)) : clean (fnd M.tk (fun k => g (i + k)) n) = g (i + n) := by
  funext s
  show clean1 (fnd M.tk (fun k => g (i + k)) n s) = g (i + n) s
  rcases fnd_is (tk := M.tk) (G := fun k => g (i + k)) (fun k => st _) s n with h | ⟨h1, h2⟩
  · exact h
  · rw [h2]
    obtain ⟨p, p1, p2, p3⟩ := G.cov s (.inl hw)
    have a := h1 (p - i) (by omega)
    have b := h1 n (Nat.le_refl _)
    have e : i + (p - i) = p := by omega
    simp only [e] at a
    rw [p3, a, clean1_ok (st _ s)]
    exact b.symm

/-! ### the copier -/
def LastAt (H : Hp) (v : V) (last : Option Zk.Slot) : Prop := match last with | none => v = .non | some s => ∃ a, v = .ref a ∧ H a = some (.tup (sVs s))
theorem LastAt.ext {M : List Addr} {H H' : Hp} {v : V} {last : Option Zk.Slot} (h : LastAt H v last) (e : Ext M H H') : LastAt H' v last := by
  cases last with
  | none => exact h
  | some s => obtain ⟨a, h1, h2⟩ := h; exact ⟨a, h1, e.tup h2⟩
/-- the image M stands at im, its dict at d -/
def ImgAt (C : Addr) (U : List Zk.Slot) (H : Hp) (im d : Addr) (M : Img) : Prop := ∃ dx lv, H im = some (.ins C dx (fs_ImageCopier (.int M.b) (.int M.h) lv (.bl M.w) (.ref d))) ∧ DM U H d M.tk ∧ LastAt H lv M.last
theorem ImgAt.ext {C : Addr} {U : List Zk.Slot} {Ms : List Addr} {H H' : Hp} {im d : Addr} {M : Img} (h : ImgAt C U H im d M) (e : Ext Ms H H') (n1 : im ∉ Ms) (n2 : d ∉ Ms) : ImgAt C U H' im d M := by
  obtain ⟨dx, lv, h1, h2, h3⟩ := h
  exact ⟨dx, lv, e.keep _ _ h1 n1, h2.ext e n2, h3.ext e⟩
def sp_ImageCopier___init__ (C : Addr) (K : PySem.W.Frag) : Sp := sp2 fun a b H Q => ∃ (U : List Zk.Slot) (im dx : Addr) (n : Int), a = .ref im ∧ b = .int n ∧ H im = some (.ins C dx []) ∧
  ∀ d H', Ext [im] H H' → H d = none → ImgAt C U H' im d { b := n, h := n, last := none, w := false, tk := fun _ => none } → Q .non H'
theorem ok_ImageCopier___init__ (T : Txt K mg) : FnOk P w K mg base CX0 1 T.f_ImageCopier___init__ T.d_ImageCopier___init__ ["self", "position"] (sp_ImageCopier___init__ T.C_ImageCopier K) := by
  refine T.F_ImageCopier___init__.ok sc_ImageCopier___init__ len2 (fun cdv A outer s H vs Q E hr h => ?_)
  have nd := sc_ImageCopier___init__.nd
  have hu := hu_of hr
  obtain ⟨_, _, rfl, U, im, dx, n, rfl, rfl, h0, k⟩ := h
  refine ⟨_,
      (pss_cons (ps_fld (pv 0) (pv 1) rfl) 
      (pss_cons (ps_fld (pv 0) (pv 1) rfl) 
      (pss_cons (ps_fld (pv 0) pe_non rfl) 
      (pss_cons (ps_fld (pv 0) pe_bl rfl) 
      (pss_one (ps_fld (pv 0) pe_dnewTZ rfl)))))), ?_⟩
  change (_ : TS) _ [some _, some _] _
  try dsimp only [cxOf, Cx.nox, Cx.wish]
  walk_at "go"
  refine w_sfld h0 T.c_ImageCopier T.na_ImageCopier_begun (Nat.le_of_ble_eq_true rfl) pi_ImageCopier_begun fun H1 e1 h1 => ?_
  walk_at "go"
  refine w_sfld h1 T.c_ImageCopier T.na_ImageCopier_highest (Nat.le_of_ble_eq_true rfl) pi_ImageCopier_highest fun H2 e2 h2 => ?_
  walk_at "go"
  refine w_sfld h2 T.c_ImageCopier T.na_ImageCopier_last_taken (Nat.le_of_ble_eq_true rfl) pi_ImageCopier_last_taken fun H3 e3 h3 => ?_
  walk_at "go"
  refine w_sfld h3 T.c_ImageCopier T.na_ImageCopier_whole (Nat.le_of_ble_eq_true rfl) pi_ImageCopier_whole fun H4 e4 h4 => ?_
  walk_at "go"
  refine w_alc fun d H5 e5 n5 h5 => ?_
  walk_at "go"
  have nid : d ≠ im := (ne_of_none h4 n5).symm
  refine w_sfld (e5.keep _ _ h4 List.not_mem_nil) T.c_ImageCopier T.na_ImageCopier_taken (Nat.le_of_ble_eq_true rfl) pi_ImageCopier_taken fun H6 e6 h6 => ?_
  have e := ((e1.trans e2).trans (e3.trans e4))
  exact k d H6 ((e.trans e5.up).trans e6) (e.free n5) ⟨dx, _, h6, (DM.nil h5).ext e6 (nm1 nid), rfl⟩
theorem cutV_take {xs : List V} {c : Nat} : cutV xs none (some (c : Int)) = xs.take c := by
  unfold cutV
  rw [HT.sIx_none, HT.sIx_nat, List.drop_zero, Nat.sub_zero]
  by_cases h : c ≤ xs.length
  · rw [Nat.min_eq_left h]
  · rw [Nat.min_eq_right (by omega), List.take_of_length_le (Nat.le_refl _), List.take_of_length_le (by omega)]
/-- an error whose field is a number -/
def AirN (f : Str) (C : Addr) (H : Hp) (v : V) (E : XK) : Prop := ∀ dd H', Ext [] H H' → H' dd = some (.xd [(f, v)]) → E (.ref C) (some dd) H'
def sPos : Str := Str.ofString "position"
def sPha : Str := Str.ofString "phase"
def sp4X (P : V → V → V → V → Hp → VK → XK → Prop) : Sp := fun vs H Q E => ∃ a b c d, vs = [a, b, c, d] ∧ P a b c d H Q E
theorem len4X {P : V → V → V → V → Hp → VK → XK → Prop} {x y z w : Str} : ∀ vs H Q E, sp4X P vs H Q E → vs.length = [x, y, z, w].length := fun _ _ _ _ ⟨_, _, _, _, e, _⟩ => e ▸ rfl
def sp2X (P : V → V → Hp → VK → XK → Prop) : Sp := fun vs H Q E => ∃ a b, vs = [a, b] ∧ P a b H Q E
theorem len2X {P : V → V → Hp → VK → XK → Prop} {x y : Str} : ∀ vs H Q E, sp2X P vs H Q E → vs.length = [x, y].length := fun _ _ _ _ ⟨_, _, e, _⟩ => e ▸ rfl
/-- a number of slots is taken: what M becomes -/
def Took (M : Img) (pos : Int) (f : Fd) (c : Nat) (M' : Img) : Prop := ∃ ts, Keys ts f ∧ M' = takeM M pos ts f c
theorem Took.uniq {M : Img} {pos : Int} {f : Fd} {c : Nat} {M1 M2 : Img} (h : Took M pos f c M1) (k : Took M pos f c M2) : M1 = M2 := by
  obtain ⟨ts, h1, rfl⟩ := h
  obtain ⟨us, k1, rfl⟩ := k
  rw [keys_uniq h1 k1]
theorem w_mkN {C : Addr} {ta : TA} {σ : L2.St} {H : Hp} {Q : XK} (h : ta σ H fun vs H1 => ∃ v, vs = [v] ∧ ∀ d, H1 d = none → Q (.ref C) (some d) (upd H1 d (.xd [(("position" : Str), v)]))) : tMkNoMoment C ta σ H Q := h
theorem w_mkP {C : Addr} {ta : TA} {σ : L2.St} {H : Hp} {Q : XK} (h : ta σ H fun vs H1 => ∃ v, vs = [v] ∧ ∀ d, H1 d = none → Q (.ref C) (some d) (upd H1 d (.xd [(("phase" : Str), v)]))) : tMkWrongPhase C ta σ H Q := h
def sp_ImageCopier_take_slots (CI CN : Addr) (K : PySem.W.Frag) : Sp := sp4X fun a b c e H Q E => ∃ (U : List Zk.Slot) (im d q : Addr) (M : Img) (f : Fd) (pos : Int) (n : Nat), a = .ref im ∧ b = .int pos ∧ c = .ref q ∧ e = .int (n : Int) ∧ Pln U ∧ ImgAt CI U H im d M ∧ DM U H q f ∧ q ≠ d ∧ Stt f ∧ 1 ≤ n ∧ n ≤ 100 ∧
  (pos < M.b → AirN sPos CN H (.int pos) E) ∧ (¬ pos < M.b → M.w = true → ∀ H', Ext [] H H' → Q .non H') ∧ (¬ pos < M.b → M.w = false → ∀ M' H', Took M pos f n M' → Ext [im, d] H H' → ImgAt CI U H' im d M' → Q .non H')
theorem ok_ImageCopier_take_slots (T : Txt K mg) (TE : Errs P K mg) : FnOk P w K mg base (L2.CX P w) 2 T.f_ImageCopier_take_slots T.d_ImageCopier_take_slots ["self", "position", "slots", "count"] (sp_ImageCopier_take_slots T.C_ImageCopier TE.C_NoMoment K) := by
  refine T.F_ImageCopier_take_slots.okX sc_ImageCopier_take_slots len4X (fun cdv A outer s H vs Q E hr h => ?_)
  have nd := sc_ImageCopier_take_slots.nd
  have hu := hu_of hr
  obtain ⟨_, _, _, _, rfl, U, im, d, q, M, f, pos, n, rfl, rfl, rfl, rfl, ⟨hU, hS⟩, ⟨dx, lv, hi, hd, hl⟩, hf, nqd, sf, n1, n2, kx, kw, k⟩ := h
  refine ⟨_,
      (pss_cons (ps_if (pt_cmpR op_lt (pv 1) (pe_fld (pv 0) rfl) (nomark _)) 
        (pss_one (ps_raise rfl (takes_of rfl rfl rfl rfl) (pmk_NoMoment TE.E_NoMoment hr (pa_cons (pv 1) pa_nil)))) pss_nil) 
      (pss_cons (ps_if (pt_val (pe_fld (pv 0) rfl)) 
        (pss_one ps_retN) pss_nil) 
      (pss_cons (ps_setLc (i := 5) (own := [("slot", 4)]) rfl nd rfl rfl (sw_true rfl rfl rfl (by decide +kernel)) (pi_list (pe_callB (zc_sortT rfl) (by rfl) T.b_sorted (by decide +kernel) (pa_cons (pv 2) pa_nil))) (blkOk_by (own := [("slot", 4)]) (N := ["self", "position", "slots", "count", "slot", "left"]) (sc := defScope s_ImageCopier_take_slots) (by decide +kernel)) (fun _ _ _ _ _ => (pg_name (i := 4) nd rfl (Or.inl rfl))) (fun _ _ _ _ _ => (pts_one (PW.pt (pw_or (pt_cmpR zop_isN (pe_fldK (K := K) rfl (pv 0)) pe_non (nomark _)) (pw_or1 (pt_cmpR (op_gtD (K := K) rfl hr.units) (pv 4) (pe_fldK (K := K) rfl (pv 0)) (nomark _))))))) (fun _ _ _ _ _ => (pv 4))) 
      (pss_cons (ps_for (passes_of rfl) rfl (pi_list (pe_slice sl_list (pv 5) po_none (po_some (pv 3)))) (pg_name (i := 4) nd rfl (Or.inl rfl)) 
        (pss_cons (ps_dput hu (pe_fld (pv 0) rfl) (pv 4) (pe_dget hu (pv 2) (pv 4) (fun _ _ => rfl)) rfl) 
        (pss_one (ps_fld (pv 0) (pv 4) rfl)))) 
      (pss_cons (ps_fld (pv 0) (pe_cmpR op_le (pe_callB zc_len (by rfl) T.b_len (by decide +kernel) (pa_cons (pv 5) pa_nil)) (pv 3) (nomark _)) rfl) 
      (pss_one (ps_fld (pv 0) (pe_callB (call_max2 rfl) (by rfl) T.b_max (by decide +kernel) (pa_cons (pe_fld (pv 0) rfl) (pa_cons (pv 1) pa_nil))) rfl))))))), ?_⟩
  change (_ : TS) _ [some _, some _, some _, some _, none, none] _
  try dsimp only [cxOf, Cx.nox, Cx.wish]
  walk_at "go"
  refine w_cut (fun σ' H' => H = H' ∧ ¬ pos < M.b ∧ σ' = [some (.ref im), some (.int pos), some (.ref q), some (.int (n : Int)), none, none]) ?_ fun nx hn => ?_
  · rintro _ _ ⟨rfl, hp, rfl⟩
    walk_at "go"
    refine w_cut (fun σ' H' => H = H' ∧ M.w = false ∧ σ' = [some (.ref im), some (.int pos), some (.ref q), some (.int (n : Int)), none, none]) ?_ fun nx hn => ?_
    · rintro _ _ ⟨rfl, hw, rfl⟩
      walk_at "go"
      refine w_sortT hf.dr fun p0 bs0 ts0 H1 e1 np0 h1 s1 nd1 m1 z1 o1 => ?_
      have hk : Keys ts0 f := ⟨nd1, m1, o1⟩
      have hi1 := e1.keep _ _ hi List.not_mem_nil
      have hl1 := hl.ext e1
      refine ⟨p0, rfl, ⟨_, sql h1⟩, fun W nW => ?_⟩
      refine z_lc_list (xs := bs0.map V.ref) (fun i acc H' => Ext [] H1 H' ∧ ∃ cs, acc = cs.map V.ref ∧ SlotsAt H' cs ((ts0.take i).filter (beyond M.last))) nW (fun H' e => ⟨e, [], rfl, .nil⟩) (fun i acc H' _ ⟨e, _⟩ => sql (e.keep _ _ h1 List.not_mem_nil)) ?_ ?_
      · rintro Nx i x acc H2 hx ⟨e2, cs, rfl, hcs⟩ hW hNx
        obtain ⟨b, s, rfl, hb, hs, hb2⟩ := s1.get hx
        have hb3 := e2.tup hb2
        have hi2 := e2.keep _ _ hi1 List.not_mem_nil
        have hl2 := hl1.ext e2
        walk_at "go"
        refine ⟨rfl, ?_⟩
        walk_at "go"
        have fin : ∀ (z : Bool), z = beyond M.last s → (if z = true then tVar 4 ([some (V.ref im), some (V.int pos), some (V.ref q), some (V.int (n : Int)), some (V.ref b), none]) H2 fun y H4 => ∃ acc, H4 W = some (HO.lst acc) ∧ acc.length < sizeLine ∧ Nx (upd H4 W (HO.lst (acc ++ [y]))) else Nx H2) := fun z hz => by
          subst hz
          cases hb' : beyond M.last s with
          | true =>
            refine w_t rfl ?_
            walk_at "go"
            have lz : cs.length ≤ 1000 := by
              rw [hcs.len]
              exact Nat.le_trans (List.length_filter_le _ _) (Nat.le_trans (List.length_take_le' _ _) (Nat.le_trans z1 hU))
            refine w_app hW (szl (by rw [List.length_map]; omega)) fun H4 e4 h4 => ?_
            rw [← List.map_singleton (f := V.ref), ← List.map_append] at h4
            refine hNx _ _ ⟨e2.dropq e4 nW, cs ++ [b], rfl, ?_⟩ h4
            rw [take_snoc hs, List.filter_append, List.filter_cons_of_pos hb']
            exact (hcs.ext e4).snoc (e4.tup hb3)
          | false =>
            refine w_f rfl ?_
            refine hNx _ _ ⟨e2, cs, rfl, ?_⟩ hW
            rw [take_snoc hs, List.filter_append, List.filter_cons_of_neg (by rw [hb']; exact fun y => nomatch y), List.filter_nil, List.append_nil]
            exact hcs
        cases hL : M.last with
        | none =>
          rw [hL] at hl2
          have hv : lv = .non := hl2
          subst hv
          refine w_t rfl ?_
          exact fin true (by rw [hL]; rfl)
        | some l =>
          rw [hL] at hl2
          obtain ⟨a, hv, ha⟩ := hl2
          subst hv
          refine w_f rfl ?_
          walk_at "go"
          refine w_gtS hb3 ha ?_
          walk_at "go"
          exact fin _ (by rw [hL]; rfl)
      · rintro acc H2 ⟨e2, cs, rfl, hcs⟩ hW
        rw [List.length_map, s1.len, List.take_length] at hcs
        change SlotsAt H2 cs (leftOf M ts0) at hcs
        have lcs : cs.length ≤ 1000 := by
          rw [hcs.len]
          exact Nat.le_trans (List.length_filter_le _ _) (Nat.le_trans z1 hU)
        walk_at "go"
        refine ⟨_, rfl, w_slL (sql hW) (w_alc fun P H3 e3 n3 h3 => ?_)⟩
        rw [cutV_take, ← List.map_take] at h3
        have hc3 := (hcs.ext e3).take n
        have e03 : Ext [] H H3 := (e1.trans e2).trans e3
        have hW3 := e3.keep _ _ hW List.not_mem_nil
        have nid : d ≠ im := fun z => by
          obtain ⟨kv, ks, h, _⟩ := hd
          rw [z, hi] at h; cases h
        have nqi : q ≠ im := fun z => by
          obtain ⟨kv, ks, h, _⟩ := hf
          rw [z, hi] at h; cases h
        have nW : W ∉ [im, d] := nm2 (fun z => by rw [z, e03.keep _ _ hi List.not_mem_nil] at hW3; cases hW3) fun z => by
          obtain ⟨kv, ks, h, _⟩ := hd.ext e03 List.not_mem_nil
          rw [← z, hW3] at h; cases h
        have nP : P ∉ [im, d] := nm2 (fun z => by rw [z, e03.keep _ _ hi List.not_mem_nil] at h3; cases h3) fun z => by
          obtain ⟨kv, ks, h, _⟩ := hd.ext e03 List.not_mem_nil
          rw [← z, h3] at h; cases h
        walk_at "go"
        refine ⟨P, rfl, ⟨_, sql h3⟩, ?_⟩
        refine z_for_list (xs := (cs.take n).map V.ref) (fun i σ' H' => Ext [im, d] H3 H' ∧ (∃ lv', H' im = some (.ins T.C_ImageCopier dx (fs_ImageCopier (.int M.b) (.int M.h) lv' (.bl M.w) (.ref d))) ∧ LastAt H' lv' (lastOf M.last (((leftOf M ts0).take n).take i))) ∧
          DM U H' d (ovr (((leftOf M ts0).take n).take i) f M.tk) ∧ ∃ u, σ' = [some (.ref im), some (.int pos), some (.ref q), some (.int (n : Int)), u, some (.ref W)])
          ⟨Ext.refl, ⟨lv, e03.keep _ _ hi List.not_mem_nil, hl.ext e03⟩, by rw [List.take_zero, ovr_nil]; exact hd.ext e03 List.not_mem_nil, _, rfl⟩ (fun i σ' H' _ ⟨e, _⟩ => sql (e.keep _ _ h3 nP)) ?_ ?_
        · rintro N i x σ' H4 hx ⟨e4, ⟨lv4, hi4, hl4⟩, hd4, u, rfl⟩ hN
          obtain ⟨b, s, rfl, hb, hs, hb2⟩ := hc3.get hx
          have hb4 := e4.tup hb2
          have ms : s ∈ ts0 := (List.mem_filter.mp (List.mem_of_mem_take (List.mem_of_getElem? hs))).1
          have f4 := (hf.ext e03 List.not_mem_nil).ext e4 (nm2 nqi nqd)
          obtain ⟨c, hfs⟩ := Option.isSome_iff_exists.mp ((m1 s).mp ms)
          walk_at "go"
          refine w_dgetT f4.dr hb4 hfs fun v iv => ?_
          walk_at "go"
          refine w_dputT hU hd4 hb4 (hf.fsub (by rw [hfs]; rfl)) iv fun H5 e5 h5 => ?_
          walk_at "go"
          have hi5 := e5.keep _ _ hi4 (nm1 nid.symm)
          refine w_sfld hi5 T.c_ImageCopier T.na_ImageCopier_last_taken (Nat.le_of_ble_eq_true rfl) pf_ImageCopier_last_taken fun H6 e6 h6 => ?_
          refine hN _ _ ⟨(e4.trans (e5.mono fun x m => by rw [List.mem_singleton.mp m]; exact List.mem_cons_of_mem _ List.mem_cons_self)).trans (e6.mono fun x m => by rw [List.mem_singleton.mp m]; exact List.mem_cons_self), ⟨_, h6, ?_⟩, ?_, _, rfl⟩
          · rw [take_snoc hs, lastOf_snoc]
            exact ⟨b, rfl, e6.tup (e5.tup hb4)⟩
          · rw [take_snoc hs, ← ovr_put hfs]
            exact h5.ext e6 (nm1 nid)
        · rintro σ' H4 ⟨e4, ⟨lv4, hi4, hl4⟩, hd4, u, rfl⟩
          rw [List.length_map, hc3.len, List.take_length] at hl4 hd4
          have hW4 := e4.keep _ _ hW3 nW
          walk_at "go"
          refine w_sfld hi4 T.c_ImageCopier T.na_ImageCopier_whole (Nat.le_of_ble_eq_true rfl) pf_ImageCopier_whole fun H5 e5 h5 => ?_
          walk_at "go"
          refine ⟨M.h, pos, rfl, ?_⟩
          walk_at "go"
          refine w_sfld h5 T.c_ImageCopier T.na_ImageCopier_highest (Nat.le_of_ble_eq_true rfl) pf_ImageCopier_highest fun H6 e6 h6 => ?_
          have up : Ext [im] H4 H6 := e5.trans e6
          refine k hp hw (takeM M pos ts0 f n) H6 ⟨ts0, hk, rfl⟩ ((e03.up.trans e4).trans (up.mono fun x m => by rw [List.mem_singleton.mp m]; exact List.mem_cons_self)) ⟨dx, _, ?_, hd4.ext up (nm1 nid), hl4.ext up⟩
          rw [h6]
          have lc : (decide (((cs.map V.ref).length : Int) ≤ (n : Int))) = decide ((leftOf M ts0).length ≤ n) := by
            rw [List.length_map, hcs.len]
            exact decide_eq_decide.mpr Int.ofNat_le
          rw [lc]
          rfl
    · walk_at "if"
      cases hw : M.w with
      | true =>
        refine w_t rfl ?_
        walk_at "go"
        exact kw hp hw H Ext.refl
      | false =>
        refine w_f rfl ?_
        walk_at "go"
        exact hn _ _ ⟨rfl, hw, rfl⟩
  · walk_at "if"
    refine w_d (fun h => ?_) fun h => ?_
    · walk_at "go"
      refine w_mkN ?_
      walk_at "go"
      refine ⟨_, rfl, fun dd ndd => ?_⟩
      exact kx h dd _ (Ext.new ndd) upd_same
    · walk_at "go"
      exact hn _ _ ⟨rfl, h, rfl⟩

/-! ### what the copier tells; saved and loaded -/
def sp_ImageCopier_complete (C : Addr) (K : PySem.W.Frag) : Sp := sp1 fun a H Q => ∃ U im d M, a = .ref im ∧ ImgAt C U H im d M ∧ Q (.bl M.w) H
theorem ok_ImageCopier_complete (T : Txt K mg) : FnOk P w K mg base CX0 1 T.f_ImageCopier_complete T.d_ImageCopier_complete ["self"] (sp_ImageCopier_complete T.C_ImageCopier K) := by
  refine T.F_ImageCopier_complete.ok sc_ImageCopier_complete len1 (fun cdv A outer s H vs Q E hr h => ?_)
  have nd := sc_ImageCopier_complete.nd
  have hu := hu_of hr
  obtain ⟨_, rfl, U, im, d, M, rfl, ⟨dx, lv, hi, hd, hl⟩, k⟩ := h
  refine ⟨_,
      (pss_one (ps_ret (pe_fld (pv 0) rfl))), ?_⟩
  change (_ : TS) _ [some _] _
  try dsimp only [cxOf, Cx.nox, Cx.wish]
  walk_at "go"
  exact k
def sp_ImageCopier_begun_at (C : Addr) (K : PySem.W.Frag) : Sp := sp1 fun a H Q => ∃ U im d M, a = .ref im ∧ ImgAt C U H im d M ∧ Q (.int M.b) H
theorem ok_ImageCopier_begun_at (T : Txt K mg) : FnOk P w K mg base CX0 1 T.f_ImageCopier_begun_at T.d_ImageCopier_begun_at ["self"] (sp_ImageCopier_begun_at T.C_ImageCopier K) := by
  refine T.F_ImageCopier_begun_at.ok sc_ImageCopier_begun_at len1 (fun cdv A outer s H vs Q E hr h => ?_)
  have nd := sc_ImageCopier_begun_at.nd
  have hu := hu_of hr
  obtain ⟨_, rfl, U, im, d, M, rfl, ⟨dx, lv, hi, hd, hl⟩, k⟩ := h
  refine ⟨_,
      (pss_one (ps_ret (pe_fld (pv 0) rfl))), ?_⟩
  change (_ : TS) _ [some _] _
  try dsimp only [cxOf, Cx.nox, Cx.wish]
  walk_at "go"
  exact k
def sp_ImageCopier_reach (C : Addr) (K : PySem.W.Frag) : Sp := sp1 fun a H Q => ∃ U im d M, a = .ref im ∧ ImgAt C U H im d M ∧ Q (.int M.h) H
theorem ok_ImageCopier_reach (T : Txt K mg) : FnOk P w K mg base CX0 1 T.f_ImageCopier_reach T.d_ImageCopier_reach ["self"] (sp_ImageCopier_reach T.C_ImageCopier K) := by
  refine T.F_ImageCopier_reach.ok sc_ImageCopier_reach len1 (fun cdv A outer s H vs Q E hr h => ?_)
  have nd := sc_ImageCopier_reach.nd
  have hu := hu_of hr
  obtain ⟨_, rfl, U, im, d, M, rfl, ⟨dx, lv, hi, hd, hl⟩, k⟩ := h
  refine ⟨_,
      (pss_one (ps_ret (pe_fld (pv 0) rfl))), ?_⟩
  change (_ : TS) _ [some _] _
  try dsimp only [cxOf, Cx.nox, Cx.wish]
  walk_at "go"
  exact k
def lastD : Option Zk.Slot → PyData
  | none => .none
  | some s => sD s
def pairD (f : Fd) (s : Zk.Slot) : PyData := .tuple [sD s, oD (f s)]
def savedD (M : Img) (ts : List Zk.Slot) : PyData := .tuple [.int M.b, .int M.h, lastD M.last, .bool M.w, .tuple (ts.map (pairD M.tk))]
theorem im_last {H : Hp} {v : V} {last : Option Zk.Slot} (h : LastAt H v last) : Im H v (lastD last) := by
  cases last with
  | none => have e : v = .non := h; subst e; exact .non
  | some s => obtain ⟨a, e, ha⟩ := h; subst e; exact im_slot ha
theorem im_slotE {H : Hp} {v : V} {s : Zk.Slot} (h : Im H v (sD s)) : ∃ a, v = .ref a ∧ H a = some (.tup (sVs s)) := by
  obtain ⟨a, xs, rfl, ha, wa⟩ := h.tupE
  cases wa with
  | cons h1 k1 => cases k1 with
    | cons h2 k2 => cases k2 with
      | cons h3 k3 =>
        cases k3; cases h1; cases h2; cases h3
        exact ⟨a, rfl, ha⟩
theorem last_im {H : Hp} {v : V} {last : Option Zk.Slot} (h : Im H v (lastD last)) : LastAt H v last := by
  cases last with
  | none => change Im H v .none at h; cases h; rfl
  | some s => exact im_slotE h
/-- the pairs of a dict, in the order of their slots -/
theorem w_pairs {H : Hp} {Q : VK} {ts : List Zk.Slot} {f : Fd} {W : Addr} {xs : List V} (hW : H W = some (.lst xs)) (hx : ImAll H xs (ts.map (pairD f))) (l : ts.length ≤ 1000) (k : ∀ t H', Ext [] H H' → Im H' (.ref t) (.tuple (ts.map (pairD f))) → Q (.ref t) H') : cTup K [.ref W] H Q := by
  refine w_tupL (sql hW) (w_alc fun t H' e n h => k t H' e (.tup h ?_ (hx.ext e)))
  rw [hx.len, List.length_map]; exact l
def sp_ImageCopier_saved (C : Addr) (K : PySem.W.Frag) : Sp := sp1 fun a H Q => ∃ U im d M, a = .ref im ∧ U.length ≤ 1000 ∧ ImgAt C U H im d M ∧ Stt M.tk ∧ ∀ t ts H', Ext [] H H' → Keys ts M.tk → Im H' (.ref t) (savedD M ts) → Q (.ref t) H'
theorem ok_ImageCopier_saved (T : Txt K mg) : FnOk P w K mg base CX0 1 T.f_ImageCopier_saved T.d_ImageCopier_saved ["self"] (sp_ImageCopier_saved T.C_ImageCopier K) := by
  refine T.F_ImageCopier_saved.ok sc_ImageCopier_saved len1 (fun cdv A outer s H vs Q E hr h => ?_)
  have nd := sc_ImageCopier_saved.nd
  have hu := hu_of hr
  obtain ⟨_, rfl, U, im, d, M, rfl, hU, ⟨dx, lv, hi, hd, hl⟩, sm, k⟩ := h
  refine ⟨_,
      (pss_cons (ps_set (i := 1) nd rfl (Or.inl rfl) (pe_callTy zc_tup (by rfl) T.b_tuple (by decide +kernel) (pa_cons (pe_lc (own := [("slot", 2)]) rfl nd (pi_list (pe_callB (zc_sortT rfl) (by rfl) T.b_sorted (by decide +kernel) (pa_cons (pe_fld (pv 0) rfl) pa_nil))) (blkOk_by (own := [("slot", 2)]) (N := ["self", "pairs", "slot"]) (sc := defScope s_ImageCopier_saved) (by decide +kernel)) (fun _ _ _ _ _ => (pg_name (i := 2) nd rfl (Or.inl rfl))) (fun _ _ _ _ _ => pts_nil) (fun _ _ _ _ _ => (pe_tupZ (pa_cons (pv 2) (pa_cons (pe_dget hu (pe_fldK (K := K) rfl (pv 0)) (pv 2) (fun _ _ => rfl)) pa_nil))))) pa_nil))) 
      (pss_one (ps_ret (pe_tupZ (pa_cons (pe_fld (pv 0) rfl) (pa_cons (pe_fld (pv 0) rfl) (pa_cons (pe_fld (pv 0) rfl) (pa_cons (pe_fld (pv 0) rfl) (pa_cons (pv 1) pa_nil))))))))), ?_⟩
  change (_ : TS) _ [some _, none, none] _
  try dsimp only [cxOf, Cx.nox, Cx.wish]
  walk_at "go"
  refine w_sortT hd.dr fun p0 bs0 ts0 H1 e1 np0 h1 s1 nd1 m1 z1 o1 => ?_
  have hi1 := e1.keep _ _ hi List.not_mem_nil
  have hd1 := hd.ext e1 List.not_mem_nil
  refine ⟨p0, rfl, ⟨_, sql h1⟩, fun W nW => ?_⟩
  refine z_lc_list (xs := bs0.map V.ref) (fun i acc H' => Ext [] H1 H' ∧ ImAll H' acc ((ts0.take i).map (pairD M.tk))) nW (fun H' e => ⟨e, .nil⟩) (fun i acc H' _ ⟨e, _⟩ => sql (e.keep _ _ h1 List.not_mem_nil)) ?_ ?_
  · rintro Nx i x acc H2 hx ⟨e2, hacc⟩ hW hNx
    obtain ⟨b, s, rfl, hb, hs, hb2⟩ := s1.get hx
    have hb3 := e2.tup hb2
    have hi2 := e2.keep _ _ hi1 List.not_mem_nil
    have hd2 := hd1.ext e2 List.not_mem_nil
    obtain ⟨c, hfs⟩ := Option.isSome_iff_exists.mp ((m1 s).mp (List.mem_of_getElem? hs))
    walk_at "go"
    refine ⟨rfl, ?_⟩
    walk_at "go"
    refine w_dgetT hd2.dr hb3 hfs fun v iv => ?_
    refine ⟨sz (by show 2 ≤ _; decide), w_alc fun t H3 e3 n3 h3 => ?_⟩
    have la : acc.length ≤ 1000 := by
      rw [hacc.len, List.length_map]
      exact Nat.le_trans (List.length_take_le' _ _) (Nat.le_trans z1 hU)
    refine w_app (e3.keep _ _ hW List.not_mem_nil) (szl (by omega)) fun H4 e4 h4 => ?_
    refine hNx _ _ ⟨(e2.trans e3).dropq e4 nW, ?_⟩ h4
    rw [take_snoc hs, List.map_append]
    refine ((hacc.ext e3).ext e4).snoc (.tup (e4.tup h3) (show 2 ≤ 1000 by decide) (.cons ((im_slot (e3.tup hb3)).ext e4) (.cons ?_ .nil)))
    rw [hfs]; exact (iv.ext e3).ext e4
  · rintro acc H2 ⟨e2, hacc⟩ hW
    rw [List.length_map, s1.len, List.take_length] at hacc
    refine w_nil ?_
    refine w_pairs hW hacc (Nat.le_trans z1 hU) fun t H3 e3 ht => ?_
    have e03 := (e1.trans e2).trans e3
    have hi3 := e03.keep _ _ hi List.not_mem_nil
    walk_at "go"
    refine ⟨sz (by show 5 ≤ _; decide), w_alc fun t2 H4 e4 n4 h4 => ?_⟩
    exact k t2 ts0 H4 (e03.trans e4) ⟨nd1, m1, o1⟩ (.tup h4 (show 5 ≤ 1000 by decide) (.cons (.int _) (.cons (.int _) (.cons (im_last ((hl.ext e03).ext e4)) (.cons (.bl _) (.cons (ht.ext e4) .nil))))))
theorem im_pair {H : Hp} {v : V} {x y : PyData} (h : Im H v (.tuple [x, y])) : ∃ a u w, v = .ref a ∧ H a = some (.tup [u, w]) ∧ Im H u x ∧ Im H w y := by
  obtain ⟨a, xs, rfl, ha, wa⟩ := h.tupE
  cases wa with
  | cons h1 k1 => cases k1 with
    | cons h2 k2 => cases k2; exact ⟨a, _, _, rfl, ha, h1, h2⟩
def sp_load_image (C : Addr) (K : PySem.W.Frag) : Sp := sp1 fun a H Q => ∃ (U : List Zk.Slot) (M : Img) (ts : List Zk.Slot), U.length ≤ 1000 ∧ Im H a (savedD M ts) ∧ Keys ts M.tk ∧ (∀ s ∈ ts, s ∈ U) ∧ ∀ im d H', Ext [] H H' → H im = none → H d = none → ImgAt C U H' im d M → Q (.ref im) H'
theorem ok_load_image (T : Txt K mg) : FnOk P w K mg base CX0 3 T.f_load_image T.d_load_image ["saved"] (sp_load_image T.C_ImageCopier K) := by
  refine T.F_load_image.ok sc_load_image len1 (fun cdv A outer s H vs Q E hr h => ?_)
  have nd := sc_load_image.nd
  have hu := hu_of hr
  obtain ⟨v0, rfl, U, M, ts, hU, hv, hk, tU, k⟩ := h
  refine ⟨_,
      (pss_cons (ps_set (i := 1) nd rfl (Or.inl rfl) (pe_make T.mk_ImageCopier (ok_ImageCopier___init__ T) (hr.mono (by decide)) (by rfl) T.g_ImageCopier T.k_ImageCopier___init__ .nil pass0 (pa_cons (pe_ix ix_tup (pv 0) pe_int (fun _ _ => rfl)) pa_nil))) 
      (pss_cons (ps_fld (pv 1) (pe_ix ix_tup (pv 0) pe_int (fun _ _ => rfl)) rfl) 
      (pss_cons (ps_fld (pv 1) (pe_ix ix_tup (pv 0) pe_int (fun _ _ => rfl)) rfl) 
      (pss_cons (ps_fld (pv 1) (pe_ix ix_tup (pv 0) pe_int (fun _ _ => rfl)) rfl) 
      (pss_cons (ps_fld (pv 1) (zpe_dcT (own := [("slot", 2), ("held", 3)]) hu rfl nd (pi_tup (pe_ix ix_tup (pv 0) pe_int (fun _ _ => rfl))) (blkOk_by (own := [("slot", 2), ("held", 3)]) (N := ["saved", "image", "slot", "held"]) (sc := defScope s_load_image) (by decide +kernel)) (fun _ _ _ _ _ => (pg_tupK (K := K) (n := 2) rfl rfl (pgs_cons (pg_name (i := 2) nd rfl (Or.inl rfl)) (pgs_cons (pg_name (i := 3) nd rfl (Or.inl rfl)) pgs_nil)))) (fun _ _ _ _ _ => pts_nil) (fun _ _ _ _ _ => (pv 2)) (fun _ _ _ _ _ => (pv 3))) rfl) 
      (pss_one (ps_ret (pv 1)))))))), ?_⟩
  change (_ : TS) _ [some _, none, none, none] _
  try dsimp only [cxOf, Cx.nox, Cx.wish]
  obtain ⟨a, xs, rfl, ha, wa⟩ := hv.tupE
  cases wa with
  | cons x0 wa => cases wa with
    | cons x1 wa => cases wa with
      | @cons v2 _ _ _ x2 wa => cases wa with
        | cons x3 wa => cases wa with
          | cons x4 wa =>
            cases wa; cases x0; cases x1; cases x3
            obtain ⟨b, ys, rfl, hb, wb⟩ := x4.tupE
            walk_at "go"
            intro im dx n1 nd1 ne1
            have e1 := make_ext (C := T.C_ImageCopier) n1 nd1 ne1
            have h1 : (upd (upd H dx (.own im)) im (.ins T.C_ImageCopier dx [])) im = some (.ins T.C_ImageCopier dx []) := upd_same
            generalize upd (upd H dx (.own im)) im (.ins T.C_ImageCopier dx []) = H1 at e1 h1 ⊢
            refine ⟨_, _, rfl, U, im, dx, M.b, rfl, rfl, h1, fun d0 H2 e2 n2 hI => ?_⟩
            refine ⟨rfl, ?_⟩
            obtain ⟨dx', lv', hi2, hd2, _⟩ := hI
            have ha2 := e2.tup (e1.tup ha)
            walk_at "go"
            refine w_sfld hi2 T.c_ImageCopier T.na_ImageCopier_highest (Nat.le_of_ble_eq_true rfl) pf_ImageCopier_highest fun H3 e3 h3 => ?_
            walk_at "go"
            refine w_sfld h3 T.c_ImageCopier T.na_ImageCopier_last_taken (Nat.le_of_ble_eq_true rfl) pf_ImageCopier_last_taken fun H4 e4 h4 => ?_
            walk_at "go"
            refine w_sfld h4 T.c_ImageCopier T.na_ImageCopier_whole (Nat.le_of_ble_eq_true rfl) pf_ImageCopier_whole fun H5 e5 h5 => ?_
            walk_at "go"
            have e15 : Ext [im] H H5 := e1.up.trans (((e2.trans e3).trans e4).trans e5)
            have hb5 := e15.tup hb
            have wb5 := wb.ext e15
            refine w_dc ?_
            walk_at "go"
            refine ⟨b, rfl, ⟨_, sqt hb5⟩, fun D nD => ?_⟩
            have nDi : D ≠ im := (ne_of_none h5 nD).symm
            refine z_dc_tup (xs := ys) (fun i H' => Ext [] H5 H' ∧ DM U H' D (resF (ts.take i) M.tk)) (fun H' e h => ⟨e, by rw [List.take_zero, resF_nil]; exact DM.nil h⟩) nD (fun i H' _ ⟨e, _⟩ => sqt (e.tup hb5)) ?_ ?_
            · rintro Nx i x H6 hx ⟨e6, hD6⟩ hNx
              obtain ⟨dd, hdd, ix⟩ := (wb5.ext e6).at' hx
              rw [List.getElem?_map, Option.map_eq_some_iff] at hdd
              obtain ⟨s, hs, rfl⟩ := hdd
              obtain ⟨a2, v1, v2', rfl, ha2', i1, i2⟩ := im_pair ix
              obtain ⟨b2, rfl, hb2⟩ := im_slotE i1
              have ms := List.mem_of_getElem? hs
              obtain ⟨c, hc⟩ := Option.isSome_iff_exists.mp ((hk.2.1 s).mp ms)
              rw [hc] at i2
              change Im H6 v2' c at i2
              walk_at "go"
              refine ⟨rfl, ?_⟩
              walk_at "go"
              refine w_dcput hU hD6 hb2 (tU s ms) i2 fun H7 e7 h7 => ?_
              refine hNx _ ⟨e6.dropq e7 nD, ?_⟩
              rw [take_snoc hs]
              rwa [resF_put (F := M.tk) hc] at h7
            · rintro H6 ⟨e6, hD6⟩
              have ly : ys.length = ts.length := by rw [wb.len, List.length_map]
              rw [ly, List.take_length, resF_all fun s ns => Option.not_isSome_iff_eq_none.mp fun z => ns ((hk.2.1 s).mpr z)] at hD6
              walk_at "go"
              refine w_sfld (e6.keep _ _ h5 List.not_mem_nil) T.c_ImageCopier T.na_ImageCopier_taken (Nat.le_of_ble_eq_true rfl) pf_ImageCopier_taken fun H7 e7 h7 => ?_
              walk_at "go"
              have e17 : Ext [im] H H7 := (e15.trans e6.up).trans e7
              exact k im D H7 (Ext.dropq Ext.refl e17 n1) n1 (e15.free nD) ⟨_, _, h7, hD6.ext e7 (nm1 nDi), (last_im x2).ext e17⟩

/-! ### the end of a copy, walked -/
def sCopy : Str := Str.ofString "copy"
def Diffs (U : List Zk.Slot) (H : Hp) (as : List Addr) (n : Nat) (G : Nat → Fd) : Prop := as.length = n ∧ ∀ k, k < n → ∃ a, (as.map V.ref)[k]? = some (.ref a) ∧ DM U H a (btwF (G k) (G (k + 1)))
theorem Diffs.ext {U : List Zk.Slot} {H H' : Hp} {as : List Addr} {n : Nat} {G : Nat → Fd} {M : List Addr} (h : Diffs U H as n G) (e : Ext M H H') (ne : ∀ a f, DM U H a f → a ∉ M) : Diffs U H' as n G :=
  ⟨h.1, fun k l => (h.2 k l).elim fun a z => ⟨a, z.1, z.2.ext e (ne _ _ z.2)⟩⟩
open Classical in
theorem fnd_step {tk : Fd} {G : Nat → Fd} {k : Nat} {ks : List Zk.Slot} (h : ∀ s, s ∈ ks ↔ (btwF (G k) (G (k + 1)) s).isSome = true) : ovr ks (fun s => some (oD (G (k + 1) s))) (fnd tk G k) = fnd tk G (k + 1) := by
  funext s
  show (if s ∈ ks then _ else _) = (if G k s = G (k + 1) s then _ else _)
  by_cases e : G k s = G (k + 1) s
  · rw [if_pos e, if_neg fun z => by
      have := (h s).mp z
      rw [show btwF (G k) (G (k + 1)) s = none from btw_eq e] at this; cases this]
  · rw [if_neg e, if_pos ((h s).mpr (by rw [show btwF (G k) (G (k + 1)) s = some _ from btw_ne e]; rfl))]
def sp_ImageCopier_finish (CI CN CW : Addr) (K : PySem.W.Frag) : Sp := sp2X fun a b H Q E => ∃ (U : List Zk.Slot) (im d q : Addr) (M : Img) (as : List Addr) (n : Nat) (G : Nat → Fd), a = .ref im ∧ b = .ref q ∧ U.length ≤ 1000 ∧ ImgAt CI U H im d M ∧ H q = some (.lst (as.map V.ref)) ∧ n ≤ 1000 ∧ Diffs U H as n G ∧
  (M.w = false → AirN sPha CW H (.str sCopy) E) ∧ (M.w = true → M.b + n < M.h → AirN sPos CN H (.int (M.b + n)) E) ∧ (M.w = true → ¬ M.b + n < M.h → ∀ r H', Ext [] H H' → H r = none → DM U H' r (clean (fnd M.tk G n)) → Q (.ref r) H')
theorem ok_ImageCopier_finish (T : Txt K mg) (TE : Errs P K mg) : FnOk P w K mg base (L2.CX P w) 2 T.f_ImageCopier_finish T.d_ImageCopier_finish ["self", "differences"] (sp_ImageCopier_finish T.C_ImageCopier TE.C_NoMoment TE.C_WrongPhase K) := by
  refine T.F_ImageCopier_finish.okX sc_ImageCopier_finish len2X (fun cdv A outer s H vs Q E hr h => ?_)
  have nd := sc_ImageCopier_finish.nd
  have hu := hu_of hr
  obtain ⟨_, _, rfl, U, im, d, q, M, as, n, G, rfl, rfl, hU, ⟨dx, lv, hi, hd, hl⟩, hq, n1, hds, kw, kn, k⟩ := h
  refine ⟨_,
      (pss_cons (ps_if (pt_not (pt_val (pe_fld (pv 0) rfl))) 
        (pss_one (ps_raise rfl (takes_of rfl rfl rfl rfl) (pmk_WrongPhase TE.E_WrongPhase hr (pa_cons pe_str pa_nil)))) pss_nil) 
      (pss_cons (ps_if (pt_cmpR op_lt (pe_op op_add (pe_fld (pv 0) rfl) (pe_callB zc_len (by rfl) T.b_len (by decide +kernel) (pa_cons (pv 1) pa_nil))) (pe_fld (pv 0) rfl) (nomark _)) 
        (pss_one (ps_raise rfl (takes_of rfl rfl rfl rfl) (pmk_NoMoment TE.E_NoMoment hr (pa_cons (pe_op op_add (pe_fld (pv 0) rfl) (pe_callB zc_len (by rfl) T.b_len (by decide +kernel) (pa_cons (pv 1) pa_nil))) pa_nil)))) pss_nil) 
      (pss_cons (ps_set (i := 3) nd rfl (Or.inr rfl) (pe_lock (zpe_dcT (own := [("slot", 2)]) hu rfl nd (pi_keys (pe_fld (pv 0) rfl)) (blkOk_by (own := [("slot", 2)]) (N := ["self", "differences", "slot", "found", "difference"]) (sc := defScope s_ImageCopier_finish) (by decide +kernel)) (fun _ _ _ _ _ => (pg_name (i := 2) nd rfl (Or.inl rfl))) (fun _ _ _ _ _ => pts_nil) (fun _ _ _ _ _ => (pv 2)) (fun _ _ _ _ _ => (pe_dget hu (pe_fldK (K := K) rfl (pv 0)) (pv 2) (fun _ _ => rfl)))))) 
      (pss_cons (ps_for (passes_of rfl) rfl (pi_list (pv 1)) (pg_name (i := 4) nd rfl (Or.inl rfl)) 
        (pss_one (ps_lock (ps_for (passes_of rfl) rfl (pi_keys (pv 4)) (pg_name (i := 2) nd rfl (Or.inl rfl)) 
          (pss_one (ps_dput hu (pv 3) (pv 2) (pe_ix ix_tup (pe_dget hu (pv 4) (pv 2) (fun _ _ => rfl)) pe_int (fun _ _ => rfl)) rfl)))))) 
      (pss_one (ps_ret (zpe_dcT (own := [("slot", 2)]) hu rfl nd (pi_list (pe_callB (zc_sortT rfl) (by rfl) T.b_sorted (by decide +kernel) (pa_cons (pv 3) pa_nil))) (blkOk_by (own := [("slot", 2)]) (N := ["self", "differences", "slot", "found", "difference"]) (sc := defScope s_ImageCopier_finish) (by decide +kernel)) (fun _ _ _ _ _ => (pg_name (i := 2) nd rfl (Or.inl rfl))) (fun _ _ _ _ _ => (pts_one (pt_cmpR zop_notN (pe_dget hu (pv 3) (pv 2) (fun _ _ => rfl)) pe_non (nomark _)))) (fun _ _ _ _ _ => (pv 2)) (fun _ _ _ _ _ => (pe_dget hu (pv 3) (pv 2) (fun _ _ => rfl)))))))))), ?_⟩
  change (_ : TS) _ [some _, some _, none, none, none] _
  try dsimp only [cxOf, Cx.nox, Cx.wish]
  have nid : im ≠ d := fun z => by
    obtain ⟨kv, ks, h, _⟩ := hd
    rw [← z, hi] at h; cases h
  have la : (as.map V.ref).length = n := by rw [List.length_map]; exact hds.1
  walk_at "go"
  refine w_cut (fun σ' H' => H = H' ∧ M.w = true ∧ σ' = [some (.ref im), some (.ref q), none, none, none]) ?_ fun nx hn => ?_
  · rintro _ _ ⟨rfl, hw, rfl⟩
    walk_at "go"
    refine w_cut (fun σ' H' => H = H' ∧ ¬ M.b + n < M.h ∧ σ' = [some (.ref im), some (.ref q), none, none, none]) ?_ fun nx hn => ?_
    · rintro _ _ ⟨rfl, hh, rfl⟩
      have k := k hw hh
      obtain ⟨kvs, ks, hp, mp⟩ := id hd
      walk_at "go"
      refine w_lockE hp trivial (fun z => z) fun od H2 L => ?_
      refine w_dc ?_
      refine w_iKeys ?_
      have hi2 := L.keep hi nid
      walk_at "go"
      refine ⟨d, od, rfl, .inr ⟨kvs, L.at, fun D nD => ?_⟩⟩
      have f2 := hd.dr.lk L
      refine z_dc_keysT mp (fun i H' => Ext [] H2 H' ∧ DM U H' D (resF (ks.take i) M.tk)) (fun H' e h => ⟨e, by rw [List.take_zero, resF_nil]; exact DM.nil h⟩) nD (fun i H' _ ⟨e, _⟩ => e.imm _ _ L.at trivial) ?_ ?_
      · rintro Nx i s c b H3 hsi hc hb ⟨e3, hD⟩ hN
        have f3 := f2.ext e3 List.not_mem_nil
        have hi3 := e3.keep _ _ hi2 List.not_mem_nil
        walk_at "go"
        refine ⟨rfl, ?_⟩
        walk_at "go"
        refine w_dgetT f3 hb hc fun v iv => ?_
        refine w_dcput hU hD hb (mp.sub _ (List.mem_of_getElem? hsi)) iv fun H5 e5 h5 => ?_
        refine hN _ ⟨e3.dropq e5 nD, ?_⟩
        rw [resF_put (F := M.tk) hc] at h5
        rw [take_snoc hsi]; exact h5
      · rintro H3 ⟨e3, hD⟩
        have ndD : D ≠ d := (ne_of_none L.at nD).symm
        rw [List.take_length, resF_all fun s ns => Option.not_isSome_iff_eq_none.mp fun z => ns (mp.mem.mpr z)] at hD
        refine w_unlock L e3 fun H4 e4 kp => ?_
        have D4 := dm_unlk L e3 kp ndD hD
        have nD0 : H D = none := L.free nD
        walk_at "go"
        have hq4 := e4.keep _ _ hq List.not_mem_nil
        have ds4 := hds.ext e4 fun _ _ _ => List.not_mem_nil
        have nqD : q ≠ D := ne_of_none hq nD0
        refine ⟨q, rfl, ⟨_, sql hq4⟩, ?_⟩
        refine z_for_list (xs := as.map V.ref) (fun i σ' H' => Ext [D] H4 H' ∧ DM U H' D (fnd M.tk G i) ∧ ∃ u v, σ' = [some (.ref im), some (.ref q), u, some (.ref D), v]) ⟨Ext.refl, D4, _, _, rfl⟩ (fun i σ' H' _ ⟨e, _⟩ => sql (e.keep _ _ hq4 (nm1 nqD))) ?_ ?_
        · rintro N i x σ' H5 hx ⟨e5, hD5, u, v, rfl⟩ hN
          have hin : i < n := by
            obtain ⟨l, _⟩ := List.getElem?_eq_some_iff.mp hx
            omega
          obtain ⟨a, ha, da⟩ := ds4.2 i hin
          rw [ha] at hx
          cases hx
          have naD : a ≠ D := fun z => by
            obtain ⟨a', ha', da'⟩ := hds.2 i hin
            rw [ha] at ha'
            cases ha'
            exact da'.ne nD0 z
          have a5 := da.ext e5 (nm1 naD)
          obtain ⟨kva, ksa, hpa, mpa⟩ := id a5
          walk_at "go"
          refine w_lock hpa trivial (fun z => z) fun od' H6 L' => ?_
          walk_at "go"
          refine w_keysT rfl L'.at ?_
          have a6 := a5.dr.lk L'
          have D6 := hD5.lk L' naD.symm
          refine z_for_keysT mpa (fun j σ' H' => Ext [D] H6 H' ∧ DM U H' D (ovr (ksa.take j) (fun s => some (oD (G (i + 1) s))) (fnd M.tk G i)) ∧ ∃ u, σ' = [some (.ref im), some (.ref q), u, some (.ref D), some (.ref a)]) ⟨Ext.refl, by rw [List.take_zero, ovr_nil]; exact D6, _, rfl⟩ (fun j σ' H' _ ⟨e, _⟩ => e.imm _ _ L'.at trivial) ?_ ?_
          · rintro N' j s c b σ' H7 hsj hc hb ⟨e7, hD7, u, rfl⟩ hN'
            have a7 := a6.ext e7 (nm1 naD)
            obtain ⟨ne, rfl⟩ := btw_some hc
            walk_at "go"
            refine w_dgetT a7 hb hc fun v iv => ?_
            obtain ⟨a', y', z', rfl, ha', iy', iz'⟩ := im_pair iv
            walk_at "go"
            refine w_dputT hU hD7 hb (mpa.sub _ (List.mem_of_getElem? hsj)) iz' fun H8 e8 h8 => ?_
            refine hN' _ _ ⟨e7.trans e8, ?_, _, rfl⟩
            rw [take_snoc hsj]
            rwa [ovr_put (f := fun s => some (oD (G (i + 1) s))) rfl] at h8
          · rintro σ' H7 ⟨e7, hD7, u, rfl⟩
            rw [List.take_length, fnd_step fun s => mpa.mem] at hD7
            refine w_unlock L' e7 fun H8 e8 kp' => ?_
            exact hN _ _ ⟨e5.trans e8, dm_unlk L' e7 kp' naD.symm hD7, _, _, rfl⟩
        · rintro σ' H5 ⟨e5, hD5, u, v, rfl⟩
          rw [la] at hD5
          have e05 : Ext [] H H5 := e4.dropq e5 nD0
          walk_at "go"
          refine w_dc ?_
          walk_at "go"
          refine w_sortT hD5.dr fun p0 bs0 ts0 H6 e6 np0 h6 s6 nd6 m6 z6 o6 => ?_
          refine ⟨p0, rfl, ⟨_, sql h6⟩, fun R nR => ?_⟩
          have hD6 := hD5.ext e6 List.not_mem_nil
          refine z_dc_list (xs := bs0.map V.ref) (fun i H' => Ext [] H6 H' ∧ DM U H' R (resF (ts0.take i) (clean (fnd M.tk G n)))) (fun H' e h => ⟨e, by rw [List.take_zero, resF_nil]; exact DM.nil h⟩) nR (fun i H' _ ⟨e, _⟩ => sql (e.keep _ _ h6 List.not_mem_nil)) ?_ ?_
          · rintro Nx i x H7 hx ⟨e7, hR7⟩ hN
            obtain ⟨b, s, rfl, hb, hs, hb2⟩ := s6.get hx
            have hb3 := e7.tup hb2
            have hD7 := hD6.ext e7 List.not_mem_nil
            obtain ⟨c, hc⟩ := Option.isSome_iff_exists.mp ((m6 s).mp (List.mem_of_getElem? hs))
            walk_at "go"
            refine ⟨rfl, ?_⟩
            walk_at "go"
            refine w_dgetT hD7.dr hb3 hc fun v iv => ?_
            walk_at "go"
            by_cases z : c = .none
            · subst z
              cases iv
              refine w_f rfl ?_
              refine hN _ ⟨e7, ?_⟩
              rw [take_snoc hs, resF_skip (F := clean (fnd M.tk G n)) (show clean1 (fnd M.tk G n s) = none by rw [hc]; rfl)]
              exact hR7
            · have nv : v ≠ .non := fun y => by subst y; cases iv; exact z rfl
              refine w_t (by rw [decide_eq_false nv]; rfl) ?_
              walk_at "go"
              refine w_dgetT hD7.dr hb3 hc fun v iv => ?_
              refine w_dcput hU hR7 hb3 (hD5.fsub (by rw [hc]; rfl)) iv fun H8 e8 h8 => ?_
              refine hN _ ⟨e7.dropq e8 nR, ?_⟩
              rw [take_snoc hs]
              rwa [resF_put (F := clean (fnd M.tk G n)) (show clean1 (fnd M.tk G n s) = some c by
                rw [hc]
                cases c <;> first | rfl | exact absurd rfl z)] at h8
          · rintro H7 ⟨e7, hR7⟩
            rw [List.length_map, s6.len, List.take_length, resF_all fun s ns => ?_] at hR7
            · exact k R H7 ((e05.trans e6).trans e7) ((e05.trans e6).free nR) hR7
            · have : fnd M.tk G n s = none := Option.not_isSome_iff_eq_none.mp fun z => ns ((m6 s).mpr z)
              show clean1 (fnd M.tk G n s) = none
              rw [this]; rfl
    · walk_at "if"
      rw [la]
      refine w_d (fun h => ?_) fun h => ?_
      · walk_at "go"
        refine w_mkN ?_
        walk_at "go"
        refine ⟨_, rfl, fun dd ndd => ?_⟩
        rw [la]
        exact kn hw h dd _ (Ext.new ndd) upd_same
      · walk_at "go"
        exact hn _ _ ⟨rfl, h, rfl⟩
  · walk_at "if"
    cases hw : M.w with
    | true =>
      refine w_f rfl ?_
      walk_at "go"
      exact hn _ _ ⟨rfl, hw, rfl⟩
    | false =>
      refine w_t rfl ?_
      walk_at "go"
      refine w_mkP ?_
      walk_at "go"
      refine ⟨_, rfl, fun dd ndd => ?_⟩
      exact kw hw dd _ (Ext.new ndd) upd_same

/-! ### the states of the line -/
def Sts (U : List Zk.Slot) (H : Hp) (as : List Addr) (gs : List Fd) : Prop := Paired (fun a f => DM U H a f ∧ Stt f) as gs
theorem Sts.ext {U : List Zk.Slot} {H H' : Hp} {as : List Addr} {gs : List Fd} {M : List Addr} (h : Sts U H as gs) (e : Ext M H H') (n : ∀ a f, DM U H a f → a ∉ M) : Sts U H' as gs := Paired.mapP h fun _ _ z => ⟨z.1.ext e (n _ _ z.1), z.2⟩
theorem Sts.len {U : List Zk.Slot} {H : Hp} {as : List Addr} {gs : List Fd} (h : Sts U H as gs) : as.length = gs.length := paired_len h
def gOf (gs : List Fd) (k : Nat) : Fd := (gs[k]?).getD fun _ => none
theorem Sts.at {U : List Zk.Slot} {H : Hp} {as : List Addr} {gs : List Fd} (h : Sts U H as gs) {k : Nat} (l : k < as.length) : ∃ a, (as.map V.ref)[k]? = some (.ref a) ∧ DM U H a (gOf gs k) := by
  obtain ⟨f, hf, hd, _⟩ := paired_at h (List.getElem?_eq_getElem l)
  refine ⟨as[k], by rw [List.getElem?_map, List.getElem?_eq_getElem l]; rfl, ?_⟩
  unfold gOf
  rw [hf]; exact hd
theorem Sts.stt {U : List Zk.Slot} {H : Hp} {as : List Addr} {gs : List Fd} (h : Sts U H as gs) : ∀ k, Stt (gOf gs k) := fun k => by
  unfold gOf
  cases e : gs[k]? with
  | none => exact stt_none
  | some f =>
    obtain ⟨l, _⟩ := List.getElem?_eq_some_iff.mp e
    have l' : k < as.length := by rw [h.len]; exact l
    obtain ⟨f', hf, _, st⟩ := paired_at h (List.getElem?_eq_getElem l')
    rw [e] at hf
    cases hf
    exact st
theorem at_int {xs : List V} {k : Nat} {j : Int} {v : V} (h : xs[k]? = some v) (e : j = k) : atI xs j = some v := by subst e; exact atI_nat h
theorem at_last {xs : List V} {k : Nat} {v : V} (h : xs[k]? = some v) (l : xs.length = k + 1) : atI xs (-1) = some v := by
  have hk : k < xs.length := by omega
  have ne : xs ≠ [] := List.ne_nil_of_length_pos (by omega)
  have e := List.dropLast_concat_getLast ne
  have e2 : xs.getLast ne = v := by
    rw [List.getLast_eq_getElem]
    have : xs.length - 1 = k := by omega
    rw [List.getElem?_eq_getElem hk] at h
    cases h
    congr 1
  rw [← e, e2]
  exact atI_last _ _
def sp_law_states (K : PySem.W.Frag) : Sp := sp1 fun a H Q => ∃ (p : Addr), a = .ref p ∧ PoolAt K H p ∧ ∀ o U as (gs : List Fd) H', Pln U → Ext [p] H H' → PoolAt K H' p → H o = none → H' o = some (.lst (as.map V.ref)) → Sts U H' as gs → 3 ≤ as.length → as.length ≤ 41 → o ≠ p → Q (.ref o) H'
theorem ok_law_states (T : Txt K mg) : FnOk P w K mg base CX0 9 T.f__law_states T.d__law_states ["pool"] (sp_law_states K) := by
  refine T.F__law_states.ok sc_law_states len1 (fun cdv A outer s H vs Q E hr h => ?_)
  have nd := sc_law_states.nd
  have hu := hu_of hr
  obtain ⟨_, rfl, p, rfl, hP, k⟩ := h
  refine ⟨_,
      (pss_cons (ps_set (i := 1) nd rfl (Or.inl rfl) (pe_ifExp (pt_cmpR op_eq (pe_call (ok_law_draw T) (hr.mono (by decide)) (by rfl) T.g__law_draw T.F__law_draw.kp T.k__law_draw .nil pass0 (pa_cons (pv 0) (pa_cons pe_int pa_nil))) pe_int (nomark _)) pe_int pe_int)) 
      (pss_cons (ps_set (i := 2) nd rfl (Or.inl rfl) (pe_call (ok_law_universe T) (hr.mono (by decide)) (by rfl) T.g__law_universe T.F__law_universe.kp T.k__law_universe .nil pass0 (pa_cons (pv 0) (pa_cons (pv 1) pa_nil)))) 
      (pss_cons (ps_set (i := 3) nd rfl (Or.inl rfl) pe_dnewTZ) 
      (pss_cons (ps_for PassesOwn.never rfl (pi_list (pv 2)) (pg_name (i := 4) nd rfl (Or.inl rfl)) 
        (pss_one (ps_if (pt_cmpR op_gt (pv 1) pe_int (nomark _)) 
          (pss_one (ps_dput hu (pv 3) (pv 4) (pe_call (ok_law_content T) (hr.mono (by decide)) (by rfl) T.g__law_content T.F__law_content.kp T.k__law_content .nil pass0 (pa_cons (pv 0) (pa_cons (pv 4) pa_nil))) rfl)) pss_nil))) 
      (pss_cons (ps_set (i := 5) nd rfl (Or.inl rfl) (pe_lstZ (pa_cons (pe_call (ok_law_moved T) (hr.mono (by decide)) (by rfl) T.g__law_moved T.F__law_moved.kp T.k__law_moved .nil pass0 (pa_cons (pv 0) (pa_cons (pv 2) (pa_cons (pv 3) (pa_cons pe_int pa_nil))))) pa_nil))) 
      (pss_cons (ps_for PassesOwn.never rfl (pi_range1 (by rfl) T.b_range (pa_cons (pe_op op_add pe_int (pe_call (ok_law_draw T) (hr.mono (by decide)) (by rfl) T.g__law_draw T.F__law_draw.kp T.k__law_draw .nil pass0 (pa_cons (pv 0) (pa_cons pe_int pa_nil)))) pa_nil)) (pg_name (i := 6) nd rfl (Or.inl rfl)) 
        (pss_cons (ps_expr (pe_call (ok_law_next T) (hr.mono (by decide)) (by rfl) T.g__law_next T.F__law_next.kp T.k__law_next .nil pass0 (pa_cons (pv 0) pa_nil))) 
        (pss_one (ps_expr (pe_bm PySem.F.plainAttrs_list PySem.F.slot_list_append PySem.F.type_list_append zmt_append (pv 5) (pa_cons (pe_call (ok_law_moved T) (hr.mono (by decide)) (by rfl) T.g__law_moved T.F__law_moved.kp T.k__law_moved .nil pass0 (pa_cons (pv 0) (pa_cons (pv 2) (pa_cons (pe_ix ix_list (pv 5) (pe_un un_neg pe_int) (fun _ _ => rfl)) (pa_cons pe_int pa_nil))))) pa_nil)))))) 
      (pss_one (ps_ret (pv 5))))))))), ?_⟩
  change (_ : TS) _ [some _, none, none, none, none, none, none] _
  try dsimp only [cxOf, Cx.nox, Cx.wish]
  walk_at "go"
  refine w_cutE (fun v' H' => Ext [p] H H' ∧ PoolAt K H' p ∧ ∃ mn : Int, v' = .int mn ∧ 1 ≤ mn ∧ mn ≤ 100) ?_ fun Q' hQ => ?_
  · rintro _ H1 ⟨e1, P1, mn, rfl, m1, m2⟩
    walk_at "go"
    refine w_universe m1 m2 P1 fun o bs ss H2 e2 P2 no h2 hss l1 l8 hsg nop => ?_
    have hU : Pln ss := ⟨by omega, hsg⟩
    have hsU : ∀ s ∈ ss, s ∈ ss := fun s m => m
    walk_at "go"
    refine w_alc fun S H3 e3 n3 h3 => ?_
    walk_at "go"
    have P3 := P2.ext e3 List.not_mem_nil
    have ho3 := e3.keep _ _ h2 List.not_mem_nil
    have hs3 := hss.ext e3
    have nSp : S ≠ p := (P2.ne n3).symm
    have noS : o ≠ S := ne_of_none h2 n3
    have e03 : Ext [p] H H3 := (e1.trans e2).trans e3.up
    have nS0 : H S = none := (e1.trans e2).free n3
    refine ⟨o, rfl, ⟨_, sql ho3⟩, ?_⟩
    refine z_for_list (xs := bs.map V.ref) (fun i σ' H' => Ext [S, p] H3 H' ∧ PoolAt K H' p ∧ (∃ f, DM ss H' S f ∧ Stt f) ∧ ∃ u, σ' = [some (.ref p), some (.int mn), some (.ref o), some (.ref S), u, none, none]) ⟨Ext.refl, P3, ⟨_, DM.nil h3, stt_none⟩, _, rfl⟩ (fun i σ' H' _ ⟨e, _⟩ => sql (e.keep _ _ ho3 (nm2 noS nop))) ?_ ?_
    · rintro N i x σ' H4 hx ⟨e4, P4, ⟨f, hf, sf⟩, u, rfl⟩ hN
      obtain ⟨b, s, rfl, hb, hs, hb2⟩ := (hs3.ext e4).get hx
      walk_at "go"; walk_at "if"
      refine w_d (fun h => ?_) fun h => ?_
      · walk_at "go"
        refine w_content P4 hb2 fun v d H5 e5 P5 im co => ?_
        walk_at "go"
        refine w_dputT hU.1 (hf.ext e5 (nm1 nSp)) (e5.tup hb2) (List.mem_of_getElem? hs) im fun H6 e6 h6 => ?_
        exact hN _ _ ⟨(e4.trans (e5.mono fun x m => List.mem_cons_of_mem _ m)).trans (e6.mono fun x m => by rw [List.mem_singleton.mp m]; exact List.mem_cons_self), P5.ext e6 (nm1 nSp.symm), ⟨_, h6, stt_put sf co⟩, _, rfl⟩
      · walk_at "go"
        exact hN _ _ ⟨e4, P4, ⟨f, hf, sf⟩, _, rfl⟩
    · rintro σ' H4 ⟨e4, P4, ⟨f, hf, sf⟩, u, rfl⟩
      have ho4 := e4.keep _ _ ho3 (nm2 noS nop)
      have hs4 := hs3.ext e4
      have e04 : Ext [p] H H4 := Ext.drop e03 e4 nS0
      walk_at "go"
      refine w_moved (by decide) (by decide) hU P4 ho4 nop hs4 l1 (by omega) hsU hf sf fun r g H5 e5 P5 nr hr sr => ?_
      walk_at "go"
      refine ⟨sz (by show 1 ≤ _; decide), w_alc fun L H6 e6 nL hL => ?_⟩
      walk_at "go"
      have P6 := P5.ext e6 List.not_mem_nil
      have nLp : L ≠ p := (P5.ne nL).symm
      have ho6 := e6.keep _ _ (e5.keep _ _ ho4 (nm1 nop)) List.not_mem_nil
      have hs6 := (hs4.ext e5).ext e6
      have noL : o ≠ L := ne_of_none (e5.keep _ _ ho4 (nm1 nop)) nL
      have e06 : Ext [p] H H6 := (e04.trans e5).trans e6.up
      have nL0 : H L = none := (e04.trans e5).free nL
      refine w_draw P6 (by decide) (by decide) fun x H7 x0 x1 e7 P7 => ?_
      walk_at "go"
      have hL7 := e7.keep _ _ hL (nm1 nLp)
      have r7 := (hr.ext e6 List.not_mem_nil).ext e7 (nm1 (pd_ne P6 (hr.ext e6 List.not_mem_nil)))
      refine ⟨_, rfl, by omega, by omega, z_for_range (lo := 0) (fun i σ' H' => ∃ (as : List Addr) (gs : List Fd) (u v : Option V), σ' = [some (.ref p), some (.int mn), some (.ref o), some (.ref S), u, some (.ref L), v] ∧ Ext [L, p] H6 H' ∧ PoolAt K H' p ∧ H' L = some (.lst (as.map V.ref)) ∧ Sts ss H' as gs ∧ as.length = i + 1)
        ⟨[r], [g], _, _, rfl, e7.mono fun x m => List.mem_cons_of_mem _ m, P7, hL7, .cons ⟨r7, sr⟩ .nil, rfl⟩ ?_ ?_⟩
      · rintro N i σ' H8 hi ⟨as, gs, u, v, rfl, e8, P8, hL8, ds, la⟩ hN
        walk_at "go"
        refine w_next_ P8 fun H9 e9 P9 => ?_
        walk_at "go"
        have hL9 := e9.keep _ _ hL8 (nm1 nLp)
        have ds9 := ds.ext e9 fun a f h => nm1 (pd_ne P8 h)
        have e69 : Ext [L, p] H6 H9 := e8.trans (e9.mono fun x m => List.mem_cons_of_mem _ m)
        obtain ⟨a, ha, da⟩ := ds9.at (k := i) (by omega)
        refine w_ixL (sql hL9) (at_last ha (by rw [List.length_map, la])) ?_
        walk_at "go"
        refine w_moved (by decide) (by decide) hU P9 (e69.keep _ _ ho6 (nm2 noL nop)) nop (hs6.ext e69) l1 (by omega) hsU da (ds9.stt i) fun r g HA eA PA nr hr sr => ?_
        have hLA := eA.keep _ _ hL9 (nm1 nLp)
        have dsA := ds9.ext eA fun a f h => nm1 (pd_ne P9 h)
        walk_at "go"
        refine w_append hLA (szl (by rw [List.length_map]; omega)) ?_
        refine w_chg hLA (fun z => z) fun HB eB hB => ?_
        rw [← List.map_singleton (f := V.ref), ← List.map_append] at hB
        walk_at "go"
        have nL' : ∀ a f, DM ss HA a f → a ∉ [L] := fun a f h => nm1 (ld_ne hLA h)
        exact hN _ _ ⟨as ++ [r], gs ++ [g], _, _, rfl, (e69.trans (eA.mono fun x m => List.mem_cons_of_mem _ m)).trans (eB.mono fun x m => by rw [List.mem_singleton.mp m]; exact List.mem_cons_self), PA.ext eB (nm1 nLp.symm), hB,
          paired_snoc ⟨hr.ext eB (nL' _ _ hr), sr⟩ (dsA.ext eB nL'), by rw [List.length_append, la]; rfl⟩
      · rintro σ' H8 ⟨as, gs, u, v, rfl, e8, P8, hL8, ds, la⟩
        walk_at "go"
        exact k L ss as gs H8 hU (Ext.drop e06 e8 nL0) P8 nL0 hL8 ds (by omega) (by omega) nLp
  · walk_at "ife"
    refine w_draw hP (by decide) (by decide) fun x H1 x0 x1 e1 P1 => ?_
    walk_at "go"
    refine w_d (fun h => ?_) fun h => ?_
    · walk_at "go"
      exact hQ _ _ ⟨e1, P1, 100, rfl, by decide, by decide⟩
    · walk_at "go"
      exact hQ _ _ ⟨e1, P1, 19, rfl, by decide, by decide⟩
theorem w_states {H : Hp} {p : Addr} {Q : VK} {E : XK} (hP : PoolAt K H p) (k : ∀ o U as (gs : List Fd) H', Pln U → Ext [p] H H' → PoolAt K H' p → H o = none → H' o = some (.lst (as.map V.ref)) → Sts U H' as gs → 3 ≤ as.length → as.length ≤ 41 → o ≠ p → Q (.ref o) H') : sp_law_states K ([.ref p] ++ []) H Q E := ⟨_, rfl, p, rfl, hP, k⟩

/-! ### what the law hears of a copier -/
def sMom : Str := Str.ofString "moment"
def sPhs : Str := Str.ofString "phase"
theorem w_callS {sp : Sp} {E : L2.St → XK} {tl : TA} {σ : L2.St} {H : Hp} {Q : VK} (h : tl σ H fun vs H1 => sp vs H1 Q (E σ)) : tCallS sp E tl σ H Q := h
theorem w_isEE {C a dd : Addr} {c : V} {cv : Value} {b : Bool} {fs : List (Str × V)} {H : Hp} {Q : VK} (i : ExcC K C) (r : ∀ u, RelV c u → u = cv) (h : H dd = some (.xd fs)) (k : PySem.W.kitOne K (.ref C) cv = some b) (q : Q (.bl b) H) : rIsEE K a (.ref C) (some dd) [.ref a, c] H Q :=
  ⟨C, dd, rfl, rfl, i, c, cv, b, fs, rfl, r, h, k, q⟩
theorem w_xf {a C dd : Addr} {n : Str} {te : TE} {σ : L2.St} {H : Hp} {Q : VK} (h : te σ H fun x H1 => x = .ref a ∧ (.ref C : Value) = .ref C ∧ ∃ (d2 : Addr) (fs : List (Str × V)) (v : V), some dd = some d2 ∧ H1 d2 = some (.xd fs) ∧ fs.lookup n = some v ∧ Q v H1) : tXf a (.ref C) (some dd) C n te σ H Q := h
def sp_law_finish (CI : Addr) (K : PySem.W.Frag) : Sp := sp2 fun a b H Q => ∃ (U : List Zk.Slot) (im d q : Addr) (M : Img) (as : List Addr) (n : Nat) (G : Nat → Fd), a = .ref im ∧ b = .ref q ∧ U.length ≤ 1000 ∧ ImgAt CI U H im d M ∧ H q = some (.lst (as.map V.ref)) ∧ n ≤ 1000 ∧ Diffs U H as n G ∧
  (M.w = false → ∀ o H', Ext [] H H' → H o = none → H' o = some (.lst [.str sPhs, .str sCopy]) → Q (.ref o) H') ∧ (M.w = true → M.b + n < M.h → ∀ o H', Ext [] H H' → H o = none → H' o = some (.lst [.str sMom, .int (M.b + n)]) → Q (.ref o) H') ∧
  (M.w = true → ¬ M.b + n < M.h → ∀ r o H', Ext [] H H' → H r = none → H o = none → H' o = some (.lst [.ref r]) → DM U H' r (clean (fnd M.tk G n)) → Q (.ref o) H')
theorem ok_law_finish (T : Txt K mg) (TE : Errs P K mg) : FnOk P w K mg base CX0 3 T.f__law_finish T.d__law_finish ["image", "differences"] (sp_law_finish T.C_ImageCopier K) := by
  refine T.F__law_finish.ok sc_law_finish len2 (fun cdv A outer s H vs Q E hr h => ?_)
  have nd := sc_law_finish.nd
  have hu := hu_of hr
  obtain ⟨_, _, rfl, U, im, d, q, M, as, n, G, rfl, rfl, hU, hI, hq, n1, hds, kw, kn, k⟩ := h
  refine ⟨_,
      (pss_one (ps_try_all (Wout := fun _ _ _ _ => False) rfl rfl nd takesNo (fun W pn xe tk _ => 
        (pss_one (ps_ret (pe_lstZ (pa_cons (pe_methT (pv 0) T.c_ImageCopier T.m_ImageCopier_finish (ok_ImageCopier_finish T TE) (hr.mono (by decide)) T.k_ImageCopier_finish (fun σ => passAt tk σ) (pa_cons (pv 1) pa_nil)) pa_nil))))) (HdsZ.named (i := 2) rfl rfl ⟨rfl, by decide, Or.inl TE.g_WrongPhase⟩ (fun a oe cls d pn hz hf => 
        (pss_one (ps_ret (pe_lstZ (pa_cons (pe_ifExp (pt_val (pe_callB (call_isEE hz hf) (by rfl) T.b_isinstance (by decide +kernel) (pa_cons (pv 2) (pa_cons (pe_glob (v := .ref TE.C_StoreError) rfl TE.g_StoreError rfl) pa_nil)))) pe_str pe_str) (pa_cons (pe_xf TE.x_WrongPhase TE.E_WrongPhase.noN hz hf (pv 2)) pa_nil)))))) (HdsZ.named (i := 2) rfl rfl ⟨rfl, by decide, Or.inl TE.g_NoMoment⟩ (fun a oe cls d pn hz hf => 
        (pss_one (ps_ret (pe_lstZ (pa_cons (pe_ifExp (pt_val (pe_callB (call_isEE hz hf) (by rfl) T.b_isinstance (by decide +kernel) (pa_cons (pv 2) (pa_cons (pe_glob (v := .ref TE.C_StoreError) rfl TE.g_StoreError rfl) pa_nil)))) pe_str pe_str) (pa_cons (pe_xf TE.x_NoMoment TE.E_NoMoment.noN hz hf (pv 2)) pa_nil)))))) HdsZ.nil)))), ?_⟩
  change (_ : TS) _ [some _, some _, none] _
  try dsimp only [cxOf, Cx.nox, Cx.wish]
  obtain ⟨dx, lv, hi, hd, hl⟩ := id hI
  walk_at "go"
  refine w_meth hi no_ImageCopier_finish ?_
  walk_at "go"
  refine ⟨_, _, rfl, U, im, d, q, M, as, n, G, rfl, rfl, hU, hI, hq, n1, hds, fun hw => ?_, fun hw hh => ?_, fun hw hh r H1 e1 nr hr => ?_⟩
  · intro dd H1 e1 h1
    refine ⟨true, TE.t_WrongPhase, fun _ a na => ?_, fun z => nomatch z⟩
    dsimp only [behindAs]
    walk_at "go"; walk_at "ife"
    refine w_isEE TE.i_WrongPhase (fun u r => r) h1 TE.k_s1 ?_
    walk_at "go"
    refine w_xf ?_
    walk_at "go"
    refine ⟨rfl, rfl, dd, _, _, rfl, h1, lk_same, ?_⟩
    walk_at "go"
    refine ⟨sz (by show 2 ≤ _; decide), w_alc fun o H2 e2 n2 h2 => ?_⟩
    exact kw hw o H2 (e1.trans e2) (e1.free n2) h2
  · intro dd H1 e1 h1
    refine ⟨false, TE.n_NoMoment_WrongPhase, (fun z => nomatch z), fun _ => ⟨true, TE.t_NoMoment, fun _ a na => ?_, fun z => nomatch z⟩⟩
    dsimp only [behindAs]
    walk_at "go"; walk_at "ife"
    refine w_isEE TE.i_NoMoment (fun u r => r) h1 TE.k_s2 ?_
    walk_at "go"
    refine w_xf ?_
    walk_at "go"
    refine ⟨rfl, rfl, dd, _, _, rfl, h1, lk_same, ?_⟩
    walk_at "go"
    refine ⟨sz (by show 2 ≤ _; decide), w_alc fun o H2 e2 n2 h2 => ?_⟩
    exact kn hw hh o H2 (e1.trans e2) (e1.free n2) h2
  · walk_at "go"
    refine ⟨sz (by show 1 ≤ _; decide), w_alc fun o H2 e2 n2 h2 => ?_⟩
    exact k hw hh r o H2 (e1.trans e2) nr (e1.free n2) h2 (hr.ext e2 List.not_mem_nil)
def sp_law_take (CI : Addr) (K : PySem.W.Frag) : Sp := sp4 fun a b c e H Q => ∃ (U : List Zk.Slot) (im d q : Addr) (M : Img) (f : Fd) (pos : Int) (n : Nat), a = .ref im ∧ b = .int pos ∧ c = .ref q ∧ e = .int (n : Int) ∧ Pln U ∧ ImgAt CI U H im d M ∧ DM U H q f ∧ q ≠ d ∧ Stt f ∧ 1 ≤ n ∧ n ≤ 100 ∧
  (pos < M.b → ∀ o H', Ext [] H H' → H o = none → H' o = some (.lst [.str sMom, .int pos]) → Q (.ref o) H') ∧ (¬ pos < M.b → ∀ M' o H', (M.w = true ∧ M' = M ∨ M.w = false ∧ Took M pos f n M') → Ext [im, d] H H' → ImgAt CI U H' im d M' → H o = none → H' o = some (.lst [.non]) → Q (.ref o) H')
theorem ok_law_take (T : Txt K mg) (TE : Errs P K mg) : FnOk P w K mg base CX0 3 T.f__law_take T.d__law_take ["image", "position", "slots", "count"] (sp_law_take T.C_ImageCopier K) := by
  refine T.F__law_take.ok sc_law_take len4 (fun cdv A outer s H vs Q E hr h => ?_)
  have nd := sc_law_take.nd
  have hu := hu_of hr
  obtain ⟨_, _, _, _, rfl, U, im, d, q, M, f, pos, n, rfl, rfl, rfl, rfl, hU, hI, hf, nqd, sf, n1, n2, kx, k⟩ := h
  refine ⟨_,
      (pss_one (ps_try_as (i := 4) (Wout := fun _ _ _ _ => False) rfl rfl nd rfl rfl ⟨rfl, by decide, Or.inl TE.E_NoMoment.gC⟩ takes0 (fun W pn xe tk _ => 
        (pss_one (ps_ret (pe_lstZ (pa_cons (pe_methT (pv 0) T.c_ImageCopier T.m_ImageCopier_take_slots (ok_ImageCopier_take_slots T TE) (hr.mono (by decide)) T.k_ImageCopier_take_slots (fun σ => passAt tk σ) (pa_cons (pv 1) (pa_cons (pv 2) (pa_cons (pv 3) pa_nil)))) pa_nil))))) (fun a oe cls d pn hz hf => 
        (pss_one (ps_ret (pe_lstZ (pa_cons pe_str (pa_cons (pe_xf TE.x_NoMoment TE.E_NoMoment.noN hz hf (pv 4)) pa_nil)))))))), ?_⟩
  change (_ : TS) _ [some _, some _, some _, some _, none] _
  try dsimp only [cxOf, Cx.nox, Cx.wish]
  obtain ⟨dx, lv, hi, hd, hl⟩ := id hI
  walk_at "go"
  refine w_meth hi no_ImageCopier_take_slots ?_
  walk_at "go"
  refine ⟨_, _, _, _, rfl, U, im, d, q, M, f, pos, n, rfl, rfl, rfl, rfl, hU, hI, hf, nqd, sf, n1, n2, fun hh => ?_, fun hh hw H1 e1 => ?_, fun hh hw M' H1 tk e1 hI1 => ?_⟩
  · intro dd H1 e1 h1
    refine ⟨true, TE.t_NoMoment, fun _ a na => ?_, fun z => nomatch z⟩
    dsimp only
    walk_at "go"
    refine w_xf ?_
    walk_at "go"
    refine ⟨rfl, rfl, dd, _, _, rfl, h1, lk_same, ?_⟩
    walk_at "go"
    refine ⟨sz (by show 2 ≤ _; decide), w_alc fun o H2 e2 n2 h2 => ?_⟩
    exact kx hh o H2 (e1.trans e2) (e1.free n2) h2
  · walk_at "go"
    refine ⟨sz (by show 1 ≤ _; decide), w_alc fun o H2 e2 n2 h2 => ?_⟩
    exact k hh M o H2 (.inl ⟨hw, rfl⟩) (e1.trans e2).up (hI.ext (e1.trans e2) List.not_mem_nil List.not_mem_nil) (e1.free n2) h2
  · walk_at "go"
    refine ⟨sz (by show 1 ≤ _; decide), w_alc fun o H2 e2 n2 h2 => ?_⟩
    exact k hh M' o H2 (.inr ⟨hw, tk⟩) (e1.trans e2.up) (hI1.ext e2 List.not_mem_nil List.not_mem_nil) (e1.free n2) h2
/-! ### the law's own image: a list -/
def ModAt (U : List Zk.Slot) (H : Hp) (mo md : Addr) (M : Img) : Prop := ∃ lv, H mo = some (.lst [.int M.b, .int M.h, lv, .ref md, .bl M.w]) ∧ DM U H md M.tk ∧ LastAt H lv M.last
theorem ModAt.ext {U : List Zk.Slot} {Ms : List Addr} {H H' : Hp} {mo md : Addr} {M : Img} (h : ModAt U H mo md M) (e : Ext Ms H H') (n1 : mo ∉ Ms) (n2 : md ∉ Ms) : ModAt U H' mo md M := by
  obtain ⟨lv, h1, h2, h3⟩ := h
  exact ⟨lv, e.keep _ _ h1 n1, h2.ext e n2, h3.ext e⟩
def sp_law_settled (K : PySem.W.Frag) : Sp := sp4 fun a b c e H Q => ∃ (U : List Zk.Slot) (mo md q : Addr) (M : Img) (f : Fd) (pos : Int) (n : Nat), a = .ref mo ∧ b = .int pos ∧ c = .ref q ∧ e = .int (n : Int) ∧ Pln U ∧ ModAt U H mo md M ∧ DM U H q f ∧ q ≠ md ∧ Stt f ∧ 1 ≤ n ∧ n ≤ 100 ∧
  ∀ M' H', (M.w = true ∧ M' = M ∨ M.w = false ∧ Took M pos f n M') → Ext [mo, md] H H' → ModAt U H' mo md M' → Q .non H'
theorem ok_law_settled (T : Txt K mg) : FnOk P w K mg base CX0 1 T.f__law_settled T.d__law_settled ["model", "position", "slots", "count"] (sp_law_settled K) := by
  refine T.F__law_settled.ok sc_law_settled len4 (fun cdv A outer s H vs Q E hr h => ?_)
  have nd := sc_law_settled.nd
  have hu := hu_of hr
  obtain ⟨_, _, _, _, rfl, U, mo, md, q, M, f, pos, n, rfl, rfl, rfl, rfl, ⟨hU, hS⟩, hM, hf, nqd, sf, n1, n2, k⟩ := h
  refine ⟨_,
      (pss_cons (ps_if (pt_val (pe_ix ix_list (pv 0) pe_int (fun _ _ => rfl))) 
        (pss_one ps_retN) pss_nil) 
      (pss_cons (ps_setLc (i := 5) (own := [("slot", 4)]) rfl nd rfl rfl (sw_true rfl rfl rfl (by decide +kernel)) (pi_list (pe_callB (zc_sortT rfl) (by rfl) T.b_sorted (by decide +kernel) (pa_cons (pv 2) pa_nil))) (blkOk_by (own := [("slot", 4)]) (N := ["model", "position", "slots", "count", "slot", "left"]) (sc := defScope s_law_settled) (by decide +kernel)) (fun _ _ _ _ _ => (pg_name (i := 4) nd rfl (Or.inl rfl))) (fun _ _ _ _ _ => (pts_one (PW.pt (pw_or (pt_cmpR zop_isN (pe_ix (ix_listK (K := K) rfl) (pv 0) pe_int (fun _ _ => rfl)) pe_non (nomark _)) (pw_or1 (pt_cmpR (op_gtD (K := K) rfl hr.units) (pv 4) (pe_ix (ix_listK (K := K) rfl) (pv 0) pe_int (fun _ _ => rfl)) (nomark _))))))) (fun _ _ _ _ _ => (pv 4))) 
      (pss_cons (ps_for PassesOwn.never rfl (pi_list (pe_slice sl_list (pv 5) po_none (po_some (pv 3)))) (pg_name (i := 4) nd rfl (Or.inl rfl)) 
        (pss_cons (ps_dput hu (pe_ix ix_list (pv 0) pe_int (fun _ _ => rfl)) (pv 4) (pe_dget hu (pv 2) (pv 4) (fun _ _ => rfl)) rfl) 
        (pss_one (ps_asg (pv 4) (pg_sub (pv 0) pe_int zset_list))))) 
      (pss_cons (ps_asg (pe_cmpR op_le (pe_callB zc_len (by rfl) T.b_len (by decide +kernel) (pa_cons (pv 5) pa_nil)) (pv 3) (nomark _)) (pg_sub (pv 0) pe_int zset_list)) 
      (pss_one (ps_asg (pe_callB (call_max2 rfl) (by rfl) T.b_max (by decide +kernel) (pa_cons (pe_ix ix_list (pv 0) pe_int (fun _ _ => rfl)) (pa_cons (pv 1) pa_nil))) (pg_sub (pv 0) pe_int zset_list))))))), ?_⟩
  change (_ : TS) _ [some _, some _, some _, some _, none, none] _
  try dsimp only [cxOf, Cx.nox, Cx.wish]
  obtain ⟨lv, hi, hd, hl⟩ := id hM
  walk_at "go"
  refine w_cut (fun σ' H' => H = H' ∧ M.w = false ∧ σ' = [some (.ref mo), some (.int pos), some (.ref q), some (.int (n : Int)), none, none]) ?_ fun nx hn => ?_
  · rintro _ _ ⟨rfl, hw, rfl⟩
    walk_at "go"
    refine w_sortT hf.dr fun p0 bs0 ts0 H1 e1 np0 h1 s1 nd1 m1 z1 o1 => ?_
    have hk : Keys ts0 f := ⟨nd1, m1, o1⟩
    have hi1 := e1.keep _ _ hi List.not_mem_nil
    have hl1 := hl.ext e1
    refine ⟨p0, rfl, ⟨_, sql h1⟩, fun W nW => ?_⟩
    refine z_lc_list (xs := bs0.map V.ref) (fun i acc H' => Ext [] H1 H' ∧ ∃ cs, acc = cs.map V.ref ∧ SlotsAt H' cs ((ts0.take i).filter (beyond M.last))) nW (fun H' e => ⟨e, [], rfl, .nil⟩) (fun i acc H' _ ⟨e, _⟩ => sql (e.keep _ _ h1 List.not_mem_nil)) ?_ ?_
    · rintro Nx i x acc H2 hx ⟨e2, cs, rfl, hcs⟩ hW hNx
      obtain ⟨b, s, rfl, hb, hs, hb2⟩ := s1.get hx
      have hb3 := e2.tup hb2
      have hi2 := e2.keep _ _ hi1 List.not_mem_nil
      have hl2 := hl1.ext e2
      walk_at "go"
      refine ⟨rfl, ?_⟩
      walk_at "go"
      have fin : ∀ (z : Bool), z = beyond M.last s → (if z = true then tVar 4 ([some (V.ref mo), some (V.int pos), some (V.ref q), some (V.int (n : Int)), some (V.ref b), none]) H2 fun y H4 => ∃ acc, H4 W = some (HO.lst acc) ∧ acc.length < sizeLine ∧ Nx (upd H4 W (HO.lst (acc ++ [y]))) else Nx H2) := fun z hz => by
        subst hz
        cases hb' : beyond M.last s with
        | true =>
          refine w_t rfl ?_
          walk_at "go"
          have lz : cs.length ≤ 1000 := by
            rw [hcs.len]
            exact Nat.le_trans (List.length_filter_le _ _) (Nat.le_trans (List.length_take_le' _ _) (Nat.le_trans z1 hU))
          refine w_app hW (szl (by rw [List.length_map]; omega)) fun H4 e4 h4 => ?_
          rw [← List.map_singleton (f := V.ref), ← List.map_append] at h4
          refine hNx _ _ ⟨e2.dropq e4 nW, cs ++ [b], rfl, ?_⟩ h4
          rw [take_snoc hs, List.filter_append, List.filter_cons_of_pos hb']
          exact (hcs.ext e4).snoc (e4.tup hb3)
        | false =>
          refine w_f rfl ?_
          refine hNx _ _ ⟨e2, cs, rfl, ?_⟩ hW
          rw [take_snoc hs, List.filter_append, List.filter_cons_of_neg (by rw [hb']; exact fun y => nomatch y), List.filter_nil, List.append_nil]
          exact hcs
      cases hL : M.last with
      | none =>
        rw [hL] at hl2
        have hv : lv = .non := hl2
        subst hv
        refine w_t rfl ?_
        exact fin true (by rw [hL]; rfl)
      | some l =>
        rw [hL] at hl2
        obtain ⟨a, hv, ha⟩ := hl2
        subst hv
        refine w_f rfl ?_
        walk_at "go"
        refine w_gtS hb3 ha ?_
        walk_at "go"
        exact fin _ (by rw [hL]; rfl)
    · rintro acc H2 ⟨e2, cs, rfl, hcs⟩ hW
      rw [List.length_map, s1.len, List.take_length] at hcs
      change SlotsAt H2 cs (leftOf M ts0) at hcs
      have lcs : cs.length ≤ 1000 := by
        rw [hcs.len]
        exact Nat.le_trans (List.length_filter_le _ _) (Nat.le_trans z1 hU)
      walk_at "go"
      refine ⟨_, rfl, w_slL (sql hW) (w_alc fun P H3 e3 n3 h3 => ?_)⟩
      rw [cutV_take, ← List.map_take] at h3
      have hc3 := (hcs.ext e3).take n
      have e03 : Ext [] H H3 := (e1.trans e2).trans e3
      have hW3 := e3.keep _ _ hW List.not_mem_nil
      have nid : md ≠ mo := fun z => by
        obtain ⟨kv, ks, h, _⟩ := hd
        rw [z, hi] at h; cases h
      have nqi : q ≠ mo := fun z => by
        obtain ⟨kv, ks, h, _⟩ := hf
        rw [z, hi] at h; cases h
      have nW : W ∉ [mo, md] := nm2 ((ne_of_none hi ((e1.free nW))).symm) fun z => by
        obtain ⟨kv, ks, h, _⟩ := hd.ext e03 List.not_mem_nil
        rw [← z, hW3] at h; cases h
      have nP : P ∉ [mo, md] := nm2 ((ne_of_none hi ((e1.trans e2).free n3)).symm) fun z => by
        obtain ⟨kv, ks, h, _⟩ := hd.ext e03 List.not_mem_nil
        rw [← z, h3] at h; cases h
      walk_at "go"
      refine ⟨P, rfl, ⟨_, sql h3⟩, ?_⟩
      refine z_for_list (xs := (cs.take n).map V.ref) (fun i σ' H' => Ext [mo, md] H3 H' ∧ (∃ lv', H' mo = some (.lst [.int M.b, .int M.h, lv', .ref md, .bl M.w]) ∧ LastAt H' lv' (lastOf M.last (((leftOf M ts0).take n).take i))) ∧
        DM U H' md (ovr (((leftOf M ts0).take n).take i) f M.tk) ∧ ∃ u, σ' = [some (.ref mo), some (.int pos), some (.ref q), some (.int (n : Int)), u, some (.ref W)])
        ⟨Ext.refl, ⟨lv, e03.keep _ _ hi List.not_mem_nil, hl.ext e03⟩, by rw [List.take_zero, ovr_nil]; exact hd.ext e03 List.not_mem_nil, _, rfl⟩ (fun i σ' H' _ ⟨e, _⟩ => sql (e.keep _ _ h3 nP)) ?_ ?_
      · rintro N i x σ' H4 hx ⟨e4, ⟨lv4, hi4, hl4⟩, hd4, u, rfl⟩ hN
        obtain ⟨b, s, rfl, hb, hs, hb2⟩ := hc3.get hx
        have hb4 := e4.tup hb2
        have ms : s ∈ ts0 := (List.mem_filter.mp (List.mem_of_mem_take (List.mem_of_getElem? hs))).1
        have f4 := (hf.ext e03 List.not_mem_nil).ext e4 (nm2 nqi nqd)
        obtain ⟨c, hfs⟩ := Option.isSome_iff_exists.mp ((m1 s).mp ms)
        walk_at "go"
        refine w_dgetT f4.dr hb4 hfs fun v iv => ?_
        walk_at "go"
        refine w_dputT hU hd4 hb4 (hf.fsub (by rw [hfs]; rfl)) iv fun H5 e5 h5 => ?_
        have hi5 := e5.keep _ _ hi4 (nm1 nid.symm)
        walk_at "go"
        refine w_chg hi5 (fun z => z) fun H6 e6 h6 => ?_
        change H6 mo = some (.lst [.int M.b, .int M.h, .ref b, .ref md, .bl M.w]) at h6
        refine hN _ _ ⟨(e4.trans (e5.mono fun x m => by rw [List.mem_singleton.mp m]; exact List.mem_cons_of_mem _ List.mem_cons_self)).trans (e6.mono fun x m => by rw [List.mem_singleton.mp m]; exact List.mem_cons_self), ⟨_, h6, ?_⟩, ?_, _, rfl⟩
        · rw [take_snoc hs, lastOf_snoc]
          exact ⟨b, rfl, e6.tup (e5.tup hb4)⟩
        · rw [take_snoc hs, ← ovr_put hfs]
          exact h5.ext e6 (nm1 nid)
      · rintro σ' H4 ⟨e4, ⟨lv4, hi4, hl4⟩, hd4, u, rfl⟩
        rw [List.length_map, hc3.len, List.take_length] at hl4 hd4
        have hW4 := e4.keep _ _ hW3 nW
        walk_at "go"
        refine w_chg hi4 (fun z => z) fun H5 e5 h5 => ?_
        change H5 mo = some (.lst [.int M.b, .int M.h, lv4, .ref md, .bl _]) at h5
        walk_at "go"
        refine ⟨M.h, pos, rfl, ?_⟩
        walk_at "go"
        refine w_chg h5 (fun z => z) fun H6 e6 h6 => ?_
        change H6 mo = some (.lst [.int M.b, .int (if pos > M.h then pos else M.h), lv4, .ref md, .bl _]) at h6
        have up : Ext [mo] H4 H6 := e5.trans e6
        refine k (takeM M pos ts0 f n) H6 (.inr ⟨hw, ts0, hk, rfl⟩) ((e03.up.trans e4).trans (up.mono fun x m => by rw [List.mem_singleton.mp m]; exact List.mem_cons_self)) ⟨_, ?_, hd4.ext up (nm1 nid), hl4.ext up⟩
        rw [h6]
        have lc : (decide (((cs.map V.ref).length : Int) ≤ (n : Int))) = decide ((leftOf M ts0).length ≤ n) := by
          rw [List.length_map, hcs.len]
          exact decide_eq_decide.mpr Int.ofNat_le
        rw [lc]
        rfl
  · walk_at "if"
    cases hw : M.w with
    | true =>
      refine w_t rfl ?_
      walk_at "go"
      exact k M H (.inl ⟨hw, rfl⟩) Ext.refl hM
    | false =>
      refine w_f rfl ?_
      walk_at "go"
      exact hn _ _ ⟨rfl, hw, rfl⟩

def sp_law_agrees (CI : Addr) (K : PySem.W.Frag) : Sp := sp2 fun a b H Q => ∃ (U : List Zk.Slot) (im d mo md : Addr) (M : Img), a = .ref im ∧ b = .ref mo ∧ U.length ≤ 1000 ∧ ImgAt CI U H im d M ∧ ModAt U H mo md M ∧ Stt M.tk ∧ ∀ H', Ext [] H H' → Q (.bl true) H'
theorem sm_flat {U : List Zk.Slot} {H : Hp} {o o' : Addr} {xs : List V} {ds : List PyData} (h : H o = some (.lst xs)) (k : H o' = some (.lst xs)) (l : xs.length ≤ 1000) (i : ImAll H xs ds) (dp : ∀ d ∈ ds, d.depth < 6) : Sm U 7 H (.ref o) (.ref o') := by
  refine .inr (.inl ⟨o, o', xs, xs, rfl, rfl, h, k, l, ?_⟩)
  have go : ∀ (ds : List PyData) (xs : List V), ImAll H xs ds → (∀ d ∈ ds, d.depth < 6) → Paired (Sm U 6 H) xs xs := by
    intro ds
    induction ds with
    | nil => intro xs i _; cases i; exact .nil
    | cons d ds ih =>
      intro xs i dp
      cases i with
      | cons h1 k1 => exact .cons (Sm.im (dp d List.mem_cons_self) h1 h1) (ih _ k1 fun d m => dp d (List.mem_cons_of_mem _ m))
  exact go ds xs i dp
theorem pairs_depth {f : Fd} (st : Stt f) : ∀ (ts : List Zk.Slot), PyData.depthAll (ts.map (pairD f)) ≤ 4
  | [] => by simp [PyData.depthAll]
  | s :: ts => by
    have := pairs_depth st ts
    have d1 := (st s).depth
    have d2 := sD_depth s
    rw [List.map_cons, PyData.depthAll]
    refine Nat.max_le.mpr ⟨?_, this⟩
    unfold pairD
    simp only [PyData.depth, PyData.depthAll]
    omega
theorem saved_depth {M : Img} (st : Stt M.tk) (ts : List Zk.Slot) : (savedD M ts).depth < 7 := by
  have := pairs_depth st ts
  have e : (lastD M.last).depth ≤ 1 := by
    cases M.last with
    | none => simp [lastD, PyData.depth]
    | some s => exact Nat.le_of_eq (sD_depth s)
  unfold savedD
  simp only [PyData.depth, PyData.depthAll]
  omega
theorem ok_law_agrees (T : Txt K mg) : FnOk P w K mg base CX0 8 T.f__law_agrees T.d__law_agrees ["image", "model"] (sp_law_agrees T.C_ImageCopier K) := by
  refine T.F__law_agrees.ok sc_law_agrees len2 (fun cdv A outer s H vs Q E hr h => ?_)
  have nd := sc_law_agrees.nd
  have hu := hu_of hr
  obtain ⟨_, _, rfl, U, im, d, mo, md, M, rfl, rfl, hU, hI, hM, st, k⟩ := h
  refine ⟨_,
      (pss_cons (ps_set (i := 2) nd rfl (Or.inl rfl) (pe_callTy zc_tup (by rfl) T.b_tuple (by decide +kernel) (pa_cons (pe_lc (own := [("slot", 4)]) rfl nd (pi_list (pe_callB (zc_sortT rfl) (by rfl) T.b_sorted (by decide +kernel) (pa_cons (pe_ix ix_list (pv 1) pe_int (fun _ _ => rfl)) pa_nil))) (blkOk_by (own := [("slot", 4)]) (N := ["image", "model", "pairs", "due", "slot"]) (sc := defScope s_law_agrees) (by decide +kernel)) (fun _ _ _ _ _ => (pg_name (i := 4) nd rfl (Or.inl rfl))) (fun _ _ _ _ _ => pts_nil) (fun _ _ _ _ _ => (pe_tupZ (pa_cons (pv 4) (pa_cons (pe_dget hu (pe_ix (ix_listK (K := K) rfl) (pv 1) pe_int (fun _ _ => rfl)) (pv 4) (fun _ _ => rfl)) pa_nil))))) pa_nil))) 
      (pss_cons (ps_set (i := 3) nd rfl (Or.inl rfl) (pe_tupZ (pa_cons (pe_ix ix_list (pv 1) pe_int (fun _ _ => rfl)) (pa_cons (pe_ix ix_list (pv 1) pe_int (fun _ _ => rfl)) (pa_cons (pe_ix ix_list (pv 1) pe_int (fun _ _ => rfl)) (pa_cons (pe_ix ix_list (pv 1) pe_int (fun _ _ => rfl)) (pa_cons (pv 2) pa_nil))))))) 
      (pss_cons (ps_if (pt_not (pt_val (pe_call (ok_law_same T) (hr.mono (by decide)) (by rfl) T.g__law_same T.F__law_same.kp T.k__law_same .nil pass0 (pa_cons (pe_lstZ (pa_cons (pe_ix ix_list (pv 1) pe_int (fun _ _ => rfl)) (pa_cons (pe_ix ix_list (pv 1) pe_int (fun _ _ => rfl)) (pa_cons (pe_ix ix_list (pv 1) pe_int (fun _ _ => rfl)) pa_nil)))) (pa_cons (pe_lstZ (pa_cons (pe_meth0 (pv 0) T.c_ImageCopier T.m_ImageCopier_complete (ok_ImageCopier_complete T) (hr.mono (by decide)) T.k_ImageCopier_complete .nil pass0) (pa_cons (pe_meth0 (pv 0) T.c_ImageCopier T.m_ImageCopier_reach (ok_ImageCopier_reach T) (hr.mono (by decide)) T.k_ImageCopier_reach .nil pass0) (pa_cons (pe_meth0 (pv 0) T.c_ImageCopier T.m_ImageCopier_begun_at (ok_ImageCopier_begun_at T) (hr.mono (by decide)) T.k_ImageCopier_begun_at .nil pass0) pa_nil)))) pa_nil))))) 
        (pss_one (ps_ret pe_bl)) pss_nil) 
      (pss_one (ps_ret (pe_call (ok_law_same T) (hr.mono (by decide)) (by rfl) T.g__law_same T.F__law_same.kp T.k__law_same .nil pass0 (pa_cons (pv 3) (pa_cons (pe_meth0 (pv 0) T.c_ImageCopier T.m_ImageCopier_saved (ok_ImageCopier_saved T) (hr.mono (by decide)) T.k_ImageCopier_saved .nil pass0) pa_nil)))))))), ?_⟩
  change (_ : TS) _ [some _, some _, none, none, none] _
  try dsimp only [cxOf, Cx.nox, Cx.wish]
  obtain ⟨lv, hi, hd, hl⟩ := id hM
  walk_at "go"
  refine w_sortT hd.dr fun p0 bs0 ts0 H1 e1 np0 h1 s1 nd1 m1 z1 o1 => ?_
  have hk : Keys ts0 M.tk := ⟨nd1, m1, o1⟩
  have hi1 := e1.keep _ _ hi List.not_mem_nil
  have hd1 := hd.ext e1 List.not_mem_nil
  refine ⟨p0, rfl, ⟨_, sql h1⟩, fun W nW => ?_⟩
  refine z_lc_list (xs := bs0.map V.ref) (fun i acc H' => Ext [] H1 H' ∧ ImAll H' acc ((ts0.take i).map (pairD M.tk))) nW (fun H' e => ⟨e, .nil⟩) (fun i acc H' _ ⟨e, _⟩ => sql (e.keep _ _ h1 List.not_mem_nil)) ?_ ?_
  · rintro Nx i x acc H2 hx ⟨e2, hacc⟩ hW hNx
    obtain ⟨b, s, rfl, hb, hs, hb2⟩ := s1.get hx
    have hb3 := e2.tup hb2
    have hi2 := e2.keep _ _ hi1 List.not_mem_nil
    have hd2 := hd1.ext e2 List.not_mem_nil
    obtain ⟨c, hfs⟩ := Option.isSome_iff_exists.mp ((m1 s).mp (List.mem_of_getElem? hs))
    walk_at "go"
    refine ⟨rfl, ?_⟩
    walk_at "go"
    refine w_dgetT hd2.dr hb3 hfs fun v iv => ?_
    refine ⟨sz (by show 2 ≤ _; decide), w_alc fun t H3 e3 n3 h3 => ?_⟩
    have la : acc.length ≤ 1000 := by
      rw [hacc.len, List.length_map]
      exact Nat.le_trans (List.length_take_le' _ _) (Nat.le_trans z1 hU)
    refine w_app (e3.keep _ _ hW List.not_mem_nil) (szl (by omega)) fun H4 e4 h4 => ?_
    refine hNx _ _ ⟨(e2.trans e3).dropq e4 nW, ?_⟩ h4
    rw [take_snoc hs, List.map_append]
    refine ((hacc.ext e3).ext e4).snoc (.tup (e4.tup h3) (show 2 ≤ 1000 by decide) (.cons ((im_slot (e3.tup hb3)).ext e4) (.cons ?_ .nil)))
    rw [hfs]; exact (iv.ext e3).ext e4
  · rintro acc H2 ⟨e2, hacc⟩ hW
    rw [List.length_map, s1.len, List.take_length] at hacc
    refine w_nil ?_
    refine w_pairs hW hacc (Nat.le_trans z1 hU) fun t H3 e3 ht => ?_
    have e03 := (e1.trans e2).trans e3
    have hi3 := e03.keep _ _ hi List.not_mem_nil
    walk_at "go"
    refine ⟨sz (by show 5 ≤ _; decide), w_alc fun t2 H4 e4 n4 h4 => ?_⟩
    have e04 := e03.trans e4
    have hdue : Im H4 (.ref t2) (savedD M ts0) := .tup h4 (show 5 ≤ 1000 by decide) (.cons (.int _) (.cons (.int _) (.cons (im_last (hl.ext e04)) (.cons (.bl _) (.cons (ht.ext e4) .nil)))))
    have hi4 := e04.keep _ _ hi List.not_mem_nil
    walk_at "go"; walk_at "if"
    refine ⟨sz (by show 3 ≤ _; decide), w_alc fun t3 H5 e5 n5 h5 => ?_⟩
    have e05 := e04.trans e5
    have hI5 := hI.ext e05 List.not_mem_nil List.not_mem_nil
    obtain ⟨dx, lv', hi5, _, _⟩ := id hI5
    walk_at "go"
    refine w_meth hi5 no_ImageCopier_complete ?_
    walk_at "go"
    refine ⟨_, rfl, U, im, d, M, rfl, hI5, ?_⟩
    walk_at "go"
    refine w_meth hi5 no_ImageCopier_reach ?_
    walk_at "go"
    refine ⟨_, rfl, U, im, d, M, rfl, hI5, ?_⟩
    walk_at "go"
    refine w_meth hi5 no_ImageCopier_begun_at ?_
    walk_at "go"
    refine ⟨_, rfl, U, im, d, M, rfl, hI5, ?_⟩
    walk_at "go"
    refine ⟨sz (by show 3 ≤ _; decide), w_alc fun t4 H6 e6 n6 h6 => ?_⟩
    walk_at "go"
    refine w_same (U := U) (sm_flat (ds := [.bool M.w, .int M.h, .int M.b]) (e6.keep _ _ h5 List.not_mem_nil) h6 (show 3 ≤ 1000 by decide) (.cons (.bl _) (.cons (.int _) (.cons (.int _) .nil))) ?_) fun H7 e7 => ?_
    · intro d hd
      simp only [List.mem_cons, List.not_mem_nil, or_false] at hd
      rcases hd with rfl | rfl | rfl <;> simp [PyData.depth]
    walk_at "go"
    have e47 := (e5.trans e6).trans e7
    have hI7 := hI.ext (e04.trans e47) List.not_mem_nil List.not_mem_nil
    obtain ⟨dx7, lv7, hi7, _, _⟩ := id hI7
    refine w_meth hi7 no_ImageCopier_saved ?_
    walk_at "go"
    refine ⟨_, rfl, U, im, d, M, rfl, hU, hI7, st, fun t5 ts5 H8 e8 k8 i8 => ?_⟩
    walk_at "go"
    have et := keys_uniq k8 hk
    subst et
    exact w_same (U := U) (Sm.im (saved_depth st _) (hdue.ext (e47.trans e8)) i8) fun H9 e9 => k _ (((e04.trans e47).trans e8).trans e9)
/-! ### the steps from one state to another -/
def sp_law_steps (K : PySem.W.Frag) : Sp := sp3 fun a b c H Q => ∃ (U : List Zk.Slot) (q : Addr) (as : List Addr) (gs : List Fd) (i l : Nat), a = .ref q ∧ b = .int (i : Int) ∧ c = .int (l : Int) ∧ U.length ≤ 1000 ∧ H q = some (.lst (as.map V.ref)) ∧ Sts U H as gs ∧ i ≤ l ∧ l < as.length ∧ as.length ≤ 41 ∧
  ∀ o bs H', Ext [] H H' → H o = none → H' o = some (.lst (bs.map V.ref)) → (∀ a ∈ bs, H a = none ∧ ∃ f, DM U H' a f) → Diffs U H' bs (l - i) (fun k => gOf gs (i + k)) → Q (.ref o) H'
theorem ok_law_steps (T : Txt K mg) : FnOk P w K mg base CX0 2 T.f__law_steps T.d__law_steps ["states", "first", "last"] (sp_law_steps K) := by
  refine T.F__law_steps.ok sc_law_steps len3 (fun cdv A outer s H vs Q E hr h => ?_)
  have nd := sc_law_steps.nd
  have hu := hu_of hr
  obtain ⟨_, _, _, rfl, U, q, as, gs, i, l, rfl, rfl, rfl, hU, hq, hs, il, ll, la, k⟩ := h
  refine ⟨_,
      (pss_one (ps_ret (pe_lc (own := [("k", 3)]) rfl nd (pi_range2 (by rfl) T.b_range (pa_cons (pv 1) (pa_cons (pv 2) pa_nil))) (blkOk_by (own := [("k", 3)]) (N := ["states", "first", "last", "k"]) (sc := defScope s_law_steps) (by decide +kernel)) (fun _ _ _ _ _ => (pg_name (i := 3) nd rfl (Or.inl rfl))) (fun _ _ _ _ _ => pts_nil) (fun _ _ _ _ _ => (pe_call (ok_law_between T) (hr.mono (by decide)) (by rfl) T.g__law_between T.F__law_between.kp T.k__law_between .nil pass0 (pa_cons (pe_ix (ix_listK (K := K) rfl) (pv 0) (pv 3) (fun _ _ => rfl)) (pa_cons (pe_ix (ix_listK (K := K) rfl) (pv 0) (pe_op op_add (pv 3) pe_int) (fun _ _ => rfl)) pa_nil))))))), ?_⟩
  change (_ : TS) _ [some _, some _, some _, none] _
  try dsimp only [cxOf, Cx.nox, Cx.wish]
  walk_at "go"
  refine ⟨_, _, rfl, by omega, fun D nD => ?_⟩
  have en : ((l : Int) - (i : Int)).toNat = l - i := by omega
  rw [en]
  refine z_lc_range (lo := (i : Int)) (n := l - i) (fun j acc H' => Ext [] H H' ∧ ∃ bs, acc = bs.map V.ref ∧ (∀ a ∈ bs, H a = none ∧ ∃ f, DM U H' a f) ∧ Diffs U H' bs j (fun k => gOf gs (i + k))) nD (fun H' e => ⟨e, [], rfl, fun _ m => (nomatch m), rfl, fun k h => absurd h (Nat.not_lt_zero _)⟩) ?_ ?_
  · rintro Nx j acc H1 hj ⟨e1, bs, rfl, fr, ds⟩ hD hN
    have hq1 := e1.keep _ _ hq List.not_mem_nil
    have hs1 := hs.ext e1 fun _ _ _ => List.not_mem_nil
    obtain ⟨a, ha, da⟩ := hs1.at (k := i + j) (by omega)
    obtain ⟨b, hb, db⟩ := hs1.at (k := i + (j + 1)) (by omega)
    walk_at "go"
    refine ⟨rfl, ?_⟩
    walk_at "go"
    refine w_ixL (sql hq1) (at_int ha (by omega)) ?_
    walk_at "go"
    refine w_ixL (sql hq1) (at_int hb (by omega)) ?_
    walk_at "go"
    refine w_lbetween hU da db (hs1.stt _) (hs1.stt _) fun r H2 e2 n2 h2 => ?_
    have hD2 := e2.keep _ _ hD List.not_mem_nil
    have ds2 : Diffs U H2 bs j (fun k => gOf gs (i + k)) := ds.ext e2 fun _ _ _ => List.not_mem_nil
    refine w_app hD2 (szl (by rw [List.length_map, ds.1]; omega)) fun H3 e3 h3 => ?_
    rw [← List.map_singleton (f := V.ref), ← List.map_append] at h3
    have ne : ∀ a f, DM U H2 a f → a ∉ [D] := fun a f h => nm1 (ld_ne hD2 h)
    refine hN _ _ ⟨(e1.trans e2).dropq e3 nD, bs ++ [r], rfl, fun x mx => ?_, by rw [List.length_append, ds.1]; rfl, fun k hk => ?_⟩ h3
    · rcases List.mem_append.mp mx with mx | mx
      · obtain ⟨f1, f, f2⟩ := fr x mx
        have := f2.ext e2 List.not_mem_nil
        exact ⟨f1, f, this.ext e3 (ne _ _ this)⟩
      · rw [List.mem_singleton.mp mx]
        exact ⟨e1.free n2, _, h2.ext e3 (ne _ _ h2)⟩
    · by_cases c : k < j
      · obtain ⟨x, hx, dx⟩ := ds2.2 k c
        exact ⟨x, by rw [List.map_append, List.getElem?_append_left (by rw [List.length_map, ds.1]; exact c)]; exact hx, dx.ext e3 (ne _ _ dx)⟩
      · have e : k = j := by omega
        subst e
        exact ⟨r, by rw [List.map_append]; exact get_snoc (by rw [List.length_map]; exact ds.1), h2.ext e3 (ne _ _ h2)⟩
  · rintro acc H1 ⟨e1, bs, rfl, fr, ds⟩ hD
    exact k D bs H1 e1 nD hD fr ds

/-! ### tools for the whole law -/
theorem _root_.Zk.Ext.more {M N : List Addr} {H0 H1 H2 : Hp} (a : Ext M H0 H1) (b : Ext N H1 H2) (f : ∀ x ∈ N, x ∈ M ∨ H0 x = none) : Ext M H0 H2 :=
  ⟨fun x o h n => b.keep x o (a.keep x o h n) fun z => (f x z).elim n fun y => (by rw [h] at y; cases y), fun x o h i => b.imm x o (a.imm x o h i) i, fun x o h => (a.live x o h).elim fun o' h' => b.live x o' h'⟩
theorem _root_.Zk.Ext.more0 {M : List Addr} {H0 H1 H2 : Hp} (a : Ext M H0 H1) (b : Ext [] H1 H2) : Ext M H0 H2 := a.trans b.up
theorem z_for_rangeB {σ : L2.St} {H : Hp} {rt : VK} {nx : L2.St → Hp → Prop} {t : TS} {lo : Int} {n : Nat} {g : TG} (Pv : Nat → L2.St → Hp → Prop) (h0 : Pv 0 σ H) (hd : ∀ i σ H, i ≤ n → Pv i σ H → nx σ H)
    (hs : ∀ (N B : L2.St → Hp → Prop) i σ H, i < n → Pv i σ H → (∀ σ' H', Pv (i + 1) σ' H' → N σ' H') → (∀ σ' H', Pv (i + 1) σ' H' → B σ' H') → g (.int (lo + i)) σ H fun σ2 H2 => t ⟨N, rt, B, N⟩ σ2 H2) :
    ∃ W : Nat → Nat → L2.St → Hp → Prop, (∃ m, W 0 m σ H) ∧ ∀ i m σ H, W i m σ H →
      ((Itr lo n).stop i H ∧ nx σ H) ∨ ((Itr lo n).go i H ∧ ∃ N : L2.St → Hp → Prop, (∀ σ' H', N σ' H' → ∃ m', m' < m ∧ W (i + 1) m' σ' H') ∧ ∀ x H', (Itr lo n).yld i H x H' → g x σ H' fun σ2 H2 => t ⟨N, rt, nx, N⟩ σ2 H2) :=
  z_for_range Pv h0 (fun N i σ H hi p hN => hs N nx i σ H hi p hN fun σ' H' p' => hd (i + 1) σ' H' hi p') fun σ H p => hd n σ H (Nat.le_refl _) p
theorem w_clearX {H : Hp} {a : Addr} {kvs : List (List Key × V)} {Q : VK} (h : H a = some (.dT kvs)) (k : ∀ H', Ext [a] H H' → H' a = some (.dT []) → Q .non H') : tyV K "dict" (.ref a) H ∧ rClearT (.ref a) [] H Q :=
  w_tyT h ⟨a, kvs, rfl, rfl, h, w_chg h (fun z => z) k⟩
/-- what may stand in a list that is walked over and cleared -/
def Thing (clr : List Addr) (v : V) : Prop := (∃ a, a ∈ clr ∧ v = .ref a) ∨ (∃ z, v = .str z) ∨ ∃ n, v = .int n
theorem img_of {C : Addr} {U : List Zk.Slot} {H : Hp} {im d : Addr} {M : Img} (h : ImgAt C U H im d M) : (∃ dx fs, H im = some (.ins C dx fs)) ∧ ∃ kvs, H d = some (.dT kvs) := by
  obtain ⟨dx, lv, h1, ⟨kvs, _, h2, _⟩, _⟩ := h
  exact ⟨⟨dx, _, h1⟩, kvs, h2⟩
theorem mod_of {U : List Zk.Slot} {H : Hp} {mo md : Addr} {M : Img} (h : ModAt U H mo md M) : (∃ xs, H mo = some (.lst xs)) ∧ ∃ kvs, H md = some (.dT kvs) := by
  obtain ⟨lv, h1, ⟨kvs, _, h2, _⟩, _⟩ := h
  exact ⟨⟨_, h1⟩, kvs, h2⟩
theorem pool_of {H : Hp} {p : Addr} (h : PoolAt K H p) : ∃ xs, H p = some (.lst xs) := by
  obtain ⟨sc, ns, pl, re, fi, h1, _⟩ := h
  exact ⟨_, h1⟩
/-- the five things that change stand apart -/
structure Apart (H : Hp) (p im d mo md : Addr) : Prop where
  ip : im ≠ p
  dp : d ≠ p
  op : mo ≠ p
  ep : md ≠ p
  io : im ≠ mo
  ie : im ≠ md
  do_ : d ≠ mo
  de : d ≠ md
  id_ : im ≠ d
  oe : mo ≠ md
theorem apart_mk {C : Addr} {U : List Zk.Slot} {H : Hp} {p im d mo md : Addr} {M M' : Img} (hP : PoolAt K H p) (hI : ImgAt C U H im d M) (hM : ModAt U H mo md M') (op : mo ≠ p) (de : d ≠ md) : Apart H p im d mo md := by
  obtain ⟨⟨dx, fs, i1⟩, kv, i2⟩ := img_of hI
  obtain ⟨⟨xs, m1⟩, kv', m2⟩ := mod_of hM
  obtain ⟨ys, p1⟩ := pool_of hP
  exact ⟨ne_of i1 p1 (fun z => nomatch z), ne_of i2 p1 (fun z => nomatch z), op, ne_of m2 p1 (fun z => nomatch z), ne_of i1 m1 (fun z => nomatch z), ne_of i1 m2 (fun z => nomatch z), ne_of i2 m1 (fun z => nomatch z), de, ne_of i1 i2 (fun z => nomatch z), ne_of m1 m2 (fun z => nomatch z)⟩
theorem stt_ovr {l : List Zk.Slot} {f tk : Fd} (h : Stt f) (k : Stt tk) : Stt (ovr l f tk) := fun s d e => by
  unfold ovr at e
  by_cases m : s ∈ l
  · rw [if_pos m] at e; exact h s d e
  · rw [if_neg m] at e; exact k s d e
/-- taken: M' of M at the place p -/
def Next (g : Nat → Fd) (base : Int) (p n : Nat) (M M' : Img) : Prop := M.w = true ∧ M' = M ∨ M.w = false ∧ Took M (base + p) (g p) n M'
theorem next_uniq {g : Nat → Fd} {base : Int} {p n : Nat} {M M1 M2 : Img} (h : Next g base p n M M1) (k : Next g base p n M M2) : M1 = M2 := by
  rcases h with ⟨h1, h2⟩ | ⟨h1, h2⟩ <;> rcases k with ⟨k1, k2⟩ | ⟨k1, k2⟩
  · rw [h2, k2]
  · rw [h1] at k1; cases k1
  · rw [h1] at k1; cases k1
  · exact h2.uniq k2
theorem next_good {g : Nat → Fd} {base : Int} {i hp p n l : Nat} {M M' : Img} (G : Good g base i M hp) (hl : hp < l) (pl : p < l) (ip : i ≤ p) (n1 : 1 ≤ n) (st : ∀ k, Stt (g k)) (sm : Stt M.tk) (h : Next g base p n M M') : ∃ hp', Good g base i M' hp' ∧ hp' < l ∧ Stt M'.tk := by
  rcases h with ⟨h1, rfl⟩ | ⟨h1, ts, hk, rfl⟩
  · exact ⟨hp, G, hl, sm⟩
  · exact ⟨max hp p, good_take G h1 ip hk n1, Nat.max_lt.mpr ⟨hl, pl⟩, stt_ovr (st p) sm⟩
/-! ### the side copier: its slots -/
def sa : Zk.Slot := (Str.ofString "a", 0, 0)
def sb : Zk.Slot := (Str.ofString "b", 0, 0)
def cl (n : Int) : PyData := .tuple [.str (Str.ofString "closed"), .int n]
def sideF : Fd := Zk.putF (Zk.putF (fun _ => none) sa (cl 1)) sb (cl 2)
def sideU : List Zk.Slot := [sa, sb]
theorem sab : sa ≠ sb := by decide +kernel
theorem sideF_a : sideF sa = some (cl 1) := by
  unfold sideF Zk.putF
  rw [if_neg sab, if_pos rfl]
theorem sideF_b : sideF sb = some (cl 2) := by
  unfold sideF Zk.putF
  rw [if_pos rfl]
theorem sideF_no {s : Zk.Slot} (h1 : s ≠ sa) (h2 : s ≠ sb) : sideF s = none := by
  unfold sideF Zk.putF
  rw [if_neg h2, if_neg h1]
theorem cl_ok (n : Int) : Cont (cl n) := .inr (.inl ⟨n, rfl⟩)
theorem side_stt : Stt sideF := stt_put (stt_put stt_none (cl_ok 1)) (cl_ok 2)
theorem side_lt : sLt sb sa = false := by decide +kernel
theorem side_keys : Keys [sa, sb] sideF := by
  refine ⟨List.nodup_cons.mpr ⟨fun m => sab (List.mem_singleton.mp m), List.nodup_cons.mpr ⟨fun m => (nomatch m), List.nodup_nil⟩⟩, fun s => ?_, List.pairwise_cons.mpr ⟨fun y m => by rw [List.mem_singleton.mp m]; exact side_lt, List.pairwise_cons.mpr ⟨fun y m => (nomatch m), .nil⟩⟩⟩
  simp only [List.mem_cons, List.not_mem_nil, or_false]
  constructor
  · rintro (rfl | rfl)
    · rw [sideF_a]; rfl
    · rw [sideF_b]; rfl
  · intro h
    by_cases h1 : s = sa
    · exact .inl h1
    · by_cases h2 : s = sb
      · exact .inr h2
      · rw [sideF_no h1 h2] at h; cases h
theorem side_pln : Pln sideU := ⟨by decide, fun s m => by
  simp only [sideU, List.mem_cons, List.not_mem_nil, or_false] at m
  have k : ∀ c ∈ (Str.ofString "a").cps.toList, c < 128 := by decide
  have k' : ∀ c ∈ (Str.ofString "b").cps.toList, c < 128 := by decide
  rcases m with rfl | rfl
  · exact k
  · exact k'⟩
def sideM : Img := { b := 2, h := 3, last := some sa, w := false, tk := ovr [sa] sideF fun _ => none }
theorem side_took {M' : Img} (h : Took { b := 2, h := 2, last := none, w := false, tk := fun _ => none } 3 sideF 1 M') : M' = sideM := by
  obtain ⟨ts, hk, rfl⟩ := h
  rw [keys_uniq hk side_keys]
  rfl
theorem side_tk : ∀ s, sideM.tk s = if s = sa then some (cl 1) else none := fun s => by
  show (if s ∈ [sa] then sideF s else none) = _
  by_cases h : s = sa
  · rw [if_pos h, if_pos (by rw [h]; exact List.mem_cons_self), h, sideF_a]
  · rw [if_neg h, if_neg fun m => h (List.mem_singleton.mp m)]
theorem side_saved {ts : List Zk.Slot} (h : Keys ts sideM.tk) : savedD sideM ts = .tuple [.int 2, .int 3, sD sa, .bool false, .tuple [.tuple [sD sa, cl 1]]] := by
  have k : Keys [sa] sideM.tk := by
    refine ⟨List.nodup_cons.mpr ⟨fun m => (nomatch m), List.nodup_nil⟩, fun s => ?_, List.pairwise_cons.mpr ⟨fun y m => (nomatch m), .nil⟩⟩
    rw [List.mem_singleton, side_tk]
    by_cases e : s = sa
    · rw [if_pos e]; exact ⟨fun _ => rfl, fun _ => e⟩
    · rw [if_neg e]; exact ⟨fun z => absurd z e, fun z => nomatch z⟩
  rw [keys_uniq h k]
  have e : sideM.tk sa = some (cl 1) := by rw [side_tk, if_pos rfl]
  unfold savedD pairD
  rw [List.map_cons, List.map_nil, e]
  rfl
theorem side_dm {H : Hp} {p b1 b2 : Addr} {v1 v2 : V} (i1 : Im H v1 (cl 1)) (i2 : Im H v2 (cl 2)) (hp : H p = some (.dT [])) : ∀ H', Ext [p] H H' → H' p = some (.dT (putAll [(sKey sa, b1, v1), (sKey sb, b2, v2)] [])) → DM sideU H' p sideF := fun H' e h => by
  have w0 : DMk sideU H' [] [] (fun _ => none) := ⟨rfl, List.nodup_nil, fun _ m => (nomatch m), fun _ => trivial⟩
  obtain ⟨k1, w1⟩ := w0.put (s := sa) List.mem_cons_self (i1.ext e)
  obtain ⟨k2, w2⟩ := w1.put (s := sb) (List.mem_cons_of_mem _ List.mem_cons_self) (i2.ext e)
  exact ⟨_, k2, h, w2⟩

/-! ### the calls, each with one way on -/
theorem w_take {CI : Addr} {H : Hp} {U : List Zk.Slot} {im d q : Addr} {M : Img} {g : Nat → Fd} {base : Int} {p n : Nat} {Q : VK} {E : XK} (hU : Pln U) (hI : ImgAt CI U H im d M) (hf : DM U H q (g p)) (nqd : q ≠ d) (sf : Stt (g p)) (n1 : 1 ≤ n) (n2 : n ≤ 100)
    (k : ∀ o M1 H', (base + p < M.b ∧ M1 = M ∧ H' o = some (.lst [.str sMom, .int (base + p)]) ∨ ¬ base + p < M.b ∧ Next g base p n M M1 ∧ H' o = some (.lst [.non])) → Ext [im, d] H H' → ImgAt CI U H' im d M1 → H o = none → Q (.ref o) H') :
    sp_law_take CI K ([.ref im, .int (base + p), .ref q, .int (n : Int)] ++ []) H Q E :=
  ⟨_, _, _, _, rfl, U, im, d, q, M, g p, base + p, n, rfl, rfl, rfl, rfl, hU, hI, hf, nqd, sf, n1, n2, fun h o H' e no ho => k o M H' (.inl ⟨h, rfl, ho⟩) e.up (hI.ext e List.not_mem_nil List.not_mem_nil) no,
    fun h M1 o H' nx e hI' no ho => k o M1 H' (.inr ⟨h, nx, ho⟩) e hI' no⟩
theorem w_settled {H : Hp} {U : List Zk.Slot} {mo md q : Addr} {M : Img} {g : Nat → Fd} {base : Int} {p n : Nat} {Q : VK} {E : XK} (hU : Pln U) (hM : ModAt U H mo md M) (hf : DM U H q (g p)) (nqd : q ≠ md) (sf : Stt (g p)) (n1 : 1 ≤ n) (n2 : n ≤ 100)
    (k : ∀ M1 H', Next g base p n M M1 → Ext [mo, md] H H' → ModAt U H' mo md M1 → Q .non H') : sp_law_settled K ([.ref mo, .int (base + p), .ref q, .int (n : Int)] ++ []) H Q E :=
  ⟨_, _, _, _, rfl, U, mo, md, q, M, g p, base + p, n, rfl, rfl, rfl, rfl, hU, hM, hf, nqd, sf, n1, n2, k⟩
theorem w_agrees {CI : Addr} {H : Hp} {U : List Zk.Slot} {im d mo md : Addr} {M : Img} {Q : VK} {E : XK} (hU : U.length ≤ 1000) (hI : ImgAt CI U H im d M) (hM : ModAt U H mo md M) (st : Stt M.tk) (k : ∀ H', Ext [] H H' → Q (.bl true) H') : sp_law_agrees CI K ([.ref im, .ref mo] ++ []) H Q E :=
  ⟨_, _, rfl, U, im, d, mo, md, M, rfl, rfl, hU, hI, hM, st, k⟩
theorem w_steps {H : Hp} {U : List Zk.Slot} {q : Addr} {as : List Addr} {gs : List Fd} {i l : Nat} {x : Int} {Q : VK} {E : XK} (hx : x = (l : Int)) (hU : U.length ≤ 1000) (hq : H q = some (.lst (as.map V.ref))) (hs : Sts U H as gs) (il : i ≤ l) (ll : l < as.length) (la : as.length ≤ 41)
    (k : ∀ o bs H', Ext [] H H' → H o = none → H' o = some (.lst (bs.map V.ref)) → (∀ a ∈ bs, H a = none ∧ ∃ f, DM U H' a f) → Diffs U H' bs (l - i) (fun k => gOf gs (i + k)) → Q (.ref o) H') : sp_law_steps K ([.ref q, .int (i : Int), .int x] ++ []) H Q E := by
  subst hx
  exact ⟨_, _, _, rfl, U, q, as, gs, i, l, rfl, rfl, rfl, hU, hq, hs, il, ll, la, k⟩
/-- what finish is to tell -/
def FinR (U : List Zk.Slot) (M : Img) (pos : Int) (F : Fd) (H : Hp) (o : Addr) : Prop :=
  M.w = false ∧ H o = some (.lst [.str sPhs, .str sCopy]) ∨ M.w = true ∧ pos < M.h ∧ H o = some (.lst [.str sMom, .int pos]) ∨ M.w = true ∧ ¬ pos < M.h ∧ ∃ r, H o = some (.lst [.ref r]) ∧ DM U H r F
theorem FinR.ext {U : List Zk.Slot} {M : Img} {pos : Int} {F : Fd} {H H' : Hp} {o : Addr} (h : FinR U M pos F H o) (e : Ext [] H H') : FinR U M pos F H' o := by
  rcases h with ⟨h, k⟩ | ⟨h, l, k⟩ | ⟨h, l, r, k, d⟩
  · exact .inl ⟨h, e.keep _ _ k List.not_mem_nil⟩
  · exact .inr (.inl ⟨h, l, e.keep _ _ k List.not_mem_nil⟩)
  · exact .inr (.inr ⟨h, l, r, e.keep _ _ k List.not_mem_nil, d.ext e List.not_mem_nil⟩)
theorem sm_dict {U : List Zk.Slot} {n : Nat} {H : Hp} {a b : Addr} {f : Fd} (hU : U.length ≤ 1000) (hn : 4 ≤ n) (ha : DM U H a f) (hb : DM U H b f) (dp : ∀ s d, f s = some d → d.depth < n) : Sm U (n + 1) H (.ref a) (.ref b) :=
  .inr (.inr ⟨by omega, hU, a, b, f, rfl, rfl, ha, hb, dp⟩)
theorem dp_st5 {f : Fd} (sf : Stt f) : ∀ s d, f s = some d → d.depth < 5 := fun s d e => Nat.lt_succ_of_lt (Nat.lt_succ_of_le ((sf s d e).lay.2))
theorem FinR.same {U : List Zk.Slot} {M : Img} {pos : Int} {F : Fd} {H : Hp} {o o' : Addr} (hU : U.length ≤ 1000) (sf : Stt F) (h : FinR U M pos F H o) (k : FinR U M pos F H o') : Sm U 7 H (.ref o) (.ref o') := by
  have dp : ∀ ds : List PyData, (∀ d ∈ ds, d.depth ≤ 0) → ∀ d ∈ ds, d.depth < 6 := fun ds h d m => by have := h d m; omega
  rcases h with ⟨h, h1⟩ | ⟨h, hl, h1⟩ | ⟨h, hl, r, h1, hd⟩ <;> rcases k with ⟨k, k1⟩ | ⟨k, kl, k1⟩ | ⟨k, kl, r', k1, kd⟩
  · exact sm_flat (ds := [.str sPhs, .str sCopy]) h1 k1 (show 2 ≤ 1000 by decide) (.cons (.str _) (.cons (.str _) .nil)) (dp _ fun d m => by simp only [List.mem_cons, List.not_mem_nil, or_false] at m; rcases m with rfl | rfl <;> simp [PyData.depth])
  · rw [h] at k; cases k
  · rw [h] at k; cases k
  · rw [h] at k; cases k
  · exact sm_flat (ds := [.str sMom, .int pos]) h1 k1 (show 2 ≤ 1000 by decide) (.cons (.str _) (.cons (.int _) .nil)) (dp _ fun d m => by simp only [List.mem_cons, List.not_mem_nil, or_false] at m; rcases m with rfl | rfl <;> simp [PyData.depth])
  · exact absurd hl kl
  · rw [h] at k; cases k
  · exact absurd kl hl
  · exact .inr (.inl ⟨o, o', _, _, rfl, rfl, h1, k1, Nat.le_of_ble_eq_true rfl, .cons (sm_dict hU (by decide) hd kd (dp_st5 sf)) .nil⟩)
theorem w_finish {CI : Addr} {H : Hp} {U : List Zk.Slot} {im d q : Addr} {M : Img} {as : List Addr} {n : Nat} {G : Nat → Fd} {pos : Int} {F : Fd} {Q : VK} {E : XK} (hU : U.length ≤ 1000) (hI : ImgAt CI U H im d M) (hq : H q = some (.lst (as.map V.ref))) (n1 : n ≤ 1000) (hds : Diffs U H as n G) (ep : M.b + n = pos)
    (eF : M.w = true → ¬ pos < M.h → clean (fnd M.tk G n) = F) (k : ∀ o H', Ext [] H H' → H o = none → FinR U M pos F H' o → (∀ r, H' o = some (.lst [.ref r]) → H r = none) → Q (.ref o) H') : sp_law_finish CI K ([.ref im, .ref q] ++ []) H Q E := by
  subst ep
  refine ⟨_, _, rfl, U, im, d, q, M, as, n, G, rfl, rfl, hU, hI, hq, n1, hds, fun hw o H' e no ho => k o H' e no (.inl ⟨hw, ho⟩) fun r hr => ?_, fun hw hh o H' e no ho => k o H' e no (.inr (.inl ⟨hw, hh, ho⟩)) fun r hr => ?_, fun hw hh r o H' e nr no ho hr => k o H' e no (.inr (.inr ⟨hw, hh, r, ho, by rw [← eF hw hh]; exact hr⟩)) fun r' hr' => ?_⟩
  · rw [ho] at hr; cases hr
  · rw [ho] at hr; cases hr
  · rw [ho] at hr'; cases hr'; exact nr

def sp_law (K : PySem.W.Frag) : Sp := sp1 fun a H Q => ∃ (sc : Addr) (ns : List Int), a = .ref sc ∧ Scr K H sc (ns.map V.int) ∧ ∀ H', Q (.bl true) H'
theorem start_law {H : Hp} {a : Addr} {ns : List Int} (hO : Only H) (hl : ns.length ≤ 63) (hS : SqL K H a (ns.map V.int)) : sp_law K [.ref a] H (fun v _ => v = .bl true) (fun _ _ _ => False) :=
  ⟨_, rfl, a, ns, rfl, Scr.of hO hS, fun _ => rfl⟩
theorem ok_law (T : Txt K mg) (TE : Errs P K mg) : FnOk P w K mg base CX0 10 T.f_law T.d_law ["script"] (sp_law K) := by
  refine T.F_law.ok sc_law len1 (fun cdv A outer s H vs Q E hr h => ?_)
  have nd := sc_law.nd
  have hu := hu_of hr
  obtain ⟨_, rfl, sc, ns, rfl, hS, k⟩ := h
  refine ⟨_,
      (pss_cons (ps_set (i := 1) nd rfl (Or.inl rfl) (pe_call (ok_law_pool T) (hr.mono (by decide)) (by rfl) T.g__law_pool T.F__law_pool.kp T.k__law_pool .nil pass0 (pa_cons (pv 0) pa_nil))) 
      (pss_cons (ps_set (i := 2) nd rfl (Or.inl rfl) (pe_call (ok_law_pick T) (hr.mono (by decide)) (by rfl) T.g__law_pick T.F__law_pick.kp T.k__law_pick .nil pass0 (pa_cons (pv 1) (pa_cons (pe_lstZ (pa_cons pe_int (pa_cons pe_int (pa_cons pe_int (pa_cons pe_int pa_nil))))) pa_nil)))) 
      (pss_cons (ps_set (i := 3) nd rfl (Or.inl rfl) (pe_call (ok_law_states T) (hr.mono (by decide)) (by rfl) T.g__law_states T.F__law_states.kp T.k__law_states .nil pass0 (pa_cons (pv 1) pa_nil))) 
      (pss_cons (ps_expr (pe_call (ok_law_next T) (hr.mono (by decide)) (by rfl) T.g__law_next T.F__law_next.kp T.k__law_next .nil pass0 (pa_cons (pv 1) pa_nil))) 
      (pss_cons (ps_set (i := 4) nd rfl (Or.inl rfl) (pe_call (ok_law_draw T) (hr.mono (by decide)) (by rfl) T.g__law_draw T.F__law_draw.kp T.k__law_draw .nil pass0 (pa_cons (pv 1) (pa_cons (pe_callB zc_len (by rfl) T.b_len (by decide +kernel) (pa_cons (pv 3) pa_nil)) pa_nil)))) 
      (pss_cons (ps_set (i := 5) nd rfl (Or.inl rfl) (pe_make T.mk_ImageCopier (ok_ImageCopier___init__ T) (hr.mono (by decide)) (by rfl) T.g_ImageCopier T.k_ImageCopier___init__ .nil pass0 (pa_cons (pe_op op_add (pv 2) (pv 4)) pa_nil))) 
      (pss_cons (ps_set (i := 6) nd rfl (Or.inl rfl) (pe_make T.mk_ImageCopier (ok_ImageCopier___init__ T) (hr.mono (by decide)) (by rfl) T.g_ImageCopier T.k_ImageCopier___init__ .nil pass0 (pa_cons pe_int pa_nil))) 
      (pss_cons (ps_expr (pe_meth (pv 6) T.c_ImageCopier T.m_ImageCopier_take_slots (ok_ImageCopier_take_slots T TE) (hr.mono (by decide)) T.k_ImageCopier_take_slots .nil passX (pa_cons pe_int (pa_cons (pe_dispT hu (pps_cons (pe_tupZ (pa_cons pe_str (pa_cons pe_int (pa_cons pe_int pa_nil)))) (pe_tupZ (pa_cons pe_str (pa_cons pe_int pa_nil))) (pps_cons (pe_tupZ (pa_cons pe_str (pa_cons pe_int (pa_cons pe_int pa_nil)))) (pe_tupZ (pa_cons pe_str (pa_cons pe_int pa_nil))) pps_nil)) (by rfl) (by rfl) (fun z => by cases z) (by decide)) (pa_cons pe_int pa_nil))))) 
      (pss_cons (ps_set (i := 7) nd rfl (Or.inl rfl) (pe_lstZ (pa_cons (pe_op op_add (pv 2) (pv 4)) (pa_cons (pe_op op_add (pv 2) (pv 4)) (pa_cons pe_non (pa_cons pe_dnewTZ (pa_cons pe_bl pa_nil))))))) 
      (pss_cons (ps_for PassesOwn.never rfl (pi_range1 (by rfl) T.b_range (pa_cons pe_int pa_nil)) (pg_name (i := 8) nd rfl (Or.inl rfl)) 
        (pss_cons (ps_expr (pe_call (ok_law_next T) (hr.mono (by decide)) (by rfl) T.g__law_next T.F__law_next.kp T.k__law_next .nil pass0 (pa_cons (pv 1) pa_nil))) 
        (pss_cons (ps_set (i := 9) nd rfl (Or.inl rfl) (pe_op op_add (pe_callB (call_max2 rfl) (by rfl) T.b_max (by decide +kernel) (pa_cons pe_int (pa_cons (pe_op op_sub (pv 4) pe_int) pa_nil))) (pe_call (ok_law_draw T) (hr.mono (by decide)) (by rfl) T.g__law_draw T.F__law_draw.kp T.k__law_draw .nil pass0 (pa_cons (pv 1) (pa_cons (pe_op op_sub (pe_callB zc_len (by rfl) T.b_len (by decide +kernel) (pa_cons (pv 3) pa_nil)) (pe_callB (call_max2 rfl) (by rfl) T.b_max (by decide +kernel) (pa_cons pe_int (pa_cons (pe_op op_sub (pv 4) pe_int) pa_nil)))) pa_nil))))) 
        (pss_cons (ps_set (i := 10) nd rfl (Or.inl rfl) (pe_op op_add pe_int (pe_call (ok_law_draw T) (hr.mono (by decide)) (by rfl) T.g__law_draw T.F__law_draw.kp T.k__law_draw .nil pass0 (pa_cons (pv 1) (pa_cons pe_int pa_nil))))) 
        (pss_cons (ps_set (i := 11) nd rfl (Or.inl rfl) (pe_call (ok_law_copy T) (hr.mono (by decide)) (by rfl) T.g__law_copy T.F__law_copy.kp T.k__law_copy .nil pass0 (pa_cons (pe_ix ix_list (pv 3) (pv 9) (fun _ _ => rfl)) pa_nil))) 
        (pss_cons (ps_set (i := 12) nd rfl (Or.inl rfl) (pe_call (ok_law_take T TE) (hr.mono (by decide)) (by rfl) T.g__law_take T.F__law_take.kp T.k__law_take .nil pass0 (pa_cons (pv 5) (pa_cons (pe_op op_add (pv 2) (pv 9)) (pa_cons (pv 11) (pa_cons (pv 10) pa_nil)))))) 
        (pss_cons (ps_expr (pe_bm0 PySem.F.plainAttrs_dict PySem.F.slot_dict_clear PySem.F.type_dict_clear zmt_clearT (pv 11))) 
        (pss_cons (ps_if (pt_cmpR op_lt (pv 9) (pv 4) (nomark _)) 
          (pss_one (ps_if (pt_not (pt_val (pe_call (ok_law_same T) (hr.mono (by decide)) (by rfl) T.g__law_same T.F__law_same.kp T.k__law_same .nil pass0 (pa_cons (pe_lstZ (pa_cons pe_str (pa_cons (pe_op op_add (pv 2) (pv 9)) pa_nil))) (pa_cons (pv 12) pa_nil))))) 
            (pss_one (ps_ret pe_bl)) pss_nil)) 
          (pss_cons (ps_expr (pe_call (ok_law_settled T) (hr.mono (by decide)) (by rfl) T.g__law_settled T.F__law_settled.kp T.k__law_settled .nil pass0 (pa_cons (pv 7) (pa_cons (pe_op op_add (pv 2) (pv 9)) (pa_cons (pe_ix ix_list (pv 3) (pv 9) (fun _ _ => rfl)) (pa_cons (pv 10) pa_nil)))))) 
          (pss_one (ps_if (pt_not (pt_val (pe_call (ok_law_same T) (hr.mono (by decide)) (by rfl) T.g__law_same T.F__law_same.kp T.k__law_same .nil pass0 (pa_cons (pe_lstZ (pa_cons pe_non pa_nil)) (pa_cons (pv 12) pa_nil))))) 
            (pss_one (ps_ret pe_bl)) pss_nil)))) 
        (pss_cons (ps_if (pt_cmpR op_eq (pe_call (ok_law_draw T) (hr.mono (by decide)) (by rfl) T.g__law_draw T.F__law_draw.kp T.k__law_draw .nil pass0 (pa_cons (pv 1) (pa_cons pe_int pa_nil))) pe_int (nomark _)) 
          (pss_one (ps_set (i := 5) nd rfl (Or.inl rfl) (pe_call (ok_load_image T) (hr.mono (by decide)) (by rfl) T.g_load_image T.F_load_image.kp T.k_load_image .nil pass0 (pa_cons (pe_meth0 (pv 5) T.c_ImageCopier T.m_ImageCopier_saved (ok_ImageCopier_saved T) (hr.mono (by decide)) T.k_ImageCopier_saved .nil pass0) pa_nil)))) pss_nil) 
        (pss_cons (ps_if (pt_not (pt_val (pe_call (ok_law_agrees T) (hr.mono (by decide)) (by rfl) T.g__law_agrees T.F__law_agrees.kp T.k__law_agrees .nil pass0 (pa_cons (pv 5) (pa_cons (pv 7) pa_nil))))) 
          (pss_one (ps_ret pe_bl)) pss_nil) 
        (pss_cons (ps_set (i := 13) nd rfl (Or.inl rfl) (pe_op op_add (pv 4) (pe_call (ok_law_draw T) (hr.mono (by decide)) (by rfl) T.g__law_draw T.F__law_draw.kp T.k__law_draw .nil pass0 (pa_cons (pv 1) (pa_cons (pe_op op_sub (pe_callB zc_len (by rfl) T.b_len (by decide +kernel) (pa_cons (pv 3) pa_nil)) (pv 4)) pa_nil))))) 
        (pss_cons (ps_set (i := 14) nd rfl (Or.inl rfl) (pe_call (ok_law_steps T) (hr.mono (by decide)) (by rfl) T.g__law_steps T.F__law_steps.kp T.k__law_steps .nil pass0 (pa_cons (pv 3) (pa_cons (pv 4) (pa_cons (pv 13) pa_nil))))) 
        (pss_cons (ps_set (i := 15) nd rfl (Or.inl rfl) (pe_lstZ (pa_cons (pe_ix ix_list (pv 3) (pv 13) (fun _ _ => rfl)) pa_nil))) 
        (pss_cons (ps_if (pt_cmpR op_lt (pe_op op_add (pv 2) (pv 13)) (pe_ix ix_list (pv 7) pe_int (fun _ _ => rfl)) (nomark _)) 
          (pss_one (ps_set (i := 15) nd rfl (Or.inl rfl) (pe_lstZ (pa_cons pe_str (pa_cons (pe_op op_add (pv 2) (pv 13)) pa_nil))))) pss_nil) 
        (pss_cons (ps_if (pt_not (pt_val (pe_ix ix_list (pv 7) pe_int (fun _ _ => rfl)))) 
          (pss_one (ps_set (i := 15) nd rfl (Or.inl rfl) (pe_lstZ (pa_cons pe_str (pa_cons pe_str pa_nil))))) pss_nil) 
        (pss_cons (ps_set (i := 12) nd rfl (Or.inl rfl) (pe_call (ok_law_finish T TE) (hr.mono (by decide)) (by rfl) T.g__law_finish T.F__law_finish.kp T.k__law_finish .nil pass0 (pa_cons (pv 5) (pa_cons (pv 14) pa_nil)))) 
        (pss_cons (ps_if (pt_not (pt_val (pe_call (ok_law_same T) (hr.mono (by decide)) (by rfl) T.g__law_same T.F__law_same.kp T.k__law_same .nil pass0 (pa_cons (pv 15) (pa_cons (pv 12) pa_nil))))) 
          (pss_one (ps_ret pe_bl)) pss_nil) 
        (pss_cons (ps_for PassesOwn.never rfl (pi_list (pe_op zop_cat (pv 14) (pv 12))) (pg_name (i := 16) nd rfl (Or.inl rfl)) 
          (pss_one (ps_if (pt_val (pe_callB call_isi (by rfl) T.b_isinstance (by decide +kernel) (pa_cons (pv 16) (pa_cons (pe_bltn (v := .ty "dict") (by rfl) T.b_dict (by decide +kernel) rfl) pa_nil)))) 
            (pss_one (ps_expr (pe_bm0 PySem.F.plainAttrs_dict PySem.F.slot_dict_clear PySem.F.type_dict_clear zmt_clearT (pv 16)))) pss_nil))) 
        (pss_one (ps_if (PW.pt (pw_and (pt_val (pe_ix ix_list (pv 7) pe_int (fun _ _ => rfl))) (pw_and1 (pt_cmpR op_eq (pe_call (ok_law_draw T) (hr.mono (by decide)) (by rfl) T.g__law_draw T.F__law_draw.kp T.k__law_draw .nil pass0 (pa_cons (pv 1) (pa_cons pe_int pa_nil))) pe_int (nomark _))))) 
          (pss_one ps_break) pss_nil)))))))))))))))))))) 
      (pss_cons (ps_set (i := 14) nd rfl (Or.inl rfl) (pe_call (ok_law_steps T) (hr.mono (by decide)) (by rfl) T.g__law_steps T.F__law_steps.kp T.k__law_steps .nil pass0 (pa_cons (pv 3) (pa_cons (pv 4) (pa_cons (pe_op op_sub (pe_callB zc_len (by rfl) T.b_len (by decide +kernel) (pa_cons (pv 3) pa_nil)) pe_int) pa_nil))))) 
      (pss_cons (ps_if (pt_not (pt_val (pe_call (ok_law_same T) (hr.mono (by decide)) (by rfl) T.g__law_same T.F__law_same.kp T.k__law_same .nil pass0 (pa_cons (pe_tupZ (pa_cons pe_int (pa_cons pe_int (pa_cons (pe_tupZ (pa_cons pe_str (pa_cons pe_int (pa_cons pe_int pa_nil)))) (pa_cons pe_bl (pa_cons (pe_tupZ (pa_cons (pe_tupZ (pa_cons (pe_tupZ (pa_cons pe_str (pa_cons pe_int (pa_cons pe_int pa_nil)))) (pa_cons (pe_tupZ (pa_cons pe_str (pa_cons pe_int pa_nil))) pa_nil))) pa_nil)) pa_nil)))))) (pa_cons (pe_meth0 (pv 6) T.c_ImageCopier T.m_ImageCopier_saved (ok_ImageCopier_saved T) (hr.mono (by decide)) T.k_ImageCopier_saved .nil pass0) pa_nil))))) 
        (pss_one (ps_ret pe_bl)) pss_nil) 
      (pss_one (ps_ret (pe_or (pe_not (pe_ix ix_list (pv 7) pe_int (fun _ _ => rfl))) (pe_one (pe_call (ok_law_same T) (hr.mono (by decide)) (by rfl) T.g__law_same T.F__law_same.kp T.k__law_same .nil pass0 (pa_cons (pe_lstZ (pa_cons (pe_ix ix_list (pv 3) (pe_un un_neg pe_int) (fun _ _ => rfl)) pa_nil)) (pa_cons (pe_call (ok_law_finish T TE) (hr.mono (by decide)) (by rfl) T.g__law_finish T.F__law_finish.kp T.k__law_finish .nil pass0 (pa_cons (pv 5) (pa_cons (pv 14) pa_nil))) pa_nil))))))))))))))))))), ?_⟩
  change (_ : TS) _ [some _, none, none, none, none, none, none, none, none, none, none, none, none, none, none, none, none] _
  try dsimp only [cxOf, Cx.nox, Cx.wish]
  have no_ : ∀ {x : Addr}, x ∉ ([] : List Addr) := List.not_mem_nil
  walk_at "go"
  refine w_sp1 ⟨sc, ns, rfl, hS, fun p H1 e1 n1 P1 => ?_⟩
  walk_at "go"
  refine ⟨sz (by show 4 ≤ _; decide), w_alc fun o H2 e2 n2 h2 => ?_⟩
  walk_at "go"
  refine w_pick (P1.ext e2 no_) h2 (P1.ne n2).symm (by decide) (by decide) fun v H3 hv e3 P3 => ?_
  obtain ⟨ba, rfl⟩ : ∃ n : Int, v = .int n := by
    simp only [List.mem_cons, List.not_mem_nil, or_false] at hv
    rcases hv with rfl | rfl | rfl | rfl <;> exact ⟨_, rfl⟩
  walk_at "go"
  refine w_states P3 fun q U as gs H4 hU e4 P4 nq hq4 ds4 la1 la2 nqp => ?_
  walk_at "go"
  refine w_next_ P4 fun H5 e5 P5 => ?_
  have hq5 := e5.keep _ _ hq4 (nm1 nqp)
  walk_at "go"
  refine w_draw P5 (by rw [List.length_map]; omega) (by rw [List.length_map]; omega) fun x H6 x0 x1 e6 P6 => ?_
  rw [List.length_map] at x1
  obtain ⟨i0, rfl⟩ : ∃ i0 : Nat, x = i0 := ⟨x.toNat, by omega⟩
  have i0l : i0 < as.length := by omega
  have hq6 := e6.keep _ _ hq5 (nm1 nqp)
  have ds6 := (ds4.ext e5 fun a f h => nm1 (pd_ne P4 h)).ext e6 fun a f h => nm1 (pd_ne P5 h)
  have st := ds6.stt
  walk_at "go"
  intro im0 dx0 ni nd1 ne1
  have e7 := make_ext (C := T.C_ImageCopier) ni nd1 ne1
  have h7 : (upd (upd H6 dx0 (.own im0)) im0 (.ins T.C_ImageCopier dx0 [])) im0 = some (.ins T.C_ImageCopier dx0 []) := upd_same
  generalize upd (upd H6 dx0 (.own im0)) im0 (.ins T.C_ImageCopier dx0 []) = H7 at e7 h7 ⊢
  refine ⟨_, _, rfl, U, im0, dx0, _, rfl, rfl, h7, fun d0 H8 e8 nd0 hI8 => ⟨rfl, ?_⟩⟩
  have e68 : Ext [] H6 H8 := e7.more e8 fun x m => .inr (by rw [List.mem_singleton.mp m]; exact ni)
  have nd0' : H6 d0 = none := e7.free nd0
  walk_at "go"
  intro sd dxs nsd nd2 ne2
  have e9 := make_ext (C := T.C_ImageCopier) nsd nd2 ne2
  have h9 : (upd (upd H8 dxs (.own sd)) sd (.ins T.C_ImageCopier dxs [])) sd = some (.ins T.C_ImageCopier dxs []) := upd_same
  generalize upd (upd H8 dxs (.own sd)) sd (.ins T.C_ImageCopier dxs []) = H9 at e9 h9 ⊢
  refine ⟨_, _, rfl, sideU, sd, dxs, 2, rfl, rfl, h9, fun dd HA eA ndd hSA => ⟨rfl, ?_⟩⟩
  have e8A : Ext [] H8 HA := e9.more eA fun x m => .inr (by rw [List.mem_singleton.mp m]; exact nsd)
  have ndd8 : H8 dd = none := e9.free ndd
  obtain ⟨dxA, lvA, hiA, hdA, _⟩ := id hSA
  walk_at "go"
  refine w_meth hiA no_ImageCopier_take_slots ?_
  walk_at "go"
  refine w_dispT fun Z HB eB nZ hZ => ?_
  refine w_pcons ?_
  walk_at "go"
  refine ⟨sz (by show 3 ≤ _; decide), w_alc fun b1 HC eC nC hC => ?_⟩
  walk_at "go"
  refine ⟨sz (by show 2 ≤ _; decide), w_alc fun c1 HD eD nD hD => ?_⟩
  refine w_pcons ?_
  walk_at "go"
  refine ⟨sz (by show 3 ≤ _; decide), w_alc fun b2 HE eE nE hE => ?_⟩
  walk_at "go"
  refine ⟨sz (by show 2 ≤ _; decide), w_alc fun c2 HF eF nF hF => ?_⟩
  refine w_pnil ?_
  have hZF : HF Z = some (.dT []) := eF.keep _ _ (eE.keep _ _ (eD.keep _ _ (eC.keep _ _ hZ no_) no_) no_) no_
  refine ⟨hZF, [(sKey sa, b1, .ref c1), (sKey sb, b2, .ref c2)], rfl, ?_, ?_⟩
  · intro y my
    simp only [List.mem_cons, List.not_mem_nil, or_false] at my
    rcases my with rfl | rfl
    · exact eF.tup (eE.tup (eD.tup hC))
    · exact eF.tup hE
  have i1 : Im HF (.ref c1) (cl 1) := .tup (eF.tup (eE.tup hD)) (show 2 ≤ 1000 by decide) (.cons (.str _) (.cons (.int _) .nil))
  have i2 : Im HF (.ref c2) (cl 2) := .tup hF (show 2 ≤ 1000 by decide) (.cons (.str _) (.cons (.int _) .nil))
  have eG : Ext [Z] HF (upd HF Z (.dT (putAll [(sKey sa, b1, .ref c1), (sKey sb, b2, .ref c2)] []))) := Ext.mut hZF (fun z => z) (List.mem_singleton.mpr rfl)
  have hZG := side_dm (b1 := b1) (b2 := b2) i1 i2 hZF _ eG upd_same
  generalize upd HF Z (.dT (putAll [(sKey sa, b1, .ref c1), (sKey sb, b2, .ref c2)] [])) = HG at eG hZG ⊢
  have eAG : Ext [] HA HG := ((((eB.trans eC).trans eD).trans eE).trans eF).more eG fun x m => .inr (by rw [List.mem_singleton.mp m]; exact nZ)
  have hSG := hSA.ext eAG no_ no_
  walk_at "go"
  refine ⟨_, _, _, _, rfl, sideU, sd, dd, Z, _, sideF, 3, 1, rfl, rfl, rfl, rfl, side_pln, hSG, hZG, (hdA.ne nZ).symm, side_stt, by decide, by decide, (fun h => absurd h (by decide)), (fun _ h => nomatch h), fun _ _ M' HI tk eI hSI => ?_⟩
  have eM := side_took tk
  subst eM
  have e8I : Ext [] H8 HI := (e8A.trans eAG).more eI fun x m => .inr (by
    rcases List.mem_cons.mp m with m | m
    · rw [m]; exact nsd
    · rw [List.mem_singleton.mp m]; exact ndd8)
  have hI_I := hI8.ext e8I no_ no_
  walk_at "go"
  refine w_alc fun md HJ eJ nmd hmd => ?_
  walk_at "go"
  refine ⟨sz (by show 5 ≤ _; decide), w_alc fun mo HK eK nmo hmo => ?_⟩
  walk_at "go"
  have eIK := eJ.trans eK
  have e6I : Ext [] H6 HI := e68.trans e8I
  have e6K := e6I.trans eIK
  have PK := P6.ext e6K no_
  have nmo6 : H6 mo = none := (e6I.trans eJ).free nmo
  have nmd6 : H6 md = none := e6I.free nmd
  have nmoI : HI mo = none := eJ.free nmo
  have op : mo ≠ p := (P6.ne nmo6).symm
  have hIK := hI_I.ext eIK no_ no_
  have hMK : ModAt U HK mo md { b := ba + i0, h := ba + i0, last := none, w := false, tk := fun _ => none } := ⟨_, hmo, DM.nil (eK.keep _ _ hmd no_), rfl⟩
  have de0 : d0 ≠ md := by
    obtain ⟨_, kv, h⟩ := img_of hI_I
    exact ne_of_none h nmd
  have nsd6 : H6 sd = none := e68.free nsd
  refine ⟨_, rfl, by decide, by decide, z_for_rangeB (lo := 0) (n := 40) (fun i σ' H' => ∃ (im d : Addr) (M : Img) (hp : Nat) (u8 u9 u10 u11 u12 u13 u14 u15 u16 : Option V),
    σ' = [some (.ref sc), some (.ref p), some (.int ba), some (.ref q), some (.int (i0 : Int)), some (.ref im), some (.ref sd), some (.ref mo), u8, u9, u10, u11, u12, u13, u14, u15, u16] ∧ Ext [p] H6 H' ∧ Ext [p, im0, d0] HI H' ∧ PoolAt K H' p ∧ ImgAt T.C_ImageCopier U H' im d M ∧ ModAt U H' mo md M ∧
    Good (gOf gs) ba i0 M hp ∧ hp < as.length ∧ Stt M.tk ∧ (H6 im = none ∧ H6 d = none) ∧ (im = im0 ∧ d = d0 ∨ HI im = none ∧ HI d = none) ∧ d ≠ md)
    ⟨im0, d0, _, i0, _, _, _, _, _, _, _, _, _, rfl, e6K.up, eIK.up, PK, hIK, hMK, good_new _ _ _, i0l, stt_none, ⟨ni, nd0'⟩, .inl ⟨rfl, rfl⟩, de0⟩ ?_ ?_⟩
  · rintro i σ' Ha _ ⟨im, d, M, hp, u8, u9, u10, u11, u12, u13, u14, u15, u16, rfl, E1, E2, Pa, hI, hM, G, hpl, sm, ⟨f1, f2⟩, own, de⟩
    have nqp' : q ∉ [p] := nm1 nqp
    have hqa := E1.keep _ _ hq6 nqp'
    have dsa := ds6.ext E1 fun a f h => nm1 (pd_ne P6 h)
    walk_at "go"
    refine w_steps (l := as.length - 1) (by rw [List.length_map]; omega) hU.1 hqa dsa (by omega) (by omega) la2 fun so bs Hb eb nso hso fr dfs => ?_
    walk_at "go"; walk_at "if"
    refine ⟨sz (by show 3 ≤ _; decide), w_alc fun t1 Hc ec nc hc => ?_⟩
    walk_at "go"
    refine ⟨sz (by show 3 ≤ _; decide), w_alc fun t2 Hd ed nd hd => ?_⟩
    walk_at "go"
    refine ⟨sz (by show 2 ≤ _; decide), w_alc fun t3 He ee ne he => ?_⟩
    walk_at "go"
    refine ⟨sz (by show 2 ≤ _; decide), w_alc fun t4 Hf ef nf hf => ?_⟩
    walk_at "go"
    refine ⟨sz (by show 1 ≤ _; decide), w_alc fun t5 Hg eg ng hg => ?_⟩
    walk_at "go"
    refine ⟨sz (by show 5 ≤ _; decide), w_alc fun t6 Hh eh nh hh => ?_⟩
    have eah : Ext [] Ha Hh := eb.trans (ec.trans (ed.trans (ee.trans (ef.trans (eg.trans eh)))))
    have idue : Im Hh (.ref t6) (.tuple [.int 2, .int 3, sD sa, .bool false, .tuple [.tuple [sD sa, cl 1]]]) := by
      have x1 : Im Hh (.ref t1) (sD sa) := im_slot (eh.tup (eg.tup (ef.tup (ee.tup (ed.tup hc)))))
      have x2 : Im Hh (.ref t2) (sD sa) := im_slot (eh.tup (eg.tup (ef.tup (ee.tup hd))))
      have x3 : Im Hh (.ref t3) (cl 1) := .tup (eh.tup (eg.tup (ef.tup he))) (show 2 ≤ 1000 by decide) (.cons (.str _) (.cons (.int _) .nil))
      have x4 : Im Hh (.ref t4) (.tuple [sD sa, cl 1]) := .tup (eh.tup (eg.tup hf)) (show 2 ≤ 1000 by decide) (.cons x2 (.cons x3 .nil))
      have x5 : Im Hh (.ref t5) (.tuple [.tuple [sD sa, cl 1]]) := .tup (eh.tup hg) (show 1 ≤ 1000 by decide) (.cons x4 .nil)
      exact .tup hh (show 5 ≤ 1000 by decide) (.cons (.int _) (.cons (.int _) (.cons x1 (.cons (.bl _) (.cons x5 .nil)))))
    have nsd2 : sd ∉ [p, im0, d0] := fun m => by
      obtain ⟨⟨dx, fs, s1⟩, _⟩ := img_of hSI
      obtain ⟨⟨dx', fs', j1⟩, kv, j2⟩ := img_of hI8
      rcases List.mem_cons.mp m with m | m
      · obtain ⟨xs, y⟩ := pool_of PK
        rw [← m, eIK.keep _ _ s1 no_] at y; cases y
      · rcases List.mem_cons.mp m with m | m
        · rw [m, j1] at nsd; cases nsd
        · rw [List.mem_singleton.mp m, j2] at nsd; cases nsd
    have ndd2 : dd ∉ [p, im0, d0] := fun m => by
      obtain ⟨_, kv', s2⟩ := img_of hSI
      obtain ⟨⟨dx', fs', j1⟩, kv, j2⟩ := img_of hI8
      rcases List.mem_cons.mp m with m | m
      · obtain ⟨xs, y⟩ := pool_of PK
        rw [← m, eIK.keep _ _ s2 no_] at y; cases y
      · rcases List.mem_cons.mp m with m | m
        · rw [m, j1] at ndd8; cases ndd8
        · rw [List.mem_singleton.mp m, j2] at ndd8; cases ndd8
    have hSh := (hSI.ext E2 nsd2 ndd2).ext eah no_ no_
    obtain ⟨dxh, lvh, hih, _, _⟩ := id hSh
    walk_at "go"
    refine w_meth hih no_ImageCopier_saved ?_
    walk_at "go"
    refine ⟨_, rfl, sideU, sd, dd, sideM, rfl, side_pln.1, hSh, stt_ovr side_stt stt_none, fun t7 ts7 Hi ei k7 i7 => ?_⟩
    rw [side_saved k7] at i7
    walk_at "go"
    refine w_same (U := U) (Sm.im (by
      rw [← side_saved k7]
      exact saved_depth (stt_ovr side_stt stt_none) _) (idue.ext ei) i7) fun Hj ej => ?_
    have eaj := (eah.trans ei).trans ej
    have hIj := hI.ext eaj no_ no_
    have hMj := hM.ext eaj no_ no_
    obtain ⟨lvm, hmj, _, _⟩ := id hMj
    walk_at "go"
    cases hw : M.w with
    | false =>
      rw [hw] at hmj
      walk_at "go"
      exact k _
    | true =>
      rw [hw] at hmj
      walk_at "go"
      have hqj := eaj.keep _ _ hqa no_
      have dsj := dsa.ext eaj fun _ _ _ => no_
      obtain ⟨a, ha, da⟩ := dsj.at (k := as.length - 1) (by omega)
      refine w_ixL (sql hqj) (at_last ha (by rw [List.length_map]; omega)) ?_
      walk_at "go"
      refine ⟨sz (by show 1 ≤ _; decide), w_alc fun o1 Hk ek no1 ho1 => ?_⟩
      walk_at "go"
      have ebk : Ext [] Hb Hk := ((ec.trans (ed.trans (ee.trans (ef.trans (eg.trans eh))))).trans (ei.trans ej)).trans ek
      have eb_ := G.eb
      have eh_ := G.eh
      have gle := G.le
      have epos : M.b + ((as.length - 1 - i0 : Nat) : Int) = ba + ((as.length - 1 : Nat) : Int) := by omega
      have hge : ¬ ba + ((as.length - 1 : Nat) : Int) < M.h := by omega
      have ei0 : i0 + (as.length - 1 - i0) = as.length - 1 := by omega
      refine w_finish (F := gOf gs (as.length - 1)) hU.1 (hIj.ext ek no_ no_) (ebk.keep _ _ hso no_) (by omega) (dfs.ext ebk fun _ _ _ => no_) epos (fun _ _ => ?_) fun o2 Hl el no2 ho2 _ => ?_
      · have := finish_is (n := as.length - 1 - i0) G hw (by omega) st
        rw [ei0] at this
        exact this
      · have r1 : FinR U M (ba + ((as.length - 1 : Nat) : Int)) (gOf gs (as.length - 1)) Hl o1 := .inr (.inr ⟨hw, hge, a, el.keep _ _ ho1 no_, (da.ext ek no_).ext el no_⟩)
        exact w_same (r1.same hU.1 (st _) ho2) fun Hm em => k _
  · rintro N B i σ' Ha hi ⟨im, d, M, hp, u8, u9, u10, u11, u12, u13, u14, u15, u16, rfl, E1, E2, Pa, hI, hM, G, hpl, sm, ⟨f1, f2⟩, own, de⟩ hN hB
    have A := apart_mk Pa hI hM op de
    walk_at "go"
    refine w_next_ Pa fun Hb eb Pb => ?_
    have hqb := (E1.trans eb).keep _ _ hq6 (nm1 nqp)
    walk_at "go"
    refine ⟨0, (i0 : Int) - 1, rfl, ?_⟩
    walk_at "go"
    refine ⟨0, (i0 : Int) - 1, rfl, ?_⟩
    walk_at "go"
    obtain ⟨m0, hm0, m1, m2, m3⟩ : ∃ m0 : Int, (if (i0 : Int) - 1 > 0 then (i0 : Int) - 1 else 0) = m0 ∧ 0 ≤ m0 ∧ m0 < as.length ∧ (i0 : Int) - 1 ≤ m0 := by
      by_cases z : (i0 : Int) - 1 > 0
      · exact ⟨_, if_pos z, by omega, by omega, by omega⟩
      · exact ⟨_, if_neg z, by omega, by omega, by omega⟩
    rw [hm0]
    refine w_draw Pb (by rw [List.length_map]; omega) (by rw [List.length_map]; omega) fun x Hc x0 x1 ec Pc => ?_
    rw [List.length_map] at x1
    obtain ⟨pl, epl⟩ : ∃ pl : Nat, m0 + x = pl := ⟨(m0 + x).toNat, by omega⟩
    have pll : pl < as.length := by omega
    walk_at "go"
    rw [epl]
    refine w_draw Pc (by decide) (by decide) fun y Hd y0 y1 ed Pd => ?_
    obtain ⟨n, en⟩ : ∃ n : Nat, 1 + y = n := ⟨(1 + y).toNat, by omega⟩
    have n1 : 1 ≤ n := by omega
    have n2 : n ≤ 100 := by omega
    walk_at "go"
    rw [en]
    have ead : Ext [p] Ha Hd := (eb.trans ec).trans ed
    have E1d := E1.trans ead
    have hqd := E1d.keep _ _ hq6 (nm1 nqp)
    have dsd := ds6.ext E1d fun a f h => nm1 (pd_ne P6 h)
    obtain ⟨a, ha, da⟩ := dsd.at (k := pl) pll
    refine w_ixL (sql hqd) (at_int ha rfl) ?_
    walk_at "go"
    refine w_copy hU.1 da fun cs He ee ncs hcs => ?_
    walk_at "go"
    have eae : Ext [p] Ha He := ead.trans ee.up
    have hIe := hI.ext eae (nm1 A.ip) (nm1 A.dp)
    have hMe := hM.ext eae (nm1 A.op) (nm1 A.ep)
    have Pe := Pd.ext ee no_
    have fcs : ∀ {u : Addr} {ob : HO}, Ha u = some ob → u ≠ cs := fun {u ob} h => by
      obtain ⟨o', h'⟩ := ead.live u ob h
      exact ne_of_none h' ncs
    have ncsd : cs ≠ d := by
      obtain ⟨_, kv, h⟩ := img_of hI
      exact (fcs h).symm
    refine w_take hU hIe hcs ncsd (st pl) n1 n2 fun o M1 Hf hres ef hIf no1 => ?_
    have hMf := hMe.ext ef (nm2 A.io.symm A.do_.symm) (nm2 A.ie.symm A.de.symm)
    have Pf := Pe.ext ef (nm2 A.ip.symm A.dp.symm)
    have csf := hcs.ext ef (nm2 (fun z => by
      obtain ⟨⟨dx, fs, h⟩, _⟩ := img_of hI
      exact (fcs h) z.symm) ncsd)
    have hlt : (ba + (pl : Int) < M.b) ↔ pl < i0 := by rw [G.eb]; omega
    obtain ⟨hp1, G1, hpl1, sm1⟩ : ∃ hp1, Good (gOf gs) ba i0 M1 hp1 ∧ hp1 < as.length ∧ Stt M1.tk := by
      rcases hres with ⟨h, rfl, _⟩ | ⟨h, nx, _⟩
      · exact ⟨hp, G, hpl, sm⟩
      · exact next_good G hpl pll (Nat.le_of_not_lt fun z => h (hlt.mpr z)) n1 st sm nx
    walk_at "go"
    refine w_clearD csf fun Hg eg => ?_
    have eag : Ext [p, im, d] Ha Hg := by
      refine Ext.more ((eae.mono fun x m => by rw [List.mem_singleton.mp m]; exact List.mem_cons_self).trans (ef.mono fun x m => List.mem_cons_of_mem _ m)) eg fun x m => .inr ?_
      rw [List.mem_singleton.mp m]
      exact ead.free ncs
    have ncs_ : ∀ {u : Addr}, (∃ ob, Ha u = some ob) → u ∉ [cs] := fun {u} h => nm1 (h.elim fun ob z => fcs z)
    obtain ⟨⟨dxI, fsI, imA⟩, kvI, dA⟩ := img_of hI
    obtain ⟨⟨xsM, moA⟩, kvM, mdA⟩ := mod_of hM
    obtain ⟨xsP, pA⟩ := pool_of Pa
    have hIg := hIf.ext eg (ncs_ ⟨_, imA⟩) (ncs_ ⟨_, dA⟩)
    have hMg := hMf.ext eg (ncs_ ⟨_, moA⟩) (ncs_ ⟨_, mdA⟩)
    have Pg := Pf.ext eg (ncs_ ⟨_, pA⟩)
    have neo : o ≠ cs := fun z => by
      obtain ⟨kv, ks, h, _⟩ := hcs
      rw [← z, no1] at h; cases h
    have E1g : Ext [p] H6 Hg := Ext.more E1 eag fun x m => by
      rcases List.mem_cons.mp m with m | m
      · exact .inl (by rw [m]; exact List.mem_cons_self)
      · rcases List.mem_cons.mp m with m | m
        · exact .inr (by rw [m]; exact f1)
        · exact .inr (by rw [List.mem_singleton.mp m]; exact f2)
    have E2g : Ext [p, im0, d0] HI Hg := Ext.more E2 eag fun x m => by
      rcases List.mem_cons.mp m with m | m
      · exact .inl (by rw [m]; exact List.mem_cons_self)
      · rcases own with ⟨w1, w2⟩ | ⟨w1, w2⟩
        · refine .inl (List.mem_cons_of_mem _ ?_)
          rw [w1, w2] at m; exact m
        · rcases List.mem_cons.mp m with m | m
          · exact .inr (by rw [m]; exact w1)
          · exact .inr (by rw [List.mem_singleton.mp m]; exact w2)
    walk_at "go"
    refine w_cut (fun σ' H' => Ext [mo, md] Hg H' ∧ ModAt U H' mo md M1 ∧ σ' = [some (.ref sc), some (.ref p), some (.int ba), some (.ref q), some (.int (i0 : Int)), some (.ref im), some (.ref sd), some (.ref mo), some (.int (0 + i)), some (.int (pl : Int)), some (.int (n : Int)), some (.ref cs), some (.ref o), u13, u14, u15, u16]) ?_ fun nx hn => ?_
    · rintro _ Hh ⟨eh, hMh, rfl⟩
      have hIh := hIg.ext eh (nm2 A.io A.ie) (nm2 A.do_ A.de)
      have Ph := Pg.ext eh (nm2 A.op.symm A.ep.symm)
      have hmf : ∀ x ∈ [mo, md], x ∈ [p] ∨ H6 x = none := fun x m => by
        rcases List.mem_cons.mp m with m | m
        · exact .inr (by rw [m]; exact nmo6)
        · exact .inr (by rw [List.mem_singleton.mp m]; exact nmd6)
      have E1h : Ext [p] H6 Hh := Ext.more E1g eh hmf
      have E2h : Ext [p, im0, d0] HI Hh := Ext.more E2g eh fun x m => by
        rcases List.mem_cons.mp m with m | m
        · exact .inr (by rw [m]; exact nmoI)
        · exact .inr (by rw [List.mem_singleton.mp m]; exact nmd)
      walk_at "go"
      refine w_cut (fun σ' H' => Ext [p] Hh H' ∧ PoolAt K H' p ∧ ∃ im' d', σ' = [some (.ref sc), some (.ref p), some (.int ba), some (.ref q), some (.int (i0 : Int)), some (.ref im'), some (.ref sd), some (.ref mo), some (.int (0 + i)), some (.int (pl : Int)), some (.int (n : Int)), some (.ref cs), some (.ref o), u13, u14, u15, u16] ∧
        ImgAt T.C_ImageCopier U H' im' d' M1 ∧ (im' = im ∧ d' = d ∨ Hh im' = none ∧ Hh d' = none)) ?_ fun nx hn => ?_
      · rintro _ Hi ⟨ei, Pi, im', d', rfl, hIi, own'⟩
        have hMi := hMh.ext ei (nm1 A.op) (nm1 A.ep)
        have E1i := E1h.trans ei
        have E2i : Ext [p, im0, d0] HI Hi := E2h.trans (ei.mono fun x m => by rw [List.mem_singleton.mp m]; exact List.mem_cons_self)
        have f1' : H6 im' = none ∧ H6 d' = none := by
          rcases own' with ⟨w1, w2⟩ | ⟨w1, w2⟩
          · rw [w1, w2]; exact ⟨f1, f2⟩
          · exact ⟨E1h.free w1, E1h.free w2⟩
        have ownI : im' = im0 ∧ d' = d0 ∨ HI im' = none ∧ HI d' = none := by
          rcases own' with ⟨w1, w2⟩ | ⟨w1, w2⟩
          · rw [w1, w2]; exact own
          · exact .inr ⟨E2h.free w1, E2h.free w2⟩
        have de' : d' ≠ md := by
          rcases own' with ⟨w1, w2⟩ | ⟨w1, w2⟩
          · rw [w2]; exact de
          · obtain ⟨_, kv, h⟩ := mod_of hMh
            exact (ne_of_none h w2).symm
        obtain ⟨lvj, hmo_i, _, _⟩ := id hMi
        walk_at "go"; walk_at "if"
        refine w_agrees hU.1 hIi hMi sm1 fun Hj ej => ?_
        have hmo_j := ej.keep _ _ hmo_i no_
        have Pj := Pi.ext ej no_
        have E1j := E1i.more0 ej
        have hqj := E1j.keep _ _ hq6 (nm1 nqp)
        walk_at "go"
        refine w_draw Pj (by rw [List.length_map]; omega) (by rw [List.length_map]; omega) fun z Hk z0 z1 ek Pk => ?_
        rw [List.length_map] at z1
        obtain ⟨ls, els⟩ : ∃ ls : Nat, (i0 : Int) + z = ls := ⟨((i0 : Int) + z).toNat, by omega⟩
        have lsl : ls < as.length := by omega
        have ils : i0 ≤ ls := by omega
        walk_at "go"
        rw [els]
        have E1k := E1j.trans ek
        have hqk := E1k.keep _ _ hq6 (nm1 nqp)
        have dsk := ds6.ext E1k fun a f h => nm1 (pd_ne P6 h)
        have nip' : im' ≠ p := by
          obtain ⟨⟨dx, fs, h⟩, _⟩ := img_of hIi
          obtain ⟨xs, h'⟩ := pool_of Pi
          exact ne_of h h' (fun z => nomatch z)
        have ndp' : d' ≠ p := by
          obtain ⟨_, kv, h⟩ := img_of hIi
          obtain ⟨xs, h'⟩ := pool_of Pi
          exact ne_of h h' (fun z => nomatch z)
        have eik : Ext [p] Hi Hk := ej.up.trans ek
        have hIk := hIi.ext eik (nm1 nip') (nm1 ndp')
        have hMk := hMi.ext eik (nm1 A.op) (nm1 A.ep)
        have E2k : Ext [p, im0, d0] HI Hk := E2i.trans (eik.mono fun x m => by rw [List.mem_singleton.mp m]; exact List.mem_cons_self)
        refine w_steps (l := ls) rfl hU.1 hqk dsk ils lsl la2 fun so bs Hl el nso hso fr dfs => ?_
        have hmo_l := el.keep _ _ (ek.keep _ _ hmo_j (nm1 A.op)) no_
        have hql := el.keep _ _ hqk no_
        obtain ⟨b, hb, db⟩ := (dsk.ext el fun _ _ _ => no_).at (k := ls) lsl
        walk_at "go"
        refine w_ixL (sql hql) (at_int hb rfl) ?_
        walk_at "go"
        refine ⟨sz (by show 1 ≤ _; decide), w_alc fun o1 Hm em no1' ho1 => ?_⟩
        have hmo_m := em.keep _ _ hmo_l no_
        walk_at "go"
        refine w_cut (fun σ' H' => Ext [] Hm H' ∧ ∃ o', σ' = [some (.ref sc), some (.ref p), some (.int ba), some (.ref q), some (.int (i0 : Int)), some (.ref im'), some (.ref sd), some (.ref mo), some (.int (0 + i)), some (.int (pl : Int)), some (.int (n : Int)), some (.ref cs), some (.ref o), some (.int (ls : Int)), some (.ref so), some (.ref o'), u16] ∧
          (ba + (ls : Int) < M1.h ∧ H' o' = some (.lst [.str sMom, .int (ba + ls)]) ∨ ¬ ba + (ls : Int) < M1.h ∧ H' o' = some (.lst [.ref b]))) ?_ fun nx hn => ?_
        · rintro _ Hn ⟨en', o', rfl, hdue⟩
          have hmo_n := en'.keep _ _ hmo_m no_
          walk_at "go"
          refine w_cut (fun σ' H' => Ext [] Hn H' ∧ ∃ o', σ' = [some (.ref sc), some (.ref p), some (.int ba), some (.ref q), some (.int (i0 : Int)), some (.ref im'), some (.ref sd), some (.ref mo), some (.int (0 + i)), some (.int (pl : Int)), some (.int (n : Int)), some (.ref cs), some (.ref o), some (.int (ls : Int)), some (.ref so), some (.ref o'), u16] ∧ FinR U M1 (ba + ls) (gOf gs ls) H' o') ?_ fun nx hn => ?_
          · rintro _ Ho ⟨eo, o', rfl, hfin⟩
            have elo : Ext [] Hl Ho := (em.trans en').trans eo
            have eko := el.trans elo
            have hIo := hIk.ext eko no_ no_
            have hMo := hMk.ext eko no_ no_
            have Po := Pk.ext eko no_
            have eb_ := G1.eb
            have eh_ := G1.eh
            have epos : M1.b + ((ls - i0 : Nat) : Int) = ba + (ls : Int) := by omega
            have ei0 : i0 + (ls - i0) = ls := by omega
            walk_at "go"
            refine w_finish (F := gOf gs ls) hU.1 hIo (elo.keep _ _ hso no_) (by omega) (dfs.ext elo fun _ _ _ => no_) epos (fun hw hh => ?_) fun o2 Hpp ep' no2 hres2 hfr => ?_
            · have := finish_is (n := ls - i0) G1 hw (by omega) st
              rw [ei0] at this
              exact this
            · walk_at "go"; walk_at "if"
              refine w_same ((hfin.ext ep').same hU.1 (st _) hres2) fun Hq eq' => ?_
              have ekq : Ext [] Hk Hq := (eko.trans ep').trans eq'
              have elq : Ext [] Hl Hq := (elo.trans ep').trans eq'
              have hres3 := hres2.ext eq'
              walk_at "go"
              obtain ⟨ts, clr, hts, hth, hcl⟩ : ∃ (ts : List V) (clr : List Addr), Hq o2 = some (.lst ts) ∧ (∀ v ∈ bs.map V.ref ++ ts, Thing clr v) ∧ (ts.length ≤ 2) ∧ ∀ a ∈ clr, Hk a = none ∧ ∃ kvs, Hq a = some (.dT kvs) := by
                have old : ∀ a ∈ bs, Hk a = none ∧ ∃ kvs, Hq a = some (.dT kvs) := fun a m => by
                  obtain ⟨w1, f, w2⟩ := fr a m
                  obtain ⟨kvs, ks, w3, _⟩ := w2.ext elq no_
                  exact ⟨w1, kvs, w3⟩
                have oldT : ∀ (cl : List Addr), (∀ a ∈ bs, a ∈ cl) → ∀ v ∈ bs.map V.ref, Thing cl v := fun cl h v m => by
                  obtain ⟨a, ma, rfl⟩ := List.mem_map.mp m
                  exact .inl ⟨a, h a ma, rfl⟩
                rcases hres3 with ⟨_, h⟩ | ⟨_, _, h⟩ | ⟨_, _, r, h, hr⟩
                · refine ⟨_, bs, h, fun v m => ?_, Nat.le_refl _, old⟩
                  rcases List.mem_append.mp m with m | m
                  · exact oldT bs (fun a m => m) v m
                  · simp only [List.mem_cons, List.not_mem_nil, or_false] at m
                    rcases m with rfl | rfl
                    · exact .inr (.inl ⟨_, rfl⟩)
                    · exact .inr (.inl ⟨_, rfl⟩)
                · refine ⟨_, bs, h, fun v m => ?_, Nat.le_refl _, old⟩
                  rcases List.mem_append.mp m with m | m
                  · exact oldT bs (fun a m => m) v m
                  · simp only [List.mem_cons, List.not_mem_nil, or_false] at m
                    rcases m with rfl | rfl
                    · exact .inr (.inl ⟨_, rfl⟩)
                    · exact .inr (.inr ⟨_, rfl⟩)
                · refine ⟨_, r :: bs, h, fun v m => ?_, Nat.le_succ _, fun a m => ?_⟩
                  · rcases List.mem_append.mp m with m | m
                    · exact oldT _ (fun a m => List.mem_cons_of_mem _ m) v m
                    · rw [List.mem_singleton.mp m]
                      exact .inl ⟨r, List.mem_cons_self, rfl⟩
                  · rcases List.mem_cons.mp m with m | m
                    · obtain ⟨kvs, ks, w3, _⟩ := hr
                      have hp2 : Hpp o2 = some (.lst [.ref r]) := by
                        rcases hres2 with ⟨_, y⟩ | ⟨_, _, y⟩ | ⟨_, _, r2, y, _⟩
                        · rw [eq'.keep _ _ y no_] at h; cases h
                        · rw [eq'.keep _ _ y no_] at h; cases h
                        · have := eq'.keep _ _ y no_
                          rw [h] at this
                          cases this
                          exact y
                      rw [m]
                      exact ⟨eko.free (hfr r hp2), kvs, w3⟩
                    · exact old a m
              obtain ⟨lts, hcl⟩ := hcl
              have hsoq := elq.keep _ _ hso no_
              refine w_cat hsoq hts (by rw [List.length_map, dfs.1]; exact sz (by omega)) (w_alc fun X Hr er nX hX => ?_)
              walk_at "go"
              have hclr : ∀ a ∈ clr, ∃ kvs, Hr a = some (.dT kvs) := fun a m => by
                obtain ⟨_, kvs, h⟩ := hcl a m
                exact ⟨kvs, er.keep _ _ h no_⟩
              have nXc : X ∉ clr := fun m => by
                obtain ⟨kvs, h⟩ := hclr X m
                rw [hX] at h; cases h
              refine ⟨X, rfl, ⟨_, sql hX⟩, ?_⟩
              refine z_for_list (xs := bs.map V.ref ++ ts) (fun j σ' H' => Ext clr Hr H' ∧ (∀ a ∈ clr, ∃ kvs, H' a = some (.dT kvs)) ∧ ∃ u16, σ' = [some (.ref sc), some (.ref p), some (.int ba), some (.ref q), some (.int (i0 : Int)), some (.ref im'), some (.ref sd), some (.ref mo), some (.int (0 + i)), some (.int (pl : Int)), some (.int (n : Int)), some (.ref cs), some (.ref o2), some (.int (ls : Int)), some (.ref so), some (.ref o'), u16])
                ⟨Ext.refl, hclr, _, rfl⟩ (fun j σ' H' _ ⟨e, _⟩ => sql (e.keep _ _ hX nXc)) ?_ ?_
              · rintro N' j v σ' Hs hx ⟨es, hcs', u16', rfl⟩ hN'
                rcases hth v (List.mem_of_getElem? hx) with ⟨c, mc, rfl⟩ | ⟨w, rfl⟩ | ⟨w, rfl⟩
                · obtain ⟨kvs, hc⟩ := hcs' c mc
                  walk_at "go"; walk_at "if"
                  refine w_isi (k := true) (.ty _) (TyX.base (.dT hc)) (kit_ty (by decide +kernel)) ?_
                  walk_at "go"
                  refine w_clearX hc fun Ht et ht => ?_
                  refine hN' _ _ ⟨es.trans (et.mono fun x m => by rw [List.mem_singleton.mp m]; exact mc), fun a ma => ?_, _, rfl⟩
                  by_cases e : a = c
                  · exact ⟨[], by rw [e]; exact ht⟩
                  · obtain ⟨kvs', h'⟩ := hcs' a ma
                    exact ⟨kvs', et.keep _ _ h' (nm1 e)⟩
                · walk_at "go"; walk_at "if"
                  refine w_isi (k := false) (.ty _) (.base (.str _)) (kit_ty (by decide +kernel)) ?_
                  walk_at "go"
                  exact hN' _ _ ⟨es, hcs', _, rfl⟩
                · walk_at "go"; walk_at "if"
                  refine w_isi (k := false) (.ty _) (.base (.int _)) (kit_ty (by decide +kernel)) ?_
                  walk_at "go"
                  exact hN' _ _ ⟨es, hcs', _, rfl⟩
              · rintro σ' Hs ⟨es, hcs', u16', rfl⟩
                have ekr := ekq.trans er
                have eks : Ext clr Hk Hs := ekr.up.trans es
                have ncl : ∀ {u : Addr}, (∃ ob, Hk u = some ob) → u ∉ clr := fun {u} h m => by
                  obtain ⟨ob, h⟩ := h
                  rw [(hcl u m).1] at h; cases h
                obtain ⟨⟨dxk, fsk, imk⟩, kvk, dk⟩ := img_of hIk
                obtain ⟨⟨xsk, mok⟩, kvmk, mdk⟩ := mod_of hMk
                obtain ⟨xpk, pk⟩ := pool_of Pk
                have hIs := hIk.ext eks (ncl ⟨_, imk⟩) (ncl ⟨_, dk⟩)
                have hMs := hMk.ext eks (ncl ⟨_, mok⟩) (ncl ⟨_, mdk⟩)
                have Ps := Pk.ext eks (ncl ⟨_, pk⟩)
                have E1s : Ext [p] H6 Hs := Ext.more E1k eks fun x m => .inr (E1k.free (hcl x m).1)
                have E2s : Ext [p, im0, d0] HI Hs := Ext.more E2k eks fun x m => .inr (E2k.free (hcl x m).1)
                obtain ⟨lvs, hmo_s, _, _⟩ := id hMs
                walk_at "go"; walk_at "if"
                cases hw : M1.w with
                | false =>
                  refine w_f rfl ?_
                  walk_at "go"
                  exact hN _ _ ⟨im', d', M1, hp1, _, _, _, _, _, _, _, _, _, rfl, E1s, E2s, Ps, hIs, hMs, G1, hpl1, sm1, f1', ownI, de'⟩
                | true =>
                  refine w_t rfl ?_
                  walk_at "go"
                  refine w_draw Ps (by decide) (by decide) fun w Ht w0 w1 et Pt => ?_
                  have fin : ∀ {R : L2.St → Hp → Prop}, (∀ σ' H', (∃ (im d : Addr) (M : Img) (hp : Nat) (u8 u9 u10 u11 u12 u13 u14 u15 u16 : Option V),
    σ' = [some (.ref sc), some (.ref p), some (.int ba), some (.ref q), some (.int (i0 : Int)), some (.ref im), some (.ref sd), some (.ref mo), u8, u9, u10, u11, u12, u13, u14, u15, u16] ∧ Ext [p] H6 H' ∧ Ext [p, im0, d0] HI H' ∧ PoolAt K H' p ∧ ImgAt T.C_ImageCopier U H' im d M ∧ ModAt U H' mo md M ∧
    Good (gOf gs) ba i0 M hp ∧ hp < as.length ∧ Stt M.tk ∧ (H6 im = none ∧ H6 d = none) ∧ (im = im0 ∧ d = d0 ∨ HI im = none ∧ HI d = none) ∧ d ≠ md) → R σ' H') → R [some (.ref sc), some (.ref p), some (.int ba), some (.ref q), some (.int (i0 : Int)), some (.ref im'), some (.ref sd), some (.ref mo), some (.int (0 + i)), some (.int (pl : Int)), some (.int (n : Int)), some (.ref cs), some (.ref o2), some (.int (ls : Int)), some (.ref so), some (.ref o'), u16'] Ht := fun hR =>
                    hR _ _ ⟨im', d', M1, hp1, _, _, _, _, _, _, _, _, _, rfl, E1s.trans et, E2s.trans (et.mono fun x m => by rw [List.mem_singleton.mp m]; exact List.mem_cons_self), Pt, hIs.ext et (nm1 nip') (nm1 ndp'), hMs.ext et (nm1 A.op) (nm1 A.ep), G1, hpl1, sm1, f1', ownI, de'⟩
                  walk_at "go"
                  refine w_d (fun h => ?_) fun h => ?_
                  · walk_at "go"
                    exact fin hB
                  · walk_at "go"
                    exact fin hN
          · walk_at "if"
            cases hw : M1.w with
            | false =>
              refine w_t rfl ?_
              walk_at "go"
              refine ⟨sz (by show 2 ≤ _; decide), w_alc fun o3 H3 e3 n3 h3 => ?_⟩
              exact hn _ _ ⟨e3, o3, rfl, .inl ⟨hw, h3⟩⟩
            | true =>
              refine w_f rfl ?_
              walk_at "go"
              refine hn _ _ ⟨Ext.refl, o', rfl, ?_⟩
              rcases hdue with ⟨h1, h2⟩ | ⟨h1, h2⟩
              · exact .inr (.inl ⟨hw, h1, h2⟩)
              · exact .inr (.inr ⟨hw, h1, b, h2, (db.ext em no_).ext en' no_⟩)
        · walk_at "if"
          refine w_d (fun h => ?_) fun h => ?_
          · walk_at "go"
            refine ⟨sz (by show 2 ≤ _; decide), w_alc fun o3 H3 e3 n3 h3 => ?_⟩
            exact hn _ _ ⟨e3, o3, rfl, .inl ⟨h, h3⟩⟩
          · walk_at "go"
            exact hn _ _ ⟨Ext.refl, o1, rfl, .inr ⟨h, ho1⟩⟩
      · walk_at "if"
        refine w_draw Ph (by decide) (by decide) fun w Hi w0 w1 ei Pi => ?_
        have hIi := hIh.ext ei (nm1 A.ip) (nm1 A.dp)
        walk_at "go"
        refine w_d (fun h => ?_) fun h => ?_
        · obtain ⟨dxi, lvi, hii, hdi, _⟩ := id hIi
          walk_at "go"
          refine w_meth hii no_ImageCopier_saved ?_
          walk_at "go"
          refine ⟨_, rfl, U, im, d, M1, rfl, hU.1, hIi, sm1, fun t7 ts7 Hj ej k7 i7 => ?_⟩
          walk_at "go"
          refine ⟨_, rfl, U, M1, ts7, hU.1, i7, k7, fun s ms => hdi.fsub ((k7.2.1 s).mp ms), fun im' d' Hk ek n1' n2' hIk => ?_⟩
          walk_at "go"
          have eij := ej.trans ek
          exact hn _ _ ⟨ei.more0 eij, Pi.ext eij no_, im', d', rfl, hIk, .inr ⟨(ei.more0 ej).free n1', (ei.more0 ej).free n2'⟩⟩
        · walk_at "go"
          exact hn _ _ ⟨ei, Pi, im, d, rfl, hIi, .inl ⟨rfl, rfl⟩⟩
    · walk_at "if"
      refine w_d (fun h => ?_) fun h => ?_
      · rcases hres with ⟨hh, eM, ho⟩ | ⟨hh, _, _⟩
        · subst eM
          have hog := eg.keep _ _ ho (nm1 neo)
          walk_at "go"; walk_at "if"
          refine ⟨sz (by show 2 ≤ _; decide), w_alc fun o2 H2 e2 n2' h2' => ?_⟩
          walk_at "go"
          refine w_same (U := U) (sm_flat (ds := [.str sMom, .int (ba + pl)]) h2' (e2.keep _ _ hog no_) (show 2 ≤ 1000 by decide) (.cons (.str _) (.cons (.int _) .nil)) ?_) fun H3 e3 => ?_
          · intro d m
            simp only [List.mem_cons, List.not_mem_nil, or_false] at m
            rcases m with rfl | rfl <;> simp [PyData.depth]
          walk_at "go"
          exact hn _ _ ⟨(e2.trans e3).up, hMg.ext (e2.trans e3) no_ no_, rfl⟩
        · exact absurd (hlt.mpr (by omega)) hh
      · rcases hres with ⟨hh, _, _⟩ | ⟨hh, nx', ho⟩
        · exact absurd (hlt.mp hh) (by omega)
        · have hog := eg.keep _ _ ho (nm1 neo)
          have hqg := E1g.keep _ _ hq6 (nm1 nqp)
          have dsg := ds6.ext E1g fun a f h => nm1 (pd_ne P6 h)
          obtain ⟨a', ha', da'⟩ := dsg.at (k := pl) pll
          have nam : a' ≠ md := by
            have h6 : ∃ f, DM U H6 a' f := by
              obtain ⟨x, hx, dx⟩ := ds6.at (k := pl) pll
              rw [ha'] at hx
              cases hx
              exact ⟨_, dx⟩
            obtain ⟨f, kv, ks, h6, _⟩ := h6
            exact ne_of_none h6 nmd6
          walk_at "go"
          refine w_ixL (sql hqg) (at_int ha' rfl) ?_
          walk_at "go"
          refine w_settled hU hMg da' nam (st pl) n1 n2 fun M2 H2 nx2 e2 hM2 => ?_
          have eM := next_uniq nx2 nx'
          subst eM
          have nomo : o ≠ mo := fun z => by
            obtain ⟨lv, h1, _⟩ := hMg
            rw [← z, hog] at h1; cases h1
          have nomd : o ≠ md := fun z => by
            obtain ⟨lv, _, ⟨kv, ks, h1, _⟩, _⟩ := hMg
            rw [← z, hog] at h1; cases h1
          have ho2 := e2.keep _ _ hog (nm2 nomo nomd)
          walk_at "go"; walk_at "if"
          refine ⟨sz (by show 1 ≤ _; decide), w_alc fun o2 H3 e3 n3' h3' => ?_⟩
          walk_at "go"
          refine w_same (U := U) (sm_flat (ds := [.none]) h3' (e3.keep _ _ ho2 no_) (show 1 ≤ 1000 by decide) (.cons .non .nil) ?_) fun H4 e4 => ?_
          · intro d m
            rw [List.mem_singleton.mp m]; simp [PyData.depth]
          walk_at "go"
          exact hn _ _ ⟨e2.trans (e3.trans e4).up, hM2.ext (e3.trans e4) no_ no_, rfl⟩

end
theorem all_mk {l : PySem.W.OpenLaw} {w : World} {K : PySem.W.Frag} {h : Heap} {mg : Str → Option Value} {fa : Addr} (X : K.In h) (G : h.Ns mainGlobals mg) (hfa : mg "law" = some (.ref fa))
    {f_ImageCopier___init__ : Addr} {od_ImageCopier___init__ an_ImageCopier___init__ : Option Addr} {sl_ImageCopier___init__ : Array (Option Value)} {oc_ImageCopier___init__ kV_ImageCopier___init__ dc_ImageCopier___init__ pm_ImageCopier___init__ cd_ImageCopier___init__ ct_ImageCopier___init__ : Value} {f_ImageCopier_take_slots : Addr} {od_ImageCopier_take_slots an_ImageCopier_take_slots : Option Addr} {sl_ImageCopier_take_slots : Array (Option Value)} {oc_ImageCopier_take_slots kV_ImageCopier_take_slots dc_ImageCopier_take_slots pm_ImageCopier_take_slots cd_ImageCopier_take_slots ct_ImageCopier_take_slots : Value} {f_ImageCopier_complete : Addr} {od_ImageCopier_complete an_ImageCopier_complete : Option Addr} {sl_ImageCopier_complete : Array (Option Value)} {oc_ImageCopier_complete kV_ImageCopier_complete dc_ImageCopier_complete pm_ImageCopier_complete cd_ImageCopier_complete ct_ImageCopier_complete : Value} {f_ImageCopier_begun_at : Addr} {od_ImageCopier_begun_at an_ImageCopier_begun_at : Option Addr} {sl_ImageCopier_begun_at : Array (Option Value)} {oc_ImageCopier_begun_at kV_ImageCopier_begun_at dc_ImageCopier_begun_at pm_ImageCopier_begun_at cd_ImageCopier_begun_at ct_ImageCopier_begun_at : Value} {f_ImageCopier_reach : Addr} {od_ImageCopier_reach an_ImageCopier_reach : Option Addr} {sl_ImageCopier_reach : Array (Option Value)} {oc_ImageCopier_reach kV_ImageCopier_reach dc_ImageCopier_reach pm_ImageCopier_reach cd_ImageCopier_reach ct_ImageCopier_reach : Value} {f_ImageCopier_finish : Addr} {od_ImageCopier_finish an_ImageCopier_finish : Option Addr} {sl_ImageCopier_finish : Array (Option Value)} {oc_ImageCopier_finish kV_ImageCopier_finish dc_ImageCopier_finish pm_ImageCopier_finish cd_ImageCopier_finish ct_ImageCopier_finish : Value} {f_ImageCopier_saved : Addr} {od_ImageCopier_saved an_ImageCopier_saved : Option Addr} {sl_ImageCopier_saved : Array (Option Value)} {oc_ImageCopier_saved kV_ImageCopier_saved dc_ImageCopier_saved pm_ImageCopier_saved cd_ImageCopier_saved ct_ImageCopier_saved : Value} {f_load_image : Addr} {od_load_image an_load_image : Option Addr} {sl_load_image : Array (Option Value)} {oc_load_image kV_load_image dc_load_image pm_load_image cd_load_image ct_load_image : Value} {f_law_mixed : Addr} {od_law_mixed an_law_mixed : Option Addr} {sl_law_mixed : Array (Option Value)} {oc_law_mixed kV_law_mixed dc_law_mixed pm_law_mixed cd_law_mixed ct_law_mixed : Value} {f_law_rest : Addr} {od_law_rest an_law_rest : Option Addr} {sl_law_rest : Array (Option Value)} {oc_law_rest kV_law_rest dc_law_rest pm_law_rest cd_law_rest ct_law_rest : Value} {f_law_pool : Addr} {od_law_pool an_law_pool : Option Addr} {sl_law_pool : Array (Option Value)} {oc_law_pool kV_law_pool dc_law_pool pm_law_pool cd_law_pool ct_law_pool : Value} {f_law_next : Addr} {od_law_next an_law_next : Option Addr} {sl_law_next : Array (Option Value)} {oc_law_next kV_law_next dc_law_next pm_law_next cd_law_next ct_law_next : Value} {f_law_draw : Addr} {od_law_draw an_law_draw : Option Addr} {sl_law_draw : Array (Option Value)} {oc_law_draw kV_law_draw dc_law_draw pm_law_draw cd_law_draw ct_law_draw : Value} {f_law_pick : Addr} {od_law_pick an_law_pick : Option Addr} {sl_law_pick : Array (Option Value)} {oc_law_pick kV_law_pick dc_law_pick pm_law_pick cd_law_pick ct_law_pick : Value} {f_law_same : Addr} {od_law_same an_law_same : Option Addr} {sl_law_same : Array (Option Value)} {oc_law_same kV_law_same dc_law_same pm_law_same cd_law_same ct_law_same : Value} {f_law_name : Addr} {od_law_name an_law_name : Option Addr} {sl_law_name : Array (Option Value)} {oc_law_name kV_law_name dc_law_name pm_law_name cd_law_name ct_law_name : Value} {f_law_cells : Addr} {od_law_cells an_law_cells : Option Addr} {sl_law_cells : Array (Option Value)} {oc_law_cells kV_law_cells dc_law_cells pm_law_cells cd_law_cells ct_law_cells : Value} {f_law_content : Addr} {od_law_content an_law_content : Option Addr} {sl_law_content : Array (Option Value)} {oc_law_content kV_law_content dc_law_content pm_law_content cd_law_content ct_law_content : Value} {f_law_universe : Addr} {od_law_universe an_law_universe : Option Addr} {sl_law_universe : Array (Option Value)} {oc_law_universe kV_law_universe dc_law_universe pm_law_universe cd_law_universe ct_law_universe : Value} {f_law_copy : Addr} {od_law_copy an_law_copy : Option Addr} {sl_law_copy : Array (Option Value)} {oc_law_copy kV_law_copy dc_law_copy pm_law_copy cd_law_copy ct_law_copy : Value} {f_law_without : Addr} {od_law_without an_law_without : Option Addr} {sl_law_without : Array (Option Value)} {oc_law_without kV_law_without dc_law_without pm_law_without cd_law_without ct_law_without : Value} {f_law_moved : Addr} {od_law_moved an_law_moved : Option Addr} {sl_law_moved : Array (Option Value)} {oc_law_moved kV_law_moved dc_law_moved pm_law_moved cd_law_moved ct_law_moved : Value} {f_law_between : Addr} {od_law_between an_law_between : Option Addr} {sl_law_between : Array (Option Value)} {oc_law_between kV_law_between dc_law_between pm_law_between cd_law_between ct_law_between : Value} {f_law_states : Addr} {od_law_states an_law_states : Option Addr} {sl_law_states : Array (Option Value)} {oc_law_states kV_law_states dc_law_states pm_law_states cd_law_states ct_law_states : Value} {f_law_finish : Addr} {od_law_finish an_law_finish : Option Addr} {sl_law_finish : Array (Option Value)} {oc_law_finish kV_law_finish dc_law_finish pm_law_finish cd_law_finish ct_law_finish : Value} {f_law_take : Addr} {od_law_take an_law_take : Option Addr} {sl_law_take : Array (Option Value)} {oc_law_take kV_law_take dc_law_take pm_law_take cd_law_take ct_law_take : Value} {f_law_agrees : Addr} {od_law_agrees an_law_agrees : Option Addr} {sl_law_agrees : Array (Option Value)} {oc_law_agrees kV_law_agrees dc_law_agrees pm_law_agrees cd_law_agrees ct_law_agrees : Value} {f_law_settled : Addr} {od_law_settled an_law_settled : Option Addr} {sl_law_settled : Array (Option Value)} {oc_law_settled kV_law_settled dc_law_settled pm_law_settled cd_law_settled ct_law_settled : Value} {f_law_steps : Addr} {od_law_steps an_law_steps : Option Addr} {sl_law_steps : Array (Option Value)} {oc_law_steps kV_law_steps dc_law_steps pm_law_steps cd_law_steps ct_law_steps : Value} {f_law : Addr} {od_law an_law : Option Addr} {sl_law : Array (Option Value)} {oc_law kV_law dc_law pm_law cd_law ct_law : Value} {CC_ImageCopier : Addr} {C_StoreError : Addr} {C_NoMoment : Addr} {C_WrongPhase : Addr} {C_ImageCopier : Addr} {I_NoMoment : Addr} {nm_NoMoment q_NoMoment : Str} {N_NoMoment : Addr} {bs_NoMoment bm_NoMoment : List Value} {sn_NoMoment : List Str} {sub_NoMoment : List Value} {ab_NoMoment : Bool} {col_NoMoment : Option Bool} {dd_NoMoment : Option Addr} {m0_NoMoment m1_NoMoment m2_NoMoment m3_NoMoment m5_NoMoment : Option Value} {oc_NoMoment : Value} {od_NoMoment : Option Addr} {dc_NoMoment pm_NoMoment : Value} {an_NoMoment : Option Addr} {cda_NoMoment : Addr} {ct_NoMoment : Value} {osl_NoMoment : Array (Option Value)} {cc_NoMoment : Addr} {cl_NoMoment : Value} {cld_NoMoment : Option Addr} {csl_NoMoment : Array (Option Value)} {vs_NoMoment : Array Value} {ccl_NoMoment : Value} {cdd_NoMoment : Option Addr} {ccs_NoMoment : Array (Option Value)} {file_NoMoment : Str} {tf_NoMoment : Tok} {I_WrongPhase : Addr} {nm_WrongPhase q_WrongPhase : Str} {N_WrongPhase : Addr} {bs_WrongPhase bm_WrongPhase : List Value} {sn_WrongPhase : List Str} {sub_WrongPhase : List Value} {ab_WrongPhase : Bool} {col_WrongPhase : Option Bool} {dd_WrongPhase : Option Addr} {m0_WrongPhase m1_WrongPhase m2_WrongPhase m3_WrongPhase m5_WrongPhase : Option Value} {oc_WrongPhase : Value} {od_WrongPhase : Option Addr} {dc_WrongPhase pm_WrongPhase : Value} {an_WrongPhase : Option Addr} {cda_WrongPhase : Addr} {ct_WrongPhase : Value} {osl_WrongPhase : Array (Option Value)} {cc_WrongPhase : Addr} {cl_WrongPhase : Value} {cld_WrongPhase : Option Addr} {csl_WrongPhase : Array (Option Value)} {vs_WrongPhase : Array Value} {ccl_WrongPhase : Value} {cdd_WrongPhase : Option Addr} {ccs_WrongPhase : Array (Option Value)} {file_WrongPhase : Str} {tf_WrongPhase : Tok} 
    (ca_ImageCopier : PySem.W.nsIn K mainGlobals "ImageCopier" = some (some (.ref CC_ImageCopier)))
    (pg_ImageCopier : PySem.W.plainGet K CC_ImageCopier Str.empty = true)
    (hd_ImageCopier : PySem.W.hasDictIn K CC_ImageCopier = true)
    (po_ImageCopier : PySem.W.plainOver K CC_ImageCopier = true)
    (sa_ImageCopier : PySem.W.findIn K (.ref CC_ImageCopier) "__setattr__" = some (some (.builtin "object.__setattr__")))
    (mk_ImageCopier : PySem.W.makesIn K CC_ImageCopier = true)
    (kc_ImageCopier : PySem.W.keepIn K (.ref CC_ImageCopier) = true)
    (na_begun_ImageCopier : PySem.W.findIn K (.ref CC_ImageCopier) "begun" = some none)
    (na_highest_ImageCopier : PySem.W.findIn K (.ref CC_ImageCopier) "highest" = some none)
    (na_last_taken_ImageCopier : PySem.W.findIn K (.ref CC_ImageCopier) "last_taken" = some none)
    (na_whole_ImageCopier : PySem.W.findIn K (.ref CC_ImageCopier) "whole" = some none)
    (na_taken_ImageCopier : PySem.W.findIn K (.ref CC_ImageCopier) "taken" = some none)
    (a_ImageCopier___init__ : PySem.W.findIn K (.ref CC_ImageCopier) "__init__" = some (some (.ref f_ImageCopier___init__)))
    (i_ImageCopier___init__ : PySem.W.isFn K (.ref f_ImageCopier___init__) = true)
    (l_ImageCopier___init__ : K.lookup f_ImageCopier___init__ = some ⟨oc_ImageCopier___init__, od_ImageCopier___init__, .func (PySem.W.fnOf "__init__" "ImageCopier.__init__" (defArgs s_ImageCopier___init__) (defBody s_ImageCopier___init__) (defScope s_ImageCopier___init__) .none kV_ImageCopier___init__ dc_ImageCopier___init__ pm_ImageCopier___init__ an_ImageCopier___init__ cd_ImageCopier___init__ ct_ImageCopier___init__), sl_ImageCopier___init__⟩)
    (c_ImageCopier___init__ : PySem.W.codeIn K cd_ImageCopier___init__ "ImageCopier.__init__" = true)
    (k_ImageCopier___init__ : PySem.W.keepIn K (.ref f_ImageCopier___init__) = true)
    (a_ImageCopier_take_slots : PySem.W.findIn K (.ref CC_ImageCopier) "take_slots" = some (some (.ref f_ImageCopier_take_slots)))
    (i_ImageCopier_take_slots : PySem.W.isFn K (.ref f_ImageCopier_take_slots) = true)
    (l_ImageCopier_take_slots : K.lookup f_ImageCopier_take_slots = some ⟨oc_ImageCopier_take_slots, od_ImageCopier_take_slots, .func (PySem.W.fnOf "take_slots" "ImageCopier.take_slots" (defArgs s_ImageCopier_take_slots) (defBody s_ImageCopier_take_slots) (defScope s_ImageCopier_take_slots) .none kV_ImageCopier_take_slots dc_ImageCopier_take_slots pm_ImageCopier_take_slots an_ImageCopier_take_slots cd_ImageCopier_take_slots ct_ImageCopier_take_slots), sl_ImageCopier_take_slots⟩)
    (c_ImageCopier_take_slots : PySem.W.codeIn K cd_ImageCopier_take_slots "ImageCopier.take_slots" = true)
    (k_ImageCopier_take_slots : PySem.W.keepIn K (.ref f_ImageCopier_take_slots) = true)
    (a_ImageCopier_complete : PySem.W.findIn K (.ref CC_ImageCopier) "complete" = some (some (.ref f_ImageCopier_complete)))
    (i_ImageCopier_complete : PySem.W.isFn K (.ref f_ImageCopier_complete) = true)
    (l_ImageCopier_complete : K.lookup f_ImageCopier_complete = some ⟨oc_ImageCopier_complete, od_ImageCopier_complete, .func (PySem.W.fnOf "complete" "ImageCopier.complete" (defArgs s_ImageCopier_complete) (defBody s_ImageCopier_complete) (defScope s_ImageCopier_complete) .none kV_ImageCopier_complete dc_ImageCopier_complete pm_ImageCopier_complete an_ImageCopier_complete cd_ImageCopier_complete ct_ImageCopier_complete), sl_ImageCopier_complete⟩)
    (c_ImageCopier_complete : PySem.W.codeIn K cd_ImageCopier_complete "ImageCopier.complete" = true)
    (k_ImageCopier_complete : PySem.W.keepIn K (.ref f_ImageCopier_complete) = true)
    (a_ImageCopier_begun_at : PySem.W.findIn K (.ref CC_ImageCopier) "begun_at" = some (some (.ref f_ImageCopier_begun_at)))
    (i_ImageCopier_begun_at : PySem.W.isFn K (.ref f_ImageCopier_begun_at) = true)
    (l_ImageCopier_begun_at : K.lookup f_ImageCopier_begun_at = some ⟨oc_ImageCopier_begun_at, od_ImageCopier_begun_at, .func (PySem.W.fnOf "begun_at" "ImageCopier.begun_at" (defArgs s_ImageCopier_begun_at) (defBody s_ImageCopier_begun_at) (defScope s_ImageCopier_begun_at) .none kV_ImageCopier_begun_at dc_ImageCopier_begun_at pm_ImageCopier_begun_at an_ImageCopier_begun_at cd_ImageCopier_begun_at ct_ImageCopier_begun_at), sl_ImageCopier_begun_at⟩)
    (c_ImageCopier_begun_at : PySem.W.codeIn K cd_ImageCopier_begun_at "ImageCopier.begun_at" = true)
    (k_ImageCopier_begun_at : PySem.W.keepIn K (.ref f_ImageCopier_begun_at) = true)
    (a_ImageCopier_reach : PySem.W.findIn K (.ref CC_ImageCopier) "reach" = some (some (.ref f_ImageCopier_reach)))
    (i_ImageCopier_reach : PySem.W.isFn K (.ref f_ImageCopier_reach) = true)
    (l_ImageCopier_reach : K.lookup f_ImageCopier_reach = some ⟨oc_ImageCopier_reach, od_ImageCopier_reach, .func (PySem.W.fnOf "reach" "ImageCopier.reach" (defArgs s_ImageCopier_reach) (defBody s_ImageCopier_reach) (defScope s_ImageCopier_reach) .none kV_ImageCopier_reach dc_ImageCopier_reach pm_ImageCopier_reach an_ImageCopier_reach cd_ImageCopier_reach ct_ImageCopier_reach), sl_ImageCopier_reach⟩)
    (c_ImageCopier_reach : PySem.W.codeIn K cd_ImageCopier_reach "ImageCopier.reach" = true)
    (k_ImageCopier_reach : PySem.W.keepIn K (.ref f_ImageCopier_reach) = true)
    (a_ImageCopier_finish : PySem.W.findIn K (.ref CC_ImageCopier) "finish" = some (some (.ref f_ImageCopier_finish)))
    (i_ImageCopier_finish : PySem.W.isFn K (.ref f_ImageCopier_finish) = true)
    (l_ImageCopier_finish : K.lookup f_ImageCopier_finish = some ⟨oc_ImageCopier_finish, od_ImageCopier_finish, .func (PySem.W.fnOf "finish" "ImageCopier.finish" (defArgs s_ImageCopier_finish) (defBody s_ImageCopier_finish) (defScope s_ImageCopier_finish) .none kV_ImageCopier_finish dc_ImageCopier_finish pm_ImageCopier_finish an_ImageCopier_finish cd_ImageCopier_finish ct_ImageCopier_finish), sl_ImageCopier_finish⟩)
    (c_ImageCopier_finish : PySem.W.codeIn K cd_ImageCopier_finish "ImageCopier.finish" = true)
    (k_ImageCopier_finish : PySem.W.keepIn K (.ref f_ImageCopier_finish) = true)
    (a_ImageCopier_saved : PySem.W.findIn K (.ref CC_ImageCopier) "saved" = some (some (.ref f_ImageCopier_saved)))
    (i_ImageCopier_saved : PySem.W.isFn K (.ref f_ImageCopier_saved) = true)
    (l_ImageCopier_saved : K.lookup f_ImageCopier_saved = some ⟨oc_ImageCopier_saved, od_ImageCopier_saved, .func (PySem.W.fnOf "saved" "ImageCopier.saved" (defArgs s_ImageCopier_saved) (defBody s_ImageCopier_saved) (defScope s_ImageCopier_saved) .none kV_ImageCopier_saved dc_ImageCopier_saved pm_ImageCopier_saved an_ImageCopier_saved cd_ImageCopier_saved ct_ImageCopier_saved), sl_ImageCopier_saved⟩)
    (c_ImageCopier_saved : PySem.W.codeIn K cd_ImageCopier_saved "ImageCopier.saved" = true)
    (k_ImageCopier_saved : PySem.W.keepIn K (.ref f_ImageCopier_saved) = true)
    (a_load_image : PySem.W.nsIn K mainGlobals "load_image" = some (some (.ref f_load_image)))
    (l_load_image : K.lookup f_load_image = some ⟨oc_load_image, od_load_image, .func (PySem.W.fnOf "load_image" "load_image" (defArgs s_load_image) (defBody s_load_image) (defScope s_load_image) .none kV_load_image dc_load_image pm_load_image an_load_image cd_load_image ct_load_image), sl_load_image⟩)
    (c_load_image : PySem.W.codeIn K cd_load_image "load_image" = true)
    (k_load_image : PySem.W.keepIn K (.ref f_load_image) = true)
    (a_law_mixed : PySem.W.nsIn K mainGlobals "_law_mixed" = some (some (.ref f_law_mixed)))
    (l_law_mixed : K.lookup f_law_mixed = some ⟨oc_law_mixed, od_law_mixed, .func (PySem.W.fnOf "_law_mixed" "_law_mixed" (defArgs s_law_mixed) (defBody s_law_mixed) (defScope s_law_mixed) .none kV_law_mixed dc_law_mixed pm_law_mixed an_law_mixed cd_law_mixed ct_law_mixed), sl_law_mixed⟩)
    (c_law_mixed : PySem.W.codeIn K cd_law_mixed "_law_mixed" = true)
    (k_law_mixed : PySem.W.keepIn K (.ref f_law_mixed) = true)
    (a_law_rest : PySem.W.nsIn K mainGlobals "_law_rest" = some (some (.ref f_law_rest)))
    (l_law_rest : K.lookup f_law_rest = some ⟨oc_law_rest, od_law_rest, .func (PySem.W.fnOf "_law_rest" "_law_rest" (defArgs s_law_rest) (defBody s_law_rest) (defScope s_law_rest) .none kV_law_rest dc_law_rest pm_law_rest an_law_rest cd_law_rest ct_law_rest), sl_law_rest⟩)
    (c_law_rest : PySem.W.codeIn K cd_law_rest "_law_rest" = true)
    (k_law_rest : PySem.W.keepIn K (.ref f_law_rest) = true)
    (a_law_pool : PySem.W.nsIn K mainGlobals "_law_pool" = some (some (.ref f_law_pool)))
    (l_law_pool : K.lookup f_law_pool = some ⟨oc_law_pool, od_law_pool, .func (PySem.W.fnOf "_law_pool" "_law_pool" (defArgs s_law_pool) (defBody s_law_pool) (defScope s_law_pool) .none kV_law_pool dc_law_pool pm_law_pool an_law_pool cd_law_pool ct_law_pool), sl_law_pool⟩)
    (c_law_pool : PySem.W.codeIn K cd_law_pool "_law_pool" = true)
    (k_law_pool : PySem.W.keepIn K (.ref f_law_pool) = true)
    (a_law_next : PySem.W.nsIn K mainGlobals "_law_next" = some (some (.ref f_law_next)))
    (l_law_next : K.lookup f_law_next = some ⟨oc_law_next, od_law_next, .func (PySem.W.fnOf "_law_next" "_law_next" (defArgs s_law_next) (defBody s_law_next) (defScope s_law_next) .none kV_law_next dc_law_next pm_law_next an_law_next cd_law_next ct_law_next), sl_law_next⟩)
    (c_law_next : PySem.W.codeIn K cd_law_next "_law_next" = true)
    (k_law_next : PySem.W.keepIn K (.ref f_law_next) = true)
    (a_law_draw : PySem.W.nsIn K mainGlobals "_law_draw" = some (some (.ref f_law_draw)))
    (l_law_draw : K.lookup f_law_draw = some ⟨oc_law_draw, od_law_draw, .func (PySem.W.fnOf "_law_draw" "_law_draw" (defArgs s_law_draw) (defBody s_law_draw) (defScope s_law_draw) .none kV_law_draw dc_law_draw pm_law_draw an_law_draw cd_law_draw ct_law_draw), sl_law_draw⟩)
    (c_law_draw : PySem.W.codeIn K cd_law_draw "_law_draw" = true)
    (k_law_draw : PySem.W.keepIn K (.ref f_law_draw) = true)
    (a_law_pick : PySem.W.nsIn K mainGlobals "_law_pick" = some (some (.ref f_law_pick)))
    (l_law_pick : K.lookup f_law_pick = some ⟨oc_law_pick, od_law_pick, .func (PySem.W.fnOf "_law_pick" "_law_pick" (defArgs s_law_pick) (defBody s_law_pick) (defScope s_law_pick) .none kV_law_pick dc_law_pick pm_law_pick an_law_pick cd_law_pick ct_law_pick), sl_law_pick⟩)
    (c_law_pick : PySem.W.codeIn K cd_law_pick "_law_pick" = true)
    (k_law_pick : PySem.W.keepIn K (.ref f_law_pick) = true)
    (a_law_same : PySem.W.nsIn K mainGlobals "_law_same" = some (some (.ref f_law_same)))
    (l_law_same : K.lookup f_law_same = some ⟨oc_law_same, od_law_same, .func (PySem.W.fnOf "_law_same" "_law_same" (defArgs s_law_same) (defBody s_law_same) (defScope s_law_same) .none kV_law_same dc_law_same pm_law_same an_law_same cd_law_same ct_law_same), sl_law_same⟩)
    (c_law_same : PySem.W.codeIn K cd_law_same "_law_same" = true)
    (k_law_same : PySem.W.keepIn K (.ref f_law_same) = true)
    (a_law_name : PySem.W.nsIn K mainGlobals "_law_name" = some (some (.ref f_law_name)))
    (l_law_name : K.lookup f_law_name = some ⟨oc_law_name, od_law_name, .func (PySem.W.fnOf "_law_name" "_law_name" (defArgs s_law_name) (defBody s_law_name) (defScope s_law_name) .none kV_law_name dc_law_name pm_law_name an_law_name cd_law_name ct_law_name), sl_law_name⟩)
    (c_law_name : PySem.W.codeIn K cd_law_name "_law_name" = true)
    (k_law_name : PySem.W.keepIn K (.ref f_law_name) = true)
    (a_law_cells : PySem.W.nsIn K mainGlobals "_law_cells" = some (some (.ref f_law_cells)))
    (l_law_cells : K.lookup f_law_cells = some ⟨oc_law_cells, od_law_cells, .func (PySem.W.fnOf "_law_cells" "_law_cells" (defArgs s_law_cells) (defBody s_law_cells) (defScope s_law_cells) .none kV_law_cells dc_law_cells pm_law_cells an_law_cells cd_law_cells ct_law_cells), sl_law_cells⟩)
    (c_law_cells : PySem.W.codeIn K cd_law_cells "_law_cells" = true)
    (k_law_cells : PySem.W.keepIn K (.ref f_law_cells) = true)
    (a_law_content : PySem.W.nsIn K mainGlobals "_law_content" = some (some (.ref f_law_content)))
    (l_law_content : K.lookup f_law_content = some ⟨oc_law_content, od_law_content, .func (PySem.W.fnOf "_law_content" "_law_content" (defArgs s_law_content) (defBody s_law_content) (defScope s_law_content) .none kV_law_content dc_law_content pm_law_content an_law_content cd_law_content ct_law_content), sl_law_content⟩)
    (c_law_content : PySem.W.codeIn K cd_law_content "_law_content" = true)
    (k_law_content : PySem.W.keepIn K (.ref f_law_content) = true)
    (a_law_universe : PySem.W.nsIn K mainGlobals "_law_universe" = some (some (.ref f_law_universe)))
    (l_law_universe : K.lookup f_law_universe = some ⟨oc_law_universe, od_law_universe, .func (PySem.W.fnOf "_law_universe" "_law_universe" (defArgs s_law_universe) (defBody s_law_universe) (defScope s_law_universe) .none kV_law_universe dc_law_universe pm_law_universe an_law_universe cd_law_universe ct_law_universe), sl_law_universe⟩)
    (c_law_universe : PySem.W.codeIn K cd_law_universe "_law_universe" = true)
    (k_law_universe : PySem.W.keepIn K (.ref f_law_universe) = true)
    (a_law_copy : PySem.W.nsIn K mainGlobals "_law_copy" = some (some (.ref f_law_copy)))
    (l_law_copy : K.lookup f_law_copy = some ⟨oc_law_copy, od_law_copy, .func (PySem.W.fnOf "_law_copy" "_law_copy" (defArgs s_law_copy) (defBody s_law_copy) (defScope s_law_copy) .none kV_law_copy dc_law_copy pm_law_copy an_law_copy cd_law_copy ct_law_copy), sl_law_copy⟩)
    (c_law_copy : PySem.W.codeIn K cd_law_copy "_law_copy" = true)
    (k_law_copy : PySem.W.keepIn K (.ref f_law_copy) = true)
    (a_law_without : PySem.W.nsIn K mainGlobals "_law_without" = some (some (.ref f_law_without)))
    (l_law_without : K.lookup f_law_without = some ⟨oc_law_without, od_law_without, .func (PySem.W.fnOf "_law_without" "_law_without" (defArgs s_law_without) (defBody s_law_without) (defScope s_law_without) .none kV_law_without dc_law_without pm_law_without an_law_without cd_law_without ct_law_without), sl_law_without⟩)
    (c_law_without : PySem.W.codeIn K cd_law_without "_law_without" = true)
    (k_law_without : PySem.W.keepIn K (.ref f_law_without) = true)
    (a_law_moved : PySem.W.nsIn K mainGlobals "_law_moved" = some (some (.ref f_law_moved)))
    (l_law_moved : K.lookup f_law_moved = some ⟨oc_law_moved, od_law_moved, .func (PySem.W.fnOf "_law_moved" "_law_moved" (defArgs s_law_moved) (defBody s_law_moved) (defScope s_law_moved) .none kV_law_moved dc_law_moved pm_law_moved an_law_moved cd_law_moved ct_law_moved), sl_law_moved⟩)
    (c_law_moved : PySem.W.codeIn K cd_law_moved "_law_moved" = true)
    (k_law_moved : PySem.W.keepIn K (.ref f_law_moved) = true)
    (a_law_between : PySem.W.nsIn K mainGlobals "_law_between" = some (some (.ref f_law_between)))
    (l_law_between : K.lookup f_law_between = some ⟨oc_law_between, od_law_between, .func (PySem.W.fnOf "_law_between" "_law_between" (defArgs s_law_between) (defBody s_law_between) (defScope s_law_between) .none kV_law_between dc_law_between pm_law_between an_law_between cd_law_between ct_law_between), sl_law_between⟩)
    (c_law_between : PySem.W.codeIn K cd_law_between "_law_between" = true)
    (k_law_between : PySem.W.keepIn K (.ref f_law_between) = true)
    (a_law_states : PySem.W.nsIn K mainGlobals "_law_states" = some (some (.ref f_law_states)))
    (l_law_states : K.lookup f_law_states = some ⟨oc_law_states, od_law_states, .func (PySem.W.fnOf "_law_states" "_law_states" (defArgs s_law_states) (defBody s_law_states) (defScope s_law_states) .none kV_law_states dc_law_states pm_law_states an_law_states cd_law_states ct_law_states), sl_law_states⟩)
    (c_law_states : PySem.W.codeIn K cd_law_states "_law_states" = true)
    (k_law_states : PySem.W.keepIn K (.ref f_law_states) = true)
    (a_law_finish : PySem.W.nsIn K mainGlobals "_law_finish" = some (some (.ref f_law_finish)))
    (l_law_finish : K.lookup f_law_finish = some ⟨oc_law_finish, od_law_finish, .func (PySem.W.fnOf "_law_finish" "_law_finish" (defArgs s_law_finish) (defBody s_law_finish) (defScope s_law_finish) .none kV_law_finish dc_law_finish pm_law_finish an_law_finish cd_law_finish ct_law_finish), sl_law_finish⟩)
    (c_law_finish : PySem.W.codeIn K cd_law_finish "_law_finish" = true)
    (k_law_finish : PySem.W.keepIn K (.ref f_law_finish) = true)
    (a_law_take : PySem.W.nsIn K mainGlobals "_law_take" = some (some (.ref f_law_take)))
    (l_law_take : K.lookup f_law_take = some ⟨oc_law_take, od_law_take, .func (PySem.W.fnOf "_law_take" "_law_take" (defArgs s_law_take) (defBody s_law_take) (defScope s_law_take) .none kV_law_take dc_law_take pm_law_take an_law_take cd_law_take ct_law_take), sl_law_take⟩)
    (c_law_take : PySem.W.codeIn K cd_law_take "_law_take" = true)
    (k_law_take : PySem.W.keepIn K (.ref f_law_take) = true)
    (a_law_agrees : PySem.W.nsIn K mainGlobals "_law_agrees" = some (some (.ref f_law_agrees)))
    (l_law_agrees : K.lookup f_law_agrees = some ⟨oc_law_agrees, od_law_agrees, .func (PySem.W.fnOf "_law_agrees" "_law_agrees" (defArgs s_law_agrees) (defBody s_law_agrees) (defScope s_law_agrees) .none kV_law_agrees dc_law_agrees pm_law_agrees an_law_agrees cd_law_agrees ct_law_agrees), sl_law_agrees⟩)
    (c_law_agrees : PySem.W.codeIn K cd_law_agrees "_law_agrees" = true)
    (k_law_agrees : PySem.W.keepIn K (.ref f_law_agrees) = true)
    (a_law_settled : PySem.W.nsIn K mainGlobals "_law_settled" = some (some (.ref f_law_settled)))
    (l_law_settled : K.lookup f_law_settled = some ⟨oc_law_settled, od_law_settled, .func (PySem.W.fnOf "_law_settled" "_law_settled" (defArgs s_law_settled) (defBody s_law_settled) (defScope s_law_settled) .none kV_law_settled dc_law_settled pm_law_settled an_law_settled cd_law_settled ct_law_settled), sl_law_settled⟩)
    (c_law_settled : PySem.W.codeIn K cd_law_settled "_law_settled" = true)
    (k_law_settled : PySem.W.keepIn K (.ref f_law_settled) = true)
    (a_law_steps : PySem.W.nsIn K mainGlobals "_law_steps" = some (some (.ref f_law_steps)))
    (l_law_steps : K.lookup f_law_steps = some ⟨oc_law_steps, od_law_steps, .func (PySem.W.fnOf "_law_steps" "_law_steps" (defArgs s_law_steps) (defBody s_law_steps) (defScope s_law_steps) .none kV_law_steps dc_law_steps pm_law_steps an_law_steps cd_law_steps ct_law_steps), sl_law_steps⟩)
    (c_law_steps : PySem.W.codeIn K cd_law_steps "_law_steps" = true)
    (k_law_steps : PySem.W.keepIn K (.ref f_law_steps) = true)
    (a_law : PySem.W.nsIn K mainGlobals "law" = some (some (.ref f_law)))
    (l_law : K.lookup f_law = some ⟨oc_law, od_law, .func (PySem.W.fnOf "law" "law" (defArgs s_law) (defBody s_law) (defScope s_law) .none kV_law dc_law pm_law an_law cd_law ct_law), sl_law⟩)
    (c_law : PySem.W.codeIn K cd_law "law" = true)
    (k_law : PySem.W.keepIn K (.ref f_law) = true)
    (z_bool : PySem.W.nsIn K mainGlobals "bool" = some none)
    (z_dict : PySem.W.nsIn K mainGlobals "dict" = some none)
    (z_int : PySem.W.nsIn K mainGlobals "int" = some none)
    (z_isinstance : PySem.W.nsIn K mainGlobals "isinstance" = some none)
    (z_len : PySem.W.nsIn K mainGlobals "len" = some none)
    (z_list : PySem.W.nsIn K mainGlobals "list" = some none)
    (z_max : PySem.W.nsIn K mainGlobals "max" = some none)
    (z_range : PySem.W.nsIn K mainGlobals "range" = some none)
    (z_sorted : PySem.W.nsIn K mainGlobals "sorted" = some none)
    (z_str : PySem.W.nsIn K mainGlobals "str" = some none)
    (z_tuple : PySem.W.nsIn K mainGlobals "tuple" = some none)
    (a_StoreError : PySem.W.nsIn K mainGlobals "StoreError" = some (some (.ref C_StoreError)))
    (a_NoMoment : PySem.W.nsIn K mainGlobals "NoMoment" = some (some (.ref C_NoMoment)))
    (a_WrongPhase : PySem.W.nsIn K mainGlobals "WrongPhase" = some (some (.ref C_WrongPhase)))
    (a_ImageCopier : PySem.W.nsIn K mainGlobals "ImageCopier" = some (some (.ref C_ImageCopier)))
    (z_super : PySem.W.nsIn K mainGlobals "super" = some none)
    (xp : (l.prog.main.scope.names.lookup ("super" : Str)).isSome = false)
    (xo : PySem.W.nsIn K cStatics "thirdparty.any" = some none)
    (y6 : PySem.W.specialIn K (.builtin "object.__class__") "__get__" = some (some (.builtin "getset_descriptor.__get__")))
    (y7 : PySem.W.takesIn K (.builtin "object.__class__") = some true)
    (xl_NoMoment : K.lookup C_NoMoment = some (PySem.excClassObj nm_NoMoment q_NoMoment C_NoMoment N_NoMoment bs_NoMoment bm_NoMoment true sn_NoMoment sub_NoMoment ab_NoMoment col_NoMoment dd_NoMoment m0_NoMoment m1_NoMoment m2_NoMoment m3_NoMoment m5_NoMoment "ValueError.__new__"))
    (xr_NoMoment : PySem.HandSPX.refsVE bm_NoMoment = true)
    (xs_NoMoment : PySem.W.findIn K (.ref C_NoMoment) "__setattr__" = some (some (.builtin "object.__setattr__")))
    (xn_NoMoment : PySem.W.findIn K (.ref C_NoMoment) "position" = some none)
    (xi_NoMoment : PySem.W.findIn K (.ref C_NoMoment) "__init__" = some (some (.ref I_NoMoment)))
    (xt_NoMoment : PySem.W.typeIn K (.ref I_NoMoment) = some (.type "function"))
    (xk_NoMoment : PySem.W.keepIn K (.ref C_NoMoment) = true)
    (xe_NoMoment : PySem.W.subIn K (.ref C_NoMoment) (.type "BaseException") = some true)
    (xv_NoMoment : PySem.W.subIn K (.ref C_NoMoment) (.type "ValueError") = some true)
    (xy_NoMoment : PySem.W.typeIn K (.ref C_NoMoment) = some (.type "type"))
    (xm_NoMoment : PySem.W.mroIn K C_NoMoment (.ref C_NoMoment) = some true)
    (xu_NoMoment : PySem.W.ks_superIn K C_NoMoment C_NoMoment "__init__" = some (some (.builtin "ValueError.__init__")))
    (xf_NoMoment : K.lookup I_NoMoment = some ⟨oc_NoMoment, od_NoMoment, .func (PySem.W.ksFn "__init__" "NoMoment.__init__" PySem.ZEX.NoMoment_mA PySem.ZEX.NoMoment_mB PySem.ZEX.NoMoment_mS .none .none dc_NoMoment pm_NoMoment an_NoMoment (.ref cda_NoMoment) ct_NoMoment cc_NoMoment), osl_NoMoment⟩)
    (xc_NoMoment : PySem.W.codeIn K (.ref cda_NoMoment) "NoMoment.__init__" = true)
    (xd_NoMoment : K.lookup cc_NoMoment = some ⟨cl_NoMoment, cld_NoMoment, .cell (some (.ref C_NoMoment)), csl_NoMoment⟩)
    (xg_NoMoment : K.lookup cda_NoMoment = some ⟨ccl_NoMoment, cdd_NoMoment, .fields vs_NoMoment, ccs_NoMoment⟩)
    (xh_NoMoment : vs_NoMoment[2]? = some (.str file_NoMoment tf_NoMoment))
    (xj_NoMoment : ((l.prog.main.file : Str) == file_NoMoment) = true)
    (xq_NoMoment : PySem.W.hasDictIn K C_NoMoment = true)
    (y1_NoMoment : PySem.W.findIn K (.ref C_NoMoment) "__getattribute__" = some (some (.builtin "BaseException.__getattribute__")))
    (y2_NoMoment : PySem.W.findIn K (.ref C_NoMoment) "__getattr__" = some none)
    (y5_NoMoment : PySem.W.findIn K (.ref C_NoMoment) "__class__" = some (some (.builtin "object.__class__")))
    (y8_NoMoment : PySem.W.mroIn K C_NoMoment (.type "object") = some true)
    (y9_NoMoment : PySem.W.subIn K (.ref C_NoMoment) (.ref C_NoMoment) = some true)
    (xl_WrongPhase : K.lookup C_WrongPhase = some (PySem.excClassObj nm_WrongPhase q_WrongPhase C_WrongPhase N_WrongPhase bs_WrongPhase bm_WrongPhase true sn_WrongPhase sub_WrongPhase ab_WrongPhase col_WrongPhase dd_WrongPhase m0_WrongPhase m1_WrongPhase m2_WrongPhase m3_WrongPhase m5_WrongPhase "ValueError.__new__"))
    (xr_WrongPhase : PySem.HandSPX.refsVE bm_WrongPhase = true)
    (xs_WrongPhase : PySem.W.findIn K (.ref C_WrongPhase) "__setattr__" = some (some (.builtin "object.__setattr__")))
    (xn_WrongPhase : PySem.W.findIn K (.ref C_WrongPhase) "phase" = some none)
    (xi_WrongPhase : PySem.W.findIn K (.ref C_WrongPhase) "__init__" = some (some (.ref I_WrongPhase)))
    (xt_WrongPhase : PySem.W.typeIn K (.ref I_WrongPhase) = some (.type "function"))
    (xk_WrongPhase : PySem.W.keepIn K (.ref C_WrongPhase) = true)
    (xe_WrongPhase : PySem.W.subIn K (.ref C_WrongPhase) (.type "BaseException") = some true)
    (xv_WrongPhase : PySem.W.subIn K (.ref C_WrongPhase) (.type "ValueError") = some true)
    (xy_WrongPhase : PySem.W.typeIn K (.ref C_WrongPhase) = some (.type "type"))
    (xm_WrongPhase : PySem.W.mroIn K C_WrongPhase (.ref C_WrongPhase) = some true)
    (xu_WrongPhase : PySem.W.ks_superIn K C_WrongPhase C_WrongPhase "__init__" = some (some (.builtin "ValueError.__init__")))
    (xf_WrongPhase : K.lookup I_WrongPhase = some ⟨oc_WrongPhase, od_WrongPhase, .func (PySem.W.ksFn "__init__" "WrongPhase.__init__" PySem.ZEX.WrongPhase_mA PySem.ZEX.WrongPhase_mB PySem.ZEX.WrongPhase_mS .none .none dc_WrongPhase pm_WrongPhase an_WrongPhase (.ref cda_WrongPhase) ct_WrongPhase cc_WrongPhase), osl_WrongPhase⟩)
    (xc_WrongPhase : PySem.W.codeIn K (.ref cda_WrongPhase) "WrongPhase.__init__" = true)
    (xd_WrongPhase : K.lookup cc_WrongPhase = some ⟨cl_WrongPhase, cld_WrongPhase, .cell (some (.ref C_WrongPhase)), csl_WrongPhase⟩)
    (xg_WrongPhase : K.lookup cda_WrongPhase = some ⟨ccl_WrongPhase, cdd_WrongPhase, .fields vs_WrongPhase, ccs_WrongPhase⟩)
    (xh_WrongPhase : vs_WrongPhase[2]? = some (.str file_WrongPhase tf_WrongPhase))
    (xj_WrongPhase : ((l.prog.main.file : Str) == file_WrongPhase) = true)
    (xq_WrongPhase : PySem.W.hasDictIn K C_WrongPhase = true)
    (y1_WrongPhase : PySem.W.findIn K (.ref C_WrongPhase) "__getattribute__" = some (some (.builtin "BaseException.__getattribute__")))
    (y2_WrongPhase : PySem.W.findIn K (.ref C_WrongPhase) "__getattr__" = some none)
    (y5_WrongPhase : PySem.W.findIn K (.ref C_WrongPhase) "__class__" = some (some (.builtin "object.__class__")))
    (y8_WrongPhase : PySem.W.mroIn K C_WrongPhase (.type "object") = some true)
    (y9_WrongPhase : PySem.W.subIn K (.ref C_WrongPhase) (.ref C_WrongPhase) = some true)
    (v_NoMoment_WrongPhase : PySem.W.subIn K (.ref C_NoMoment) (.ref C_WrongPhase) = some false)
    (w0 : PySem.W.kitOne K (.ref C_WrongPhase) (.ref C_StoreError) = some true)
    (w1 : PySem.W.kitOne K (.ref C_NoMoment) (.ref C_StoreError) = some true)
    : ∃ fd : FuncData, (∀ (s : Shared) (v : Value), BindsTo s fd ⟨[v], []⟩ [("script", v)]) ∧ ∀ base : Heap, K.In base → base.Ns mainGlobals mg → FnOk l.prog w K mg base CX0 10 fa fd ["script"] (sp_law K) := by
  have e := hfa.symm.trans (PySem.W.mg_of X G a_law)
  cases e
  have F_ImageCopier___init__ := fun_mk (st := s_ImageCopier___init__) l_ImageCopier___init__ c_ImageCopier___init__ k_ImageCopier___init__
  have b_ImageCopier___init__ := F_ImageCopier___init__.binds (ps := ["self", "position"]) fun _ _ _ _ _ _ us hl => match us, hl with | [_, _], _ => rfl
  have F_ImageCopier_take_slots := fun_mk (st := s_ImageCopier_take_slots) l_ImageCopier_take_slots c_ImageCopier_take_slots k_ImageCopier_take_slots
  have b_ImageCopier_take_slots := F_ImageCopier_take_slots.binds (ps := ["self", "position", "slots", "count"]) fun _ _ _ _ _ _ us hl => match us, hl with | [_, _, _, _], _ => rfl
  have F_ImageCopier_complete := fun_mk (st := s_ImageCopier_complete) l_ImageCopier_complete c_ImageCopier_complete k_ImageCopier_complete
  have b_ImageCopier_complete := F_ImageCopier_complete.binds (ps := ["self"]) fun _ _ _ _ _ _ us hl => match us, hl with | [_], _ => rfl
  have F_ImageCopier_begun_at := fun_mk (st := s_ImageCopier_begun_at) l_ImageCopier_begun_at c_ImageCopier_begun_at k_ImageCopier_begun_at
  have b_ImageCopier_begun_at := F_ImageCopier_begun_at.binds (ps := ["self"]) fun _ _ _ _ _ _ us hl => match us, hl with | [_], _ => rfl
  have F_ImageCopier_reach := fun_mk (st := s_ImageCopier_reach) l_ImageCopier_reach c_ImageCopier_reach k_ImageCopier_reach
  have b_ImageCopier_reach := F_ImageCopier_reach.binds (ps := ["self"]) fun _ _ _ _ _ _ us hl => match us, hl with | [_], _ => rfl
  have F_ImageCopier_finish := fun_mk (st := s_ImageCopier_finish) l_ImageCopier_finish c_ImageCopier_finish k_ImageCopier_finish
  have b_ImageCopier_finish := F_ImageCopier_finish.binds (ps := ["self", "differences"]) fun _ _ _ _ _ _ us hl => match us, hl with | [_, _], _ => rfl
  have F_ImageCopier_saved := fun_mk (st := s_ImageCopier_saved) l_ImageCopier_saved c_ImageCopier_saved k_ImageCopier_saved
  have b_ImageCopier_saved := F_ImageCopier_saved.binds (ps := ["self"]) fun _ _ _ _ _ _ us hl => match us, hl with | [_], _ => rfl
  have F_load_image := fun_mk (st := s_load_image) l_load_image c_load_image k_load_image
  have b_load_image := F_load_image.binds (ps := ["saved"]) fun _ _ _ _ _ _ us hl => match us, hl with | [_], _ => rfl
  have F_law_mixed := fun_mk (st := s_law_mixed) l_law_mixed c_law_mixed k_law_mixed
  have b_law_mixed := F_law_mixed.binds (ps := ["number", "place"]) fun _ _ _ _ _ _ us hl => match us, hl with | [_, _], _ => rfl
  have F_law_rest := fun_mk (st := s_law_rest) l_law_rest c_law_rest k_law_rest
  have b_law_rest := F_law_rest.binds (ps := ["script", "place", "fills"]) fun _ _ _ _ _ _ us hl => match us, hl with | [_, _, _], _ => rfl
  have F_law_pool := fun_mk (st := s_law_pool) l_law_pool c_law_pool k_law_pool
  have b_law_pool := F_law_pool.binds (ps := ["script"]) fun _ _ _ _ _ _ us hl => match us, hl with | [_], _ => rfl
  have F_law_next := fun_mk (st := s_law_next) l_law_next c_law_next k_law_next
  have b_law_next := F_law_next.binds (ps := ["pool"]) fun _ _ _ _ _ _ us hl => match us, hl with | [_], _ => rfl
  have F_law_draw := fun_mk (st := s_law_draw) l_law_draw c_law_draw k_law_draw
  have b_law_draw := F_law_draw.binds (ps := ["pool", "limit"]) fun _ _ _ _ _ _ us hl => match us, hl with | [_, _], _ => rfl
  have F_law_pick := fun_mk (st := s_law_pick) l_law_pick c_law_pick k_law_pick
  have b_law_pick := F_law_pick.binds (ps := ["pool", "options"]) fun _ _ _ _ _ _ us hl => match us, hl with | [_, _], _ => rfl
  have F_law_same := fun_mk (st := s_law_same) l_law_same c_law_same k_law_same
  have b_law_same := F_law_same.binds (ps := ["one", "other"]) fun _ _ _ _ _ _ us hl => match us, hl with | [_, _], _ => rfl
  have F_law_name := fun_mk (st := s_law_name) l_law_name c_law_name k_law_name
  have b_law_name := F_law_name.binds (ps := ["pool"]) fun _ _ _ _ _ _ us hl => match us, hl with | [_], _ => rfl
  have F_law_cells := fun_mk (st := s_law_cells) l_law_cells c_law_cells k_law_cells
  have b_law_cells := F_law_cells.binds (ps := ["pool"]) fun _ _ _ _ _ _ us hl => match us, hl with | [_], _ => rfl
  have F_law_content := fun_mk (st := s_law_content) l_law_content c_law_content k_law_content
  have b_law_content := F_law_content.binds (ps := ["pool", "slot"]) fun _ _ _ _ _ _ us hl => match us, hl with | [_, _], _ => rfl
  have F_law_universe := fun_mk (st := s_law_universe) l_law_universe c_law_universe k_law_universe
  have b_law_universe := F_law_universe.binds (ps := ["pool", "many"]) fun _ _ _ _ _ _ us hl => match us, hl with | [_, _], _ => rfl
  have F_law_copy := fun_mk (st := s_law_copy) l_law_copy c_law_copy k_law_copy
  have b_law_copy := F_law_copy.binds (ps := ["row"]) fun _ _ _ _ _ _ us hl => match us, hl with | [_], _ => rfl
  have F_law_without := fun_mk (st := s_law_without) l_law_without c_law_without k_law_without
  have b_law_without := F_law_without.binds (ps := ["row", "gone"]) fun _ _ _ _ _ _ us hl => match us, hl with | [_, _], _ => rfl
  have F_law_moved := fun_mk (st := s_law_moved) l_law_moved c_law_moved k_law_moved
  have b_law_moved := F_law_moved.binds (ps := ["pool", "slots", "state", "most"]) fun _ _ _ _ _ _ us hl => match us, hl with | [_, _, _, _], _ => rfl
  have F_law_between := fun_mk (st := s_law_between) l_law_between c_law_between k_law_between
  have b_law_between := F_law_between.binds (ps := ["one", "other"]) fun _ _ _ _ _ _ us hl => match us, hl with | [_, _], _ => rfl
  have F_law_states := fun_mk (st := s_law_states) l_law_states c_law_states k_law_states
  have b_law_states := F_law_states.binds (ps := ["pool"]) fun _ _ _ _ _ _ us hl => match us, hl with | [_], _ => rfl
  have F_law_finish := fun_mk (st := s_law_finish) l_law_finish c_law_finish k_law_finish
  have b_law_finish := F_law_finish.binds (ps := ["image", "differences"]) fun _ _ _ _ _ _ us hl => match us, hl with | [_, _], _ => rfl
  have F_law_take := fun_mk (st := s_law_take) l_law_take c_law_take k_law_take
  have b_law_take := F_law_take.binds (ps := ["image", "position", "slots", "count"]) fun _ _ _ _ _ _ us hl => match us, hl with | [_, _, _, _], _ => rfl
  have F_law_agrees := fun_mk (st := s_law_agrees) l_law_agrees c_law_agrees k_law_agrees
  have b_law_agrees := F_law_agrees.binds (ps := ["image", "model"]) fun _ _ _ _ _ _ us hl => match us, hl with | [_, _], _ => rfl
  have F_law_settled := fun_mk (st := s_law_settled) l_law_settled c_law_settled k_law_settled
  have b_law_settled := F_law_settled.binds (ps := ["model", "position", "slots", "count"]) fun _ _ _ _ _ _ us hl => match us, hl with | [_, _, _, _], _ => rfl
  have F_law_steps := fun_mk (st := s_law_steps) l_law_steps c_law_steps k_law_steps
  have b_law_steps := F_law_steps.binds (ps := ["states", "first", "last"]) fun _ _ _ _ _ _ us hl => match us, hl with | [_, _, _], _ => rfl
  have F_law := fun_mk (st := s_law) l_law c_law k_law
  have b_law := F_law.binds (ps := ["script"]) fun _ _ _ _ _ _ us hl => match us, hl with | [_], _ => rfl
  let T : Txt K mg := {
    f_ImageCopier___init__ := f_ImageCopier___init__, d_ImageCopier___init__ := _, F_ImageCopier___init__ := F_ImageCopier___init__, k_ImageCopier___init__ := b_ImageCopier___init__,
    f_ImageCopier_take_slots := f_ImageCopier_take_slots, d_ImageCopier_take_slots := _, F_ImageCopier_take_slots := F_ImageCopier_take_slots, k_ImageCopier_take_slots := b_ImageCopier_take_slots,
    f_ImageCopier_complete := f_ImageCopier_complete, d_ImageCopier_complete := _, F_ImageCopier_complete := F_ImageCopier_complete, k_ImageCopier_complete := b_ImageCopier_complete,
    f_ImageCopier_begun_at := f_ImageCopier_begun_at, d_ImageCopier_begun_at := _, F_ImageCopier_begun_at := F_ImageCopier_begun_at, k_ImageCopier_begun_at := b_ImageCopier_begun_at,
    f_ImageCopier_reach := f_ImageCopier_reach, d_ImageCopier_reach := _, F_ImageCopier_reach := F_ImageCopier_reach, k_ImageCopier_reach := b_ImageCopier_reach,
    f_ImageCopier_finish := f_ImageCopier_finish, d_ImageCopier_finish := _, F_ImageCopier_finish := F_ImageCopier_finish, k_ImageCopier_finish := b_ImageCopier_finish,
    f_ImageCopier_saved := f_ImageCopier_saved, d_ImageCopier_saved := _, F_ImageCopier_saved := F_ImageCopier_saved, k_ImageCopier_saved := b_ImageCopier_saved,
    f_load_image := f_load_image, d_load_image := _, F_load_image := F_load_image, g_load_image := PySem.W.mg_of X G a_load_image, k_load_image := b_load_image,
    f__law_mixed := f_law_mixed, d__law_mixed := _, F__law_mixed := F_law_mixed, g__law_mixed := PySem.W.mg_of X G a_law_mixed, k__law_mixed := b_law_mixed,
    f__law_rest := f_law_rest, d__law_rest := _, F__law_rest := F_law_rest, g__law_rest := PySem.W.mg_of X G a_law_rest, k__law_rest := b_law_rest,
    f__law_pool := f_law_pool, d__law_pool := _, F__law_pool := F_law_pool, g__law_pool := PySem.W.mg_of X G a_law_pool, k__law_pool := b_law_pool,
    f__law_next := f_law_next, d__law_next := _, F__law_next := F_law_next, g__law_next := PySem.W.mg_of X G a_law_next, k__law_next := b_law_next,
    f__law_draw := f_law_draw, d__law_draw := _, F__law_draw := F_law_draw, g__law_draw := PySem.W.mg_of X G a_law_draw, k__law_draw := b_law_draw,
    f__law_pick := f_law_pick, d__law_pick := _, F__law_pick := F_law_pick, g__law_pick := PySem.W.mg_of X G a_law_pick, k__law_pick := b_law_pick,
    f__law_same := f_law_same, d__law_same := _, F__law_same := F_law_same, g__law_same := PySem.W.mg_of X G a_law_same, k__law_same := b_law_same,
    f__law_name := f_law_name, d__law_name := _, F__law_name := F_law_name, g__law_name := PySem.W.mg_of X G a_law_name, k__law_name := b_law_name,
    f__law_cells := f_law_cells, d__law_cells := _, F__law_cells := F_law_cells, g__law_cells := PySem.W.mg_of X G a_law_cells, k__law_cells := b_law_cells,
    f__law_content := f_law_content, d__law_content := _, F__law_content := F_law_content, g__law_content := PySem.W.mg_of X G a_law_content, k__law_content := b_law_content,
    f__law_universe := f_law_universe, d__law_universe := _, F__law_universe := F_law_universe, g__law_universe := PySem.W.mg_of X G a_law_universe, k__law_universe := b_law_universe,
    f__law_copy := f_law_copy, d__law_copy := _, F__law_copy := F_law_copy, g__law_copy := PySem.W.mg_of X G a_law_copy, k__law_copy := b_law_copy,
    f__law_without := f_law_without, d__law_without := _, F__law_without := F_law_without, g__law_without := PySem.W.mg_of X G a_law_without, k__law_without := b_law_without,
    f__law_moved := f_law_moved, d__law_moved := _, F__law_moved := F_law_moved, g__law_moved := PySem.W.mg_of X G a_law_moved, k__law_moved := b_law_moved,
    f__law_between := f_law_between, d__law_between := _, F__law_between := F_law_between, g__law_between := PySem.W.mg_of X G a_law_between, k__law_between := b_law_between,
    f__law_states := f_law_states, d__law_states := _, F__law_states := F_law_states, g__law_states := PySem.W.mg_of X G a_law_states, k__law_states := b_law_states,
    f__law_finish := f_law_finish, d__law_finish := _, F__law_finish := F_law_finish, g__law_finish := PySem.W.mg_of X G a_law_finish, k__law_finish := b_law_finish,
    f__law_take := f_law_take, d__law_take := _, F__law_take := F_law_take, g__law_take := PySem.W.mg_of X G a_law_take, k__law_take := b_law_take,
    f__law_agrees := f_law_agrees, d__law_agrees := _, F__law_agrees := F_law_agrees, g__law_agrees := PySem.W.mg_of X G a_law_agrees, k__law_agrees := b_law_agrees,
    f__law_settled := f_law_settled, d__law_settled := _, F__law_settled := F_law_settled, g__law_settled := PySem.W.mg_of X G a_law_settled, k__law_settled := b_law_settled,
    f__law_steps := f_law_steps, d__law_steps := _, F__law_steps := F_law_steps, g__law_steps := PySem.W.mg_of X G a_law_steps, k__law_steps := b_law_steps,
    f_law := _, d_law := _, F_law := F_law, g_law := PySem.W.mg_of X G a_law, k_law := b_law,
    C_ImageCopier := CC_ImageCopier, c_ImageCopier := ⟨pg_ImageCopier, hd_ImageCopier, po_ImageCopier, sa_ImageCopier⟩, g_ImageCopier := PySem.W.mg_of X G ca_ImageCopier, mk_ImageCopier := ⟨mk_ImageCopier, a_ImageCopier___init__, i_ImageCopier___init__, kc_ImageCopier⟩,
    na_ImageCopier_begun := na_begun_ImageCopier,
    na_ImageCopier_highest := na_highest_ImageCopier,
    na_ImageCopier_last_taken := na_last_taken_ImageCopier,
    na_ImageCopier_whole := na_whole_ImageCopier,
    na_ImageCopier_taken := na_taken_ImageCopier,
    m_ImageCopier___init__ := ⟨a_ImageCopier___init__, i_ImageCopier___init__, k_ImageCopier___init__⟩,
    m_ImageCopier_take_slots := ⟨a_ImageCopier_take_slots, i_ImageCopier_take_slots, k_ImageCopier_take_slots⟩,
    m_ImageCopier_complete := ⟨a_ImageCopier_complete, i_ImageCopier_complete, k_ImageCopier_complete⟩,
    m_ImageCopier_begun_at := ⟨a_ImageCopier_begun_at, i_ImageCopier_begun_at, k_ImageCopier_begun_at⟩,
    m_ImageCopier_reach := ⟨a_ImageCopier_reach, i_ImageCopier_reach, k_ImageCopier_reach⟩,
    m_ImageCopier_finish := ⟨a_ImageCopier_finish, i_ImageCopier_finish, k_ImageCopier_finish⟩,
    m_ImageCopier_saved := ⟨a_ImageCopier_saved, i_ImageCopier_saved, k_ImageCopier_saved⟩,
    b_bool := PySem.W.mg_none_of X G z_bool,
    b_dict := PySem.W.mg_none_of X G z_dict,
    b_int := PySem.W.mg_none_of X G z_int,
    b_isinstance := PySem.W.mg_none_of X G z_isinstance,
    b_len := PySem.W.mg_none_of X G z_len,
    b_list := PySem.W.mg_none_of X G z_list,
    b_max := PySem.W.mg_none_of X G z_max,
    b_range := PySem.W.mg_none_of X G z_range,
    b_sorted := PySem.W.mg_none_of X G z_sorted,
    b_str := PySem.W.mg_none_of X G z_str,
    b_tuple := PySem.W.mg_none_of X G z_tuple }
  let TE : Errs l.prog K mg := {
    C_StoreError := C_StoreError, g_StoreError := PySem.W.mg_of X G a_StoreError,
    C_NoMoment := C_NoMoment, g_NoMoment := PySem.W.mg_of X G a_NoMoment,
    C_WrongPhase := C_WrongPhase, g_WrongPhase := PySem.W.mg_of X G a_WrongPhase,
    C_ImageCopier := C_ImageCopier, g_ImageCopier := PySem.W.mg_of X G a_ImageCopier,
    I_NoMoment := I_NoMoment, E_NoMoment := { gC := PySem.W.mg_of X G a_NoMoment, cls := ⟨_, _, _, _, _, _, _, _, _, _, _, _, _, _, _, xl_NoMoment, xr_NoMoment⟩, sa := xs_NoMoment, noN := xn_NoMoment, iC := xi_NoMoment, tC := xt_NoMoment, kC := xk_NoMoment, exC := xe_NoMoment, veC := xv_NoMoment, tyC := xy_NoMoment, mro := xm_NoMoment, sup := xu_NoMoment, op := xo, noS := PySem.W.mg_none_of X G z_super, top := xp, fn := ⟨_, _, _, _, _, _, _, _, _, _, _, _, _, _, _, _, _, _, xf_NoMoment, xc_NoMoment, xd_NoMoment, xg_NoMoment, xh_NoMoment, xj_NoMoment⟩ },
    x_NoMoment := ⟨y1_NoMoment, y2_NoMoment, xe_NoMoment, xq_NoMoment⟩, i_NoMoment := ⟨y1_NoMoment, y2_NoMoment, xe_NoMoment, xq_NoMoment, y5_NoMoment, y6, y7, y8_NoMoment⟩, t_NoMoment := PySem.W.exm_ref xe_NoMoment xq_NoMoment xy_NoMoment y9_NoMoment,
    I_WrongPhase := I_WrongPhase, E_WrongPhase := { gC := PySem.W.mg_of X G a_WrongPhase, cls := ⟨_, _, _, _, _, _, _, _, _, _, _, _, _, _, _, xl_WrongPhase, xr_WrongPhase⟩, sa := xs_WrongPhase, noN := xn_WrongPhase, iC := xi_WrongPhase, tC := xt_WrongPhase, kC := xk_WrongPhase, exC := xe_WrongPhase, veC := xv_WrongPhase, tyC := xy_WrongPhase, mro := xm_WrongPhase, sup := xu_WrongPhase, op := xo, noS := PySem.W.mg_none_of X G z_super, top := xp, fn := ⟨_, _, _, _, _, _, _, _, _, _, _, _, _, _, _, _, _, _, xf_WrongPhase, xc_WrongPhase, xd_WrongPhase, xg_WrongPhase, xh_WrongPhase, xj_WrongPhase⟩ },
    x_WrongPhase := ⟨y1_WrongPhase, y2_WrongPhase, xe_WrongPhase, xq_WrongPhase⟩, i_WrongPhase := ⟨y1_WrongPhase, y2_WrongPhase, xe_WrongPhase, xq_WrongPhase, y5_WrongPhase, y6, y7, y8_WrongPhase⟩, t_WrongPhase := PySem.W.exm_ref xe_WrongPhase xq_WrongPhase xy_WrongPhase y9_WrongPhase,
    n_NoMoment_WrongPhase := PySem.W.exm_ref xe_WrongPhase xq_WrongPhase xy_WrongPhase v_NoMoment_WrongPhase,
    k_s1 := w0,
    k_s2 := w1 }
  exact ⟨_, fun s v => .of_eq rfl, fun base _ _ => ok_law T TE⟩
end Law
open PySem PySem.W PyProof.Rows
set_option maxRecDepth 100000 in
set_option maxHeartbeats 0 in
theorem PySem.Challenge.cw_storelife_k48_whole_image_while_the_line_holds : PySem.Challenge.rw_storelife_k48_whole_image_while_the_line.Holds := by
  w_on; o_law; k_head; (case hw => w_witness2)
  k_fill
  refine L2.walk_of (l := PySem.Challenge.rw_storelife_k48_whole_image_while_the_line) (n := 63) (k := 10) (x := "script") (CX := fun _ => L2.CX0) (sp := fun w => Law.sp_law _) rfl (by decide) rfl ⟨rfl, by decide, by decide⟩ (fun w h Y => PySem.W.kIn_of Y) ?F (fun _ H a ns hl hO hS => Law.start_law hO hl hS) (fun _ _ _ _ _ h => h)
  case F =>
    intro w mg fa h KX G hmg
    refine' Law.all_mk KX G hmg ?ca_ImageCopier ?pg_ImageCopier ?hd_ImageCopier ?po_ImageCopier ?sa_ImageCopier ?mk_ImageCopier ?kc_ImageCopier ?na_begun_ImageCopier ?na_highest_ImageCopier ?na_last_taken_ImageCopier ?na_whole_ImageCopier ?na_taken_ImageCopier ?a_ImageCopier___init__ ?i_ImageCopier___init__ ?l_ImageCopier___init__ ?c_ImageCopier___init__ ?k_ImageCopier___init__ ?a_ImageCopier_take_slots ?i_ImageCopier_take_slots ?l_ImageCopier_take_slots ?c_ImageCopier_take_slots ?k_ImageCopier_take_slots ?a_ImageCopier_complete ?i_ImageCopier_complete ?l_ImageCopier_complete ?c_ImageCopier_complete ?k_ImageCopier_complete ?a_ImageCopier_begun_at ?i_ImageCopier_begun_at ?l_ImageCopier_begun_at ?c_ImageCopier_begun_at ?k_ImageCopier_begun_at ?a_ImageCopier_reach ?i_ImageCopier_reach ?l_ImageCopier_reach ?c_ImageCopier_reach ?k_ImageCopier_reach ?a_ImageCopier_finish ?i_ImageCopier_finish ?l_ImageCopier_finish ?c_ImageCopier_finish ?k_ImageCopier_finish ?a_ImageCopier_saved ?i_ImageCopier_saved ?l_ImageCopier_saved ?c_ImageCopier_saved ?k_ImageCopier_saved ?a_load_image ?l_load_image ?c_load_image ?k_load_image ?a_law_mixed ?l_law_mixed ?c_law_mixed ?k_law_mixed ?a_law_rest ?l_law_rest ?c_law_rest ?k_law_rest ?a_law_pool ?l_law_pool ?c_law_pool ?k_law_pool ?a_law_next ?l_law_next ?c_law_next ?k_law_next ?a_law_draw ?l_law_draw ?c_law_draw ?k_law_draw ?a_law_pick ?l_law_pick ?c_law_pick ?k_law_pick ?a_law_same ?l_law_same ?c_law_same ?k_law_same ?a_law_name ?l_law_name ?c_law_name ?k_law_name ?a_law_cells ?l_law_cells ?c_law_cells ?k_law_cells ?a_law_content ?l_law_content ?c_law_content ?k_law_content ?a_law_universe ?l_law_universe ?c_law_universe ?k_law_universe ?a_law_copy ?l_law_copy ?c_law_copy ?k_law_copy ?a_law_without ?l_law_without ?c_law_without ?k_law_without ?a_law_moved ?l_law_moved ?c_law_moved ?k_law_moved ?a_law_between ?l_law_between ?c_law_between ?k_law_between ?a_law_states ?l_law_states ?c_law_states ?k_law_states ?a_law_finish ?l_law_finish ?c_law_finish ?k_law_finish ?a_law_take ?l_law_take ?c_law_take ?k_law_take ?a_law_agrees ?l_law_agrees ?c_law_agrees ?k_law_agrees ?a_law_settled ?l_law_settled ?c_law_settled ?k_law_settled ?a_law_steps ?l_law_steps ?c_law_steps ?k_law_steps ?a_law ?l_law ?c_law ?k_law ?z_bool ?z_dict ?z_int ?z_isinstance ?z_len ?z_list ?z_max ?z_range ?z_sorted ?z_str ?z_tuple ?a_StoreError ?a_NoMoment ?a_WrongPhase ?a_ImageCopier ?z_super ?xp ?xo ?y6 ?y7 ?xl_NoMoment ?xr_NoMoment ?xs_NoMoment ?xn_NoMoment ?xi_NoMoment ?xt_NoMoment ?xk_NoMoment ?xe_NoMoment ?xv_NoMoment ?xy_NoMoment ?xm_NoMoment ?xu_NoMoment ?xf_NoMoment ?xc_NoMoment ?xd_NoMoment ?xg_NoMoment ?xh_NoMoment ?xj_NoMoment ?xq_NoMoment ?y1_NoMoment ?y2_NoMoment ?y5_NoMoment ?y8_NoMoment ?y9_NoMoment ?xl_WrongPhase ?xr_WrongPhase ?xs_WrongPhase ?xn_WrongPhase ?xi_WrongPhase ?xt_WrongPhase ?xk_WrongPhase ?xe_WrongPhase ?xv_WrongPhase ?xy_WrongPhase ?xm_WrongPhase ?xu_WrongPhase ?xf_WrongPhase ?xc_WrongPhase ?xd_WrongPhase ?xg_WrongPhase ?xh_WrongPhase ?xj_WrongPhase ?xq_WrongPhase ?y1_WrongPhase ?y2_WrongPhase ?y5_WrongPhase ?y8_WrongPhase ?y9_WrongPhase ?v_NoMoment_WrongPhase ?w0 ?w1
    (case ca_ImageCopier => k_is)
    (case pg_ImageCopier => k_is)
    (case hd_ImageCopier => k_is)
    (case po_ImageCopier => k_is)
    (case sa_ImageCopier => k_is)
    (case mk_ImageCopier => k_is)
    (case kc_ImageCopier => k_is)
    (case na_begun_ImageCopier => k_is)
    (case na_highest_ImageCopier => k_is)
    (case na_last_taken_ImageCopier => k_is)
    (case na_whole_ImageCopier => k_is)
    (case na_taken_ImageCopier => k_is)
    (case a_ImageCopier___init__ => k_is)
    (case i_ImageCopier___init__ => k_is)
    (case l_ImageCopier___init__ => k_is)
    (case c_ImageCopier___init__ => k_is)
    (case k_ImageCopier___init__ => k_is)
    (case a_ImageCopier_take_slots => k_is)
    (case i_ImageCopier_take_slots => k_is)
    (case l_ImageCopier_take_slots => k_is)
    (case c_ImageCopier_take_slots => k_is)
    (case k_ImageCopier_take_slots => k_is)
    (case a_ImageCopier_complete => k_is)
    (case i_ImageCopier_complete => k_is)
    (case l_ImageCopier_complete => k_is)
    (case c_ImageCopier_complete => k_is)
    (case k_ImageCopier_complete => k_is)
    (case a_ImageCopier_begun_at => k_is)
    (case i_ImageCopier_begun_at => k_is)
    (case l_ImageCopier_begun_at => k_is)
    (case c_ImageCopier_begun_at => k_is)
    (case k_ImageCopier_begun_at => k_is)
    (case a_ImageCopier_reach => k_is)
    (case i_ImageCopier_reach => k_is)
    (case l_ImageCopier_reach => k_is)
    (case c_ImageCopier_reach => k_is)
    (case k_ImageCopier_reach => k_is)
    (case a_ImageCopier_finish => k_is)
    (case i_ImageCopier_finish => k_is)
    (case l_ImageCopier_finish => k_is)
    (case c_ImageCopier_finish => k_is)
    (case k_ImageCopier_finish => k_is)
    (case a_ImageCopier_saved => k_is)
    (case i_ImageCopier_saved => k_is)
    (case l_ImageCopier_saved => k_is)
    (case c_ImageCopier_saved => k_is)
    (case k_ImageCopier_saved => k_is)
    (case a_load_image => k_is)
    (case l_load_image => k_is)
    (case c_load_image => k_is)
    (case k_load_image => k_is)
    (case a_law_mixed => k_is)
    (case l_law_mixed => k_is)
    (case c_law_mixed => k_is)
    (case k_law_mixed => k_is)
    (case a_law_rest => k_is)
    (case l_law_rest => k_is)
    (case c_law_rest => k_is)
    (case k_law_rest => k_is)
    (case a_law_pool => k_is)
    (case l_law_pool => k_is)
    (case c_law_pool => k_is)
    (case k_law_pool => k_is)
    (case a_law_next => k_is)
    (case l_law_next => k_is)
    (case c_law_next => k_is)
    (case k_law_next => k_is)
    (case a_law_draw => k_is)
    (case l_law_draw => k_is)
    (case c_law_draw => k_is)
    (case k_law_draw => k_is)
    (case a_law_pick => k_is)
    (case l_law_pick => k_is)
    (case c_law_pick => k_is)
    (case k_law_pick => k_is)
    (case a_law_same => k_is)
    (case l_law_same => k_is)
    (case c_law_same => k_is)
    (case k_law_same => k_is)
    (case a_law_name => k_is)
    (case l_law_name => k_is)
    (case c_law_name => k_is)
    (case k_law_name => k_is)
    (case a_law_cells => k_is)
    (case l_law_cells => k_is)
    (case c_law_cells => k_is)
    (case k_law_cells => k_is)
    (case a_law_content => k_is)
    (case l_law_content => k_is)
    (case c_law_content => k_is)
    (case k_law_content => k_is)
    (case a_law_universe => k_is)
    (case l_law_universe => k_is)
    (case c_law_universe => k_is)
    (case k_law_universe => k_is)
    (case a_law_copy => k_is)
    (case l_law_copy => k_is)
    (case c_law_copy => k_is)
    (case k_law_copy => k_is)
    (case a_law_without => k_is)
    (case l_law_without => k_is)
    (case c_law_without => k_is)
    (case k_law_without => k_is)
    (case a_law_moved => k_is)
    (case l_law_moved => k_is)
    (case c_law_moved => k_is)
    (case k_law_moved => k_is)
    (case a_law_between => k_is)
    (case l_law_between => k_is)
    (case c_law_between => k_is)
    (case k_law_between => k_is)
    (case a_law_states => k_is)
    (case l_law_states => k_is)
    (case c_law_states => k_is)
    (case k_law_states => k_is)
    (case a_law_finish => k_is)
    (case l_law_finish => k_is)
    (case c_law_finish => k_is)
    (case k_law_finish => k_is)
    (case a_law_take => k_is)
    (case l_law_take => k_is)
    (case c_law_take => k_is)
    (case k_law_take => k_is)
    (case a_law_agrees => k_is)
    (case l_law_agrees => k_is)
    (case c_law_agrees => k_is)
    (case k_law_agrees => k_is)
    (case a_law_settled => k_is)
    (case l_law_settled => k_is)
    (case c_law_settled => k_is)
    (case k_law_settled => k_is)
    (case a_law_steps => k_is)
    (case l_law_steps => k_is)
    (case c_law_steps => k_is)
    (case k_law_steps => k_is)
    (case a_law => k_is)
    (case l_law => k_is)
    (case c_law => k_is)
    (case k_law => k_is)
    (case z_bool => k_is)
    (case z_dict => k_is)
    (case z_int => k_is)
    (case z_isinstance => k_is)
    (case z_len => k_is)
    (case z_list => k_is)
    (case z_max => k_is)
    (case z_range => k_is)
    (case z_sorted => k_is)
    (case z_str => k_is)
    (case z_tuple => k_is)
    (case a_StoreError => k_is)
    (case a_NoMoment => k_is)
    (case a_WrongPhase => k_is)
    (case a_ImageCopier => k_is)
    (case z_super => k_is)
    (case xp => first | rfl | decide +kernel)
    (case xo => k_is)
    (case y6 => k_is)
    (case y7 => k_is)
    (case xl_NoMoment => k_is)
    (case xr_NoMoment => decide +kernel)
    (case xs_NoMoment => k_is)
    (case xn_NoMoment => k_is)
    (case xi_NoMoment => k_is)
    (case xt_NoMoment => k_is)
    (case xk_NoMoment => k_is)
    (case xe_NoMoment => k_is)
    (case xv_NoMoment => k_is)
    (case xy_NoMoment => k_is)
    (case xm_NoMoment => k_is)
    (case xu_NoMoment => ks_is)
    (case xf_NoMoment => k_is)
    (case xc_NoMoment => k_is)
    (case xd_NoMoment => k_is)
    (case xg_NoMoment => k_is)
    (case xh_NoMoment => rfl)
    (case xj_NoMoment => first | rfl | decide +kernel)
    (case xq_NoMoment => k_is)
    (case y1_NoMoment => k_is)
    (case y2_NoMoment => k_is)
    (case y5_NoMoment => k_is)
    (case y8_NoMoment => k_is)
    (case y9_NoMoment => first | rfl | k_is)
    (case xl_WrongPhase => k_is)
    (case xr_WrongPhase => decide +kernel)
    (case xs_WrongPhase => k_is)
    (case xn_WrongPhase => k_is)
    (case xi_WrongPhase => k_is)
    (case xt_WrongPhase => k_is)
    (case xk_WrongPhase => k_is)
    (case xe_WrongPhase => k_is)
    (case xv_WrongPhase => k_is)
    (case xy_WrongPhase => k_is)
    (case xm_WrongPhase => k_is)
    (case xu_WrongPhase => ks_is)
    (case xf_WrongPhase => k_is)
    (case xc_WrongPhase => k_is)
    (case xd_WrongPhase => k_is)
    (case xg_WrongPhase => k_is)
    (case xh_WrongPhase => rfl)
    (case xj_WrongPhase => first | rfl | decide +kernel)
    (case xq_WrongPhase => k_is)
    (case y1_WrongPhase => k_is)
    (case y2_WrongPhase => k_is)
    (case y5_WrongPhase => k_is)
    (case y8_WrongPhase => k_is)
    (case y9_WrongPhase => first | rfl | k_is)
    (case v_NoMoment_WrongPhase => k_is)
    (case w0 => kit_is)
    (case w1 => kit_is)

