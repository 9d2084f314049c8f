import PyProof.Rows.All
import Wide.All
import OpenK.AllK
import Wide.FinOn
import HandS.ForMost
import HandS.More
import HandS.TupAny
import HandS.Wide
import HandS.IsInst
import HandS.Style
import KE.KxIndex
import HandS.SortRule
import HandS.Conv
import HandS.Finally
import HandS.Deep
import HandS.DictComp
import KE.KDictCopyH
import HandS.TupLen
import HandS.Text
import HandS.Steps
import PySem.Challenge.RW_storelife_k03_conversions
set_option Elab.async false
set_option linter.all false
set_option maxRecDepth 100000
namespace Zk
open PySem PySem.Spec L2
open PyProof.Rows hiding St

/-! ### heaps that grow -/
def Imm : HO → Prop
  | .tup _ => True
  | .frz _ _ => True
  | _ => False
/-- everything but the objects at M stands as it stood -/
structure Ext (M : List Addr) (H H' : Hp) : Prop where
  keep : ∀ a o, H a = some o → a ∉ M → H' a = some o
  imm : ∀ a o, H a = some o → Imm o → H' a = some o
  live : ∀ a o, H a = some o → ∃ o', H' a = some o'
theorem Ext.refl {M : List Addr} {H : Hp} : Ext M H H := ⟨fun _ _ h _ => h, fun _ _ h _ => h, fun _ o h => ⟨o, h⟩⟩
theorem Ext.trans {M : List Addr} {H H1 H2 : Hp} (a : Ext M H H1) (b : Ext M H1 H2) : Ext M H H2 :=
  ⟨fun x o h n => b.keep x o (a.keep x o h n) n, fun x o h i => b.imm x o (a.imm x o h i) i, fun x o h => (a.live x o h).elim fun o' h' => b.live x o' h'⟩
theorem Ext.mono {M N : List Addr} {H H' : Hp} (a : Ext M H H') (s : ∀ x ∈ M, x ∈ N) : Ext N H H' :=
  ⟨fun x o h n => a.keep x o h fun z => n (s x z), a.imm, a.live⟩
theorem Ext.up {M : List Addr} {H H' : Hp} (a : Ext [] H H') : Ext M H H' := a.mono fun _ z => nomatch z
theorem Ext.free {M : List Addr} {H H' : Hp} (e : Ext M H H') {l : Addr} (h : H' l = none) : H l = none := by
  cases q : H l with
  | none => rfl
  | some o =>
    obtain ⟨o', q'⟩ := e.live l o q
    rw [h] at q'
    cases q'
/-- what changes at an address that was free at the start is no change -/
theorem Ext.drop {M : List Addr} {H H1 H2 : Hp} {p : Addr} (a : Ext M H H1) (b : Ext (p :: M) H1 H2) (np : H p = none) : Ext M H H2 :=
  ⟨fun x o h n => b.keep x o (a.keep x o h n) fun z => by
      rcases List.mem_cons.mp z with z | z
      · subst z; rw [np] at h; cases h
      · exact n z, fun x o h i => b.imm x o (a.imm x o h i) i, fun x o h => (a.live x o h).elim fun o' h' => b.live x o' h'⟩
theorem Ext.new {H : Hp} {p : Addr} {o : HO} (h : H p = none) : Ext [] H (upd H p o) :=
  ⟨fun a u e _ => by rw [upd_ne (ne_of_none e h)]; exact e, fun a u e _ => by rw [upd_ne (ne_of_none e h)]; exact e, fun a u e => ⟨u, by rw [upd_ne (ne_of_none e h)]; exact e⟩⟩
theorem Ext.mut {M : List Addr} {H : Hp} {p : Addr} {o u : HO} (h : H p = some u) (hm : ¬ Imm u) (hp : p ∈ M) : Ext M H (upd H p o) := by
  refine ⟨fun a x e n => ?_, fun a x e i => ?_, fun a x e => ?_⟩
  · have : a ≠ p := fun z => n (z ▸ hp)
    rw [upd_ne this]; exact e
  · have : a ≠ p := fun z => by subst z; rw [h] at e; cases e; exact hm i
    rw [upd_ne this]; exact e
  · by_cases z : a = p
    · subst z; exact ⟨o, upd_same⟩
    · exact ⟨x, by rw [upd_ne z]; exact e⟩
theorem Ext.tup {M : List Addr} {H H' : Hp} (e : Ext M H H') {a : Addr} {xs : List V} (h : H a = some (.tup xs)) : H' a = some (.tup xs) := e.imm a _ h trivial
theorem Ext.at {M : List Addr} {H H' : Hp} (e : Ext M H H') {a : Addr} {o : HO} (h : H a = some o) (n : a ∉ M) : H' a = some o := e.keep a o h n
/-- the dict at d is locked while it is walked -/
theorem Ext.lock {M : List Addr} {H H' : Hp} {d : Addr} {u : HO} {od : Obj} (h : H d = some u) (hm : ¬ Imm u) (e : Ext M (upd H d (.frz od u)) H') : Ext M H (upd H' d u) := by
  refine ⟨fun a x q n => ?_, fun a x q i => ?_, fun a x q => ?_⟩
  · by_cases z : a = d
    · subst z; rw [upd_same]; rw [h] at q; exact q
    · rw [upd_ne z]; exact e.keep a x (by rw [upd_ne z]; exact q) n
  · by_cases z : a = d
    · subst z; rw [upd_same]; rw [h] at q; exact q
    · rw [upd_ne z]; exact e.imm a x (by rw [upd_ne z]; exact q) i
  · by_cases z : a = d
    · subst z; exact ⟨u, upd_same⟩
    · obtain ⟨o', q'⟩ := e.live a x (by rw [upd_ne z]; exact q)
      exact ⟨o', by rw [upd_ne z]; exact q'⟩

/-! ### an object is laid, an object is changed, with the heap behind it a letter -/
def Alc (o : HO) (H : Hp) (Q : VK) : Prop := ∀ p, H p = none → Q (.ref p) (upd H p o)
theorem w_alc {o : HO} {H : Hp} {Q : VK} (h : ∀ p H', Ext [] H H' → H p = none → H' p = some o → Q (.ref p) H') : Alc o H Q := fun p np => h p _ (Ext.new np) np upd_same
def Chg (p : Addr) (o : HO) (H : Hp) (Q : Hp → Prop) : Prop := Q (upd H p o)
theorem w_chg {p : Addr} {o u : HO} {H : Hp} {Q : Hp → Prop} (hp : H p = some u) (hm : ¬ Imm u) (h : ∀ H', Ext [p] H H' → H' p = some o → Q H') : Chg p o H Q :=
  h _ (Ext.mut hp hm (List.mem_singleton.mpr rfl)) upd_same

/-! ### lists and tuples to be read -/
theorem sql {K : PySem.W.Frag} {H : Hp} {a : Addr} {xs : List V} (h : H a = some (.lst xs)) : SqL K H a xs := .inl (.inl h)
theorem sqt {K : PySem.W.Frag} {H : Hp} {a : Addr} {xs : List V} (h : H a = some (.tup xs)) : SqT K H a xs := .inl (.inl h)
/-- the script: locked, or of the written part -/
def Scr (K : PySem.W.Frag) (H : Hp) (a : Addr) (xs : List V) : Prop := (∃ o, H a = some (.frz o (.lst xs))) ∨ (∀ H', SqL K H' a xs)
theorem Scr.ext {K : PySem.W.Frag} {M : List Addr} {H H' : Hp} {a : Addr} {xs : List V} (e : Ext M H H') (h : Scr K H a xs) : Scr K H' a xs := by
  rcases h with ⟨o, h⟩ | h
  · exact .inl ⟨o, e.imm _ _ h trivial⟩
  · exact .inr h
theorem Scr.sql {K : PySem.W.Frag} {H : Hp} {a : Addr} {xs : List V} (h : Scr K H a xs) : SqL K H a xs := by
  rcases h with ⟨o, h⟩ | h
  · exact .inl (.inr ⟨o, h⟩)
  · exact h H
theorem Scr.of {K : PySem.W.Frag} {H : Hp} {a : Addr} {xs : List V} (hO : Only H) (h : SqL K H a xs) : Scr K H a xs := by
  rcases h with (h | ⟨o, h⟩) | h
  · rcases hO a with z | ⟨o, ys, z⟩
    · rw [h] at z; cases z
    · rw [h] at z; cases z
  · exact .inl ⟨o, h⟩
  · exact .inr fun H' => .inr h
theorem sz {n : Nat} (h : n ≤ 1000000) : n ≤ sizeLine := Nat.le_trans h (by decide)
theorem szl {n : Nat} (h : n < 1000000) : n < sizeLine := Nat.lt_of_lt_of_le h (by decide)

/-! ### readings, by name -/
def zTup (t : TA) : TE := fun σ H Q => t σ H fun xs H1 => xs.length ≤ sizeLine ∧ Alc (.tup xs) H1 Q
def zLst (t : TA) : TE := fun σ H Q => t σ H fun xs H1 => xs.length ≤ sizeLine ∧ Alc (.lst xs) H1 Q
def zDNewK : TE := fun _ H Q => Alc (.dK []) H Q
def zDNewT : TE := fun _ H Q => Alc (.dT []) H Q
def rLtS : R2 := fun x y H Q => ∃ i j, x = .str i ∧ y = .str j ∧ Q (.bl (decide (i.cps.toList < j.cps.toList))) H
def rAddSt : R2 := fun x y H Q => ∃ i j, x = .str i ∧ y = .str j ∧ i.length + j.length ≤ sizeLine ∧ Q (.str (i ++ j)) H
def rMulSt : R2 := fun x y H Q => ∃ i j, x = .str i ∧ y = .int j ∧ i.length ≤ 16 ∧ (-(2 ^ 63 : Int) ≤ j ∧ j ≤ 1048576) ∧ Q (.str (Txt.mul i j)) H
def rIsNn : R2 := fun x y H Q => y = .non ∧ Q (.bl (decide (x = .non))) H
def rIsNt : R2 := fun x y H Q => y = .non ∧ Q (.bl (!decide (x = .non))) H
def rIsBv : R2 := fun x y H Q => ∃ b, y = .bl b ∧ Q (.bl (decide (x = .bl b))) H
def rIsNtBv : R2 := fun x y H Q => ∃ b, y = .bl b ∧ Q (.bl (!decide (x = .bl b))) H
def zCat : R2 := fun x y H Q => ∃ l b xs zs, x = .ref l ∧ y = .ref b ∧ H l = some (.lst xs) ∧ H b = some (.lst zs) ∧ xs.length + zs.length ≤ sizeLine ∧ Alc (.lst (xs ++ zs)) H Q
def zCatA (K : PySem.W.Frag) : R2 := fun x y H Q => ∃ a b xs ys, x = .ref a ∧ y = .ref b ∧ SqT K H a xs ∧ SqT K H b ys ∧ xs.length + ys.length ≤ sizeLine ∧
  (xs = [] → Q (.ref b) H) ∧ (xs ≠ [] → ys = [] → Q (.ref a) H) ∧ (xs ≠ [] → ys ≠ [] → Alc (.tup (xs ++ ys)) H Q)
def zSetL : V → V → V → Hp → (Hp → Prop) → Prop := fun o i v H Q => ∃ p xs k j, o = .ref p ∧ i = .int k ∧ H p = some (.lst xs) ∧ ixN xs.length k = some j ∧ Chg p (.lst (xs.set j v)) H Q
def zAppend : V → List V → Hp → VK → Prop := fun x vs H Q => ∃ l xs y, x = .ref l ∧ vs = [y] ∧ H l = some (.lst xs) ∧ xs.length < sizeLine ∧ Chg l (.lst (xs ++ [y])) H (Q .non)
def rJoin (K : PySem.W.Frag) : V → List V → Hp → VK → Prop := fun x xs H Q => ∃ a p, ∃ ys : List Str, x = .str a ∧ xs = [.ref p] ∧ (SqL K H p (ys.map V.str) ∨ SqT K H p (ys.map V.str)) ∧
    (ys.map (·.length)).sum + ys.length * a.length ≤ 16777216 ∧ Q (.str (Txt.join a ys)) H
/-! calls of built-ins -/
abbrev RC := List V → Hp → VK → Prop
def cInt : RC := fun xs H Q => (∃ i, xs = [.int i] ∧ Q (.int i) H) ∨ ∃ k, xs = [.bl k] ∧ Q (.int (if k then 1 else 0)) H
def cTup (K : PySem.W.Frag) : RC := fun xs H Q => ∃ p ys, xs = [.ref p] ∧ ((SqL K H p ys ∧ Alc (.tup ys) H Q) ∨ (SqT K H p ys ∧ Q (.ref p) H))
def cLen (K : PySem.W.Frag) : RC := fun xs H Q => ∃ x n, xs = [x] ∧ LenV K x H n ∧ Q (.int n) H
def cLenD : RC := fun xs H Q => ∃ a kvs, xs = [V.ref a] ∧ H a = some (.dK kvs) ∧ Q (.int kvs.length) H
def cDictD : RC := fun xs H Q => ∃ (a : Addr) (kvs : List (Key × V)), xs = [.ref a] ∧ Rd H a (.dK kvs) ∧ Alc (.dK kvs) H Q
def cSortD : RC := fun xs H Q => ∃ (a : Addr) (kvs : List (Key × V)) (ks : List Str), xs = [.ref a] ∧ Rd H a (.dK kvs) ∧ kvs.map (·.1) = ks.map Sum.inr ∧ ks.length < 64 ∧
    ∀ ys, ys.Perm ks → sortedS ys = true → Alc (.lst (ys.map V.str)) H Q
section
variable {X : Cx} {es : List Expr} {t : TA} {pos : Pos}
theorem pe_tupZ {x1} (h : PA X es t) : PE X (.Tuple es x1 pos) (zTup t) := pe_tup h
theorem pe_lstZ (h : PA X es t) : PE X (.List es pos) (zLst t) := pe_lst h
theorem pe_dnewKZ : PE X (.Dict [] [] pos) zDNewK := pe_dnewK
theorem pe_dnewTZ : PE X (.Dict [] [] pos) zDNewT := pe_dnewT
theorem zpe_join {o e : Expr} {to te : TE} {apos : Pos} (ho : PE X o to) (he : PE X e te) (hs : starEach [e] X.env = [(false, eval e X.env)] := by rfl) (hbase : attributeBase o "join" X.env (eval o X.env) = eval o X.env := by rfl) (hline : (apos.endLine == pos.line) = true := by rfl) :
    PE X (.Call (.Attribute o "join" apos) [e] [] pos) (tM1 (rJoin X.K) to te) := pe_join ho he hs hbase hline
theorem zop_ltS : OpR X (compareOp .Lt) rLtS := op_lt_str
theorem zop_addS : OpR X (binaryOp .Add) rAddSt := op_add_str
theorem zop_isN : OpR X (compareOp .Is) rIsNn := op_isN
theorem zop_notN : OpR X (compareOp .IsNot) rIsNt := op_notN
theorem plain_bool {x : V} {v : Value} {b : Bool} (r : RelV x v) : plainIs v (.bool b) = true := by
  cases x with
  | non => cases (show v = _ from r); rfl
  | bl c => cases (show v = _ from r); rfl
  | int i => obtain ⟨t, e⟩ := (show ∃ t, v = _ from r); subst e; rfl
  | str i => obtain ⟨t, e⟩ := (show ∃ t, v = _ from r); subst e; rfl
  | byt i => obtain ⟨t, e⟩ := (show ∃ t, v = _ from r); subst e; rfl
  | flt i => obtain ⟨t, e⟩ := (show ∃ t, v = _ from r); subst e; rfl
  | ref a => cases (show v = _ from r); rfl
  | ty n => cases (show v = _ from r); rfl
theorem rel_bool {x : V} {v : Value} {b : Bool} (r : RelV x v) : (v = .bool b) ↔ x = .bl b := by
  constructor
  · intro z
    subst z
    cases x with
    | bl c => cases (show Value.bool b = Value.bool c from r); rfl
    | non => cases (show Value.bool b = _ from r)
    | int i => obtain ⟨t, e⟩ := (show ∃ t, Value.bool b = _ from r); cases e
    | str i => obtain ⟨t, e⟩ := (show ∃ t, Value.bool b = _ from r); cases e
    | byt i => obtain ⟨t, e⟩ := (show ∃ t, Value.bool b = _ from r); cases e
    | flt i => obtain ⟨t, e⟩ := (show ∃ t, Value.bool b = _ from r); cases e
    | ref a => cases (show Value.bool b = _ from r)
    | ty n => cases (show Value.bool b = _ from r)
  · intro z
    subst z
    exact r
theorem zop_isB : OpR X (compareOp .Is) rIsBv := by
  intro pins s σ H x y v u Q I rx ry h
  obtain ⟨b, rfl, q⟩ := h
  cases (show u = Value.bool b from ry)
  by_cases e : x = .bl b
  · have e2 := (rel_bool (b := b) rx).mpr e
    subst e2
    exact wpAny_is_self rfl ⟨.bl true, H, I, rfl, by rw [decide_eq_true e] at q; exact q⟩
  · exact wpAny_is_other (plain_bool rx) (fun z => e ((rel_bool rx).mp z)) ⟨.bl false, H, I, rfl, by rw [decide_eq_false e] at q; exact q⟩
theorem zop_isNotB : OpR X (compareOp .IsNot) rIsNtBv := by
  intro pins s σ H x y v u Q I rx ry h
  obtain ⟨b, rfl, q⟩ := h
  cases (show u = Value.bool b from ry)
  by_cases e : x = .bl b
  · have e2 := (rel_bool (b := b) rx).mpr e
    subst e2
    exact wpAny_isNot_self rfl ⟨.bl false, H, I, rfl, by rw [decide_eq_true e] at q; exact q⟩
  · exact wpAny_isNot_other (plain_bool rx) (fun z => e ((rel_bool rx).mp z)) ⟨.bl true, H, I, rfl, by rw [decide_eq_false e] at q; exact q⟩
theorem zop_mulS : OpR X (binaryOp .Mult) rMulSt := by
  intro pins s σ H x y v u Q I rx ry h
  obtain ⟨i, j, rfl, rfl, hi, hj, q⟩ := h
  obtain ⟨t, rfl⟩ := rx
  obtain ⟨t', rfl⟩ := ry
  exact PySem.W.KXi.mul rfl hi hj.1 hj.2 fun t' tk _ _ => ⟨.str (Txt.mul i j), H, I.tok _, ⟨_, rfl⟩, q⟩
theorem zop_cat : OpR X (binaryOp .Add) zCat := op_cat
theorem zop_catA : OpR X (binaryOp .Add) (zCatA X.K) := op_catA
theorem zset_list : PSet X zSetL := set_list
theorem zmt_append : MtR X "list.append" zAppend := mt_append
theorem zop_catAK {K : PySem.W.Frag} (h : X.K = K) : OpR X (binaryOp .Add) (zCatA K) := h ▸ zop_catA
theorem op_in_seqK {K : PySem.W.Frag} (h : X.K = K) : OpR X (compareOp .In) (rIn K false) := h ▸ op_in_seq
theorem op_notIn_seqK {K : PySem.W.Frag} (h : X.K = K) : OpR X (compareOp .NotIn) (rIn K true) := h ▸ op_notIn_seq
theorem ix_listK {K : PySem.W.Frag} (h : X.K = K) : IxR X (rIxL K) := h ▸ ix_list
theorem ix_tupK {K : PySem.W.Frag} (h : X.K = K) : IxR X (rIxT K) := h ▸ ix_tup
theorem zc_lenK {K : PySem.W.Frag} (h : X.K = K) : CallR X (.builtin "len") (cLen K) := h ▸ call_len
theorem cr_sumK {K : PySem.W.Frag} (hc : X.calm = true) (h : X.K = K) : CallR X (.builtin "sum") (rSum K) := h ▸ cr_sum hc
theorem zc_int : CallR X (.type "int") cInt := call_int1
theorem zc_tup : CallR X (.type "tuple") (cTup X.K) := call_tuple_of
theorem zc_len : CallR X (.builtin "len") (cLen X.K) := call_len
theorem zc_lenD : CallR X (.builtin "len") cLenD := call_lenD
theorem zc_dictD : CallR X (.type "dict") cDictD := call_dictD
theorem zc_sortD (hc : X.calm = true) : CallR X (.builtin "sorted") cSortD := by
  intro pins s σ H xs us Q I r h
  obtain ⟨a, kvs, ks, e, h1, h2, h3, q⟩ := h
  exact call_sortedD hc pins s σ H xs us Q I r ⟨a, kvs, ks, e, h1, h2, h3, fun ys p hp hs np => q ys hp hs p np⟩
end
end Zk

set_option Elab.async false
set_option linter.all false
set_option maxRecDepth 100000
namespace Zk
open PySem PySem.Spec L2
open PyProof.Rows hiding St

theorem nm1 {a p : Addr} (h : a ≠ p) : a ∉ [p] := fun z => h (List.mem_singleton.mp z)
theorem nm2 {a p q : Addr} (h : a ≠ p) (g : a ≠ q) : a ∉ [p, q] := fun z => by
  rcases List.mem_cons.mp z with z | z
  · exact h z
  · exact g (List.mem_singleton.mp z)
theorem Ext.get {M : List Addr} {H H' : Hp} (e : Ext M H H') {a : Addr} {o : HO} (h : H a = some o) (n : a ∉ M ∨ Imm o) : H' a = some o :=
  n.elim (e.keep a o h) (e.imm a o h)

theorem at_some {α : Type} {xs : List α} {r : Int} (h0 : 0 ≤ r) (h1 : r < (xs.length : Int)) : ∃ v, atI xs r = some v ∧ xs[r.toNat]? = some v := by
  have hl : r.toNat < xs.length := by omega
  refine ⟨xs[r.toNat], ?_, List.getElem?_eq_getElem hl⟩
  have h := atI_nat (xs := xs) (j := r.toNat) (List.getElem?_eq_getElem hl)
  rw [Int.toNat_of_nonneg h0] at h
  exact h
theorem at_map {α : Type} {f : α → V} {xs : List α} {r : Int} (h0 : 0 ≤ r) (h1 : r < (xs.length : Int)) : ∃ v, v ∈ xs ∧ atI (xs.map f) r = some (f v) := by
  obtain ⟨v, h, g⟩ := at_some (xs := xs.map f) h0 (by rw [List.length_map]; exact h1)
  rw [List.getElem?_map, Option.map_eq_some_iff] at g
  obtain ⟨y, hy, e⟩ := g
  subst e
  exact ⟨y, List.mem_of_getElem? hy, h⟩

theorem str_app_inj {z : Str} {c d : Nat} (h : z ++ (⟨#[c]⟩ : Str) = z ++ (⟨#[d]⟩ : Str)) : c = d := by
  have h1 : z.cps ++ #[c] = z.cps ++ #[d] := congrArg Str.cps h
  have h2 := congrArg Array.toList h1
  simp at h2
  exact h2
theorem str_len_append (a b : Str) : (a ++ b).length = a.length + b.length := Array.size_append
theorem str_len_join {sep : Str} (h0 : sep.length = 0) : ∀ ys : List Str, (Txt.join sep ys).length = (ys.map (·.length)).sum := by
  intro ys
  show (Builtin.Str.glued sep ys).length = _
  rw [StrLaws.glued_eq_join]
  induction ys with
  | nil => rfl
  | cons x r ih =>
    cases r with
    | nil => simp [Str.join]
    | cons y r =>
      show (x ++ sep ++ Str.join sep (y :: r)).length = _
      rw [str_len_append, str_len_append, ih, h0]
      simp
theorem str_len_mul {x : Str} {n : Int} (h : 0 ≤ n) : (Txt.mul x n).length = x.length * n.toNat := by
  have e := PyProof.Rows.len_mul x n
  rw [if_neg (by simp; omega)] at e
  have : (x.length : Int) * n = ((x.length * n.toNat : Nat) : Int) := by
    rw [Int.natCast_mul, Int.toNat_of_nonneg h]
  omega
theorem nodup_len {α : Type} [DecidableEq α] : ∀ {l m : List α}, l.Nodup → (∀ x ∈ l, x ∈ m) → l.length ≤ m.length
  | [], m, _, _ => Nat.zero_le _
  | x :: l, m, hn, hs => by
    obtain ⟨h1, h2⟩ := List.nodup_cons.mp hn
    have hx := hs x List.mem_cons_self
    have ih := nodup_len (l := l) (m := m.erase x) h2 fun y hy => by
      have ne : y ≠ x := fun z => h1 (z ▸ hy)
      exact (List.mem_erase_of_ne ne).mpr (hs y (List.mem_cons_of_mem _ hy))
    rw [List.length_erase_of_mem hx] at ih
    have : 0 < m.length := List.length_pos_of_mem hx
    show l.length + 1 ≤ m.length
    omega

theorem paired_snoc {α β : Type} {R : α → β → Prop} {x : α} {y : β} (r : R x y) : ∀ {xs : List α} {ys : List β}, Paired R xs ys → Paired R (xs ++ [x]) (ys ++ [y])
  | _, _, .nil => .cons r .nil
  | _, _, .cons h t => .cons h (paired_snoc r t)
theorem paired_at {α β : Type} {R : α → β → Prop} : ∀ {xs : List α} {ys : List β} {i : Nat} {x : α}, Paired R xs ys → xs[i]? = some x → ∃ y, ys[i]? = some y ∧ R x y
  | _, _, _, _, .nil, e => by simp at e
  | _, _, 0, _, .cons r _, e => by simp at e; subst e; exact ⟨_, rfl, r⟩
  | _, _, i + 1, x, .cons _ t, e => by
    obtain ⟨y, h1, h2⟩ := paired_at (i := i) (x := x) t (by simpa using e)
    exact ⟨y, by simpa using h1, h2⟩
theorem paired_len {α β : Type} {R : α → β → Prop} : ∀ {xs : List α} {ys : List β}, Paired R xs ys → xs.length = ys.length
  | _, _, .nil => rfl
  | _, _, .cons _ t => congrArg (· + 1) (paired_len t)
theorem at_nat0 {α : Type} {xs : List α} {i : Nat} {v : α} (h : xs[i]? = some v) : atI xs (0 + (i : Int)) = some v := by
  rw [Int.zero_add]
  exact atI_nat h
theorem get_snoc {α : Type} {xs : List α} {x : α} {i : Nat} (h : xs.length = i) : (xs ++ [x])[i]? = some x := by
  subst h
  simp
theorem Ext.dropq {M : List Addr} {H H1 H2 : Hp} {p : Addr} (a : Ext M H H1) (b : Ext [p] H1 H2) (np : H p = none) : Ext M H H2 :=
  a.drop (p := p) (b.mono fun _ z => List.mem_cons.mpr (.inl (List.mem_singleton.mp z))) np

/-! ### promises by the number of arguments -/
def sp0 (P : Hp → VK → Prop) : Sp := fun vs H Q _ => vs = [] ∧ P H Q
def sp1 (P : V → Hp → VK → Prop) : Sp := fun vs H Q _ => ∃ a, vs = [a] ∧ P a H Q
def sp2 (P : V → V → Hp → VK → Prop) : Sp := fun vs H Q _ => ∃ a b, vs = [a, b] ∧ P a b H Q
def sp3 (P : V → V → V → Hp → VK → Prop) : Sp := fun vs H Q _ => ∃ a b c, vs = [a, b, c] ∧ P a b c H Q
def sp4 (P : V → V → V → V → Hp → VK → Prop) : Sp := fun vs H Q _ => ∃ a b c d, vs = [a, b, c, d] ∧ P a b c d H Q
theorem w_sp1 {P : V → Hp → VK → Prop} {a H Q E} (h : P a H Q) : sp1 P ([a] ++ []) H Q E := ⟨a, rfl, h⟩
theorem w_sp2 {P : V → V → Hp → VK → Prop} {a b H Q E} (h : P a b H Q) : sp2 P ([a, b] ++ []) H Q E := ⟨a, b, rfl, h⟩
theorem w_sp3 {P : V → V → V → Hp → VK → Prop} {a b c H Q E} (h : P a b c H Q) : sp3 P ([a, b, c] ++ []) H Q E := ⟨a, b, c, rfl, h⟩
theorem w_sp4 {P : V → V → V → V → Hp → VK → Prop} {a b c d H Q E} (h : P a b c d H Q) : sp4 P ([a, b, c, d] ++ []) H Q E := ⟨a, b, c, d, rfl, h⟩
theorem len1 {P : V → Hp → VK → Prop} {x : Str} : ∀ vs H Q E, sp1 P vs H Q E → vs.length = [x].length := fun _ _ _ _ ⟨_, e, _⟩ => e ▸ rfl
theorem len2 {P : V → V → Hp → VK → Prop} {x y : Str} : ∀ vs H Q E, sp2 P vs H Q E → vs.length = [x, y].length := fun _ _ _ _ ⟨_, _, e, _⟩ => e ▸ rfl
theorem len3 {P : V → V → V → Hp → VK → Prop} {x y z : Str} : ∀ vs H Q E, sp3 P vs H Q E → vs.length = [x, y, z].length := fun _ _ _ _ ⟨_, _, _, e, _⟩ => e ▸ rfl
theorem len4 {P : V → V → V → V → Hp → VK → Prop} {x y z u : Str} : ∀ vs H Q E, sp4 P vs H Q E → vs.length = [x, y, z, u].length := fun _ _ _ _ ⟨_, _, _, _, e, _⟩ => e ▸ rfl

/-! ### one step of a reading -/
section
variable {σ : St} {H : Hp} {Q : VK} {QB : Bool → Hp → Prop} {QL : List V → Hp → Prop} {v x y : V} {ta tb tc te : TE} {tt tu : TT} {tl : TA} {t u : TS} {r : R2} {K : PySem.W.Frag} {i : Nat} {nx bk ct : St → Hp → Prop} {rt : VK} {a b : Addr}
theorem w_var (h : σ[i]? = some (some v)) (q : Q v H) : tVar i σ H Q := ⟨v, h, q⟩
theorem w_c (q : Q v H) : tC v σ H Q := q
theorem w_op (h : ta σ H fun x H1 => tb σ H1 fun y H2 => r x y H2 Q) : tOp r ta tb σ H Q := h
theorem w_un {r : V → Hp → VK → Prop} (h : ta σ H fun x H1 => r x H1 Q) : tUn r ta σ H Q := h
theorem w_rU {g : Int → V} {j : Int} (q : Q (g j) H) : rU g (.int j) H Q := ⟨j, rfl, q⟩
theorem w_I0 {g : Int → Int → V} {i j : Int} (q : Q (g i j) H) : rI0 g (.int i) (.int j) H Q := ⟨i, j, rfl, rfl, q⟩
theorem w_I {C : Int → Int → Prop} {g : Int → Int → V} {i j : Int} (c : C i j) (q : Q (g i j) H) : rI C g (.int i) (.int j) H Q := ⟨i, j, rfl, rfl, c, q⟩
theorem w_modA {i j : Int} (c : 0 < j) (q : ∀ r, 0 ≤ r → r < j → Q (.int r) H) : rI (fun _ j => 0 < j) (fun i j => .int (i % j)) (.int i) (.int j) H Q := ⟨i, j, rfl, rfl, c, q _ (Int.emod_nonneg i (by omega)) (Int.emod_lt_of_pos i c)⟩
theorem w_eq (c : scal x y = true) (q : Q (.bl (decide (x = y))) H) : rEq x y H Q := ⟨c, q⟩
theorem w_ne (c : scal x y = true) (q : Q (.bl (!decide (x = y))) H) : rNe x y H Q := ⟨c, q⟩
theorem w_eqI {i j : Int} (q : Q (.bl (decide (i = j))) H) : rEq (.int i) (.int j) H Q := ⟨rfl, by rw [show decide (V.int i = V.int j) = decide (i = j) by simp]; exact q⟩
theorem w_neI {i j : Int} (q : Q (.bl (!decide (i = j))) H) : rNe (.int i) (.int j) H Q := ⟨rfl, by rw [show decide (V.int i = V.int j) = decide (i = j) by simp]; exact q⟩
theorem w_eqS {i j : Str} (q : Q (.bl (decide (i = j))) H) : rEq (.str i) (.str j) H Q := ⟨rfl, by rw [show decide (V.str i = V.str j) = decide (i = j) by simp]; exact q⟩
theorem w_neS {i j : Str} (q : Q (.bl (!decide (i = j))) H) : rNe (.str i) (.str j) H Q := ⟨rfl, by rw [show decide (V.str i = V.str j) = decide (i = j) by simp]; exact q⟩
theorem w_isN (q : Q (.bl (decide (x = .non))) H) : rIsNn x .non H Q := ⟨rfl, q⟩
theorem w_isNt (q : Q (.bl (!decide (x = .non))) H) : rIsNt x .non H Q := ⟨rfl, q⟩
theorem w_isB {c : Bool} (q : Q (.bl (decide (x = .bl c))) H) : rIsBv x (.bl c) H Q := ⟨c, rfl, q⟩
theorem w_isNtB {c : Bool} (q : Q (.bl (!decide (x = .bl c))) H) : rIsNtBv x (.bl c) H Q := ⟨c, rfl, q⟩
theorem w_ltS {i j : Str} (q : Q (.bl (decide (i.cps.toList < j.cps.toList))) H) : rLtS (.str i) (.str j) H Q := ⟨i, j, rfl, rfl, q⟩
theorem w_addS {i j : Str} (c : i.length + j.length ≤ sizeLine) (q : Q (.str (i ++ j)) H) : rAddSt (.str i) (.str j) H Q := ⟨i, j, rfl, rfl, c, q⟩
theorem w_mulS {i : Str} {j : Int} (c : i.length ≤ 16) (d : -(2 ^ 63 : Int) ≤ j ∧ j ≤ 1048576) (q : Q (.str (Txt.mul i j)) H) : rMulSt (.str i) (.int j) H Q := ⟨i, j, rfl, rfl, c, d, q⟩
theorem w_ixL {xs : List V} {j : Int} (h : SqL K H a xs) (e : atI xs j = some v) (q : Q v H) : rIxL K (.ref a) (.int j) H Q := ⟨a, xs, j, v, rfl, rfl, h, e, q⟩
theorem w_ixT {xs : List V} {j : Int} (h : SqT K H a xs) (e : atI xs j = some v) (q : Q v H) : rIxT K (.ref a) (.int j) H Q := ⟨a, xs, j, v, rfl, rfl, h, e, q⟩
theorem w_ixS {z : Str} {j : Int} {c : Nat} (h : z.length ≤ sizeLine) (e : atI z.cps.toList j = some c) (q : Q (.str ⟨#[c]⟩) H) : rIxS (.str z) (.int j) H Q := ⟨z, j, c, rfl, rfl, h, e, q⟩
theorem w_inL {neg : Bool} {xs : List V} (h : SqL K H a xs) (f : flatV x = true) (g : xs.all flatV = true) (q : Q (.bl (if neg then !inV x xs else inV x xs)) H) : rIn K neg x (.ref a) H Q := ⟨a, xs, rfl, .inl h, f, g, q⟩
theorem w_inT {neg : Bool} {xs : List V} (h : SqT K H a xs) (f : flatV x = true) (g : xs.all flatV = true) (q : Q (.bl (if neg then !inV x xs else inV x xs)) H) : rIn K neg x (.ref a) H Q := ⟨a, xs, rfl, .inr h, f, g, q⟩
theorem w_cat {xs zs : List V} (h : H a = some (.lst xs)) (g : H b = some (.lst zs)) (c : xs.length + zs.length ≤ sizeLine) (q : Alc (.lst (xs ++ zs)) H Q) : zCat (.ref a) (.ref b) H Q := ⟨a, b, xs, zs, rfl, rfl, h, g, c, q⟩
theorem w_setL {xs : List V} {k : Int} {j : Nat} {Q : Hp → Prop} (h : H a = some (.lst xs)) (e : ixN xs.length k = some j) (q : Chg a (.lst (xs.set j v)) H Q) : zSetL (.ref a) (.int k) v H Q := ⟨a, xs, k, j, rfl, rfl, h, e, q⟩
theorem w_append {xs : List V} (h : H a = some (.lst xs)) (c : xs.length < sizeLine) (q : Chg a (.lst (xs ++ [y])) H (Q .non)) : zAppend (.ref a) [y] H Q := ⟨a, xs, y, rfl, rfl, h, c, q⟩
theorem w_m1 {r : V → List V → Hp → VK → Prop} (h : ta σ H fun x H1 => (∃ a, x = .str a) ∧ tb σ H1 fun y H2 => r x [y] H2 Q) : tM1 r ta tb σ H Q := h
theorem w_str {s : Str} {R : Prop} (h : R) : (∃ a, V.str s = .str a) ∧ R := ⟨⟨s, rfl⟩, h⟩
theorem w_join {s : Str} {ys : List Str} (h : SqL K H a (ys.map V.str)) (c : (ys.map (·.length)).sum + ys.length * s.length ≤ 16777216) (q : Q (.str (Txt.join s ys)) H) : rJoin K (.str s) [.ref a] H Q := ⟨s, a, ys, rfl, rfl, .inl h, c, q⟩
theorem inV_str {z : Str} {ns : List Str} : inV (.str z) (ns.map V.str) = decide (z ∈ ns) := by
  unfold inV
  induction ns with
  | nil => rfl
  | cons a r ih =>
    rw [List.map_cons, List.any_cons, ih]
    show (a == z || decide (z ∈ r)) = _
    by_cases h : a = z
    · subst h; simp
    · have h2 : ¬ z = a := fun e => h e.symm
      simp [h, h2]
theorem flat_str : ∀ ns : List Str, (ns.map V.str).all flatV = true
  | [] => rfl
  | _ :: r => by rw [List.map_cons, List.all_cons, flat_str r]; rfl
theorem w_inS {z : Str} {ns : List Str} (h : SqL K H a (ns.map V.str) ∨ SqT K H a (ns.map V.str)) (q : Q (.bl (decide (z ∈ ns))) H) : rIn K false (.str z) (.ref a) H Q :=
  ⟨a, _, rfl, h, rfl, flat_str ns, by rw [if_neg Bool.false_ne_true, inV_str]; exact q⟩
theorem w_ninS {z : Str} {ns : List Str} (h : SqL K H a (ns.map V.str) ∨ SqT K H a (ns.map V.str)) (q : Q (.bl (!decide (z ∈ ns))) H) : rIn K true (.str z) (.ref a) H Q :=
  ⟨a, _, rfl, h, rfl, flat_str ns, by rw [if_pos rfl, inV_str]; exact q⟩
theorem w_bm {T : String} {r : V → List V → Hp → VK → Prop} (h : ta σ H fun x H1 => tyV K T x H1 ∧ tl σ H1 fun xs H2 => r x xs H2 Q) : tBM K T r ta tl σ H Q := h
theorem w_bm0 {T : String} {r : V → List V → Hp → VK → Prop} (h : ta σ H fun x H1 => tyV K T x H1 ∧ r x [] H1 Q) : tBM0 K T r ta σ H Q := h
theorem w_tyL {xs : List V} {R : Prop} (h : SqL K H a xs) (q : R) : tyV K "list" (.ref a) H ∧ R := ⟨.inl ⟨rfl, xs, h⟩, q⟩
/-! tests -/
theorem w_test (h : te σ H fun x H1 => ∃ k, x = .bl k ∧ QB k H1) : tTest te σ H QB := h
theorem w_tB (h : te σ H fun x H1 => ∃ k, x = .bl k ∧ QB k H1) : tB te σ H QB := h
theorem w_bl {k : Bool} {P : Bool → Prop} (q : P k) : ∃ c, V.bl k = .bl c ∧ P c := ⟨k, rfl, q⟩
theorem w_and (h : tt σ H fun c H1 => if c = true then tu σ H1 QB else QB false H1) : tAnd tt tu σ H QB := h
theorem w_or (h : tt σ H fun c H1 => if c = true then QB true H1 else tu σ H1 QB) : tOr tt tu σ H QB := h
theorem w_not (h : tt σ H fun c H1 => QB (!c) H1) : tNot tt σ H QB := h
theorem w_andV (h : ta σ H fun x H1 => ∃ c, x = .bl c ∧ if c = true then tb σ H1 Q else Q (.bl false) H1) : tAndV ta tb σ H Q := h
theorem w_orV (h : ta σ H fun x H1 => ∃ c, x = .bl c ∧ if c = true then Q (.bl true) H1 else tb σ H1 Q) : tOrV ta tb σ H Q := h
theorem w_notV (h : ta σ H fun x H1 => ∃ c, x = .bl c ∧ Q (.bl (!c)) H1) : tNotV ta σ H Q := h
theorem w_if (h : tt σ H fun c H1 => if c = true then ta σ H1 Q else tb σ H1 Q) : tIf tt ta tb σ H Q := h
theorem w_yes (q : QB true H) : tYes σ H QB := q
/-! arguments, displays, calls -/
theorem w_nil (q : QL [] H) : tNil σ H QL := q
theorem w_cons (h : te σ H fun x H1 => tl σ H1 fun xs H2 => QL (x :: xs) H2) : tCons te tl σ H QL := h
theorem w_tup (h : tl σ H fun xs H1 => xs.length ≤ sizeLine ∧ Alc (.tup xs) H1 Q) : zTup tl σ H Q := h
theorem w_lst (h : tl σ H fun xs H1 => xs.length ≤ sizeLine ∧ Alc (.lst xs) H1 Q) : zLst tl σ H Q := h
theorem w_dnewK (h : Alc (.dK []) H Q) : zDNewK σ H Q := h
theorem w_dnewT (h : Alc (.dT []) H Q) : zDNewT σ H Q := h
theorem w_cb {r : RC} (h : tl σ H fun vs H1 => r vs H1 Q) : tCB r tl σ H Q := h
theorem w_call {sp : Sp} {dvs : List V} {E : XK} (h : tl σ H fun vs H1 => sp (vs ++ dvs) H1 Q E) : tCall sp dvs E tl σ H Q := h
theorem w_int {j : Int} (q : Q (.int j) H) : cInt [.int j] H Q := .inl ⟨j, rfl, q⟩
theorem w_lenL {xs : List V} (h : SqL K H a xs) (q : Q (.int (xs.length : Int)) H) : cLen K [.ref a] H Q := ⟨_, _, rfl, .inl ⟨xs, h, rfl⟩, q⟩
theorem w_lenT {xs : List V} (h : SqT K H a xs) (q : Q (.int (xs.length : Int)) H) : cLen K [.ref a] H Q := ⟨_, _, rfl, .inr ⟨xs, h, rfl⟩, q⟩
theorem w_lenD {kvs : List (Key × V)} (h : H a = some (.dK kvs)) (q : Q (.int (kvs.length : Int)) H) : cLenD [.ref a] H Q := ⟨_, _, rfl, h, q⟩
theorem w_tupL {xs : List V} (h : SqL K H a xs) (q : Alc (.tup xs) H Q) : cTup K [.ref a] H Q := ⟨a, xs, rfl, .inl ⟨h, q⟩⟩
theorem w_dictD {kvs : List (Key × V)} (h : H a = some (.dK kvs)) (q : Alc (.dK kvs) H Q) : cDictD [.ref a] H Q := ⟨a, kvs, rfl, .inl h, q⟩
theorem w_sum {ns : List Int} (h : SqL K H a (ns.map V.int)) (q : Q (.int ns.sum) H) : rSum K [.ref a] H Q := ⟨a, ns, rfl, h, q⟩
theorem w_isi {c : V} {t w : Value} {k : Bool} (cl : ClsV c w) (ty : TyX K H x t) (e : PySem.W.kitOne K t w = some k) (q : Q (.bl k) H) : rIsi K [x, c] H Q := ⟨x, c, t, w, k, rfl, cl, ty, e, q⟩
theorem w_dget (h : ta σ H fun x H1 => tb σ H1 fun y H2 => ∃ a v, x = .ref a ∧ DGet H2 a y (some v) ∧ Q v H2) : tDGet ta tb σ H Q := h
theorem w_dgetS {kvs : List (Key × V)} {z : Str} {P : V → Prop} (h : H a = some (.dK kvs)) (e : valV kvs (Sum.inr z : Key) = some v) (q : P v) : ∃ b u, V.ref a = .ref b ∧ DGet H b (.str z) (some u) ∧ P u := ⟨a, v, rfl, by rw [← e]; exact DGet.k (k := Sum.inr z) h, q⟩
theorem w_din (h : ta σ H fun y H1 => tb σ H1 fun x H2 => ∃ a o, x = .ref a ∧ DGet H2 a y o ∧ Q (.bl o.isSome) H2) : tDIn ta tb σ H Q := h
theorem w_dnotin (h : ta σ H fun y H1 => tb σ H1 fun x H2 => ∃ a o, x = .ref a ∧ DGet H2 a y o ∧ Q (.bl (!o.isSome)) H2) : tDNotIn ta tb σ H Q := h
/-! statements -/
theorem w_seq (h : t ⟨u ⟨nx, rt, bk, ct⟩, rt, bk, ct⟩ σ H) : tSeq t u ⟨nx, rt, bk, ct⟩ σ H := h
theorem w_next (q : nx σ H) : tNext ⟨nx, rt, bk, ct⟩ σ H := q
theorem w_break (q : bk σ H) : tBreak ⟨nx, rt, bk, ct⟩ σ H := q
theorem w_cont (q : ct σ H) : tCont ⟨nx, rt, bk, ct⟩ σ H := q
theorem w_asg {g : TG} (h : te σ H fun x H1 => g x σ H1 nx) : tAsg te g ⟨nx, rt, bk, ct⟩ σ H := h
theorem w_gname {N : St → Hp → Prop} (q : N (σ.set i (some v)) H) : gName i v σ H N := q
theorem w_gsub {N : St → Hp → Prop} {s : TSet} (h : ta σ H fun o H1 => tb σ H1 fun i H2 => s o i v H2 fun H3 => N σ H3) : gSub ta tb s v σ H N := h
theorem w_drop (h : te σ H fun _ H1 => nx σ H1) : tDrop te ⟨nx, rt, bk, ct⟩ σ H := h
theorem w_ret (h : te σ H rt) : tRet te ⟨nx, rt, bk, ct⟩ σ H := h
theorem w_retN (h : rt .non H) : tRetN ⟨nx, rt, bk, ct⟩ σ H := h
theorem w_ifS (h : tt σ H fun b H1 => if b = true then t ⟨nx, rt, bk, ct⟩ σ H1 else u ⟨nx, rt, bk, ct⟩ σ H1) : tIfS tt t u ⟨nx, rt, bk, ct⟩ σ H := h
theorem w_cut (P : St → Hp → Prop) (h : ∀ σ' H', P σ' H' → nx σ' H') (g : ∀ nx', (∀ σ' H', P σ' H' → nx' σ' H') → tIfS tt t u ⟨nx', rt, bk, ct⟩ σ H) : tIfS tt t u ⟨nx, rt, bk, ct⟩ σ H := g nx h
theorem w_cutA {g : TG} (P : St → Hp → Prop) (h : ∀ σ' H', P σ' H' → nx σ' H') (k : ∀ nx', (∀ σ' H', P σ' H' → nx' σ' H') → tAsg te g ⟨nx', rt, bk, ct⟩ σ H) : tAsg te g ⟨nx, rt, bk, ct⟩ σ H := k nx h
theorem w_cutE (P : V → Hp → Prop) (h : ∀ v H', P v H' → Q v H') (k : ∀ Q' : VK, (∀ v H', P v H' → Q' v H') → tIf tt ta tb σ H Q') : tIf tt ta tb σ H Q := k Q h
theorem w_d {c A B : Prop} [Decidable c] (h1 : c → A) (h2 : ¬ c → B) : if decide c = true then A else B := ite2 (fun h => h1 (of_decide_eq_true h)) fun h => h2 fun z => h (decide_eq_true z)
theorem w_nd {c A B : Prop} [Decidable c] (h1 : ¬ c → A) (h2 : c → B) : if (!decide c) = true then A else B := ite2 (fun h => h1 fun z => by rw [decide_eq_true z] at h; cases h) fun h => h2 (by
  by_cases z : c
  · exact z
  · rw [decide_eq_false z] at h; exact absurd rfl h)
theorem w_b {c : Bool} {A B : Prop} (h1 : c = true → A) (h2 : c = false → B) : if c = true then A else B := by cases c with | true => exact iteT (h1 rfl) | false => exact iteF (h2 rfl)
theorem w_nb {c : Bool} {A B : Prop} (h1 : c = false → A) (h2 : c = true → B) : if (!c) = true then A else B := by cases c with | true => exact iteF (h2 rfl) | false => exact iteT (h1 rfl)
theorem w_for {wi : TI} {g : TG} (h : wi σ H fun J H1 => ∃ W : Nat → Nat → St → Hp → Prop, (∃ m, W 0 m σ H1) ∧ ∀ i m σ H, W i m σ H →
  (J.stop i H ∧ nx σ H) ∨ (J.go i H ∧ ∃ N : St → Hp → Prop, (∀ σ' H', N σ' H' → ∃ m', m' < m ∧ W (i + 1) m' σ' H') ∧ ∀ x H', J.yld i H x H' → g x σ H' fun σ2 H2 => t ⟨N, rt, nx, N⟩ σ2 H2)) : tFor wi g t ⟨nx, rt, bk, ct⟩ σ H := h
theorem w_iList {R : It → Hp → Prop} (h : te σ H fun x H1 => ∃ a, x = .ref a ∧ (∃ xs, SqL K H1 a xs) ∧ R (Itl K a) H1) : iList K te σ H R := h
theorem w_iTup {R : It → Hp → Prop} (h : te σ H fun x H1 => ∃ a, x = .ref a ∧ (∃ xs, SqT K H1 a xs) ∧ R (Itt K a) H1) : iTup K te σ H R := h
theorem w_iRng1 {R : It → Hp → Prop} (h : tl σ H fun vs H1 => ∃ j : Int, vs = [.int j] ∧ -(2 ^ 62) ≤ j ∧ j < 2 ^ 62 ∧ R (Itr 0 j.toNat) H1) : iRng1 tl σ H R := h
theorem w_iRng2 {R : It → Hp → Prop} (h : tl σ H fun vs H1 => ∃ i j : Int, vs = [.int i, .int j] ∧ (-(2 ^ 62) ≤ i ∧ i < 2 ^ 62 ∧ -(2 ^ 62) ≤ j ∧ j < 2 ^ 62) ∧ R (Itr i (j - i).toNat) H1) : iRng2 tl σ H R := h
theorem w_iStr {R : It → Hp → Prop} (h : te σ H fun v H1 => ∃ x, v = .str x ∧ R (Its x) H1) : iStr te σ H R := h
theorem iteNF {A B : Prop} (h : A) : if (!false) = true then A else B := iteT h
theorem iteNT {A B : Prop} (h : B) : if (!true) = true then A else B := iteF h
theorem w_f {c : Bool} {A B : Prop} (h : c = false) (q : B) : if c = true then A else B := by rw [h]; exact iteF q
theorem w_t {c : Bool} {A B : Prop} (h : c = true) (q : A) : if c = true then A else B := by rw [h]; exact iteT q
theorem w_gtup {n : Nat} {g : TGs} {xs : List V} {N : St → Hp → Prop} (h : SqT K H a xs) (l : xs.length = n) (q : g xs σ H N) : gTup K n g (.ref a) σ H N := ⟨a, xs, rfl, h, l, q⟩
theorem w_gcons {g : TG} {gs : TGs} {r : List V} {N : St → Hp → Prop} (q : g v σ H fun σ' H' => gs r σ' H' N) : gCons g gs (v :: r) σ H N := ⟨v, r, rfl, q⟩
theorem w_gnil {N : St → Hp → Prop} (q : N σ H) : gNil [] σ H N := ⟨rfl, q⟩
theorem w_sdput (h : te σ H fun v H1 => ta σ H1 fun x H2 => tb σ H2 fun y H3 => ∃ a H4, x = .ref a ∧ DPut H3 a y v H4 ∧ nx σ H4) : sDPut ta tb te ⟨nx, rt, bk, ct⟩ σ H := h
theorem w_dputS {kvs : List (Key × V)} {z : Str} {N : Hp → Prop} (h : H a = some (.dK kvs)) (l : kvs.length < sizeLine) (k : ∀ H', Ext [a] H H' → H' a = some (.dK (putK kvs (Sum.inr z) v)) → N H') : ∃ b H4, V.ref a = .ref b ∧ DPut H b (.str z) v H4 ∧ N H4 :=
  ⟨a, _, rfl, DPut.k (k := Sum.inr z) h l, k _ (Ext.mut h (fun z => z) (List.mem_singleton.mpr rfl)) upd_same⟩
theorem w_sortD {kvs : List (Key × V)} {ks : List Str} (h : H a = some (.dK kvs)) (e : kvs.map (·.1) = ks.map Sum.inr) (l : ks.length < 64) (q : ∀ ys, ys.Perm ks → sortedS ys = true → Alc (.lst (ys.map V.str)) H Q) : cSortD [.ref a] H Q := ⟨a, kvs, ks, rfl, .inl h, e, l, q⟩
/-! a dict is locked while it is walked -/
structure Lk (d : Addr) (u : HO) (od : Obj) (H H1 : Hp) : Prop where
  was : H d = some u
  ni : ¬ Imm u
  eq : H1 = upd H d (.frz od u)
theorem Lk.at {d : Addr} {u : HO} {od : Obj} {H H1 : Hp} (L : Lk d u od H H1) : H1 d = some (.frz od u) := by rw [L.eq]; exact upd_same
theorem Lk.keep {d : Addr} {u : HO} {od : Obj} {H H1 : Hp} (L : Lk d u od H H1) {b : Addr} {o : HO} (h : H b = some o) (n : b ≠ d) : H1 b = some o := by rw [L.eq, upd_ne n]; exact h
theorem Lk.tup {d : Addr} {u : HO} {od : Obj} {H H1 : Hp} (L : Lk d u od H H1) {b : Addr} {xs : List V} (h : H b = some (.tup xs)) : H1 b = some (.tup xs) :=
  L.keep h fun z => L.ni (by subst z; have := L.was; rw [h] at this; cases this; trivial)
theorem Lk.frz {d : Addr} {u : HO} {od : Obj} {H H1 : Hp} (L : Lk d u od H H1) {b : Addr} {o : Obj} {x : HO} (h : H b = some (.frz o x)) : H1 b = some (.frz o x) :=
  L.keep h fun z => L.ni (by subst z; have := L.was; rw [h] at this; cases this; trivial)
theorem Lk.free {d : Addr} {u : HO} {od : Obj} {H H1 : Hp} (L : Lk d u od H H1) {b : Addr} (h : H1 b = none) : H b = none := by
  rw [L.eq] at h
  by_cases z : b = d
  · subst z; rw [upd_same] at h; cases h
  · rw [upd_ne z] at h; exact h
theorem Lk.scr {d : Addr} {u : HO} {od : Obj} {H H1 : Hp} (L : Lk d u od H H1) {b : Addr} {xs : List V} (h : Scr K H b xs) : Scr K H1 b xs := by
  rcases h with ⟨o, h⟩ | h
  · exact .inl ⟨o, L.frz h⟩
  · exact .inr h
theorem w_lock {d : Addr} {u : HO} (h : H d = some u) (m : Mut (some u)) (ni : ¬ Imm u) (k : ∀ od H1, Lk d u od H H1 → t ⟨fun σ' H' => H' d = some (.frz od u) ∧ nx σ' (upd H' d u), fun v H' => H' d = some (.frz od u) ∧ rt v (upd H' d u), fun σ' H' => H' d = some (.frz od u) ∧ bk σ' (upd H' d u), fun σ' H' => H' d = some (.frz od u) ∧ ct σ' (upd H' d u)⟩ σ H1) :
    tLock t ⟨nx, rt, bk, ct⟩ σ H := ⟨d, u, h, m, fun od => k od _ ⟨h, ni, rfl⟩⟩
theorem w_lockE {d : Addr} {u : HO} (h : H d = some u) (m : Mut (some u)) (ni : ¬ Imm u) (k : ∀ od H1, Lk d u od H H1 → te σ H1 fun v H' => H' d = some (.frz od u) ∧ Q v (upd H' d u)) : tLockE te σ H Q := ⟨d, u, h, m, fun od => k od _ ⟨h, ni, rfl⟩⟩
theorem w_unlock {d : Addr} {u : HO} {od : Obj} {H0 H1 : Hp} {M : List Addr} {N : Hp → Prop} (L : Lk d u od H0 H1) (e : Ext M H1 H) (k : ∀ H', Ext M H0 H' → (∀ b o, H b = some o → b ≠ d → H' b = some o) → N H') : H d = some (.frz od u) ∧ N (upd H d u) := by
  refine ⟨e.imm _ _ L.at trivial, k _ ?_ fun b o h n => by rw [upd_ne n]; exact h⟩
  have e' := e
  rw [L.eq] at e'
  exact Ext.lock L.was L.ni e'
theorem w_iKeys {R : It → Hp → Prop} (h : te σ H fun x H1 => ∃ d o, x = .ref d ∧ ((∃ kvs, H1 d = some (.frz o (.dK kvs)) ∧ R (Itk d o kvs) H1) ∨ ∃ kvs, H1 d = some (.frz o (.dT kvs)) ∧ R (Itkt d o kvs) H1)) : iKeys te σ H R := h
theorem w_keysK {kvs : List (Key × V)} {o : Obj} {R : It → Hp → Prop} (h : H a = some (.frz o (.dK kvs))) (q : R (Itk a o kvs) H) : ∃ d o, V.ref a = .ref d ∧ ((∃ kvs, H d = some (.frz o (.dK kvs)) ∧ R (Itk d o kvs) H) ∨ ∃ kvs, H d = some (.frz o (.dT kvs)) ∧ R (Itkt d o kvs) H) := ⟨a, o, rfl, .inl ⟨kvs, h, q⟩⟩
theorem w_keysV {kvs : List (Key × V)} {o : Obj} {R : It → Hp → Prop} (e : σ[i]? = some (some (.ref a))) (h : H a = some (.frz o (.dK kvs))) (q : R (Itk a o kvs) H) : iKeys (tVar i) σ H R := ⟨.ref a, e, a, o, rfl, .inl ⟨kvs, h, q⟩⟩
theorem w_dgetR {kvs : List (Key × V)} {z : Str} {P : V → Prop} (h : Rd H a (.dK kvs)) (e : valV kvs (Sum.inr z : Key) = some v) (q : P v) : ∃ b u, V.ref a = .ref b ∧ DGet H b (.str z) (some u) ∧ P u := ⟨a, v, rfl, .inl ⟨kvs, Sum.inr z, h, rfl, e.symm⟩, q⟩
theorem w_dinS {kvs : List (Key × V)} {z : Str} {P : Option V → Prop} (h : Rd H a (.dK kvs)) (q : P (valV kvs (Sum.inr z : Key))) : ∃ b o, V.ref a = .ref b ∧ DGet H b (.str z) o ∧ P o := ⟨a, _, rfl, .inl ⟨kvs, Sum.inr z, h, rfl, rfl⟩, q⟩
/-! loops by an invariant; what a turn is to reach is a letter -/
theorem z_for_list {xs : List V} {g : TG} (Pv : Nat → St → Hp → Prop) (h0 : Pv 0 σ H) (hl : ∀ i σ H, i ≤ xs.length → Pv i σ H → SqL K H a xs)
    (hs : ∀ (N : St → Hp → Prop) i x σ H, xs[i]? = some x → Pv i σ H → (∀ σ' H', Pv (i + 1) σ' H' → N σ' H') → g x σ H fun σ2 H2 => t ⟨N, rt, nx, N⟩ σ2 H2) (hd : ∀ σ H, Pv xs.length σ H → nx σ H) :
    ∃ W : Nat → Nat → St → Hp → Prop, (∃ m, W 0 m σ H) ∧ ∀ i m σ H, W i m σ H →
      ((Itl K a).stop i H ∧ nx σ H) ∨ ((Itl K a).go i H ∧ ∃ N : St → Hp → Prop, (∀ σ' H', N σ' H' → ∃ m', m' < m ∧ W (i + 1) m' σ' H') ∧ ∀ x H', (Itl K a).yld i H x H' → g x σ H' fun σ2 H2 => t ⟨N, rt, nx, N⟩ σ2 H2) :=
  for_list (D := ⟨nx, rt, nx, nx⟩) Pv h0 hl (fun i x σ H hx p => hs (Pv (i + 1)) i x σ H hx p fun _ _ q => q) hd
theorem z_for_tup {xs : List V} {g : TG} (Pv : Nat → St → Hp → Prop) (h0 : Pv 0 σ H) (hl : ∀ i σ H, i ≤ xs.length → Pv i σ H → SqT K H a xs)
    (hs : ∀ (N : St → Hp → Prop) i x σ H, xs[i]? = some x → Pv i σ H → (∀ σ' H', Pv (i + 1) σ' H' → N σ' H') → g x σ H fun σ2 H2 => t ⟨N, rt, nx, N⟩ σ2 H2) (hd : ∀ σ H, Pv xs.length σ H → nx σ H) :
    ∃ W : Nat → Nat → St → Hp → Prop, (∃ m, W 0 m σ H) ∧ ∀ i m σ H, W i m σ H →
      ((Itt K a).stop i H ∧ nx σ H) ∨ ((Itt K a).go i H ∧ ∃ N : St → Hp → Prop, (∀ σ' H', N σ' H' → ∃ m', m' < m ∧ W (i + 1) m' σ' H') ∧ ∀ x H', (Itt K a).yld i H x H' → g x σ H' fun σ2 H2 => t ⟨N, rt, nx, N⟩ σ2 H2) :=
  for_tup (D := ⟨nx, rt, nx, nx⟩) Pv h0 hl (fun i x σ H hx p => hs (Pv (i + 1)) i x σ H hx p fun _ _ q => q) hd
theorem z_for_range {lo : Int} {n : Nat} {g : TG} (Pv : Nat → St → Hp → Prop) (h0 : Pv 0 σ H)
    (hs : ∀ (N : St → Hp → Prop) i σ H, i < n → Pv i σ H → (∀ σ' H', Pv (i + 1) σ' H' → N σ' H') → g (.int (lo + i)) σ H fun σ2 H2 => t ⟨N, rt, nx, N⟩ σ2 H2) (hd : ∀ σ H, Pv n σ H → nx σ H) :
    ∃ W : Nat → Nat → St → Hp → Prop, (∃ m, W 0 m σ H) ∧ ∀ i m σ H, W i m σ H →
      ((Itr lo n).stop i H ∧ nx σ H) ∨ ((Itr lo n).go i H ∧ ∃ N : St → Hp → Prop, (∀ σ' H', N σ' H' → ∃ m', m' < m ∧ W (i + 1) m' σ' H') ∧ ∀ x H', (Itr lo n).yld i H x H' → g x σ H' fun σ2 H2 => t ⟨N, rt, nx, N⟩ σ2 H2) :=
  for_range (D := ⟨nx, rt, nx, nx⟩) Pv h0 (fun i σ H hx p => hs (Pv (i + 1)) i σ H hx p fun _ _ q => q) hd
theorem z_for_str {z : Str} {g : TG} (Pv : Nat → St → Hp → Prop) (h0 : Pv 0 σ H)
    (hs : ∀ (N : St → Hp → Prop) i c σ H, z.cps[i]? = some c → Pv i σ H → (∀ σ' H', Pv (i + 1) σ' H' → N σ' H') → g (.str ⟨#[c]⟩) σ H fun σ2 H2 => t ⟨N, rt, nx, N⟩ σ2 H2) (hd : ∀ σ H, Pv z.cps.size σ H → nx σ H) :
    ∃ W : Nat → Nat → St → Hp → Prop, (∃ m, W 0 m σ H) ∧ ∀ i m σ H, W i m σ H →
      ((Its z).stop i H ∧ nx σ H) ∨ ((Its z).go i H ∧ ∃ N : St → Hp → Prop, (∀ σ' H', N σ' H' → ∃ m', m' < m ∧ W (i + 1) m' σ' H') ∧ ∀ x H', (Its z).yld i H x H' → g x σ H' fun σ2 H2 => t ⟨N, rt, nx, N⟩ σ2 H2) := by
  refine ⟨fun i m σ H => m = z.cps.size - i ∧ i ≤ z.cps.size ∧ Pv i σ H, ⟨_, rfl, Nat.zero_le _, h0⟩, ?_⟩
  rintro i m σ H ⟨rfl, hi, p⟩
  by_cases hlt : i < z.cps.size
  · refine .inr ⟨hlt, Pv (i + 1), fun σ' H' p' => ⟨z.cps.size - (i + 1), by omega, rfl, hlt, p'⟩, fun x H' y => ?_⟩
    obtain ⟨e, c, hc, rfl⟩ := y
    subst e
    exact hs (Pv (i + 1)) i c σ _ hc p fun _ _ q => q
  · have e : i = z.cps.size := by omega
    subst e
    exact .inl ⟨Nat.le_refl _, hd σ H p⟩
/-- over the keys of a locked dict -/
theorem z_for_keys {kvs : List (Key × V)} {d : Addr} {o : Obj} {g : TG} (Pv : Nat → St → Hp → Prop) (h0 : Pv 0 σ H) (hl : ∀ i σ H, i ≤ kvs.length → Pv i σ H → H d = some (.frz o (.dK kvs)))
    (hs : ∀ (N : St → Hp → Prop) i k v σ H, kvs[i]? = some (k, v) → Pv i σ H → (∀ σ' H', Pv (i + 1) σ' H' → N σ' H') → g (kV k) σ H fun σ2 H2 => t ⟨N, rt, nx, N⟩ σ2 H2) (hd : ∀ σ H, Pv kvs.length σ H → nx σ H) :
    ∃ W : Nat → Nat → St → Hp → Prop, (∃ m, W 0 m σ H) ∧ ∀ i m σ H, W i m σ H →
      ((Itk d o kvs).stop i H ∧ nx σ H) ∨ ((Itk d o kvs).go i H ∧ ∃ N : St → Hp → Prop, (∀ σ' H', N σ' H' → ∃ m', m' < m ∧ W (i + 1) m' σ' H') ∧ ∀ x H', (Itk d o kvs).yld i H x H' → g x σ H' fun σ2 H2 => t ⟨N, rt, nx, N⟩ σ2 H2) := by
  refine ⟨fun i m σ H => m = kvs.length - i ∧ i ≤ kvs.length ∧ Pv i σ H, ⟨_, rfl, Nat.zero_le _, h0⟩, ?_⟩
  rintro i m σ H ⟨rfl, hi, p⟩
  by_cases hlt : i < kvs.length
  · refine .inr ⟨⟨hl i σ H hi p, hlt⟩, Pv (i + 1), fun σ' H' p' => ⟨kvs.length - (i + 1), by omega, rfl, hlt, p'⟩, fun x H' y => ?_⟩
    obtain ⟨e, k, v, hk, rfl⟩ := y
    subst e
    exact hs (Pv (i + 1)) i k v σ _ hk p fun _ _ q => q
  · have e : i = kvs.length := by omega
    subst e
    exact .inl ⟨⟨hl _ σ H hi p, Nat.le_refl _⟩, hd σ H p⟩
/-! comprehensions -/
theorem w_lc {wi : TI} {g : TG} {vs : List Nat} (h : wi σ H fun J H1 => ∀ D, H1 D = none → ∃ W : Nat → Nat → Hp → Prop, (∃ m, W 0 m (upd H1 D (.lst []))) ∧ ∀ i m H, W i m H →
  (J.stop i H ∧ Q (.ref D) H) ∨ (J.go i H ∧ ∃ Nx : Hp → Prop, (∀ H', Nx H' → ∃ m', m' < m ∧ W (i + 1) m' H') ∧ ∀ x H', J.yld i H x H' → g x (wipe σ vs) H' fun σ2 H2 => wipe σ2 vs = wipe σ vs ∧ tt σ2 H2 fun b H3 =>
    if b = true then te σ2 H3 fun y H4 => ∃ acc, H4 D = some (.lst acc) ∧ acc.length < sizeLine ∧ Nx (upd H4 D (.lst (acc ++ [y]))) else Nx H3)) : tLc wi g tt te vs σ H Q := h
theorem w_app {Nx : Hp → Prop} {acc : List V} {D : Addr} (hD : H D = some (.lst acc)) (c : acc.length < sizeLine) (k : ∀ H', Ext [D] H H' → H' D = some (.lst (acc ++ [y])) → Nx H') :
    ∃ acc, H D = some (.lst acc) ∧ acc.length < sizeLine ∧ Nx (upd H D (.lst (acc ++ [y]))) := ⟨acc, hD, c, k _ (Ext.mut hD (fun z => z) (List.mem_singleton.mpr rfl)) upd_same⟩
theorem z_lc_list {xs : List V} {g : TG} {vs : List Nat} {D : Addr} {Qd : Hp → Prop} (Pv : Nat → List V → Hp → Prop) (nD : H D = none) (h0 : ∀ H', Ext [] H H' → Pv 0 [] H') (hl : ∀ i acc H, i ≤ xs.length → Pv i acc H → SqL K H a xs)
    (hs : ∀ (Nx : Hp → Prop) i x acc H, xs[i]? = some x → Pv i acc H → H D = some (.lst acc) → (∀ acc' H', Pv (i + 1) acc' H' → H' D = some (.lst acc') → Nx H') → g x (wipe σ vs) H fun σ2 H2 => wipe σ2 vs = wipe σ vs ∧ tt σ2 H2 fun b H3 =>
      if b = true then te σ2 H3 fun y H4 => ∃ acc, H4 D = some (.lst acc) ∧ acc.length < sizeLine ∧ Nx (upd H4 D (.lst (acc ++ [y]))) else Nx H3) (hd : ∀ acc H, Pv xs.length acc H → H D = some (.lst acc) → Qd H) :
    ∃ W : Nat → Nat → Hp → Prop, (∃ m, W 0 m (upd H D (.lst []))) ∧ ∀ i m H, W i m H →
      ((Itl K a).stop i H ∧ Qd H) ∨ ((Itl K a).go i H ∧ ∃ Nx : Hp → Prop, (∀ H', Nx H' → ∃ m', m' < m ∧ W (i + 1) m' H') ∧ ∀ x H', (Itl K a).yld i H x H' → g x (wipe σ vs) H' fun σ2 H2 => wipe σ2 vs = wipe σ vs ∧ tt σ2 H2 fun b H3 =>
        if b = true then te σ2 H3 fun y H4 => ∃ acc, H4 D = some (.lst acc) ∧ acc.length < sizeLine ∧ Nx (upd H4 D (.lst (acc ++ [y]))) else Nx H3) :=
  lc_list (fun i H => ∃ acc, Pv i acc H ∧ H D = some (.lst acc)) ⟨[], h0 _ (Ext.new nD), upd_same⟩ (fun i H hi ⟨acc, p, _⟩ => hl i acc H hi p)
    (fun i x H hx ⟨acc, p, hD⟩ => hs _ i x acc H hx p hD fun acc' H' p' h' => ⟨acc', p', h'⟩) fun H ⟨acc, p, hD⟩ => hd acc H p hD
theorem z_lc_tup {xs : List V} {g : TG} {vs : List Nat} {D : Addr} {Qd : Hp → Prop} (Pv : Nat → List V → Hp → Prop) (nD : H D = none) (h0 : ∀ H', Ext [] H H' → Pv 0 [] H') (hl : ∀ i acc H, i ≤ xs.length → Pv i acc H → SqT K H a xs)
    (hs : ∀ (Nx : Hp → Prop) i x acc H, xs[i]? = some x → Pv i acc H → H D = some (.lst acc) → (∀ acc' H', Pv (i + 1) acc' H' → H' D = some (.lst acc') → Nx H') → g x (wipe σ vs) H fun σ2 H2 => wipe σ2 vs = wipe σ vs ∧ tt σ2 H2 fun b H3 =>
      if b = true then te σ2 H3 fun y H4 => ∃ acc, H4 D = some (.lst acc) ∧ acc.length < sizeLine ∧ Nx (upd H4 D (.lst (acc ++ [y]))) else Nx H3) (hd : ∀ acc H, Pv xs.length acc H → H D = some (.lst acc) → Qd H) :
    ∃ W : Nat → Nat → Hp → Prop, (∃ m, W 0 m (upd H D (.lst []))) ∧ ∀ i m H, W i m H →
      ((Itt K a).stop i H ∧ Qd H) ∨ ((Itt K a).go i H ∧ ∃ Nx : Hp → Prop, (∀ H', Nx H' → ∃ m', m' < m ∧ W (i + 1) m' H') ∧ ∀ x H', (Itt K a).yld i H x H' → g x (wipe σ vs) H' fun σ2 H2 => wipe σ2 vs = wipe σ vs ∧ tt σ2 H2 fun b H3 =>
        if b = true then te σ2 H3 fun y H4 => ∃ acc, H4 D = some (.lst acc) ∧ acc.length < sizeLine ∧ Nx (upd H4 D (.lst (acc ++ [y]))) else Nx H3) :=
  lc_tup (fun i H => ∃ acc, Pv i acc H ∧ H D = some (.lst acc)) ⟨[], h0 _ (Ext.new nD), upd_same⟩ (fun i H hi ⟨acc, p, _⟩ => hl i acc H hi p)
    (fun i x H hx ⟨acc, p, hD⟩ => hs _ i x acc H hx p hD fun acc' H' p' h' => ⟨acc', p', h'⟩) fun H ⟨acc, p, hD⟩ => hd acc H p hD
theorem z_lc_range {lo : Int} {n : Nat} {g : TG} {vs : List Nat} {D : Addr} {Qd : Hp → Prop} (Pv : Nat → List V → Hp → Prop) (nD : H D = none) (h0 : ∀ H', Ext [] H H' → Pv 0 [] H')
    (hs : ∀ (Nx : Hp → Prop) i acc H, i < n → Pv i acc H → H D = some (.lst acc) → (∀ acc' H', Pv (i + 1) acc' H' → H' D = some (.lst acc') → Nx H') → g (.int (lo + i)) (wipe σ vs) H fun σ2 H2 => wipe σ2 vs = wipe σ vs ∧ tt σ2 H2 fun b H3 =>
      if b = true then te σ2 H3 fun y H4 => ∃ acc, H4 D = some (.lst acc) ∧ acc.length < sizeLine ∧ Nx (upd H4 D (.lst (acc ++ [y]))) else Nx H3) (hd : ∀ acc H, Pv n acc H → H D = some (.lst acc) → Qd H) :
    ∃ W : Nat → Nat → Hp → Prop, (∃ m, W 0 m (upd H D (.lst []))) ∧ ∀ i m H, W i m H →
      ((Itr lo n).stop i H ∧ Qd H) ∨ ((Itr lo n).go i H ∧ ∃ Nx : Hp → Prop, (∀ H', Nx H' → ∃ m', m' < m ∧ W (i + 1) m' H') ∧ ∀ x H', (Itr lo n).yld i H x H' → g x (wipe σ vs) H' fun σ2 H2 => wipe σ2 vs = wipe σ vs ∧ tt σ2 H2 fun b H3 =>
        if b = true then te σ2 H3 fun y H4 => ∃ acc, H4 D = some (.lst acc) ∧ acc.length < sizeLine ∧ Nx (upd H4 D (.lst (acc ++ [y]))) else Nx H3) :=
  lc_range (fun i H => ∃ acc, Pv i acc H ∧ H D = some (.lst acc)) ⟨[], h0 _ (Ext.new nD), upd_same⟩
    (fun i H hx ⟨acc, p, hD⟩ => hs _ i acc H hx p hD fun acc' H' p' h' => ⟨acc', p', h'⟩) fun H ⟨acc, p, hD⟩ => hd acc H p hD
theorem z_lc_keys {kvs : List (Key × V)} {d : Addr} {o : Obj} {g : TG} {vs : List Nat} {D : Addr} {Qd : Hp → Prop} (Pv : Nat → List V → Hp → Prop) (nD : H D = none) (h0 : ∀ H', Ext [] H H' → Pv 0 [] H') (hl : ∀ i acc H, i ≤ kvs.length → Pv i acc H → H d = some (.frz o (.dK kvs)))
    (hs : ∀ (Nx : Hp → Prop) i k v acc H, kvs[i]? = some (k, v) → Pv i acc H → H D = some (.lst acc) → (∀ acc' H', Pv (i + 1) acc' H' → H' D = some (.lst acc') → Nx H') → g (kV k) (wipe σ vs) H fun σ2 H2 => wipe σ2 vs = wipe σ vs ∧ tt σ2 H2 fun b H3 =>
      if b = true then te σ2 H3 fun y H4 => ∃ acc, H4 D = some (.lst acc) ∧ acc.length < sizeLine ∧ Nx (upd H4 D (.lst (acc ++ [y]))) else Nx H3) (hd : ∀ acc H, Pv kvs.length acc H → H D = some (.lst acc) → Qd H) :
    ∃ W : Nat → Nat → Hp → Prop, (∃ m, W 0 m (upd H D (.lst []))) ∧ ∀ i m H, W i m H →
      ((Itk d o kvs).stop i H ∧ Qd H) ∨ ((Itk d o kvs).go i H ∧ ∃ Nx : Hp → Prop, (∀ H', Nx H' → ∃ m', m' < m ∧ W (i + 1) m' H') ∧ ∀ x H', (Itk d o kvs).yld i H x H' → g x (wipe σ vs) H' fun σ2 H2 => wipe σ2 vs = wipe σ vs ∧ tt σ2 H2 fun b H3 =>
        if b = true then te σ2 H3 fun y H4 => ∃ acc, H4 D = some (.lst acc) ∧ acc.length < sizeLine ∧ Nx (upd H4 D (.lst (acc ++ [y]))) else Nx H3) := by
  refine ⟨fun i m H => m = kvs.length - i ∧ i ≤ kvs.length ∧ ∃ acc, Pv i acc H ∧ H D = some (.lst acc), ⟨_, rfl, Nat.zero_le _, [], h0 _ (Ext.new nD), upd_same⟩, ?_⟩
  rintro i m H ⟨rfl, hi, acc, p, hD⟩
  by_cases hlt : i < kvs.length
  · refine .inr ⟨⟨hl i acc H hi p, hlt⟩, (fun H => ∃ acc, Pv (i + 1) acc H ∧ H D = some (.lst acc)), fun H' p' => ⟨kvs.length - (i + 1), by omega, rfl, hlt, p'⟩, fun x H' y => ?_⟩
    obtain ⟨e, k, v, hk, rfl⟩ := y
    subst e
    exact hs _ i k v acc _ hk p hD fun acc' H' p' h' => ⟨acc', p', h'⟩
  · have e : i = kvs.length := by omega
    subst e
    exact .inl ⟨⟨hl _ acc H hi p, Nat.le_refl _⟩, hd acc H p hD⟩
end
end Zk

set_option Elab.async false
set_option linter.all false
set_option maxRecDepth 100000
set_option maxHeartbeats 4000000
namespace Zk
open PySem PySem.Spec L2
open PyProof.Rows hiding St

/-! ### slots: a text and two ints; their order -/
abbrev Slot := Str × Int × Int
def sVs (s : Slot) : List V := [.str s.1, .int s.2.1, .int s.2.2]
def sKey (s : Slot) : List Key := [Sum.inr s.1, Sum.inl s.2.1, Sum.inl s.2.2]
theorem sKey_vs (s : Slot) : (sKey s).map kV = sVs s := rfl
theorem sKey_inj {s t : Slot} (h : sKey s = sKey t) : s = t := by
  unfold sKey at h
  injection h with h1 h2
  injection h2 with h2 h3
  injection h3 with h3 _
  obtain ⟨a, b, c⟩ := s
  obtain ⟨a', b', c'⟩ := t
  simp only [Sum.inr.injEq, Sum.inl.injEq] at h1 h2 h3
  subst h1 h2 h3
  rfl
theorem sVs_inj {s t : Slot} (h : sVs s = sVs t) : s = t := by
  obtain ⟨a, b, c⟩ := s
  obtain ⟨a', b', c'⟩ := t
  unfold sVs at h
  simp only [List.cons.injEq, V.str.injEq, V.int.injEq] at h
  obtain ⟨h1, h2, h3, _⟩ := h
  subst h1 h2 h3
  rfl
def sLt (p q : Slot) : Bool := if p.1 = q.1 then (if p.2.1 = q.2.1 then decide (p.2.2 < q.2.2) else decide (p.2.1 < q.2.1)) else decide (p.1.cps.toList < q.1.cps.toList)
theorem str_tri (a b : Str) : a.cps.toList < b.cps.toList ∨ a = b ∨ b.cps.toList < a.cps.toList := by
  by_cases h : a.cps.toList < b.cps.toList
  · exact .inl h
  · by_cases h2 : b.cps.toList < a.cps.toList
    · exact .inr (.inr h2)
    · refine .inr (.inl ?_)
      have := List.le_antisymm (List.not_lt.mp h2) (List.not_lt.mp h)
      cases a; cases b
      simp only [Str.mk.injEq]
      exact Array.toList_inj.mp this
def SLt (p q : Slot) : Prop := p.1.cps.toList < q.1.cps.toList ∨ (p.1 = q.1 ∧ (p.2.1 < q.2.1 ∨ (p.2.1 = q.2.1 ∧ p.2.2 < q.2.2)))
theorem sLt_iff {p q : Slot} : sLt p q = true ↔ SLt p q := by
  unfold sLt SLt
  by_cases e : p.1 = q.1
  · rw [if_pos e]
    have no : ¬ p.1.cps.toList < q.1.cps.toList := by rw [e]; exact List.lt_irrefl _
    by_cases e2 : p.2.1 = q.2.1
    · rw [if_pos e2, decide_eq_true_eq]
      constructor
      · intro h; exact .inr ⟨e, .inr ⟨e2, h⟩⟩
      · rintro (h | ⟨_, h | h⟩)
        · exact absurd h no
        · omega
        · exact h.2
    · rw [if_neg e2, decide_eq_true_eq]
      constructor
      · intro h; exact .inr ⟨e, .inl h⟩
      · rintro (h | ⟨_, h | h⟩)
        · exact absurd h no
        · exact h
        · exact absurd h.1 e2
  · rw [if_neg e, decide_eq_true_eq]
    constructor
    · intro h; exact .inl h
    · rintro (h | h)
      · exact h
      · exact absurd h.1 e
theorem SLt.tri (p q : Slot) : SLt p q ∨ p = q ∨ SLt q p := by
  obtain ⟨a, b, c⟩ := p
  obtain ⟨a', b', c'⟩ := q
  unfold SLt
  rcases str_tri a a' with h | h | h
  · exact .inl (.inl h)
  · subst h
    rcases Int.lt_trichotomy b b' with h | h | h
    · exact .inl (.inr ⟨rfl, .inl h⟩)
    · subst h
      rcases Int.lt_trichotomy c c' with h | h | h
      · exact .inl (.inr ⟨rfl, .inr ⟨rfl, h⟩⟩)
      · subst h; exact .inr (.inl rfl)
      · exact .inr (.inr (.inr ⟨rfl, .inr ⟨rfl, h⟩⟩))
    · exact .inr (.inr (.inr ⟨rfl, .inl h⟩))
  · exact .inr (.inr (.inl h))
theorem SLt.trans {p q r : Slot} (h1 : SLt p q) (h2 : SLt q r) : SLt p r := by
  unfold SLt at *
  rcases h1 with h1 | ⟨e1, h1⟩ <;> rcases h2 with h2 | ⟨e2, h2⟩
  · exact .inl (List.lt_trans h1 h2)
  · exact .inl (by rw [← e2]; exact h1)
  · exact .inl (by rw [e1]; exact h2)
  · exact .inr ⟨e1.trans e2, by omega⟩
theorem SLt.irr {p : Slot} (h : SLt p p) : False := by
  unfold SLt at h
  rcases h with h | ⟨_, h⟩
  · exact List.lt_irrefl _ h
  · omega
theorem sLt_no {p q : Slot} : sLt p q = false ↔ ¬ SLt p q := by rw [← sLt_iff]; simp
theorem sLt_swo {α : Type} (k : α → Slot) : SrtO.Swo fun v u => sLt (k v) (k u) := by
  refine ⟨fun x y h => sLt_no.mpr fun z => (SLt.trans (sLt_iff.mp h) z).irr, fun x y z h1 h2 => sLt_no.mpr fun q => ?_⟩
  have a := sLt_no.mp h1
  have b := sLt_no.mp h2
  rcases SLt.tri (k x) (k y) with c | c | c
  · exact b (SLt.trans q c)
  · rw [← c] at b; exact b q
  · exact a c
/-! ### sorting lists of slots, of any length -/
section
variable {prog : Program} {w : World} {A : Around} {E : Value → Shared → Prop} {s : Shared}
def IsSlotV (h : Heap) (v : Value) (z : Slot) : Prop := ∃ (a : Addr) (o : Obj) (t u r : Tok) (n : Nat), v = .ref a ∧ h.get? a = some o ∧ o.cls = .type "tuple" ∧ o.data = .seq #[.str z.1 t, .int z.2.1 u, .int z.2.2 r] n
theorem IsSlotV.stays {h h' : Heap} {v : Value} {z : Slot} (p : IsSlotV h v z) (k : ∀ b o, h.get? b = some o → o.cls = .type "tuple" → h'.get? b = some o) : IsSlotV h' v z := by
  obtain ⟨a, o, t, u, r, n, e, ho, hc, hd⟩ := p
  exact ⟨a, o, t, u, r, n, e, k _ _ ho hc, hc, hd⟩
theorem slot_cmp {vs : List Value} {k : Value → Slot} (hp : ∀ v ∈ vs, IsSlotV s.heap v (k v)) : SrtO.Cmp prog w A s (tuples' true) (fun p => p.1 ∈ vs) (SrtO.lt2 fun v u => sLt (k v) (k u)) := by
  intro p q hm hm'
  have g1 := hp _ hm
  have g2 := hp _ hm'
  show wpAny (model prog w) A (keyLt' (tuples' true) p.1 q.1) (fun r s' => s' = s ∧ r = sLt (k p.1) (k q.1)) (fun _ _ => False) s
  generalize k p.1 = x at g1 ⊢
  generalize k q.1 = y at g2 ⊢
  obtain ⟨x1, x2, x3⟩ := x
  obtain ⟨y1, y2, y3⟩ := y
  obtain ⟨a, o, t, u, r, n, e, ho, hc, hd⟩ := g1
  obtain ⟨a', o', t', u', r', n', e', ho', hc', hd'⟩ := g2
  rw [e, e']
  refine PySem.W.kat_lt ho hd ho' hd' ?_
  show PySem.W.KatLex prog w A true (decide (3 < 3)) _ [(.str x1 t, .str y1 t'), (.int x2 u, .int y2 u'), (.int x3 r, .int y3 r')] 0 s
  refine PySem.W.kat_cons (wpAny_eqBool_str ?_)
  refine PySem.W.kat_go (fun e1 => ?_) (fun e1 => ?_)
  · have ex : x1 = y1 := by simpa using e1
    refine PySem.W.kat_yes (PySem.W.kat_cons (wpAny_eqBool_int ?_))
    refine PySem.W.kat_go (fun e2 => ?_) (fun e2 => ?_)
    · have ey : x2 = y2 := by simpa using e2
      refine PySem.W.kat_yes (PySem.W.kat_cons (wpAny_eqBool_int ?_))
      refine PySem.W.kat_go (fun e3 => ?_) (fun e3 => ?_)
      · have ez : x3 = y3 := by simpa using e3
        refine PySem.W.kat_yes (PySem.W.kat_nil ⟨rfl, ?_⟩)
        show false = sLt (x1, x2, x3) (y1, y2, y3)
        unfold sLt
        rw [if_pos ex, if_pos ey, ez]
        exact (decide_eq_false (Int.lt_irrefl _)).symm
      · refine PySem.W.kat_no (PySem.W.kat_one _ _ (lt_int ?_))
        refine (show s = s ∧ decide (x3 < y3) = sLt (x1, x2, x3) (y1, y2, y3) from ⟨rfl, ?_⟩)
        unfold sLt
        rw [if_pos ex, if_pos ey]
    · have ey : ¬ x2 = y2 := by simpa using e2
      refine PySem.W.kat_no (PySem.W.kat_one _ _ (lt_int ?_))
      refine (show s = s ∧ decide (x2 < y2) = sLt (x1, x2, x3) (y1, y2, y3) from ⟨rfl, ?_⟩)
      unfold sLt
      rw [if_pos ex, if_neg ey]
  · have ex : ¬ x1 = y1 := by simpa using e1
    refine PySem.W.kat_no (oneLt_str ?_)
    refine (show s = s ∧ decide (x1.cps.toList < y1.cps.toList) = sLt (x1, x2, x3) (y1, y2, y3) from ⟨rfl, ?_⟩)
    unfold sLt
    rw [if_neg ex]
theorem slot_firsts {h : Heap} : ∀ {vs : List Value}, (∀ v ∈ vs, ∃ z, IsSlotV h v z) → ∃ fs : List Value, PySem.W.KatTups h vs fs ∧ fs.length = vs.length ∧ ∀ f ∈ fs, ∃ x t, f = Value.str x t
  | [], _ => ⟨[], PySem.W.KatTups.nil, rfl, fun _ z => nomatch z⟩
  | v :: vs, hp => by
    obtain ⟨fs, k, hl, hi⟩ := slot_firsts (vs := vs) fun u m => hp u (List.mem_cons_of_mem _ m)
    obtain ⟨z, a, o, t, u, r, n, rfl, ho, hc, hd⟩ := hp v List.mem_cons_self
    refine ⟨.str z.1 t :: fs, PySem.W.KatTups.cons ho hc hd rfl k, congrArg (· + 1) hl, fun f m => ?_⟩
    rcases List.mem_cons.mp m with m | m
    · exact ⟨_, _, m⟩
    · exact hi f m
theorem slots_able {a : Addr} {vs : List Value} {k : Value → Slot} (h0 : 0 < vs.length) (hp : ∀ v ∈ vs, IsSlotV s.heap v (k v)) (ha : ∀ o, s.heap.get? a = some o → o.cls ≠ .type "tuple") : SrtO.SortableO prog w A s a vs fun v u => sLt (k v) (k u) := by
  intro h' keep
  have g : ∀ v ∈ vs, IsSlotV h' v (k v) := fun v m => (hp v m).stays fun b o e c => keep b o (fun z => ha o (z ▸ e) c) e
  obtain ⟨fs, k1, hl, hi⟩ := slot_firsts fun v m => ⟨_, g v m⟩
  refine ⟨tuples' true, fun Q E q => ?_, slot_cmp g⟩
  refine PySem.W.kat_kind (T := .type "str") k1 (by omega) (fun f m => ?_) (by rfl) ?_
  · obtain ⟨x, t, rfl⟩ := hi f m
    exact PySem.W.Looks.now
  · rw [show (Value.type "str" != Value.type "tuple") = true by decide +kernel]
    exact q
theorem sorted_slots {l : Addr} {vs : List Value} {k : Value → Slot} {Q : Value → Shared → Prop} (hl : s.heap.IsList l vs.toArray) (hz : vs.length ≤ sizeLine) (hp : ∀ v ∈ vs, IsSlotV s.heap v (k v))
    (h : ∀ (h' : Heap) (d : Addr) (out : List Value), SrtO.Srtd (fun v u => sLt (k v) (k u)) out → out.Perm vs → (∀ b o, s.heap.get? b = some o → h'.get? b = some o) → s.heap.objs.size ≤ d → (∃ n, h'.get? d = some (seqObj "list" out.toArray n)) → Q (.ref d) { s with heap := h' }) :
    wpAny (model prog w) A (call (.builtin "sorted") [.ref l]) Q E s := by
  refine SrtO.sorted_ord (sLt_swo k) hl hz (fun h2 g a ha kk => ?_) fun out hs hb => h _ _ out hs hb.perm (fun b o e => sortedAll_old e) (Nat.le_succ _) (sortedAll_at s.heap vs out.toArray)
  refine slots_able (s := { s with heap := g }) (by omega) (fun v m => (hp v m).stays fun b o e _ => (kk b o e).2) fun o e c => ?_
  rw [ha] at e
  cases e
  exact absurd (Value.type.inj c) (by decide)
end
/-- the slot whose tuple stands at a -/
def slotAt (H : Hp) (a : Addr) : Slot := match H a with
  | some (.tup [.str z, .int n, .int k]) => (z, n, k)
  | _ => (Str.empty, 0, 0)
theorem slotAt_eq {H : Hp} {a : Addr} {s : Slot} (h : H a = some (.tup (sVs s))) : slotAt H a = s := by
  unfold slotAt
  rw [h]
  rfl
/-- addresses and the slots whose tuples stand there -/
def SlotsAt (H : Hp) (as : List Addr) (ss : List Slot) : Prop := Paired (fun (a : Addr) (s : Slot) => H a = some (.tup (sVs s))) as ss
theorem SlotsAt.ext {M : List Addr} {H H' : Hp} {as : List Addr} {ss : List Slot} (h : SlotsAt H as ss) (e : Ext M H H') : SlotsAt H' as ss := Paired.mapP h fun _ _ q => e.tup q
theorem SlotsAt.map {H : Hp} : ∀ {as : List Addr} {ss : List Slot}, SlotsAt H as ss → ss = as.map (slotAt H)
  | _, _, .nil => rfl
  | _, _, .cons h t => by rw [List.map_cons, slotAt_eq h, ← SlotsAt.map t]
theorem SlotsAt.mem {H : Hp} : ∀ {as : List Addr} {ss : List Slot}, SlotsAt H as ss → ∀ a ∈ as, H a = some (.tup (sVs (slotAt H a)))
  | _, _, .nil, a, h => nomatch h
  | _, _, .cons h t, a, m => by
    rcases List.mem_cons.mp m with m | m
    · rw [m, slotAt_eq h]; exact h
    · exact SlotsAt.mem t a m
theorem SlotsAt.of {H : Hp} : ∀ {as : List Addr}, (∀ a ∈ as, H a = some (.tup (sVs (slotAt H a)))) → SlotsAt H as (as.map (slotAt H))
  | [], _ => .nil
  | a :: as, h => .cons (h a List.mem_cons_self) (SlotsAt.of fun b m => h b (List.mem_cons_of_mem _ m))
theorem refs_list : ∀ {us : List Value}, (∀ u ∈ us, ∃ a, u = Value.ref a) → ∃ bs : List Addr, us = bs.map Value.ref
  | [], _ => ⟨[], rfl⟩
  | u :: us, h => by
    obtain ⟨bs, e⟩ := refs_list fun v m => h v (List.mem_cons_of_mem _ m)
    obtain ⟨a, ea⟩ := h u List.mem_cons_self
    exact ⟨a :: bs, by rw [ea, e]; rfl⟩
theorem vals_refs : ∀ bs : List Addr, Vals (bs.map V.ref) (bs.map Value.ref)
  | [] => .nil
  | _ :: r => .cons rfl (vals_refs r)
theorem perm_of_map {as bs : List Addr} (h : (as.map Value.ref).Perm (bs.map Value.ref)) : as.Perm bs := by
  have e := h.map fun v => match v with | Value.ref a => a | _ => 0
  rw [List.map_map, List.map_map] at e
  have id1 : ∀ l : List Addr, l.map ((fun v => match v with | Value.ref a => a | _ => 0) ∘ Value.ref) = l := fun l => by
    induction l with
    | nil => rfl
    | cons a r ih => rw [List.map_cons, ih]; rfl
  rw [id1, id1] at e
  exact e
/-- sorted(a list of slots) -/
def cSortSl (K : PySem.W.Frag) : RC := fun vs H Q => ∃ (a : Addr) (as : List Addr) (ss : List Slot), vs = [V.ref a] ∧ SqL K H a (as.map V.ref) ∧ SlotsAt H as ss ∧
  ∀ (bs : List Addr) (ts : List Slot), SlotsAt H bs ts → ts.Perm ss → ts.Pairwise (fun x y => sLt y x = false) → Alc (.lst (bs.map V.ref)) H Q
section
variable {X : Cx}
theorem zc_sortSl : CallR X (.builtin "sorted") (cSortSl X.K) := by
  intro pins s σ H vs us Q I r h
  obtain ⟨a, as, ss, rfl, hs, hx, q⟩ := h
  obtain ⟨its, rv, hl, hz⟩ := I.list hs
  obtain ⟨u, rfl, ru⟩ := vals1 r
  obtain rfl : u = Value.ref a := ru
  obtain ⟨e1, e2⟩ := refs_back rv fun x m => by
    obtain ⟨t, _, e⟩ := List.mem_map.mp m
    exact ⟨t, e.symm⟩
  let k : Value → Slot := fun v => match v with | .ref b => slotAt H b | _ => (Str.empty, 0, 0)
  have hm : ∀ b : Addr, Value.ref b ∈ its → b ∈ as := fun b m => by
    have h1 : V.ref b ∈ as.map V.ref := by rw [e1]; exact List.mem_map.mpr ⟨_, m, rfl⟩
    obtain ⟨c, hc, e⟩ := List.mem_map.mp h1
    cases e
    exact hc
  refine sorted_slots (k := k) hl.isList (by rw [← rv.length]; exact hz) (fun v hv => ?_) fun h' d out h1 h2 kp hd hn => ?_
  · obtain ⟨t, rfl⟩ := e2 v hv
    have ht := SlotsAt.mem hx t (hm t hv)
    obtain ⟨_, its2, r2, o, ho, hc, n, hd⟩ := I.hok _ _ ht
    cases r2 with
    | cons ra r2 => cases r2 with
      | cons rb r2 => cases r2 with
        | cons rc r2 =>
          cases r2
          obtain ⟨t1, rfl⟩ := ra
          obtain ⟨t2, rfl⟩ := rb
          obtain ⟨t3, rfl⟩ := rc
          exact ⟨t, o, t1, t2, t3, n, rfl, ho, hc, hd⟩
  · have h3 : ∀ u ∈ out, ∃ a, u = Value.ref a := fun u hu => e2 u (h2.mem_iff.mp hu)
    obtain ⟨n, hn⟩ := hn
    obtain ⟨bs, hb⟩ := refs_list h3
    subst hb
    obtain ⟨cs, hcs⟩ := refs_list e2
    subst hcs
    have hac : as = cs := by
      rw [List.map_map] at e1
      refine List.map_inj_right (f := V.ref) (fun x y h => V.ref.inj h) |>.mp (e1.trans ?_)
      rfl
    subst hac
    have hp : bs.Perm as := perm_of_map h2
    have hbm : ∀ b ∈ bs, H b = some (.tup (sVs (slotAt H b))) := fun b m => SlotsAt.mem hx b (hp.mem_iff.mp m)
    have hq := q bs (bs.map (slotAt H)) (SlotsAt.of hbm) (by rw [SlotsAt.map hx]; exact hp.map _) (by
      rw [List.pairwise_map]
      have h1' := List.pairwise_map.mp h1
      exact h1')
    refine ⟨.ref d, upd H d (.lst (bs.map V.ref)), I.laid (t' := s.toks) kp hd ⟨?_, _, n, vals_refs bs, hn⟩, rfl, hq d (I.hok.fresh hd)⟩
    rw [List.length_map, hp.length_eq]
    rw [List.length_map] at hz
    exact hz
end

/-! ### d.clear() of a dict with tuple keys -/
def rClearT : V → List V → Hp → VK → Prop := fun x vs H Q => ∃ (a : Addr) (kvs : List (List Key × V)), x = .ref a ∧ vs = [] ∧ H a = some (.dT kvs) ∧ Chg a (.dT []) H (Q .non)
theorem zmt_clearT {X : Cx} : MtR X "dict.clear" rClearT := by
  intro pins s σ H x vs v us Q I rx rv h
  obtain ⟨a, kvs, rfl, rfl, e, q⟩ := h
  obtain rfl : v = Value.ref a := rx
  obtain rfl := rv.zero
  obtain ⟨z, hd, xs, rel, o, es, ep, ho, hx, hdat, he, hn⟩ := I.hok _ _ e
  have raw : s.heap.DictRaw a es ep := ⟨o, ho, hx, hdat⟩
  have hz : es.size ≤ sizeLine := by
    have h1 : es.toList.length = xs.length := by rw [he, List.length_map]
    have h2 := Paired.length rel
    rw [Array.length_toList] at h1
    omega
  refine call_meetsIn PySem.F.slot_dict_clear raw.typeIs PySem.F.entry_dict_clear (PySem.F.args_dict_clear_1 _) (meets_dict_clear_raw a) ⟨es, ep, raw, hz, fun h' r' hs => ?_⟩
  obtain ⟨o', ho', hx', hd'⟩ := r'
  refine ⟨.non, _, d_write (t' := s.toks) I (by rw [e]; exact True.intro) hs ⟨o', ho'⟩ ?_, rfl, q⟩
  exact ⟨Nat.zero_le _, hd, [], .nil, o', _, _, ho', hx', hd', rfl, List.nodup_nil⟩

/-! ### {slot: e for slot in ..}: a dict comprehension whose keys are tuples -/
section
variable {X : Cx} {pins : List (Addr × Obj)} {σ : St} {H : Hp} {s : Shared}
theorem dictSet_tup {E : Value → Shared → Prop} {D b : Addr} {kvs : List (List Key × V)} {k : List Key} {v : V} {r : Value} {Q : Unit → Shared → Prop} (hu : X.A.units + 1 < cLine) (I : L2.Inv X pins σ H s) (hD : H D = some (.dT kvs)) (hb : H b = some (.tup (k.map kV))) (hz : kvs.length < sizeLine)
    (rv : RelV v r) (h : ∀ s', L2.Inv X pins σ (upd H D (.dT (putK kvs k v))) s' → Q () s') : wpAny (model X.prog X.w) X.A (dictSet D (.ref b) r) Q E s := by
  obtain ⟨z, hd, xs, rel, dd⟩ := dt_of I.hok hD
  have hxl : xs.length ≤ sizeLine := by
    have := Paired.length rel
    omega
  have hl : (putK kvs k v).length ≤ sizeLine := by
    have := length_putK kvs k v
    omega
  refine wpAny_dictSet_heap (hsz := hxl) (show X.A.units < cLine from Nat.lt_of_succ_lt hu) (key_of I.hok hb) dd fun h' dd' hs => h _ ?_
  obtain ⟨q, es, ep, hq, a2, a3, a4, _, a5⟩ := dd'
  refine d_write I (by rw [hD]; exact True.intro) hs ⟨q, hq⟩ ⟨hl, hd, _, (rel.put k hb rv).keeps fun c ys ec => ?_, q, es, ep, hq, a2, a3, a4, a5⟩
  rw [upd_ne (ne_of ec hD (fun z => by cases z))]
  exact ec
/-- D: the new dict; W, Nx as in a list comprehension's reading -/
def zDcT (wi : TI) (g : TG) (tt : TT) (tk tv : TE) (vs : List Nat) : TE := fun σ H Q => wi σ H fun J H1 => ∀ D, H1 D = none → ∃ W : Nat → Nat → Hp → Prop, (∃ m, W 0 m (upd H1 D (.dT []))) ∧
  ∀ i m H, W i m H → (J.stop i H ∧ Q (.ref D) H) ∨ (J.go i H ∧ ∃ Nx : Hp → Prop, (∀ H', Nx H' → ∃ m', m' < m ∧ W (i + 1) m' H') ∧
    ∀ x H', J.yld i H x H' → g x (wipe σ vs) H' fun σ2 H2 => wipe σ2 vs = wipe σ vs ∧ tt σ2 H2 fun b H3 =>
      if b = true then tk σ2 H3 fun y H4 => tv σ2 H4 fun z H5 => ∃ kvs k q, y = .ref q ∧ H5 q = some (.tup (k.map kV)) ∧ H5 D = some (.dT kvs) ∧ kvs.length < sizeLine ∧ Nx (upd H5 D (.dT (putK kvs k z))) else Nx H3)
abbrev AllB (X : Cx) (scope : Scope) (G : Cx → Prop) : Prop := ∀ (s : Shared) (H : Hp) (C : Addr) (cl : List (Str × Addr)) (fp : List Addr), G (X.blk s H scope (compEnvC scope cl C X.env) fp)
theorem zdc_run {Q : VK} {kx vx tg iter : Expr} {ifs : List Expr} {scope : Scope} {own : List (Str × Nat)} {pos pos' : Pos} {wi : TI} {g : TG} {tt : TT} {tk tv : TE} {use : Option (Value → Sem Unit)} {Qf : Value → Shared → Prop}
    (hu : X.A.units + 1 < cLine) (hc : X.calm = true) (hN : X.N.Nodup) (I : L2.Inv X pins σ H s) (hi : PI X tg iter wi) (ok : BlkOk X.N X.env.scope scope own)
    (hg : AllB X scope fun Y => PG Y tg g) (ht : AllB X scope fun Y => PTs Y ifs tt) (hk : AllB X scope fun Y => PE Y kx tk) (he : AllB X scope fun Y => PE Y vx tv) (hs : ∀ x, foldedSetIterable iter X.env x = pure x)
    (h : zDcT wi g tt tk tv (own.map (·.2)) σ H Q)
    (fin : ∀ D C s' m H', L2.Inv X pins σ H' s' → Q (.ref D) H' → s'.heap.Ns C m → FpOk X pins H' C → compPost (model X.prog X.w) X.A X.xe use Qf (.ref D) C (.ok .next) s') :
    wpAny (model X.prog X.w) X.A (comprehension (.DictComp kx vx [⟨tg, iter, ifs, 0⟩] scope pos) scope X.env pos' newDict false (eval iter X.env) use) Qf X.xe s := by
  have cells : ∀ y ∈ scope.names, y.2 = .free → ∃ c, X.env.cells.lookup y.1 = some c := fun y m e => I.ok.has _ ((ok.free y m e).elim .inl .inr)
  refine wpAny_comprehension_free (use := use) rfl hs (closure_ok cells) ok.kind (fun y m e => (ok.uniq y m).trans (congrArg some e)) (thn (hi.run pins s σ H _ I h) fun xv s1 hx => thn hx fun itv s2 h2 => ?_)
  obtain ⟨it, fp, tn, J, H2, rfl, I2, T, st2, f2, q⟩ := h2
  refine wpAny_newObj_type (newEnv_comp ?_)
  generalize eD : s2.heap.objs.size = D
  obtain ⟨W, ⟨m0, w0⟩, turn⟩ := q D (I2.hok.fresh (Nat.le_of_eq eD))
  generalize e3 : ({ s2 with heap := s2.heap.push { cls := .type "dict", data := .dict #[] } } : Shared) = s3
  have hp3 : s3.heap = s2.heap.push { cls := .type "dict", data := .dict #[] } := by rw [← e3]
  have I3 : L2.Inv X pins σ (upd H2 D (.dT [])) s3 := by
    rw [← e3, ← eD]
    exact I2.laid (t' := s2.toks) (fun b o e => Heap.get?_push_of_some _ e) (Nat.le_refl _) (dt_empty s2.heap I2.big)
  have old : ∀ b ∈ fp, b < s2.heap.objs.size := fun b m => (T.obj _ _ st2 b m).elim fun o x => Heap.lt_size x.1
  have f3 : ∀ b ∈ fp, FpOk X pins (upd H2 D (.dT [])) b ∧ b < s3.heap.objs.size := fun b m => by
    have lt := old b m
    refine ⟨⟨?_, (f2 b m).2⟩, ?_⟩
    · rw [upd_ne (fun z => absurd lt (by rw [eD, z]; exact Nat.lt_irrefl D))]
      exact (f2 b m).1
    · rw [hp3, Heap.size_push]
      exact Nat.lt_succ_of_lt lt
  have st3 : tn 0 s3.heap := T.keep _ _ _ st2 fun b _ o e => by rw [hp3]; exact Heap.get?_push_of_some _ e
  have I4 := block_start I3 ok hN f3
  generalize ecl : cellsFrom (s3.heap.objs.size + 1) scope.names (cloFrom X.env.cells scope.names []) = cl at I4
  have pg := hg s3 (upd H2 D (.dT [])) s3.heap.objs.size cl fp
  have pt := ht s3 (upd H2 D (.dT [])) s3.heap.objs.size cl fp
  have pk := hk s3 (upd H2 D (.dT [])) s3.heap.objs.size cl fp
  have pe := he s3 (upd H2 D (.dT [])) s3.heap.objs.size cl fp
  have gone : ∀ b ∈ fp, (upd H2 D (.dT [])) b = none := fun b m => (f3 b m).1.1
  show codeAny _ _ (.compStart (.DictComp kx vx [⟨tg, iter, ifs, 0⟩] scope pos) 0 (.ref it) (.ref D) (compEnvC scope cl s3.heap.objs.size X.env)) (compPost (model X.prog X.w) X.A X.xe use Qf (.ref D) s3.heap.objs.size) { s3 with heap := pushCells (s3.heap.push { cls := .type "dict", data := .dict #[] }) scope.names }
  generalize ece : compEnvC scope cl s3.heap.objs.size X.env = ce at I4 pg pt pk pe ⊢
  have loc : ce.locals = s3.heap.objs.size := by rw [← ece]; rfl
  generalize eH : upd H2 D (.dT []) = H3 at I3 I4 pg pt pk pe w0 gone f3
  generalize e4 : ({ s3 with heap := pushCells (s3.heap.push { cls := .type "dict", data := .dict #[] }) scope.names } : Shared) = s4 at I4 ⊢
  have st4 : tn 0 s4.heap := T.keep _ _ _ st3 fun b _ o e => by rw [← e4]; exact pushCells_keeps _ _ _ _ (Heap.get?_push_of_some _ e)
  let Y : Cx := X.blk s3 H3 scope ce fp
  have mine : ∀ {σ' : L2.St} {H' : Hp} {s' : Shared}, L2.Inv Y [] σ' H' s' → (∀ b ∈ fp, H' b = none) → ∀ b ∈ fp, FpOk Y [] H' b := fun {_ H' _} J' n b m =>
    ⟨n b m, (J'.ok.exf b m).1, J'.ok.exfs b m, .inl m, (J'.ok.exf b m).2, fun p hp => nomatch (show p ∈ ([] : List (Addr × Obj)) from hp)⟩
  have run : codeAny (model X.prog X.w) X.A (.compLoop (.DictComp kx vx [⟨tg, iter, ifs, 0⟩] scope pos) 0 (.ref it) (.ref D) ce) (compPost (model X.prog X.w) X.A X.xe use Qf (.ref D) s3.heap.objs.size) s4 := by
    refine compLoop_anyD (fun n s' => ∃ i H', L2.Inv Y [] (wipe σ (own.map (·.2))) H' s' ∧ tn i s'.heap ∧ (∀ b ∈ fp, H' b = none) ∧ W i n H') (fun n s5 => ?_) m0 ⟨0, H3, I4, st4, gone, w0⟩
    rintro ⟨i, H5, I5, st5, n5, w5⟩
    rcases turn i n H5 w5 with ⟨stop, qq⟩ | ⟨go, Nx, hNx, step⟩
    · refine thnF (T.done Y rfl rfl rfl hc i [] s5 _ H5 (fun _ _ => False) I5 (mine I5 n5) st5 stop) fun r s6 ⟨hr, I6⟩ => ?_
      subst hr
      have back : L2.Inv X pins σ H5 s6 := I3.call' (ch := fp) I6.os I6.base I6.hok I6.bare fun b m =>
        let ⟨_, x1, _, x3, x4, x5⟩ := (f3 b m).1
        ⟨x3, x1, x4, x5⟩
      have nC : H5 s3.heap.objs.size = none := loc ▸ (show H5 ce.locals = none from I6.free)
      obtain ⟨m, ns, _⟩ := I6.loc
      exact fin D s3.heap.objs.size s6 m H5 back qq (loc ▸ (show s6.heap.Ns ce.locals m from ns)) (I3.fpOk (Nat.le_refl _) nC)
    · refine thnF (T.item Y rfl rfl rfl hc i [] s5 _ H5 (fun _ _ => False) I5 (mine I5 n5) st5 go) fun r s6 ⟨u, hr, h6⟩ => ?_
      subst hr
      refine thnF h6 fun _ s7 ⟨x, H7, I7, r7, y7, st7, n7⟩ => ?_
      refine thnF (pg.run _ s7 _ H7 x u _ (I7.pinned (mine I7 n7) (T.obj _ _ st7)) r7 (step x H7 y7)) fun _ s8 ⟨σ8, H8, I8, hw8, q8⟩ => ?_
      refine thnF (pt.run _ s8 σ8 H8 _ I8 q8) fun b s9 ⟨H9, I9, q9⟩ => ?_
      have over : ∀ {s' : Shared} {H' : Hp}, L2.Inv Y ([] ++ pinsAt fp s7.heap) σ8 H' s' → Nx H' → ∃ m, m < n ∧ ∃ i H', L2.Inv Y [] (wipe σ (own.map (·.2))) H' s' ∧ tn i s'.heap ∧ (∀ b ∈ fp, H' b = none) ∧ W i m H' := fun {s' H'} J' nx => by
        obtain ⟨m', lt, w'⟩ := hNx H' nx
        have pn : ∀ b ∈ fp, ∀ o, s7.heap.get? b = some o → s'.heap.get? b = some o ∧ H' b = none := fun b m o e =>
          let z := J'.pin (b, o) (List.mem_append_right _ (List.mem_append_right _ (mem_pinsAt m e)))
          ⟨z.1, z.2.1⟩
        refine ⟨m', lt, i + 1, H', (J'.unpinned (pins := [])).weak (by rw [← hw8, wipe_length]) (fun j v e => ?_), T.keep _ _ _ st7 fun b m o e => (pn b m o e).1, fun b m => ?_, w'⟩
        · rw [← hw8] at e
          exact (wipe_some e).1
        · obtain ⟨o, e, _⟩ := T.obj _ _ st7 b m
          exact (pn b m o e).2
      cases b with
      | false =>
        simp only [Bool.false_eq_true, if_false] at q9 ⊢
        exact over I9 q9
      | true =>
        simp only [if_true] at q9 ⊢
        refine thnF (pk.run _ s9 σ8 H9 _ I9 q9) fun z1 s10 ⟨yk, H10, I10, r10, q10⟩ => ?_
        refine thnF (pe.run _ s10 σ8 H10 _ I10 q10) fun z2 s11 ⟨yv, H11, I11, r11, kvs, k, b2, ek, hb2, hD, hz, nx⟩ => ?_
        subst ek
        obtain rfl : z1 = Value.ref b2 := r10
        exact dictSet_tup (X := Y) hu I11 hD hb2 hz r11 fun s12 I12 => over I12 nx
  exact codeAny_compStart_dict run (T.self X.A 0 _ _ _ st4 run)
theorem zpe_dcT {kx vx tg iter : Expr} {ifs : List Expr} {scope : Scope} {own : List (Str × Nat)} {pos : Pos} {wi : TI} {g : TG} {tt : TT} {tk tv : TE} (hu : X.A.units + 1 < cLine) (hc : X.calm = true) (hN : X.N.Nodup) (hi : PI X tg iter wi) (ok : BlkOk X.N X.env.scope scope own)
    (hg : AllB X scope fun Y => PG Y tg g) (ht : AllB X scope fun Y => PTs Y ifs tt) (hk : AllB X scope fun Y => PE Y kx tk) (he : AllB X scope fun Y => PE Y vx tv) (hs : ∀ x, foldedSetIterable iter X.env x = pure x := by intro _; rfl) :
    PE X (.DictComp kx vx [⟨tg, iter, ifs, 0⟩] scope pos) (zDcT wi g tt tk tv (own.map (·.2))) := by
  refine ⟨fun pins s σ H Q I h => ?_⟩
  rw [arm_eval_DictComp]
  refine zdc_run hu hc hN I hi ok hg ht hk he hs h fun D C s' m H' I' q ns f => ⟨m, ns, fun h2 sb => ?_⟩
  obtain ⟨y0, y1, _, y3, y4, y5⟩ := f
  exact ⟨.ref D, H', I'.turned (t' := s'.toks) (fun b o hb e => (sb.2 b hb).trans e) y0 y1 y3 y4 y5, rfl, q⟩
end
end Zk

set_option Elab.async false
set_option linter.all false
set_option maxRecDepth 100000
set_option maxHeartbeats 4000000
namespace Zk
open PySem PySem.Spec L2
open PyProof.Rows hiding St

/-! ### data that do not change: flat ones and tuples of such -/
mutual
inductive Im (H : Hp) : V → PyData → Prop
  | non : Im H .non .none
  | bl (b : Bool) : Im H (.bl b) (.bool b)
  | int (i : Int) : Im H (.int i) (.int i)
  | str (x : Str) : Im H (.str x) (.str x)
  | tup {a : Addr} {xs : List V} {ds : List PyData} : H a = some (.tup xs) → xs.length ≤ 1000 → ImAll H xs ds → Im H (.ref a) (.tuple ds)
inductive ImAll (H : Hp) : List V → List PyData → Prop
  | nil : ImAll H [] []
  | cons {v : V} {vs : List V} {d : PyData} {ds : List PyData} : Im H v d → ImAll H vs ds → ImAll H (v :: vs) (d :: ds)
end
mutual
theorem Im.go {H H' : Hp} (e : ∀ a xs, H a = some (.tup xs) → H' a = some (.tup xs)) : ∀ (d : PyData) (v : V), Im H v d → Im H' v d
  | .none, _, .non => .non
  | .bool _, _, .bl b => .bl b
  | .int _, _, .int i => .int i
  | .str _, _, .str x => .str x
  | .tuple ds, _, .tup h l k => .tup (e _ _ h) l (ImAll.go e ds _ k)
theorem ImAll.go {H H' : Hp} (e : ∀ a xs, H a = some (.tup xs) → H' a = some (.tup xs)) : ∀ (ds : List PyData) (vs : List V), ImAll H vs ds → ImAll H' vs ds
  | [], _, .nil => .nil
  | d :: ds, _, .cons h k => .cons (Im.go e d _ h) (ImAll.go e ds _ k)
end
theorem Im.ext {M : List Addr} {H H' : Hp} {v : V} {d : PyData} (h : Im H v d) (e : Ext M H H') : Im H' v d := Im.go (fun _ _ q => e.tup q) d v h
theorem ImAll.ext {M : List Addr} {H H' : Hp} {v : List V} {d : List PyData} (h : ImAll H v d) (e : Ext M H H') : ImAll H' v d := ImAll.go (fun _ _ q => e.tup q) d v h
theorem Im.lk {p : Addr} {u : HO} {od : Obj} {H H' : Hp} {v : V} {d : PyData} (h : Im H v d) (e : Lk p u od H H') : Im H' v d := Im.go (fun _ _ q => e.tup q) d v h
mutual
theorem Im.dp {K : PySem.W.Frag} {H : Hp} : ∀ (d : PyData) (v : V), Im H v d → Dp K H v d
  | .none, _, .non => .non
  | .bool _, _, .bl b => .bl b
  | .int _, _, .int i => .int i
  | .str _, _, .str x => .str x
  | .tuple ds, _, .tup h _ k => .tup (sqt h) (ImAll.dp ds _ k)
theorem ImAll.dp {K : PySem.W.Frag} {H : Hp} : ∀ (ds : List PyData) (vs : List V), ImAll H vs ds → DpAll K H vs ds
  | [], _, .nil => .nil
  | d :: ds, _, .cons h k => .cons (Im.dp d _ h) (ImAll.dp ds _ k)
end
theorem ImAll.len {H : Hp} : ∀ {vs : List V} {ds : List PyData}, ImAll H vs ds → vs.length = ds.length
  | _, _, .nil => rfl
  | _, _, .cons _ k => congrArg (· + 1) k.len
theorem ImAll.at {H : Hp} : ∀ {vs : List V} {ds : List PyData} {i : Nat} {d : PyData}, ImAll H vs ds → ds[i]? = some d → ∃ v, vs[i]? = some v ∧ Im H v d
  | _, _, 0, _, .cons h _, e => by cases e; exact ⟨_, rfl, h⟩
  | _, _, i + 1, _, .cons _ k, e => ImAll.at (i := i) k e
theorem ImAll.at' {H : Hp} : ∀ {vs : List V} {ds : List PyData} {i : Nat} {v : V}, ImAll H vs ds → vs[i]? = some v → ∃ d, ds[i]? = some d ∧ Im H v d
  | _, _, 0, _, .cons h _, e => by cases e; exact ⟨_, rfl, h⟩
  | _, _, i + 1, _, .cons _ k, e => ImAll.at' (i := i) k e
theorem ImAll.snoc {H : Hp} {v : V} {d : PyData} (h : Im H v d) : ∀ {vs : List V} {ds : List PyData}, ImAll H vs ds → ImAll H (vs ++ [v]) (ds ++ [d])
  | _, _, .nil => .cons h .nil
  | _, _, .cons g k => .cons g (ImAll.snoc h k)
theorem Im.tupE {H : Hp} {v : V} {ds : List PyData} (h : Im H v (.tuple ds)) : ∃ a xs, v = .ref a ∧ H a = some (.tup xs) ∧ ImAll H xs ds := by
  cases h with
  | tup h _ k => exact ⟨_, _, rfl, h, k⟩
/-- an equation of data -/
theorem w_eqD {K : PySem.W.Frag} {H : Hp} {Q : VK} {x y : V} {d e : PyData} (hx : Im H x d) (hy : Im H y e) (sd : SeqAt.shaped d = true) (se : SeqAt.shaped e = true) (q : Q (.bl (PyData.eqv d e)) H) : rEqD K x y H Q := ⟨d, e, hx.dp, hy.dp, sd, se, q⟩
theorem w_neD {K : PySem.W.Frag} {H : Hp} {Q : VK} {x y : V} {d e : PyData} (hx : Im H x d) (hy : Im H y e) (sd : SeqAt.shaped d = true) (se : SeqAt.shaped e = true) (q : Q (.bl (!PyData.eqv d e)) H) : rNeD K x y H Q := ⟨d, e, hx.dp, hy.dp, sd, se, q⟩

/-! ### dicts whose keys are slots, read as functions -/
def ORel (H : Hp) : Option V → Option PyData → Prop
  | none, none => True
  | some v, some d => Im H v d
  | _, _ => False
theorem ORel.ext {M : List Addr} {H H' : Hp} {x : Option V} {y : Option PyData} (h : ORel H x y) (e : Ext M H H') : ORel H' x y := by
  cases x <;> cases y
  · exact h
  · exact h
  · exact h
  · exact Im.ext h e
theorem ORel.lk {p : Addr} {u : HO} {od : Obj} {H H' : Hp} {x : Option V} {y : Option PyData} (h : ORel H x y) (e : Lk p u od H H') : ORel H' x y := by
  cases x <;> cases y
  · exact h
  · exact h
  · exact h
  · exact Im.lk h e
theorem ORel.some {H : Hp} {x : Option V} {d : PyData} (h : ORel H x (Option.some d)) : ∃ v, x = Option.some v ∧ Im H v d := by
  cases x with
  | none => exact h.elim
  | some v => exact ⟨v, rfl, h⟩
theorem ORel.none {H : Hp} {x : Option V} (h : ORel H x Option.none) : x = Option.none := by
  cases x with
  | none => rfl
  | some v => exact h.elim
theorem ORel.iss {H : Hp} {x : Option V} {y : Option PyData} (h : ORel H x y) : x.isSome = y.isSome := by
  cases x <;> cases y <;> first | rfl | exact h.elim
abbrev Fd := Slot → Option PyData
structure DMk (U : List Slot) (H : Hp) (kvs : List (List Key × V)) (ks : List Slot) (f : Fd) : Prop where
  keys : kvs.map (·.1) = ks.map sKey
  nd : ks.Nodup
  sub : ∀ s ∈ ks, s ∈ U
  val : ∀ s, ORel H (valV kvs (sKey s)) (f s)
theorem DMk.ext {U : List Slot} {M : List Addr} {H H' : Hp} {kvs : List (List Key × V)} {ks : List Slot} {f : Fd} (h : DMk U H kvs ks f) (e : Ext M H H') : DMk U H' kvs ks f := ⟨h.keys, h.nd, h.sub, fun s => (h.val s).ext e⟩
theorem DMk.lk {U : List Slot} {p : Addr} {u : HO} {od : Obj} {H H' : Hp} {kvs : List (List Key × V)} {ks : List Slot} {f : Fd} (h : DMk U H kvs ks f) (e : Lk p u od H H') : DMk U H' kvs ks f := ⟨h.keys, h.nd, h.sub, fun s => (h.val s).lk e⟩
theorem val_mem {kvs : List (List Key × V)} {k : List Key} : (valV kvs k).isSome = true ↔ k ∈ kvs.map (·.1) := by
  rw [← valV_any, List.any_eq_true]
  constructor
  · rintro ⟨p, hp, e⟩
    exact List.mem_map.mpr ⟨p, hp, of_decide_eq_true e⟩
  · intro h
    obtain ⟨p, hp, e⟩ := List.mem_map.mp h
    exact ⟨p, hp, decide_eq_true e⟩
theorem DMk.mem {U : List Slot} {H : Hp} {kvs : List (List Key × V)} {ks : List Slot} {f : Fd} (h : DMk U H kvs ks f) {s : Slot} : s ∈ ks ↔ (f s).isSome = true := by
  rw [← (h.val s).iss, val_mem, h.keys, List.mem_map]
  constructor
  · intro m; exact ⟨s, m, rfl⟩
  · rintro ⟨t, m, e⟩; rw [← sKey_inj e]; exact m
theorem DMk.len {U : List Slot} {H : Hp} {kvs : List (List Key × V)} {ks : List Slot} {f : Fd} (h : DMk U H kvs ks f) : kvs.length = ks.length := by
  have := congrArg List.length h.keys
  rwa [List.length_map, List.length_map] at this
theorem DMk.small {U : List Slot} {H : Hp} {kvs : List (List Key × V)} {ks : List Slot} {f : Fd} (h : DMk U H kvs ks f) (hU : U.length ≤ 1000) : kvs.length ≤ 1000 := by
  rw [h.len]; exact Nat.le_trans (nodup_len h.nd h.sub) hU
theorem DMk.at {U : List Slot} {H : Hp} {kvs : List (List Key × V)} {ks : List Slot} {f : Fd} (h : DMk U H kvs ks f) {i : Nat} {k : List Key} {v : V} (e : kvs[i]? = some (k, v)) : ∃ s d, ks[i]? = some s ∧ k = sKey s ∧ f s = some d ∧ valV kvs k = some v ∧ Im H v d := by
  have e1 : (kvs.map (·.1))[i]? = some k := by rw [List.getElem?_map, e]; rfl
  rw [h.keys, List.getElem?_map] at e1
  cases q : ks[i]? with
  | none => rw [q] at e1; cases e1
  | some s =>
    rw [q] at e1
    have e2 : sKey s = k := Option.some.inj e1
    have m : s ∈ ks := List.mem_of_getElem? q
    have m2 := h.mem.mp m
    obtain ⟨d, hd⟩ := Option.isSome_iff_exists.mp m2
    have o := h.val s
    rw [hd, e2] at o
    obtain ⟨v', hv, im⟩ := o.some
    have nk : (kvs.map (·.1)).Nodup := by
      rw [h.keys]
      exact List.pairwise_map.mpr (h.nd.imp fun hn e => hn (sKey_inj e))
    have hv2 : valV kvs k = some v := by
      clear hv im o hd m2 m e2 q e1 h
      induction kvs generalizing i with
      | nil => simp at e
      | cons p r ih =>
        cases i with
        | zero =>
          have : p = (k, v) := Option.some.inj e
          subst this
          exact valV_pos rfl
        | succ i =>
          have e' : r[i]? = some (k, v) := e
          have km : k ∈ r.map (·.1) := List.mem_map.mpr ⟨_, List.mem_of_getElem? e', rfl⟩
          rw [List.map_cons, List.nodup_cons] at nk
          rw [valV_neg (fun z => nk.1 (z ▸ km))]
          exact ih e' nk.2
    rw [hv] at hv2
    cases hv2
    exact ⟨s, d, rfl, e2.symm, hd, hv, im⟩
/-- a dict of slots in use; one that may be locked -/
def DM (U : List Slot) (H : Hp) (p : Addr) (f : Fd) : Prop := ∃ kvs ks, H p = some (.dT kvs) ∧ DMk U H kvs ks f
def DR (U : List Slot) (H : Hp) (p : Addr) (f : Fd) : Prop := ∃ kvs ks, Rd H p (.dT kvs) ∧ DMk U H kvs ks f
theorem DM.dr {U : List Slot} {H : Hp} {p : Addr} {f : Fd} : DM U H p f → DR U H p f := fun ⟨kvs, ks, h, k⟩ => ⟨kvs, ks, .inl h, k⟩
theorem DM.ext {U : List Slot} {M : List Addr} {H H' : Hp} {p : Addr} {f : Fd} (h : DM U H p f) (e : Ext M H H') (n : p ∉ M) : DM U H' p f := by
  obtain ⟨kvs, ks, h, k⟩ := h
  exact ⟨kvs, ks, e.keep _ _ h n, k.ext e⟩
theorem DR.ext {U : List Slot} {M : List Addr} {H H' : Hp} {p : Addr} {f : Fd} (h : DR U H p f) (e : Ext M H H') (n : p ∉ M) : DR U H' p f := by
  obtain ⟨kvs, ks, h, k⟩ := h
  rcases h with h | ⟨o, h⟩
  · exact ⟨kvs, ks, .inl (e.keep _ _ h n), k.ext e⟩
  · exact ⟨kvs, ks, .inr ⟨o, e.imm _ _ h trivial⟩, k.ext e⟩
theorem DR.lk {U : List Slot} {H H' : Hp} {p q : Addr} {u : HO} {od : Obj} {f : Fd} (h : DR U H p f) (e : Lk q u od H H') : DR U H' p f := by
  obtain ⟨kvs, ks, h, k⟩ := h
  rcases h with h | ⟨o, h⟩
  · by_cases z : p = q
    · subst z
      have := e.was
      rw [h] at this
      cases this
      exact ⟨kvs, ks, .inr ⟨od, e.at⟩, k.lk e⟩
    · exact ⟨kvs, ks, .inl (e.keep h z), k.lk e⟩
  · exact ⟨kvs, ks, .inr ⟨o, e.frz h⟩, k.lk e⟩
theorem DM.lk {U : List Slot} {H H' : Hp} {p q : Addr} {u : HO} {od : Obj} {f : Fd} (h : DM U H p f) (e : Lk q u od H H') (n : p ≠ q) : DM U H' p f := by
  obtain ⟨kvs, ks, h, k⟩ := h
  exact ⟨kvs, ks, e.keep h n, k.lk e⟩
theorem DM.ne {U : List Slot} {H : Hp} {p q : Addr} {f : Fd} (h : DM U H p f) (n : H q = none) : p ≠ q := by
  obtain ⟨kvs, ks, h, k⟩ := h
  exact ne_of_none h n
theorem DR.ne {U : List Slot} {H : Hp} {p q : Addr} {f : Fd} (h : DR U H p f) (n : H q = none) : p ≠ q := by
  obtain ⟨kvs, ks, h, k⟩ := h
  rcases h with h | ⟨o, h⟩ <;> exact ne_of_none h n
theorem DM.nil {U : List Slot} {H : Hp} {p : Addr} (h : H p = some (.dT [])) : DM U H p fun _ => none := ⟨[], [], h, ⟨rfl, List.nodup_nil, fun _ m => (nomatch m), fun _ => trivial⟩⟩
theorem DM.congr {U : List Slot} {H : Hp} {p : Addr} {f g : Fd} (h : DM U H p f) (e : ∀ s, f s = g s) : DM U H p g := by rw [← funext e]; exact h
theorem DM.fsub {U : List Slot} {H : Hp} {p : Addr} {f : Fd} (h : DM U H p f) {s : Slot} (e : (f s).isSome = true) : s ∈ U := by
  obtain ⟨kvs, ks, h, k⟩ := h
  exact k.sub _ (k.mem.mpr e)
theorem DR.fsub {U : List Slot} {H : Hp} {p : Addr} {f : Fd} (h : DR U H p f) {s : Slot} (e : (f s).isSome = true) : s ∈ U := by
  obtain ⟨kvs, ks, h, k⟩ := h
  exact k.sub _ (k.mem.mpr e)
def putF (f : Fd) (s : Slot) (d : PyData) : Fd := fun t => if t = s then some d else f t
theorem DMk.put {U : List Slot} {H : Hp} {kvs : List (List Key × V)} {ks : List Slot} {f : Fd} (h : DMk U H kvs ks f) {s : Slot} (m : s ∈ U) {v : V} {d : PyData} (i : Im H v d) : ∃ ks', DMk U H (putK kvs (sKey s) v) ks' (putF f s d) := by
  have hv : ∀ t, ORel H (valV (putK kvs (sKey s) v) (sKey t)) (putF f s d t) := fun t => by
    rw [valV_put]
    unfold putF
    by_cases e : t = s
    · subst e; rw [if_pos rfl, if_pos rfl]; exact i
    · rw [if_neg e, if_neg (fun z => e (sKey_inj z))]; exact h.val t
  by_cases hs : s ∈ ks
  · refine ⟨ks, ?_, h.nd, h.sub, hv⟩
    have : (kvs.any fun kv => decide (kv.1 = sKey s)) = true := by
      rw [valV_any, val_mem, h.keys]; exact List.mem_map.mpr ⟨s, hs, rfl⟩
    unfold putK
    rw [this, if_pos rfl, List.map_map, ← h.keys]
    refine List.map_congr_left fun p _ => ?_
    show (if p.1 = sKey s then (p.1, v) else p).1 = p.1
    by_cases z : p.1 = sKey s
    · rw [if_pos z]
    · rw [if_neg z]
  · have no : valV kvs (sKey s) = none := by
      have := fun z => hs (h.mem.mpr z)
      rw [← (h.val s).iss] at this
      exact Option.not_isSome_iff_eq_none.mp this
    refine ⟨ks ++ [s], ?_, ?_, fun t mt => ?_, hv⟩
    · rw [putK_new v no, List.map_append, List.map_append, h.keys]; rfl
    · rw [List.nodup_append]
      refine ⟨h.nd, List.nodup_cons.mpr ⟨fun z => (nomatch z), List.nodup_nil⟩, fun a ha b hb e => ?_⟩
      subst e
      rw [List.mem_singleton.mp hb] at ha
      exact hs ha
    · rcases List.mem_append.mp mt with z | z
      · exact h.sub t z
      · rw [List.mem_singleton.mp z]; exact m
/-! readings of such dicts -/
section
variable {U : List Slot} {K : PySem.W.Frag} {σ : St} {H : Hp} {Q : VK} {a b p q : Addr} {f g : Fd} {s : Slot} {v : V}
theorem dgetT {kvs : List (List Key × V)} (h : Rd H a (.dT kvs)) (eb : H b = some (.tup (sVs s))) : DGet H a (.ref b) (valV kvs (sKey s)) := .inr ⟨kvs, sKey s, b, h, rfl, eb, rfl⟩
theorem w_dgetT {d : PyData} {P : V → Prop} (h : DR U H a f) (eb : H b = some (.tup (sVs s))) (e : f s = some d) (k : ∀ v, Im H v d → P v) : ∃ c v, V.ref a = .ref c ∧ DGet H c (.ref b) (some v) ∧ P v := by
  obtain ⟨kvs, ks, h, m⟩ := h
  have o := m.val s
  rw [e] at o
  obtain ⟨v, hv, i⟩ := o.some
  exact ⟨a, v, rfl, hv ▸ dgetT h eb, k v i⟩
theorem w_dinT {P : Option V → Prop} (h : DR U H a f) (eb : H b = some (.tup (sVs s))) (k : ∀ o, o.isSome = (f s).isSome → P o) : ∃ c o, V.ref a = .ref c ∧ DGet H c (.ref b) o ∧ P o := by
  obtain ⟨kvs, ks, h, m⟩ := h
  exact ⟨a, _, rfl, dgetT h eb, k _ (m.val s).iss⟩
theorem w_get1 {te : TE} {ty : TE} (h : te σ H fun x H1 => ∃ a, x = .ref a ∧ IsD H1 a ∧ ty σ H1 fun y H2 => ∃ o, DGet H2 a y o ∧ Q (o.getD .non) H2) : tDGet1 te ty σ H Q := h
theorem w_isD {P : Addr → Prop} (h : DR U H a f) (k : P a) : ∃ c, V.ref a = .ref c ∧ IsD H c ∧ P c := by
  obtain ⟨kvs, ks, h, m⟩ := h
  exact ⟨a, rfl, .inr ⟨kvs, h⟩, k⟩
theorem w_get1T {P : Option V → Prop} (h : DR U H a f) (eb : H b = some (.tup (sVs s))) (k : ∀ o, Im H (o.getD .non) ((f s).getD .none) → P o) : ∃ o, DGet H a (.ref b) o ∧ P o := by
  obtain ⟨kvs, ks, h, m⟩ := h
  refine ⟨_, dgetT h eb, k _ ?_⟩
  have o := m.val s
  revert o
  cases valV kvs (sKey s) <;> cases f s <;> intro o
  · exact .non
  · exact o.elim
  · exact o.elim
  · exact o
theorem w_dputT {N : Hp → Prop} {d : PyData} (hU : U.length ≤ 1000) (h : DM U H a f) (eb : H b = some (.tup (sVs s))) (m : s ∈ U) (i : Im H v d) (k : ∀ H', Ext [a] H H' → DM U H' a (putF f s d) → N H') :
    ∃ c H4, V.ref a = .ref c ∧ DPut H c (.ref b) v H4 ∧ N H4 := by
  obtain ⟨kvs, ks, h, w⟩ := h
  have eb' : H b = some (.tup ((sKey s).map kV)) := eb
  have e : Ext [a] H (upd H a (.dT (putK kvs (sKey s) v))) := Ext.mut h (fun z => z) (List.mem_singleton.mpr rfl)
  refine ⟨a, _, rfl, DPut.t (k := sKey s) h eb' (szl (Nat.lt_of_le_of_lt (w.small hU) (by decide))), k _ e ?_⟩
  obtain ⟨ks', w'⟩ := w.put m i
  exact ⟨_, ks', upd_same, w'.ext e⟩
/-- len of a list, a tuple, a dict with tuple keys -/
def cLenX (K : PySem.W.Frag) : RC := fun xs H Q => cLen K xs H Q ∨ ∃ p kvs, xs = [V.ref p] ∧ H p = some (.dT kvs) ∧ Q (.int kvs.length) H
theorem zc_lenX {X : Cx} : CallR X (.builtin "len") (cLenX X.K) := by
  intro pins s σ H vs us Q I r h
  rcases h with h | ⟨p, kvs, e, hp, q⟩
  · exact zc_len pins s σ H vs us Q I r h
  · exact call_len_dT pins s σ H vs us Q I r ⟨p, kvs, e, hp, q⟩
/-- list(d), d a dict of slots -/
def cListT : RC := fun xs H Q => ∃ d kvs, xs = [V.ref d] ∧ Rd H d (.dT kvs) ∧ ∀ bs, IsKeys H kvs bs → Alc (.lst (bs.map V.ref)) H Q
theorem zc_listT {X : Cx} (hc : X.calm = true) : CallR X (.type "list") cListT := by
  intro pins s σ H vs us Q I r h
  obtain ⟨d, kvs, e, hd, q⟩ := h
  exact call_list_dT hc pins s σ H vs us Q I r ⟨d, kvs, e, hd, fun p bs np ib => q bs ib p np⟩
theorem DMk.slots {kvs : List (List Key × V)} {ks : List Slot} {bs : List Addr} (m : DMk U H kvs ks f) (i : IsKeys H kvs bs) : SlotsAt H bs ks := by
  have e := m.keys
  clear m
  unfold IsKeys at i
  unfold SlotsAt
  induction i generalizing ks with
  | nil => cases ks with
    | nil => exact .nil
    | cons s r => cases e
  | cons h t ih => cases ks with
    | nil => cases e
    | cons s r =>
      injection e with e1 e2
      refine .cons ?_ (ih e2)
      show _ = some (HO.tup (sVs s))
      rw [h]
      have e1' : _ = sKey s := e1
      rw [← sKey_vs, ← e1']
theorem w_listT {P : V → Hp → Prop} (h : DR U H a f) (k : ∀ p bs ks H', Ext [] H H' → H p = none → H' p = some (.lst (bs.map V.ref)) → SlotsAt H' bs ks → ks.Nodup → (∀ s, s ∈ ks ↔ (f s).isSome = true) → ks.length ≤ U.length → P (.ref p) H') : cListT [.ref a] H P := by
  obtain ⟨kvs, ks, h, m⟩ := h
  refine ⟨a, kvs, rfl, h, fun bs ib => w_alc fun p H' e n hp => ?_⟩
  exact k p bs ks H' e n hp ((m.slots ib).ext e) m.nd (fun s => m.mem) (nodup_len m.nd m.sub)
/-- sorted(d), d a dict of slots; the dict is not changed by it -/
def cSortT (K : PySem.W.Frag) : RC := fun vs H Q => cSortSl K vs H Q ∨ ∃ (d : Addr) (kvs : List (List Key × V)) (ks : List Slot), vs = [V.ref d] ∧ Rd H d (.dT kvs) ∧ kvs.map (·.1) = ks.map sKey ∧
  ∀ (bs : List Addr) (ts : List Slot), SlotsAt H bs ts → ts.Perm ks → ts.Pairwise (fun x y => sLt y x = false) → Alc (.lst (bs.map V.ref)) H Q
theorem SlotsAt.vals {X : Cx} {pins : List (Addr × Obj)} {s : Shared} (I : L2.Inv X pins σ H s) {as : List Addr} {ss : List Slot} (hx : SlotsAt H as ss) {h' : Heap} (kp : ∀ b o, s.heap.get? b = some o → h'.get? b = some o) :
    ∀ v ∈ as.map Value.ref, IsSlotV h' v (match v with | .ref b => slotAt H b | _ => (Str.empty, 0, 0)) := by
  intro v hv
  obtain ⟨t, ht, rfl⟩ := List.mem_map.mp hv
  obtain ⟨_, its2, r2, o, ho, hc, n, hd⟩ := I.hok _ _ (SlotsAt.mem hx t ht)
  cases r2 with
  | cons ra r2 => cases r2 with
    | cons rb r2 => cases r2 with
      | cons rc r2 =>
        cases r2
        obtain ⟨t1, rfl⟩ := ra
        obtain ⟨t2, rfl⟩ := rb
        obtain ⟨t3, rfl⟩ := rc
        exact ⟨t, o, t1, t2, t3, n, rfl, kp _ _ ho, hc, hd⟩
theorem zc_sortT {X : Cx} (hc : X.calm = true) : CallR X (.builtin "sorted") (cSortT X.K) := by
  intro pins s σ H vs us Q I r h
  rcases h with h | ⟨d, kvs, ks, rfl, hd, hk, q⟩
  · exact zc_sortSl pins s σ H vs us Q I r h
  obtain ⟨u, rfl, rx⟩ := r.one
  cases rx
  obtain ⟨z, hs, ys, pr, o, es, ep, ho, hx, hdt, he, hn⟩ := (show ObjOk X.prog X.w H s.heap d (.dT kvs) from hd.ok I.hok)
  have l1 : es.size = ys.length := size_of_entries he
  have l2 : kvs.length = ys.length := Paired.length pr
  refine Calls.call_function_entry PyProof.Rows.kind_sorted PyProof.Rows.plain_sorted PyProof.Rows.entry_sorted (PyProof.Rows.args_sorted1 _) ?_
  unfold Builtin.«sorted»
  refine wpAny_bind (m := checkCount "sorted" 1 1 _) (wpAny_pure ?_)
  refine wpAny_bind (PySem.W.kdu_collect (A := X.A.in1) (kdl_raw hs hx hdt) (I.ok.hd hc) ho (by omega) fun h' tk acc' kp it => ?_)
  have ea : acc'.toList = ys.map fun x => Value.ref x.2.1 := by
    have hl : acc'.toList.length = ys.length := by rw [Array.length_toList, it.1]; exact l1
    apply List.ext_getElem?
    intro j
    rw [List.getElem?_map]
    cases hj : acc'.toList[j]? with
    | none =>
      have h1 := List.getElem?_eq_none_iff.mp hj
      rw [List.getElem?_eq_none (by omega)]
      all_goals rfl
    | some v =>
      obtain ⟨en, hen, hv⟩ := it.2 j v (by rw [← Array.getElem?_toList]; exact hj)
      have qe := entry_at he j
      rw [hen] at qe
      cases hb : ys[j]? with
      | none =>
        rw [hb] at qe
        exact nomatch (show some en = none from qe)
      | some b =>
        rw [hb] at qe
        have e2 : en = entryOfKey (tupleKind (mixKind X.prog X.w)) b := Option.some.inj qe
        rw [hv, e2]
        all_goals rfl
  have eb : acc'.toList = (ys.map fun x => x.2.1).map Value.ref := by rw [ea, List.map_map]; all_goals rfl
  have ik := isKeys_of pr
  generalize (ys.map fun x => x.2.1) = as at eb ik
  have hx2 : SlotsAt H as ks := by
    have e := hk
    clear q hd hx pr l2 ho he hn z hk
    unfold IsKeys at ik
    unfold SlotsAt
    clear eb ea
    induction ik generalizing ks with
    | nil => cases ks with
      | nil => exact .nil
      | cons s r => cases e
    | cons h t ih => cases ks with
      | nil => cases e
      | cons s r =>
        injection e with e1 e2
        refine .cons ?_ (ih (ks := r) e2)
        show _ = some (HO.tup (sVs s))
        rw [h]
        have e1' : _ = sKey s := e1
        rw [← sKey_vs, ← e1']
  have lz : (as.map Value.ref).length ≤ sizeLine := by
    rw [← eb, Array.length_toList, it.1, l1]; omega
  have I1 : L2.Inv X pins σ H { s with heap := h', toks := tk } := I.kept kp
  rw [eb]
  refine wpAny_bind (wpAny_newList ?_ lz)
  have hoL : (h'.push (seqObj "list" (as.map Value.ref).toArray 0)).get? h'.objs.size = some (seqObj "list" (as.map Value.ref).toArray 0) := Heap.get?_push_size _ rfl
  show wpAny _ _ _ _ _ { s with heap := h'.push (seqObj "list" (as.map Value.ref).toArray 0), toks := tk }
  let k : Value → Slot := fun v => match v with | .ref b => slotAt H b | _ => (Str.empty, 0, 0)
  refine wpAny_bind (wpAny_holding (wpAny_call_entry PyProof.Rows.slot_list_sort ⟨_, hoL, rfl⟩ PyProof.Rows.entry_list_sort
    (SrtO.list_sort_ord (s := { s with heap := h'.push (seqObj "list" (as.map Value.ref).toArray 0), toks := tk }) (sLt_swo k) hoL lz (fun h2 => slots_able (by omega) (SlotsAt.vals I hx2 fun b o e => Heap.get?_push_of_some _ (kp b o e)) fun o e c => ?_) fun out h1 hb => ⟨_, rfl, ?_⟩) (PyProof.Rows.args_list_sort _)))
  · rw [hoL] at e
    cases e
    exact absurd (Value.type.inj c) (by decide)
  have h2 := hb.perm
  obtain ⟨e', he'⟩ := PyProof.Rows.sortedHeap_at (vs := as.map Value.ref) (out := out.toArray) hoL
  obtain ⟨bs, hbs⟩ := refs_list (us := out) fun u hu => by
    obtain ⟨t, _, e⟩ := List.mem_map.mp (h2.mem_iff.mp hu)
    exact ⟨t, e.symm⟩
  subst hbs
  have hp : bs.Perm as := perm_of_map h2
  have hbm : ∀ b ∈ bs, H b = some (.tup (sVs (slotAt H b))) := fun b m => SlotsAt.mem hx2 b (hp.mem_iff.mp m)
  have hq := q bs (bs.map (slotAt H)) (SlotsAt.of hbm) (by rw [SlotsAt.map hx2]; exact hp.map _) (by
    rw [List.pairwise_map]
    exact List.pairwise_map.mp h1)
  refine wpAny_pure ⟨_, rfl, .ref h'.objs.size, upd H h'.objs.size (.lst (bs.map V.ref)), I1.laid (t' := tk) (fun b u e => ?_) (Nat.le_refl _)
    (show ObjOk X.prog X.w _ _ _ (.lst (bs.map V.ref)) from ⟨?_, bs.map Value.ref, e', vals_refs bs, he'⟩), rfl, hq _ (I1.hok.fresh (Nat.le_refl _))⟩
  · have hb : b < h'.objs.size := Heap.lt_size e
    rw [PyProof.Rows.sortedHeap_old (Nat.ne_of_lt hb) (by rw [size_push']; exact Nat.lt_succ_of_lt hb)]
    exact Heap.get?_push_of_some _ e
  · rw [List.length_map, hp.length_eq]
    rw [List.length_map] at lz
    exact lz
end
end Zk

set_option Elab.async false
set_option linter.all false
set_option maxRecDepth 100000
set_option maxHeartbeats 4000000
namespace Zk
open PySem PySem.Spec L2
open PyProof.Rows hiding St

/-! ### values and kinds -/
inductive Val where
  | fl (b : Bool)
  | nm (n : Int)
  | tx (z : Str)
inductive Kd where
  | F
  | I
  | T
def kS : Kd → Str
  | .F => Str.ofString "flag"
  | .I => Str.ofString "int"
  | .T => Str.ofString "text"
def vV : Val → V
  | .fl b => .bl b
  | .nm n => .int n
  | .tx z => .str z
def vD : Val → PyData
  | .fl b => .bool b
  | .nm n => .int n
  | .tx z => .str z
theorem vV_inj : ∀ {a b : Val}, vV a = vV b → a = b
  | .fl a, .fl b, h => by injection h with h; rw [h]
  | .nm a, .nm b, h => by injection h with h; rw [h]
  | .tx a, .tx b, h => by injection h with h; rw [h]
  | .fl _, .nm _, h => nomatch h
  | .fl _, .tx _, h => nomatch h
  | .nm _, .fl _, h => nomatch h
  | .nm _, .tx _, h => nomatch h
  | .tx _, .fl _, h => nomatch h
  | .tx _, .nm _, h => nomatch h
theorem im_val {H : Hp} : ∀ v : Val, Im H (vV v) (vD v)
  | .fl b => .bl b
  | .nm n => .int n
  | .tx z => .str z
def alph : Str := Str.ofString " !\"#$&'()*+,-./0123456789:;<=>?@ABCDEFGHIJKLMNOPQRSTUVWXYZ[\\]^_`abcdefghijklmnopqrstuvwxyz{|}~"
/-- its signs are of the alphabet -/
def Al (l : List Nat) : Prop := ∀ c ∈ l, c ∈ alph.cps.toList
/-- the values of a kind -/
def VOk : Kd → Val → Prop
  | .F, .fl _ => True
  | .I, .nm n => -1000000000 ≤ n ∧ n ≤ 1000000000
  | .T, .tx z => z.length ≤ 20 ∧ Al z.cps.toList
  | _, _ => False
theorem vok_scal : ∀ {k : Kd} {a b : Val}, VOk k a → VOk k b → scal (vV a) (vV b) = true
  | .F, .fl _, .fl _, _, _ => rfl
  | .I, .nm _, .nm _, _, _ => rfl
  | .T, .tx _, .tx _, _, _ => rfl
  | .F, .nm _, _, h, _ => h.elim
  | .F, .tx _, _, h, _ => h.elim
  | .I, .fl _, _, h, _ => h.elim
  | .I, .tx _, _, h, _ => h.elim
  | .T, .fl _, _, h, _ => h.elim
  | .T, .nm _, _, h, _ => h.elim
  | .F, .fl _, .nm _, _, h => h.elim
  | .F, .fl _, .tx _, _, h => h.elim
  | .I, .nm _, .fl _, _, h => h.elim
  | .I, .nm _, .tx _, _, h => h.elim
  | .T, .tx _, .fl _, _, h => h.elim
  | .T, .tx _, .nm _, _, h => h.elim
theorem vok_I {v : Val} (h : VOk .I v) : ∃ n, v = .nm n ∧ -1000000000 ≤ n ∧ n ≤ 1000000000 := by
  cases v with
  | nm n => exact ⟨n, rfl, h⟩
  | fl _ => exact h.elim
  | tx _ => exact h.elim
theorem vok_T {v : Val} (h : VOk .T v) : ∃ z, v = .tx z ∧ z.length ≤ 20 ∧ Al z.cps.toList := by
  cases v with
  | tx z => exact ⟨z, rfl, h⟩
  | fl _ => exact h.elim
  | nm _ => exact h.elim
/-! ### conversions -/
inductive Cv where
  | aff (a b : Int)
  | una (a b : Int)
  | pre (p : Str)
  | unp (p : Str)
  | rcd (k l : Kd) (ps : List (Val × Val))
def prD3 (p : Val × Val) : PyData := .tuple [vD p.1, vD p.2]
def cD : Cv → PyData
  | .aff a b => .tuple [.str (Str.ofString "affine"), .int a, .int b]
  | .una a b => .tuple [.str (Str.ofString "unaffine"), .int a, .int b]
  | .pre p => .tuple [.str (Str.ofString "prefix"), .str p]
  | .unp p => .tuple [.str (Str.ofString "unprefix"), .str p]
  | .rcd k l ps => .tuple [.str (Str.ofString "recode"), .str (kS k), .str (kS l), .tuple (ps.map prD3)]
def k1 : Cv → Kd
  | .aff _ _ => .I
  | .una _ _ => .I
  | .pre _ => .T
  | .unp _ => .T
  | .rcd k _ _ => k
def k2 : Cv → Kd
  | .aff _ _ => .I
  | .una _ _ => .I
  | .pre _ => .T
  | .unp _ => .T
  | .rcd _ l _ => l
def COk : Cv → Prop
  | .aff a b => a ≠ 0 ∧ -1000 ≤ a ∧ a ≤ 1000 ∧ -1000000 ≤ b ∧ b ≤ 1000000
  | .una a b => a ≠ 0 ∧ -1000 ≤ a ∧ a ≤ 1000 ∧ -1000000 ≤ b ∧ b ≤ 1000000
  | .pre p => 1 ≤ p.length ∧ p.length ≤ 6 ∧ Al p.cps.toList
  | .unp p => 1 ≤ p.length ∧ p.length ≤ 6 ∧ Al p.cps.toList
  | .rcd k l ps => ps.length ≤ 8 ∧ (∀ p ∈ ps, VOk k p.1 ∧ VOk l p.2) ∧ (ps.map (·.1)).Nodup ∧ (ps.map (·.2)).Nodup
def cI : Cv → Cv
  | .aff a b => .una a b
  | .una a b => .aff a b
  | .pre p => .unp p
  | .unp p => .pre p
  | .rcd k l ps => .rcd l k (ps.map fun p => (p.2, p.1))
theorem cI_ok : ∀ {c : Cv}, COk c → COk (cI c)
  | .aff _ _, h => h
  | .una _ _, h => h
  | .pre _, h => h
  | .unp _, h => h
  | .rcd k l ps, ⟨h1, h2, h3, h4⟩ => by
    refine ⟨by rw [List.length_map]; exact h1, fun p m => ?_, ?_, ?_⟩
    · obtain ⟨q, hq, rfl⟩ := List.mem_map.mp m
      exact ⟨(h2 q hq).2, (h2 q hq).1⟩
    · rw [List.map_map]; exact h4
    · rw [List.map_map]; exact h3
theorem cI_k1 : ∀ c : Cv, k1 (cI c) = k2 c
  | .aff _ _ => rfl
  | .una _ _ => rfl
  | .pre _ => rfl
  | .unp _ => rfl
  | .rcd _ _ _ => rfl
theorem cI_k2 : ∀ c : Cv, k2 (cI c) = k1 c
  | .aff _ _ => rfl
  | .una _ _ => rfl
  | .pre _ => rfl
  | .unp _ => rfl
  | .rcd _ _ _ => rfl
open Classical in
noncomputable def look : List (Val × Val) → Val → Option Val
  | [], _ => none
  | p :: ps, v => if p.1 = v then some p.2 else look ps v
def rng (n : Int) : Option Val := if -1000000000 ≤ n ∧ n ≤ 1000000000 then some (.nm n) else none
/-- z begins with p -/
def beg (z p : Str) : Bool := decide (z.cps.toList.take p.length = p.cps.toList)
def cut (z : Str) (n : Nat) : Str := ⟨(z.cps.toList.drop n).toArray⟩
def aB (a : Int) : Int := if a < 0 then -a else a
noncomputable def cvt : Cv → Val → Option Val
  | .aff a b, .nm n => rng (a * n + b)
  | .una a b, .nm n => if (n - b) % aB a = 0 then rng ((n - b).fdiv a) else none
  | .pre p, .tx z => if (p ++ z).length ≤ 20 then some (.tx (p ++ z)) else none
  | .unp p, .tx z => if beg z p = true then some (.tx (cut z p.length)) else none
  | .rcd _ _ ps, v => look ps v
  | _, _ => none
theorem rng_ok {n : Int} {r : Val} (h : rng n = some r) : r = .nm n ∧ -1000000000 ≤ n ∧ n ≤ 1000000000 := by
  unfold rng at h
  split at h
  · rename_i c; exact ⟨(Option.some.inj h).symm, c⟩
  · cases h
theorem look_mem : ∀ {ps : List (Val × Val)} {v r : Val}, look ps v = some r → (v, r) ∈ ps
  | p :: ps, v, r, h => by
    unfold look at h
    by_cases e : p.1 = v
    · rw [if_pos e] at h
      cases h
      rw [← e]
      exact List.mem_cons_self
    · rw [if_neg e] at h
      exact List.mem_cons_of_mem _ (look_mem h)
theorem look_at : ∀ {ps : List (Val × Val)} {v r : Val}, (ps.map (·.1)).Nodup → (v, r) ∈ ps → look ps v = some r
  | p :: ps, v, r, nd, m => by
    unfold look
    rw [List.map_cons, List.nodup_cons] at nd
    rcases List.mem_cons.mp m with m | m
    · rw [← m, if_pos rfl]
    · rw [if_neg (fun e => nd.1 (List.mem_map.mpr ⟨_, m, e.symm⟩))]
      exact look_at nd.2 m
theorem app_tl (a b : Str) : (a ++ b).cps.toList = a.cps.toList ++ b.cps.toList := by
  show (a.cps ++ b.cps).toList = _
  simp
theorem len_tl (a : Str) : a.cps.toList.length = a.length := by
  show a.cps.toList.length = a.cps.size
  rw [Array.length_toList]
theorem str_tl {a b : Str} (h : a.cps.toList = b.cps.toList) : a = b := by
  cases a; cases b
  simp only [Str.mk.injEq]
  exact Array.toList_inj.mp h
theorem beg_app (p z : Str) : beg (p ++ z) p = true := by
  unfold beg
  rw [app_tl, ← len_tl p, List.take_left, decide_eq_true rfl]
theorem cut_app (p z : Str) : cut (p ++ z) p.length = z := by
  refine str_tl ?_
  show ((p ++ z).cps.toList.drop p.length) = _
  rw [app_tl, ← len_tl p, List.drop_left]
theorem beg_cut {z p : Str} (h : beg z p = true) : p ++ cut z p.length = z := by
  refine str_tl ?_
  rw [app_tl, ← of_decide_eq_true h]
  exact List.take_append_drop _ _
theorem cvt_ok {c : Cv} {v r : Val} (hc : COk c) (hv : VOk (k1 c) v) (h : cvt c v = some r) : VOk (k2 c) r := by
  cases c with
  | aff a b =>
    obtain ⟨n, rfl, _⟩ := vok_I hv
    obtain ⟨rfl, x⟩ := rng_ok h
    exact x
  | una a b =>
    obtain ⟨n, rfl, _⟩ := vok_I hv
    change (if _ then _ else _) = _ at h
    split at h
    · obtain ⟨rfl, x⟩ := rng_ok h
      exact x
    · cases h
  | pre p =>
    obtain ⟨z, rfl, l, al⟩ := vok_T hv
    change (if _ then _ else _) = _ at h
    split at h
    · rename_i lz
      cases h
      exact ⟨lz, fun x m => by rw [app_tl, List.mem_append] at m; exact m.elim (hc.2.2 x) (al x)⟩
    · cases h
  | unp p =>
    obtain ⟨z, rfl, l, al⟩ := vok_T hv
    change (if _ then _ else _) = _ at h
    split at h
    · cases h
      refine ⟨?_, fun x m => al x (List.mem_of_mem_drop m)⟩
      rw [← len_tl]
      show (z.cps.toList.drop p.length).length ≤ 20
      rw [List.length_drop, len_tl]; omega
    · cases h
  | rcd k l ps => exact (hc.2.1 _ (look_mem h)).2
theorem abs_mod {a n : Int} (h : n % aB a = 0) : ∃ q, n = a * q := by
  unfold aB at h
  split at h
  · obtain ⟨q, e⟩ := Int.dvd_of_emod_eq_zero h
    exact ⟨-q, by rw [e, Int.neg_mul, Int.mul_neg]⟩
  · obtain ⟨q, e⟩ := Int.dvd_of_emod_eq_zero h
    exact ⟨q, e⟩
theorem mul_mod (a q : Int) : (a * q) % aB a = 0 := by
  unfold aB
  split
  · rw [show a * q = -a * (-q) by rw [Int.neg_mul_neg]]; exact Int.mul_emod_right _ _
  · exact Int.mul_emod_right _ _
theorem cvt_back {c : Cv} {v r : Val} (hc : COk c) (hv : VOk (k1 c) v) (h : cvt c v = some r) : cvt (cI c) r = some v := by
  cases c with
  | aff a b =>
    obtain ⟨n, rfl, n0, n1⟩ := vok_I hv
    obtain ⟨rfl, x⟩ := rng_ok h
    show (if (a * n + b - b) % _ = 0 then rng ((a * n + b - b).fdiv a) else none) = _
    rw [Int.add_sub_cancel, if_pos (mul_mod a n), Int.mul_fdiv_cancel_left _ hc.1]
    exact if_pos ⟨n0, n1⟩
  | una a b =>
    obtain ⟨n, rfl, n0, n1⟩ := vok_I hv
    change (if _ then _ else _) = _ at h
    split at h
    · rename_i d
      obtain ⟨rfl, x⟩ := rng_ok h
      obtain ⟨q, e⟩ := abs_mod d
      show rng (a * (n - b).fdiv a + b) = _
      rw [e, Int.mul_fdiv_cancel_left _ hc.1, ← e, Int.sub_add_cancel]
      exact if_pos ⟨n0, n1⟩
    · cases h
  | pre p =>
    obtain ⟨z, rfl, l, al⟩ := vok_T hv
    change (if _ then _ else _) = _ at h
    split at h
    · cases h
      show (if beg (p ++ z) p = true then some (Val.tx (cut (p ++ z) p.length)) else none) = _
      rw [if_pos (beg_app p z), cut_app]
    · cases h
  | unp p =>
    obtain ⟨z, rfl, l, al⟩ := vok_T hv
    change (if _ then _ else _) = _ at h
    split at h
    · rename_i b
      cases h
      show (if (p ++ cut z p.length).length ≤ 20 then some (Val.tx (p ++ cut z p.length)) else none) = _
      rw [beg_cut b, if_pos l]
    · cases h
  | rcd k l ps =>
    refine look_at ?_ ?_
    · rw [List.map_map]; exact hc.2.2.2
    · exact List.mem_map.mpr ⟨_, look_mem h, rfl⟩
/-! ### lists of conversions -/
noncomputable def thr : List Cv → Val → Option Val
  | [], v => some v
  | c :: cs, v => (cvt c v).bind (thr cs)
def Chn : Kd → List Cv → Kd → Prop
  | k, [], l => k = l
  | k, c :: cs, l => COk c ∧ k1 c = k ∧ Chn (k2 c) cs l
theorem thr_app : ∀ (cs ds : List Cv) (v : Val), thr (cs ++ ds) v = (thr cs v).bind (thr ds)
  | [], _, _ => rfl
  | c :: cs, ds, v => by
    show (cvt c v).bind (thr (cs ++ ds)) = ((cvt c v).bind (thr cs)).bind (thr ds)
    cases cvt c v with
    | none => rfl
    | some r => exact thr_app cs ds r
theorem chn_app : ∀ {cs ds : List Cv} {k l m : Kd}, Chn k cs l → Chn l ds m → Chn k (cs ++ ds) m
  | [], _, _, _, _, h, g => by cases h; exact g
  | _ :: _, _, _, _, _, h, g => ⟨h.1, h.2.1, chn_app h.2.2 g⟩
theorem chn_back : ∀ {cs : List Cv} {k l : Kd}, Chn k cs l → Chn l (cs.reverse.map cI) k
  | [], _, _, h => h.symm
  | c :: cs, k, l, h => by
    rw [List.reverse_cons, List.map_append]
    refine chn_app (chn_back h.2.2) ⟨cI_ok h.1, cI_k1 c, ?_⟩
    exact (cI_k2 c).trans h.2.1
theorem thr_ok : ∀ {cs : List Cv} {k l : Kd} {v r : Val}, Chn k cs l → VOk k v → thr cs v = some r → VOk l r
  | [], _, _, _, _, h, hv, e => by cases h; cases e; exact hv
  | c :: cs, k, l, v, r, h, hv, e => by
    change (cvt c v).bind (thr cs) = some r at e
    have hv' : VOk (k1 c) v := h.2.1 ▸ hv
    cases q : cvt c v with
    | none => rw [q] at e; cases e
    | some u =>
      rw [q] at e
      exact thr_ok h.2.2 (cvt_ok h.1 hv' q) e
theorem thr_back : ∀ {cs : List Cv} {k l : Kd} {v r : Val}, Chn k cs l → VOk k v → thr cs v = some r → thr (cs.reverse.map cI) r = some v
  | [], _, _, _, _, h, hv, e => by cases h; cases e; rfl
  | c :: cs, k, l, v, r, h, hv, e => by
    change (cvt c v).bind (thr cs) = some r at e
    have hv' : VOk (k1 c) v := h.2.1 ▸ hv
    cases q : cvt c v with
    | none => rw [q] at e; cases e
    | some u =>
      rw [q] at e
      rw [List.reverse_cons, List.map_append, thr_app, thr_back h.2.2 (cvt_ok h.1 hv' q) e]
      show (cvt (cI c) u).bind (thr []) = _
      rw [cvt_back h.1 hv' q]
      rfl
end Zk

set_option Elab.async false
set_option linter.all false
set_option maxRecDepth 100000
set_option maxHeartbeats 4000000
namespace Zk
open PySem PySem.Spec L2
open PyProof.Rows hiding St

def rStarts : V → List V → Hp → VK → Prop := fun x xs H Q => ∃ a b, x = .str a ∧ xs = [.str b] ∧ Q (.bl (Txt.startswith a b)) H
def cAbs : RC := fun xs H Q => ∃ i, xs = [.int i] ∧ Q (.int (if i < 0 then -i else i)) H
def cListL (K : PySem.W.Frag) : RC := fun xs H Q => ∃ p ys, xs = [.ref p] ∧ (SqL K H p ys ∨ SqT K H p ys) ∧ Alc (.lst ys) H Q
section
variable {X : Cx}
theorem zmt_starts : MtR X "str.startswith" rStarts := mt_startswith
theorem zc_abs : CallR X (.builtin "abs") cAbs := call_abs
theorem zc_list : CallR X (.type "list") (cListL X.K) := call_list_of
theorem zop_notInS : OpR X (compareOp .NotIn) rNotInS := op_notInS
theorem pg_tupK {K : PySem.W.Frag} {es : List Expr} {k : Nat} {t : TGs} {n : Nat} {pos : Pos} (e : X.K = K) (hc : X.calm = true) (h : PGs X es t)
    (hn : (assignEach es X.env).length = n := by rfl) (hst : (assignEach es X.env).findIdx? (·.1) = none := by rfl) : PG X (.Tuple es k pos) (gTup K n t) := e ▸ pg_tup hc h hn hst
end
section
variable {K : PySem.W.Frag} {σ : St} {H : Hp} {Q : VK} {a : Addr} {v x y : V} {te ta tb tc : TE} {rt : VK} {nx : St → Hp → Prop} {t : TS} {tt : TT}
theorem w_starts {p z : Str} (q : Q (.bl (Txt.startswith z p)) H) : rStarts (.str z) [.str p] H Q := ⟨z, p, rfl, rfl, q⟩
theorem w_abs {i : Int} (q : Q (.int (aB i)) H) : cAbs [.int i] H Q := ⟨i, rfl, q⟩
theorem w_listL {ys : List V} (h : SqL K H a ys) (q : Alc (.lst ys) H Q) : cListL K [.ref a] H Q := ⟨a, ys, rfl, .inl h, q⟩
theorem w_lenS {z : Str} (h : z.length ≤ sizeLine) (q : Q (.int (z.length : Int)) H) : cLen K [.str z] H Q := ⟨.str z, z.length, rfl, ⟨h, rfl⟩, q⟩
theorem w_slice {r : V → Option Int → Option Int → Hp → VK → Prop} {tl th : TO} (h : te σ H fun x H1 => tl σ H1 fun l H2 => th σ H2 fun u H3 => r x l u H3 Q) : L2.tSl r te tl th σ H Q := h
theorem w_noPart {P : Option Int → Hp → Prop} (q : P none H) : tNoPart σ H P := q
theorem w_slS {z : Str} {lo hi : Option Int} (l : z.length ≤ sizeLine) (q : Q (.str (cutS z lo hi)) H) : rSlS (.str z) lo hi H Q := ⟨z, rfl, l, q⟩
theorem w_chain {r r' : R2} (h : ta σ H fun x H1 => tb σ H1 fun y H2 => r x y H2 fun z H3 => ∃ k, z = .bl k ∧ (if k = true then tc σ H3 fun w' H4 => r' y w' H4 Q else Q (.bl false) H3)) : tChain r r' ta tb tc σ H Q := h
theorem w_notInC {c : Nat} {z : Str} (q : Q (.bl (!decide (c ∈ z.cps.toList))) H) : rNotInS (.str ⟨#[c]⟩) (.str z) H Q := ⟨c, z, rfl, rfl, q⟩
theorem aB_pos {i : Int} (h : i ≠ 0) : 0 < aB i := by unfold aB; split <;> omega
theorem starts_beg (z p : Str) : Txt.startswith z p = beg z p := by
  have e : Txt.startswith z p = (decide (0 + p.length ≤ z.length) && Builtin.Str.subAt z p 0) := rfl
  rw [e, StrLaws.subAt_eq, List.drop_zero]
  unfold beg
  by_cases h : z.cps.toList.take p.length = p.cps.toList
  · have l : p.length ≤ z.length := by
      have := congrArg List.length h
      rw [List.length_take, len_tl, len_tl] at this
      omega
    rw [decide_eq_true h, decide_eq_true (by omega), h]
    simp
  · rw [decide_eq_false h]
    have : (z.cps.toList.take p.length == p.cps.toList) = false := by simpa using h
    rw [this, Bool.and_false]
theorem cutS_tl (z : Str) (lo hi : Option Int) : (cutS z lo hi).cps.toList = (z.cps.toList.drop (HT.sIx z.length 0 lo)).take (HT.sIx z.length z.length hi - HT.sIx z.length 0 lo) := rfl
theorem cutS_from (z : Str) (n : Nat) : cutS z (some (n : Int)) none = cut z n := by
  refine str_tl ?_
  rw [cutS_tl]
  show _ = z.cps.toList.drop n
  rw [HT.sIx_nat, HT.sIx_none, ← len_tl]
  by_cases h : n ≤ z.cps.toList.length
  · rw [Nat.min_eq_left h]
    refine List.take_of_length_le ?_
    rw [List.length_drop]
    exact Nat.le_refl _
  · rw [Nat.min_eq_right (by omega), List.drop_eq_nil_of_le (Nat.le_refl _), List.drop_eq_nil_of_le (by omega), List.take_nil]
theorem cutS_to_eq (z p : Str) : decide (cutS z none (some (p.length : Int)) = p) = beg z p := by
  have e : (cutS z none (some (p.length : Int))).cps.toList = z.cps.toList.take p.length := by
    rw [cutS_tl, HT.sIx_nat, HT.sIx_none, List.drop_zero, Nat.sub_zero, ← len_tl z, List.take_eq_take_iff]
    omega
  unfold beg
  rw [← e]
  by_cases h : cutS z none (some (p.length : Int)) = p
  · rw [decide_eq_true h, decide_eq_true (by rw [h])]
  · rw [decide_eq_false h, decide_eq_false (fun q => h (str_tl q))]
theorem cutS_al {z : Str} {lo hi : Option Int} (h : Al z.cps.toList) : Al (cutS z lo hi).cps.toList := fun c m => by
  rw [cutS_tl] at m
  exact h c (List.mem_of_mem_drop (List.mem_of_mem_take m))
theorem cutS_to_len (z : Str) (n : Int) (h : 0 ≤ n) : (cutS z none (some n)).length ≤ n.toNat := by
  rw [← len_tl, cutS_tl, List.length_take, HT.sIx_none]
  obtain ⟨k, rfl⟩ := Int.eq_ofNat_of_zero_le h
  have : HT.sIx z.length z.length (some (k : Int)) = min k z.length := HT.sIx_nat _ _ _
  rw [this]
  have : ((k : Int)).toNat = k := by omega
  rw [this]
  omega
/-! reversed walks over a list -/
theorem w_iRev {tl : TA} {R : It → Hp → Prop} (h : tl σ H fun vs H1 => ∃ a xs, vs = [V.ref a] ∧ SqL K H1 a xs ∧ R (Itv K a xs.length) H1) : iRev K tl σ H R := h
theorem z_for_rev {xs : List V} {g : TG} (Pv : Nat → St → Hp → Prop) (h0 : Pv 0 σ H) (hl : ∀ i σ H, i ≤ xs.length → Pv i σ H → SqL K H a xs)
    (hs : ∀ (N : St → Hp → Prop) i x σ H, xs.reverse[i]? = some x → Pv i σ H → (∀ σ' H', Pv (i + 1) σ' H' → N σ' H') → g x σ H fun σ2 H2 => t ⟨N, rt, nx, N⟩ σ2 H2) (hd : ∀ σ H, Pv xs.length σ H → nx σ H) :
    ∃ W : Nat → Nat → St → Hp → Prop, (∃ m, W 0 m σ H) ∧ ∀ i m σ H, W i m σ H →
      ((Itv K a xs.length).stop i H ∧ nx σ H) ∨ ((Itv K a xs.length).go i H ∧ ∃ N : St → Hp → Prop, (∀ σ' H', N σ' H' → ∃ m', m' < m ∧ W (i + 1) m' σ' H') ∧ ∀ x H', (Itv K a xs.length).yld i H x H' → g x σ H' fun σ2 H2 => t ⟨N, rt, nx, N⟩ σ2 H2) := by
  refine ⟨fun i m σ H => m = xs.length - i ∧ i ≤ xs.length ∧ Pv i σ H, ⟨_, rfl, Nat.zero_le _, h0⟩, ?_⟩
  rintro i m σ H ⟨rfl, hi, p⟩
  by_cases hlt : i < xs.length
  · have hx : xs[xs.length - 1 - i]? = some xs[xs.length - 1 - i] := List.getElem?_eq_getElem (by omega)
    refine .inr ⟨⟨hlt, xs, _, hl i σ H hi p, hx⟩, Pv (i + 1), fun σ' H' p' => ⟨xs.length - (i + 1), by omega, rfl, hlt, p'⟩, fun x H' y => ?_⟩
    obtain ⟨e, hy⟩ := y
    subst e
    have h1 := hy xs (hl i σ _ hi p)
    exact hs (Pv (i + 1)) i x σ _ (by rw [List.getElem?_reverse hlt]; exact h1) p fun _ _ q => q
  · have e : i = xs.length := by omega
    subst e
    exact .inl ⟨Nat.le_refl _, hd σ H p⟩
theorem z_lc_rev {xs : List V} {g : TG} {vs : List Nat} {D : Addr} {Qd : Hp → Prop} (Pv : Nat → List V → Hp → Prop) (nD : H D = none) (h0 : ∀ H', Ext [] H H' → Pv 0 [] H') (hl : ∀ i acc H, i ≤ xs.length → Pv i acc H → SqL K H a xs)
    (hs : ∀ (Nx : Hp → Prop) i x acc H, xs.reverse[i]? = some x → Pv i acc H → H D = some (.lst acc) → (∀ acc' H', Pv (i + 1) acc' H' → H' D = some (.lst acc') → Nx H') → g x (wipe σ vs) H fun σ2 H2 => wipe σ2 vs = wipe σ vs ∧ tt σ2 H2 fun b H3 =>
      if b = true then te σ2 H3 fun y H4 => ∃ acc, H4 D = some (.lst acc) ∧ acc.length < sizeLine ∧ Nx (upd H4 D (.lst (acc ++ [y]))) else Nx H3) (hd : ∀ acc H, Pv xs.length acc H → H D = some (.lst acc) → Qd H) :
    ∃ W : Nat → Nat → Hp → Prop, (∃ m, W 0 m (upd H D (.lst []))) ∧ ∀ i m H, W i m H →
      ((Itv K a xs.length).stop i H ∧ Qd H) ∨ ((Itv K a xs.length).go i H ∧ ∃ Nx : Hp → Prop, (∀ H', Nx H' → ∃ m', m' < m ∧ W (i + 1) m' H') ∧ ∀ x H', (Itv K a xs.length).yld i H x H' → g x (wipe σ vs) H' fun σ2 H2 => wipe σ2 vs = wipe σ vs ∧ tt σ2 H2 fun b H3 =>
        if b = true then te σ2 H3 fun y H4 => ∃ acc, H4 D = some (.lst acc) ∧ acc.length < sizeLine ∧ Nx (upd H4 D (.lst (acc ++ [y]))) else Nx H3) := by
  refine ⟨fun i m H => m = xs.length - i ∧ i ≤ xs.length ∧ ∃ acc, Pv i acc H ∧ H D = some (.lst acc), ⟨_, rfl, Nat.zero_le _, [], h0 _ (Ext.new nD), upd_same⟩, ?_⟩
  rintro i m H ⟨rfl, hi, acc, p, hD⟩
  by_cases hlt : i < xs.length
  · have hx : xs[xs.length - 1 - i]? = some xs[xs.length - 1 - i] := List.getElem?_eq_getElem (by omega)
    refine .inr ⟨⟨hlt, xs, _, hl i acc H hi p, hx⟩, (fun H => ∃ acc, Pv (i + 1) acc H ∧ H D = some (.lst acc)), fun H' p' => ⟨xs.length - (i + 1), by omega, rfl, hlt, p'⟩, fun x H' y => ?_⟩
    obtain ⟨e, hy⟩ := y
    subst e
    have h1 := hy xs (hl i acc _ hi p)
    exact hs _ i x acc _ (by rw [List.getElem?_reverse hlt]; exact h1) p hD fun acc' H' p' h' => ⟨acc', p', h'⟩
  · have e : i = xs.length := by omega
    subst e
    exact .inl ⟨Nat.le_refl _, hd acc H p hD⟩
/-! what is told the same: data of one form, lists of such -/
def Sl : Nat → Hp → V → V → Prop
  | 0, _, _, _ => False
  | n + 1, H, a, b => (∃ d, d.depth ≤ n ∧ Im H a d ∧ Im H b d) ∨ (∃ p q xs ys, a = .ref p ∧ b = .ref q ∧ H p = some (.lst xs) ∧ H q = some (.lst ys) ∧ xs.length ≤ 1000 ∧ Paired (Sl n H) xs ys)
theorem dAll_mem {d : PyData} : ∀ {ds : List PyData}, d ∈ ds → d.depth ≤ PyData.depthAll ds
  | x :: xs, h => by
    rw [PyData.depthAll]
    rcases List.mem_cons.mp h with h | h
    · rw [h]; exact Nat.le_max_left _ _
    · exact Nat.le_trans (dAll_mem h) (Nat.le_max_right _ _)
theorem d_tup (ds : List PyData) : (PyData.tuple ds).depth = PyData.depthAll ds + 1 := by rw [PyData.depth]
theorem Sl.im {n : Nat} {H : Hp} {a b : V} {d : PyData} (l : d.depth < n) (h : Im H a d) (k : Im H b d) : Sl n H a b := by
  cases n with
  | zero => omega
  | succ n => exact .inl ⟨d, by omega, h, k⟩
theorem Sl.ext {H H' : Hp} (e : Ext [] H H') : ∀ {n : Nat} {a b : V}, Sl n H a b → Sl n H' a b
  | 0, _, _, h => h
  | n + 1, a, b, h => by
    rcases h with ⟨d, l, i, j⟩ | ⟨p, q, xs, ys, rfl, rfl, hp, hq, lz, w⟩
    · exact .inl ⟨d, l, i.ext e, j.ext e⟩
    · exact .inr ⟨p, q, xs, ys, rfl, rfl, e.keep _ _ hp List.not_mem_nil, e.keep _ _ hq List.not_mem_nil, lz, Paired.mapP w fun _ _ z => Sl.ext e z⟩
theorem im_at0 {H : Hp} {a : Addr} {xs : List V} {ds : List PyData} (h : H a = some (.tup xs)) (i : Im H (.ref a) (.tuple ds)) : ImAll H xs ds := by
  cases i with
  | tup h' _ k => rw [h] at h'; cases h'; exact k
end
end Zk

set_option Elab.async false
set_option linter.all false
set_option maxRecDepth 100000
set_option maxHeartbeats 8000000
namespace Law
open PySem PySem.Spec L2 Zk
open PyProof.Rows hiding St
local macro_rules | `(tactic| walk_at "ne") => `(tactic| first
  | assumption
  | exact Ne.symm (by assumption)
  | (refine ne_of_none (H := ?zg) (o := ?zo) ?zh ?zn; (case zn => assumption); (case zh => walk_at "hold"))
  | (refine Ne.symm (ne_of_none (H := ?zg) (o := ?zo) ?zh ?zn); (case zn => assumption); (case zh => walk_at "hold")))
local macro_rules | `(tactic| walk_at "nm") => `(tactic| first
  | exact List.not_mem_nil
  | (refine nm1 ?_; walk_at "ne")
  | (refine nm2 ?_ ?_ <;> walk_at "ne")
  | assumption)
local macro_rules | `(tactic| walk_at "hold") => `(tactic| first
  | assumption
  | (refine Ext.get (M := ?em) (H := ?eg) ?ek ?eh ?en; (case ek => assumption); (case eh => walk_at "hold"); (case en => first | exact Or.inr trivial | (refine Or.inl ?_; walk_at "nm")))
  | (refine sql ?_; walk_at "hold")
  | (refine sqt ?_; walk_at "hold")
  | (refine Scr.ext (M := ?em) (H := ?eg) ?ek ?eh; (case ek => assumption); (case eh => walk_at "hold"))
  | (refine Scr.sql ?_; walk_at "hold"))
local macro_rules | `(tactic| walk_at "go1") => `(tactic| first
  | (with_reducible refine w_seq ?_)
  | (with_reducible refine w_asg ?_)
  | (with_reducible refine w_gname ?_)
  | (with_reducible refine w_op ?_)
  | ((with_reducible refine w_var (v := ?zw) ?zv ?_); (case zv => exact rfl))
  | (with_reducible refine w_c ?_)
  | (with_reducible refine w_I0 ?_)
  | (with_reducible refine w_test ?_)
  | (with_reducible refine w_bl ?_)
  | (with_reducible refine w_eqI ?_)
  | (with_reducible refine w_neI ?_)
  | (with_reducible refine w_cb ?_)
  | (with_reducible refine w_cons ?_)
  | (with_reducible refine w_nil ?_)
  | (with_reducible refine w_int ?_)
  | (with_reducible refine w_call ?_)
  | (with_reducible refine w_ret ?_)
  | ((with_reducible refine w_I ?zc ?_); (case zc => first | exact Or.inr ⟨by decide, by decide⟩ | exact Or.inl ⟨by decide, by decide⟩ | (show (0 : Int) < _; first | decide | omega) | exact ⟨by decide, by decide⟩ | (show CPow _ _; exact ⟨by decide, by decide, by decide⟩) | (refine wide_mul (a := 200) (b := 200) ?_ ?_ (by decide) (by decide) (by decide) <;> omega)))
  | ((with_reducible refine w_ixL (xs := ?zx) (v := ?zw) ?zh ?ze ?_); (case zh => walk_at "hold"); (case ze => first | exact rfl | assumption))
  | ((with_reducible refine w_ixT (xs := ?zx) (v := ?zw) ?zh ?ze ?_); (case zh => walk_at "hold"); (case ze => first | exact rfl | assumption))
  | ((with_reducible refine w_lenL (xs := ?zx) ?zh ?_); (case zh => walk_at "hold"))
  | ((with_reducible refine w_lenT (xs := ?zx) ?zh ?_); (case zh => walk_at "hold"))
  | ((with_reducible refine w_lenD (kvs := ?zx) ?zh ?_); (case zh => walk_at "hold"))
  | (with_reducible refine w_gsub ?_)
  | ((with_reducible refine w_setL (xs := ?zx) (j := ?zj) ?zh ?ze ?_); (case zh => walk_at "hold"); (case ze => first | exact rfl | assumption))
  | (with_reducible refine w_and ?_)
  | (with_reducible refine w_or ?_)
  | (with_reducible refine w_not ?_)
  | (with_reducible refine w_tB ?_)
  | (with_reducible refine w_andV ?_)
  | (with_reducible refine w_orV ?_)
  | (with_reducible refine w_notV ?_)
  | (with_reducible refine w_next ?_)
  | (with_reducible refine w_drop ?_)
  | (with_reducible refine w_retN ?_)
  | (with_reducible refine w_tup ?_)
  | (with_reducible refine w_lst ?_)
  | (with_reducible refine w_un ?_)
  | (with_reducible refine w_rU ?_)
  | (with_reducible refine w_eqS ?_)
  | (with_reducible refine w_neS ?_)
  | (with_reducible refine w_isN ?_)
  | (with_reducible refine w_isNt ?_)
  | (with_reducible refine w_isB ?_)
  | (with_reducible refine w_ltS ?_)
  | (with_reducible refine w_dnewK ?_)
  | (with_reducible refine w_dnewT ?_)
  | (with_reducible refine w_break ?_)
  | (with_reducible refine w_cont ?_)
  | (with_reducible refine w_dget ?_)
  | (with_reducible refine w_din ?_)
  | (with_reducible refine w_dnotin ?_)
  | (with_reducible refine w_yes ?_)
  | (with_reducible refine w_m1 ?_)
  | (with_reducible refine w_gcons ?_)
  | (with_reducible refine w_gnil ?_)
  | (with_reducible refine w_sdput ?_)
  | ((with_reducible refine w_gtup (xs := ?zx) ?zh ?zl ?_); (case zh => walk_at "hold"); (case zl => exact rfl))
  | (with_reducible refine w_bm ?_)
  | (with_reducible refine w_bm0 ?_)
  | ((with_reducible refine w_tyL (xs := ?zx) ?zh ?_); (case zh => walk_at "hold"))
  | (with_reducible refine w_lc ?_)
  | (with_reducible refine w_for ?_)
  | (with_reducible refine w_str ?_)
  | (with_reducible refine w_iList ?_)
  | (with_reducible refine w_iTup ?_)
  | (with_reducible refine w_iRng1 ?_)
  | (with_reducible refine w_iRng2 ?_)
  | (with_reducible refine w_iStr ?_)
  | (with_reducible refine iteT ?_)
  | (with_reducible refine iteF ?_)
  | (with_reducible refine iteNF ?_)
  | (with_reducible refine iteNT ?_))
local macro_rules | `(tactic| walk_at "go") => `(tactic| repeat walk_at "go1")
local macro_rules | `(tactic| walk_at "goa") => `(tactic| repeat (first
  | ((with_reducible refine w_modA ?zc ?_); (case zc => first | decide | omega); (intro r r0 r1))
  | walk_at "go1"))
local macro_rules | `(tactic| walk_at "if") => `(tactic| ((with_reducible refine w_ifS ?_); walk_at "go"))
local macro_rules | `(tactic| walk_at "ife") => `(tactic| ((with_reducible refine w_if ?_); walk_at "go"))
def topS (i : Nat) : Stmt := PySem.Challenge.pw_storelife_k03_conversions.main.body.getD i (.Pass ⟨0, 0, 0, 0⟩)
abbrev s_is_text : Stmt := topS 4
theorem sc_is_text : FnScope ["value", "char"] ["value"] (defScope s_is_text) := ⟨rfl, rfl, rfl, by decide +kernel, rfl, by decide +kernel, by decide +kernel⟩
abbrev s_is_value : Stmt := topS 5
theorem sc_is_value : FnScope ["kind", "value"] ["kind", "value"] (defScope s_is_value) := ⟨rfl, rfl, rfl, by decide +kernel, rfl, by decide +kernel, by decide +kernel⟩
abbrev s_checked : Stmt := topS 7
theorem sc_checked : FnScope ["kind", "value"] ["kind", "value"] (defScope s_checked) := ⟨rfl, rfl, rfl, by decide +kernel, rfl, by decide +kernel, by decide +kernel⟩
abbrev s_recoded : Stmt := topS 8
theorem sc_recoded : FnScope ["pairs", "value", "left", "right"] ["pairs", "value"] (defScope s_recoded) := ⟨rfl, rfl, rfl, by decide +kernel, rfl, by decide +kernel, by decide +kernel⟩
abbrev s_convert : Stmt := topS 9
theorem sc_convert : FnScope ["conversion", "value", "word", "shifted"] ["conversion", "value"] (defScope s_convert) := ⟨rfl, rfl, rfl, by decide +kernel, rfl, by decide +kernel, by decide +kernel⟩
abbrev s_inverse : Stmt := topS 10
theorem sc_inverse : FnScope ["conversion", "word", "pairs", "left", "right"] ["conversion"] (defScope s_inverse) := ⟨rfl, rfl, rfl, by decide +kernel, rfl, by decide +kernel, by decide +kernel⟩
abbrev s_conversion_kinds : Stmt := topS 11
theorem sc_conversion_kinds : FnScope ["conversion", "word"] ["conversion"] (defScope s_conversion_kinds) := ⟨rfl, rfl, rfl, by decide +kernel, rfl, by decide +kernel, by decide +kernel⟩
abbrev s_convert_through : Stmt := topS 12
theorem sc_convert_through : FnScope ["conversions", "value", "conversion"] ["conversions", "value"] (defScope s_convert_through) := ⟨rfl, rfl, rfl, by decide +kernel, rfl, by decide +kernel, by decide +kernel⟩
abbrev s_inverse_list : Stmt := topS 13
theorem sc_inverse_list : FnScope ["conversions", "conversion"] ["conversions"] (defScope s_inverse_list) := ⟨rfl, rfl, rfl, by decide +kernel, rfl, by decide +kernel, by decide +kernel⟩
abbrev s_law_mixed : Stmt := topS 15
theorem sc_law_mixed : FnScope ["number", "place", "first", "second", "third"] ["number", "place"] (defScope s_law_mixed) := ⟨rfl, rfl, rfl, by decide +kernel, rfl, by decide +kernel, by decide +kernel⟩
abbrev s_law_rest : Stmt := topS 16
theorem sc_law_rest : FnScope ["script", "place", "fills", "number"] ["script", "place", "fills"] (defScope s_law_rest) := ⟨rfl, rfl, rfl, by decide +kernel, rfl, by decide +kernel, by decide +kernel⟩
abbrev s_law_pool : Stmt := topS 17
theorem sc_law_pool : FnScope ["script"] ["script"] (defScope s_law_pool) := ⟨rfl, rfl, rfl, by decide +kernel, rfl, by decide +kernel, by decide +kernel⟩
abbrev s_law_next : Stmt := topS 18
theorem sc_law_next : FnScope ["pool"] ["pool"] (defScope s_law_next) := ⟨rfl, rfl, rfl, by decide +kernel, rfl, by decide +kernel, by decide +kernel⟩
abbrev s_law_draw : Stmt := topS 19
theorem sc_law_draw : FnScope ["pool", "limit", "value"] ["pool", "limit"] (defScope s_law_draw) := ⟨rfl, rfl, rfl, by decide +kernel, rfl, by decide +kernel, by decide +kernel⟩
abbrev s_law_pick : Stmt := topS 20
theorem sc_law_pick : FnScope ["pool", "options"] ["pool", "options"] (defScope s_law_pick) := ⟨rfl, rfl, rfl, by decide +kernel, rfl, by decide +kernel, by decide +kernel⟩
abbrev s_law_conv : Stmt := topS 21
theorem sc_law_conv : FnScope ["conversion", "value", "word", "left", "right", "size"] ["conversion", "value"] (defScope s_law_conv) := ⟨rfl, rfl, rfl, by decide +kernel, rfl, by decide +kernel, by decide +kernel⟩
abbrev s_law_inverse : Stmt := topS 22
theorem sc_law_inverse : FnScope ["conversion", "pairs", "left", "right"] ["conversion"] (defScope s_law_inverse) := ⟨rfl, rfl, rfl, by decide +kernel, rfl, by decide +kernel, by decide +kernel⟩
abbrev s_law_through : Stmt := topS 23
theorem sc_law_through : FnScope ["conversions", "value", "conversion"] ["conversions", "value"] (defScope s_law_through) := ⟨rfl, rfl, rfl, by decide +kernel, rfl, by decide +kernel, by decide +kernel⟩
abbrev s_law_against : Stmt := topS 24
theorem sc_law_against : FnScope ["conversions", "value", "conversion"] ["conversions", "value"] (defScope s_law_against) := ⟨rfl, rfl, rfl, by decide +kernel, rfl, by decide +kernel, by decide +kernel⟩
abbrev s_law_same : Stmt := topS 25
theorem sc_law_same : FnScope ["answer", "due", "key", "k"] ["answer", "due"] (defScope s_law_same) := ⟨rfl, rfl, rfl, by decide +kernel, rfl, by decide +kernel, by decide +kernel⟩
abbrev s_law_text : Stmt := topS 26
theorem sc_law_text : FnScope ["pool", "size", "wide", "signs", "place"] ["pool", "size", "wide"] (defScope s_law_text) := ⟨rfl, rfl, rfl, by decide +kernel, rfl, by decide +kernel, by decide +kernel⟩
abbrev s_law_value : Stmt := topS 27
theorem sc_law_value : FnScope ["pool", "kind", "way"] ["pool", "kind"] (defScope s_law_value) := ⟨rfl, rfl, rfl, by decide +kernel, rfl, by decide +kernel, by decide +kernel⟩
abbrev s_law_recode : Stmt := topS 28
theorem sc_law_recode : FnScope ["pool", "start", "end", "lefts", "rights", "k", "left", "right"] ["pool", "start", "end"] (defScope s_law_recode) := ⟨rfl, rfl, rfl, by decide +kernel, rfl, by decide +kernel, by decide +kernel⟩
abbrev s_law_conversion : Stmt := topS 29
theorem sc_law_conversion : FnScope ["pool", "kind", "way", "wide", "size", "a", "b"] ["pool", "kind"] (defScope s_law_conversion) := ⟨rfl, rfl, rfl, by decide +kernel, rfl, by decide +kernel, by decide +kernel⟩
abbrev s_law_kinds : Stmt := topS 30
theorem sc_law_kinds : FnScope ["conversion"] ["conversion"] (defScope s_law_kinds) := ⟨rfl, rfl, rfl, by decide +kernel, rfl, by decide +kernel, by decide +kernel⟩
abbrev s_law_tries : Stmt := topS 31
theorem sc_law_tries : FnScope ["pool", "conversion", "kind", "value", "begin", "size", "rest", "near", "end", "middle", "one", "left", "right"] ["pool", "conversion"] (defScope s_law_tries) := ⟨rfl, rfl, rfl, by decide +kernel, rfl, by decide +kernel, by decide +kernel⟩
abbrev s_law_one : Stmt := topS 32
theorem sc_law_one : FnScope ["pool", "conversion", "kinds", "back", "value", "due", "k"] ["pool", "conversion"] (defScope s_law_one) := ⟨rfl, rfl, rfl, by decide +kernel, rfl, by decide +kernel, by decide +kernel⟩
abbrev s_law : Stmt := topS 33
theorem sc_law : FnScope ["script", "pool", "first", "kind", "conversions", "k", "backs", "passed", "tries", "value", "due", "conversion"] ["script"] (defScope s_law) := ⟨rfl, rfl, rfl, by decide +kernel, rfl, by decide +kernel, by decide +kernel⟩
structure Txt (K : PySem.W.Frag) (mg : Str → Option Value) where
  f_is_text : Addr
  d_is_text : FuncData
  F_is_text : L2.Fun K "is_text" "is_text" s_is_text f_is_text d_is_text
  g_is_text : mg "is_text" = some (.ref f_is_text)
  k_is_text : Binds K d_is_text ["value"] []
  f_is_value : Addr
  d_is_value : FuncData
  F_is_value : L2.Fun K "is_value" "is_value" s_is_value f_is_value d_is_value
  g_is_value : mg "is_value" = some (.ref f_is_value)
  k_is_value : Binds K d_is_value ["kind", "value"] []
  f__checked : Addr
  d__checked : FuncData
  F__checked : L2.Fun K "_checked" "_checked" s_checked f__checked d__checked
  g__checked : mg "_checked" = some (.ref f__checked)
  k__checked : Binds K d__checked ["kind", "value"] []
  f__recoded : Addr
  d__recoded : FuncData
  F__recoded : L2.Fun K "_recoded" "_recoded" s_recoded f__recoded d__recoded
  g__recoded : mg "_recoded" = some (.ref f__recoded)
  k__recoded : Binds K d__recoded ["pairs", "value"] []
  f_convert : Addr
  d_convert : FuncData
  F_convert : L2.Fun K "convert" "convert" s_convert f_convert d_convert
  g_convert : mg "convert" = some (.ref f_convert)
  k_convert : Binds K d_convert ["conversion", "value"] []
  f_inverse : Addr
  d_inverse : FuncData
  F_inverse : L2.Fun K "inverse" "inverse" s_inverse f_inverse d_inverse
  g_inverse : mg "inverse" = some (.ref f_inverse)
  k_inverse : Binds K d_inverse ["conversion"] []
  f_conversion_kinds : Addr
  d_conversion_kinds : FuncData
  F_conversion_kinds : L2.Fun K "conversion_kinds" "conversion_kinds" s_conversion_kinds f_conversion_kinds d_conversion_kinds
  g_conversion_kinds : mg "conversion_kinds" = some (.ref f_conversion_kinds)
  k_conversion_kinds : Binds K d_conversion_kinds ["conversion"] []
  f_convert_through : Addr
  d_convert_through : FuncData
  F_convert_through : L2.Fun K "convert_through" "convert_through" s_convert_through f_convert_through d_convert_through
  g_convert_through : mg "convert_through" = some (.ref f_convert_through)
  k_convert_through : Binds K d_convert_through ["conversions", "value"] []
  f_inverse_list : Addr
  d_inverse_list : FuncData
  F_inverse_list : L2.Fun K "inverse_list" "inverse_list" s_inverse_list f_inverse_list d_inverse_list
  g_inverse_list : mg "inverse_list" = some (.ref f_inverse_list)
  k_inverse_list : Binds K d_inverse_list ["conversions"] []
  f__law_mixed : Addr
  d__law_mixed : FuncData
  F__law_mixed : L2.Fun K "_law_mixed" "_law_mixed" s_law_mixed f__law_mixed d__law_mixed
  g__law_mixed : mg "_law_mixed" = some (.ref f__law_mixed)
  k__law_mixed : Binds K d__law_mixed ["number", "place"] []
  f__law_rest : Addr
  d__law_rest : FuncData
  F__law_rest : L2.Fun K "_law_rest" "_law_rest" s_law_rest f__law_rest d__law_rest
  g__law_rest : mg "_law_rest" = some (.ref f__law_rest)
  k__law_rest : Binds K d__law_rest ["script", "place", "fills"] []
  f__law_pool : Addr
  d__law_pool : FuncData
  F__law_pool : L2.Fun K "_law_pool" "_law_pool" s_law_pool f__law_pool d__law_pool
  g__law_pool : mg "_law_pool" = some (.ref f__law_pool)
  k__law_pool : Binds K d__law_pool ["script"] []
  f__law_next : Addr
  d__law_next : FuncData
  F__law_next : L2.Fun K "_law_next" "_law_next" s_law_next f__law_next d__law_next
  g__law_next : mg "_law_next" = some (.ref f__law_next)
  k__law_next : Binds K d__law_next ["pool"] []
  f__law_draw : Addr
  d__law_draw : FuncData
  F__law_draw : L2.Fun K "_law_draw" "_law_draw" s_law_draw f__law_draw d__law_draw
  g__law_draw : mg "_law_draw" = some (.ref f__law_draw)
  k__law_draw : Binds K d__law_draw ["pool", "limit"] []
  f__law_pick : Addr
  d__law_pick : FuncData
  F__law_pick : L2.Fun K "_law_pick" "_law_pick" s_law_pick f__law_pick d__law_pick
  g__law_pick : mg "_law_pick" = some (.ref f__law_pick)
  k__law_pick : Binds K d__law_pick ["pool", "options"] []
  f__law_conv : Addr
  d__law_conv : FuncData
  F__law_conv : L2.Fun K "_law_conv" "_law_conv" s_law_conv f__law_conv d__law_conv
  g__law_conv : mg "_law_conv" = some (.ref f__law_conv)
  k__law_conv : Binds K d__law_conv ["conversion", "value"] []
  f__law_inverse : Addr
  d__law_inverse : FuncData
  F__law_inverse : L2.Fun K "_law_inverse" "_law_inverse" s_law_inverse f__law_inverse d__law_inverse
  g__law_inverse : mg "_law_inverse" = some (.ref f__law_inverse)
  k__law_inverse : Binds K d__law_inverse ["conversion"] []
  f__law_through : Addr
  d__law_through : FuncData
  F__law_through : L2.Fun K "_law_through" "_law_through" s_law_through f__law_through d__law_through
  g__law_through : mg "_law_through" = some (.ref f__law_through)
  k__law_through : Binds K d__law_through ["conversions", "value"] []
  f__law_against : Addr
  d__law_against : FuncData
  F__law_against : L2.Fun K "_law_against" "_law_against" s_law_against f__law_against d__law_against
  g__law_against : mg "_law_against" = some (.ref f__law_against)
  k__law_against : Binds K d__law_against ["conversions", "value"] []
  f__law_same : Addr
  d__law_same : FuncData
  F__law_same : L2.Fun K "_law_same" "_law_same" s_law_same f__law_same d__law_same
  g__law_same : mg "_law_same" = some (.ref f__law_same)
  k__law_same : Binds K d__law_same ["answer", "due"] []
  f__law_text : Addr
  d__law_text : FuncData
  F__law_text : L2.Fun K "_law_text" "_law_text" s_law_text f__law_text d__law_text
  g__law_text : mg "_law_text" = some (.ref f__law_text)
  k__law_text : Binds K d__law_text ["pool", "size", "wide"] []
  f__law_value : Addr
  d__law_value : FuncData
  F__law_value : L2.Fun K "_law_value" "_law_value" s_law_value f__law_value d__law_value
  g__law_value : mg "_law_value" = some (.ref f__law_value)
  k__law_value : Binds K d__law_value ["pool", "kind"] []
  f__law_recode : Addr
  d__law_recode : FuncData
  F__law_recode : L2.Fun K "_law_recode" "_law_recode" s_law_recode f__law_recode d__law_recode
  g__law_recode : mg "_law_recode" = some (.ref f__law_recode)
  k__law_recode : Binds K d__law_recode ["pool", "start", "end"] []
  f__law_conversion : Addr
  d__law_conversion : FuncData
  F__law_conversion : L2.Fun K "_law_conversion" "_law_conversion" s_law_conversion f__law_conversion d__law_conversion
  g__law_conversion : mg "_law_conversion" = some (.ref f__law_conversion)
  k__law_conversion : Binds K d__law_conversion ["pool", "kind"] []
  f__law_kinds : Addr
  d__law_kinds : FuncData
  F__law_kinds : L2.Fun K "_law_kinds" "_law_kinds" s_law_kinds f__law_kinds d__law_kinds
  g__law_kinds : mg "_law_kinds" = some (.ref f__law_kinds)
  k__law_kinds : Binds K d__law_kinds ["conversion"] []
  f__law_tries : Addr
  d__law_tries : FuncData
  F__law_tries : L2.Fun K "_law_tries" "_law_tries" s_law_tries f__law_tries d__law_tries
  g__law_tries : mg "_law_tries" = some (.ref f__law_tries)
  k__law_tries : Binds K d__law_tries ["pool", "conversion"] []
  f__law_one : Addr
  d__law_one : FuncData
  F__law_one : L2.Fun K "_law_one" "_law_one" s_law_one f__law_one d__law_one
  g__law_one : mg "_law_one" = some (.ref f__law_one)
  k__law_one : Binds K d__law_one ["pool", "conversion"] []
  f_law : Addr
  d_law : FuncData
  F_law : L2.Fun K "law" "law" s_law f_law d_law
  g_law : mg "law" = some (.ref f_law)
  k_law : Binds K d_law ["script"] []
  b_abs : mg "abs" = none
  b_bool : mg "bool" = none
  b_dict : mg "dict" = none
  b_int : mg "int" = none
  b_isinstance : mg "isinstance" = none
  b_len : mg "len" = none
  b_list : mg "list" = none
  b_range : mg "range" = none
  b_reversed : mg "reversed" = none
  b_str : mg "str" = none
  b_tuple : mg "tuple" = none
  t_INT_MOST : Tok
  g_INT_MOST : mg "INT_MOST" = some (.int (1000000000) t_INT_MOST)
  r_INT_MOST : RelV (.int (1000000000)) (.int (1000000000) t_INT_MOST)
  t_TEXT_MOST : Tok
  g_TEXT_MOST : mg "TEXT_MOST" = some (.int (20) t_TEXT_MOST)
  r_TEXT_MOST : RelV (.int (20)) (.int (20) t_TEXT_MOST)
  t_ALPHABET : Tok
  g_ALPHABET : mg "ALPHABET" = some (.str (Str.ofString " !\"#$&'()*+,-./0123456789:;<=>?@ABCDEFGHIJKLMNOPQRSTUVWXYZ[\\]^_`abcdefghijklmnopqrstuvwxyz{|}~") t_ALPHABET)
  r_ALPHABET : RelV (.str (Zk.alph)) (.str (Str.ofString " !\"#$&'()*+,-./0123456789:;<=>?@ABCDEFGHIJKLMNOPQRSTUVWXYZ[\\]^_`abcdefghijklmnopqrstuvwxyz{|}~") t_ALPHABET)
section
variable {P : Program} {w : World} {K : PySem.W.Frag} {mg : Str → Option Value} {base : Heap}

/-! ### the drawn numbers -/
def sp_law_mixed (K : PySem.W.Frag) : Sp := sp2 fun a b H Q => ∃ n p, a = .int n ∧ b = .int p ∧ ∀ v : Int, 0 ≤ v → Q (.int v) H
theorem ok_law_mixed (T : Txt K mg) : FnOk P w K mg base CX0 1 T.f__law_mixed T.d__law_mixed ["number", "place"] (sp_law_mixed K) := by
  refine T.F__law_mixed.ok sc_law_mixed len2 (fun cdv A outer s H vs Q E hr h => ?_)
  have nd := sc_law_mixed.nd
  have hu := hu_of hr
  obtain ⟨_, _, rfl, n, p, rfl, rfl, k⟩ := h
  refine ⟨_,
      (pss_cons (ps_set (i := 2) nd rfl (Or.inl rfl) (pe_op op_mod (pe_callTy zc_int (by rfl) T.b_int (by decide +kernel) (pa_cons (pe_op op_add (pe_op op_add (pe_op op_mul (pv 0) pe_int) (pe_op op_mul (pv 1) pe_int)) pe_int) pa_nil)) pe_int)) 
      (pss_cons (ps_set (i := 3) nd rfl (Or.inl rfl) (pe_op op_mod (pe_callTy zc_int (by rfl) T.b_int (by decide +kernel) (pa_cons (pe_op op_add (pe_op op_add (pe_op op_mulW (pv 2) (pv 2)) (pe_op op_mul pe_int (pv 2))) (pv 1)) pa_nil)) pe_int)) 
      (pss_cons (ps_set (i := 4) nd rfl (Or.inl rfl) (pe_op op_mod (pe_callTy zc_int (by rfl) T.b_int (by decide +kernel) (pa_cons (pe_op op_add (pe_op op_mulW (pv 3) (pv 3)) (pv 2)) pa_nil)) pe_int)) 
      (pss_one (ps_ret (pe_op op_add (pe_op op_mulW (pv 3) pe_int) (pv 4))))))), ?_⟩
  change (_ : TS) _ [some _, some _, none, none, none] _
  try dsimp only [cxOf, Cx.nox, Cx.wish]
  walk_at "goa"
  refine k _ ?_
  omega
def sp_law_rest (K : PySem.W.Frag) : Sp := sp3 fun a b c H Q => ∃ (sc : Addr) (ns : List Int) (p f : Int), a = .ref sc ∧ b = .int p ∧ c = .int f ∧ Scr K H sc (ns.map V.int) ∧ ∀ v : Int, 0 ≤ v → Q (.int v) H
theorem ok_law_rest (T : Txt K mg) : FnOk P w K mg base CX0 2 T.f__law_rest T.d__law_rest ["script", "place", "fills"] (sp_law_rest K) := by
  refine T.F__law_rest.ok sc_law_rest len3 (fun cdv A outer s H vs Q E hr h => ?_)
  have nd := sc_law_rest.nd
  have hu := hu_of hr
  obtain ⟨_, _, _, rfl, sc, ns, p, f, rfl, rfl, rfl, hS, k⟩ := h
  refine ⟨_,
      (pss_cons (ps_set (i := 3) nd rfl (Or.inl rfl) pe_int) 
      (pss_cons (ps_if (pt_cmpR op_gt (pe_callB zc_len (by rfl) T.b_len (by decide +kernel) (pa_cons (pv 0) pa_nil)) pe_int (nomark _)) 
        (pss_one (ps_set (i := 3) nd rfl (Or.inl rfl) (pe_callTy zc_int (by rfl) T.b_int (by decide +kernel) (pa_cons (pe_ix ix_list (pv 0) (pe_op op_mod (pe_callTy zc_int (by rfl) T.b_int (by decide +kernel) (pa_cons (pv 1) pa_nil)) (pe_callB zc_len (by rfl) T.b_len (by decide +kernel) (pa_cons (pv 0) pa_nil))) (fun _ _ => rfl)) pa_nil)))) pss_nil) 
      (pss_cons (ps_if (pt_cmpR op_lt (pv 3) pe_int (nomark _)) 
        (pss_one (ps_set (i := 3) nd rfl (Or.inl rfl) (pe_op op_sub pe_int (pe_op op_mul pe_int (pv 3))))) pss_nil) 
      (pss_cons (ps_if (PW.pt (pw_and (pt_cmpR op_eq (pv 2) pe_int (nomark _)) (pw_and (pt_cmpR op_lt (pv 1) (pe_callB zc_len (by rfl) T.b_len (by decide +kernel) (pa_cons (pv 0) pa_nil)) (nomark _)) (pw_and1 (pt_cmpR op_ge (pv 3) (pe_op op_pow pe_int pe_int) (nomark _)))))) 
        (pss_one (ps_ret (pe_op op_sub (pv 3) (pe_op op_pow pe_int pe_int)))) pss_nil) 
      (pss_one (ps_ret (pe_call (ok_law_mixed T) (hr.mono (by decide)) (by rfl) T.g__law_mixed T.F__law_mixed.kp T.k__law_mixed .nil pass0 (pa_cons (pe_op op_add (pv 3) (pe_op op_mul (pv 2) pe_int)) (pa_cons (pv 1) pa_nil))))))))), ?_⟩
  change (_ : TS) _ [some _, some _, some _, none] _
  try dsimp only [cxOf, Cx.nox, Cx.wish]
  have hS2 := hS.sql
  walk_at "go"
  refine w_cut (fun σ' H' => H = H' ∧ ∃ n : Int, σ' = [some (V.ref sc), some (V.int p), some (V.int f), some (V.int n)]) ?_ fun nx hn => ?_
  · rintro _ _ ⟨rfl, n, rfl⟩
    walk_at "go"
    refine w_cut (fun σ' H' => H = H' ∧ ∃ n : Int, 0 ≤ n ∧ σ' = [some (V.ref sc), some (V.int p), some (V.int f), some (V.int n)]) ?_ fun nx hn => ?_
    · rintro _ _ ⟨rfl, n, n0, rfl⟩
      walk_at "go"
      refine w_cut (fun σ' H' => H = H' ∧ σ' = [some (V.ref sc), some (V.int p), some (V.int f), some (V.int n)]) ?_ fun nx hn => ?_
      · rintro _ _ ⟨rfl, rfl⟩
        walk_at "go"
        exact w_sp2 ⟨_, _, rfl, rfl, k⟩
      · walk_at "if"
        refine w_d (fun h => ?_) fun h => ?_ <;> walk_at "go"
        · refine w_d (fun h => ?_) fun h => ?_ <;> walk_at "go"
          · refine w_d (fun h => ?_) fun h => ?_ <;> walk_at "go"
            · exact k _ (by omega)
            · exact hn _ _ ⟨rfl, rfl⟩
          · exact hn _ _ ⟨rfl, rfl⟩
        · exact hn _ _ ⟨rfl, rfl⟩
    · walk_at "if"
      refine w_d (fun h => ?_) fun h => ?_ <;> walk_at "go"
      · exact hn _ _ ⟨rfl, _, by omega, rfl⟩
      · exact hn _ _ ⟨rfl, _, by omega, rfl⟩
  · walk_at "if"
    refine w_d (fun h => ?_) fun h => ?_
    · walk_at "goa"
      rename_i r r0 r1
      rw [List.length_map] at r1
      obtain ⟨z, _, hz⟩ := at_map (f := V.int) r0 r1
      refine w_ixL hS2 hz ?_
      walk_at "go"
      exact hn _ _ ⟨rfl, _, rfl⟩
    · walk_at "go"
      exact hn _ _ ⟨rfl, _, rfl⟩
/-- the pool: the script, a place, what is left of the number, how often it was filled -/
def PoolAt (K : PySem.W.Frag) (H : Hp) (p : Addr) : Prop := ∃ (sc : Addr) (ns : List Int) (pl re fi : Int), H p = some (.lst [.ref sc, .int pl, .int re, .int fi]) ∧ Scr K H sc (ns.map V.int) ∧ 0 ≤ re
theorem PoolAt.ext {M : List Addr} {H H' : Hp} {p : Addr} (e : Ext M H H') (h : PoolAt K H p) (n : p ∉ M) : PoolAt K H' p := by
  obtain ⟨sc, ns, pl, re, fi, h1, h2, h3⟩ := h
  exact ⟨sc, ns, pl, re, fi, e.keep _ _ h1 n, h2.ext e, h3⟩
theorem PoolAt.ne {H : Hp} {p q : Addr} (h : PoolAt K H p) (n : H q = none) : p ≠ q := by
  obtain ⟨sc, ns, pl, re, fi, h1, h2, h3⟩ := h
  exact ne_of_none h1 n
def sp_law_pool (K : PySem.W.Frag) : Sp := sp1 fun a H Q => ∃ (sc : Addr) (ns : List Int), a = .ref sc ∧ Scr K H sc (ns.map V.int) ∧ ∀ p H', Ext [] H H' → H p = none → PoolAt K H' p → Q (.ref p) H'
theorem ok_law_pool (T : Txt K mg) : FnOk P w K mg base CX0 3 T.f__law_pool T.d__law_pool ["script"] (sp_law_pool K) := by
  refine T.F__law_pool.ok sc_law_pool len1 (fun cdv A outer s H vs Q E hr h => ?_)
  have nd := sc_law_pool.nd
  have hu := hu_of hr
  obtain ⟨_, rfl, sc, ns, rfl, hS, k⟩ := h
  refine ⟨_,
      (pss_one (ps_ret (pe_lstZ (pa_cons (pv 0) (pa_cons pe_int (pa_cons (pe_call (ok_law_rest T) (hr.mono (by decide)) (by rfl) T.g__law_rest T.F__law_rest.kp T.k__law_rest .nil pass0 (pa_cons (pv 0) (pa_cons pe_int (pa_cons pe_int pa_nil)))) (pa_cons pe_int pa_nil))))))), ?_⟩
  change (_ : TS) _ [some _] _
  try dsimp only [cxOf, Cx.nox, Cx.wish]
  walk_at "go"
  refine w_sp3 ⟨_, _, _, _, rfl, rfl, rfl, hS, fun v v0 => ?_⟩
  walk_at "go"
  refine ⟨sz (by show 4 ≤ _; decide), w_alc fun p H1 e1 n1 h1 => ?_⟩
  exact k p H1 e1 n1 ⟨sc, ns, _, _, _, h1, hS.ext e1, v0⟩
def sp_law_draw (K : PySem.W.Frag) : Sp := sp2 fun a b H Q => ∃ (p : Addr) (l : Int), a = .ref p ∧ b = .int l ∧ PoolAt K H p ∧ 0 < l ∧ l < 2 ^ 200 ∧ ∀ v H', 0 ≤ v → v < l → Ext [p] H H' → PoolAt K H' p → Q (.int v) H'
theorem ok_law_draw (T : Txt K mg) : FnOk P w K mg base CX0 3 T.f__law_draw T.d__law_draw ["pool", "limit"] (sp_law_draw K) := by
  refine T.F__law_draw.ok sc_law_draw len2 (fun cdv A outer s H vs Q E hr h => ?_)
  have nd := sc_law_draw.nd
  have hu := hu_of hr
  obtain ⟨_, _, rfl, p, l, rfl, rfl, hP, l0, l1, k⟩ := h
  refine ⟨_,
      (pss_cons (ps_if (pt_cmpR op_le (pe_ix ix_list (pv 0) pe_int (fun _ _ => rfl)) pe_int (nomark _)) 
        (pss_cons (ps_asg (pe_op op_add (pe_ix ix_list (pv 0) pe_int (fun _ _ => rfl)) pe_int) (pg_sub (pv 0) pe_int zset_list)) 
        (pss_one (ps_asg (pe_call (ok_law_rest T) (hr.mono (by decide)) (by rfl) T.g__law_rest T.F__law_rest.kp T.k__law_rest .nil pass0 (pa_cons (pe_ix ix_list (pv 0) pe_int (fun _ _ => rfl)) (pa_cons (pe_ix ix_list (pv 0) pe_int (fun _ _ => rfl)) (pa_cons (pe_ix ix_list (pv 0) pe_int (fun _ _ => rfl)) pa_nil)))) (pg_sub (pv 0) pe_int zset_list)))) pss_nil) 
      (pss_cons (ps_set (i := 2) nd rfl (Or.inl rfl) (pe_op op_mod (pe_callTy zc_int (by rfl) T.b_int (by decide +kernel) (pa_cons (pe_ix ix_list (pv 0) pe_int (fun _ _ => rfl)) pa_nil)) (pv 1))) 
      (pss_cons (ps_asg (pe_op op_fdivW (pe_callTy zc_int (by rfl) T.b_int (by decide +kernel) (pa_cons (pe_ix ix_list (pv 0) pe_int (fun _ _ => rfl)) pa_nil)) (pv 1)) (pg_sub (pv 0) pe_int zset_list)) 
      (pss_one (ps_ret (pv 2)))))), ?_⟩
  change (_ : TS) _ [some _, some _, none] _
  try dsimp only [cxOf, Cx.nox, Cx.wish]
  walk_at "go"
  refine w_cut (fun σ' H' => Ext [p] H H' ∧ PoolAt K H' p ∧ σ' = [some (V.ref p), some (V.int l), none]) ?_ fun nx hn => ?_
  · rintro _ H1 ⟨e1, ⟨sc, ns, pl, re, fi, h1, h2, h3⟩, rfl⟩
    walk_at "goa"
    rename_i r r0 r1
    refine w_I (wide_div (b := 200) l0 (by omega) (by decide) (by decide)) ?_
    walk_at "go"
    refine w_chg h1 (fun z => z) fun H2 e2 h4 => ?_
    walk_at "go"
    exact k r H2 r0 r1 (e1.trans e2) ⟨sc, ns, _, _, _, h4, h2.ext e2, Int.ediv_nonneg h3 (by omega)⟩
  · obtain ⟨sc, ns, pl, re, fi, h1, h2, h3⟩ := id hP
    walk_at "if"
    refine w_d (fun h => ?_) fun h => ?_ <;> walk_at "go"
    · refine w_chg h1 (fun z => z) fun H2 e2 h4 => ?_
      change H2 p = some (.lst [.ref sc, .int pl, .int re, .int (fi + 1)]) at h4
      walk_at "go"
      refine w_sp3 ⟨_, _, _, _, rfl, rfl, rfl, h2.ext e2, fun v v0 => ?_⟩
      walk_at "go"
      refine w_chg h4 (fun z => z) fun H3 e3 h5 => ?_
      exact hn _ _ ⟨e2.trans e3, ⟨sc, ns, _, _, _, h5, (h2.ext e2).ext e3, v0⟩, rfl⟩
    · exact hn _ _ ⟨Ext.refl, hP, rfl⟩
theorem w_draw {H : Hp} {p : Addr} {l : Int} {Q : VK} {E : XK} (hP : PoolAt K H p) (l0 : 0 < l) (l1 : l < 2 ^ 200) (k : ∀ v H', 0 ≤ v → v < l → Ext [p] H H' → PoolAt K H' p → Q (.int v) H') :
    sp_law_draw K ([.ref p, .int l] ++ []) H Q E := ⟨_, _, rfl, p, l, rfl, rfl, hP, l0, l1, k⟩

/-! ### the next cell of the script; a drawn item -/
def sp_law_next (K : PySem.W.Frag) : Sp := sp1 fun a H Q => ∃ p, a = .ref p ∧ PoolAt K H p ∧ ∀ H', Ext [p] H H' → PoolAt K H' p → Q .non H'
theorem ok_law_next (T : Txt K mg) : FnOk P w K mg base CX0 3 T.f__law_next T.d__law_next ["pool"] (sp_law_next K) := by
  refine T.F__law_next.ok sc_law_next len1 (fun cdv A outer s H vs Q E hr h => ?_)
  have nd := sc_law_next.nd
  have hu := hu_of hr
  obtain ⟨_, rfl, p, rfl, ⟨sc, ns, pl, re, fi, h1, h2, h3⟩, k⟩ := h
  refine ⟨_,
      (pss_cons (ps_asg (pe_op op_add (pe_ix ix_list (pv 0) pe_int (fun _ _ => rfl)) pe_int) (pg_sub (pv 0) pe_int zset_list)) 
      (pss_cons (ps_asg (pe_call (ok_law_rest T) (hr.mono (by decide)) (by rfl) T.g__law_rest T.F__law_rest.kp T.k__law_rest .nil pass0 (pa_cons (pe_ix ix_list (pv 0) pe_int (fun _ _ => rfl)) (pa_cons (pe_ix ix_list (pv 0) pe_int (fun _ _ => rfl)) (pa_cons pe_int pa_nil)))) (pg_sub (pv 0) pe_int zset_list)) 
      (pss_one (ps_asg pe_int (pg_sub (pv 0) pe_int zset_list))))), ?_⟩
  change (_ : TS) _ [some _] _
  try dsimp only [cxOf, Cx.nox, Cx.wish]
  walk_at "go"
  refine w_chg h1 (fun z => z) fun H1 e1 g1 => ?_
  change H1 p = some (.lst [.ref sc, .int (pl + 1), .int re, .int fi]) at g1
  walk_at "go"
  refine w_sp3 ⟨_, _, _, _, rfl, rfl, rfl, h2.ext e1, fun v v0 => ?_⟩
  walk_at "go"
  refine w_chg g1 (fun z => z) fun H2 e2 g2 => ?_
  change H2 p = some (.lst [.ref sc, .int (pl + 1), .int v, .int fi]) at g2
  walk_at "go"
  refine w_chg g2 (fun z => z) fun H3 e3 g3 => ?_
  exact k _ ((e1.trans e2).trans e3) ⟨sc, ns, _, _, _, g3, ((h2.ext e1).ext e2).ext e3, v0⟩
theorem w_next_ {H : Hp} {p : Addr} {Q : VK} {E : XK} (hP : PoolAt K H p) (k : ∀ H', Ext [p] H H' → PoolAt K H' p → Q .non H') : sp_law_next K ([.ref p] ++ []) H Q E := ⟨_, rfl, p, rfl, hP, k⟩
def sp_law_pick (K : PySem.W.Frag) : Sp := sp2 fun a b H Q => ∃ (p o : Addr) (xs : List V), a = .ref p ∧ b = .ref o ∧ PoolAt K H p ∧ H o = some (.lst xs) ∧ o ≠ p ∧ 0 < xs.length ∧ xs.length ≤ 1000 ∧ ∀ v H', v ∈ xs → Ext [p] H H' → PoolAt K H' p → Q v H'
theorem ok_law_pick (T : Txt K mg) : FnOk P w K mg base CX0 4 T.f__law_pick T.d__law_pick ["pool", "options"] (sp_law_pick K) := by
  refine T.F__law_pick.ok sc_law_pick len2 (fun cdv A outer s H vs Q E hr h => ?_)
  have nd := sc_law_pick.nd
  have hu := hu_of hr
  obtain ⟨_, _, rfl, p, o, xs, rfl, rfl, hP, ho, n, l0, l1, k⟩ := h
  refine ⟨_,
      (pss_one (ps_ret (pe_ix ix_list (pv 1) (pe_call (ok_law_draw T) (hr.mono (by decide)) (by rfl) T.g__law_draw T.F__law_draw.kp T.k__law_draw .nil pass0 (pa_cons (pv 0) (pa_cons (pe_callB zc_len (by rfl) T.b_len (by decide +kernel) (pa_cons (pv 1) pa_nil)) pa_nil))) (fun _ _ => rfl)))), ?_⟩
  change (_ : TS) _ [some _, some _] _
  try dsimp only [cxOf, Cx.nox, Cx.wish]
  walk_at "go"
  refine w_draw hP (by omega) (by omega) fun r H1 r0 r1 e1 hP1 => ?_
  obtain ⟨v, hv, hm⟩ := at_some r0 r1
  refine w_ixL (sql (e1.keep _ _ ho (nm1 n))) hv ?_
  exact k v H1 (List.mem_of_getElem? hm) e1 hP1
theorem w_pick {H : Hp} {p o : Addr} {xs : List V} {Q : VK} {E : XK} (hP : PoolAt K H p) (ho : H o = some (.lst xs)) (n : o ≠ p) (l0 : 0 < xs.length) (l1 : xs.length ≤ 1000) (k : ∀ v H', v ∈ xs → Ext [p] H H' → PoolAt K H' p → Q v H') :
    sp_law_pick K ([.ref p, .ref o] ++ []) H Q E := ⟨_, _, rfl, p, o, xs, rfl, rfl, hP, ho, n, l0, l1, k⟩

/-! ### values: what is told of them -/
def ov : Option Val → V
  | none => .non
  | some v => vV v
def sI : Str := Str.ofString "int"
def sT : Str := Str.ofString "text"
def sp_is_text (K : PySem.W.Frag) : Sp := sp1 fun a H Q => ∃ z, a = .str z ∧ z.length ≤ 100 ∧ Al z.cps.toList ∧ Q (.bl (decide (z.length ≤ 20))) H
theorem ok_is_text (T : Txt K mg) : FnOk P w K mg base CX0 1 T.f_is_text T.d_is_text ["value"] (sp_is_text K) := by
  refine T.F_is_text.ok sc_is_text len1 (fun cdv A outer s H vs Q E hr h => ?_)
  have nd := sc_is_text.nd
  have hu := hu_of hr
  obtain ⟨_, rfl, z, rfl, l, al, k⟩ := h
  refine ⟨_,
      (pss_cons (ps_if (PW.pt (pw_or (pt_not (pt_val (pe_callB call_isi (by rfl) T.b_isinstance (by decide +kernel) (pa_cons (pv 0) (pa_cons (pe_bltn (v := .ty "str") (by rfl) T.b_str (by decide +kernel) rfl) pa_nil))))) (pw_or1 (pt_cmpR op_gt (pe_callB zc_len (by rfl) T.b_len (by decide +kernel) (pa_cons (pv 0) pa_nil)) (pe_glob rfl T.g_TEXT_MOST T.r_TEXT_MOST) (nomark _))))) 
        (pss_one (ps_ret pe_bl)) pss_nil) 
      (pss_cons (ps_for PassesOwn.never rfl (pi_str (pv 0)) (pg_name (i := 1) nd rfl (Or.inl rfl)) 
        (pss_one (ps_if (pt_cmpR zop_notInS (pv 1) (pe_glob rfl T.g_ALPHABET T.r_ALPHABET) (by rfl)) 
          (pss_one (ps_ret pe_bl)) pss_nil))) 
      (pss_one (ps_ret pe_bl)))), ?_⟩
  change (_ : TS) _ [some _, none] _
  try dsimp only [cxOf, Cx.nox, Cx.wish]
  walk_at "go"; walk_at "if"
  refine w_isi (k := true) (.ty _) (.base (.str _)) (kit_ty (by decide +kernel)) ?_
  walk_at "go"
  refine w_lenS (sz (by omega)) ?_
  walk_at "go"
  refine w_d (fun h => ?_) fun h => ?_ <;> walk_at "go"
  · rw [decide_eq_false (by omega)] at k
    exact k
  · refine ⟨z, rfl, ?_⟩
    refine z_for_str (fun i σ' H' => H = H' ∧ ∃ u, σ' = [some (.str z), u]) ⟨rfl, _, rfl⟩ ?_ ?_
    · rintro N i c σ' H1 hc ⟨rfl, u, rfl⟩ hN
      walk_at "go"; walk_at "if"
      refine w_notInC ?_
      walk_at "go"
      have m : c ∈ alph.cps.toList := al c (by
        rw [← Array.getElem?_toList] at hc
        exact List.mem_of_getElem? hc)
      refine w_f (by rw [decide_eq_true m]; rfl) ?_
      walk_at "go"
      exact hN _ _ ⟨rfl, _, rfl⟩
    · rintro σ' H1 ⟨rfl, u, rfl⟩
      walk_at "go"
      rw [decide_eq_true (by omega)] at k
      exact k
def sp_is_value (K : PySem.W.Frag) : Sp := sp2 fun a b H Q => (∃ n, a = .str sI ∧ b = .int n ∧ Q (.bl (decide (-1000000000 ≤ n ∧ n ≤ 1000000000))) H) ∨ ∃ z, a = .str sT ∧ b = .str z ∧ z.length ≤ 100 ∧ Al z.cps.toList ∧ Q (.bl (decide (z.length ≤ 20))) H
theorem ok_is_value (T : Txt K mg) : FnOk P w K mg base CX0 2 T.f_is_value T.d_is_value ["kind", "value"] (sp_is_value K) := by
  refine T.F_is_value.ok sc_is_value len2 (fun cdv A outer s H vs Q E hr h => ?_)
  have nd := sc_is_value.nd
  have hu := hu_of hr
  obtain ⟨_, _, rfl, h⟩ := h
  refine ⟨_,
      (pss_cons (ps_if (pt_cmpR op_eq (pv 0) pe_str (nomark _)) 
        (pss_one (ps_ret (pe_callB call_isi (by rfl) T.b_isinstance (by decide +kernel) (pa_cons (pv 1) (pa_cons (pe_bltn (v := .ty "bool") (by rfl) T.b_bool (by decide +kernel) rfl) pa_nil))))) pss_nil) 
      (pss_cons (ps_if (pt_cmpR op_eq (pv 0) pe_str (nomark _)) 
        (pss_one (ps_ret (pe_and (pe_callB call_isi (by rfl) T.b_isinstance (by decide +kernel) (pa_cons (pv 1) (pa_cons (pe_bltn (v := .ty "int") (by rfl) T.b_int (by decide +kernel) rfl) pa_nil))) (pe_and (pe_not (pe_callB call_isi (by rfl) T.b_isinstance (by decide +kernel) (pa_cons (pv 1) (pa_cons (pe_bltn (v := .ty "bool") (by rfl) T.b_bool (by decide +kernel) rfl) pa_nil)))) (pe_one (pe_chain op_le op_le (pe_un un_neg (pe_glob rfl T.g_INT_MOST T.r_INT_MOST)) (pv 1) (pe_glob rfl T.g_INT_MOST T.r_INT_MOST))))))) pss_nil) 
      (pss_one (ps_ret (pe_call (ok_is_text T) (hr.mono (by decide)) (by rfl) T.g_is_text T.F_is_text.kp T.k_is_text .nil pass0 (pa_cons (pv 1) pa_nil)))))), ?_⟩
  change (_ : TS) _ [some _, some _] _
  try dsimp only [cxOf, Cx.nox, Cx.wish]
  rcases h with ⟨n, rfl, rfl, k⟩ | ⟨z, rfl, rfl, l, al, k⟩
  · walk_at "go"; walk_at "if"
    refine w_f (by decide +kernel) ?_
    walk_at "go"; walk_at "if"
    refine w_t (by decide +kernel) ?_
    walk_at "go"
    refine w_isi (k := true) (.ty _) (.base (.int _)) (kit_ty (by decide +kernel)) ?_
    refine w_bl ?_
    walk_at "go"
    refine w_isi (k := false) (.ty _) (.base (.int _)) (kit_ty (by decide +kernel)) ?_
    refine w_bl ?_
    walk_at "go"
    refine w_chain ?_
    walk_at "go"
    refine w_d (fun h => ?_) fun h => ?_ <;> walk_at "go"
    · rw [show decide (-1000000000 ≤ n ∧ n ≤ 1000000000) = decide (n ≤ 1000000000) from decide_eq_decide.mpr ⟨fun x => x.2, fun x => ⟨h, x⟩⟩] at k
      exact k
    · rw [decide_eq_false (fun x => h x.1)] at k
      exact k
  · walk_at "go"; walk_at "if"
    refine w_f (by decide +kernel) ?_
    walk_at "go"; walk_at "if"
    refine w_f (by decide +kernel) ?_
    walk_at "go"
    exact w_sp1 ⟨z, rfl, l, al, k⟩
def sp_checked (K : PySem.W.Frag) : Sp := sp2 fun a b H Q => (∃ n, a = .str sI ∧ b = .int n ∧ Q (ov (rng n)) H) ∨ ∃ z, a = .str sT ∧ b = .str z ∧ z.length ≤ 100 ∧ Al z.cps.toList ∧ Q (ov (if z.length ≤ 20 then some (.tx z) else none)) H
theorem ok_checked (T : Txt K mg) : FnOk P w K mg base CX0 3 T.f__checked T.d__checked ["kind", "value"] (sp_checked K) := by
  refine T.F__checked.ok sc_checked len2 (fun cdv A outer s H vs Q E hr h => ?_)
  have nd := sc_checked.nd
  have hu := hu_of hr
  obtain ⟨_, _, rfl, h⟩ := h
  refine ⟨_,
      (pss_cons (ps_if (pt_val (pe_call (ok_is_value T) (hr.mono (by decide)) (by rfl) T.g_is_value T.F_is_value.kp T.k_is_value .nil pass0 (pa_cons (pv 0) (pa_cons (pv 1) pa_nil)))) 
        (pss_one (ps_ret (pv 1))) pss_nil) 
      (pss_one (ps_ret pe_non))), ?_⟩
  change (_ : TS) _ [some _, some _] _
  try dsimp only [cxOf, Cx.nox, Cx.wish]
  rcases h with ⟨n, rfl, rfl, k⟩ | ⟨z, rfl, rfl, l, al, k⟩
  · walk_at "go"; walk_at "if"
    refine w_sp2 (.inl ⟨n, rfl, rfl, ?_⟩)
    refine w_bl ?_
    refine w_d (fun h => ?_) fun h => ?_ <;> walk_at "go"
    · unfold rng at k; rw [if_pos h] at k; exact k
    · unfold rng at k; rw [if_neg h] at k; exact k
  · walk_at "go"; walk_at "if"
    refine w_sp2 (.inr ⟨z, rfl, rfl, l, al, ?_⟩)
    refine w_bl ?_
    refine w_d (fun h => ?_) fun h => ?_ <;> walk_at "go"
    · rw [if_pos h] at k; exact k
    · rw [if_neg h] at k; exact k
theorem prD_at {H : Hp} {v : V} {p : Val × Val} (h : Im H v (prD3 p)) : ∃ a, v = .ref a ∧ H a = some (.tup [vV p.1, vV p.2]) := by
  obtain ⟨a, xs, rfl, ha, w⟩ := h.tupE
  have e : ∀ {v : V} {x : Val}, Im H v (vD x) → v = vV x := by
    intro v x h
    cases x <;> (cases h; rfl)
  cases w with
  | cons h1 w => cases w with
    | cons h2 w =>
      cases w
      rw [e h1, e h2] at ha
      exact ⟨a, rfl, ha⟩
theorem prs_at {H : Hp} {xs : List V} {ps : List (Val × Val)} (h : ImAll H xs (ps.map prD3)) {i : Nat} {x : V} (e : xs[i]? = some x) : ∃ a p, x = .ref a ∧ ps[i]? = some p ∧ H a = some (.tup [vV p.1, vV p.2]) := by
  obtain ⟨d, hd, im⟩ := h.at' e
  rw [List.getElem?_map] at hd
  cases q : ps[i]? with
  | none => rw [q] at hd; cases hd
  | some p =>
    rw [q] at hd
    cases hd
    obtain ⟨a, rfl, ha⟩ := prD_at im
    exact ⟨a, p, rfl, rfl, ha⟩
theorem look_no : ∀ {ps : List (Val × Val)} {v : Val}, (∀ p ∈ ps, p.1 ≠ v) → look ps v = none
  | [], _, _ => rfl
  | p :: ps, v, h => by
    unfold look
    rw [if_neg (h p List.mem_cons_self)]
    exact look_no fun q m => h q (List.mem_cons_of_mem _ m)
theorem look_yes : ∀ {ps : List (Val × Val)} {v : Val} {i : Nat} {p : Val × Val}, (∀ q ∈ ps.take i, q.1 ≠ v) → ps[i]? = some p → p.1 = v → look ps v = some p.2
  | q :: ps, v, 0, p, _, e, h => by
    cases e
    unfold look
    rw [if_pos h]
  | q :: ps, v, i + 1, p, hn, e, h => by
    unfold look
    rw [if_neg (hn q List.mem_cons_self)]
    exact look_yes (fun q m => hn q (List.mem_cons_of_mem _ m)) e h
theorem tk1 {α : Type} {l : List α} {i : Nat} {x : α} (h : l[i]? = some x) : l.take (i + 1) = l.take i ++ [x] := by rw [List.take_add_one, h]; rfl
/-- the pairs of a recode at q -/
def Prs (H : Hp) (q : Addr) (ps : List (Val × Val)) : Prop := ∃ xs, H q = some (.tup xs) ∧ xs.length ≤ 1000 ∧ ImAll H xs (ps.map prD3)
def sp_recoded (K : PySem.W.Frag) : Sp := sp2 fun a b H Q => ∃ (q : Addr) (ps : List (Val × Val)) (k : Kd) (v : Val), a = .ref q ∧ b = vV v ∧ Prs H q ps ∧ VOk k v ∧ (∀ p ∈ ps, VOk k p.1) ∧ Q (ov (look ps v)) H
theorem ok_recoded (T : Txt K mg) : FnOk P w K mg base CX0 1 T.f__recoded T.d__recoded ["pairs", "value"] (sp_recoded K) := by
  refine T.F__recoded.ok sc_recoded len2 (fun cdv A outer s H vs Q E hr h => ?_)
  have nd := sc_recoded.nd
  have hu := hu_of hr
  obtain ⟨_, _, rfl, q, ps, kd, v, rfl, rfl, ⟨xs, hq, lz, ia⟩, hv, hp, k⟩ := h
  refine ⟨_,
      (pss_cons (ps_for PassesOwn.never rfl (pi_tup (pv 0)) (pg_tup (by rfl) (pgs_cons (pg_name (i := 2) nd rfl (Or.inl rfl)) (pgs_cons (pg_name (i := 3) nd rfl (Or.inl rfl)) pgs_nil))) 
        (pss_one (ps_if (pt_cmpR op_eq (pv 2) (pv 1) (nomark _)) 
          (pss_one (ps_ret (pv 3))) pss_nil))) 
      (pss_one (ps_ret pe_non))), ?_⟩
  change (_ : TS) _ [some _, some _, none, none] _
  try dsimp only [cxOf, Cx.nox, Cx.wish]
  walk_at "go"
  refine ⟨q, rfl, ⟨_, sqt hq⟩, ?_⟩
  have lx : xs.length = ps.length := by rw [ia.len, List.length_map]
  refine z_for_tup (xs := xs) (fun i σ' H' => H = H' ∧ (∀ p ∈ ps.take i, p.1 ≠ v) ∧ ∃ u w, σ' = [some (.ref q), some (vV v), u, w]) ⟨rfl, fun _ m => (by simp at m), _, _, rfl⟩ (fun i σ' H' _ ⟨e, _⟩ => e ▸ sqt hq) ?_ ?_
  · rintro N i x σ' H1 hx ⟨rfl, hn, u, w, rfl⟩ hN
    obtain ⟨a, p, rfl, he, ha⟩ := prs_at ia hx
    walk_at "go"; walk_at "if"
    refine w_eq (vok_scal (hp p (List.mem_of_getElem? he)) hv) ?_
    refine w_bl ?_
    refine w_d (fun h => ?_) fun h => ?_ <;> walk_at "go"
    · rw [look_yes hn he (vV_inj h)] at k
      exact k
    · refine hN _ _ ⟨rfl, fun r m => ?_, _, _, rfl⟩
      rw [tk1 he] at m
      rcases List.mem_append.mp m with m | m
      · exact hn r m
      · rw [List.mem_singleton.mp m]; exact fun e => h (by rw [e])
  · rintro σ' H1 ⟨rfl, hn, u, w, rfl⟩
    walk_at "go"
    rw [lx, List.take_length] at hn
    rw [look_no hn] at k
    exact k
theorem cv_aff {H : Hp} {v : V} {a b : Int} (h : Im H v (cD (.aff a b))) : ∃ p, v = .ref p ∧ H p = some (.tup [.str (Str.ofString "affine"), .int a, .int b]) := by
  obtain ⟨p, xs, rfl, hp, w⟩ := h.tupE
  cases w with
  | cons h1 w => cases w with
    | cons h2 w => cases w with
      | cons h3 w => cases w; cases h1; cases h2; cases h3; exact ⟨p, rfl, hp⟩
theorem cv_una {H : Hp} {v : V} {a b : Int} (h : Im H v (cD (.una a b))) : ∃ p, v = .ref p ∧ H p = some (.tup [.str (Str.ofString "unaffine"), .int a, .int b]) := by
  obtain ⟨p, xs, rfl, hp, w⟩ := h.tupE
  cases w with
  | cons h1 w => cases w with
    | cons h2 w => cases w with
      | cons h3 w => cases w; cases h1; cases h2; cases h3; exact ⟨p, rfl, hp⟩
theorem cv_pre {H : Hp} {v : V} {z : Str} (h : Im H v (cD (.pre z))) : ∃ p, v = .ref p ∧ H p = some (.tup [.str (Str.ofString "prefix"), .str z]) := by
  obtain ⟨p, xs, rfl, hp, w⟩ := h.tupE
  cases w with
  | cons h1 w => cases w with
    | cons h2 w => cases w; cases h1; cases h2; exact ⟨p, rfl, hp⟩
theorem cv_unp {H : Hp} {v : V} {z : Str} (h : Im H v (cD (.unp z))) : ∃ p, v = .ref p ∧ H p = some (.tup [.str (Str.ofString "unprefix"), .str z]) := by
  obtain ⟨p, xs, rfl, hp, w⟩ := h.tupE
  cases w with
  | cons h1 w => cases w with
    | cons h2 w => cases w; cases h1; cases h2; exact ⟨p, rfl, hp⟩
theorem cv_rcd {H : Hp} {v : V} {k l : Kd} {ps : List (Val × Val)} (h : Im H v (cD (.rcd k l ps))) : ∃ p q, v = .ref p ∧ H p = some (.tup [.str (Str.ofString "recode"), .str (kS k), .str (kS l), .ref q]) ∧ Prs H q ps := by
  obtain ⟨p, xs, rfl, hp, w⟩ := h.tupE
  cases w with
  | cons h1 w => cases w with
    | cons h2 w => cases w with
      | cons h3 w => cases w with
        | cons h4 w =>
          cases w; cases h1; cases h2; cases h3
          cases h4 with
          | tup hq lz ia => exact ⟨p, _, rfl, hp, _, hq, lz, ia⟩
theorem w_part {te : TE} {σ : L2.St} {H : Hp} {P : Option Int → Hp → Prop} (h : te σ H fun x H1 => ∃ i, x = .int i ∧ P (some i) H1) : tPart te σ H P := h
def sp_convert (K : PySem.W.Frag) : Sp := sp2 fun a b H Q => ∃ (c : Cv) (v : Val), Im H a (cD c) ∧ b = vV v ∧ COk c ∧ VOk (k1 c) v ∧ Q (ov (cvt c v)) H
theorem ok_convert (T : Txt K mg) : FnOk P w K mg base CX0 4 T.f_convert T.d_convert ["conversion", "value"] (sp_convert K) := by
  refine T.F_convert.ok sc_convert len2 (fun cdv A outer s H vs Q E hr h => ?_)
  have nd := sc_convert.nd
  have hu := hu_of hr
  obtain ⟨_, _, rfl, c, v, hc, rfl, co, vo, k⟩ := h
  refine ⟨_,
      (pss_cons (ps_set (i := 2) nd rfl (Or.inl rfl) (pe_ix ix_tup (pv 0) pe_int (fun _ _ => rfl))) 
      (pss_cons (ps_if (pt_cmpR op_eq (pv 2) pe_str (nomark _)) 
        (pss_one (ps_ret (pe_call (ok_checked T) (hr.mono (by decide)) (by rfl) T.g__checked T.F__checked.kp T.k__checked .nil pass0 (pa_cons pe_str (pa_cons (pe_op op_add (pe_op op_mulW (pe_ix ix_tup (pv 0) pe_int (fun _ _ => rfl)) (pv 1)) (pe_ix ix_tup (pv 0) pe_int (fun _ _ => rfl))) pa_nil))))) pss_nil) 
      (pss_cons (ps_if (pt_cmpR op_eq (pv 2) pe_str (nomark _)) 
        (pss_cons (ps_set (i := 3) nd rfl (Or.inl rfl) (pe_op op_sub (pv 1) (pe_ix ix_tup (pv 0) pe_int (fun _ _ => rfl)))) 
        (pss_cons (ps_if (pt_cmpR op_ne (pe_op op_mod (pv 3) (pe_callB zc_abs (by rfl) T.b_abs (by decide +kernel) (pa_cons (pe_ix ix_tup (pv 0) pe_int (fun _ _ => rfl)) pa_nil))) pe_int (nomark _)) 
          (pss_one (ps_ret pe_non)) pss_nil) 
        (pss_one (ps_ret (pe_call (ok_checked T) (hr.mono (by decide)) (by rfl) T.g__checked T.F__checked.kp T.k__checked .nil pass0 (pa_cons pe_str (pa_cons (pe_op op_fdivN (pv 3) (pe_ix ix_tup (pv 0) pe_int (fun _ _ => rfl))) pa_nil))))))) pss_nil) 
      (pss_cons (ps_if (pt_cmpR op_eq (pv 2) pe_str (nomark _)) 
        (pss_one (ps_ret (pe_call (ok_checked T) (hr.mono (by decide)) (by rfl) T.g__checked T.F__checked.kp T.k__checked .nil pass0 (pa_cons pe_str (pa_cons (pe_op zop_addS (pe_ix ix_tup (pv 0) pe_int (fun _ _ => rfl)) (pv 1)) pa_nil))))) pss_nil) 
      (pss_cons (ps_if (pt_cmpR op_eq (pv 2) pe_str (nomark _)) 
        (pss_cons (ps_if (pt_not (pt_val (pe_bm PySem.F.plainAttrs_str PySem.F.slot_str_startswith PySem.F.type_str_startswith zmt_starts (pv 1) (pa_cons (pe_ix ix_tup (pv 0) pe_int (fun _ _ => rfl)) pa_nil)))) 
          (pss_one (ps_ret pe_non)) pss_nil) 
        (pss_one (ps_ret (pe_slice sl_str (pv 1) (po_some (pe_callB zc_len (by rfl) T.b_len (by decide +kernel) (pa_cons (pe_ix ix_tup (pv 0) pe_int (fun _ _ => rfl)) pa_nil))) po_none)))) pss_nil) 
      (pss_one (ps_ret (pe_call (ok_recoded T) (hr.mono (by decide)) (by rfl) T.g__recoded T.F__recoded.kp T.k__recoded .nil pass0 (pa_cons (pe_ix ix_tup (pv 0) pe_int (fun _ _ => rfl)) (pa_cons (pv 1) pa_nil)))))))))), ?_⟩
  change (_ : TS) _ [some _, some _, none, none] _
  try dsimp only [cxOf, Cx.nox, Cx.wish]
  cases c with
  | aff a b =>
    obtain ⟨p, rfl, hp⟩ := cv_aff hc
    obtain ⟨n, rfl, n0, n1⟩ := vok_I vo
    dsimp only [vV]
    obtain ⟨c0, c1, c2, c3, c4⟩ := co
    walk_at "go"; walk_at "if"
    refine w_t (by decide +kernel) ?_
    walk_at "go"
    exact w_sp2 (.inl ⟨_, rfl, rfl, k⟩)
  | una a b =>
    obtain ⟨p, rfl, hp⟩ := cv_una hc
    obtain ⟨n, rfl, n0, n1⟩ := vok_I vo
    dsimp only [vV]
    obtain ⟨c0, c1, c2, c3, c4⟩ := co
    change Q (ov (if (n - b) % aB a = 0 then rng ((n - b).fdiv a) else none)) H at k
    walk_at "go"; walk_at "if"
    refine w_f (by decide +kernel) ?_
    walk_at "go"; walk_at "if"
    refine w_t (by decide +kernel) ?_
    walk_at "go"; walk_at "if"
    refine w_abs ?_
    refine w_I (aB_pos c0) ?_
    walk_at "go"
    refine w_nd (fun h => ?_) fun h => ?_ <;> walk_at "go"
    · rw [if_neg h] at k
      exact k
    · rw [if_pos h] at k
      refine w_I ⟨c0, by omega⟩ ?_
      walk_at "go"
      exact w_sp2 (.inl ⟨_, rfl, rfl, k⟩)
  | pre z =>
    obtain ⟨p, rfl, hp⟩ := cv_pre hc
    obtain ⟨y, rfl, yl, ya⟩ := vok_T vo
    dsimp only [vV]
    obtain ⟨c0, c1, c2⟩ := co
    walk_at "go"; walk_at "if"
    refine w_f (by decide +kernel) ?_
    walk_at "go"; walk_at "if"
    refine w_f (by decide +kernel) ?_
    walk_at "go"; walk_at "if"
    refine w_t (by decide +kernel) ?_
    walk_at "go"
    refine w_addS (sz (by omega)) ?_
    walk_at "go"
    exact w_sp2 (.inr ⟨_, rfl, rfl, by rw [str_len_append]; omega, fun x m => by rw [app_tl, List.mem_append] at m; exact m.elim (c2 x) (ya x), k⟩)
  | unp z =>
    obtain ⟨p, rfl, hp⟩ := cv_unp hc
    obtain ⟨y, rfl, yl, ya⟩ := vok_T vo
    dsimp only [vV]
    obtain ⟨c0, c1, c2⟩ := co
    change Q (ov (if beg y z = true then some (Val.tx (cut y z.length)) else none)) H at k
    walk_at "go"; walk_at "if"
    refine w_f (by decide +kernel) ?_
    walk_at "go"; walk_at "if"
    refine w_f (by decide +kernel) ?_
    walk_at "go"; walk_at "if"
    refine w_f (by decide +kernel) ?_
    walk_at "go"; walk_at "if"
    refine w_t (by decide +kernel) ?_
    walk_at "go"; walk_at "if"
    refine ⟨rfl, ?_⟩
    walk_at "go"
    refine w_starts ?_
    rw [starts_beg]
    walk_at "go"
    refine w_nb (fun h => ?_) fun h => ?_ <;> walk_at "go"
    · rw [if_neg (by rw [h]; exact fun z => nomatch z)] at k
      exact k
    · rw [if_pos h] at k
      refine w_slice ?_
      walk_at "go"
      refine w_part ?_
      walk_at "go"
      refine w_lenS (sz (by omega)) ?_
      refine ⟨_, rfl, ?_⟩
      refine w_noPart ?_
      refine w_slS (sz (by omega)) ?_
      rw [cutS_from]
      exact k
  | rcd kk l ps =>
    obtain ⟨p, q, rfl, hp, hq⟩ := cv_rcd hc
    walk_at "go"; walk_at "if"
    refine w_f (by decide +kernel) ?_
    walk_at "go"; walk_at "if"
    refine w_f (by decide +kernel) ?_
    walk_at "go"; walk_at "if"
    refine w_f (by decide +kernel) ?_
    walk_at "go"; walk_at "if"
    refine w_f (by decide +kernel) ?_
    walk_at "go"
    exact w_sp2 ⟨q, ps, kk, v, rfl, rfl, hq, vo, fun p m => (co.2.1 p m).1, k⟩
theorem w_convert {H : Hp} {a : V} {c : Cv} {v : Val} {Q : VK} {E : XK} (hc : Im H a (cD c)) (co : COk c) (vo : VOk (k1 c) v) (k : Q (ov (cvt c v)) H) : sp_convert K ([a, vV v] ++ []) H Q E := ⟨_, _, rfl, c, v, hc, rfl, co, vo, k⟩

/-! ### inverses and kinds -/
theorem tk2 {α : Type} {l : List α} {i : Nat} {x : α} (h : l[i]? = some x) : l.take (i + 1) = l.take i ++ [x] := by rw [List.take_add_one, h]; rfl
theorem im3 {H : Hp} {p : Addr} {x y z : V} {a b c : PyData} (h : H p = some (.tup [x, y, z])) (i : Im H x a) (j : Im H y b) (k : Im H z c) : Im H (.ref p) (.tuple [a, b, c]) := .tup h (show 3 ≤ 1000 by decide) (.cons i (.cons j (.cons k .nil)))
theorem im2 {H : Hp} {p : Addr} {x y : V} {a b : PyData} (h : H p = some (.tup [x, y])) (i : Im H x a) (j : Im H y b) : Im H (.ref p) (.tuple [a, b]) := .tup h (show 2 ≤ 1000 by decide) (.cons i (.cons j .nil))
theorem im4 {H : Hp} {p : Addr} {x y z u : V} {a b c d : PyData} (h : H p = some (.tup [x, y, z, u])) (i : Im H x a) (j : Im H y b) (k : Im H z c) (l : Im H u d) : Im H (.ref p) (.tuple [a, b, c, d]) := .tup h (show 4 ≤ 1000 by decide) (.cons i (.cons j (.cons k (.cons l .nil))))
theorem prs_swap (ps : List (Val × Val)) : (ps.map fun p => (p.2, p.1)).map prD3 = ps.map fun p => prD3 (p.2, p.1) := by rw [List.map_map]; rfl
def sp_inverse (K : PySem.W.Frag) : Sp := sp1 fun a H Q => ∃ c, Im H a (cD c) ∧ COk c ∧ ∀ v H', Ext [] H H' → Im H' v (cD (cI c)) → Q v H'
theorem ok_inverse (T : Txt K mg) : FnOk P w K mg base CX0 1 T.f_inverse T.d_inverse ["conversion"] (sp_inverse K) := by
  refine T.F_inverse.ok sc_inverse len1 (fun cdv A outer s H vs Q E hr h => ?_)
  have nd := sc_inverse.nd
  have hu := hu_of hr
  obtain ⟨_, rfl, c, hc, co, k⟩ := h
  refine ⟨_,
      (pss_cons (ps_set (i := 1) nd rfl (Or.inl rfl) (pe_ix ix_tup (pv 0) pe_int (fun _ _ => rfl))) 
      (pss_cons (ps_if (pt_cmpR op_eq (pv 1) pe_str (nomark _)) 
        (pss_one (ps_ret (pe_tupZ (pa_cons pe_str (pa_cons (pe_ix ix_tup (pv 0) pe_int (fun _ _ => rfl)) (pa_cons (pe_ix ix_tup (pv 0) pe_int (fun _ _ => rfl)) pa_nil)))))) pss_nil) 
      (pss_cons (ps_if (pt_cmpR op_eq (pv 1) pe_str (nomark _)) 
        (pss_one (ps_ret (pe_tupZ (pa_cons pe_str (pa_cons (pe_ix ix_tup (pv 0) pe_int (fun _ _ => rfl)) (pa_cons (pe_ix ix_tup (pv 0) pe_int (fun _ _ => rfl)) pa_nil)))))) pss_nil) 
      (pss_cons (ps_if (pt_cmpR op_eq (pv 1) pe_str (nomark _)) 
        (pss_one (ps_ret (pe_tupZ (pa_cons pe_str (pa_cons (pe_ix ix_tup (pv 0) pe_int (fun _ _ => rfl)) pa_nil))))) pss_nil) 
      (pss_cons (ps_if (pt_cmpR op_eq (pv 1) pe_str (nomark _)) 
        (pss_one (ps_ret (pe_tupZ (pa_cons pe_str (pa_cons (pe_ix ix_tup (pv 0) pe_int (fun _ _ => rfl)) pa_nil))))) pss_nil) 
      (pss_cons (ps_set (i := 2) nd rfl (Or.inl rfl) (pe_callTy zc_tup (by rfl) T.b_tuple (by decide +kernel) (pa_cons (pe_lc (own := [("left", 3), ("right", 4)]) rfl nd (pi_tup (pe_ix ix_tup (pv 0) pe_int (fun _ _ => rfl))) (blkOk_by (own := [("left", 3), ("right", 4)]) (N := ["conversion", "word", "pairs", "left", "right"]) (sc := defScope s_inverse) (by decide +kernel)) (fun _ _ _ _ _ => (pg_tupK (K := K) (n := 2) rfl rfl (pgs_cons (pg_name (i := 3) nd rfl (Or.inl rfl)) (pgs_cons (pg_name (i := 4) nd rfl (Or.inl rfl)) pgs_nil)))) (fun _ _ _ _ _ => pts_nil) (fun _ _ _ _ _ => (pe_tupZ (pa_cons (pv 4) (pa_cons (pv 3) pa_nil))))) pa_nil))) 
      (pss_one (ps_ret (pe_tupZ (pa_cons pe_str (pa_cons (pe_ix ix_tup (pv 0) pe_int (fun _ _ => rfl)) (pa_cons (pe_ix ix_tup (pv 0) pe_int (fun _ _ => rfl)) (pa_cons (pv 2) pa_nil))))))))))))), ?_⟩
  change (_ : TS) _ [some _, none, none, none, none] _
  try dsimp only [cxOf, Cx.nox, Cx.wish]
  cases c with
  | aff a b =>
    obtain ⟨p, rfl, hp⟩ := cv_aff hc
    walk_at "go"; walk_at "if"
    refine w_t (by decide +kernel) ?_
    walk_at "go"
    refine ⟨sz (by show 3 ≤ _; decide), w_alc fun t H1 e1 n1 h1 => ?_⟩
    exact k _ _ e1 (im3 h1 (.str _) (.int _) (.int _))
  | una a b =>
    obtain ⟨p, rfl, hp⟩ := cv_una hc
    walk_at "go"; walk_at "if"
    refine w_f (by decide +kernel) ?_
    walk_at "go"; walk_at "if"
    refine w_t (by decide +kernel) ?_
    walk_at "go"
    refine ⟨sz (by show 3 ≤ _; decide), w_alc fun t H1 e1 n1 h1 => ?_⟩
    exact k _ _ e1 (im3 h1 (.str _) (.int _) (.int _))
  | pre z =>
    obtain ⟨p, rfl, hp⟩ := cv_pre hc
    walk_at "go"; walk_at "if"
    refine w_f (by decide +kernel) ?_
    walk_at "go"; walk_at "if"
    refine w_f (by decide +kernel) ?_
    walk_at "go"; walk_at "if"
    refine w_t (by decide +kernel) ?_
    walk_at "go"
    refine ⟨sz (by show 2 ≤ _; decide), w_alc fun t H1 e1 n1 h1 => ?_⟩
    exact k _ _ e1 (im2 h1 (.str _) (.str _))
  | unp z =>
    obtain ⟨p, rfl, hp⟩ := cv_unp hc
    walk_at "go"; walk_at "if"
    refine w_f (by decide +kernel) ?_
    walk_at "go"; walk_at "if"
    refine w_f (by decide +kernel) ?_
    walk_at "go"; walk_at "if"
    refine w_f (by decide +kernel) ?_
    walk_at "go"; walk_at "if"
    refine w_t (by decide +kernel) ?_
    walk_at "go"
    refine ⟨sz (by show 2 ≤ _; decide), w_alc fun t H1 e1 n1 h1 => ?_⟩
    exact k _ _ e1 (im2 h1 (.str _) (.str _))
  | rcd kk l ps =>
    obtain ⟨p, q, rfl, hp, xs, hq, lz, ia⟩ := cv_rcd hc
    have lx : xs.length = ps.length := by rw [ia.len, List.length_map]
    walk_at "go"; walk_at "if"
    refine w_f (by decide +kernel) ?_
    walk_at "go"; walk_at "if"
    refine w_f (by decide +kernel) ?_
    walk_at "go"; walk_at "if"
    refine w_f (by decide +kernel) ?_
    walk_at "go"; walk_at "if"
    refine w_f (by decide +kernel) ?_
    walk_at "go"
    refine ⟨q, rfl, ⟨_, sqt hq⟩, fun D nD => ?_⟩
    refine z_lc_tup (xs := xs) (fun i acc H' => Ext [] H H' ∧ ImAll H' acc ((ps.take i).map fun p => prD3 (p.2, p.1))) nD (fun H' e => ⟨e, .nil⟩) (fun i acc H' _ ⟨e, _⟩ => sqt (e.tup hq)) ?_ ?_
    · rintro Nx i x acc H1 hx ⟨e1, hac⟩ hD hN
      obtain ⟨a, pr, rfl, he, ha⟩ := prs_at ia hx
      have ha1 := e1.tup ha
      walk_at "go"
      refine ⟨rfl, ?_⟩
      walk_at "go"
      refine ⟨sz (by show 2 ≤ _; decide), w_alc fun t H2 e2 n2 h2 => ?_⟩
      have lac : acc.length ≤ xs.length := by rw [hac.len, List.length_map, List.length_take, lx]; omega
      refine w_app (e2.keep _ _ hD List.not_mem_nil) (szl (by omega)) fun H3 e3 h3 => ?_
      refine hN _ _ ⟨(e1.trans e2).dropq e3 nD, ?_⟩ h3
      rw [tk2 he, List.map_append]
      exact ImAll.snoc (im2 (e3.tup h2) (im_val _) (im_val _)) ((hac.ext e2).ext e3)
    · rintro acc H1 ⟨e1, hac⟩ hD
      walk_at "go"
      refine w_tupL (sql hD) (w_alc fun t H2 e2 n2 h2 => ?_)
      walk_at "go"
      refine ⟨sz (by show 4 ≤ _; decide), w_alc fun t2 H3 e3 n3 h3 => ?_⟩
      refine k _ _ ((e1.trans e2).trans e3) (im4 h3 (.str _) (.str _) (.str _) ?_)
      rw [prs_swap]
      rw [lx, List.take_length] at hac
      exact .tup (e3.tup h2) (by rw [hac.len, List.length_map]; have := co.1; omega) ((hac.ext e2).ext e3)
def sp_law_inverse (K : PySem.W.Frag) : Sp := sp_inverse K
theorem ok_law_inverse (T : Txt K mg) : FnOk P w K mg base CX0 1 T.f__law_inverse T.d__law_inverse ["conversion"] (sp_law_inverse K) := by
  refine T.F__law_inverse.ok sc_law_inverse len1 (fun cdv A outer s H vs Q E hr h => ?_)
  have nd := sc_law_inverse.nd
  have hu := hu_of hr
  obtain ⟨_, rfl, c, hc, co, k⟩ := h
  refine ⟨_,
      (pss_cons (ps_if (pt_cmpR op_eq (pe_ix ix_tup (pv 0) pe_int (fun _ _ => rfl)) pe_str (nomark _)) 
        (pss_cons (ps_set (i := 1) nd rfl (Or.inl rfl) (pe_callTy zc_tup (by rfl) T.b_tuple (by decide +kernel) (pa_cons (pe_lc (own := [("left", 2), ("right", 3)]) rfl nd (pi_tup (pe_ix ix_tup (pv 0) pe_int (fun _ _ => rfl))) (blkOk_by (own := [("left", 2), ("right", 3)]) (N := ["conversion", "pairs", "left", "right"]) (sc := defScope s_law_inverse) (by decide +kernel)) (fun _ _ _ _ _ => (pg_tupK (K := K) (n := 2) rfl rfl (pgs_cons (pg_name (i := 2) nd rfl (Or.inl rfl)) (pgs_cons (pg_name (i := 3) nd rfl (Or.inl rfl)) pgs_nil)))) (fun _ _ _ _ _ => pts_nil) (fun _ _ _ _ _ => (pe_tupZ (pa_cons (pv 3) (pa_cons (pv 2) pa_nil))))) pa_nil))) 
        (pss_one (ps_ret (pe_tupZ (pa_cons pe_str (pa_cons (pe_ix ix_tup (pv 0) pe_int (fun _ _ => rfl)) (pa_cons (pe_ix ix_tup (pv 0) pe_int (fun _ _ => rfl)) (pa_cons (pv 1) pa_nil)))))))) pss_nil) 
      (pss_cons (ps_if (pt_cmpR op_eq (pe_ix ix_tup (pv 0) pe_int (fun _ _ => rfl)) pe_str (nomark _)) 
        (pss_one (ps_ret (pe_tupZ (pa_cons pe_str (pa_cons (pe_ix ix_tup (pv 0) pe_int (fun _ _ => rfl)) (pa_cons (pe_ix ix_tup (pv 0) pe_int (fun _ _ => rfl)) pa_nil)))))) pss_nil) 
      (pss_cons (ps_if (pt_cmpR op_eq (pe_ix ix_tup (pv 0) pe_int (fun _ _ => rfl)) pe_str (nomark _)) 
        (pss_one (ps_ret (pe_tupZ (pa_cons pe_str (pa_cons (pe_ix ix_tup (pv 0) pe_int (fun _ _ => rfl)) (pa_cons (pe_ix ix_tup (pv 0) pe_int (fun _ _ => rfl)) pa_nil)))))) pss_nil) 
      (pss_one (ps_ret (pe_tupZ (pa_cons (pe_ifExp (pt_cmpR op_eq (pe_ix ix_tup (pv 0) pe_int (fun _ _ => rfl)) pe_str (nomark _)) pe_str pe_str) (pa_cons (pe_ix ix_tup (pv 0) pe_int (fun _ _ => rfl)) pa_nil)))))))), ?_⟩
  change (_ : TS) _ [some _, none, none, none] _
  try dsimp only [cxOf, Cx.nox, Cx.wish]
  cases c with
  | aff a b =>
    obtain ⟨p, rfl, hp⟩ := cv_aff hc
    walk_at "go"; walk_at "if"
    refine w_f (by decide +kernel) ?_
    walk_at "go"; walk_at "if"
    refine w_t (by decide +kernel) ?_
    walk_at "go"
    refine ⟨sz (by show 3 ≤ _; decide), w_alc fun t H1 e1 n1 h1 => ?_⟩
    exact k _ _ e1 (im3 h1 (.str _) (.int _) (.int _))
  | una a b =>
    obtain ⟨p, rfl, hp⟩ := cv_una hc
    walk_at "go"; walk_at "if"
    refine w_f (by decide +kernel) ?_
    walk_at "go"; walk_at "if"
    refine w_f (by decide +kernel) ?_
    walk_at "go"; walk_at "if"
    refine w_t (by decide +kernel) ?_
    walk_at "go"
    refine ⟨sz (by show 3 ≤ _; decide), w_alc fun t H1 e1 n1 h1 => ?_⟩
    exact k _ _ e1 (im3 h1 (.str _) (.int _) (.int _))
  | pre z =>
    obtain ⟨p, rfl, hp⟩ := cv_pre hc
    walk_at "go"; walk_at "if"
    refine w_f (by decide +kernel) ?_
    walk_at "go"; walk_at "if"
    refine w_f (by decide +kernel) ?_
    walk_at "go"; walk_at "if"
    refine w_f (by decide +kernel) ?_
    walk_at "go"; walk_at "ife"
    refine w_t (by decide +kernel) ?_
    walk_at "go"
    refine ⟨sz (by show 2 ≤ _; decide), w_alc fun t H1 e1 n1 h1 => ?_⟩
    exact k _ _ e1 (im2 h1 (.str _) (.str _))
  | unp z =>
    obtain ⟨p, rfl, hp⟩ := cv_unp hc
    walk_at "go"; walk_at "if"
    refine w_f (by decide +kernel) ?_
    walk_at "go"; walk_at "if"
    refine w_f (by decide +kernel) ?_
    walk_at "go"; walk_at "if"
    refine w_f (by decide +kernel) ?_
    walk_at "go"; walk_at "ife"
    refine w_f (by decide +kernel) ?_
    walk_at "go"
    refine ⟨sz (by show 2 ≤ _; decide), w_alc fun t H1 e1 n1 h1 => ?_⟩
    exact k _ _ e1 (im2 h1 (.str _) (.str _))
  | rcd kk l ps =>
    obtain ⟨p, q, rfl, hp, xs, hq, lz, ia⟩ := cv_rcd hc
    have lx : xs.length = ps.length := by rw [ia.len, List.length_map]
    walk_at "go"; walk_at "if"
    refine w_t (by decide +kernel) ?_
    walk_at "go"
    refine ⟨q, rfl, ⟨_, sqt hq⟩, fun D nD => ?_⟩
    refine z_lc_tup (xs := xs) (fun i acc H' => Ext [] H H' ∧ ImAll H' acc ((ps.take i).map fun p => prD3 (p.2, p.1))) nD (fun H' e => ⟨e, .nil⟩) (fun i acc H' _ ⟨e, _⟩ => sqt (e.tup hq)) ?_ ?_
    · rintro Nx i x acc H1 hx ⟨e1, hac⟩ hD hN
      obtain ⟨a, pr, rfl, he, ha⟩ := prs_at ia hx
      have ha1 := e1.tup ha
      walk_at "go"
      refine ⟨rfl, ?_⟩
      walk_at "go"
      refine ⟨sz (by show 2 ≤ _; decide), w_alc fun t H2 e2 n2 h2 => ?_⟩
      have lac : acc.length ≤ xs.length := by rw [hac.len, List.length_map, List.length_take, lx]; omega
      refine w_app (e2.keep _ _ hD List.not_mem_nil) (szl (by omega)) fun H3 e3 h3 => ?_
      refine hN _ _ ⟨(e1.trans e2).dropq e3 nD, ?_⟩ h3
      rw [tk2 he, List.map_append]
      exact ImAll.snoc (im2 (e3.tup h2) (im_val _) (im_val _)) ((hac.ext e2).ext e3)
    · rintro acc H1 ⟨e1, hac⟩ hD
      walk_at "go"
      refine w_tupL (sql hD) (w_alc fun t H2 e2 n2 h2 => ?_)
      walk_at "go"
      refine ⟨sz (by show 4 ≤ _; decide), w_alc fun t2 H3 e3 n3 h3 => ?_⟩
      refine k _ _ ((e1.trans e2).trans e3) (im4 h3 (.str _) (.str _) (.str _) ?_)
      rw [prs_swap]
      rw [lx, List.take_length] at hac
      exact .tup (e3.tup h2) (by rw [hac.len, List.length_map]; have := co.1; omega) ((hac.ext e2).ext e3)
theorem w_inverse {H : Hp} {a : V} {c : Cv} {Q : VK} {E : XK} (hc : Im H a (cD c)) (co : COk c) (k : ∀ v H', Ext [] H H' → Im H' v (cD (cI c)) → Q v H') : sp_inverse K ([a] ++ []) H Q E := ⟨_, rfl, c, hc, co, k⟩
theorem w_linverse {H : Hp} {a : V} {c : Cv} {Q : VK} {E : XK} (hc : Im H a (cD c)) (co : COk c) (k : ∀ v H', Ext [] H H' → Im H' v (cD (cI c)) → Q v H') : sp_law_inverse K ([a] ++ []) H Q E := ⟨_, rfl, c, hc, co, k⟩
def kD (c : Cv) : PyData := .tuple [.str (kS (k1 c)), .str (kS (k2 c))]
def KAt (H : Hp) (v : V) (c : Cv) : Prop := ∃ p, v = .ref p ∧ H p = some (.tup [.str (kS (k1 c)), .str (kS (k2 c))])
def sp_conversion_kinds (K : PySem.W.Frag) : Sp := sp1 fun a H Q => ∃ c, Im H a (cD c) ∧ ∀ v H', Ext [] H H' → KAt H' v c → Q v H'
theorem ok_conversion_kinds (T : Txt K mg) : FnOk P w K mg base CX0 1 T.f_conversion_kinds T.d_conversion_kinds ["conversion"] (sp_conversion_kinds K) := by
  refine T.F_conversion_kinds.ok sc_conversion_kinds len1 (fun cdv A outer s H vs Q E hr h => ?_)
  have nd := sc_conversion_kinds.nd
  have hu := hu_of hr
  obtain ⟨_, rfl, c, hc, k⟩ := h
  refine ⟨_,
      (pss_cons (ps_set (i := 1) nd rfl (Or.inl rfl) (pe_ix ix_tup (pv 0) pe_int (fun _ _ => rfl))) 
      (pss_cons (ps_if (pt_cmpR op_eq (pv 1) pe_str (nomark _)) 
        (pss_one (ps_ret (pe_tupZ (pa_cons (pe_ix ix_tup (pv 0) pe_int (fun _ _ => rfl)) (pa_cons (pe_ix ix_tup (pv 0) pe_int (fun _ _ => rfl)) pa_nil))))) pss_nil) 
      (pss_cons (ps_if (pt_cmpR op_in_seq (pv 1) (pe_tupZ (pa_cons pe_str (pa_cons pe_str pa_nil))) (by rfl)) 
        (pss_one (ps_ret (pe_tupZ (pa_cons pe_str (pa_cons pe_str pa_nil))))) pss_nil) 
      (pss_one (ps_ret (pe_tupZ (pa_cons pe_str (pa_cons pe_str pa_nil)))))))), ?_⟩
  change (_ : TS) _ [some _, none] _
  try dsimp only [cxOf, Cx.nox, Cx.wish]
  cases c with
  | aff a b =>
    obtain ⟨p, rfl, hp⟩ := cv_aff hc
    walk_at "go"; walk_at "if"
    refine w_f (by decide +kernel) ?_
    walk_at "go"; walk_at "if"
    refine ⟨sz (by show 2 ≤ _; decide), w_alc fun t H1 e1 n1 h1 => ?_⟩
    refine w_inS (ns := [Str.ofString "affine", Str.ofString "unaffine"]) (.inr (sqt h1)) ?_
    refine w_bl ?_
    refine w_t (by decide +kernel) ?_
    walk_at "go"
    refine ⟨sz (by show 2 ≤ _; decide), w_alc fun t2 H2 e2 n2 h2 => ?_⟩
    exact k _ _ (e1.trans e2) ⟨t2, rfl, h2⟩
  | una a b =>
    obtain ⟨p, rfl, hp⟩ := cv_una hc
    walk_at "go"; walk_at "if"
    refine w_f (by decide +kernel) ?_
    walk_at "go"; walk_at "if"
    refine ⟨sz (by show 2 ≤ _; decide), w_alc fun t H1 e1 n1 h1 => ?_⟩
    refine w_inS (ns := [Str.ofString "affine", Str.ofString "unaffine"]) (.inr (sqt h1)) ?_
    refine w_bl ?_
    refine w_t (by decide +kernel) ?_
    walk_at "go"
    refine ⟨sz (by show 2 ≤ _; decide), w_alc fun t2 H2 e2 n2 h2 => ?_⟩
    exact k _ _ (e1.trans e2) ⟨t2, rfl, h2⟩
  | pre z =>
    obtain ⟨p, rfl, hp⟩ := cv_pre hc
    walk_at "go"; walk_at "if"
    refine w_f (by decide +kernel) ?_
    walk_at "go"; walk_at "if"
    refine ⟨sz (by show 2 ≤ _; decide), w_alc fun t H1 e1 n1 h1 => ?_⟩
    refine w_inS (ns := [Str.ofString "affine", Str.ofString "unaffine"]) (.inr (sqt h1)) ?_
    refine w_bl ?_
    refine w_f (by decide +kernel) ?_
    walk_at "go"
    refine ⟨sz (by show 2 ≤ _; decide), w_alc fun t2 H2 e2 n2 h2 => ?_⟩
    exact k _ _ (e1.trans e2) ⟨t2, rfl, h2⟩
  | unp z =>
    obtain ⟨p, rfl, hp⟩ := cv_unp hc
    walk_at "go"; walk_at "if"
    refine w_f (by decide +kernel) ?_
    walk_at "go"; walk_at "if"
    refine ⟨sz (by show 2 ≤ _; decide), w_alc fun t H1 e1 n1 h1 => ?_⟩
    refine w_inS (ns := [Str.ofString "affine", Str.ofString "unaffine"]) (.inr (sqt h1)) ?_
    refine w_bl ?_
    refine w_f (by decide +kernel) ?_
    walk_at "go"
    refine ⟨sz (by show 2 ≤ _; decide), w_alc fun t2 H2 e2 n2 h2 => ?_⟩
    exact k _ _ (e1.trans e2) ⟨t2, rfl, h2⟩
  | rcd kk l ps =>
    obtain ⟨p, q, rfl, hp, hq⟩ := cv_rcd hc
    walk_at "go"; walk_at "if"
    refine w_t (by decide +kernel) ?_
    walk_at "go"
    refine ⟨sz (by show 2 ≤ _; decide), w_alc fun t H1 e1 n1 h1 => ?_⟩
    exact k _ _ e1 ⟨t, rfl, h1⟩
def sp_law_kinds (K : PySem.W.Frag) : Sp := sp_conversion_kinds K
theorem ok_law_kinds (T : Txt K mg) : FnOk P w K mg base CX0 1 T.f__law_kinds T.d__law_kinds ["conversion"] (sp_law_kinds K) := by
  refine T.F__law_kinds.ok sc_law_kinds len1 (fun cdv A outer s H vs Q E hr h => ?_)
  have nd := sc_law_kinds.nd
  have hu := hu_of hr
  obtain ⟨_, rfl, c, hc, k⟩ := h
  refine ⟨_,
      (pss_cons (ps_if (pt_cmpR op_eq (pe_ix ix_tup (pv 0) pe_int (fun _ _ => rfl)) pe_str (nomark _)) 
        (pss_one (ps_ret (pe_tupZ (pa_cons (pe_ix ix_tup (pv 0) pe_int (fun _ _ => rfl)) (pa_cons (pe_ix ix_tup (pv 0) pe_int (fun _ _ => rfl)) pa_nil))))) pss_nil) 
      (pss_cons (ps_if (PW.pt (pw_or (pt_cmpR op_eq (pe_ix ix_tup (pv 0) pe_int (fun _ _ => rfl)) pe_str (nomark _)) (pw_or1 (pt_cmpR op_eq (pe_ix ix_tup (pv 0) pe_int (fun _ _ => rfl)) pe_str (nomark _))))) 
        (pss_one (ps_ret (pe_tupZ (pa_cons pe_str (pa_cons pe_str pa_nil))))) pss_nil) 
      (pss_one (ps_ret (pe_tupZ (pa_cons pe_str (pa_cons pe_str pa_nil))))))), ?_⟩
  change (_ : TS) _ [some _] _
  try dsimp only [cxOf, Cx.nox, Cx.wish]
  cases c with
  | aff a b =>
    obtain ⟨p, rfl, hp⟩ := cv_aff hc
    walk_at "go"; walk_at "if"
    refine w_f (by decide +kernel) ?_
    walk_at "go"; walk_at "if"
    refine w_t (by decide +kernel) ?_
    walk_at "go"
    refine ⟨sz (by show 2 ≤ _; decide), w_alc fun t2 H2 e2 n2 h2 => ?_⟩
    exact k _ _ e2 ⟨t2, rfl, h2⟩
  | una a b =>
    obtain ⟨p, rfl, hp⟩ := cv_una hc
    walk_at "go"; walk_at "if"
    refine w_f (by decide +kernel) ?_
    walk_at "go"; walk_at "if"
    refine w_f (by decide +kernel) ?_
    walk_at "go"
    refine w_t (by decide +kernel) ?_
    walk_at "go"
    refine ⟨sz (by show 2 ≤ _; decide), w_alc fun t2 H2 e2 n2 h2 => ?_⟩
    exact k _ _ e2 ⟨t2, rfl, h2⟩
  | pre z =>
    obtain ⟨p, rfl, hp⟩ := cv_pre hc
    walk_at "go"; walk_at "if"
    refine w_f (by decide +kernel) ?_
    walk_at "go"; walk_at "if"
    refine w_f (by decide +kernel) ?_
    walk_at "go"
    refine w_f (by decide +kernel) ?_
    walk_at "go"
    refine ⟨sz (by show 2 ≤ _; decide), w_alc fun t2 H2 e2 n2 h2 => ?_⟩
    exact k _ _ e2 ⟨t2, rfl, h2⟩
  | unp z =>
    obtain ⟨p, rfl, hp⟩ := cv_unp hc
    walk_at "go"; walk_at "if"
    refine w_f (by decide +kernel) ?_
    walk_at "go"; walk_at "if"
    refine w_f (by decide +kernel) ?_
    walk_at "go"
    refine w_f (by decide +kernel) ?_
    walk_at "go"
    refine ⟨sz (by show 2 ≤ _; decide), w_alc fun t2 H2 e2 n2 h2 => ?_⟩
    exact k _ _ e2 ⟨t2, rfl, h2⟩
  | rcd kk l ps =>
    obtain ⟨p, q, rfl, hp, hq⟩ := cv_rcd hc
    walk_at "go"; walk_at "if"
    refine w_t (by decide +kernel) ?_
    walk_at "go"
    refine ⟨sz (by show 2 ≤ _; decide), w_alc fun t H1 e1 n1 h1 => ?_⟩
    exact k _ _ e1 ⟨t, rfl, h1⟩

/-! ### lists of conversions -/
def CvL (H : Hp) (p : Addr) (cs : List Cv) : Prop := ∃ xs, H p = some (.lst xs) ∧ ImAll H xs (cs.map cD) ∧ cs.length ≤ 20
theorem CvL_ext {H H' : Hp} {p : Addr} {cs : List Cv} {M : List Addr} (h : CvL H p cs) (e : Ext M H H') (n : p ∉ M) : CvL H' p cs := by
  obtain ⟨xs, hp, ia, l⟩ := h
  exact ⟨xs, e.keep _ _ hp n, ia.ext e, l⟩
theorem cvs_at {H : Hp} {xs : List V} {cs : List Cv} (h : ImAll H xs (cs.map cD)) {i : Nat} {x : V} (e : xs[i]? = some x) : ∃ c, cs[i]? = some c ∧ Im H x (cD c) := by
  obtain ⟨d, hd, im⟩ := h.at' e
  rw [List.getElem?_map] at hd
  cases q : cs[i]? with
  | none => rw [q] at hd; cases hd
  | some c => rw [q] at hd; cases hd; exact ⟨c, rfl, im⟩
theorem imall_app {H : Hp} : ∀ {xs ys : List V} {ds es : List PyData}, ImAll H xs ds → ImAll H ys es → ImAll H (xs ++ ys) (ds ++ es)
  | _, _, _, _, .nil, k => k
  | _, _, _, _, .cons h t, k => .cons h (imall_app t k)
theorem imall_rev {H : Hp} : ∀ {xs : List V} {ds : List PyData}, ImAll H xs ds → ImAll H xs.reverse ds.reverse
  | _, _, .nil => .nil
  | _, _, .cons h t => by
    rw [List.reverse_cons, List.reverse_cons]
    exact imall_app (imall_rev t) (.cons h .nil)
theorem chn_at : ∀ {cs : List Cv} {k l : Kd} {i : Nat} {c : Cv}, Chn k cs l → cs[i]? = some c → COk c ∧ Chn k (cs.take i) (k1 c)
  | _ :: _, _, _, 0, _, h, e => by
    cases e
    exact ⟨h.1, h.2.1.symm⟩
  | b :: cs, k, l, i + 1, c, h, e => by
    obtain ⟨x, y⟩ := chn_at h.2.2 (show cs[i]? = some c from e)
    exact ⟨x, h.1, h.2.1, y⟩
theorem thr_snoc (cs : List Cv) (c : Cv) (v : Val) : thr (cs ++ [c]) v = (thr cs v).bind (cvt c) := by
  rw [thr_app]
  congr 1
  funext u
  show (cvt c u).bind (thr []) = cvt c u
  cases cvt c u <;> rfl
def sp_convert_through (K : PySem.W.Frag) : Sp := sp2 fun a b H Q => ∃ (p : Addr) (cs : List Cv) (k l : Kd) (v : Val), a = .ref p ∧ b = vV v ∧ CvL H p cs ∧ Chn k cs l ∧ VOk k v ∧ Q (ov (thr cs v)) H
theorem ok_convert_through (T : Txt K mg) : FnOk P w K mg base CX0 5 T.f_convert_through T.d_convert_through ["conversions", "value"] (sp_convert_through K) := by
  refine T.F_convert_through.ok sc_convert_through len2 (fun cdv A outer s H vs Q E hr h => ?_)
  have nd := sc_convert_through.nd
  have hu := hu_of hr
  obtain ⟨_, _, rfl, p, cs, kd, ld, v, rfl, rfl, ⟨xs, hp, ia, lc⟩, ch, hv, k⟩ := h
  refine ⟨_,
      (pss_cons (ps_for PassesOwn.never rfl (pi_list (pv 0)) (pg_name (i := 2) nd rfl (Or.inl rfl)) 
        (pss_cons (ps_set (i := 1) nd rfl (Or.inl rfl) (pe_call (ok_convert T) (hr.mono (by decide)) (by rfl) T.g_convert T.F_convert.kp T.k_convert .nil pass0 (pa_cons (pv 2) (pa_cons (pv 1) pa_nil)))) 
        (pss_one (ps_if (pt_cmpR zop_isN (pv 1) pe_non (nomark _)) 
          (pss_one (ps_ret pe_non)) pss_nil)))) 
      (pss_one (ps_ret (pv 1)))), ?_⟩
  change (_ : TS) _ [some _, some _, none] _
  try dsimp only [cxOf, Cx.nox, Cx.wish]
  have lx : xs.length = cs.length := by rw [ia.len, List.length_map]
  walk_at "go"
  refine ⟨p, rfl, ⟨_, sql hp⟩, ?_⟩
  refine z_for_list (xs := xs) (fun i σ' H' => H = H' ∧ ∃ r u, thr (cs.take i) v = some r ∧ σ' = [some (.ref p), some (vV r), u]) ⟨rfl, v, _, rfl, rfl⟩ (fun i σ' H' _ ⟨e, _⟩ => e ▸ sql hp) ?_ ?_
  · rintro N i x σ' H1 hx ⟨rfl, r, u, hr, rfl⟩ hN
    obtain ⟨c, hc, im⟩ := cvs_at ia hx
    obtain ⟨co, ct⟩ := chn_at ch hc
    have ho : thr (cs.take (i + 1)) v = cvt c r := by rw [tk2 hc, thr_snoc, hr]; rfl
    walk_at "go"
    refine w_convert im co (thr_ok ct hv hr) ?_
    walk_at "go"; walk_at "if"
    cases q : cvt c r with
    | none =>
      refine w_t rfl ?_
      walk_at "go"
      rw [← List.take_append_drop (i + 1) cs, thr_app, ho, q] at k
      exact k
    | some r' =>
      refine w_f (by cases r' <;> rfl) ?_
      walk_at "go"
      exact hN _ _ ⟨rfl, r', _, ho.trans q, rfl⟩
  · rintro σ' H1 ⟨rfl, r, u, hr, rfl⟩
    rw [lx, List.take_length] at hr
    rw [hr] at k
    walk_at "go"
    exact k
def sp_inverse_list (K : PySem.W.Frag) : Sp := sp1 fun a H Q => ∃ (p : Addr) (cs : List Cv), a = .ref p ∧ CvL H p cs ∧ (∀ c ∈ cs, COk c) ∧ ∀ q H', Ext [] H H' → H q = none → CvL H' q (cs.reverse.map cI) → Q (.ref q) H'
theorem ok_inverse_list (T : Txt K mg) : FnOk P w K mg base CX0 2 T.f_inverse_list T.d_inverse_list ["conversions"] (sp_inverse_list K) := by
  refine T.F_inverse_list.ok sc_inverse_list len1 (fun cdv A outer s H vs Q E hr h => ?_)
  have nd := sc_inverse_list.nd
  have hu := hu_of hr
  obtain ⟨_, rfl, p, cs, rfl, ⟨xs, hp, ia, lc⟩, co, k⟩ := h
  refine ⟨_,
      (pss_one (ps_ret (pe_lc (own := [("conversion", 1)]) rfl nd (pi_reversed (by rfl) T.b_reversed (pa_cons (pv 0) pa_nil)) (blkOk_by (own := [("conversion", 1)]) (N := ["conversions", "conversion"]) (sc := defScope s_inverse_list) (by decide +kernel)) (fun _ _ _ _ _ => (pg_name (i := 1) nd rfl (Or.inl rfl))) (fun _ _ _ _ _ => pts_nil) (fun _ _ _ _ _ => (pe_call (ok_inverse T) (hr.mono (by decide)) (by rfl) T.g_inverse T.F_inverse.kp T.k_inverse .nil pass0 (pa_cons (pv 1) pa_nil)))))), ?_⟩
  change (_ : TS) _ [some _, none] _
  try dsimp only [cxOf, Cx.nox, Cx.wish]
  have lx : xs.length = cs.length := by rw [ia.len, List.length_map]
  have ir := imall_rev ia
  rw [← List.map_reverse] at ir
  walk_at "go"
  refine w_iRev ?_
  walk_at "go"
  refine ⟨p, xs, rfl, sql hp, fun D nD => ?_⟩
  refine z_lc_rev (xs := xs) (fun i acc H' => Ext [] H H' ∧ ImAll H' acc (((cs.reverse.take i).map cI).map cD)) nD (fun H' e => ⟨e, .nil⟩) (fun i acc H' _ ⟨e, _⟩ => sql (e.keep _ _ hp List.not_mem_nil)) ?_ ?_
  · rintro Nx i x acc H1 hx ⟨e1, hac⟩ hD hN
    obtain ⟨c, hc, im⟩ := cvs_at ir hx
    walk_at "go"
    refine ⟨rfl, ?_⟩
    walk_at "go"
    refine w_inverse (im.ext e1) (co c (List.mem_reverse.mp (List.mem_of_getElem? hc))) fun v H2 e2 i2 => ?_
    have lac : acc.length ≤ xs.length := by rw [hac.len, List.length_map, List.length_map, List.length_take, List.length_reverse, lx]; omega
    refine w_app (e2.keep _ _ hD List.not_mem_nil) (szl (by omega)) fun H3 e3 h3 => ?_
    refine hN _ _ ⟨(e1.trans e2).dropq e3 nD, ?_⟩ h3
    rw [tk2 hc, List.map_append, List.map_append]
    exact ImAll.snoc (i2.ext e3) ((hac.ext e2).ext e3)
  · rintro acc H1 ⟨e1, hac⟩ hD
    rw [lx, ← List.length_reverse, List.take_length] at hac
    exact k D H1 e1 nD ⟨acc, hD, hac, by rw [List.length_map, List.length_reverse]; exact lc⟩
/-! ### the law's own conversions -/
def sp_law_conv (K : PySem.W.Frag) : Sp := sp_convert K
theorem ok_law_conv (T : Txt K mg) : FnOk P w K mg base CX0 1 T.f__law_conv T.d__law_conv ["conversion", "value"] (sp_law_conv K) := by
  refine T.F__law_conv.ok sc_law_conv len2 (fun cdv A outer s H vs Q E hr h => ?_)
  have nd := sc_law_conv.nd
  have hu := hu_of hr
  obtain ⟨_, _, rfl, c, v, hc, rfl, co, vo, k⟩ := h
  refine ⟨_,
      (pss_cons (ps_set (i := 2) nd rfl (Or.inl rfl) (pe_ix ix_tup (pv 0) pe_int (fun _ _ => rfl))) 
      (pss_cons (ps_if (pt_cmpR op_eq (pv 2) pe_str (nomark _)) 
        (pss_cons (ps_for PassesOwn.never rfl (pi_tup (pe_ix ix_tup (pv 0) pe_int (fun _ _ => rfl))) (pg_tup (by rfl) (pgs_cons (pg_name (i := 3) nd rfl (Or.inl rfl)) (pgs_cons (pg_name (i := 4) nd rfl (Or.inl rfl)) pgs_nil))) 
          (pss_one (ps_if (pt_cmpR op_eq (pv 3) (pv 1) (nomark _)) 
            (pss_one (ps_ret (pv 4))) pss_nil))) 
        (pss_one (ps_ret pe_non))) pss_nil) 
      (pss_cons (ps_if (pt_cmpR op_eq (pv 2) pe_str (nomark _)) 
        (pss_cons (ps_set (i := 1) nd rfl (Or.inl rfl) (pe_op zop_addS (pe_ix ix_tup (pv 0) pe_int (fun _ _ => rfl)) (pv 1))) 
        (pss_one (ps_ret (pe_ifExp (pt_cmpR op_le (pe_callB zc_len (by rfl) T.b_len (by decide +kernel) (pa_cons (pv 1) pa_nil)) pe_int (nomark _)) (pv 1) pe_non)))) pss_nil) 
      (pss_cons (ps_if (pt_cmpR op_eq (pv 2) pe_str (nomark _)) 
        (pss_cons (ps_set (i := 5) nd rfl (Or.inl rfl) (pe_callB zc_len (by rfl) T.b_len (by decide +kernel) (pa_cons (pe_ix ix_tup (pv 0) pe_int (fun _ _ => rfl)) pa_nil))) 
        (pss_one (ps_ret (pe_ifExp (pt_cmpR op_eq (pe_slice sl_str (pv 1) po_none (po_some (pv 5))) (pe_ix ix_tup (pv 0) pe_int (fun _ _ => rfl)) (nomark _)) (pe_slice sl_str (pv 1) (po_some (pv 5)) po_none) pe_non)))) pss_nil) 
      (pss_cons (ps_if (pt_cmpR op_eq (pv 2) pe_str (nomark _)) 
        (pss_one (ps_set (i := 1) nd rfl (Or.inl rfl) (pe_op op_add (pe_op op_mulW (pe_ix ix_tup (pv 0) pe_int (fun _ _ => rfl)) (pv 1)) (pe_ix ix_tup (pv 0) pe_int (fun _ _ => rfl))))) 
        (pss_one (ps_if (pt_cmpR op_eq (pe_op op_mod (pe_callTy zc_int (by rfl) T.b_int (by decide +kernel) (pa_cons (pe_op op_sub (pv 1) (pe_ix ix_tup (pv 0) pe_int (fun _ _ => rfl))) pa_nil)) (pe_callB zc_abs (by rfl) T.b_abs (by decide +kernel) (pa_cons (pe_ix ix_tup (pv 0) pe_int (fun _ _ => rfl)) pa_nil))) pe_int (nomark _)) 
          (pss_one (ps_set (i := 1) nd rfl (Or.inl rfl) (pe_op op_fdivN (pe_op op_sub (pv 1) (pe_ix ix_tup (pv 0) pe_int (fun _ _ => rfl))) (pe_ix ix_tup (pv 0) pe_int (fun _ _ => rfl))))) 
          (pss_one (ps_ret pe_non))))) 
      (pss_one (ps_ret (pe_ifExp (pt_chain op_le op_le (pe_un un_neg pe_int) (pv 1) pe_int) (pv 1) pe_non)))))))), ?_⟩
  change (_ : TS) _ [some _, some _, none, none, none, none] _
  try dsimp only [cxOf, Cx.nox, Cx.wish]
  have fin : ∀ (n : Int) (H' : Hp), Q (ov (rng n)) H' → ∀ {σ : L2.St} {R : VK}, True → True := fun _ _ _ _ _ _ => trivial
  cases c with
  | aff a b =>
    obtain ⟨p, rfl, hp⟩ := cv_aff hc
    obtain ⟨n, rfl, n0, n1⟩ := vok_I vo
    dsimp only [vV]
    obtain ⟨c0, c1, c2, c3, c4⟩ := co
    change Q (ov (rng (a * n + b))) H at k
    walk_at "go"; walk_at "if"
    refine w_f (by decide +kernel) ?_
    walk_at "go"; walk_at "if"
    refine w_f (by decide +kernel) ?_
    walk_at "go"; walk_at "if"
    refine w_f (by decide +kernel) ?_
    walk_at "go"; walk_at "if"
    refine w_t (by decide +kernel) ?_
    walk_at "go"; walk_at "ife"
    refine w_chain ?_
    walk_at "go"
    unfold rng at k
    refine w_d (fun h => ?_) fun h => ?_ <;> walk_at "go"
    · refine w_d (fun h2 => ?_) fun h2 => ?_ <;> walk_at "go"
      · rw [if_pos ⟨h, h2⟩] at k; exact k
      · rw [if_neg (fun z => h2 z.2)] at k; exact k
    · rw [if_neg (fun z => h z.1)] at k; exact k
  | una a b =>
    obtain ⟨p, rfl, hp⟩ := cv_una hc
    obtain ⟨n, rfl, n0, n1⟩ := vok_I vo
    dsimp only [vV]
    obtain ⟨c0, c1, c2, c3, c4⟩ := co
    change Q (ov (if (n - b) % aB a = 0 then rng ((n - b).fdiv a) else none)) H at k
    walk_at "go"; walk_at "if"
    refine w_f (by decide +kernel) ?_
    walk_at "go"; walk_at "if"
    refine w_f (by decide +kernel) ?_
    walk_at "go"; walk_at "if"
    refine w_f (by decide +kernel) ?_
    walk_at "go"; walk_at "if"
    refine w_f (by decide +kernel) ?_
    walk_at "go"; walk_at "if"
    refine w_abs ?_
    refine w_I (aB_pos c0) ?_
    walk_at "go"
    refine w_d (fun h => ?_) fun h => ?_ <;> walk_at "go"
    · rw [if_pos h] at k
      refine w_I ⟨c0, by omega⟩ ?_
      walk_at "go"; walk_at "ife"
      refine w_chain ?_
      walk_at "go"
      unfold rng at k
      refine w_d (fun h => ?_) fun h => ?_ <;> walk_at "go"
      · refine w_d (fun h2 => ?_) fun h2 => ?_ <;> walk_at "go"
        · rw [if_pos ⟨h, h2⟩] at k; exact k
        · rw [if_neg (fun z => h2 z.2)] at k; exact k
      · rw [if_neg (fun z => h z.1)] at k; exact k
    · rw [if_neg h] at k; exact k
  | pre z =>
    obtain ⟨p, rfl, hp⟩ := cv_pre hc
    obtain ⟨y, rfl, yl, ya⟩ := vok_T vo
    dsimp only [vV]
    obtain ⟨c0, c1, c2⟩ := co
    change Q (ov (if (z ++ y).length ≤ 20 then some (Val.tx (z ++ y)) else none)) H at k
    walk_at "go"; walk_at "if"
    refine w_f (by decide +kernel) ?_
    walk_at "go"; walk_at "if"
    refine w_t (by decide +kernel) ?_
    walk_at "go"
    refine w_addS (sz (by omega)) ?_
    walk_at "go"; walk_at "ife"
    refine w_lenS (sz (by rw [str_len_append]; omega)) ?_
    walk_at "go"
    refine w_d (fun h => ?_) fun h => ?_ <;> walk_at "go"
    · rw [if_pos (by omega)] at k; exact k
    · rw [if_neg (by omega)] at k; exact k
  | unp z =>
    obtain ⟨p, rfl, hp⟩ := cv_unp hc
    obtain ⟨y, rfl, yl, ya⟩ := vok_T vo
    dsimp only [vV]
    obtain ⟨c0, c1, c2⟩ := co
    change Q (ov (if beg y z = true then some (Val.tx (cut y z.length)) else none)) H at k
    walk_at "go"; walk_at "if"
    refine w_f (by decide +kernel) ?_
    walk_at "go"; walk_at "if"
    refine w_f (by decide +kernel) ?_
    walk_at "go"; walk_at "if"
    refine w_t (by decide +kernel) ?_
    walk_at "go"
    refine w_lenS (sz (by omega)) ?_
    walk_at "go"; walk_at "ife"
    refine w_slice ?_
    walk_at "go"
    refine w_noPart ?_
    refine w_part ?_
    walk_at "go"
    refine ⟨_, rfl, ?_⟩
    refine w_slS (sz (by omega)) ?_
    walk_at "go"
    rw [cutS_to_eq]
    refine w_b (fun h => ?_) fun h => ?_ <;> walk_at "go"
    · refine w_slice ?_
      walk_at "go"
      refine w_part ?_
      walk_at "go"
      refine ⟨_, rfl, ?_⟩
      refine w_noPart ?_
      refine w_slS (sz (by omega)) ?_
      rw [cutS_from]
      rw [if_pos h] at k
      exact k
    · rw [if_neg (by rw [h]; exact fun z => nomatch z)] at k
      exact k
  | rcd kk l ps =>
    obtain ⟨p, q, rfl, hp, xs, hq, lz, ia⟩ := cv_rcd hc
    have lx : xs.length = ps.length := by rw [ia.len, List.length_map]
    change Q (ov (look ps v)) H at k
    walk_at "go"; walk_at "if"
    refine w_t (by decide +kernel) ?_
    walk_at "go"
    refine ⟨q, rfl, ⟨_, sqt hq⟩, ?_⟩
    refine z_for_tup (xs := xs) (fun i σ' H' => H = H' ∧ (∀ p ∈ ps.take i, p.1 ≠ v) ∧ ∃ u w, σ' = [some (.ref p), some (vV v), some (.str (Str.ofString "recode")), u, w, none]) ⟨rfl, fun _ m => (by simp at m), _, _, rfl⟩ (fun i σ' H' _ ⟨e, _⟩ => e ▸ sqt hq) ?_ ?_
    · rintro N i x σ' H1 hx ⟨rfl, hn, u, w, rfl⟩ hN
      obtain ⟨a, pr, rfl, he, ha⟩ := prs_at ia hx
      walk_at "go"; walk_at "if"
      refine w_eq (vok_scal (co.2.1 pr (List.mem_of_getElem? he)).1 vo) ?_
      refine w_bl ?_
      refine w_d (fun h => ?_) fun h => ?_ <;> walk_at "go"
      · rw [look_yes hn he (vV_inj h)] at k
        exact k
      · refine hN _ _ ⟨rfl, fun r m => ?_, _, _, rfl⟩
        rw [tk1 he] at m
        rcases List.mem_append.mp m with m | m
        · exact hn r m
        · rw [List.mem_singleton.mp m]; exact fun e => h (by rw [e])
    · rintro σ' H1 ⟨rfl, hn, u, w, rfl⟩
      walk_at "go"
      rw [lx, List.take_length] at hn
      rw [look_no hn] at k
      exact k
theorem w_conv {H : Hp} {a : V} {c : Cv} {v : Val} {Q : VK} {E : XK} (hc : Im H a (cD c)) (co : COk c) (vo : VOk (k1 c) v) (k : Q (ov (cvt c v)) H) : sp_law_conv K ([a, vV v] ++ []) H Q E := ⟨_, _, rfl, c, v, hc, rfl, co, vo, k⟩
theorem thr_cut (cs : List Cv) (i : Nat) (v : Val) : thr cs v = (thr (cs.take i) v).bind (thr (cs.drop i)) := by
  rw [← thr_app, List.take_append_drop]
def sp_law_through (K : PySem.W.Frag) : Sp := sp_convert_through K
theorem ok_law_through (T : Txt K mg) : FnOk P w K mg base CX0 2 T.f__law_through T.d__law_through ["conversions", "value"] (sp_law_through K) := by
  refine T.F__law_through.ok sc_law_through len2 (fun cdv A outer s H vs Q E hr h => ?_)
  have nd := sc_law_through.nd
  have hu := hu_of hr
  obtain ⟨_, _, rfl, p, cs, kd, ld, v, rfl, rfl, ⟨xs, hp, ia, lc⟩, ch, hv, k⟩ := h
  refine ⟨_,
      (pss_cons (ps_for PassesOwn.never rfl (pi_list (pv 0)) (pg_name (i := 2) nd rfl (Or.inl rfl)) 
        (pss_one (ps_if (pt_cmpR zop_notN (pv 1) pe_non (nomark _)) 
          (pss_one (ps_set (i := 1) nd rfl (Or.inl rfl) (pe_call (ok_law_conv T) (hr.mono (by decide)) (by rfl) T.g__law_conv T.F__law_conv.kp T.k__law_conv .nil pass0 (pa_cons (pv 2) (pa_cons (pv 1) pa_nil))))) pss_nil))) 
      (pss_one (ps_ret (pv 1)))), ?_⟩
  change (_ : TS) _ [some _, some _, none] _
  try dsimp only [cxOf, Cx.nox, Cx.wish]
  have lx : xs.length = cs.length := by rw [ia.len, List.length_map]
  walk_at "go"
  refine ⟨p, rfl, ⟨_, sql hp⟩, ?_⟩
  refine z_for_list (xs := xs) (fun i σ' H' => H = H' ∧ ∃ u, σ' = [some (.ref p), some (ov (thr (cs.take i) v)), u]) ⟨rfl, _, rfl⟩ (fun i σ' H' _ ⟨e, _⟩ => e ▸ sql hp) ?_ ?_
  · rintro N i x σ' H1 hx ⟨rfl, u, rfl⟩ hN
    obtain ⟨c, hc, im⟩ := cvs_at ia hx
    obtain ⟨co, ct⟩ := chn_at ch hc
    have ho : thr (cs.take (i + 1)) v = (thr (cs.take i) v).bind (cvt c) := by rw [tk2 hc, thr_snoc]
    rw [ho] at hN
    cases hr : thr (cs.take i) v with
    | none =>
      rw [hr] at hN
      walk_at "go"; walk_at "if"
      refine w_f rfl ?_
      walk_at "go"
      exact hN _ _ ⟨rfl, _, rfl⟩
    | some r =>
      rw [hr] at hN
      walk_at "go"; walk_at "if"
      refine w_t (by cases r <;> rfl) ?_
      walk_at "go"
      refine w_conv im co (thr_ok ct hv hr) ?_
      walk_at "go"
      exact hN _ _ ⟨rfl, _, rfl⟩
  · rintro σ' H1 ⟨rfl, u, rfl⟩
    rw [lx, List.take_length]
    walk_at "go"
    exact k
def sp_law_against (K : PySem.W.Frag) : Sp := sp2 fun a b H Q => ∃ (p : Addr) (cs : List Cv) (k l : Kd) (v : Val), a = .ref p ∧ b = vV v ∧ CvL H p cs ∧ Chn k cs l ∧ VOk l v ∧ ∀ H', Ext [] H H' → Q (ov (thr (cs.reverse.map cI) v)) H'
theorem ok_law_against (T : Txt K mg) : FnOk P w K mg base CX0 2 T.f__law_against T.d__law_against ["conversions", "value"] (sp_law_against K) := by
  refine T.F__law_against.ok sc_law_against len2 (fun cdv A outer s H vs Q E hr h => ?_)
  have nd := sc_law_against.nd
  have hu := hu_of hr
  obtain ⟨_, _, rfl, p, cs, kd, ld, v, rfl, rfl, ⟨xs, hp, ia, lc⟩, ch0, hv, k⟩ := h
  refine ⟨_,
      (pss_cons (ps_for PassesOwn.never rfl (pi_reversed (by rfl) T.b_reversed (pa_cons (pv 0) pa_nil)) (pg_name (i := 2) nd rfl (Or.inl rfl)) 
        (pss_one (ps_if (pt_cmpR zop_notN (pv 1) pe_non (nomark _)) 
          (pss_one (ps_set (i := 1) nd rfl (Or.inl rfl) (pe_call (ok_law_conv T) (hr.mono (by decide)) (by rfl) T.g__law_conv T.F__law_conv.kp T.k__law_conv .nil pass0 (pa_cons (pe_call (ok_law_inverse T) (hr.mono (by decide)) (by rfl) T.g__law_inverse T.F__law_inverse.kp T.k__law_inverse .nil pass0 (pa_cons (pv 2) pa_nil)) (pa_cons (pv 1) pa_nil))))) pss_nil))) 
      (pss_one (ps_ret (pv 1)))), ?_⟩
  change (_ : TS) _ [some _, some _, none] _
  try dsimp only [cxOf, Cx.nox, Cx.wish]
  have lx : xs.length = cs.length := by rw [ia.len, List.length_map]
  have ir := imall_rev ia
  rw [← List.map_reverse] at ir
  have ch := chn_back ch0
  walk_at "go"
  refine w_iRev ?_
  walk_at "go"
  refine ⟨p, xs, rfl, sql hp, ?_⟩
  refine z_for_rev (xs := xs) (fun i σ' H' => Ext [] H H' ∧ ∃ u, σ' = [some (.ref p), some (ov (thr ((cs.reverse.map cI).take i) v)), u]) ⟨Ext.refl, _, rfl⟩ (fun i σ' H' _ ⟨e, _⟩ => sql (e.keep _ _ hp List.not_mem_nil)) ?_ ?_
  · rintro N i x σ' H1 hx ⟨e1, u, rfl⟩ hN
    obtain ⟨c, hc, im⟩ := cvs_at ir hx
    have hc' : (cs.reverse.map cI)[i]? = some (cI c) := by rw [List.getElem?_map, hc]; rfl
    obtain ⟨co, ct⟩ := chn_at ch hc'
    have coc : COk c := by
      obtain ⟨j, hj⟩ := List.mem_iff_getElem?.mp (List.mem_reverse.mp (List.mem_of_getElem? hc))
      exact (chn_at ch0 hj).1
    have ho : thr ((cs.reverse.map cI).take (i + 1)) v = (thr ((cs.reverse.map cI).take i) v).bind (cvt (cI c)) := by rw [tk2 hc', thr_snoc]
    rw [ho] at hN
    cases hr : thr ((cs.reverse.map cI).take i) v with
    | none =>
      rw [hr] at hN
      walk_at "go"; walk_at "if"
      refine w_f rfl ?_
      walk_at "go"
      exact hN _ _ ⟨e1, _, rfl⟩
    | some r =>
      rw [hr] at hN
      walk_at "go"; walk_at "if"
      refine w_t (by cases r <;> rfl) ?_
      walk_at "go"
      refine w_linverse (im.ext e1) coc fun w H2 e2 i2 => ?_
      walk_at "go"
      refine w_conv i2 co (thr_ok ct hv hr) ?_
      walk_at "go"
      exact hN _ _ ⟨e1.trans e2, _, rfl⟩
  · rintro σ' H1 ⟨e1, u, rfl⟩
    have ll : (cs.reverse.map cI).length = xs.length := by rw [List.length_map, List.length_reverse, lx]
    rw [← ll, List.take_length]
    walk_at "go"
    exact k _ e1

theorem w_ixQ {H : Hp} {Q : VK} {a : Addr} {v : V} {xs : List V} {j : Int} (h : SqL K H a xs ∨ SqT K H a xs) (e : atI xs j = some v) (q : Q v H) : rIx K (.ref a) (.int j) H Q :=
  h.elim (fun h => .inl ⟨a, xs, j, v, rfl, rfl, h, e, q⟩) fun h => .inr (.inl ⟨a, xs, j, v, rfl, rfl, h, e, q⟩)
/-! ### _law_same of what is the same -/
def sp_same (n : Nat) (K : PySem.W.Frag) : Sp := sp2 fun a b H Q => Sl n H a b ∧ ∀ H', Ext [] H H' → Q (.bl true) H'
theorem ok_same_no (T : Txt K mg) : FnOk P w K mg base CX0 0 T.f__law_same T.d__law_same ["answer", "due"] (sp_same 0 K) :=
  ⟨fun _ _ _ _ h => by obtain ⟨_, _, rfl, _⟩ := h; rfl, fun _ _ _ _ _ _ _ _ _ _ _ _ _ h => by obtain ⟨_, _, _, h, _⟩ := h; exact h.elim⟩
theorem step_same (T : Txt K mg)  (n l : Nat) (ih : FnOk P w K mg base CX0 l T.f__law_same T.d__law_same ["answer", "due"] (sp_same n K)) : FnOk P w K mg base CX0 (l+1) T.f__law_same T.d__law_same ["answer", "due"] (sp_same (n+1) K) := by
  refine T.F__law_same.ok sc_law_same len2 (fun cdv A outer s H vs Q E hr h => ?_)
  have nd := sc_law_same.nd
  have hu := hu_of hr
  obtain ⟨a, b, rfl, h, k⟩ := h
  refine ⟨_,
      (pss_cons (ps_if (PW.pt (pw_or (pt_cmpR zop_isN (pv 1) pe_non (nomark _)) (pw_or (pt_cmpR zop_isB (pv 1) pe_bl (nomark _)) (pw_or1 (pt_cmpR zop_isB (pv 1) pe_bl (nomark _)))))) 
        (pss_one (ps_ret (pe_or (pe_and (pe_cmpR zop_isN (pv 1) pe_non (nomark _)) (pe_one (pe_cmpR zop_isN (pv 0) pe_non (nomark _)))) (pe_or (pe_and (pe_cmpR zop_isB (pv 1) pe_bl (nomark _)) (pe_one (pe_cmpR zop_isB (pv 0) pe_bl (nomark _)))) (pe_one (pe_and (pe_cmpR zop_isB (pv 1) pe_bl (nomark _)) (pe_one (pe_cmpR zop_isB (pv 0) pe_bl (nomark _))))))))) pss_nil) 
      (pss_cons (ps_if (pt_val (pe_callB call_isi (by rfl) T.b_isinstance (by decide +kernel) (pa_cons (pv 1) (pa_cons (pe_bltn (v := .ty "int") (by rfl) T.b_int (by decide +kernel) rfl) pa_nil)))) 
        (pss_one (ps_ret (pe_and (pe_callB call_isi (by rfl) T.b_isinstance (by decide +kernel) (pa_cons (pv 0) (pa_cons (pe_bltn (v := .ty "int") (by rfl) T.b_int (by decide +kernel) rfl) pa_nil))) (pe_and (pe_not (pe_callB call_isi (by rfl) T.b_isinstance (by decide +kernel) (pa_cons (pv 0) (pa_cons (pe_bltn (v := .ty "bool") (by rfl) T.b_bool (by decide +kernel) rfl) pa_nil)))) (pe_one (pe_cmpR op_eq (pv 0) (pv 1) (nomark _))))))) pss_nil) 
      (pss_cons (ps_if (pt_val (pe_callB call_isi (by rfl) T.b_isinstance (by decide +kernel) (pa_cons (pv 1) (pa_cons (pe_bltn (v := .ty "str") (by rfl) T.b_str (by decide +kernel) rfl) pa_nil)))) 
        (pss_one (ps_ret (pe_and (pe_callB call_isi (by rfl) T.b_isinstance (by decide +kernel) (pa_cons (pv 0) (pa_cons (pe_bltn (v := .ty "str") (by rfl) T.b_str (by decide +kernel) rfl) pa_nil))) (pe_one (pe_cmpR op_eq (pv 0) (pv 1) (nomark _)))))) pss_nil) 
      (pss_cons (ps_if (pt_val (pe_callB call_isi (by rfl) T.b_isinstance (by decide +kernel) (pa_cons (pv 1) (pa_cons (pe_bltn (v := .ty "dict") (by rfl) T.b_dict (by decide +kernel) rfl) pa_nil)))) 
        (pss_cons (ps_if (PW.pt (pw_or (pt_not (pt_val (pe_callB call_isi (by rfl) T.b_isinstance (by decide +kernel) (pa_cons (pv 0) (pa_cons (pe_bltn (v := .ty "dict") (by rfl) T.b_dict (by decide +kernel) rfl) pa_nil))))) (pw_or1 (pt_cmpR op_ne (pe_callB zc_len (by rfl) T.b_len (by decide +kernel) (pa_cons (pv 0) pa_nil)) (pe_callB zc_len (by rfl) T.b_len (by decide +kernel) (pa_cons (pv 1) pa_nil)) (nomark _))))) 
          (pss_one (ps_ret pe_bl)) pss_nil) 
        (pss_cons (ps_lock (ps_for PassesOwn.never rfl (pi_keys (pv 1)) (pg_name (i := 2) nd rfl (Or.inl rfl)) 
          (pss_one (ps_if (PW.pt (pw_or (pt_cmp (pc_dnotin hu (pv 2) (pv 0))) (pw_or1 (pt_not (pt_val (pe_call ih (hr.mono (by omega)) (by rfl) T.g__law_same T.F__law_same.kp T.k__law_same .nil pass0 (pa_cons (pe_dget hu (pv 0) (pv 2) (fun _ _ => rfl)) (pa_cons (pe_dget hu (pv 1) (pv 2) (fun _ _ => rfl)) pa_nil)))))))) 
            (pss_one (ps_ret pe_bl)) pss_nil)))) 
        (pss_one (ps_ret pe_bl)))) pss_nil) 
      (pss_cons (ps_if (PW.pt (pw_and (pt_val (pe_callB call_isi (by rfl) T.b_isinstance (by decide +kernel) (pa_cons (pv 1) (pa_cons (pe_bltn (v := .ty "tuple") (by rfl) T.b_tuple (by decide +kernel) rfl) pa_nil)))) (pw_and1 (pt_not (pt_val (pe_callB call_isi (by rfl) T.b_isinstance (by decide +kernel) (pa_cons (pv 0) (pa_cons (pe_bltn (v := .ty "tuple") (by rfl) T.b_tuple (by decide +kernel) rfl) pa_nil)))))))) 
        (pss_one (ps_ret pe_bl)) pss_nil) 
      (pss_cons (ps_if (PW.pt (pw_and (pt_val (pe_callB call_isi (by rfl) T.b_isinstance (by decide +kernel) (pa_cons (pv 1) (pa_cons (pe_bltn (v := .ty "list") (by rfl) T.b_list (by decide +kernel) rfl) pa_nil)))) (pw_and1 (pt_not (pt_val (pe_callB call_isi (by rfl) T.b_isinstance (by decide +kernel) (pa_cons (pv 0) (pa_cons (pe_bltn (v := .ty "list") (by rfl) T.b_list (by decide +kernel) rfl) pa_nil)))))))) 
        (pss_one (ps_ret pe_bl)) pss_nil) 
      (pss_cons (ps_if (pt_cmpR op_ne (pe_callB zc_len (by rfl) T.b_len (by decide +kernel) (pa_cons (pv 0) pa_nil)) (pe_callB zc_len (by rfl) T.b_len (by decide +kernel) (pa_cons (pv 1) pa_nil)) (nomark _)) 
        (pss_one (ps_ret pe_bl)) pss_nil) 
      (pss_cons (ps_for PassesOwn.never rfl (pi_range1 (by rfl) T.b_range (pa_cons (pe_callB zc_len (by rfl) T.b_len (by decide +kernel) (pa_cons (pv 1) pa_nil)) pa_nil)) (pg_name (i := 3) nd rfl (Or.inl rfl)) 
        (pss_one (ps_if (pt_not (pt_val (pe_call ih (hr.mono (by omega)) (by rfl) T.g__law_same T.F__law_same.kp T.k__law_same .nil pass0 (pa_cons (pe_ix ix_seq (pv 0) (pv 3) (fun _ _ => rfl)) (pa_cons (pe_ix ix_seq (pv 1) (pv 3) (fun _ _ => rfl)) pa_nil))))) 
          (pss_one (ps_ret pe_bl)) pss_nil))) 
      (pss_one (ps_ret pe_bl)))))))))), ?_⟩
  change (_ : TS) _ [some _, some _, none, none] _
  try dsimp only [cxOf, Cx.nox, Cx.wish]
  rcases h with ⟨d, ld, i, j⟩ | ⟨p, q, xs, ys, rfl, rfl, hp, hq, lz, hw⟩
  · cases i with
    | non =>
      cases j
      walk_at "go"; walk_at "if"
      refine w_t rfl ?_
      walk_at "go"
      refine w_t rfl ?_
      walk_at "go"
      refine w_t rfl ?_
      exact k _ Ext.refl
    | bl z =>
      cases j
      cases z with
      | true =>
        walk_at "go"; walk_at "if"
        refine w_f rfl ?_
        walk_at "go"
        refine w_t rfl ?_
        walk_at "go"
        refine w_f rfl ?_
        walk_at "go"
        refine w_t rfl ?_
        walk_at "go"
        refine w_t rfl ?_
        exact k _ Ext.refl
      | false =>
        walk_at "go"; walk_at "if"
        refine w_f rfl ?_
        walk_at "go"
        refine w_f rfl ?_
        walk_at "go"
        refine w_t rfl ?_
        walk_at "go"
        refine w_f rfl ?_
        walk_at "go"
        refine w_f rfl ?_
        walk_at "go"
        refine w_t rfl ?_
        walk_at "go"
        exact k _ Ext.refl
    | int z =>
      cases j
      walk_at "go"; walk_at "if"
      refine w_f rfl ?_; walk_at "go"; refine w_f rfl ?_; walk_at "go"; refine w_f rfl ?_; walk_at "go"; walk_at "if"
      refine w_isi (k := true) (.ty _) (.base (.int _)) (kit_ty (by decide +kernel)) ?_
      walk_at "go"
      refine w_isi (k := true) (.ty _) (.base (.int _)) (kit_ty (by decide +kernel)) ?_
      refine w_bl ?_
      walk_at "go"
      refine w_isi (k := false) (.ty _) (.base (.int _)) (kit_ty (by decide +kernel)) ?_
      refine w_bl ?_
      walk_at "go"
      rw [decide_eq_true rfl]
      exact k _ Ext.refl
    | str z =>
      cases j
      walk_at "go"; walk_at "if"
      refine w_f rfl ?_; walk_at "go"; refine w_f rfl ?_; walk_at "go"; refine w_f rfl ?_; walk_at "go"; walk_at "if"
      refine w_isi (k := false) (.ty _) (.base (.str _)) (kit_ty (by decide +kernel)) ?_
      walk_at "go"; walk_at "if"
      refine w_isi (k := true) (.ty _) (.base (.str _)) (kit_ty (by decide +kernel)) ?_
      walk_at "go"
      refine w_isi (k := true) (.ty _) (.base (.str _)) (kit_ty (by decide +kernel)) ?_
      refine w_bl ?_
      walk_at "go"
      rw [decide_eq_true rfl]
      exact k _ Ext.refl
    | @tup p xs ds ha lz wa =>
      cases j with
      | @tup q ys _ hb lz2 wb =>
        have la := wa.len
        have lb := wb.len
        have ta := TyX.base (K := K) (.tup ha)
        have tb := TyX.base (K := K) (.tup hb)
        walk_at "go"; walk_at "if"
        refine w_f rfl ?_; walk_at "go"; refine w_f rfl ?_; walk_at "go"; refine w_f rfl ?_; walk_at "go"; walk_at "if"
        refine w_isi (k := false) (.ty _) tb (kit_ty (by decide +kernel)) ?_
        walk_at "go"; walk_at "if"
        refine w_isi (k := false) (.ty _) tb (kit_ty (by decide +kernel)) ?_
        walk_at "go"; walk_at "if"
        refine w_isi (k := false) (.ty _) tb (kit_ty (by decide +kernel)) ?_
        walk_at "go"; walk_at "if"
        refine w_isi (k := true) (.ty _) tb (kit_ty (by decide +kernel)) ?_
        walk_at "go"
        refine w_isi (k := true) (.ty _) ta (kit_ty (by decide +kernel)) ?_
        walk_at "go"; walk_at "if"
        refine w_isi (k := false) (.ty _) tb (kit_ty (by decide +kernel)) ?_
        walk_at "go"; walk_at "if"
        refine w_f (by rw [la, lb]; simp) ?_
        walk_at "go"
        refine ⟨_, rfl, by omega, by omega, ?_⟩
        rw [Int.toNat_natCast]
        refine z_for_range (fun i σ' H' => Ext [] H H' ∧ ∃ v, σ' = [some (.ref p), some (.ref q), none, v]) ⟨Ext.refl, _, rfl⟩ ?_ ?_
        · rintro N i σ' H1 hi ⟨e1, v, rfl⟩ hN
          walk_at "go"; walk_at "if"
          obtain ⟨d, hd⟩ : ∃ d, ds[i]? = some d := ⟨_, List.getElem?_eq_getElem (by omega)⟩
          obtain ⟨x, hx, ix⟩ := wa.at hd
          obtain ⟨y, hy, iy⟩ := wb.at hd
          refine w_ixQ (.inr (sqt (e1.tup ha))) (at_nat0 hx) ?_
          walk_at "go"
          refine w_ixQ (.inr (sqt (e1.tup hb))) (at_nat0 hy) ?_
          walk_at "go"
          have dm := dAll_mem (List.mem_of_getElem? hd)
          rw [d_tup] at ld
          refine w_sp2 ⟨Sl.im (d := d) (by omega) (ix.ext e1) (iy.ext e1), fun H2 e2 => ?_⟩
          walk_at "go"
          exact hN _ _ ⟨e1.trans e2, _, rfl⟩
        · rintro σ' H1 ⟨e1, v, rfl⟩
          walk_at "go"
          exact k _ e1
  · have ta := TyX.base (K := K) (.lst hp)
    have tb := TyX.base (K := K) (.lst hq)
    have la := paired_len hw
    have lb : ys.length = ys.length := rfl
    walk_at "go"; walk_at "if"
    refine w_f rfl ?_; walk_at "go"; refine w_f rfl ?_; walk_at "go"; refine w_f rfl ?_; walk_at "go"; walk_at "if"
    refine w_isi (k := false) (.ty _) tb (kit_ty (by decide +kernel)) ?_
    walk_at "go"; walk_at "if"
    refine w_isi (k := false) (.ty _) tb (kit_ty (by decide +kernel)) ?_
    walk_at "go"; walk_at "if"
    refine w_isi (k := false) (.ty _) tb (kit_ty (by decide +kernel)) ?_
    walk_at "go"; walk_at "if"
    refine w_isi (k := false) (.ty _) tb (kit_ty (by decide +kernel)) ?_
    walk_at "go"; walk_at "if"
    refine w_isi (k := true) (.ty _) tb (kit_ty (by decide +kernel)) ?_
    walk_at "go"
    refine w_isi (k := true) (.ty _) ta (kit_ty (by decide +kernel)) ?_
    walk_at "go"; walk_at "if"
    refine w_f (by rw [la, lb]; simp) ?_
    walk_at "go"
    refine ⟨_, rfl, by omega, by omega, ?_⟩
    rw [Int.toNat_natCast]
    refine z_for_range (fun i σ' H' => Ext [] H H' ∧ ∃ v, σ' = [some (.ref p), some (.ref q), none, v]) ⟨Ext.refl, _, rfl⟩ ?_ ?_
    · rintro N i σ' H1 hi ⟨e1, v, rfl⟩ hN
      walk_at "go"; walk_at "if"
      obtain ⟨x, hx⟩ : ∃ d, xs[i]? = some d := ⟨_, List.getElem?_eq_getElem (by omega)⟩
      obtain ⟨y, hy, hs⟩ := paired_at hw hx
      refine w_ixQ (.inl (sql (e1.keep _ _ hp List.not_mem_nil))) (at_nat0 hx) ?_
      walk_at "go"
      refine w_ixQ (.inl (sql (e1.keep _ _ hq List.not_mem_nil))) (at_nat0 hy) ?_
      walk_at "go"
      refine w_sp2 ⟨hs.ext e1, fun H2 e2 => ?_⟩
      walk_at "go"
      exact hN _ _ ⟨e1.trans e2, _, rfl⟩
    · rintro σ' H1 ⟨e1, v, rfl⟩
      walk_at "go"
      exact k _ e1
def sp_law_same (K : PySem.W.Frag) : Sp := sp_same 6 K
theorem ok_law_same (T : Txt K mg) : FnOk P w K mg base CX0 6 T.f__law_same T.d__law_same ["answer", "due"] (sp_law_same K) :=
  step_same T 5 5 (step_same T 4 4 (step_same T 3 3 (step_same T 2 2 (step_same T 1 1 (step_same T 0 0 (ok_same_no T))))))
theorem w_same {H : Hp} {a b : V} {Q : VK} {E : XK} (h : Sl 6 H a b) (k : ∀ H', Ext [] H H' → Q (.bl true) H') : sp_law_same K ([a, b] ++ []) H Q E := ⟨_, _, rfl, h, k⟩

/-! ### drawn texts and values -/
def sgw : Str := Str.ofString " !\"#$&'()*+,-./0123456789:;<=>?@ABCDEFGHIJKLMNOPQRSTUVWXYZ[\\]^_`abcdefghijklmnopqrstuvwxyz{|}~"
theorem sgw_len : 94 ≤ sgw.cps.toList.length := by decide +kernel
theorem sgw_al : ∀ c ∈ sgw.cps.toList, c ∈ alph.cps.toList := by decide +kernel
theorem sgw_at {r : Int} (h0 : 0 ≤ r) (h1 : r < 94) : ∃ c, atI sgw.cps.toList r = some c ∧ c ∈ alph.cps.toList := by
  have := sgw_len
  obtain ⟨c, hc, hm⟩ := at_some (xs := sgw.cps.toList) (r := r) h0 (by omega)
  exact ⟨c, hc, sgw_al c (List.mem_of_getElem? hm)⟩
def sab : Str := Str.ofString "ab"
theorem sab_al : ∀ c ∈ sab.cps.toList, c ∈ alph.cps.toList := by decide +kernel
theorem sab_at {r : Int} (h0 : 0 ≤ r) (h1 : r < 2) : ∃ c, atI sab.cps.toList r = some c ∧ c ∈ alph.cps.toList := by
  have : sab.cps.toList.length = 2 := by decide +kernel
  obtain ⟨c, hc, hm⟩ := at_some (xs := sab.cps.toList) (r := r) h0 (by omega)
  exact ⟨c, hc, sab_al c (List.mem_of_getElem? hm)⟩
theorem al_join : ∀ {ys : List Str}, (∀ y ∈ ys, Al y.cps.toList) → Al (Txt.join (Str.ofString "") ys).cps.toList := by
  intro ys h
  show Al (Builtin.Str.glued (Str.ofString "") ys).cps.toList
  rw [StrLaws.glued_eq_join]
  induction ys with
  | nil => intro c hc; simp [Str.join, Str.empty] at hc
  | cons x r ih =>
    cases r with
    | nil => exact h x List.mem_cons_self
    | cons y r =>
      intro c hc
      have e : Str.join (Str.ofString "") (x :: y :: r) = x ++ Str.ofString "" ++ Str.join (Str.ofString "") (y :: r) := rfl
      rw [e, app_tl, app_tl, List.mem_append, List.mem_append] at hc
      rcases hc with (hc | hc) | hc
      · exact h x List.mem_cons_self c hc
      · rw [show (Str.ofString "").cps.toList = [] from by decide] at hc; cases hc
      · exact ih (fun z m => h z (List.mem_cons_of_mem _ m)) c hc
def sp_law_text (K : PySem.W.Frag) : Sp := sp3 fun a b c H Q => ∃ (p : Addr) (n : Int) (w : Bool), a = .ref p ∧ b = .int n ∧ c = .bl w ∧ PoolAt K H p ∧ 0 ≤ n ∧ n ≤ 20 ∧ ∀ (z : Str) H', (z.length : Int) = n → Al z.cps.toList → Ext [p] H H' → PoolAt K H' p → Q (.str z) H'
theorem ok_law_text (T : Txt K mg) : FnOk P w K mg base CX0 4 T.f__law_text T.d__law_text ["pool", "size", "wide"] (sp_law_text K) := by
  refine T.F__law_text.ok sc_law_text len3 (fun cdv A outer s H vs Q E hr h => ?_)
  have nd := sc_law_text.nd
  have hu := hu_of hr
  obtain ⟨_, _, _, rfl, p, n, w, rfl, rfl, rfl, hP, n0, n1, k⟩ := h
  refine ⟨_,
      (pss_cons (ps_set (i := 3) nd rfl (Or.inr rfl) pe_str) 
      (pss_cons (ps_if (pt_val (pv 2)) 
        (pss_one (ps_ret (zpe_join pe_str (pe_lc (own := [("place", 4)]) rfl nd (pi_range1 (by rfl) T.b_range (pa_cons (pv 1) pa_nil)) (blkOk_by (own := [("place", 4)]) (N := ["pool", "size", "wide", "signs", "place"]) (sc := defScope s_law_text) (by decide +kernel)) (fun _ _ _ _ _ => (pg_name (i := 4) nd rfl (Or.inl rfl))) (fun _ _ _ _ _ => pts_nil) (fun _ _ _ _ _ => (pe_ix ix_str (pv 3) (pe_call (ok_law_draw T) (hr.mono (by decide)) (by rfl) T.g__law_draw T.F__law_draw.kp T.k__law_draw .nil pass0 (pa_cons (pv 0) (pa_cons pe_int pa_nil))) (fun _ _ => rfl))))))) pss_nil) 
      (pss_one (ps_ret (zpe_join pe_str (pe_lc (own := [("place", 4)]) rfl nd (pi_range1 (by rfl) T.b_range (pa_cons (pv 1) pa_nil)) (blkOk_by (own := [("place", 4)]) (N := ["pool", "size", "wide", "signs", "place"]) (sc := defScope s_law_text) (by decide +kernel)) (fun _ _ _ _ _ => (pg_name (i := 4) nd rfl (Or.inl rfl))) (fun _ _ _ _ _ => pts_nil) (fun _ _ _ _ _ => (pe_ix ix_str pe_str (pe_call (ok_law_draw T) (hr.mono (by decide)) (by rfl) T.g__law_draw T.F__law_draw.kp T.k__law_draw .nil pass0 (pa_cons (pv 0) (pa_cons pe_int pa_nil))) (fun _ _ => rfl))))))))), ?_⟩
  change (_ : TS) _ [some _, some _, some _, none, none] _
  try dsimp only [cxOf, Cx.nox, Cx.wish]
  walk_at "go"; walk_at "if"
  refine w_b (fun hw => ?_) fun hw => ?_ <;> walk_at "go"
  · refine ⟨_, rfl, by omega, by omega, fun D nD => ?_⟩
    have nDp : D ≠ p := (hP.ne nD).symm
    refine z_lc_range (lo := 0) (fun i acc H' => Ext [p] H H' ∧ PoolAt K H' p ∧ ∃ ss : List Str, acc = ss.map V.str ∧ ss.length = i ∧ (ss.map (·.length)).sum = i ∧ ∀ y ∈ ss, Al y.cps.toList) nD (fun H' e => ⟨e.up, hP.ext e List.not_mem_nil, [], rfl, rfl, rfl, fun _ m => nomatch m⟩) ?_ ?_
    · rintro Nx i acc H4 hi ⟨e4, P4, ss, rfl, hl, hs, hg⟩ hD hN
      walk_at "go"
      refine ⟨rfl, ?_⟩
      walk_at "go"
      refine w_draw P4 (by decide) (by decide) fun u H5 d0 d1 e5 P5 => ?_
      walk_at "go"
      obtain ⟨c', hc', c2⟩ := sgw_at d0 (by omega)
      refine w_ixS (sz (by decide +kernel)) hc' ?_
      refine w_app (e5.keep _ _ hD (nm1 nDp)) (szl (by rw [List.length_map]; omega)) fun H6 e6 hD6 => ?_
      refine hN _ _ ⟨(e4.trans e5).dropq e6 nD, P5.ext e6 (nm1 nDp.symm), ss ++ [⟨#[c']⟩], by rw [List.map_append]; rfl, by rw [List.length_append, hl]; rfl, ?_, fun y m => ?_⟩ hD6
      · rw [List.map_append, List.sum_append, hs]
        rfl
      · rcases List.mem_append.mp m with m | m
        · exact hg y m
        · rw [List.mem_singleton.mp m]
          intro d hd
          have : d = c' := by simpa using hd
          rw [this]; exact c2
    · rintro acc H4 ⟨e4, P4, ss, rfl, hl, hs, hg⟩ hD
      refine w_join (ys := ss) (sql hD) (by rw [hs, hl, show (Str.ofString "").length = 0 from by decide]; omega) ?_
      exact k _ _ (by rw [str_len_join (by decide), hs]; omega) (al_join hg) e4 P4
  · refine ⟨_, rfl, by omega, by omega, fun D nD => ?_⟩
    have nDp : D ≠ p := (hP.ne nD).symm
    refine z_lc_range (lo := 0) (fun i acc H' => Ext [p] H H' ∧ PoolAt K H' p ∧ ∃ ss : List Str, acc = ss.map V.str ∧ ss.length = i ∧ (ss.map (·.length)).sum = i ∧ ∀ y ∈ ss, Al y.cps.toList) nD (fun H' e => ⟨e.up, hP.ext e List.not_mem_nil, [], rfl, rfl, rfl, fun _ m => nomatch m⟩) ?_ ?_
    · rintro Nx i acc H4 hi ⟨e4, P4, ss, rfl, hl, hs, hg⟩ hD hN
      walk_at "go"
      refine ⟨rfl, ?_⟩
      walk_at "go"
      refine w_draw P4 (by decide) (by decide) fun u H5 d0 d1 e5 P5 => ?_
      walk_at "go"
      obtain ⟨c', hc', c2⟩ := sab_at d0 (by omega)
      refine w_ixS (sz (by decide +kernel)) hc' ?_
      refine w_app (e5.keep _ _ hD (nm1 nDp)) (szl (by rw [List.length_map]; omega)) fun H6 e6 hD6 => ?_
      refine hN _ _ ⟨(e4.trans e5).dropq e6 nD, P5.ext e6 (nm1 nDp.symm), ss ++ [⟨#[c']⟩], by rw [List.map_append]; rfl, by rw [List.length_append, hl]; rfl, ?_, fun y m => ?_⟩ hD6
      · rw [List.map_append, List.sum_append, hs]
        rfl
      · rcases List.mem_append.mp m with m | m
        · exact hg y m
        · rw [List.mem_singleton.mp m]
          intro d hd
          have : d = c' := by simpa using hd
          rw [this]; exact c2
    · rintro acc H4 ⟨e4, P4, ss, rfl, hl, hs, hg⟩ hD
      refine w_join (ys := ss) (sql hD) (by rw [hs, hl, show (Str.ofString "").length = 0 from by decide]; omega) ?_
      exact k _ _ (by rw [str_len_join (by decide), hs]; omega) (al_join hg) e4 P4
theorem w_text {H : Hp} {p : Addr} {n : Int} {w : Bool} {Q : VK} {E : XK} (hP : PoolAt K H p) (n0 : 0 ≤ n) (n1 : n ≤ 20) (k : ∀ (z : Str) H', (z.length : Int) = n → Al z.cps.toList → Ext [p] H H' → PoolAt K H' p → Q (.str z) H') :
    sp_law_text K ([.ref p, .int n, .bl w] ++ []) H Q E := ⟨_, _, _, rfl, p, n, w, rfl, rfl, rfl, hP, n0, n1, k⟩
def sp_law_value (K : PySem.W.Frag) : Sp := sp2 fun a b H Q => ∃ (p : Addr) (kd : Kd), a = .ref p ∧ b = .str (kS kd) ∧ PoolAt K H p ∧ ∀ (v : Val) H', VOk kd v → Ext [p] H H' → PoolAt K H' p → Q (vV v) H'
theorem ok_law_value (T : Txt K mg) : FnOk P w K mg base CX0 5 T.f__law_value T.d__law_value ["pool", "kind"] (sp_law_value K) := by
  refine T.F__law_value.ok sc_law_value len2 (fun cdv A outer s H vs Q E hr h => ?_)
  have nd := sc_law_value.nd
  have hu := hu_of hr
  obtain ⟨_, _, rfl, p, kd, rfl, rfl, hP, k⟩ := h
  refine ⟨_,
      (pss_cons (ps_set (i := 2) nd rfl (Or.inl rfl) (pe_call (ok_law_draw T) (hr.mono (by decide)) (by rfl) T.g__law_draw T.F__law_draw.kp T.k__law_draw .nil pass0 (pa_cons (pv 0) (pa_cons pe_int pa_nil)))) 
      (pss_cons (ps_if (pt_cmpR op_eq (pv 1) pe_str (nomark _)) 
        (pss_one (ps_ret (pe_cmpR op_lt (pv 2) pe_int (nomark _)))) pss_nil) 
      (pss_cons (ps_if (PW.pt (pw_and (pt_cmpR op_eq (pv 1) pe_str (nomark _)) (pw_and1 (pt_cmpR op_lt (pv 2) pe_int (nomark _))))) 
        (pss_one (ps_ret (pe_op op_sub (pe_call (ok_law_draw T) (hr.mono (by decide)) (by rfl) T.g__law_draw T.F__law_draw.kp T.k__law_draw .nil pass0 (pa_cons (pv 0) (pa_cons pe_int pa_nil))) pe_int))) pss_nil) 
      (pss_cons (ps_if (PW.pt (pw_and (pt_cmpR op_eq (pv 1) pe_str (nomark _)) (pw_and1 (pt_cmpR op_eq (pv 2) pe_int (nomark _))))) 
        (pss_one (ps_ret (pe_op op_mulW (pe_op op_sub pe_int (pe_call (ok_law_draw T) (hr.mono (by decide)) (by rfl) T.g__law_draw T.F__law_draw.kp T.k__law_draw .nil pass0 (pa_cons (pv 0) (pa_cons pe_int pa_nil)))) (pe_op op_sub pe_int (pe_op op_mul pe_int (pe_call (ok_law_draw T) (hr.mono (by decide)) (by rfl) T.g__law_draw T.F__law_draw.kp T.k__law_draw .nil pass0 (pa_cons (pv 0) (pa_cons pe_int pa_nil)))))))) pss_nil) 
      (pss_cons (ps_if (pt_cmpR op_eq (pv 1) pe_str (nomark _)) 
        (pss_one (ps_ret (pe_op op_sub (pe_call (ok_law_draw T) (hr.mono (by decide)) (by rfl) T.g__law_draw T.F__law_draw.kp T.k__law_draw .nil pass0 (pa_cons (pv 0) (pa_cons pe_int pa_nil))) pe_int))) pss_nil) 
      (pss_cons (ps_if (pt_cmpR op_lt (pv 2) pe_int (nomark _)) 
        (pss_one (ps_ret (pe_call (ok_law_text T) (hr.mono (by decide)) (by rfl) T.g__law_text T.F__law_text.kp T.k__law_text .nil pass0 (pa_cons (pv 0) (pa_cons (pe_call (ok_law_draw T) (hr.mono (by decide)) (by rfl) T.g__law_draw T.F__law_draw.kp T.k__law_draw .nil pass0 (pa_cons (pv 0) (pa_cons pe_int pa_nil))) (pa_cons pe_bl pa_nil)))))) pss_nil) 
      (pss_cons (ps_if (pt_cmpR op_eq (pv 2) pe_int (nomark _)) 
        (pss_one (ps_ret (pe_call (ok_law_text T) (hr.mono (by decide)) (by rfl) T.g__law_text T.F__law_text.kp T.k__law_text .nil pass0 (pa_cons (pv 0) (pa_cons (pe_op op_add pe_int (pe_call (ok_law_draw T) (hr.mono (by decide)) (by rfl) T.g__law_draw T.F__law_draw.kp T.k__law_draw .nil pass0 (pa_cons (pv 0) (pa_cons pe_int pa_nil)))) (pa_cons pe_bl pa_nil)))))) pss_nil) 
      (pss_one (ps_ret (pe_call (ok_law_text T) (hr.mono (by decide)) (by rfl) T.g__law_text T.F__law_text.kp T.k__law_text .nil pass0 (pa_cons (pv 0) (pa_cons (pe_call (ok_law_draw T) (hr.mono (by decide)) (by rfl) T.g__law_draw T.F__law_draw.kp T.k__law_draw .nil pass0 (pa_cons (pv 0) (pa_cons pe_int pa_nil))) (pa_cons pe_bl pa_nil))))))))))))), ?_⟩
  change (_ : TS) _ [some _, some _, none] _
  try dsimp only [cxOf, Cx.nox, Cx.wish]
  walk_at "go"
  refine w_draw hP (by decide) (by decide) fun way H1 a0 a1 e1 P1 => ?_
  cases kd with
  | F =>
    walk_at "go"; walk_at "if"
    refine w_t (by decide +kernel) ?_
    walk_at "go"
    exact k (.fl _) _ trivial e1 P1
  | I =>
    walk_at "go"; walk_at "if"
    refine w_f (by decide +kernel) ?_
    walk_at "go"; walk_at "if"
    refine w_t (by decide +kernel) ?_
    walk_at "go"
    refine w_d (fun h => ?_) fun h => ?_ <;> walk_at "go"
    · refine w_draw P1 (by decide) (by decide) fun r H2 b0 b1 e2 P2 => ?_
      walk_at "go"
      exact k (.nm _) _ (show _ ∧ _ by omega) (e1.trans e2) P2
    · walk_at "if"
      refine w_t (by decide +kernel) ?_
      walk_at "go"
      refine w_d (fun h => ?_) fun h => ?_ <;> walk_at "go"
      · refine w_draw P1 (by decide) (by decide) fun r H2 b0 b1 e2 P2 => ?_
        walk_at "go"
        refine w_draw P2 (by decide) (by decide) fun r2 H3 c0 c1 e3 P3 => ?_
        walk_at "go"
        refine k (.nm _) _ (show _ ∧ _ from ?_) ((e1.trans e2).trans e3) P3
        rcases (show r2 = 0 ∨ r2 = 1 by omega) with rfl | rfl <;> omega
      · walk_at "if"
        refine w_t (by decide +kernel) ?_
        walk_at "go"
        refine w_draw P1 (by decide) (by decide) fun r H2 b0 b1 e2 P2 => ?_
        walk_at "go"
        exact k (.nm _) _ (show _ ∧ _ by omega) (e1.trans e2) P2
  | T =>
    walk_at "go"; walk_at "if"
    refine w_f (by decide +kernel) ?_
    walk_at "go"; walk_at "if"
    refine w_f (by decide +kernel) ?_
    walk_at "go"; walk_at "if"
    refine w_f (by decide +kernel) ?_
    walk_at "go"; walk_at "if"
    refine w_f (by decide +kernel) ?_
    walk_at "go"; walk_at "if"
    refine w_d (fun h => ?_) fun h => ?_ <;> walk_at "go"
    · refine w_draw P1 (by decide) (by decide) fun r H2 b0 b1 e2 P2 => ?_
      walk_at "go"
      refine w_text P2 b0 (by omega) fun z H3 zl za e3 P3 => ?_
      exact k (.tx z) _ ⟨by omega, za⟩ ((e1.trans e2).trans e3) P3
    · walk_at "if"
      refine w_d (fun h => ?_) fun h => ?_ <;> walk_at "go"
      · refine w_draw P1 (by decide) (by decide) fun r H2 b0 b1 e2 P2 => ?_
        walk_at "go"
        refine w_text P2 (by omega) (by omega) fun z H3 zl za e3 P3 => ?_
        exact k (.tx z) _ ⟨by omega, za⟩ ((e1.trans e2).trans e3) P3
      · refine w_draw P1 (by decide) (by decide) fun r H2 b0 b1 e2 P2 => ?_
        walk_at "go"
        refine w_text P2 b0 (by omega) fun z H3 zl za e3 P3 => ?_
        exact k (.tx z) _ ⟨by omega, za⟩ ((e1.trans e2).trans e3) P3
theorem w_value {H : Hp} {p : Addr} {kd : Kd} {Q : VK} {E : XK} (hP : PoolAt K H p) (k : ∀ (v : Val) H', VOk kd v → Ext [p] H H' → PoolAt K H' p → Q (vV v) H') :
    sp_law_value K ([.ref p, .str (kS kd)] ++ []) H Q E := ⟨_, _, rfl, p, kd, rfl, rfl, hP, k⟩

theorem eqV_val : ∀ {k : Kd} {a b : Val}, VOk k a → VOk k b → (eqV (vV a) (vV b) = true ↔ a = b)
  | .F, .fl a, .fl b, _, _ => by simp [vV, eqV]
  | .I, .nm a, .nm b, _, _ => by simp [vV, eqV]
  | .T, .tx a, .tx b, _, _ => by simp [vV, eqV]
  | .F, .nm _, _, h, _ => h.elim
  | .F, .tx _, _, h, _ => h.elim
  | .I, .fl _, _, h, _ => h.elim
  | .I, .tx _, _, h, _ => h.elim
  | .T, .fl _, _, h, _ => h.elim
  | .T, .nm _, _, h, _ => h.elim
  | .F, .fl _, .nm _, _, h => h.elim
  | .F, .fl _, .tx _, _, h => h.elim
  | .I, .nm _, .fl _, _, h => h.elim
  | .I, .nm _, .tx _, _, h => h.elim
  | .T, .tx _, .fl _, _, h => h.elim
  | .T, .tx _, .nm _, _, h => h.elim
theorem flat_vV : ∀ v : Val, flatV (vV v) = true
  | .fl _ => rfl
  | .nm _ => rfl
  | .tx _ => rfl
theorem flat_vs : ∀ vs : List Val, (vs.map vV).all flatV = true
  | [] => rfl
  | v :: vs => by rw [List.map_cons, List.all_cons, flat_vV, flat_vs vs]; rfl
theorem inV_val {k : Kd} {v : Val} {vs : List Val} (hv : VOk k v) (h : ∀ u ∈ vs, VOk k u) : inV (vV v) (vs.map vV) = true ↔ v ∈ vs := by
  unfold inV
  rw [List.any_map, List.any_eq_true]
  constructor
  · rintro ⟨u, m, e⟩
    have := (eqV_val (h u m) hv).mp e
    rw [← this]; exact m
  · intro m
    exact ⟨v, m, (eqV_val (h v m) hv).mpr rfl⟩
theorem w_ninV {H : Hp} {Q : VK} {a : Addr} {v : V} {xs : List V} (h : SqL K H a xs) (f : flatV v = true) (g : xs.all flatV = true) (q : Q (.bl (!inV v xs)) H) : rIn K true v (.ref a) H Q := ⟨a, xs, rfl, .inl h, f, g, q⟩
def fsts (ps : List (Val × Val)) : List Val := ps.map (·.1)
def snds (ps : List (Val × Val)) : List Val := ps.map (·.2)
def sp_law_recode (K : PySem.W.Frag) : Sp := sp3 fun a b c H Q => ∃ (p : Addr) (k l : Kd), a = .ref p ∧ b = .str (kS k) ∧ c = .str (kS l) ∧ PoolAt K H p ∧ ∀ v ps H', COk (.rcd k l ps) → Im H' v (cD (.rcd k l ps)) → Ext [p] H H' → PoolAt K H' p → Q v H'
theorem ok_law_recode (T : Txt K mg) : FnOk P w K mg base CX0 6 T.f__law_recode T.d__law_recode ["pool", "start", "end"] (sp_law_recode K) := by
  refine T.F__law_recode.ok sc_law_recode len3 (fun cdv A outer s H vs Q E hr h => ?_)
  have nd := sc_law_recode.nd
  have hu := hu_of hr
  obtain ⟨_, _, _, rfl, p, kd, ld, rfl, rfl, rfl, hP, k⟩ := h
  refine ⟨_,
      (pss_cons (ps_set (i := 3) nd rfl (Or.inr rfl) (pe_lstZ pa_nil)) 
      (pss_cons (ps_set (i := 4) nd rfl (Or.inr rfl) (pe_lstZ pa_nil)) 
      (pss_cons (ps_for PassesOwn.never rfl (pi_range1 (by rfl) T.b_range (pa_cons (pe_op op_add pe_int (pe_call (ok_law_draw T) (hr.mono (by decide)) (by rfl) T.g__law_draw T.F__law_draw.kp T.k__law_draw .nil pass0 (pa_cons (pv 0) (pa_cons pe_int pa_nil)))) pa_nil)) (pg_name (i := 5) nd rfl (Or.inl rfl)) 
        (pss_cons (ps_set (i := 6) nd rfl (Or.inl rfl) (pe_call (ok_law_value T) (hr.mono (by decide)) (by rfl) T.g__law_value T.F__law_value.kp T.k__law_value .nil pass0 (pa_cons (pv 0) (pa_cons (pv 1) pa_nil)))) 
        (pss_cons (ps_set (i := 7) nd rfl (Or.inl rfl) (pe_call (ok_law_value T) (hr.mono (by decide)) (by rfl) T.g__law_value T.F__law_value.kp T.k__law_value .nil pass0 (pa_cons (pv 0) (pa_cons (pv 2) pa_nil)))) 
        (pss_one (ps_if (PW.pt (pw_and (pt_cmpR op_notIn_seq (pv 6) (pv 3) (by rfl)) (pw_and1 (pt_cmpR op_notIn_seq (pv 7) (pv 4) (by rfl))))) 
          (pss_cons (ps_expr (pe_bm PySem.F.plainAttrs_list PySem.F.slot_list_append PySem.F.type_list_append zmt_append (pv 3) (pa_cons (pv 6) pa_nil))) 
          (pss_one (ps_expr (pe_bm PySem.F.plainAttrs_list PySem.F.slot_list_append PySem.F.type_list_append zmt_append (pv 4) (pa_cons (pv 7) pa_nil))))) pss_nil))))) 
      (pss_one (ps_ret (pe_tupZ (pa_cons pe_str (pa_cons (pv 1) (pa_cons (pv 2) (pa_cons (pe_callTy zc_tup (by rfl) T.b_tuple (by decide +kernel) (pa_cons (pe_lc (own := [("k", 5)]) rfl nd (pi_range1 (by rfl) T.b_range (pa_cons (pe_callB zc_len (by rfl) T.b_len (by decide +kernel) (pa_cons (pv 3) pa_nil)) pa_nil)) (blkOk_by (own := [("k", 5)]) (N := ["pool", "start", "end", "lefts", "rights", "k", "left", "right"]) (sc := defScope s_law_recode) (by decide +kernel)) (fun _ _ _ _ _ => (pg_name (i := 5) nd rfl (Or.inl rfl))) (fun _ _ _ _ _ => pts_nil) (fun _ _ _ _ _ => (pe_tupZ (pa_cons (pe_ix (ix_listK (K := K) rfl) (pv 3) (pv 5) (fun _ _ => rfl)) (pa_cons (pe_ix (ix_listK (K := K) rfl) (pv 4) (pv 5) (fun _ _ => rfl)) pa_nil))))) pa_nil)) pa_nil)))))))))), ?_⟩
  change (_ : TS) _ [some _, some _, some _, none, none, none, none, none] _
  try dsimp only [cxOf, Cx.nox, Cx.wish]
  walk_at "go"
  refine ⟨Nat.zero_le _, w_alc fun L H1 e1 n1 h1 => ?_⟩
  walk_at "go"
  refine ⟨Nat.zero_le _, w_alc fun R H2 e2 n2 h2 => ?_⟩
  walk_at "go"
  have P2 := (hP.ext e1 List.not_mem_nil).ext e2 List.not_mem_nil
  have nLp : L ≠ p := (hP.ne n1).symm
  have nRp : R ≠ p := ((hP.ext e1 List.not_mem_nil).ne n2).symm
  have nLR : L ≠ R := ne_of_none h1 n2
  have nR0 : H R = none := e1.free n2
  have h1' := e2.keep _ _ h1 List.not_mem_nil
  refine w_draw P2 (by decide) (by decide) fun n H3 n0 n1' e3 P3 => ?_
  walk_at "go"
  have e03 : Ext [p] H H3 := (e1.up.trans e2.up).trans e3
  refine ⟨_, rfl, by omega, by omega, z_for_range (lo := 0) (fun i σ' H' => ∃ (ps : List (Val × Val)) (u v w : Option V), σ' = [some (.ref p), some (.str (kS kd)), some (.str (kS ld)), some (.ref L), some (.ref R), u, v, w] ∧ ps.length ≤ i ∧ Ext [p] H H' ∧ PoolAt K H' p ∧
    H' L = some (.lst ((fsts ps).map vV)) ∧ H' R = some (.lst ((snds ps).map vV)) ∧ (∀ q ∈ ps, VOk kd q.1 ∧ VOk ld q.2) ∧ (fsts ps).Nodup ∧ (snds ps).Nodup) ⟨[], _, _, _, rfl, Nat.zero_le _, e03, P3, e3.keep _ _ h1' (nm1 nLp), e3.keep _ _ h2 (nm1 nRp), fun _ m => (nomatch m), List.nodup_nil, List.nodup_nil⟩ ?_ ?_⟩
  · rintro N i σ' H4 hi ⟨ps, u, v, w, rfl, lp, e4, P4, hL, hR, hk, nf, ns⟩ hN
    walk_at "go"
    refine w_value P4 fun x H5 x0 e5 P5 => ?_
    walk_at "go"
    refine w_value P5 fun y H6 y0 e6 P6 => ?_
    have hL6 := e6.keep _ _ (e5.keep _ _ hL (nm1 nLp)) (nm1 nLp)
    have hR6 := e6.keep _ _ (e5.keep _ _ hR (nm1 nRp)) (nm1 nRp)
    have e46 := (e4.trans e5).trans e6
    have kf : ∀ u ∈ fsts ps, VOk kd u := fun u m => by obtain ⟨q, hq, rfl⟩ := List.mem_map.mp m; exact (hk q hq).1
    have ks : ∀ u ∈ snds ps, VOk ld u := fun u m => by obtain ⟨q, hq, rfl⟩ := List.mem_map.mp m; exact (hk q hq).2
    walk_at "go"; walk_at "if"
    refine w_ninV (sql hL6) (flat_vV _) (flat_vs _) ?_
    refine w_bl ?_
    refine w_nb (fun z => ?_) fun z => ?_
    · walk_at "go"
      refine w_ninV (sql hR6) (flat_vV _) (flat_vs _) ?_
      refine w_bl ?_
      refine w_nb (fun z2 => ?_) fun z2 => ?_
      · have nx : x ∉ fsts ps := fun m => by rw [(inV_val x0 kf).mpr m] at z; cases z
        have ny : y ∉ snds ps := fun m => by rw [(inV_val y0 ks).mpr m] at z2; cases z2
        walk_at "go"
        refine w_append hL6 (szl (by unfold fsts; rw [List.length_map, List.length_map]; omega)) ?_
        refine w_chg hL6 (fun z => z) fun H7 e7 h7 => ?_
        have hR7 := e7.keep _ _ hR6 (nm1 nLR.symm)
        walk_at "go"
        refine w_append hR7 (szl (by unfold snds; rw [List.length_map, List.length_map]; omega)) ?_
        refine w_chg hR7 (fun z => z) fun H8 e8 h8 => ?_
        walk_at "go"
        refine hN _ _ ⟨ps ++ [(x, y)], _, _, _, rfl, by rw [List.length_append]; exact Nat.succ_le_succ lp, (e46.dropq e7 n1).dropq e8 nR0, (P6.ext e7 (nm1 nLp.symm)).ext e8 (nm1 nRp.symm), ?_, ?_, fun q m => ?_, ?_, ?_⟩
        · rw [e8.keep _ _ h7 (nm1 nLR)]; unfold fsts; rw [List.map_append, List.map_append]; rfl
        · rw [h8]; unfold snds; rw [List.map_append, List.map_append]; rfl
        · rcases List.mem_append.mp m with m | m
          · exact hk q m
          · rw [List.mem_singleton.mp m]; exact ⟨x0, y0⟩
        · unfold fsts; rw [List.map_append, List.nodup_append]
          refine ⟨nf, List.nodup_cons.mpr ⟨fun z => (nomatch z), List.nodup_nil⟩, fun a ha b hb e => ?_⟩
          rw [List.mem_singleton.mp hb] at e
          have e' : a = x := e
          exact nx (e' ▸ ha)
        · unfold snds; rw [List.map_append, List.nodup_append]
          refine ⟨ns, List.nodup_cons.mpr ⟨fun z => (nomatch z), List.nodup_nil⟩, fun a ha b hb e => ?_⟩
          rw [List.mem_singleton.mp hb] at e
          have e' : a = y := e
          exact ny (e' ▸ ha)
      · walk_at "go"
        exact hN _ _ ⟨ps, _, _, _, rfl, Nat.le_succ_of_le lp, e46, P6, hL6, hR6, hk, nf, ns⟩
    · walk_at "go"
      exact hN _ _ ⟨ps, _, _, _, rfl, Nat.le_succ_of_le lp, e46, P6, hL6, hR6, hk, nf, ns⟩
  · rintro σ' H4 ⟨ps, u, v, w, rfl, lp, e4, P4, hL, hR, hk, nf, ns⟩
    have lL : ((fsts ps).map vV).length = ps.length := by unfold fsts; rw [List.length_map, List.length_map]
    walk_at "go"
    refine ⟨_, rfl, by omega, by omega, fun D nD => ?_⟩
    rw [lL, Int.toNat_natCast]
    refine z_lc_range (lo := 0) (n := ps.length) (fun i acc H' => Ext [] H4 H' ∧ ImAll H' acc ((ps.take i).map prD3)) nD (fun H' e => ⟨e, .nil⟩) ?_ ?_
    · rintro Nx i acc H5 hi ⟨e5, hac⟩ hD hN
      obtain ⟨pr, hpr⟩ : ∃ pr, ps[i]? = some pr := ⟨_, List.getElem?_eq_getElem hi⟩
      have hL5 := e5.keep _ _ hL List.not_mem_nil
      have hR5 := e5.keep _ _ hR List.not_mem_nil
      walk_at "go"
      refine ⟨rfl, ?_⟩
      walk_at "go"
      refine w_ixL (sql hL5) (at_nat0 (v := vV pr.1) (by unfold fsts; rw [List.getElem?_map, List.getElem?_map, hpr]; rfl)) ?_
      walk_at "go"
      refine w_ixL (sql hR5) (at_nat0 (v := vV pr.2) (by unfold snds; rw [List.getElem?_map, List.getElem?_map, hpr]; rfl)) ?_
      walk_at "go"
      refine ⟨sz (by show 2 ≤ _; decide), w_alc fun t H6 e6 n6 h6 => ?_⟩
      refine w_app (e6.keep _ _ hD List.not_mem_nil) (szl (by rw [hac.len, List.length_map, List.length_take]; omega)) fun H7 e7 h7 => ?_
      refine hN _ _ ⟨(e5.trans e6).dropq e7 nD, ?_⟩ h7
      rw [tk2 hpr, List.map_append]
      exact ImAll.snoc (im2 (e7.tup h6) (im_val _) (im_val _)) ((hac.ext e6).ext e7)
    · rintro acc H5 ⟨e5, hac⟩ hD
      rw [List.take_length] at hac
      walk_at "go"
      refine w_tupL (sql hD) (w_alc fun t H6 e6 n6 h6 => ?_)
      walk_at "go"
      refine ⟨sz (by show 4 ≤ _; decide), w_alc fun t2 H7 e7 n7 h7 => ?_⟩
      refine k _ ps _ ⟨by omega, hk, nf, ns⟩ (im4 h7 (.str _) (.str _) (.str _) (.tup (e7.tup h6) (by rw [hac.len, List.length_map]; omega) ((hac.ext e6).ext e7))) (((e4.trans e5.up).trans e6.up).trans e7.up) (((P4.ext e5 List.not_mem_nil).ext e6 List.not_mem_nil).ext e7 List.not_mem_nil)
theorem w_recode {H : Hp} {p : Addr} {k l : Kd} {Q : VK} {E : XK} (hP : PoolAt K H p) (q : ∀ v ps H', COk (.rcd k l ps) → Im H' v (cD (.rcd k l ps)) → Ext [p] H H' → PoolAt K H' p → Q v H') :
    sp_law_recode K ([.ref p, .str (kS k), .str (kS l)] ++ []) H Q E := ⟨_, _, _, rfl, p, k, l, rfl, rfl, rfl, hP, q⟩
theorem kinds_in {v : V} (h : v ∈ [V.str (Str.ofString "int"), .str (Str.ofString "text"), .str (Str.ofString "flag")]) : ∃ k : Kd, v = .str (kS k) := by
  simp only [List.mem_cons, List.not_mem_nil, or_false] at h
  rcases h with rfl | rfl | rfl
  · exact ⟨.I, rfl⟩
  · exact ⟨.T, rfl⟩
  · exact ⟨.F, rfl⟩
def sp_law_conversion (K : PySem.W.Frag) : Sp := sp2 fun a b H Q => ∃ (p : Addr) (kd : Kd), a = .ref p ∧ b = .str (kS kd) ∧ PoolAt K H p ∧ ∀ v c H', COk c → k1 c = kd → Im H' v (cD c) → Ext [p] H H' → PoolAt K H' p → Q v H'
theorem ok_law_conversion (T : Txt K mg) : FnOk P w K mg base CX0 7 T.f__law_conversion T.d__law_conversion ["pool", "kind"] (sp_law_conversion K) := by
  refine T.F__law_conversion.ok sc_law_conversion len2 (fun cdv A outer s H vs Q E hr h => ?_)
  have nd := sc_law_conversion.nd
  have hu := hu_of hr
  obtain ⟨_, _, rfl, p, kd, rfl, rfl, hP, k⟩ := h
  refine ⟨_,
      (pss_cons (ps_set (i := 2) nd rfl (Or.inl rfl) (pe_call (ok_law_draw T) (hr.mono (by decide)) (by rfl) T.g__law_draw T.F__law_draw.kp T.k__law_draw .nil pass0 (pa_cons (pv 0) (pa_cons pe_int pa_nil)))) 
      (pss_cons (ps_if (PW.pt (pw_or (pt_cmpR op_eq (pv 1) pe_str (nomark _)) (pw_or1 (pt_cmpR op_eq (pv 2) pe_int (nomark _))))) 
        (pss_one (ps_ret (pe_call (ok_law_recode T) (hr.mono (by decide)) (by rfl) T.g__law_recode T.F__law_recode.kp T.k__law_recode .nil pass0 (pa_cons (pv 0) (pa_cons (pv 1) (pa_cons (pe_call (ok_law_pick T) (hr.mono (by decide)) (by rfl) T.g__law_pick T.F__law_pick.kp T.k__law_pick .nil pass0 (pa_cons (pv 0) (pa_cons (pe_lstZ (pa_cons pe_str (pa_cons pe_str (pa_cons pe_str pa_nil)))) pa_nil))) pa_nil)))))) pss_nil) 
      (pss_cons (ps_if (pt_cmpR op_eq (pv 1) pe_str (nomark _)) 
        (pss_cons (ps_set (i := 3) nd rfl (Or.inl rfl) (pe_cmpR op_eq (pe_call (ok_law_draw T) (hr.mono (by decide)) (by rfl) T.g__law_draw T.F__law_draw.kp T.k__law_draw .nil pass0 (pa_cons (pv 0) (pa_cons pe_int pa_nil))) pe_int (nomark _))) 
        (pss_cons (ps_set (i := 4) nd rfl (Or.inl rfl) (pe_op op_add pe_int (pe_call (ok_law_draw T) (hr.mono (by decide)) (by rfl) T.g__law_draw T.F__law_draw.kp T.k__law_draw .nil pass0 (pa_cons (pv 0) (pa_cons (pe_ifExp (pt_val (pv 3)) pe_int pe_int) pa_nil))))) 
        (pss_one (ps_ret (pe_tupZ (pa_cons (pe_ifExp (pt_cmpR op_lt (pv 2) pe_int (nomark _)) pe_str pe_str) (pa_cons (pe_call (ok_law_text T) (hr.mono (by decide)) (by rfl) T.g__law_text T.F__law_text.kp T.k__law_text .nil pass0 (pa_cons (pv 0) (pa_cons (pv 4) (pa_cons (pv 3) pa_nil)))) pa_nil))))))) pss_nil) 
      (pss_cons (ps_set (i := 5) nd rfl (Or.inl rfl) (pe_call (ok_law_pick T) (hr.mono (by decide)) (by rfl) T.g__law_pick T.F__law_pick.kp T.k__law_pick .nil pass0 (pa_cons (pv 0) (pa_cons (pe_lstZ (pa_cons pe_int (pa_cons pe_int (pa_cons (pe_un un_neg pe_int) (pa_cons pe_int (pa_cons (pe_un un_neg pe_int) (pa_cons pe_int (pa_cons (pe_un un_neg pe_int) (pa_cons pe_int pa_nil))))))))) pa_nil)))) 
      (pss_cons (ps_set (i := 6) nd rfl (Or.inl rfl) (pe_op op_sub (pe_call (ok_law_draw T) (hr.mono (by decide)) (by rfl) T.g__law_draw T.F__law_draw.kp T.k__law_draw .nil pass0 (pa_cons (pv 0) (pa_cons pe_int pa_nil))) pe_int)) 
      (pss_cons (ps_if (pt_cmpR op_eq (pe_call (ok_law_draw T) (hr.mono (by decide)) (by rfl) T.g__law_draw T.F__law_draw.kp T.k__law_draw .nil pass0 (pa_cons (pv 0) (pa_cons pe_int pa_nil))) pe_int (nomark _)) 
        (pss_cons (ps_set (i := 5) nd rfl (Or.inl rfl) (pe_op op_mulW (pe_op op_add pe_int (pe_call (ok_law_draw T) (hr.mono (by decide)) (by rfl) T.g__law_draw T.F__law_draw.kp T.k__law_draw .nil pass0 (pa_cons (pv 0) (pa_cons pe_int pa_nil)))) (pe_op op_sub pe_int (pe_op op_mul pe_int (pe_call (ok_law_draw T) (hr.mono (by decide)) (by rfl) T.g__law_draw T.F__law_draw.kp T.k__law_draw .nil pass0 (pa_cons (pv 0) (pa_cons pe_int pa_nil))))))) 
        (pss_one (ps_set (i := 6) nd rfl (Or.inl rfl) (pe_op op_sub (pe_call (ok_law_draw T) (hr.mono (by decide)) (by rfl) T.g__law_draw T.F__law_draw.kp T.k__law_draw .nil pass0 (pa_cons (pv 0) (pa_cons pe_int pa_nil))) pe_int)))) pss_nil) 
      (pss_one (ps_ret (pe_tupZ (pa_cons (pe_ifExp (pt_cmpR op_lt (pv 2) pe_int (nomark _)) pe_str pe_str) (pa_cons (pv 5) (pa_cons (pv 6) pa_nil)))))))))))), ?_⟩
  change (_ : TS) _ [some _, some _, none, none, none, none, none] _
  try dsimp only [cxOf, Cx.nox, Cx.wish]
  walk_at "go"
  refine w_draw hP (by decide) (by decide) fun way H1 a0 a1 e1 P1 => ?_
  walk_at "go"; walk_at "if"
  refine w_d (fun hF => ?_) fun hF => ?_
  · walk_at "go"
    refine ⟨sz (by show 3 ≤ _; decide), w_alc fun o H2 e2 n2 h2 => ?_⟩
    walk_at "go"
    refine w_pick (P1.ext e2 List.not_mem_nil) h2 (P1.ne n2).symm (by decide) (by decide) fun v H3 hv e3 P3 => ?_
    obtain ⟨ld, rfl⟩ := kinds_in hv
    walk_at "go"
    exact w_recode P3 fun v ps H4 co im e4 P4 => k v _ H4 co rfl im (((e1.trans e2.up).trans e3).trans e4) P4
  · walk_at "go"
    refine w_d (fun h4 => ?_) fun h4 => ?_ <;> walk_at "go"
    · refine ⟨sz (by show 3 ≤ _; decide), w_alc fun o H2 e2 n2 h2 => ?_⟩
      walk_at "go"
      refine w_pick (P1.ext e2 List.not_mem_nil) h2 (P1.ne n2).symm (by decide) (by decide) fun v H3 hv e3 P3 => ?_
      obtain ⟨ld, rfl⟩ := kinds_in hv
      walk_at "go"
      exact w_recode P3 fun v ps H4 co im e4 P4 => k v _ H4 co rfl im (((e1.trans e2.up).trans e3).trans e4) P4
    · cases kd with
      | F => exact absurd rfl hF
      | T =>
        walk_at "if"
        refine w_t (by decide +kernel) ?_
        walk_at "go"
        refine w_draw P1 (by decide) (by decide) fun w H2 w0 w1 e2 P2 => ?_
        walk_at "go"
        refine w_cutE (fun v H' => H2 = H' ∧ ∃ n : Int, v = .int n ∧ 0 < n ∧ n ≤ 6) ?_ fun Q' hQ => ?_
        · rintro _ _ ⟨rfl, n, rfl, n0, n1⟩
          refine w_nil ?_
          refine w_draw P2 n0 (by omega) fun s H3 s0 s1 e3 P3 => ?_
          walk_at "go"; walk_at "ife"
          refine w_d (fun h => ?_) fun h => ?_ <;> walk_at "go"
          · refine w_text P3 (by omega) (by omega) fun z H4 zl za e4 P4 => ?_
            walk_at "go"
            refine ⟨sz (by show 2 ≤ _; decide), w_alc fun t H5 e5 n5 h5 => ?_⟩
            exact k _ (.pre z) _ ⟨by omega, by omega, za⟩ rfl (im2 h5 (.str _) (.str _)) ((((e1.trans e2).trans e3).trans e4).trans e5.up) (P4.ext e5 List.not_mem_nil)
          · refine w_text P3 (by omega) (by omega) fun z H4 zl za e4 P4 => ?_
            walk_at "go"
            refine ⟨sz (by show 2 ≤ _; decide), w_alc fun t H5 e5 n5 h5 => ?_⟩
            exact k _ (.unp z) _ ⟨by omega, by omega, za⟩ rfl (im2 h5 (.str _) (.str _)) ((((e1.trans e2).trans e3).trans e4).trans e5.up) (P4.ext e5 List.not_mem_nil)
        · walk_at "ife"
          refine w_d (fun h => ?_) fun h => ?_ <;> walk_at "go"
          · exact hQ _ _ ⟨rfl, 6, rfl, by decide, by decide⟩
          · exact hQ _ _ ⟨rfl, 2, rfl, by decide, by decide⟩
      | I =>
        walk_at "if"
        refine w_f (by decide +kernel) ?_
        walk_at "go"
        refine ⟨sz (by show 8 ≤ _; decide), w_alc fun o H2 e2 n2 h2 => ?_⟩
        walk_at "go"
        refine w_pick (P1.ext e2 List.not_mem_nil) h2 (P1.ne n2).symm (by decide) (by decide) fun v H3 hv e3 P3 => ?_
        obtain ⟨a, rfl, b0, b1, b2⟩ : ∃ a : Int, v = .int a ∧ a ≠ 0 ∧ -1000 ≤ a ∧ a ≤ 1000 := by
          simp only [List.mem_cons, List.not_mem_nil, or_false] at hv
          rcases hv with rfl | rfl | rfl | rfl | rfl | rfl | rfl | rfl <;> exact ⟨_, rfl, by decide, by decide, by decide⟩
        walk_at "go"
        refine w_draw P3 (by decide) (by decide) fun b H4 c0 c1 e4 P4 => ?_
        walk_at "go"
        have e14 := ((e1.trans e2.up).trans e3).trans e4
        refine w_cut (fun σ' H' => Ext [p] H H' ∧ PoolAt K H' p ∧ ∃ (a b : Int) (u v : Option V), a ≠ 0 ∧ -1000 ≤ a ∧ a ≤ 1000 ∧ -1000000 ≤ b ∧ b ≤ 1000000 ∧ σ' = [some (.ref p), some (.str (kS .I)), some (.int way), u, v, some (.int a), some (.int b)]) ?_ fun nx hn => ?_
        · rintro _ H5 ⟨e5, P5, a, b, u, v, x0, x1, x2, x3, x4, rfl⟩
          walk_at "go"; walk_at "ife"
          refine w_d (fun h => ?_) fun h => ?_ <;> walk_at "go"
          · refine ⟨sz (by show 3 ≤ _; decide), w_alc fun t H6 e6 n6 h6 => ?_⟩
            exact k _ (.aff a b) _ ⟨x0, x1, x2, x3, x4⟩ rfl (im3 h6 (.str _) (.int _) (.int _)) (e5.trans e6.up) (P5.ext e6 List.not_mem_nil)
          · refine ⟨sz (by show 3 ≤ _; decide), w_alc fun t H6 e6 n6 h6 => ?_⟩
            exact k _ (.una a b) _ ⟨x0, x1, x2, x3, x4⟩ rfl (im3 h6 (.str _) (.int _) (.int _)) (e5.trans e6.up) (P5.ext e6 List.not_mem_nil)
        · walk_at "if"
          refine w_draw P4 (by decide) (by decide) fun x H5 x0 x1 e5 P5 => ?_
          walk_at "go"
          refine w_d (fun h => ?_) fun h => ?_ <;> walk_at "go"
          · refine w_draw P5 (by decide) (by decide) fun y H6 y0 y1 e6 P6 => ?_
            walk_at "go"
            refine w_draw P6 (by decide) (by decide) fun z H7 z0 z1 e7 P7 => ?_
            walk_at "go"
            refine w_draw P7 (by decide) (by decide) fun d H8 d0 d1 e8 P8 => ?_
            walk_at "go"
            have f : (1 + y) * (1 - 2 * z) ≠ 0 ∧ -1000 ≤ (1 + y) * (1 - 2 * z) ∧ (1 + y) * (1 - 2 * z) ≤ 1000 := by
              rcases (show z = 0 ∨ z = 1 by omega) with rfl | rfl <;> omega
            exact hn _ _ ⟨(((e14.trans e5).trans e6).trans e7).trans e8, P8, _, _, _, _, f.1, f.2.1, f.2.2, by omega, by omega, rfl⟩
          · exact hn _ _ ⟨e14.trans e5, P5, a, b - 2, _, _, b0, b1, b2, by omega, by omega, rfl⟩
theorem w_conversion {H : Hp} {p : Addr} {kd : Kd} {Q : VK} {E : XK} (hP : PoolAt K H p) (q : ∀ v c H', COk c → k1 c = kd → Im H' v (cD c) → Ext [p] H H' → PoolAt K H' p → Q v H') : sp_law_conversion K ([.ref p, .str (kS kd)] ++ []) H Q E := ⟨_, _, rfl, p, kd, rfl, rfl, hP, q⟩

/-! ### values that are tried -/
theorem vs_len (vs : List Val) : (vs.map vV).length = vs.length := List.length_map _
theorem ints_in {v : V} {d : Int} (hd : -1000000 ≤ d ∧ d ≤ 1000000) (h : v ∈ [V.int (-1000000000), .int 1000000000, .int d]) : ∃ n : Int, v = .int n ∧ -1000000000 ≤ n ∧ n ≤ 1000000000 := by
  simp only [List.mem_cons, List.not_mem_nil, or_false] at h
  rcases h with rfl | rfl | rfl
  · exact ⟨_, rfl, by decide, by decide⟩
  · exact ⟨_, rfl, by decide, by decide⟩
  · exact ⟨_, rfl, by omega, by omega⟩
theorem al_app {a b : Str} (h : Al a.cps.toList) (k : Al b.cps.toList) : Al (a ++ b).cps.toList := fun c m => by
  rw [app_tl, List.mem_append] at m
  exact m.elim (h c) (k c)
theorem w_part' {te : TE} {σ : L2.St} {H : Hp} {P : Option Int → Hp → Prop} (h : te σ H fun x H1 => ∃ i, x = .int i ∧ P (some i) H1) : tPart te σ H P := h
/-- a cut of a text: as long as told at most -/
theorem w_cutTo {H : Hp} {Q : VK} {z : Str} {n : Int} (l : z.length ≤ 1000) (h0 : 0 ≤ n) (al : Al z.cps.toList) (k : ∀ y : Str, (y.length : Int) ≤ n → y.length ≤ z.length → Al y.cps.toList → Q (.str y) H) : rSlS (.str z) none (some n) H Q := by
  refine w_slS (sz (by omega)) (k _ ?_ (cutS_length _ _ _) (cutS_al al))
  have := cutS_to_len z n h0
  omega
theorem w_lkinds {H : Hp} {a : V} {c : Cv} {Q : VK} {E : XK} (hc : Im H a (cD c)) (k : ∀ v H', Ext [] H H' → KAt H' v c → Q v H') : sp_law_kinds K ([a] ++ []) H Q E := ⟨_, rfl, c, hc, k⟩
theorem w_kinds {H : Hp} {a : V} {c : Cv} {Q : VK} {E : XK} (hc : Im H a (cD c)) (k : ∀ v H', Ext [] H H' → KAt H' v c → Q v H') : sp_conversion_kinds K ([a] ++ []) H Q E := ⟨_, rfl, c, hc, k⟩
def sp_law_tries (K : PySem.W.Frag) : Sp := sp2 fun a b H Q => ∃ (p : Addr) (c : Cv), a = .ref p ∧ Im H b (cD c) ∧ COk c ∧ PoolAt K H p ∧ ∀ (q : Addr) (vs : List Val) (H' : Hp), Ext [p] H H' → PoolAt K H' p → H' q = some (.lst (vs.map vV)) → (∀ v ∈ vs, VOk (k1 c) v) → q ≠ p → Q (.ref q) H'
theorem ok_law_tries (T : Txt K mg) : FnOk P w K mg base CX0 6 T.f__law_tries T.d__law_tries ["pool", "conversion"] (sp_law_tries K) := by
  refine T.F__law_tries.ok sc_law_tries len2 (fun cdv A outer s H vs Q E hr h => ?_)
  have nd := sc_law_tries.nd
  have hu := hu_of hr
  obtain ⟨_, _, rfl, p, c, rfl, hc, co, hP, k⟩ := h
  refine ⟨_,
      (pss_cons (ps_set (i := 2) nd rfl (Or.inl rfl) (pe_ix ix_tup (pe_call (ok_law_kinds T) (hr.mono (by decide)) (by rfl) T.g__law_kinds T.F__law_kinds.kp T.k__law_kinds .nil pass0 (pa_cons (pv 1) pa_nil)) pe_int (fun _ _ => rfl))) 
      (pss_cons (ps_set (i := 3) nd rfl (Or.inl rfl) (pe_call (ok_law_value T) (hr.mono (by decide)) (by rfl) T.g__law_value T.F__law_value.kp T.k__law_value .nil pass0 (pa_cons (pv 0) (pa_cons (pv 2) pa_nil)))) 
      (pss_cons (ps_if (pt_cmpR op_eq (pe_ix ix_tup (pv 1) pe_int (fun _ _ => rfl)) pe_str (nomark _)) 
        (pss_one (ps_ret (pe_op zop_cat (pe_lc (own := [("left", 11), ("right", 12)]) rfl nd (pi_tup (pe_ix ix_tup (pv 1) pe_int (fun _ _ => rfl))) (blkOk_by (own := [("left", 11), ("right", 12)]) (N := ["pool", "conversion", "kind", "value", "begin", "size", "rest", "near", "end", "middle", "one", "left", "right"]) (sc := defScope s_law_tries) (by decide +kernel)) (fun _ _ _ _ _ => (pg_tupK (K := K) (n := 2) rfl rfl (pgs_cons (pg_name (i := 11) nd rfl (Or.inl rfl)) (pgs_cons (pg_name (i := 12) nd rfl (Or.inl rfl)) pgs_nil)))) (fun _ _ _ _ _ => pts_nil) (fun _ _ _ _ _ => (pv 11))) (pe_lstZ (pa_cons (pv 3) (pa_cons (pe_call (ok_law_value T) (hr.mono (by decide)) (by rfl) T.g__law_value T.F__law_value.kp T.k__law_value .nil pass0 (pa_cons (pv 0) (pa_cons (pv 2) pa_nil))) pa_nil)))))) pss_nil) 
      (pss_cons (ps_if (pt_cmpR op_eq (pv 2) pe_str (nomark _)) 
        (pss_cons (ps_set (i := 4) nd rfl (Or.inl rfl) (pe_ix ix_tup (pv 1) pe_int (fun _ _ => rfl))) 
        (pss_cons (ps_set (i := 5) nd rfl (Or.inl rfl) (pe_callB zc_len (by rfl) T.b_len (by decide +kernel) (pa_cons (pv 4) pa_nil))) 
        (pss_cons (ps_set (i := 6) nd rfl (Or.inl rfl) (pe_call (ok_law_text T) (hr.mono (by decide)) (by rfl) T.g__law_text T.F__law_text.kp T.k__law_text .nil pass0 (pa_cons (pv 0) (pa_cons pe_int (pa_cons pe_bl pa_nil))))) 
        (pss_cons (ps_set (i := 7) nd rfl (Or.inl rfl) (pe_lstZ (pa_cons (pv 6) (pa_cons (pe_slice sl_str (pv 6) po_none (po_some (pe_op op_sub pe_int (pv 5)))) (pa_cons (pe_slice sl_str (pv 6) po_none (po_some (pe_op op_sub pe_int (pv 5)))) (pa_cons (pv 3) (pa_cons pe_str (pa_cons (pv 4) (pa_cons (pe_slice sl_str (pv 4) po_none (po_some (pe_op op_sub (pv 5) pe_int))) pa_nil))))))))) 
        (pss_one (ps_ret (pe_op zop_cat (pv 7) (pe_lstZ (pa_cons (pe_op zop_addS (pv 4) (pe_slice sl_str (pv 6) po_none (po_some (pe_op op_sub pe_int (pv 5))))) (pa_cons (pe_op zop_addS (pe_slice sl_str (pv 6) po_none (po_some pe_int)) (pv 4)) (pa_cons (pe_op zop_addS (pe_slice sl_str (pv 4) po_none (po_some (pe_op op_sub (pv 5) pe_int))) (pe_slice sl_str (pv 6) po_none (po_some pe_int))) pa_nil))))))))))) pss_nil) 
      (pss_cons (ps_set (i := 7) nd rfl (Or.inl rfl) (pe_lstZ (pa_cons (pv 3) (pa_cons (pe_call (ok_law_value T) (hr.mono (by decide)) (by rfl) T.g__law_value T.F__law_value.kp T.k__law_value .nil pass0 (pa_cons (pv 0) (pa_cons (pv 2) pa_nil))) pa_nil)))) 
      (pss_cons (ps_for PassesOwn.never rfl (pi_list (pe_lstZ (pa_cons (pe_un un_neg pe_int) (pa_cons pe_int (pa_cons (pe_op op_sub (pe_call (ok_law_draw T) (hr.mono (by decide)) (by rfl) T.g__law_draw T.F__law_draw.kp T.k__law_draw .nil pass0 (pa_cons (pv 0) (pa_cons pe_int pa_nil))) pe_int) pa_nil))))) (pg_name (i := 8) nd rfl (Or.inl rfl)) 
        (pss_cons (ps_set (i := 9) nd rfl (Or.inl rfl) (pe_op op_add (pe_op op_mulW (pv 8) (pe_ix ix_tup (pv 1) pe_int (fun _ _ => rfl))) (pe_ix ix_tup (pv 1) pe_int (fun _ _ => rfl)))) 
        (pss_cons (ps_if (pt_cmpR op_eq (pe_ix ix_tup (pv 1) pe_int (fun _ _ => rfl)) pe_str (nomark _)) 
          (pss_one (ps_set (i := 9) nd rfl (Or.inl rfl) (pe_op op_fdivN (pe_op op_sub (pv 8) (pe_ix ix_tup (pv 1) pe_int (fun _ _ => rfl))) (pe_ix ix_tup (pv 1) pe_int (fun _ _ => rfl))))) pss_nil) 
        (pss_one (ps_set (i := 7) nd rfl (Or.inl rfl) (pe_op zop_cat (pv 7) (pe_lstZ (pa_cons (pe_op op_sub (pv 9) pe_int) (pa_cons (pv 9) (pa_cons (pe_op op_add (pv 9) pe_int) pa_nil)))))))))) 
      (pss_one (ps_ret (pe_lc (own := [("one", 10)]) rfl nd (pi_list (pv 7)) (blkOk_by (own := [("one", 10)]) (N := ["pool", "conversion", "kind", "value", "begin", "size", "rest", "near", "end", "middle", "one", "left", "right"]) (sc := defScope s_law_tries) (by decide +kernel)) (fun _ _ _ _ _ => (pg_name (i := 10) nd rfl (Or.inl rfl))) (fun _ _ _ _ _ => (pts_one (pt_chain op_le op_le (pe_un un_neg pe_int) (pv 10) pe_int))) (fun _ _ _ _ _ => (pv 10))))))))))), ?_⟩
  change (_ : TS) _ [some _, some _, none, none, none, none, none, none, none, none, none, none, none] _
  try dsimp only [cxOf, Cx.nox, Cx.wish]
  walk_at "go"
  refine w_lkinds hc fun v H1 e1 hk => ?_
  obtain ⟨t, rfl, ht⟩ := hk
  have P1 := hP.ext e1 List.not_mem_nil
  walk_at "go"
  refine w_value P1 fun val H2 v0 e2 P2 => ?_
  have hc2 := (hc.ext e1).ext e2
  have e02 : Ext [p] H H2 := e1.up.trans e2
  cases c with
  | aff a b =>
    obtain ⟨p', rfl, hp⟩ := cv_aff hc2
    obtain ⟨c0, c1, c2, c3, c4⟩ := co
    walk_at "go"; walk_at "if"
    refine w_f (by decide +kernel) ?_
    walk_at "go"; walk_at "if"
    refine w_f (show decide (kS .I = Str.ofString "text") = false by decide +kernel) ?_
    walk_at "go"
    refine w_value P2 fun val2 H3 v1 e3 P3 => ?_
    obtain ⟨n1, rfl, n1a, n1b⟩ := vok_I v0
    obtain ⟨n2, rfl, n2a, n2b⟩ := vok_I v1
    dsimp only [vV]
    walk_at "go"
    refine ⟨sz (by show 2 ≤ _; decide), w_alc fun L H4 e4 n4 h4 => ?_⟩
    walk_at "go"
    refine w_draw (P3.ext e4 List.not_mem_nil) (by decide) (by decide) fun d H5 d0 d1 e5 P5 => ?_
    walk_at "go"
    refine ⟨sz (by show 3 ≤ _; decide), w_alc fun M H6 e6 n6 h6 => ?_⟩
    have nLp : L ≠ p := (P3.ne n4).symm
    have hL6 := e6.keep _ _ (e5.keep _ _ h4 (nm1 nLp)) List.not_mem_nil
    have P6 := P5.ext e6 List.not_mem_nil
    have e06 := ((((e02.trans e3).trans e4.up).trans e5).trans e6.up)
    have hp6 := e6.tup (e5.tup (e4.tup (e3.tup hp)))
    refine ⟨M, rfl, ⟨_, sql h6⟩, ?_⟩
    refine z_for_list (xs := [.int (-1000000000), .int 1000000000, .int (d - 1000000)]) (fun i σ' H' => Ext [] H6 H' ∧ ∃ (L : Addr) (ns : List Int) (u v : Option V), σ' = [some (.ref p), some (.ref p'), some (.str (kS .I)), some (.int n1), none, none, none, some (.ref L), u, v, none, none, none] ∧ H' L = some (.lst (ns.map V.int)) ∧ ns.length ≤ 2 + 3 * i) ⟨Ext.refl, L, [n1, n2], _, _, rfl, hL6, Nat.le_refl _⟩ (fun i σ' H' _ ⟨e, _⟩ => sql (e.keep _ _ h6 List.not_mem_nil)) ?_ ?_
    · rintro N i x σ' H7 hx ⟨e7, L, ns, u, v, rfl, hL, ln⟩ hN
      obtain ⟨m, rfl, m0, m1⟩ := ints_in (d := d - 1000000) (by omega) (List.mem_of_getElem? hx)
      have i3 : i < 3 := by
        obtain ⟨l, _⟩ := List.getElem?_eq_some_iff.mp hx
        exact l
      have hp7 := e7.tup hp6
      walk_at "go"; walk_at "if"
      refine w_t (by decide +kernel) ?_
      walk_at "go"
      refine w_I ⟨c0, by omega⟩ ?_
      walk_at "go"
      refine ⟨sz (by show 3 ≤ _; decide), w_alc fun M2 H8 e8 n8 h8 => ?_⟩
      have hL8 := e8.keep _ _ hL List.not_mem_nil
      have h8' : ∃ x y z : Int, H8 M2 = some (.lst ([x, y, z].map V.int)) := ⟨_, _, _, h8⟩
      obtain ⟨x, y, z, h8⟩ := h8'
      refine w_cat hL8 h8 (sz (by rw [List.length_map, List.length_map]; show _ + 3 ≤ _; omega)) (w_alc fun M3 H9 e9 n9 h9 => ?_)
      rw [← List.map_append] at h9
      walk_at "go"
      exact hN _ _ ⟨(e7.trans e8).trans e9, M3, _, _, _, rfl, h9, by rw [List.length_append]; show _ + 3 ≤ _; omega⟩
    · rintro σ' H7 ⟨e7, L, ns, u, v, rfl, hL, ln⟩
      change ns.length ≤ 2 + 3 * 3 at ln
      walk_at "go"
      refine ⟨L, rfl, ⟨_, sql hL⟩, fun D nD => ?_⟩
      have P7 := P6.ext e7 List.not_mem_nil
      refine z_lc_list (xs := ns.map V.int) (fun i acc H' => Ext [] H7 H' ∧ ∃ vs : List Val, acc = vs.map vV ∧ vs.length ≤ i ∧ ∀ v ∈ vs, VOk .I v) nD (fun H' e => ⟨e, [], rfl, Nat.le_refl _, fun _ m => (nomatch m)⟩) (fun i acc H' _ ⟨e, _⟩ => sql (e.keep _ _ hL List.not_mem_nil)) ?_ ?_
      · rintro Nx i x acc H8 hx ⟨e8, vs, rfl, lv, hv⟩ hD hN
        have hi : i < ns.length := by
          obtain ⟨l, _⟩ := List.getElem?_eq_some_iff.mp hx
          rw [List.length_map] at l; exact l
        obtain ⟨m, hm, rfl⟩ : ∃ m, ns[i]? = some m ∧ x = .int m := by
          rw [List.getElem?_map] at hx
          cases q : ns[i]? with
          | none => rw [q] at hx; cases hx
          | some m => rw [q] at hx; exact ⟨m, rfl, (Option.some.inj hx).symm⟩
        walk_at "go"
        refine ⟨rfl, ?_⟩
        walk_at "go"
        refine w_chain ?_
        walk_at "go"
        refine w_d (fun h => ?_) fun h => ?_ <;> walk_at "go"
        · refine w_d (fun h2 => ?_) fun h2 => ?_ <;> walk_at "go"
          · refine w_app hD (szl (by rw [List.length_map]; omega)) fun H9 e9 h9 => ?_
            refine hN _ _ ⟨e8.dropq e9 nD, vs ++ [.nm m], by rw [List.map_append]; rfl, by rw [List.length_append]; exact Nat.succ_le_succ lv, fun v hm => ?_⟩ h9
            rcases List.mem_append.mp hm with hm | hm
            · exact hv v hm
            · rw [List.mem_singleton.mp hm]; exact ⟨h, h2⟩
          · exact hN _ _ ⟨e8, vs, rfl, Nat.le_succ_of_le lv, hv⟩ hD
        · exact hN _ _ ⟨e8, vs, rfl, Nat.le_succ_of_le lv, hv⟩ hD
      · rintro acc H8 ⟨e8, vs, rfl, lv, hv⟩ hD
        exact k D vs H8 ((e06.trans e7.up).trans e8.up) (P7.ext e8 List.not_mem_nil) hD hv (P7.ne nD).symm
  | una a b =>
    obtain ⟨p', rfl, hp⟩ := cv_una hc2
    obtain ⟨c0, c1, c2, c3, c4⟩ := co
    walk_at "go"; walk_at "if"
    refine w_f (by decide +kernel) ?_
    walk_at "go"; walk_at "if"
    refine w_f (show decide (kS .I = Str.ofString "text") = false by decide +kernel) ?_
    walk_at "go"
    refine w_value P2 fun val2 H3 v1 e3 P3 => ?_
    obtain ⟨n1, rfl, n1a, n1b⟩ := vok_I v0
    obtain ⟨n2, rfl, n2a, n2b⟩ := vok_I v1
    dsimp only [vV]
    walk_at "go"
    refine ⟨sz (by show 2 ≤ _; decide), w_alc fun L H4 e4 n4 h4 => ?_⟩
    walk_at "go"
    refine w_draw (P3.ext e4 List.not_mem_nil) (by decide) (by decide) fun d H5 d0 d1 e5 P5 => ?_
    walk_at "go"
    refine ⟨sz (by show 3 ≤ _; decide), w_alc fun M H6 e6 n6 h6 => ?_⟩
    have nLp : L ≠ p := (P3.ne n4).symm
    have hL6 := e6.keep _ _ (e5.keep _ _ h4 (nm1 nLp)) List.not_mem_nil
    have P6 := P5.ext e6 List.not_mem_nil
    have e06 := ((((e02.trans e3).trans e4.up).trans e5).trans e6.up)
    have hp6 := e6.tup (e5.tup (e4.tup (e3.tup hp)))
    refine ⟨M, rfl, ⟨_, sql h6⟩, ?_⟩
    refine z_for_list (xs := [.int (-1000000000), .int 1000000000, .int (d - 1000000)]) (fun i σ' H' => Ext [] H6 H' ∧ ∃ (L : Addr) (ns : List Int) (u v : Option V), σ' = [some (.ref p), some (.ref p'), some (.str (kS .I)), some (.int n1), none, none, none, some (.ref L), u, v, none, none, none] ∧ H' L = some (.lst (ns.map V.int)) ∧ ns.length ≤ 2 + 3 * i) ⟨Ext.refl, L, [n1, n2], _, _, rfl, hL6, Nat.le_refl _⟩ (fun i σ' H' _ ⟨e, _⟩ => sql (e.keep _ _ h6 List.not_mem_nil)) ?_ ?_
    · rintro N i x σ' H7 hx ⟨e7, L, ns, u, v, rfl, hL, ln⟩ hN
      obtain ⟨m, rfl, m0, m1⟩ := ints_in (d := d - 1000000) (by omega) (List.mem_of_getElem? hx)
      have i3 : i < 3 := by
        obtain ⟨l, _⟩ := List.getElem?_eq_some_iff.mp hx
        exact l
      have hp7 := e7.tup hp6
      walk_at "go"; walk_at "if"
      refine w_f (by decide +kernel) ?_
      walk_at "go"
      refine ⟨sz (by show 3 ≤ _; decide), w_alc fun M2 H8 e8 n8 h8 => ?_⟩
      have hL8 := e8.keep _ _ hL List.not_mem_nil
      have h8' : ∃ x y z : Int, H8 M2 = some (.lst ([x, y, z].map V.int)) := ⟨_, _, _, h8⟩
      obtain ⟨x, y, z, h8⟩ := h8'
      refine w_cat hL8 h8 (sz (by rw [List.length_map, List.length_map]; show _ + 3 ≤ _; omega)) (w_alc fun M3 H9 e9 n9 h9 => ?_)
      rw [← List.map_append] at h9
      walk_at "go"
      exact hN _ _ ⟨(e7.trans e8).trans e9, M3, _, _, _, rfl, h9, by rw [List.length_append]; show _ + 3 ≤ _; omega⟩
    · rintro σ' H7 ⟨e7, L, ns, u, v, rfl, hL, ln⟩
      change ns.length ≤ 2 + 3 * 3 at ln
      walk_at "go"
      refine ⟨L, rfl, ⟨_, sql hL⟩, fun D nD => ?_⟩
      have P7 := P6.ext e7 List.not_mem_nil
      refine z_lc_list (xs := ns.map V.int) (fun i acc H' => Ext [] H7 H' ∧ ∃ vs : List Val, acc = vs.map vV ∧ vs.length ≤ i ∧ ∀ v ∈ vs, VOk .I v) nD (fun H' e => ⟨e, [], rfl, Nat.le_refl _, fun _ m => (nomatch m)⟩) (fun i acc H' _ ⟨e, _⟩ => sql (e.keep _ _ hL List.not_mem_nil)) ?_ ?_
      · rintro Nx i x acc H8 hx ⟨e8, vs, rfl, lv, hv⟩ hD hN
        have hi : i < ns.length := by
          obtain ⟨l, _⟩ := List.getElem?_eq_some_iff.mp hx
          rw [List.length_map] at l; exact l
        obtain ⟨m, hm, rfl⟩ : ∃ m, ns[i]? = some m ∧ x = .int m := by
          rw [List.getElem?_map] at hx
          cases q : ns[i]? with
          | none => rw [q] at hx; cases hx
          | some m => rw [q] at hx; exact ⟨m, rfl, (Option.some.inj hx).symm⟩
        walk_at "go"
        refine ⟨rfl, ?_⟩
        walk_at "go"
        refine w_chain ?_
        walk_at "go"
        refine w_d (fun h => ?_) fun h => ?_ <;> walk_at "go"
        · refine w_d (fun h2 => ?_) fun h2 => ?_ <;> walk_at "go"
          · refine w_app hD (szl (by rw [List.length_map]; omega)) fun H9 e9 h9 => ?_
            refine hN _ _ ⟨e8.dropq e9 nD, vs ++ [.nm m], by rw [List.map_append]; rfl, by rw [List.length_append]; exact Nat.succ_le_succ lv, fun v hm => ?_⟩ h9
            rcases List.mem_append.mp hm with hm | hm
            · exact hv v hm
            · rw [List.mem_singleton.mp hm]; exact ⟨h, h2⟩
          · exact hN _ _ ⟨e8, vs, rfl, Nat.le_succ_of_le lv, hv⟩ hD
        · exact hN _ _ ⟨e8, vs, rfl, Nat.le_succ_of_le lv, hv⟩ hD
      · rintro acc H8 ⟨e8, vs, rfl, lv, hv⟩ hD
        exact k D vs H8 ((e06.trans e7.up).trans e8.up) (P7.ext e8 List.not_mem_nil) hD hv (P7.ne nD).symm
  | pre b =>
    obtain ⟨p', rfl, hp⟩ := cv_pre hc2
    obtain ⟨c0, c1, c2⟩ := co
    obtain ⟨y, rfl, yl, ya⟩ := vok_T v0
    dsimp only [vV]
    walk_at "go"; walk_at "if"
    refine w_f (by decide +kernel) ?_
    walk_at "go"; walk_at "if"
    refine w_t (show decide (kS .T = Str.ofString "text") = true by decide +kernel) ?_
    walk_at "go"
    refine w_lenS (sz (by omega)) ?_
    walk_at "go"
    refine w_text P2 (by decide) (by decide) fun r H3 rl ra e3 P3 => ?_
    walk_at "go"
    refine w_slice ?_
    walk_at "go"
    refine w_noPart ?_
    refine w_part' ?_
    walk_at "go"
    refine ⟨_, rfl, ?_⟩
    refine w_cutTo (by omega) (by omega) ra fun r1 l1 m1 a1 => ?_
    walk_at "go"
    refine w_slice ?_
    walk_at "go"
    refine w_noPart ?_
    refine w_part' ?_
    walk_at "go"
    refine ⟨_, rfl, ?_⟩
    refine w_cutTo (by omega) (by omega) ra fun r2 l2 m2 a2 => ?_
    walk_at "go"
    refine w_slice ?_
    walk_at "go"
    refine w_noPart ?_
    refine w_part' ?_
    walk_at "go"
    refine ⟨_, rfl, ?_⟩
    refine w_cutTo (by omega) (by omega) c2 fun r3 l3 m3 a3 => ?_
    walk_at "go"
    refine ⟨sz (by show 7 ≤ _; decide), w_alc fun L H4 e4 n4 h4 => ?_⟩
    walk_at "go"
    refine w_slice ?_
    walk_at "go"
    refine w_noPart ?_
    refine w_part' ?_
    walk_at "go"
    refine ⟨_, rfl, ?_⟩
    refine w_cutTo (by omega) (by omega) ra fun r4 l4 m4 a4 => ?_
    refine w_addS (sz (by omega)) ?_
    walk_at "go"
    refine w_slice ?_
    walk_at "go"
    refine w_noPart ?_
    refine w_part' ?_
    walk_at "go"
    refine ⟨_, rfl, ?_⟩
    refine w_cutTo (by omega) (by omega) ra fun r5 l5 m5 a5 => ?_
    walk_at "go"
    refine w_addS (sz (by omega)) ?_
    walk_at "go"
    refine w_slice ?_
    walk_at "go"
    refine w_noPart ?_
    refine w_part' ?_
    walk_at "go"
    refine ⟨_, rfl, ?_⟩
    refine w_cutTo (by omega) (by omega) c2 fun r6 l6 m6 a6 => ?_
    walk_at "go"
    refine w_slice ?_
    walk_at "go"
    refine w_noPart ?_
    refine w_part' ?_
    walk_at "go"
    refine ⟨_, rfl, ?_⟩
    refine w_cutTo (by omega) (by omega) ra fun r7 l7 m7 a7 => ?_
    refine w_addS (sz (by omega)) ?_
    walk_at "go"
    refine ⟨sz (by show 3 ≤ _; decide), w_alc fun M H5 e5 n5 h5 => ?_⟩
    have h4' := e5.keep _ _ h4 List.not_mem_nil
    refine w_cat h4' h5 (sz (by show 7 + 3 ≤ _; decide)) (w_alc fun R H6 e6 n6 h6 => ?_)
    have P5 := (P3.ext e4 List.not_mem_nil).ext e5 List.not_mem_nil
    refine k R [.tx r, .tx r1, .tx r2, .tx y, .tx (Str.ofString ""), .tx b, .tx r3, .tx (b ++ r4), .tx (r5 ++ b), .tx (r6 ++ r7)] H6 ((((e02.trans e3).trans e4.up).trans e5.up).trans e6.up) (P5.ext e6 List.not_mem_nil) h6 ?_ (P5.ne n6).symm
    intro v hv
    have el : (Str.ofString "").length = 0 := by decide
    have ea : (Str.ofString "").cps.toList = [] := by decide
    simp only [List.mem_cons, List.not_mem_nil, or_false] at hv
    rcases hv with rfl | rfl | rfl | rfl | rfl | rfl | rfl | rfl | rfl | rfl
    · exact ⟨by omega, ra⟩
    · exact ⟨by omega, a1⟩
    · exact ⟨by omega, a2⟩
    · exact ⟨yl, ya⟩
    · exact ⟨by omega, by rw [ea]; exact fun _ m => (nomatch m)⟩
    · exact ⟨by omega, c2⟩
    · exact ⟨by omega, a3⟩
    · exact ⟨by rw [str_len_append]; omega, al_app c2 a4⟩
    · exact ⟨by rw [str_len_append]; omega, al_app a5 c2⟩
    · exact ⟨by rw [str_len_append]; omega, al_app a6 a7⟩
  | unp b =>
    obtain ⟨p', rfl, hp⟩ := cv_unp hc2
    obtain ⟨c0, c1, c2⟩ := co
    obtain ⟨y, rfl, yl, ya⟩ := vok_T v0
    dsimp only [vV]
    walk_at "go"; walk_at "if"
    refine w_f (by decide +kernel) ?_
    walk_at "go"; walk_at "if"
    refine w_t (show decide (kS .T = Str.ofString "text") = true by decide +kernel) ?_
    walk_at "go"
    refine w_lenS (sz (by omega)) ?_
    walk_at "go"
    refine w_text P2 (by decide) (by decide) fun r H3 rl ra e3 P3 => ?_
    walk_at "go"
    refine w_slice ?_
    walk_at "go"
    refine w_noPart ?_
    refine w_part' ?_
    walk_at "go"
    refine ⟨_, rfl, ?_⟩
    refine w_cutTo (by omega) (by omega) ra fun r1 l1 m1 a1 => ?_
    walk_at "go"
    refine w_slice ?_
    walk_at "go"
    refine w_noPart ?_
    refine w_part' ?_
    walk_at "go"
    refine ⟨_, rfl, ?_⟩
    refine w_cutTo (by omega) (by omega) ra fun r2 l2 m2 a2 => ?_
    walk_at "go"
    refine w_slice ?_
    walk_at "go"
    refine w_noPart ?_
    refine w_part' ?_
    walk_at "go"
    refine ⟨_, rfl, ?_⟩
    refine w_cutTo (by omega) (by omega) c2 fun r3 l3 m3 a3 => ?_
    walk_at "go"
    refine ⟨sz (by show 7 ≤ _; decide), w_alc fun L H4 e4 n4 h4 => ?_⟩
    walk_at "go"
    refine w_slice ?_
    walk_at "go"
    refine w_noPart ?_
    refine w_part' ?_
    walk_at "go"
    refine ⟨_, rfl, ?_⟩
    refine w_cutTo (by omega) (by omega) ra fun r4 l4 m4 a4 => ?_
    refine w_addS (sz (by omega)) ?_
    walk_at "go"
    refine w_slice ?_
    walk_at "go"
    refine w_noPart ?_
    refine w_part' ?_
    walk_at "go"
    refine ⟨_, rfl, ?_⟩
    refine w_cutTo (by omega) (by omega) ra fun r5 l5 m5 a5 => ?_
    walk_at "go"
    refine w_addS (sz (by omega)) ?_
    walk_at "go"
    refine w_slice ?_
    walk_at "go"
    refine w_noPart ?_
    refine w_part' ?_
    walk_at "go"
    refine ⟨_, rfl, ?_⟩
    refine w_cutTo (by omega) (by omega) c2 fun r6 l6 m6 a6 => ?_
    walk_at "go"
    refine w_slice ?_
    walk_at "go"
    refine w_noPart ?_
    refine w_part' ?_
    walk_at "go"
    refine ⟨_, rfl, ?_⟩
    refine w_cutTo (by omega) (by omega) ra fun r7 l7 m7 a7 => ?_
    refine w_addS (sz (by omega)) ?_
    walk_at "go"
    refine ⟨sz (by show 3 ≤ _; decide), w_alc fun M H5 e5 n5 h5 => ?_⟩
    have h4' := e5.keep _ _ h4 List.not_mem_nil
    refine w_cat h4' h5 (sz (by show 7 + 3 ≤ _; decide)) (w_alc fun R H6 e6 n6 h6 => ?_)
    have P5 := (P3.ext e4 List.not_mem_nil).ext e5 List.not_mem_nil
    refine k R [.tx r, .tx r1, .tx r2, .tx y, .tx (Str.ofString ""), .tx b, .tx r3, .tx (b ++ r4), .tx (r5 ++ b), .tx (r6 ++ r7)] H6 ((((e02.trans e3).trans e4.up).trans e5.up).trans e6.up) (P5.ext e6 List.not_mem_nil) h6 ?_ (P5.ne n6).symm
    intro v hv
    have el : (Str.ofString "").length = 0 := by decide
    have ea : (Str.ofString "").cps.toList = [] := by decide
    simp only [List.mem_cons, List.not_mem_nil, or_false] at hv
    rcases hv with rfl | rfl | rfl | rfl | rfl | rfl | rfl | rfl | rfl | rfl
    · exact ⟨by omega, ra⟩
    · exact ⟨by omega, a1⟩
    · exact ⟨by omega, a2⟩
    · exact ⟨yl, ya⟩
    · exact ⟨by omega, by rw [ea]; exact fun _ m => (nomatch m)⟩
    · exact ⟨by omega, c2⟩
    · exact ⟨by omega, a3⟩
    · exact ⟨by rw [str_len_append]; omega, al_app c2 a4⟩
    · exact ⟨by rw [str_len_append]; omega, al_app a5 c2⟩
    · exact ⟨by rw [str_len_append]; omega, al_app a6 a7⟩
  | rcd kk l ps =>
    obtain ⟨p', q, rfl, hp, xs, hq, lz, ia⟩ := cv_rcd hc2
    have lx : xs.length = ps.length := by rw [ia.len, List.length_map]
    have l8 := co.1
    walk_at "go"; walk_at "if"
    refine w_t (by decide +kernel) ?_
    walk_at "go"
    refine ⟨q, rfl, ⟨_, sqt hq⟩, fun D nD => ?_⟩
    have nDp : D ≠ p := (P2.ne nD).symm
    refine z_lc_tup (xs := xs) (fun i acc H' => Ext [] H2 H' ∧ acc = (fsts (ps.take i)).map vV) nD (fun H' e => ⟨e, rfl⟩) (fun i acc H' _ ⟨e, _⟩ => sqt (e.tup hq)) ?_ ?_
    · rintro Nx i x acc H3 hx ⟨e3, rfl⟩ hD hN
      obtain ⟨a, pr, rfl, he, ha⟩ := prs_at ia hx
      have ha3 := e3.tup ha
      walk_at "go"
      refine ⟨rfl, ?_⟩
      walk_at "go"
      refine w_app hD (szl (by unfold fsts; rw [List.length_map, List.length_map, List.length_take]; omega)) fun H4 e4 h4 => ?_
      refine hN _ _ ⟨e3.dropq e4 nD, ?_⟩ h4
      rw [tk2 he]; unfold fsts; rw [List.map_append, List.map_append]; rfl
    · rintro acc H3 ⟨e3, rfl⟩ hD
      rw [lx, List.take_length] at hD
      walk_at "go"
      refine w_value (P2.ext e3 List.not_mem_nil) fun val2 H4 v1 e4 P4 => ?_
      walk_at "go"
      refine ⟨sz (by show 2 ≤ _; decide), w_alc fun M H5 e5 n5 h5 => ?_⟩
      have hD5 := e5.keep _ _ (e4.keep _ _ hD (nm1 nDp)) List.not_mem_nil
      refine w_cat hD5 h5 (sz (by unfold fsts; rw [List.length_map, List.length_map]; show _ + 2 ≤ _; omega)) (w_alc fun R H6 e6 n6 h6 => ?_)
      have P5 := P4.ext e5 List.not_mem_nil
      refine k R (fsts ps ++ [val, val2]) H6 ((((e02.trans e3.up).trans e4).trans e5.up).trans e6.up) (P5.ext e6 List.not_mem_nil) (by rw [h6, List.map_append]; rfl) (fun v m => ?_) (P5.ne n6).symm
      rcases List.mem_append.mp m with m | m
      · obtain ⟨pr, hpr, rfl⟩ := List.mem_map.mp m
        exact (co.2.1 pr hpr).1
      · simp only [List.mem_cons, List.not_mem_nil, or_false] at m
        rcases m with rfl | rfl
        · exact v0
        · exact v1
theorem w_tries {H : Hp} {p : Addr} {b : V} {c : Cv} {Q : VK} {E : XK} (hc : Im H b (cD c)) (co : COk c) (hP : PoolAt K H p) (k : ∀ (q : Addr) (vs : List Val) (H' : Hp), Ext [p] H H' → PoolAt K H' p → H' q = some (.lst (vs.map vV)) → (∀ v ∈ vs, VOk (k1 c) v) → q ≠ p → Q (.ref q) H') : sp_law_tries K ([.ref p, b] ++ []) H Q E := ⟨_, _, rfl, p, c, rfl, hc, co, hP, k⟩

theorem kS_depth (a b : Str) : (PyData.tuple [.str a, .str b]).depth = 1 := by simp [PyData.depth, PyData.depthAll]
theorem dAll_le : ∀ {ds : List PyData} {n : Nat}, (∀ d ∈ ds, d.depth ≤ n) → PyData.depthAll ds ≤ n
  | [], _, _ => by simp [PyData.depthAll]
  | d :: ds, n, h => by
    rw [PyData.depthAll]
    exact Nat.max_le.mpr ⟨h d List.mem_cons_self, dAll_le fun e m => h e (List.mem_cons_of_mem _ m)⟩
theorem vD_depth : ∀ v : Val, (vD v).depth = 0
  | .fl _ => by simp [vD, PyData.depth]
  | .nm _ => by simp [vD, PyData.depth]
  | .tx _ => by simp [vD, PyData.depth]
theorem prD_depth3 (p : Val × Val) : (prD3 p).depth ≤ 1 := by
  unfold prD3
  rw [d_tup]
  refine Nat.succ_le_succ (dAll_le fun d m => ?_)
  simp only [List.mem_cons, List.not_mem_nil, or_false] at m
  rcases m with rfl | rfl <;> exact Nat.le_of_eq (vD_depth _)
theorem cD_depth (c : Cv) : (cD c).depth ≤ 3 := by
  cases c with
  | rcd k l ps =>
    show (PyData.tuple _).depth ≤ 3
    rw [d_tup]
    refine Nat.succ_le_succ (dAll_le fun d m => ?_)
    simp only [List.mem_cons, List.not_mem_nil, or_false] at m
    rcases m with rfl | rfl | rfl | rfl
    · simp [PyData.depth]
    · simp [PyData.depth]
    · simp [PyData.depth]
    · rw [d_tup]
      refine Nat.succ_le_succ (dAll_le fun d m => ?_)
      obtain ⟨p, _, rfl⟩ := List.mem_map.mp m
      exact prD_depth3 p
  | aff a b => simp [cD, PyData.depth, PyData.depthAll]
  | una a b => simp [cD, PyData.depth, PyData.depthAll]
  | pre p => simp [cD, PyData.depth, PyData.depthAll]
  | unp p => simp [cD, PyData.depth, PyData.depthAll]
theorem sl_ov {H : Hp} : ∀ o : Option Val, Sl 6 H (ov o) (ov o)
  | none => Sl.im (d := .none) (by simp [PyData.depth]) .non .non
  | some v => Sl.im (d := vD v) (by rw [vD_depth]; decide) (im_val v) (im_val v)
theorem sl_cv {H : Hp} {a b : V} {c : Cv} (h : Im H a (cD c)) (k : Im H b (cD c)) : Sl 6 H a b := Sl.im (d := cD c) (by have := cD_depth c; omega) h k
theorem sl_ks {H : Hp} {a b : V} {c : Cv} (h : KAt H a c) (k : KAt H b c) : Sl 6 H a b := by
  obtain ⟨p, rfl, hp⟩ := h
  obtain ⟨q, rfl, hq⟩ := k
  exact Sl.im (d := kD c) (by unfold kD; rw [kS_depth]; decide) (im2 hp (.str _) (.str _)) (im2 hq (.str _) (.str _))
theorem KAt_ext {H H' : Hp} {v : V} {c : Cv} {M : List Addr} (h : KAt H v c) (e : Ext M H H') : KAt H' v c := by
  obtain ⟨p, rfl, hp⟩ := h
  exact ⟨p, rfl, e.tup hp⟩
theorem sl_all {H : Hp} : ∀ {xs ys : List V} {cs : List Cv}, ImAll H xs (cs.map cD) → ImAll H ys (cs.map cD) → Paired (Sl 5 H) xs ys
  | _, _, [], .nil, .nil => .nil
  | _, _, c :: _, .cons h t, .cons k u => .cons (Sl.im (d := cD c) (by have := cD_depth c; omega) h k) (sl_all t u)
theorem sl_list {H : Hp} {p q : Addr} {cs : List Cv} (h : CvL H p cs) (k : CvL H q cs) : Sl 6 H (.ref p) (.ref q) := by
  obtain ⟨xs, hp, ia, l⟩ := h
  obtain ⟨ys, hq, ib, _⟩ := k
  exact .inr ⟨p, q, xs, ys, rfl, rfl, hp, hq, by rw [ia.len, List.length_map]; omega, sl_all ia ib⟩
def sp_law_one (K : PySem.W.Frag) : Sp := sp2 fun a b H Q => ∃ (p : Addr) (c : Cv), a = .ref p ∧ Im H b (cD c) ∧ COk c ∧ PoolAt K H p ∧ ∀ H', Ext [p] H H' → PoolAt K H' p → Q (.bl true) H'
theorem ok_law_one (T : Txt K mg) : FnOk P w K mg base CX0 7 T.f__law_one T.d__law_one ["pool", "conversion"] (sp_law_one K) := by
  refine T.F__law_one.ok sc_law_one len2 (fun cdv A outer s H vs Q E hr h => ?_)
  have nd := sc_law_one.nd
  have hu := hu_of hr
  obtain ⟨_, v, rfl, p, c, rfl, hc, co, hP, k⟩ := h
  refine ⟨_,
      (pss_cons (ps_set (i := 2) nd rfl (Or.inl rfl) (pe_call (ok_law_kinds T) (hr.mono (by decide)) (by rfl) T.g__law_kinds T.F__law_kinds.kp T.k__law_kinds .nil pass0 (pa_cons (pv 1) pa_nil))) 
      (pss_cons (ps_set (i := 3) nd rfl (Or.inl rfl) (pe_call (ok_law_inverse T) (hr.mono (by decide)) (by rfl) T.g__law_inverse T.F__law_inverse.kp T.k__law_inverse .nil pass0 (pa_cons (pv 1) pa_nil))) 
      (pss_cons (ps_if (PW.pt (pw_or (pt_not (pt_val (pe_call (ok_law_same T) (hr.mono (by decide)) (by rfl) T.g__law_same T.F__law_same.kp T.k__law_same .nil pass0 (pa_cons (pe_call (ok_conversion_kinds T) (hr.mono (by decide)) (by rfl) T.g_conversion_kinds T.F_conversion_kinds.kp T.k_conversion_kinds .nil pass0 (pa_cons (pv 1) pa_nil)) (pa_cons (pv 2) pa_nil))))) (pw_or1 (pt_not (pt_val (pe_call (ok_law_same T) (hr.mono (by decide)) (by rfl) T.g__law_same T.F__law_same.kp T.k__law_same .nil pass0 (pa_cons (pe_call (ok_inverse T) (hr.mono (by decide)) (by rfl) T.g_inverse T.F_inverse.kp T.k_inverse .nil pass0 (pa_cons (pv 1) pa_nil)) (pa_cons (pv 3) pa_nil)))))))) 
        (pss_one (ps_ret pe_bl)) pss_nil) 
      (pss_cons (ps_for PassesOwn.never rfl (pi_list (pe_call (ok_law_tries T) (hr.mono (by decide)) (by rfl) T.g__law_tries T.F__law_tries.kp T.k__law_tries .nil pass0 (pa_cons (pv 0) (pa_cons (pv 1) pa_nil)))) (pg_name (i := 4) nd rfl (Or.inl rfl)) 
        (pss_cons (ps_set (i := 5) nd rfl (Or.inl rfl) (pe_call (ok_law_conv T) (hr.mono (by decide)) (by rfl) T.g__law_conv T.F__law_conv.kp T.k__law_conv .nil pass0 (pa_cons (pv 1) (pa_cons (pv 4) pa_nil)))) 
        (pss_cons (ps_if (pt_not (pt_val (pe_call (ok_law_same T) (hr.mono (by decide)) (by rfl) T.g__law_same T.F__law_same.kp T.k__law_same .nil pass0 (pa_cons (pe_call (ok_convert T) (hr.mono (by decide)) (by rfl) T.g_convert T.F_convert.kp T.k_convert .nil pass0 (pa_cons (pv 1) (pa_cons (pv 4) pa_nil))) (pa_cons (pv 5) pa_nil))))) 
          (pss_one (ps_ret pe_bl)) pss_nil) 
        (pss_one (ps_if (PW.pt (pw_and (pt_cmpR zop_notN (pv 5) pe_non (nomark _)) (pw_and1 (pt_not (pt_val (pe_call (ok_law_same T) (hr.mono (by decide)) (by rfl) T.g__law_same T.F__law_same.kp T.k__law_same .nil pass0 (pa_cons (pe_call (ok_convert T) (hr.mono (by decide)) (by rfl) T.g_convert T.F_convert.kp T.k_convert .nil pass0 (pa_cons (pe_call (ok_inverse T) (hr.mono (by decide)) (by rfl) T.g_inverse T.F_inverse.kp T.k_inverse .nil pass0 (pa_cons (pv 1) pa_nil)) (pa_cons (pv 5) pa_nil))) (pa_cons (pv 4) pa_nil)))))))) 
          (pss_one (ps_ret pe_bl)) pss_nil))))) 
      (pss_cons (ps_for PassesOwn.never rfl (pi_range1 (by rfl) T.b_range (pa_cons pe_int pa_nil)) (pg_name (i := 6) nd rfl (Or.inl rfl)) 
        (pss_cons (ps_set (i := 4) nd rfl (Or.inl rfl) (pe_call (ok_law_value T) (hr.mono (by decide)) (by rfl) T.g__law_value T.F__law_value.kp T.k__law_value .nil pass0 (pa_cons (pv 0) (pa_cons (pe_ix ix_tup (pv 2) pe_int (fun _ _ => rfl)) pa_nil)))) 
        (pss_one (ps_if (pt_not (pt_val (pe_call (ok_law_same T) (hr.mono (by decide)) (by rfl) T.g__law_same T.F__law_same.kp T.k__law_same .nil pass0 (pa_cons (pe_call (ok_convert T) (hr.mono (by decide)) (by rfl) T.g_convert T.F_convert.kp T.k_convert .nil pass0 (pa_cons (pe_call (ok_inverse T) (hr.mono (by decide)) (by rfl) T.g_inverse T.F_inverse.kp T.k_inverse .nil pass0 (pa_cons (pv 1) pa_nil)) (pa_cons (pv 4) pa_nil))) (pa_cons (pe_call (ok_law_conv T) (hr.mono (by decide)) (by rfl) T.g__law_conv T.F__law_conv.kp T.k__law_conv .nil pass0 (pa_cons (pv 3) (pa_cons (pv 4) pa_nil))) pa_nil))))) 
          (pss_one (ps_ret pe_bl)) pss_nil)))) 
      (pss_one (ps_ret pe_bl))))))), ?_⟩
  change (_ : TS) _ [some _, some _, none, none, none, none, none] _
  try dsimp only [cxOf, Cx.nox, Cx.wish]
  walk_at "go"
  refine w_lkinds hc fun v1 H1 e1 k1' => ?_
  walk_at "go"
  have hc1 := hc.ext e1
  refine w_linverse hc1 co fun v2 H2 e2 i2 => ?_
  have hc2 := hc1.ext e2
  walk_at "go"; walk_at "if"
  refine w_kinds hc2 fun v3 H3 e3 k3 => ?_
  walk_at "go"
  refine w_same (sl_ks k3 ((KAt_ext k1' e2).elim fun a h => ⟨a, h.1, e3.tup h.2⟩)) fun H4 e4 => ?_
  walk_at "go"
  have hc4 := (hc2.ext e3).ext e4
  refine w_inverse hc4 co fun v4 H5 e5 i5 => ?_
  have i25 := ((i2.ext e3).ext e4).ext e5
  walk_at "go"
  refine w_same (sl_cv i5 i25) fun H6 e6 => ?_
  walk_at "go"
  have e06 : Ext [] H H6 := ((((e1.trans e2).trans e3).trans e4).trans e5).trans e6
  have hc6 := hc.ext e06
  have P6 := hP.ext e06 List.not_mem_nil
  have kk6 : KAt H6 v1 c := KAt_ext k1' (((((e2.trans e3).trans e4).trans e5).trans e6))
  have i26 := i25.ext e6
  refine w_tries hc6 co P6 fun q vs H7 e7 P7 hq hvs nqp => ?_
  refine ⟨q, rfl, ⟨_, sql hq⟩, ?_⟩
  refine z_for_list (xs := vs.map vV) (fun i σ' H' => Ext [] H7 H' ∧ ∃ (u w : Option V), σ' = [some (.ref p), some v, some v1, some v2, u, w, none]) ⟨Ext.refl, _, _, rfl⟩ (fun i σ' H' _ ⟨e, _⟩ => sql (e.keep _ _ hq List.not_mem_nil)) ?_ ?_
  · rintro N i x σ' H8 hx ⟨e8, u, w, rfl⟩ hN
    obtain ⟨y, hy, rfl⟩ : ∃ y, y ∈ vs ∧ x = vV y := by
      obtain ⟨y, hy, e⟩ := List.mem_map.mp (List.mem_of_getElem? hx)
      exact ⟨y, hy, e.symm⟩
    have vy := hvs y hy
    have hc8 := (hc6.ext e7).ext e8
    walk_at "go"
    refine w_conv hc8 co vy ?_
    walk_at "go"; walk_at "if"
    refine w_convert hc8 co vy ?_
    walk_at "go"
    refine w_same (sl_ov _) fun H9 e9 => ?_
    walk_at "go"; walk_at "if"
    cases hr : cvt c y with
    | none =>
      refine w_f rfl ?_
      walk_at "go"
      exact hN _ _ ⟨e8.trans e9, _, _, rfl⟩
    | some r =>
      refine w_t (by cases r <;> rfl) ?_
      walk_at "go"
      refine w_inverse (hc8.ext e9) co fun v5 HA eA iA => ?_
      walk_at "go"
      refine w_convert iA (cI_ok co) (by rw [cI_k1]; exact cvt_ok co vy hr) ?_
      walk_at "go"
      rw [cvt_back co vy hr]
      refine w_same (sl_ov (some y)) fun HB eB => ?_
      walk_at "go"
      exact hN _ _ ⟨((e8.trans e9).trans eA).trans eB, _, _, rfl⟩
  · rintro σ' H8 ⟨e8, u, w, rfl⟩
    have P8 := P7.ext e8 List.not_mem_nil
    have e08 : Ext [p] H H8 := (e06.up.trans e7).trans e8.up
    have hc8 := (hc6.ext e7).ext e8
    have kk8 := KAt_ext (KAt_ext kk6 e7) e8
    have i28 := (i26.ext e7).ext e8
    walk_at "go"
    refine ⟨_, rfl, by decide, by decide, z_for_range (lo := 0) (n := 2) (fun i σ' H' => Ext [p] H8 H' ∧ PoolAt K H' p ∧ ∃ (u w z : Option V), σ' = [some (.ref p), some v, some v1, some v2, u, w, z]) ⟨Ext.refl, P8, _, _, _, rfl⟩ ?_ ?_⟩
    · rintro N i σ' H9 hi ⟨e9, P9, u, w, z, rfl⟩ hN
      obtain ⟨kp, rfl, hkp⟩ := KAt_ext kk8 e9
      walk_at "go"
      refine w_value P9 fun x HA x0 eA PA => ?_
      have hcA := (hc8.ext e9).ext eA
      have iA := (i28.ext e9).ext eA
      walk_at "go"; walk_at "if"
      refine w_inverse hcA co fun v5 HB eB iB => ?_
      walk_at "go"
      refine w_convert iB (cI_ok co) (by rw [cI_k1]; exact x0) ?_
      walk_at "go"
      refine w_conv (iA.ext eB) (cI_ok co) (by rw [cI_k1]; exact x0) ?_
      walk_at "go"
      refine w_same (sl_ov _) fun HC eC => ?_
      walk_at "go"
      exact hN _ _ ⟨((e9.trans eA).trans eB.up).trans eC.up, (PA.ext eB List.not_mem_nil).ext eC List.not_mem_nil, _, _, _, rfl⟩
    · rintro σ' H9 ⟨e9, P9, u, w, z, rfl⟩
      walk_at "go"
      exact k _ (e08.trans e9) P9
theorem w_one {H : Hp} {p : Addr} {b : V} {c : Cv} {Q : VK} {E : XK} (hc : Im H b (cD c)) (co : COk c) (hP : PoolAt K H p) (k : ∀ H', Ext [p] H H' → PoolAt K H' p → Q (.bl true) H') : sp_law_one K ([.ref p, b] ++ []) H Q E := ⟨_, _, rfl, p, c, rfl, hc, co, hP, k⟩
theorem w_through {H : Hp} {p : Addr} {cs : List Cv} {k l : Kd} {v : Val} {Q : VK} {E : XK} (hc : CvL H p cs) (ch : Chn k cs l) (hv : VOk k v) (q : Q (ov (thr cs v)) H) : sp_convert_through K ([.ref p, vV v] ++ []) H Q E := ⟨_, _, rfl, p, cs, k, l, v, rfl, rfl, hc, ch, hv, q⟩
theorem w_lthrough {H : Hp} {p : Addr} {cs : List Cv} {k l : Kd} {v : Val} {Q : VK} {E : XK} (hc : CvL H p cs) (ch : Chn k cs l) (hv : VOk k v) (q : Q (ov (thr cs v)) H) : sp_law_through K ([.ref p, vV v] ++ []) H Q E := ⟨_, _, rfl, p, cs, k, l, v, rfl, rfl, hc, ch, hv, q⟩
theorem w_against {H : Hp} {p : Addr} {cs : List Cv} {k l : Kd} {v : Val} {Q : VK} {E : XK} (hc : CvL H p cs) (ch : Chn k cs l) (hv : VOk l v) (q : ∀ H', Ext [] H H' → Q (ov (thr (cs.reverse.map cI) v)) H') : sp_law_against K ([.ref p, vV v] ++ []) H Q E := ⟨_, _, rfl, p, cs, k, l, v, rfl, rfl, hc, ch, hv, q⟩
theorem w_ilist {H : Hp} {p : Addr} {cs : List Cv} {Q : VK} {E : XK} (hc : CvL H p cs) (co : ∀ c ∈ cs, COk c) (k : ∀ q H', Ext [] H H' → H q = none → CvL H' q (cs.reverse.map cI) → Q (.ref q) H') : sp_inverse_list K ([.ref p] ++ []) H Q E := ⟨_, rfl, p, cs, rfl, hc, co, k⟩
theorem chn_all {k l : Kd} {cs : List Cv} (h : Chn k cs l) : ∀ c ∈ cs, COk c := fun c m => by
  obtain ⟨i, hi⟩ := List.mem_iff_getElem?.mp m
  exact (chn_at h hi).1
theorem chn_snoc {k l : Kd} {cs : List Cv} {c : Cv} (h : Chn k cs l) (co : COk c) (e : k1 c = l) : Chn k (cs ++ [c]) (k2 c) := chn_app h ⟨co, e, rfl⟩
/-! ### the law -/
def sp_law (K : PySem.W.Frag) : Sp := sp1 fun a H Q => ∃ (sc : Addr) (ns : List Int), a = .ref sc ∧ Scr K H sc (ns.map V.int) ∧ ∀ H', Q (.bl true) H'
theorem start_law {H : Hp} {a : Addr} {ns : List Int} (hO : Only H) (hl : ns.length ≤ 63) (hS : SqL K H a (ns.map V.int)) : sp_law K [.ref a] H (fun v _ => v = .bl true) (fun _ _ _ => False) :=
  ⟨_, rfl, a, ns, rfl, Scr.of hO hS, fun _ => rfl⟩
theorem ok_law (T : Txt K mg) : FnOk P w K mg base CX0 8 T.f_law T.d_law ["script"] (sp_law K) := by
  refine T.F_law.ok sc_law len1 (fun cdv A outer s H vs Q E hr h => ?_)
  have nd := sc_law.nd
  have hu := hu_of hr
  obtain ⟨_, rfl, sc, ns, rfl, hS, k⟩ := h
  refine ⟨_,
      (pss_cons (ps_set (i := 1) nd rfl (Or.inl rfl) (pe_call (ok_law_pool T) (hr.mono (by decide)) (by rfl) T.g__law_pool T.F__law_pool.kp T.k__law_pool .nil pass0 (pa_cons (pv 0) pa_nil))) 
      (pss_cons (ps_set (i := 2) nd rfl (Or.inl rfl) (pe_call (ok_law_pick T) (hr.mono (by decide)) (by rfl) T.g__law_pick T.F__law_pick.kp T.k__law_pick .nil pass0 (pa_cons (pv 1) (pa_cons (pe_lstZ (pa_cons pe_str (pa_cons pe_str (pa_cons pe_str pa_nil)))) pa_nil)))) 
      (pss_cons (ps_set (i := 3) nd rfl (Or.inl rfl) (pv 2)) 
      (pss_cons (ps_set (i := 4) nd rfl (Or.inl rfl) (pe_lstZ pa_nil)) 
      (pss_cons (ps_for PassesOwn.never rfl (pi_range1 (by rfl) T.b_range (pa_cons (pe_call (ok_law_draw T) (hr.mono (by decide)) (by rfl) T.g__law_draw T.F__law_draw.kp T.k__law_draw .nil pass0 (pa_cons (pv 1) (pa_cons pe_int pa_nil))) pa_nil)) (pg_name (i := 5) nd rfl (Or.inl rfl)) 
        (pss_cons (ps_expr (pe_call (ok_law_next T) (hr.mono (by decide)) (by rfl) T.g__law_next T.F__law_next.kp T.k__law_next .nil pass0 (pa_cons (pv 1) pa_nil))) 
        (pss_cons (ps_expr (pe_bm PySem.F.plainAttrs_list PySem.F.slot_list_append PySem.F.type_list_append zmt_append (pv 4) (pa_cons (pe_call (ok_law_conversion T) (hr.mono (by decide)) (by rfl) T.g__law_conversion T.F__law_conversion.kp T.k__law_conversion .nil pass0 (pa_cons (pv 1) (pa_cons (pv 3) pa_nil))) pa_nil))) 
        (pss_cons (ps_set (i := 3) nd rfl (Or.inl rfl) (pe_ix ix_tup (pe_call (ok_law_kinds T) (hr.mono (by decide)) (by rfl) T.g__law_kinds T.F__law_kinds.kp T.k__law_kinds .nil pass0 (pa_cons (pe_ix ix_list (pv 4) (pv 5) (fun _ _ => rfl)) pa_nil)) pe_int (fun _ _ => rfl))) 
        (pss_one (ps_if (pt_not (pt_val (pe_call (ok_law_one T) (hr.mono (by decide)) (by rfl) T.g__law_one T.F__law_one.kp T.k__law_one .nil pass0 (pa_cons (pv 1) (pa_cons (pe_ix ix_list (pv 4) (pv 5) (fun _ _ => rfl)) pa_nil))))) 
          (pss_one (ps_ret pe_bl)) pss_nil)))))) 
      (pss_cons (ps_setLc (i := 6) (own := [("conversion", 11)]) rfl nd rfl rfl (sw_true rfl rfl rfl (by decide +kernel)) (pi_reversed (by rfl) T.b_reversed (pa_cons (pv 4) pa_nil)) (blkOk_by (own := [("conversion", 11)]) (N := ["script", "pool", "first", "kind", "conversions", "k", "backs", "passed", "tries", "value", "due", "conversion"]) (sc := defScope s_law) (by decide +kernel)) (fun _ _ _ _ _ => (pg_name (i := 11) nd rfl (Or.inl rfl))) (fun _ _ _ _ _ => pts_nil) (fun _ _ _ _ _ => (pe_call (ok_law_inverse T) (hr.mono (by decide)) (by rfl) T.g__law_inverse T.F__law_inverse.kp T.k__law_inverse .nil pass0 (pa_cons (pv 11) pa_nil)))) 
      (pss_cons (ps_set (i := 7) nd rfl (Or.inl rfl) (pe_callTy zc_list (by rfl) T.b_list (by decide +kernel) (pa_cons (pv 4) pa_nil))) 
      (pss_cons (ps_if (PW.pt (pw_or (pt_not (pt_val (pe_call (ok_law_same T) (hr.mono (by decide)) (by rfl) T.g__law_same T.F__law_same.kp T.k__law_same .nil pass0 (pa_cons (pe_call (ok_inverse_list T) (hr.mono (by decide)) (by rfl) T.g_inverse_list T.F_inverse_list.kp T.k_inverse_list .nil pass0 (pa_cons (pv 7) pa_nil)) (pa_cons (pv 6) pa_nil))))) (pw_or1 (pt_not (pt_val (pe_call (ok_law_same T) (hr.mono (by decide)) (by rfl) T.g__law_same T.F__law_same.kp T.k__law_same .nil pass0 (pa_cons (pv 7) (pa_cons (pv 4) pa_nil)))))))) 
        (pss_one (ps_ret pe_bl)) pss_nil) 
      (pss_cons (ps_set (i := 8) nd rfl (Or.inl rfl) (pe_lstZ (pa_cons (pe_call (ok_law_value T) (hr.mono (by decide)) (by rfl) T.g__law_value T.F__law_value.kp T.k__law_value .nil pass0 (pa_cons (pv 1) (pa_cons (pv 2) pa_nil))) (pa_cons (pe_call (ok_law_against T) (hr.mono (by decide)) (by rfl) T.g__law_against T.F__law_against.kp T.k__law_against .nil pass0 (pa_cons (pv 4) (pa_cons (pe_call (ok_law_value T) (hr.mono (by decide)) (by rfl) T.g__law_value T.F__law_value.kp T.k__law_value .nil pass0 (pa_cons (pv 1) (pa_cons (pv 3) pa_nil))) pa_nil))) pa_nil)))) 
      (pss_cons (ps_for PassesOwn.never rfl (pi_list (pv 8)) (pg_name (i := 9) nd rfl (Or.inl rfl)) 
        (pss_one (ps_if (pt_cmpR zop_notN (pv 9) pe_non (nomark _)) 
          (pss_cons (ps_set (i := 10) nd rfl (Or.inl rfl) (pe_call (ok_law_through T) (hr.mono (by decide)) (by rfl) T.g__law_through T.F__law_through.kp T.k__law_through .nil pass0 (pa_cons (pv 4) (pa_cons (pv 9) pa_nil)))) 
          (pss_cons (ps_if (PW.pt (pw_or (pt_not (pt_val (pe_call (ok_law_same T) (hr.mono (by decide)) (by rfl) T.g__law_same T.F__law_same.kp T.k__law_same .nil pass0 (pa_cons (pe_call (ok_convert_through T) (hr.mono (by decide)) (by rfl) T.g_convert_through T.F_convert_through.kp T.k_convert_through .nil pass0 (pa_cons (pv 7) (pa_cons (pv 9) pa_nil))) (pa_cons (pv 10) pa_nil))))) (pw_or1 (pt_not (pt_val (pe_call (ok_law_same T) (hr.mono (by decide)) (by rfl) T.g__law_same T.F__law_same.kp T.k__law_same .nil pass0 (pa_cons (pv 7) (pa_cons (pv 4) pa_nil)))))))) 
            (pss_one (ps_ret pe_bl)) pss_nil) 
          (pss_one (ps_if (PW.pt (pw_and (pt_cmpR zop_notN (pv 10) pe_non (nomark _)) (pw_and1 (pt_not (pt_val (pe_call (ok_law_same T) (hr.mono (by decide)) (by rfl) T.g__law_same T.F__law_same.kp T.k__law_same .nil pass0 (pa_cons (pe_call (ok_convert_through T) (hr.mono (by decide)) (by rfl) T.g_convert_through T.F_convert_through.kp T.k_convert_through .nil pass0 (pa_cons (pe_call (ok_inverse_list T) (hr.mono (by decide)) (by rfl) T.g_inverse_list T.F_inverse_list.kp T.k_inverse_list .nil pass0 (pa_cons (pv 7) pa_nil)) (pa_cons (pv 10) pa_nil))) (pa_cons (pv 9) pa_nil)))))))) 
            (pss_one (ps_ret pe_bl)) pss_nil)))) pss_nil))) 
      (pss_one (ps_ret pe_bl)))))))))))), ?_⟩
  change (_ : TS) _ [some _, none, none, none, none, none, none, none, none, none, none, none] _
  try dsimp only [cxOf, Cx.nox, Cx.wish]
  walk_at "go"
  refine w_sp1 ⟨sc, ns, rfl, hS, fun p H1 e1 n1 P1 => ?_⟩
  walk_at "go"
  refine ⟨sz (by show 3 ≤ _; decide), w_alc fun o H2 e2 n2 h2 => ?_⟩
  walk_at "go"
  refine w_pick (P1.ext e2 List.not_mem_nil) h2 (P1.ne n2).symm (by decide) (by decide) fun v H3 hv e3 P3 => ?_
  obtain ⟨k0, rfl⟩ := kinds_in hv
  walk_at "go"
  refine ⟨Nat.zero_le _, w_alc fun C H4 e4 n4 h4 => ?_⟩
  walk_at "go"
  have P4 := P3.ext e4 List.not_mem_nil
  have nCp : C ≠ p := (P3.ne n4).symm
  refine w_draw P4 (by decide) (by decide) fun n H5 n0 n1' e5 P5 => ?_
  walk_at "go"
  have h5 := e5.keep _ _ h4 (nm1 nCp)
  refine ⟨_, rfl, by omega, by omega, z_for_range (lo := 0) (fun i σ' H' => ∃ (cs : List Cv) (kd : Kd) (u : Option V), σ' = [some (.ref sc), some (.ref p), some (.str (kS k0)), some (.str (kS kd)), some (.ref C), u, none, none, none, none, none, none] ∧ PoolAt K H' p ∧ CvL H' C cs ∧ Chn k0 cs kd ∧ cs.length = i)
    ⟨[], k0, _, rfl, P5, ⟨[], h5, .nil, Nat.zero_le _⟩, rfl, rfl⟩ ?_ ?_⟩
  · rintro N i σ' H6 hi ⟨cs, kd, u, rfl, P6, hC, ch, lc⟩ hN
    obtain ⟨xs0, hx0, _⟩ := id hC
    walk_at "go"
    refine w_next_ P6 fun H7 e7 P7 => ?_
    have hx07 := e7.keep _ _ hx0 (nm1 nCp)
    walk_at "go"
    refine w_conversion P7 fun v c H8 co ck im e8 P8 => ?_
    have hC8 := CvL_ext (CvL_ext hC e7 (nm1 nCp)) e8 (nm1 nCp)
    obtain ⟨xs, hx, ia, lz⟩ := hC8
    have lx : xs.length = i := by rw [ia.len, List.length_map, lc]
    walk_at "go"
    refine w_append hx (szl (by omega)) ?_
    refine w_chg hx (fun z => z) fun H9 e9 h9 => ?_
    have im9 := im.ext e9
    have P9 := P8.ext e9 (nm1 nCp.symm)
    have hC9 : CvL H9 C (cs ++ [c]) := ⟨_, h9, by rw [List.map_append]; exact ImAll.snoc im9 (ia.ext e9), by rw [List.length_append, lc]; show i + 1 ≤ 20; omega⟩
    walk_at "go"
    refine w_ixL (sql h9) (at_nat0 (get_snoc lx)) ?_
    walk_at "go"
    refine w_lkinds im9 fun kv HA eA hk => ?_
    obtain ⟨kp, rfl, hkp⟩ := hk
    have hA := eA.keep _ _ h9 List.not_mem_nil
    walk_at "go"; walk_at "if"
    refine w_ixL (sql hA) (at_nat0 (get_snoc lx)) ?_
    walk_at "go"
    refine w_one (im9.ext eA) co (P9.ext eA List.not_mem_nil) fun HB eB PB => ?_
    walk_at "go"
    exact hN _ _ ⟨cs ++ [c], k2 c, _, rfl, PB, CvL_ext (CvL_ext hC9 eA List.not_mem_nil) eB (nm1 nCp), chn_snoc ch co ck, by rw [List.length_append, lc]; rfl⟩
  · rintro σ' H6 ⟨cs, kd, u, rfl, P6, hC, ch, lc⟩
    have coa := chn_all ch
    obtain ⟨xs, hx, ia, lz⟩ := id hC
    have lx : xs.length = cs.length := by rw [ia.len, List.length_map]
    have ir := imall_rev ia
    rw [← List.map_reverse] at ir
    walk_at "go"
    refine w_iRev ?_
    walk_at "go"
    refine ⟨C, xs, rfl, sql hx, fun D nD => ?_⟩
    refine z_lc_rev (xs := xs) (fun i acc H' => Ext [] H6 H' ∧ ImAll H' acc (((cs.reverse.take i).map cI).map cD)) nD (fun H' e => ⟨e, .nil⟩) (fun i acc H' _ ⟨e, _⟩ => sql (e.keep _ _ hx List.not_mem_nil)) ?_ ?_
    · rintro Nx i x acc H7 hx' ⟨e7, hac⟩ hD hN
      obtain ⟨c, hc, im⟩ := cvs_at ir hx'
      walk_at "go"
      refine ⟨rfl, ?_⟩
      walk_at "go"
      refine w_linverse (im.ext e7) (coa c (List.mem_reverse.mp (List.mem_of_getElem? hc))) fun v H8 e8 i8 => ?_
      have lac : acc.length ≤ xs.length := by rw [hac.len, List.length_map, List.length_map, List.length_take, List.length_reverse, lx]; omega
      refine w_app (e8.keep _ _ hD List.not_mem_nil) (szl (by omega)) fun H9 e9 h9 => ?_
      refine hN _ _ ⟨(e7.trans e8).dropq e9 nD, ?_⟩ h9
      rw [tk2 hc, List.map_append, List.map_append]
      exact ImAll.snoc (i8.ext e9) ((hac.ext e8).ext e9)
    · rintro acc H7 ⟨e7, hac⟩ hD
      rw [lx, ← List.length_reverse, List.take_length] at hac
      have hB : CvL H7 D (cs.reverse.map cI) := ⟨acc, hD, hac, by rw [List.length_map, List.length_reverse]; exact lz⟩
      have hx7 := e7.keep _ _ hx List.not_mem_nil
      walk_at "go"
      refine w_listL (sql hx7) (w_alc fun F H8 e8 n8 h8 => ?_)
      have e68 := e7.trans e8
      have hC8 := CvL_ext hC e68 List.not_mem_nil
      have hF8 : CvL H8 F cs := ⟨xs, h8, ia.ext e68, lz⟩
      have P8 := P6.ext e68 List.not_mem_nil
      walk_at "go"; walk_at "if"
      refine w_ilist hF8 coa fun q1 H9 e9 n9 h9 => ?_
      walk_at "go"
      refine w_same (sl_list h9 (CvL_ext hB (e8.trans e9) List.not_mem_nil)) fun HA eA => ?_
      walk_at "go"
      have e8A := e9.trans eA
      refine w_same (sl_list (CvL_ext hF8 e8A List.not_mem_nil) (CvL_ext hC8 e8A List.not_mem_nil)) fun HB eB => ?_
      have e8B := e8A.trans eB
      have hCB := CvL_ext hC8 e8B List.not_mem_nil
      have hFB := CvL_ext hF8 e8B List.not_mem_nil
      have PB := P8.ext e8B List.not_mem_nil
      walk_at "go"
      refine w_value PB fun x HC x0 eC PC => ?_
      have hCC := CvL_ext hCB eC (nm1 nCp)
      have nFp : F ≠ p := ((P6.ext e7 List.not_mem_nil).ne n8).symm
      have hFC := CvL_ext hFB eC (nm1 nFp)
      walk_at "go"
      refine w_value PC fun y HD y0 eD PD => ?_
      have hCD := CvL_ext hCC eD (nm1 nCp)
      have hFD := CvL_ext hFC eD (nm1 nFp)
      walk_at "go"
      refine w_against hCD ch y0 fun HE eE => ?_
      have hCE := CvL_ext hCD eE List.not_mem_nil
      have hFE := CvL_ext hFD eE List.not_mem_nil
      walk_at "go"
      refine ⟨sz (by show 2 ≤ _; decide), w_alc fun R HF eF nF hF => ?_⟩
      have hCF := CvL_ext hCE eF List.not_mem_nil
      have hFF := CvL_ext hFE eF List.not_mem_nil
      walk_at "go"
      refine ⟨R, rfl, ⟨_, sql hF⟩, ?_⟩
      have okv : ∀ o : Option Val, o = some x ∨ o = thr (cs.reverse.map cI) y → ∀ u, o = some u → VOk k0 u := by
        rintro o (rfl | rfl) u hu
        · cases hu; exact x0
        · exact thr_ok (chn_back ch) y0 hu
      refine z_for_list (xs := [vV x, ov (thr (cs.reverse.map cI) y)]) (fun i σ' H' => Ext [] HF H' ∧ ∃ (u v w z : Option V), σ' = [some (.ref sc), some (.ref p), some (.str (kS k0)), some (.str (kS kd)), some (.ref C), u, some (.ref D), some (.ref F), some (.ref R), v, w, z]) ⟨Ext.refl, _, _, _, _, rfl⟩ (fun i σ' H' _ ⟨e, _⟩ => sql (e.keep _ _ hF List.not_mem_nil)) ?_ ?_
      · rintro N i v0 σ' HG hx0 ⟨eG, u, v, w, z, rfl⟩ hN
        obtain ⟨o, ho, rfl⟩ : ∃ o : Option Val, (o = some x ∨ o = thr (cs.reverse.map cI) y) ∧ v0 = ov o := by
          have m := List.mem_of_getElem? hx0
          simp only [List.mem_cons, List.not_mem_nil, or_false] at m
          rcases m with rfl | rfl
          · exact ⟨some x, .inl rfl, rfl⟩
          · exact ⟨_, .inr rfl, rfl⟩
        have hv := okv o ho
        have hCG := CvL_ext hCF eG List.not_mem_nil
        have hFG := CvL_ext hFF eG List.not_mem_nil
        clear ho
        cases o with
        | none =>
          walk_at "go"; walk_at "if"
          refine w_f rfl ?_
          walk_at "go"
          exact hN _ _ ⟨eG, _, _, _, _, rfl⟩
        | some r =>
          have vr := hv r rfl
          walk_at "go"; walk_at "if"
          refine w_t (by cases r <;> rfl) ?_
          walk_at "go"
          refine w_lthrough hCG ch vr ?_
          walk_at "go"; walk_at "if"
          refine w_through hFG ch vr ?_
          walk_at "go"
          refine w_same (sl_ov _) fun HH eH => ?_
          have hCH := CvL_ext hCG eH List.not_mem_nil
          have hFH := CvL_ext hFG eH List.not_mem_nil
          walk_at "go"
          refine w_same (sl_list hFH hCH) fun HI eI => ?_
          have hFI := CvL_ext hFH eI List.not_mem_nil
          have eGI := (eG.trans eH).trans eI
          walk_at "go"; walk_at "if"
          cases hr : thr cs r with
          | none =>
            refine w_f rfl ?_
            walk_at "go"
            exact hN _ _ ⟨eGI, _, _, _, _, rfl⟩
          | some d =>
            refine w_t (by cases d <;> rfl) ?_
            walk_at "go"
            refine w_ilist hFI coa fun q2 HJ eJ nJ hJ => ?_
            walk_at "go"
            refine w_through hJ (chn_back ch) (thr_ok ch vr hr) ?_
            rw [thr_back ch vr hr]
            walk_at "go"
            refine w_same (sl_ov (some r)) fun HK eK => ?_
            walk_at "go"
            exact hN _ _ ⟨(eGI.trans eJ).trans eK, _, _, _, _, rfl⟩
      · rintro σ' HG ⟨eG, u, v, w, z, rfl⟩
        walk_at "go"
        exact k _

end
theorem all_mk {l : PySem.W.OpenLaw} {w : World} {K : PySem.W.Frag} {h : Heap} {mg : Str → Option Value} {fa : Addr} (X : K.In h) (G : h.Ns mainGlobals mg) (hfa : mg "law" = some (.ref fa))
    {f_is_text : Addr} {od_is_text an_is_text : Option Addr} {sl_is_text : Array (Option Value)} {oc_is_text kV_is_text dc_is_text pm_is_text cd_is_text ct_is_text : Value} {f_is_value : Addr} {od_is_value an_is_value : Option Addr} {sl_is_value : Array (Option Value)} {oc_is_value kV_is_value dc_is_value pm_is_value cd_is_value ct_is_value : Value} {f_checked : Addr} {od_checked an_checked : Option Addr} {sl_checked : Array (Option Value)} {oc_checked kV_checked dc_checked pm_checked cd_checked ct_checked : Value} {f_recoded : Addr} {od_recoded an_recoded : Option Addr} {sl_recoded : Array (Option Value)} {oc_recoded kV_recoded dc_recoded pm_recoded cd_recoded ct_recoded : Value} {f_convert : Addr} {od_convert an_convert : Option Addr} {sl_convert : Array (Option Value)} {oc_convert kV_convert dc_convert pm_convert cd_convert ct_convert : Value} {f_inverse : Addr} {od_inverse an_inverse : Option Addr} {sl_inverse : Array (Option Value)} {oc_inverse kV_inverse dc_inverse pm_inverse cd_inverse ct_inverse : Value} {f_conversion_kinds : Addr} {od_conversion_kinds an_conversion_kinds : Option Addr} {sl_conversion_kinds : Array (Option Value)} {oc_conversion_kinds kV_conversion_kinds dc_conversion_kinds pm_conversion_kinds cd_conversion_kinds ct_conversion_kinds : Value} {f_convert_through : Addr} {od_convert_through an_convert_through : Option Addr} {sl_convert_through : Array (Option Value)} {oc_convert_through kV_convert_through dc_convert_through pm_convert_through cd_convert_through ct_convert_through : Value} {f_inverse_list : Addr} {od_inverse_list an_inverse_list : Option Addr} {sl_inverse_list : Array (Option Value)} {oc_inverse_list kV_inverse_list dc_inverse_list pm_inverse_list cd_inverse_list ct_inverse_list : Value} {f_law_mixed : Addr} {od_law_mixed an_law_mixed : Option Addr} {sl_law_mixed : Array (Option Value)} {oc_law_mixed kV_law_mixed dc_law_mixed pm_law_mixed cd_law_mixed ct_law_mixed : Value} {f_law_rest : Addr} {od_law_rest an_law_rest : Option Addr} {sl_law_rest : Array (Option Value)} {oc_law_rest kV_law_rest dc_law_rest pm_law_rest cd_law_rest ct_law_rest : Value} {f_law_pool : Addr} {od_law_pool an_law_pool : Option Addr} {sl_law_pool : Array (Option Value)} {oc_law_pool kV_law_pool dc_law_pool pm_law_pool cd_law_pool ct_law_pool : Value} {f_law_next : Addr} {od_law_next an_law_next : Option Addr} {sl_law_next : Array (Option Value)} {oc_law_next kV_law_next dc_law_next pm_law_next cd_law_next ct_law_next : Value} {f_law_draw : Addr} {od_law_draw an_law_draw : Option Addr} {sl_law_draw : Array (Option Value)} {oc_law_draw kV_law_draw dc_law_draw pm_law_draw cd_law_draw ct_law_draw : Value} {f_law_pick : Addr} {od_law_pick an_law_pick : Option Addr} {sl_law_pick : Array (Option Value)} {oc_law_pick kV_law_pick dc_law_pick pm_law_pick cd_law_pick ct_law_pick : Value} {f_law_conv : Addr} {od_law_conv an_law_conv : Option Addr} {sl_law_conv : Array (Option Value)} {oc_law_conv kV_law_conv dc_law_conv pm_law_conv cd_law_conv ct_law_conv : Value} {f_law_inverse : Addr} {od_law_inverse an_law_inverse : Option Addr} {sl_law_inverse : Array (Option Value)} {oc_law_inverse kV_law_inverse dc_law_inverse pm_law_inverse cd_law_inverse ct_law_inverse : Value} {f_law_through : Addr} {od_law_through an_law_through : Option Addr} {sl_law_through : Array (Option Value)} {oc_law_through kV_law_through dc_law_through pm_law_through cd_law_through ct_law_through : Value} {f_law_against : Addr} {od_law_against an_law_against : Option Addr} {sl_law_against : Array (Option Value)} {oc_law_against kV_law_against dc_law_against pm_law_against cd_law_against ct_law_against : Value} {f_law_same : Addr} {od_law_same an_law_same : Option Addr} {sl_law_same : Array (Option Value)} {oc_law_same kV_law_same dc_law_same pm_law_same cd_law_same ct_law_same : Value} {f_law_text : Addr} {od_law_text an_law_text : Option Addr} {sl_law_text : Array (Option Value)} {oc_law_text kV_law_text dc_law_text pm_law_text cd_law_text ct_law_text : Value} {f_law_value : Addr} {od_law_value an_law_value : Option Addr} {sl_law_value : Array (Option Value)} {oc_law_value kV_law_value dc_law_value pm_law_value cd_law_value ct_law_value : Value} {f_law_recode : Addr} {od_law_recode an_law_recode : Option Addr} {sl_law_recode : Array (Option Value)} {oc_law_recode kV_law_recode dc_law_recode pm_law_recode cd_law_recode ct_law_recode : Value} {f_law_conversion : Addr} {od_law_conversion an_law_conversion : Option Addr} {sl_law_conversion : Array (Option Value)} {oc_law_conversion kV_law_conversion dc_law_conversion pm_law_conversion cd_law_conversion ct_law_conversion : Value} {f_law_kinds : Addr} {od_law_kinds an_law_kinds : Option Addr} {sl_law_kinds : Array (Option Value)} {oc_law_kinds kV_law_kinds dc_law_kinds pm_law_kinds cd_law_kinds ct_law_kinds : Value} {f_law_tries : Addr} {od_law_tries an_law_tries : Option Addr} {sl_law_tries : Array (Option Value)} {oc_law_tries kV_law_tries dc_law_tries pm_law_tries cd_law_tries ct_law_tries : Value} {f_law_one : Addr} {od_law_one an_law_one : Option Addr} {sl_law_one : Array (Option Value)} {oc_law_one kV_law_one dc_law_one pm_law_one cd_law_one ct_law_one : Value} {f_law : Addr} {od_law an_law : Option Addr} {sl_law : Array (Option Value)} {oc_law kV_law dc_law pm_law cd_law ct_law : Value} {t_INT_MOST : Tok} {t_TEXT_MOST : Tok} {t_ALPHABET : Tok} 
    (a_is_text : PySem.W.nsIn K mainGlobals "is_text" = some (some (.ref f_is_text)))
    (l_is_text : K.lookup f_is_text = some ⟨oc_is_text, od_is_text, .func (PySem.W.fnOf "is_text" "is_text" (defArgs s_is_text) (defBody s_is_text) (defScope s_is_text) .none kV_is_text dc_is_text pm_is_text an_is_text cd_is_text ct_is_text), sl_is_text⟩)
    (c_is_text : PySem.W.codeIn K cd_is_text "is_text" = true)
    (k_is_text : PySem.W.keepIn K (.ref f_is_text) = true)
    (a_is_value : PySem.W.nsIn K mainGlobals "is_value" = some (some (.ref f_is_value)))
    (l_is_value : K.lookup f_is_value = some ⟨oc_is_value, od_is_value, .func (PySem.W.fnOf "is_value" "is_value" (defArgs s_is_value) (defBody s_is_value) (defScope s_is_value) .none kV_is_value dc_is_value pm_is_value an_is_value cd_is_value ct_is_value), sl_is_value⟩)
    (c_is_value : PySem.W.codeIn K cd_is_value "is_value" = true)
    (k_is_value : PySem.W.keepIn K (.ref f_is_value) = true)
    (a_checked : PySem.W.nsIn K mainGlobals "_checked" = some (some (.ref f_checked)))
    (l_checked : K.lookup f_checked = some ⟨oc_checked, od_checked, .func (PySem.W.fnOf "_checked" "_checked" (defArgs s_checked) (defBody s_checked) (defScope s_checked) .none kV_checked dc_checked pm_checked an_checked cd_checked ct_checked), sl_checked⟩)
    (c_checked : PySem.W.codeIn K cd_checked "_checked" = true)
    (k_checked : PySem.W.keepIn K (.ref f_checked) = true)
    (a_recoded : PySem.W.nsIn K mainGlobals "_recoded" = some (some (.ref f_recoded)))
    (l_recoded : K.lookup f_recoded = some ⟨oc_recoded, od_recoded, .func (PySem.W.fnOf "_recoded" "_recoded" (defArgs s_recoded) (defBody s_recoded) (defScope s_recoded) .none kV_recoded dc_recoded pm_recoded an_recoded cd_recoded ct_recoded), sl_recoded⟩)
    (c_recoded : PySem.W.codeIn K cd_recoded "_recoded" = true)
    (k_recoded : PySem.W.keepIn K (.ref f_recoded) = true)
    (a_convert : PySem.W.nsIn K mainGlobals "convert" = some (some (.ref f_convert)))
    (l_convert : K.lookup f_convert = some ⟨oc_convert, od_convert, .func (PySem.W.fnOf "convert" "convert" (defArgs s_convert) (defBody s_convert) (defScope s_convert) .none kV_convert dc_convert pm_convert an_convert cd_convert ct_convert), sl_convert⟩)
    (c_convert : PySem.W.codeIn K cd_convert "convert" = true)
    (k_convert : PySem.W.keepIn K (.ref f_convert) = true)
    (a_inverse : PySem.W.nsIn K mainGlobals "inverse" = some (some (.ref f_inverse)))
    (l_inverse : K.lookup f_inverse = some ⟨oc_inverse, od_inverse, .func (PySem.W.fnOf "inverse" "inverse" (defArgs s_inverse) (defBody s_inverse) (defScope s_inverse) .none kV_inverse dc_inverse pm_inverse an_inverse cd_inverse ct_inverse), sl_inverse⟩)
    (c_inverse : PySem.W.codeIn K cd_inverse "inverse" = true)
    (k_inverse : PySem.W.keepIn K (.ref f_inverse) = true)
    (a_conversion_kinds : PySem.W.nsIn K mainGlobals "conversion_kinds" = some (some (.ref f_conversion_kinds)))
    (l_conversion_kinds : K.lookup f_conversion_kinds = some ⟨oc_conversion_kinds, od_conversion_kinds, .func (PySem.W.fnOf "conversion_kinds" "conversion_kinds" (defArgs s_conversion_kinds) (defBody s_conversion_kinds) (defScope s_conversion_kinds) .none kV_conversion_kinds dc_conversion_kinds pm_conversion_kinds an_conversion_kinds cd_conversion_kinds ct_conversion_kinds), sl_conversion_kinds⟩)
    (c_conversion_kinds : PySem.W.codeIn K cd_conversion_kinds "conversion_kinds" = true)
    (k_conversion_kinds : PySem.W.keepIn K (.ref f_conversion_kinds) = true)
    (a_convert_through : PySem.W.nsIn K mainGlobals "convert_through" = some (some (.ref f_convert_through)))
    (l_convert_through : K.lookup f_convert_through = some ⟨oc_convert_through, od_convert_through, .func (PySem.W.fnOf "convert_through" "convert_through" (defArgs s_convert_through) (defBody s_convert_through) (defScope s_convert_through) .none kV_convert_through dc_convert_through pm_convert_through an_convert_through cd_convert_through ct_convert_through), sl_convert_through⟩)
    (c_convert_through : PySem.W.codeIn K cd_convert_through "convert_through" = true)
    (k_convert_through : PySem.W.keepIn K (.ref f_convert_through) = true)
    (a_inverse_list : PySem.W.nsIn K mainGlobals "inverse_list" = some (some (.ref f_inverse_list)))
    (l_inverse_list : K.lookup f_inverse_list = some ⟨oc_inverse_list, od_inverse_list, .func (PySem.W.fnOf "inverse_list" "inverse_list" (defArgs s_inverse_list) (defBody s_inverse_list) (defScope s_inverse_list) .none kV_inverse_list dc_inverse_list pm_inverse_list an_inverse_list cd_inverse_list ct_inverse_list), sl_inverse_list⟩)
    (c_inverse_list : PySem.W.codeIn K cd_inverse_list "inverse_list" = true)
    (k_inverse_list : PySem.W.keepIn K (.ref f_inverse_list) = true)
    (a_law_mixed : PySem.W.nsIn K mainGlobals "_law_mixed" = some (some (.ref f_law_mixed)))
    (l_law_mixed : K.lookup f_law_mixed = some ⟨oc_law_mixed, od_law_mixed, .func (PySem.W.fnOf "_law_mixed" "_law_mixed" (defArgs s_law_mixed) (defBody s_law_mixed) (defScope s_law_mixed) .none kV_law_mixed dc_law_mixed pm_law_mixed an_law_mixed cd_law_mixed ct_law_mixed), sl_law_mixed⟩)
    (c_law_mixed : PySem.W.codeIn K cd_law_mixed "_law_mixed" = true)
    (k_law_mixed : PySem.W.keepIn K (.ref f_law_mixed) = true)
    (a_law_rest : PySem.W.nsIn K mainGlobals "_law_rest" = some (some (.ref f_law_rest)))
    (l_law_rest : K.lookup f_law_rest = some ⟨oc_law_rest, od_law_rest, .func (PySem.W.fnOf "_law_rest" "_law_rest" (defArgs s_law_rest) (defBody s_law_rest) (defScope s_law_rest) .none kV_law_rest dc_law_rest pm_law_rest an_law_rest cd_law_rest ct_law_rest), sl_law_rest⟩)
    (c_law_rest : PySem.W.codeIn K cd_law_rest "_law_rest" = true)
    (k_law_rest : PySem.W.keepIn K (.ref f_law_rest) = true)
    (a_law_pool : PySem.W.nsIn K mainGlobals "_law_pool" = some (some (.ref f_law_pool)))
    (l_law_pool : K.lookup f_law_pool = some ⟨oc_law_pool, od_law_pool, .func (PySem.W.fnOf "_law_pool" "_law_pool" (defArgs s_law_pool) (defBody s_law_pool) (defScope s_law_pool) .none kV_law_pool dc_law_pool pm_law_pool an_law_pool cd_law_pool ct_law_pool), sl_law_pool⟩)
    (c_law_pool : PySem.W.codeIn K cd_law_pool "_law_pool" = true)
    (k_law_pool : PySem.W.keepIn K (.ref f_law_pool) = true)
    (a_law_next : PySem.W.nsIn K mainGlobals "_law_next" = some (some (.ref f_law_next)))
    (l_law_next : K.lookup f_law_next = some ⟨oc_law_next, od_law_next, .func (PySem.W.fnOf "_law_next" "_law_next" (defArgs s_law_next) (defBody s_law_next) (defScope s_law_next) .none kV_law_next dc_law_next pm_law_next an_law_next cd_law_next ct_law_next), sl_law_next⟩)
    (c_law_next : PySem.W.codeIn K cd_law_next "_law_next" = true)
    (k_law_next : PySem.W.keepIn K (.ref f_law_next) = true)
    (a_law_draw : PySem.W.nsIn K mainGlobals "_law_draw" = some (some (.ref f_law_draw)))
    (l_law_draw : K.lookup f_law_draw = some ⟨oc_law_draw, od_law_draw, .func (PySem.W.fnOf "_law_draw" "_law_draw" (defArgs s_law_draw) (defBody s_law_draw) (defScope s_law_draw) .none kV_law_draw dc_law_draw pm_law_draw an_law_draw cd_law_draw ct_law_draw), sl_law_draw⟩)
    (c_law_draw : PySem.W.codeIn K cd_law_draw "_law_draw" = true)
    (k_law_draw : PySem.W.keepIn K (.ref f_law_draw) = true)
    (a_law_pick : PySem.W.nsIn K mainGlobals "_law_pick" = some (some (.ref f_law_pick)))
    (l_law_pick : K.lookup f_law_pick = some ⟨oc_law_pick, od_law_pick, .func (PySem.W.fnOf "_law_pick" "_law_pick" (defArgs s_law_pick) (defBody s_law_pick) (defScope s_law_pick) .none kV_law_pick dc_law_pick pm_law_pick an_law_pick cd_law_pick ct_law_pick), sl_law_pick⟩)
    (c_law_pick : PySem.W.codeIn K cd_law_pick "_law_pick" = true)
    (k_law_pick : PySem.W.keepIn K (.ref f_law_pick) = true)
    (a_law_conv : PySem.W.nsIn K mainGlobals "_law_conv" = some (some (.ref f_law_conv)))
    (l_law_conv : K.lookup f_law_conv = some ⟨oc_law_conv, od_law_conv, .func (PySem.W.fnOf "_law_conv" "_law_conv" (defArgs s_law_conv) (defBody s_law_conv) (defScope s_law_conv) .none kV_law_conv dc_law_conv pm_law_conv an_law_conv cd_law_conv ct_law_conv), sl_law_conv⟩)
    (c_law_conv : PySem.W.codeIn K cd_law_conv "_law_conv" = true)
    (k_law_conv : PySem.W.keepIn K (.ref f_law_conv) = true)
    (a_law_inverse : PySem.W.nsIn K mainGlobals "_law_inverse" = some (some (.ref f_law_inverse)))
    (l_law_inverse : K.lookup f_law_inverse = some ⟨oc_law_inverse, od_law_inverse, .func (PySem.W.fnOf "_law_inverse" "_law_inverse" (defArgs s_law_inverse) (defBody s_law_inverse) (defScope s_law_inverse) .none kV_law_inverse dc_law_inverse pm_law_inverse an_law_inverse cd_law_inverse ct_law_inverse), sl_law_inverse⟩)
    (c_law_inverse : PySem.W.codeIn K cd_law_inverse "_law_inverse" = true)
    (k_law_inverse : PySem.W.keepIn K (.ref f_law_inverse) = true)
    (a_law_through : PySem.W.nsIn K mainGlobals "_law_through" = some (some (.ref f_law_through)))
    (l_law_through : K.lookup f_law_through = some ⟨oc_law_through, od_law_through, .func (PySem.W.fnOf "_law_through" "_law_through" (defArgs s_law_through) (defBody s_law_through) (defScope s_law_through) .none kV_law_through dc_law_through pm_law_through an_law_through cd_law_through ct_law_through), sl_law_through⟩)
    (c_law_through : PySem.W.codeIn K cd_law_through "_law_through" = true)
    (k_law_through : PySem.W.keepIn K (.ref f_law_through) = true)
    (a_law_against : PySem.W.nsIn K mainGlobals "_law_against" = some (some (.ref f_law_against)))
    (l_law_against : K.lookup f_law_against = some ⟨oc_law_against, od_law_against, .func (PySem.W.fnOf "_law_against" "_law_against" (defArgs s_law_against) (defBody s_law_against) (defScope s_law_against) .none kV_law_against dc_law_against pm_law_against an_law_against cd_law_against ct_law_against), sl_law_against⟩)
    (c_law_against : PySem.W.codeIn K cd_law_against "_law_against" = true)
    (k_law_against : PySem.W.keepIn K (.ref f_law_against) = true)
    (a_law_same : PySem.W.nsIn K mainGlobals "_law_same" = some (some (.ref f_law_same)))
    (l_law_same : K.lookup f_law_same = some ⟨oc_law_same, od_law_same, .func (PySem.W.fnOf "_law_same" "_law_same" (defArgs s_law_same) (defBody s_law_same) (defScope s_law_same) .none kV_law_same dc_law_same pm_law_same an_law_same cd_law_same ct_law_same), sl_law_same⟩)
    (c_law_same : PySem.W.codeIn K cd_law_same "_law_same" = true)
    (k_law_same : PySem.W.keepIn K (.ref f_law_same) = true)
    (a_law_text : PySem.W.nsIn K mainGlobals "_law_text" = some (some (.ref f_law_text)))
    (l_law_text : K.lookup f_law_text = some ⟨oc_law_text, od_law_text, .func (PySem.W.fnOf "_law_text" "_law_text" (defArgs s_law_text) (defBody s_law_text) (defScope s_law_text) .none kV_law_text dc_law_text pm_law_text an_law_text cd_law_text ct_law_text), sl_law_text⟩)
    (c_law_text : PySem.W.codeIn K cd_law_text "_law_text" = true)
    (k_law_text : PySem.W.keepIn K (.ref f_law_text) = true)
    (a_law_value : PySem.W.nsIn K mainGlobals "_law_value" = some (some (.ref f_law_value)))
    (l_law_value : K.lookup f_law_value = some ⟨oc_law_value, od_law_value, .func (PySem.W.fnOf "_law_value" "_law_value" (defArgs s_law_value) (defBody s_law_value) (defScope s_law_value) .none kV_law_value dc_law_value pm_law_value an_law_value cd_law_value ct_law_value), sl_law_value⟩)
    (c_law_value : PySem.W.codeIn K cd_law_value "_law_value" = true)
    (k_law_value : PySem.W.keepIn K (.ref f_law_value) = true)
    (a_law_recode : PySem.W.nsIn K mainGlobals "_law_recode" = some (some (.ref f_law_recode)))
    (l_law_recode : K.lookup f_law_recode = some ⟨oc_law_recode, od_law_recode, .func (PySem.W.fnOf "_law_recode" "_law_recode" (defArgs s_law_recode) (defBody s_law_recode) (defScope s_law_recode) .none kV_law_recode dc_law_recode pm_law_recode an_law_recode cd_law_recode ct_law_recode), sl_law_recode⟩)
    (c_law_recode : PySem.W.codeIn K cd_law_recode "_law_recode" = true)
    (k_law_recode : PySem.W.keepIn K (.ref f_law_recode) = true)
    (a_law_conversion : PySem.W.nsIn K mainGlobals "_law_conversion" = some (some (.ref f_law_conversion)))
    (l_law_conversion : K.lookup f_law_conversion = some ⟨oc_law_conversion, od_law_conversion, .func (PySem.W.fnOf "_law_conversion" "_law_conversion" (defArgs s_law_conversion) (defBody s_law_conversion) (defScope s_law_conversion) .none kV_law_conversion dc_law_conversion pm_law_conversion an_law_conversion cd_law_conversion ct_law_conversion), sl_law_conversion⟩)
    (c_law_conversion : PySem.W.codeIn K cd_law_conversion "_law_conversion" = true)
    (k_law_conversion : PySem.W.keepIn K (.ref f_law_conversion) = true)
    (a_law_kinds : PySem.W.nsIn K mainGlobals "_law_kinds" = some (some (.ref f_law_kinds)))
    (l_law_kinds : K.lookup f_law_kinds = some ⟨oc_law_kinds, od_law_kinds, .func (PySem.W.fnOf "_law_kinds" "_law_kinds" (defArgs s_law_kinds) (defBody s_law_kinds) (defScope s_law_kinds) .none kV_law_kinds dc_law_kinds pm_law_kinds an_law_kinds cd_law_kinds ct_law_kinds), sl_law_kinds⟩)
    (c_law_kinds : PySem.W.codeIn K cd_law_kinds "_law_kinds" = true)
    (k_law_kinds : PySem.W.keepIn K (.ref f_law_kinds) = true)
    (a_law_tries : PySem.W.nsIn K mainGlobals "_law_tries" = some (some (.ref f_law_tries)))
    (l_law_tries : K.lookup f_law_tries = some ⟨oc_law_tries, od_law_tries, .func (PySem.W.fnOf "_law_tries" "_law_tries" (defArgs s_law_tries) (defBody s_law_tries) (defScope s_law_tries) .none kV_law_tries dc_law_tries pm_law_tries an_law_tries cd_law_tries ct_law_tries), sl_law_tries⟩)
    (c_law_tries : PySem.W.codeIn K cd_law_tries "_law_tries" = true)
    (k_law_tries : PySem.W.keepIn K (.ref f_law_tries) = true)
    (a_law_one : PySem.W.nsIn K mainGlobals "_law_one" = some (some (.ref f_law_one)))
    (l_law_one : K.lookup f_law_one = some ⟨oc_law_one, od_law_one, .func (PySem.W.fnOf "_law_one" "_law_one" (defArgs s_law_one) (defBody s_law_one) (defScope s_law_one) .none kV_law_one dc_law_one pm_law_one an_law_one cd_law_one ct_law_one), sl_law_one⟩)
    (c_law_one : PySem.W.codeIn K cd_law_one "_law_one" = true)
    (k_law_one : PySem.W.keepIn K (.ref f_law_one) = true)
    (a_law : PySem.W.nsIn K mainGlobals "law" = some (some (.ref f_law)))
    (l_law : K.lookup f_law = some ⟨oc_law, od_law, .func (PySem.W.fnOf "law" "law" (defArgs s_law) (defBody s_law) (defScope s_law) .none kV_law dc_law pm_law an_law cd_law ct_law), sl_law⟩)
    (c_law : PySem.W.codeIn K cd_law "law" = true)
    (k_law : PySem.W.keepIn K (.ref f_law) = true)
    (z_abs : PySem.W.nsIn K mainGlobals "abs" = some none)
    (z_bool : PySem.W.nsIn K mainGlobals "bool" = some none)
    (z_dict : PySem.W.nsIn K mainGlobals "dict" = some none)
    (z_int : PySem.W.nsIn K mainGlobals "int" = some none)
    (z_isinstance : PySem.W.nsIn K mainGlobals "isinstance" = some none)
    (z_len : PySem.W.nsIn K mainGlobals "len" = some none)
    (z_list : PySem.W.nsIn K mainGlobals "list" = some none)
    (z_range : PySem.W.nsIn K mainGlobals "range" = some none)
    (z_reversed : PySem.W.nsIn K mainGlobals "reversed" = some none)
    (z_str : PySem.W.nsIn K mainGlobals "str" = some none)
    (z_tuple : PySem.W.nsIn K mainGlobals "tuple" = some none)
    (a_INT_MOST : PySem.W.nsIn K mainGlobals "INT_MOST" = some (some (.int (1000000000) t_INT_MOST)))
    (a_TEXT_MOST : PySem.W.nsIn K mainGlobals "TEXT_MOST" = some (some (.int (20) t_TEXT_MOST)))
    (a_ALPHABET : PySem.W.nsIn K mainGlobals "ALPHABET" = some (some (.str (Str.ofString " !\"#$&'()*+,-./0123456789:;<=>?@ABCDEFGHIJKLMNOPQRSTUVWXYZ[\\]^_`abcdefghijklmnopqrstuvwxyz{|}~") t_ALPHABET)))
    : ∃ fd : FuncData, (∀ (s : Shared) (v : Value), BindsTo s fd ⟨[v], []⟩ [("script", v)]) ∧ ∀ base : Heap, K.In base → base.Ns mainGlobals mg → FnOk l.prog w K mg base CX0 8 fa fd ["script"] (sp_law K) := by
  have e := hfa.symm.trans (PySem.W.mg_of X G a_law)
  cases e
  have F_is_text := fun_mk (st := s_is_text) l_is_text c_is_text k_is_text
  have b_is_text := F_is_text.binds (ps := ["value"]) fun _ _ _ _ _ _ us hl => match us, hl with | [_], _ => rfl
  have F_is_value := fun_mk (st := s_is_value) l_is_value c_is_value k_is_value
  have b_is_value := F_is_value.binds (ps := ["kind", "value"]) fun _ _ _ _ _ _ us hl => match us, hl with | [_, _], _ => rfl
  have F_checked := fun_mk (st := s_checked) l_checked c_checked k_checked
  have b_checked := F_checked.binds (ps := ["kind", "value"]) fun _ _ _ _ _ _ us hl => match us, hl with | [_, _], _ => rfl
  have F_recoded := fun_mk (st := s_recoded) l_recoded c_recoded k_recoded
  have b_recoded := F_recoded.binds (ps := ["pairs", "value"]) fun _ _ _ _ _ _ us hl => match us, hl with | [_, _], _ => rfl
  have F_convert := fun_mk (st := s_convert) l_convert c_convert k_convert
  have b_convert := F_convert.binds (ps := ["conversion", "value"]) fun _ _ _ _ _ _ us hl => match us, hl with | [_, _], _ => rfl
  have F_inverse := fun_mk (st := s_inverse) l_inverse c_inverse k_inverse
  have b_inverse := F_inverse.binds (ps := ["conversion"]) fun _ _ _ _ _ _ us hl => match us, hl with | [_], _ => rfl
  have F_conversion_kinds := fun_mk (st := s_conversion_kinds) l_conversion_kinds c_conversion_kinds k_conversion_kinds
  have b_conversion_kinds := F_conversion_kinds.binds (ps := ["conversion"]) fun _ _ _ _ _ _ us hl => match us, hl with | [_], _ => rfl
  have F_convert_through := fun_mk (st := s_convert_through) l_convert_through c_convert_through k_convert_through
  have b_convert_through := F_convert_through.binds (ps := ["conversions", "value"]) fun _ _ _ _ _ _ us hl => match us, hl with | [_, _], _ => rfl
  have F_inverse_list := fun_mk (st := s_inverse_list) l_inverse_list c_inverse_list k_inverse_list
  have b_inverse_list := F_inverse_list.binds (ps := ["conversions"]) fun _ _ _ _ _ _ us hl => match us, hl with | [_], _ => rfl
  have F_law_mixed := fun_mk (st := s_law_mixed) l_law_mixed c_law_mixed k_law_mixed
  have b_law_mixed := F_law_mixed.binds (ps := ["number", "place"]) fun _ _ _ _ _ _ us hl => match us, hl with | [_, _], _ => rfl
  have F_law_rest := fun_mk (st := s_law_rest) l_law_rest c_law_rest k_law_rest
  have b_law_rest := F_law_rest.binds (ps := ["script", "place", "fills"]) fun _ _ _ _ _ _ us hl => match us, hl with | [_, _, _], _ => rfl
  have F_law_pool := fun_mk (st := s_law_pool) l_law_pool c_law_pool k_law_pool
  have b_law_pool := F_law_pool.binds (ps := ["script"]) fun _ _ _ _ _ _ us hl => match us, hl with | [_], _ => rfl
  have F_law_next := fun_mk (st := s_law_next) l_law_next c_law_next k_law_next
  have b_law_next := F_law_next.binds (ps := ["pool"]) fun _ _ _ _ _ _ us hl => match us, hl with | [_], _ => rfl
  have F_law_draw := fun_mk (st := s_law_draw) l_law_draw c_law_draw k_law_draw
  have b_law_draw := F_law_draw.binds (ps := ["pool", "limit"]) fun _ _ _ _ _ _ us hl => match us, hl with | [_, _], _ => rfl
  have F_law_pick := fun_mk (st := s_law_pick) l_law_pick c_law_pick k_law_pick
  have b_law_pick := F_law_pick.binds (ps := ["pool", "options"]) fun _ _ _ _ _ _ us hl => match us, hl with | [_, _], _ => rfl
  have F_law_conv := fun_mk (st := s_law_conv) l_law_conv c_law_conv k_law_conv
  have b_law_conv := F_law_conv.binds (ps := ["conversion", "value"]) fun _ _ _ _ _ _ us hl => match us, hl with | [_, _], _ => rfl
  have F_law_inverse := fun_mk (st := s_law_inverse) l_law_inverse c_law_inverse k_law_inverse
  have b_law_inverse := F_law_inverse.binds (ps := ["conversion"]) fun _ _ _ _ _ _ us hl => match us, hl with | [_], _ => rfl
  have F_law_through := fun_mk (st := s_law_through) l_law_through c_law_through k_law_through
  have b_law_through := F_law_through.binds (ps := ["conversions", "value"]) fun _ _ _ _ _ _ us hl => match us, hl with | [_, _], _ => rfl
  have F_law_against := fun_mk (st := s_law_against) l_law_against c_law_against k_law_against
  have b_law_against := F_law_against.binds (ps := ["conversions", "value"]) fun _ _ _ _ _ _ us hl => match us, hl with | [_, _], _ => rfl
  have F_law_same := fun_mk (st := s_law_same) l_law_same c_law_same k_law_same
  have b_law_same := F_law_same.binds (ps := ["answer", "due"]) fun _ _ _ _ _ _ us hl => match us, hl with | [_, _], _ => rfl
  have F_law_text := fun_mk (st := s_law_text) l_law_text c_law_text k_law_text
  have b_law_text := F_law_text.binds (ps := ["pool", "size", "wide"]) fun _ _ _ _ _ _ us hl => match us, hl with | [_, _, _], _ => rfl
  have F_law_value := fun_mk (st := s_law_value) l_law_value c_law_value k_law_value
  have b_law_value := F_law_value.binds (ps := ["pool", "kind"]) fun _ _ _ _ _ _ us hl => match us, hl with | [_, _], _ => rfl
  have F_law_recode := fun_mk (st := s_law_recode) l_law_recode c_law_recode k_law_recode
  have b_law_recode := F_law_recode.binds (ps := ["pool", "start", "end"]) fun _ _ _ _ _ _ us hl => match us, hl with | [_, _, _], _ => rfl
  have F_law_conversion := fun_mk (st := s_law_conversion) l_law_conversion c_law_conversion k_law_conversion
  have b_law_conversion := F_law_conversion.binds (ps := ["pool", "kind"]) fun _ _ _ _ _ _ us hl => match us, hl with | [_, _], _ => rfl
  have F_law_kinds := fun_mk (st := s_law_kinds) l_law_kinds c_law_kinds k_law_kinds
  have b_law_kinds := F_law_kinds.binds (ps := ["conversion"]) fun _ _ _ _ _ _ us hl => match us, hl with | [_], _ => rfl
  have F_law_tries := fun_mk (st := s_law_tries) l_law_tries c_law_tries k_law_tries
  have b_law_tries := F_law_tries.binds (ps := ["pool", "conversion"]) fun _ _ _ _ _ _ us hl => match us, hl with | [_, _], _ => rfl
  have F_law_one := fun_mk (st := s_law_one) l_law_one c_law_one k_law_one
  have b_law_one := F_law_one.binds (ps := ["pool", "conversion"]) fun _ _ _ _ _ _ us hl => match us, hl with | [_, _], _ => rfl
  have F_law := fun_mk (st := s_law) l_law c_law k_law
  have b_law := F_law.binds (ps := ["script"]) fun _ _ _ _ _ _ us hl => match us, hl with | [_], _ => rfl
  let T : Txt K mg := {
    f_is_text := f_is_text, d_is_text := _, F_is_text := F_is_text, g_is_text := PySem.W.mg_of X G a_is_text, k_is_text := b_is_text,
    f_is_value := f_is_value, d_is_value := _, F_is_value := F_is_value, g_is_value := PySem.W.mg_of X G a_is_value, k_is_value := b_is_value,
    f__checked := f_checked, d__checked := _, F__checked := F_checked, g__checked := PySem.W.mg_of X G a_checked, k__checked := b_checked,
    f__recoded := f_recoded, d__recoded := _, F__recoded := F_recoded, g__recoded := PySem.W.mg_of X G a_recoded, k__recoded := b_recoded,
    f_convert := f_convert, d_convert := _, F_convert := F_convert, g_convert := PySem.W.mg_of X G a_convert, k_convert := b_convert,
    f_inverse := f_inverse, d_inverse := _, F_inverse := F_inverse, g_inverse := PySem.W.mg_of X G a_inverse, k_inverse := b_inverse,
    f_conversion_kinds := f_conversion_kinds, d_conversion_kinds := _, F_conversion_kinds := F_conversion_kinds, g_conversion_kinds := PySem.W.mg_of X G a_conversion_kinds, k_conversion_kinds := b_conversion_kinds,
    f_convert_through := f_convert_through, d_convert_through := _, F_convert_through := F_convert_through, g_convert_through := PySem.W.mg_of X G a_convert_through, k_convert_through := b_convert_through,
    f_inverse_list := f_inverse_list, d_inverse_list := _, F_inverse_list := F_inverse_list, g_inverse_list := PySem.W.mg_of X G a_inverse_list, k_inverse_list := b_inverse_list,
    f__law_mixed := f_law_mixed, d__law_mixed := _, F__law_mixed := F_law_mixed, g__law_mixed := PySem.W.mg_of X G a_law_mixed, k__law_mixed := b_law_mixed,
    f__law_rest := f_law_rest, d__law_rest := _, F__law_rest := F_law_rest, g__law_rest := PySem.W.mg_of X G a_law_rest, k__law_rest := b_law_rest,
    f__law_pool := f_law_pool, d__law_pool := _, F__law_pool := F_law_pool, g__law_pool := PySem.W.mg_of X G a_law_pool, k__law_pool := b_law_pool,
    f__law_next := f_law_next, d__law_next := _, F__law_next := F_law_next, g__law_next := PySem.W.mg_of X G a_law_next, k__law_next := b_law_next,
    f__law_draw := f_law_draw, d__law_draw := _, F__law_draw := F_law_draw, g__law_draw := PySem.W.mg_of X G a_law_draw, k__law_draw := b_law_draw,
    f__law_pick := f_law_pick, d__law_pick := _, F__law_pick := F_law_pick, g__law_pick := PySem.W.mg_of X G a_law_pick, k__law_pick := b_law_pick,
    f__law_conv := f_law_conv, d__law_conv := _, F__law_conv := F_law_conv, g__law_conv := PySem.W.mg_of X G a_law_conv, k__law_conv := b_law_conv,
    f__law_inverse := f_law_inverse, d__law_inverse := _, F__law_inverse := F_law_inverse, g__law_inverse := PySem.W.mg_of X G a_law_inverse, k__law_inverse := b_law_inverse,
    f__law_through := f_law_through, d__law_through := _, F__law_through := F_law_through, g__law_through := PySem.W.mg_of X G a_law_through, k__law_through := b_law_through,
    f__law_against := f_law_against, d__law_against := _, F__law_against := F_law_against, g__law_against := PySem.W.mg_of X G a_law_against, k__law_against := b_law_against,
    f__law_same := f_law_same, d__law_same := _, F__law_same := F_law_same, g__law_same := PySem.W.mg_of X G a_law_same, k__law_same := b_law_same,
    f__law_text := f_law_text, d__law_text := _, F__law_text := F_law_text, g__law_text := PySem.W.mg_of X G a_law_text, k__law_text := b_law_text,
    f__law_value := f_law_value, d__law_value := _, F__law_value := F_law_value, g__law_value := PySem.W.mg_of X G a_law_value, k__law_value := b_law_value,
    f__law_recode := f_law_recode, d__law_recode := _, F__law_recode := F_law_recode, g__law_recode := PySem.W.mg_of X G a_law_recode, k__law_recode := b_law_recode,
    f__law_conversion := f_law_conversion, d__law_conversion := _, F__law_conversion := F_law_conversion, g__law_conversion := PySem.W.mg_of X G a_law_conversion, k__law_conversion := b_law_conversion,
    f__law_kinds := f_law_kinds, d__law_kinds := _, F__law_kinds := F_law_kinds, g__law_kinds := PySem.W.mg_of X G a_law_kinds, k__law_kinds := b_law_kinds,
    f__law_tries := f_law_tries, d__law_tries := _, F__law_tries := F_law_tries, g__law_tries := PySem.W.mg_of X G a_law_tries, k__law_tries := b_law_tries,
    f__law_one := f_law_one, d__law_one := _, F__law_one := F_law_one, g__law_one := PySem.W.mg_of X G a_law_one, k__law_one := b_law_one,
    f_law := _, d_law := _, F_law := F_law, g_law := PySem.W.mg_of X G a_law, k_law := b_law,
    b_abs := PySem.W.mg_none_of X G z_abs,
    b_bool := PySem.W.mg_none_of X G z_bool,
    b_dict := PySem.W.mg_none_of X G z_dict,
    b_int := PySem.W.mg_none_of X G z_int,
    b_isinstance := PySem.W.mg_none_of X G z_isinstance,
    b_len := PySem.W.mg_none_of X G z_len,
    b_list := PySem.W.mg_none_of X G z_list,
    b_range := PySem.W.mg_none_of X G z_range,
    b_reversed := PySem.W.mg_none_of X G z_reversed,
    b_str := PySem.W.mg_none_of X G z_str,
    b_tuple := PySem.W.mg_none_of X G z_tuple,
    t_INT_MOST := t_INT_MOST, g_INT_MOST := PySem.W.mg_of X G a_INT_MOST, r_INT_MOST := ⟨_, rfl⟩,
    t_TEXT_MOST := t_TEXT_MOST, g_TEXT_MOST := PySem.W.mg_of X G a_TEXT_MOST, r_TEXT_MOST := ⟨_, rfl⟩,
    t_ALPHABET := t_ALPHABET, g_ALPHABET := PySem.W.mg_of X G a_ALPHABET, r_ALPHABET := ⟨_, rfl⟩ }
  exact ⟨_, fun s v => .of_eq rfl, fun base _ _ => ok_law T⟩
end Law
open PySem PySem.W PyProof.Rows
set_option maxRecDepth 100000 in
set_option maxHeartbeats 0 in
theorem PySem.Challenge.cw_storelife_k03_conversions_holds : PySem.Challenge.rw_storelife_k03_conversions.Holds := by
  w_on; o_law; k_head; (case hw => w_witness2)
  k_fill
  refine L2.walk_of (l := PySem.Challenge.rw_storelife_k03_conversions) (n := 63) (k := 8) (x := "script") (CX := fun _ => L2.CX0) (sp := fun w => Law.sp_law _) rfl (by decide) rfl ⟨rfl, by decide, by decide⟩ (fun w h Y => PySem.W.kIn_of Y) ?F (fun _ H a ns hl hO hS => Law.start_law hO hl hS) (fun _ _ _ _ _ h => h)
  case F =>
    intro w mg fa h KX G hmg
    refine' Law.all_mk KX G hmg ?a_is_text ?l_is_text ?c_is_text ?k_is_text ?a_is_value ?l_is_value ?c_is_value ?k_is_value ?a_checked ?l_checked ?c_checked ?k_checked ?a_recoded ?l_recoded ?c_recoded ?k_recoded ?a_convert ?l_convert ?c_convert ?k_convert ?a_inverse ?l_inverse ?c_inverse ?k_inverse ?a_conversion_kinds ?l_conversion_kinds ?c_conversion_kinds ?k_conversion_kinds ?a_convert_through ?l_convert_through ?c_convert_through ?k_convert_through ?a_inverse_list ?l_inverse_list ?c_inverse_list ?k_inverse_list ?a_law_mixed ?l_law_mixed ?c_law_mixed ?k_law_mixed ?a_law_rest ?l_law_rest ?c_law_rest ?k_law_rest ?a_law_pool ?l_law_pool ?c_law_pool ?k_law_pool ?a_law_next ?l_law_next ?c_law_next ?k_law_next ?a_law_draw ?l_law_draw ?c_law_draw ?k_law_draw ?a_law_pick ?l_law_pick ?c_law_pick ?k_law_pick ?a_law_conv ?l_law_conv ?c_law_conv ?k_law_conv ?a_law_inverse ?l_law_inverse ?c_law_inverse ?k_law_inverse ?a_law_through ?l_law_through ?c_law_through ?k_law_through ?a_law_against ?l_law_against ?c_law_against ?k_law_against ?a_law_same ?l_law_same ?c_law_same ?k_law_same ?a_law_text ?l_law_text ?c_law_text ?k_law_text ?a_law_value ?l_law_value ?c_law_value ?k_law_value ?a_law_recode ?l_law_recode ?c_law_recode ?k_law_recode ?a_law_conversion ?l_law_conversion ?c_law_conversion ?k_law_conversion ?a_law_kinds ?l_law_kinds ?c_law_kinds ?k_law_kinds ?a_law_tries ?l_law_tries ?c_law_tries ?k_law_tries ?a_law_one ?l_law_one ?c_law_one ?k_law_one ?a_law ?l_law ?c_law ?k_law ?z_abs ?z_bool ?z_dict ?z_int ?z_isinstance ?z_len ?z_list ?z_range ?z_reversed ?z_str ?z_tuple ?a_INT_MOST ?a_TEXT_MOST ?a_ALPHABET
    (case a_is_text => k_is)
    (case l_is_text => k_is)
    (case c_is_text => k_is)
    (case k_is_text => k_is)
    (case a_is_value => k_is)
    (case l_is_value => k_is)
    (case c_is_value => k_is)
    (case k_is_value => k_is)
    (case a_checked => k_is)
    (case l_checked => k_is)
    (case c_checked => k_is)
    (case k_checked => k_is)
    (case a_recoded => k_is)
    (case l_recoded => k_is)
    (case c_recoded => k_is)
    (case k_recoded => k_is)
    (case a_convert => k_is)
    (case l_convert => k_is)
    (case c_convert => k_is)
    (case k_convert => k_is)
    (case a_inverse => k_is)
    (case l_inverse => k_is)
    (case c_inverse => k_is)
    (case k_inverse => k_is)
    (case a_conversion_kinds => k_is)
    (case l_conversion_kinds => k_is)
    (case c_conversion_kinds => k_is)
    (case k_conversion_kinds => k_is)
    (case a_convert_through => k_is)
    (case l_convert_through => k_is)
    (case c_convert_through => k_is)
    (case k_convert_through => k_is)
    (case a_inverse_list => k_is)
    (case l_inverse_list => k_is)
    (case c_inverse_list => k_is)
    (case k_inverse_list => k_is)
    (case a_law_mixed => k_is)
    (case l_law_mixed => k_is)
    (case c_law_mixed => k_is)
    (case k_law_mixed => k_is)
    (case a_law_rest => k_is)
    (case l_law_rest => k_is)
    (case c_law_rest => k_is)
    (case k_law_rest => k_is)
    (case a_law_pool => k_is)
    (case l_law_pool => k_is)
    (case c_law_pool => k_is)
    (case k_law_pool => k_is)
    (case a_law_next => k_is)
    (case l_law_next => k_is)
    (case c_law_next => k_is)
    (case k_law_next => k_is)
    (case a_law_draw => k_is)
    (case l_law_draw => k_is)
    (case c_law_draw => k_is)
    (case k_law_draw => k_is)
    (case a_law_pick => k_is)
    (case l_law_pick => k_is)
    (case c_law_pick => k_is)
    (case k_law_pick => k_is)
    (case a_law_conv => k_is)
    (case l_law_conv => k_is)
    (case c_law_conv => k_is)
    (case k_law_conv => k_is)
    (case a_law_inverse => k_is)
    (case l_law_inverse => k_is)
    (case c_law_inverse => k_is)
    (case k_law_inverse => k_is)
    (case a_law_through => k_is)
    (case l_law_through => k_is)
    (case c_law_through => k_is)
    (case k_law_through => k_is)
    (case a_law_against => k_is)
    (case l_law_against => k_is)
    (case c_law_against => k_is)
    (case k_law_against => k_is)
    (case a_law_same => k_is)
    (case l_law_same => k_is)
    (case c_law_same => k_is)
    (case k_law_same => k_is)
    (case a_law_text => k_is)
    (case l_law_text => k_is)
    (case c_law_text => k_is)
    (case k_law_text => k_is)
    (case a_law_value => k_is)
    (case l_law_value => k_is)
    (case c_law_value => k_is)
    (case k_law_value => k_is)
    (case a_law_recode => k_is)
    (case l_law_recode => k_is)
    (case c_law_recode => k_is)
    (case k_law_recode => k_is)
    (case a_law_conversion => k_is)
    (case l_law_conversion => k_is)
    (case c_law_conversion => k_is)
    (case k_law_conversion => k_is)
    (case a_law_kinds => k_is)
    (case l_law_kinds => k_is)
    (case c_law_kinds => k_is)
    (case k_law_kinds => k_is)
    (case a_law_tries => k_is)
    (case l_law_tries => k_is)
    (case c_law_tries => k_is)
    (case k_law_tries => k_is)
    (case a_law_one => k_is)
    (case l_law_one => k_is)
    (case c_law_one => k_is)
    (case k_law_one => k_is)
    (case a_law => k_is)
    (case l_law => k_is)
    (case c_law => k_is)
    (case k_law => k_is)
    (case z_abs => k_is)
    (case z_bool => k_is)
    (case z_dict => k_is)
    (case z_int => k_is)
    (case z_isinstance => k_is)
    (case z_len => k_is)
    (case z_list => k_is)
    (case z_range => k_is)
    (case z_reversed => k_is)
    (case z_str => k_is)
    (case z_tuple => k_is)
    (case a_INT_MOST => k_is)
    (case a_TEXT_MOST => k_is)
    (case a_ALPHABET => k_is)

