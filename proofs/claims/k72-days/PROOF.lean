import PyProof.Rows.All
import Wide.All
import OpenK.AllK
import Wide.FinOn
import HandS.Style
import HandS.ForMost
import HandS.Strs
import HandS.TupAny
import HandS.IsInst
import HandS.More
import HandS.Walk
import HandS.ReCall
import HandS.Evl
import HandS.Lambda
import HandS.Nested
import KE.KDflt
import HandS.WordsExc
import HandS.ExcOwn
import HandS.ExcIs
import HandS.SetFor
import HandS.Small
import PyProof.EqKinds
import PyProof.SeqRoads
import PyProof.ListOps
import HandS.DictTup
import PyProof.DictMoreH
import HandS.Text
import HandS.StrMore
import HandS.ExcInit
import HandS.MakeKwOnly
import HandS.ClsMeth
import HandS.ExcField
import PyProof.CollectIter
import KE.DataMinMax
import HandS.Words
import HandS.TupSets
import KE.SortData
import HandS.SetKeys
import HandS.DictSubView
import HandS.WordsDict
import HandS.EndOwn
import PySem.Challenge.RW_granary_k72_days_written_and_read
set_option Elab.async false
set_option linter.all false
set_option maxRecDepth 100000
set_option maxHeartbeats 4000000
namespace G7
open PySem PySem.Spec PyProof.Rows L2

/-! ### heaps: all that was tracked stands, but at some addresses -/
def Keep (ms : List Addr) (H H' : Hp) : Prop := ∀ b o, b ∉ ms → H b = some o → H' b = some o
theorem Keep.refl {ms : List Addr} {H : Hp} : Keep ms H H := fun _ _ _ h => h
theorem Keep.trans {ms : List Addr} {H H1 H2 : Hp} (a : Keep ms H H1) (b : Keep ms H1 H2) : Keep ms H H2 := fun c o n h => b c o n (a c o n h)
theorem Keep.mono {ms ms' : List Addr} {H H1 : Hp} (a : Keep ms H H1) (s : ∀ b, b ∈ ms → b ∈ ms') : Keep ms' H H1 := fun c o n h => a c o (fun m => n (s c m)) h
theorem Keep.same {H H1 : Hp} (a : Keep [] H H1) : Same H H1 := fun c o h => a c o (by simp) h
theorem Keep.ofSame {ms : List Addr} {H H1 : Hp} (a : Same H H1) : Keep ms H H1 := fun c o _ h => a c o h
theorem Keep.new {ms : List Addr} {H : Hp} {p : Addr} {o : HO} (h : H p = none) : Keep ms H (upd H p o) := fun a u _ e => by
  rw [upd_ne (ne_of_none e h)]
  exact e
theorem Keep.thenNew {ms : List Addr} {H H1 : Hp} {p : Addr} {o : HO} (k : Keep ms H H1) (h : H1 p = none) : Keep ms H (upd H1 p o) := k.trans (Keep.new h)
theorem Keep.upd {ms : List Addr} {H H1 : Hp} {p : Addr} {o : HO} (k : Keep ms H H1) (h : p ∈ ms) : Keep ms H (L2.upd H1 p o) := fun a u n e => by
  rw [upd_ne (fun z => n (by rw [z]; exact h))]
  exact k a u n e
/-- an address that H does not know may change -/
theorem Keep.updFree {ms : List Addr} {H H1 : Hp} {p : Addr} {o : HO} (k : Keep ms H H1) (h : H p = none) : Keep ms H (L2.upd H1 p o) := fun a u n e => by
  rw [upd_ne (ne_of_none e h)]
  exact k a u n e
theorem Keep.free {H H1 : Hp} {p : Addr} (k : Keep [] H H1) (h : H1 p = none) : H p = none := k.same.free h
theorem same_new {H : Hp} {p : Addr} {o : HO} (h : H p = none) : Same H (upd H p o) := fun a u e => by
  rw [upd_ne (ne_of_none e h)]
  exact e
theorem Same.updFree {H H1 : Hp} {p : Addr} {o : HO} (k : Same H H1) (h : H p = none) : Same H (L2.upd H1 p o) := fun a u e => by
  rw [upd_ne (ne_of_none e h)]
  exact k a u e
theorem free_keep {ms : List Addr} {H H1 : Hp} {p : Addr} (k : Keep ms H H1) (n : p ∉ ms) (h : H1 p = none) : H p = none := by
  cases q : H p with
  | none => rfl
  | some o =>
    rw [k p o n q] at h
    cases h
theorem Keep.rd {ms : List Addr} {H H1 : Hp} {a : Addr} {u : HO} (k : Keep ms H H1) (n : a ∉ ms) (h : Rd H a u) : Rd H1 a u := by
  rcases h with h | ⟨o, h⟩
  · exact .inl (k _ _ n h)
  · exact .inr ⟨o, k _ _ n h⟩
theorem Keep.sqL {K : PySem.W.Frag} {ms : List Addr} {H H1 : Hp} {a : Addr} {xs : List V} (k : Keep ms H H1) (n : a ∉ ms) (h : SqL K H a xs) : SqL K H1 a xs := by
  rcases h with h | h
  · exact .inl (k.rd n h)
  · exact .inr h
theorem Keep.sqT {K : PySem.W.Frag} {ms : List Addr} {H H1 : Hp} {a : Addr} {xs : List V} (k : Keep ms H H1) (n : ∀ m, m ∈ ms → ∃ o, H m = some o ∧ Mut (some o)) (h : SqT K H a xs) : SqT K H1 a xs := by
  rcases h with (h | ⟨o, h⟩) | h
  · exact .inl (.inl (k _ _ (fun m => by obtain ⟨u, e, mu⟩ := n _ m; rw [h] at e; cases e; exact mu) h))
  · exact .inl (.inr ⟨o, k _ _ (fun m => by obtain ⟨u, e, mu⟩ := n _ m; rw [h] at e; cases e; exact mu) h⟩)
  · exact .inr h
theorem same_sqT {K : PySem.W.Frag} {H H1 : Hp} {a : Addr} {xs : List V} (k : Same H H1) (h : SqT K H a xs) : SqT K H1 a xs :=
  (Keep.ofSame (ms := []) k).sqT (fun m hm => absurd hm (by simp)) h
theorem int_at {ns : List Int} {i : Nat} {y : V} (h : (ns.map V.int)[i]? = some y) : ∃ z, ns[i]? = some z ∧ y = V.int z := by
  rw [List.getElem?_map] at h
  cases e : ns[i]? with
  | none => rw [e] at h; cases h
  | some z => rw [e] at h; exact ⟨z, rfl, (Option.some.inj h).symm⟩
theorem str_at {ns : List Str} {i : Nat} {y : V} (h : (ns.map V.str)[i]? = some y) : ∃ z, ns[i]? = some z ∧ y = V.str z := by
  rw [List.getElem?_map] at h
  cases e : ns[i]? with
  | none => rw [e] at h; cases h
  | some z => rw [e] at h; exact ⟨z, rfl, (Option.some.inj h).symm⟩
theorem szl {n : Nat} (h : n ≤ 100000) : n ≤ sizeLine := Nat.le_trans h (by decide)
theorem szl' {n : Nat} (h : n < 100000) : n < sizeLine := Nat.lt_of_lt_of_le h (by decide)
theorem hu64_of {A : Around} {k : Nat} (hr : Room k A) : A.units + 64 < cLine := by have := hr.un; omega
theorem map_int_inj {a b : List Int} (h : a.map V.int = b.map V.int) : a = b := by
  induction a generalizing b with
  | nil => cases b with
    | nil => rfl
    | cons _ _ => cases h
  | cons x r ih => cases b with
    | nil => cases h
    | cons y s =>
      injection h with h1 h2
      injection h1 with h1
      rw [h1, ih h2]

/-! ### data -/
theorem dpAll_ints (K : PySem.W.Frag) (H : Hp) : ∀ ns : List Int, DpAll K H (ns.map V.int) (ns.map PyData.int)
  | [] => .nil
  | n :: r => .cons (.int n) (dpAll_ints K H r)

/-! ### the draw box of the laws: [cells, stirred] -/
def BoxA (H : Hp) (h l : Addr) : Prop := ∃ (ns : List Int) (st : Int), H h = some (.lst [.ref l, .int st]) ∧ H l = some (.lst (ns.map V.int)) ∧ ns.length ≤ 100000
theorem BoxA.ne {H : Hp} {h l : Addr} (b : BoxA H h l) : h ≠ l := by
  obtain ⟨ns, st, e1, e2, _⟩ := b
  rintro rfl
  rw [e1] at e2
  injection e2 with e2
  injection e2 with e2
  cases ns with
  | nil => cases e2
  | cons n r => injection e2 with e3 _; cases e3
theorem BoxA.muts {H : Hp} {h l : Addr} (b : BoxA H h l) : ∀ m, m ∈ [h, l] → ∃ o, H m = some o ∧ Mut (some o) := by
  obtain ⟨ns, st, e1, e2, _⟩ := b
  intro m hm
  simp only [List.mem_cons, List.mem_nil_iff, or_false] at hm
  rcases hm with rfl | rfl
  · exact ⟨_, e1, trivial⟩
  · exact ⟨_, e2, trivial⟩
theorem BoxA.keep {ms : List Addr} {H H' : Hp} {h l : Addr} (b : BoxA H h l) (k : Keep ms H H') (n1 : h ∉ ms) (n2 : l ∉ ms) : BoxA H' h l := by
  obtain ⟨ns, st, e1, e2, e3⟩ := b
  exact ⟨ns, st, k _ _ n1 e1, k _ _ n2 e2, e3⟩
theorem BoxA.same {H H' : Hp} {h l : Addr} (b : BoxA H h l) (k : Same H H') : BoxA H' h l := b.keep (ms := []) (Keep.ofSame k) (by simp) (by simp)
end G7

set_option linter.all false
set_option Elab.async false
set_option maxRecDepth 100000
set_option maxHeartbeats 4000000
namespace G7
open PySem PySem.Spec PyProof.Rows L2
/-! ### rules of our own, by what stands in the abstract heap -/
/-- what may be read as a list, a tuple, a dict -/
def lsO : Option HO → Option (List V)
  | some (.lst xs) => some xs
  | some (.frz _ (.lst xs)) => some xs
  | _ => none
def tpO : Option HO → Option (List V)
  | some (.tup xs) => some xs
  | some (.frz _ (.tup xs)) => some xs
  | _ => none
def dkO : Option HO → Option (List (Key × V))
  | some (.dK xs) => some xs
  | some (.frz _ (.dK xs)) => some xs
  | _ => none
theorem rd_lsO {H : Hp} {a : Addr} {xs : List V} (h : lsO (H a) = some xs) : Rd H a (.lst xs) := by
  unfold lsO at h
  split at h
  · rename_i e; cases h; exact .inl e
  · rename_i o _ e; cases h; exact .inr ⟨o, e⟩
  · cases h
theorem rd_tpO {H : Hp} {a : Addr} {xs : List V} (h : tpO (H a) = some xs) : Rd H a (.tup xs) := by
  unfold tpO at h
  split at h
  · rename_i e; cases h; exact .inl e
  · rename_i o _ e; cases h; exact .inr ⟨o, e⟩
  · cases h
theorem rd_dkO {H : Hp} {a : Addr} {xs : List (Key × V)} (h : dkO (H a) = some xs) : Rd H a (.dK xs) := by
  unfold dkO at h
  split at h
  · rename_i e; cases h; exact .inl e
  · rename_i o _ e; cases h; exact .inr ⟨o, e⟩
  · cases h
theorem lsO_l {xs : List V} : lsO (some (.lst xs)) = some xs := rfl
theorem lsO_f {o : Obj} {xs : List V} : lsO (some (.frz o (.lst xs))) = some xs := rfl
theorem tpO_t {xs : List V} : tpO (some (.tup xs)) = some xs := rfl
theorem tpO_f {o : Obj} {xs : List V} : tpO (some (.frz o (.tup xs))) = some xs := rfl
theorem dkO_d {xs : List (Key × V)} : dkO (some (.dK xs)) = some xs := rfl
theorem dkO_f {o : Obj} {xs : List (Key × V)} : dkO (some (.frz o (.dK xs))) = some xs := rfl
theorem lay_ints : ∀ ns : List Int, PyData.canLayAll0 (ns.map PyData.int) = true
  | [] => by simp [PyData.canLayAll0]
  | n :: r => by simp [PyData.canLayAll0, PyData.canLay0, lay_ints r]
theorem depth_ints : ∀ ns : List Int, PyData.depthAll (ns.map PyData.int) ≤ 1
  | [] => by simp [PyData.depthAll]
  | n :: r => by
    have h := depth_ints r
    simp only [List.map_cons, PyData.depthAll, PyData.depth]
    omega
theorem shaped_ints (ns : List Int) : SeqAt.shaped (.list (ns.map PyData.int)) = true := by
  have h1 := depth_ints ns
  have h2 : PyData.depth (.list (ns.map PyData.int)) ≤ 64 := by
    simp only [PyData.depth]
    omega
  unfold SeqAt.shaped
  rw [Bool.and_eq_true]
  exact ⟨by simp only [PyData.canLay0]; exact lay_ints ns, decide_eq_true h2⟩
section
variable {X : Cx}
theorem ixImp {r r' : R2} (h : IxR X r) (i : ∀ x y H Q, r' x y H Q → r x y H Q) : IxR X r' := fun a b p s σ H x y v u Q I rx ry q e => h a b p s σ H x y v u Q I rx ry (i _ _ _ _ q) e
theorem opImp {f : Value → Value → Sem Value} {r r' : R2} (h : OpR X f r) (i : ∀ x y H Q, r' x y H Q → r x y H Q) : OpR X f r' := fun p s σ H x y v u Q I rx ry q => h p s σ H x y v u Q I rx ry (i _ _ _ _ q)
theorem callImp {f : Value} {r r' : List V → Hp → VK → Prop} (h : CallR X f r) (i : ∀ x H Q, r' x H Q → r x H Q) : CallR X f r' := fun p s σ H x u Q I rx q => h p s σ H x u Q I rx (i _ _ _ q)
theorem mtImp {id : String} {r r' : V → List V → Hp → VK → Prop} (h : MtR X id r) (i : ∀ x y H Q, r' x y H Q → r x y H Q) : MtR X id r' := fun p s σ H x xs v us Q I rx rs q => h p s σ H x xs v us Q I rx rs (i _ _ _ _ q)
def rIxH : R2 := fun x y H Q => ∃ p xs i v, x = .ref p ∧ y = .int i ∧ lsO (H p) = some xs ∧ atI xs i = some v ∧ Q v H
def rIxU : R2 := fun x y H Q => ∃ p xs i v, x = .ref p ∧ y = .int i ∧ tpO (H p) = some xs ∧ atI xs i = some v ∧ Q v H
theorem ix_lst : IxR X rIxH := ixImp ix_list fun x y H Q ⟨p, xs, i, v, e1, e2, h, a, q⟩ => ⟨p, xs, i, v, e1, e2, .inl (rd_lsO h), a, q⟩
theorem ix_tp : IxR X rIxU := ixImp ix_tup fun x y H Q ⟨p, xs, i, v, e1, e2, h, a, q⟩ => ⟨p, xs, i, v, e1, e2, .inl (rd_tpO h), a, q⟩
def cLenL : List V → Hp → VK → Prop := fun vs H Q => ∃ p xs, vs = [.ref p] ∧ lsO (H p) = some xs ∧ Q (.int (xs.length : Int)) H
def cLenT : List V → Hp → VK → Prop := fun vs H Q => ∃ p xs, vs = [.ref p] ∧ tpO (H p) = some xs ∧ Q (.int (xs.length : Int)) H
theorem len_lst : CallR X (.builtin "len") cLenL := callImp call_len_seq fun vs H Q ⟨p, xs, e, h, q⟩ => ⟨p, xs, e, .inl (.inl (rd_lsO h)), q⟩
theorem len_tp : CallR X (.builtin "len") cLenT := callImp call_len_seq fun vs H Q ⟨p, xs, e, h, q⟩ => ⟨p, xs, e, .inr (.inl (rd_tpO h)), q⟩
def cListL : List V → Hp → VK → Prop := fun vs H Q => ∃ p xs, vs = [.ref p] ∧ lsO (H p) = some xs ∧ ∀ l, H l = none → Q (.ref l) (upd H l (.lst xs))
def cListT : List V → Hp → VK → Prop := fun vs H Q => ∃ p xs, vs = [.ref p] ∧ tpO (H p) = some xs ∧ ∀ l, H l = none → Q (.ref l) (upd H l (.lst xs))
theorem list_lst : CallR X (.type "list") cListL := callImp call_list_of fun vs H Q ⟨p, xs, e, h, q⟩ => ⟨p, xs, e, .inl (.inl (rd_lsO h)), q⟩
theorem list_tp : CallR X (.type "list") cListT := callImp call_list_of fun vs H Q ⟨p, xs, e, h, q⟩ => ⟨p, xs, e, .inr (.inl (rd_tpO h)), q⟩
def cTupL : List V → Hp → VK → Prop := fun vs H Q => ∃ p xs, vs = [.ref p] ∧ lsO (H p) = some xs ∧ ∀ l, H l = none → Q (.ref l) (upd H l (.tup xs))
theorem tuple_lst : CallR X (.type "tuple") cTupL := callImp call_tuple_of fun vs H Q ⟨p, xs, e, h, q⟩ => ⟨p, xs, e, .inl ⟨.inl (rd_lsO h), q⟩⟩
/-- int of a bool, of an int -/
def cIntB : List V → Hp → VK → Prop := fun vs H Q => ∃ b, vs = [.bl b] ∧ Q (.int (if b then 1 else 0)) H
theorem int_bl : CallR X (.type "int") cIntB := callImp call_int1 fun vs H Q ⟨b, e, q⟩ => .inr ⟨b, e, q⟩
/-- all(..) of a list of bools -/
def cAll : List V → Hp → VK → Prop := fun vs H Q => ∃ (p : Addr) (bs : List Bool), vs = [.ref p] ∧ lsO (H p) = some (bs.map V.bl) ∧ Q (.bl (bs.all id)) H
theorem all_lst (hc : X.calm = true) : CallR X (.builtin "all") cAll := callImp (cr_all hc) fun vs H Q ⟨p, bs, e, h, q⟩ => ⟨p, bs, e, .inl (rd_lsO h), q⟩
/-- a list of ints against [] -/
def rEqNilI : R2 := fun x y H Q => ∃ (p q : Addr) (ns : List Int), x = .ref p ∧ y = .ref q ∧ lsO (H p) = some (ns.map V.int) ∧ lsO (H q) = some [] ∧ Q (.bl ns.isEmpty) H
theorem op_eqNilI (hu : X.A.units + 64 < cLine) : OpR X (compareOp .Eq) rEqNilI := opImp (op_eqD hu) fun x y H Q ⟨p, q, ns, e1, e2, h1, h2, k⟩ => by
  refine ⟨.list (ns.map PyData.int), .list [], e1 ▸ .lst (.inl (rd_lsO h1)) (dpAll_ints X.K H ns), e2 ▸ .lst (.inl (rd_lsO h2)) .nil, ?_, rfl, ?_⟩
  · exact shaped_ints ns
  · cases ns with
    | nil => exact k
    | cons n r => exact k
/-! a reading that lets what follows be weaker -/
def tM (t : TE) : TE := fun σ H Q => ∃ Q0 : VK, t σ H Q0 ∧ ∀ x H1, Q0 x H1 → Q x H1
theorem pe_m {e : Expr} {t : TE} (h : PE X e t) : PE X e (tM t) := ⟨fun pins s σ H Q I ⟨Q0, h0, q⟩ => thn (h.run pins s σ H Q0 I h0) fun u s' ⟨v, H', I', r, k⟩ => ⟨v, H', I', r, q v H' k⟩⟩
theorem tM_of {t : TE} {σ : L2.St} {H : Hp} {Q Q' : VK} (h : t σ H Q) (i : ∀ x H1, Q x H1 → Q' x H1) : tM t σ H Q' := ⟨Q, h, i⟩
theorem PE.imp' {e : Expr} {t t' : TE} (h : PE X e t) (i : ∀ σ H Q, t' σ H Q → t σ H Q) : PE X e t' := ⟨fun pins s σ H Q I q => h.run pins s σ H Q I (i σ H Q q)⟩
theorem PS.imp' {e : Stmt} {t t' : TS} (h : PS X e t) (i : ∀ D σ H, t' D σ H → t D σ H) : PS X e t' := ⟨fun pins s σ H D I q => h.run pins s σ H D I (i D σ H q)⟩
def keyO : V → Option Key
  | .int i => some (.inl i)
  | .str s => some (.inr s)
  | _ => none
theorem keyO_eq {y : V} {k : Key} (h : keyO y = some k) : y = kV k := by
  cases y <;> cases h <;> rfl
theorem keyO_i {i : Int} : keyO (.int i) = some (.inl i) := rfl
theorem keyO_s {s : Str} : keyO (.str s) = some (.inr s) := rfl
theorem dget_of {H : Hp} {a : Addr} {y : V} {kvs : List (Key × V)} {k : Key} (h : dkO (H a) = some kvs) (e : keyO y = some k) : DGet H a y (valV kvs k) := .inl ⟨kvs, k, rd_dkO h, keyO_eq e, rfl⟩
/-- d.get(k, x) -/
def tGet2 (td ty tx : TE) : TE := fun σ H Q => td σ H fun x H1 => ∃ a kvs, x = .ref a ∧ dkO (H1 a) = some kvs ∧ ty σ H1 fun y H2 => tx σ H2 fun z H3 => ∃ kvs k, dkO (H3 a) = some kvs ∧ keyO y = some k ∧ Q ((valV kvs k).getD z) H3
theorem pe_get2 {o e f : Expr} {td ty tx : TE} {apos cpos : Pos} (hu : X.A.units + 1 < cLine) (ho : PE X o td) (he : PE X e ty) (hf : PE X f tx)
    (h1 : attributeBase o "get" X.env (eval o X.env) = eval o X.env := by rfl)
    (h2 : ((backTo cpos (starEach [e, f] X.env)).all (fun x => !x.1) && (backToKw cpos (keywordEach [] X.env)).all (fun x => x.1.isSome) && decide (([e, f] : List Expr).length + ([] : List Keyword).length + (if ([] : List Keyword).isEmpty then 0 else 1) < 30)) = true := by rfl)
    (h3 : (apos.endLine == cpos.line) = true := by rfl) (h4 : backTo cpos (starEach [e, f] X.env) = [(false, eval e X.env), (false, eval f X.env)] := by rfl) :
    PE X (.Call (.Attribute o "get" apos) [e, f] [] cpos) (tGet2 td ty tx) :=
  PE.imp' (pe_dget2 hu (pe_m ho) (pe_m he) (pe_m hf) ⟨h1, h2, h3, h4⟩) fun σ H Q h => by
    refine tM_of h fun x H1 h => ?_
    obtain ⟨a, kvs, e1, e2, q⟩ := h
    refine ⟨a, e1, .inl ⟨kvs, rd_dkO e2⟩, tM_of q fun y H2 q => tM_of q fun z H3 q => ?_⟩
    obtain ⟨kvs, k, e3, e4, q⟩ := q
    exact ⟨_, dget_of e3 e4, q⟩
/-- d[k] -/
def tGetI (td ty : TE) : TE := fun σ H Q => td σ H fun x H1 => ty σ H1 fun y H2 => ∃ a kvs k v, x = .ref a ∧ dkO (H2 a) = some kvs ∧ keyO y = some k ∧ valV kvs k = some v ∧ Q v H2
theorem pe_getI {o i : Expr} {td ty : TE} {pos : Pos} (hu : X.A.units + 1 < cLine) (ho : PE X o td) (hi : PE X i ty) (hs : NoSl i) : PE X (.Subscript o i pos) (tGetI td ty) :=
  PE.imp' (pe_dget hu (pe_m ho) (pe_m hi) hs) fun σ H Q h => by
    refine tM_of h fun x H1 q => tM_of q fun y H2 q => ?_
    obtain ⟨a, kvs, k, v, e1, e2, e3, e4, q⟩ := q
    exact ⟨a, v, e1, by rw [← e4]; exact dget_of e2 e3, q⟩
/-- d[k] = v -/
def sPut (td ty tv : TE) : TS := fun D σ H => tv σ H fun v H1 => td σ H1 fun x H2 => ty σ H2 fun y H3 => ∃ a kvs k, x = .ref a ∧ H3 a = some (.dK kvs) ∧ keyO y = some k ∧ kvs.length < sizeLine ∧ D.nx σ (upd H3 a (.dK (putK kvs k v)))
theorem ps_put {o i value : Expr} {td ty tv : TE} {pos pos' : Pos} (hu : X.A.units + 1 < cLine) (ho : PE X o td) (hi : PE X i ty) (hv : PE X value tv) (hs : swapsWith value (some (.Subscript o i pos')) pos.line X.env = pure false) :
    PS X (.Assign [.Subscript o i pos'] value pos) (sPut td ty tv) :=
  PS.imp' (ps_dput hu (pe_m ho) (pe_m hi) (pe_m hv) hs) fun D σ H h => by
    refine tM_of h fun v H1 q => tM_of q fun x H2 q => tM_of q fun y H3 q => ?_
    obtain ⟨a, kvs, k, e1, e2, e3, e4, q⟩ := q
    exact ⟨a, _, e1, .inl ⟨kvs, k, e2, keyO_eq e3, e4, rfl⟩, q⟩
/-! tuples whose object is known: their methods may be called -/
def TupF (H : Hp) (p : Addr) (xs : List V) : Prop := ∃ o : Obj, H p = some (.frz o (.tup xs)) ∧ o.cls = .type "tuple" ∧ o.dict = none
def tTupF (t : TA) : TE := fun σ H Q => t σ H fun xs H1 => xs.length ≤ sizeLine ∧ ∀ p o, H1 p = none → o.cls = .type "tuple" → o.dict = none → Q (.ref p) (upd H1 p (.frz o (.tup xs)))
theorem pe_tupF {es : List Expr} {t : TA} {x1 : Nat} {pos : Pos} (h : PA X es t) : PE X (.Tuple es x1 pos) (tTupF t) := by
  refine ⟨fun pins s σ H Q I hq => ?_⟩
  refine wpAny_Tuple_spliced (thn (h.run pos pins s σ H _ I hq) fun us s1 ⟨xs, H1, I1, r, z, q⟩ => ⟨by rw [← r.length]; exact z, ?_⟩)
  have hf : H1 s1.heap.objs.size = none := I1.hok.fresh (Nat.le_refl _)
  refine ⟨.ref s1.heap.objs.size, _, I1.laid (o := .frz { cls := .type "tuple", data := .seq us.toArray } (.tup xs)) (t' := s1.toks) (fun b u e => Heap.get?_push_of_some _ e) (Nat.le_refl _) ?_, rfl, q _ _ hf rfl rfl⟩
  exact ⟨Heap.get?_push_size _ rfl, z, us, r, ⟨_, Heap.get?_push_size _ rfl, rfl, _, rfl⟩⟩
/-- a slice of a tuple; the whole of it is the tuple itself -/
def rSlF : V → Option Int → Option Int → Hp → VK → Prop := fun x lo hi H Q => ∃ a xs, x = .ref a ∧ tpO (H a) = some xs ∧
  (HT.sIx xs.length 0 lo = 0 ∧ HT.sIx xs.length xs.length hi = xs.length → Q (.ref a) H) ∧
  (¬ (HT.sIx xs.length 0 lo = 0 ∧ HT.sIx xs.length xs.length hi = xs.length) → ∀ p o, H p = none → o.cls = .type "tuple" → o.dict = none → Q (.ref p) (upd H p (.frz o (.tup (cutV xs lo hi)))))
theorem sl_tupF : SlR X rSlF := by
  intro pins s σ H x v vl vu lo hi sl Q I rx hs pl pu h
  obtain ⟨a, xs, rfl, hx, q1, q2⟩ := h
  by_cases hw : HT.sIx xs.length 0 lo = 0 ∧ HT.sIx xs.length xs.length hi = xs.length
  · exact sl_tupA pins s σ H _ v vl vu lo hi sl Q I rx hs pl pu ⟨a, xs, rfl, .inl (rd_tpO hx), q1, fun n => absurd hw n⟩
  · cases rx
    obtain ⟨its, r, ht, hz⟩ := I.tuple (show SqT X.K H a xs from .inl (rd_tpO hx))
    have hlen : its.toArray.size = xs.length := by rw [List.size_toArray]; exact r.length.symm
    refine ⟨"tuple", _, PyProof.Rows.slot_tuple_getitem.lookup, ht.typeIs, ?_⟩
    refine HT.getItem_tuple_cut ht hs pl pu (by rw [hlen]; exact hw) ?_ (by rw [hlen]; exact hz)
    rw [hlen]
    refine ⟨.ref s.heap.objs.size, _, I.laid (t' := s.toks) (o := .frz { cls := .type "tuple", data := .seq ((its.toArray.toList.drop (HT.sIx xs.length 0 lo)).take (HT.sIx xs.length xs.length hi - HT.sIx xs.length 0 lo)).toArray } (.tup (cutV xs lo hi))) (fun b ob q => Heap.get?_push_of_some _ q) (Nat.le_refl _) ?_, rfl, q2 hw _ _ (I.hok.fresh (Nat.le_refl _)) rfl rfl⟩
    · exact ⟨Heap.get?_push_size _ rfl, Nat.le_trans (cutV_length xs lo hi) hz, _, (r.drop (HT.sIx xs.length 0 lo)).take (HT.sIx xs.length xs.length hi - HT.sIx xs.length 0 lo), IsTup.new _ _⟩
/-- fields.index(word): fields a tuple of texts, its object known -/
def tyTup : V → Hp → Prop := fun x H => ∃ p o ys, x = .ref p ∧ H p = some (.frz o (.tup ys)) ∧ o.cls = .type "tuple" ∧ o.dict = none
theorem ty_tup : TyOk X "tuple" tyTup := by
  intro pins σ H s x v I r h
  obtain ⟨p, o, ys, rfl, h, hc, hd⟩ := h
  cases r
  obtain ⟨g1, _⟩ := I.hok p _ h
  exact ⟨⟨o, g1, hc⟩, fun a e => by cases e; exact ⟨o, g1, hd⟩⟩
def rTIdx : V → List V → Hp → VK → Prop := fun x xs H Q => ∃ (p : Addr) (fs : List Str) (z : Str) (j : Nat), x = .ref p ∧ xs = [.str z] ∧ tpO (H p) = some (fs.map V.str) ∧ fs[j]? = some z ∧ (∀ m, m < j → fs[m]? ≠ some z) ∧ Q (.int (j : Nat)) H
theorem mt_tidx : MtR X "tuple.index" rTIdx := mtImp mt_tup_index fun x xs H Q ⟨p, fs, z, j, e1, e2, h1, h2, h3, q⟩ => ⟨p, fs, z, j, e1, e2, .inl (rd_tpO h1), h2, h3, q⟩
/-- a, b = t -/
def gTupH (n : Nat) (t : TGs) : TG := fun v σ H Q => ∃ a xs, v = .ref a ∧ tpO (H a) = some xs ∧ xs.length = n ∧ t xs σ H Q
theorem pg_tupH {es : List Expr} {k : Nat} {t : TGs} {n : Nat} {pos : Pos} (hc : X.calm = true) (h : PGs X es t)
    (hn : (assignEach es X.env).length = n := by rfl) (hst : (assignEach es X.env).findIdx? (·.1) = none := by rfl) : PG X (.Tuple es k pos) (gTupH n t) :=
  ⟨fun pins s σ H v u Q I r ⟨a, xs, e1, e2, e3, e4⟩ => (pg_tup hc h hn hst).run pins s σ H v u Q I r ⟨a, xs, e1, .inl (rd_tpO e2), e3, e4⟩⟩
/-! the same with the written part by name (under a comprehension's block) -/
theorem pi_tupK (K : PySem.W.Frag) (hK : X.K = K) {tg l : Expr} {tl : TE} (h : PE X l tl) : PI X tg l (iTup K tl) := hK ▸ pi_tup h
theorem pi_listK (K : PySem.W.Frag) (hK : X.K = K) {tg l : Expr} {tl : TE} (h : PE X l tl) : PI X tg l (iList K tl) := hK ▸ pi_list h
theorem op_eqDK (K : PySem.W.Frag) (hK : X.K = K) (hu : X.A.units + 64 < cLine) : OpR X (compareOp .Eq) (rEqD K) := hK ▸ op_eqD hu
theorem op_neDK (K : PySem.W.Frag) (hK : X.K = K) (hu : X.A.units + 64 < cLine) : OpR X (compareOp .NotEq) (rNeD K) := hK ▸ op_neD hu
theorem op_in_seqK (K : PySem.W.Frag) (hK : X.K = K) : OpR X (compareOp .In) (rIn K false) := hK ▸ op_in_seq
theorem op_notIn_seqK (K : PySem.W.Frag) (hK : X.K = K) : OpR X (compareOp .NotIn) (rIn K true) := hK ▸ op_notIn_seq
theorem cx_K {CX : CXT} {P : Program} {w : World} {K : PySem.W.Frag} {mg : Str → Option Value} {base : Heap} {N : List Str} {q : Str} {sc : Scope} {f : Addr} {cd : Value} {A : Around} {outer : List Env} {s : Shared} {H : Hp} {E : XK} :
    (cxOf CX P w K mg base N q sc f cd A outer s H E).K = K := rfl
theorem cx_w {CX : CXT} {P : Program} {w : World} {K : PySem.W.Frag} {mg : Str → Option Value} {base : Heap} {N : List Str} {q : Str} {sc : Scope} {f : Addr} {cd : Value} {A : Around} {outer : List Env} {s : Shared} {H : Hp} {E : XK} :
    (cxOf CX P w K mg base N q sc f cd A outer s H E).w = w := rfl
theorem at0 {α : Type} {a : α} {r : List α} : atI (a :: r) 0 = some a := by
  unfold atI ixN
  rw [if_pos (by decide), if_pos (by rw [List.length_cons]; omega)]
  rfl
theorem at1 {α : Type} {a b : α} {r : List α} : atI (a :: b :: r) 1 = some b := by
  unfold atI ixN
  rw [if_pos (by decide), if_pos (by rw [List.length_cons, List.length_cons]; omega)]
  rfl
theorem at2 {α : Type} {a b c : α} {r : List α} : atI (a :: b :: c :: r) 2 = some c := by
  unfold atI ixN
  rw [if_pos (by decide), if_pos (by rw [List.length_cons, List.length_cons, List.length_cons]; omega)]
  rfl
theorem at3 {α : Type} {a b c d : α} {r : List α} : atI (a :: b :: c :: d :: r) 3 = some d := by
  unfold atI ixN
  rw [if_pos (by decide), if_pos (by rw [List.length_cons, List.length_cons, List.length_cons, List.length_cons]; omega)]
  rfl
theorem atN {α : Type} {xs : List α} {i : Int} (h0 : 0 ≤ i) : atI xs i = xs[i.toNat]? := by
  unfold atI ixN
  rw [if_pos h0]
  by_cases h : i < xs.length
  · rw [if_pos h]
    rfl
  · rw [if_neg h, List.getElem?_eq_none (by omega)]
    rfl
theorem ixs0 {n : Nat} : ixN (n + 1) 0 = some 0 := by
  unfold ixN
  rw [if_pos (by decide), if_pos (by omega)]
  rfl
theorem ixs1 {n : Nat} : ixN (n + 2) 1 = some 1 := by
  unfold ixN
  rw [if_pos (by decide), if_pos (by omega)]
  rfl
theorem ixs2 {n : Nat} : ixN (n + 3) 2 = some 2 := by
  unfold ixN
  rw [if_pos (by decide), if_pos (by omega)]
  rfl
theorem seq0 {n : Nat} : seqIndex? 0 (n + 1) = some 0 := by
  simp [seqIndex?]
theorem scal_ii {a b : Int} : scal (.int a) (.int b) = true := rfl
theorem scal_ss {a b : Str} : scal (.str a) (.str b) = true := rfl
theorem scal_bb {a b : Bool} : scal (.bl a) (.bl b) = true := rfl
theorem scal_nn : scal .non .non = true := rfl
theorem scal_ni {a : Int} : scal .non (.int a) = true := rfl
theorem scal_in {a : Int} : scal (.int a) .non = true := rfl
theorem scal_ns {a : Str} : scal .non (.str a) = true := rfl
theorem scal_sn {a : Str} : scal (.str a) .non = true := rfl
theorem tyV_list {K : PySem.W.Frag} {l : Addr} {H : Hp} (h : lsO (H l) ≠ none) : tyV K "list" (.ref l) H = True := by
  refine eq_true (.inl ⟨rfl, ?_⟩)
  cases e : lsO (H l) with
  | none => exact absurd e h
  | some xs => exact ⟨xs, .inl (rd_lsO e)⟩
theorem ex_map_int {ns : List Int} {P : List Int → Prop} : (∃ ms : List Int, ns.map V.int = ms.map V.int ∧ P ms) ↔ P ns :=
  ⟨fun ⟨ms, e, p⟩ => by rw [map_int_inj e]; exact p, fun p => ⟨ns, rfl, p⟩⟩
theorem ex_nil_int {P : List Int → Prop} : (∃ ms : List Int, [] = ms.map V.int ∧ P ms) ↔ P [] :=
  ⟨fun ⟨ms, e, p⟩ => (by
    cases ms with
    | nil => exact p
    | cons _ _ => cases e), fun p => ⟨[], rfl, p⟩⟩
theorem ex_cons_int {n : Int} {ns : List Int} {P : List Int → Prop} : (∃ ms : List Int, V.int n :: ns.map V.int = ms.map V.int ∧ P ms) ↔ P (n :: ns) := ex_map_int (ns := n :: ns)
end
/-! ### isinstance of a built-in class, by what stands in the heap -/
inductive TN where
  | non | bl | int | str | lst | tup | dct
def TN.nm : TN → String
  | .non => "NoneType"
  | .bl => "bool"
  | .int => "int"
  | .str => "str"
  | .lst => "list"
  | .tup => "tuple"
  | .dct => "dict"
def tyT : V → Hp → Option TN
  | .non, _ => some .non
  | .bl _, _ => some .bl
  | .int _, _ => some .int
  | .str _, _ => some .str
  | .ref p, H => match H p with
    | some (.lst _) => some .lst
    | some (.tup _) => some .tup
    | some (.dK _) => some .dct
    | some (.dT _) => some .dct
    | some (.frz _ (.tup _)) => some .tup
    | _ => none
  | _, _ => none
theorem tyT_ok {K : PySem.W.Frag} {x : V} {H : Hp} {a : TN} (h : tyT x H = some a) : TyX K H x (.type a.nm) := by
  cases x with
  | non => cases h; exact .base .non
  | bl b => cases h; exact .base (.bl b)
  | int b => cases h; exact .base (.int b)
  | str b => cases h; exact .base (.str b)
  | ref p =>
    unfold tyT at h
    dsimp only at h
    split at h
    · rename_i e; cases h; exact .base (.lst e)
    · rename_i e; cases h; exact .base (.tup e)
    · rename_i e; cases h; exact .base (.dK e)
    · rename_i e; cases h; exact .base (.dT e)
    · rename_i e; cases h; exact .fTuple e
    · cases h
  | _ => cases h
theorem tyT_n {H : Hp} : tyT .non H = some .non := rfl
theorem tyT_b {b : Bool} {H : Hp} : tyT (.bl b) H = some .bl := rfl
theorem tyT_i {b : Int} {H : Hp} : tyT (.int b) H = some .int := rfl
theorem tyT_s {b : Str} {H : Hp} : tyT (.str b) H = some .str := rfl
theorem tyT_r {p : Addr} {H : Hp} : tyT (.ref p) H = match H p with
    | some (.lst _) => some .lst
    | some (.tup _) => some .tup
    | some (.dK _) => some .dct
    | some (.dT _) => some .dct
    | some (.frz _ (.tup _)) => some .tup
    | _ => none := rfl
def isN (a : TN) (n : String) : Bool := (kitB a.nm n).getD false
theorem isn_non_bool : isN .non "bool" = false := by decide +kernel
theorem isn_non_int : isN .non "int" = false := by decide +kernel
theorem isn_non_str : isN .non "str" = false := by decide +kernel
theorem isn_non_tuple : isN .non "tuple" = false := by decide +kernel
theorem isn_non_list : isN .non "list" = false := by decide +kernel
theorem isn_non_dict : isN .non "dict" = false := by decide +kernel
theorem isn_bl_bool : isN .bl "bool" = true := by decide +kernel
theorem isn_bl_int : isN .bl "int" = true := by decide +kernel
theorem isn_bl_str : isN .bl "str" = false := by decide +kernel
theorem isn_bl_tuple : isN .bl "tuple" = false := by decide +kernel
theorem isn_bl_list : isN .bl "list" = false := by decide +kernel
theorem isn_bl_dict : isN .bl "dict" = false := by decide +kernel
theorem isn_int_bool : isN .int "bool" = false := by decide +kernel
theorem isn_int_int : isN .int "int" = true := by decide +kernel
theorem isn_int_str : isN .int "str" = false := by decide +kernel
theorem isn_int_tuple : isN .int "tuple" = false := by decide +kernel
theorem isn_int_list : isN .int "list" = false := by decide +kernel
theorem isn_int_dict : isN .int "dict" = false := by decide +kernel
theorem isn_str_bool : isN .str "bool" = false := by decide +kernel
theorem isn_str_int : isN .str "int" = false := by decide +kernel
theorem isn_str_str : isN .str "str" = true := by decide +kernel
theorem isn_str_tuple : isN .str "tuple" = false := by decide +kernel
theorem isn_str_list : isN .str "list" = false := by decide +kernel
theorem isn_str_dict : isN .str "dict" = false := by decide +kernel
theorem isn_lst_bool : isN .lst "bool" = false := by decide +kernel
theorem isn_lst_int : isN .lst "int" = false := by decide +kernel
theorem isn_lst_str : isN .lst "str" = false := by decide +kernel
theorem isn_lst_tuple : isN .lst "tuple" = false := by decide +kernel
theorem isn_lst_list : isN .lst "list" = true := by decide +kernel
theorem isn_lst_dict : isN .lst "dict" = false := by decide +kernel
theorem isn_tup_bool : isN .tup "bool" = false := by decide +kernel
theorem isn_tup_int : isN .tup "int" = false := by decide +kernel
theorem isn_tup_str : isN .tup "str" = false := by decide +kernel
theorem isn_tup_tuple : isN .tup "tuple" = true := by decide +kernel
theorem isn_tup_list : isN .tup "list" = false := by decide +kernel
theorem isn_tup_dict : isN .tup "dict" = false := by decide +kernel
theorem isn_dct_bool : isN .dct "bool" = false := by decide +kernel
theorem isn_dct_int : isN .dct "int" = false := by decide +kernel
theorem isn_dct_str : isN .dct "str" = false := by decide +kernel
theorem isn_dct_tuple : isN .dct "tuple" = false := by decide +kernel
theorem isn_dct_list : isN .dct "list" = false := by decide +kernel
theorem isn_dct_dict : isN .dct "dict" = true := by decide +kernel
def okN (n : String) : Prop := n = "bool" ∨ n = "int" ∨ n = "str" ∨ n = "tuple" ∨ n = "list" ∨ n = "dict"
theorem okn_bool : okN "bool" = True := eq_true (by unfold okN; simp)
theorem okn_int : okN "int" = True := eq_true (by unfold okN; simp)
theorem okn_str : okN "str" = True := eq_true (by unfold okN; simp)
theorem okn_tuple : okN "tuple" = True := eq_true (by unfold okN; simp)
theorem okn_list : okN "list" = True := eq_true (by unfold okN; simp)
theorem okn_dict : okN "dict" = True := eq_true (by unfold okN; simp)
theorem kit_isN {a : TN} {n : String} (h : okN n) : kitB a.nm n = some (isN a n) := by
  rcases h with rfl | rfl | rfl | rfl | rfl | rfl <;> cases a <;> decide +kernel
def cIsi : List V → Hp → VK → Prop := fun xs H Q => ∃ x n a, xs = [x, .ty n] ∧ okN n ∧ tyT x H = some a ∧ Q (.bl (isN a n)) H
theorem isi_h {X : Cx} : CallR X (.builtin "isinstance") cIsi := callImp call_isi fun xs H Q ⟨x, n, a, e, ok, t, q⟩ => ⟨x, .ty n, _, _, _, e, .ty n, tyT_ok t, kit_ty (kit_isN ok), q⟩
end G7

namespace G7
open PySem PySem.Spec PyProof.Rows L2
/-! ### promises of the draws -/
def spBegun (K : PySem.W.Frag) : Sp := fun vs H Q _ => ∃ (a : Addr) (ns : List Int), vs = [.ref a] ∧ SqL K H a (ns.map V.int) ∧ ns.length ≤ 63 ∧ ∀ H' h l, H h = none → H l = none → Same H H' → BoxA H' h l → Q (.ref h) H'
def spTake : Sp := fun vs H Q _ => ∃ (h l : Addr) (n : Int), vs = [.ref h, .int n] ∧ BoxA H h l ∧ 0 < n ∧ n < 1073741824 ∧ ∀ r H', 0 ≤ r → r < n → BoxA H' h l → Keep [h, l] H H' → Q (.int r) H'
theorem cut_ne {α : Type} {a b : α} {P : Prop} (h : a = b → False) : a ≠ b := h
end G7

set_option linter.all false
set_option Elab.async false
set_option maxRecDepth 100000
set_option maxHeartbeats 4000000
namespace G7
open PySem PySem.Spec PyProof.Rows L2
theorem cpow18 : CPow 10 18 = True := eq_true ⟨by decide, by decide, by decide⟩
/-! ### words of the statements' trees -/
inductive Wd where
  | num | field | add | sub | mul | eq | lt | gt | le | ge | and | or | not
  deriving DecidableEq
def Wd.s : Wd → Str
  | .num => "num"
  | .field => "field"
  | .add => "+"
  | .sub => "-"
  | .mul => "*"
  | .eq => "="
  | .lt => "<"
  | .gt => ">"
  | .le => "<="
  | .ge => ">="
  | .and => "and"
  | .or => "or"
  | .not => "not"
def Wd.all : List Wd := [.num, .field, .add, .sub, .mul, .eq, .lt, .gt, .le, .ge, .and, .or, .not]
theorem Wd.s_inj : ∀ a b : Wd, (a.s = b.s) = (a = b) := by
  intro a b
  cases a <;> cases b <;> first | rfl | (apply propext; constructor <;> intro h <;> first | (revert h; decide +kernel) | cases h)
theorem ws_num : (Str.ofString "num" : Str) = Wd.s .num := rfl
theorem ws_field : (Str.ofString "field" : Str) = Wd.s .field := rfl
theorem ws_add : (Str.ofString "+" : Str) = Wd.s .add := rfl
theorem ws_sub : (Str.ofString "-" : Str) = Wd.s .sub := rfl
theorem ws_mul : (Str.ofString "*" : Str) = Wd.s .mul := rfl
theorem ws_eq : (Str.ofString "=" : Str) = Wd.s .eq := rfl
theorem ws_lt : (Str.ofString "<" : Str) = Wd.s .lt := rfl
theorem ws_gt : (Str.ofString ">" : Str) = Wd.s .gt := rfl
theorem ws_le : (Str.ofString "<=" : Str) = Wd.s .le := rfl
theorem ws_ge : (Str.ofString ">=" : Str) = Wd.s .ge := rfl
theorem ws_and : (Str.ofString "and" : Str) = Wd.s .and := rfl
theorem ws_or : (Str.ofString "or" : Str) = Wd.s .or := rfl
theorem ws_not : (Str.ofString "not" : Str) = Wd.s .not := rfl
theorem ex_wd {a : Wd} {P : Wd → Prop} : (∃ b, a = b ∧ P b) ↔ P a := ⟨fun ⟨b, e, p⟩ => by rw [e]; exact p, fun p => ⟨a, rfl, p⟩⟩
/-! ### terms and conditions -/
inductive Tm where
  | num (n : Int)
  | fld (t f : Str)
  | op (o : Wd) (a b : Tm)
inductive Cd where
  | cmp (c : Wd) (a b : Tm)
  | neg (c : Cd)
  | con (o : Wd) (a b : Cd)
/-- the words stand where they may -/
def Wd.isOp : Wd → Bool
  | .add => true
  | .sub => true
  | .mul => true
  | _ => false
def Wd.isCmp : Wd → Bool
  | .eq => true
  | .lt => true
  | .gt => true
  | .le => true
  | .ge => true
  | _ => false
def Wd.isCon : Wd → Bool
  | .and => true
  | .or => true
  | _ => false
def Tm.ok : Tm → Bool
  | .num _ => true
  | .fld t f => PyData.strOk t && PyData.strOk f
  | .op o a b => o.isOp && a.ok && b.ok
def Cd.ok : Cd → Bool
  | .cmp c a b => c.isCmp && a.ok && b.ok
  | .neg c => c.ok
  | .con o a b => o.isCon && a.ok && b.ok
def Tm.deep : Tm → Nat
  | .op _ a b => max a.deep b.deep + 1
  | _ => 1
def Cd.deep : Cd → Nat
  | .cmp _ a b => max a.deep b.deep + 1
  | .neg c => c.deep + 1
  | .con _ a b => max a.deep b.deep + 1
def Tm.enc : Tm → PyData
  | .num n => .tuple [.str (Wd.s .num), .int n]
  | .fld t f => .tuple [.str (Wd.s .field), .str t, .str f]
  | .op o a b => .tuple [.str o.s, a.enc, b.enc]
def Cd.enc : Cd → PyData
  | .cmp c a b => .tuple [.str c.s, a.enc, b.enc]
  | .neg c => .tuple [.str (Wd.s .not), c.enc]
  | .con o a b => .tuple [.str o.s, a.enc, b.enc]
/-- v is the term in H -/
def RT (H : Hp) : V → Tm → Prop
  | v, .num n => ∃ a, v = .ref a ∧ H a = some (.tup [.str (Wd.s .num), .int n])
  | v, .fld t f => ∃ a, v = .ref a ∧ H a = some (.tup [.str (Wd.s .field), .str t, .str f])
  | v, .op o x y => ∃ a u w, v = .ref a ∧ H a = some (.tup [.str o.s, u, w]) ∧ RT H u x ∧ RT H w y
def RC (H : Hp) : V → Cd → Prop
  | v, .cmp c x y => ∃ a u w, v = .ref a ∧ H a = some (.tup [.str c.s, u, w]) ∧ RT H u x ∧ RT H w y
  | v, .neg c => ∃ a u, v = .ref a ∧ H a = some (.tup [.str (Wd.s .not), u]) ∧ RC H u c
  | v, .con o x y => ∃ a u w, v = .ref a ∧ H a = some (.tup [.str o.s, u, w]) ∧ RC H u x ∧ RC H w y
/-- None or a condition -/
def RCo (H : Hp) (v : V) : Option Cd → Prop
  | none => v = .non
  | some c => RC H v c
/-- tuples stand -/
def TupS (H H' : Hp) : Prop := ∀ a xs, H a = some (.tup xs) → H' a = some (.tup xs)
theorem TupS.refl {H : Hp} : TupS H H := fun _ _ h => h
theorem TupS.trans {H H1 H2 : Hp} (a : TupS H H1) (b : TupS H1 H2) : TupS H H2 := fun c o h => b c o (a c o h)
theorem TupS.ofSame {H H1 : Hp} (a : Same H H1) : TupS H H1 := fun c o h => a c _ h
theorem TupS.ofKeep {H H1 : Hp} {ms : List Addr} (n : ∀ m, m ∈ ms → ∃ o, H m = some o ∧ Mut (some o)) (a : Keep ms H H1) : TupS H H1 := fun c o h =>
  a c _ (fun m => by obtain ⟨u, e, mu⟩ := n c m; rw [h] at e; cases e; exact mu) h
theorem TupS.upd {H H1 : Hp} {p : Addr} {o u : HO} (a : TupS H H1) (h : H1 p = some u) (hu : ∀ xs, u ≠ .tup xs) : TupS H (L2.upd H1 p o) := fun c xs e => by
  have e1 := a c xs e
  rw [upd_ne (fun z => by rw [z, h] at e1; cases e1; exact hu _ rfl)]
  exact e1
theorem RT.tups {H H' : Hp} (s : TupS H H') : ∀ {t : Tm} {v : V}, RT H v t → RT H' v t
  | .num n, v, ⟨a, e, h⟩ => ⟨a, e, s _ _ h⟩
  | .fld t f, v, ⟨a, e, h⟩ => ⟨a, e, s _ _ h⟩
  | .op o x y, v, ⟨a, u, w, e, h, h1, h2⟩ => ⟨a, u, w, e, s _ _ h, RT.tups s h1, RT.tups s h2⟩
theorem RC.tups {H H' : Hp} (s : TupS H H') : ∀ {t : Cd} {v : V}, RC H v t → RC H' v t
  | .cmp o x y, v, ⟨a, u, w, e, h, h1, h2⟩ => ⟨a, u, w, e, s _ _ h, RT.tups s h1, RT.tups s h2⟩
  | .neg c, v, ⟨a, u, e, h, h1⟩ => ⟨a, u, e, s _ _ h, RC.tups s h1⟩
  | .con o x y, v, ⟨a, u, w, e, h, h1, h2⟩ => ⟨a, u, w, e, s _ _ h, RC.tups s h1, RC.tups s h2⟩
theorem RCo.tups {H H' : Hp} (s : TupS H H') {v : V} : ∀ {o : Option Cd}, RCo H v o → RCo H' v o
  | none, h => h
  | some c, h => RC.tups s h
theorem RT.dp {K : PySem.W.Frag} {H : Hp} : ∀ {t : Tm} {v : V}, RT H v t → Dp K H v t.enc
  | .num n, v, ⟨a, e, h⟩ => by rw [e]; exact .tup (.inl (.inl h)) (.cons (.str _) (.cons (.int _) .nil))
  | .fld t f, v, ⟨a, e, h⟩ => by rw [e]; exact .tup (.inl (.inl h)) (.cons (.str _) (.cons (.str _) (.cons (.str _) .nil)))
  | .op o x y, v, ⟨a, u, w, e, h, h1, h2⟩ => by rw [e]; exact .tup (.inl (.inl h)) (.cons (.str _) (.cons (RT.dp h1) (.cons (RT.dp h2) .nil)))
theorem RC.dp {K : PySem.W.Frag} {H : Hp} : ∀ {t : Cd} {v : V}, RC H v t → Dp K H v t.enc
  | .cmp o x y, v, ⟨a, u, w, e, h, h1, h2⟩ => by rw [e]; exact .tup (.inl (.inl h)) (.cons (.str _) (.cons (RT.dp h1) (.cons (RT.dp h2) .nil)))
  | .neg c, v, ⟨a, u, e, h, h1⟩ => by rw [e]; exact .tup (.inl (.inl h)) (.cons (.str _) (.cons (RC.dp h1) .nil))
  | .con o x y, v, ⟨a, u, w, e, h, h1, h2⟩ => by rw [e]; exact .tup (.inl (.inl h)) (.cons (.str _) (.cons (RC.dp h1) (.cons (RC.dp h2) .nil)))
theorem Wd.strOk (o : Wd) : PyData.strOk o.s = true := by cases o <;> decide +kernel
theorem Tm.lay : ∀ t : Tm, t.ok = true → t.enc.canLay0 = true
  | .num n, _ => by simp [Tm.enc, PyData.canLay0, PyData.canLayAll0, Wd.strOk]
  | .fld t f, h => by
    simp only [Tm.ok, Bool.and_eq_true] at h
    simp [Tm.enc, PyData.canLay0, PyData.canLayAll0, Wd.strOk, h]
  | .op o a b, h => by
    simp only [Tm.ok, Bool.and_eq_true] at h
    simp [Tm.enc, PyData.canLay0, PyData.canLayAll0, Tm.lay a h.1.2, Tm.lay b h.2, Wd.strOk]
theorem Tm.depth : ∀ t : Tm, t.enc.depth ≤ t.deep
  | .num n => by simp [Tm.enc, PyData.depth, PyData.depthAll, Tm.deep]
  | .fld t f => by simp [Tm.enc, PyData.depth, PyData.depthAll, Tm.deep]
  | .op o a b => by
    have h1 := Tm.depth a
    have h2 := Tm.depth b
    simp only [Tm.enc, PyData.depth, PyData.depthAll, Tm.deep]
    omega
end G7

set_option linter.all false
set_option Elab.async false
set_option maxRecDepth 100000
set_option maxHeartbeats 4000000
namespace G7
open PySem PySem.Spec PyProof.Rows L2
/-! ### the second draw box: [mixed, cells, place] -/
def BoxB (H : Hp) (h l : Addr) : Prop := ∃ (m : Int) (ns : List Int) (p : Int), H h = some (.lst [.int m, .ref l, .int p]) ∧ H l = some (.lst (ns.map V.int)) ∧ ns.length ≤ 63
theorem BoxB.muts {H : Hp} {h l : Addr} (b : BoxB H h l) : ∀ m, m ∈ [h, l] → ∃ o, H m = some o ∧ Mut (some o) := by
  obtain ⟨m0, ns, st, e1, e2, _⟩ := b
  intro m hm
  simp only [List.mem_cons, List.mem_nil_iff, or_false] at hm
  rcases hm with rfl | rfl
  · exact ⟨_, e1, trivial⟩
  · exact ⟨_, e2, trivial⟩
theorem BoxB.keep {ms : List Addr} {H H' : Hp} {h l : Addr} (b : BoxB H h l) (k : Keep ms H H') (n1 : h ∉ ms) (n2 : l ∉ ms) : BoxB H' h l := by
  obtain ⟨m, ns, st, e1, e2, e3⟩ := b
  exact ⟨m, ns, st, k _ _ n1 e1, k _ _ n2 e2, e3⟩
theorem BoxB.same {H H' : Hp} {h l : Addr} (b : BoxB H h l) (k : Same H H') : BoxB H' h l := b.keep (ms := []) (Keep.ofSame k) (by simp) (by simp)
theorem BoxB.ne {H : Hp} {h l : Addr} (b : BoxB H h l) : h ≠ l := by
  obtain ⟨m, ns, st, e1, e2, _⟩ := b
  rintro rfl
  rw [e1] at e2
  injection e2 with e2
  injection e2 with e2
  rcases ns with _ | ⟨n, _ | ⟨n2, r⟩⟩
  · cases e2
  · injection e2 with _ e3; cases e3
  · injection e2 with _ e3
    injection e3 with e4 _
    cases e4
theorem BoxB.tups {H H' : Hp} {h l : Addr} (b : BoxB H h l) (k : Keep [h, l] H H') : TupS H H' := TupS.ofKeep b.muts k
/-- what is no list is not the box -/
theorem BoxB.notin {H : Hp} {h l q : Addr} {o : HO} (B : BoxB H h l) (e : H q = some o) (n : ∀ xs, o ≠ .lst xs) : q ∉ [h, l] := fun m => by
  obtain ⟨m0, ns, st, b1, b2, _⟩ := B
  simp only [List.mem_cons, List.mem_nil_iff, or_false] at m
  rcases m with rfl | rfl
  · rw [b1] at e; cases e; exact n _ rfl
  · rw [b2] at e; cases e; exact n _ rfl
/-- an address that is free now is not the box -/
theorem BoxB.free {H : Hp} {h l q : Addr} (B : BoxB H h l) (e : H q = none) : q ∉ [h, l] := fun m => by
  obtain ⟨m0, ns, st, b1, b2, _⟩ := B
  simp only [List.mem_cons, List.mem_nil_iff, or_false] at m
  rcases m with rfl | rfl
  · rw [b1] at e; cases e
  · rw [b2] at e; cases e
theorem BoxB.updNot {H : Hp} {h l q : Addr} {o : HO} (B : BoxB H h l) (n : q ∉ [h, l]) : BoxB (L2.upd H q o) h l :=
  B.keep (ms := [q]) (Keep.upd Keep.refl (by simp)) (fun z => n (by simp at z; simp [z])) (fun z => n (by simp at z; simp [z]))
/-- the cell that is drawn from -/
theorem cell_at (ns : List Int) (pl : Int) : ∃ c : Int, atI (ns.map V.int ++ [V.int 0]) (pl % (if (ns.length : Int) > 1 then (ns.length : Int) else 1)) = some (.int c) ∧
    (c ≠ 0 → 0 < (ns.length : Int) ∧ ∃ j : Nat, j < ns.length ∧ pl % (ns.length : Int) = j ∧ (if (ns.length : Int) > 1 then (ns.length : Int) else 1) = ns.length) := by
  have hd : 0 < (if (ns.length : Int) > 1 then (ns.length : Int) else 1) := by split <;> omega
  have h0 := Int.emod_nonneg pl (show (if (ns.length : Int) > 1 then (ns.length : Int) else 1) ≠ 0 by omega)
  have h1 := Int.emod_lt_of_pos pl hd
  rw [atN h0]
  by_cases hl : 0 < ns.length
  · have e : (if (ns.length : Int) > 1 then (ns.length : Int) else 1) = ns.length := by split <;> omega
    rw [e] at h0 h1 ⊢
    have hj : (pl % (ns.length : Int)).toNat < ns.length := by omega
    refine ⟨ns[(pl % (ns.length : Int)).toNat], ?_, fun _ => ⟨by omega, (pl % (ns.length : Int)).toNat, hj, by omega, rfl⟩⟩
    rw [List.getElem?_append_left (by rw [List.length_map]; exact hj), List.getElem?_map, List.getElem?_eq_getElem hj]
    rfl
  · have e0 : ns = [] := List.eq_nil_of_length_eq_zero (by omega)
    subst e0
    refine ⟨0, ?_, fun n => absurd rfl n⟩
    have : (pl % (if ((([] : List Int).length : Nat) : Int) > 1 then ((([] : List Int).length : Nat) : Int) else 1)).toNat = 0 := by
      have h2 : (if ((([] : List Int).length : Nat) : Int) > 1 then ((([] : List Int).length : Nat) : Int) else 1) = 1 := rfl
      rw [h2] at h1 ⊢
      omega
    rw [this]
    rfl
theorem ixN_j {n j : Nat} {i : Int} (h : i = j) (hj : j < n) : ixN n i = some j := by
  subst h
  unfold ixN
  rw [if_pos (by omega), if_pos (by omega)]
  simp
def spMix (K : PySem.W.Frag) : Sp := fun vs H Q _ => ∃ (a : Addr) (ns : List Int) (z : Int), vs = [.ref a, .int z] ∧ SqL K H a (ns.map V.int) ∧ ns.length ≤ 63 ∧ ∀ H' h l, H h = none → H l = none → Same H H' → BoxB H' h l → Q (.ref h) H'
def spNext : Sp := fun vs H Q _ => ∃ (h l : Addr) (n : Int), vs = [.ref h, .int n] ∧ BoxB H h l ∧ 0 < n ∧ n < 1073741824 ∧ ∀ r H', 0 ≤ r → r < n → BoxB H' h l → Keep [h, l] H H' → Q (.int r) H'
end G7

set_option linter.all false
set_option Elab.async false
set_option maxRecDepth 100000
set_option maxHeartbeats 4000000
namespace G7
open PySem PySem.Spec PyProof.Rows L2 HT
/-! ### t[::-1] of a tuple -/
theorem places_rev (n : Nat) : Builtin.Slice.sliceAdjust none none (-1) (n : Int) = ((n : Int) - 1, -1) ∧ Builtin.Slice.slicePlaces ((n : Int) - 1) (-1) (-1) = n := by
  refine ⟨rfl, ?_⟩
  unfold Builtin.Slice.slicePlaces
  rw [if_neg (by decide)]
  by_cases h : (n : Int) - 1 > -1
  · rw [if_pos h]
    have : ((n : Int) - 1 - -1 - 1) / (-(-1)) + 1 = n := by
      show ((n : Int) - 1 - -1 - 1) / 1 + 1 = n
      omega
    rw [this]
    simp
  · rw [if_neg h]
    omega
theorem range_rev (n : Nat) : (List.range n).map (fun k => n - 1 - k) = (List.range n).reverse := by
  refine List.ext_getElem (by simp) fun i h1 h2 => ?_
  simp at h1 h2
  simp [List.getElem_reverse]
theorem pick_all {α : Type} (xs : Array α) : (List.range xs.size).filterMap (xs[·]?) = xs.toList := by
  have e : (List.range xs.size).filterMap (xs[·]?) = (List.range xs.toList.length).filterMap (xs.toList[·]?) := by simp
  rw [e]
  generalize xs.toList = l
  induction l with
  | nil => rfl
  | cons a r ih =>
    rw [List.length_cons, List.range_succ_eq_map, List.filterMap_cons]
    show a :: _ = _
    rw [List.filterMap_map]
    exact congrArg (a :: ·) ih
theorem fm_congr {α β : Type} {f g : α → Option β} : ∀ {l : List α}, (∀ a ∈ l, f a = g a) → l.filterMap f = l.filterMap g
  | [], _ => rfl
  | a :: r, h => by
    rw [List.filterMap_cons, List.filterMap_cons, h a (List.mem_cons_self), fm_congr fun b hb => h b (List.mem_cons_of_mem _ hb)]
theorem pick_rev (xs : Array Value) : ((List.range xs.size).filterMap fun (m : Nat) => xs[(((xs.size : Int) - 1) + (m : Int) * -1).toNat]?).toArray = xs.toList.reverse.toArray := by
  congr 1
  have e : (List.range xs.size).filterMap (fun (m : Nat) => xs[(((xs.size : Int) - 1) + (m : Int) * -1).toNat]?) = ((List.range xs.size).map fun k => xs.size - 1 - k).filterMap (xs[·]?) := by
    rw [List.filterMap_map]
    refine fm_congr fun m hm => ?_
    have hm := List.mem_range.mp hm
    have : (((xs.size : Int) - 1) + (m : Int) * -1).toNat = xs.size - 1 - m := by omega
    show xs[(((xs.size : Int) - 1) + (m : Int) * -1).toNat]? = xs[xs.size - 1 - m]?
    rw [this]
  rw [e, range_rev, List.filterMap_reverse, pick_all]
section
variable {prog : Program} {w : World} {A : Around} {E : Value → Shared → Prop} {s : Shared}
theorem getItem_tuple_rev {t sl : Addr} {items : Array Value} {st : Value} {Q : Value → Shared → Prop} (ht : IsTup s.heap t items) (hs : s.heap.IsSliceOf sl .none .none st) (ps : IsPart st (some (-1)))
    (h : Q (.ref s.heap.objs.size) { s with heap := s.heap.push { cls := .type "tuple", data := .seq items.toList.reverse.toArray } })
    (hsz : items.size ≤ sizeLine) : wpAny (model prog w) A (getItem (.ref t) (.ref sl)) Q E s := by
  have hok : sizeOk (.seq items.toList.reverse.toArray) := by
    show items.toList.reverse.toArray.size ≤ sizeLine
    simpa using hsz
  obtain ⟨os, hos, hcs, hds⟩ := id hs
  have tys : s.TypeIs (.ref sl) "slice" := ⟨os, hos, hcs⟩
  unfold getItem
  refine wpAny_holding ?_
  refine wpAny_bind (wpAny_sequenceKey ht.typeIs (by decide) ?_)
  refine wpAny_bind (wpAny_callSpecial?_slot (name := Str.ofString "__getitem__") ht.typeIs slot_tuple_getitem (wpAny_call_entry slot_tuple_getitem ht.typeIs entry_tuple_getitem ?_ (args_tuple_getitem _ _)))
  show wpAny _ _ (Builtin.Tuple.tupleItemsOf (.ref t) >>= _) _ _ s
  refine wpAny_bind (tupleItemsOf_ ht (wpAny_bind (wpAny_typeOf tys ?_)))
  rw [if_pos (by decide)]
  have hap : ∀ {A' : Around} {E' : Value → Shared → Prop} {Q' : Int × Int × Nat → Shared → Prop}, Q' ((items.size : Int) - 1, -1, items.size) s → wpAny (model prog w) A' (Builtin.Slice.sliceApplied (.ref sl) (pure (items.size : Int))) Q' E' s := fun {A' E' Q'} hq => by
    unfold Builtin.Slice.sliceApplied Builtin.Slice.sliceFields
    refine wpAny_bind (wpAny_bind (wpAny_field hos hds (x := .none) rfl (wpAny_bind (wpAny_field hos hds (x := .none) rfl (wpAny_bind (wpAny_field hos hds (x := st) rfl (wpAny_pure ?_)))))))
    refine wpAny_bind (slicePart_ ps ?_)
    show wpAny _ _ (if ((-1 : Int) == 0) = true then _ else _) _ _ s
    rw [if_neg (by decide)]
    refine wpAny_bind (slicePart_none (wpAny_bind (slicePart_none (wpAny_bind (wpAny_pure ?_)))))
    show wpAny _ _ (match Builtin.Slice.sliceAdjust none none (-1) (items.size : Int) with | (lo, hi) => pure (lo, (-1 : Int), Builtin.Slice.slicePlaces lo hi (-1))) _ _ s
    rw [(places_rev items.size).1]
    show wpAny _ _ (pure ((items.size : Int) - 1, (-1 : Int), Builtin.Slice.slicePlaces ((items.size : Int) - 1) (-1) (-1))) _ _ s
    rw [(places_rev items.size).2]
    exact wpAny_pure hq
  refine wpAny_bind (hap ?_)
  show wpAny _ _ (if (((items.size : Int) - 1) == 0 && (-1 : Int) == 1 && items.size == items.size) = true then _ else _) _ _ s
  rw [if_neg (by simp), pick_rev]
  first
    | exact wpAny_bind (m := Builtin.Tuple.tupleExact _) (wpAny_newObj_type (wpAny_pure ⟨_, rfl, wpAny_pure h⟩) hok)
    | exact wpAny_bind (m := Builtin.Tuple.tupleExact _) (wpAny_newObj_type (wpAny_bind (wpAny_pure (wpAny_pure ⟨_, rfl, wpAny_pure h⟩))) hok)
    | exact wpAny_bind (wpAny_bind (m := Builtin.Tuple.tupleExact _) (wpAny_newObj_type (wpAny_pure (wpAny_pure ⟨_, rfl, wpAny_pure h⟩)) hok))
    | exact wpAny_bind (wpAny_bind (m := Builtin.Tuple.tupleExact _) (wpAny_newObj_type (wpAny_pure ⟨_, rfl, wpAny_pure h⟩) hok))
end
section
variable {X : Cx} {e st : Expr} {te : TE} {ts : TO} {p2 pos : Pos}
def tRevT (te : TE) (ts : TO) : TE := fun σ H Q => te σ H fun x H1 => ts σ H1 fun o H2 => o = some (-1) ∧ ∃ a xs, x = .ref a ∧ tpO (H2 a) = some xs ∧ ∀ p, H2 p = none → Q (.ref p) (upd H2 p (.tup xs.reverse))
theorem vals_rev : ∀ {xs : List V} {us : List Value}, Vals xs us → Vals xs.reverse us.reverse
  | _, _, .nil => .nil
  | _, _, .cons r t => by
    rw [List.reverse_cons, List.reverse_cons]
    exact (vals_rev t).append (.cons r .nil)
theorem pe_revT (he : PE X e te) (hs : PO X (some st) ts) (hsb : ∀ v u, subscripted (.Slice none none (some st) p2) false v u = operate [v, u] (getItem v u) := by intro _ _; with_unfolding_all rfl) : PE X (.Subscript e (.Slice none none (some st) p2) pos) (tRevT te ts) := by
  refine ⟨fun pins s σ H Q I h => ?_⟩
  refine Subscript_ (thn (he.run pins s σ H _ I h) fun v s1 ⟨x, H1, I1, r1, q1⟩ => ?_)
  refine wpAny_Slice ?_
  rw [evalPart_none]
  refine wpAny_pure (wpAny_pure ?_)
  refine thn (hs.run pins s1 σ H1 _ I1 q1) fun vs s3 ⟨o, H3, I3, po, eo, a, xs, ex, hx, q3⟩ => ?_
  subst eo
  subst ex
  cases r1
  have I4 : Inv X pins σ H3 { s3 with heap := s3.heap.push { cls := .type "slice", data := .fields #[.none, .none, vs] } } := I3.kept (t' := s3.toks) fun b ob q => Heap.get?_push_of_some _ q
  obtain ⟨its, r, ht, hz⟩ := I4.tuple (show SqT X.K H3 a xs from .inl (rd_tpO hx))
  have hl : its.toArray.size = xs.length := by rw [List.size_toArray]; exact r.length.symm
  refine tail_any (ops := [.ref a, .ref s3.heap.objs.size]) ht.typeIs slot_tuple_getitem.lookup (getItem_tuple_rev (sl := s3.heap.objs.size) ht (Heap.IsSliceOf.new ..) po ?_ (by rw [hl]; exact hz)) (hsb _ _)
  have I5 := I4.laid (t' := s3.toks) (h' := (s3.heap.push { cls := .type "slice", data := .fields #[.none, .none, vs] }).push { cls := .type "tuple", data := .seq its.toArray.toList.reverse.toArray }) (o := .tup xs.reverse) (fun b ob q => Heap.get?_push_of_some _ q) (Nat.le_refl _)
    ⟨by rw [List.length_reverse]; exact hz, its.reverse, vals_rev r, ⟨_, by rw [Heap.get?_push_size _ rfl], rfl, 0, by simp⟩⟩
  exact ⟨.ref _, _, I5, rfl, q3 _ (I4.hok.fresh (Nat.le_refl _))⟩
end
end G7

set_option linter.all false
set_option Elab.async false
set_option maxRecDepth 100000
set_option maxHeartbeats 4000000
namespace G7
open PySem PySem.Spec PyProof.Rows L2
section
variable {X : Cx}
/-- t + u, neither empty -/
def rCatH : R2 := fun x y H Q => ∃ a b xs ys, x = .ref a ∧ y = .ref b ∧ tpO (H a) = some xs ∧ tpO (H b) = some ys ∧ xs.length + ys.length ≤ sizeLine ∧ xs ≠ [] ∧ ys ≠ [] ∧ ∀ p, H p = none → Q (.ref p) (upd H p (.tup (xs ++ ys)))
theorem op_catH : OpR X (binaryOp .Add) rCatH := opImp op_catA fun x y H Q ⟨a, b, xs, ys, e1, e2, h1, h2, hz, n1, n2, q⟩ =>
  ⟨a, b, xs, ys, e1, e2, .inl (rd_tpO h1), .inl (rd_tpO h2), hz, fun n => absurd n n1, fun _ n => absurd n n2, fun _ _ => q⟩
/-- l + m of lists -/
def rCatL : R2 := fun x y H Q => ∃ l b xs zs, x = .ref l ∧ y = .ref b ∧ H l = some (.lst xs) ∧ H b = some (.lst zs) ∧ xs.length + zs.length ≤ sizeLine ∧ ∀ p, H p = none → Q (.ref p) (upd H p (.lst (xs ++ zs)))
/-- x in a tuple of flat items -/
def rInT : R2 := fun x y H Q => ∃ p xs, y = .ref p ∧ tpO (H p) = some xs ∧ flatV x = true ∧ xs.all flatV = true ∧ Q (.bl (inV x xs)) H
theorem op_inT : OpR X (compareOp .In) rInT := opImp op_in_seq fun x y H Q ⟨p, xs, e, h, f1, f2, q⟩ => ⟨p, xs, e, .inr (.inl (rd_tpO h)), f1, f2, q⟩
/-- d != e of dicts: unlike lengths, or the same data at each key -/
def rNeDic (K : PySem.W.Frag) : R2 := fun x y H Q => ∃ a b ks ls, x = .ref a ∧ y = .ref b ∧ H a = some (.dK ks) ∧ H b = some (.dK ls) ∧ ks.length = ls.length ∧
  (∀ p ∈ ks, ∃ v d, valV ls p.1 = some v ∧ Dp K H p.2 d ∧ Dp K H v d ∧ SeqAt.shaped d = true) ∧ Q (.bl false) H
theorem hits_dp {A : Around} {pins : List (Addr × Obj)} {σ : L2.St} {H : Hp} {s : Shared} (I : Inv X pins σ H s) (hu : A.in1.units + 64 < cLine) {kvs : List (Key × V)} {vb : List (Key × Value)} (rb : KV kvs vb) {ks : List (Key × V)} {va : List (Key × Value)} (ra : KV ks va) :
    (∀ p ∈ ks, ∃ v d, valV kvs p.1 = some v ∧ Dp X.K H p.2 d ∧ Dp X.K H v d ∧ SeqAt.shaped d = true) → PySem.W.KeqHits A.in1 s vb va true := by
  unfold KV at ra
  induction ra with
  | nil => intro _; exact .nil
  | @cons p q ps qs h t ih =>
    intro hp
    obtain ⟨h1, h2⟩ := h
    obtain ⟨v0, d, e, d1, d2, sh⟩ := hp p List.mem_cons_self
    have rr : RelO (some v0) (valueAt vb p.1) := by rw [← e]; exact rb.val p.1
    obtain ⟨y, hy, ry⟩ := rr.some_of
    obtain ⟨k, v⟩ := q
    have h1' : p.1 = k := h1
    rw [h1'] at hy
    obtain ⟨as, r1⟩ := Dp.reads I d _ v d1 h2
    obtain ⟨bs, r2⟩ := Dp.reads I d _ y d2 ry
    have q := PySem.W.keq_at (A := A) r1 r2 sh sh hu
    rw [SeqAt.eqv_refl d (SeqAt.canLay_of_shaped sh)] at q
    show PySem.W.KeqHits A.in1 s vb ((k, v) :: qs) (true && true)
    exact .hit hy q (ih fun p' hm => hp p' (List.mem_cons_of_mem _ hm))
theorem op_ne_dicD (hu : X.A.in1.units + 64 < cLine) (hu0 : X.A.units < cLine) : OpR X (compareOp .NotEq) (rNeDic X.K) := by
  intro pins s σ H x y v u Q I rx ry h
  obtain ⟨a, b, ks, ls, rfl, rfl, ea, eb, hlen, hp, q⟩ := h
  obtain rfl : v = Value.ref a := rx
  obtain rfl : u = Value.ref b := ry
  obtain ⟨_, ya, va, ra, da⟩ := (show ObjOk X.prog X.w H s.heap a (.dK ks) from I.hok a _ ea)
  obtain ⟨_, yb, vb, rb, db⟩ := (show ObjOk X.prog X.w H s.heap b (.dK ls) from I.hok b _ eb)
  have hl : va.length = vb.length := by rw [← ra.length, ← rb.length]; exact hlen
  exact PySem.W.keq_ne (knd := mixKind X.prog X.w) (r := true) ya yb da db hu0 (fun _ => hits_dp I hu rb ra hp) (fin_bl I q (by simp [hl]))
theorem op_ne_dicDK (K : PySem.W.Frag) (hK : X.K = K) (hu : X.A.in1.units + 64 < cLine) (hu0 : X.A.units < cLine) : OpR X (compareOp .NotEq) (rNeDic K) := hK ▸ op_ne_dicD hu hu0
/-- .. or None against a flat value -/
def rNeDicO (K : PySem.W.Frag) : R2 := fun x y H Q => (x = .non ∧ y = .non ∧ Q (.bl false) H) ∨ rNeDic K x y H Q
theorem op_ne_dicO (hu : X.A.in1.units + 64 < cLine) (hu0 : X.A.units < cLine) : OpR X (compareOp .NotEq) (rNeDicO X.K) := OpR.or (opImp op_ne fun x y H Q ⟨e1, e2, q⟩ => by
    subst e1 e2
    exact ⟨rfl, q⟩) (op_ne_dicD hu hu0)
/-- sorted(d): keys all texts -/
def cSortD : List V → Hp → VK → Prop := fun xs H Q => ∃ (a : Addr) (kvs : List (Key × V)) (ks : List Str), xs = [.ref a] ∧ dkO (H a) = some kvs ∧ kvs.map (·.1) = ks.map Sum.inr ∧ ks.length < 64 ∧
    ∀ (ys : List Str) (p : Addr), ys.Perm ks → H p = none → Q (.ref p) (upd H p (.lst (ys.map V.str)))
theorem sorted_dic (hc : X.calm = true) : CallR X (.builtin "sorted") cSortD := callImp (call_sortedD hc) fun xs H Q ⟨a, kvs, ks, e, h, h2, h3, q⟩ => ⟨a, kvs, ks, e, rd_dkO h, h2, h3, fun ys p h1 _ => q ys p h1⟩
/-- max(xs), min(xs) of a list of ints -/
def cMaxL : List V → Hp → VK → Prop := fun vs H Q => ∃ (a : Addr) (ns : List Int), vs = [V.ref a] ∧ lsO (H a) = some (ns.map V.int) ∧ 0 < ns.length ∧ ∀ m, m ∈ ns → (∀ y, y ∈ ns → y ≤ m) → Q (.int m) H
def cMinL : List V → Hp → VK → Prop := fun vs H Q => ∃ (a : Addr) (ns : List Int), vs = [V.ref a] ∧ lsO (H a) = some (ns.map V.int) ∧ 0 < ns.length ∧ ∀ m, m ∈ ns → (∀ y, y ∈ ns → m ≤ y) → Q (.int m) H
theorem max_lst (hc : X.calm = true) : CallR X (.builtin "max") cMaxL := callImp (cr_max hc) fun vs H Q ⟨a, ns, e, h, q⟩ => ⟨a, ns, e, .inl (rd_lsO h), q⟩
theorem min_lst (hc : X.calm = true) : CallR X (.builtin "min") cMinL := callImp (cr_min hc) fun vs H Q ⟨a, ns, e, h, q⟩ => ⟨a, ns, e, .inl (rd_lsO h), q⟩
/-- a list of ints != [] -/
def rNeNilI : R2 := fun x y H Q => ∃ (p q : Addr) (ns : List Int), x = .ref p ∧ y = .ref q ∧ lsO (H p) = some (ns.map V.int) ∧ lsO (H q) = some [] ∧ Q (.bl (!ns.isEmpty)) H
theorem op_neNilI (hu : X.A.units + 64 < cLine) : OpR X (compareOp .NotEq) rNeNilI := opImp (op_neD hu) fun x y H Q ⟨p, q, ns, e1, e2, h1, h2, k⟩ => by
  refine ⟨.list (ns.map PyData.int), .list [], e1 ▸ .lst (.inl (rd_lsO h1)) (dpAll_ints X.K H ns), e2 ▸ .lst (.inl (rd_lsO h2)) .nil, ?_, rfl, ?_⟩
  · exact shaped_ints ns
  · cases ns with
    | nil => exact k
    | cons n r => exact k
end
/-! a list of texts, or of pairs of texts, against [] -/
theorem lay_strs : ∀ ns : List Str, (∀ s ∈ ns, PyData.strOk s = true) → PyData.canLayAll0 (ns.map PyData.str) = true
  | [], _ => by simp [PyData.canLayAll0]
  | n :: r, h => by
    have h1 := h n List.mem_cons_self
    simp [PyData.canLayAll0, PyData.canLay0, h1, lay_strs r fun s hs => h s (List.mem_cons_of_mem _ hs)]
theorem depth_strs : ∀ ns : List Str, PyData.depthAll (ns.map PyData.str) ≤ 1
  | [] => by simp [PyData.depthAll]
  | n :: r => by
    have h := depth_strs r
    simp only [List.map_cons, PyData.depthAll, PyData.depth]
    omega
theorem shaped_strs (ns : List Str) (h : ∀ s ∈ ns, PyData.strOk s = true) : SeqAt.shaped (.list (ns.map PyData.str)) = true := by
  have h1 := depth_strs ns
  have h2 : PyData.depth (.list (ns.map PyData.str)) ≤ 64 := by
    simp only [PyData.depth]
    omega
  unfold SeqAt.shaped
  rw [Bool.and_eq_true]
  exact ⟨by simp only [PyData.canLay0]; exact lay_strs ns h, decide_eq_true h2⟩
theorem dpAll_strs (K : PySem.W.Frag) (H : Hp) : ∀ ns : List Str, DpAll K H (ns.map V.str) (ns.map PyData.str)
  | [] => .nil
  | n :: r => .cons (.str n) (dpAll_strs K H r)
/-- (table, field) of some -/
abbrev Fd := Addr × Str × Str
structure RF (H : Hp) (a : Addr) (ps : List Fd) : Prop where
  at_ : H a = some (.lst (ps.map fun e => V.ref e.1))
  tups : ∀ e ∈ ps, H e.1 = some (.tup [.str e.2.1, .str e.2.2])
  oks : ∀ e ∈ ps, PyData.strOk e.2.1 = true ∧ PyData.strOk e.2.2 = true
def Fd.dat (e : Fd) : PyData := .tuple [.str e.2.1, .str e.2.2]
theorem RF.same {H H' : Hp} {a : Addr} {ps : List Fd} (R : RF H a ps) (k : Same H H') : RF H' a ps := ⟨k _ _ R.at_, fun e he => k _ _ (R.tups e he), R.oks⟩
theorem RF.keepB {H H' : Hp} {h l a : Addr} {ps : List Fd} (R : RF H a ps) (k : Keep [h, l] H H') (B : BoxB H h l) (n : a ∉ [h, l]) : RF H' a ps :=
  ⟨k _ _ n R.at_, fun e he => k _ _ (B.notin (R.tups e he) (by intro xs q; cases q)) (R.tups e he), R.oks⟩
theorem dpAll_fds {K : PySem.W.Frag} {H : Hp} : ∀ {ps : List Fd}, (∀ e ∈ ps, H e.1 = some (.tup [.str e.2.1, .str e.2.2])) → DpAll K H (ps.map fun e => V.ref e.1) (ps.map Fd.dat)
  | [], _ => .nil
  | e :: r, h => .cons (.tup (.inl (.inl (h e List.mem_cons_self))) (.cons (.str _) (.cons (.str _) .nil))) (dpAll_fds fun e he => h e (List.mem_cons_of_mem _ he))
theorem lay_fds : ∀ {ps : List Fd}, (∀ e ∈ ps, PyData.strOk e.2.1 = true ∧ PyData.strOk e.2.2 = true) → PyData.canLayAll0 (ps.map Fd.dat) = true
  | [], _ => by simp [PyData.canLayAll0]
  | e :: r, h => by
    have h1 := h e List.mem_cons_self
    simp [PyData.canLayAll0, PyData.canLay0, Fd.dat, h1, lay_fds fun e he => h e (List.mem_cons_of_mem _ he)]
theorem depth_fds : ∀ (ps : List Fd), PyData.depthAll (ps.map Fd.dat) ≤ 2
  | [] => by simp [PyData.depthAll]
  | e :: r => by
    have h := depth_fds r
    simp only [List.map_cons, PyData.depthAll, PyData.depth, Fd.dat]
    omega
theorem shaped_fds {ps : List Fd} (h : ∀ e ∈ ps, PyData.strOk e.2.1 = true ∧ PyData.strOk e.2.2 = true) : SeqAt.shaped (.list (ps.map Fd.dat)) = true := by
  have h1 := depth_fds ps
  have h2 : PyData.depth (.list (ps.map Fd.dat)) ≤ 64 := by
    simp only [PyData.depth]
    omega
  unfold SeqAt.shaped
  rw [Bool.and_eq_true]
  exact ⟨by simp only [PyData.canLay0]; exact lay_fds h, decide_eq_true h2⟩
theorem RF.eqNil {K : PySem.W.Frag} {H : Hp} {a q : Addr} {ps : List Fd} {Q : VK} (R : RF H a ps) (hq : H q = some (.lst [])) (k : Q (.bl ps.isEmpty) H) : rEqD K (.ref a) (.ref q) H Q := by
  refine ⟨.list (ps.map Fd.dat), .list [], .lst (.inl (.inl R.at_)) (dpAll_fds R.tups), .lst (.inl (.inl hq)) .nil, shaped_fds R.oks, rfl, ?_⟩
  cases ps with
  | nil => exact k
  | cons n r => exact k
theorem RF.neNil {K : PySem.W.Frag} {H : Hp} {a q : Addr} {ps : List Fd} {Q : VK} (R : RF H a ps) (hq : H q = some (.lst [])) (k : Q (.bl (!ps.isEmpty)) H) : rNeD K (.ref a) (.ref q) H Q := by
  refine ⟨.list (ps.map Fd.dat), .list [], .lst (.inl (.inl R.at_)) (dpAll_fds R.tups), .lst (.inl (.inl hq)) .nil, shaped_fds R.oks, rfl, ?_⟩
  cases ps with
  | nil => exact k
  | cons n r => exact k
end G7

set_option linter.all false
set_option Elab.async false
set_option maxRecDepth 100000
set_option maxHeartbeats 4000000
namespace G7
open PySem PySem.Spec PyProof.Rows L2
/-! ### TURNED, a dict of the module -/
def Wd.turn : Wd → Wd
  | .lt => .gt
  | .gt => .lt
  | .le => .ge
  | .ge => .le
  | c => c
def Wd.isLog : Wd → Bool
  | .and => true
  | .or => true
  | .not => true
  | _ => false
structure TabAt (K : PySem.W.Frag) (w : World) (d : Addr) : Prop where
  kd : ∃ es n, KDict K w d es n
  hit : ∀ c : Wd, c.isCmp = true → ∃ t, PySem.W.nsIn K d c.s = some (some (.str c.turn.s t))
  miss : ∀ c : Wd, c.isLog = true → PySem.W.nsIn K d c.s = some none
def rInTab (d : Addr) : R2 := fun x y H Q => ∃ c : Wd, x = .str c.s ∧ y = .ref d ∧ (c.isCmp || c.isLog) = true ∧ Q (.bl c.isCmp) H
def rIxTab (d : Addr) : R2 := fun x y H Q => ∃ c : Wd, x = .ref d ∧ y = .str c.s ∧ c.isCmp = true ∧ Q (.str c.turn.s) H
section
variable {X : Cx} {d : Addr}
theorem op_inTab (D : TabAt X.K X.w d) : OpR X (compareOp .In) (rInTab d) := by
  obtain ⟨es, n, kd⟩ := D.kd
  refine opImp (op_in_kd kd) fun x y H Q ⟨c, e1, e2, e3, q⟩ => ?_
  cases hc : c.isCmp with
  | true =>
    obtain ⟨t, ht⟩ := D.hit c hc
    exact ⟨_, _, e1, e2, ht, by rw [hc] at q; exact q⟩
  | false =>
    rw [hc, Bool.false_or] at e3
    exact ⟨_, _, e1, e2, D.miss c e3, by rw [hc] at q; exact q⟩
theorem ix_tab (D : TabAt X.K X.w d) : IxR X (rIxTab d) := by
  obtain ⟨es, n, kd⟩ := D.kd
  refine ixImp ix_kdict fun x y H Q ⟨c, e1, e2, e3, q⟩ => ?_
  obtain ⟨t, ht⟩ := D.hit c e3
  exact ⟨_, _, .str c.turn.s, e1, e2, ⟨es, n, _, kd.at_, kd.lit, ht, ⟨t, rfl⟩⟩, q⟩
end
theorem tab_mk {K : PySem.W.Frag} {w : World} {d : Addr} {es : Array DictEntry} {n : Nat} (h1 : K.lookup d = some ⟨.type "dict", none, .dict es n, #[]⟩) (h2 : PySem.W.KeysLit w.params es.toList) (h3 : (d == sysModules) = false)
    {t1 t2 t3 t4 t5 : Tok} (k1 : PySem.W.nsIn K d "=" = some (some (.str "=" t1))) (k2 : PySem.W.nsIn K d "<" = some (some (.str ">" t2))) (k3 : PySem.W.nsIn K d ">" = some (some (.str "<" t3)))
    (k4 : PySem.W.nsIn K d "<=" = some (some (.str ">=" t4))) (k5 : PySem.W.nsIn K d ">=" = some (some (.str "<=" t5)))
    (m1 : PySem.W.nsIn K d "and" = some none) (m2 : PySem.W.nsIn K d "or" = some none) (m3 : PySem.W.nsIn K d "not" = some none) : TabAt K w d :=
  ⟨⟨es, n, h1, h2, h3⟩, fun c hc => by cases c <;> first | exact ⟨_, k1⟩ | exact ⟨_, k2⟩ | exact ⟨_, k3⟩ | exact ⟨_, k4⟩ | exact ⟨_, k5⟩ | (cases hc),
    fun c hc => by cases c <;> first | exact m1 | exact m2 | exact m3 | (cases hc)⟩
/-! ### trees: the first word, how great -/
def Tm.head : Tm → Wd
  | .num _ => .num
  | .fld _ _ => .field
  | .op o _ _ => o
def Tm.lim : Tm → Prop
  | .num n => -1000 ≤ n ∧ n ≤ 1000
  | .fld _ _ => True
  | .op _ a b => a.lim ∧ b.lim
def Cd.lim : Cd → Prop
  | .cmp _ a b => a.lim ∧ b.lim ∧ a.deep ≤ 8 ∧ b.deep ≤ 8
  | .neg c => c.lim
  | .con _ a b => a.lim ∧ b.lim
/-- how many comparisons -/
def Cd.leaves : Cd → Nat
  | .cmp _ _ _ => 1
  | .neg c => c.leaves
  | .con _ a b => a.leaves + b.leaves
/-- how deep and, or, not stand -/
def Cd.high : Cd → Nat
  | .cmp _ _ _ => 0
  | .neg c => c.high + 1
  | .con _ a b => max a.high b.high + 1
def Cd.head : Cd → Wd
  | .cmp c _ _ => c
  | .neg _ => .not
  | .con o _ _ => o
structure Cd.Good (c : Cd) (d m : Nat) : Prop where
  ok : c.ok = true
  lim : c.lim
  high : c.high ≤ d
  few : c.leaves ≤ m
def CoGood : Option Cd → Nat → Nat → Prop
  | none, _, _ => True
  | some c, d, m => c.Good d m
def partsC : Cd → List Cd
  | .con .and a b => partsC a ++ partsC b
  | c => [c]
def partsO : Option Cd → List Cd
  | none => []
  | some c => partsC c
def Cd.isCmpC : Cd → Bool
  | .cmp _ _ _ => true
  | _ => false
theorem partsC_len : ∀ c : Cd, (partsC c).length ≤ c.leaves
  | .cmp _ _ _ => by simp [partsC, Cd.leaves]
  | .neg c => by
    have : ∀ c : Cd, 1 ≤ c.leaves := by
      intro c
      induction c with
      | cmp => simp [Cd.leaves]
      | neg c ih => simpa [Cd.leaves] using ih
      | con o a b i1 i2 => simp [Cd.leaves]; omega
    simp [partsC, Cd.leaves, this c]
  | .con o a b => by
    have h1 := partsC_len a
    have h2 := partsC_len b
    have : ∀ c : Cd, 1 ≤ c.leaves := by
      intro c
      induction c with
      | cmp => simp [Cd.leaves]
      | neg c ih => simpa [Cd.leaves] using ih
      | con o a b i1 i2 => simp [Cd.leaves]; omega
    have l1 := this a
    cases o <;> simp [partsC, Cd.leaves] <;> omega
/-- each part is a comparison, an or, a not -/
def Cd.part : Cd → Prop
  | .cmp c a b => c.isCmp = true ∧ a.ok = true ∧ b.ok = true ∧ a.lim ∧ b.lim ∧ a.deep ≤ 8 ∧ b.deep ≤ 8
  | .neg _ => True
  | .con o _ _ => o = .or
theorem partsC_part : ∀ c : Cd, c.ok = true → c.lim → ∀ p ∈ partsC c, p.part
  | .cmp c a b, h, l => by
    intro p hp
    cases List.mem_singleton.mp hp
    simp only [Cd.ok, Bool.and_eq_true] at h
    exact ⟨h.1.1, h.1.2, h.2, l⟩
  | .neg c, h, l => by
    intro p hp
    cases List.mem_singleton.mp hp
    trivial
  | .con o a b, h, l => by
    simp only [Cd.ok, Bool.and_eq_true] at h
    intro p hp
    cases o with
    | and =>
      rcases List.mem_append.mp hp with hp | hp
      · exact partsC_part a h.1.2 l.1 p hp
      · exact partsC_part b h.2 l.2 p hp
    | or =>
      cases List.mem_singleton.mp hp
      rfl
    | _ => exact absurd h.1.1 (by simp [Wd.isCon])
theorem partsO_part : ∀ {c : Option Cd} {d m : Nat}, CoGood c d m → ∀ p ∈ partsO c, p.part
  | none, _, _, _, p, hp => absurd hp (by simp [partsO])
  | some c, _, _, g, p, hp => partsC_part c g.ok g.lim p hp
theorem partsO_len : ∀ {c : Option Cd} {d m : Nat}, CoGood c d m → (partsO c).length ≤ m
  | none, _, _, _ => Nat.zero_le _
  | some c, _, _, g => Nat.le_trans (partsC_len c) g.few
/-- a list of conditions at a -/
structure RL (H : Hp) (a : Addr) (es : List (V × Cd)) : Prop where
  at_ : H a = some (.lst (es.map (·.1)))
  each : ∀ e ∈ es, RC H e.1 e.2
/-! ### spans -/
abbrev OI := Option Int
def tru (c : Wd) (a b : Int) : Bool := match c with
  | .eq => decide (a = b)
  | .lt => decide (a < b)
  | .gt => decide (b < a)
  | .le => decide (a ≤ b)
  | .ge => decide (b ≤ a)
  | _ => false
def spanOf (c : Wd) (n : Int) : OI × OI := match c with
  | .eq => (some n, some n)
  | .lt => (none, some (n - 1))
  | .le => (none, some n)
  | .gt => (some (n + 1), none)
  | .ge => (some n, none)
  | _ => (none, none)
def maxO : OI → OI → OI
  | none, o => o
  | some a, none => some a
  | some a, some b => some (max a b)
def minO : OI → OI → OI
  | none, o => o
  | some a, none => some a
  | some a, some b => some (min a b)
def narrow (s t : OI × OI) : OI × OI := (maxO s.1 t.1, minO s.2 t.2)
def emptyS (s : OI × OI) : Bool := match s with
  | (some a, some b) => decide (b < a)
  | _ => false
abbrev Sp3 := Str × OI × OI
def lookS (es : List Sp3) (f : Str) : OI × OI := ((es.find? fun e => decide (e.1 = f)).map (·.2)).getD (none, none)
def putS (es : List Sp3) (f : Str) (s : OI × OI) : List Sp3 := if (es.any fun e => decide (e.1 = f)) = true then es.map (fun e => if e.1 = f then (e.1, s) else e) else es ++ [(f, s)]
/-- one comparison, its field on the left -/
def step2 (t : Str) (es : List Sp3) (c : Wd) (x y : Tm) : List Sp3 := match x, y with
  | .fld t' f, .num a => if t' = t then putS es f (narrow (lookS es f) (spanOf c a)) else es
  | _, _ => es
def truT (c : Wd) (x y : Tm) : Bool := match x, y with
  | .num a, .num b => tru c a b
  | _, _ => true
/-- none where numbers compare falsely -/
def stepC (t : Str) (es : List Sp3) : Cd → Option (List Sp3)
  | .cmp c x y => if truT c x y = true then some (if x.head = .num then step2 t es c.turn y x else step2 t es c x y) else none
  | _ => some es
def foldC (t : Str) : List Sp3 → List Cd → Option (List Sp3)
  | es, [] => some es
  | es, c :: r => match stepC t es c with
    | none => none
    | some es' => foldC t es' r
def boundsM (t : Str) (co : Option Cd) : Option (List Sp3) := match foldC t [] (partsO co) with
  | none => none
  | some es => if es.any fun e => emptyS e.2 then none else some es
end G7
namespace G7
open PySem PySem.Spec PyProof.Rows L2
def oi : OI → V
  | none => .non
  | some i => .int i
theorem oi_n : oi none = .non := rfl
theorem oi_s {i : Int} : oi (some i) = .int i := rfl
def knownC : Cd → Bool
  | .cmp _ a b => decide (a.head = .num) && decide (b.head = .num)
  | _ => false
theorem RT.headed {H : Hp} : ∀ {t : Tm} {v : V}, RT H v t → ∃ a r, v = .ref a ∧ H a = some (.tup (.str t.head.s :: r))
  | .num n, _, ⟨a, e, h⟩ => ⟨a, _, e, h⟩
  | .fld t f, _, ⟨a, e, h⟩ => ⟨a, _, e, h⟩
  | .op o x y, _, ⟨a, u, w, e, h, _, _⟩ => ⟨a, _, e, h⟩
theorem RC.headed {H : Hp} : ∀ {t : Cd} {v : V}, RC H v t → ∃ a r, v = .ref a ∧ H a = some (.tup (.str t.head.s :: r))
  | .cmp c x y, _, ⟨a, u, w, e, h, _, _⟩ => ⟨a, _, e, h⟩
  | .neg c, _, ⟨a, u, e, h, _⟩ => ⟨a, _, e, h⟩
  | .con o x y, _, ⟨a, u, w, e, h, _, _⟩ => ⟨a, _, e, h⟩
end G7
namespace G7
open PySem PySem.Spec PyProof.Rows L2
theorem Wd.beq_s (a b : Wd) : (a.s == b.s) = decide (a = b) := by
  have h := Wd.s_inj a b
  by_cases e : a = b
  · rw [decide_eq_true e, e]
    exact beq_self_eq_true _
  · rw [decide_eq_false e]
    exact beq_false_of_ne fun q => e (h.mp q)
theorem sz0 : (0 ≤ sizeLine) = True := eq_true (Nat.zero_le _)
theorem sz1 : (1 ≤ sizeLine) = True := eq_true (szl (by decide))
theorem sz2 : (2 ≤ sizeLine) = True := eq_true (szl (by decide))
theorem sz3 : (3 ≤ sizeLine) = True := eq_true (szl (by decide))
theorem sz4 : (4 ≤ sizeLine) = True := eq_true (szl (by decide))
theorem sz5 : (5 ≤ sizeLine) = True := eq_true (szl (by decide))
theorem sz6 : (6 ≤ sizeLine) = True := eq_true (szl (by decide))
theorem isc_num : Wd.num.isCmp = false := rfl
theorem isc_field : Wd.field.isCmp = false := rfl
theorem isc_eq : Wd.eq.isCmp = true := rfl
theorem isc_lt : Wd.lt.isCmp = true := rfl
theorem isc_gt : Wd.gt.isCmp = true := rfl
theorem isc_le : Wd.le.isCmp = true := rfl
theorem isc_ge : Wd.ge.isCmp = true := rfl
theorem isc_and : Wd.and.isCmp = false := rfl
theorem isc_or : Wd.or.isCmp = false := rfl
theorem isc_not : Wd.not.isCmp = false := rfl
theorem isl_and : Wd.and.isLog = true := rfl
theorem isl_or : Wd.or.isLog = true := rfl
theorem isl_not : Wd.not.isLog = true := rfl
end G7
namespace G7
open PySem PySem.Spec PyProof.Rows L2
def lcB (J : It) (g : TG) (tt : TT) (te : TE) (vs : List Nat) (σ : L2.St) (H1 : Hp) (Q : VK) : Prop := tLc (fun _ H R => R J H) g tt te vs σ H1 Q
def forB (J : It) (g : TG) (tb : TS) (D : Ends) (σ : L2.St) (H1 : Hp) : Prop := tFor (fun _ H R => R J H) g tb D σ H1
theorem tLc_eq {wi : TI} {g : TG} {tt : TT} {te : TE} {vs : List Nat} {σ : L2.St} {H : Hp} {Q : VK} : tLc wi g tt te vs σ H Q = wi σ H fun J H1 => lcB J g tt te vs σ H1 Q := rfl
theorem tFor_eq {wi : TI} {g : TG} {tb : TS} {D : Ends} {σ : L2.St} {H : Hp} : tFor wi g tb D σ H = wi σ H fun J H1 => forB J g tb D σ H1 := rfl
theorem lcB_it {J : It} {g : TG} {tt : TT} {te : TE} {vs : List Nat} {σ : L2.St} {H1 : Hp} {Q : VK}
    (h : ∀ D, H1 D = none → ∃ W : Nat → Nat → Hp → Prop, (∃ m, W 0 m (upd H1 D (.lst []))) ∧ ∀ i m H, W i m H →
  (J.stop i H ∧ Q (.ref D) H) ∨ (J.go i H ∧ ∃ Nx : Hp → Prop, (∀ H', Nx H' → ∃ m', m' < m ∧ W (i + 1) m' H') ∧ ∀ x H', J.yld i H x H' → g x (wipe σ vs) H' fun σ2 H2 => wipe σ2 vs = wipe σ vs ∧ tt σ2 H2 fun b H3 =>
    if b = true then te σ2 H3 fun y H4 => ∃ acc, H4 D = some (.lst acc) ∧ acc.length < sizeLine ∧ Nx (upd H4 D (.lst (acc ++ [y]))) else Nx H3)) : lcB J g tt te vs σ H1 Q := h
theorem forB_it {J : It} {g : TG} {tb : TS} {D : Ends} {σ : L2.St} {H : Hp} (h : ∃ W : Nat → Nat → L2.St → Hp → Prop, (∃ m, W 0 m σ H) ∧ ∀ i m σ H, W i m σ H →
  (J.stop i H ∧ D.nx σ H) ∨ (J.go i H ∧ ∃ N : L2.St → Hp → Prop, (∀ σ' H', N σ' H' → ∃ m', m' < m ∧ W (i + 1) m' σ' H') ∧ ∀ x H', J.yld i H x H' → g x σ H' fun σ2 H2 => tb { D with nx := N, ct := N, bk := D.nx } σ2 H2)) : forB J g tb D σ H := h
/-- what stands in both lists of ends -/
def somes : List OI → List Int
  | [] => []
  | none :: r => somes r
  | some a :: r => a :: somes r
theorem somes_append : ∀ a b : List OI, somes (a ++ b) = somes a ++ somes b
  | [], b => rfl
  | none :: r, b => somes_append r b
  | some a :: r, b => by
    show a :: somes (r ++ b) = a :: (somes r ++ somes b)
    rw [somes_append r b]
end G7

set_option linter.all false
set_option Elab.async false
set_option maxRecDepth 100000
set_option maxHeartbeats 4000000
namespace G7
open PySem PySem.Spec PyProof.Rows L2
/-! ### dicts of spans -/
abbrev En := Str × Addr × OI × OI
def ent (e : En) : Key × V := (.inr e.1, .ref e.2.1)
def dr (e : En) : Sp3 := (e.1, e.2.2)
abbrev RowG := OI × OI → List V
def gO : RowG := fun s => [oi s.1, oi s.2]
def loI : OI → Int
  | none => -1000000000
  | some a => a
def hiI : OI → Int
  | none => 1000000000
  | some a => a
def gI : RowG := fun s => [.int (loI s.1), .int (hiI s.2)]
structure DBg (g : RowG) (H : Hp) (d : Addr) (es : List En) : Prop where
  at_ : H d = some (.dK (es.map ent))
  tups : ∀ e ∈ es, H e.2.1 = some (.tup (g e.2.2))
  oks : ∀ e ∈ es, PyData.strOk e.1 = true
  nd : (es.map (·.1)).Nodup
theorem DBg.same {g : RowG} {H H' : Hp} {d : Addr} {es : List En} (b : DBg g H d es) (k : Same H H') : DBg g H' d es := ⟨k _ _ b.at_, fun e he => k _ _ (b.tups e he), b.oks, b.nd⟩
theorem look_ent : ∀ (es : List En) (f : Str), (valV (es.map ent) (Sum.inr f : Key) = none ∧ lookS (es.map dr) f = (none, none)) ∨ ∃ e ∈ es, valV (es.map ent) (Sum.inr f : Key) = some (.ref e.2.1) ∧ lookS (es.map dr) f = e.2.2 ∧ e.1 = f
  | [], f => .inl ⟨rfl, rfl⟩
  | e :: r, f => by
    by_cases h : e.1 = f
    · refine .inr ⟨e, List.mem_cons_self, valV_pos (congrArg Sum.inr h), ?_, h⟩
      unfold lookS
      rw [List.map_cons, List.find?_cons, show decide ((dr e).1 = f) = true from decide_eq_true h]
      rfl
    · have e1 : valV ((e :: r).map ent) (Sum.inr f : Key) = valV (r.map ent) (Sum.inr f : Key) := valV_neg fun q => h (Sum.inr.inj q)
      have e2 : lookS ((e :: r).map dr) f = lookS (r.map dr) f := by
        unfold lookS
        rw [List.map_cons, List.find?_cons, show decide ((dr e).1 = f) = false from decide_eq_false h]
      rw [e1, e2]
      rcases look_ent r f with q | ⟨e', h1, h2⟩
      · exact .inl q
      · exact .inr ⟨e', List.mem_cons_of_mem _ h1, h2⟩
def putE (es : List En) (f : Str) (p : Addr) (s : OI × OI) : List En := if (es.any fun e => decide (e.1 = f)) = true then es.map (fun e => if e.1 = f then (e.1, p, s) else e) else es ++ [(f, p, s)]
theorem any_ent (es : List En) (f : Str) : ((es.map ent).any fun kv => decide (kv.1 = (Sum.inr f : Key))) = es.any fun e => decide (e.1 = f) := by
  rw [List.any_map]
  congr 1
  funext e
  show decide ((Sum.inr e.1 : Key) = Sum.inr f) = decide (e.1 = f)
  exact decide_eq_decide.mpr ⟨Sum.inr.inj, congrArg _⟩
theorem any_dr (es : List En) (f : Str) : ((es.map dr).any fun e => decide (e.1 = f)) = es.any fun e => decide (e.1 = f) := by
  rw [List.any_map]
  rfl
theorem putE_ent (es : List En) (f : Str) (p : Addr) (s : OI × OI) : putK (es.map ent) (Sum.inr f : Key) (.ref p) = (putE es f p s).map ent := by
  unfold putK putE
  rw [any_ent]
  by_cases h : (es.any fun e => decide (e.1 = f)) = true
  · rw [if_pos h, if_pos h, List.map_map, List.map_map]
    congr 1
    funext e
    show (if (Sum.inr e.1 : Key) = Sum.inr f then ((Sum.inr e.1 : Key), V.ref p) else ent e) = ent (if e.1 = f then (e.1, p, s) else e)
    by_cases q : e.1 = f
    · rw [if_pos q, if_pos (congrArg _ q)]
      rfl
    · rw [if_neg q, if_neg fun z => q (Sum.inr.inj z)]
  · rw [if_neg h, if_neg h, List.map_append]
    rfl
theorem putE_dr (es : List En) (f : Str) (p : Addr) (s : OI × OI) : (putE es f p s).map dr = putS (es.map dr) f s := by
  unfold putS putE
  rw [any_dr]
  by_cases h : (es.any fun e => decide (e.1 = f)) = true
  · rw [if_pos h, if_pos h, List.map_map, List.map_map]
    congr 1
    funext e
    show dr (if e.1 = f then (e.1, p, s) else e) = (if e.1 = f then (e.1, s) else dr e)
    by_cases q : e.1 = f
    · rw [if_pos q, if_pos q]
      rfl
    · rw [if_neg q, if_neg q]
  · rw [if_neg h, if_neg h, List.map_append]
    rfl
theorem putE_len (es : List En) (f : Str) (p : Addr) (s : OI × OI) : (putE es f p s).length ≤ es.length + 1 := by
  unfold putE
  split
  · rw [List.length_map]; omega
  · rw [List.length_append]; exact Nat.le_refl _
theorem putE_mem {es : List En} {f : Str} {p : Addr} {s : OI × OI} {e : En} (h : e ∈ putE es f p s) : e ∈ es ∨ (e.1 = f ∧ e.2.1 = p ∧ e.2.2 = s) := by
  unfold putE at h
  split at h
  · obtain ⟨e', h1, rfl⟩ := List.mem_map.mp h
    by_cases q : e'.1 = f
    · rw [if_pos q]
      exact .inr ⟨q, rfl, rfl⟩
    · rw [if_neg q]
      exact .inl h1
  · rcases List.mem_append.mp h with h | h
    · exact .inl h
    · cases List.mem_singleton.mp h
      exact .inr ⟨rfl, rfl, rfl⟩
theorem putE_nd {es : List En} {f : Str} {p : Addr} {s : OI × OI} (h : (es.map (·.1)).Nodup) : ((putE es f p s).map (·.1)).Nodup := by
  unfold putE
  split
  · have e : (es.map fun e => if e.1 = f then (e.1, p, s) else e).map (·.1) = es.map (·.1) := by
      rw [List.map_map]
      congr 1
      funext e
      show (if e.1 = f then ((e.1, p, s) : En) else e).1 = e.1
      split <;> rfl
    rw [e]
    exact h
  · rename_i q
    rw [List.map_append, List.nodup_append]
    refine ⟨h, by simp, fun a ha b hb => ?_⟩
    cases List.mem_singleton.mp hb
    rintro rfl
    obtain ⟨e, he, h2⟩ := List.mem_map.mp ha
    exact q (List.any_eq_true.mpr ⟨e, he, decide_eq_true h2⟩)
theorem DBg.put {g : RowG} {H H' : Hp} {d p : Addr} {es : List En} {f : Str} {s : OI × OI} (D : DBg g H d es) (k : Same H H') (hp : H' p = some (.tup (g s))) (hf : PyData.strOk f = true) :
    DBg g (upd H' d (.dK (putK (es.map ent) (Sum.inr f : Key) (.ref p)))) d (putE es f p s) := by
  have D' := D.same k
  have npd : p ≠ d := ne_of hp D'.at_ (by intro z; cases z)
  refine ⟨by rw [upd_same, putE_ent es f p s], fun e he => ?_, fun e he => ?_, putE_nd D.nd⟩
  · rcases putE_mem he with h | ⟨h1, h2, h3⟩
    · have t := D'.tups e h
      rw [upd_ne (ne_of t D'.at_ (by intro z; cases z))]
      exact t
    · rw [h2, upd_ne npd, h3]
      exact hp
  · rcases putE_mem he with h | ⟨h1, h2, h3⟩
    · exact D.oks e h
    · rw [h1]; exact hf
/-! ### numbers within the law's stand-ins -/
def okS (s : OI × OI) : Prop := (∀ a, s.1 = some a → -1001 ≤ a ∧ a ≤ 1001) ∧ ∀ a, s.2 = some a → -1001 ≤ a ∧ a ≤ 1001
theorem okS_span {c : Wd} {n : Int} (h : -1000 ≤ n ∧ n ≤ 1000) : okS (spanOf c n) := by
  cases c <;> (refine ⟨fun a e => ?_, fun a e => ?_⟩ <;> simp only [spanOf, Option.some.injEq, reduceCtorEq] at e <;> omega)
theorem okS_narrow {s t : OI × OI} (h1 : okS s) (h2 : okS t) : okS (narrow s t) := by
  obtain ⟨s1, s2⟩ := s
  obtain ⟨t1, t2⟩ := t
  refine ⟨fun a e => ?_, fun a e => ?_⟩
  · cases s1 with
    | none => exact h2.1 a e
    | some x =>
      cases t1 with
      | none => exact h1.1 a e
      | some y =>
        have hx := h1.1 x rfl
        have hy := h2.1 y rfl
        have e := Option.some.inj e
        omega
  · cases s2 with
    | none => exact h2.2 a e
    | some x =>
      cases t2 with
      | none => exact h1.2 a e
      | some y =>
        have hx := h1.2 x rfl
        have hy := h2.2 y rfl
        have e := Option.some.inj e
        omega
def pick5 (c : Wd) (a1 a2 a3 a4 a5 : V) : V := match c with
  | .eq => a1
  | .lt => a2
  | .gt => a3
  | .le => a4
  | .ge => a5
  | _ => .non
theorem val5 (c : Wd) (h : c.isCmp = true) (a1 a2 a3 a4 a5 : V) : valV (mergeK [] [((Sum.inr Wd.eq.s : Key), a1), (Sum.inr Wd.lt.s, a2), (Sum.inr Wd.gt.s, a3), (Sum.inr Wd.le.s, a4), (Sum.inr Wd.ge.s, a5)]) (Sum.inr c.s : Key) = some (pick5 c a1 a2 a3 a4 a5) := by
  cases c <;> first | (cases h; done) | (with_unfolding_all rfl)
/-! ### the first two of a term -/
def isF (t : Str) : Tm → Bool
  | .fld t' _ => decide (t' = t)
  | _ => false
theorem sh2 {a b : PyData} (h1 : a.canLay0 = true) (h2 : b.canLay0 = true) (d1 : a.depth ≤ 8) (d2 : b.depth ≤ 8) : SeqAt.shaped (.tuple [a, b]) = true := by
  unfold SeqAt.shaped
  rw [Bool.and_eq_true]
  refine ⟨by simp [PyData.canLay0, PyData.canLayAll0, h1, h2], decide_eq_true ?_⟩
  simp only [PyData.depth, PyData.depthAll]
  omega
theorem shS {s : Str} (h : PyData.strOk s = true) : (PyData.str s).canLay0 = true := by simp [PyData.canLay0, h]
theorem dS (s : Str) : (PyData.str s).depth ≤ 8 := by simp [PyData.depth]
def rSlX : V → Option Int → Option Int → Hp → VK → Prop := rSlF
theorem sl_tupX {X : Cx} : SlR X rSlX := sl_tupF
theorem sl_eqF {K : PySem.W.Frag} {H : Hp} {v : V} {x : Tm} {t : Str} {Q : VK} (R : RT H v x) (ok : x.ok = true) (dp : x.deep ≤ 8) (ht : PyData.strOk t = true) (k : ∀ H', Same H H' → Q (.bl (isF t x)) H') :
    rSlX v none (some 2) H fun y H1 => ∀ q, H1 q = none → rEqD K y (.ref q) (upd H1 q (.tup [.str Wd.field.s, .str t])) Q := by
  have two : HT.sIx 2 2 (some 2) = 2 := HT.sIx_nat 2 2 2
  have thr : HT.sIx 3 3 (some 2) = 2 := HT.sIx_nat 3 3 2
  have shq : SeqAt.shaped (.tuple [.str Wd.field.s, .str t]) = true := sh2 (shS (Wd.strOk _)) (shS ht) (dS _) (dS _)
  have nofield : ∀ (c : Wd) (X : PyData), c ≠ .field → PyData.eqv (.tuple [.str c.s, X]) (.tuple [.str Wd.field.s, .str t]) = false := fun c X hc => by
    simp only [PyData.eqv, PyData.eqvAll, Wd.beq_s, decide_eq_false hc, Bool.false_and]
  cases x with
  | num n =>
    obtain ⟨a, rfl, h⟩ := R
    refine ⟨a, [.str Wd.num.s, .int n], rfl, by rw [h]; rfl, fun _ q hq => ?_, fun nw => absurd (show HT.sIx 2 0 none = 0 ∧ HT.sIx 2 2 (some 2) = 2 from ⟨HT.sIx_none _ _, two⟩) nw⟩
    refine ⟨.tuple [.str Wd.num.s, .int n], .tuple [.str Wd.field.s, .str t], .tup (.inl (.inl (same_new hq _ _ h))) (.cons (.str _) (.cons (.int _) .nil)), .tup (.inl (.inl upd_same)) (.cons (.str _) (.cons (.str _) .nil)),
      sh2 (shS (Wd.strOk _)) (by simp [PyData.canLay0]) (dS _) (by simp [PyData.depth]), shq, ?_⟩
    rw [nofield _ _ (by decide)]
    exact k _ (same_new hq)
  | fld t' f =>
    simp only [Tm.ok, Bool.and_eq_true] at ok
    obtain ⟨a, rfl, h⟩ := R
    refine ⟨a, _, rfl, by rw [h]; rfl, fun hw => absurd hw.2 (by show ¬ HT.sIx 3 3 (some 2) = 3; rw [thr]; decide), fun _ p o hp _ _ q hq => ?_⟩
    have ec : cutV [V.str Wd.field.s, V.str t', V.str f] none (some 2) = [V.str Wd.field.s, V.str t'] := by
      unfold cutV
      rw [HT.sIx_none]
      show List.take (HT.sIx 3 3 (some 2) - 0) [V.str Wd.field.s, V.str t', V.str f] = _
      rw [thr]
      rfl
    refine ⟨.tuple [.str Wd.field.s, .str t'], .tuple [.str Wd.field.s, .str t], .tup (.inl (.inr ⟨o, same_new hq _ _ (by rw [upd_same, ec])⟩)) (.cons (.str _) (.cons (.str _) .nil)), .tup (.inl (.inl upd_same)) (.cons (.str _) (.cons (.str _) .nil)),
      sh2 (shS (Wd.strOk _)) (shS ok.1) (dS _) (dS _), shq, ?_⟩
    have e : PyData.eqv (.tuple [.str Wd.field.s, .str t']) (.tuple [.str Wd.field.s, .str t]) = decide (t' = t) := by
      simp only [PyData.eqv, PyData.eqvAll, Bool.and_true, beq_self_eq_true, Bool.true_and]
      by_cases z : t' = t
      · rw [z, decide_eq_true rfl]; exact beq_self_eq_true _
      · rw [decide_eq_false z]; exact beq_false_of_ne z
    rw [e]
    exact k _ ((same_new hp).trans (same_new hq))
  | op c x y =>
    have okk := ok
    simp only [Tm.ok, Bool.and_eq_true] at ok
    obtain ⟨a, u, w, rfl, h, hx, hy⟩ := R
    refine ⟨a, _, rfl, by rw [h]; rfl, fun hw => absurd hw.2 (by show ¬ HT.sIx 3 3 (some 2) = 3; rw [thr]; decide), fun _ p o hp _ _ q hq => ?_⟩
    have ec : cutV [V.str c.s, u, w] none (some 2) = [V.str c.s, u] := by
      unfold cutV
      rw [HT.sIx_none]
      show List.take (HT.sIx 3 3 (some 2) - 0) [V.str c.s, u, w] = _
      rw [thr]
      rfl
    have dx := Tm.depth x
    have dd : x.deep ≤ 8 := by simp only [Tm.deep] at dp; omega
    refine ⟨.tuple [.str c.s, x.enc], .tuple [.str Wd.field.s, .str t], .tup (.inl (.inr ⟨o, same_new hq _ _ (by rw [upd_same, ec])⟩)) (.cons (.str _) (.cons ((hx.tups (TupS.ofSame ((same_new hp).trans (same_new hq)))).dp) .nil)), .tup (.inl (.inl upd_same)) (.cons (.str _) (.cons (.str _) .nil)),
      sh2 (shS (Wd.strOk _)) (Tm.lay x ok.1.2) (dS _) (by omega), shq, ?_⟩
    rw [nofield _ _ (by rintro rfl; exact absurd ok.1.1 (by decide))]
    exact k _ ((same_new hp).trans (same_new hq))
theorem foldC_append (t : Str) : ∀ (es : List Sp3) (a b : List Cd), foldC t es (a ++ b) = match foldC t es a with
    | none => none
    | some e => foldC t e b
  | es, [], b => rfl
  | es, c :: r, b => by
    show (match stepC t es c with | none => none | some es' => foldC t es' (r ++ b)) = match (match stepC t es c with | none => none | some es' => foldC t es' r) with | none => none | some e => foldC t e b
    cases stepC t es c with
    | none => rfl
    | some e => exact foldC_append t e r b
theorem foldC_one {t : Str} {es : List Sp3} {c : Cd} : foldC t es [c] = stepC t es c := by
  show (match stepC t es c with | none => none | some es' => foldC t es' []) = stepC t es c
  cases stepC t es c <;> rfl
theorem foldC_take {t : Str} {l : List Cd} {i : Nat} {c : Cd} {es : List Sp3} (h : l[i]? = some c) (f : foldC t [] (l.take i) = some es) : foldC t [] (l.take (i + 1)) = stepC t es c := by
  rw [List.take_add_one, h, foldC_append, f]
  exact foldC_one
theorem foldC_none {t : Str} {l : List Cd} {i : Nat} (f : foldC t [] (l.take i) = none) : foldC t [] l = none := by
  have e := foldC_append t [] (l.take i) (l.drop i)
  rw [List.take_append_drop, f] at e
  exact e
theorem boundsM_none {t : Str} {co : Option Cd} {i : Nat} (f : foldC t [] ((partsO co).take i) = none) : boundsM t co = none := by
  unfold boundsM
  rw [foldC_none f]
theorem boundsM_some {t : Str} {co : Option Cd} {es : List En} (f : foldC t [] (partsO co) = some (es.map dr)) : boundsM t co = if (es.any fun e => emptyS e.2.2) = true then none else some (es.map dr) := by
  unfold boundsM
  rw [f]
  show (if ((es.map dr).any fun e => emptyS e.2) = true then none else some (es.map dr)) = _
  rw [List.any_map]
  rfl
theorem head_num {x : Tm} (ok : x.ok = true) (h : x.head = .num) : ∃ n, x = .num n := by
  cases x with
  | num n => exact ⟨n, rfl⟩
  | fld a b => cases h
  | op o a b =>
    simp only [Tm.ok, Bool.and_eq_true] at ok
    obtain rfl : o = .num := h
    cases ok.1.1
theorem isF_fld {t : Str} {x : Tm} (h : isF t x = true) : ∃ f, x = .fld t f := by
  cases x with
  | fld a b => exact ⟨b, by rw [of_decide_eq_true h]⟩
  | _ => cases h
theorem step2_no1 {t : Str} {es : List Sp3} {c : Wd} {x y : Tm} (h : isF t x = false) : step2 t es c x y = es := by
  cases x with
  | fld a b =>
    cases y with
    | num n => exact if_neg (of_decide_eq_false h)
    | _ => rfl
  | _ => rfl
theorem step2_no2 {t : Str} {es : List Sp3} {c : Wd} {x y : Tm} (h : ¬ y.head = .num) : step2 t es c x y = es := by
  cases y with
  | num n => exact absurd rfl h
  | _ => cases x <;> rfl
theorem step2_yes {t f : Str} {es : List Sp3} {c : Wd} {n : Int} : step2 t es c (.fld t f) (.num n) = putS es f (narrow (lookS es f) (spanOf c n)) := if_pos rfl
theorem nd_ent {es : List En} (h : (es.map (·.1)).Nodup) : ((es.map ent).map (·.1)).Nodup := by
  have e : (es.map ent).map (·.1) = (es.map (·.1)).map (Sum.inr : Str → Key) := by
    rw [List.map_map, List.map_map]
    rfl
  rw [e]
  generalize es.map (·.1) = l at h
  induction l with
  | nil => exact List.nodup_nil
  | cons a r ih =>
    rw [List.nodup_cons] at h
    rw [List.map_cons, List.nodup_cons]
    refine ⟨fun m => ?_, ih h.2⟩
    obtain ⟨b, hb, q⟩ := List.mem_map.mp m
    exact h.1 (Sum.inr.inj q ▸ hb)
theorem val_ent {es : List En} (h : (es.map (·.1)).Nodup) {e : En} (he : e ∈ es) : valV (es.map ent) (Sum.inr e.1 : Key) = some (.ref e.2.1) :=
  val_nodup (nd_ent h) (ent e) (List.mem_map.mpr ⟨e, he, rfl⟩)
theorem strs_neNil {K : PySem.W.Frag} {H : Hp} {a q : Addr} {ss : List Str} {Q : VK} (h : H a = some (.lst (ss.map V.str))) (ho : ∀ s ∈ ss, PyData.strOk s = true) (hq : H q = some (.lst [])) (k : Q (.bl (!ss.isEmpty)) H) : rNeD K (.ref a) (.ref q) H Q := by
  refine ⟨.list (ss.map PyData.str), .list [], .lst (.inl (.inl h)) (dpAll_strs K H ss), .lst (.inl (.inl hq)) .nil, shaped_strs ss ho, rfl, ?_⟩
  cases ss with
  | nil => exact k
  | cons n r => exact k
theorem filter_map_empty {es : List En} {p : En → Bool} {α : Type} {f : En → α} : ((es.filter p).map f).isEmpty = !es.any p := by
  induction es with
  | nil => rfl
  | cons a r ih =>
    rw [List.filter_cons, List.any_cons]
    cases h : p a with
    | true => rfl
    | false => rw [if_neg (by simp), Bool.false_or]; exact ih
theorem cpow9 : CPow 10 9 = True := eq_true ⟨by decide, by decide, by decide⟩
theorem foldC_filter (t : Str) : ∀ (l : List Cd) (es : List Sp3), foldC t es (l.filter Cd.isCmpC) = foldC t es l
  | [], _ => rfl
  | .cmp c x y :: r, es => by
    show foldC t es (.cmp c x y :: r.filter Cd.isCmpC) = _
    show (match stepC t es (.cmp c x y) with | none => none | some es' => foldC t es' (r.filter Cd.isCmpC)) = (match stepC t es (.cmp c x y) with | none => none | some es' => foldC t es' r)
    cases stepC t es (.cmp c x y) with
    | none => rfl
    | some e => exact foldC_filter t r e
  | .neg c :: r, es => foldC_filter t r es
  | .con o a b :: r, es => foldC_filter t r es
theorem putS_new {es : List Sp3} {f : Str} {s : OI × OI} (h : f ∉ es.map (·.1)) : putS es f s = es ++ [(f, s)] := by
  unfold putS
  rw [if_neg]
  intro q
  obtain ⟨e, he, h2⟩ := List.any_eq_true.mp q
  exact h (List.mem_map.mpr ⟨e, he, of_decide_eq_true h2⟩)
def turnL : List (Key × V) := mergeK [] [((Sum.inr Wd.eq.s : Key), V.str Wd.eq.s), (Sum.inr Wd.lt.s, .str Wd.gt.s), (Sum.inr Wd.gt.s, .str Wd.lt.s), (Sum.inr Wd.le.s, .str Wd.ge.s), (Sum.inr Wd.ge.s, .str Wd.le.s)]
theorem valV_turn {c : Wd} (h : c.isCmp = true) : valV turnL (Sum.inr c.s : Key) = some (.str c.turn.s) := by
  unfold turnL
  rw [val5 c h]
  cases c <;> first | (cases h; done) | rfl
theorem lowMax {lo : OI} {m : Int} (h : ∀ a, lo = some a → -1001 ≤ a ∧ a ≤ 1001) (h1 : -1001 ≤ m) : (if m > loI lo then m else loI lo) = loI (maxO lo (some m)) := by
  cases lo with
  | none => exact if_pos (by show (-1000000000 : Int) < m; omega)
  | some a =>
    show (if m > a then m else a) = max a m
    by_cases q : m > a
    · rw [if_pos q]; omega
    · rw [if_neg q]; omega
theorem lowNo {lo : OI} : loI lo = loI (maxO lo none) := by cases lo <;> rfl
theorem hiMin {lo : OI} {m : Int} (h : ∀ a, lo = some a → -1001 ≤ a ∧ a ≤ 1001) (h1 : m ≤ 1001) : (if m < hiI lo then m else hiI lo) = hiI (minO lo (some m)) := by
  cases lo with
  | none => exact if_pos (by show m < (1000000000 : Int); omega)
  | some a =>
    show (if m < a then m else a) = min a m
    by_cases q : m < a
    · rw [if_pos q]; omega
    · rw [if_neg q]; omega
theorem hiNo {lo : OI} : hiI lo = hiI (minO lo none) := by cases lo <;> rfl
theorem emI {s : OI × OI} (h : okS s) : decide (hiI s.2 < loI s.1) = emptyS s := by
  obtain ⟨s1, s2⟩ := s
  cases s1 with
  | none =>
    cases s2 with
    | none => exact decide_eq_false (by show ¬ (1000000000 : Int) < -1000000000; decide)
    | some b =>
      have q := h.2 b rfl
      exact decide_eq_false (by show ¬ b < -1000000000; omega)
  | some a =>
    cases s2 with
    | none =>
      have q := h.1 a rfl
      exact decide_eq_false (by show ¬ (1000000000 : Int) < a; omega)
    | some b => rfl
end G7

set_option linter.all false
set_option Elab.async false
set_option maxRecDepth 100000
set_option maxHeartbeats 4000000
/-! lambdas as values: made, handed on, called by others -/
namespace Lm
open PySem PySem.Spec PyProof.Rows L2 LamX
/-- a thing that is never written, known to the object -/
def FzO (o : Obj) : HO := .frz o (.ext fun _ => True)
theorem fzO_ne {o : Obj} (ps : Array Value) : FzO o ≠ .tbl ps := fun z => by
  unfold FzO at z
  cases z
theorem fz_ok {P : Program} {w : World} {H : Hp} {h : Heap} {a : Addr} {o : Obj} (e : h.get? a = some o) : ObjOk P w H h a (FzO o) := ⟨e, True.intro, ⟨o, e⟩, fun _ _ _ _ => True.intro⟩
def Fz : HO → Prop
  | .frz _ _ => True
  | .tup _ => True
  | _ => False
/-- what is frozen stays -/
def KeepF (H H' : Hp) : Prop := ∀ b o, H b = some o → Fz o → H' b = some o
theorem KeepF.refl (H : Hp) : KeepF H H := fun _ _ e _ => e
theorem KeepF.trans {H H1 H2 : Hp} (a : KeepF H H1) (b : KeepF H1 H2) : KeepF H H2 := fun c o e z => b c o (a c o e z) z
theorem KeepF.of {H H' : Hp} (e : ∀ b o, H b = some o → H' b = some o) : KeepF H H' := fun b o h _ => e b o h
theorem KeepF.extN {H H' : Hp} (e : ExtN H H') : KeepF H H' := fun b o h z => e b o h fun ps q => by rw [q] at z; exact z
theorem KeepF.un {fs ex : List Addr} {H H' : Hp} {h h' : Heap} (u : Un fs ex H H' h h') : KeepF H H' := fun b o e z => by
  cases o with
  | frz ob v => exact u.frzs b ob v e
  | tup xs => exact u.tups b xs e
  | _ => exact z.elim
theorem KeepF.upd {H : Hp} {a : Addr} {o : HO} (n : ∀ u, H a = some u → ¬ Fz u) : KeepF H (upd H a o) := fun b u e z => by
  rw [upd_ne (show b ≠ a from fun q => n u (by rw [← q]; exact e) z)]
  exact e
/-- tables stay -/
def KeepT (H H' : Hp) : Prop := ∀ b ps, H b = some (.tbl ps) → H' b = some (.tbl ps)
theorem KeepT.refl (H : Hp) : KeepT H H := fun _ _ e => e
theorem KeepT.trans {H H1 H2 : Hp} (a : KeepT H H1) (b : KeepT H1 H2) : KeepT H H2 := fun c o e => b c o (a c o e)
theorem KeepT.of {H H' : Hp} (e : ∀ b o, H b = some o → H' b = some o) : KeepT H H' := fun b o h => e b _ h
theorem KeepT.upd {H : Hp} {a : Addr} {o : HO} (n : ∀ ps, H a ≠ some (.tbl ps)) : KeepT H (upd H a o) := fun b u e => by
  rw [upd_ne (show b ≠ a from fun q => n u (by rw [← q]; exact e))]
  exact e
/-- tables whose code objects bear one name, and are frozen -/
def TabF (T : List (Addr × Str)) (H : Hp) : Prop := ∀ p ∈ T, ∃ ps : Array Value, H p.1 = some (.tbl ps) ∧ TriplesOk ps.toList ∧
  ∀ (pos : Pos) (cv : Value), codeAmong pos ps.toList = some cv → ∃ (c : Addr) (oc : Obj) (vs : Array Value) (t : Tok), cv = .ref c ∧ H c = some (FzO oc) ∧ oc.data = .fields vs ∧ vs[1]? = some (.str p.2 t)
theorem TabF.ext {T : List (Addr × Str)} {H H' : Hp} (t : TabF T H) (e : KeepF H H') (e2 : KeepT H H') : TabF T H' := fun p hp => by
  obtain ⟨ps, h1, h2, h3⟩ := t p hp
  refine ⟨ps, e2 _ _ h1, h2, fun pos cv hc => ?_⟩
  obtain ⟨c, oc, vs, t, e1, e3, e4, e5⟩ := h3 pos cv hc
  exact ⟨c, oc, vs, t, e1, e c _ e3 True.intro, e4, e5⟩
theorem TabF.nil {H : Hp} {T : List (Addr × Str)} (h : ∀ p ∈ T, H p.1 = some (.tbl #[])) : TabF T H := fun p hp => ⟨#[], h p hp, True.intro, fun pos cv hc => by
  have z : codeAmong pos [] = some cv := hc
  simp [codeAmong] at z⟩
section
variable {X : Cx} {pins : List (Addr × Obj)} {σ : L2.St} {H : Hp} {s : Shared}
/-- what is known of a thing that may change is known of it as it is, from now on -/
theorem inv_freeze {c : Addr} {φ : Heap → Prop} {oc : Obj} (I : Inv X pins σ H s) (h1 : H c = some (.ext φ)) (h2 : s.heap.get? c = some oc) : Inv X pins σ (upd H c (FzO oc)) s :=
  I.write (h' := s.heap) (t' := s.toks) (o := FzO oc) (by rw [h1]; exact True.intro) (.inl rfl) (fun _ _ _ q => q) ⟨oc, h2⟩ (fz_ok h2)
/-- a code object new in a table, frozen -/
theorem inv_tableF {P c : Addr} {q : Str} {t : Tok} {vs : Array Value} {ps more : Array Value} {h' : Heap} {t' : Nat} {oc : Obj} (I : Inv X pins σ H s) (hP : H P = some (.tbl ps)) (k : ∀ b o, b ≠ P → s.heap.get? b = some o → h'.get? b = some o)
    (hm : h'.get? P = some { cls := .none, data := .fields (ps ++ more) }) (hc : s.heap.objs.size ≤ c) (ho : h'.get? c = some oc) (hd : oc.data = .fields vs) (hv : vs[1]? = some (.str q t)) :
    Inv X pins σ (upd (upd H P (.tbl (ps ++ more))) c (FzO oc)) { s with heap := h', toks := t' } := by
  have J := LamX.inv_table (t' := t') (q := q) I hP k hm hc ⟨oc, vs, t, ho, hd, hv⟩
  have F := inv_freeze (oc := oc) J (show upd (upd H P (.tbl (ps ++ more))) c (CodeO c q) c = some (.ext _) from upd_same) ho
  rw [upd_upd] at F
  exact F
/-- the lambda's function object -/
def LamObj (q : Str) (params : Arguments) (body : Expr) (scope : Scope) (cl : List (Str × Addr)) (dV : Value) (c : Addr) (o : Obj) : Prop :=
  ∃ (doc pm ctv : Value), o = PySem.W.kdv_obj "<lambda>" q params (.expr body) scope cl dV doc pm c ctv
/-- what stands of a lambda: its function object, its code object -/
def LamAt (q : Str) (params : Arguments) (body : Expr) (scope : Scope) (cl : List (Str × Addr)) (dV : Value) (f : Addr) (H : Hp) : Prop :=
  ∃ (c : Addr) (o oc : Obj) (vs : Array Value) (t : Tok), LamObj q params body scope cl dV c o ∧ H f = some (FzO o) ∧ H c = some (FzO oc) ∧ oc.data = .fields vs ∧ vs[1]? = some (.str q t)
theorem LamAt.keep {q : Str} {params : Arguments} {body : Expr} {scope : Scope} {cl : List (Str × Addr)} {dV : Value} {f : Addr} {H H' : Hp} (l : LamAt q params body scope cl dV f H) (k : KeepF H H') : LamAt q params body scope cl dV f H' := by
  obtain ⟨c, o, oc, vs, t, h1, h2, h3, h4, h5⟩ := l
  exact ⟨c, o, oc, vs, t, h1, k _ _ h2 True.intro, k _ _ h3 True.intro, h4, h5⟩
/-- the function object is laid, where its code object stands -/
theorem lam_lay {T : List (Addr × Str)} {q : Str} {c' : Addr} {params : Arguments} {body : Expr} {scope : Scope} {dV doc pm ctv : Value} {cl : List (Str × Addr)} {h' : Heap} {tk : Nat} {oc : Obj} {vs : Array Value} {t : Tok} (J : Inv X pins σ H { s with heap := h', toks := tk }) (hT : TabF T H)
    (hc : H c' = some (FzO oc)) (hd : oc.data = .fields vs) (hv : vs[1]? = some (.str q t)) :
    ∃ H2, Inv X pins σ H2 { s with heap := h'.push (PySem.W.kdv_obj "<lambda>" q params (.expr body) scope cl dV doc pm c' ctv), toks := tk } ∧ (∀ b o, H b = some o → H2 b = some o) ∧ TabF T H2 ∧ LamAt q params body scope cl dV h'.objs.size H2 := by
  have new : H h'.objs.size = none := J.hok.fresh (Nat.le_refl _)
  have more : ∀ b o, H b = some o → upd H h'.objs.size (FzO (PySem.W.kdv_obj "<lambda>" q params (.expr body) scope cl dV doc pm c' ctv)) b = some o := fun b o e => (upd_ne (ne_of_none e new)).trans e
  refine ⟨_, J.laid (t' := tk) (o := FzO (PySem.W.kdv_obj "<lambda>" q params (.expr body) scope cl dV doc pm c' ctv)) (fun _ _ z => Heap.get?_push_of_some _ z) (Nat.le_refl _) (fz_ok (Heap.get?_push_size _ rfl)), more, hT.ext (KeepF.of more) (KeepT.of more), ?_⟩
  exact ⟨c', _, oc, vs, t, ⟨doc, pm, ctv, rfl⟩, upd_same, more _ _ hc, hd, hv⟩
/-- a table grown by one code object -/
theorem TabF.grow {T : List (Addr × Str)} {P c' : Addr} {q : Str} {pos : Pos} {ps : Array Value} {oc : Obj} {vs : Array Value} {t : Tok} (hT : TabF T H) (hP : H P = some (.tbl ps)) (hm : (P, q) ∈ T) (hu : ∀ p ∈ T, p.1 = P → p.2 = q) (new : H c' = none) (hd : oc.data = .fields vs) (hv : vs[1]? = some (.str q t)) :
    ExtN H (upd (upd H P (.tbl (ps ++ #[rawInt pos.line, rawInt pos.col, .ref c']))) c' (FzO oc)) ∧ TabF T (upd (upd H P (.tbl (ps ++ #[rawInt pos.line, rawInt pos.col, .ref c']))) c' (FzO oc)) := by
  have out : ∀ b o, H b = some o → b ≠ P → upd (upd H P (.tbl (ps ++ #[rawInt pos.line, rawInt pos.col, .ref c']))) c' (FzO oc) b = some o := fun b o e n => by
    rw [upd_ne (ne_of_none e new), upd_ne n]
    exact e
  have ext : ExtN H (upd (upd H P (.tbl (ps ++ #[rawInt pos.line, rawInt pos.col, .ref c']))) c' (FzO oc)) := fun b o e n => out b o e fun z => by
    rw [z, hP] at e
    exact n ps (Option.some.inj e).symm
  refine ⟨ext, fun p hp => ?_⟩
  obtain ⟨qs, a1, a2, a3⟩ := hT p hp
  have old : ∀ (pos : Pos) (cv : Value), codeAmong pos qs.toList = some cv → ∃ (c : Addr) (o : Obj) (ws : Array Value) (u : Tok), cv = .ref c ∧ upd (upd H P (.tbl (ps ++ #[rawInt pos.line, rawInt pos.col, .ref c']))) c' (FzO oc) c = some (FzO o) ∧ o.data = .fields ws ∧ ws[1]? = some (.str p.2 u) := fun pos' cv e => by
    obtain ⟨c, o, ws, u, e1, e2, e3⟩ := a3 pos' cv e
    refine ⟨c, o, ws, u, e1, ?_, e3⟩
    rw [upd_ne (ne_of_none e2 new), upd_ne (fun z => by rw [z, hP] at e2; cases e2)]
    exact e2
  by_cases hb : p.1 = P
  · obtain rfl : qs = ps := by
      rw [hb, hP] at a1
      exact (HO.tbl.inj (Option.some.inj a1)).symm
    have flat : (qs ++ #[rawInt pos.line, rawInt pos.col, .ref c']).toList = qs.toList ++ [rawInt pos.line, rawInt pos.col, .ref c'] := by rw [Array.toList_append]
    refine ⟨qs ++ #[rawInt pos.line, rawInt pos.col, .ref c'], ?_, ?_, fun pos' cv e => ?_⟩
    · rw [hb, upd_ne (ne_of_none hP new)]
      exact upd_same
    · rw [flat]
      exact PySem.TriplesOk_snoc _ _ _ _ a2
    · rw [flat] at e
      cases among_app _ a2 e with
      | inl z =>
        obtain ⟨c, o, ws, u, e1, e2, e3⟩ := a3 pos' cv z
        exact ⟨c, o, ws, u, e1, ext _ _ e2 fzO_ne, e3⟩
      | inr z => exact ⟨c', oc, vs, t, z, upd_same, hd, by rw [hu p hp hb]; exact hv⟩
  · refine ⟨qs, out _ _ a1 hb, a2, fun pos' cv e => ?_⟩
    obtain ⟨c, o, ws, u, e1, e2, e3⟩ := a3 pos' cv e
    exact ⟨c, o, ws, u, e1, ext _ _ e2 fzO_ne, e3⟩
theorem lam_tail {T : List (Addr × Str)} {c P : Addr} {params : Arguments} {body : Expr} {scope : Scope} {pos : Pos} {dV : Value} {E : Value → Shared → Prop} {Q : Value → Shared → Prop} (I : Inv X pins σ H s) (TB : TabB X.base X.mg c P) (hcode : X.env.code = .ref c)
    (hm : (P, X.env.qual ++ "<lambda>") ∈ T) (hu : ∀ p ∈ T, p.1 = P → p.2 = X.env.qual ++ "<lambda>") (hT : TabF T H) (hfree : ∀ y ∈ scope.names, y.2 = .free → ∃ c, X.env.cells.lookup y.1 = some c)
    (h : ∀ (f : Addr) (H1 : Hp) (s' : Shared), Inv X pins σ H1 s' → ExtN H H1 → TabF T H1 → LamAt (X.env.qual ++ "<lambda>") params body scope (cloFrom X.env.cells scope.names []) dV f H1 → Q (.ref f) s') :
    wpAny (model X.prog X.w) X.A (makeTail "<lambda>" (X.env.qual ++ "<lambda>") params (.expr body) scope X.env dV .none none pos pos.line) Q E s := by
  obtain ⟨ps, tab, three, known⟩ := hT _ hm
  have at_ := I.hok P _ tab
  have bas := TB.bm.keeps I.bk
  have hd0 := TB.code.keeps I.bk
  have gl := I.mod.glob.keeps I.bk
  by_cases hit : ∃ cv, codeAmong pos ps.toList = some cv
  · obtain ⟨cv, hit⟩ := hit
    obtain ⟨c', oc, vs, t, rfl, hco, hd, hv⟩ := known pos cv hit
    refine PySem.W.kdv_makeTailHit (closure_ok hfree) I.ok.glob gl hcode hd0 at_ three hit bas fun ctv doc h' tk kp _ => ?_
    obtain ⟨H2, J2, m2, T2, l2⟩ := lam_lay (s := s) (doc := doc) (pm := (X.mg "__name__").getD .none) (ctv := ctv) (I.kept (t' := tk) kp) hT hco hd hv
    exact h _ H2 _ J2 (fun b o e _ => m2 b o e) T2 l2
  · have miss : codeAmong pos ps.toList = none := by
      cases z : codeAmong pos ps.toList with
      | none => rfl
      | some cv => exact absurd ⟨cv, z⟩ hit
    refine PySem.W.kdv_makeTail (closure_ok hfree) I.ok.glob gl hcode hd0 at_ three miss TB.gP bas fun c' ctv doc h' tk but ge lt rec grown => ?_
    obtain ⟨_, oc, vs, t, z, hoc, hd, hv⟩ := rec
    obtain rfl := Value.ref.inj z
    have J := inv_tableF (t' := tk) I tab (fun b o n e => but b o n e) grown ge hoc hd hv
    obtain ⟨ext, T1⟩ := hT.grow (pos := pos) tab hm hu (I.hok.fresh ge) hd hv
    obtain ⟨H2, J2, m2, T2, l2⟩ := lam_lay (s := s) (doc := doc) (pm := (X.mg "__name__").getD .none) (ctv := ctv) J T1 upd_same hd hv
    exact h _ H2 _ J2 (fun b o e n => m2 b o (ext b o e n)) T2 l2
end
/-! ### the lambda's names -/
/-- captured names, globals; parameters that the maker's own names do not hold -/
structure LamG (N : List Str) (sc scope : Scope) : Prop where
  kind : scope.kind = .function
  co : scope.isCoroutine = false
  gen : scope.isGenerator = false
  own : ∀ y ∈ scope.names, y.2 ≠ .cell ∧ (y.2 = .local → y.1 ∉ N)
  free : ∀ y ∈ scope.names, y.2 = .free → sc.names.lookup y.1 = some .cell ∨ sc.names.lookup y.1 = some .free
def lamGB (N : List Str) (sc scope : Scope) : Bool :=
  decide (scope.kind = .function) && !scope.isCoroutine && !scope.isGenerator && scope.names.all fun y => !decide (y.2 = .cell) && (!decide (y.2 = .local) || !N.contains y.1) && (!decide (y.2 = .free) || decide (sc.names.lookup y.1 = some .cell) || decide (sc.names.lookup y.1 = some .free))
theorem lamG_by {N : List Str} {sc scope : Scope} (h : lamGB N sc scope = true) : LamG N sc scope := by
  unfold lamGB at h
  simp only [Bool.and_eq_true, Bool.or_eq_true, Bool.not_eq_true', decide_eq_true_eq, decide_eq_false_iff_not, List.all_eq_true] at h
  obtain ⟨⟨⟨h1, h2⟩, h3⟩, h4⟩ := h
  refine ⟨h1, h2, h3, fun y hy => ⟨(h4 y hy).1.1, fun e hm => ?_⟩, fun y hy e => ?_⟩
  · rcases (h4 y hy).1.2 with z | z
    · exact absurd e z
    · rw [List.contains_iff_mem.mpr hm] at z
      cases z
  · rcases (h4 y hy).2 with (z | z) | z
    · exact absurd e z
    · exact .inl z
    · exact .inr z
theorem LamG.has {X : Cx} {scope : Scope} (L : LamG X.N X.env.scope scope) (ok : X.Ok) : ∀ y ∈ scope.names, y.2 = .free → ∃ c, X.env.cells.lookup y.1 = some c := fun y hy e => by
  rcases L.free y hy e with k | k
  · exact ok.has _ (.inl k)
  · exact ok.has _ (.inr k)
section
variable {X : Cx} {pins : List (Addr × Obj)} {σ : L2.St} {H HZ : Hp} {s s1 : Shared}
/-- the context over a greater ground -/
abbrev onB (X : Cx) (B : Heap) : Cx := { X with base := B }
/-- a ground in which the cells of X's names stand, at the state s -/
structure ExtB (X : Cx) (H : Hp) (s : Shared) (B : Heap) : Prop where
  size : B.objs.size ≤ s.heap.objs.size
  sub : ∀ b o, B.get? b = some o → s.heap.get? b = some o ∧ H b = none
  base : ∀ b o, X.base.get? b = some o → B.get? b = some o
  cell : ∀ x c o, X.env.cells.lookup x = some c → s.heap.get? c = some o → B.get? c = some o
  funs : s.heap.FunFrames B X.stack
open Classical in
theorem extB_ex (I : Inv X pins σ H s) (hfn : ∀ x c, X.env.cells.lookup x = some c → X.fn x = true) : ∃ B, ExtB X H s B := by
  let q : Addr → Bool := fun b => decide ((∃ o, X.base.get? b = some o) ∨ ∃ x, X.env.cells.lookup x = some b)
  let l := (List.range s.heap.objs.size).filter fun b => !q b
  have nl : ∀ b, q b = true → b ∉ l := fun b hb hm => by
    have z := (List.mem_filter.mp hm).2
    rw [hb] at z
    cases z
  have yl : ∀ b, b < s.heap.objs.size → q b = false → b ∈ l := fun b h1 h2 => List.mem_filter.mpr ⟨List.mem_range.mpr h1, by rw [h2]; rfl⟩
  have get : ∀ b o, s.heap.get? b = some o → q b = true → (PySem.W.hideAll s.heap l).get? b = some o := fun b o e hb => PySem.W.hideAll_get _ e (nl b hb)
  have of_ : ∀ b o, (PySem.W.hideAll s.heap l).get? b = some o → s.heap.get? b = some o ∧ q b = true := fun b o e => by
    have e2 := PySem.W.of_hideAll _ e
    refine ⟨e2, ?_⟩
    cases hq : q b with
    | true => rfl
    | false =>
      rw [PySem.W.hideAll_none _ (yl b (Heap.lt_size e2) hq)] at e
      cases e
  have bk : ∀ b o, X.base.get? b = some o → s.heap.get? b = some o ∧ H b = none := I.bs
  refine ⟨PySem.W.hideAll s.heap l, Nat.le_of_eq (PySem.W.hideAll_size _ _), fun b o e => ?_, fun b o e => get b o (bk b o e).1 (decide_eq_true (.inl ⟨o, e⟩)), fun x c o e1 e2 => get c o e2 (decide_eq_true (.inr ⟨x, e1⟩)), funFrames_none I.stack fun b hb => ?_⟩
  · obtain ⟨e2, hq⟩ := of_ b o e
    refine ⟨e2, ?_⟩
    rcases of_decide_eq_true hq with ⟨o', z⟩ | ⟨x, z⟩
    · exact (bk b o' z).2
    · exact I.freeC x b z
  · cases e : (PySem.W.hideAll s.heap l).get? b with
    | none => rfl
    | some o =>
      obtain ⟨e2, hq⟩ := of_ b o e
      rcases of_decide_eq_true hq with ⟨o', z⟩ | ⟨x, z⟩
      · obtain ⟨z2, _⟩ := I.stack.mem hb
        rw [z] at z2
        cases z2
      · rcases List.mem_cons.mp (I.stkSub b hb) with z2 | z2
        · exact absurd z2 (I.cne x b z)
        · obtain ⟨_, o3, e3, _⟩ := I.ok.funs.mem z2
          exact absurd (Nat.lt_of_lt_of_le (Heap.lt_size e3) (I.ok.cab x b (hfn x b z) z)) (Nat.lt_irrefl _)
theorem ExtB.env0 {B : Heap} (x : ExtB X H s B) (I : Inv X pins σ H s) : Env0 X.prog X.w X.K X.mg B X.A X.stack s H := by
  have e := I.env0
  exact ⟨e.frames, ⟨e.mod.kin.keeps x.base, e.mod.glob.keeps x.base, (let ⟨mb, h1, h2⟩ := e.mod.blt; ⟨mb, h1.keeps x.base, h2⟩), e.mod.nolimit.keeps x.base⟩, x.sub, x.size, x.funs, e.frf, e.hok, e.bare⟩
/-- the captured cells, looked up -/
theorem clo_to {cells : List (Str × Addr)} {names : List (Str × NameKind)} {y : Str} {c : Addr} (hf : ∀ z ∈ names, z.2 = .free → ∃ c, cells.lookup z.1 = some c) (e : (cloFrom cells names []).lookup y = some c) : cells.lookup y = some c := by
  cases cloFrom_mem (PySem.mem_of_lookup e) with
  | inl z => exact absurd z List.not_mem_nil
  | inr z =>
    obtain ⟨d, hd⟩ := hf (y, .free) z.1 rfl
    have hd : cells.lookup y = some d := hd
    have e2 := z.2
    rw [hd] at e2
    rw [hd, show c = d from e2]
theorem clo_of {cells : List (Str × Addr)} {names : List (Str × NameKind)} {y : Str} (h : names.lookup y = some .free) : ∃ c, (cloFrom cells names []).lookup y = some c :=
  mem_lookup (cloFrom_has (acc := []) (PySem.mem_of_lookup h))
theorem lam_startB {A : Around} {outer : List Env} {E : XK} {scope : Scope} {f c' : Addr} {h₁ : Heap} {tk : Nat} {m0 : Str → Option Value} {B : Heap} (I : Inv X pins σ H s) (L : LamG X.N X.env.scope scope) (x : ExtB X H s B) (e0 : Env0 X.prog X.w X.K X.mg B A outer s1 HZ) (hd : A.handled = none)
    (hns : h₁.Ns s1.heap.objs.size m0) (kp : ∀ b o, s1.heap.get? b = some o → h₁.get? b = some o) :
    Inv (lamCx (onB X B) A outer s1 HZ E scope f c') [] σ HZ { s1 with heap := h₁, toks := tk } := by
  have back : ∀ {y c}, (cloFrom X.env.cells scope.names []).lookup y = some c → X.env.cells.lookup y = some c := fun e => clo_to (L.has I.ok) e
  have stays : ∀ {y : Str} {c : Addr} {v : Option Value}, X.env.cells.lookup y = some c → s.heap.IsCell c v → h₁.IsCell c v ∧ HZ c = none := fun {y c v} e z => by
    obtain ⟨o, ho, hv⟩ := z
    obtain ⟨w1, w2⟩ := e0.bs c o (x.cell y c o e ho)
    exact ⟨⟨o, kp _ _ w1, hv⟩, w2⟩
  have none_ex : ∀ b : Addr, b ∈ ([] : List Addr) → False := fun b z => List.not_mem_nil z
  exact
    { ok :=
        { mod := e0.mod, kind := L.kind, glob := rfl, blt := rfl, above := Nat.le_refl _, inj := fun y z c h1 h2 => I.ok.inj y z c (back h1) (back h2)
          has := fun y hy => by
            rcases (show scope.names.lookup y = some .cell ∨ scope.names.lookup y = some .free from hy) with z | z
            · exact ((L.own _ (PySem.mem_of_lookup z)).1 rfl).elim
            · exact clo_of z
          cab := fun y c z => nomatch (show false = true from z)
          hd := fun _ => hd, frames := Around.frames_deeper e0.frames, stk := .inr ⟨rfl, rfl⟩, exf := fun b z => (none_ex b z).elim, bs := e0.bs, bsz := e0.bsz, noex := fun b _ _ z => none_ex b z, exfs := fun b z => (none_ex b z).elim, funs := e0.funs, frf := e0.frf }
      os := rfl, bare := e0.bare, base := Un.kept kp
      loc := by
        refine ⟨m0, hns, fun i y v n sl vis => ?_⟩
        obtain ⟨_, _, known⟩ := I.loc
        rcases (show Vis scope y from vis) with z | z | z
        · exact absurd (List.mem_of_getElem? (show X.N[i]? = some y from n)) ((L.own _ (PySem.mem_of_lookup z)).2 rfl)
        · exact ((L.own _ (PySem.mem_of_lookup z)).1 rfl).elim
        · obtain ⟨c, hc⟩ := clo_of (cells := X.env.cells) z
          have up := L.free _ (PySem.mem_of_lookup z) rfl
          obtain ⟨u, rv, w⟩ := known i y v n sl (up.elim (fun q => .inr (.inl q)) fun q => .inr (.inr q))
          refine ⟨u, rv, .inr ⟨.inr z, c, hc, ?_⟩⟩
          rcases w with ⟨loc, _⟩ | ⟨_, d, hd2, cell⟩
          · have loc : X.env.scope.names.lookup y = some .local := loc
            rcases up with q | q <;> exact nomatch (loc.symm.trans (show X.env.scope.names.lookup y = _ from q))
          · obtain rfl : c = d := Option.some.inj ((back hc).symm.trans hd2)
            exact (stays hd2 cell).1
      cell := fun y c e => by
        obtain ⟨v, z⟩ := I.cell y c (back e)
        exact ⟨v, (stays (back e) z).1⟩
      free := e0.hok.fresh (Nat.le_refl _)
      freeC := fun y c e => by
        obtain ⟨v, z⟩ := I.cell y c (back e)
        exact (stays (back e) z).2
      pin := fun q z => nomatch (show q ∈ ([] : List (Addr × Obj)) from z)
      hok := e0.hok.kept kp, len := I.len }
end
/-! ### what a callable does when it is called without arguments, over the ground B, while what is frozen in H0 stays -/
def Act0 (P : Program) (w : World) (K : PySem.W.Frag) (mg : Str → Option Value) (B : Heap) (k : Nat) (H0 : Hp) (f : Addr) (R : XK → Hp → VK → Prop) : Prop :=
  ∀ (A : Around) (outer : List Env) (s1 : Shared) (H1 : Hp) (Q : VK) (E : XK), Room k A → Env0 P w K mg B A outer s1 H1 → KeepF H0 H1 → R E H1 Q →
    (∃ (oc : Value) (od : Option Addr) (fd : FuncData) (osl : Array (Option Value)), s1.heap.get? f = some ⟨oc, od, .func fd, osl⟩) ∧ codeAny (model P w) A (.call (.ref f) ⟨[], []⟩) (CR (L2.CX P w) outer P w H1 s1 Q E) s1
section
variable {P : Program} {w : World} {K : PySem.W.Frag} {mg : Str → Option Value} {B : Heap} {k : Nat} {H H1 : Hp} {f : Addr} {R : XK → Hp → VK → Prop}
theorem Act0.keep (a : Act0 P w K mg B k H f R) (h : KeepF H H1) : Act0 P w K mg B k H1 f R := fun A outer s2 H2 Q E hr e0 k2 => a A outer s2 H2 Q E hr e0 (h.trans k2)
theorem Act0.mono (a : Act0 P w K mg B k H f R) {j : Nat} (h : k ≤ j) : Act0 P w K mg B j H f R := fun A outer s2 H2 Q E hr => a A outer s2 H2 Q E (hr.mono h)
theorem Act0.imp (a : Act0 P w K mg B k H f R) {R' : XK → Hp → VK → Prop} (h : ∀ E H Q, R' E H Q → R E H Q) : Act0 P w K mg B k H f R' := fun A outer s2 H2 Q E hr e0 u r => a A outer s2 H2 Q E hr e0 u (h _ _ _ r)
end
/-- a ground over the state in which X stands -/
def Zb (X : Cx) (σ : L2.St) (H : Hp) (B : Heap) : Prop := ∃ (pins : List (Addr × Obj)) (s : Shared), Inv X pins σ H s ∧ ExtB X H s B
/-- a lambda made in X: whatever X's names hold when it is handed on -/
def Acts (X : Cx) (k : Nat) (R : L2.St → XK → Hp → VK → Prop) (f : Addr) (H : Hp) : Prop :=
  ∀ H2, KeepF H H2 → ∀ (σ : L2.St) (B : Heap), Zb X σ H2 B → Act0 X.prog X.w X.K X.mg B k H2 f (R σ)
theorem Acts.keep {X : Cx} {k : Nat} {R : L2.St → XK → Hp → VK → Prop} {f : Addr} {H H1 : Hp} (a : Acts X k R f H) (h : KeepF H H1) : Acts X k R f H1 := fun H2 h2 => a H2 (h.trans h2)
section
variable {X : Cx}
theorem act_lam {k : Nat} {params : Arguments} {body : Expr} {scope : Scope} {dV : Value} {f : Addr} {H : Hp} {t : XK → TE} (L : LamG X.N X.env.scope scope) (l : LamAt (X.env.qual ++ "<lambda>") params body scope (cloFrom X.env.cells scope.names []) dV f H)
    (hbind : ∀ (s1 : Shared) (H1 : Hp) (c : Addr) (doc pm ctv : Value), KeepF H H1 → HOk X.prog X.w H1 s1.heap → ∃ binds : List (Str × Value), (∀ y ∈ binds, scope.names.lookup y.1 = some .local) ∧
      BindsTo s1 (PySem.W.kdv_fn "<lambda>" (X.env.qual ++ "<lambda>") params (.expr body) scope (cloFrom X.env.cells scope.names []) dV doc pm (.ref c) ctv) ⟨[], []⟩ binds)
    (hbody : ∀ (B : Heap) (A : Around) (outer : List Env) (s : Shared) (H : Hp) (E : XK) (f c' : Addr), Room k (A.deeper (lamEnv X scope s.heap.objs.size f c')) → PE (lamCx (onB X B) A outer s H E scope f c') body (t E)) :
    Acts X (k + 1) (fun σ E H Q => t E σ H Q) f H := by
  rintro H2 kp σ B ⟨pins, s, I, xb⟩ A outer s1 H1 Q E hr e0 kf r
  obtain ⟨c, o, oc, vs, tk, ⟨doc, pm, ctv, rfl⟩, hf, hc, hd, hv⟩ := l.keep (kp.trans kf)
  have of1 := (e0.hok f _ hf).1
  have oc1 := (e0.hok c _ hc).1
  refine ⟨⟨_, _, _, _, of1⟩, ?_⟩
  refine PySem.W.kla_callFunE hr.depth of1 rfl L.co L.gen rfl ⟨c, oc, vs, tk, rfl, oc1, hd, hv⟩ ?_
  obtain ⟨binds, hl, hb⟩ := hbind s1 H1 c doc pm ctv (kp.trans kf) e0.hok
  have lim : s1.heap.NoLimit := e0.mod.nolimit.keeps fun b o e => (e0.bs b o e).1
  refine hb _ _ _ _ (wpAny_newFunctionEnv (fun y hy => (L.own y hy).1) hl (fun h₁ hns hsb => ⟨lim.fresh _ hsb, ?_⟩) L.kind)
  show codeAny _ _ (.expr body (lamEnv X scope s1.heap.objs.size f c)) _ _
  have kp1 : ∀ b o, s1.heap.get? b = some o → h₁.get? b = some o := fun b o e => hsb.extBut b o (Nat.ne_of_lt (Heap.lt_size e)) (Heap.get?_push_of_some _ e)
  have J : Inv (lamCx (onB X B) A outer s1 H1 E scope f c) [] σ H1 { s1 with heap := h₁, toks := s1.toks + binds.length } := lam_startB I L xb e0 hr.hd hns kp1
  refine PySem.W.kla_codeExpr (wpAny_mono ((hbody B A outer s1 H1 E f c (hr.deeper _)).run [] _ _ H1 Q J r) (fun v s' hq => ?_) fun e s' hq => hq)
  obtain ⟨w', H', J', rv, q⟩ := hq
  exact ⟨w', H', J'.os, J'.bare, J'.base, J'.hok, rv, q⟩
/-- the reading of a lambda -/
def tLam (X : Cx) (k : Nat) (T : List (Addr × Str)) (t : XK → TE) : TE := fun σ H Q => TabF T H ∧ ∀ (f : Addr) (H1 : Hp), ExtN H H1 → TabF T H1 → Acts X k (fun σ E H Q => t E σ H Q) f H1 → Q (.ref f) H1
theorem pe_lam {T : List (Addr × Str)} {c P : Addr} {k : Nat} {params : Arguments} {body : Expr} {scope : Scope} {pos : Pos} {t : XK → TE} (TB : TabB X.base X.mg c P) (hcode : X.env.code = .ref c)
    (hm : (P, X.env.qual ++ "<lambda>") ∈ T) (hu : ∀ p ∈ T, p.1 = P → p.2 = X.env.qual ++ "<lambda>") (L : LamG X.N X.env.scope scope) (hdef : defaultsOf params X.env = ([], []))
    (hbind : ∀ (q : Str) (cl : List (Str × Addr)) (doc pm cv ctv : Value), bindArgs (PySem.W.kdv_fn "<lambda>" q params (.expr body) scope cl .none doc pm cv ctv) ⟨[], []⟩ = pure [])
    (hbody : ∀ (B : Heap) (A : Around) (outer : List Env) (s : Shared) (H : Hp) (E : XK) (f c' : Addr), Room k (A.deeper (lamEnv X scope s.heap.objs.size f c')) → PE (lamCx (onB X B) A outer s H E scope f c') body (t E)) :
    PE X (.Lambda params body scope pos) (tLam X (k + 1) T t) := by
  refine ⟨fun pins s σ H Q I h => ?_⟩
  obtain ⟨hT, h⟩ := h
  refine PySem.W.kla_eval hdef ?_
  rw [makeFunction_eq]
  simp only [List.zip_nil_right, List.filterMap_nil, List.isEmpty_nil, if_true, pure_bind]
  refine lam_tail I TB hcode hm hu hT (L.has I.ok) fun f H1 s' I1 eN T1 l => ?_
  exact ⟨.ref f, H1, I1, rfl, h f H1 eN T1 (act_lam L l (fun s1 H1 c doc pm ctv _ _ => ⟨[], fun y hy => absurd hy (by simp), .of_eq (hbind _ _ _ _ _ _)⟩) hbody)⟩
/-- lambda a = e: .. -/
theorem pe_lam1 {T : List (Addr × Str)} {c P : Addr} {k : Nat} {params : Arguments} {body : Expr} {scope : Scope} {pos : Pos} {t : XK → TE} {a : Str} {e : Expr} {te : TE} (TB : TabB X.base X.mg c P) (hcode : X.env.code = .ref c)
    (hm : (P, X.env.qual ++ "<lambda>") ∈ T) (hu : ∀ p ∈ T, p.1 = P → p.2 = X.env.qual ++ "<lambda>") (L : LamG X.N X.env.scope scope) (hd1 : params.defaults = [e]) (hk0 : params.kw_defaults = []) (he : PE X e te) (hla : scope.names.lookup a = some .local)
    (hbind : ∀ (q : Str) (cl : List (Str × Addr)) (doc pm cv ctv : Value) (d : Addr), ∃ ka : Option (Array Value) → Sem (List (Str × Value)), bindArgs (PySem.W.kdv_fn "<lambda>" q params (.expr body) scope cl (.ref d) doc pm cv ctv) ⟨[], []⟩ = seqItems? (.ref d) >>= ka ∧ ∀ u, ka (some #[u]) = pure [(a, u)])
    (hbody : ∀ (B : Heap) (A : Around) (outer : List Env) (s : Shared) (H : Hp) (E : XK) (f c' : Addr), Room k (A.deeper (lamEnv X scope s.heap.objs.size f c')) → PE (lamCx (onB X B) A outer s H E scope f c') body (t E)) :
    PE X (.Lambda params body scope pos) (fun σ H Q => te σ H fun v H1 => ∀ d, H1 d = none → tLam X (k + 1) T t σ (upd H1 d (.tup [v])) Q) := by
  refine ⟨fun pins s σ H Q I h => ?_⟩
  refine PySem.W.kdv_lam (by rw [hd1]; rfl) hk0 ?_
  rw [hd1]
  refine PySem.W.kdv_all1 (thn (he.run pins s σ H _ I h) fun u s1 ⟨v, H1, I1, r, q⟩ => PySem.W.kdv_all0 ?_)
  rw [makeFunction_eq]
  simp only [List.zip_nil_right, List.filterMap_nil, List.isEmpty_nil, List.isEmpty_cons, if_true, if_false, Bool.false_eq_true, pure_bind]
  refine wpAny_bind (wpAny_newTextTuple ?_)
  have nd : H1 s1.heap.objs.size = none := I1.hok.fresh (Nat.le_refl _)
  have gt : (s1.heap.push { cls := .type "tuple", data := .seq [u].toArray }).get? s1.heap.objs.size = some { cls := .type "tuple", data := .seq [u].toArray } := Heap.get?_push_size _ rfl
  have I2 := I1.laid (a := s1.heap.objs.size) (o := .tup [v]) (t' := s1.toks) (h' := s1.heap.push { cls := .type "tuple", data := .seq [u].toArray }) (fun b w e => Heap.get?_push_of_some _ e) (Nat.le_refl _) ⟨(show 1 ≤ sizeLine by decide), [u], .cons r .nil, ⟨_, gt, rfl, _, rfl⟩⟩
  obtain ⟨hT, q⟩ := q s1.heap.objs.size nd
  refine lam_tail I2 TB hcode hm hu hT (L.has I.ok) fun f H2 s' I3 eN T1 l => ?_
  have tup2 : H2 s1.heap.objs.size = some (.tup [v]) := eN _ _ upd_same fun ps z => by cases z
  refine ⟨.ref f, H2, I3, rfl, q f H2 eN T1 (act_lam L l (fun s2 H3 c doc pm ctv kp ok => ?_) hbody)⟩
  obtain ⟨_, its, rv, ot, ho, _, n, hdt⟩ := ok _ _ (kp _ _ tup2 True.intro)
  cases rv with
  | cons r1 rr =>
    cases rr
    obtain ⟨ka, hb, hka⟩ := hbind (X.env.qual ++ "<lambda>") (cloFrom X.env.cells scope.names []) doc pm (.ref c) ctv s1.heap.objs.size
    exact ⟨[(a, _)], fun y hy => by rw [List.mem_singleton.mp hy]; exact hla, .of_defaults (T := s1.heap.objs.size) rfl ho hdt hb (hka _)⟩
/-- a(), a name that holds a callable of known doing -/
theorem pe_callA {H0 : Hp} {k i : Nat} {f : Addr} {R : XK → Hp → VK → Prop} {W : WX} {E : XK} {a : Str} {p1 p2 : Pos} (hA : Act0 X.prog X.w X.K X.mg X.base k H0 f R) (tk : Takes X W) (hW : ∀ cls d σ' H', E cls d H' → W cls d σ' H')
    (hr : Room k X.A) (hN : X.N[i]? = some a) (hv : Vis X.env.scope a) (hd : (a == ("__debug__" : Str)) = false := by decide) (hcd : (a == ("__classdict__" : Str)) = false := by decide) :
    PE X (.Call (.Name a p1) [] [] p2) (fun σ H Q => σ[i]? = some (some (.ref f)) ∧ KeepF H0 H ∧ R E H Q) := by
  refine ⟨fun pins s σ H Q I h => ?_⟩
  obtain ⟨hs, hk, hR⟩ := h
  refine wpAny_Call_Name_kw (thn ((pe_var (pos := p1) (i := i) hN hv hd hcd).run pins s σ H (fun v H1 => v = .ref f ∧ H1 = H) I ⟨.ref f, hs, rfl, rfl⟩) fun u s1 ⟨v, H1, I1, r1, q1⟩ => ?_)
  obtain ⟨ev, eH⟩ := q1
  subst ev
  rw [eH] at I1
  obtain rfl : u = Value.ref f := r1
  obtain ⟨fo, rc⟩ := hA X.A X.stack s1 H Q E hr I1.env0 hk hR
  refine PySem.W.callWith_F0 fo ?_
  have hx : Passes (L2.CX X.prog X.w) X E := passes_call tk hW
  refine wpAny_call (codeAny_mono rc fun r s' hq => ?_)
  cases r with
  | error e => exact hx pins σ H s1 e s' I1 hq
  | ok fl =>
    cases fl with
    | ret u => exact I1.after hq
    | next => exact False.elim hq
    | brk => exact False.elim hq
    | cont => exact False.elim hq
/-- return a(), where what a lets out is taken, at these names -/
theorem pss_retA {H0 : Hp} {k i : Nat} {f : Addr} {R : XK → Hp → VK → Prop} {W : WX} {a : Str} {p1 p2 p3 : Pos} (hA : Act0 X.prog X.w X.K X.mg X.base k H0 f R) (tk : Takes X W)
    (hr : Room k X.A) (hN : X.N[i]? = some a) (hv : Vis X.env.scope a) (hd : (a == ("__debug__" : Str)) = false := by decide) (hcd : (a == ("__classdict__" : Str)) = false := by decide) :
    PSs X [.Return (some (.Call (.Name a p1) [] [] p2)) p3] (fun D σ H => σ[i]? = some (some (.ref f)) ∧ KeepF H0 H ∧ R (fun cls d H' => W cls d σ H') H D.rt) := by
  refine pss_one (ps_ret (pos := p3) (te := fun σ H Q => σ[i]? = some (some (.ref f)) ∧ KeepF H0 H ∧ R (fun cls d H' => W cls d σ H') H Q) ?_)
  refine ⟨fun pins s σ H Q I h => ?_⟩
  obtain ⟨hs, hk, hR⟩ := h
  refine wpAny_Call_Name_kw (thn ((pe_var (pos := p1) (i := i) hN hv hd hcd).run pins s σ H (fun v H1 => v = .ref f ∧ H1 = H) I ⟨.ref f, hs, rfl, rfl⟩) fun u s1 ⟨v, H1, I1, r1, q1⟩ => ?_)
  obtain ⟨ev, eH⟩ := q1
  subst ev
  rw [eH] at I1
  obtain rfl : u = Value.ref f := r1
  obtain ⟨fo, rc⟩ := hA X.A X.stack s1 H Q (fun cls d H' => W cls d σ H') hr I1.env0 hk hR
  refine PySem.W.callWith_F0 fo ?_
  refine wpAny_call (codeAny_mono rc fun r s' hq => ?_)
  cases r with
  | error e => exact passAt tk σ pins H s1 e s' I1 hq
  | ok fl =>
    cases fl with
    | ret u => exact I1.after hq
    | next => exact False.elim hq
    | brk => exact False.elim hq
    | cont => exact False.elim hq
end
/-- a call over a greater ground: the callee is handed lambdas -/
def tCallZ (X : Cx) (sp : Heap → Sp) (dvs : List V) (t : TA) : TE := fun σ H Q => t σ H fun vs H1 => ∀ B, Zb X σ H1 B → sp B (vs ++ dvs) H1 Q L2.E0
section
variable {X : Cx} {k : Nat} {f : Addr} {fd : FuncData} {ps : List Str} {sp : Heap → Sp} {dvs : List V} {ds : List Value} {x : Str} {p pos : Pos} {e : Expr} {es : List Expr} {t : TA}
theorem pe_callZ (hfn : ∀ x c, X.env.cells.lookup x = some c → X.fn x = true) (F : ∀ B, FnOk X.prog X.w X.K X.mg B L2.CX0 k f fd ps (sp B)) (hr : Room k X.A) (hg : Gl X x) (hm : X.mg x = some (.ref f)) (hk : PySem.W.keepIn X.K (.ref f) = true) (hb : Binds X.K fd ps ds) (hd : Vals dvs ds)
    (ha : PA X (e :: es) t) (hdb : (x == ("__debug__" : Str)) = false := by decide) (he : starEach (e :: es) X.env = (false, eval e X.env) :: starEach es X.env := by rfl) (hpl : (backTo pos (starEach es X.env)).any (·.1) = false := by rfl) :
    PE X (.Call (.Name x p) (e :: es) [] pos) (tCallZ X sp dvs t) := by
  refine ⟨fun pins s σ H Q I h => ?_⟩
  refine wpAny_Call_Name_kw (ld_glob I hg hm ?_ hdb)
  refine PySem.W.callWith_K (h₀ := X.base) I.ok.mod.kin hk (thn (ha.run pos pins s σ H _ I h) fun us s1 ⟨vs, H1, I1, r, q⟩ => ⟨I1.kIn, ?_⟩) he hpl
  obtain ⟨B, xb⟩ := extB_ex I1 hfn
  have h := q B ⟨pins, s1, I1, xb⟩
  have r2 : Vals (vs ++ dvs) (us ++ ds) := r.append hd
  have hl : (us ++ ds).length = ps.length := by rw [← r2.length]; exact (F B).len _ _ _ _ h
  refine wpAny_call (codeAny_mono ((F B).run X.A X.stack s1 H1 ⟨us, []⟩ (us ++ ds) (vs ++ dvs) Q L2.E0 hr (xb.env0 I1) (hb s1 us I1.kIn hl) r2 h) fun r s' hq => ?_)
  cases r with
  | error e => exact hq.elim
  | ok fl =>
    cases fl with
    | ret u => exact I1.after hq
    | next => exact False.elim hq
    | brk => exact False.elim hq
    | cont => exact False.elim hq
end
section
variable {X : Cx}
/-- the name that the codes of a def's lambdas bear -/
def lamQ (q : Str) : Str := q ++ ".<locals>." ++ "<lambda>"
/-- one table -/
theorem pe_lamS {c P : Addr} {q : Str} {k : Nat} {params : Arguments} {body : Expr} {scope : Scope} {pos : Pos} {t : XK → TE} (TB : TabB X.base X.mg c P) (hcode : X.env.code = .ref c) (hq : X.env.qual ++ "<lambda>" = q) (L : LamG X.N X.env.scope scope) (hdef : defaultsOf params X.env = ([], []))
    (hbind : ∀ (q : Str) (cl : List (Str × Addr)) (doc pm cv ctv : Value), bindArgs (PySem.W.kdv_fn "<lambda>" q params (.expr body) scope cl .none doc pm cv ctv) ⟨[], []⟩ = pure [])
    (hbody : ∀ (B : Heap) (A : Around) (outer : List Env) (s : Shared) (H : Hp) (E : XK) (f c' : Addr), Room k (A.deeper (lamEnv X scope s.heap.objs.size f c')) → PE (lamCx (onB X B) A outer s H E scope f c') body (t E)) :
    PE X (.Lambda params body scope pos) (tLam X (k + 1) [(P, q)] t) := by
  subst hq
  exact pe_lam TB hcode (List.mem_singleton.mpr rfl) (fun p hp _ => by rw [List.mem_singleton.mp hp]) L hdef hbind hbody
theorem pe_lam1S {c P : Addr} {q : Str} {k : Nat} {params : Arguments} {body : Expr} {scope : Scope} {pos : Pos} {t : XK → TE} {a : Str} {e : Expr} {te : TE} (TB : TabB X.base X.mg c P) (hcode : X.env.code = .ref c) (hq : X.env.qual ++ "<lambda>" = q)
    (L : LamG X.N X.env.scope scope) (hd1 : params.defaults = [e]) (hk0 : params.kw_defaults = []) (he : PE X e te) (hla : scope.names.lookup a = some .local)
    (hbind : ∀ (q : Str) (cl : List (Str × Addr)) (doc pm cv ctv : Value) (d : Addr), ∃ ka : Option (Array Value) → Sem (List (Str × Value)), bindArgs (PySem.W.kdv_fn "<lambda>" q params (.expr body) scope cl (.ref d) doc pm cv ctv) ⟨[], []⟩ = seqItems? (.ref d) >>= ka ∧ ∀ u, ka (some #[u]) = pure [(a, u)])
    (hbody : ∀ (B : Heap) (A : Around) (outer : List Env) (s : Shared) (H : Hp) (E : XK) (f c' : Addr), Room k (A.deeper (lamEnv X scope s.heap.objs.size f c')) → PE (lamCx (onB X B) A outer s H E scope f c') body (t E)) :
    PE X (.Lambda params body scope pos) (fun σ H Q => te σ H fun v H1 => ∀ d, H1 d = none → tLam X (k + 1) [(P, q)] t σ (upd H1 d (.tup [v])) Q) := by
  subst hq
  exact pe_lam1 TB hcode (List.mem_singleton.mpr rfl) (fun p hp _ => by rw [List.mem_singleton.mp hp]) L hd1 hk0 he hla hbind hbody
end
end Lm

set_option linter.all false
set_option Elab.async false
set_option maxRecDepth 100000
set_option maxHeartbeats 4000000
/-! told: what the rows do with a caught error: lists of truths, count, index -/
namespace Td
open PySem PySem.Spec PyProof.Rows L2
theorem bools_of {bs : List Bool} : ∀ {us : List Value}, Vals (bs.map V.bl) us → us = bs.map Value.bool := by
  induction bs with
  | nil =>
    intro us r
    cases r
    rfl
  | cons b bs ih =>
    intro us r
    cases r with
    | cons r1 rr =>
      cases r1
      rw [ih rr]
      rfl
section
variable {X : Cx}
def isT : Value → Bool
  | .bool b => b
  | _ => false
theorem eq_isT {A : Around} {s : Shared} {bs : List Bool} : ∀ y ∈ (bs.map Value.bool).toArray, SeqAt.EqAt A s y (.bool true) (isT y) := fun y hy => by
  have hy : y ∈ bs.map Value.bool := by simpa using hy
  obtain ⟨b, _, rfl⟩ := List.mem_map.mp hy
  have q := SeqAt.EqAt.bool_bool (A := A) (s := s) b true
  rw [show (b == true) = isT (.bool b) from by cases b <;> rfl] at q
  exact q
theorem countP_isT (bs : List Bool) : (bs.map Value.bool).countP isT = bs.count true := by
  induction bs with
  | nil => rfl
  | cons b bs ih =>
    rw [List.map_cons, List.countP_cons, List.count_cons, ih]
    cases b <;> rfl
/-- l.count(True) -/
def rCntT : V → List V → Hp → VK → Prop := fun x xs H Q => ∃ (p : Addr) (bs : List Bool), x = .ref p ∧ xs = [.bl true] ∧ H p = some (.lst (bs.map V.bl)) ∧ Q (.int (bs.count true : Nat)) H
theorem mt_countT : MtR X "list.count" rCntT := by
  intro pins s σ H x xs v us Q I rx rxs h
  obtain ⟨p, bs, rfl, rfl, hs, q⟩ := h
  cases rx
  obtain ⟨u, rfl, ru⟩ := rxs.one
  cases ru
  obtain ⟨its, rv, ⟨⟨cls, dd, data, sl⟩, n, ho, hc, hdn, hd⟩, hlen⟩ := I.list (.inl (.inl hs))
  simp only at hc hd
  subst hc hd
  have hi := bools_of rv
  subst hi
  refine call_meets PySem.F.slot_list_count ⟨_, ho, rfl⟩ PySem.F.entry_list_count (PySem.F.args_list_count_2 _ _)
    (SeqAt.list_countAt p (bs.map Value.bool).toArray n dd sl (.bool true) isT) ⟨ho, eq_isT, ?_⟩
  have ec : (bs.map Value.bool).toArray.toList.countP isT = bs.count true := countP_isT bs
  refine ⟨.int (bs.count true : Nat), H, I.tok _, ⟨s.toks, ?_⟩, q⟩
  show Value.int (((bs.map Value.bool).toArray.toList.countP isT : Nat) : Int) s.toks = Value.int ((bs.count true : Nat) : Int) s.toks
  rw [ec]
/-- l.index(True), where it stands -/
def rIdxT : V → List V → Hp → VK → Prop := fun x xs H Q => ∃ (p : Addr) (bs : List Bool) (j : Nat), x = .ref p ∧ xs = [.bl true] ∧ H p = some (.lst (bs.map V.bl)) ∧ bs[j]? = some true ∧ (∀ m : Nat, m < j → bs[m]? = some false) ∧ Q (.int (j : Nat)) H
theorem mt_indexT : MtR X "list.index" rIdxT := by
  intro pins s σ H x xs v us Q I rx rxs h
  obtain ⟨p, bs, j, rfl, rfl, hs, hj, hno, q⟩ := h
  cases rx
  obtain ⟨u, rfl, ru⟩ := rxs.one
  cases ru
  obtain ⟨its, rv, ⟨⟨cls, dd, data, sl⟩, n, ho, hc, hdn, hd⟩, hlen⟩ := I.list (.inl (.inl hs))
  simp only at hc hd
  subst hc hd
  have hi := bools_of rv
  subst hi
  have hjn : j < bs.length := (List.getElem?_eq_some_iff.mp hj).1
  rw [List.length_map] at hlen
  have hsz : bs.length ≤ 1152921504606846975 := Nat.le_trans hlen (by rw [sizeLine_eq]; decide)
  have at_ : ∀ (m : Nat) (hm : m < (bs.map Value.bool).toArray.size), (bs.map Value.bool).toArray[m] = .bool (bs[m]'(by simpa using hm)) := fun m hm => by simp
  refine call_meets PySem.F.slot_list_index ⟨_, ho, rfl⟩ PySem.F.entry_list_index (PySem.F.args_list_index_2 _ _)
    (SeqAt.list_indexAt p (bs.map Value.bool).toArray n dd sl (.bool true) isT j (by simpa using hjn) (by omega) ?_ fun m hm hmj => ?_) ⟨ho, eq_isT, ?_⟩
  · rw [at_ j (by simpa using hjn)]
    exact (List.getElem?_eq_some_iff.mp hj).2
  · rw [at_ m hm]
    obtain ⟨_, e⟩ := List.getElem?_eq_some_iff.mp (hno m hmj)
    show bs[m] = false
    exact e
  · exact ⟨.int (j : Nat), H, I.tok _, ⟨s.toks, rfl⟩, q⟩
end
section
variable {X : Cx} {T : String} {name : Str} {id : String} {r : V → List V → Hp → VK → Prop} {o e : Expr} {es : List Expr} {to : TE} {t : TA} {apos cpos : Pos}
/-- a method of a built-in thing, where a reading must not speak of X.K -/
theorem pe_bmS (K : PySem.W.Frag) (hK : X.K = K) (pa : PlainAttrs T) (slot : Slot T name id) (hty : typeOf (.builtin id) = pure (.type "method_descriptor")) (hm : MtR X id r) (ho : PE X o to) (ha : PA X (e :: es) t)
    (hbase : attributeBase o name X.env (eval o X.env) = eval o X.env := by rfl)
    (hfew : ((backTo cpos (starEach (e :: es) X.env)).all (fun x => !x.1) && (backToKw cpos (keywordEach [] X.env)).all (fun x => x.1.isSome)
      && decide ((e :: es).length + ([] : List Keyword).length + (if ([] : List Keyword).isEmpty then 0 else 1) < 30)) = true := by rfl)
    (hline : (apos.endLine == cpos.line) = true := by rfl) (hs : starEach (e :: es) X.env = (false, eval e X.env) :: starEach es X.env := by rfl) (hplain : (backTo cpos (starEach es X.env)).any (·.1) = false := by rfl) :
    PE X (.Call (.Attribute o name apos) (e :: es) [] cpos) (tBM K T r to t) := by
  subst hK
  exact pe_bm pa slot hty hm ho ha hbase hfew hline hs hplain
end
/-! ### l += m of lists -/
theorem cutV_to (xs : List V) (k : Nat) : cutV xs none (some (k : Int)) = xs.take k := by
  unfold cutV
  rw [HT.sIx_none, HT.sIx_nat, List.drop_zero, Nat.sub_zero]
  by_cases h : k ≤ xs.length
  · rw [Nat.min_eq_left h]
  · rw [Nat.min_eq_right (by omega), List.take_length, List.take_of_length_le (by omega)]

theorem list_hfi : fillsInplaceSlot (.type "list") "add" (Operator.Add == .Add) = pure false := by
  unfold fillsInplaceSlot
  show (typeLookup (.type "list") (dunderI "add") >>= fun fi => pure (fi.isSome && !isSeqSlot fi)) = pure false
  rw [PySem.F.slot_list_iadd.lookup]
  rfl
theorem list_seqI : seqSlot? (.type "list") (dunderI "add") = pure (some (.builtin "list.__iadd__")) := by
  unfold seqSlot?
  rw [PySem.F.slot_list_iadd.lookup]
  rfl
section
variable {X : Cx}
def rExt : V → V → Hp → VK → Prop := fun x y H Q => ∃ l b xs zs, x = .ref l ∧ y = .ref b ∧ H l = some (.lst xs) ∧ H b = some (.lst zs) ∧ xs.length + zs.length ≤ sizeLine ∧ Q (.ref l) (upd H l (.lst (xs ++ zs)))
theorem in_ext : InOp X .Add rExt := by
  intro pins s σ H x y u v Q I rx ry h
  obtain ⟨l, b, xs, zs, rfl, rfl, hH, hB, hz, q⟩ := h
  cases rx
  cases ry
  obtain ⟨z, its, n, r, hl, e⟩ := I.lstM hH
  obtain ⟨z2, its2, n2, r2, hl2, e2⟩ := I.lstM hB
  have hsz : its.toArray.size + its2.toArray.size ≤ sizeLine := by rw [List.size_toArray, List.size_toArray]; omega
  have hlong : ¬ (!its.toArray.isEmpty && Builtin.List.listTooLong (its.toArray.size + its2.toArray.size)) = true := by
    rw [notLongL hsz, Bool.and_false]
    exact Bool.false_ne_true
  have ha : s.TypeIs (.ref l) "list" := ⟨_, e, rfl⟩
  have hb : s.TypeIs (.ref b) "list" := ⟨_, e2, rfl⟩
  unfold inplaceOp
  refine wpAny_holding ?_
  refine wpAny_bind (wpAny_typeOf ha (wpAny_bind (wpAny_of_eq list_hfi ?_)))
  show wpAny _ _ (if false = true then _ else _) _ _ _
  rw [if_neg Bool.false_ne_true]
  refine wpAny_bind (PySem.wpAny_binaryOp1_none (nm := "add") ha hb PySem.noFill_list_add ?_)
  refine wpAny_bind (wpAny_of_eq list_seqI ?_)
  refine wpAny_bind (wpAny_rule ?_)
  refine call_meets PySem.F.slot_list_iadd ha PySem.F.entry_list_iadd (PySem.F.args_list_iadd_2 _ _)
    (AutoSeq1.list___iadd___list_list_0 l its.toArray n b its2.toArray n2 hlong (by rw [List.size_toArray]; omega) (by omega)) ⟨e, e2, ?_⟩
  refine ⟨.ref l, _, I.lset (its' := its ++ its2) hH e (by simp) (r.append r2) ?_, rfl, q⟩
  rw [List.length_append]
  omega
end
/-! ### the program's own errors -/
/-- an own exception class without own __init__, that is raised -/
structure EKls (K : PySem.W.Frag) (mg : Str → Option Value) (x : Str) (C : Addr) : Prop where
  gC : mg x = some (.ref C)
  kC : PySem.W.keepIn K (.ref C) = true
  ex : PySem.W.excIn K C [.type "ValueError", .type "Exception", .type "BaseException", .type "object"] "ValueError.__new__" = true
  exC : PySem.W.subIn K (.ref C) (.type "BaseException") = some true
  tyC : PySem.W.typeIn K (.ref C) = some (.type "type")
/-- what the class D, the i-th of Cs, says where its errors are caught -/
structure Kind (K : PySem.W.Frag) (CS : Addr) (Cs : List Addr) (i : Nat) (D : Addr) : Prop where
  is : ExcC K D
  st : PySem.W.exmOne K (.ref D) (.ref CS) = some true
  ve : PySem.W.kitOne K (.ref D) (.type "ValueError") = some true
  at_ : ∀ j c, Cs[j]? = some c → PySem.W.kitOne K (.ref D) (.ref c) = some (decide (j = i))
theorem kit_no {K : PySem.W.Frag} {D C : Addr} (h2 : PySem.W.isClsIn K C = true) (h3 : PySem.W.typeIn K (.ref C) = some (.type "type")) (h4 : PySem.W.subIn K (.ref D) (.ref C) = some false) (n : D ≠ C) : PySem.W.kitOne K (.ref D) (.ref C) = some false := by
  have e1 : ((Value.ref D : Value) == .ref C) = false := by
    refine Bool.eq_false_iff.mpr fun q => n ?_
    exact Value.ref.inj (beq_iff_eq.mp q)
  have e2 : ((PySem.W.clsIn K C).isSome && PySem.W.typeIn K (.ref C) == some (.type "type")) = true := by
    have h2' : (PySem.W.clsIn K C).isSome = true := h2
    rw [h2', h3] <;> rfl
  show (if ((Value.ref D : Value) == .ref C) = true then some true else (if ((PySem.W.clsIn K C).isSome && PySem.W.typeIn K (.ref C) == some (.type "type")) = true then PySem.W.subIn K (.ref D) (.ref C) else none)) = some false
  rw [if_neg (by rw [e1]; exact Bool.false_ne_true), if_pos e2]
  exact h4
theorem kit_self {K : PySem.W.Frag} {D : Addr} : PySem.W.kitOne K (.ref D) (.ref D) = some true := by
  unfold PySem.W.kitOne
  rw [if_pos (beq_self_eq_true _)]
theorem kit_ve {K : PySem.W.Frag} {D : Addr} (h : PySem.W.subIn K (.ref D) (.type "ValueError") = some true) : PySem.W.kitOne K (.ref D) (.type "ValueError") = some true := by
  have e1 : ((Value.ref D : Value) == .type "ValueError") = false := rfl
  have e2 : PySem.W.kitMeta "ValueError" = true := by decide +kernel
  show (if ((Value.ref D : Value) == .type "ValueError") = true then some true else (if PySem.W.kitMeta "ValueError" = true then PySem.W.subIn K (.ref D) (.type "ValueError") else none)) = some true
  rw [if_neg (by rw [e1]; exact Bool.false_ne_true), if_pos e2]
  exact h
theorem exm_of {K : PySem.W.Frag} {D S : Addr} (h1 : PySem.W.subIn K (.ref S) (.type "BaseException") = some true) (h2 : PySem.W.isClsIn K S = true) (h3 : PySem.W.typeIn K (.ref S) = some (.type "type")) (h4 : PySem.W.subIn K (.ref D) (.ref S) = some true) :
    PySem.W.exmOne K (.ref D) (.ref S) = some true := by
  have e1 : (PySem.W.subIn K (.ref S) (.type "BaseException") == some true) = true := by rw [h1] <;> rfl
  have e2 : ((PySem.W.clsIn K S).isSome && PySem.W.typeIn K (.ref S) == some (.type "type")) = true := by
    have h2' : (PySem.W.clsIn K S).isSome = true := h2
    rw [h2', h3] <;> rfl
  show (if (PySem.W.subIn K (.ref S) (.type "BaseException") == some true) = true then (if ((PySem.W.clsIn K S).isSome && PySem.W.typeIn K (.ref S) == some (.type "type")) = true then PySem.W.subIn K (.ref D) (.ref S) else none) else none) = some true
  rw [if_pos e1, if_pos e2]
  exact h4
theorem kind_at {K : PySem.W.Frag} {D c0 c1 c2 c3 c4 c5 c6 c7 c8 : Addr} {i : Nat} (h0 : PySem.W.kitOne K (.ref D) (.ref c0) = some (decide (0 = i))) (h1 : PySem.W.kitOne K (.ref D) (.ref c1) = some (decide (1 = i))) (h2 : PySem.W.kitOne K (.ref D) (.ref c2) = some (decide (2 = i)))
    (h3 : PySem.W.kitOne K (.ref D) (.ref c3) = some (decide (3 = i))) (h4 : PySem.W.kitOne K (.ref D) (.ref c4) = some (decide (4 = i))) (h5 : PySem.W.kitOne K (.ref D) (.ref c5) = some (decide (5 = i))) (h6 : PySem.W.kitOne K (.ref D) (.ref c6) = some (decide (6 = i)))
    (h7 : PySem.W.kitOne K (.ref D) (.ref c7) = some (decide (7 = i))) (h8 : PySem.W.kitOne K (.ref D) (.ref c8) = some (decide (8 = i))) : ∀ j c, [c0, c1, c2, c3, c4, c5, c6, c7, c8][j]? = some c → PySem.W.kitOne K (.ref D) (.ref c) = some (decide (j = i)) := by
  intro j c hj
  rcases j with _ | _ | _ | _ | _ | _ | _ | _ | _ | j
  · cases hj; exact h0
  · cases hj; exact h1
  · cases hj; exact h2
  · cases hj; exact h3
  · cases hj; exact h4
  · cases hj; exact h5
  · cases hj; exact h6
  · cases hj; exact h7
  · cases hj; exact h8
  · cases hj
section
variable {X : Cx} {x : Str} {C : Addr} {p pos pos2 : Pos} {e : Expr} {es : List Expr} {t : TA} {W : WX}
/-- raise X(e, ..) -/
theorem ps_raiseE (hc : X.calm = true) (tk : Takes X W) (c : EKls X.K X.mg x C) (hg : Gl X x) (ha : PA X (e :: es) t) (hdb : (x == ("__debug__" : Str)) = false := by decide)
    (he : starEach (e :: es) X.env = (false, eval e X.env) :: starEach es X.env := by rfl) (hpl : (backTo pos (starEach es X.env)).any (·.1) = false := by rfl) :
    PS X (.Raise (some (.Call (.Name x p) (e :: es) [] pos)) none pos2) (fun _ σ H => t σ H fun vs H1 => vs.length ≤ sizeLine ∧ W (.ref C) none σ H1) :=
  ps_raise hc tk (pmk_ownA PySem.F.excBase_ValueError c.ex c.gC c.kC (raises_own c.exC c.tyC) hg ha hdb he hpl)
def IsB (K : PySem.W.Frag) (D : Addr) (c : V) (b : Bool) : Prop := ∃ cv, (∀ u, RelV c u → u = cv) ∧ PySem.W.kitOne K (.ref D) cv = some b
theorem isb_ref {K : PySem.W.Frag} {D C : Addr} {b : Bool} (h : PySem.W.kitOne K (.ref D) (.ref C) = some b) : IsB K D (.ref C) b := ⟨.ref C, fun _ r => r, h⟩
theorem isb_ty {K : PySem.W.Frag} {D : Addr} {n : String} {b : Bool} (h : PySem.W.kitOne K (.ref D) (.type n) = some b) : IsB K D (.ty n) b := ⟨.type n, fun _ r => r, h⟩
/-- isinstance(e, c), e the caught error -/
def rIsG (K : PySem.W.Frag) (cls : Value) (d : Option Addr) (a : Addr) : List V → Hp → VK → Prop := fun xs H Q => ∃ D, cls = .ref D ∧ d = none ∧ ExcC K D ∧ ∃ (c : V) (b : Bool), xs = [.ref a, c] ∧ IsB K D c b ∧ Q (.bl b) H
theorem call_isG {a : Addr} {oe : Obj} {cls : Value} {d : Option Addr} {pn : List (Addr × Obj)} (hz : Zc cls d oe) (hf : ∃ vs, oe.data = .fields vs) : CallR (X.suite a ((a, oe) :: pn)) (.builtin "isinstance") (rIsG X.K cls d a) := by
  intro pins s σ H xs us Q I r h
  obtain ⟨D, rfl, rfl, ec, c, b, rfl, ⟨cv, h1, h2⟩, q⟩ := h
  exact call_isE (X := X) ec hz hf pins s σ H _ us Q I r ⟨c, cv, b, rfl, h1, h2, q⟩
end
/-- the kinds' words, in turn -/
def kindW : List Str := ["BadName", "BadNumber", "BadPlan", "BadRow", "BadText", "Gone", "TooGreat", "Twice", "Within"]
/-- told(work): the work's answer, or the pair that tells its error -/
def spTold (P : Program) (w : World) (K : PySem.W.Frag) (mg : Str → Option Value) (CS : Addr) (Cs : List Addr) (k : Nat) (B : Heap) : Sp := fun vs H Q _ => ∃ (f : Addr) (R : XK → Hp → VK → Prop), vs = [.ref f] ∧ Lm.Act0 P w K mg B k H f R ∧
  ∀ E : XK, (∀ (D : Addr) (i : Nat) (nm : Str) (H' : Hp), Kind K CS Cs i D → kindW[i]? = some nm → (∀ H2 p, Same H' H2 → H' p = none → H2 p = some (.tup [.str nm, .int 0]) → Q (.ref p) H2) → E (.ref D) none H') → R E H Q
/-- all(works, due): each work raises the same, and changes nothing -/
def spAll (P : Program) (w : World) (K : PySem.W.Frag) (mg : Str → Option Value) (CS : Addr) (Cs : List Addr) (k : Nat) (B : Heap) : Sp := fun vs H Q _ => ∃ (a dt : Addr) (ws : List Addr) (i : Nat) (nm : Str) (D : Addr), vs = [.ref a, .ref dt] ∧ H a = some (.lst (ws.map V.ref)) ∧ ws.length ≤ 100 ∧
  H dt = some (.tup [.str nm, .int 0]) ∧ Kind K CS Cs i D ∧ kindW[i]? = some nm ∧ (∀ f ∈ ws, ∃ R, Lm.Act0 P w K mg B k H f R ∧ ∀ H' E Q, Same H H' → (∀ H2, Same H' H2 → E (.ref D) none H2) → R E H' Q) ∧ ∀ H', Same H H' → Q (.bl true) H'
/-! ### a def whose code object is known -/
theorem _root_.L2.Fun.okL {P : Program} {w : World} {K : PySem.W.Frag} {mg : Str → Option Value} {base : Heap} {x qual : Str} {st : Stmt} {f c : Addr} {fd : FuncData} {N ps : List Str} {k : Nat} {sp : Sp} (F : L2.Fun K x qual st f fd) (hc : fd.code = .ref c) (S : FnScope N ps (defScope st)) (len : ∀ vs H Q E, sp vs H Q E → vs.length = ps.length)
    (hbody : ∀ (A : Around) (outer : List Env) (s : Shared) (H : Hp) (vs : List V) (Q : VK) (E : XK), Room k (A.deeper (envOfC qual (defScope st) s.heap.objs.size f (.ref c))) → sp vs H Q E →
      ∃ t, PSs (cxOf L2.CX0 P w K mg base N qual (defScope st) f (.ref c) A outer s H E).nox (defBody st) t ∧ t { nx := fun _ H' => Q .non H', rt := Q } (L2.start N vs) H) : FnOk P w K mg base L2.CX0 (k + 1) f fd ps sp := by
  obtain ⟨oc, od, kV, doc, pm, an, cdv, ct, osl, rfl, lk, hcd⟩ := F.ex
  have e : cdv = .ref c := hc
  subst e
  refine fn_of lk hcd S len fun A outer s H vs Q E hr hsp => ?_
  obtain ⟨t, h, q⟩ := hbody A outer s H vs Q E hr hsp
  exact ⟨t, h.nox, q⟩
end Td

set_option linter.all false
set_option Elab.async false
set_option maxRecDepth 100000
set_option maxHeartbeats 4000000
/-! instances' fields; dicts whose keys are tuples; tuples of ints compared -/
namespace G7
open PySem PySem.Spec PyProof.Rows L2
/-- what may be read as a dict with tuple keys -/
def dtO : Option HO → Option (List (List Key × V))
  | some (.dT xs) => some xs
  | some (.frz _ (.dT xs)) => some xs
  | _ => none
theorem rd_dtO {H : Hp} {a : Addr} {xs : List (List Key × V)} (h : dtO (H a) = some xs) : Rd H a (.dT xs) := by
  unfold dtO at h
  split at h
  · rename_i e; cases h; exact .inl e
  · rename_i o _ e; cases h; exact .inr ⟨o, e⟩
  · cases h
theorem dtO_d {xs : List (List Key × V)} : dtO (some (.dT xs)) = some xs := rfl
theorem dtO_f {o : Obj} {xs : List (List Key × V)} : dtO (some (.frz o (.dT xs))) = some xs := rfl
/-- the words of a tuple that is a key -/
def kysO : List V → Option (List Key)
  | [] => some []
  | x :: r => match keyO x with
    | some k => (kysO r).map (k :: ·)
    | none => none
theorem kysO_eq : ∀ {xs : List V} {ks : List Key}, kysO xs = some ks → xs = ks.map kV
  | [], ks, h => by cases h; rfl
  | x :: r, ks, h => by
    unfold kysO at h
    cases e : keyO x with
    | none => rw [e] at h; cases h
    | some k =>
      rw [e] at h
      cases e2 : kysO r with
      | none => rw [e2] at h; cases h
      | some l =>
        rw [e2] at h
        cases h
        rw [List.map_cons, ← kysO_eq e2, ← keyO_eq e]
theorem kysO_n : kysO [] = some [] := rfl
theorem kysO_i {i : Int} {r : List V} : kysO (.int i :: r) = (kysO r).map (Sum.inl i :: ·) := rfl
theorem kysO_s {i : Str} {r : List V} : kysO (.str i :: r) = (kysO r).map (Sum.inr i :: ·) := rfl
/-- the ints of a tuple -/
def intsV : List V → Option (List Int)
  | [] => some []
  | .int i :: r => (intsV r).map (i :: ·)
  | _ :: _ => none
theorem intsV_eq : ∀ {xs : List V} {ns : List Int}, intsV xs = some ns → xs = ns.map V.int
  | [], ns, h => by cases h; rfl
  | x :: r, ns, h => by
    cases x with
    | int i =>
      have h : (intsV r).map (i :: ·) = some ns := h
      cases e2 : intsV r with
      | none => rw [e2] at h; cases h
      | some l =>
        rw [e2] at h
        cases h
        rw [List.map_cons, ← intsV_eq e2]
    | _ => cases h
theorem intsV_n : intsV [] = some [] := rfl
theorem intsV_i {i : Int} {r : List V} : intsV (.int i :: r) = (intsV r).map (i :: ·) := rfl
section
variable {X : Cx}
theorem pe_fldK (K : PySem.W.Frag) (hK : X.K = K) {e : Expr} {f : Str} {pos : Pos} {ta : TE} (he : PE X e ta) (hb : attributeBase e f X.env (eval e X.env) = eval e X.env) : PE X (.Attribute e f pos) (tFld K ta f) := hK ▸ pe_fld he hb
/-- t < u, tuples of ints -/
def rLtH : R2 := fun x y H Q => ∃ a b xs ys ns ms, x = .ref a ∧ y = .ref b ∧ tpO (H a) = some xs ∧ tpO (H b) = some ys ∧ intsV xs = some ns ∧ intsV ys = some ms ∧ Q (.bl (HT.lexLt ns ms)) H
theorem op_ltTH (hu : X.A.units < cLine) : OpR X (compareOp .Lt) rLtH := opImp (op_ltT hu) fun x y H Q ⟨a, b, xs, ys, ns, ms, e1, e2, h1, h2, i1, i2, q⟩ =>
  ⟨a, b, ns, ms, e1, e2, .inl (by rw [← intsV_eq i1]; exact rd_tpO h1), .inl (by rw [← intsV_eq i2]; exact rd_tpO h2), q⟩
/-! dicts with tuple keys -/
theorem dgetT_of {H : Hp} {a b : Addr} {kvs : List (List Key × V)} {xs : List V} {ks : List Key} (h : dtO (H a) = some kvs) (hb : H b = some (.tup xs)) (hk : kysO xs = some ks) : DGet H a (.ref b) (valV kvs ks) :=
  .inr ⟨kvs, ks, b, rd_dtO h, rfl, by rw [← kysO_eq hk]; exact hb, rfl⟩
def tGetT (td ty : TE) : TE := fun σ H Q => td σ H fun x H1 => ty σ H1 fun y H2 => ∃ a kvs b xs ks v, x = .ref a ∧ dtO (H2 a) = some kvs ∧ y = .ref b ∧ H2 b = some (.tup xs) ∧ kysO xs = some ks ∧ valV kvs ks = some v ∧ Q v H2
def tInT (ty td : TE) : TE := fun σ H Q => ty σ H fun y H1 => td σ H1 fun x H2 => ∃ a kvs b xs ks, x = .ref a ∧ dtO (H2 a) = some kvs ∧ y = .ref b ∧ H2 b = some (.tup xs) ∧ kysO xs = some ks ∧ Q (.bl (valV kvs ks).isSome) H2
def tNinT (ty td : TE) : TE := fun σ H Q => ty σ H fun y H1 => td σ H1 fun x H2 => ∃ a kvs b xs ks, x = .ref a ∧ dtO (H2 a) = some kvs ∧ y = .ref b ∧ H2 b = some (.tup xs) ∧ kysO xs = some ks ∧ Q (.bl (!(valV kvs ks).isSome)) H2
def sPutT (td ty tv : TE) : TS := fun D σ H => tv σ H fun v H1 => td σ H1 fun x H2 => ty σ H2 fun y H3 => ∃ a kvs b xs ks, x = .ref a ∧ H3 a = some (.dT kvs) ∧ y = .ref b ∧ H3 b = some (.tup xs) ∧ kysO xs = some ks ∧ kvs.length < sizeLine ∧ D.nx σ (upd H3 a (.dT (putK kvs ks v)))
def sAugT (f : Int → Int → Int) (td ty tv : TE) : TS := fun D σ H => td σ H fun x H1 => ty σ H1 fun y H2 => ∃ a kvs b xs ks i, x = .ref a ∧ dtO (H2 a) = some kvs ∧ y = .ref b ∧ H2 b = some (.tup xs) ∧ kysO xs = some ks ∧ valV kvs ks = some (.int i) ∧
  tv σ H2 fun z H3 => ∃ j kvs2, z = .int j ∧ H3 a = some (.dT kvs2) ∧ H3 b = some (.tup xs) ∧ kvs2.length < sizeLine ∧ D.nx σ (upd H3 a (.dT (putK kvs2 ks (.int (f i j)))))
def tPopT (td ty : TE) : TE := fun σ H Q => td σ H fun x H1 => ∃ a kvs, x = .ref a ∧ H1 a = some (.dT kvs) ∧ ty σ H1 fun y H2 => ∃ kvs2 b xs ks v, y = .ref b ∧ H2 a = some (.dT kvs2) ∧ H2 b = some (.tup xs) ∧ kysO xs = some ks ∧ valV kvs2 ks = some v ∧ Q v (upd H2 a (.dT (dropK kvs2 ks)))
variable {o e value : Expr} {td ty tv : TE} {pos pos' : Pos}
theorem pe_getT (hu : X.A.units + 1 < cLine) (ho : PE X o td) (hi : PE X e ty) (hs : NoSl e) : PE X (.Subscript o e pos) (tGetT td ty) :=
  PE.imp' (pe_dget hu (pe_m ho) (pe_m hi) hs) fun σ H Q h => tM_of h fun x H1 q => tM_of q fun y H2 q => by
    obtain ⟨a, kvs, b, xs, ks, v, e1, h1, e2, h2, h3, h4, k⟩ := q
    subst e1 e2
    exact ⟨a, v, rfl, by rw [← h4]; exact dgetT_of h1 h2 h3, k⟩
theorem pc_inT (hu : X.A.units + 1 < cLine) (hi : PE X e ty) (ho : PE X o td) : PC X .In e o (tInT ty td) := by
  have h0 := pc_din hu (pe_m hi) (pe_m ho)
  exact ⟨fun pins s σ H Q I h => h0.run pins s σ H Q I (tM_of h fun y H1 q => tM_of q fun x H2 q => by
    obtain ⟨a, kvs, b, xs, ks, e1, h1, e2, h2, h3, k⟩ := q
    subst e1 e2
    exact ⟨a, _, rfl, dgetT_of h1 h2 h3, k⟩)⟩
theorem pc_ninT (hu : X.A.units + 1 < cLine) (hi : PE X e ty) (ho : PE X o td) : PC X .NotIn e o (tNinT ty td) := by
  have h0 := pc_dnotin hu (pe_m hi) (pe_m ho)
  exact ⟨fun pins s σ H Q I h => h0.run pins s σ H Q I (tM_of h fun y H1 q => tM_of q fun x H2 q => by
    obtain ⟨a, kvs, b, xs, ks, e1, h1, e2, h2, h3, k⟩ := q
    subst e1 e2
    exact ⟨a, _, rfl, dgetT_of h1 h2 h3, k⟩)⟩
theorem ps_putT (hu : X.A.units + 1 < cLine) (ho : PE X o td) (hi : PE X e ty) (hv : PE X value tv) (hs : swapsWith value (some (.Subscript o e pos')) pos.line X.env = pure false) : PS X (.Assign [.Subscript o e pos'] value pos) (sPutT td ty tv) :=
  PS.imp' (ps_dput hu (pe_m ho) (pe_m hi) (pe_m hv) hs) fun D σ H h => by
    refine tM_of h fun v H1 q => tM_of q fun x H2 q => tM_of q fun y H3 q => ?_
    obtain ⟨a, kvs, b, xs, ks, e1, h1, e2, h2, h3, h4, k⟩ := q
    subst e1 e2
    exact ⟨a, _, rfl, DPut.t h1 (by rw [← kysO_eq h3]; exact h2) h4, k⟩
theorem ps_augT {op : Operator} {f : Int → Int → Int} {rd : V → V → Hp → VK → Prop} (hu : X.A.units + 1 < cLine) (ho : PE X o td) (hi : PE X e ty) (hv : PE X value tv) (hop : InOp X op rd) (hf : ∀ i j H Q, Q (V.int (f i j)) H → rd (.int i) (.int j) H Q)
    (hs : ∀ (ov iv new : Value), augStore e ov iv new = (do
      holding [new, ov, iv] (setItem ov iv new)
      release [new, ov, iv] []
      pure Flow.next)) :
    PS X (.AugAssign (.Subscript o e pos') op value pos) (sAugT f td ty tv) :=
  PS.imp' (ps_daug hu (pe_m ho) (pe_m hi) (pe_m hv) hop hs) fun D σ H h => by
    refine tM_of h fun x H1 q => tM_of q fun y H2 q => ?_
    obtain ⟨a, kvs, b, xs, ks, i, e1, h1, e2, h2, h3, h4, k⟩ := q
    subst e1 e2
    refine ⟨a, .int i, rfl, by rw [← h4]; exact dgetT_of h1 h2 h3, tM_of k fun z H3 q => ?_⟩
    obtain ⟨j, kvs2, rfl, g1, g2, g3, k⟩ := q
    exact hf i j H3 _ ⟨_, DPut.t g1 (by rw [← kysO_eq h3]; exact g2) g3, k⟩
theorem d_popT {pins : List (Addr × Obj)} {σ : L2.St} {H : Hp} {s : Shared} {a b : Addr} {kvs : List (List Key × V)} {k : List Key} {v : V} {A : Around} {E : Value → Shared → Prop} {Q : Value → Shared → Prop} (hu : A.units + 1 < cLine) (I : Inv X pins σ H s) (ha : H a = some (.dT kvs)) (hb : H b = some (.tup (k.map kV))) (hv : valV kvs k = some v)
    (h : ∀ w' s', Inv X pins σ (upd H a (.dT (dropK kvs k))) s' → RelV v w' → Q w' s') : wpAny (model X.prog X.w) A (call (.builtin "dict.pop") [.ref a, .ref b]) Q E s := by
  obtain ⟨z, hd, xs', rel, dd⟩ := dt_of I.hok ha
  have hz : xs'.length ≤ sizeLine := by rw [← Paired.length rel]; exact z
  obtain ⟨p, hp, rv⟩ : ∃ p, atKey xs' k = some p ∧ RelV v p.2 := by
    have r := rel.val k
    rw [hv] at r
    cases e : atKey xs' k with
    | none => rw [e] at r; exact (show False from r).elim
    | some p => rw [e] at r; exact ⟨p, rfl, r⟩
  refine PySem.call_pop_heap (knd := tupleKind (mixKind X.prog X.w)) (k := k) (.inl rfl) (PySem.F.args_dict_pop_2 _ _) (tupleKind_room_in1 hu) (key_of I.hok hb) hd dd hp (fun h' dd' hs => ?_) hz
  obtain ⟨o, es, ep, hq, h2, h3, h4, _, h5⟩ := dd'
  exact h _ _ (d_write I (by rw [ha]; exact True.intro) hs ⟨o, hq⟩ ⟨Nat.le_trans (dropK_le kvs k) z, hd, _, (L2.DX.KT_drop k rel).keeps (fun c ys ec => (by rw [upd_ne (ne_of ec ha (fun z => nomatch z))]; exact ec)), o, es, ep, hq, h2, h3, h4, h5⟩) rv
theorem pe_popT {apos cpos : Pos} (hu : X.A.units + 1 < cLine) (ho : PE X o td) (he : PE X e ty) (m : M1 X o "pop" apos e cpos) : PE X (.Call (.Attribute o "pop" apos) [e] [] cpos) (tPopT td ty) := by
  refine ⟨fun pins s σ H Q I h => ?_⟩
  refine wpAny_Call_method m.base m.few m.line PySem.F.plainAttrs_dict PySem.F.slot_dict_pop PySem.F.type_dict_pop (thn (ho.run pins s σ H _ I h) fun u s1 ⟨x, H1, I1, rx, a, kvs, ex, d, q1⟩ => ?_)
  subst ex
  obtain rfl : u = Value.ref a := rx
  obtain ⟨t1, t2, _⟩ := isD_at I1 (.inr ⟨kvs, .inl d⟩)
  refine ⟨t1, t2, ?_⟩
  rw [m.trees]
  refine Calls.callWith_builtin rfl (Calls.evalArgs_plain (Calls.spliced_cons (thn (he.run pins s1 σ H1 _ I1 q1) fun iv s2 ⟨y, H2, I2, ry, kvs2, b, xs, ks, v, ey, ea, eb, ek, l, q2⟩ => Calls.spliced_nil ?_)))
  subst ey
  obtain rfl : iv = Value.ref b := ry
  exact d_popT hu I2 ea (by rw [← kysO_eq ek]; exact eb) l fun w' s3 I3 rw' => ⟨v, _, I3, rw', q2⟩
end
theorem valV_drop {κ : Type} [DecidableEq κ] (k j : κ) : ∀ kvs : List (κ × V), valV (dropK kvs k) j = if j = k then none else valV kvs j
  | [] => by simp [dropK, valV]
  | p :: r => by
    have ih := valV_drop k j r
    by_cases e : p.1 = k
    · rw [dropK_pos e, ih]
      by_cases e2 : j = k
      · rw [if_pos e2, if_pos e2]
      · rw [if_neg e2, if_neg e2, valV_neg (fun z => e2 (z.symm.trans e))]
    · rw [dropK_neg e]
      by_cases e3 : p.1 = j
      · rw [valV_pos e3, valV_pos e3, if_neg (fun z => e (e3.trans z))]
      · rw [valV_neg e3, valV_neg e3, ih]
theorem nodup_few {α : Type} [DecidableEq α] : ∀ (l D : List α), l.Nodup → (∀ x ∈ l, x ∈ D) → l.length ≤ D.length
  | [], _, _, _ => Nat.zero_le _
  | x :: l, D, hn, hs => by
    obtain ⟨h1, h2⟩ := List.nodup_cons.mp hn
    have hx : x ∈ D := hs x List.mem_cons_self
    have ih := nodup_few l (D.erase x) h2 fun y hy => (List.mem_erase_of_ne fun e => h1 (by rw [← e]; exact hy)).2 (hs y (List.mem_cons_of_mem _ hy))
    have e := List.length_erase_of_mem hx
    have hp : 0 < D.length := List.length_pos_of_mem hx
    rw [List.length_cons]
    omega
end G7

set_option linter.all false
set_option Elab.async false
set_option maxRecDepth 100000
set_option maxHeartbeats 4000000
/-! pairs of ints, rising: the plain law of an index -/
namespace G7
open PySem PySem.Spec PyProof.Rows L2
/-- k parts a list: those ahead are so, those from there on are not -/
structure Cut {α : Type} (l : List α) (p : α → Bool) (k : Nat) : Prop where
  le : k ≤ l.length
  lo : ∀ i x, i < k → l[i]? = some x → p x = true
  hi : ∀ i x, k ≤ i → l[i]? = some x → p x = false
theorem Cut.take {α : Type} {l : List α} {p : α → Bool} {k : Nat} (c : Cut l p k) {x : α} : x ∈ l.take k ↔ x ∈ l ∧ p x = true := by
  constructor
  · intro h
    obtain ⟨i, hi⟩ := List.mem_iff_getElem?.mp h
    rw [List.getElem?_take] at hi
    split at hi
    · rename_i hk
      exact ⟨List.mem_of_getElem? hi, c.lo i x hk hi⟩
    · cases hi
  · rintro ⟨h, hp⟩
    obtain ⟨i, hi⟩ := List.mem_iff_getElem?.mp h
    refine List.mem_iff_getElem?.mpr ⟨i, ?_⟩
    rw [List.getElem?_take, if_pos, hi]
    by_cases hk : i < k
    · exact hk
    · rw [c.hi i x (by omega) hi] at hp
      cases hp
theorem Cut.drop {α : Type} {l : List α} {p : α → Bool} {k : Nat} (c : Cut l p k) {x : α} : x ∈ l.drop k ↔ x ∈ l ∧ p x = false := by
  constructor
  · intro h
    obtain ⟨i, hi⟩ := List.mem_iff_getElem?.mp h
    rw [List.getElem?_drop] at hi
    exact ⟨List.mem_of_getElem? hi, c.hi _ x (by omega) hi⟩
  · rintro ⟨h, hp⟩
    obtain ⟨i, hi⟩ := List.mem_iff_getElem?.mp h
    by_cases hk : i < k
    · rw [c.lo i x hk hi] at hp
      cases hp
    · exact List.mem_iff_getElem?.mpr ⟨i - k, by rw [List.getElem?_drop, show k + (i - k) = i by omega]; exact hi⟩
theorem Cut.slice {α : Type} {l : List α} {p q : α → Bool} {a b : Nat} (c : Cut l p a) (d : Cut l q b) {x : α} : x ∈ (l.drop a).take (b - a) ↔ x ∈ l ∧ p x = false ∧ q x = true := by
  constructor
  · intro h
    obtain ⟨i, hi⟩ := List.mem_iff_getElem?.mp h
    rw [List.getElem?_take] at hi
    split at hi
    · rename_i hk
      rw [List.getElem?_drop] at hi
      exact ⟨List.mem_of_getElem? hi, c.hi _ x (by omega) hi, d.lo _ x (by omega) hi⟩
    · cases hi
  · rintro ⟨h, hp, hq⟩
    obtain ⟨i, hi⟩ := List.mem_iff_getElem?.mp h
    have h1 : a ≤ i := by
      by_cases hk : i < a
      · rw [c.lo i x hk hi] at hp
        cases hp
      · omega
    have h2 : i < b := by
      by_cases hk : i < b
      · exact hk
      · rw [d.hi i x (by omega) hi] at hq
        cases hq
    exact List.mem_iff_getElem?.mpr ⟨i - a, by rw [List.getElem?_take, if_pos (by omega), List.getElem?_drop, show a + (i - a) = i by omega]; exact hi⟩
/-! room -/
theorem hu65_of {A : Around} {k : Nat} (hr : Room k A) : A.in1.units + 64 < cLine := by have := hr.un; show A.units + 1 + 64 < cLine; omega
theorem hu00_of {A : Around} {k : Nat} (hr : Room k A) : A.units < cLine := by have := hr.un; omega
theorem seqIx {i : Int} {n : Nat} (h0 : 0 ≤ i) (h1 : i < (n : Int)) : seqIndex? i n = some i.toNat := by
  unfold seqIndex?
  simp only [show ¬ i < 0 by omega, if_false, h0, h1, decide_true, Bool.and_self, if_true]
/-! bounds -/
def geLo (w : Int) : OI → Bool
  | none => true
  | some l => decide (l ≤ w)
def leHi (w : Int) : OI → Bool
  | none => true
  | some h => decide (w ≤ h)
def btw (w : Int) (lo hi : OI) : Bool := geLo w lo && leHi w hi
/-! pairs -/
def lt2 (p q : Int × Int) : Prop := p.1 < q.1 ∨ p.1 = q.1 ∧ p.2 < q.2
instance (p q : Int × Int) : Decidable (lt2 p q) := by unfold lt2; infer_instance
theorem lt2_trans {p q r : Int × Int} (h : lt2 p q) (k : lt2 q r) : lt2 p r := by
  unfold lt2 at *
  omega
theorem lt2_irrefl {p : Int × Int} (h : lt2 p p) : False := by
  unfold lt2 at h
  omega
theorem lt2_tri (p q : Int × Int) : lt2 p q ∨ p = q ∨ lt2 q p := by
  obtain ⟨a, b⟩ := p
  obtain ⟨c, d⟩ := q
  unfold lt2
  simp only [Prod.mk.injEq]
  omega
theorem lex2 {a b c d : Int} : (HT.lexLt [a, b] [c, d] = true) ↔ lt2 (a, b) (c, d) := by
  rw [HT.lexLt_cons, HT.lexLt_cons, HT.lexLt_nil_nil]
  unfold lt2
  dsimp only
  split <;> rename_i h
  · split <;> rename_i h2
    · constructor
      · intro z; cases z
      · omega
    · rw [decide_eq_true_iff]
      omega
  · rw [decide_eq_true_iff]
    omega
theorem lex1 {a b c : Int} : (HT.lexLt [a, b] [c] = true) ↔ a < c := by
  rw [HT.lexLt_cons, HT.lexLt_cons_nil]
  split <;> rename_i h
  · constructor
    · intro z; cases z
    · omega
  · rw [decide_eq_true_iff]
/-- a pair as a tuple at an address -/
abbrev Pr := Addr × Int × Int
abbrev Ris2 (l : List Pr) : Prop := l.Pairwise fun p q => lt2 p.2 q.2
theorem Ris2.nd {l : List Pr} (r : Ris2 l) : (l.map (·.2)).Nodup := by
  unfold List.Nodup
  rw [List.pairwise_map]
  exact r.imp fun {p q} h e => by rw [e] at h; exact lt2_irrefl h
theorem ris_at {l : List Pr} (r : Ris2 l) {i j : Nat} {p q : Pr} (hi : l[i]? = some p) (hj : l[j]? = some q) (h : i < j) : lt2 p.2 q.2 := by
  obtain ⟨h1, e1⟩ := List.getElem?_eq_some_iff.mp hi
  obtain ⟨h2, e2⟩ := List.getElem?_eq_some_iff.mp hj
  have z := (List.pairwise_iff_getElem.mp r) i j h1 h2 h
  rw [e1, e2] at z
  exact z
/-- one laid in at its place -/
theorem ris_ins {l : List Pr} (r : Ris2 l) {q : Pr} {k : Nat} (c : Cut l (fun p => decide (lt2 p.2 q.2)) k) (hn : q.2 ∉ l.map (·.2)) : Ris2 (l.take k ++ [q] ++ l.drop k) := by
  unfold Ris2
  rw [List.pairwise_append, List.pairwise_append]
  refine ⟨⟨r.sublist (List.take_sublist _ _), by simp, fun a ha b hb => ?_⟩, r.sublist (List.drop_sublist _ _), fun a ha b hb => ?_⟩
  · obtain ⟨_, h⟩ := c.take.mp ha
    rw [List.mem_singleton.mp hb]
    exact of_decide_eq_true h
  · obtain ⟨hb1, h⟩ := c.drop.mp hb
    have hb2 : ¬ lt2 b.2 q.2 := of_decide_eq_false h
    have qb : lt2 q.2 b.2 := by
      rcases lt2_tri b.2 q.2 with z | z | z
      · exact absurd z hb2
      · exact absurd (List.mem_map.mpr ⟨b, hb1, z⟩) hn
      · exact z
    rcases List.mem_append.mp ha with h1 | h1
    · obtain ⟨_, z⟩ := c.take.mp h1
      exact lt2_trans (of_decide_eq_true z) qb
    · rw [List.mem_singleton.mp h1]
      exact qb
theorem mem_ins3 {α : Type} {l : List α} {k : Nat} {q x : α} : x ∈ l.take k ++ [q] ++ l.drop k ↔ x = q ∨ x ∈ l := by
  have e : x ∈ l ↔ x ∈ l.take k ∨ x ∈ l.drop k := by
    rw [← List.mem_append, List.take_append_drop]
  rw [List.mem_append, List.mem_append, List.mem_singleton, e]
  constructor
  · rintro ((h | h) | h)
    · exact .inr (.inl h)
    · exact .inl h
    · exact .inr (.inr h)
  · rintro (h | h | h)
    · exact .inl (.inr h)
    · exact .inl (.inl h)
    · exact .inr h
/-- one that is there stands at its place -/
theorem ris_place {l : List Pr} (r : Ris2 l) {q : Int × Int} {k : Nat} (c : Cut l (fun p => decide (lt2 p.2 q)) k) (hm : q ∈ l.map (·.2)) : ∃ p, l[k]? = some p ∧ p.2 = q := by
  obtain ⟨p, hp, rfl⟩ := List.mem_map.mp hm
  obtain ⟨j, hj⟩ := List.mem_iff_getElem?.mp hp
  have h1 : k ≤ j := by
    by_cases hk : j < k
    · have z := of_decide_eq_true (c.lo j p hk hj)
      exact (lt2_irrefl z).elim
    · omega
  by_cases h2 : k = j
  · exact ⟨p, by rw [h2]; exact hj, rfl⟩
  · have hl : k < l.length := by
      have := (List.getElem?_eq_some_iff.mp hj).1
      omega
    have hk : l[k]? = some l[k] := List.getElem?_eq_getElem hl
    have z := of_decide_eq_false (c.hi k _ (Nat.le_refl _) hk)
    exact absurd (ris_at r hk hj (by omega)) z
theorem mem_erase2 {l : List Pr} (r : Ris2 l) {k : Nat} {p : Pr} (hk : l[k]? = some p) {x : Int × Int} : x ∈ (l.eraseIdx k).map (·.2) ↔ x ∈ l.map (·.2) ∧ x ≠ p.2 := by
  constructor
  · intro h
    obtain ⟨y, hy, rfl⟩ := List.mem_map.mp h
    obtain ⟨i, hi⟩ := List.mem_iff_getElem?.mp hy
    rw [List.getElem?_eraseIdx] at hi
    split at hi <;> rename_i hc
    · exact ⟨List.mem_map.mpr ⟨y, List.mem_of_getElem? hi, rfl⟩, fun e => by have z := ris_at r hi hk hc; rw [e] at z; exact lt2_irrefl z⟩
    · exact ⟨List.mem_map.mpr ⟨y, List.mem_of_getElem? hi, rfl⟩, fun e => by have z := ris_at r hk hi (by omega); rw [e] at z; exact lt2_irrefl z⟩
  · rintro ⟨h, hne⟩
    obtain ⟨y, hy, rfl⟩ := List.mem_map.mp h
    obtain ⟨i, hi⟩ := List.mem_iff_getElem?.mp hy
    refine List.mem_map.mpr ⟨y, ?_, rfl⟩
    by_cases c : i < k
    · exact List.mem_iff_getElem?.mpr ⟨i, by rw [List.getElem?_eraseIdx, if_pos c]; exact hi⟩
    · have hik : i ≠ k := fun e => by rw [e, hk] at hi; cases hi; exact hne rfl
      exact List.mem_iff_getElem?.mpr ⟨i - 1, by rw [List.getElem?_eraseIdx, if_neg (by omega), show i - 1 + 1 = i by omega]; exact hi⟩
theorem ris_erase {l : List Pr} (r : Ris2 l) (k : Nat) : Ris2 (l.eraseIdx k) := r.sublist (List.eraseIdx_sublist ..)
/-- two rising lists of the same pairs tell the same -/
theorem ris_same : ∀ {l m : List (Int × Int)}, l.Pairwise lt2 → m.Pairwise lt2 → (∀ x, x ∈ l ↔ x ∈ m) → l = m
  | [], [], _, _, _ => rfl
  | [], y :: m, _, _, h => absurd ((h y).mpr List.mem_cons_self) (by simp)
  | x :: l, [], _, _, h => absurd ((h x).mp List.mem_cons_self) (by simp)
  | x :: l, y :: m, h1, h2, h => by
    obtain ⟨a1, a2⟩ := List.pairwise_cons.mp h1
    obtain ⟨b1, b2⟩ := List.pairwise_cons.mp h2
    have e : x = y := by
      rcases List.mem_cons.mp ((h x).mp List.mem_cons_self) with z | z
      · exact z
      · rcases List.mem_cons.mp ((h y).mpr List.mem_cons_self) with w | w
        · exact w.symm
        · exact (lt2_irrefl (lt2_trans (a1 y w) (b1 x z))).elim
    subst e
    congr 1
    refine ris_same a2 b2 fun z => ⟨fun hz => ?_, fun hz => ?_⟩
    · rcases List.mem_cons.mp ((h z).mp (List.mem_cons_of_mem _ hz)) with w | w
      · subst w
        exact (lt2_irrefl (a1 z hz)).elim
      · exact w
    · rcases List.mem_cons.mp ((h z).mpr (List.mem_cons_of_mem _ hz)) with w | w
      · subst w
        exact (lt2_irrefl (b1 z hz)).elim
      · exact w
theorem ris_map {l : List Pr} (r : Ris2 l) : (l.map (·.2)).Pairwise lt2 := by
  rw [List.pairwise_map]
  exact r
abbrev ky2 (q : Int × Int) : List Key := [Sum.inl q.1, Sum.inl q.2]
theorem lkey2 {q : Int × Int} {r : Int × Int} : ([(Sum.inl q.1 : Key), Sum.inl q.2] = [Sum.inl r.1, Sum.inl r.2]) ↔ q = r := by
  obtain ⟨a, b⟩ := q
  obtain ⟨c, d⟩ := r
  simp
theorem keys_putK {κ : Type} [DecidableEq κ] (kvs : List (κ × V)) (k : κ) (v : V) : (putK kvs k v).map (·.1) = if (valV kvs k).isSome = true then kvs.map (·.1) else kvs.map (·.1) ++ [k] := by
  unfold putK
  rw [valV_any]
  split
  · rw [List.map_map]
    apply List.map_congr_left
    intro p _
    show (if p.1 = k then (p.1, v) else p).1 = p.1
    split <;> rfl
  · rw [List.map_append]
    rfl
theorem ky2_eq {q r : Int × Int} : (ky2 q = ky2 r) ↔ q = r := lkey2
/-- one more is counted -/
theorem cnt_add {kvs kvs' : List (List Key × V)} {M : List (Int × Int)} {q : Int × Int} (h : ∀ r : Int × Int, valV kvs (ky2 r) = if r ∈ M then some (.int (M.count r)) else none) (h' : ∀ r, valV kvs' (ky2 r) = if ky2 r = ky2 q then some (.int (M.count q + 1)) else valV kvs (ky2 r)) (r : Int × Int) :
    valV kvs' (ky2 r) = if r ∈ q :: M then some (.int ((q :: M).count r)) else none := by
  rw [h' r]
  by_cases e : r = q
  · subst e
    rw [if_pos rfl, if_pos List.mem_cons_self, List.count_cons_self]
    rfl
  · rw [if_neg (fun z => e (ky2_eq.mp z)), h r]
    have e1 : (r ∈ q :: M) ↔ r ∈ M := by simp [e]
    by_cases m : r ∈ M
    · rw [if_pos m, if_pos (e1.mpr m), List.count_cons_of_ne (fun z => e z.symm)]
    · rw [if_neg m, if_neg (fun z => m (e1.mp z))]
theorem ks_add {kvs : List (List Key × V)} {M : List (Int × Int)} {q : Int × Int} {v : V} (h : ∀ k ∈ kvs.map (·.1), k ∈ M.map ky2) : ∀ k ∈ (putK kvs (ky2 q) v).map (·.1), k ∈ (q :: M).map ky2 := by
  intro k hk
  rw [keys_putK] at hk
  rw [List.map_cons]
  split at hk
  · exact List.mem_cons_of_mem _ (h k hk)
  · rcases List.mem_append.mp hk with z | z
    · exact List.mem_cons_of_mem _ (h k z)
    · rw [List.mem_singleton.mp z]
      exact List.mem_cons_self
theorem nd_put {κ : Type} [DecidableEq κ] {kvs : List (κ × V)} {k : κ} {v : V} (h : (kvs.map (·.1)).Nodup) : ((putK kvs k v).map (·.1)).Nodup := by
  rw [keys_putK]
  split
  · exact h
  · rename_i c
    refine nd_snoc h (valV_not ?_)
    cases e : valV kvs k with
    | none => rfl
    | some z => rw [e] at c; exact absurd rfl c
/-- one less is counted -/
theorem cnt_lose {kvs kvs' : List (List Key × V)} {M : List (Int × Int)} {q : Int × Int} (hq : q ∈ M) (h : ∀ r : Int × Int, valV kvs (ky2 r) = if r ∈ M then some (.int (M.count r)) else none) (h' : ∀ r, valV kvs' (ky2 r) = if r = q then (if M.count q = 1 then none else some (.int ((M.count q : Int) - 1))) else valV kvs (ky2 r)) (r : Int × Int) :
    valV kvs' (ky2 r) = if r ∈ M.erase q then some (.int ((M.erase q).count r)) else none := by
  rw [h' r]
  have h1 := List.one_le_count_iff.mpr hq
  by_cases e : r = q
  · subst e
    rw [if_pos rfl, List.count_erase_self]
    by_cases c : M.count r = 1
    · rw [if_pos c, if_neg]
      intro z
      have := List.one_le_count_iff.mpr z
      rw [List.count_erase_self] at this
      omega
    · rw [if_neg c, if_pos]
      · congr 2
        omega
      · rw [← List.one_le_count_iff, List.count_erase_self]
        omega
  · rw [if_neg e, h r, List.count_erase_of_ne e]
    have e1 : (r ∈ M.erase q) ↔ r ∈ M := List.mem_erase_of_ne e
    by_cases m : r ∈ M
    · rw [if_pos m, if_pos (e1.mpr m)]
    · rw [if_neg m, if_neg (fun z => m (e1.mp z))]
theorem mem_lose {M : List (Int × Int)} {q r : Int × Int} (hq : q ∈ M) : r ∈ M.erase q ↔ r ∈ M ∧ (M.count q = 1 → r ≠ q) := by
  have h1 := List.one_le_count_iff.mpr hq
  by_cases e : r = q
  · subst e
    rw [← List.one_le_count_iff, List.count_erase_self]
    constructor
    · intro z
      exact ⟨hq, fun c => by omega⟩
    · rintro ⟨_, z⟩
      have : M.count r ≠ 1 := fun c => z c rfl
      omega
  · rw [List.mem_erase_of_ne e]
    exact ⟨fun z => ⟨z, fun _ => e⟩, fun z => z.1⟩
/-! a list of pairs against [] -/
def Pr.dat (e : Pr) : PyData := .tuple [.int e.2.1, .int e.2.2]
theorem dpAll_prs {K : PySem.W.Frag} {H : Hp} : ∀ {ps : List Pr}, (∀ e ∈ ps, H e.1 = some (.tup [.int e.2.1, .int e.2.2])) → DpAll K H (ps.map fun e => V.ref e.1) (ps.map Pr.dat)
  | [], _ => .nil
  | e :: r, h => .cons (.tup (.inl (.inl (h e List.mem_cons_self))) (.cons (.int _) (.cons (.int _) .nil))) (dpAll_prs fun e he => h e (List.mem_cons_of_mem _ he))
theorem lay_prs : ∀ (ps : List Pr), PyData.canLayAll0 (ps.map Pr.dat) = true
  | [] => by simp [PyData.canLayAll0]
  | e :: r => by simp [PyData.canLayAll0, PyData.canLay0, Pr.dat, lay_prs r]
theorem depth_prs : ∀ (ps : List Pr), PyData.depthAll (ps.map Pr.dat) ≤ 2
  | [] => by simp [PyData.depthAll]
  | e :: r => by
    have h := depth_prs r
    simp only [List.map_cons, PyData.depthAll, PyData.depth, Pr.dat]
    omega
theorem shaped_prs (ps : List Pr) : SeqAt.shaped (.list (ps.map Pr.dat)) = true := by
  have h1 := depth_prs ps
  have h2 : PyData.depth (.list (ps.map Pr.dat)) ≤ 64 := by
    simp only [PyData.depth]
    omega
  unfold SeqAt.shaped
  rw [Bool.and_eq_true]
  exact ⟨by simp only [PyData.canLay0]; exact lay_prs ps, decide_eq_true h2⟩
theorem neNil_prs {K : PySem.W.Frag} {H : Hp} {a q : Addr} {ps : List Pr} {Q : VK} (ha : H a = some (.lst (ps.map fun e => V.ref e.1))) (ht : ∀ e ∈ ps, H e.1 = some (.tup [.int e.2.1, .int e.2.2])) (hq : H q = some (.lst [])) (k : Q (.bl (!ps.isEmpty)) H) : rNeD K (.ref a) (.ref q) H Q := by
  refine ⟨.list (ps.map Pr.dat), .list [], .lst (.inl (.inl ha)) (dpAll_prs ht), .lst (.inl (.inl hq)) .nil, shaped_prs ps, rfl, ?_⟩
  cases ps with
  | nil => exact k
  | cons n r => exact k
end G7

set_option linter.all false
set_option Elab.async false
set_option maxRecDepth 100000
set_option maxHeartbeats 4000000
namespace G7
open PySem PySem.Spec PyProof.Rows L2
/-! ### data of any depth, in tuples and lists, truth values too -/
inductive Dx where
  | non
  | bl (b : Bool)
  | int (i : Int)
  | str (s : Str)
  | tup (l : List Dx)
  | lst (l : List Dx)
mutual
def RX (H : Hp) : V → Dx → Prop
  | v, .non => v = .non
  | v, .bl b => v = .bl b
  | v, .int i => v = .int i
  | v, .str s => v = .str s
  | v, .tup ds => ∃ a us, v = .ref a ∧ (H a = some (.tup us) ∨ ∃ o : Obj, H a = some (.frz o (.tup us))) ∧ RXs H us ds
  | v, .lst ds => ∃ a us, v = .ref a ∧ H a = some (.lst us) ∧ RXs H us ds
def RXs (H : Hp) : List V → List Dx → Prop
  | [], [] => True
  | u :: us, d :: ds => RX H u d ∧ RXs H us ds
  | _, _ => False
end
mutual
def Dx.fits (m : Nat) : Dx → Prop
  | .tup ds => ds.length ≤ m ∧ Dx.fitsL m ds
  | .lst ds => ds.length ≤ m ∧ Dx.fitsL m ds
  | _ => True
def Dx.fitsL (m : Nat) : List Dx → Prop
  | [] => True
  | d :: r => Dx.fits m d ∧ Dx.fitsL m r
end
mutual
def Dx.deep : Dx → Nat
  | .tup ds => Dx.deepL ds + 1
  | .lst ds => Dx.deepL ds + 1
  | _ => 0
def Dx.deepL : List Dx → Nat
  | [] => 0
  | d :: r => max (Dx.deep d) (Dx.deepL r)
end
theorem RXs.len {H : Hp} : ∀ {us : List V} {ds : List Dx}, RXs H us ds → us.length = ds.length
  | [], [], _ => rfl
  | u :: us, d :: ds, h => by
    have h : RX H u d ∧ RXs H us ds := by simpa only [RXs] using h
    rw [List.length_cons, List.length_cons, RXs.len h.2]
  | [], d :: ds, h => by simp only [RXs] at h
  | u :: us, [], h => by simp only [RXs] at h
theorem RXs.at {H : Hp} : ∀ {us : List V} {ds : List Dx} {i : Nat} {d : Dx}, RXs H us ds → ds[i]? = some d → ∃ u, us[i]? = some u ∧ RX H u d
  | [], [], _, _, _, e => by cases e
  | u :: us, d :: ds, 0, d', h, e => by
    have h : RX H u d ∧ RXs H us ds := by simpa only [RXs] using h
    cases e
    exact ⟨u, rfl, h.1⟩
  | u :: us, d :: ds, i + 1, d', h, e => by
    have h : RX H u d ∧ RXs H us ds := by simpa only [RXs] using h
    exact RXs.at (us := us) (ds := ds) (i := i) h.2 (by simpa using e)
  | [], d :: ds, _, _, h, _ => by simp only [RXs] at h
  | u :: us, [], _, _, h, _ => by simp only [RXs] at h
theorem Dx.fitsL_at {m : Nat} : ∀ {ds : List Dx} {i : Nat} {d : Dx}, Dx.fitsL m ds → ds[i]? = some d → Dx.fits m d
  | [], _, _, _, e => by cases e
  | d :: ds, 0, d', h, e => by
    cases e
    exact h.1
  | d :: ds, i + 1, d', h, e => Dx.fitsL_at h.2 e
theorem Dx.deepL_at : ∀ {ds : List Dx} {i : Nat} {d : Dx}, ds[i]? = some d → Dx.deep d ≤ Dx.deepL ds
  | [], _, _, e => by cases e
  | d :: ds, 0, d', e => by
    cases e
    exact Nat.le_max_left _ _
  | d :: ds, i + 1, d', e => Nat.le_trans (Dx.deepL_at (ds := ds) e) (Nat.le_max_right _ _)
mutual
theorem RX.same {H H' : Hp} (k : Same H H') : ∀ {d : Dx} {v : V}, RX H v d → RX H' v d
  | .non, _, h => by simpa only [RX] using h
  | .bl _, _, h => by simpa only [RX] using h
  | .int _, _, h => by simpa only [RX] using h
  | .str _, _, h => by simpa only [RX] using h
  | .tup ds, v, h => by
    simp only [RX] at h ⊢
    obtain ⟨a, us, e, h1, h2⟩ := h
    exact ⟨a, us, e, h1.imp (fun h => k _ _ h) (fun ⟨o, h⟩ => ⟨o, k _ _ h⟩), RXs.same k h2⟩
  | .lst ds, v, h => by
    simp only [RX] at h ⊢
    obtain ⟨a, us, e, h1, h2⟩ := h
    exact ⟨a, us, e, k _ _ h1, RXs.same k h2⟩
theorem RXs.same {H H' : Hp} (k : Same H H') : ∀ {ds : List Dx} {us : List V}, RXs H us ds → RXs H' us ds
  | [], [], h => by simp only [RXs]
  | d :: ds, u :: us, h => by
    simp only [RXs] at h ⊢
    exact ⟨RX.same k h.1, RXs.same k h.2⟩
  | d :: ds, [], h => by simp only [RXs] at h
  | [], u :: us, h => by simp only [RXs] at h
end
theorem rx_str {H : Hp} (s : Str) : RX H (.str s) (.str s) := by simp only [RX]
theorem rx_int {H : Hp} (s : Int) : RX H (.int s) (.int s) := by simp only [RX]
theorem rx_non {H : Hp} : RX H .non .non := by simp only [RX]
theorem rx_bl {H : Hp} (b : Bool) : RX H (.bl b) (.bl b) := by simp only [RX]
theorem rx_tup {H : Hp} {a : Addr} {us : List V} {ds : List Dx} (h : H a = some (.tup us)) (r : RXs H us ds) : RX H (.ref a) (.tup ds) := by
  simp only [RX]
  exact ⟨a, us, rfl, .inl h, r⟩
theorem rx_tupF {H : Hp} {a : Addr} {o : Obj} {us : List V} {ds : List Dx} (h : H a = some (.frz o (.tup us))) (r : RXs H us ds) : RX H (.ref a) (.tup ds) := by
  simp only [RX]
  exact ⟨a, us, rfl, .inr ⟨o, h⟩, r⟩
theorem rx_lst {H : Hp} {a : Addr} {us : List V} {ds : List Dx} (h : H a = some (.lst us)) (r : RXs H us ds) : RX H (.ref a) (.lst ds) := by
  simp only [RX]
  exact ⟨a, us, rfl, h, r⟩
theorem rxs_nil {H : Hp} : RXs H [] [] := by simp only [RXs]
theorem rxs_cons {H : Hp} {u : V} {us : List V} {d : Dx} {ds : List Dx} (h : RX H u d) (r : RXs H us ds) : RXs H (u :: us) (d :: ds) := by
  simp only [RXs]
  exact ⟨h, r⟩
theorem rxs_map {α : Type} {H : Hp} {f : α → V} {g : α → Dx} : ∀ {l : List α}, (∀ x ∈ l, RX H (f x) (g x)) → RXs H (l.map f) (l.map g)
  | [], _ => rxs_nil
  | x :: r, h => rxs_cons (h x List.mem_cons_self) (rxs_map fun y hy => h y (List.mem_cons_of_mem _ hy))
theorem dxs_ok {α : Type} {g : α → Dx} {n m : Nat} : ∀ {l : List α}, (∀ x ∈ l, (g x).deep ≤ n ∧ (g x).fits m) → Dx.deepL (l.map g) ≤ n ∧ Dx.fitsL m (l.map g)
  | [], _ => by simp [Dx.deepL, Dx.fitsL]
  | x :: r, h => by
    have h1 := h x List.mem_cons_self
    have h2 := dxs_ok (g := g) (l := r) fun y hy => h y (List.mem_cons_of_mem _ hy)
    simp only [List.map_cons, Dx.deepL, Dx.fitsL]
    exact ⟨by omega, h1.2, h2.2⟩
/-- a pair of ints -/
def dx2 (q : Int × Int) : Dx := .tup [.int q.1, .int q.2]
theorem rx2 {H : Hp} {a : Addr} {q : Int × Int} (h : H a = some (.tup [.int q.1, .int q.2])) : RX H (.ref a) (dx2 q) := rx_tup h (rxs_cons (rx_int _) (rxs_cons (rx_int _) rxs_nil))
/-- an item of a list or of a tuple -/
def rIxLT : R2 := fun x y H Q => ∃ p xs i v, x = .ref p ∧ y = .int i ∧ (lsO (H p) = some xs ∨ tpO (H p) = some xs) ∧ atI xs i = some v ∧ Q v H
theorem ix_lt {X : Cx} : IxR X rIxLT := fun a b p s σ H x y v u Q I rx ry ⟨q, xs, i, w, e1, e2, h, e, k⟩ => by
  rcases h with h | h
  · exact ix_lst a b p s σ H x y v u Q I rx ry ⟨q, xs, i, w, e1, e2, h, e, k⟩
  · exact ix_tp a b p s σ H x y v u Q I rx ry ⟨q, xs, i, w, e1, e2, h, e, k⟩
def cLenLT : List V → Hp → VK → Prop := fun vs H Q => ∃ p xs, vs = [.ref p] ∧ (lsO (H p) = some xs ∨ tpO (H p) = some xs) ∧ Q (.int (xs.length : Int)) H
theorem len_lt {X : Cx} : CallR X (.builtin "len") cLenLT := callImp call_len_seq fun vs H Q ⟨p, xs, e, h, q⟩ => ⟨p, xs, e, h.elim (fun h => .inl (.inl (rd_lsO h))) (fun h => .inr (.inl (rd_tpO h))), q⟩
end G7

set_option linter.all false
set_option Elab.async false
set_option maxRecDepth 100000
set_option maxHeartbeats 4000000
/-! days as texts: rows that are so, by the program's look and by the law's; what is written is read -/
namespace D72
open PySem TL
abbrev figs : Str := "0123456789"
def fig (c : Nat) : Bool := decide (48 ≤ c) && decide (c ≤ 57)
theorem fig_iff {c : Nat} : fig c = true ↔ 48 ≤ c ∧ c ≤ 57 := by simp [fig]
theorem figs_has (c : Nat) : figs.cps.contains c = fig c := by
  have e : figs.cps = #[48, 49, 50, 51, 52, 53, 54, 55, 56, 57] := by decide +kernel
  rw [e, Bool.eq_iff_iff, fig_iff]
  simp only [List.contains_toArray, List.contains_iff_mem, List.mem_cons, List.not_mem_nil, or_false]
  omega
theorem takeWhile_all {α : Type} {p : α → Bool} : ∀ {l : List α}, l.all p = true → l.takeWhile p = l
  | [], _ => rfl
  | x :: l, h => by
    rw [List.all_cons, Bool.and_eq_true] at h
    rw [List.takeWhile_cons_of_pos h.1, takeWhile_all h.2]
theorem takeWhile_len {α : Type} {p : α → Bool} : ∀ {l : List α}, (l.takeWhile p).length = l.length → l.all p = true
  | [], _ => rfl
  | x :: l, h => by
    by_cases c : p x = true
    · rw [List.takeWhile_cons_of_pos c, List.length_cons, List.length_cons] at h
      rw [List.all_cons, c, takeWhile_len (by omega)]
      rfl
    · rw [List.takeWhile_cons_of_neg c] at h
      cases h
/-- word.strip(FIGURES) == '' -/
theorem strip_figs (w : Str) : Txt.stripChars w figs = Str.empty ↔ (tl w).all fig = true := by
  have eg : (fun c => figs.cps.contains c) = fig := funext figs_has
  have eg : (figs.cps.contains : Nat → Bool) = fig := eg
  unfold Txt.stripChars Txt.stripBy
  rw [eg]
  have hl : w.length = (tl w).length := len_tl w
  constructor
  · intro h
    by_cases c : PySem.stripSame fig true true w = true
    · rw [if_pos c] at h
      rw [h]
      rfl
    · rw [if_neg c] at h
      have z := congrArg tl h
      unfold PySem.stripped at z
      rw [tl_strSub] at z
      have z2 := congrArg List.length z
      rw [List.length_take, List.length_drop] at z2
      unfold PySem.stripHi PySem.stripLo at z2
      simp only [if_true] at z2
      rw [show w.cps.toList = tl w from rfl] at z2
      have z3 : (tl Str.empty).length = 0 := rfl
      rw [z3, hl] at z2
      have t1 : ((tl w).takeWhile fig).length ≤ (tl w).length := (List.takeWhile_sublist fig).length_le
      have t2 : (((tl w).drop ((tl w).takeWhile fig).length).reverse.takeWhile fig).length ≤ (tl w).length - ((tl w).takeWhile fig).length := by
        have q := (List.takeWhile_sublist fig (l := ((tl w).drop ((tl w).takeWhile fig).length).reverse)).length_le
        rw [List.length_reverse, List.length_drop] at q
        exact q
      refine takeWhile_len ?_
      by_cases d : ((tl w).takeWhile fig).length = (tl w).length
      · exact d
      · exfalso
        have hd : ((tl w).drop ((tl w).takeWhile fig).length).reverse.all fig = true := takeWhile_len (by rw [List.length_reverse, List.length_drop]; omega)
        rw [List.all_reverse] at hd
        have hw : (tl w).drop ((tl w).takeWhile fig).length = (tl w).dropWhile fig := by
          have q := List.takeWhile_append_dropWhile (p := fig) (l := tl w)
          have q2 : ((tl w).takeWhile fig ++ (tl w).dropWhile fig).drop ((tl w).takeWhile fig).length = (tl w).dropWhile fig := List.drop_left
          rw [q] at q2
          exact q2
        rw [hw] at hd
        cases hdw : (tl w).dropWhile fig with
        | nil =>
          have q := congrArg List.length (List.takeWhile_append_dropWhile (p := fig) (l := tl w))
          rw [hdw, List.append_nil] at q
          exact d q
        | cons x r =>
          have hx := List.head_dropWhile_not fig (l := tl w) (by rw [hdw]; simp)
          rw [hdw, List.all_cons, Bool.and_eq_true] at hd
          simp only [hdw, List.head_cons] at hx
          rw [hd.1] at hx
          cases hx
  · intro h
    have t1 : PySem.stripLo fig true w = w.length := by
      unfold PySem.stripLo
      rw [if_pos rfl]
      show ((tl w).takeWhile fig).length = _
      rw [takeWhile_all h, hl]
    by_cases c : PySem.stripSame fig true true w = true
    · rw [if_pos c]
      unfold PySem.stripSame at c
      rw [Bool.and_eq_true, t1] at c
      have z : w.length = 0 := by simpa using c.1
      refine ext_tl ?_
      show tl w = []
      exact List.length_eq_zero_iff.mp (by omega)
    · rw [if_neg c]
      refine ext_tl ?_
      show tl _ = []
      unfold PySem.stripped
      rw [tl_strSub, t1, hl, List.drop_length, List.take_nil]
/-- a word that is a number -/
def isNum (w : Str) : Bool := decide (1 ≤ w.length) && decide (w.length ≤ 3) && (tl w).all fig && (decide (w = "0") || decide ((tl w).head? ≠ some 48))
theorem one_zero {c : Nat} : ((⟨#[c]⟩ : Str) = "0") ↔ c = 48 := by
  have e : ("0" : Str) = ⟨#[48]⟩ := by decide +kernel
  rw [e]
  constructor
  · intro h
    have z := congrArg tl h
    exact (List.cons.inj z).1
  · rintro rfl
    rfl
theorem tl_head {w : Str} (h : 1 ≤ w.length) : ∃ c r, tl w = c :: r := by
  cases e : tl w with
  | nil =>
    have z := len_tl w
    rw [e] at z
    rw [z] at h
    cases h
  | cons c r => exact ⟨c, r, rfl⟩
def numIn (w : Str) : Int := if isNum w = true then (NumText.digitsVal (tl w) : Nat) else -1
theorem num_text {w : Str} (h : isNum w = true) : PySem.intText? w = some ((NumText.digitsVal (tl w) : Nat) : Int) := by
  unfold isNum at h
  simp only [Bool.and_eq_true, decide_eq_true_eq] at h
  obtain ⟨⟨⟨h1, h2⟩, h3⟩, _⟩ := h
  refine PySem.intText_digits (fun c hc => fig_iff.mp (List.all_eq_true.mp h3 c hc)) (fun e => ?_) (by omega)
  have z : (tl w).length = 0 := congrArg List.length e
  rw [len_tl] at h1
  omega
theorem numIn_neg {w : Str} : numIn w = -1 ↔ isNum w = false := by
  unfold numIn
  cases isNum w with
  | false => simp
  | true =>
    rw [if_pos rfl]
    constructor
    · intro h
      have : (0 : Int) ≤ (NumText.digitsVal (tl w) : Nat) := Int.natCast_nonneg _
      omega
    · intro h
      cases h
theorem numIn_pos {w : Str} : 0 ≤ numIn w ↔ isNum w = true := by
  unfold numIn
  cases isNum w with
  | false => simp
  | true => simp
structure Deed where
  word : Str
  nums : List Int
  text : Str
def forms : List (Str × Nat) := [("come", 1), ("lose", 1), ("takeover", 1), ("beat", 1), ("checkpoint", 1), ("fall", 1), ("rise", 2), ("arm", 2), ("turn", 2), ("found", 1), ("letters", 0), ("leaders", 0), ("known", 1), ("log", 1), ("dealings", 1), ("shown", 1)]
def many (w : Str) : Option Nat := (forms.find? fun e => decide (e.1 = w)).map (·.2)
abbrev sp : Str := " "
abbrev nl : Str := "\n"
def first : List Str → Int
  | [] => -1
  | r :: _ => numIn r
def deedW : List Str → Option Deed
  | [] => none
  | word :: rest => if word = "ask" then
      if 0 ≤ first rest ∧ Txt.join sp (rest.drop 1) ≠ Str.empty then some ⟨word, [first rest], Txt.join sp (rest.drop 1)⟩ else none
    else if many word = some rest.length ∧ -1 ∉ rest.map numIn then some ⟨word, rest.map numIn, Str.empty⟩ else none
def deedIn (line : Str) : Option Deed := deedW (Txt.split line sp)
def rowW : List Str → Bool
  | [] => false
  | word :: rest => if word = "ask" then (match rest with | [] => false | r :: q => decide (q ≠ []) && isNum r && decide (Txt.join sp q ≠ Str.empty)) else decide (many word = some rest.length) && rest.all isNum
def isRow (line : Str) : Bool := rowW (Txt.split line sp)
theorem join_none : Txt.join sp [] = Str.empty := by
  rw [join_eq]
  rfl
theorem row_iff (line : Str) : (deedIn line).isSome = isRow line := by
  unfold deedIn isRow
  cases Txt.split line sp with
  | nil => rfl
  | cons word rest =>
    unfold deedW rowW
    dsimp only
    by_cases c : word = "ask"
    · rw [if_pos c, if_pos c]
      cases rest with
      | nil => simp [first]
      | cons r q =>
        show (if 0 ≤ numIn r ∧ Txt.join sp q ≠ Str.empty then _ else _ : Option Deed).isSome = (decide (q ≠ []) && isNum r && decide (Txt.join sp q ≠ Str.empty))
        by_cases hq : q = []
        · rw [hq, join_none]
          simp
        · by_cases hn : isNum r = true
          · by_cases hj : Txt.join sp q = Str.empty
            · rw [if_neg (fun z => z.2 hj), hj]
              simp
            · rw [if_pos ⟨numIn_pos.mpr hn, hj⟩, hn]
              simp [hq, hj]
          · rw [if_neg (fun z => hn (numIn_pos.mp z.1)), Bool.eq_false_iff.mpr hn]
            simp
    · rw [if_neg c, if_neg c]
      have e : (-1 ∉ rest.map numIn) ↔ rest.all isNum = true := by
        rw [List.all_eq_true, List.mem_map]
        constructor
        · intro h w hw
          cases hn : isNum w with
          | true => rfl
          | false => exact (h ⟨w, hw, numIn_neg.mpr hn⟩).elim
        · rintro h ⟨w, hw, e⟩
          have z := numIn_neg.mp e
          rw [h w hw] at z
          cases z
      by_cases hm : many word = some rest.length
      · by_cases ha : rest.all isNum = true
        · rw [if_pos ⟨hm, e.mpr ha⟩, ha]
          simp [hm]
        · rw [if_neg (fun z => ha (e.mp z.2)), Bool.eq_false_iff.mpr ha]
          simp
      · rw [if_neg (fun z => hm z.1)]
        simp [hm]
/-! what is written is read -/
def strI (n : Int) : Str := Str.ofString (toString n)
theorem tl_strI {n : Int} (h : 0 ≤ n) : tl (strI n) = numL n.toNat := by
  have z := tl_num n.toNat
  rw [Int.toNat_of_nonneg h] at z
  exact z
theorem numL_head : ∀ n : Nat, n < 1000 → n ≠ 0 → (numL n).head? ≠ some 48 := by
  have z : (List.range 1000).all (fun n => n == 0 || (numL n).head? != some 48) = true := by decide +kernel
  intro n hn h0
  have y := List.all_eq_true.mp z n (List.mem_range.mpr hn)
  simpa [h0] using y
theorem isNum_str {n : Int} (h0 : 0 ≤ n) (h1 : n < 1000) : isNum (strI n) = true := by
  have e := tl_strI h0
  have l1 : (strI n).length ≤ 3 := by
    rw [len_tl, e]
    exact numL_len (by decide) (by omega)
  have l2 : 1 ≤ (strI n).length := by
    rw [len_tl, e]
    exact List.length_pos_iff.mpr (numL_ne _)
  unfold isNum
  rw [decide_eq_true l1, decide_eq_true l2, List.all_eq_true.mpr (fun c hc => fig_iff.mpr (by rw [e] at hc; exact numL_digits _ c hc))]
  by_cases c : n = 0
  · subst c
    decide +kernel
  · rw [decide_eq_true (show (tl (strI n)).head? ≠ some 48 by rw [e]; exact numL_head _ (by omega) (by omega))]
    simp
theorem numIn_str {n : Int} (h0 : 0 ≤ n) (h1 : n < 1000) : numIn (strI n) = n := by
  unfold numIn
  rw [if_pos (isNum_str h0 h1), tl_strI h0, numL_val]
  omega
theorem spl_ne (S : List Nat) : ∀ (l : List Nat) (k : Nat) (acc : List Nat), spl S k acc l ≠ []
  | [], k, acc => by rw [spl_nil]; simp
  | c :: r, 0, acc => by
    by_cases h : pre S (c :: r) = true
    · rw [spl_hit h]; simp
    · rw [spl_miss (by simpa using h)]; exact spl_ne S r 0 _
  | c :: r, k + 1, acc => spl_ne S r k acc
theorem join_spl (s : Nat) : ∀ (l acc : List Nat), joinL [s] (spl [s] 0 acc l) = acc ++ l
  | [], acc => by rw [spl_nil, List.append_nil]; rfl
  | c :: r, acc => by
    by_cases h : pre [s] (c :: r) = true
    · have hc : c = s := by
        have z : (c :: r).take 1 = [s] := eq_of_beq h
        rw [List.take_succ_cons, List.take_zero] at z
        exact List.cons.inj z |>.1
      rw [spl_hit h]
      have ih := join_spl s r []
      have ne := spl_ne [s] r 0 []
      show joinL [s] (acc :: spl [s] 0 [] r) = _
      cases hs : spl [s] 0 [] r with
      | nil => exact (ne hs).elim
      | cons q t =>
        rw [hs] at ih
        show acc ++ ([s] ++ joinL [s] (q :: t)) = _
        rw [ih, hc]
        rfl
    · rw [spl_miss (by simpa using h), join_spl s r (acc ++ [c]), List.append_assoc]
      rfl
theorem tl_sp : tl sp = [32] := by decide +kernel
theorem tl_nl : tl nl = [10] := by decide +kernel
theorem split_tl (x : Str) : (Txt.split x sp).map tl = spl [32] 0 [] (tl x) := by
  have z := split_spl x sp (by rw [tl_sp]; simp) (kind_ok (by decide +kernel))
  rw [tl_sp] at z
  exact z
theorem join_split (x : Str) : Txt.join sp (Txt.split x sp) = x := by
  refine ext_tl ?_
  rw [join_eq, tl_join, tl_sp, split_tl, join_spl, List.nil_append]
def rowOf (d : Deed) : Str := Txt.join sp (d.word :: (d.nums.map strI ++ if d.word = "ask" then [d.text] else []))
structure GdD (d : Deed) : Prop where
  nums : ∀ n ∈ d.nums, 0 ≤ n ∧ n < 1000
  ask : d.word = "ask" → (∃ n, d.nums = [n]) ∧ d.text ≠ Str.empty ∧ 10 ∉ tl d.text
  form : d.word ≠ "ask" → many d.word = some d.nums.length ∧ d.text = Str.empty
theorem many_word {w : Str} {n : Nat} (h : many w = some n) : 32 ∉ tl w ∧ 10 ∉ tl w ∧ tl w ≠ [] := by
  obtain ⟨e, he, _⟩ := Option.map_eq_some_iff.mp h
  have hw : e.1 = w := by simpa using List.find?_some he
  have z : forms.all (fun e => decide (32 ∉ tl e.1 ∧ 10 ∉ tl e.1 ∧ tl e.1 ≠ [])) = true := by decide +kernel
  have y := List.all_eq_true.mp z e (List.mem_of_find?_eq_some he)
  rw [hw] at y
  exact of_decide_eq_true y
theorem ask_word : 32 ∉ tl ("ask" : Str) ∧ 10 ∉ tl ("ask" : Str) ∧ tl ("ask" : Str) ≠ [] := by decide +kernel
theorem strI_free {n : Int} (h : 0 ≤ n) {s : Nat} (hs : s < 48 ∨ 57 < s) : s ∉ tl (strI n) := by
  rw [tl_strI h]
  exact numL_free hs
theorem mem_joinL {c s : Nat} (hc : c ≠ s) : ∀ {ps : List (List Nat)}, (∀ p ∈ ps, c ∉ p) → c ∉ joinL [s] ps
  | [], _ => by simp [joinL]
  | [p], h => h p List.mem_cons_self
  | p :: q :: r, h => by
    show c ∉ p ++ ([s] ++ joinL [s] (q :: r))
    simp only [List.mem_append, List.mem_singleton, not_or]
    exact ⟨h p List.mem_cons_self, hc, mem_joinL hc fun x hx => h x (List.mem_cons_of_mem _ hx)⟩
theorem GdD.row {d : Deed} (G : GdD d) : deedIn (rowOf d) = some d ∧ 10 ∉ tl (rowOf d) ∧ tl (rowOf d) ≠ [] := by
  obtain ⟨word, nums, text⟩ := d
  by_cases c : word = "ask"
  · obtain ⟨⟨n, hn⟩, ht, hnl⟩ := G.ask c
    have hn : nums = [n] := hn
    subst hn
    have h01 := G.nums n List.mem_cons_self
    have c : word = "ask" := c
    subst c
    have e : rowOf ⟨"ask", [n], text⟩ = Txt.join sp [("ask" : Str), strI n, text] := by
      unfold rowOf
      rw [if_pos rfl]
      rfl
    have et : tl (rowOf ⟨"ask", [n], text⟩) = tl ("ask" : Str) ++ ([32] ++ (tl (strI n) ++ ([32] ++ tl text))) := by
      rw [e, join_eq, tl_join, tl_sp]
      rfl
    have es : Txt.split (rowOf ⟨"ask", [n], text⟩) sp = ("ask" : Str) :: strI n :: Txt.split text sp := by
      refine map_tl_inj ?_
      rw [split_tl, et, List.map_cons, List.map_cons, split_tl]
      rw [spl_part1 (S := []) ask_word.1, spl_part1 (S := []) (strI_free h01.1 (by omega))]
      rfl
    refine ⟨?_, ?_, ?_⟩
    · unfold deedIn
      rw [es]
      unfold deedW
      dsimp only
      rw [if_pos rfl]
      show (if 0 ≤ numIn (strI n) ∧ Txt.join sp (Txt.split text sp) ≠ Str.empty then some (Deed.mk "ask" [numIn (strI n)] (Txt.join sp (Txt.split text sp))) else none) = _
      rw [join_split, numIn_str h01.1 h01.2, if_pos ⟨h01.1, ht⟩]
    · rw [et]
      simp only [List.mem_append, List.mem_singleton, not_or]
      exact ⟨ask_word.2.1, by decide, strI_free h01.1 (by omega), by decide, hnl⟩
    · rw [et]
      simp [ask_word.2.2]
  · obtain ⟨hm, ht⟩ := G.form c
    have hm : many word = some nums.length := hm
    have ht : text = Str.empty := ht
    subst ht
    have c : word ≠ "ask" := c
    obtain ⟨w1, w2, w3⟩ := many_word hm
    have e : rowOf ⟨word, nums, Str.empty⟩ = Txt.join sp (word :: nums.map strI) := by
      unfold rowOf
      rw [if_neg c, List.append_nil]
    have fr : ∀ s : Nat, s ∉ tl word → (s < 48 ∨ 57 < s) → ∀ p ∈ word :: nums.map strI, s ∉ tl p := fun s hs hr p hp => by
      rcases List.mem_cons.mp hp with rfl | hp
      · exact hs
      · obtain ⟨n, hn, rfl⟩ := List.mem_map.mp hp
        exact strI_free (G.nums n hn).1 hr
    have es : Txt.split (rowOf ⟨word, nums, Str.empty⟩) sp = word :: nums.map strI := by
      rw [e]
      exact split_join tl_sp (by decide +kernel) (by simp) (fr 32 w1 (by omega))
    have en : (nums.map strI).map numIn = nums := by
      rw [List.map_map]
      exact (List.map_congr_left fun n hn => numIn_str (G.nums n hn).1 (G.nums n hn).2).trans (List.map_id _)
    have et : tl (rowOf ⟨word, nums, Str.empty⟩) = joinL [32] ((word :: nums.map strI).map tl) := by
      rw [e, join_eq, tl_join, tl_sp]
    refine ⟨?_, ?_, ?_⟩
    · unfold deedIn
      rw [es]
      unfold deedW
      dsimp only
      rw [if_neg c, en, List.length_map, if_pos ⟨hm, fun h => by have := (G.nums _ h).1; omega⟩]
    · rw [et]
      refine mem_joinL (by decide) fun p hp => ?_
      obtain ⟨x, hx, rfl⟩ := List.mem_map.mp hp
      exact fr 10 w2 (by omega) x hx
    · rw [et]
      cases nums with
      | nil => exact w3
      | cons n r =>
        show tl word ++ _ ≠ []
        simp [w3]
theorem joinL_len (s : Nat) : ∀ {ps : List (List Nat)}, ps ≠ [] → (joinL [s] ps).length + 1 = (ps.map (·.length)).sum + ps.length
  | [], h => absurd rfl h
  | [p], _ => by
    show p.length + 1 = _
    simp
  | p :: q :: r, _ => by
    have ih := joinL_len s (ps := q :: r) (by simp)
    show (p ++ ([s] ++ joinL [s] (q :: r))).length + 1 = _
    rw [List.length_append, List.length_append, List.map_cons, List.sum_cons, List.length_cons (as := q :: r)]
    show p.length + (1 + (joinL [s] (q :: r)).length) + 1 = _
    omega
theorem split_ne (x : Str) : Txt.split x sp ≠ [] := fun h => by
  have z := split_tl x
  rw [h] at z
  exact spl_ne [32] (tl x) 0 [] z.symm
theorem split_len (x : Str) : ((Txt.split x sp).map (·.length)).sum + (Txt.split x sp).length = x.length + 1 := by
  have z := joinL_len 32 (spl_ne [32] (tl x) 0 [])
  rw [join_spl, List.nil_append, ← len_tl, ← split_tl, List.map_map, List.length_map] at z
  rw [z]
  congr 2
theorem len_sum : ∀ {l : List Str} {w : Str}, w ∈ l → w.length ≤ (l.map (·.length)).sum
  | x :: l, w, h => by
    rw [List.map_cons, List.sum_cons]
    rcases List.mem_cons.mp h with rfl | h
    · omega
    · have := len_sum h
      omega
/-- the forms in another order -/
theorem find_key {L : List (Str × Nat)} (nd : (L.map (·.1)).Nodup) {w : Str} {n : Nat} : (L.find? fun e => decide (e.1 = w)).map (·.2) = some n ↔ (w, n) ∈ L := by
  induction L with
  | nil => simp
  | cons x L ih =>
    rw [List.map_cons, List.nodup_cons] at nd
    by_cases c : x.1 = w
    · have hf : (x :: L).find? (fun e => decide (e.1 = w)) = some x := List.find?_cons_of_pos (p := fun e : Str × Nat => decide (e.1 = w)) (decide_eq_true c)
      rw [hf]
      constructor
      · intro h
        have h : x.2 = n := Option.some.inj h
        exact List.mem_cons.mpr (.inl (Prod.ext c.symm h.symm))
      · intro h
        rcases List.mem_cons.mp h with h | h
        · rw [← h]; rfl
        · exact (nd.1 (List.mem_map.mpr ⟨_, h, c.symm⟩)).elim
    · have hf : (x :: L).find? (fun e => decide (e.1 = w)) = L.find? fun e => decide (e.1 = w) := List.find?_cons_of_neg (p := fun e : Str × Nat => decide (e.1 = w)) (by simpa using c)
      rw [hf, ih nd.2]
      constructor
      · exact fun h => List.mem_cons_of_mem _ h
      · intro h
        rcases List.mem_cons.mp h with h | h
        · exact (c (by rw [← h])).elim
        · exact h
theorem many_of {L : List (Str × Nat)} (p : L.Perm forms) (nd : (L.map (·.1)).Nodup) (w : Str) : (L.find? fun e => decide (e.1 = w)).map (·.2) = many w := by
  have nf : (forms.map (·.1)).Nodup := (p.map (·.1)).nodup_iff.mp nd
  refine Option.ext fun n => ?_
  show _ = some n ↔ (forms.find? fun e => decide (e.1 = w)).map (·.2) = some n
  rw [find_key nd, find_key nf, p.mem_iff]
/-! rows of a text -/
theorem splitN_tl (x : Str) : (Txt.split x nl).map tl = spl [10] 0 [] (tl x) := by
  have z := split_spl x nl (by rw [tl_nl]; simp) (kind_ok (by decide +kernel))
  rw [tl_nl] at z
  exact z
theorem splitN_len (x : Str) : ((Txt.split x nl).map (·.length)).sum + (Txt.split x nl).length = x.length + 1 := by
  have z := joinL_len 10 (spl_ne [10] (tl x) 0 [])
  rw [join_spl, List.nil_append, ← len_tl, ← splitN_tl, List.map_map, List.length_map] at z
  rw [z]
  congr 2
def rowsOf (x : Str) : List Str := if x = Str.empty then [] else Txt.split x nl
theorem rows_len (x : Str) : (rowsOf x).length ≤ x.length + 1 ∧ ∀ r ∈ rowsOf x, r.length ≤ x.length + 1 := by
  unfold rowsOf
  by_cases h : x = Str.empty
  · rw [if_pos h]
    exact ⟨Nat.zero_le _, fun r hr => by cases hr⟩
  · rw [if_neg h]
    have z := splitN_len x
    refine ⟨by omega, fun r hr => ?_⟩
    have := len_sum hr
    omega
theorem rows_join {rs : List Str} (h : ∀ r ∈ rs, 10 ∉ tl r ∧ tl r ≠ []) : rowsOf (Txt.join nl rs) = rs := by
  unfold rowsOf
  cases rs with
  | nil =>
    rw [if_pos]
    rw [join_eq]
    rfl
  | cons r q =>
    have ne : Txt.join nl (r :: q) ≠ Str.empty := fun z => by
      have y := congrArg tl z
      rw [join_eq, tl_join] at y
      cases q with
      | nil => exact (h r List.mem_cons_self).2 y
      | cons r2 q =>
        have y : tl r ++ _ = [] := y
        exact (h r List.mem_cons_self).2 (List.append_eq_nil_iff.mp y).1
    rw [if_neg ne]
    exact split_join tl_nl (by decide +kernel) (by simp) fun p hp => (h p hp).1
/-- the first row that is no deed -/
def bad (rs : List Str) : Option Nat := rs.findIdx? fun r => !isRow r
theorem bad_none {rs : List Str} (h : bad rs = none) : ∀ r ∈ rs, ∃ d, deedIn r = some d := fun r hr => by
  have z := List.findIdx?_eq_none_iff.mp h r hr
  rw [← row_iff] at z
  exact Option.isSome_iff_exists.mp (by simpa using z)
theorem bad_some {rs : List Str} {k : Nat} (h : bad rs = some k) : (∃ r, rs[k]? = some r ∧ deedIn r = none) ∧ ∀ j < k, ∀ r, rs[j]? = some r → ∃ d, deedIn r = some d := by
  obtain ⟨hk, h1, h2⟩ := List.findIdx?_eq_some_iff_getElem.mp h
  refine ⟨⟨rs[k], List.getElem?_eq_getElem hk, ?_⟩, fun j hj r hr => ?_⟩
  · rw [← row_iff] at h1
    cases e : deedIn rs[k] with
    | none => rfl
    | some d => rw [e] at h1; simp at h1
  · have z := h2 j hj
    have hjl : j < rs.length := by omega
    obtain rfl : rs[j] = r := by
      rw [List.getElem?_eq_getElem hjl] at hr
      exact Option.some.inj hr
    rw [← row_iff] at z
    cases e : deedIn rs[j] with
    | none => rw [e] at z; simp at z
    | some d => exact ⟨d, rfl⟩
theorem deeds_good {ds : List Deed} (h : ∀ d ∈ ds, GdD d) : rowsOf (Txt.join nl (ds.map rowOf)) = ds.map rowOf ∧ (ds.map rowOf).map deedIn = ds.map some ∧ bad (ds.map rowOf) = none := by
  refine ⟨rows_join fun r hr => ?_, ?_, ?_⟩
  · obtain ⟨d, hd, rfl⟩ := List.mem_map.mp hr
    exact (h d hd).row.2
  · rw [List.map_map]
    exact List.map_congr_left fun d hd => (h d hd).row.1
  · refine List.findIdx?_eq_none_iff.mpr fun r hr => ?_
    obtain ⟨d, hd, rfl⟩ := List.mem_map.mp hr
    rw [← row_iff, (h d hd).row.1]
    rfl
end D72

set_option linter.all false
set_option Elab.async false
set_option maxRecDepth 100000
set_option maxHeartbeats 4000000
/-! an own error made by keywords alone: C(k = v), C's own __init__ walked; StoreError.__init__(self, x) in it -/
namespace PySem
namespace HandSPX
open Builtin Builtin.ObjectAttr
section
variable {M : Model} {A : Around} {E : Value → Shared → Prop} {h : Heap} {g : Array GenState} {d : Drawn} {t : Nat} {os : OsState}
variable {nm q : Str} {C N : Addr} {bs bm bmB : List Value} {hdct : Bool} {sn : List Str} {sub : List Value} {ab : Bool} {col : Option Bool} {dd : Option Addr} {k0 k1 k2 k3 k5 : Option Value} {B newId initId : String}
theorem check_new_kw (F : ExcBaseFacts B newId initId bmB) (hT : ∀ X : String, bm.contains (.type X) = bmB.contains (.type X)) {rest : List Value} {kws : List (Str × Value)} {Q : Unit → Shared → Prop}
    (hC : h.get? C = some (excClassObj nm q C N bs bm hdct sn sub ab col dd k0 k1 k2 k3 k5 newId)) (hq : Q () ⟨h, g, d, t, os⟩) : wpAny M A (checkBuiltinCall newId ⟨.ref C :: rest, kws⟩) Q E ⟨h, g, d, t, os⟩ := by
  have hcont : (Value.ref C :: bm).contains (.type B) = true := by rw [List.contains_cons, hT, F.hasB, Bool.or_true]
  have hstar := F.noStar
  simp only [checkBuiltinCall, F.newKind, F.newSplit, F.newRow]
  repeat (first | refine wpAny_loadPart_at hC ?_ | (refine wpAny_isSubtype_exc hC ?_; rw [hcont]) | refine wpAny_staticBase_exc hC ?_ | refine wpAny_madeBy_exc hC ?_ | simp only [bne_self_eq_false, Bool.false_eq_true, if_false] | wp_step)
  exact hq
end
section
variable {prog : Program} {w : World} {A : Around} {E : Value → Shared → Prop} {R : Result → Shared → Prop} {h : Heap} {g : Array GenState} {d : Drawn} {t : Nat} {os : OsState}
variable {nm q : Str} {C N : Addr} {bs bm bmB : List Value} {hdct : Bool} {sn : List Str} {sub : List Value} {ab : Bool} {col : Option Bool} {dd : Option Addr} {k0 k1 k2 k3 k5 : Option Value} {B newId initId : String}
theorem new_kw (F : ExcBaseFacts B newId initId bmB) (hT : ∀ X : String, bm.contains (.type X) = bmB.contains (.type X)) {rest : List Value} {kws : List (Str × Value)}
    (hC : h.get? C = some (excClassObj nm q C N bs bm hdct sn sub ab col dd k0 k1 k2 k3 k5 newId))
    (hq : R (.ok (.ret (.ref (h.objs.size + 1)))) ⟨(h.push { cls := .type "tuple", data := .seq rest.toArray }).push
      { cls := .ref C, data := .fields #[.ref h.objs.size, .none, .none, .none, .bool false, .none] }, g, d, t, os⟩) (hrest : rest.length ≤ sizeLine) :
    codeAny (model prog w) A (.builtin newId ⟨.ref C :: rest, kws⟩) R ⟨h, g, d, t, os⟩ := by
  have hends := F.ends
  have hcB : (Value.ref C :: bm).contains (.type B) = true := by rw [List.contains_cons, hT, F.hasB, Bool.or_true]
  have hcA : (Value.ref C :: bm).contains (.type "AttributeError") = false := by rw [List.contains_cons, hT, F.noAttr]; rfl
  have hcN : (Value.ref C :: bm).contains (.type "NameError") = false := by rw [List.contains_cons, hT, F.noName]; rfl
  refine codeAny_builtinAt F.entry ?_
  unfold Builtin.«BaseException.__new__»
  refine wpAt_bind ?_
  show wpAt _ _ _ (stack >>= _) _ _ _
  refine wpAt_bind (wpAt_stack fun p below => wpAt_of_wpAny ?_)
  wp_walk
  refine wpAt_of_wpAny ?_
  rw [F.owner]
  repeat (first | with_reducible refine wpAny_madeHere_exc F.canon hC ?_ | with_reducible refine wpAny_loadPart_at hC ?_ | (with_reducible refine wpAny_isSubtype_exc hC ?_; first | rw [hcB] | rw [hcA] | rw [hcN]) | wp_step)
  show R _ _
  rw [Heap.size_push]
  exact hq
theorem type_call_kw (F : ExcBaseFacts B newId initId bmB) (hT : ∀ X : String, bm.contains (.type X) = bmB.contains (.type X)) {rest : List Value} {kws : List (Str × Value)} {fI : Addr} {Q : Fin → Shared → Prop}
    (hC : h.get? C = some (excClassObj nm q C N bs bm hdct sn sub ab col dd k0 k1 k2 k3 k5 newId))
    (hi : W.Looks (model prog w) h (typeLookup (.ref C) "__init__") (some (.ref fI))) (hb : ∀ self, W.Looks (model prog w) h (bindSpecial (.ref fI) self) (.ref fI, [self])) (hrest : rest.length ≤ sizeLine)
    (hq : codeAny (model prog w) A (.call (.ref fI) ⟨.ref (h.objs.size + 1) :: rest, kws⟩)
      (fun r s' => match r with | .ok (.ret v) => v = .none ∧ Q (.done (.ret (.ref (h.objs.size + 1)))) s' | .ok _ => False | .error e => E e s')
      ⟨(h.push (W.kdv_tup rest)).push (excO C h.objs.size), g, d, t, os⟩) :
    wpAny (model prog w) A (Builtin.«type.__call__» ⟨.ref C :: rest, kws⟩) Q E ⟨h, g, d, t, os⟩ := by
  repeat (first | with_reducible refine wpAny_loadPart_at hC ?_ | with_reducible refine wpAny_madeBy_exc hC ?_ | wp_step)
  refine codeAny_call_builtin_code (Code.quiet_builtin _ F.quiet) (check_new_kw F hT hC ?_)
  refine new_kw F hT hC ?_ hrest
  show wpAny _ _ _ _ _ _
  have k : ∀ b o, h.get? b = some o → ((h.push (W.kdv_tup rest)).push (excO C h.objs.size)).get? b = some o := fun b o e => Heap.get?_push_of_some _ (Heap.get?_push_of_some _ e)
  have hC₁ := k _ _ hC
  have hget : ((h.push (W.kdv_tup rest)).push (excO C h.objs.size)).get? (h.objs.size + 1) = some (excO C h.objs.size) := by heap_get
  have hcC : (Value.ref C :: bm).contains (.ref C) = true := by simp
  have i1 := hi.keeps k
  have b1 := (hb (.ref (h.objs.size + 1))).keeps k
  unfold isInstance
  repeat (first | with_reducible refine wpAny_loadPart_at hget ?_ | (with_reducible refine wpAny_isSubtype_exc hC₁ ?_; rw [hcC]) | wp_step)
  show wpAny _ _ (typeLookup (.ref C) _) _ _ _
  refine i1.at ?_
  refine wpAny_holding (wpAny_bind (b1.at ?_))
  refine wpAny_bind (wpAny_call (codeAny_mono hq fun r s' z => ?_))
  rcases r with e | (v | _ | _ | _) <;> first | exact z | exact z.elim | skip
  obtain ⟨rfl, z⟩ := z
  first
    | exact wpAny_pure (wpAny_pure z)
    | (wp_walk; exact z)
theorem call_kw (F : ExcBaseFacts B newId initId bmB) (hT : ∀ X : String, bm.contains (.type X) = bmB.contains (.type X)) {rest : List Value} {kws : List (Str × Value)} {fI : Addr}
    (hC : h.get? C = some (excClassObj nm q C N bs bm hdct sn sub ab col dd k0 k1 k2 k3 k5 newId))
    (hi : W.Looks (model prog w) h (typeLookup (.ref C) "__init__") (some (.ref fI))) (hb : ∀ self, W.Looks (model prog w) h (bindSpecial (.ref fI) self) (.ref fI, [self])) (hrest : rest.length ≤ sizeLine)
    (hq : codeAny (model prog w) (A.under (.builtin "type.__call__" ⟨.ref C :: rest, kws⟩)) (.call (.ref fI) ⟨.ref (h.objs.size + 1) :: rest, kws⟩) (W.InitBack (h.objs.size + 1) R)
      ⟨(h.push (W.kdv_tup rest)).push (excO C h.objs.size), g, d, t, os⟩) :
    codeAny (model prog w) A (.call (.ref C) ⟨rest, kws⟩) R ⟨h, g, d, t, os⟩ := by
  have f1 := tc_lookup
  have f2 := tc_bind (.ref C)
  have hTy : (⟨h, g, d, t, os⟩ : Shared).TypeIs (.ref C) "type" := ⟨_, hC, rfl⟩
  refine codeAny_of_tree ?_
  show wpAny _ _ (callAny (.ref C) _) _ _ _
  repeat (any_goals (first | assumption | with_reducible refine wpAny_loadPart_at hC ?_ | wp_step))
  refine ⟨rfl, ?_⟩
  refine codeAny_call_builtin_at (Code.quiet_builtin _ (by decide +kernel)) entry_typeCall (wpAny_check_type_call_sub hC (type_call_kw F hT hC hi hb hrest ?_))
  refine codeAny_mono hq fun r s' z => ?_
  rcases r with e | (v | _ | _ | _) <;> exact z
end
end HandSPX
end PySem
namespace G7
open PySem PySem.Spec PyProof.Rows L2
/-- C(k = e, ..), C's own __init__ keeping sp -/
def tMkK (C : Addr) (m : Nat) (sp : Sp) (gV : List V → List V → List V) (tk : TA) : L2.St → Hp → XK → Prop := fun σ H Q => tk σ H fun zs H1 => zs.length = m ∧ ∀ a, H1 a = none → sp (gV [.ref a] zs) (upd H1 a (exo a C none))
  (fun v H2 => v = .non ∧ ∃ (d : Addr) (fs : List (Str × V)), H2 a = some (exo a C (some d)) ∧ H2 d = some (exd d fs) ∧ H1 d = none ∧ Q (.ref C) (some d) (upd (del H2 a) d (.xd fs))) (fun _ _ _ => False)
section
variable {X : Cx} {e : Expr} {es : List Expr} {kws : List Keyword} {ta tk : TA} {p p1 p2 pos : Pos}
theorem pmk_kw {CX : CXT} {x : Str} {C fI : Addr} {k : Nat} {fd : FuncData} {ps ks : List Str} {sp : Sp} {g : List Value → List Value → List Value} {gV : List V → List V → List V} (T : OexC X.K C) (iC : PySem.W.findIn X.K (.ref C) "__init__" = some (some (.ref fI))) (tI : PySem.W.typeIn X.K (.ref fI) = some (.type "function"))
    (F1 : FnOk X.prog X.w X.K X.mg X.base CX k fI fd ps sp) (hr : Room (k + 1) X.A) (hb : KBn X.K fd ps 1 ks g gV) (hx : Passes CX X (fun _ _ _ => False)) (hg : Gl X x) (hm : X.mg x = some (.ref C)) (hkw : PK X kws tk)
    (hall : (backToKw pos (keywordEach kws X.env)).all (·.1.isSome) = true := by rfl) (hks : (backToKw pos (keywordEach kws X.env)).filterMap (·.1) = ks := by rfl) (hdb : (x == ("__debug__" : Str)) = false := by decide)
    (hpl : ((backTo pos (starEach [] X.env)).any (·.1) || (backToKw pos (keywordEach kws X.env)).any (·.1.isNone)) = false := by rfl) :
    PMk X (.Call (.Name x p) [] kws pos) (tMkK C ks.length sp gV tk) := by
  intro pins s σ H Q I h
  obtain ⟨nm, q, N, bs, bm, sn, sub, ab, col, dd, k0, k1, k2, k3, k5, hC, hbm⟩ := T.cls
  refine wpAny_Call_Name_kw (ld_glob I hg hm ?_ hdb)
  refine PySem.W.callWith_KW0 (h₀ := X.base) I.ok.mod.kin T.kC hall ?_ hpl
  refine thn (hkw.run pos pins s σ H _ I h) fun ws s1 ⟨zs, H1, I1, rz, hlz, q1⟩ => ⟨I1.kIn, ?_⟩
  rw [hks]
  show wpAny _ _ (call (.ref C) [] (ks.zip ws)) _ _ _
  obtain ⟨hp, gn, dr, tt, os⟩ := s1
  have hsz : hp.objs.size ≤ hp.objs.size + 1 := Nat.le_succ _
  have hn : H1 (hp.objs.size + 1) = none := I1.hok.fresh hsz
  have hq := q1 (hp.objs.size + 1) hn
  have kk : ∀ b o, hp.get? b = some o → ((hp.push (PySem.W.kdv_tup [])).push (PySem.HandSPX.excO C hp.objs.size)).get? b = some o := fun b o e => Heap.get?_push_of_some _ (Heap.get?_push_of_some _ e)
  have hget : ((hp.push (PySem.W.kdv_tup [])).push (PySem.HandSPX.excO C hp.objs.size)).get? (hp.objs.size + 1) = some (PySem.HandSPX.excO C hp.objs.size) := by heap_get
  have I2 : Inv X pins σ (upd H1 (hp.objs.size + 1) (exo (hp.objs.size + 1) C none)) ⟨(hp.push (PySem.W.kdv_tup [])).push (PySem.HandSPX.excO C hp.objs.size), gn, dr, tt, os⟩ :=
    I1.laid (t' := tt) (a := hp.objs.size + 1) (o := exo (hp.objs.size + 1) C none) (h' := (hp.push (PySem.W.kdv_tup [])).push (PySem.HandSPX.excO C hp.objs.size)) kk hsz (exo_ok hget)
  have r1 : Vals [V.ref (hp.objs.size + 1)] [Value.ref (hp.objs.size + 1)] := .cons rfl .nil
  have r2 := hb.rel r1 rz
  have l2 : ws.length = ks.length := rz.length.symm.trans hlz
  refine wpAny_call (PySem.HandSPX.call_kw F.excBase_ValueError (fun Y => PySem.HandSPX.refsVE_contains Y bm hbm) (I1.kIn _ _ hC) (PySem.W.looks_findIn I1.kIn iC) (fun self => PySem.W.bind_fn I1.kIn self tI) (Nat.zero_le _)
    (codeAny_mono (F1.run _ X.stack _ _ ⟨[Value.ref (hp.objs.size + 1)], ks.zip ws⟩ (g [Value.ref (hp.objs.size + 1)] ws) _ _ (fun _ _ _ => False) (hr.make C [] (ks.zip ws)) (I2.env0.make C [] (ks.zip ws)) (hb.to _ [Value.ref (hp.objs.size + 1)] ws I2.kIn rfl l2) r2 hq) fun r s' hq' => ?_))
  cases r with
  | error er => exact hx pins σ _ _ er s' I2 hq'
  | ok fl =>
    cases fl with
    | ret u =>
      obtain ⟨v, H2, os2, bare2, un2, hok2, rv, ev, d, fs, ea, ed, hd1, q2⟩ := hq'
      subst ev
      obtain ⟨h2, g2, d2, t2, os'⟩ := s'
      exact ⟨rv, mk_end (raises_own T.exC T.tyC) I1 hsz kk un2 hok2 os2 bare2 ea ed hd1 q2⟩
    | next => exact False.elim hq'
    | brk => exact False.elim hq'
    | cont => exact False.elim hq'
/-- D.__init__(self, ..), D an own class above, without an own __init__ -/
theorem pe_sinit {x : Str} {D : Addr} {mc : Value} {pl : Sem Bool} (hg : Gl X x) (hm : X.mg x = some (.ref D)) (R : ClX.CRead X.K D mc) (vV : PySem.W.findCls X.K (.ref D) mc "__init__" = some (.val (.builtin "ValueError.__init__"))) (ha : PA X (e :: es) ta)
    (hc : eval (.Call (.Attribute (.Name x p1) "__init__" p2) (e :: es) [] pos) X.env = (do
      let ov ← eval (.Name x p1) X.env
      standAt p2.atName
      let (f, first) ← holding [ov] (getMethod ov "__init__" pl)
      callWith pos f first (backTo pos (starEach (e :: es) X.env)) (backToKw pos (keywordEach [] X.env))) := by rfl)
    (he : starEach (e :: es) X.env = (false, eval e X.env) :: starEach es X.env := by rfl) (hpl : (backTo pos (starEach es X.env)).any (·.1) = false := by rfl) (hdb : (x == ("__debug__" : Str)) = false := by decide) :
    PE X (.Call (.Attribute (.Name x p1) "__init__" p2) (e :: es) [] pos) (tVeI X.K ta) := by
  refine ⟨fun pins s σ H Q I h => ?_⟩
  refine PySem.W.methodCall_KW (ld_glob I hg hm ?_ hdb) hc
  refine PySem.W.method_cls I.kIn R.ga (PySem.W.cls_value I.kIn R.rd vV (by decide +kernel) ?_)
  show wpAny _ _ (callWith pos (Value.builtin "ValueError.__init__") [] (backTo pos (starEach (e :: es) X.env)) []) _ _ _
  refine PyProof.Rows.callWith_method1 (thn (ha.run pos pins _ σ H _ (I.tok _) h) fun us s1 ⟨vs, H1, I1, r1, a, C, ws, ev, hl, T, ea, q⟩ => ?_) he hpl
  subst ev
  cases r1 with
  | @cons _ u0 _ ur ra rw' =>
    obtain rfl : u0 = Value.ref a := ra
    have hlen : ur.length ≤ sizeLine := by
      rw [← Paired.length rw', sizeLine_eq]
      omega
    exact oinit_ok T I1 ea hlen fun s' J => ⟨.non, H1, J, rfl, q⟩
end
end G7

set_option linter.all false
set_option Elab.async false
set_option maxRecDepth 100000
set_option maxHeartbeats 4000000
/-! isinstance of a caught error that has fields of its own -/
namespace PySem.W
open PySem PySem.Spec PySem.Calls PyProof.Rows
section
variable {prog : Program} {w : World} {A : Around} {E : Value → Shared → Prop} {s : Shared} {K : Frag} {x D : Addr} {ox : Obj} {od : Option Obj}
theorem findObj_dataD {C : Addr} {name : Str} {a g : Value} (hc : (clsIn K C).isSome = true) (ha : findIn K (.ref C) name = some (some a)) (hg : specialIn K a "__get__" = some (some g)) (ht : takesIn K a = some true) : findObj K C od name = some (.bind g a) := by
  obtain ⟨cd, hc⟩ := Option.isSome_iff_exists.mp hc
  unfold findObj
  rw [hc, Option.bind_some, ha, Option.bind_some]
  simp [hg, ht]
theorem kin_classD {Q : Option Value → Shared → Prop} (hga : findIn K (.ref D) "__getattribute__" = some (some (.builtin "BaseException.__getattribute__"))) (hgt : findIn K (.ref D) "__getattr__" = some none) (hsub : subIn K (.ref D) (.type "BaseException") = some true)
    (hdct : hasDictIn K D = true) (ha : findIn K (.ref D) "__class__" = some (some (.builtin "object.__class__")))
    (hn : specialIn K (.builtin "object.__class__") "__get__" = some (some (.builtin "getset_descriptor.__get__"))) (htk : takesIn K (.builtin "object.__class__") = some true) (hm : mroIn K D (.type "object") = some true)
    (X : K.In s.heap) (I : InstAt s.heap x ox D od) (h : Q (some (.ref D)) { s with toks := s.toks + 1 }) : wpAny (model prog w) A (getAttr? (.ref x) "__class__") Q E s := by
  have hf : findObj K D od "__class__" = some (.bind (.builtin "getset_descriptor.__get__") (.builtin "object.__class__")) := findObj_dataD (by obtain ⟨cd, hc, _⟩ := any_some hdct; rw [hc]; rfl) ha hn htk
  obtain ⟨hp, g, d, t, os⟩ := s
  have L0 := I.type (M := model prog w)
  have L1 := looks_findIn (M := model prog w) X hga
  have L2 := looks_findIn (M := model prog w) X hgt
  have L3 := looks_find (M := model prog w) X I hf
  have sub : Looks (model prog w) hp (isInstance (.ref x) (.type "BaseException")) true := L0.andThen (looks_subIn X hsub)
  have hx0 : (false && onTheHeap (Value.builtin "BaseException.__getattribute__")) = false := rfl
  have hx2 : (Value.builtin "BaseException.__getattribute__" == Value.builtin "object.__getattribute__") = false := by decide +kernel
  have hx1 : (onTheHeap (Value.ref D) && Value.builtin "BaseException.__getattribute__" == Value.builtin "object.__getattribute__") = false := by rw [hx2]; rfl
  unfold getAttr? getAttrBy? getAttrBy
  refine wpAny_bind (wpAny_mkText (wpAny_bind (wpAny_attempt (wpAny_holding (wpAny_bind (L0.at (wpAny_bind (L1.at ?_))))))))
  show wpAny _ _ (if (onTheHeap (Value.ref D) && Value.builtin "BaseException.__getattribute__" == Value.builtin "object.__getattribute__") = true then _ else _) _ _ _
  rw [hx1, if_neg Bool.false_ne_true]
  unfold getAttrByItsOwn hookBefore
  refine wpAny_bind ?_
  rw [if_pos (show onTheHeap (Value.ref D) = true from rfl)]
  refine L2.at ?_
  refine wpAny_bind (wpAny_attempt (wpAny_holding ?_))
  unfold callGetattribute
  rw [hx0, if_neg Bool.false_ne_true]
  unfold boundAndCalled
  rw [PySem.F.excAttr_ValueError.ga.bind (.ref x)]
  refine wpAny_bind (wpAny_pure ?_)
  show wpAny _ _ (call (.builtin "BaseException.__getattribute__") [.ref x, .str "__class__" t]) _ _ _
  refine wpAny_call (codeAny_call_builtin PySem.F.excAttr_ValueError.ga.plain PySem.F.entry_bexc_ga ?_)
  refine @check_slot (model prog w) _ _ ⟨hp, g, d, t + 1, os⟩ "BaseException.__getattribute__" "BaseException" "__getattribute__" (.ref x) [.str "__class__" t] [] _ (by decide +kernel) (by decide +kernel) sub (PySem.F.args_bexc_ga (.ref x) (.str "__class__" t)) ?_
  unfold Builtin.«object.__getattribute__»
  refine wpAny_bind (wpAny_of_eq (a := ((Value.ref x : Value), [Value.str "__class__" t])) (by first | rfl | (simp only [slotArgs]; rfl)) ?_)
  refine wpAny_bind (wpAny_pure (wpAny_bind (L0.at (wpAny_bind (L3.at ?_)))))
  show wpAny _ _ (holding [Value.builtin "object.__class__"] (call (.builtin "getset_descriptor.__get__") [.builtin "object.__class__", .ref x, .ref D]) >>= ret) _ _ _
  refine wpAny_bind (wpAny_holding (wpAny_call (class_get (s := ⟨hp, g, d, t + 1, os⟩) (ox := ox) (od := od) X I hm ?_)))
  refine wpAny_pure ?_
  show wpAny _ _ (handedOut (.ref D)) _ _ _
  rw [handedOut_of (v := .ref D) rfl]
  first
    | exact wpAny_pure (wpAny_pure h)
    | exact wpAny_pure h
    | exact wpAny_pure (wpAny_bind (wpAny_pure (wpAny_pure h)))
theorem kitx_excD (hga : findIn K (.ref D) "__getattribute__" = some (some (.builtin "BaseException.__getattribute__"))) (hgt : findIn K (.ref D) "__getattr__" = some none) (hsub : subIn K (.ref D) (.type "BaseException") = some true) (hdct : hasDictIn K D = true) (ha : findIn K (.ref D) "__class__" = some (some (.builtin "object.__class__")))
    (hn : specialIn K (.builtin "object.__class__") "__get__" = some (some (.builtin "getset_descriptor.__get__"))) (htk : takesIn K (.builtin "object.__class__") = some true) (hm : mroIn K D (.type "object") = some true) :
    KitX K (.ref x) (.ref D) (fun h => InstAt h x ox D od) where
  ty := fun _ _ _ I => I.type
  it := fun _ _ X _ => by
    obtain ⟨cdD, hcD, _⟩ := any_some hdct
    unfold clsIn at hcD
    split at hcD
    · rename_i c' d' cd' sl' ho
      intro A' Q' E' s' k q
      unfold isType loadHead
      exact wpAny_bind (wpAny_loadPart (k _ _ (X _ _ ho)) (wpAny_pure q))
    · cases hcD
  ne := fun h tp dd its n sl X htp => by
    obtain ⟨cdD, hcD, _⟩ := any_some hdct
    refine Bool.eq_false_iff.mpr fun q => ?_
    have e : D = tp := Value.ref.inj (beq_iff_eq.mp q)
    subst e
    unfold clsIn at hcD
    split at hcD
    · rename_i c' d' cd' sl' ho
      have z := (X _ _ ho).symm.trans htp
      cases z
    · cases hcD
  ca := fun X I k => kin_classD hga hgt hsub hdct ha hn htk hm X I k
end
end PySem.W
namespace G7
open PySem PySem.Spec PyProof.Rows L2
/-- isinstance(e, c), e the error that the suite holds, which has its dict -/
def rIsD (K : PySem.W.Frag) (cls : Value) (d : Option Addr) (a : Addr) : List V → Hp → VK → Prop := fun xs H Q => ∃ (D dd : Addr) (fs : List (Str × V)), cls = .ref D ∧ d = some dd ∧ H dd = some (.xd fs) ∧ ExcC K D ∧ ∃ (c : V) (cv : Value) (b : Bool), xs = [.ref a, c] ∧ (∀ u, RelV c u → u = cv) ∧ PySem.W.kitOne K (.ref D) cv = some b ∧ Q (.bl b) H
theorem call_isD {X : Cx} {a : Addr} {oe : Obj} {cls : Value} {d : Option Addr} {pn : List (Addr × Obj)} (hz : Zc cls d oe) (hf : ∃ vs, oe.data = .fields vs) : CallR (X.suite a ((a, oe) :: pn)) (.builtin "isinstance") (rIsD X.K cls d a) := by
  intro pins s σ H xs us Q I r h
  obtain ⟨D, dd, fs, rfl, rfl, hd, C, c, cv, b, rfl, hcv, e, q⟩ := h
  cases r with
  | cons rx rr =>
    cases rr with
    | cons rt rr =>
      cases rr
      cases rx
      have ec := hcv _ rt
      subst ec
      obtain ⟨hget, _⟩ := I.pin (a, oe) (List.mem_append.mpr (.inl List.mem_cons_self))
      obtain ⟨vs, hv⟩ := hf
      have hx : ObjOk X.prog X.w H s.heap dd (.xd fs) := I.hok dd _ hd
      obtain ⟨mA, hns, hr⟩ := hx
      obtain ⟨od, ho, hl⟩ := lookIn_ns hns
      have J : PySem.W.InstAt s.heap a oe D (some od) := ⟨hget, hz.1, by unfold PySem.W.notCls; rw [hv] <;> rfl, by rw [hz.2]; exact ho⟩
      exact PySem.W.kia_one (PySem.W.kitx_excD C.hg C.hk C.hs C.hd C.ha C.hn C.ht C.hm) I.kIn J e (fun z => nomatch z) fun tk => ⟨.bl b, H, I.kept (t' := tk) fun _ _ z => z, rfl, q⟩
end G7

set_option linter.all false
set_option Elab.async false
set_option maxRecDepth 100000
set_option maxHeartbeats 4000000
/-! a, b, *rest = t -/
namespace ST
open PySem PySem.Spec PyProof.Rows L2
section
variable {prog : Program} {w : World} {A : Around} {E : Value → Shared → Prop} {s : Shared}
theorem shift {I : Addr} {fp wr : List Addr} {G : Array GenState → Array GenState → Prop} {n : Nat} {P : Nat → Value → Prop} {St : Nat → Shared → Prop} (W : WalksS prog w A I fp wr G n P St) (i : Nat) (hi : i ≤ n) :
    WalksS prog w A I fp wr G (n - i) (fun k => P (i + k)) (fun k => St (i + k)) where
  sub := W.sub
  grefl := W.grefl
  gtrans := W.gtrans
  frame := fun k s h' tk st ht hk => W.frame (i + k) s h' tk st ht hk
  item := fun k s Q E hk st hQ => W.item (i + k) s Q E (by omega) st fun v s' hP hst hm => hQ v s' hP hst hm
  done := fun s Q E st hQ => W.done s Q E (by rw [show i + (n - i) = n by omega] at st; exact st) hQ
  self := fun k s Q E st hQ => W.self (i + k) s Q E st hQ
theorem unpackItems_star {t : Addr} {items : Array Value} {i : Nat} {Q : List Value → Shared → Prop} (hh : A.handled = none) (ht : IsTup s.heap t items) (hi : i ≤ items.size) (hz : items.size ≤ sizeLine)
    (hQ : ∀ (h' : Heap) (tk : Nat), (∀ b o, s.heap.get? b = some o → h'.get? b = some o) → s.toks ≤ tk →
      Q (items.toList.take i ++ [.ref h'.objs.size]) { s with heap := h'.push { cls := .type "list", data := .seq (items.toList.drop i).toArray }, toks := tk }) :
    wpAny (model prog w) A (unpackItems (.ref t) (i + 1) (some i)) Q E s := by
  have hlt : t ≠ s.heap.objs.size := by obtain ⟨o, ho, _⟩ := ht; exact Nat.ne_of_lt (Heap.lt_size ho)
  unfold unpackItems
  refine wpAny_bind ?_
  · unfold notIterableAtAll
    refine wpAny_bind (wpAny_specialOf ht.typeIs slot_tuple_iter.lookup ?_)
    refine wpAny_pure ?_
    simp only [Bool.false_eq_true, if_false]
    refine wpAny_bind (wpAny_holding (iter_tuple ht ?_))
    refine wpAny_bind (wpAny_holding (draw_tuple hlt i 0 _ _ ⟨_, Heap.get?_push_size _ rfl, rfl, rfl⟩ (ht.push _) (by omega) fun h₁ hit₁ hs₁ => ?_))
    rw [Nat.zero_add] at hit₁
    rw [List.drop_zero]
    have hlen : (List.take i items.toList).length = i := by rw [List.length_take, Array.length_toList]; omega
    rw [if_neg (by rw [hlen]; omega)]
    have ht₁ : IsTup h₁ t items := (ht.push _).extBut hs₁.extBut hlt
    have k₁ : ∀ b o, s.heap.get? b = some o → h₁.get? b = some o := fun b o e => hs₁.extBut b o (Nat.ne_of_lt (Heap.lt_size e)) (Heap.get?_push_of_some _ e)
    have W := shift (Walks.tuple (prog := prog) (w := w) (A := A.in1) (by exact hh) s.heap.objs.size t hlt items).toS i hi
    have hsz : h₁.objs.size = s.heap.objs.size + 1 := by rw [hs₁.1, Heap.size_push]
    refine wpAny_bind (wpAny_holding (wpAny_collect_iter (s := { s with heap := h₁ }) (.inr (.inr (.inr rfl))) W (fun k s' st => ?_) ⟨hit₁, ht₁⟩ (fun b hb => ?_) (by simp) (fun s' acc hm hacc => ?_) (by omega)))
    · obtain ⟨⟨o, ho, hc, _⟩, _⟩ := st
      exact ⟨o, ho, hc⟩
    · simp only [List.mem_cons, List.mem_nil_iff, or_false] at hb
      rcases hb with rfl | rfl
      · show _ < h₁.objs.size; omega
      · obtain ⟨o, ho, _⟩ := ht₁; exact Heap.lt_size ho
    · obtain ⟨h', g, d, tk, os⟩ := s'
      obtain ⟨kp, hg, hd, ho, htk⟩ := hm
      dsimp only at kp hg hd ho htk
      subst hg hd ho
      have ha : acc.toList = items.toList.drop i := by
        apply List.ext_getElem?
        intro k
        rw [List.getElem?_drop]
        by_cases hk : k < acc.size
        · have e := hacc.2 k acc[k] (Array.getElem?_eq_getElem hk)
          rw [Array.getElem?_toList, Array.getElem?_toList, Array.getElem?_eq_getElem hk]
          exact e.symm
        · have hs := hacc.1
          rw [List.getElem?_eq_none (by rw [Array.length_toList]; omega), List.getElem?_eq_none (by rw [Array.length_toList]; omega)]
      rw [ha]
      have hl2 : (items.toList.drop i).length = items.size - i := by rw [List.length_drop, Array.length_toList]
      rw [if_neg (by rw [hl2]; omega)]
      have em : (items.toList.drop i).length - (i + 1 - 1 - i) = (items.toList.drop i).length := by omega
      rw [em, List.take_of_length_le (Nat.le_refl _), List.drop_eq_nil_of_le (Nat.le_refl _)]
      refine wpAny_bind (wpAny_newList ?_ (by rw [hl2]; omega))
      simp only [List.append_nil]
      refine wpAny_pure (hQ h' tk (fun b o e => kp b o (fun m => ?_) (k₁ b o e)) htk)
      · rw [List.mem_singleton] at m
        exact Nat.ne_of_lt (Heap.lt_size e) m
end
end ST
namespace G7
open PySem PySem.Spec PyProof.Rows L2
section
variable {X : Cx} {pos : Pos}
/-- (a, b, *c) = a tuple of k items at least -/
def gStar (k : Nat) (t : TGs) : TG := fun v σ H Q => ∃ a xs, v = .ref a ∧ tpO (H a) = some xs ∧ k ≤ xs.length ∧ ∀ p, H p = none → t (xs.take k ++ [.ref p]) σ (upd H p (.lst (xs.drop k))) Q
theorem pgs_star {e : Expr} {pos : Pos} {t : TG} (h1 : PG X e t) : PGs X [.Starred e pos] (gCons t gNil) := by
  refine ⟨fun pins s σ H vs us Q I r h => ?_⟩
  obtain ⟨v, vr, e1, h⟩ := h
  subst e1
  cases r with
  | cons r rr =>
    show wpAny _ _ (assignInOrder [assign e X.env] _) _ _ _
    refine assignInOrder_cons (thn (h1.run pins s σ H _ _ _ I r h) fun _ s1 ⟨σ1, H1, I1, e2, q1⟩ => ?_)
    subst e2
    cases rr
    exact assignInOrder_nil ⟨σ1, H1, I1, q1⟩
theorem pg_star {es : List Expr} {n k : Nat} {t : TGs} (hc : X.calm = true) (h : PGs X es t) (hn : (assignEach es X.env).length = k + 1 := by rfl) (hst : (assignEach es X.env).findIdx? (·.1) = some k := by rfl) : PG X (.Tuple es n pos) (gStar k t) := by
  refine ⟨fun pins s σ H v u Q I r hw => ?_⟩
  obtain ⟨a, xs, e1, hq, hl, hw⟩ := hw
  subst e1
  cases r
  obtain ⟨its, rv, ht, hz⟩ := I.tuple (show SqT X.K H a xs from .inl (rd_tpO hq))
  have hlen := rv.length
  rw [assign_Tuple]
  refine wpAny_bind (wpAny_standAt ?_)
  unfold unpack
  rw [hn, hst]
  refine wpAny_bind (wpAny_holding (ST.unpackItems_star (I.ok.hd hc) ht (by rw [List.size_toArray]; omega) (by rw [List.size_toArray]; omega) fun h' tk kp htk => ?_))
  have I1 : Inv X pins σ H { s with heap := h', toks := tk } := I.kept kp
  have hf := I1.hok.fresh (Nat.le_refl h'.objs.size)
  have I2 : Inv X pins σ (upd H h'.objs.size (.lst (xs.drop k))) { s with heap := h'.push { cls := .type "list", data := .seq (its.drop k).toArray }, toks := tk } :=
    I1.laid (t' := tk) (fun b u e => Heap.get?_push_of_some _ e) (Nat.le_refl _) ⟨by rw [List.length_drop]; omega, its.drop k, 0, rv.drop k, Heap.get?_push_size _ rfl⟩
  refine h.run pins _ σ _ (xs.take k ++ [.ref h'.objs.size]) _ Q (by simpa using I2) (by simpa using (rv.take k).append (show Vals [V.ref h'.objs.size] [Value.ref h'.objs.size] from .cons rfl .nil)) (hw _ hf)
end
end G7

set_option linter.all false
set_option Elab.async false
set_option maxRecDepth 100000
set_option maxHeartbeats 4000000
/-! a, b, *rest = a list -/
namespace ST
open PySem PySem.Spec PyProof.Rows L2
section
variable {prog : Program} {w : World} {E : Value → Shared → Prop}
theorem draw_list {it l : Addr} {items : Array Value} (hne : l ≠ it) : ∀ (n i : Nat) (A : Around) (hh : A.handled = none) (s : Shared) (Q : List Value → Shared → Prop), s.heap.IsListIter it l i → s.heap.IsList l items → i + n ≤ items.size →
    (∀ s', s'.heap.IsListIter it l (i + n) → s'.heap.IsList l items → Moved [it] (fun a b => b = a) s s' → Q ((items.toList.drop i).take n) s') → wpAny (model prog w) A (draw (.ref it) n) Q E s
  | 0, i, A, hh, s, Q, hit, hl, _, hQ => by
    show wpAny _ _ (pure []) Q E s
    exact wpAny_pure (by simpa using hQ s hit hl (Moved.refl fun _ => rfl))
  | n + 1, i, A, hh, s, Q, hit, hl, hle, hQ => by
    have hlt : i < items.size := by omega
    show wpAny _ _ (pyNext (.ref it) >>= _) Q E s
    have W := (Walks.list (prog := prog) (w := w) (A := A) hh it l hne items).toS
    refine wpAny_bind (W.item i s _ E hlt ⟨hit, hl⟩ fun v s1 hv st m1 => ?_)
    have ev : items[i] = v := by
      have z : items[i]? = some v := hv
      rw [Array.getElem?_eq_getElem hlt] at z
      exact Option.some.inj z
    refine wpAny_bind (wpAny_holding (draw_list hne n (i + 1) _ (by exact hh) s1 _ st.1 st.2 (by omega) fun s2 hit2 hl2 m2 => wpAny_pure ?_))
    have hd : items.toList.drop i = items[i] :: items.toList.drop (i + 1) := by simp [List.drop_eq_getElem_cons, hlt]
    have z := hQ s2 (by rw [show i + (n + 1) = i + 1 + n by omega]; exact hit2) hl2 (Moved.trans (fun a b c p q => q.trans p) m1 m2)
    rw [hd, List.take_succ_cons, ev] at z
    exact z
theorem unpackItems_starL {A : Around} {s : Shared} {t : Addr} {items : Array Value} {i : Nat} {Q : List Value → Shared → Prop} (hh : A.handled = none) (ht : s.heap.IsList t items) (hi : i ≤ items.size) (hz : items.size ≤ sizeLine)
    (hQ : ∀ (h' : Heap) (tk : Nat), (∀ b o, s.heap.get? b = some o → h'.get? b = some o) → s.toks ≤ tk →
      Q (items.toList.take i ++ [.ref h'.objs.size]) { s with heap := h'.push { cls := .type "list", data := .seq (items.toList.drop i).toArray }, toks := tk }) :
    wpAny (model prog w) A (unpackItems (.ref t) (i + 1) (some i)) Q E s := by
  have hlt : t ≠ s.heap.objs.size := by obtain ⟨o, ho, _⟩ := ht; exact Nat.ne_of_lt (Heap.lt_size ho)
  unfold unpackItems
  refine wpAny_bind ?_
  · unfold notIterableAtAll
    refine wpAny_bind (wpAny_specialOf ht.typeIs slot_list_iter.lookup ?_)
    refine wpAny_pure ?_
    simp only [Bool.false_eq_true, if_false]
    refine wpAny_bind (wpAny_holding (wpAny_pyIter_list ht ?_))
    refine wpAny_bind (wpAny_holding (draw_list hlt i 0 _ (by exact hh) _ _ ⟨_, Heap.get?_push_size _ rfl, rfl, rfl⟩ (ht.push _) (by omega) fun s1 hit₁ ht₁ m1 => ?_))
    rw [Nat.zero_add] at hit₁
    rw [List.drop_zero]
    have hlen : (List.take i items.toList).length = i := by rw [List.length_take, Array.length_toList]; omega
    rw [if_neg (by rw [hlen]; omega)]
    have k₁ : ∀ b o, s.heap.get? b = some o → s1.heap.get? b = some o := fun b o e => m1.heap b o (fun z => Nat.ne_of_lt (Heap.lt_size e) (List.mem_singleton.mp z)) (Heap.get?_push_of_some _ e)
    have W := shift (Walks.list (prog := prog) (w := w) (A := A.in1) (by exact hh) s.heap.objs.size t hlt items).toS i hi
    have hsz : s.heap.objs.size < s1.heap.objs.size := by obtain ⟨o, ho, _⟩ := hit₁; exact Heap.lt_size ho
    refine wpAny_bind (wpAny_holding (wpAny_collect_iter (.inr (.inr (.inl rfl))) W (fun k s' st => ?_) ⟨hit₁, ht₁⟩ (fun b hb => ?_) (by simp) (fun s' acc hm hacc => ?_) (by omega)))
    · obtain ⟨⟨o, ho, hc, _⟩, _⟩ := st
      exact ⟨o, ho, hc⟩
    · simp only [List.mem_cons, List.mem_nil_iff, or_false] at hb
      rcases hb with rfl | rfl
      · exact hsz
      · obtain ⟨o, ho, _⟩ := ht₁; exact Heap.lt_size ho
    · obtain ⟨mh, mg, md, mo, mt⟩ := m1
      obtain ⟨hp1, g1, d1, tk1, os1⟩ := s1
      obtain ⟨h', g, d, tk, os⟩ := s'
      obtain ⟨kp, hg, hd, ho, htk⟩ := hm
      dsimp only at kp hg hd ho htk mg md mo mt k₁
      subst hg hd ho mg md mo
      have ha : acc.toList = items.toList.drop i := by
        apply List.ext_getElem?
        intro k
        rw [List.getElem?_drop]
        by_cases hk : k < acc.size
        · have e := hacc.2 k acc[k] (Array.getElem?_eq_getElem hk)
          rw [Array.getElem?_toList, Array.getElem?_toList, Array.getElem?_eq_getElem hk]
          exact e.symm
        · have hs := hacc.1
          rw [List.getElem?_eq_none (by rw [Array.length_toList]; omega), List.getElem?_eq_none (by rw [Array.length_toList]; omega)]
      rw [ha]
      have hl2 : (items.toList.drop i).length = items.size - i := by rw [List.length_drop, Array.length_toList]
      rw [if_neg (by rw [hl2]; omega)]
      have em : (items.toList.drop i).length - (i + 1 - 1 - i) = (items.toList.drop i).length := by omega
      rw [em, List.take_of_length_le (Nat.le_refl _), List.drop_eq_nil_of_le (Nat.le_refl _)]
      refine wpAny_bind (wpAny_newList ?_ (by rw [hl2]; omega))
      simp only [List.append_nil]
      refine wpAny_pure (hQ h' tk (fun b o e => kp b o (fun m => ?_) (k₁ b o e)) (Nat.le_trans mt htk))
      · rw [List.mem_singleton] at m
        exact Nat.ne_of_lt (Heap.lt_size e) m
end
end ST
namespace G7
open PySem PySem.Spec PyProof.Rows L2
section
variable {X : Cx} {pos : Pos}
/-- (a, b, *c) = a list of k items at least -/
def gStarL (k : Nat) (t : TGs) : TG := fun v σ H Q => ∃ a xs, v = .ref a ∧ lsO (H a) = some xs ∧ k ≤ xs.length ∧ ∀ p, H p = none → t (xs.take k ++ [.ref p]) σ (upd H p (.lst (xs.drop k))) Q
theorem pg_starL {es : List Expr} {n k : Nat} {t : TGs} (hc : X.calm = true) (h : PGs X es t) (hn : (assignEach es X.env).length = k + 1 := by rfl) (hst : (assignEach es X.env).findIdx? (·.1) = some k := by rfl) : PG X (.Tuple es n pos) (gStarL k t) := by
  refine ⟨fun pins s σ H v u Q I r hw => ?_⟩
  obtain ⟨a, xs, e1, hq, hl, hw⟩ := hw
  subst e1
  cases r
  obtain ⟨its, rv, pl, hz⟩ := I.list (show SqL X.K H a xs from .inl (rd_lsO hq))
  have hlen := rv.length
  rw [assign_Tuple]
  refine wpAny_bind (wpAny_standAt ?_)
  unfold unpack
  rw [hn, hst]
  refine wpAny_bind (wpAny_holding (ST.unpackItems_starL (I.ok.hd hc) pl.isList (by rw [List.size_toArray]; omega) (by rw [List.size_toArray]; omega) fun h' tk kp htk => ?_))
  have I1 : Inv X pins σ H { s with heap := h', toks := tk } := I.kept kp
  have hf := I1.hok.fresh (Nat.le_refl h'.objs.size)
  have I2 : Inv X pins σ (upd H h'.objs.size (.lst (xs.drop k))) { s with heap := h'.push { cls := .type "list", data := .seq (its.drop k).toArray }, toks := tk } :=
    I1.laid (t' := tk) (fun b u e => Heap.get?_push_of_some _ e) (Nat.le_refl _) ⟨by rw [List.length_drop]; omega, its.drop k, 0, rv.drop k, Heap.get?_push_size _ rfl⟩
  refine h.run pins _ σ _ (xs.take k ++ [.ref h'.objs.size]) _ Q (by simpa using I2) (by simpa using (rv.take k).append (show Vals [V.ref h'.objs.size] [Value.ref h'.objs.size] from .cons rfl .nil)) (hw _ hf)
end
end G7

set_option linter.all false
set_option Elab.async false
set_option maxRecDepth 100000
set_option maxHeartbeats 4000000
/-! a dict of the module, texts to numbers, at any word -/
namespace G7
open PySem PySem.Spec PyProof.Rows L2
def lkT (L : List (Str × Nat)) (x : Str) : Option Nat := (L.find? fun e => decide (e.1 = x)).map (·.2)
def entOf (e : DictEntry) : Option (Str × Int) := match e.key, e.val with
  | .str s _, .int n _ => some (s, n)
  | _, _ => none
structure TxTab (K : PySem.W.Frag) (w : World) (d : Addr) (L : List (Str × Nat)) : Prop where
  kd : ∃ es n, KDict K w d es n
  hit : ∀ x n, lkT L x = some n → ∃ t, PySem.W.nsIn K d x = some (some (.int (n : Int) t))
  miss : ∀ x, lkT L x = none → PySem.W.nsIn K d x = some none
theorem entOf_str {e : DictEntry} {s : Str} {n : Int} (h : entOf e = some (s, n)) : (∃ t, e.key = .str s t) ∧ ∃ t, e.val = .int n t := by
  unfold entOf at h
  split at h
  · rename_i s' t' n' u' h1 h2
    have z := Option.some.inj h
    have z1 : s' = s := congrArg Prod.fst z
    have z2 : n' = n := congrArg Prod.snd z
    rw [← z1, ← z2]
    exact ⟨⟨_, h1⟩, _, h2⟩
  · cases h
theorem ents_find {es : List DictEntry} {L : List (Str × Nat)} (h : es.map entOf = L.map fun e => some (e.1, (e.2 : Int))) (x : Str) :
    (match lkT L x with | some n => ∃ e, es.find? (fun e => e.key.isStr x) = some e ∧ ∃ t, e.val = .int (n : Int) t | none => es.find? (fun e => e.key.isStr x) = none ∧ es.any (·.refKey) = false) := by
  induction L generalizing es with
  | nil =>
    cases es with
    | nil => exact ⟨rfl, rfl⟩
    | cons a r => cases h
  | cons p L ih =>
    cases es with
    | nil => cases h
    | cons a r =>
      rw [List.map_cons, List.map_cons, List.cons.injEq] at h
      obtain ⟨⟨t, hk⟩, u, hv⟩ := entOf_str h.1
      have ih := ih h.2
      by_cases c : p.1 = x
      · have e1 : lkT (p :: L) x = some p.2 := by
          unfold lkT
          rw [List.find?_cons_of_pos (p := fun e : Str × Nat => decide (e.1 = x)) (decide_eq_true c)]
          rfl
        rw [e1]
        refine ⟨a, ?_, u, hv⟩
        rw [List.find?_cons_of_pos]
        rw [hk, c]
        simp [Value.isStr]
      · have e1 : lkT (p :: L) x = lkT L x := by
          unfold lkT
          rw [List.find?_cons_of_neg (p := fun e : Str × Nat => decide (e.1 = x)) (by simpa using c)]
        rw [e1]
        have nf : ¬ (a.key.isStr x = true) := by
          rw [hk]
          simp [Value.isStr, c]
        have nr : a.refKey = false := by
          unfold DictEntry.refKey
          rw [hk]
        have f1 : (a :: r).find? (fun e => e.key.isStr x) = r.find? fun e => e.key.isStr x := List.find?_cons_of_neg (p := fun e : DictEntry => e.key.isStr x) nf
        rw [f1, List.any_cons, nr, Bool.false_or]
        exact ih
theorem txTab_mk {K : PySem.W.Frag} {w : World} {d : Addr} {es : Array DictEntry} {n : Nat} {L : List (Str × Nat)} (h1 : K.lookup d = some ⟨.type "dict", none, .dict es n, #[]⟩) (h2 : PySem.W.KeysLit w.params es.toList) (h3 : (d == sysModules) = false)
    (h4 : es.toList.map entOf = L.map fun e => some (e.1, (e.2 : Int))) : TxTab K w d L := by
  refine ⟨⟨es, n, h1, h2, h3⟩, fun x m hm => ?_, fun x hm => ?_⟩
  · have z := ents_find h4 x
    rw [hm] at z
    obtain ⟨e, he, t, hv⟩ := z
    refine ⟨t, ?_⟩
    unfold PySem.W.nsIn
    rw [h1]
    dsimp only
    rw [he]
    dsimp only
    rw [hv]
  · have z := ents_find h4 x
    rw [hm] at z
    unfold PySem.W.nsIn
    rw [h1]
    dsimp only
    rw [z.1]
    dsimp only
    rw [z.2]
    rfl
def rInTx (d : Addr) (L : List (Str × Nat)) (neg : Bool) : R2 := fun x y H Q => ∃ z : Str, x = .str z ∧ y = .ref d ∧ Q (.bl (if neg then !(lkT L z).isSome else (lkT L z).isSome)) H
def rIxTx (d : Addr) (L : List (Str × Nat)) : R2 := fun x y H Q => ∃ (z : Str) (n : Nat), x = .ref d ∧ y = .str z ∧ lkT L z = some n ∧ Q (.int (n : Int)) H
section
variable {X : Cx} {d : Addr} {L : List (Str × Nat)}
theorem txTab_ns {K : PySem.W.Frag} {w : World} (D : TxTab K w d L) (z : Str) : ∃ r, PySem.W.nsIn K d z = some r ∧ r.isSome = (lkT L z).isSome := by
  cases h : lkT L z with
  | none => exact ⟨none, D.miss z h, rfl⟩
  | some n =>
    obtain ⟨t, e⟩ := D.hit z n h
    exact ⟨_, e, rfl⟩
theorem op_inTx (D : TxTab X.K X.w d L) : OpR X (compareOp .In) (rInTx d L false) := by
  obtain ⟨es, n, kd⟩ := D.kd
  refine opImp (op_in_kd kd) fun x y H Q ⟨z, e1, e2, q⟩ => ?_
  obtain ⟨r, e, i⟩ := txTab_ns D z
  exact ⟨z, r, e1, e2, e, by rw [i]; exact q⟩
theorem op_notInTx (D : TxTab X.K X.w d L) : OpR X (compareOp .NotIn) (rInTx d L true) := by
  obtain ⟨es, n, kd⟩ := D.kd
  refine opImp (op_notIn_kd kd) fun x y H Q ⟨z, e1, e2, q⟩ => ?_
  obtain ⟨r, e, i⟩ := txTab_ns D z
  exact ⟨z, r, e1, e2, e, by rw [i]; exact q⟩
theorem ix_tx (D : TxTab X.K X.w d L) : IxR X (rIxTx d L) := by
  obtain ⟨es, n, kd⟩ := D.kd
  refine ixImp ix_kdict fun x y H Q ⟨z, m, e1, e2, e3, q⟩ => ?_
  obtain ⟨t, ht⟩ := D.hit z m e3
  exact ⟨_, _, .int (m : Int), e1, e2, ⟨es, n, _, kd.at_, kd.lit, ht, ⟨t, rfl⟩⟩, q⟩
end
end G7

set_option linter.all false
set_option Elab.async false
set_option maxRecDepth 100000
set_option maxHeartbeats 4000000
/-! the end's words: keyword-only parameters without defaults; isinstance of a class above -/
namespace G7
open PySem PySem.Spec PyProof.Rows L2
/-- a def all of whose keyword-only parameters are without defaults -/
theorem _root_.L2.Fun.kbn {K : PySem.W.Frag} {x qual : Str} {st : Stmt} {f : Addr} {fd : FuncData} {ps : List Str} (F : L2.Fun K x qual st f fd) (n : Nat) (ks : List Str)
    (h : ∀ (kV doc pm : Value) (an : Option Addr) (cdv ct : Value) (us ws : List Value), us.length = n → ws.length = ks.length → bindArgs (PySem.W.fnOf x qual (defArgs st) (defBody st) (defScope st) .none kV doc pm an cdv ct) ⟨us, ks.zip ws⟩ = pure (ps.zip (us ++ ws))) :
    KBn K fd ps n ks (fun us ws => us ++ ws) (fun vs zs => vs ++ zs) := by
  obtain ⟨oc, od, kV, doc, pm, an, cdv, ct, osl, rfl, lk, hcd⟩ := F.ex
  exact ⟨fun s us ws X l1 l2 => .of_eq (h kV doc pm an cdv ct us ws l1 l2), fun r1 r2 => r1.append r2⟩
/-- isinstance of an own class above -/
theorem kit_sub {K : PySem.W.Frag} {D C : Addr} (h2 : PySem.W.isClsIn K C = true) (h3 : PySem.W.typeIn K (.ref C) = some (.type "type")) (h4 : PySem.W.subIn K (.ref D) (.ref C) = some true) : PySem.W.kitOne K (.ref D) (.ref C) = some true := by
  have e2 : ((PySem.W.clsIn K C).isSome && PySem.W.typeIn K (.ref C) == some (.type "type")) = true := by
    have h2' : (PySem.W.clsIn K C).isSome = true := h2
    rw [h2', h3] <;> rfl
  show (if ((Value.ref D : Value) == .ref C) = true then some true else (if ((PySem.W.clsIn K C).isSome && PySem.W.typeIn K (.ref C) == some (.type "type")) = true then PySem.W.subIn K (.ref D) (.ref C) else none)) = some true
  by_cases e : ((Value.ref D : Value) == .ref C) = true
  · rw [if_pos e]
  · rw [if_neg e, if_pos e2]
    exact h4
end G7

set_option linter.all false
set_option Elab.async false
set_option maxRecDepth 100000
set_option maxHeartbeats 4000000
/-! a() as a statement in a try, a callable of known doing -/
namespace Lm
open PySem PySem.Spec PyProof.Rows L2 LamX
theorem pss_exprA {X : Cx} {H0 : Hp} {k i : Nat} {f : Addr} {R : XK → Hp → VK → Prop} {W : WX} {a : Str} {p1 p2 p3 : Pos} (hA : Act0 X.prog X.w X.K X.mg X.base k H0 f R) (tk : Takes X W)
    (hr : Room k X.A) (hN : X.N[i]? = some a) (hv : Vis X.env.scope a) (hd : (a == ("__debug__" : Str)) = false := by decide) (hcd : (a == ("__classdict__" : Str)) = false := by decide) (hs : swapsWith (.Call (.Name a p1) [] [] p2) none p3.line X.env = pure false := by rfl) :
    PSs X [.Expr (.Call (.Name a p1) [] [] p2) p3] (fun D σ H => σ[i]? = some (some (.ref f)) ∧ KeepF H0 H ∧ R (fun cls d H' => W cls d σ H') H fun _ H1 => D.nx σ H1) := by
  refine pss_one (ps_expr (pos := p3) (te := fun σ H Q => σ[i]? = some (some (.ref f)) ∧ KeepF H0 H ∧ R (fun cls d H' => W cls d σ H') H Q) ?_ hs)
  refine ⟨fun pins s σ H Q I h => ?_⟩
  obtain ⟨hs, hk, hR⟩ := h
  refine wpAny_Call_Name_kw (thn ((pe_var (pos := p1) (i := i) hN hv hd hcd).run pins s σ H (fun v H1 => v = .ref f ∧ H1 = H) I ⟨.ref f, hs, rfl, rfl⟩) fun u s1 ⟨v, H1, I1, r1, q1⟩ => ?_)
  obtain ⟨ev, eH⟩ := q1
  subst ev
  rw [eH] at I1
  obtain rfl : u = Value.ref f := r1
  obtain ⟨fo, rc⟩ := hA X.A X.stack s1 H Q (fun cls d H' => W cls d σ H') hr I1.env0 hk hR
  refine PySem.W.callWith_F0 fo ?_
  refine wpAny_call (codeAny_mono rc fun r s' hq => ?_)
  cases r with
  | error e => exact passAt tk σ pins H s1 e s' I1 hq
  | ok fl =>
    cases fl with
    | ret u => exact I1.after hq
    | next => exact False.elim hq
    | brk => exact False.elim hq
    | cont => exact False.elim hq
end Lm

set_option linter.all false
set_option Elab.async false
set_option maxRecDepth 100000
set_option maxHeartbeats 4000000
/-! l != [], whatever stands in l -/
namespace G7
open PySem PySem.Spec PyProof.Rows L2
def rNeNilA : R2 := fun x y H Q => ∃ (p q : Addr) (xs : List V), x = .ref p ∧ y = .ref q ∧ lsO (H p) = some xs ∧ lsO (H q) = some [] ∧ Q (.bl (!xs.isEmpty)) H
theorem op_neNilA {X : Cx} (hu : X.A.units + 64 < cLine) : OpR X (compareOp .NotEq) rNeNilA := by
  intro pins s σ H x y v u Q I rx ry h
  obtain ⟨p, q, xs, rfl, rfl, h1, h2, k⟩ := h
  obtain rfl : v = Value.ref p := rx
  obtain rfl : u = Value.ref q := ry
  obtain ⟨its, r1, pl1, _⟩ := I.list (show SqL X.K H p xs from .inl (rd_lsO h1))
  obtain ⟨its2, r2, pl2, _⟩ := I.list (show SqL X.K H q [] from .inl (rd_lsO h2))
  have l1 := r1.length
  have l2 : its2.length = 0 := r2.length.symm
  have hu0 : X.A.units < cLine := by omega
  cases xs with
  | nil =>
    have e1 : its.length = 0 := l1.symm
    refine (SeqAt.RcNeAt.lists (e := fun _ => true) pl1.isList pl2.isList (by rw [List.size_toArray, List.size_toArray]; omega) hu0 fun j j1 _ => ?_) _ _ _ _ (fin_bl I k ?_)
    · rw [List.size_toArray] at j1
      omega
    · rw [List.size_toArray, e1]
      rfl
  | cons x r =>
    have e1 : its.length = r.length + 1 := l1.symm
    refine (SeqAt.RcNeAt.lists_lengths pl1.isList pl2.isList (by rw [List.size_toArray, List.size_toArray]; simp; omega) hu0) _ _ _ _ (fin_bl I k rfl)
/-- l == [], whatever stands in l -/
def rEqNilA : R2 := fun x y H Q => ∃ (p q : Addr) (xs : List V), x = .ref p ∧ y = .ref q ∧ lsO (H p) = some xs ∧ lsO (H q) = some [] ∧ Q (.bl xs.isEmpty) H
theorem op_eqNilA {X : Cx} (hu : X.A.units + 64 < cLine) : OpR X (compareOp .Eq) rEqNilA := by
  intro pins s σ H x y v u Q I rx ry h
  obtain ⟨p, q, xs, rfl, rfl, h1, h2, k⟩ := h
  obtain rfl : v = Value.ref p := rx
  obtain rfl : u = Value.ref q := ry
  obtain ⟨its, r1, pl1, _⟩ := I.list (show SqL X.K H p xs from .inl (rd_lsO h1))
  obtain ⟨its2, r2, pl2, _⟩ := I.list (show SqL X.K H q [] from .inl (rd_lsO h2))
  have l1 := r1.length
  have l2 : its2.length = 0 := r2.length.symm
  have hu0 : X.A.units < cLine := by omega
  cases xs with
  | nil =>
    have e1 : its.length = 0 := l1.symm
    refine (SeqAt.RcAt.lists (e := fun _ => true) pl1.isList pl2.isList (by rw [List.size_toArray, List.size_toArray]; omega) hu0 fun j j1 _ => ?_) _ _ _ _ (fin_bl I k ?_)
    · rw [List.size_toArray] at j1
      omega
    · rw [List.size_toArray, e1]
      rfl
  | cons x r =>
    have e1 : its.length = r.length + 1 := l1.symm
    refine (SeqAt.RcAt.lists_lengths pl1.isList pl2.isList (by rw [List.size_toArray, List.size_toArray]; simp; omega) hu0) _ _ _ _ (fin_bl I k rfl)
end G7

set_option linter.all false
set_option Elab.async false
set_option maxRecDepth 100000
set_option maxHeartbeats 4000000
/-! comprehensions over things that stand, the heap growing -/
namespace G7
open PySem PySem.Spec PyProof.Rows L2
theorem upd_none {H : Hp} {a b : Addr} {o : HO} (h : upd H a o b = none) : b ≠ a ∧ H b = none := by
  by_cases e : b = a
  · rw [e, upd_same] at h
    cases h
  · rw [upd_ne e] at h
    exact ⟨e, h⟩
/-- a comprehension walks es: those kept give y with P e y -/
theorem lc_ents {α : Type} {J : It} {n : Nat} {G : Hp → Prop} {Y : Nat → Hp → V → Hp → Prop} (W : Walk J n G Y) {g : TG} {tt : TT} {te : TE} {vs : List Nat} {σ : L2.St} {H1 : Hp} {Qd : VK}
    (es : List α) (keep : α → Bool) (P : α → V → Hp → Prop) (hn : es.length = n) (hz : es.length ≤ 90000) (hG : ∀ H, Same H1 H → G H) (hY : ∀ i H x H', Y i H x H' → Same H H')
    (mono : ∀ D e y H H', P e y H → (∃ ys, H D = some (.lst ys)) → Keep [D] H H' → P e y H')
    (step : ∀ (i : Nat) (e : α) (x : V) (H H' : Hp) (Q : VK) (N : Hp → Prop), es[i]? = some e → Same H1 H → Y i H x H' → (keep e = true → ∀ y H4, Same H' H4 → P e y H4 → Q y H4) → (keep e = false → ∀ H4, Same H' H4 → N H4) →
      g x (wipe σ vs) H' fun σ2 H2 => wipe σ2 vs = wipe σ vs ∧ tt σ2 H2 fun b H3 => if b = true then te σ2 H3 Q else N H3)
    (done : ∀ (D : Addr) (H : Hp) (zs : List (α × V)), H1 D = none → zs.map (·.1) = es.filter keep → Same H1 H → H D = some (.lst (zs.map (·.2))) → (∀ z ∈ zs, P z.1 z.2 H) → Qd (.ref D) H) :
    lcB J g tt te vs σ H1 Qd := lcB_it fun D hD => by
  refine lc_it W (fun i H => Same H1 H ∧ ∃ zs : List (α × V), zs.map (·.1) = (es.take i).filter keep ∧ H D = some (.lst (zs.map (·.2))) ∧ ∀ z ∈ zs, P z.1 z.2 H) ⟨same_new hD, [], rfl, upd_same, fun z hz => by cases hz⟩ (fun i H _ h => hG H h.1) ?_ ?_
  · rintro i x H H' hi ⟨ss, zs, e1, e2, e3⟩ hy
    have he : es[i]? = some es[i] := List.getElem?_eq_getElem (by omega)
    have sy := hY i H x H' hy
    have tk : es.take (i + 1) = es.take i ++ [es[i]] := by rw [List.take_succ, he]; rfl
    have k0 : ∀ {H4 : Hp}, Same H' H4 → ∀ z ∈ zs, P z.1 z.2 H4 := fun s4 z hz => mono D _ _ _ _ (e3 z hz) ⟨_, e2⟩ (Keep.ofSame (sy.trans s4))
    have zl : zs.length ≤ es.length := by
      have a := congrArg List.length e1
      rw [List.length_map] at a
      have b := List.length_filter_le keep (es.take i)
      rw [List.length_take] at b
      omega
    refine step i _ x H H' _ _ he ss hy (fun hk y H4 s4 hp => ?_) (fun hk H4 s4 => ?_)
    · have d4 := s4 _ _ (sy _ _ e2)
      refine ⟨_, d4, by rw [List.length_map]; exact szl' (by omega), Same.updFree (ss.trans (sy.trans s4)) hD, zs ++ [(es[i], y)], ?_, ?_, fun z hz => ?_⟩
      · rw [tk, List.filter_append, List.map_append, e1, List.filter_cons_of_pos hk]
        rfl
      · rw [upd_same, List.map_append]
        rfl
      · rcases List.mem_append.mp hz with h | h
        · exact mono D _ _ _ _ (k0 s4 z h) ⟨_, d4⟩ (Keep.refl.upd (by simp))
        · rw [List.mem_singleton.mp h]
          exact mono D _ _ _ _ hp ⟨_, d4⟩ (Keep.refl.upd (by simp))
    · refine ⟨ss.trans (sy.trans s4), zs, ?_, s4 _ _ (sy _ _ e2), k0 s4⟩
      rw [tk, List.filter_append, e1, List.filter_cons_of_neg (by rw [hk]; simp)]
      simp
  · rintro H ⟨ss, zs, e1, e2, e3⟩
    rw [← hn, List.take_length] at e1
    exact done D H zs hD e1 ss e2 e3
/-- the same of all, nothing left out -/
theorem lc_all {α : Type} {J : It} {n : Nat} {G : Hp → Prop} {Y : Nat → Hp → V → Hp → Prop} (W : Walk J n G Y) {g : TG} {te : TE} {vs : List Nat} {σ : L2.St} {H1 : Hp} {Qd : VK}
    (es : List α) (P : α → V → Hp → Prop) (hn : es.length = n) (hz : es.length ≤ 90000) (hG : ∀ H, Same H1 H → G H) (hY : ∀ i H x H', Y i H x H' → Same H H')
    (mono : ∀ D e y H H', P e y H → (∃ ys, H D = some (.lst ys)) → Keep [D] H H' → P e y H')
    (step : ∀ (i : Nat) (e : α) (x : V) (H H' : Hp) (Q : VK), es[i]? = some e → Same H1 H → Y i H x H' → (∀ y H4, Same H' H4 → P e y H4 → Q y H4) → g x (wipe σ vs) H' fun σ2 H2 => wipe σ2 vs = wipe σ vs ∧ te σ2 H2 Q)
    (done : ∀ (D : Addr) (H : Hp) (zs : List (α × V)), H1 D = none → zs.map (·.1) = es → Same H1 H → H D = some (.lst (zs.map (·.2))) → (∀ z ∈ zs, P z.1 z.2 H) → Qd (.ref D) H) :
    lcB J g tYes te vs σ H1 Qd := by
  refine lc_ents W es (fun _ => true) P hn hz hG hY mono (fun i e x H H' Q N he s1 hy hq _ => ?_) (fun D H zs hD e1 => done D H zs hD (by rw [e1]; exact List.filter_eq_self.mpr fun _ _ => rfl))
  have z := step i e x H H' Q he s1 hy (hq rfl)
  simp only [tYes, if_true]
  exact z
theorem yat_same {xs : List V} : ∀ i H x H', YAt xs i H x H' → Same H H' := fun i H x H' h => by
  obtain ⟨rfl, _⟩ := h
  exact Same.refl _
theorem yat_of {α : Type} {f : α → V} {es : List α} {i : Nat} {e : α} {H H' : Hp} {x : V} (he : es[i]? = some e) (h : YAt (es.map f) i H x H') : H' = H ∧ x = f e := by
  obtain ⟨rfl, h⟩ := h
  rw [List.getElem?_map, he] at h
  exact ⟨rfl, (Option.some.inj h).symm⟩
/-- what is told is a known value of each -/
theorem zs_vals {α : Type} {f : α → V} {zs : List (α × V)} {es : List α} (h : zs.map (·.1) = es) (k : ∀ z ∈ zs, z.2 = f z.1) : zs.map (·.2) = es.map f := by
  rw [← h, List.map_map]
  exact List.map_congr_left fun z hz => k z hz
/-- a dict that is told by things with distinct names -/
theorem valV_mem {κ α : Type} [DecidableEq κ] {f : α → κ} {g : α → V} : ∀ {l : List α}, (l.map f).Nodup → ∀ x ∈ l, valV (l.map fun y => (f y, g y)) (f x) = some (g x)
  | [], _, x, h => by cases h
  | a :: l, nd, x, h => by
    rw [List.map_cons, List.nodup_cons] at nd
    unfold valV
    rw [List.map_cons, List.find?_cons]
    by_cases e : f a = f x
    · rcases List.mem_cons.mp h with z | z
      · rw [z]
        simp
      · exact absurd (List.mem_map.mpr ⟨x, z, e.symm⟩) nd.1
    · rw [decide_eq_false e]
      rcases List.mem_cons.mp h with z | z
      · exact absurd (by rw [z]) e
      · exact valV_mem nd.2 x z
theorem valV_no {κ α : Type} [DecidableEq κ] {f : α → κ} {g : α → V} {l : List α} {k : κ} (h : k ∉ l.map f) : valV (l.map fun y => (f y, g y)) k = none := by
  unfold valV
  rw [Option.map_eq_none_iff, List.find?_eq_none]
  intro x hx e
  obtain ⟨y, hy, rfl⟩ := List.mem_map.mp hx
  exact h (List.mem_map.mpr ⟨y, hy, of_decide_eq_true e⟩)
theorem valV_isSome {κ α : Type} [DecidableEq κ] {f : α → κ} {g : α → V} {l : List α} {k : κ} (h : k ∈ l.map f) : (valV (l.map fun y => (f y, g y)) k).isSome = true := by
  unfold valV
  rw [Option.isSome_map, List.find?_isSome]
  obtain ⟨y, hy, e⟩ := List.mem_map.mp h
  exact ⟨(f y, g y), List.mem_map.mpr ⟨y, hy, rfl⟩, decide_eq_true e⟩
theorem zs_choose {α β : Type} {R : β → Prop} {g : β → V} : ∀ {zs : List (α × V)}, (∀ z ∈ zs, ∃ f, R f ∧ z.2 = g f) → ∃ l : List β, zs.map (·.2) = l.map g ∧ l.length = zs.length ∧ ∀ f ∈ l, R f
  | [], _ => ⟨[], rfl, rfl, fun f hf => by cases hf⟩
  | z :: zs, h => by
    obtain ⟨f, r, e⟩ := h z List.mem_cons_self
    obtain ⟨l, e1, e2, e3⟩ := zs_choose (zs := zs) fun y hy => h y (List.mem_cons_of_mem _ hy)
    refine ⟨f :: l, by rw [List.map_cons, List.map_cons, e, e1], by rw [List.length_cons, List.length_cons, e2], fun n hn => ?_⟩
    rcases List.mem_cons.mp hn with q | q
    · rw [q]; exact r
    · exact e3 n q
theorem nd_injB {α β : Type} {f : α → β} : ∀ {l : List α}, (l.map f).Nodup → ∀ x ∈ l, ∀ y ∈ l, f x = f y → x = y
  | [], _, x, hx, _, _, _ => by cases hx
  | a :: l, nd, x, hx, y, hy, e => by
    rw [List.map_cons, List.nodup_cons] at nd
    rcases List.mem_cons.mp hx with h1 | h1
    · rcases List.mem_cons.mp hy with h2 | h2
      · rw [h1, h2]
      · exact absurd (List.mem_map.mpr ⟨y, h2, by rw [← e, h1]⟩) nd.1
    · rcases List.mem_cons.mp hy with h2 | h2
      · exact absurd (List.mem_map.mpr ⟨x, h1, by rw [e, h2]⟩) nd.1
      · exact nd_injB nd.2 x h1 y h2 e
theorem nd_inr {α : Type} {f : α → Str} {l : List α} (h : (l.map f).Nodup) : (l.map fun x => (Sum.inr (f x) : Key)).Nodup := by
  unfold List.Nodup at *
  rw [List.pairwise_map] at *
  exact h.imp fun n e => n (Sum.inr.inj e)
theorem nd_inl {α : Type} {f : α → Int} {l : List α} (h : (l.map f).Nodup) : (l.map fun x => (Sum.inl (f x) : Key)).Nodup := by
  unfold List.Nodup at *
  rw [List.pairwise_map] at *
  exact h.imp fun n e => n (Sum.inl.inj e)
/-- a comprehension that makes new things, each with places of its own -/
theorem lc_own {α β : Type} {J : It} {n : Nat} {G : Hp → Prop} {Y : Nat → Hp → V → Hp → Prop} (W : Walk J n G Y) {g : TG} {te : TE} {vs : List Nat} {σ : L2.St} {H1 : Hp} {Qd : VK}
    (es : List α) (f : β → V) (R : α → β → Hp → Prop) (own : β → List Addr) (hn : es.length = n) (hz : es.length ≤ 90000) (hG : ∀ H, Same H1 H → G H) (hY : ∀ i H x H', Y i H x H' → Same H H')
    (mono : ∀ D e b H H', R e b H → (∃ ys, H D = some (.lst ys)) → Keep [D] H H' → R e b H') (hex : ∀ e b H, R e b H → ∀ m ∈ own b, H m ≠ none)
    (step : ∀ (i : Nat) (e : α) (x : V) (H H' : Hp) (Q : VK), es[i]? = some e → Same H1 H → Y i H x H' → (∀ b H4, Same H' H4 → R e b H4 → (own b).Nodup → (∀ m ∈ own b, H' m = none) → Q (f b) H4) → g x (wipe σ vs) H' fun σ2 H2 => wipe σ2 vs = wipe σ vs ∧ te σ2 H2 Q)
    (done : ∀ (D : Addr) (H : Hp) (zs : List (α × β)), H1 D = none → zs.map (·.1) = es → Same H1 H → H D = some (.lst (zs.map fun z => f z.2)) → (∀ z ∈ zs, R z.1 z.2 H) → (zs.flatMap fun z => own z.2).Nodup → (∀ m ∈ zs.flatMap (fun z => own z.2), H1 m = none ∧ m ≠ D) → Qd (.ref D) H) :
    lcB J g tYes te vs σ H1 Qd := lcB_it fun D hD => by
  refine lc_it W (fun i H => Same H1 H ∧ ∃ zs : List (α × β), zs.map (·.1) = es.take i ∧ H D = some (.lst (zs.map fun z => f z.2)) ∧ (∀ z ∈ zs, R z.1 z.2 H) ∧ (zs.flatMap fun z => own z.2).Nodup ∧ ∀ m ∈ zs.flatMap (fun z => own z.2), H1 m = none ∧ m ≠ D) ⟨same_new hD, [], rfl, upd_same, (fun z hz => by cases hz), List.nodup_nil, (fun m hm => by cases hm)⟩ (fun i H _ h => hG H h.1) ?_ ?_
  · rintro i x H H' hi ⟨ss, zs, e1, e2, e3, e4, e5⟩ hy
    have he : es[i]? = some es[i] := List.getElem?_eq_getElem (by omega)
    have sy := hY i H x H' hy
    have tk : es.take (i + 1) = es.take i ++ [es[i]] := by rw [List.take_succ, he]; rfl
    have zl : zs.length ≤ es.length := by
      have a := congrArg List.length e1
      rw [List.length_map, List.length_take] at a
      omega
    have st := step i _ x H H' (fun y H4 => ∃ acc, H4 D = some (HO.lst acc) ∧ acc.length < sizeLine ∧ (Same H1 (upd H4 D (.lst (acc ++ [y]))) ∧ ∃ zs : List (α × β), zs.map (·.1) = es.take (i + 1) ∧ (upd H4 D (.lst (acc ++ [y]))) D = some (.lst (zs.map fun z => f z.2)) ∧ (∀ z ∈ zs, R z.1 z.2 (upd H4 D (.lst (acc ++ [y])))) ∧ (zs.flatMap fun z => own z.2).Nodup ∧ ∀ m ∈ zs.flatMap (fun z => own z.2), H1 m = none ∧ m ≠ D)) he ss hy (fun b H4 s4 hp hnd hfr => ?_)
    · simp only [tYes, if_true]
      exact st
    · have d4 := s4 _ _ (sy _ _ e2)
      have dY := sy _ _ e2
      refine ⟨_, d4, by rw [List.length_map]; exact szl' (by omega), Same.updFree (ss.trans (sy.trans s4)) hD, zs ++ [(es[i], b)], ?_, ?_, fun z hz => ?_, ?_, fun m hm => ?_⟩
      · rw [tk, List.map_append, e1]
        rfl
      · rw [upd_same, List.map_append]
        rfl
      · rcases List.mem_append.mp hz with h | h
        · exact mono D _ _ _ _ (mono D _ _ _ _ (e3 z h) ⟨_, e2⟩ (Keep.ofSame (sy.trans s4))) ⟨_, d4⟩ (Keep.refl.upd (by simp))
        · rw [List.mem_singleton.mp h]
          exact mono D _ _ _ _ hp ⟨_, d4⟩ (Keep.refl.upd (by simp))
      · rw [List.flatMap_append]
        refine List.nodup_append.mpr ⟨e4, by simpa using hnd, fun a ha c hc z => ?_⟩
        obtain ⟨q, hq, hm⟩ := List.mem_flatMap.mp ha
        have h1 := hex _ _ _ (e3 q hq) a hm
        have h2 := hfr c (by simpa using hc)
        rw [← z] at h2
        exact h1 (Same.free sy h2)
      · rw [List.flatMap_append] at hm
        rcases List.mem_append.mp hm with h | h
        · exact e5 m h
        · have h2 := hfr m (by simpa using h)
          refine ⟨Same.free (ss.trans sy) h2, fun z => ?_⟩
          rw [z, dY] at h2
          cases h2
  · rintro H ⟨ss, zs, e1, e2, e3, e4, e5⟩
    rw [← hn, List.take_length] at e1
    exact done D H zs hD e1 ss e2 e3 e4 e5
theorem at_last {α : Type} {l : List α} {x : α} : atI (l ++ [x]) (-1) = some x := by
  unfold atI ixN
  rw [if_neg (by decide), if_pos (by rw [List.length_append]; simp; omega)]
  have : (-1 + ((l ++ [x]).length : Int)).toNat = l.length := by
    rw [List.length_append, List.length_cons, List.length_nil]
    omega
  show ((l ++ [x])[(-1 + ((l ++ [x]).length : Int)).toNat]?) = some x
  rw [this]
  simp
/-- the same keys in another order, out of a list without doubles -/
theorem perm_keys {α β : Type} [DecidableEq β] {f : α → β} {rows : List α} (nd : (rows.map f).Nodup) : ∀ {ps : List α}, (∀ e ∈ ps, e ∈ rows) → (ps.map f).Perm (rows.map f) → ps.Perm rows := by
  induction rows with
  | nil =>
    intro ps h p
    have : ps.map f = [] := List.perm_nil.mp (by simpa using p)
    rw [List.map_eq_nil_iff.mp this]
  | cons r rows ih =>
    intro ps h p
    rw [List.map_cons, List.nodup_cons] at nd
    have hr : f r ∈ ps.map f := p.mem_iff.mpr (by simp)
    obtain ⟨e, he, ee⟩ := List.mem_map.mp hr
    have er : e = r := by
      rcases List.mem_cons.mp (h e he) with q | q
      · exact q
      · exact absurd (List.mem_map.mpr ⟨e, q, ee⟩) nd.1
    subst er
    obtain ⟨A, B, rfl⟩ := List.append_of_mem he
    have p2 : ((A ++ B).map f).Perm (rows.map f) := by
      have z : ((A ++ e :: B).map f).Perm (f e :: (A ++ B).map f) := by
        rw [List.map_append, List.map_cons, List.map_append]
        exact List.perm_middle
      exact (z.symm.trans p).cons_inv
    have hsub : ∀ x ∈ A ++ B, x ∈ rows := fun x hx => by
      have hx2 : x ∈ A ++ e :: B := by
        rcases List.mem_append.mp hx with q | q
        · exact List.mem_append_left _ q
        · exact List.mem_append_right _ (List.mem_cons_of_mem _ q)
      rcases List.mem_cons.mp (h x hx2) with q | q
      · have : f e ∈ rows.map f := p2.mem_iff.mp (by rw [← q]; exact List.mem_map.mpr ⟨x, hx, rfl⟩)
        exact absurd this nd.1
      · exact q
    exact List.perm_middle.trans ((ih nd.2 hsub p2).cons e)
/-- another order of what things are told by is another order of the things -/
theorem perm_back {α β : Type} [DecidableEq β] {f : α → β} : ∀ {l : List α} {ys : List β}, ys.Perm (l.map f) → ∃ l' : List α, l'.map f = ys ∧ l'.Perm l
  | [], ys, p => ⟨[], (List.perm_nil.mp (by simpa using p)).symm, .refl _⟩
  | x :: l, ys, p => by
    have hx : f x ∈ ys := p.mem_iff.mpr (by simp)
    obtain ⟨A, B, rfl⟩ := List.append_of_mem hx
    have p2 : (A ++ B).Perm (l.map f) := by
      rw [List.map_cons] at p
      exact (List.perm_middle.symm.trans p).cons_inv
    obtain ⟨l', e, q⟩ := perm_back p2
    refine ⟨l'.take A.length ++ x :: l'.drop A.length, ?_, ?_⟩
    · rw [List.map_append, List.map_cons, List.map_take, List.map_drop, e]
      simp
    · refine List.perm_middle.trans ?_
      rw [List.take_append_drop]
      exact q.cons x
/-- things that a comprehension made -/
theorem zs_pairs {α β : Type} {R : α → β → Prop} {g : β → V} : ∀ {zs : List (α × V)}, (∀ z ∈ zs, ∃ b, z.2 = g b ∧ R z.1 b) → ∃ l : List (β × α), zs.map (·.2) = l.map (fun x => g x.1) ∧ l.map (·.2) = zs.map (·.1) ∧ ∀ x ∈ l, R x.2 x.1
  | [], _ => ⟨[], rfl, rfl, fun x hx => by cases hx⟩
  | z :: zs, h => by
    obtain ⟨b, e, r⟩ := h z List.mem_cons_self
    obtain ⟨l, e1, e2, e3⟩ := zs_pairs (zs := zs) fun y hy => h y (List.mem_cons_of_mem _ hy)
    refine ⟨(b, z.1) :: l, by rw [List.map_cons, List.map_cons, e, e1], by rw [List.map_cons, List.map_cons, e2], fun x hx => ?_⟩
    rcases List.mem_cons.mp hx with q | q
    · rw [q]; exact r
    · exact e3 x q
end G7

set_option linter.all false
set_option Elab.async false
set_option maxRecDepth 100000
set_option maxHeartbeats 4000000
/-! a store as it is told, without places: what its writes make of it -/
namespace G7
open PySem PySem.Spec PyProof.Rows L2
abbrev RowE := Addr × List Int
inductive Wr where
  | tab (name : Str) (fa : Addr) (fields : List Str)
  | idx (name field : Str)
  | row (name : Str) (key : Int) (r : Option RowE)
abbrev AVer := Int × Option RowE
abbrev AKey := Int × List AVer
structure ATab where
  name : Str
  n : Int
  fields : List Str
  keys : List AKey
structure AIdx where
  tab : Str
  field : Str
  n : Int
  M : List (Int × Int)
structure ASto where
  first : Int
  newest : Int
  tabs : List ATab
  idxs : List AIdx
def putA (ks : List AKey) (key : Int) (v : AVer) : List AKey :=
  if ks.any (fun e => decide (e.1 = key)) = true then ks.map fun e => if e.1 = key then (e.1, e.2 ++ [v]) else e else ks ++ [(key, [v])]
def worthsA (j : Nat) (ks : List AKey) : List (Int × Int) := ks.flatMap fun e => e.2.filterMap fun v => v.2.map fun r => (r.2.getD j 0, e.1)
def ASto.tab? (A : ASto) (nm : Str) : Option ATab := A.tabs.find? fun t => decide (t.name = nm)
def ASto.col (A : ASto) (nm f : Str) : Nat := match A.tab? nm with
  | some t => t.fields.idxOf f
  | none => 0
def ASto.keysOf (A : ASto) (nm : Str) : List AKey := match A.tab? nm with
  | some t => t.keys
  | none => []
def layA (A : ASto) (n : Int) : Wr → ASto
  | .tab nm _ fs => { A with tabs := A.tabs ++ [⟨nm, n, fs, []⟩] }
  | .idx nm f => { A with idxs := A.idxs ++ [⟨nm, f, n, (worthsA (A.col nm f) (A.keysOf nm)).reverse⟩] }
  | .row nm key r => { A with
      tabs := A.tabs.map fun t => if t.name = nm then { t with keys := putA t.keys key (n, r) } else t
      idxs := match r with
        | none => A.idxs
        | some r => A.idxs.map fun x => if x.tab = nm then { x with M := (r.2.getD (A.col nm x.field) 0, key) :: x.M } else x }
/-- sizes, and that the indexes' fields are there -/
def verSum (ks : List AKey) : Nat := (ks.map fun e => e.2.length).sum
structure ABd (A : ASto) (N : Nat) : Prop where
  nt : A.tabs.length ≤ 1000
  ni : A.idxs.length ≤ 1000
  nk : ∀ t ∈ A.tabs, t.keys.length ≤ N ∧ verSum t.keys ≤ N
  nM : ∀ x ∈ A.idxs, x.M.length ≤ N
  at_ : ∀ x ∈ A.idxs, ∃ t ∈ A.tabs, t.name = x.tab ∧ x.field ∈ t.fields
/-- what a write asks -/
def WrFit (A : ASto) : Wr → Prop
  | .tab nm _ _ => nm ∉ A.tabs.map (·.name)
  | .idx nm f => (∃ t ∈ A.tabs, t.name = nm ∧ f ∈ t.fields) ∧ ∀ x ∈ A.idxs, ¬ (x.tab = nm ∧ x.field = f)
  | .row nm _ r => ∃ t ∈ A.tabs, t.name = nm ∧ ∀ row, r = some row → row.2.length = t.fields.length
/-- and of the heap -/
def TpF (H : Hp) (a : Addr) (xs : List V) : Prop := ∃ o : Obj, H a = some (.frz o (.tup xs)) ∧ o.cls = .type "tuple" ∧ o.dict = none
theorem TpF.tp {H : Hp} {a : Addr} {xs : List V} (h : TpF H a xs) : tpO (H a) = some xs := by
  obtain ⟨o, e, _⟩ := h
  rw [e]
  rfl
def rowV : Option RowE → V
  | none => .non
  | some r => .ref r.1
def wrXs : Wr → List V
  | .tab n fa _ => [.str "table", .str n, .ref fa]
  | .idx n f => [.str "index", .str n, .str f]
  | .row n k r => [.str "row", .str n, .int k, rowV r]
def WrAt (H : Hp) : Wr → Prop
  | .tab _ fa fs => TpF H fa (fs.map V.str)
  | .idx _ _ => True
  | .row _ _ r => ∀ row, r = some row → H row.1 = some (.tup (row.2.map V.int))
theorem putA_len {ks : List AKey} {key : Int} {v : AVer} : (putA ks key v).length ≤ ks.length + 1 := by
  unfold putA
  split
  · simp
  · simp
theorem verSum_app {a b : List AKey} : verSum (a ++ b) = verSum a + verSum b := by
  unfold verSum
  rw [List.map_append, List.sum_append]
theorem putA_sum {ks : List AKey} {key : Int} {v : AVer} (nd : (ks.map (·.1)).Nodup) : verSum (putA ks key v) ≤ verSum ks + 1 := by
  unfold putA
  split
  · rename_i hn
    clear hn
    induction ks with
    | nil => simp [verSum]
    | cons e ks ih =>
      rw [List.map_cons, List.nodup_cons] at nd
      rw [List.map_cons]
      by_cases h : e.1 = key
      · have e2 : ks.map (fun e => if e.1 = key then (e.1, e.2 ++ [v]) else e) = ks := 
          (List.map_congr_left (g := id) fun y hy => if_neg fun z : y.1 = key => nd.1 (List.mem_map.mpr ⟨y, hy, z.trans h.symm⟩)).trans (List.map_id _)
        rw [e2, if_pos h]
        simp only [verSum, List.map_cons, List.sum_cons, List.length_append, List.length_cons, List.length_nil]
        omega
      · rw [if_neg h]
        have z := ih nd.2
        simp only [verSum, List.map_cons, List.sum_cons] at z ⊢
        omega
  · rw [verSum_app]
    simp [verSum]
theorem sum_mem : ∀ {l : List Nat} {n : Nat}, n ∈ l → n ≤ l.sum
  | [], _, h => by cases h
  | x :: l, n, h => by
    rw [List.sum_cons]
    rcases List.mem_cons.mp h with h | h
    · omega
    · have := sum_mem h
      omega
theorem worthsA_len {j : Nat} : ∀ {ks : List AKey}, (worthsA j ks).length ≤ verSum ks
  | [] => by simp [worthsA, verSum]
  | e :: ks => by
    have z := worthsA_len (j := j) (ks := ks)
    simp only [worthsA, verSum, List.flatMap_cons, List.map_cons, List.sum_cons, List.length_append] at z ⊢
    have y := List.length_filterMap_le (fun v : AVer => v.2.map fun r => (r.2.getD j 0, e.1)) e.2
    omega
theorem putA_keys {ks : List AKey} {key : Int} {v : AVer} (nd : (ks.map (·.1)).Nodup) : ((putA ks key v).map (·.1)).Nodup := by
  unfold putA
  split
  · rw [List.map_map]
    have : ((fun e : AKey => e.1) ∘ fun e : AKey => if e.1 = key then (e.1, e.2 ++ [v]) else e) = fun e => e.1 := by
      funext e
      show (if e.1 = key then (e.1, e.2 ++ [v]) else e).1 = e.1
      split <;> rfl
    rw [this]
    exact nd
  · rename_i hn
    rw [List.map_append]
    refine List.nodup_append.mpr ⟨nd, by simp, fun a ha b hb z => ?_⟩
    obtain ⟨e, he, rfl⟩ := List.mem_map.mp ha
    simp only [List.map_cons, List.map_nil, List.mem_singleton] at hb
    exact hn (List.any_eq_true.mpr ⟨e, he, decide_eq_true (z.trans hb)⟩)
/-- no key twice in a table, no table's name twice -/
structure AWell (A : ASto) : Prop where
  names : (A.tabs.map (·.name)).Nodup
  keys : ∀ t ∈ A.tabs, (t.keys.map (·.1)).Nodup
theorem lay_well {A : ASto} {n : Int} {wr : Wr} (W : AWell A) (f : WrFit A wr) : AWell (layA A n wr) := by
  cases wr with
  | tab nm fa fs =>
    refine ⟨?_, fun t ht => ?_⟩
    · show ((A.tabs ++ [_]).map _).Nodup
      rw [List.map_append]
      refine List.nodup_append.mpr ⟨W.names, by simp, fun a ha b hb z => ?_⟩
      simp only [List.map_cons, List.map_nil, List.mem_singleton] at hb
      exact f (hb ▸ z ▸ ha)
    · rcases List.mem_append.mp ht with h | h
      · exact W.keys t h
      · rw [List.mem_singleton.mp h]
        exact List.nodup_nil
  | idx nm g => exact ⟨W.names, W.keys⟩
  | row nm key r =>
    refine ⟨?_, fun t ht => ?_⟩
    · show ((A.tabs.map _).map _).Nodup
      rw [List.map_map]
      have : ((fun t : ATab => t.name) ∘ fun t : ATab => if t.name = nm then { t with keys := putA t.keys key (n, r) } else t) = fun t => t.name := by
        funext t
        show (if t.name = nm then _ else t).name = t.name
        split <;> rfl
      rw [this]
      exact W.names
    · obtain ⟨t0, h0, rfl⟩ := List.mem_map.mp ht
      split
      · exact putA_keys (W.keys t0 h0)
      · exact W.keys t0 h0
theorem lay_bd {A : ASto} {n : Int} {N : Nat} {wr : Wr} (W : AWell A) (B : ABd A N) (f : WrFit A wr) (h1 : A.tabs.length < 1000) (h2 : A.idxs.length < 1000) : ABd (layA A n wr) (N + 1) := by
  cases wr with
  | tab nm fa fs =>
    refine ⟨by simp only [layA, List.length_append, List.length_cons, List.length_nil]; omega, B.ni, fun t ht => ?_, fun x hx => Nat.le_succ_of_le (B.nM x hx), fun x hx => ?_⟩
    · rcases List.mem_append.mp ht with h | h
      · have := B.nk t h
        omega
      · rw [List.mem_singleton.mp h]
        simp [verSum]
    · obtain ⟨t, ht, e⟩ := B.at_ x hx
      exact ⟨t, List.mem_append_left _ ht, e⟩
  | idx nm g =>
    refine ⟨B.nt, by simp only [layA, List.length_append, List.length_cons, List.length_nil]; omega, fun t ht => ?_, fun x hx => ?_, fun x hx => ?_⟩
    · have := B.nk t ht
      omega
    · rcases List.mem_append.mp hx with h | h
      · exact Nat.le_succ_of_le (B.nM x h)
      · rw [List.mem_singleton.mp h]
        show (List.reverse _).length ≤ _
        rw [List.length_reverse]
        refine Nat.le_trans worthsA_len ?_
        unfold ASto.keysOf
        split
        · rename_i t e
          have := (B.nk t (List.mem_of_find?_eq_some e)).2
          omega
        · simp [verSum]
    · rcases List.mem_append.mp hx with h | h
      · exact B.at_ x h
      · rw [List.mem_singleton.mp h]
        exact f.1
  | row nm key r =>
    refine ⟨by simp only [layA, List.length_map]; exact B.nt, ?_, fun t ht => ?_, fun x hx => ?_, fun x hx => ?_⟩
    · cases r with
      | none => exact B.ni
      | some r => simp only [layA, List.length_map]; exact B.ni
    · obtain ⟨t0, h0, rfl⟩ := List.mem_map.mp ht
      have b0 := B.nk t0 h0
      split
      · have z1 := putA_len (ks := t0.keys) (key := key) (v := (n, r))
        have z2 := putA_sum (key := key) (v := (n, r)) (W.keys t0 h0)
        dsimp only
        omega
      · omega
    · cases r with
      | none => exact Nat.le_succ_of_le (B.nM x hx)
      | some r =>
        obtain ⟨x0, h0, rfl⟩ := List.mem_map.mp hx
        have b0 := B.nM x0 h0
        split
        · simp only [List.length_cons]; omega
        · omega
    · have tl : ∀ x0 ∈ A.idxs, ∃ t ∈ (layA A n (.row nm key r)).tabs, t.name = x0.tab ∧ x0.field ∈ t.fields := fun x0 h0 => by
        obtain ⟨t, ht, e1, e2⟩ := B.at_ x0 h0
        refine ⟨_, List.mem_map.mpr ⟨t, ht, rfl⟩, ?_⟩
        split
        · exact ⟨e1, e2⟩
        · exact ⟨e1, e2⟩
      cases r with
      | none => exact tl x hx
      | some r =>
        obtain ⟨x0, h0, rfl⟩ := List.mem_map.mp hx
        obtain ⟨t, ht, e⟩ := tl x0 h0
        refine ⟨t, ht, ?_⟩
        split
        · exact e
        · exact e
theorem bd_mono {A : ASto} {N N' : Nat} (B : ABd A N) (h : N ≤ N') : ABd A N' := ⟨B.nt, B.ni, fun t ht => ⟨Nat.le_trans (B.nk t ht).1 h, Nat.le_trans (B.nk t ht).2 h⟩, fun x hx => Nat.le_trans (B.nM x hx) h, B.at_⟩
theorem idxOf_at {fs : List Str} {f : Str} (h : f ∈ fs) : fs[fs.idxOf f]? = some f ∧ ∀ m : Nat, m < fs.idxOf f → fs[m]? ≠ some f := by
  induction fs with
  | nil => cases h
  | cons g fs ih =>
    rw [List.idxOf_cons]
    by_cases e : g = f
    · subst e
      simp
    · have hf : f ∈ fs := by
        rcases List.mem_cons.mp h with z | z
        · exact absurd z.symm e
        · exact z
      obtain ⟨i1, i2⟩ := ih hf
      have eb : (g == f) = false := beq_eq_false_iff_ne.mpr e
      rw [eb]
      refine ⟨by simpa using i1, fun m hm => ?_⟩
      cases m with
      | zero => simpa using e
      | succ m =>
        have hm : m < fs.idxOf f := by simpa using hm
        simpa using i2 m hm
/-- all writes of a record are fit in turn -/
def FitL (A : ASto) (n : Int) : List Wr → Prop
  | [] => True
  | w :: ws => WrFit A w ∧ FitL (layA A n w) n ws
def laysA (A : ASto) (n : Int) (ws : List Wr) : ASto := ws.foldl (fun A w => layA A n w) A
def takeA (A : ASto) (n : Int) (ws : List Wr) : ASto := laysA { A with newest := n } n ws
theorem fitL_at {n : Int} : ∀ {ws : List Wr} {A : ASto} {m : Nat} {w : Wr}, FitL A n ws → ws[m]? = some w → WrFit (laysA A n (ws.take m)) w
  | [], _, _, _, _, h => by cases h
  | x :: ws, A, 0, w, f, h => by
    cases h
    exact f.1
  | x :: ws, A, m + 1, w, f, h => fitL_at (ws := ws) (A := layA A n x) (m := m) f.2 (by simpa using h)
theorem lays_snoc {n : Int} {ws : List Wr} {A : ASto} {m : Nat} {w : Wr} (h : ws[m]? = some w) : laysA A n (ws.take (m + 1)) = layA (laysA A n (ws.take m)) n w := by
  unfold laysA
  rw [List.take_succ, h, Option.toList_some, List.foldl_append]
  rfl
theorem lay_tabs_len {A : ASto} {n : Int} {wr : Wr} : (layA A n wr).tabs.length ≤ A.tabs.length + 1 ∧ (layA A n wr).idxs.length ≤ A.idxs.length + 1 := by
  cases wr with
  | tab nm fa fs => simp [layA]
  | idx nm f => simp [layA]
  | row nm key r => cases r <;> simp [layA]
/-- all is well behind each write -/
theorem lays_all {n : Int} : ∀ {ws : List Wr} {A : ASto} {N : Nat}, AWell A → ABd A N → FitL A n ws → A.tabs.length + ws.length < 1000 → A.idxs.length + ws.length < 1000 →
    AWell (laysA A n ws) ∧ ABd (laysA A n ws) (N + ws.length) ∧ (laysA A n ws).tabs.length ≤ A.tabs.length + ws.length ∧ (laysA A n ws).idxs.length ≤ A.idxs.length + ws.length
  | [], A, N, W, B, _, _, _ => ⟨W, B, Nat.le_refl _, Nat.le_refl _⟩
  | w :: ws, A, N, W, B, f, h1, h2 => by
    rw [List.length_cons] at h1 h2
    obtain ⟨l1, l2⟩ := lay_tabs_len (A := A) (n := n) (wr := w)
    obtain ⟨r1, r2, r3, r4⟩ := lays_all (ws := ws) (A := layA A n w) (N := N + 1) (lay_well W f.1) (lay_bd W B f.1 (by omega) (by omega)) f.2 (by omega) (by omega)
    refine ⟨r1, ?_, ?_, ?_⟩
    · rw [List.length_cons, show N + (ws.length + 1) = N + 1 + ws.length by omega]
      exact r2
    · rw [List.length_cons]
      show (laysA (layA A n w) n ws).tabs.length ≤ _
      omega
    · rw [List.length_cons]
      show (laysA (layA A n w) n ws).idxs.length ≤ _
      omega
theorem fitL_take {n : Int} : ∀ {ws : List Wr} {A : ASto} (m : Nat), FitL A n ws → FitL A n (ws.take m)
  | [], _, _, _ => by simp [FitL]
  | w :: ws, A, 0, f => trivial
  | w :: ws, A, m + 1, f => ⟨f.1, fitL_take (ws := ws) m f.2⟩
def lastVA (vs : List AVer) (n : Int) : Option AVer := (vs.filter fun v => decide (v.1 ≤ n)).getLast?
/-- a key's row at a moment, and the record that made it -/
def verA (t : ATab) (key n : Int) : Option (Int × RowE) := match t.keys.find? fun e => decide (e.1 = key) with
  | none => none
  | some e => match lastVA e.2 n with
    | some (m, some r) => some (m, r)
    | _ => none
def rowA (A : ASto) (nm : Str) (key n : Int) : Option RowE := match A.tab? nm with
  | none => none
  | some t => (verA t key n).map (·.2)
def ASto.fieldsOf (A : ASto) (nm : Str) : List Str := match A.tab? nm with
  | some t => t.fields
  | none => []
end G7

set_option linter.all false
set_option Elab.async false
set_option maxRecDepth 100000
set_option maxHeartbeats 4000000
/-! tables of sets of any mask on whose round all slots lie: laying all anew does not fail -/
namespace SM
open PySem PySem.Spec PyProof.Rows L2
/-- the round from 0 meets all slots, and ends at 0 -/
structure Full (m : Nat) : Prop where
  hit : ∀ j, j ≤ m → ∃ b, b ≤ m ∧ lcgN m b = j
  end_ : lcgN m (m + 1) = 0
theorem full_of {m : Nat} (h1 : ((List.range (m + 1)).all fun j => (List.range (m + 1)).any fun b => lcgN m b == j) = true) (h2 : lcgN m (m + 1) = 0) : Full m := ⟨fun j hj => by
  obtain ⟨b, hb, eb⟩ := List.any_eq_true.mp (List.all_eq_true.mp h1 j (List.mem_range.mpr (Nat.lt_succ_of_le hj)))
  exact ⟨b, Nat.le_of_lt_succ (List.mem_range.mp hb), beq_iff_eq.mp eb⟩, h2⟩
theorem full_7 : Full 7 := full_of (by decide +kernel) (by decide +kernel)
theorem full_15 : Full 15 := full_of (by decide +kernel) (by decide +kernel)
theorem full_31 : Full 31 := full_of (by decide +kernel) (by decide +kernel)
theorem full_63 : Full 63 := full_of (by decide +kernel) (by decide +kernel)
theorem Full.again {m : Nat} (F : Full m) : ∀ k, lcgN m (m + 1 + k) = lcgN m k
  | 0 => F.end_
  | k + 1 => by
    show (lcgN m (m + 1 + k) * 5 + 1) % (m + 1) = (lcgN m k * 5 + 1) % (m + 1)
    rw [F.again k]
theorem Full.soon {m : Nat} (F : Full m) {i j : Nat} (hi : i ≤ m) (hj : j ≤ m) : ∃ k, k ≤ m ∧ lcgI m i k = j := by
  obtain ⟨a, ha, rfl⟩ := F.hit i hi
  obtain ⟨b, hb, rfl⟩ := F.hit j hj
  by_cases c : a ≤ b
  · exact ⟨b - a, by omega, by rw [lcgN_add]; congr 1; omega⟩
  · refine ⟨b + (m + 1) - a, by omega, ?_⟩
    rw [lcgN_add, show a + (b + (m + 1) - a) = m + 1 + b by omega, F.again]
/-- a free slot is found -/
theorem Full.free {m : Nat} (F : Full m) (owner : Array (Option Nat)) (h : Int) {j : Nat} (hj : j ≤ m) (hf : oAt owner j = none) :
    ∃ y, SetTable.layClean.free m owner (SetTable.turns m) (SetTable.bits h % (m + 1)) (SetTable.bits h) = some y ∧ y ≤ m ∧ oAt owner y = none := by
  obtain ⟨k, hk, e⟩ := F.soon (runI_le m (SetTable.bits h) 12) hj
  have e2 : runI m (SetTable.bits h) (12 + k) = j := by rw [runI_tail (bits_lt h)]; exact e
  have hw : (nth m (runAt m (SetTable.bits h % (m + 1)) (SetTable.bits h)) (off m (SetTable.bits h % (m + 1)) (SetTable.bits h) (12 + k))).j = j := by
    rw [nth_off, itL_run]
    exact e2
  obtain ⟨K, k1, k2, k3⟩ := st_least (p := fun k => oAt owner (nth m (runAt m (SetTable.bits h % (m + 1)) (SetTable.bits h)) k).j = none) _ (by show oAt owner _ = none; rw [hw]; exact hf)
  refine ⟨_, free_spec m owner (SetTable.turns m) (12 + k) _ _ K (by unfold SetTable.turns; omega) k1 (fun q hq => ?_) ?_, ?_, k2⟩
  · have z := k3 q hq
    cases y : oAt owner (nth m (runAt m (SetTable.bits h % (m + 1)) (SetTable.bits h)) q).j with
    | none => exact absurd y z
    | some _ => rfl
  · rw [show oAt owner (nth m (runAt m (SetTable.bits h % (m + 1)) (SetTable.bits h)) K).j = none from k2]
    rfl
  · have hi : SetTable.bits h % (m + 1) ≤ m := Nat.le_of_lt_succ (Nat.mod_lt _ (Nat.succ_pos _))
    have r := runEnd_bd hi
    have q := nth_in (m := m) K (runAt m (SetTable.bits h % (m + 1)) (SetTable.bits h)) (by
      show SetTable.bits h % (m + 1) + (SetTable.runEnd m (SetTable.bits h % (m + 1)) - SetTable.bits h % (m + 1)) ≤ m
      omega)
    omega
/-- who sits where when n are laid -/
structure Sits (m n : Nat) (owner : Array (Option Nat)) : Prop where
  sz : owner.size = m + 1
  lt : ∀ j k, j ≤ m → oAt owner j = some k → k < n
  all : ∀ k, k < n → ∃ j, j ≤ m ∧ oAt owner j = some k
  ps : ∃ ps : List Nat, ps.length = n ∧ ∀ j, j ≤ m → oAt owner j ≠ none → j ∈ ps
theorem Sits.zero (m : Nat) : Sits m 0 (Array.replicate (m + 1) none) :=
  ⟨by simp, fun j k hj e => (by rw [oAt_init hj] at e; cases e), fun k hk => absurd hk (Nat.not_lt_zero _), ⟨[], rfl, fun j hj e => absurd (oAt_init hj) e⟩⟩
theorem Sits.put {m n y : Nat} {owner : Array (Option Nat)} (S : Sits m n owner) (hy : y ≤ m) (hf : oAt owner y = none) : Sits m (n + 1) (owner.setIfInBounds y (some n)) := by
  have hys : y < owner.size := by rw [S.sz]; exact Nat.lt_succ_of_le hy
  have self := oAt_set_self (some n) hys
  obtain ⟨ps, p1, p2⟩ := S.ps
  refine ⟨by rw [Array.size_setIfInBounds]; exact S.sz, fun j k hj e => ?_, fun k hk => ?_, ⟨y :: ps, by rw [List.length_cons, p1], fun j hj e => ?_⟩⟩
  · by_cases c : j = y
    · rw [c, self] at e
      cases e
      exact Nat.lt_succ_self _
    · rw [oAt_set_ne _ c] at e
      exact Nat.lt_succ_of_lt (S.lt j k hj e)
  · by_cases c : k < n
    · obtain ⟨j, hj, e⟩ := S.all k c
      exact ⟨j, hj, by rw [oAt_set_ne _ (fun z => by rw [z, hf] at e; cases e)]; exact e⟩
    · obtain rfl : k = n := by omega
      exact ⟨y, hy, self⟩
  · by_cases c : j = y
    · rw [c]; exact List.mem_cons_self
    · rw [oAt_set_ne _ c] at e
      exact List.mem_cons_of_mem _ (p2 j hj e)
theorem Full.lay {m : Nat} (F : Full m) {hs : Array Int} (hn : hs.size ≤ m) : ∃ owner, SetTable.layClean m hs = some owner ∧ Sits m hs.size owner := by
  have go : ∀ (rest : List Int) (n : Nat) (owner : Array (Option Nat)), Sits m n owner → n + rest.length ≤ m → ∃ o', rest.foldl (stepF m) (some (owner, n)) = some (o', n + rest.length) ∧ Sits m (n + rest.length) o' := by
    intro rest
    induction rest with
    | nil => intro n owner S _; exact ⟨owner, rfl, S⟩
    | cons h rest ih =>
      intro n owner S hl
      rw [List.length_cons] at hl
      obtain ⟨ps, p1, p2⟩ := S.ps
      obtain ⟨j0, h0, n0⟩ := st_missing ps (m + 1) (by omega)
      have f0 : oAt owner j0 = none := by
        cases z : oAt owner j0 with
        | none => rfl
        | some k => exact absurd (p2 j0 (by omega) (by rw [z]; exact fun e => nomatch e)) n0
      obtain ⟨y, e1, e2, e3⟩ := F.free owner h (by omega) f0
      obtain ⟨o', g1, g2⟩ := ih (n + 1) _ (S.put e2 e3) (by omega)
      refine ⟨o', ?_, ?_⟩
      · rw [List.foldl_cons, stepF_some e1, g1, List.length_cons]
        congr 2
        omega
      · rw [List.length_cons, show n + (rest.length + 1) = n + 1 + rest.length by omega]
        exact g2
  obtain ⟨o', g1, g2⟩ := go hs.toList 0 _ (Sits.zero m) (by rw [Array.length_toList]; omega)
  rw [Nat.zero_add, Array.length_toList] at g1 g2
  refine ⟨o', ?_, g2⟩
  rw [layClean_eq, g1]
  rfl
/-- a table laid from nothing: rising, all there -/
theorem Full.laid {m : Nat} (F : Full m) {hs : Array Int} (hn : hs.size ≤ m) (finger moves : Nat) (led plain : Bool) :
    ∃ t order, SetTable.laid m finger moves led plain hs = some (t, order) ∧ order.toList.Perm (List.range hs.size) ∧ Ris t.place.toList ∧ t.place.size = hs.size ∧ t.dummies = #[] ∧ t.mask = m ∧ t.led = led := by
  obtain ⟨owner, e, S⟩ := F.lay hn
  have ris := ris_live (fun j => owner.getD j none) (List.range (m + 1)) (by
    unfold Ris
    first | exact List.pairwise_lt_range | exact List.pairwise_lt_range _)
  have r1 : Ris ((liveOf m owner).map (·.1)) := ris.1
  have nd : ((liveOf m owner).map (·.1)).Nodup := List.Pairwise.imp (fun h => Nat.ne_of_lt h) r1
  have hlen : (liveOf m owner).length = hs.size := by
    obtain ⟨ps, p1, p2⟩ := S.ps
    have a := nat_nodup_len ((liveOf m owner).map (·.1)) ps nd fun x hx => by
      obtain ⟨⟨y, k⟩, hq, rfl⟩ := List.mem_map.mp hx
      obtain ⟨b1, b2⟩ := (mem_live S.sz).1 hq
      exact p2 y b1 (by rw [b2]; exact fun z => nomatch z)
    have b := nat_nodup_len (List.range hs.size) ((liveOf m owner).map (·.2)) List.nodup_range fun k hk => by
      obtain ⟨j, b1, b2⟩ := S.all k (List.mem_range.mp hk)
      exact List.mem_map.mpr ⟨(j, k), (mem_live S.sz).2 ⟨b1, b2⟩, rfl⟩
    rw [List.length_map, p1] at a
    rw [List.length_map, List.length_range] at b
    omega
  refine ⟨{ mask := m, place := ((liveOf m owner).map (·.1)).toArray, dummies := #[], finger, led, moves, plain }, ((liveOf m owner).map (·.2)).toArray, ?_, ?_, r1, ?_, rfl, rfl, rfl⟩
  · unfold SetTable.laid
    rw [e]
    rfl
  · refine perm_range hs.size _ (by show ((liveOf m owner).map (·.2)).length = _; rw [List.length_map]; exact hlen) fun k hk => ?_
    obtain ⟨j, b1, b2⟩ := S.all k hk
    exact List.mem_map.mpr ⟨(j, k), (mem_live S.sz).2 ⟨b1, b2⟩, rfl⟩
  · show ((liveOf m owner).map (·.1)).toArray.size = _
    rw [List.size_toArray, List.length_map]
    exact hlen
end SM

set_option linter.all false
set_option Elab.async false
set_option maxRecDepth 100000
set_option maxHeartbeats 4000000
/-! sets of tuples of ints and texts, each once, of some hundreds -/
namespace SM
open PySem PySem.Spec PyProof.Rows L2
/-- the round's slots as a number's bits -/
def rnd (m : Nat) : Nat → Nat → Nat → Nat
  | 0, _, s => s
  | f + 1, x, s => rnd m f ((x * 5 + 1) % (m + 1)) (s ||| (1 <<< x))
theorem rnd_bit (m j : Nat) : ∀ f n s, (rnd m f (lcgN m n) s).testBit j = true → s.testBit j = true ∨ ∃ b, b < n + f ∧ lcgN m b = j
  | 0, n, s, h => .inl h
  | f + 1, n, s, h => by
    rcases rnd_bit m j f (n + 1) _ h with z | ⟨b, h1, h2⟩
    · rw [Nat.testBit_or, Bool.or_eq_true] at z
      rcases z with z | z
      · exact .inl z
      · rw [Nat.one_shiftLeft, Nat.testBit_two_pow] at z
        exact .inr ⟨n, by omega, by simpa using z⟩
    · exact .inr ⟨b, by omega, h2⟩
theorem full_rnd {m : Nat} (h1 : rnd m (m + 1) 0 0 = 2 ^ (m + 1) - 1) (h2 : lcgN m (m + 1) = 0) : Full m := ⟨fun j hj => by
  have z : (rnd m (m + 1) (lcgN m 0) 0).testBit j = true := by
    show (rnd m (m + 1) 0 0).testBit j = true
    rw [h1, Nat.testBit_two_pow_sub_one]
    exact decide_eq_true (by omega)
  rcases rnd_bit m j _ _ _ z with e | ⟨b, e1, e2⟩
  · simp at e
  · exact ⟨b, by omega, e2⟩, h2⟩
theorem full_127 : Full 127 := full_rnd (by decide +kernel) (by decide +kernel)
theorem full_511 : Full 511 := full_rnd (by decide +kernel) (by decide +kernel)
end SM
namespace KT
open PySem PySem.Spec PyProof.Rows L2
/-- the masks that come -/
def MaskG (m : Nat) : Prop := m = 7 ∨ m = 31 ∨ m = 127 ∨ m = 511
theorem MaskG.full {m : Nat} (h : MaskG m) : SM.Full m := by
  rcases h with e | e | e | e <;> subst e
  · exact SM.full_7
  · exact SM.full_31
  · exact SM.full_127
  · exact SM.full_511
theorem way_in (m : Nat) (h : Int) (k : Nat) : way m h k ≤ m := by
  have hi : SetTable.bits h % (m + 1) ≤ m := Nat.le_of_lt_succ (Nat.mod_lt _ (Nat.succ_pos _))
  have r := runEnd_bd hi
  have q := nth_in (m := m) k (runAt m (SetTable.bits h % (m + 1)) (SetTable.bits h)) (by
    show SetTable.bits h % (m + 1) + (SetTable.runEnd m (SetTable.bits h % (m + 1)) - SetTable.bits h % (m + 1)) ≤ m
    omega)
  unfold way
  omega
/-- each slot is met within the search's bound -/
theorem meets {m : Nat} (F : SM.Full m) (h : Int) {j : Nat} (hj : j ≤ m) : ∃ k, k < 10 * SetTable.turns m ∧ way m h k = j := by
  obtain ⟨k, hk, e⟩ := F.soon (runI_le m (SetTable.bits h) 12) hj
  have e2 : runI m (SetTable.bits h) (12 + k) = j := by rw [runI_tail (bits_lt h)]; exact e
  obtain ⟨k2, h2, e3⟩ := run_nth m (SetTable.bits h) (12 + k)
  refine ⟨k2, by unfold SetTable.turns; omega, ?_⟩
  unfold way
  rw [e3]
  exact e2
/-- the table: rising, all on their ways -/
structure TabF (t : SetTable) (hs : List Int) : Prop where
  ris : Ris t.place.toList
  dm : t.dummies = #[]
  sz : t.place.size = hs.length
  mok : MaskG t.mask
  bd : ∀ x ∈ t.place.toList, x ≤ t.mask
  reach : ∀ (i : Nat) (h : Int) (j : Nat), hs[i]? = some h → t.place.toList[i]? = some j → ∃ k, way t.mask h k = j ∧ ∀ k', k' < k → way t.mask h k' ∈ t.place.toList
theorem odd {m : Nat} (h : MaskG m) : m % 2 = 1 := by
  rcases h with e | e | e | e <;> subst e <;> rfl
theorem TabF.first {t : SetTable} {hs : List Int} (T : TabF t hs) (hl : hs.length ≤ t.mask) (h : Int) : ∃ K, K < 10 * SetTable.turns t.mask ∧ way t.mask h K ∉ t.place.toList ∧ ∀ k, k < K → way t.mask h k ∈ t.place.toList := by
  obtain ⟨j, hj, hn⟩ := st_missing t.place.toList (t.mask + 1) (by rw [Array.length_toList, T.sz]; omega)
  obtain ⟨k, hk, e⟩ := meets T.mok.full h (Nat.le_of_lt_succ hj)
  obtain ⟨K, h1, h2, h3⟩ := st_least (p := fun k => way t.mask h k ∉ t.place.toList) k (by rw [e]; exact hn)
  exact ⟨K, Nat.lt_of_le_of_lt h1 hk, h2, fun k' hk' => Classical.byContradiction fun c => h3 k' hk' c⟩
/-- what is there is met ahead of the first free slot -/
theorem TabF.ahead {t : SetTable} {hs : List Int} (T : TabF t hs) {h : Int} {K i j : Nat} (hK : way t.mask h K ∉ t.place.toList) (hi : hs[i]? = some h) (hj : t.place.toList[i]? = some j) : ∃ k, k < K ∧ way t.mask h k = j := by
  obtain ⟨k, e, hb⟩ := T.reach i h j hi hj
  refine ⟨k, ?_, e⟩
  rcases Nat.lt_trichotomy k K with c | c | c
  · exact c
  · exact absurd (List.mem_of_getElem? hj) (by rw [← e, c]; exact hK)
  · exact absurd (hb K c) hK
/-- one put in at the first free slot of its way -/
theorem TabF.lay1 {t : SetTable} {hs : List Int} (T : TabF t hs) {h : Int} {K j p : Nat} (ej : way t.mask h K = j) (ep : SetTable.below t.place j = p) (hK : j ∉ t.place.toList) (hb : ∀ k, k < K → way t.mask h k ∈ t.place.toList) :
    (t.put j).2 = p ∧ p ≤ hs.length ∧ TabF (t.put j).1 (hs.take p ++ h :: hs.drop p) ∧ (t.put j).1.mask = t.mask ∧ (t.put j).1.led = t.led ∧ (t.put j).1.fill = hs.length + 1 := by
  have c1 := (below_cut T.ris j).1
  rw [ep] at c1
  have hsz : t.place.toList.length = hs.length := by rw [Array.length_toList]; exact T.sz
  have hpl : p ≤ t.place.toList.length := by rw [Array.length_toList]; exact c1
  have hph : p ≤ hs.length := by omega
  have hpp := put_place t j
  rw [ep] at hpp
  have hsize : (t.put j).1.place.size = hs.length + 1 := by rw [← Array.length_toList, hpp, len_ins _ hpl, hsz]
  have hnp : t.place[SetTable.below t.place j]? ≠ some j := fun e => hK (List.mem_of_getElem? (by rw [Array.getElem?_toList]; exact e))
  have up : ∀ {x : Nat}, x ∈ t.place.toList → x ∈ (t.put j).1.place.toList := fun hx => by rw [hpp]; exact mem_ins.2 (.inr hx)
  refine ⟨ep, hph, ⟨ris_insert T.ris hnp, put_dm T.dm j, by rw [len_ins _ hph]; exact hsize, T.mok, fun x hx => ?_, fun i h' j' h1 h2 => ?_⟩, rfl, rfl, ?_⟩
  · rw [hpp] at hx
    rcases mem_ins.1 hx with z | z
    · rw [z, ← ej]; exact way_in _ _ _
    · exact T.bd x z
  · rw [tins_get hs hph] at h1
    rw [hpp, tins_get _ hpl] at h2
    show ∃ k, way t.mask h' k = j' ∧ ∀ k', k' < k → way t.mask h' k' ∈ (t.put j).1.place.toList
    rcases Nat.lt_trichotomy i p with c | c | c
    · rw [if_pos c] at h1 h2
      obtain ⟨k, e, z⟩ := T.reach i h' j' h1 h2
      exact ⟨k, e, fun k' hk' => up (z k' hk')⟩
    · rw [if_neg (by omega), if_pos c] at h1 h2
      cases h1
      cases h2
      exact ⟨K, ej, fun k' hk' => up (hb k' hk')⟩
    · rw [if_neg (by omega), if_neg (by omega)] at h1 h2
      obtain ⟨k, e, z⟩ := T.reach (i - 1) h' j' h1 h2
      exact ⟨k, e, fun k' hk' => up (z k' hk')⟩
  · show (t.put j).1.place.size + (t.put j).1.dummies.size = hs.length + 1
    rw [hsize, put_dm T.dm j]
    rfl
/-- who sits where, each on its way -/
structure Sat (m : Nat) (done : List Int) (owner : Array (Option Nat)) : Prop where
  sits : SM.Sits m done.length owner
  at_ : ∀ j k, j ≤ m → oAt owner j = some k → ∃ h K, done[k]? = some h ∧ way m h K = j ∧ ∀ k', k' < K → oAt owner (way m h k') ≠ none
/-- the first free slot of a way is found -/
theorem free1 {m : Nat} (F : SM.Full m) (owner : Array (Option Nat)) (h : Int) {j : Nat} (hj : j ≤ m) (hf : oAt owner j = none) :
    ∃ K, SetTable.layClean.free m owner (SetTable.turns m) (SetTable.bits h % (m + 1)) (SetTable.bits h) = some (way m h K) ∧ oAt owner (way m h K) = none ∧ ∀ k, k < K → oAt owner (way m h k) ≠ none := by
  obtain ⟨k, hk, e⟩ := F.soon (runI_le m (SetTable.bits h) 12) hj
  have e2 : runI m (SetTable.bits h) (12 + k) = j := by rw [runI_tail (bits_lt h)]; exact e
  have hw : way m h (off m (SetTable.bits h % (m + 1)) (SetTable.bits h) (12 + k)) = j := by
    unfold way
    rw [nth_off, itL_run]
    exact e2
  obtain ⟨K, k1, k2, k3⟩ := st_least (p := fun k => oAt owner (way m h k) = none) _ (by rw [hw]; exact hf)
  refine ⟨K, free_spec m owner (SetTable.turns m) (12 + k) _ _ K (by unfold SetTable.turns; omega) k1 (fun q hq => ?_) ?_, k2, fun q hq => k3 q hq⟩
  · have z := k3 q hq
    show (oAt owner (way m h q)).isNone = false
    cases y : oAt owner (way m h q) with
    | none => exact absurd y z
    | some _ => rfl
  · show (oAt owner (way m h K)).isNone = true
    rw [k2]
    rfl
theorem Sat.more {m : Nat} (F : SM.Full m) {done : List Int} {owner : Array (Option Nat)} (W : Sat m done owner) (hl : done.length ≤ m) (h : Int) :
    ∃ y, SetTable.layClean.free m owner (SetTable.turns m) (SetTable.bits h % (m + 1)) (SetTable.bits h) = some y ∧ Sat m (done ++ [h]) (owner.setIfInBounds y (some done.length)) := by
  obtain ⟨ps, p1, p2⟩ := W.sits.ps
  obtain ⟨j0, h0, n0⟩ := st_missing ps (m + 1) (by omega)
  have f0 : oAt owner j0 = none := by
    cases z : oAt owner j0 with
    | none => rfl
    | some k => exact absurd (p2 j0 (by omega) (by rw [z]; exact fun e => nomatch e)) n0
  obtain ⟨K, e1, e2, e3⟩ := free1 F owner h (by omega) f0
  have hy := way_in m h K
  have hys : way m h K < owner.size := by rw [W.sits.sz]; omega
  have self := oAt_set_self (some done.length) hys
  refine ⟨_, e1, by have z := W.sits.put hy e2; rw [List.length_append]; exact z, fun j k hj e => ?_⟩
  have mono : ∀ {i : Nat}, oAt owner i ≠ none → oAt (owner.setIfInBounds (way m h K) (some done.length)) i ≠ none := fun {i} hi => by
    by_cases c : i = way m h K
    · rw [c, self]; exact fun e => nomatch e
    · rw [oAt_set_ne _ c]; exact hi
  by_cases c : j = way m h K
  · rw [c, self] at e
    cases e
    exact ⟨h, K, by rw [List.getElem?_append_right (Nat.le_refl _), Nat.sub_self]; rfl, c.symm, fun k' hk' => mono (e3 k' hk')⟩
  · rw [oAt_set_ne _ c] at e
    obtain ⟨h', K', a1, a2, a3⟩ := W.at_ j k hj e
    exact ⟨h', K', by rw [List.getElem?_append_left (List.getElem?_eq_some_iff.mp a1).1]; exact a1, a2, fun k' hk' => mono (a3 k' hk')⟩
theorem lay_all {m : Nat} (F : SM.Full m) {hs : Array Int} (hn : hs.size ≤ m) : ∃ owner, SetTable.layClean m hs = some owner ∧ Sat m hs.toList owner := by
  have go : ∀ (rest done : List Int) (owner : Array (Option Nat)), Sat m done owner → done.length + rest.length ≤ m → ∃ o', rest.foldl (stepF m) (some (owner, done.length)) = some (o', (done ++ rest).length) ∧ Sat m (done ++ rest) o' := by
    intro rest
    induction rest with
    | nil => intro done owner S _; rw [List.append_nil]; exact ⟨owner, rfl, S⟩
    | cons h rest ih =>
      intro done owner S hl
      rw [List.length_cons] at hl
      obtain ⟨y, e1, S2⟩ := S.more F (by omega) h
      have el : (done ++ [h]).length = done.length + 1 := by rw [List.length_append]; rfl
      obtain ⟨o', g1, g2⟩ := ih (done ++ [h]) _ S2 (by omega)
      rw [List.append_assoc, List.singleton_append] at g1 g2
      rw [el] at g1
      exact ⟨o', by rw [List.foldl_cons, stepF_some e1]; exact g1, g2⟩
  obtain ⟨o', g1, g2⟩ := go hs.toList [] _ ⟨SM.Sits.zero m, fun j k hj e => by rw [oAt_init hj] at e; cases e⟩ (by rw [Array.length_toList]; simpa using hn)
  refine ⟨o', ?_, g2⟩
  rw [layClean_eq]
  have g1' : hs.toList.foldl (stepF m) (some (Array.replicate (m + 1) none, 0)) = some (o', ([] ++ hs.toList).length) := g1
  rw [g1']
  rfl
theorem anew (t : SetTable) {hs : Array Int} {wanted M : Nat} (hw : SetTable.sizeAbove wanted - 1 = M) (hM : MaskG M) (hn : hs.size ≤ M) :
    ∃ t' order, t.relaid hs wanted = some (t', order) ∧ order.toList.Perm (List.range hs.size) ∧ TabF t' (order.toList.map fun i => hs.getD i 0) ∧ t'.mask = M ∧ t'.led = t.led := by
  obtain ⟨owner, e, W⟩ := lay_all hM.full hn
  have hr : t.relaid hs wanted = some (tabOf t M owner, ((liveOf M owner).map (·.2)).toArray) := by
    rw [relaid_eq, hw, e]
    rfl
  have ris := ris_live (fun j => owner.getD j none) (List.range (M + 1)) (by
    unfold Ris
    first | exact List.pairwise_lt_range | exact List.pairwise_lt_range _)
  have r1 : Ris ((liveOf M owner).map (·.1)) := ris.1
  have nd : ((liveOf M owner).map (·.1)).Nodup := List.Pairwise.imp (fun h => Nat.ne_of_lt h) r1
  have S := W.sits
  rw [Array.length_toList] at S
  have hlen : (liveOf M owner).length = hs.size := by
    obtain ⟨ps, p1, p2⟩ := S.ps
    have a := nat_nodup_len ((liveOf M owner).map (·.1)) ps nd fun x hx => by
      obtain ⟨⟨y, k⟩, hq, rfl⟩ := List.mem_map.mp hx
      obtain ⟨b1, b2⟩ := (mem_live S.sz).1 hq
      exact p2 y b1 (by rw [b2]; exact fun z => nomatch z)
    have b := nat_nodup_len (List.range hs.size) ((liveOf M owner).map (·.2)) List.nodup_range fun k hk => by
      obtain ⟨j, b1, b2⟩ := S.all k (List.mem_range.mp hk)
      exact List.mem_map.mpr ⟨(j, k), (mem_live S.sz).2 ⟨b1, b2⟩, rfl⟩
    rw [List.length_map, p1] at a
    rw [List.length_map, List.length_range] at b
    omega
  refine ⟨_, _, hr, ?_, ⟨r1, rfl, ?_, hM, fun x hx => ?_, fun i h j h1 h2 => ?_⟩, rfl, rfl⟩
  · refine perm_range hs.size _ (by show ((liveOf M owner).map (·.2)).length = _; rw [List.length_map]; exact hlen) fun k hk => ?_
    obtain ⟨j, b1, b2⟩ := S.all k hk
    exact List.mem_map.mpr ⟨(j, k), (mem_live S.sz).2 ⟨b1, b2⟩, rfl⟩
  · show ((liveOf M owner).map (·.1)).toArray.size = (((liveOf M owner).map (·.2)).map fun i => hs.getD i 0).length
    rw [List.size_toArray, List.length_map, List.length_map, List.length_map]
  · exact Nat.le_of_lt_succ (List.mem_range.mp (ris.2 x hx))
  · have h1' : (((liveOf M owner).map (·.2)).map fun i => hs.getD i 0)[i]? = some h := h1
    have h2' : ((liveOf M owner).map (·.1))[i]? = some j := h2
    rw [List.getElem?_map, List.getElem?_map] at h1'
    rw [List.getElem?_map] at h2'
    cases hq : (liveOf M owner)[i]? with
    | none => rw [hq] at h2'; cases h2'
    | some q =>
      obtain ⟨y, k⟩ := q
      rw [hq] at h1' h2'
      obtain rfl : y = j := Option.some.inj h2'
      have eh : hs.getD k 0 = h := Option.some.inj h1'
      obtain ⟨b1, b2⟩ := (mem_live S.sz).1 (List.mem_of_getElem? hq)
      obtain ⟨h0, K, a1, a2, a3⟩ := W.at_ y k b1 b2
      have e0 : hs.getD k 0 = h0 := by
        rw [Array.getD_eq_getD_getElem?, ← Array.getElem?_toList, a1]
        rfl
      rw [e0] at eh
      subst eh
      refine ⟨K, a2, fun k' hk' => ?_⟩
      show way M h0 k' ∈ (liveOf M owner).map (·.1)
      cases z : oAt owner (way M h0 k') with
      | none => exact absurd z (a3 k' hk')
      | some k2 => exact List.mem_map.mpr ⟨(way M h0 k', k2), (mem_live S.sz).2 ⟨way_in _ _ _, z⟩, rfl⟩
end KT

set_option linter.all false
set_option Elab.async false
set_option maxRecDepth 100000
set_option maxHeartbeats 4000000
namespace KT
open PySem PySem.Spec PyProof.Rows L2
abbrev Row := Addr × List Key
abbrev IsX (P : Program) (w : World) (h : Heap) (p : Row) : Prop := IsTupleKey (mixKind P w) h p.2 p.1
abbrev xh (P : Program) (w : World) (p : Row) : Int := tupleKeyHash (mixKind P w) p.2
abbrev ent (P : Program) (w : World) (p : Row) : Int × Value := (xh P w p, .ref p.1)
section
variable {P : Program} {w : World} {A : Around} {E : Value → Shared → Prop} {s : Shared}
def Plain1 (v : Value) : Prop := (∃ x t, v = Value.str x t) ∨ ∃ i t, v = Value.int i t
theorem texts {k : List Key} {vs : List Value} (h : ItemsAre (mixKind P w) k vs) : ∀ v ∈ vs, Plain1 v := by
  induction h with
  | nil => intro v hv; cases hv
  | @cons x v ks vs h1 _ ih =>
    intro u hu
    cases hu with
    | head =>
      rcases keyIs_shape h1 with ⟨i, t, _, e⟩ | ⟨y, t, _, e⟩
      · exact .inr ⟨i, t, e⟩
      · exact .inl ⟨y, t, e⟩
    | tail _ hu => exact ih u hu
theorem cls_txt (n : Nat) {v : Value} (h : Plain1 v) : ofAClassStatement n v = pure false := by
  rcases h with ⟨x, t, rfl⟩ | ⟨x, t, rfl⟩ <;> cases n <;> rfl
theorem val_txt (n : Nat) {v : Value} (h : Plain1 v) : hashByValue n v = pure false ∨ hashByValue n v = pure true := by
  rcases h with ⟨x, t, rfl⟩ | ⟨x, t, rfl⟩
  · left; cases n <;> rfl
  · right; cases n <;> rfl
theorem cls_tup {p : Row} {Q : Bool → Shared → Prop} (hp : IsX P w s.heap p) (h : Q false s) : wpAny (model P w) A (ofAClassStatement 8 (.ref p.1)) Q E s := by
  have hT := hp.typeIs
  obtain ⟨o, items, n, ho, _, hd, hi⟩ := hp
  have hall := texts hi
  unfold ofAClassStatement
  refine wpAny_bind (wpAny_typeOf hT ?_)
  dsimp only
  simp only [show (("tuple" : String) == "tuple") = true by decide, if_true, Bool.not_true, Bool.false_eq_true, if_false]
  try refine wpAny_bind (wpAny_pure ?_)
  try simp only [Bool.not_true, Bool.false_eq_true, if_false]
  show wpAny _ _ (seqItems? (.ref p.1) >>= _) _ _ s
  refine wpAny_bind (wpAny_seqItems ho hd ?_)
  dsimp only
  refine wpAny_bind ?_
  show wpAny _ _ (forIn items _ _) _ _ s
  rw [← Array.forIn_toList]
  refine wpAny_forIn_list _ (fun rest r s' => (r.1 = none ∧ s' = s) ∧ ∀ v ∈ rest, Plain1 v) _ ?_ ?_ _ _ ⟨⟨rfl, rfl⟩, hall⟩
  · rintro v rest r s' ⟨⟨hr, rfl⟩, ha⟩
    rw [cls_txt _ (ha v List.mem_cons_self)]
    refine wpAny_bind (wpAny_pure ?_)
    simp only [Bool.false_eq_true, if_false]
    exact wpAny_pure ⟨⟨rfl, rfl⟩, fun u hu => ha u (List.mem_cons_of_mem _ hu)⟩
  · rintro ⟨r1, r2⟩ s' ⟨⟨hr, rfl⟩, _⟩
    simp only at hr
    subst hr
    exact wpAny_pure h
theorem val_tup {p : Row} {Q : Bool → Shared → Prop} (hp : IsX P w s.heap p) (h : ∀ b, Q b s) : wpAny (model P w) A (hashByValue 8 (.ref p.1)) Q E s := by
  have hT := hp.typeIs
  obtain ⟨o, items, n, ho, _, hd, hi⟩ := hp
  have hall := texts hi
  unfold hashByValue
  refine wpAny_bind (wpAny_specialOf hT F.slot_tuple_hash.lookup ?_)
  show wpAny _ _ (seqItems? (.ref p.1) >>= _) _ _ s
  refine wpAny_bind (wpAny_seqItems ho hd ?_)
  refine wpAny_bind ?_
  show wpAny _ _ (forIn items _ _) _ _ s
  rw [← Array.forIn_toList]
  refine wpAny_forIn_list _ (fun rest r s' => s' = s ∧ (∀ v ∈ rest, Plain1 v)) _ ?_ ?_ _ _ ⟨rfl, hall⟩
  · rintro v rest r s' ⟨rfl, ha⟩
    rcases val_txt 7 (ha v List.mem_cons_self) with e | e
    · rw [e]
      refine wpAny_bind (wpAny_pure ?_)
      simp only [Bool.not_false, if_true]
      refine wpAny_pure ?_
      exact wpAny_pure (h _)
    · rw [e]
      refine wpAny_bind (wpAny_pure ?_)
      simp only [Bool.not_true, Bool.false_eq_true, if_false]
      exact wpAny_pure ⟨rfl, fun u hu => ha u (List.mem_cons_of_mem _ hu)⟩
  · rintro ⟨r1, r2⟩ s' ⟨rfl, _⟩
    cases r1 with
    | none => exact wpAny_pure (h _)
    | some b => exact wpAny_pure (h _)
theorem unseen {p : Row} {Q : Bool → Shared → Prop} (hp : IsX P w s.heap p) {ys : List Value} (hy : ∀ y ∈ ys, ∃ q : Row, y = Value.ref q.1 ∧ IsX P w s.heap q) (h : Q false s) :
    wpAny (model P w) A (searchCouldBeSeen (.ref p.1) ys) Q E s := by
  unfold searchCouldBeSeen
  refine wpAny_bind (wpAny_forIn_list _ (fun rest r s' => (r.1 = none ∧ s' = s) ∧ ∀ y ∈ rest, ∃ q : Row, y = Value.ref q.1 ∧ IsX P w s.heap q) _ ?_ ?_ _ _ ⟨⟨rfl, rfl⟩, hy⟩)
  · rintro v rest r s' ⟨⟨hr, rfl⟩, ha⟩
    obtain ⟨q, rfl, hq⟩ := ha v List.mem_cons_self
    have on : ∀ y ∈ rest, ∃ q : Row, y = Value.ref q.1 ∧ IsX P w s'.heap q := fun u hu => ha u (List.mem_cons_of_mem _ hu)
    dsimp only
    by_cases hv : (p.1 == q.1 || (carriedByValue (.ref p.1) && carriedByValue (.ref q.1))) = true
    · exact wp_if_pos hv (wpAny_pure ⟨⟨rfl, rfl⟩, on⟩)
    · refine wp_if_neg hv (wpAny_bind (wpAny_eqIsQuiet_tuple hp ?_))
      simp only [Bool.not_true, Bool.false_eq_true, if_false]
      refine wpAny_bind (wpAny_eqIsQuiet_tuple hq ?_)
      simp only [Bool.not_true, Bool.false_eq_true, if_false]
      refine wpAny_bind (cls_tup hp ?_)
      simp only [Bool.false_eq_true, if_false]
      refine wpAny_bind (cls_tup hq ?_)
      simp only [Bool.false_eq_true, if_false]
      exact wpAny_pure ⟨⟨rfl, rfl⟩, on⟩
  · rintro ⟨r1, r2⟩ s' ⟨⟨hr, rfl⟩, _⟩
    simp only at hr
    subst hr
    exact wpAny_pure h
/-- a set of tuples of texts -/
structure Tab (P : Program) (w : World) (h : Heap) (a : Addr) (L : List Row) (es : Array (Int × Value)) (ep : Nat) (t : SetTable) : Prop where
  here : ∃ o, h.get? a = some o ∧ o.ExactSet ∧ o.data = .set es ep t
  rows : es.toList = L.map (ent P w)
  tab : TabF t (L.map (xh P w))
  keys : ∀ p ∈ L, IsX P w h p
  led : w.params.followText "set-order" = true ∨ t.led = true
  room : L.length * 5 < t.mask * 3
  nd : (L.map (·.2)).Nodup
variable {a : Addr} {L : List Row} {es : Array (Int × Value)} {ep : Nat} {t : SetTable}
theorem len_rows (h : es.toList = L.map (ent P w)) : es.size = L.length := by
  have e := congrArg List.length h
  rw [Array.length_toList, List.length_map] at e
  exact e
theorem Tab.size {h : Heap} (R : Tab P w h a L es ep t) : es.size = L.length := len_rows R.rows
theorem Tab.place {h : Heap} (R : Tab P w h a L es ep t) : t.place.size = L.length := by
  have e := R.tab.sz
  rw [List.length_map] at e
  exact e
theorem Tab.fits {h : Heap} (R : Tab P w h a L es ep t) : t.fits es.size = true := by
  have h1 := R.place
  have h2 := R.size
  have h3 := R.room
  unfold SetTable.fits SetTable.fill
  rw [R.tab.dm, Bool.and_eq_true, beq_iff_eq, decide_eq_true_eq, show (#[] : Array Nat).size = 0 from rfl]
  omega
theorem Tab.whole {h : Heap} (R : Tab P w h a L es ep t) : ¬ t.gaveWay = true := by
  unfold SetTable.gaveWay
  rw [odd R.tab.mok]
  decide
theorem Tab.at_ {h : Heap} (R : Tab P w h a L es ep t) {i : Nat} {p : Row} (e : L[i]? = some p) : es[i]? = some (ent P w p) := by
  rw [← Array.getElem?_toList, R.rows, List.getElem?_map, e]
  rfl
theorem nodummy (m : Nat) : ∀ (n : Nat) (p : SetTable.Probe), p.dummy = none → (nth m p n).dummy = none
  | 0, _, h => h
  | n + 1, p, h => nodummy m n (adv m p) (by unfold adv; split <;> exact h)
theorem ris_inj {l : List Nat} (r : Ris l) {i j x : Nat} (hi : l[i]? = some x) (hj : l[j]? = some x) : i = j := by
  obtain ⟨h1, e1⟩ := List.getElem?_eq_some_iff.mp hi
  obtain ⟨h2, e2⟩ := List.getElem?_eq_some_iff.mp hj
  rcases Nat.lt_trichotomy i j with c | c | c
  · have z := (List.pairwise_iff_getElem.mp r) i j h1 h2 c
    omega
  · exact c
  · have z := (List.pairwise_iff_getElem.mp r) j i h2 h1 c
    omega
/-- the search: it tells that the key is there, or the first free place -/
theorem seek (R : Tab P w s.heap a L es ep t) {p : Row} (hp : IsX P w s.heap p) (hu : A.units < cLine) {H : Int} {S : SetTable.Probe} (eS : runAt t.mask (SetTable.bits H % (t.mask + 1)) (SetTable.bits H) = S) {K : Nat} (hKf : K < 10 * SetTable.turns t.mask)
    (hK : way t.mask H K ∉ t.place.toList) (hKb : ∀ c, c < K → way t.mask H c ∈ t.place.toList) {Q : SetFound → Shared → Prop}
    (hH : H = xh P w p) (hin : (∃ q ∈ L, q.2 = p.2) → Q (.there none) s) (hout : (∀ q ∈ L, q.2 ≠ p.2) → Q (.free (way t.mask H K) false) s) :
    ∀ (f c : Nat) (stand : Option SetTable.Probe), stand.getD (t.probeStart H) = nth t.mask S c → c ≤ K → K - c < f → (∀ (c' i : Nat) (q : Row), c' < c → t.place.toList[i]? = some (way t.mask H c') → L[i]? = some q → q.2 ≠ p.2) → wpAny (model P w) A (setSearchFrom a (.ref p.1) H true f stand) Q E s
  | 0, _, _, _, _, hf, _ => absurd hf (Nat.not_lt_zero _)
  | f + 1, c, stand, hst, hc, hf, hmet => by
    obtain ⟨o, ho, hex, hd⟩ := R.here
    rw [setSearchFrom_succ]
    refine wpAny_bind (wpAny_setState_of ho hd R.fits ?_)
    dsimp only
    refine wp_if_neg R.whole ?_
    try refine wpAny_bind (wpAny_pure ?_)
    have sh : ∀ q, nth t.mask (nth t.mask S c) q = nth t.mask S (c + q) := fun q => (nth_add t.mask c _ q).symm
    have wj : ∀ q, (nth t.mask (nth t.mask S c) q).j = way t.mask H (c + q) := fun q => by rw [sh q, ← eS]
    have spec := go_spec t R.tab.ris R.tab.dm (fun i => (es[i]?.map (·.1)).getD 0) H (10 * SetTable.turns t.mask) (K - c) (nth t.mask S c) (nodummy _ c S (by rw [← eS]; rfl)) (by omega)
      (fun q hq => by rw [wj]; exact hKb (c + q) (by omega)) (by rw [wj, show c + (K - c) = K by omega]; exact hK)
    have pr : t.probe (fun i => (es[i]?.map (·.1)).getD 0) H (stand.getD (t.probeStart H)) = SetTable.probe.go t (fun i => (es[i]?.map (·.1)).getD 0) H (10 * SetTable.turns t.mask) (nth t.mask S c) := by rw [hst]; rfl
    rw [pr]
    have eh : ∀ (i : Nat) (q : Row), L[i]? = some q → (es[i]?.map (·.1)).getD 0 = xh P w q := fun i q e => by rw [R.at_ e]; rfl
    have hof : ∀ (i : Nat) (q : Row), L[i]? = some q → q.2 = p.2 → (es[i]?.map (·.1)).getD 0 = H := fun i q e e2 => by rw [eh i q e, hH]; show tupleKeyHash _ q.2 = tupleKeyHash _ p.2; rw [e2]
    rcases spec with ⟨q, i, hq, hi, hh, hlow, hpr⟩ | ⟨hlow, hpr⟩
    · rw [hpr]
      dsimp only
      rw [wj] at hi ⊢
      rw [sh]
      have hil : i < L.length := by
        have h1 : i < t.place.toList.length := (List.getElem?_eq_some_iff.mp hi).1
        rw [Array.length_toList, R.place] at h1
        exact h1
      have he : L[i]? = some L[i] := List.getElem?_eq_getElem hil
      have hm : L[i] ∈ L := List.getElem_mem hil
      generalize L[i] = r at he hm
      have rest : wpAny (model P w) A (searchRest a (.ref p.1) H true f es t (way t.mask H (c + q)) i (nth t.mask S (c + (q + 1)))) Q E s := by
        unfold searchRest
        rw [R.at_ he]
        dsimp only
        refine wpAny_bind (wpAny_holding (wpAny_eqBool_tuple hu (R.keys r hm) hp ?_))
        refine wpAny_bind (wpAny_setState_of ho hd R.fits ?_)
        dsimp only
        by_cases hkk : r.2 = p.2
        · exact wp_if_pos (by simp [hkk]) (wpAny_pure (hin ⟨r, hm, hkk⟩))
        · refine wp_if_neg (by simp [hkk]) ?_
          try refine wpAny_bind (wpAny_pure ?_)
          rw [sameMem]
          dsimp only
          have hsl : t.slot (way t.mask H (c + q)) = .live i := slot_live R.tab.ris hi
          simp only [if_true, hsl, R.at_ he]
          refine wpAny_bind (wpAny_isSame_ref_self (wpAny_bind (wpAny_pure ?_)))
          simp only [if_true]
          refine wp_if_neg (by simp [hkk]) ?_
          refine seek R hp hu eS hKf hK hKb hH hin hout f (c + (q + 1)) (some (nth t.mask S (c + (q + 1)))) rfl (by omega) (by omega) fun c' i' q' hc' hi' hq' e' => ?_
          by_cases h1 : c' < c
          · exact hmet c' i' q' h1 hi' hq' e'
          · by_cases h2 : c' = c + q
            · rw [h2] at hi'
              have ei : i' = i := ris_inj R.tab.ris hi' hi
              rw [ei, he] at hq'
              cases hq'
              exact hkk e'
            · exact hlow (c' - c) i' (by omega) (by rw [wj, show c + (c' - c) = c' by omega]; exact hi') (hof i' q' hq' e')
      by_cases hl : t.led = true
      · refine wp_if_neg (by simp [hl]) ?_
        try refine wpAny_bind (wpAny_pure ?_)
        exact rest
      · refine wp_if_pos (by simp [hl]) ?_
        refine wpAny_bind (unseen hp (fun y hy => ?_) ?_)
        · obtain ⟨e, he1, rfl⟩ := List.mem_map.mp hy
          have he2 : e ∈ es.toList := by
            have z : e ∈ es ∧ e.1 = H := by simpa using he1
            simpa using z.1
          rw [R.rows] at he2
          obtain ⟨r2, hr2, rfl⟩ := List.mem_map.mp he2
          exact ⟨r2, rfl, R.keys r2 hr2⟩
        · refine wp_if_neg (by decide) ?_
          try refine wpAny_bind (wpAny_pure ?_)
          exact rest
    · rw [hpr]
      dsimp only
      rw [wj, show c + (K - c) = K by omega]
      refine wpAny_pure (hout fun q hq e => ?_)
      obtain ⟨i, hi⟩ := List.getElem?_of_mem hq
      have hil : i < t.place.toList.length := by
        rw [Array.length_toList, R.place]
        exact (List.getElem?_eq_some_iff.mp hi).1
      obtain ⟨k', hk', ew⟩ := R.tab.ahead (h := H) (by exact hK) (by rw [List.getElem?_map, hi, hH]; show some (tupleKeyHash _ q.2) = some (tupleKeyHash _ p.2); rw [e]) (List.getElem?_eq_getElem hil)
      by_cases h1 : k' < c
      · exact hmet k' i q h1 (by rw [ew]; exact List.getElem?_eq_getElem hil) hi e
      · exact hlow (k' - c) i (by omega) (by rw [wj, show c + (k' - c) = k' by omega, ew]; exact List.getElem?_eq_getElem hil) (hof i q hi e)
/-- the search of an adding -/
theorem seek_all (R : Tab P w s.heap a L es ep t) {p : Row} (hp : IsX P w s.heap p) (hu : A.units < cLine) {Q : SetFound → Shared → Prop} (hin : (∃ q ∈ L, q.2 = p.2) → Q (.there none) s)
    (hout : (∀ q ∈ L, q.2 ≠ p.2) → ∀ K, way t.mask (xh P w p) K ∉ t.place.toList → (∀ c, c < K → way t.mask (xh P w p) c ∈ t.place.toList) → Q (.free (way t.mask (xh P w p) K) false) s) :
    wpAny (model P w) A (setSearch a (.ref p.1) (xh P w p) true) Q E s := by
  have hroom := R.room
  obtain ⟨K, hKf, hK, hKb⟩ := R.tab.first (by rw [List.length_map]; omega) (xh P w p)
  have hbig : 10 * SetTable.turns t.mask < 100000 := by
    unfold SetTable.turns
    rcases R.tab.mok with e | e | e | e <;> omega
  exact seek R hp hu rfl hKf hK hKb rfl hin (fun n => hout n K hK hKb) 100000 0 none rfl (Nat.zero_le _) (by omega) fun c' i q h => absurd h (Nat.not_lt_zero _)
theorem key_same {h h' : Heap} {p : Row} {o : Obj} (hp : IsX P w h p) (ho : h.get? a = some o) (hd : o.data = .set es ep t) (hs : Heap.SameBut a h h') : IsX P w h' p := by
  obtain ⟨o', items, n, ho', hc, hd', hi⟩ := hp
  have hne : p.1 ≠ a := fun e => by
    rw [e, ho] at ho'
    rw [← Option.some.inj ho', hd] at hd'
    exact nomatch hd'
  exact ⟨o', items, n, (hs.2 _ hne).trans ho', hc, hd', hi⟩
theorem key_keep {h h' : Heap} {p : Row} (x : IsX P w h p) (hk : ∀ c o, h.get? c = some o → h'.get? c = some o) : IsX P w h' p := by
  obtain ⟨o, items, n, ho, r⟩ := x
  exact ⟨o, items, n, hk _ o ho, r⟩
theorem range_fm {α : Type} : ∀ L : List α, (List.range L.length).filterMap (fun i => L[i]?) = L
  | [] => rfl
  | a :: r => by
    have e := range_fm r
    have z : ((List.range r.length).map Nat.succ).filterMap (fun i => (a :: r)[i]?) = r := by
      rw [List.filterMap_map]
      exact e
    rw [List.length_cons, List.range_succ_eq_map]
    show a :: ((List.range r.length).map Nat.succ).filterMap (fun i => (a :: r)[i]?) = a :: r
    rw [z]
/-- rows in a new order -/
theorem turn_rows {L : List Row} {es : Array (Int × Value)} {order : Array Nat} (hr : es.toList = L.map (ent P w)) (hp : order.toList.Perm (List.range L.length)) :
    ∃ L2 : List Row, (order.filterMap (es[·]?)).toList = L2.map (ent P w) ∧ L2.Perm L ∧ L2.length = L.length ∧ L2.map (xh P w) = order.toList.map fun i => (es.map (·.1)).getD i 0 := by
  have at_ : ∀ i, es[i]? = (L[i]?).map (ent P w) := fun i => by rw [← Array.getElem?_toList, hr, List.getElem?_map]
  have lt : ∀ i ∈ order.toList, i < L.length := fun i hi => List.mem_range.mp (hp.mem_iff.mp hi)
  refine ⟨order.toList.filterMap fun i => L[i]?, ?_, ?_, ?_, ?_⟩
  · rw [Array.toList_filterMap, List.map_filterMap]
    congr 1
    funext i
    exact at_ i
  · have z := hp.filterMap fun i => L[i]?
    rw [range_fm] at z
    exact z
  · have z : ∀ l : List Nat, (∀ i ∈ l, i < L.length) → (l.filterMap fun i => L[i]?).length = l.length := by
      intro l
      induction l with
      | nil => intro _; rfl
      | cons i l ih =>
        intro h
        rw [List.filterMap_cons_some (List.getElem?_eq_getElem (h i List.mem_cons_self)), List.length_cons, ih fun j hj => h j (List.mem_cons_of_mem _ hj), List.length_cons]
    rw [z _ lt, hp.length_eq, List.length_range]
  · have z : ∀ l : List Nat, (∀ i ∈ l, i < L.length) → (l.filterMap fun i => L[i]?).map (xh P w) = l.map fun i => (es.map (·.1)).getD i 0 := by
      intro l
      induction l with
      | nil => intro _; rfl
      | cons i l ih =>
        intro h
        have hi := h i List.mem_cons_self
        rw [List.filterMap_cons_some (List.getElem?_eq_getElem hi), List.map_cons, List.map_cons, ih fun j hj => h j (List.mem_cons_of_mem _ hj)]
        congr 1
        rw [Array.getD_eq_getD_getElem?, Array.getElem?_map, at_ i, List.getElem?_eq_getElem hi]
        rfl
    exact z _ lt
/-- the table laid anew -/
theorem relay {o : Obj} (ho : s.heap.get? a = some o) (hex : o.ExactSet) (hd : o.data = .set es ep t) (hrows : es.toList = L.map (ent P w)) (hsz : t.place.size = es.size) (hdm : t.dummies = #[]) (hfl : es.size ≤ t.mask)
    (keys : ∀ p ∈ L, IsX P w s.heap p) (ld : w.params.followText "set-order" = true ∨ t.led = true) {wanted M : Nat} (hw : SetTable.sizeAbove wanted - 1 = M) (hM : MaskG M) (hw2 : SetTable.sizeAbove wanted ≤ 512) (hnd : (L.map (·.2)).Nodup) (hn : L.length * 5 < M * 3)
    {Q : Unit → Shared → Prop} (hQ : ∀ h' L' es' ep' t', Heap.SameBut a s.heap h' → Tab P w h' a L' es' ep' t' → L'.Perm L → L'.length = L.length → Q () { s with heap := h' }) : wpAny (model P w) A (setRelay a wanted) Q E s := by
  have hsl := len_rows hrows
  have hfits : t.fits es.size = true := by
    unfold SetTable.fits SetTable.fill
    rw [hdm, Bool.and_eq_true, beq_iff_eq, decide_eq_true_eq, show (#[] : Array Nat).size = 0 from rfl]
    omega
  obtain ⟨t', order, e, hp, T, em, el⟩ := anew t (hs := es.map (·.1)) (wanted := wanted) hw hM (by rw [Array.size_map, hsl]; omega)
  rw [Array.size_map, hsl] at hp
  obtain ⟨L2, r1, r2, r3, r4⟩ := turn_rows hrows hp
  rw [← r4] at T
  have hs2 : (order.filterMap (es[·]?)).size = es.size := by rw [len_rows r1, r3, hsl]
  rw [setRelay_eq]
  refine wpAny_bind (wpAny_setState_of ho hd hfits ?_)
  dsimp only
  refine wp_if_neg (by rw [sizeLine_eq]; omega) ?_
  try refine wpAny_bind (wpAny_pure ?_)
  rw [e]
  dsimp only
  refine wpAny_bind ?_
  refine wp_if_neg (by rw [hs2]; simp) ?_
  try refine wpAny_bind (wpAny_pure ?_)
  refine wpAny_pure ?_
  dsimp only
  have hMle : M ≤ 511 := by rcases hM with e | e | e | e <;> omega
  refine wpAny_storeSet_of ho hd ?_ (by rw [hs2, hsl, sizeLine_eq]; omega)
  have sb : Heap.SameBut a s.heap (s.heap.update a (Obj.putSet (order.filterMap (es[·]?)) t')) := Heap.SameBut.update ..
  refine hQ _ L2 _ (ep + 1) t' sb ⟨⟨_, store_at ho hd, ⟨hex.1, hex.2.1, hex.2.2⟩, rfl⟩, r1, T, fun p hpm => key_same (keys p (r2.mem_iff.mp hpm)) ho hd sb, by rw [el]; exact ld, by rw [r3, em]; exact hn, (r2.map (·.2)).nodup_iff.mpr hnd⟩ r2 r3
theorem size_308 : SetTable.sizeAbove (SetTable.grown 77) = 512 := by decide +kernel
/-- adding -/
theorem add (R : Tab P w s.heap a L es ep t) {p : Row} (hp : IsX P w s.heap p) (hu : A.units < cLine) (hfew : L.length + 1 < 300) {Q : Bool → Shared → Prop}
    (hQ : ∀ b h' L' es' ep' t', Heap.SameBut a s.heap h' → Tab P w h' a L' es' ep' t' → ((L' = L ∧ ∃ q ∈ L, q.2 = p.2) ∨ (L'.Perm (p :: L) ∧ ∀ q ∈ L, q.2 ≠ p.2)) → Q b { s with heap := h' }) :
    wpAny (model P w) A (setAddHashed a (.ref p.1) (xh P w p)) Q E s := by
  obtain ⟨o, ho, hex, hd⟩ := R.here
  have hsl := R.size
  have hroom := R.room
  unfold setAddHashed
  refine wpAny_holding ?_
  rw [show (100000 : Nat) = 99999 + 1 from rfl, setAddHashedIn_succ]
  refine wpAny_bind (wpAny_setState_of ho hd R.fits ?_)
  dsimp only
  refine wp_if_neg (by simp [byScan, Value.scannable]) ?_
  try refine wpAny_bind (wpAny_pure ?_)
  refine wpAny_bind (seek_all R hp hu (fun hm => ?_) fun hno K hK hb => ?_)
  · exact wpAny_pure (hQ false s.heap L es ep t (Heap.SameBut.refl a s.heap) R (.inl ⟨rfl, hm⟩))
  · dsimp only
    refine wpAny_bind (wpAny_setState_of ho hd R.fits ?_)
    dsimp only
    obtain ⟨q1, q2, q3, q4, q5, q9⟩ := R.tab.lay1 rfl rfl hK hb
    generalize t.put (way t.mask (xh P w p) K) = pt at q1 q3 q4 q5 q9 ⊢
    obtain ⟨t1, at1⟩ := pt
    dsimp only at q1 q3 q4 q5 q9 ⊢
    subst q1
    have hin : (SetTable.insertAt es (SetTable.below t.place (way t.mask (xh P w p) K)) (xh P w p, Value.ref p.1)).toList = (L.take (SetTable.below t.place (way t.mask (xh P w p) K)) ++ p :: L.drop (SetTable.below t.place (way t.mask (xh P w p) K))).map (ent P w) := by
      rw [SetTable.toList_insertAt, R.rows, List.map_append, List.map_cons, List.map_take, List.map_drop]
    generalize SetTable.below t.place (way t.mask (xh P w p) K) = at1 at q2 q3 hin ⊢
    have pm : (L.take at1 ++ p :: L.drop at1).Perm (p :: L) := L2.put_perm L at1 p
    have hlen := pm.length_eq
    rw [List.length_cons] at hlen
    have hhs : (L.take at1 ++ p :: L.drop at1).map (xh P w) = (L.map (xh P w)).take at1 ++ xh P w p :: (L.map (xh P w)).drop at1 := by
      rw [List.map_append, List.map_cons, List.map_take, List.map_drop]
    rw [← hhs] at q3
    have hes := len_rows hin
    rw [hlen] at hes
    generalize SetTable.insertAt es at1 (xh P w p, Value.ref p.1) = es1 at hin hes ⊢
    generalize L.take at1 ++ p :: L.drop at1 = L1 at pm hlen q3 hin
    have sub1 : ∀ q ∈ L1, q = p ∨ q ∈ L := fun q hq => List.mem_cons.mp (pm.mem_iff.mp hq)
    have sub2 : ∀ q ∈ L, q ∈ L1 := fun q hq => pm.mem_iff.mpr (List.mem_cons_of_mem _ hq)
    have sub3 : p ∈ L1 := pm.mem_iff.mpr List.mem_cons_self
    have hnd1 : (L1.map (·.2)).Nodup := (pm.map (·.2)).nodup_iff.mpr (List.nodup_cons.mpr ⟨fun z => by
      obtain ⟨q, hq, e⟩ := List.mem_map.mp z
      exact hno q hq e, R.nd⟩)
    -- whatever the word on the order
    have go : ∀ b : Bool, wpAny (model P w) A (do
        storeSet a es1 (if b then t1 else { t1 with plain := false })
        if !false && (if b then t1 else { t1 with plain := false } : SetTable).tooFull then setRelay a (SetTable.grown (es.size + 1))
        return true) Q E s := by
      intro b
      generalize ht2 : (if b then t1 else { t1 with plain := false } : SetTable) = t2
      have e1 : t2.place = t1.place ∧ t2.mask = t1.mask ∧ t2.dummies = t1.dummies ∧ t2.led = t1.led := by
        rw [← ht2]
        cases b <;> exact ⟨rfl, rfl, rfl, rfl⟩
      obtain ⟨ep1, em1, ed1, el1⟩ := e1
      have T2 : TabF t2 (L1.map (xh P w)) := by
        refine ⟨by rw [ep1]; exact q3.ris, by rw [ed1]; exact q3.dm, by rw [ep1]; exact q3.sz, by rw [em1]; exact q3.mok, by rw [ep1, em1]; exact q3.bd, fun i h j h1 h2 => ?_⟩
        rw [ep1] at h2
        rw [ep1, em1]
        exact q3.reach i h j h1 h2
      have fill : t2.fill = L.length + 1 := by
        have z : t2.fill = t1.fill := by unfold SetTable.fill; rw [ep1, ed1]
        rw [z, q9, List.length_map]
      refine wpAny_bind (wpAny_storeSet_of ho hd ?_ (by rw [hes, sizeLine_eq]; omega))
      have sb : Heap.SameBut a s.heap (s.heap.update a (Obj.putSet es1 t2)) := Heap.SameBut.update ..
      have ho1 := store_at (es' := es1) (t' := t2) ho hd
      generalize s.heap.update a (Obj.putSet es1 t2) = h1 at sb ho1 ⊢
      have keys1 : ∀ q ∈ L1, IsX P w h1 q := fun q hq => by
        rcases sub1 q hq with e | e
        · rw [e]; exact key_same hp ho hd sb
        · exact key_same (R.keys q e) ho hd sb
      have ld1 : w.params.followText "set-order" = true ∨ t2.led = true := by rw [el1, q5]; exact R.led
      by_cases hf : t2.tooFull = true
      · have hfull : (L.length + 1) * 5 ≥ t2.mask * 3 := by
          have z := hf
          unfold SetTable.tooFull at z
          rw [decide_eq_true_eq, fill] at z
          exact z
        have hsz1 : t2.place.size = es1.size := by
          have z := T2.sz
          rw [List.length_map, hlen] at z
          rw [z, hes]
        have two : (t.mask = 7 ∧ L.length = 4) ∨ (t.mask = 31 ∧ L.length = 18) ∨ (t.mask = 127 ∧ L.length = 76) := by
          rw [em1, q4] at hfull
          rcases R.tab.mok with e | e | e | e <;> rw [e] at hfull hroom
          · exact .inl ⟨e, by omega⟩
          · exact .inr (.inl ⟨e, by omega⟩)
          · exact .inr (.inr ⟨e, by omega⟩)
          · exfalso; omega
        have lay : ∀ M, SetTable.sizeAbove (SetTable.grown (L.length + 1)) - 1 = M → MaskG M → SetTable.sizeAbove (SetTable.grown (L.length + 1)) ≤ 512 → (L.length + 1) * 5 < M * 3 →
            wpAny (model P w) A (setRelay a (SetTable.grown (L.length + 1))) (fun _ s' => wpAny (model P w) A (pure true) Q E s') E { s with heap := h1 } := fun M h1' h2' h3' h4' => by
          refine relay (s := { s with heap := h1 }) ho1 ⟨hex.1, hex.2.1, hex.2.2⟩ rfl hin hsz1 T2.dm (by rw [hes, em1, q4]; rcases two with ⟨e, e2⟩ | ⟨e, e2⟩ | ⟨e, e2⟩ <;> omega) keys1 ld1 h1' h2' h3' hnd1 (by rw [hlen]; exact h4') ?_
          intro h2 L2 es2 ep2 t3 sb2 R2 m2 l2
          exact wpAny_pure (hQ true h2 L2 es2 ep2 t3 (sb.trans sb2) R2 (.inr ⟨m2.trans pm, hno⟩))
        rw [hsl]
        first
          | (refine wpAny_bind ?_; refine wp_if_pos (by simp [hf]) ?_)
          | (refine wp_if_pos (by simp [hf]) ?_; refine wpAny_bind ?_)
        rcases two with ⟨_, e2⟩ | ⟨_, e2⟩ | ⟨_, e2⟩
        · exact lay 31 (by rw [e2, size_20]) (.inr (.inl rfl)) (by rw [e2, size_20]; decide) (by omega)
        · exact lay 127 (by rw [e2, size_76]) (.inr (.inr (.inl rfl))) (by rw [e2, size_76]; decide) (by omega)
        · exact lay 511 (by rw [e2, size_308]) (.inr (.inr (.inr rfl))) (by rw [e2, size_308]; decide) (by omega)
      · first
          | refine wp_if_neg (by simp [hf]) ?_
          | (refine wpAny_bind ?_; refine wp_if_neg (by simp [hf]) ?_; refine wpAny_pure ?_)
        refine wpAny_pure (hQ true h1 L1 es1 (ep + 1) t2 sb ⟨⟨_, ho1, ⟨hex.1, hex.2.1, hex.2.2⟩, rfl⟩, hin, T2, keys1, ld1, ?_, hnd1⟩ (.inr ⟨pm, hno⟩))
        have z := hf
        unfold SetTable.tooFull at z
        rw [decide_eq_true_eq, fill] at z
        rw [hlen]
        omega
    by_cases hpl : t1.plain = true
    · first
        | (refine wpAny_bind ?_; refine wp_if_pos hpl ?_; refine val_tup hp fun b => ?_)
        | refine wp_if_pos hpl (wpAny_bind (val_tup hp fun b => ?_))
      exact go b
    · first
        | (refine wpAny_bind ?_; refine wp_if_neg hpl ?_; refine wpAny_pure ?_)
        | refine wp_if_neg hpl (wpAny_bind (wpAny_pure ?_))
        | refine wp_if_neg hpl ?_
      exact go true
/-- what the set has of the first i of a list's items -/
structure Has (ks : List Row) (i : Nat) (L : List Row) : Prop where
  sub : ∀ q ∈ L, q ∈ ks.take i
  all : ∀ q ∈ ks.take i, ∃ r ∈ L, r.2 = q.2
  few : L.length ≤ i
theorem Has.next {ks L L' : List Row} {i : Nat} {p : Row} (g : Has ks i L) (h : ks[i]? = some p) (c : (L' = L ∧ ∃ q ∈ L, q.2 = p.2) ∨ (L'.Perm (p :: L) ∧ ∀ q ∈ L, q.2 ≠ p.2)) : Has ks (i + 1) L' := by
  have e : ks.take (i + 1) = ks.take i ++ [p] := L2.take_next h
  have s1 : ∀ q ∈ L', q = p ∨ q ∈ L := fun q hq => by
    rcases c with ⟨e1, _⟩ | ⟨pm, _⟩
    · rw [e1] at hq; exact .inr hq
    · exact List.mem_cons.mp (pm.mem_iff.mp hq)
  have s2 : ∀ q ∈ L, q ∈ L' := fun q hq => by
    rcases c with ⟨e1, _⟩ | ⟨pm, _⟩
    · rw [e1]; exact hq
    · exact pm.mem_iff.mpr (List.mem_cons_of_mem _ hq)
  have s3 : ∃ q ∈ L', q.2 = p.2 := by
    rcases c with ⟨e1, q, hq, e2⟩ | ⟨pm, _⟩
    · rw [e1]; exact ⟨q, hq, e2⟩
    · exact ⟨p, pm.mem_iff.mpr List.mem_cons_self, rfl⟩
  have sl : L'.length ≤ L.length + 1 := by
    rcases c with ⟨e1, _⟩ | ⟨pm, _⟩
    · rw [e1]; omega
    · rw [pm.length_eq, List.length_cons]; exact Nat.le_refl _
  refine ⟨fun q hq => ?_, fun q hq => ?_, Nat.le_trans sl (Nat.succ_le_succ g.few)⟩
  · rw [e]
    rcases s1 q hq with z | z
    · rw [z]; exact List.mem_append_right _ (List.mem_singleton.mpr rfl)
    · exact List.mem_append_left _ (g.sub q z)
  · rw [e] at hq
    rcases List.mem_append.mp hq with z | z
    · obtain ⟨r, hr, er⟩ := g.all q z
      exact ⟨r, s2 r hr, er⟩
    · rw [List.mem_singleton.mp z]; exact s3
theorem Tab.keep {h h' : Heap} (R : Tab P w h a L es ep t) (ha : ∀ o, h.get? a = some o → h'.get? a = some o) (hk : ∀ p ∈ L, IsX P w h' p) : Tab P w h' a L es ep t := by
  obtain ⟨o, ho, r⟩ := R.here
  exact ⟨⟨o, ha o ho, r⟩, R.rows, R.tab, hk, R.led, R.room, R.nd⟩
abbrev noSet (w : World) : Obj := { cls := .type "set", dict := none, data := .set #[] 0 (.fresh 0 0 (!w.params.followText "set-order")) }
theorem tab_new {h : Heap} (ho : h.get? a = some (noSet w)) : Tab P w h a [] #[] 0 (.fresh 0 0 (!w.params.followText "set-order")) where
  here := ⟨_, ho, ⟨rfl, rfl, rfl⟩, rfl⟩
  rows := rfl
  tab := ⟨List.Pairwise.nil, rfl, rfl, .inl rfl, fun x hx => (by cases hx), fun i h j hi => (by simp at hi)⟩
  keys := fun p hp => (by cases hp)
  led := by
    show _ ∨ (!w.params.followText "set-order") = true
    cases w.params.followText "set-order"
    · exact .inr rfl
    · exact .inl rfl
  room := by
    show 0 * 5 < 7 * 3
    decide
  nd := List.nodup_nil
/-- a list's items, put in one by one -/
theorem into {I : Addr} {fp wr : List Addr} {G : Array GenState → Array GenState → Prop} {n : Nat} {Pv : Nat → Value → Prop} {St : Nat → Shared → Prop} {R : Result → Shared → Prop}
    (W : WalksS P w A.in1 I fp wr G n Pv St) (S : Addr) (hSf : S ∉ fp) (ks : List Row) (hn : n = ks.length) (hfew : ks.length < 300) (hval : ∀ i v, Pv i v → ∃ p, ks[i]? = some p ∧ v = .ref p.1)
    (h0 : Heap) (hk : ∀ p ∈ ks, IsX P w h0 p) (hS0 : h0.get? S = none) (hw0 : ∀ b ∈ wr, h0.get? b = none) (hu : A.in1.units < cLine) :
    ∀ (k i : Nat) (s : Shared), n - i = k → i ≤ n → St i s → (∀ b o, h0.get? b = some o → s.heap.get? b = some o) → (∃ L es ep t, Tab P w s.heap S L es ep t ∧ Has ks i L) →
      (∀ s' L es ep t, Moved (S :: wr) G s s' → Tab P w s'.heap S L es ep t → Has ks n L → (∀ b o, h0.get? b = some o → s'.heap.get? b = some o) → R (.ok (.ret .none)) s') →
      codeAny (model P w) A (.builtin "set.update.loop" ⟨[.ref S, .ref I], []⟩) R s := by
  have hSw : S ∉ wr := fun h => hSf (W.sub _ h)
  have hsub : ∀ b ∈ wr, b ∈ S :: wr := fun b hb => List.mem_cons_of_mem _ hb
  have olds : ∀ {s s' : Shared}, Moved wr G s s' → (∀ b o, h0.get? b = some o → s.heap.get? b = some o) → ∀ b o, h0.get? b = some o → s'.heap.get? b = some o := fun hm hkp b o e =>
    hm.heap b o (fun hb => by rw [hw0 b hb] at e; cases e) (hkp b o e)
  have kin : ∀ {L : List Row} {i : Nat}, Has ks i L → ∀ p ∈ L, p ∈ ks := fun g p hp => List.mem_of_mem_take (g.sub p hp)
  intro k
  induction k with
  | zero =>
    intro i s hk' hi hst hkp ⟨L, es, ep, t, hS, g⟩ hR
    obtain rfl : i = n := by omega
    refine codeAny_builtin F.entry_set_update_loop ?_
    rw [Around.under_plainId F.plain_set_update_loop _]
    show wpAny _ A.in1 (pyNext (.ref I) >>= _) _ _ s
    refine wpAny_bind (W.done s _ _ hst fun s' hm => ?_)
    show wpAny _ A.in1 (ret Value.none) _ _ s'
    have hkp' := olds hm hkp
    exact wpAny_pure (hR s' L es ep t (hm.mono hsub) (hS.keep (fun o e => hm.heap S o hSw e) fun p hp => key_keep (hk p (kin g p hp)) hkp') g hkp')
  | succ k ih =>
    intro i s hk' hi hst hkp ⟨L, es, ep, t, hS, g⟩ hR
    have hlt : i < n := by omega
    refine codeAny_builtin F.entry_set_update_loop ?_
    rw [Around.under_plainId F.plain_set_update_loop _]
    show wpAny _ A.in1 (pyNext (.ref I) >>= _) _ _ s
    refine wpAny_bind (W.item i s _ _ hlt hst fun v s' hP hst' hm => ?_)
    obtain ⟨p, hp, rfl⟩ := hval i v hP
    have hkp' := olds hm hkp
    have hS' : Tab P w s'.heap S L es ep t := hS.keep (fun o e => hm.heap S o hSw e) fun q hq => key_keep (hk q (kin g q hq)) hkp'
    have hx : IsX P w s'.heap p := key_keep (hk p (List.mem_of_getElem? hp)) hkp'
    show wpAny _ A.in1 (holding [Value.ref p.1] (setAdd S (.ref p.1)) >>= _) _ _ s'
    refine wpAny_bind (wpAny_holding ?_)
    unfold setAdd
    refine wpAny_holding (wpAny_bind (wpAny_pyHash_tuple hu hx ?_))
    refine add (s := { s' with toks := s'.toks + (p.2.length + 1) }) hS' hx hu (by have := g.few; omega) fun b h' L' es' ep' t' hsb hS2 c1 => ?_
    have hkp2 : ∀ b o, h0.get? b = some o → h'.get? b = some o := fun b o e => (hsb.2 b (fun z => by rw [z, hS0] at e; cases e)).trans (hkp' b o e)
    refine wpAny_pure ⟨plainId_quiet F.plain_set_update_loop _, ih (i + 1) _ (by omega) hlt (W.frame _ s' _ _ hst' (Nat.le_add_right _ _) fun b hb o e => ?_) hkp2 ⟨L', es', ep', t', hS2, g.next hp c1⟩ fun s'' L2 es2 ep2 t2 hm'' hS'' g'' hkp'' => ?_⟩
    · rw [hsb.2 b (fun h : b = S => hSf (by rw [← h]; exact hb))]; exact e
    · refine hR s'' L2 es2 ep2 t2 (Moved.trans W.gtrans ((hm.mono hsub).then_heap (Nat.le_add_right _ _) fun b o hb e => ?_) hm'') hS'' g'' hkp''
      rw [hsb.2 b (fun h : b = S => hb (by rw [h]; exact List.mem_cons_self))]; exact e
/-- set(xs), xs a list of tuples of texts -/
theorem call_set {l : Addr} {items : Array Value} (ks : List Row) {Q : Value → Shared → Prop} (hh : A.handled = none) (hl : s.heap.IsList l items) (hit : items.toList = ks.map fun p => Value.ref p.1)
    (hk : ∀ p ∈ ks, IsX P w s.heap p) (hfew : ks.length < 300) (hu : A.units + 3 < cLine)
    (h : ∀ (h' : Heap) (tk : Nat) L es ep t, Tab P w h' s.heap.objs.size L es ep t → Has ks ks.length L → (∀ b o, s.heap.get? b = some o → h'.get? b = some o) → Q (.ref s.heap.objs.size) { s with heap := h', toks := tk }) :
    wpAny (model P w) A (call (.type "set") [.ref l]) Q E s := by
  have hisz : items.size = ks.length := by
    have q := congrArg List.length hit
    rw [Array.length_toList, List.length_map] at q
    exact q
  obtain ⟨c, tl, hmro⟩ := F.called_set.mro
  have hmade := F.called_set.made
  have hsub := F.called_set.sub
  refine wpAny_call (codeAny_of_tree ?_)
  show wpAny _ _ (callAny (.type "set") _) _ _ _
  refine wpAny_pure ⟨Code.quiet_builtin _ (by decide +kernel), codeAny_builtin F.entry_type_call ?_⟩
  rw [Around.under_plain (weight_type_call_type "set" [.ref l] []) rfl]
  have h1 := F.called_set.notType
  have h2 := F.called_set.canCreate
  have hct := F.typeCall_set_1 (.ref l)
  repeat (any_goals (first | assumption | wp_step))
  refine codeAny_mono (code_set_led1 (.ref l) (E := E) (Q₁ := fun obj s₁ => obj = .ref s.heap.objs.size ∧ s₁ = { s with heap := s.heap.push (noSet w) }) ⟨rfl, rfl⟩) fun r s₁ hr => ?_
  cases r with
  | error e => exact hr
  | ok fl =>
    cases fl with
    | ret obj =>
      obtain ⟨rfl, rfl⟩ := hr
      have hS : (s.heap.push (noSet w)).get? s.heap.objs.size = some (noSet w) := Heap.get?_push_size _ rfl
      have hT : Shared.TypeIs { s with heap := s.heap.push (noSet w) } (.ref s.heap.objs.size) "set" := ⟨_, hS, rfl⟩
      have hli := F.called_set.init.lookup
      have hbi := F.called_set.init.bind (.ref s.heap.objs.size)
      repeat (any_goals (first | assumption | wp_step))
      refine codeAny_mono (codeAny_call_builtin (R := wants (fun r s₂ => r = .none ∧ ∃ h' tk L es ep t, s₂ = { s with heap := h', toks := tk } ∧ Tab P w h' s.heap.objs.size L es ep t ∧ Has ks ks.length L ∧
          (∀ b o, s.heap.get? b = some o → h'.get? b = some o)) E) F.called_set.init.plain F.entry_set_init (check_set_init_1 hT ?_)) fun r₂ s₂ hr₂ => ?_
      · obtain ⟨ol, hol, hcl, nl, hdl⟩ := hl
        obtain ⟨ocls, odict, odata, oslots⟩ := ol
        simp only at hcl hdl
        subst hcl; subst hdl
        have hol' : (s.heap.push (noSet w)).get? l = some { cls := .type "list", dict := odict, data := .seq items nl, slots := oslots } := Heap.get?_push_of_some _ hol
        have hsls := F.sub_list_set
        have hslf := F.sub_list_frozenset
        have hne : (Value.type "list" == Value.type "dict") = false := by decide
        have hl1 : (s.heap.push (noSet w)).IsList l items := ⟨_, hol', rfl, nl, rfl⟩
        unfold Builtin.«set.__init__» noKeywords Builtin.Frozenset.updateFrom
        generalize hPI : pyIter = PI
        wp_walk
        subst hPI
        refine wpAny_pyIter_list hl1 ?_
        refine wpAny_bind (wpAny_runValue ?_)
        have hlS : l < s.heap.objs.size := Heap.lt_size hol
        have hh3 : A.in1.in1.in1.handled = none := by simp [hh]
        have hsz : (s.heap.push (noSet w)).objs.size = s.heap.objs.size + 1 := Heap.size_push ..
        have hneI : l ≠ (s.heap.push (noSet w)).objs.size := by
          rw [hsz]
          exact Nat.ne_of_lt (Nat.lt_succ_of_lt hlS)
        have hSf : s.heap.objs.size ∉ [(s.heap.push (noSet w)).objs.size, l] := by
          rw [hsz]
          simp only [List.mem_cons, List.not_mem_nil, or_false, not_or]
          exact ⟨Nat.ne_of_lt (Nat.lt_succ_self _), Nat.ne_of_gt hlS⟩
        have hval : ∀ (i : Nat) (v : Value), items[i]? = some v → ∃ p, ks[i]? = some p ∧ v = .ref p.1 := fun i v hv => by
          rw [← Array.getElem?_toList, hit, List.getElem?_map] at hv
          cases hq : ks[i]? with
          | none => rw [hq] at hv; cases hv
          | some p => rw [hq] at hv; exact ⟨p, rfl, (Option.some.inj hv).symm⟩
        have none_of : ∀ b, s.heap.objs.size ≤ b → s.heap.get? b = none := fun b hb => by
          cases q : s.heap.get? b with
          | none => rfl
          | some o => exact absurd (Nat.lt_of_lt_of_le (Heap.lt_size q) hb) (Nat.lt_irrefl _)
        refine into ((Walks.list hh3 _ l hneI items).toS) s.heap.objs.size hSf ks hisz hfew hval s.heap hk (none_of _ (Nat.le_refl _))
          (fun b hb => none_of b (by rw [List.mem_singleton.mp hb, hsz]; exact Nat.le_succ _)) hu (items.size - 0) 0 _ (by omega) (Nat.zero_le _)
          ⟨⟨_, Heap.get?_push_size _ rfl, rfl, rfl⟩, (hl1.push _)⟩ (fun b o e => Heap.get?_push_of_some _ (Heap.get?_push_of_some _ e)) ⟨[], #[], 0, _, tab_new (Heap.get?_push_of_some _ hS), ⟨fun q hq => (by cases hq), fun q hq => (by simp at hq), Nat.le_refl _⟩⟩ ?hR
        case hR =>
          intro s' L es ep t hm hS' g' hkp
          obtain ⟨h', g2, d', tk', os'⟩ := s'
          obtain rfl : g2 = s.gens := hm.gens
          obtain rfl : d' = s.drawn := hm.drawn
          obtain rfl : os' = s.os := hm.os
          show wpAny _ _ _ _ _ _
          refine wpAny_pure ?_
          show wpAny _ _ (ret Value.none) _ _ _
          rw [hisz] at g'
          exact wpAny_pure ⟨rfl, h', tk', L, es, ep, t, rfl, hS', g', hkp⟩
      · cases r₂ with
        | error e => exact hr₂
        | ok fl₂ =>
          cases fl₂ with
          | ret r =>
            obtain ⟨rfl, h', tk, L, es, ep, t, rfl, hS', g', hk'⟩ := hr₂
            repeat (any_goals (first | assumption | wp_step))
            exact h _ _ _ _ _ _ hS' g' hk'
          | _ => exact hr₂.elim
    | _ => exact hr.elim
end
end KT

set_option linter.all false
set_option Elab.async false
set_option maxRecDepth 100000
set_option maxHeartbeats 4000000
namespace KT
open PySem PySem.Spec PyProof.Rows L2
/-! sorted of such a set -/
def kd : Key → PyData
  | .inl i => .int i
  | .inr s => .str s
abbrev rdat (p : Row) : PyData := .tuple (p.2.map kd)
theorem perm_of_map {α β : Type} [DecidableEq α] (f : α → β) : ∀ (l m : List α), (∀ x ∈ l, ∀ y ∈ m, f x = f y → x = y) → (l.map f).Perm (m.map f) → l.Perm m
  | [], m, _, p => by
    have : m = [] := List.map_eq_nil_iff.mp (List.nil_perm.mp p)
    rw [this]
  | x :: l, m, inj, p => by
    obtain ⟨y, hy, e⟩ := List.mem_map.mp (p.mem_iff.mp List.mem_cons_self)
    obtain rfl := inj x List.mem_cons_self y hy e.symm
    have p2 := List.perm_cons_erase hy
    have p4 := p.trans (p2.map f)
    rw [List.map_cons, List.map_cons] at p4
    exact ((perm_of_map f l (m.erase x) (fun a ha b hb => inj a (List.mem_cons_of_mem _ ha) b (List.mem_of_mem_erase hb)) (List.Perm.cons_inv p4)).cons x).trans p2.symm
section
variable {P : Program} {w : World} {A : Around} {E : Value → Shared → Prop} {s : Shared} {a : Addr} {L : List Row} {es : Array (Int × Value)} {ep : Nat} {t : SetTable}
theorem reads_keys {h : Heap} {k : List Key} {vs : List Value} (x : ItemsAre (mixKind P w) k vs) : ReadsAll h vs (k.map kd) [] := by
  induction x with
  | nil => exact .nil
  | @cons x v ks vs h1 _ ih =>
    rcases keyIs_shape h1 with ⟨i, t, rfl, rfl⟩ | ⟨y, t, rfl, rfl⟩
    · exact .cons (as := []) (bs := []) (.int i t) ih
    · exact .cons (as := []) (bs := []) (.str y t) ih
theorem key_reads {h : Heap} {p : Row} (x : IsX P w h p) : Reads h (.ref p.1) (rdat p) [] := by
  obtain ⟨o, items, n, ho, hc, hd, hi⟩ := x
  exact .tuple ho hc hd (reads_keys hi)
theorem depth_keys : ∀ xs : List Key, PyData.depthAll (xs.map kd) = 0
  | [] => by simp [PyData.depthAll]
  | .inl x :: xs => by simp [PyData.depthAll, PyData.depth, kd, depth_keys xs]
  | .inr x :: xs => by simp [PyData.depthAll, PyData.depth, kd, depth_keys xs]
theorem depth_row (p : Row) : (rdat p).depth = 1 := by
  show PyData.depth (.tuple (p.2.map kd)) = 1
  unfold PyData.depth
  rw [depth_keys]
theorem each_refs {R : Value → Row → Prop} : ∀ (L : List Row), (∀ p ∈ L, R (.ref p.1) p) → PySem.W.EachIs R (L.map fun p => Value.ref p.1) L
  | [], _ => .nil
  | p :: L, h => .cons (h p List.mem_cons_self) (each_refs L fun q hq => h q (List.mem_cons_of_mem _ hq))
theorem refs_each : ∀ {vs : List Value} {L : List Row}, PySem.W.EachIs (fun v (p : Row) => v = .ref p.1) vs L → vs = L.map fun p => Value.ref p.1
  | _, _, .nil => rfl
  | _, _, .cons h t => by rw [h, refs_each t]; rfl
theorem call_sorted (R : Tab P w s.heap a L es ep t) (hh : A.handled = none) (ne : ∀ p ∈ L, p.2 ≠ []) (hal : ∀ p ∈ L, ∀ q ∈ L, PySem.W.alike (rdat p) (rdat q) = true) (hfew : L.length < 300) (hu : A.units + 10 < cLine) {Q : Value → Shared → Prop}
    (hQ : ∀ s' p (out : Array Value) (c : Nat) (L1 : List Row), (∀ b o, s.heap.get? b = some o → s'.heap.get? b = some o) → s'.gens = s.gens → s'.os = s.os → s.heap.objs.size ≤ p → s'.heap.get? p = some (seqObj "list" out c) →
      out.toList = (L1.mergeSort (PySem.W.dataLe false rdat)).map (fun q => Value.ref q.1) → L1.Perm L → Q (.ref p) s') :
    wpAny (model P w) A (call (.builtin "sorted") [.ref a]) Q E s := by
  obtain ⟨o, ho, hex, hd⟩ := R.here
  have hsz := R.size
  refine Calls.call_function_entry kind_sorted plain_sorted entry_sorted (args_sorted1 _) ?_
  unfold Builtin.«sorted»
  refine wpAny_bind (m := checkCount "sorted" 1 1 _) (wpAny_pure ?_)
  refine wpAny_bind (collect_set (A := A.in1) hh ⟨o, ho, hex.1, hd⟩ R.fits (by unfold scanBound; omega) R.tab.ris R.led fun s1 vs k1 hz g1 o1 pm => ?_)
  have hes : es.toList.map (·.2) = L.map fun q => Value.ref q.1 := by
    rw [R.rows, List.map_map]
    rfl
  rw [hes] at pm
  have ord : ∀ us : List Value, (∀ v ∈ us, ∃ q ∈ L, v = Value.ref q.1) → ∃ L1 : List Row, us = L1.map (fun q => Value.ref q.1) ∧ ∀ q ∈ L1, q ∈ L := by
    intro us
    induction us with
    | nil => intro _; exact ⟨[], rfl, fun q hq => (by cases hq)⟩
    | cons v us ih =>
      intro hv
      obtain ⟨q, hq, e⟩ := hv v List.mem_cons_self
      obtain ⟨L1, e1, hs⟩ := ih fun u hu => hv u (List.mem_cons_of_mem _ hu)
      exact ⟨q :: L1, by rw [List.map_cons, e, e1], fun r hr => (List.mem_cons.mp hr).elim (fun z => z ▸ hq) (hs r)⟩
  obtain ⟨L1, e1, sub1⟩ := ord vs fun v hv => by
    obtain ⟨q, hq, e⟩ := List.mem_map.mp (pm.mem_iff.mp hv)
    exact ⟨q, hq, e.symm⟩
  have pL : L1.Perm L := by
    rw [e1] at pm
    refine perm_of_map (fun q : Row => Value.ref q.1) L1 L (fun x hx y hy e => ?_) pm
    injection e with e
    have a1 := R.keys x (sub1 x hx)
    have a2 := R.keys y hy
    unfold IsX at a1 a2
    rw [e] at a1
    exact Prod.ext e (a1.inj a2)
  have len1 := pL.length_eq
  have hvl : vs.length = L.length := by rw [e1, List.length_map, len1]
  have w1 : PySem.W.EachIs (fun v (p : Row) => v = Value.ref p.1) vs L1 := by
    rw [e1]
    exact each_refs L1 fun p _ => rfl
  have w2 : ∀ (h : Heap) (b : Addr), (∀ q ∈ L1, IsX P w h q) → PySem.W.EachIs (fun v (p : Row) => ∃ as, Reads h v (rdat p) as ∧ b ∉ as) vs L1 := fun h b k => by
    rw [e1]
    exact each_refs L1 fun p hp => ⟨[], key_reads (k p hp), by simp⟩
  refine wpAny_bind (wpAny_newList ?_ (by rw [sizeLine_eq]; omega))
  have hoL : (s1.heap.push (seqObj "list" vs.toArray 0)).get? s1.heap.objs.size = some (seqObj "list" vs.toArray 0) := Heap.get?_push_size _ rfl
  have tk : ∀ q ∈ L1, IsX P w (s1.heap.push (seqObj "list" vs.toArray 0)) q := fun q hq => key_keep (R.keys q (sub1 q hq)) fun b u e => Heap.get?_push_of_some _ (k1 b u e)
  refine wpAny_bind (wpAny_holding (PySem.W.list_sort_data (β := Row) (bs := L1) (enc := rdat) (R := fun v (p : Row) => v = .ref p.1) (s := { s1 with heap := s1.heap.push (seqObj "list" vs.toArray 0) }) hoL
    w1 (w2 _ _ tk) (fun d hd d' hd' => ?_) (.inl fun d hd => ?_) (by rw [sizeLine_eq]; omega) (fun b _ => ?_) fun out hlen ho => ?_))
  · obtain ⟨p, hp, rfl⟩ := List.mem_map.mp hd
    obtain ⟨q, hq, rfl⟩ := List.mem_map.mp hd'
    exact hal p (sub1 p hp) q (sub1 q hq)
  · obtain ⟨p, hp, rfl⟩ := List.mem_map.mp hd
    have n := ne p (sub1 p hp)
    obtain ⟨a0, k0⟩ := p
    cases k0 with
    | nil => exact absurd rfl n
    | cons x r => exact ⟨_, _, rfl⟩
  · rw [depth_row]
    show A.units + 1 + 1 + 1 < cLine
    omega
  · have eo := refs_each ho
    obtain ⟨c, hc⟩ := sortedHeap_at (vs := vs) (out := List.toArray out) hoL
    refine wpAny_pure ⟨_, rfl, hQ _ s1.heap.objs.size (List.toArray out) c L1 (fun b u e => ?_) g1 o1 hz hc (by simpa using eo) pL⟩
    have q := k1 b u e
    have hlt := Heap.lt_size q
    show (sortedHeap (s1.heap.push (seqObj "list" vs.toArray 0)) s1.heap.objs.size vs _).get? b = some u
    rw [sortedHeap_old (Nat.ne_of_lt hlt) (by rw [size_push']; exact Nat.lt_succ_of_lt hlt)]
    exact Heap.get?_push_of_some _ q
end
end KT
namespace G7
open PySem PySem.Spec PyProof.Rows L2
/-- sorted(set(xs)), xs a list of pairs of ints: each once, rising -/
def tSortP (te : TE) : TE := fun σ H Q => te σ H fun x H1 => ∃ (l : Addr) (ps : List Pr), x = .ref l ∧ lsO (H1 l) = some (ps.map fun p => V.ref p.1) ∧ (∀ p ∈ ps, H1 p.1 = some (.tup [.int p.2.1, .int p.2.2])) ∧ ps.length < 300 ∧
  ∀ (p : Addr) (qs : List Pr), H1 p = none → Ris2 qs → (∀ e ∈ qs, e ∈ ps) → (∀ x, x ∈ qs.map (·.2) ↔ x ∈ ps.map (·.2)) → Q (.ref p) (upd H1 p (.lst (qs.map fun e => V.ref e.1)))
abbrev prRow (e : Pr) : KT.Row := (e.1, ky2 e.2)
theorem rows_pr {ps : List Pr} : ∀ L : List KT.Row, (∀ q ∈ L, ∃ e ∈ ps, prRow e = q) → ∃ ps' : List Pr, L = ps'.map prRow ∧ ∀ e ∈ ps', e ∈ ps
  | [], _ => ⟨[], rfl, fun e he => absurd he (by simp)⟩
  | q :: L, h => by
    obtain ⟨e, he, rfl⟩ := h q List.mem_cons_self
    obtain ⟨ps', e1, e2⟩ := rows_pr (ps := ps) L fun r hr => h r (List.mem_cons_of_mem _ hr)
    exact ⟨e :: ps', by rw [e1]; rfl, fun x hx => (List.mem_cons.mp hx).elim (fun z => z ▸ he) (e2 x)⟩
theorem refs_pr : ∀ {ps : List Pr} {us : List Value}, Vals (ps.map fun e => V.ref e.1) us → us = (ps.map prRow).map fun p => Value.ref p.1
  | [], _, .nil => rfl
  | e :: r, _, .cons h t => by rw [refs_pr t]; cases h; rfl
theorem pr_refs : ∀ (ps : List Pr), Vals (ps.map fun e => V.ref e.1) ((ps.map prRow).map fun p => Value.ref p.1)
  | [] => .nil
  | e :: r => .cons rfl (pr_refs r)
theorem sort_pr (l : List Pr) (nd : (l.map (·.2)).Nodup) : ∃ qs : List Pr, (l.map prRow).mergeSort (PySem.W.dataLe false KT.rdat) = qs.map prRow ∧ qs.Perm l ∧ Ris2 qs := by
  have pm := List.mergeSort_perm (l.map prRow) (PySem.W.dataLe false KT.rdat)
  obtain ⟨qs, e, _⟩ := rows_pr (ps := l) _ fun q hq => by
    obtain ⟨x, hx, rfl⟩ := List.mem_map.mp (pm.mem_iff.mp hq)
    exact ⟨x, hx, rfl⟩
  have pq : qs.Perm l := by
    rw [e] at pm
    refine KT.perm_of_map prRow qs l (fun x _ y _ h => ?_) pm
    injection h with h1 h2
    exact Prod.ext h1 (ky2_eq.mp h2)
  refine ⟨qs, e, pq, ?_⟩
  have tot := PySem.W.sortLe_total (PyProof.Rows.listOrd PyProof.Rows.itemOrd) false fun b : KT.Row => PySem.W.keyToks (KT.rdat b)
  have srt : (qs.map prRow).Pairwise fun a b => PySem.W.dataLe false KT.rdat a b = true := by
    rw [← e]
    exact List.pairwise_mergeSort (fun a b c h1 h2 => tot.trans a b c h1 h2) (fun a b => by rw [Bool.or_eq_true]; exact tot.total a b) _
  rw [List.pairwise_map] at srt
  have ii := PySem.W.dataLe_ii (β := Pr) (fun p => p.2.1) (fun p => p.2.2)
  have hs : qs.Pairwise fun p q => p.2.1 < q.2.1 ∨ (p.2.1 = q.2.1 ∧ p.2.2 ≤ q.2.2) := srt.imp fun {p q} h => by
    have z : PySem.W.dataLe false (fun b : Pr => PyData.tuple [.int b.2.1, .int b.2.2]) p q = true := h
    rw [ii] at z
    exact of_decide_eq_true z
  have nd2 : qs.Pairwise fun p q => p.2 ≠ q.2 := by
    have z := (pq.map (·.2)).nodup_iff.mpr nd
    unfold List.Nodup at z
    rw [List.pairwise_map] at z
    exact z
  exact (hs.and nd2).imp fun {p q} h => by
    obtain ⟨h1, h2⟩ := h
    unfold lt2
    rcases h1 with h1 | ⟨h1, h3⟩
    · exact .inl h1
    · refine .inr ⟨h1, ?_⟩
      have : p.2.2 ≠ q.2.2 := fun z => h2 (Prod.ext h1 z)
      omega
section
variable {X : Cx}
theorem pr_key {pins : List (Addr × Obj)} {σ : L2.St} {H : Hp} {s : Shared} (I : Inv X pins σ H s) {e : Pr} (h : H e.1 = some (.tup [.int e.2.1, .int e.2.2])) : KT.IsX X.prog X.w s.heap (prRow e) :=
  key_of I.hok h
theorem pe_sortP {a : Expr} {te : TE} {p p2 q pos : Pos} (hc : X.calm = true) (hu : X.A.units + 64 < cLine) (hg : Gl X "sorted") (hm : X.mg "sorted" = none) (hg2 : Gl X "set") (hm2 : X.mg "set" = none) (ha : PE X a te)
    (na : starEach [a] X.env = (false, eval a X.env) :: starEach [] X.env := by rfl) : PE X (.Call (.Name "sorted" p) [.Call (.Name "set" p2) [a] [] q] [] pos) (tSortP te) := by
  refine ⟨fun pins s σ H Q I h => ?_⟩
  refine Call_ (ld_blt I hg hm PyProof.Rows.boot_sorted ?_)
  refine PyProof.Rows.callWith_builtin1 (PyProof.Rows.args_cons ?_ rfl) rfl rfl
  refine Call_ (ld_blt I hg2 hm2 PyProof.Rows.boot_set ?_)
  refine PyProof.Rows.callWith_type1 (PyProof.Rows.args_cons (thn (ha.run pins s σ H _ I h) fun v s1 ⟨x, H1, I1, r1, q1⟩ => PyProof.Rows.args_nil ?_) na) na rfl
  obtain ⟨l, ps, rfl, hl, ht, hfew, k⟩ := q1
  cases r1
  obtain ⟨its, rv, pl, hz⟩ := I1.list (show SqL X.K H1 l _ from .inl (rd_lsO hl))
  refine KT.call_set (P := X.prog) (w := X.w) (ps.map prRow) (I1.ok.hd hc) pl.isList (by simpa using refs_pr rv) (fun r hr => ?_) (by rw [List.length_map]; exact hfew) (by omega) fun h' tk L es ep t T g kp => ?_
  · obtain ⟨e, he, rfl⟩ := List.mem_map.mp hr
    exact pr_key I1 (ht e he)
  · refine PyProof.Rows.args_nil ?_
    have I2 : Inv X pins σ H1 { s1 with heap := h', toks := tk } := I1.kept kp
    obtain ⟨ls, rfl, sub⟩ := rows_pr (ps := ps) L fun r hr => by
      obtain ⟨e, he, er⟩ := List.mem_map.mp (List.mem_of_mem_take (g.sub r hr))
      exact ⟨e, he, er⟩
    have lfew : ls.length ≤ ps.length := by
      have z := g.few
      rw [List.length_map, List.length_map] at z
      exact z
    have lnd : (ls.map (·.2)).Nodup := by
      have z := T.nd
      rw [List.map_map] at z
      have z2 : ((ls.map (·.2)).map ky2).Nodup := by rw [List.map_map]; exact z
      exact List.Pairwise.of_map ky2 (fun a b h e => h (by rw [e])) z2
    refine KT.call_sorted (s := { s1 with heap := h', toks := tk }) T (I1.ok.hd hc) (fun r hr => ?_) (fun r hr r' hr' => ?_) (by rw [List.length_map]; omega) (by omega) fun s' p out c L1 k1 g1 o1 hp hg' hout pm => ?_
    · obtain ⟨e, _, rfl⟩ := List.mem_map.mp hr
      exact List.cons_ne_nil _ _
    · obtain ⟨e, _, rfl⟩ := List.mem_map.mp hr
      obtain ⟨e', _, rfl⟩ := List.mem_map.mp hr'
      rfl
    · obtain ⟨l1, rfl, sub1⟩ := rows_pr (ps := ls) L1 fun r hr => by
        obtain ⟨e, he, er⟩ := List.mem_map.mp (pm.mem_iff.mp hr)
        exact ⟨e, he, er⟩
      have pm1 : l1.Perm ls := KT.perm_of_map prRow l1 ls (fun x _ y _ h => by
        injection h with h1 h2
        exact Prod.ext h1 (ky2_eq.mp h2)) pm
      obtain ⟨qs, e1, pq, rq⟩ := sort_pr l1 ((pm1.map (·.2)).nodup_iff.mpr lnd)
      rw [e1] at hout
      have hn : H1 p = none := I2.hok.fresh hp
      have hv : Vals (qs.map fun e => V.ref e.1) out.toList := by rw [hout]; exact pr_refs qs
      have ql : qs.length ≤ ps.length := by rw [pq.length_eq, pm1.length_eq]; exact lfew
      have J : Inv X pins σ (upd H1 p (.lst (qs.map fun e => V.ref e.1))) { ({ s1 with heap := h', toks := tk } : Shared) with heap := s'.heap, gens := s'.gens, drawn := s'.drawn, toks := s'.toks } :=
        I2.call (ch := []) (Un.laid k1 hp hn) (I2.hok.laid k1 hp ⟨by rw [List.length_map, sizeLine_eq]; omega, out.toList, c, hv, hg'⟩) (by rw [g1]; exact I2.bare) (fun _ z => nomatch z)
      have e : s' = { ({ s1 with heap := h', toks := tk } : Shared) with heap := s'.heap, gens := s'.gens, drawn := s'.drawn, toks := s'.toks } := by
        cases s'
        cases s1
        cases o1
        rfl
      rw [e]
      refine ⟨.ref p, _, J, rfl, k p qs hn rq (fun x hx => sub x (pm1.mem_iff.mp (pq.mem_iff.mp hx))) fun x => ⟨fun hx => ?_, fun hx => ?_⟩⟩
      · obtain ⟨y, hy, rfl⟩ := List.mem_map.mp hx
        exact List.mem_map.mpr ⟨y, sub y (pm1.mem_iff.mp (pq.mem_iff.mp hy)), rfl⟩
      · obtain ⟨y, hy, rfl⟩ := List.mem_map.mp hx
        obtain ⟨r, hr, er⟩ := g.all (prRow y) (by rw [List.take_length]; exact List.mem_map.mpr ⟨y, hy, rfl⟩)
        obtain ⟨z, hz', rfl⟩ := List.mem_map.mp hr
        exact List.mem_map.mpr ⟨z, pq.mem_iff.mpr (pm1.mem_iff.mpr hz'), ky2_eq.mp er⟩
end
end G7

set_option linter.all false
set_option Elab.async false
set_option maxRecDepth 100000
set_option maxHeartbeats 4000000
/-! sorted(d), d a dict whose keys are tuples -/
namespace KT
open PySem PySem.Spec PyProof.Rows L2
section
variable {P : Program} {w : World} {A : Around} {E : Value → Shared → Prop} {s : Shared} {d : Addr} {es : Array DictEntry} {ep : Nat}
theorem raw_typeIs {s : Shared} (h : DT.Raw s.heap d es ep) : s.TypeIs (Value.ref d) "dict" := h.typeIs
theorem src_raw (ns : (d == sysModules) = false) : W.KdlSrc P w "dict" d d es.size (fun i v => ∃ en, es[i]? = some en ∧ v = en.key) fun h => DT.Raw h d es ep where
  type := fun s h => h.typeIs
  there := fun h ⟨o, ho, _⟩ => ⟨Heap.lt_size ho, Heap.lt_size ho⟩
  keep := fun h h' ⟨o, ho, r⟩ k => ⟨o, k d (.inl rfl) o ho, r⟩
  notList := rfl
  notTuple := rfl
  hint := fun A E s Q h q => W.kdl_hint_dict h.typeIs q
  iter := fun A s hh h => by
    obtain ⟨o, ho, ex, dat⟩ := id h
    have lt := Heap.lt_size ho
    refine ⟨{ cls := .type "dict_keyiterator", data := .fields #[.ref d, .int 0 0, .int (es.size : Nat) 0, .int (ep : Nat) 0] }, fun i h' => h'.IsKeyIter s.heap.objs.size d i es.size ep ∧ DT.Raw h' d es ep, fun E Q q => iter_keys ns ho ex dat q, ?_, ⟨_, Heap.get?_push_size _ rfl, rfl, rfl⟩, h.push _⟩
    refine ⟨fun b hb => by simp only [List.mem_singleton] at hb; simp [hb], fun i h1 h2 ⟨⟨o1, a1, a2⟩, ⟨o2, b1, b2⟩⟩ k => ⟨⟨o1, k _ (by simp) _ a1, a2⟩, ⟨o2, k _ (by simp) _ b1, b2⟩⟩, ?_, ?_, ?_⟩
    · rintro i s1 Q E hi ⟨it, ⟨o2, b1, b2, b3⟩⟩ q
      refine next_key_item it b1 b3 rfl (Array.getElem?_eq_getElem hi) fun h' it' sb => ?_
      have kp : ∀ b o, b ≠ s.heap.objs.size → s1.heap.get? b = some o → h'.get? b = some o := fun b o n e => sb.extBut b o n e
      exact q _ h' _ ⟨_, Array.getElem?_eq_getElem hi, rfl⟩ ⟨it', ⟨o2, kp d o2 (Nat.ne_of_lt lt) b1, b2, b3⟩⟩ fun b o n e => kp b o (fun z => n (by simp [z])) e
    · rintro s1 Q E ⟨it, ⟨o2, b1, b2, b3⟩⟩ q
      exact next_key_end hh it b1 b3 rfl (Nat.le_refl _) fun h' eb => q h' s1.toks fun b o n e => eb b o (fun z => n (by simp [z])) e
    · rintro i s1 Q E ⟨it, _⟩ q
      exact wpAny_pyIter_keyiter it q
/-- sorted of a dict's keys, each a tuple -/
theorem call_sortedD (ns : (d == sysModules) = false) (R : DT.Raw s.heap d es ep) (L : List Row) (hes : es.toList.map (·.key) = L.map fun q => Value.ref q.1) (keys : ∀ q ∈ L, IsX P w s.heap q) (hh : A.handled = none) (ne : ∀ p ∈ L, p.2 ≠ [])
    (hal : ∀ p ∈ L, ∀ q ∈ L, PySem.W.alike (rdat p) (rdat q) = true) (hfew : L.length < 300) (hu : A.units + 10 < cLine) {Q : Value → Shared → Prop}
    (hQ : ∀ (h' : Heap) (s' : Shared) p (out : Array Value) (c : Nat), (∀ b o, s.heap.get? b = some o → h'.get? b = some o) → (∀ b o, h'.get? b = some o → s'.heap.get? b = some o) → s'.gens = s.gens → s'.os = s.os → h'.objs.size ≤ p → s'.heap.get? p = some (seqObj "list" out c) →
      out.toList = (L.mergeSort (PySem.W.dataLe false rdat)).map (fun q => Value.ref q.1) → Q (.ref p) s') :
    wpAny (model P w) A (call (.builtin "sorted") [.ref d]) Q E s := by
  have hsz : es.size = L.length := by
    have z := congrArg List.length hes
    rw [List.length_map, List.length_map, Array.length_toList] at z
    exact z
  refine Calls.call_function_entry kind_sorted plain_sorted entry_sorted (args_sorted1 _) ?_
  unfold Builtin.«sorted»
  refine wpAny_bind (m := checkCount "sorted" 1 1 _) (wpAny_pure ?_)
  refine wpAny_bind (PySem.W.kdu_collect (A := A.in1) (src_raw (es := es) (ep := ep) ns) hh R (by rw [sizeLine_eq]; omega) fun h' tk acc k1 hacc => ?_)
  have hvs : acc.toList = L.map fun q => Value.ref q.1 := by
    rw [← hes]
    apply List.ext_getElem?
    intro i
    rw [List.getElem?_map, Array.getElem?_toList, Array.getElem?_toList]
    by_cases hi : i < acc.size
    · obtain ⟨en, e1, e2⟩ := hacc.2 i acc[i] (Array.getElem?_eq_getElem hi)
      rw [Array.getElem?_eq_getElem hi, e1, e2]
      rfl
    · have h2 := hacc.1
      rw [Array.getElem?_eq_none (by omega), Array.getElem?_eq_none (by omega)]
      rfl
  rw [hvs]
  have w1 : PySem.W.EachIs (fun v (p : Row) => v = Value.ref p.1) (L.map fun q => Value.ref q.1) L := each_refs L fun p _ => rfl
  have w2 : ∀ (h : Heap) (b : Addr), (∀ q ∈ L, IsX P w h q) → PySem.W.EachIs (fun v (p : Row) => ∃ as, Reads h v (rdat p) as ∧ b ∉ as) (L.map fun q => Value.ref q.1) L := fun h b k => each_refs L fun p hp => ⟨[], key_reads (k p hp), by simp⟩
  refine wpAny_bind (wpAny_newList ?_ (by rw [List.length_map, sizeLine_eq]; omega))
  have hoL : (h'.push (seqObj "list" (L.map fun q => Value.ref q.1).toArray 0)).get? h'.objs.size = some (seqObj "list" (L.map fun q => Value.ref q.1).toArray 0) := Heap.get?_push_size _ rfl
  have tkeys : ∀ q ∈ L, IsX P w (h'.push (seqObj "list" (L.map fun q => Value.ref q.1).toArray 0)) q := fun q hq => key_keep (keys q hq) fun b u e => Heap.get?_push_of_some _ (k1 b u e)
  refine wpAny_bind (wpAny_holding (PySem.W.list_sort_data (β := Row) (bs := L) (enc := rdat) (R := fun v (p : Row) => v = .ref p.1) (s := { s with heap := h'.push (seqObj "list" (L.map fun q => Value.ref q.1).toArray 0), toks := tk }) hoL
    w1 (w2 _ _ tkeys) (fun d hd d' hd' => ?_) (.inl fun d hd => ?_) (by rw [sizeLine_eq]; omega) (fun b _ => ?_) fun out hlen ho => ?_))
  · obtain ⟨p, hp, rfl⟩ := List.mem_map.mp hd
    obtain ⟨q, hq, rfl⟩ := List.mem_map.mp hd'
    exact hal p hp q hq
  · obtain ⟨p, hp, rfl⟩ := List.mem_map.mp hd
    have n := ne p hp
    obtain ⟨a0, k0⟩ := p
    cases k0 with
    | nil => exact absurd rfl n
    | cons x r => exact ⟨_, _, rfl⟩
  · rw [depth_row]
    show A.units + 1 + 1 + 1 < cLine
    omega
  · have eo := refs_each ho
    obtain ⟨c, hc⟩ := sortedHeap_at (vs := L.map fun q => Value.ref q.1) (out := List.toArray out) hoL
    refine wpAny_pure ⟨_, rfl, hQ h' _ h'.objs.size (List.toArray out) c k1 (fun b u q => ?_) rfl rfl (Nat.le_refl _) hc (by simpa using eo)⟩
    have hlt := Heap.lt_size q
    show (sortedHeap (h'.push (seqObj "list" _ 0)) h'.objs.size _ _).get? b = some u
    rw [sortedHeap_old (Nat.ne_of_lt hlt) (by rw [size_push']; exact Nat.lt_succ_of_lt hlt)]
    exact Heap.get?_push_of_some _ q
end
end KT
namespace G7
open PySem PySem.Spec PyProof.Rows L2
abbrev KRow := Addr × List Key
/-- sorted(d): the keys' own tuples, by the model's order of data -/
def cSortDT : List V → Hp → VK → Prop := fun vs H Q => ∃ (a : Addr) (kvs : List (List Key × V)), vs = [.ref a] ∧ H a = some (.dT kvs) ∧ kvs.length < 300 ∧ (∀ e ∈ kvs, e.1 ≠ []) ∧ (∀ e ∈ kvs, ∀ f ∈ kvs, PySem.W.alike (.tuple (e.1.map KT.kd)) (.tuple (f.1.map KT.kd)) = true) ∧
  ∀ (qs : List KRow) (p : Addr), H p = none → (qs.map (·.2)).Perm (kvs.map (·.1)) → (qs.Pairwise fun a b => PySem.W.dataLe false KT.rdat a b = true) → (∀ q ∈ qs, H q.1 = some (.tup (q.2.map kV))) → Q (.ref p) (upd H p (.lst (qs.map fun q => V.ref q.1)))
section
variable {X : Cx}
theorem dT_rows {pins : List (Addr × Obj)} {σ : L2.St} {H : Hp} {s : Shared} {d : Addr} {kvs : List (List Key × V)} (I : Inv X pins σ H s) (h : H d = some (.dT kvs)) :
    ∃ (es : Array DictEntry) (ep : Nat) (L : List KT.Row), (d == sysModules) = false ∧ DT.Raw s.heap d es ep ∧ es.toList.map (·.key) = L.map (fun q => Value.ref q.1) ∧ L.map (·.2) = kvs.map (·.1) ∧ ∀ q ∈ L, H q.1 = some (.tup (q.2.map kV)) := by
  obtain ⟨few, ns, xs, pr, o', es, ep, at2, ex, dat, ents, hx⟩ := I.hok d _ h
  refine ⟨es, ep, xs.map fun x => (x.2.1, x.1), ns, ⟨o', at2, ex, dat⟩, ?_, ?_, fun q hq => ?_⟩
  · rw [ents, List.map_map, List.map_map]
    rfl
  · rw [List.map_map]
    clear ents hx few h
    induction pr with
    | nil => rfl
    | cons a _ ih => rw [List.map_cons, List.map_cons, ih, a.1]; rfl
  · obtain ⟨x, hx', rfl⟩ := List.mem_map.mp hq
    clear ents hx few h hq
    induction pr with
    | nil => cases hx'
    | cons a _ ih =>
      rcases List.mem_cons.mp hx' with e | e
      · rw [e, ← a.1]
        exact a.2.1
      · exact ih e
theorem sorted_dT (hc : X.calm = true) (hu : X.A.units + 64 < cLine) : CallR X (.builtin "sorted") cSortDT := by
  intro pins s σ H vs us Q I rv h
  obtain ⟨a, kvs, rfl, ha, hfew, hne, hal, k⟩ := h
  obtain ⟨u, rfl, ru⟩ : ∃ u, us = [u] ∧ RelV (.ref a) u := by
    cases rv with
    | cons h1 h2 => cases h2; exact ⟨_, rfl, h1⟩
  obtain rfl : u = Value.ref a := ru
  obtain ⟨es, ep, L, ns, R, hes, hk, hL⟩ := dT_rows I ha
  have hlen : L.length = kvs.length := by
    have z := congrArg List.length hk
    rw [List.length_map, List.length_map] at z
    exact z
  have inK : ∀ q ∈ L, ∃ e ∈ kvs, e.1 = q.2 := fun q hq => by
    have z : q.2 ∈ kvs.map (·.1) := by rw [← hk]; exact List.mem_map.mpr ⟨q, hq, rfl⟩
    obtain ⟨e, he, e2⟩ := List.mem_map.mp z
    exact ⟨e, he, e2⟩
  refine KT.call_sortedD ns R L hes (fun q hq => key_of I.hok (hL q hq)) (I.ok.hd hc) (fun q hq => ?_) (fun p hp q hq => ?_) (by omega) (by omega) fun h' s' p out c k1 k2 g1 o1 hp hg' hout => ?_
  · obtain ⟨e, he, e2⟩ := inK q hq
    rw [← e2]
    exact hne e he
  · obtain ⟨e, he, e2⟩ := inK p hp
    obtain ⟨f, hf, f2⟩ := inK q hq
    have z := hal e he f hf
    rw [e2, f2] at z
    exact z
  · have I2 : Inv X pins σ H { s with heap := h' } := I.kept (t' := s.toks) k1
    have hn : H p = none := I2.hok.fresh hp
    have pm := List.mergeSort_perm L (PySem.W.dataLe false KT.rdat)
    have tot := PySem.W.sortLe_total (PyProof.Rows.listOrd PyProof.Rows.itemOrd) false fun b : KT.Row => PySem.W.keyToks (KT.rdat b)
    have srt : (L.mergeSort (PySem.W.dataLe false KT.rdat)).Pairwise fun a b => PySem.W.dataLe false KT.rdat a b = true :=
      List.pairwise_mergeSort (fun a b c h1 h2 => tot.trans a b c h1 h2) (fun a b => by rw [Bool.or_eq_true]; exact tot.total a b) _
    have hv : Vals ((L.mergeSort (PySem.W.dataLe false KT.rdat)).map fun q => V.ref q.1) out.toList := by
      rw [hout]
      have go : ∀ l : List KT.Row, Vals (l.map fun q => V.ref q.1) (l.map fun q => Value.ref q.1) := by
        intro l
        induction l with
        | nil => exact .nil
        | cons x l ih => exact .cons rfl ih
      exact go _
    have J : Inv X pins σ (upd H p (.lst ((L.mergeSort (PySem.W.dataLe false KT.rdat)).map fun q => V.ref q.1))) { ({ s with heap := h' } : Shared) with heap := s'.heap, gens := s'.gens, drawn := s'.drawn, toks := s'.toks } :=
      I2.call (ch := []) (Un.laid k2 hp hn) (I2.hok.laid k2 hp ⟨by rw [List.length_map, pm.length_eq, sizeLine_eq]; omega, out.toList, c, hv, hg'⟩) (by rw [g1]; exact I2.bare) (fun _ z => nomatch z)
    have e : s' = { ({ s with heap := h' } : Shared) with heap := s'.heap, gens := s'.gens, drawn := s'.drawn, toks := s'.toks } := by
      cases s'
      cases s
      cases o1
      rfl
    rw [e]
    refine ⟨.ref p, _, J, rfl, k _ p hn ?_ srt fun q hq => hL q (pm.mem_iff.mp hq)⟩
    have z := pm.map (·.2)
    rw [hk] at z
    exact z
end
end G7

set_option linter.all false
set_option Elab.async false
set_option maxRecDepth 100000
set_option maxHeartbeats 4000000
/-! list(d.values()), d a dict whose keys are tuples; d == {} -/
namespace KT
open PySem PySem.Spec PyProof.Rows L2
section
variable {P : Program} {w : World} {d v : Addr} {es : Array DictEntry} {ep : Nat}
theorem meetsValues (hd : (d == sysModules) = false) : MeetsIn P w (Builtin.«dict.values» { pos := [.ref d] }) fun _ R s => DT.Raw s.heap d es ep ∧ R (.ok (.ret (.ref s.heap.objs.size))) { s with heap := s.heap.push (DSub.viewOb "dict_values" d) } :=
  MeetsIn.of_wp fun A R s ⟨hm, h⟩ => by
    refine wpAny_bind (wpAny_bind (wpAny_notOrdered_dict hm.typeIs (wpAny_pure ?_)))
    have hd' : ¬ (d == sysModules) = true := by rw [hd]; exact Bool.false_ne_true
    unfold Builtin.Dict.showsAll
    rw [if_neg hd']
    refine wpAny_bind (wpAny_pure (wpAny_bind (wpAny_newObj_type (wpAny_pure ⟨_, rfl, h⟩) ?_)))
    show (#[Value.ref d] : Array Value).size ≤ sizeLine + 2
    show 1 ≤ sizeLine + 2
    omega
theorem src_vals (ns : (d == sysModules) = false) : W.KdlSrc P w "dict_values" v d es.size (fun i x => ∃ en, es[i]? = some en ∧ x = en.val) fun h => h.get? v = some (DSub.viewOb "dict_values" d) ∧ DT.Raw h d es ep where
  type := fun s ⟨h, _⟩ => ⟨_, h, rfl⟩
  there := fun h ⟨hv, o, ho, _⟩ => ⟨Heap.lt_size hv, Heap.lt_size ho⟩
  keep := fun h h' ⟨hv, o, ho, r⟩ k => ⟨k v (.inl rfl) _ hv, o, k d (.inr rfl) o ho, r⟩
  notList := rfl
  notTuple := rfl
  hint := fun A E s Q ⟨h, _⟩ q => W.kdl_hint_values ⟨_, h, rfl⟩ q
  iter := fun A s hh ⟨hv, hr⟩ => by
    obtain ⟨o, ho, ex, dat⟩ := id hr
    have lt := Heap.lt_size ho
    exact ⟨DVw.valOb d 0 es.size ep, fun i h' => h'.get? s.heap.objs.size = some (DVw.valOb d i es.size ep) ∧ h'.get? d = some o, fun E Q q => DSub.iter_vals hv ho dat q, DSub.walksVal hh (Nat.ne_of_lt lt) dat fun i e he => ⟨e, he, rfl⟩, Heap.get?_push_size _ rfl, Heap.get?_push_of_some _ ho⟩
end
end KT
namespace G7
open PySem PySem.Spec PyProof.Rows L2
/-- list(d.values()), d with tuple keys -/
def tListVT (td : TE) : TE := fun σ H Q => td σ H fun x H1 => ∃ a kvs, x = .ref a ∧ H1 a = some (.dT kvs) ∧ ∀ p, H1 p = none → Q (.ref p) (upd H1 p (.lst (kvs.map (·.2))))
section
variable {X : Cx}
theorem dT_vals {pins : List (Addr × Obj)} {σ : L2.St} {H : Hp} {s : Shared} {d : Addr} {kvs : List (List Key × V)} (I : Inv X pins σ H s) (h : H d = some (.dT kvs)) :
    ∃ (es : Array DictEntry) (ep : Nat), (d == sysModules) = false ∧ DT.Raw s.heap d es ep ∧ Vals (kvs.map (·.2)) (es.toList.map (·.val)) ∧ kvs.length ≤ sizeLine := by
  obtain ⟨few, ns, xs, pr, o', es, ep, at2, ex, dat, ents, hx⟩ := I.hok d _ h
  refine ⟨es, ep, ns, ⟨o', at2, ex, dat⟩, ?_, few⟩
  rw [ents, List.map_map]
  clear ents hx few h
  induction pr with
  | nil => exact .nil
  | cons a _ ih => exact .cons a.2.2 ih
theorem pe_listVT {o : Expr} {td : TE} {p pos apos cpos : Pos} (hc : X.calm = true) (hg : Gl X "list") (hm : X.mg "list" = none) (ho : PE X o td)
    (hbase : attributeBase o "values" X.env (eval o X.env) = eval o X.env := by rfl) (hline : (apos.endLine == cpos.line) = true := by rfl)
    (na : starEach [Expr.Call (.Attribute o "values" apos) [] [] cpos] X.env = (false, eval (.Call (.Attribute o "values" apos) [] [] cpos) X.env) :: starEach [] X.env := by rfl) :
    PE X (.Call (.Name "list" p) [.Call (.Attribute o "values" apos) [] [] cpos] [] pos) (tListVT td) := by
  refine ⟨fun pins s σ H Q I h => ?_⟩
  refine Call_ (ld_blt I hg hm PyProof.Rows.boot_list ?_)
  refine PyProof.Rows.callWith_type1 (PyProof.Rows.args_cons ?_ na) na rfl
  refine wpAny_Call_method (T := "dict") (id := "dict.values") hbase rfl hline PySem.F.plainAttrs_dict PySem.F.slot_dict_values PySem.F.type_dict_values (thn (ho.run pins s σ H _ I h) fun u s1 ⟨x, H1, I1, rx, a, kvs, ex, ha, k⟩ => ?_)
  subst ex
  obtain rfl : u = Value.ref a := rx
  obtain ⟨es, ep, ns, raw, hv, hz⟩ := dT_vals I1 ha
  obtain ⟨o2, at2, ex2, _⟩ := id raw
  refine ⟨raw.typeIs, (fun b z => by cases z; exact ⟨o2, at2, ex2.2.1⟩), ?_⟩
  have hsz : es.size = kvs.length := by
    have z := hv.length
    rw [List.length_map, List.length_map, Array.length_toList] at z
    exact z.symm
  have J := I1.kept (t' := s1.toks) (h' := s1.heap.push (DSub.viewOb "dict_values" a)) fun b ob z => Heap.get?_push_of_some _ z
  show wpAny _ _ (callWith cpos (.builtin "dict.values") [.ref a] [] []) _ X.xe s1
  refine method_meetsIn PySem.F.slot_dict_values PySem.F.entry_dict_values rfl (PySem.evalArgs_none ⟨rfl, raw.typeIs, PySem.F.args_dict_values_1 _, _, KT.meetsValues (es := es) (ep := ep) ns, raw, ?_⟩)
  refine PyProof.Rows.args_nil ?_
  refine W.kdl_call (KT.src_vals (v := s1.heap.objs.size) (es := es) (ep := ep) ns) (J.ok.hd hc) ⟨Heap.get?_push_size _ rfl, raw.push _⟩ (by omega) fun h' tk acc c k1 hg' hacc => ?_
  have k0 : ∀ b ob, s1.heap.get? b = some ob → h'.get? b = some ob := fun b ob z => k1 b ob (Heap.get?_push_of_some _ z)
  have hn : H1 (s1.heap.push (DSub.viewOb "dict_values" a)).objs.size = none := J.hok.fresh (Nat.le_refl _)
  have hl : acc.toList = es.toList.map (·.val) := by
    apply List.ext_getElem?
    intro i
    rw [List.getElem?_map, Array.getElem?_toList, Array.getElem?_toList]
    by_cases hi : i < acc.size
    · obtain ⟨en, e1, e2⟩ := hacc.2 i acc[i] (Array.getElem?_eq_getElem hi)
      rw [Array.getElem?_eq_getElem hi, e1, e2]
      rfl
    · have h2 := hacc.1
      rw [Array.getElem?_eq_none (by omega), Array.getElem?_eq_none (by omega)]
      rfl
  have K2 : Inv X pins σ (upd H1 (s1.heap.push (DSub.viewOb "dict_values" a)).objs.size (.lst (kvs.map (·.2)))) { s1 with heap := h', toks := tk } :=
    J.laid (t' := tk) k1 (Nat.le_refl _) ⟨by rw [List.length_map]; exact hz, acc.toList, c, by rw [hl]; exact hv, by simpa using hg'⟩
  exact ⟨.ref _, _, K2, rfl, k _ hn⟩
/-- d == {}, keys not tuples -/
def rEqNilD : R2 := fun x y H Q => ∃ a b ks, x = .ref a ∧ y = .ref b ∧ H a = some (.dK ks) ∧ H b = some (.dK []) ∧ Q (.bl ks.isEmpty) H
theorem op_eqNilD (hu0 : X.A.units < cLine) : OpR X (compareOp .Eq) rEqNilD := by
  intro pins s σ H x y v u Q I rx ry h
  obtain ⟨a, b, ks, rfl, rfl, ea, eb, q⟩ := h
  obtain rfl : v = Value.ref a := rx
  obtain rfl : u = Value.ref b := ry
  obtain ⟨_, ya, va, ra, da⟩ := (show ObjOk X.prog X.w H s.heap a (.dK ks) from I.hok a _ ea)
  obtain ⟨_, yb, vb, rb, db⟩ := (show ObjOk X.prog X.w H s.heap b (.dK []) from I.hok b _ eb)
  have lb : vb.length = 0 := by rw [← rb.length]; rfl
  refine PySem.W.keq_eq (knd := mixKind X.prog X.w) (r := true) ya yb da db hu0 (fun hl => ?_) (fin_bl I q ?_)
  · have : va = [] := List.eq_nil_of_length_eq_zero (by omega)
    rw [this]
    exact .nil
  · rw [lb, ← ra.length]
    cases ks <;> rfl
/-- sorted(d): keys all ints -/
def cSortDI : List V → Hp → VK → Prop := fun xs H Q => ∃ (a : Addr) (kvs : List (Key × V)) (ks : List Int), xs = [.ref a] ∧ dkO (H a) = some kvs ∧ kvs.map (·.1) = ks.map Sum.inl ∧ ks.length < 64 ∧
    ∀ (ys : List Int) (p : Addr), ys.Perm ks → ys.Pairwise (· ≤ ·) → H p = none → Q (.ref p) (upd H p (.lst (ys.map V.int)))
theorem sorted_dicI (hc : X.calm = true) : CallR X (.builtin "sorted") cSortDI := callImp (call_sortedDI hc) fun xs H Q ⟨a, kvs, ks, e, h, h2, h3, q⟩ => ⟨a, kvs, ks, e, rd_dkO h, h2, h3, fun ys p h1 h4 h5 => q ys p h1 h4 h5⟩
/-- sorted(d): keys all texts, told sorted -/
def cSortDS : List V → Hp → VK → Prop := fun xs H Q => ∃ (a : Addr) (kvs : List (Key × V)) (ks : List Str), xs = [.ref a] ∧ dkO (H a) = some kvs ∧ kvs.map (·.1) = ks.map Sum.inr ∧ ks.length < 64 ∧
    ∀ (ys : List Str) (p : Addr), ys.Perm ks → sortedS ys = true → H p = none → Q (.ref p) (upd H p (.lst (ys.map V.str)))
theorem sorted_dicS (hc : X.calm = true) : CallR X (.builtin "sorted") cSortDS := callImp (call_sortedD hc) fun xs H Q ⟨a, kvs, ks, e, h, h2, h3, q⟩ => ⟨a, kvs, ks, e, rd_dkO h, h2, h3, q⟩
/-- len(d) -/
def cLenD : List V → Hp → VK → Prop := fun vs H Q => ∃ a kvs, vs = [.ref a] ∧ H a = some (.dK kvs) ∧ Q (.int (kvs.length : Nat)) H
theorem len_dic : CallR X (.builtin "len") cLenD := callImp call_lenD fun vs H Q ⟨a, kvs, e, h, q⟩ => ⟨a, kvs, e, h, q⟩
end
end G7

set_option linter.all false
set_option Elab.async false
set_option maxRecDepth 100000
set_option maxHeartbeats 4000000
/-! the laws' own book of a store: tables, made, states, kept -/
namespace G7
open PySem PySem.Spec PyProof.Rows L2
section
variable {X : Cx}
/-- t + u, either may be empty: then the other itself -/
def rCatE : R2 := fun x y H Q => ∃ a b xs ys, x = .ref a ∧ y = .ref b ∧ tpO (H a) = some xs ∧ tpO (H b) = some ys ∧ xs.length + ys.length ≤ sizeLine ∧ xs ≠ [] ∧ (ys = [] → Q (.ref a) H) ∧ (ys ≠ [] → ∀ p, H p = none → Q (.ref p) (upd H p (.tup (xs ++ ys))))
theorem op_catE : OpR X (binaryOp .Add) rCatE := opImp op_catA fun x y H Q ⟨a, b, xs, ys, e1, e2, h1, h2, hz, n1, q1, q2⟩ =>
  ⟨a, b, xs, ys, e1, e2, .inl (rd_tpO h1), .inl (rd_tpO h2), hz, fun n => absurd n n1, fun _ n => q1 n, fun _ n => q2 n⟩
/-- a slice of a tuple that is not the whole of it -/
def rSlQ : V → Option Int → Option Int → Hp → VK → Prop := fun x lo hi H Q => ∃ a xs, x = .ref a ∧ tpO (H a) = some xs ∧ ¬ (HT.sIx xs.length 0 lo = 0 ∧ HT.sIx xs.length xs.length hi = xs.length) ∧ ∀ p, H p = none → Q (.ref p) (upd H p (.tup (cutV xs lo hi)))
theorem sl_tq : SlR X rSlQ := by
  intro pins s σ H x v vl vu lo hi sl Q I rx hs pl pu h
  obtain ⟨a, xs, e, hx, hw, q⟩ := h
  exact sl_tupA pins s σ H x v vl vu lo hi sl Q I rx hs pl pu ⟨a, xs, e, .inl (rd_tpO hx), fun w => absurd w hw, fun _ => q⟩
theorem cut1 {x : V} {xs : List V} : ¬ (HT.sIx (x :: xs).length 0 (some 1) = 0 ∧ HT.sIx (x :: xs).length (x :: xs).length none = (x :: xs).length) ∧ cutV (x :: xs) (some 1) none = xs := by
  have e1 : HT.sIx (x :: xs).length 0 (some 1) = 1 := by simp [HT.sIx]
  have e2 : HT.sIx (x :: xs).length (x :: xs).length none = (x :: xs).length := by simp [HT.sIx]
  refine ⟨fun h => by rw [e1] at h; exact absurd h.1 (by decide), ?_⟩
  unfold cutV
  rw [e1, e2]
  simp
/-- k in d, k not in d -/
def tDInH (ty td : TE) : TE := fun σ H Q => ty σ H fun y H1 => td σ H1 fun x H2 => ∃ a kvs k, x = .ref a ∧ dkO (H2 a) = some kvs ∧ keyO y = some k ∧ Q (.bl (valV kvs k).isSome) H2
def tDNotInH (ty td : TE) : TE := fun σ H Q => ty σ H fun y H1 => td σ H1 fun x H2 => ∃ a kvs k, x = .ref a ∧ dkO (H2 a) = some kvs ∧ keyO y = some k ∧ Q (.bl (!(valV kvs k).isSome)) H2
theorem pc_dinH {o e : Expr} {td ty : TE} (hu : X.A.units + 1 < cLine) (hi : PE X e ty) (ho : PE X o td) : PC X .In e o (tDInH ty td) := by
  have h0 := pc_din hu (pe_m hi) (pe_m ho)
  exact ⟨fun pins s σ H Q I h => h0.run pins s σ H Q I (tM_of h fun y H1 q => tM_of q fun x H2 ⟨a, kvs, k, e1, h1, h2, q⟩ => ⟨a, _, e1, dget_of h1 h2, q⟩)⟩
theorem pc_dnotinH {o e : Expr} {td ty : TE} (hu : X.A.units + 1 < cLine) (hi : PE X e ty) (ho : PE X o td) : PC X .NotIn e o (tDNotInH ty td) := by
  have h0 := pc_dnotin hu (pe_m hi) (pe_m ho)
  exact ⟨fun pins s σ H Q I h => h0.run pins s σ H Q I (tM_of h fun y H1 q => tM_of q fun x H2 ⟨a, kvs, k, e1, h1, h2, q⟩ => ⟨a, _, e1, dget_of h1 h2, q⟩)⟩
/-- d.pop(k) -/
def tPop1 (td ty : TE) : TE := fun σ H Q => td σ H fun x H1 => ∃ a ks, x = .ref a ∧ H1 a = some (.dK ks) ∧ ty σ H1 fun y H2 => ∃ kvs k v, H2 a = some (.dK kvs) ∧ keyO y = some k ∧ valV kvs k = some v ∧ Q v (upd H2 a (.dK (dropK kvs k)))
theorem pe_pop1 {o e : Expr} {td ty : TE} {apos cpos : Pos} (ho : PE X o td) (he : PE X e ty) (m : M1 X o "pop" apos e cpos) : PE X (.Call (.Attribute o "pop" apos) [e] [] cpos) (tPop1 td ty) :=
  PE.imp' (pe_dpop1 (pe_m ho) (pe_m he) m) fun σ H Q h => tM_of h fun x H1 ⟨a, ks, ex, ha, h2⟩ => ⟨a, ex, .inl ⟨ks, .inl ha⟩, tM_of h2 fun y H2 ⟨kvs, k, v, e1, e2, e3, q⟩ => ⟨kvs, k, v, e1, keyO_eq e2, e3, q⟩⟩
end
/-! frames: what was made stands, but where mutable things may be written -/
def KeepN (ms : List Addr) (H H' : Hp) : Prop := ∀ (b : Addr) (o : HO), b ∉ ms → (∀ ps, o ≠ .tbl ps) → H b = some o → H' b = some o
theorem KeepN.of {ms : List Addr} {H H' : Hp} (k : Keep ms H H') : KeepN ms H H' := fun b o n _ e => k b o n e
instance {ms : List Addr} {H H' : Hp} : Coe (Keep ms H H') (KeepN ms H H') := ⟨KeepN.of⟩
structure KM (ms : List Addr) (H H' : Hp) : Prop where
  k : KeepN ms H H'
  m : ∀ a ∈ ms, ∀ o, H a = some o → Mut (some o)
theorem KM.get {ms : List Addr} {H H' : Hp} (K : KM ms H H') {b : Addr} {o : HO} (e : H b = some o) (n : b ∉ ms ∨ ¬ Mut (some o)) (t : ∀ ps, o ≠ .tbl ps := by intro _ z; cases z) : H' b = some o := by
  refine K.k b o (fun h => ?_) t e
  rcases n with n | n
  · exact n h
  · exact n (K.m b h o e)
theorem KM.tup {ms : List Addr} {H H' : Hp} (K : KM ms H H') {b : Addr} {xs : List V} (e : H b = some (.tup xs)) : H' b = some (.tup xs) := K.get e (.inr id)
theorem KM.frz {ms : List Addr} {H H' : Hp} (K : KM ms H H') {b : Addr} {q : Obj} {o : HO} (e : H b = some (.frz q o)) : H' b = some (.frz q o) := K.get e (.inr id)
theorem KM.same {H H' : Hp} (k : Same H H') (ms : List Addr := []) (hm : ms = [] := by rfl) : KM ms H H' := ⟨fun b o _ _ e => k b o e, fun a ha => by rw [hm] at ha; cases ha⟩
theorem KM.trans {ms ms' : List Addr} {H H1 H2 : Hp} (a : KM ms H H1) (b : Keep ms' H1 H2) (h : ∀ m ∈ ms', m ∈ ms ∨ H m = none) : KM ms H H2 :=
  ⟨fun c o n t e => b c o (fun z => by
    rcases h c z with z | z
    · exact n z
    · rw [e] at z; cases z) (a.k c o n t e), a.m⟩
theorem KM.mono {ms ms' : List Addr} {H H1 : Hp} (a : KM ms H H1) (s : ∀ b ∈ ms, b ∈ ms') (m : ∀ b ∈ ms', ∀ o, H b = some o → Mut (some o)) : KM ms' H H1 := ⟨fun b o n t e => a.k b o (fun z => n (s b z)) t e, m⟩
theorem KM.ofBox {H H' : Hp} {h l : Addr} (B : BoxA H h l) (k : Keep [h, l] H H') : KM [h, l] H H' := ⟨k, fun a ha o e => by
  obtain ⟨o', e', mu⟩ := B.muts a ha
  rw [e] at e'
  cases e'
  exact mu⟩
theorem KM.one {H : Hp} {D : Addr} {o o' : HO} (e : H D = some o) (m : Mut (some o)) : KM [D] H (upd H D o') := ⟨KeepN.of (Keep.refl.upd (by simp)), fun a ha u eu => by
  rw [List.mem_singleton.mp ha, e] at eu
  cases eu
  exact m⟩
theorem box_ne {H : Hp} {h l D : Addr} (B : BoxA H h l) (hD : H D = none) : h ≠ D ∧ l ≠ D := by
  obtain ⟨ns, st, e1, e2, _⟩ := B
  exact ⟨ne_of_none e1 hD, ne_of_none e2 hD⟩
/-- a comprehension whose turns draw from the box -/
theorem lc_box {α : Type} {J : It} {n : Nat} {G : Hp → Prop} {Y : Nat → Hp → V → Hp → Prop} (W : Walk J n G Y) {g : TG} {te : TE} {vs : List Nat} {σ : L2.St} {H1 : Hp} {Qd : VK} {h l : Addr} (B : BoxA H1 h l)
    (es : List α) (P : α → V → Hp → Prop) (hn : es.length = n) (hz : es.length ≤ 90000) (hG : ∀ H, BoxA H h l → Keep [h, l] H1 H → G H) (hY : ∀ i H x H', Y i H x H' → Same H H')
    (mono : ∀ ms e y H H', P e y H → KM ms H H' → P e y H')
    (step : ∀ (i : Nat) (e : α) (x : V) (H H' : Hp) (Q : VK), es[i]? = some e → BoxA H h l → Keep [h, l] H1 H → Y i H x H' → (∀ y H4, BoxA H4 h l → Keep [h, l] H' H4 → P e y H4 → Q y H4) → g x (wipe σ vs) H' fun σ2 H2 => wipe σ2 vs = wipe σ vs ∧ te σ2 H2 Q)
    (done : ∀ (D : Addr) (H : Hp) (zs : List (α × V)), H1 D = none → zs.map (·.1) = es → BoxA H h l → Keep [h, l] H1 H → H D = some (.lst (zs.map (·.2))) → (∀ z ∈ zs, P z.1 z.2 H) → Qd (.ref D) H) :
    lcB J g tYes te vs σ H1 Qd := lcB_it fun D hD => by
  obtain ⟨nh, nl⟩ := box_ne B hD
  refine lc_it W (fun i H => BoxA H h l ∧ Keep [h, l] H1 H ∧ ∃ zs : List (α × V), zs.map (·.1) = es.take i ∧ H D = some (.lst (zs.map (·.2))) ∧ ∀ z ∈ zs, P z.1 z.2 H) ⟨B.same (same_new hD), Keep.new hD, [], rfl, upd_same, fun z hz => by cases hz⟩ (fun i H _ q => hG H q.1 q.2.1) ?_ ?_
  · rintro i x H H' hi ⟨b0, kk, zs, e1, e2, e3⟩ hy
    have he : es[i]? = some es[i] := List.getElem?_eq_getElem (by omega)
    have sy := hY i H x H' hy
    have tk : es.take (i + 1) = es.take i ++ [es[i]] := by rw [List.take_succ, he]; rfl
    have zl : zs.length ≤ es.length := by
      have a := congrArg List.length e1
      rw [List.length_map, List.length_take] at a
      omega
    have st := step i _ x H H' (fun y H4 => ∃ acc, H4 D = some (HO.lst acc) ∧ acc.length < sizeLine ∧ (BoxA (upd H4 D (.lst (acc ++ [y]))) h l ∧ Keep [h, l] H1 (upd H4 D (.lst (acc ++ [y]))) ∧ ∃ zs : List (α × V), zs.map (·.1) = es.take (i + 1) ∧ (upd H4 D (.lst (acc ++ [y]))) D = some (.lst (zs.map (·.2))) ∧ ∀ z ∈ zs, P z.1 z.2 (upd H4 D (.lst (acc ++ [y]))))) he b0 kk hy (fun y H4 b4 k4 hp => ?_)
    · simp only [tYes, if_true]
      exact st
    · have d' := sy _ _ e2
      have d4 := k4 D _ (by simp [nh.symm, nl.symm]) d'
      have K4 : KM [h, l] H' H4 := KM.ofBox (b0.same sy) k4
      refine ⟨_, d4, by rw [List.length_map]; exact szl' (by omega), b4.keep (ms := [D]) (Keep.refl.upd (by simp)) (by simpa using nh) (by simpa using nl), ((kk.trans (Keep.ofSame sy)).trans k4).updFree hD, zs ++ [(es[i], y)], ?_, ?_, fun z hz => ?_⟩
      · rw [tk, List.map_append, e1]
        rfl
      · rw [upd_same, List.map_append]
        rfl
      · have kD := KM.one (o' := .lst (zs.map (·.2) ++ [y])) d4 trivial
        rcases List.mem_append.mp hz with q | q
        · exact mono _ _ _ _ _ (mono _ _ _ _ _ (mono _ _ _ _ _ (e3 z q) (KM.same sy)) K4) kD
        · rw [List.mem_singleton.mp q]
          exact mono _ _ _ _ _ hp kD
  · rintro H ⟨b0, kk, zs, e1, e2, e3⟩
    rw [← hn, List.take_length] at e1
    exact done D H zs hD e1 b0 kk e2 e3
theorem zs_ints {α : Type} {R : Int → Prop} : ∀ {zs : List (α × V)}, (∀ z ∈ zs, ∃ i : Int, z.2 = .int i ∧ R i) → ∃ ns : List Int, zs.map (·.2) = ns.map V.int ∧ ns.length = zs.length ∧ ∀ n ∈ ns, R n
  | [], _ => ⟨[], rfl, rfl, fun n hn => by cases hn⟩
  | z :: zs, h => by
    obtain ⟨i, e, r⟩ := h z List.mem_cons_self
    obtain ⟨ns, e1, e2, e3⟩ := zs_ints (zs := zs) fun y hy => h y (List.mem_cons_of_mem _ hy)
    refine ⟨i :: ns, by rw [List.map_cons, List.map_cons, e, e1], by rw [List.length_cons, List.length_cons, e2], fun n hn => ?_⟩
    rcases List.mem_cons.mp hn with q | q
    · rw [q]; exact r
    · exact e3 n q
theorem mergeK_nd : ∀ (kvs acc : List (Key × V)), ((acc ++ kvs).map (·.1)).Nodup → mergeK acc kvs = acc ++ kvs
  | [], acc, _ => by simp [mergeK]
  | (k, v) :: kvs, acc, nd => by
    have hk : valV acc k = none := by
      rw [List.map_append, List.map_cons] at nd
      obtain ⟨_, _, c⟩ := List.nodup_append.mp nd
      unfold valV
      rw [Option.map_eq_none_iff, List.find?_eq_none]
      intro x hx e
      exact c x.1 (List.mem_map.mpr ⟨x, hx, rfl⟩) k (by simp) (of_decide_eq_true e)
    have e := mergeK_nd kvs (acc ++ [(k, v)]) (by simpa using nd)
    show mergeK (putK acc k v) kvs = _
    rw [putK_new _ hk, e]
    simp
structure TbE where
  name : Str
  n : Int
  ta : Addr
  fa : Addr
  fields : List Str
structure StT where
  name : Str
  ra : Addr
  rows : List (Int × RowE)
structure StE where
  a : Addr
  ts : List StT
structure KpE where
  pa : Addr
  name : Str
  key : Int
  n : Int
  row : Option RowE
structure Bk where
  b : Addr
  td : Addr
  md : Addr
  sl : Addr
  kl : Addr
  tabs : List TbE
  made : List (Str × Str × Int)
  sts : List StE
  kept : List KpE
def StE.muts (s : StE) : List Addr := s.a :: s.ts.map (·.ra)
def Bk.muts (B : Bk) : List Addr := [B.b, B.td, B.md, B.sl, B.kl] ++ B.sts.flatMap StE.muts
def mky (m : Str × Str × Int) : List Key := [Sum.inr m.1, Sum.inr m.2.1]
def bkD (td md sl kl : Addr) : List (Key × V) := [(Sum.inr "tables", .ref td), (Sum.inr "made", .ref md), (Sum.inr "states", .ref sl), (Sum.inr "kept", .ref kl)]
theorem bk_tables {td md sl kl : Addr} : valV (bkD td md sl kl) (Sum.inr (Str.ofString "tables") : Key) = some (.ref td) := valV_pos rfl
theorem bk_made {td md sl kl : Addr} : valV (bkD td md sl kl) (Sum.inr (Str.ofString "made") : Key) = some (.ref md) := (valV_neg (fun q => absurd (Sum.inr.inj q) (by decide +kernel))).trans (valV_pos rfl)
theorem bk_states {td md sl kl : Addr} : valV (bkD td md sl kl) (Sum.inr (Str.ofString "states") : Key) = some (.ref sl) := (valV_neg (fun q => absurd (Sum.inr.inj q) (by decide +kernel))).trans ((valV_neg (fun q => absurd (Sum.inr.inj q) (by decide +kernel))).trans (valV_pos rfl))
theorem bk_kept {td md sl kl : Addr} : valV (bkD td md sl kl) (Sum.inr (Str.ofString "kept") : Key) = some (.ref kl) := (valV_neg (fun q => absurd (Sum.inr.inj q) (by decide +kernel))).trans ((valV_neg (fun q => absurd (Sum.inr.inj q) (by decide +kernel))).trans ((valV_neg (fun q => absurd (Sum.inr.inj q) (by decide +kernel))).trans (valV_pos rfl)))
theorem bk_merge {td md sl kl : Addr} : mergeK [] (bkD td md sl kl) = bkD td md sl kl := mergeK_nd _ [] (by
  show ([(Sum.inr "tables" : Key), Sum.inr "made", Sum.inr "states", Sum.inr "kept"]).Nodup
  decide +kernel)
structure StAt (H : Hp) (s : StE) : Prop where
  d : H s.a = some (.dK (s.ts.map fun t => ((Sum.inr t.name : Key), V.ref t.ra)))
  t : ∀ t ∈ s.ts, H t.ra = some (.dK (t.rows.map fun r => ((Sum.inl r.1 : Key), V.ref r.2.1)))
  r : ∀ t ∈ s.ts, ∀ r ∈ t.rows, H r.2.1 = some (.tup (r.2.2.map V.int))
structure BkOk (H : Hp) (B : Bk) : Prop where
  ob : H B.b = some (.dK (bkD B.td B.md B.sl B.kl))
  td : H B.td = some (.dK (B.tabs.map fun t => ((Sum.inr t.name : Key), V.ref t.ta)))
  md : H B.md = some (.dT (B.made.map fun m => (mky m, V.int m.2.2)))
  sl : H B.sl = some (.lst (B.sts.map fun s => V.ref s.a))
  kl : H B.kl = some (.lst (B.kept.map fun k => V.ref k.pa))
  tt : ∀ t ∈ B.tabs, H t.ta = some (.tup [.int t.n, .ref t.fa])
  tf : ∀ t ∈ B.tabs, TpF H t.fa (t.fields.map V.str)
  st : ∀ s ∈ B.sts, StAt H s
  kp : ∀ k ∈ B.kept, H k.pa = some (.tup [.str k.name, .int k.key, .int k.n, rowV k.row])
  nd : B.muts.Nodup
  names : (B.tabs.map (·.name)).Nodup
theorem StAt.km {ms : List Addr} {H H' : Hp} {s : StE} (T : StAt H s) (K : KM ms H H') (n : ∀ m ∈ s.muts, m ∉ ms) : StAt H' s :=
  ⟨K.get T.d (.inl (n _ List.mem_cons_self)), fun t ht => K.get (T.t t ht) (.inl (n _ (List.mem_cons_of_mem _ (List.mem_map.mpr ⟨t, ht, rfl⟩)))), fun t ht r hr => K.tup (T.r t ht r hr)⟩
theorem TpF.km {ms : List Addr} {H H' : Hp} {a : Addr} {xs : List V} (T : TpF H a xs) (K : KM ms H H') : TpF H' a xs := by
  obtain ⟨o, e, c⟩ := T
  exact ⟨o, K.frz e, c⟩
theorem BkOk.km {ms : List Addr} {H H' : Hp} {B : Bk} (O : BkOk H B) (K : KM ms H H') (n : ∀ m ∈ B.muts, m ∉ ms) : BkOk H' B := by
  have n0 : ∀ m, m ∈ [B.b, B.td, B.md, B.sl, B.kl] → m ∉ ms := fun m h => n m (List.mem_append_left _ h)
  exact ⟨K.get O.ob (.inl (n0 _ (by simp))), K.get O.td (.inl (n0 _ (by simp))), K.get O.md (.inl (n0 _ (by simp))), K.get O.sl (.inl (n0 _ (by simp))), K.get O.kl (.inl (n0 _ (by simp))), fun t ht => K.tup (O.tt t ht), fun t ht => (O.tf t ht).km K,
    fun s hs => (O.st s hs).km K fun m hm => n m (List.mem_append_right _ (List.mem_flatMap.mpr ⟨s, hs, hm⟩)), fun k hk => K.tup (O.kp k hk), O.nd, O.names⟩
theorem BkOk.same {H H' : Hp} {B : Bk} (O : BkOk H B) (k : Same H H') : BkOk H' B := O.km (KM.same k) fun _ _ h => by cases h
theorem BkOk.mut {H : Hp} {B : Bk} (O : BkOk H B) : ∀ m ∈ B.muts, ∃ o, H m = some o ∧ Mut (some o) := by
  intro m h
  rcases List.mem_append.mp h with h | h
  · simp only [List.mem_cons, List.not_mem_nil, or_false] at h
    rcases h with rfl | rfl | rfl | rfl | rfl
    · exact ⟨_, O.ob, trivial⟩
    · exact ⟨_, O.td, trivial⟩
    · exact ⟨_, O.md, trivial⟩
    · exact ⟨_, O.sl, trivial⟩
    · exact ⟨_, O.kl, trivial⟩
  · obtain ⟨s, hs, hm⟩ := List.mem_flatMap.mp h
    rcases List.mem_cons.mp hm with rfl | hm
    · exact ⟨_, (O.st s hs).d, trivial⟩
    · obtain ⟨t, ht, rfl⟩ := List.mem_map.mp hm
      exact ⟨_, (O.st s hs).t t ht, trivial⟩
theorem BkOk.mutO {H : Hp} {B : Bk} (O : BkOk H B) : ∀ m ∈ B.muts, ∀ o, H m = some o → Mut (some o) := fun m h o e => by
  obtain ⟨o', e', mu⟩ := O.mut m h
  rw [e] at e'
  cases e'
  exact mu
theorem BkOk.made_ {H : Hp} {B : Bk} (O : BkOk H B) {m : Addr} (h : m ∈ B.muts) : H m ≠ none := by
  obtain ⟨o, e, _⟩ := O.mut m h
  rw [e]
  simp
/-- the box is no part of the book -/
theorem BoxA.km {H H' : Hp} {h l : Addr} (B : BoxA H h l) (k : Keep [h, l] H H') : KM [h, l] H H' := ⟨k, fun a ha o e => by
  obtain ⟨o', e', mu⟩ := B.muts a ha
  rw [e] at e'
  cases e'
  exact mu⟩
/-- a row of small worths -/
def RowGd (key : Int) (n : Nat) (r : List Int) : Prop := r.length = n ∧ (∃ r', r = key :: r' ∧ ∀ x ∈ r', -2 ≤ x ∧ x ≤ 37)
def spRow_ : Sp := fun vs H Q _ => ∃ (h l fa : Addr) (mark : Int) (fs : List Str), vs = [.ref h, .int mark, .ref fa] ∧ BoxA H h l ∧ tpO (H fa) = some (fs.map V.str) ∧ fs ≠ [] ∧ fs.length ≤ 100 ∧
  ∀ H' p r, H p = none → H' p = some (.tup (r.map V.int)) → RowGd mark fs.length r → BoxA H' h l → Keep [h, l] H H' → Q (.ref p) H'
def spBook : Sp := fun vs H Q _ => vs = [] ∧ ∀ H' B, BkOk H' B → B.tabs = [] → B.made = [] → B.kept = [] → (∃ a, B.sts = [⟨a, []⟩]) → (∀ m ∈ B.muts, H m = none) → Same H H' → Q (.ref B.b) H'
abbrev WrE := Addr × Wr
def WsAt (H : Hp) (wa : Addr) (ws : List WrE) : Prop := H wa = some (.tup (ws.map fun w => V.ref w.1)) ∧ ∀ w ∈ ws, H w.1 = some (.tup (wrXs w.2)) ∧ WrAt H w.2
theorem WrAt.km {ms : List Addr} {H H' : Hp} {wr : Wr} (h : WrAt H wr) (K : KM ms H H') : WrAt H' wr := by
  cases wr with
  | tab nm fa fs =>
    obtain ⟨o, e, c⟩ := h
    exact ⟨o, K.frz e, c⟩
  | idx nm f => trivial
  | row nm key r => exact fun row hr => K.tup (h row hr)
theorem WsAt.km {ms : List Addr} {H H' : Hp} {wa : Addr} {ws : List WrE} (h : WsAt H wa ws) (K : KM ms H H') : WsAt H' wa ws := ⟨K.tup h.1, fun w hw => ⟨K.tup (h.2 w hw).1, WrAt.km (h.2 w hw).2 K⟩⟩
def names4 : List Str := ["a", "bb", "ccc", "d"]
def fields4 : List Str := ["id", "x", "y", "z"]
/-- what the draws make of a record's writes -/
inductive WsGd (ts : List TbE) (md : List (Str × Str × Int)) : List Wr → Prop where
  | tab (nm : Str) (fa : Addr) (k : Nat) (h : nm ∉ ts.map (·.name)) (h4 : nm ∈ names4) (hk : k < 4) : WsGd ts md [.tab nm fa (fields4.take (k + 1))]
  | idx (t : TbE) (f : Str) (ht : t ∈ ts) (hf : f ∈ t.fields) (hm : ∀ m ∈ md, ¬ (m.1 = t.name ∧ m.2.1 = f)) : WsGd ts md [.idx t.name f]
  | rows (ws : List Wr) (hz : ws.length ≤ 20) (hne : ts ≠ []) (h : ∀ w ∈ ws, ∃ t ∈ ts, ∃ key r, w = .row t.name key r ∧ 0 ≤ key ∧ key < 60 ∧ ∀ row : RowE, r = some row → RowGd key t.fields.length row.2) : WsGd ts md ws
def spWrites : Sp := fun vs H Q _ => ∃ (h l : Addr) (B : Bk), vs = [.ref h, .ref B.b] ∧ BoxA H h l ∧ BkOk H B ∧ (∀ m ∈ B.muts, m ∉ [h, l]) ∧ B.tabs.length ≤ 50 ∧ (∀ t ∈ B.tabs, t.fields ≠ [] ∧ t.fields.length ≤ 50 ∧ ∀ f ∈ t.fields, PyData.strOk f = true) ∧
  ∀ H' wa ws, H wa = none → BoxA H' h l → Keep [h, l] H H' → WsAt H' wa ws → WsGd B.tabs B.made (ws.map (·.2)) → Q (.ref wa) H'
theorem BkOk.tab {H : Hp} {B : Bk} (O : BkOk H B) {t : TbE} (ht : t ∈ B.tabs) : valV (B.tabs.map fun t => ((Sum.inr t.name : Key), V.ref t.ta)) (Sum.inr t.name) = some (V.ref t.ta) :=
  valV_mem (f := fun t : TbE => (Sum.inr t.name : Key)) (nd_inr O.names) t ht
theorem kysO_map : ∀ ks : List Key, kysO (ks.map kV) = some ks
  | [] => rfl
  | .inl i :: r => by
    show kysO (.int i :: r.map kV) = _
    rw [kysO_i, kysO_map r]
    rfl
  | .inr i :: r => by
    show kysO (.str i :: r.map kV) = _
    rw [kysO_s, kysO_map r]
    rfl
/-- rows found, by table and key -/
structure FdE where
  pa : Addr
  t : TbE
  key : Int
  row : Option RowE
def FdE.ky (f : FdE) : List Key := [Sum.inr f.t.name, Sum.inl f.key]
def FdE.ent (f : FdE) : List Key × V := (f.ky, .ref f.pa)
def putFd (fs : List FdE) (f : FdE) : List FdE := if fs.any (fun e => decide (e.ky = f.ky)) = true then fs.map fun e => if e.ky = f.ky then f else e else fs ++ [f]
theorem putFd_ent (fs : List FdE) (f : FdE) : putK (fs.map FdE.ent) f.ky (.ref f.pa) = (putFd fs f).map FdE.ent := by
  unfold putK putFd
  have e : ((fs.map FdE.ent).any fun kv => decide (kv.1 = f.ky)) = fs.any fun e => decide (e.ky = f.ky) := by
    rw [List.any_map]
    rfl
  rw [e]
  split
  · rw [List.map_map, List.map_map]
    refine List.map_congr_left fun x _ => ?_
    show (if x.ky = f.ky then (x.ky, V.ref f.pa) else x.ent) = FdE.ent (if x.ky = f.ky then f else x)
    by_cases h : x.ky = f.ky
    · rw [if_pos h, if_pos h, h]
      rfl
    · rw [if_neg h, if_neg h]
  · rw [List.map_append]
    rfl
theorem putFd_mem {fs : List FdE} {f e : FdE} (h : e ∈ putFd fs f) : e ∈ fs ∨ e = f := by
  unfold putFd at h
  split at h
  · obtain ⟨x, hx, rfl⟩ := List.mem_map.mp h
    split
    · exact .inr rfl
    · exact .inl hx
  · rcases List.mem_append.mp h with h | h
    · exact .inl h
    · exact .inr (List.mem_singleton.mp h)
theorem putFd_len {fs : List FdE} {f : FdE} : (putFd fs f).length ≤ fs.length + 1 := by
  unfold putFd
  split
  · simp
  · simp
/-- what is found -/
structure FdAt (H : Hp) (d : Addr) (ts : List TbE) (fs : List FdE) : Prop where
  d : H d = some (.dT (fs.map FdE.ent))
  tu : ∀ f ∈ fs, H f.pa = some (.tup [.str "row", .str f.t.name, .int f.key, rowV f.row])
  tb : ∀ f ∈ fs, f.t ∈ ts
  ks : ∀ f ∈ fs, 0 ≤ f.key ∧ f.key < 60
  rw_ : ∀ f ∈ fs, ∀ row : RowE, f.row = some row → H row.1 = some (.tup (row.2.map V.int)) ∧ RowGd f.key f.t.fields.length row.2
theorem FdAt.km {ms : List Addr} {H H' : Hp} {d : Addr} {ts : List TbE} {fs : List FdE} (F : FdAt H d ts fs) (K : KM ms H H') (n : d ∉ ms) : FdAt H' d ts fs :=
  ⟨K.get F.d (.inl n), fun f hf => K.tup (F.tu f hf), F.tb, F.ks, fun f hf row hr => ⟨K.tup (F.rw_ f hf row hr).1, (F.rw_ f hf row hr).2⟩⟩
end G7

namespace K72
open PySem PySem.Spec PyProof.Rows L2 G7
local macro_rules | `(tactic| simp? only [$ls,*]) => `(tactic| simp only [tVar, tC, tOp, rI, rI0, rU, tTest, tB, tAnd, tOr, tNot, tAndV, tOrV, tNotV, tIf, tNil, tCons, tTup, tLst, tCB, tSeq, tAsg, gName, tRet, tRetN, tIfS, tNext, tDrop, tCall, tUn, tPar, CMul, CDiv, V.int.injEq, V.bl.injEq, V.ref.injEq, V.str.injEq, Option.some.injEq, List.cons.injEq, and_true, true_and, and_false, false_and, or_false, false_or, or_true, true_or, exists_eq_left', exists_eq_left, exists_and_left, exists_and_right, exists_eq', exists_eq, exists_false, exists_const, List.getElem?_cons_succ, List.getElem?_cons_zero, List.set_cons_succ, List.set_cons_zero, List.length_cons, List.length_nil, List.cons_append, List.nil_append, List.append_nil, reduceCtorEq, Int.reduceLT, Int.reduceLE, Int.reduceNeg, Int.reducePow, Int.reduceSub, Int.reduceAdd, Nat.reduceAdd, Nat.reduceLeDiff, Bool.not_true, Bool.not_false, decide_true, decide_false, Bool.false_eq_true, ↓reduceIte, upd_same, not_true_eq_false, not_false_eq_true, lsO_l, lsO_f, tpO_t, tpO_f, dkO_d, dkO_f, keyO_i, keyO_s, rIxH, rIxU, cLenL, cLenT, cListL, cListT, cTupL, cIntB, cAll, rEqNilI, rEq, rNe, scal_ii, scal_ss, scal_bb, scal_nn, scal_ni, scal_in, scal_ns, scal_sn, gSub, rSetL, ixs0, ixs1, ixs2, seq0, at0, at1, at2, at3, tBM, tBM0, rAppend, rPopAt, tyV_list, tGet2, tGetI, sPut, tMG, rTIdx, tyTup, tTupF, cx_K, cx_w, ex_map_int, ex_nil_int, ex_cons_int, List.map_cons, List.map_nil, List.isEmpty_nil, List.isEmpty_cons, List.eraseIdx_zero, List.tail_cons, List.eraseIdx_cons_zero, HO.lst.injEq, HO.tup.injEq, HO.dK.injEq, HO.frz.injEq, ne_eq, gTupH, gCons, gNil, wipe, tYes, upd_upd, and_assoc, List.getElem?_map, Option.map_some, isn_non_bool, isn_non_int, isn_non_str, isn_non_tuple, isn_non_list, isn_non_dict, isn_bl_bool, isn_bl_int, isn_bl_str, isn_bl_tuple, isn_bl_list, isn_bl_dict, isn_int_bool, isn_int_int, isn_int_str, isn_int_tuple, isn_int_list, isn_int_dict, isn_str_bool, isn_str_int, isn_str_str, isn_str_tuple, isn_str_list, isn_str_dict, isn_lst_bool, isn_lst_int, isn_lst_str, isn_lst_tuple, isn_lst_list, isn_lst_dict, isn_tup_bool, isn_tup_int, isn_tup_str, isn_tup_tuple, isn_tup_list, isn_tup_dict, isn_dct_bool, isn_dct_int, isn_dct_str, isn_dct_tuple, isn_dct_list, isn_dct_dict, okn_bool, okn_int, okn_str, okn_tuple, okn_list, okn_dict, cIsi, tyT_n, tyT_b, tyT_i, tyT_s, tyT_r, V.ty.injEq, tSl, tPart, tNoPart, rSlF, gName, List.length_map, Int.reduceToNat, cpow18, Wd.s_inj, ws_num, ws_field, ws_add, ws_sub, ws_mul, ws_eq, ws_lt, ws_gt, ws_le, ws_ge, ws_and, ws_or, ws_not, rInTab, rIxTab, rCatH, rCat, rInT, cSortD, cMaxL, cMinL, rNeNilI, inV, flatV, List.any_cons, List.any_nil, List.all_cons, List.all_nil, eqV, Bool.and_true, Bool.and_false, Bool.true_and, Bool.false_and, Bool.or_false, Bool.false_or, Bool.or_true, Bool.true_or, Wd.beq_s, sz0, sz1, sz2, sz3, sz4, sz5, sz6, isc_eq, isc_lt, isc_gt, isc_le, isc_ge, isc_and, isc_or, isc_not, isl_and, isl_or, isl_not, tM1, rNewStrs, gStarL, rIxS, tChain, rRep, rInTx, rIxTx, rNeNilA, rEqNilA, rIsD, tXf, $ls,*])
def top (i : Nat) : Stmt := PySem.Challenge.pw_granary_k72_days_written_and_read.main.body.getD i (.Pass ⟨0, 0, 0, 0⟩)
abbrev s_BadText_init : Stmt := inClass (top 2) 0
abbrev N_BadText_init : List Str := ["self", "place"]
theorem sc_BadText_init : FnScope N_BadText_init ["self", "place"] (defScope s_BadText_init) := ⟨rfl, rfl, rfl, by decide +kernel, rfl, by decide +kernel, by decide +kernel⟩
abbrev s_number_in : Stmt := top 8
abbrev N_number_in : List Str := ["word"]
theorem sc_number_in : FnScope N_number_in ["word"] (defScope s_number_in) := ⟨rfl, rfl, rfl, by decide +kernel, rfl, by decide +kernel, by decide +kernel⟩
abbrev s_deed_in : Stmt := top 9
abbrev N_deed_in : List Str := ["line", "word", "rest", "number", "words", "numbers", "one"]
theorem sc_deed_in : FnScope N_deed_in ["line"] (defScope s_deed_in) := ⟨rfl, rfl, rfl, by decide +kernel, rfl, by decide +kernel, by decide +kernel⟩
abbrev s_read_day : Stmt := top 10
abbrev N_read_day : List Str := ["text", "found", "row", "line", "deed"]
theorem sc_read_day : FnScope N_read_day ["text"] (defScope s_read_day) := ⟨rfl, rfl, rfl, by decide +kernel, rfl, by decide +kernel, by decide +kernel⟩
abbrev s_day_text : Stmt := top 11
abbrev N_day_text : List Str := ["deeds", "rows", "word", "numbers", "text", "words", "number"]
theorem sc_day_text : FnScope N_day_text ["deeds"] (defScope s_day_text) := ⟨rfl, rfl, rfl, by decide +kernel, rfl, by decide +kernel, by decide +kernel⟩
abbrev s_l_mix : Stmt := top 13
abbrev N_l_mix : List Str := ["_law_script", "_law_seed", "_law_mixed", "_law_cell"]
theorem sc_l_mix : FnScope N_l_mix ["_law_script", "_law_seed"] (defScope s_l_mix) := ⟨rfl, rfl, rfl, by decide +kernel, rfl, by decide +kernel, by decide +kernel⟩
abbrev s_l_next : Stmt := top 14
abbrev N_l_next : List Str := ["_law_h", "_law_many", "_law_cell"]
theorem sc_l_next : FnScope N_l_next ["_law_h", "_law_many"] (defScope s_l_next) := ⟨rfl, rfl, rfl, by decide +kernel, rfl, by decide +kernel, by decide +kernel⟩
abbrev s_l_alike : Stmt := top 15
abbrev N_l_alike : List Str := ["_law_found", "_law_due", "_law_k"]
theorem sc_l_alike : FnScope N_l_alike ["_law_found", "_law_due"] (defScope s_l_alike) := ⟨rfl, rfl, rfl, by decide +kernel, rfl, by decide +kernel, by decide +kernel⟩
abbrev s_l_place : Stmt := top 16
abbrev N_l_place : List Str := ["_law_call", "e"]
theorem sc_l_place : FnScope N_l_place ["_law_call"] (defScope s_l_place) := ⟨rfl, rfl, rfl, by decide +kernel, rfl, by decide +kernel, by decide +kernel⟩
abbrev s_l_deeds : Stmt := top 17
abbrev N_l_deeds : List Str := ["_law_h", "_law_many", "_law_one", "_law_found", "_law_k", "_law_way", "_law_numbers"]
theorem sc_l_deeds : FnScope N_l_deeds ["_law_h", "_law_many"] (defScope s_l_deeds) := ⟨rfl, rfl, rfl, by decide +kernel, rfl, by decide +kernel, by decide +kernel⟩
abbrev s_l_row : Stmt := top 18
abbrev N_l_row : List Str := ["_law_deed", "_law_word", "_law_numbers", "_law_text", "_law_number"]
theorem sc_l_row : FnScope N_l_row ["_law_deed"] (defScope s_l_row) := ⟨rfl, rfl, rfl, by decide +kernel, rfl, by decide +kernel, by decide +kernel⟩
abbrev s_l_is_number : Stmt := top 19
abbrev N_l_is_number : List Str := ["_law_word", "_law_good", "_law_sign"]
theorem sc_l_is_number : FnScope N_l_is_number ["_law_word"] (defScope s_l_is_number) := ⟨rfl, rfl, rfl, by decide +kernel, rfl, by decide +kernel, by decide +kernel⟩
abbrev s_l_is_row : Stmt := top 20
abbrev N_l_is_row : List Str := ["_law_row_here", "_law_words", "_law_many", "_law_one", "_law_word", "_law_good"]
theorem sc_l_is_row : FnScope N_l_is_row ["_law_row_here"] (defScope s_l_is_row) := ⟨rfl, rfl, rfl, by decide +kernel, rfl, by decide +kernel, by decide +kernel⟩
abbrev s_law : Stmt := top 21
abbrev N_law : List Str := ["_law_script", "_law_h", "_law_odd", "_law_turn", "_law_deeds_here", "_law_rows", "_law_text", "_law_at", "_law_spot", "_law_bent", "_law_some", "_law_bad", "_law_one", "_law_deed", "_law_k"]
theorem sc_law : FnScope N_law ["_law_script"] (defScope s_law) := ⟨rfl, rfl, rfl, by decide +kernel, rfl, by decide +kernel, by decide +kernel⟩
structure Txt (K : PySem.W.Frag) (mg : Str → Option Value) (w : World) where
  f_BadText_init : Addr
  fd_BadText_init : FuncData
  F_BadText_init : Fun K "__init__" "BadText.__init__" s_BadText_init f_BadText_init fd_BadText_init
  kb_BadText_init : KBn K fd_BadText_init ["self", "place"] 1 ["place"] (fun us ws => us ++ ws) (fun vs zs => vs ++ zs)
  f_number_in : Addr
  fd_number_in : FuncData
  F_number_in : Fun K "number_in" "number_in" s_number_in f_number_in fd_number_in
  b_number_in : Binds K fd_number_in ["word"] []
  mg_number_in : mg "number_in" = some (.ref f_number_in)
  f_deed_in : Addr
  fd_deed_in : FuncData
  F_deed_in : Fun K "deed_in" "deed_in" s_deed_in f_deed_in fd_deed_in
  b_deed_in : Binds K fd_deed_in ["line"] []
  mg_deed_in : mg "deed_in" = some (.ref f_deed_in)
  f_read_day : Addr
  fd_read_day : FuncData
  F_read_day : Fun K "read_day" "read_day" s_read_day f_read_day fd_read_day
  b_read_day : Binds K fd_read_day ["text"] []
  mg_read_day : mg "read_day" = some (.ref f_read_day)
  f_day_text : Addr
  fd_day_text : FuncData
  F_day_text : Fun K "day_text" "day_text" s_day_text f_day_text fd_day_text
  b_day_text : Binds K fd_day_text ["deeds"] []
  mg_day_text : mg "day_text" = some (.ref f_day_text)
  f_l_mix : Addr
  fd_l_mix : FuncData
  F_l_mix : Fun K "_law_mix" "_law_mix" s_l_mix f_l_mix fd_l_mix
  b_l_mix : Binds K fd_l_mix ["_law_script", "_law_seed"] []
  mg_l_mix : mg "_law_mix" = some (.ref f_l_mix)
  f_l_next : Addr
  fd_l_next : FuncData
  F_l_next : Fun K "_law_next" "_law_next" s_l_next f_l_next fd_l_next
  b_l_next : Binds K fd_l_next ["_law_h", "_law_many"] []
  mg_l_next : mg "_law_next" = some (.ref f_l_next)
  f_l_alike : Addr
  fd_l_alike : FuncData
  F_l_alike : Fun K "_law_alike" "_law_alike" s_l_alike f_l_alike fd_l_alike
  b_l_alike : Binds K fd_l_alike ["_law_found", "_law_due"] []
  mg_l_alike : mg "_law_alike" = some (.ref f_l_alike)
  f_l_place : Addr
  fd_l_place : FuncData
  F_l_place : Fun K "_law_place" "_law_place" s_l_place f_l_place fd_l_place
  b_l_place : Binds K fd_l_place ["_law_call"] []
  mg_l_place : mg "_law_place" = some (.ref f_l_place)
  f_l_deeds : Addr
  fd_l_deeds : FuncData
  F_l_deeds : Fun K "_law_deeds" "_law_deeds" s_l_deeds f_l_deeds fd_l_deeds
  b_l_deeds : Binds K fd_l_deeds ["_law_h", "_law_many"] []
  mg_l_deeds : mg "_law_deeds" = some (.ref f_l_deeds)
  f_l_row : Addr
  fd_l_row : FuncData
  F_l_row : Fun K "_law_row" "_law_row" s_l_row f_l_row fd_l_row
  b_l_row : Binds K fd_l_row ["_law_deed"] []
  mg_l_row : mg "_law_row" = some (.ref f_l_row)
  f_l_is_number : Addr
  fd_l_is_number : FuncData
  F_l_is_number : Fun K "_law_is_number" "_law_is_number" s_l_is_number f_l_is_number fd_l_is_number
  b_l_is_number : Binds K fd_l_is_number ["_law_word"] []
  mg_l_is_number : mg "_law_is_number" = some (.ref f_l_is_number)
  f_l_is_row : Addr
  fd_l_is_row : FuncData
  F_l_is_row : Fun K "_law_is_row" "_law_is_row" s_l_is_row f_l_is_row fd_l_is_row
  b_l_is_row : Binds K fd_l_is_row ["_law_row_here"] []
  mg_l_is_row : mg "_law_is_row" = some (.ref f_l_is_row)
  f_law : Addr
  fd_law : FuncData
  F_law : Fun K "law" "law" s_law f_law fd_law
  b_law : Binds K fd_law ["_law_script"] []
  mg_law : mg "law" = some (.ref f_law)
  n_ValueError : mg "ValueError" = none
  n_len : mg "len" = none
  n_int : mg "int" = none
  n_tuple : mg "tuple" = none
  n_enumerate : mg "enumerate" = none
  n_str : mg "str" = none
  n_list : mg "list" = none
  n_max : mg "max" = none
  n_isinstance : mg "isinstance" = none
  n_range : mg "range" = none
  n_bool : mg "bool" = none
  C_StoreError : Addr
  mg_StoreError : mg "StoreError" = some (.ref C_StoreError)
  R_StoreError : ClX.CRead K C_StoreError (.type "type")
  v_StoreError : PySem.W.findCls K (.ref C_StoreError) (.type "type") "__init__" = some (.val (.builtin "ValueError.__init__"))
  C_BadText : Addr
  X_BadText : XfC K C_BadText
  E_BadText : ExcC K C_BadText
  m_BadText : PySem.W.exmOne K (.ref C_BadText) (.ref C_BadText) = some true
  kV_BadText : PySem.W.kitOne K (.ref C_BadText) (.type "ValueError") = some true
  kS_BadText : PySem.W.kitOne K (.ref C_BadText) (.ref C_StoreError) = some true
  mg_BadText : mg "BadText" = some (.ref C_BadText)
  O_BadText : OexC K C_BadText
  iO_BadText : PySem.W.findIn K (.ref C_BadText) "__init__" = some (some (.ref f_BadText_init))
  tO_BadText : PySem.W.typeIn K (.ref f_BadText_init) = some (.type "function")
  n_BadText_place : PySem.W.findIn K (.ref C_BadText) "place" = some none
  tk_FIGURES : Tok
  mg_FIGURES : mg "FIGURES" = some (.str "0123456789" tk_FIGURES)
  tk_ASK : Tok
  mg_ASK : mg "ASK" = some (.str "ask" tk_ASK)
  tk_MOST_FIGURES : Tok
  mg_MOST_FIGURES : mg "MOST_FIGURES" = some (.int 3 tk_MOST_FIGURES)
  a_FORMS : Addr
  mg_FORMS : mg "FORMS" = some (.ref a_FORMS)
  D_FORMS : TxTab K w a_FORMS D72.forms
  c_law : Addr
  P_law : Addr
  hc_law : fd_law.code = .ref c_law

section
variable {P : Program} {w : World} {K : PySem.W.Frag} {mg : Str → Option Value} {base : Heap}
theorem ok_l_mix (T : Txt K mg w) : FnOk P w K mg base CX0 1 T.f_l_mix T.fd_l_mix ["_law_script", "_law_seed"] (spMix K) := by
  refine T.F_l_mix.ok sc_l_mix (fun vs H Q E h => ?_) (fun cdv A outer s H vs Q E hr h => ?_)
  · obtain ⟨a, ns, z, rfl, _⟩ := h
    rfl
  · obtain ⟨a, ns, z, rfl, hS, hlen, k⟩ := h
    refine ⟨_, (pss_cons (ps_set (i := 2) sc_l_mix.nd rfl (Or.inl rfl) (pv 1))
      (pss_cons (ps_for PassesOwn.never rfl (pi_list (pv 0)) (pg_name (i := 3) sc_l_mix.nd rfl (Or.inl rfl)) (pss_one (ps_set (i := 2) sc_l_mix.nd rfl (Or.inl rfl) (pe_op op_mod (pe_op op_add (pe_op op_add (pe_op op_mul (pv 2) pe_int) (pe_op op_mod (pv 3) pe_int)) pe_int) pe_int))))
      (pss_one (ps_ret (pe_lst (pa_cons (pv 2) (pa_cons (pe_callTy call_list_of (by rfl) T.n_list (by decide +kernel) (pa_cons (pv 0) pa_nil)) (pa_cons pe_int pa_nil)))))))), ?_⟩
    rw [show L2.start N_l_mix [V.ref a, V.int z] = [some (V.ref a), some (V.int z), none, none] from rfl]
    simp? only []
    refine ⟨_, rfl, a, rfl, ⟨_, hS⟩, for_list (K := K) (a := a) (xs := ns.map V.int) (fun i σ H2 => ∃ (y : Int) (v : Option V), σ = [some (.ref a), some (.int z), some (.int y), v] ∧ H2 = H) ⟨z, none, rfl, rfl⟩ (fun i σ H2 _ ⟨_, _, _, e⟩ => by rw [e]; exact hS) ?_ ?_⟩
    · rintro i y σ H2 hi ⟨z, v, rfl, rfl⟩
      obtain ⟨c, _, rfl⟩ := int_at hi
      simp? only []
    · rintro σ H2 ⟨y, v, rfl, rfl⟩
      simp? only []
      refine ⟨_, .inl hS, fun l hl p hp => ?_⟩
      have nlp : l ≠ p := ne_of_none (H := upd H2 l (.lst (ns.map V.int))) upd_same hp
      refine k _ _ l ((same_new hl).free hp) hl ((same_new hl).trans (same_new hp)) ⟨y, ns, 0, upd_same, ?_, hlen⟩
      rw [upd_ne nlp, upd_same]
theorem ok_l_next (T : Txt K mg w) : FnOk P w K mg base CX0 1 T.f_l_next T.fd_l_next ["_law_h", "_law_many"] spNext := by
  refine T.F_l_next.ok sc_l_next (fun vs H Q E h => ?_) (fun cdv A outer s H vs Q E hr h => ?_)
  · obtain ⟨h, l, n, rfl, _⟩ := h
    rfl
  · obtain ⟨h, l, n, rfl, B, n0, n1, k⟩ := h
    have nhl := B.ne
    obtain ⟨m, ns, pl, e1, e2, hlen⟩ := id B
    refine ⟨_, (pss_cons (ps_set (i := 2) sc_l_next.nd rfl (Or.inl rfl) (pe_ix ix_lst (pe_op op_cat (pe_ix ix_lst (pv 0) pe_int (fun _ _ => rfl)) (pe_lst (pa_cons pe_int pa_nil))) (pe_op op_mod (pe_ix ix_lst (pv 0) pe_int (fun _ _ => rfl)) (pe_callB (call_max2 rfl) (by rfl) T.n_max (by decide +kernel) (pa_cons pe_int (pa_cons (pe_callB len_lst (by rfl) T.n_len PySem.boot_len (pa_cons (pe_ix ix_lst (pv 0) pe_int (fun _ _ => rfl)) pa_nil)) pa_nil)))) (fun _ _ => rfl)))
      (pss_cons (ps_if (pt_cmpR op_ge (pv 2) (pe_op op_pow pe_int pe_int) (nomark _)) (pss_cons (ps_asg (pe_op op_fdiv (pv 2) (pv 1)) (pg_sub (pe_ix ix_lst (pv 0) pe_int (fun _ _ => rfl)) (pe_op op_mod (pe_ix ix_lst (pv 0) pe_int (fun _ _ => rfl)) (pe_callB len_lst (by rfl) T.n_len PySem.boot_len (pa_cons (pe_ix ix_lst (pv 0) pe_int (fun _ _ => rfl)) pa_nil))) set_list))
        (pss_one (ps_ret (pe_op op_mod (pv 2) (pv 1))))) pss_nil)
      (pss_cons (ps_asg (pe_op op_mod (pe_op op_add (pe_op op_add (pe_op op_mul (pe_ix ix_lst (pv 0) pe_int (fun _ _ => rfl)) pe_int) (pe_op op_mul (pv 2) pe_int)) pe_int) pe_int) (pg_sub (pv 0) pe_int set_list))
      (pss_cons (ps_asg (pe_op op_add (pe_ix ix_lst (pv 0) pe_int (fun _ _ => rfl)) pe_int) (pg_sub (pv 0) pe_int set_list))
      (pss_one (ps_ret (pe_op op_mod (pe_op op_fdiv (pe_ix ix_lst (pv 0) pe_int (fun _ _ => rfl)) pe_int) (pv 1)))))))), ?_⟩
    rw [show L2.start N_l_next [V.ref h, V.int n] = [some (V.ref h), some (V.int n), none] from rfl]
    simp? only [rCat, e1]
    intro p hp
    have nh : h ≠ p := ne_of_none e1 hp
    have nl : l ≠ p := ne_of_none e2 hp
    simp? only [e1, upd_ne nl, e2]
    refine ⟨szl (by omega), fun q hq => ?_⟩
    have f1 : upd H p (.lst [V.int 0]) h = _ := (upd_ne nh).trans e1
    have f2 : upd H p (.lst [V.int 0]) l = _ := (upd_ne nl).trans e2
    have nhq : h ≠ q := ne_of_none f1 hq
    have nlq : l ≠ q := ne_of_none f2 hq
    obtain ⟨c, hc, hcj⟩ := cell_at ns pl
    have kp : Keep [h, l] H (upd (upd H p (.lst [V.int 0])) q (.lst (ns.map V.int ++ [V.int 0]))) := (Keep.new hp).thenNew hq
    simp? only [upd_ne nhq, upd_ne nlq, f1, f2, hc]
    refine ⟨by split <;> omega, ?_⟩
    by_cases hbig : 1000000000000000000 ≤ c
    · obtain ⟨g0, j, g1, g2, g3⟩ := hcj (by omega)
      have hix : ixN ns.length (pl % (ns.length : Int)) = some j := ixN_j g2 g1
      simp? only [hbig, hix]
      refine ⟨n0, n1, g0, n0, k _ _ (Int.emod_nonneg _ (by omega)) (Int.emod_lt_of_pos _ n0) ⟨m, ns.set j (c / n), pl, ?_, ?_, by rw [List.length_set]; exact hlen⟩ (kp.upd (by simp))⟩
      · rw [upd_ne nhl, upd_ne nhq, f1]
      · rw [upd_same, List.map_set]
    · simp? only [hbig]
      exact ⟨n0, k _ _ (Int.emod_nonneg _ (by omega)) (Int.emod_lt_of_pos _ n0) ⟨_, ns, _, upd_same, by rw [upd_ne nhl.symm, upd_ne nlq, f2], hlen⟩ (kp.upd (by simp))⟩
end

/-! days as texts: number_in, _law_is_number -/
def spNumIn : Sp := fun vs H Q _ => ∃ x : Str, vs = [.str x] ∧ x.length ≤ 90000 ∧ Q (.int (D72.numIn x)) H
def spIsNum : Sp := fun vs H Q _ => ∃ x : Str, vs = [.str x] ∧ x.length ≤ 90000 ∧ ∀ H', Same H H' → Q (.bl (D72.isNum x)) H'
section
variable {P : Program} {w : World} {K : PySem.W.Frag} {mg : Str → Option Value} {base : Heap}
theorem ok_number_in (T : Txt K mg w) : FnOk P w K mg base CX0 1 T.f_number_in T.fd_number_in ["word"] spNumIn := by
  refine T.F_number_in.ok sc_number_in (fun vs H Q E h => ?_) (fun cdv Ar outer s0 H vs Q E hr h => ?_)
  · obtain ⟨x, rfl, _⟩ := h
    rfl
  · obtain ⟨x, rfl, hx, k⟩ := h
    have hu := hu_of hr
    have hu64 := hu64_of hr
    refine ⟨_, (pss_cons (ps_if (PW.pt (pw_or (pt_not (pt_chain op_le op_le pe_int (pe_callB call_len_str (by rfl) T.n_len PySem.boot_len (pa_cons (pv 0) pa_nil)) (pe_glob rfl T.mg_MOST_FIGURES (v := .int 3) ⟨_, rfl⟩))) (pw_or (pt_cmpR op_ne (pe_m1 PySem.F.slot_str_strip PySem.F.type_str_strip mt_stripChars (pv 0) (pe_glob rfl T.mg_FIGURES (v := .str "0123456789") ⟨_, rfl⟩)) pe_str (nomark _)) (pw_or1 (PW.pt (pw_and (pt_cmpR op_eq (pe_ix ix_str (pv 0) pe_int (fun _ _ => rfl)) pe_str (nomark _)) (pw_and1 (pt_cmpR op_ne (pv 0) pe_str (nomark _))))))))) (pss_one (ps_ret (pe_un un_neg pe_int))) pss_nil)
      (pss_one (ps_ret (pe_callTy call_int_str (by rfl) T.n_int (by decide +kernel) (pa_cons (pv 0) pa_nil))))), ?_⟩
    rw [show L2.start N_number_in [V.str x] = [some (V.str x)] from rfl]
    simp? only []
    refine ⟨szl (show _ ≤ 100000 by omega), ?_⟩
    have no : D72.isNum x = false → Q (.int (-1)) H := fun h => by
      rw [D72.numIn_neg.mpr h] at k
      exact k
    have yes : D72.isNum x = true → ∃ n, PySem.intText? x = some n ∧ x.length ≤ 640 ∧ Q (.int n) H := fun h => by
      have z := k
      unfold D72.numIn at z
      rw [if_pos h] at z
      refine ⟨_, D72.num_text h, ?_, z⟩
      unfold D72.isNum at h
      simp only [Bool.and_eq_true, decide_eq_true_eq] at h
      omega
    by_cases c1 : 1 ≤ x.length
    · rw [if_pos (by simp only [decide_eq_true_eq]; omega)]
      by_cases c3 : x.length ≤ 3
      · rw [if_neg (by simp; omega)]
        refine ⟨szl (show _ ≤ 100000 by omega), ?_⟩
        by_cases cs : (TL.tl x).all D72.fig = true
        · rw [if_neg (by rw [decide_eq_true (show Txt.stripChars x (Str.ofString "0123456789") = Str.ofString "" from (D72.strip_figs x).mpr cs)]; decide)]
          obtain ⟨c, r, e⟩ := D72.tl_head c1
          refine ⟨szl (show _ ≤ 100000 by omega), c, by show atI (TL.tl x) 0 = _; rw [e]; exact at0, ?_⟩
          by_cases c0 : c = 48
          · rw [if_pos (decide_eq_true (D72.one_zero.mpr c0))]
            by_cases cz : x = "0"
            · rw [if_neg (by rw [decide_eq_true cz]; decide)]
              exact yes (by unfold D72.isNum; rw [decide_eq_true c1, decide_eq_true c3, cs, decide_eq_true cz]; rfl)
            · rw [if_pos (by rw [decide_eq_false cz]; rfl)]
              exact no (by unfold D72.isNum; rw [e, c0, decide_eq_false cz]; simp)
          · rw [if_neg (by rw [decide_eq_false (fun z => c0 (D72.one_zero.mp z))]; decide)]
            exact yes (by unfold D72.isNum; rw [decide_eq_true c1, decide_eq_true c3, cs, e]; simp [c0])
        · rw [if_pos (by rw [decide_eq_false (show ¬ Txt.stripChars x (Str.ofString "0123456789") = Str.ofString "" from fun z => cs ((D72.strip_figs x).mp z))]; rfl)]
          exact no (by unfold D72.isNum; rw [Bool.eq_false_iff.mpr cs]; simp)
      · rw [if_pos (by simp; omega)]
        exact no (by unfold D72.isNum; rw [decide_eq_false c3]; simp)
    · rw [if_neg (by simp only [decide_eq_true_eq]; omega)]
      exact no (by unfold D72.isNum; rw [decide_eq_false c1]; simp)
theorem ok_l_is_number (T : Txt K mg w) : FnOk P w K mg base CX0 1 T.f_l_is_number T.fd_l_is_number ["_law_word"] spIsNum := by
  refine T.F_l_is_number.ok sc_l_is_number (fun vs H Q E h => ?_) (fun cdv Ar outer s0 H vs Q E hr h => ?_)
  · obtain ⟨x, rfl, _⟩ := h
    rfl
  · obtain ⟨x, rfl, hx, k⟩ := h
    have hu := hu_of hr
    have hu64 := hu64_of hr
    refine ⟨_, (Evl.pss_cut (ps_setLc (i := 1) (own := [("_law_sign", 2)]) (g := gName 2) rfl sc_l_is_number.nd rfl rfl (sw_true rfl rfl rfl (by decide +kernel)) (pi_str (pv 0)) (blkOk_by (N := N_l_is_number) (sc := defScope s_l_is_number) (by decide +kernel)) (fun _ _ _ _ _ => (pg_name (i := 2) sc_l_is_number.nd rfl (Or.inl rfl))) (fun _ _ _ _ _ => pts_one (pt_chain op_le_str op_le_str pe_str (pv 2) pe_str)) (fun _ _ _ _ _ => (pv 2)))
      (pss_one (ps_ret (pe_and (pe_chain op_le op_le pe_int (pe_callB call_len_str (by rfl) T.n_len PySem.boot_len (pa_cons (pv 0) pa_nil)) pe_int) (pe_and (pe_cmpR op_eq (pe_callB len_lst (by rfl) T.n_len PySem.boot_len (pa_cons (pv 1) pa_nil)) (pe_callB call_len_str (by rfl) T.n_len PySem.boot_len (pa_cons (pv 0) pa_nil)) (nomark _)) (pe_one (pe_or (pe_cmpR op_eq (pv 0) pe_str (nomark _)) (pe_one (pe_cmpR op_ne (pe_ix ix_str (pv 0) pe_int (fun _ _ => rfl)) pe_str (nomark _)))))))))), ?_⟩
    rw [show L2.start N_l_is_number [V.str x] = [some (V.str x), none, none] from rfl]
    refine ⟨fun σ' H1 => Same H H1 ∧ ∃ (g : Addr) (y : Option V), H1 g = some (.lst (((TL.tl x).filter D72.fig).map fun c => V.str ⟨#[c]⟩)) ∧ σ' = [some (.str x), some (.ref g), y], ?_, ?_⟩
    · simp? only [tLc_eq, iStr]
      have hl : (TL.tl x).length = x.length := (TL.len_tl x).symm
      refine lc_ents (walk_str (z := x)) (TL.tl x) D72.fig (fun c y _ => y = .str ⟨#[c]⟩) (by rw [hl]; rfl) (by omega) (fun _ _ => trivial) (fun i H x H' h => by rw [h.1]; exact Same.refl _) (fun _ _ _ _ _ h _ _ => h) (fun j c v H1 H2 Q2 N he s1 hy g1 g2 => ?_) fun D H1 zs hD e1 s1 e2 e3 => ?_
      · obtain ⟨rfl, c', hc, rfl⟩ := hy
        obtain rfl : c = c' := by
          have he : x.cps.toList[j]? = some c := he
          rw [Array.getElem?_toList, hc] at he
          exact (Option.some.inj he).symm
        simp? only [gName]
        have z0 : (Str.ofString "0").cps.toList = [48] := by decide +kernel
        have z9 : (Str.ofString "9").cps.toList = [57] := by decide +kernel
        have l1 : (([c] : List Nat) < [48]) ↔ c < 48 := by simp [List.cons_lt_cons_iff]
        have l2 : (([57] : List Nat) < [c]) ↔ 57 < c := by simp [List.cons_lt_cons_iff]
        rw [z0, z9]
        by_cases a1 : c < 48
        · rw [if_neg (by rw [decide_eq_true (l1.mpr a1)]; decide)]
          exact g2 (by simp [D72.fig]; omega) _ (Same.refl _)
        · rw [if_pos (by rw [decide_eq_false (fun z => a1 (l1.mp z))]; rfl)]
          by_cases a2 : 57 < c
          · rw [if_neg (by rw [decide_eq_true (l2.mpr a2)]; decide)]
            exact g2 (by simp [D72.fig]; omega) _ (Same.refl _)
          · rw [if_pos (by rw [decide_eq_false (fun z => a2 (l2.mp z))]; rfl)]
            exact g1 (D72.fig_iff.mpr (by omega)) _ _ (Same.refl _) rfl
      · rw [zs_vals (f := fun c : Nat => V.str ⟨#[c]⟩) e1 e3] at e2
        exact ⟨s1, D, e2, rfl⟩
    rintro σ' H1 ⟨s1, g, y, hg, rfl⟩
    simp? only [hg]
    refine ⟨szl (show _ ≤ 100000 by omega), ?_⟩
    have k1 := k H1 s1
    have fl : (((TL.tl x).filter D72.fig).length = x.length) ↔ (TL.tl x).all D72.fig = true := by
      rw [TL.len_tl x, List.length_filter_eq_length_iff, List.all_eq_true]
    by_cases c1 : 1 ≤ x.length
    · rw [if_pos (by simp only [decide_eq_true_eq]; omega)]
      by_cases c3 : x.length ≤ 3
      · rw [if_pos (by simp; omega)]
        refine ⟨szl (show _ ≤ 100000 by omega), ?_⟩
        by_cases cs : (TL.tl x).all D72.fig = true
        · rw [if_pos (by rw [fl.mpr cs]; simp)]
          obtain ⟨c, r, e⟩ := D72.tl_head c1
          by_cases cz : x = "0"
          · rw [if_pos (decide_eq_true cz)]
            rw [show D72.isNum x = true by unfold D72.isNum; rw [decide_eq_true c1, decide_eq_true c3, cs, decide_eq_true cz]; rfl] at k1
            exact k1
          · rw [if_neg (by simpa using cz)]
            refine ⟨szl (show _ ≤ 100000 by omega), c, by show atI (TL.tl x) 0 = _; rw [e]; exact at0, ?_⟩
            rw [show D72.isNum x = !decide ((⟨#[c]⟩ : Str) = "0") by unfold D72.isNum; rw [decide_eq_true c1, decide_eq_true c3, cs, decide_eq_false cz, e]; by_cases c0 : c = 48 <;> simp [D72.one_zero, c0]] at k1
            exact k1
        · rw [if_neg (by intro z; exact cs (fl.mp (by have z := of_decide_eq_true z; omega)))]
          rw [show D72.isNum x = false by unfold D72.isNum; rw [Bool.eq_false_iff.mpr cs]; simp] at k1
          exact k1
      · rw [if_neg (by simp; omega)]
        rw [show D72.isNum x = false by unfold D72.isNum; rw [decide_eq_false c3]; simp] at k1
        exact k1
    · rw [if_neg (by simp only [decide_eq_true_eq]; omega)]
      rw [show D72.isNum x = false by unfold D72.isNum; rw [decide_eq_false c1]; simp] at k1
      exact k1
end

/-! days as texts: rows -/
def DeedAt (H : Hp) (a : Addr) (d : D72.Deed) : Prop := ∃ nu, H a = some (.tup [.str d.word, .ref nu, .str d.text]) ∧ H nu = some (.tup (d.nums.map V.int))
structure DeedSm (d : D72.Deed) : Prop where
  w : d.word.length ≤ 100
  t : d.text.length ≤ 100
  l : d.nums.length ≤ 10
  n : ∀ n ∈ d.nums, 0 ≤ n ∧ n < 1000
theorem DeedAt.km {ms : List Addr} {H H' : Hp} {a : Addr} {d : D72.Deed} (D : DeedAt H a d) (K : KM ms H H') : DeedAt H' a d := by
  obtain ⟨nu, h1, h2⟩ := D
  exact ⟨nu, K.tup h1, K.tup h2⟩
theorem log_sm {n : Int} (h0 : 0 ≤ n) (h1 : n < 1000) : n.natAbs.log2 < 1920 := by
  have z : n.natAbs < 2 ^ 10 := by omega
  have y : n.natAbs.log2 < 10 := by
    by_cases c : n.natAbs = 0
    · rw [c]; decide
    · exact (Nat.log2_lt c).mpr z
  omega
theorem sum_le {B : Nat} : ∀ {l : List Str}, (∀ x ∈ l, x.length ≤ B) → (l.map fun x => x.length).sum ≤ l.length * B
  | [], _ => Nat.zero_le _
  | x :: l, h => by
    have a := h x List.mem_cons_self
    have b := sum_le fun y hy => h y (List.mem_cons_of_mem x hy)
    rw [List.map_cons, List.sum_cons, List.length_cons, Nat.succ_mul]
    omega
theorem strI_len {n : Int} (h0 : 0 ≤ n) (h1 : n < 1000) : (D72.strI n).length ≤ 3 := by
  rw [TL.len_tl, D72.tl_strI h0]
  exact TL.numL_len (by decide) (by omega)
def rowL (d : D72.Deed) : List Str := d.word :: (d.nums.map D72.strI ++ if d.word = "ask" then [d.text] else [])
theorem rowL_ok {d : D72.Deed} (D : DeedSm d) : (rowL d).length ≤ 12 ∧ ∀ x ∈ rowL d, x.length ≤ 100 := by
  have dl := D.l
  have lts : ((if d.word = "ask" then [d.text] else []) : List Str).length ≤ 1 := by split <;> simp
  refine ⟨?_, fun x hx => ?_⟩
  · unfold rowL
    rw [List.length_cons, List.length_append, List.length_map]
    omega
  · rcases List.mem_cons.mp hx with rfl | hx
    · exact D.w
    · rcases List.mem_append.mp hx with hx | hx
      · obtain ⟨n, hn, rfl⟩ := List.mem_map.mp hx
        obtain ⟨a, b⟩ := D.n n hn
        have := strI_len a b
        omega
      · split at hx
        · rw [List.mem_singleton.mp hx]; exact D.t
        · cases hx
theorem rowL_v (d : D72.Deed) : [V.str d.word] ++ (d.nums.map fun n => V.str (D72.strI n)) ++ ((if d.word = "ask" then [d.text] else []) : List Str).map V.str = (rowL d).map V.str := by
  unfold rowL
  rw [List.map_cons, List.map_append, List.map_map]
  rfl
def spRowD : Sp := fun vs H Q _ => ∃ (a : Addr) (d : D72.Deed), vs = [.ref a] ∧ DeedAt H a d ∧ DeedSm d ∧ ∀ H', Same H H' → Q (.str (D72.rowOf d)) H'
section
variable {P : Program} {w : World} {K : PySem.W.Frag} {mg : Str → Option Value} {base : Heap}
theorem ok_l_row (T : Txt K mg w) : FnOk P w K mg base CX0 1 T.f_l_row T.fd_l_row ["_law_deed"] spRowD := by
  refine T.F_l_row.ok sc_l_row (fun vs H Q E h => ?_) (fun cdv Ar outer s0 H vs Q E hr h => ?_)
  · obtain ⟨a, d, rfl, _⟩ := h
    rfl
  · obtain ⟨a, d, rfl, ⟨nu, h1, h2⟩, D, k⟩ := h
    have hu := hu_of hr
    have hu64 := hu64_of hr
    refine ⟨_, (pss_cons (ps_asg (pv 0) (pg_tupH (n := 3) rfl (pgs_cons (pg_name (i := 1) sc_l_row.nd rfl (Or.inl rfl)) (pgs_cons (pg_name (i := 2) sc_l_row.nd rfl (Or.inl rfl)) (pgs_cons (pg_name (i := 3) sc_l_row.nd rfl (Or.inl rfl)) pgs_nil)))))
      (pss_one (ps_ret (pe_join pe_str (pe_op op_cat (pe_op op_cat (pe_lst (pa_cons (pv 1) pa_nil)) (pe_lc (own := [("_law_number", 4)]) (g := gName 4) (tt := tYes) rfl sc_l_row.nd (pi_tupK K rfl (pv 2)) (blkOk_by (N := N_l_row) (sc := defScope s_l_row) (by decide +kernel)) (fun _ _ _ _ _ => (pg_name (i := 4) sc_l_row.nd rfl (Or.inl rfl))) (fun _ _ _ _ _ => pts_nil) (fun _ _ _ _ _ => (pe_callTy call_str_int (by rfl) T.n_str (by decide +kernel) (pa_cons (pv 4) pa_nil))))) (pe_op op_rep (pe_lst (pa_cons (pv 3) pa_nil)) (pe_callTy int_bl (by rfl) T.n_int (by decide +kernel) (pa_cons (pe_cmpR op_eq (pv 1) pe_str (nomark _)) pa_nil)))))))), ?_⟩
    rw [show L2.start N_l_row [V.ref a] = [some (V.ref a), none, none, none, none] from rfl]
    simp? only [gTupH, gCons, gNil, gName, h1, tLc_eq, iTup]
    refine fun p hp => ?_
    have s1 := same_new (o := .lst [.str d.word]) hp
    have ep : (upd H p (.lst [.str d.word])) p = some (.lst [.str d.word]) := upd_same
    generalize upd H p (.lst [.str d.word]) = Hp at s1 ep ⊢
    have dl := D.l
    refine ⟨⟨_, .inl (.inl (s1 _ _ h2))⟩, lc_all (walk_tup (xs := d.nums.map V.int)) d.nums (fun n y _ => y = .str (D72.strI n)) (by rw [List.length_map]) (by omega) (fun H1 s => .inl (.inl (s _ _ (s1 _ _ h2)))) yat_same (fun _ _ _ _ _ h _ _ => h) (fun j n x H1 H2 Q2 he s2 hy k2 => ?_) fun L H2 zs hL e1 s2 e2 e3 => ?_⟩
    · obtain ⟨rfl, rfl⟩ := yat_of he hy
      obtain ⟨n0, n1⟩ := D.n n (List.mem_of_getElem? he)
      simp? only [gName]
      exact ⟨log_sm n0 n1, k2 _ _ (Same.refl _) rfl⟩
    · rw [zs_vals (f := fun n : Int => V.str (D72.strI n)) e1 e3] at e2
      refine ⟨L, rfl, _, s2 _ _ ep, _, e2, by rw [List.length_map]; exact szl (show 1 + _ ≤ 100000 by omega), fun p1 hp1 p2 hp2 => ?_⟩
      generalize hkk : (if decide (d.word = Str.ofString "ask") = true then (1 : Int) else 0) = kk
      have k01 : kk = 0 ∨ kk = 1 := by rw [← hkk]; split <;> simp
      have ets : (List.replicate kk.toNat [V.str d.text]).flatten = ((if d.word = "ask" then [d.text] else []) : List Str).map V.str := by
        rw [← hkk]
        by_cases c : d.word = "ask"
        · rw [if_pos (decide_eq_true c), if_pos c]
          rfl
        · rw [if_neg (by simpa using c), if_neg c]
          rfl
      have lts : ((if d.word = "ask" then [d.text] else []) : List Str).length ≤ 1 := by split <;> simp
      refine ⟨by omega, by omega, szl (by rcases k01 with q | q <;> rw [q] <;> decide), fun p3 hp3 => ?_⟩
      rw [ets]
      have e1' := upd_same (H := H2) (a := p1) (o := .lst ([V.str d.word] ++ d.nums.map fun n => V.str (D72.strI n)))
      have q1 := same_new (o := .lst ([V.str d.word] ++ d.nums.map fun n => V.str (D72.strI n))) hp1
      have q2 := same_new (o := .lst [V.str d.text]) hp2
      have q3 := same_new (o := .lst (((if d.word = "ask" then [d.text] else []) : List Str).map V.str)) hp3
      have e3' := q3 _ _ (q2 _ _ e1')
      have SS : Same H _ := s1.trans (s2.trans (q1.trans (q2.trans q3)))
      refine ⟨_, e3', by rw [List.length_append, List.length_map, List.length_map]; exact szl (show 1 + _ + _ ≤ 100000 by omega), fun p4 hp4 => ?_⟩
      obtain ⟨r1, r2⟩ := rowL_ok D
      have q4 := same_new (o := .lst ([V.str d.word] ++ (d.nums.map fun n => V.str (D72.strI n)) ++ ((if d.word = "ask" then [d.text] else []) : List Str).map V.str)) hp4
      have sl := sum_le r2
      refine ⟨rowL d, .inl (.inl (.inl (by rw [upd_same, rowL_v]))), ?_, k _ (SS.trans q4)⟩
      have l1 : (Str.ofString " ").length = 1 := by decide +kernel
      rw [l1]
      omega
end

/-! days as texts: day_text -/
def spDayText : Sp := fun vs H Q _ => ∃ (l : Addr) (es : List (Addr × D72.Deed)), vs = [.ref l] ∧ H l = some (.lst (es.map fun e => V.ref e.1)) ∧ (∀ e ∈ es, DeedAt H e.1 e.2 ∧ DeedSm e.2) ∧ es.length ≤ 40 ∧ ∀ H', Same H H' → Q (.str (Txt.join D72.nl (es.map fun e => D72.rowOf e.2))) H'
theorem sum_sep {B C : Nat} {l : List Str} (h : ∀ x ∈ l, x.length ≤ B) (hl : l.length ≤ C) : (l.map fun x => x.length).sum ≤ C * B := Nat.le_trans (sum_le h) (Nat.mul_le_mul_right _ hl)
theorem join_len (y : Str) : ∀ ps : List Str, (Str.join y ps).length ≤ (ps.map fun x => x.length).sum + ps.length * y.length
  | [] => Nat.zero_le _
  | [p] => by
    show p.length ≤ _
    simp
  | p :: q :: r => by
    have ih := join_len y (q :: r)
    show (p ++ y ++ Str.join y (q :: r)).length ≤ _
    have e : (p ++ y ++ Str.join y (q :: r)).length = p.length + y.length + (Str.join y (q :: r)).length := by
      rw [TL.len_tl, TL.tl_append, TL.tl_append, List.length_append, List.length_append, ← TL.len_tl, ← TL.len_tl, ← TL.len_tl]
    rw [e, List.map_cons, List.sum_cons, List.length_cons, Nat.succ_mul]
    omega
theorem row_len {d : D72.Deed} (D : DeedSm d) : (D72.rowOf d).length ≤ 1300 := by
  obtain ⟨r1, r2⟩ := rowL_ok D
  have sl := sum_le r2
  have jl := join_len D72.sp (rowL d)
  have l1 : D72.sp.length = 1 := by decide +kernel
  rw [l1] at jl
  show (Txt.join D72.sp (rowL d)).length ≤ _
  rw [TL.join_eq]
  omega
section
variable {P : Program} {w : World} {K : PySem.W.Frag} {mg : Str → Option Value} {base : Heap}
theorem ok_day_text (T : Txt K mg w) : FnOk P w K mg base CX0 1 T.f_day_text T.fd_day_text ["deeds"] spDayText := by
  refine T.F_day_text.ok sc_day_text (fun vs H Q E h => ?_) (fun cdv Ar outer s0 H vs Q E hr h => ?_)
  · obtain ⟨l, es, rfl, _⟩ := h
    rfl
  · obtain ⟨l, es, rfl, hl, hes, hn, k⟩ := h
    have hu := hu_of hr
    have hu64 := hu64_of hr
    refine ⟨_, (pss_cons (ps_set (i := 1) sc_day_text.nd rfl (Or.inl rfl) (pe_lst pa_nil))
      (pss_cons (ps_for PassesOwn.never rfl (pi_listK K rfl (pv 0)) (pg_tupH (n := 3) rfl (pgs_cons (pg_name (i := 2) sc_day_text.nd rfl (Or.inl rfl)) (pgs_cons (pg_name (i := 3) sc_day_text.nd rfl (Or.inl rfl)) (pgs_cons (pg_name (i := 4) sc_day_text.nd rfl (Or.inl rfl)) pgs_nil)))) (Evl.pss_cut (ps_set (i := 5) sc_day_text.nd rfl (Or.inl rfl) (pe_op op_cat (pe_lst (pa_cons (pv 2) pa_nil)) (pe_lc (own := [("number", 6)]) (g := gName 6) (tt := tYes) rfl sc_day_text.nd (pi_tupK K rfl (pv 3)) (blkOk_by (N := N_day_text) (sc := defScope s_day_text) (by decide +kernel)) (fun _ _ _ _ _ => (pg_name (i := 6) sc_day_text.nd rfl (Or.inl rfl))) (fun _ _ _ _ _ => pts_nil) (fun _ _ _ _ _ => (pe_callTy call_str_int (by rfl) T.n_str (by decide +kernel) (pa_cons (pv 6) pa_nil))))))
        (pss_one (ps_expr (pe_bm PySem.F.plainAttrs_list PySem.F.slot_list_append PySem.F.type_list_append mt_append (pv 1) (pa_cons (pe_join pe_str (pe_op op_cat (pv 5) (pe_op op_rep (pe_lst (pa_cons (pv 4) pa_nil)) (pe_callTy int_bl (by rfl) T.n_int (by decide +kernel) (pa_cons (pe_cmpR op_eq (pv 2) (pe_glob rfl T.mg_ASK (v := .str "ask") ⟨_, rfl⟩) (nomark _)) pa_nil))))) pa_nil))))))
      (pss_one (ps_ret (pe_join pe_str (pv 1)))))), ?_⟩
    rw [show L2.start N_day_text [V.ref l] = [some (V.ref l), none, none, none, none, none, none] from rfl]
    simp? only [tFor_eq, iList]
    refine fun rl hrl => ?_
    have s0' := same_new (o := .lst []) hrl
    have e0 : (upd H rl (.lst [])) rl = some (.lst []) := upd_same
    generalize upd H rl (.lst []) = H0 at s0' e0 ⊢
    have nl : ∀ {b : Addr} {o : HO}, H b = some o → b ≠ rl := fun e z => by rw [z, hrl] at e; cases e
    refine ⟨⟨_, .inl (.inl (s0' _ _ hl))⟩, forB_it (for_it (walk_list (xs := es.map fun e => V.ref e.1)) (fun m σ Hm => ∃ (x2 x3 x4 x5 x6 : Option V), (Same H Hm ∧ Hm rl = some (.lst ((es.take m).map fun e => V.str (D72.rowOf e.2)))) ∧ σ = [some (.ref l), some (.ref rl), x2, x3, x4, x5, x6])
      ⟨none, none, none, none, none, ⟨s0', e0⟩, rfl⟩ (fun _ _ _ _ hh => by obtain ⟨_, _, _, _, _, ⟨s, _⟩, _⟩ := hh; exact .inl (.inl (s _ _ hl))) ?_ ?_)⟩
    · rintro m y σ Hm Hm2 hm ⟨x2, x3, x4, x5, x6, ⟨sm, em⟩, rfl⟩ hy
      rw [List.length_map] at hm
      obtain ⟨e, he⟩ : ∃ e, es[m]? = some e := ⟨_, List.getElem?_eq_getElem hm⟩
      obtain ⟨rfl, rfl⟩ := yat_of he hy
      obtain ⟨⟨nu, h1, h2⟩, D⟩ := hes e (List.mem_of_getElem? he)
      simp? only [gTupH, gCons, gNil, gName, sm _ _ h1]
      have dl := D.l
      have h2m := sm _ _ h2
      refine ⟨fun σ' H3 => ∃ (wl : Addr) (y6 : Option V), (Same Hm2 H3 ∧ H3 wl = some (.lst ((e.2.word :: e.2.nums.map D72.strI).map V.str))) ∧ σ' = [some (.ref l), some (.ref rl), some (.str e.2.word), some (.ref nu), some (.str e.2.text), some (.ref wl), y6], ?_, ?_⟩
      · simp? only [tLc_eq, iTup]
        refine fun p hp => ?_
        have s1 := same_new (o := .lst [.str e.2.word]) hp
        have ep : (upd Hm2 p (.lst [.str e.2.word])) p = some (.lst [.str e.2.word]) := upd_same
        generalize upd Hm2 p (.lst [.str e.2.word]) = Hp at s1 ep ⊢
        refine ⟨⟨_, .inl (.inl (s1 _ _ h2m))⟩, lc_all (walk_tup (xs := e.2.nums.map V.int)) e.2.nums (fun n y _ => y = .str (D72.strI n)) (by rw [List.length_map]) (by omega) (fun H1 s => .inl (.inl (s _ _ (s1 _ _ h2m)))) yat_same (fun _ _ _ _ _ h _ _ => h) (fun j n x H1 H2 Q2 he2 s2 hy k2 => ?_) fun L H2 zs hL e1 s2 e2 e3 => ?_⟩
        · obtain ⟨rfl, rfl⟩ := yat_of he2 hy
          obtain ⟨n0, n1⟩ := D.n n (List.mem_of_getElem? he2)
          simp? only [gName]
          exact ⟨log_sm n0 n1, k2 _ _ (Same.refl _) rfl⟩
        · rw [zs_vals (f := fun n : Int => V.str (D72.strI n)) e1 e3] at e2
          refine ⟨L, rfl, _, s2 _ _ ep, _, e2, by rw [List.length_map]; exact szl (show 1 + _ ≤ 100000 by omega), fun p1 hp1 => ?_⟩
          exact ⟨s1.trans (s2.trans (same_new hp1)), p1, by rw [upd_same, List.map_map]; rfl, rfl⟩
      rintro σ' H3 ⟨wl, y6, ⟨s3, ew⟩, rfl⟩
      simp? only [s3 _ _ em, ew]
      refine fun p2 hp2 => ?_
      generalize hkk : (if decide (e.2.word = Str.ofString "ask") = true then (1 : Int) else 0) = kk
      have k01 : kk = 0 ∨ kk = 1 := by rw [← hkk]; split <;> simp
      have ets : (List.replicate kk.toNat [V.str e.2.text]).flatten = ((if e.2.word = "ask" then [e.2.text] else []) : List Str).map V.str := by
        rw [← hkk]
        by_cases c : e.2.word = "ask"
        · rw [if_pos (decide_eq_true c), if_pos c]
          rfl
        · rw [if_neg (by simpa using c), if_neg c]
          rfl
      have lts : ((if e.2.word = "ask" then [e.2.text] else []) : List Str).length ≤ 1 := by split <;> simp
      refine ⟨by omega, by omega, szl (by rcases k01 with q | q <;> rw [q] <;> decide), fun p3 hp3 => ?_⟩
      rw [ets]
      have q2 := same_new (o := .lst [V.str e.2.text]) hp2
      have q3 := same_new (o := .lst (((if e.2.word = "ask" then [e.2.text] else []) : List Str).map V.str)) hp3
      refine ⟨_, q3 _ _ (q2 _ _ ew), by rw [List.length_map, List.length_cons, List.length_map, List.length_map]; exact szl (show _ + 1 + _ ≤ 100000 by omega), fun p4 hp4 => ?_⟩
      obtain ⟨r1, r2⟩ := rowL_ok D
      have q4 := same_new (o := .lst ((e.2.word :: e.2.nums.map D72.strI).map V.str ++ ((if e.2.word = "ask" then [e.2.text] else []) : List Str).map V.str)) hp4
      have sl := sum_le r2
      have ev : (e.2.word :: e.2.nums.map D72.strI).map V.str ++ ((if e.2.word = "ask" then [e.2.text] else []) : List Str).map V.str = (rowL e.2).map V.str := by
        unfold rowL
        rw [List.map_cons, List.map_cons, List.map_append]
        rfl
      refine ⟨rowL e.2, .inl (.inl (.inl (by rw [upd_same, ev]))), ?_, ?_⟩
      · have l1 : (Str.ofString " ").length = 1 := by decide +kernel
        rw [l1]
        omega
      have s34 := s3.trans (q2.trans (q3.trans q4))
      have er := s34 _ _ em
      generalize upd (upd (upd H3 p2 (.lst [V.str e.2.text])) p3 (.lst (((if e.2.word = "ask" then [e.2.text] else []) : List Str).map V.str))) p4 (.lst ((e.2.word :: e.2.nums.map D72.strI).map V.str ++ ((if e.2.word = "ask" then [e.2.text] else []) : List Str).map V.str)) = H4 at s34 er ⊢
      exact ⟨_, er, by rw [List.length_map, List.length_take]; exact szl' (by omega), Same.updFree (sm.trans s34) hrl, by rw [List.take_succ, he, Option.toList_some, List.map_append]; rfl⟩
    · rintro σ Hm ⟨x2, x3, x4, x5, x6, ⟨sm, em⟩, rfl⟩
      rw [List.length_map, List.take_length] at em
      simp? only []
      have sl := sum_sep (B := 1300) (C := 40) (l := es.map fun e => D72.rowOf e.2) (fun x hx => by obtain ⟨e, he, rfl⟩ := List.mem_map.mp hx; exact row_len (hes e he).2) (by rw [List.length_map]; exact hn)
      refine ⟨es.map fun e => D72.rowOf e.2, .inl (.inl (.inl (by rw [em, List.map_map]; rfl))), ?_, k _ sm⟩
      have l1 : (Str.ofString "\n").length = 1 := by decide +kernel
      rw [l1, List.length_map]
      omega
end

/-! BadText(place = ..) -/
def spBadText (C : Addr) : Sp := fun vs H Q _ => ∃ (a : Addr) (n : Int), vs = [.ref a, .int n] ∧ H a = some (exo a C none) ∧ ∀ dx, H dx = none → dx ≠ a → Q .non (upd (upd H dx (exd dx [("place", .int n)])) a (exo a C (some dx)))
section
variable {P : Program} {w : World} {K : PySem.W.Frag} {mg : Str → Option Value} {base : Heap}
theorem ok_BadText_init (T : Txt K mg w) : FnOk P w K mg base CX0 1 T.f_BadText_init T.fd_BadText_init ["self", "place"] (spBadText T.C_BadText) := by
  refine T.F_BadText_init.ok sc_BadText_init (fun vs H Q E h => ?_) (fun cdv Ar outer s0 H vs Q E hr h => ?_)
  · obtain ⟨a, n, rfl, _⟩ := h
    rfl
  · obtain ⟨a, n, rfl, ha, k⟩ := h
    have hu := hu_of hr
    have hu64 := hu64_of hr
    refine ⟨_, (pss_cons (ps_expr (pe_sinit rfl T.mg_StoreError T.R_StoreError T.v_StoreError (pa_cons (pv 0) (pa_cons (pv 1) pa_nil))))
      (pss_one (ps_ost (pv 0) (pv 1) rfl))), ?_⟩
    rw [show L2.start N_BadText_init [V.ref a, V.int n] = [some (V.ref a), some (V.int n)] from rfl]
    simp? only [tVeI, tOst]
    exact ⟨T.C_BadText, T.O_BadText, ha, T.C_BadText, T.O_BadText, T.n_BadText_place, .inl ⟨ha, k⟩⟩
theorem kb_test (cd : Value) (kV doc pm : Value) (an : Option Addr) (ct u v : Value) : bindArgs (PySem.W.fnOf "__init__" "BadText.__init__" (defArgs s_BadText_init) (defBody s_BadText_init) (defScope s_BadText_init) .none kV doc pm an cd ct) ⟨[u], (["place"] : List Str).zip [v]⟩ = pure ((["self", "place"] : List Str).zip ([u] ++ [v])) := rfl
end

/-! days as texts: deeds drawn -/
def oneL : List Str := ["come", "lose", "takeover", "beat", "checkpoint", "fall", "found", "known", "log", "dealings", "shown"]
structure DsAt (H : Hp) (h l ol fl : Addr) (es : List (Addr × D72.Deed)) : Prop where
  X : BoxB H h l
  ao : H ol = some (.lst (oneL.map V.str))
  af : H fl = some (.lst (es.map fun e => V.ref e.1))
  eg : ∀ e ∈ es, DeedAt H e.1 e.2 ∧ DeedSm e.2 ∧ D72.GdD e.2
  n1 : ol ∉ [h, l]
  n2 : fl ∉ [h, l]
  n3 : ol ≠ fl
theorem DsAt.box {H H' : Hp} {h l ol fl : Addr} {es : List (Addr × D72.Deed)} (D : DsAt H h l ol fl es) (X' : BoxB H' h l) (k : Keep [h, l] H H') : DsAt H' h l ol fl es := by
  have K : KM [h, l] H H' := ⟨KeepN.of k, fun m hm o e => by
    obtain ⟨o', e', mu⟩ := D.X.muts m hm
    rw [e] at e'
    cases e'
    exact mu⟩
  exact ⟨X', k _ _ D.n1 D.ao, k _ _ D.n2 D.af, fun e he => ⟨(D.eg e he).1.km K, (D.eg e he).2⟩, D.n1, D.n2, D.n3⟩
theorem DsAt.same {H H' : Hp} {h l ol fl : Addr} {es : List (Addr × D72.Deed)} (D : DsAt H h l ol fl es) (k : Same H H') : DsAt H' h l ol fl es := D.box (D.X.same k) (Keep.ofSame k)
theorem DsAt.app {H : Hp} {h l ol fl t : Addr} {d : D72.Deed} {es : List (Addr × D72.Deed)} (D : DsAt H h l ol fl es) (h1 : DeedAt H t d) (h2 : DeedSm d) (h3 : D72.GdD d) : DsAt (upd H fl (.lst ((es.map fun e => V.ref e.1) ++ [V.ref t]))) h l ol fl (es ++ [(t, d)]) := by
  have K : KM [fl] H (upd H fl (.lst ((es.map fun e => V.ref e.1) ++ [V.ref t]))) := KM.one D.af trivial
  have kk : Keep [fl] H (upd H fl (.lst ((es.map fun e => V.ref e.1) ++ [V.ref t]))) := Keep.refl.upd (by simp)
  refine ⟨D.X.keep kk (fun z => D.n2 (by rw [← List.mem_singleton.mp z]; simp)) (fun z => D.n2 (by rw [← List.mem_singleton.mp z]; simp)), by rw [upd_ne D.n3]; exact D.ao, by rw [upd_same, List.map_append]; rfl, fun e he => ?_, D.n1, D.n2, D.n3⟩
  rcases List.mem_append.mp he with q | q
  · exact ⟨(D.eg e q).1.km K, (D.eg e q).2⟩
  · rw [List.mem_singleton.mp q]
    exact ⟨h1.km K, h2, h3⟩
def spDeeds : Sp := fun vs H Q _ => ∃ (h l : Addr) (n : Int), vs = [.ref h, .int n] ∧ BoxB H h l ∧ 0 ≤ n ∧ n ≤ 30 ∧ ∀ (H' : Hp) (L : Addr) (es : List (Addr × D72.Deed)), H L = none → BoxB H' h l → Keep [h, l] H H' → H' L = some (.lst (es.map fun e => V.ref e.1)) → (∀ e ∈ es, DeedAt H' e.1 e.2 ∧ DeedSm e.2 ∧ D72.GdD e.2) → es.length ≤ 30 → Q (.ref L) H'
section
variable {P : Program} {w : World} {K : PySem.W.Frag} {mg : Str → Option Value} {base : Heap}
theorem ok_l_deeds (T : Txt K mg w) : FnOk P w K mg base CX0 2 T.f_l_deeds T.fd_l_deeds ["_law_h", "_law_many"] spDeeds := by
  have G_l_next : FnOk P w K mg base CX0 1 T.f_l_next T.fd_l_next ["_law_h", "_law_many"] spNext := ok_l_next T
  refine T.F_l_deeds.ok sc_l_deeds (fun vs H Q E h => ?_) (fun cdv Ar outer s0 H vs Q E hr h => ?_)
  · obtain ⟨h, l, n, rfl, _⟩ := h
    rfl
  · obtain ⟨h, l, n, rfl, X, n0, n1, k⟩ := h
    have hu := hu_of hr
    have hu64 := hu64_of hr
    refine ⟨_, (pss_cons (ps_set (i := 2) sc_l_deeds.nd rfl (Or.inl rfl) (pe_lst (pa_cons pe_str (pa_cons pe_str (pa_cons pe_str (pa_cons pe_str (pa_cons pe_str (pa_cons pe_str (pa_cons pe_str (pa_cons pe_str (pa_cons pe_str (pa_cons pe_str (pa_cons pe_str pa_nil)))))))))))))
      (pss_cons (ps_set (i := 3) sc_l_deeds.nd rfl (Or.inl rfl) (pe_lst pa_nil))
      (pss_cons (ps_for PassesOwn.never rfl (pi_range1 rfl T.n_range (pa_cons (pv 1) pa_nil)) (pg_name (i := 4) sc_l_deeds.nd rfl (Or.inl rfl)) (Evl.pss_cut (ps_par (i := 5) (j := 6) rfl sc_l_deeds.nd rfl rfl (by decide) rfl rfl (pa_cons (pe_call G_l_next (hr.mono (by decide)) rfl T.mg_l_next T.F_l_next.kp T.b_l_next .nil pass0 (pa_cons (pv 0) (pa_cons pe_int pa_nil))) (pa_cons (pe_lst (pa_cons (pe_call G_l_next (hr.mono (by decide)) rfl T.mg_l_next T.F_l_next.kp T.b_l_next .nil pass0 (pa_cons (pv 0) (pa_cons pe_int pa_nil))) (pa_cons (pe_call G_l_next (hr.mono (by decide)) rfl T.mg_l_next T.F_l_next.kp T.b_l_next .nil pass0 (pa_cons (pv 0) (pa_cons (pe_ix ix_lst (pe_lst (pa_cons pe_int (pa_cons pe_int pa_nil))) (pe_call G_l_next (hr.mono (by decide)) rfl T.mg_l_next T.F_l_next.kp T.b_l_next .nil pass0 (pa_cons (pv 0) (pa_cons pe_int pa_nil))) (fun _ _ => rfl)) pa_nil))) pa_nil))) pa_nil)) (by rfl))
        (pss_one (ps_if (pt_cmpR op_lt (pv 5) pe_int (nomark _)) (pss_one (ps_expr (pe_bm PySem.F.plainAttrs_list PySem.F.slot_list_append PySem.F.type_list_append mt_append (pv 3) (pa_cons (pe_tup (pa_cons (pe_ix ix_lst (pv 2) (pe_call G_l_next (hr.mono (by decide)) rfl T.mg_l_next T.F_l_next.kp T.b_l_next .nil pass0 (pa_cons (pv 0) (pa_cons pe_int pa_nil))) (fun _ _ => rfl)) (pa_cons (pe_tup (pa_cons (pe_ix ix_lst (pv 6) pe_int (fun _ _ => rfl)) pa_nil)) (pa_cons pe_str pa_nil)))) pa_nil)))) (pss_one (ps_if (pt_cmpR op_eq (pv 5) pe_int (nomark _)) (pss_one (ps_expr (pe_bm PySem.F.plainAttrs_list PySem.F.slot_list_append PySem.F.type_list_append mt_append (pv 3) (pa_cons (pe_tup (pa_cons (pe_ix ix_lst (pe_lst (pa_cons pe_str (pa_cons pe_str (pa_cons pe_str pa_nil)))) (pe_call G_l_next (hr.mono (by decide)) rfl T.mg_l_next T.F_l_next.kp T.b_l_next .nil pass0 (pa_cons (pv 0) (pa_cons pe_int pa_nil))) (fun _ _ => rfl)) (pa_cons (pe_callTy tuple_lst (by rfl) T.n_tuple (by decide +kernel) (pa_cons (pv 6) pa_nil)) (pa_cons pe_str pa_nil)))) pa_nil)))) (pss_one (ps_if (pt_cmpR op_eq (pv 5) pe_int (nomark _)) (pss_one (ps_expr (pe_bm PySem.F.plainAttrs_list PySem.F.slot_list_append PySem.F.type_list_append mt_append (pv 3) (pa_cons (pe_tup (pa_cons (pe_ix ix_lst (pe_lst (pa_cons pe_str (pa_cons pe_str pa_nil))) (pe_call G_l_next (hr.mono (by decide)) rfl T.mg_l_next T.F_l_next.kp T.b_l_next .nil pass0 (pa_cons (pv 0) (pa_cons pe_int pa_nil))) (fun _ _ => rfl)) (pa_cons (pe_tup pa_nil) (pa_cons pe_str pa_nil)))) pa_nil)))) (pss_one (ps_expr (pe_bm PySem.F.plainAttrs_list PySem.F.slot_list_append PySem.F.type_list_append mt_append (pv 3) (pa_cons (pe_tup (pa_cons pe_str (pa_cons (pe_tup (pa_cons (pe_ix ix_lst (pv 6) pe_int (fun _ _ => rfl)) pa_nil)) (pa_cons (pe_ix ix_lst (pe_lst (pa_cons pe_str (pa_cons pe_str (pa_cons pe_str (pa_cons pe_str (pa_cons pe_str pa_nil)))))) (pe_call G_l_next (hr.mono (by decide)) rfl T.mg_l_next T.F_l_next.kp T.b_l_next .nil pass0 (pa_cons (pv 0) (pa_cons pe_int pa_nil))) (fun _ _ => rfl)) pa_nil)))) pa_nil))))))))))))
      (pss_one (ps_ret (pv 3)))))), ?_⟩
    rw [show L2.start N_l_deeds [V.ref h, V.int n] = [some (V.ref h), some (V.int n), none, none, none, none, none] from rfl]
    simp? only [tFor_eq, iRng1]
    refine ⟨szl (by decide), fun ol hol => fun fl hfl => ⟨by omega, by omega, ?_⟩⟩
    obtain ⟨nfo, hfl0⟩ := upd_none hfl
    have s1 := same_new (o := .lst (oneL.map V.str)) hol
    have e1 : (upd H ol (.lst (oneL.map V.str))) ol = some (.lst (oneL.map V.str)) := upd_same
    have s2 := same_new (o := .lst []) hfl
    have e2 := upd_same (H := upd H ol (.lst (oneL.map V.str))) (a := fl) (o := .lst [])
    have D0 : DsAt (upd (upd H ol (.lst (oneL.map V.str))) fl (.lst [])) h l ol fl [] := ⟨X.same (s1.trans s2), s2 _ _ e1, e2, (fun e he => by cases he), X.free hol, X.free hfl0, nfo.symm⟩
    have k0 : Keep [h, l] H (upd (upd H ol (.lst (oneL.map V.str))) fl (.lst [])) := Keep.ofSame (s1.trans s2)
    refine forB_it (for_it walk_range (fun i σ Hm => ∃ (x4 x5 x6 : Option V) (es : List (Addr × D72.Deed)), (DsAt Hm h l ol fl es ∧ Keep [h, l] H Hm ∧ es.length = i) ∧ σ = [some (.ref h), some (.int n), some (.ref ol), some (.ref fl), x4, x5, x6])
      ⟨none, none, none, [], ⟨D0, k0, rfl⟩, rfl⟩ (fun _ _ _ _ _ => trivial) ?_ ?_)
    · rintro i y σ Hm Hm2 hi ⟨x4, x5, x6, es, ⟨Dm, km, ln⟩, rfl⟩ ⟨rfl, rfl⟩
      simp? only [gName]
      refine ⟨fun σ' H3 => ∃ (way a b : Int) (nl : Addr), (DsAt H3 h l ol fl es ∧ Keep [h, l] H H3 ∧ (0 ≤ a ∧ a < 1000 ∧ 0 ≤ b ∧ b < 1000) ∧ a < 10 ∧ nl ∉ [h, l] ∧ H3 nl = some (.lst [.int a, .int b])) ∧ σ' = [some (.ref h), some (.int n), some (.ref ol), some (.ref fl), some (.int (0 + (i : Int))), some (.int way), some (.ref nl)], ?_, ?_⟩
      · simp? only [tPar]
        refine ⟨h, l, 5, rfl, Dm.X, by decide, by decide, fun way H3 _ _ X3 k3 => ⟨h, l, 10, rfl, X3, by decide, by decide, fun a H4 a0 a1 X4 k4 => fun p hp => ?_⟩⟩
        have D4 := (Dm.box X3 k3).box X4 k4
        have sp := same_new (o := .lst [.int 10, .int 1000]) hp
        refine ⟨h, l, 2, rfl, X4.same sp, by decide, by decide, fun r2 H5 r0 r1 X5 k5 => ?_⟩
        have ep : H5 p = some (.lst [.int 10, .int 1000]) := k5 _ _ (X4.free hp) upd_same
        have D5 := (D4.same sp).box X5 k5
        have kk5 : Keep [h, l] H H5 := fun c o n e => k5 c o n (sp c o (k4 c o n (k3 c o n (km c o n e))))
        have fin : ∀ m : Int, 0 < m → m ≤ 1000 → spNext [V.ref h, .int m] H5 (fun x5 H1 => ∀ q, H1 q = none → DsAt (upd H1 q (.lst [.int a, x5])) h l ol fl es ∧ Keep [h, l] H (upd H1 q (.lst [.int a, x5])) ∧ ∃ x6 x7, 0 ≤ x7 ∧ x7 < 1000 ∧ ∃ x8, 0 ≤ x8 ∧ x8 < 1000 ∧ x7 < 10 ∧ ∃ x9, ¬ x9 ∈ [h, l] ∧ upd H1 q (.lst [.int a, x5]) x9 = some (.lst [.int x7, .int x8]) ∧ V.int way = V.int x6 ∧ q = x9) E0 := fun m m0 m1 => by
          refine ⟨h, l, m, rfl, X5, m0, by omega, fun b H6 b0 b1 X6 k6 => fun q hq => ?_⟩
          have sq := same_new (o := .lst [.int a, .int b]) hq
          have nq := X6.free hq
          exact ⟨(D5.box X6 k6).same sq, fun c o n e => sq c o (k6 c o n (kk5 c o n e)), way, a, a0, by omega, b, b0, by omega, a1, q, nq, upd_same, rfl, rfl⟩
        rcases (by omega : r2 = 0 ∨ r2 = 1) with rfl | rfl
        · exact ⟨_, 0, rfl, by rw [ep]; rfl, _, at0, fin 10 (by decide) (by decide)⟩
        · exact ⟨_, 1, rfl, by rw [ep]; rfl, _, at1, fin 1000 (by decide) (by decide)⟩
      rintro σ' H3 ⟨way, a, b, nl, ⟨D3, k3, ⟨a0, a1, b0, b1⟩, a9, nn, en⟩, rfl⟩
      simp? only [D3.ao, en]
      have lo : es.length ≤ 30 := by omega
      have K4 : ∀ {H4 : Hp}, Keep [h, l] H3 H4 → Keep [h, l] H H4 := fun k4 c o n e => k4 c o n (k3 c o n e)
      have app : ∀ {H4 H5 : Hp} {p1 : Addr} {d : D72.Deed}, DsAt H4 h l ol fl es → Keep [h, l] H H4 → Same H4 H5 → DeedAt H5 p1 d → DeedSm d → D72.GdD d → H5 fl = some (.lst (es.map fun e => V.ref e.1)) ∧ (es.map fun e => V.ref e.1).length < sizeLine ∧ DsAt (upd H5 fl (.lst ((es.map fun e => V.ref e.1) ++ [V.ref p1]))) h l ol fl (es ++ [(p1, d)]) ∧ Keep [h, l] H (upd H5 fl (.lst ((es.map fun e => V.ref e.1) ++ [V.ref p1]))) ∧ (es ++ [(p1, d)]).length = i + 1 := fun D4 k4 s5 a1 a2 a3 => by
        have D5 := D4.same s5
        refine ⟨D5.af, by rw [List.length_map]; exact szl' (by omega), D5.app a1 a2 a3, fun c o n e => ?_, by rw [List.length_append, ln]; rfl⟩
        rw [upd_ne (fun z => by rw [z, hfl0] at e; cases e)]
        exact s5 c o (k4 c o n e)
      by_cases c0 : way < 2
      · rw [if_pos (decide_eq_true c0)]
        refine ⟨.inl ⟨rfl, _, .inl (.inl D3.af)⟩, h, l, 11, rfl, D3.X, by decide, by decide, fun r H4 r0 r1 X4 k4 => ?_⟩
        have D4 := D3.box X4 k4
        have en4 := k4 _ _ nn en
        obtain ⟨wd, hwd⟩ : ∃ wd, oneL[r.toNat]? = some wd := ⟨_, List.getElem?_eq_getElem (show r.toNat < 11 by omega)⟩
        have hm := List.mem_of_getElem? hwd
        refine ⟨_, r, rfl, by rw [D4.ao]; rfl, .str wd, by
          have z : r = ((r.toNat : Nat) : Int) := by omega
          rw [z]
          exact atI_nat (by rw [List.getElem?_map, hwd]; rfl), _, by rw [en4]; rfl, _, at0, fun p hp => fun p1 hp1 => ?_⟩
        have sp := same_new (o := .tup [.int a]) hp
        have ep := upd_same (H := H4) (a := p) (o := .tup [.int a])
        have sp1 := same_new (o := .tup [.str wd, .ref p, .str (Str.ofString "")]) hp1
        have all : oneL.all (fun w => decide (D72.many w = some 1 ∧ w ≠ "ask" ∧ w.length ≤ 100)) = true := by decide +kernel
        obtain ⟨w1, w2, w3⟩ := of_decide_eq_true (List.all_eq_true.mp all wd hm)
        obtain ⟨f1, f2, f3, f4, f5⟩ := app (p1 := p1) (d := ⟨wd, [a], Str.empty⟩) D4 (K4 k4) (sp.trans sp1) ⟨p, upd_same, sp1 _ _ ep⟩ ⟨w3, Nat.zero_le _, by show 1 ≤ 10; decide, fun n hn => by rw [List.mem_singleton.mp hn]; exact ⟨a0, a1⟩⟩ ⟨fun n hn => by rw [List.mem_singleton.mp hn]; exact ⟨a0, a1⟩, fun z => (w2 z).elim, fun _ => ⟨w1, rfl⟩⟩
        exact ⟨_, f1, f2, _, _, _, _, f3, f4, f5, rfl, rfl, rfl⟩
      rw [if_neg (by simpa using c0)]
      by_cases c2 : way = 2
      · rw [if_pos (decide_eq_true c2)]
        refine ⟨.inl ⟨rfl, _, .inl (.inl D3.af)⟩, fun q hq => ?_⟩
        have sq := same_new (o := .lst ((["rise", "arm", "turn"] : List Str).map V.str)) hq
        refine ⟨h, l, 3, rfl, D3.X.same sq, by decide, by decide, fun r H4 r0 r1 X4 k4 => ?_⟩
        have D4 := (D3.same sq).box X4 k4
        have kk4 : Keep [h, l] H3 H4 := fun c o n e => k4 c o n (sq c o e)
        have en4 := kk4 _ _ nn en
        have eq4 : H4 q = some (.lst ((["rise", "arm", "turn"] : List Str).map V.str)) := k4 _ _ (D3.X.free hq) upd_same
        obtain ⟨wd, hwd⟩ : ∃ wd, (["rise", "arm", "turn"] : List Str)[r.toNat]? = some wd := ⟨_, List.getElem?_eq_getElem (show r.toNat < 3 by omega)⟩
        have hm := List.mem_of_getElem? hwd
        refine ⟨_, r, rfl, by rw [eq4]; rfl, .str wd, by
          have z : r = ((r.toNat : Nat) : Int) := by omega
          rw [z]
          exact atI_nat (by rw [List.getElem?_map, hwd]; rfl), _, by rw [en4]; rfl, fun p hp => fun p1 hp1 => ?_⟩
        have sp := same_new (o := .tup [.int a, .int b]) hp
        have ep := upd_same (H := H4) (a := p) (o := .tup [.int a, .int b])
        have sp1 := same_new (o := .tup [.str wd, .ref p, .str (Str.ofString "")]) hp1
        have all : (["rise", "arm", "turn"] : List Str).all (fun w => decide (D72.many w = some 2 ∧ w ≠ "ask" ∧ w.length ≤ 100)) = true := by decide +kernel
        obtain ⟨w1, w2, w3⟩ := of_decide_eq_true (List.all_eq_true.mp all wd hm)
        have nb : ∀ n ∈ [a, b], 0 ≤ n ∧ n < 1000 := fun n hn => by
          rcases List.mem_cons.mp hn with e | e
          · rw [e]; exact ⟨a0, a1⟩
          · rw [List.mem_singleton.mp e]; exact ⟨b0, b1⟩
        obtain ⟨f1, f2, f3, f4, f5⟩ := app (p1 := p1) (d := ⟨wd, [a, b], Str.empty⟩) D4 (K4 kk4) (sp.trans sp1) ⟨p, upd_same, sp1 _ _ ep⟩ ⟨w3, Nat.zero_le _, by show 2 ≤ 10; decide, nb⟩ ⟨nb, fun z => (w2 z).elim, fun _ => ⟨w1, rfl⟩⟩
        exact ⟨_, f1, f2, _, _, _, _, f3, f4, f5, rfl, rfl, rfl⟩
      rw [if_neg (by simpa using c2)]
      by_cases c3 : way = 3
      · rw [if_pos (decide_eq_true c3)]
        refine ⟨.inl ⟨rfl, _, .inl (.inl D3.af)⟩, fun q hq => ?_⟩
        have sq := same_new (o := .lst ((["letters", "leaders"] : List Str).map V.str)) hq
        refine ⟨h, l, 2, rfl, D3.X.same sq, by decide, by decide, fun r H4 r0 r1 X4 k4 => ?_⟩
        have D4 := (D3.same sq).box X4 k4
        have kk4 : Keep [h, l] H3 H4 := fun c o n e => k4 c o n (sq c o e)
        have eq4 : H4 q = some (.lst ((["letters", "leaders"] : List Str).map V.str)) := k4 _ _ (D3.X.free hq) upd_same
        obtain ⟨wd, hwd⟩ : ∃ wd, (["letters", "leaders"] : List Str)[r.toNat]? = some wd := ⟨_, List.getElem?_eq_getElem (show r.toNat < 2 by omega)⟩
        have hm := List.mem_of_getElem? hwd
        refine ⟨_, r, rfl, by rw [eq4]; rfl, .str wd, by
          have z : r = ((r.toNat : Nat) : Int) := by omega
          rw [z]
          exact atI_nat (by rw [List.getElem?_map, hwd]; rfl), fun p hp => fun p1 hp1 => ?_⟩
        have sp := same_new (o := .tup []) hp
        have ep := upd_same (H := H4) (a := p) (o := .tup [])
        have sp1 := same_new (o := .tup [.str wd, .ref p, .str (Str.ofString "")]) hp1
        have all : (["letters", "leaders"] : List Str).all (fun w => decide (D72.many w = some 0 ∧ w ≠ "ask" ∧ w.length ≤ 100)) = true := by decide +kernel
        obtain ⟨w1, w2, w3⟩ := of_decide_eq_true (List.all_eq_true.mp all wd hm)
        obtain ⟨f1, f2, f3, f4, f5⟩ := app (p1 := p1) (d := ⟨wd, [], Str.empty⟩) D4 (K4 kk4) (sp.trans sp1) ⟨p, upd_same, sp1 _ _ ep⟩ ⟨w3, Nat.zero_le _, Nat.zero_le _, (fun n hn => by cases hn)⟩ ⟨(fun n hn => by cases hn), fun z => (w2 z).elim, fun _ => ⟨w1, rfl⟩⟩
        exact ⟨_, f1, f2, _, _, _, _, f3, f4, f5, rfl, rfl, rfl⟩
      rw [if_neg (by simpa using c3)]
      refine ⟨.inl ⟨rfl, _, .inl (.inl D3.af)⟩, fun p hp => fun q hq => ?_⟩
      have sp := same_new (o := .tup [.int a]) hp
      have ep := upd_same (H := H3) (a := p) (o := .tup [.int a])
      have sq := same_new (o := .lst ((["begin", "put t 1 2", "pick  x", "-", "07 ask"] : List Str).map V.str)) hq
      have X5 := (D3.X.same sp).same sq
      refine ⟨h, l, 5, rfl, X5, by decide, by decide, fun r H4 r0 r1 X4 k4 => ?_⟩
      have D4 := ((D3.same sp).same sq).box X4 k4
      have kk4 : Keep [h, l] H3 H4 := fun c o n e => k4 c o n (sq c o (sp c o e))
      have eq4 : H4 q = some (.lst ((["begin", "put t 1 2", "pick  x", "-", "07 ask"] : List Str).map V.str)) := k4 _ _ ((D3.X.same sp).free hq) upd_same
      have ep4 : H4 p = some (.tup [.int a]) := k4 _ _ (D3.X.free hp) (sq _ _ ep)
      obtain ⟨wd, hwd⟩ : ∃ wd, (["begin", "put t 1 2", "pick  x", "-", "07 ask"] : List Str)[r.toNat]? = some wd := ⟨_, List.getElem?_eq_getElem (show r.toNat < 5 by omega)⟩
      have hm := List.mem_of_getElem? hwd
      refine ⟨_, r, rfl, by rw [eq4]; rfl, .str wd, by
        have z : r = ((r.toNat : Nat) : Int) := by omega
        rw [z]
        exact atI_nat (by rw [List.getElem?_map, hwd]; rfl), fun p1 hp1 => ?_⟩
      have sp1 := same_new (o := .tup [.str (Str.ofString "ask"), .ref p, .str wd]) hp1
      have all : (["begin", "put t 1 2", "pick  x", "-", "07 ask"] : List Str).all (fun w => decide (w ≠ Str.empty ∧ 10 ∉ TL.tl w ∧ w.length ≤ 100)) = true := by decide +kernel
      obtain ⟨w1, w2, w3⟩ := of_decide_eq_true (List.all_eq_true.mp all wd hm)
      obtain ⟨f1, f2, f3, f4, f5⟩ := app (p1 := p1) (d := ⟨Str.ofString "ask", [a], wd⟩) D4 (K4 kk4) sp1 ⟨p, upd_same, sp1 _ _ ep4⟩ ⟨by show (Str.ofString "ask").length ≤ 100; decide +kernel, w3, by show 1 ≤ 10; decide, fun n hn => by rw [List.mem_singleton.mp hn]; exact ⟨a0, a1⟩⟩ ⟨fun n hn => by rw [List.mem_singleton.mp hn]; exact ⟨a0, a1⟩, fun _ => ⟨⟨a, rfl⟩, w1, w2⟩, fun z => (z rfl).elim⟩
      exact ⟨_, f1, f2, _, _, _, _, f3, f4, f5, rfl, rfl, rfl⟩
    · rintro σ Hm ⟨x4, x5, x6, es, ⟨Dm, km, ln⟩, rfl⟩
      simp? only []
      exact k Hm fl es hfl0 Dm.X km Dm.af Dm.eg (by omega)
end

/-! days as texts: _law_is_row -/
theorem cutV_from (xs : List V) (k : Nat) : cutV xs (some (k : Int)) none = xs.drop k := by
  unfold cutV
  rw [HT.sIx_none, HT.sIx_nat]
  by_cases h : k ≤ xs.length
  · rw [Nat.min_eq_left h]
    exact List.take_of_length_le (by rw [List.length_drop]; omega)
  · rw [Nat.min_eq_right (by omega), List.drop_length, List.drop_eq_nil_of_le (by omega)]
    simp
def base5 : List (Str × Nat) := [("letters", 0), ("leaders", 0), ("rise", 2), ("arm", 2), ("turn", 2)]
def mkD (L : List (Str × Nat)) : List (Key × V) := L.map fun e => ((Sum.inr e.1 : Key), V.int (e.2 : Nat))
theorem mkD_app (L M : List (Str × Nat)) : mkD (L ++ M) = mkD L ++ mkD M := List.map_append
theorem mkD_val : ∀ (L : List (Str × Nat)) (w : Str), valV (mkD L) (Sum.inr w : Key) = (lkT L w).map fun n : Nat => V.int (n : Int)
  | [], w => rfl
  | e :: L, w => by
    have ih := mkD_val L w
    by_cases c : e.1 = w
    · show valV (((Sum.inr e.1 : Key), V.int (e.2 : Nat)) :: mkD L) _ = _
      rw [valV_pos (by rw [c])]
      unfold lkT
      rw [List.find?_cons_of_pos (p := fun e : Str × Nat => decide (e.1 = w)) (decide_eq_true c)]
      rfl
    · show valV (((Sum.inr e.1 : Key), V.int (e.2 : Nat)) :: mkD L) _ = _
      rw [valV_neg (fun z => c (Sum.inr.inj z)), ih]
      unfold lkT
      rw [List.find?_cons_of_neg (p := fun e : Str × Nat => decide (e.1 = w)) (by simpa using c)]
def spIsRow : Sp := fun vs H Q _ => ∃ x : Str, vs = [.str x] ∧ x.length ≤ 60000 ∧ ∀ H', Same H H' → Q (.bl (D72.isRow x)) H'
section
variable {P : Program} {w : World} {K : PySem.W.Frag} {mg : Str → Option Value} {base : Heap}
theorem ok_l_is_row (T : Txt K mg w) : FnOk P w K mg base CX0 2 T.f_l_is_row T.fd_l_is_row ["_law_row_here"] spIsRow := by
  have G_l_is_number : FnOk P w K mg base CX0 1 T.f_l_is_number T.fd_l_is_number ["_law_word"] spIsNum := ok_l_is_number T
  refine T.F_l_is_row.ok sc_l_is_row (fun vs H Q E h => ?_) (fun cdv Ar outer s0 H vs Q E hr h => ?_)
  · obtain ⟨x, rfl, _⟩ := h
    rfl
  · obtain ⟨x, rfl, hx, k⟩ := h
    have hu := hu_of hr
    have hu64 := hu64_of hr
    refine ⟨_, (pss_cons (ps_set (i := 1) sc_l_is_row.nd rfl (Or.inl rfl) (pe_split (pv 0) pe_str))
      (Evl.pss_cut (ps_if (pt_cmpR op_eq (pe_ix ix_lst (pv 1) pe_int (fun _ _ => rfl)) pe_str (nomark _)) (pss_one (ps_ret (pe_and (pe_cmpR op_gt (pe_callB len_lst (by rfl) T.n_len PySem.boot_len (pa_cons (pv 1) pa_nil)) pe_int (nomark _)) (pe_and (pe_call G_l_is_number (hr.mono (by decide)) rfl T.mg_l_is_number T.F_l_is_number.kp T.b_l_is_number .nil pass0 (pa_cons (pe_ix ix_lst (pv 1) pe_int (fun _ _ => rfl)) pa_nil)) (pe_one (pe_cmpR op_ne (pe_join pe_str (pe_slice sl_list (pv 1) (po_some pe_int) po_none)) pe_str (nomark _))))))) pss_nil)
      (Evl.pss_cut (ps_set (i := 2) sc_l_is_row.nd rfl (Or.inl rfl) (pe_disp (pps_cons pe_str pe_int (pps_cons pe_str pe_int (pps_cons pe_str pe_int (pps_cons pe_str pe_int (pps_cons pe_str pe_int pps_nil))))) rfl rfl (by intro q; cases q) (by decide)))
      (Evl.pss_cut (ps_set (i := 3) sc_l_is_row.nd rfl (Or.inl rfl) (pe_lst (pa_cons pe_str (pa_cons pe_str (pa_cons pe_str (pa_cons pe_str (pa_cons pe_str (pa_cons pe_str (pa_cons pe_str (pa_cons pe_str (pa_cons pe_str pa_nil)))))))))))
      (Evl.pss_cut (ps_for PassesOwn.never rfl (pi_listK K rfl (pe_op op_cat (pv 3) (pe_lst (pa_cons pe_str (pa_cons pe_str pa_nil))))) (pg_name (i := 4) sc_l_is_row.nd rfl (Or.inl rfl)) (pss_one (ps_put hu (pv 2) (pv 4) pe_int rfl)))
      (Evl.pss_cut (ps_setLc (i := 5) (own := [("_law_word", 4)]) (g := gName 4) rfl sc_l_is_row.nd rfl rfl (sw_true rfl rfl rfl (by decide +kernel)) (pi_listK K rfl (pe_slice sl_list (pv 1) (po_some pe_int) po_none)) (blkOk_by (N := N_l_is_row) (sc := defScope s_l_is_row) (by decide +kernel)) (fun _ _ _ _ _ => (pg_name (i := 4) sc_l_is_row.nd rfl (Or.inl rfl))) (fun _ _ _ _ _ => pts_one (pt_val (pe_call G_l_is_number (hr.mono (by decide)) rfl T.mg_l_is_number T.F_l_is_number.kp T.b_l_is_number .nil pass0 (pa_cons (pv 4) pa_nil)))) (fun _ _ _ _ _ => (pv 4)))
      (pss_one (ps_ret (pe_and (pe_cmpR op_eq (pe_get2 hu (pv 2) (pe_ix ix_lst (pv 1) pe_int (fun _ _ => rfl)) (pe_un un_neg pe_int)) (pe_op op_sub (pe_callB len_lst (by rfl) T.n_len PySem.boot_len (pa_cons (pv 1) pa_nil)) pe_int) (nomark _)) (pe_one (pe_cmpR op_eq (pe_callB len_lst (by rfl) T.n_len PySem.boot_len (pa_cons (pv 5) pa_nil)) (pe_op op_sub (pe_callB len_lst (by rfl) T.n_len PySem.boot_len (pa_cons (pv 1) pa_nil)) pe_int) (nomark _)))))))))))), ?_⟩
    rw [show L2.start N_l_is_row [V.str x] = [some (V.str x), none, none, none, none, none] from rfl]
    simp? only []
    refine ⟨by decide +kernel, szl (show _ ≤ 100000 by omega), fun wl hwl => ?_⟩
    have s1 := same_new (o := .lst ((Txt.split x D72.sp).map V.str)) hwl
    have ew : (upd H wl (.lst ((Txt.split x D72.sp).map V.str))) wl = some (.lst ((Txt.split x D72.sp).map V.str)) := upd_same
    have sl := D72.split_len x
    have smw : ∀ y ∈ Txt.split x D72.sp, y.length ≤ 60001 := fun y hy => by
      have := D72.len_sum hy
      omega
    have kk : ∀ H', Same H H' → Q (.bl (D72.rowW (Txt.split x D72.sp))) H' := k
    change Evl.tCut _ _ _ _ (upd H wl (.lst ((Txt.split x D72.sp).map V.str)))
    generalize upd H wl (.lst ((Txt.split x D72.sp).map V.str)) = H1 at s1 ew ⊢
    obtain ⟨word, rest, es⟩ : ∃ word rest, Txt.split x D72.sp = word :: rest := by
      cases e : Txt.split x D72.sp with
      | nil => exact (D72.split_ne x e).elim
      | cons a b => exact ⟨a, b, rfl⟩
    rw [es] at ew sl smw kk
    have ew : H1 wl = some (.lst (V.str word :: rest.map V.str)) := ew
    refine ⟨fun σ' H2 => (H1 = H2 ∧ word ≠ "ask") ∧ σ' = [some (.str x), some (.ref wl), none, none, none, none], ?_, ?_⟩
    · simp? only [ew]
      by_cases c : word = "ask"
      · rw [if_pos (decide_eq_true c)]
        cases rest with
        | nil =>
          rw [if_neg (by simp)]
          have z := kk _ s1
          unfold D72.rowW at z
          dsimp only at z
          rw [if_pos c] at z
          exact z
        | cons r q =>
          have kk : ∀ H', Same H H' → Q (.bl (decide (q ≠ []) && D72.isNum r && decide (Txt.join D72.sp q ≠ Str.empty))) H' := fun H' s' => by
            have z := kk H' s'
            unfold D72.rowW at z
            dsimp only at z
            rw [if_pos c] at z
            exact z
          cases q with
          | nil =>
            rw [if_neg (by simp)]
            exact kk _ s1
          | cons r2 q =>
            rw [if_pos (by simp only [List.length_cons, decide_eq_true_eq]; omega)]
            refine ⟨.str r, at1, r, rfl, by have := smw r (by simp); omega, fun H2 s2 => ⟨_, rfl, ?_⟩⟩
            by_cases cn : D72.isNum r = true
            · rw [if_pos cn]
              simp? only [rSlL]
              have ec : cutV (V.str word :: (r :: r2 :: q).map V.str) (some 2) none = (r2 :: q).map V.str := by
                rw [show (some (2 : Int)) = some ((2 : Nat) : Int) from rfl, cutV_from]
                rfl
              refine ⟨_, .inl (.inl (s2 _ _ ew)), fun p hp => ?_⟩
              rw [ec]
              have sp := same_new (o := .lst ((r2 :: q).map V.str)) hp
              refine ⟨r2 :: q, .inl (.inl (.inl upd_same)), ?_, ?_⟩
              · have l1 : (Str.ofString " ").length = 1 := by decide +kernel
                rw [l1]
                simp only [List.map_cons, List.sum_cons, List.length_cons] at sl ⊢
                omega
              · have z := kk _ (s1.trans (s2.trans sp))
                rw [cn] at z
                have z : Q (.bl (!decide (Txt.join D72.sp (r2 :: q) = Str.empty))) (upd H2 p (.lst ((r2 :: q).map V.str))) := by simpa using z
                exact z
            · rw [if_neg cn]
              have z := kk H2 (s1.trans s2)
              rw [Bool.eq_false_iff.mpr cn] at z
              simpa using z
      · rw [if_neg (by simpa using c)]
        exact c
    rintro σ' _ ⟨⟨rfl, nw⟩, rfl⟩
    refine ⟨fun σ' H2 => ∃ md, (Same H1 H2 ∧ H1 md = none ∧ H2 md = some (.dK (base5.map fun e => ((Sum.inr e.1 : Key), V.int (e.2 : Nat))))) ∧ σ' = [some (.str x), some (.ref wl), some (.ref md), none, none, none], ?_, ?_⟩
    · simp? only [tDisp, tPairs]
      exact fun p hp => ⟨base5.map fun e => ((Sum.inr e.1 : Key), V.int (e.2 : Nat)), rfl, by decide, same_new hp, p, hp, by rw [upd_same]; rfl, rfl⟩
    rintro σ' H2 ⟨md, ⟨s2, nm1, em⟩, rfl⟩
    refine ⟨fun σ' H3 => ∃ ol, (Same H2 H3 ∧ H3 ol = some (.lst ((oneL.take 9).map V.str))) ∧ σ' = [some (.str x), some (.ref wl), some (.ref md), some (.ref ol), none, none], ?_, ?_⟩
    · simp? only []
      exact ⟨szl (by decide), fun p hp => ⟨same_new hp, p, upd_same, rfl⟩⟩
    rintro σ' H3 ⟨ol, ⟨s3, eo⟩, rfl⟩
    have em3 := s3 _ _ em
    refine ⟨fun σ' H4 => ∃ (x4 : Option V), (Keep [md] H3 H4 ∧ H4 md = some (.dK (mkD (base5 ++ oneL.map fun w => ((w, 1) : Str × Nat))))) ∧ σ' = [some (.str x), some (.ref wl), some (.ref md), some (.ref ol), x4, none], ?_, ?_⟩
    · simp? only [tFor_eq, iList, eo]
      intro p hp
      have s4 := same_new (o := .lst ((["dealings", "shown"] : List Str).map V.str)) hp
      have eo4 := s4 _ _ eo
      refine ⟨_, eo4, szl' (by decide), fun p1 hp1 => ?_⟩
      have s5 := same_new (o := .lst (oneL.map V.str)) hp1
      have e5 := upd_same (H := upd H3 p (.lst ((["dealings", "shown"] : List Str).map V.str))) (a := p1) (o := .lst (oneL.map V.str))
      have em5 := s5 _ _ (s4 _ _ em3)
      refine ⟨⟨oneL.map V.str, .inl (.inl e5)⟩, forB_it (for_it (walk_list (xs := oneL.map V.str)) (fun m σ Hm => ∃ x4, (Keep [md] H3 Hm ∧ Hm md = some (.dK (mkD (base5 ++ (oneL.take m).map fun w => ((w, 1) : Str × Nat)))) ∧ Hm p1 = some (.lst (oneL.map V.str))) ∧ σ = [some (.str x), some (.ref wl), some (.ref md), some (.ref ol), x4, none])
        ⟨none, ⟨Keep.ofSame (s4.trans s5), em5, e5⟩, rfl⟩ (fun _ _ _ _ hh => by obtain ⟨_, ⟨_, _, e⟩, _⟩ := hh; exact .inl (.inl e)) ?_ ?_)⟩
      · rintro m y σ Hm Hm2 hm ⟨x4, ⟨km, emm, e1m⟩, rfl⟩ hy
        rw [List.length_map] at hm
        obtain ⟨wd, he⟩ : ∃ wd, oneL[m]? = some wd := ⟨_, List.getElem?_eq_getElem hm⟩
        obtain ⟨rfl, rfl⟩ := yat_of he hy
        simp? only [emm]
        have hm11 : m < 11 := hm
        have pn : putK (mkD (base5 ++ (oneL.take m).map fun w => ((w, 1) : Str × Nat))) (Sum.inr wd) (.int 1) = mkD (base5 ++ (oneL.take (m + 1)).map fun w => ((w, 1) : Str × Nat)) := by
          rw [putK_new]
          · rw [List.take_succ, he, Option.toList_some, List.map_append, ← List.append_assoc]
            exact (mkD_app (base5 ++ (oneL.take m).map fun w => ((w, 1) : Str × Nat)) [(wd, 1)]).symm
          · rw [mkD_val]
            have z : (List.range 11).all (fun m => decide (lkT (base5 ++ (oneL.take m).map fun w => ((w, 1) : Str × Nat)) (oneL.getD m "") = none)) = true := by decide +kernel
            have z := of_decide_eq_true (List.all_eq_true.mp z m (List.mem_range.mpr hm11))
            rw [List.getD_eq_getElem?_getD, he, Option.getD_some] at z
            rw [z]
            rfl
        have n1 : p1 ≠ md := fun z => by rw [z, emm] at e1m; cases e1m
        refine ⟨?_, ?_⟩
        · unfold mkD
          rw [List.length_map, List.length_append, List.length_map, List.length_take]
          exact szl' (by show 5 + min m 11 < 100000; omega)
        · rw [pn]
          exact ⟨km.upd (by simp), rfl, by rw [upd_ne n1]; exact e1m⟩
      · rintro σ Hm ⟨x4, ⟨km, emm, e1m⟩, rfl⟩
        simp? only []
        exact ⟨km, emm⟩
    rintro σ' H4 ⟨x4, ⟨k4, em4⟩, rfl⟩
    have nwm : wl ≠ md := fun z => by rw [z, nm1] at ew; cases ew
    have ew4 : H4 wl = some (.lst (V.str word :: rest.map V.str)) := k4 _ _ (by simpa using nwm) (s3 _ _ (s2 _ _ ew))
    have s14 : Same H1 H4 := fun b o e => k4 b o (by simp only [List.mem_singleton]; exact fun z => by rw [z, nm1] at e; cases e) (s3 _ _ (s2 _ _ e))
    have s04 := s1.trans s14
    have lr : rest.length ≤ 60001 := by simp only [List.map_cons, List.sum_cons, List.length_cons] at sl; omega
    refine ⟨fun σ' H5 => ∃ (gl : Addr) (y4 : Option V), (Same H4 H5 ∧ H5 gl = some (.lst ((rest.filter D72.isNum).map V.str))) ∧ σ' = [some (.str x), some (.ref wl), some (.ref md), some (.ref ol), y4, some (.ref gl)], ?_, ?_⟩
    · simp? only [tLc_eq, iList, rSlL]
      have ec : cutV (V.str word :: rest.map V.str) (some 1) none = rest.map V.str := by
        rw [show (some (1 : Int)) = some ((1 : Nat) : Int) from rfl, cutV_from]
        rfl
      refine ⟨_, .inl (.inl ew4), fun p hp => ?_⟩
      rw [ec]
      have sp := same_new (o := .lst (rest.map V.str)) hp
      have ep := upd_same (H := H4) (a := p) (o := .lst (rest.map V.str))
      generalize upd H4 p (.lst (rest.map V.str)) = H5 at sp ep ⊢
      refine ⟨⟨_, .inl (.inl ep)⟩, lc_ents (walk_list (xs := rest.map V.str)) rest D72.isNum (fun w y _ => y = .str w) (by rw [List.length_map]) (by omega) (fun H6 s => .inl (.inl (s _ _ ep))) yat_same (fun _ _ _ _ _ h _ _ => h) (fun j w y H6 H7 Q2 N he s6 hy g1 g2 => ?_) fun D H6 zs hD e1 s6 e2 e3 => ?_⟩
      · obtain ⟨rfl, rfl⟩ := yat_of he hy
        simp? only [gName]
        refine ⟨w, rfl, by have := smw w (List.mem_cons_of_mem _ (List.mem_of_getElem? he)); omega, fun H8 s8 => ⟨_, rfl, ?_⟩⟩
        by_cases cn : D72.isNum w = true
        · rw [if_pos cn]
          exact g1 cn _ _ s8 rfl
        · rw [if_neg cn]
          exact g2 (Bool.eq_false_iff.mpr cn) _ s8
      · rw [zs_vals (f := fun w : Str => V.str w) e1 e3] at e2
        exact ⟨sp.trans s6, D, e2, rfl⟩
    rintro σ' H5 ⟨gl, y4, ⟨s5, eg⟩, rfl⟩
    have ew5 := s5 _ _ ew4
    have em5 := s5 _ _ em4
    have vm := mkD_val (base5 ++ oneL.map fun w => ((w, 1) : Str × Nat)) word
    have pm : (base5 ++ oneL.map fun w => ((w, 1) : Str × Nat)).Perm D72.forms := by decide +kernel
    have nd : ((base5 ++ oneL.map fun w => ((w, 1) : Str × Nat)).map (·.1)).Nodup := by decide +kernel
    have vm : valV (mkD (base5 ++ oneL.map fun w => ((w, 1) : Str × Nat))) (Sum.inr word : Key) = (D72.many word).map fun n : Nat => V.int (n : Int) := by
      rw [vm]
      exact congrArg (Option.map fun n : Nat => V.int (n : Int)) (D72.many_of pm nd word)
    have kq := kk H5 (s04.trans s5)
    unfold D72.rowW at kq
    dsimp only at kq
    rw [if_neg nw] at kq
    simp? only [ew5, em5, eg]
    rw [vm]
    have fl : ((rest.filter D72.isNum).length = rest.length) ↔ rest.all D72.isNum = true := by
      rw [List.length_filter_eq_length_iff, List.all_eq_true]
    cases hm : D72.many word with
    | none =>
      refine ⟨rfl, ?_⟩
      rw [hm] at kq
      have e : ¬ (((-1 : Int)) = ((rest.length + 1 : Nat) : Int) - 1) := by omega
      rw [if_neg (by simpa using e)]
      simpa using kq
    | some n =>
      refine ⟨rfl, ?_⟩
      rw [hm] at kq
      by_cases c : n = rest.length
      · rw [if_pos (by rw [c]; simp)]
        have z : decide ((((rest.filter D72.isNum).length : Nat) : Int) = ((rest.length + 1 : Nat) : Int) - 1) = rest.all D72.isNum := by
          rw [Bool.eq_iff_iff, decide_eq_true_iff, ← fl]
          omega
        rw [z]
        rw [decide_eq_true (show some n = some rest.length by rw [c]), Bool.true_and] at kq
        exact kq
      · rw [if_neg (by simp; omega)]
        rw [decide_eq_false (show ¬ (some n = some rest.length) from fun z => c (Option.some.inj z)), Bool.false_and] at kq
        exact kq
end

/-! days as texts: deed_in -/
def spDeedIn : Sp := fun vs H Q _ => ∃ x : Str, vs = [.str x] ∧ x.length ≤ 80000 ∧ (D72.deedIn x = none → ∀ H', Same H H' → Q .non H') ∧ ∀ d, D72.deedIn x = some d → ∀ H' a, Same H H' → DeedAt H' a d → Q (.ref a) H'
theorem inV_int (a : Int) : ∀ l : List Int, inV (.int a) (l.map V.int) = decide (a ∈ l)
  | [] => rfl
  | b :: l => by
    have ih := inV_int a l
    unfold inV at ih ⊢
    rw [List.map_cons, List.any_cons, ih]
    by_cases c : a = b
    · subst c
      simp [eqV]
    · simp [eqV, c, Ne.symm c]
section
variable {P : Program} {w : World} {K : PySem.W.Frag} {mg : Str → Option Value} {base : Heap}
theorem ok_deed_in (T : Txt K mg w) : FnOk P w K mg base CX0 2 T.f_deed_in T.fd_deed_in ["line"] spDeedIn := by
  have G_number_in : FnOk P w K mg base CX0 1 T.f_number_in T.fd_number_in ["word"] spNumIn := ok_number_in T
  refine T.F_deed_in.ok sc_deed_in (fun vs H Q E h => ?_) (fun cdv Ar outer s0 H vs Q E hr h => ?_)
  · obtain ⟨x, rfl, _⟩ := h
    rfl
  · obtain ⟨x, rfl, hx, k0, k1⟩ := h
    have hu := hu_of hr
    have hu64 := hu64_of hr
    refine ⟨_, (Evl.pss_cut (ps_asg (pe_split (pv 0) pe_str) (pg_starL (k := 1) rfl (pgs_cons (pg_name (i := 1) sc_deed_in.nd rfl (Or.inl rfl)) (pgs_star (pg_name (i := 2) sc_deed_in.nd rfl (Or.inl rfl))))))
      (Evl.pss_cut (ps_if (pt_cmpR op_eq (pv 1) (pe_glob rfl T.mg_ASK (v := .str "ask") ⟨_, rfl⟩) (nomark _)) (Evl.pss_cut (ps_set (i := 3) sc_deed_in.nd rfl (Or.inl rfl) (pe_ifExp (pt_cmpR (op_neNilA hu64) (pv 2) (pe_lst pa_nil) (nomark _)) (pe_call G_number_in (hr.mono (by decide)) rfl T.mg_number_in T.F_number_in.kp T.b_number_in .nil pass0 (pa_cons (pe_ix ix_lst (pv 2) pe_int (fun _ _ => rfl)) pa_nil)) (pe_un un_neg pe_int)))
        (Evl.pss_cut (ps_set (i := 4) sc_deed_in.nd rfl (Or.inl rfl) (pe_join pe_str (pe_slice sl_list (pv 2) (po_some pe_int) po_none)))
        (pss_one (ps_ret (pe_ifExp (PW.pt (pw_and (pt_cmpR op_ge (pv 3) pe_int (nomark _)) (pw_and1 (pt_cmpR op_ne (pv 4) pe_str (nomark _))))) (pe_tup (pa_cons (pv 1) (pa_cons (pe_tup (pa_cons (pv 3) pa_nil)) (pa_cons (pv 4) pa_nil)))) pe_non))))) pss_nil)
      (Evl.pss_cut (ps_set (i := 5) sc_deed_in.nd rfl (Or.inl rfl) (pe_callTy tuple_lst (by rfl) T.n_tuple (by decide +kernel) (pa_cons (pe_lc (own := [("one", 6)]) (g := gName 6) (tt := tYes) rfl sc_deed_in.nd (pi_listK K rfl (pv 2)) (blkOk_by (N := N_deed_in) (sc := defScope s_deed_in) (by decide +kernel)) (fun _ _ _ _ _ => (pg_name (i := 6) sc_deed_in.nd rfl (Or.inl rfl))) (fun _ _ _ _ _ => pts_nil) (fun _ _ _ _ _ => (pe_call G_number_in (hr.mono (by decide)) rfl T.mg_number_in T.F_number_in.kp T.b_number_in .nil pass0 (pa_cons (pv 6) pa_nil)))) pa_nil)))
      (Evl.pss_cut (ps_if (PW.pt (pw_or (pt_cmpR (op_notInTx T.D_FORMS) (pv 1) (pe_glob rfl T.mg_FORMS (v := .ref T.a_FORMS) rfl) (by rfl)) (pw_or (pt_cmpR op_ne (pe_callB len_tp (by rfl) T.n_len PySem.boot_len (pa_cons (pv 5) pa_nil)) (pe_ix (ix_tx T.D_FORMS) (pe_glob rfl T.mg_FORMS (v := .ref T.a_FORMS) rfl) (pv 1) (fun _ _ => rfl)) (nomark _)) (pw_or1 (pt_cmpR op_inT (pe_un un_neg pe_int) (pv 5) (by rfl)))))) (pss_one (ps_ret pe_non)) pss_nil)
      (pss_one (ps_ret (pe_tup (pa_cons (pv 1) (pa_cons (pv 5) (pa_cons pe_str pa_nil)))))))))), ?_⟩
    rw [show L2.start N_deed_in [V.str x] = [some (V.str x), none, none, none, none, none, none] from rfl]
    have sl := D72.split_len x
    obtain ⟨word, rest, es⟩ : ∃ word rest, Txt.split x D72.sp = word :: rest := by
      cases e : Txt.split x D72.sp with
      | nil => exact (D72.split_ne x e).elim
      | cons a b => exact ⟨a, b, rfl⟩
    have smw : ∀ y ∈ Txt.split x D72.sp, y.length ≤ 80001 := fun y hy => by
      have := D72.len_sum hy
      omega
    have kd : D72.deedIn x = D72.deedW (word :: rest) := by
      unfold D72.deedIn
      rw [es]
    rw [kd] at k0 k1
    rw [es] at sl smw
    have lr : rest.length ≤ 80001 := by simp only [List.map_cons, List.sum_cons, List.length_cons] at sl; omega
    refine ⟨fun σ' H2 => ∃ rl, (Same H H2 ∧ H2 rl = some (.lst (rest.map V.str))) ∧ σ' = [some (.str x), some (.str word), some (.ref rl), none, none, none, none], ?_, ?_⟩
    · simp? only []
      refine ⟨by decide +kernel, szl (show _ ≤ 100000 by omega), fun wl hwl => ?_⟩
      have es' : Txt.split x (Str.ofString " ") = word :: rest := es
      rw [es']
      refine ⟨by simp, fun p hp => ⟨_, _, rfl, _, _, rfl, rfl, Same.trans (same_new hwl) (same_new hp), p, upd_same, rfl, rfl⟩⟩
    rintro σ' H2 ⟨rl, ⟨s2, er⟩, rfl⟩
    refine ⟨fun σ' H3 => (H2 = H3 ∧ word ≠ "ask") ∧ σ' = [some (.str x), some (.str word), some (.ref rl), none, none, none, none], ?_, ?_⟩
    · simp? only []
      by_cases c : word = "ask"
      · rw [if_pos (decide_eq_true c)]
        refine ⟨fun σ' H3 => Same H2 H3 ∧ σ' = [some (.str x), some (.str word), some (.ref rl), some (.int (D72.first rest)), none, none, none], ?_, ?_⟩
        · simp? only []
          refine fun p hp => ?_
          have sp := same_new (o := .lst []) hp
          have er3 := sp _ _ er
          have ep := upd_same (H := H2) (a := p) (o := .lst [])
          generalize upd H2 p (.lst []) = H3 at sp er3 ep ⊢
          simp? only [er3, ep]
          cases rest with
          | nil =>
            rw [if_neg (by simp)]
            exact ⟨sp, rfl⟩
          | cons r q =>
            rw [if_pos (by simp)]
            exact ⟨.str r, at0, r, rfl, by have := smw r (by simp); omega, sp, rfl⟩
        rintro σ' H3 ⟨s3, rfl⟩
        have er3 := s3 _ _ er
        refine ⟨fun σ' H4 => Same H3 H4 ∧ σ' = [some (.str x), some (.str word), some (.ref rl), some (.int (D72.first rest)), some (.str (Txt.join D72.sp (rest.drop 1))), none, none], ?_, ?_⟩
        · simp? only [rSlL]
          refine ⟨_, .inl (.inl er3), fun p hp => ?_⟩
          have ec : cutV (rest.map V.str) (some 1) none = (rest.drop 1).map V.str := by
            rw [show (some (1 : Int)) = some ((1 : Nat) : Int) from rfl, cutV_from, List.map_drop]
          rw [ec]
          have sp := same_new (o := .lst ((rest.drop 1).map V.str)) hp
          refine ⟨rest.drop 1, .inl (.inl (.inl upd_same)), ?_, sp, rfl⟩
          have l1 : (Str.ofString " ").length = 1 := by decide +kernel
          rw [l1, List.length_drop]
          cases rest with
          | nil => simp
          | cons r q =>
            simp only [List.map_cons, List.sum_cons, List.length_cons, List.drop_succ_cons, List.drop_zero] at sl ⊢
            omega
        rintro σ' H4 ⟨s4, rfl⟩
        simp? only []
        unfold D72.deedW at k0 k1
        dsimp only at k0 k1
        rw [if_pos c] at k0
        simp only [if_pos c] at k1
        have s04 := s2.trans (s3.trans s4)
        by_cases c1 : 0 ≤ D72.first rest
        · rw [if_pos (decide_eq_true c1)]
          by_cases c2 : Txt.join D72.sp (rest.drop 1) = Str.empty
          · rw [if_neg (by rw [decide_eq_true (show Txt.join D72.sp (rest.drop 1) = Str.ofString "" from c2)]; decide)]
            exact k0 (if_neg fun z => z.2 c2) _ s04
          · rw [if_pos (by rw [decide_eq_false (show ¬ Txt.join D72.sp (rest.drop 1) = Str.ofString "" from c2)]; rfl)]
            refine fun p hp => fun p2 hp2 => ?_
            have sp := same_new (o := .tup [.int (D72.first rest)]) hp
            have ep := upd_same (H := H4) (a := p) (o := .tup [.int (D72.first rest)])
            have sp2 := same_new (o := .tup [.str word, .ref p, .str (Txt.join D72.sp (rest.drop 1))]) hp2
            exact k1 _ (if_pos ⟨c1, c2⟩) _ _ (s04.trans (sp.trans sp2)) ⟨p, upd_same, sp2 _ _ ep⟩
        · rw [if_neg (by simpa using c1)]
          exact k0 (if_neg fun z => c1 z.1) _ s04
      · rw [if_neg (by simpa using c)]
        exact c
    rintro σ' _ ⟨⟨rfl, nw⟩, rfl⟩
    unfold D72.deedW at k0 k1
    dsimp only at k0 k1
    rw [if_neg nw] at k0
    simp only [if_neg nw] at k1
    refine ⟨fun σ' H3 => ∃ (nl : Addr) (y6 : Option V), (Same H2 H3 ∧ H3 nl = some (.tup ((rest.map D72.numIn).map V.int))) ∧ σ' = [some (.str x), some (.str word), some (.ref rl), none, none, some (.ref nl), y6], ?_, ?_⟩
    · simp? only [tLc_eq, iList]
      refine ⟨⟨_, .inl (.inl er)⟩, lc_all (walk_list (xs := rest.map V.str)) rest (fun r y _ => y = .int (D72.numIn r)) (by rw [List.length_map]) (by omega) (fun H6 s => .inl (.inl (s _ _ er))) yat_same (fun _ _ _ _ _ h _ _ => h) (fun j r y H6 H7 Q2 he s6 hy k2 => ?_) fun D H6 zs hD e1 s6 e2 e3 => ?_⟩
      · obtain ⟨rfl, rfl⟩ := yat_of he hy
        simp? only [gName]
        exact ⟨r, rfl, by have := smw r (List.mem_cons_of_mem _ (List.mem_of_getElem? he)); omega, k2 _ _ (Same.refl _) rfl⟩
      · rw [zs_vals (f := fun r : Str => V.int (D72.numIn r)) e1 e3] at e2
        refine ⟨D, rfl, _, by rw [e2]; rfl, fun q hq => ⟨s6.trans (same_new hq), q, by rw [upd_same, List.map_map]; rfl, rfl⟩⟩
    rintro σ' H3 ⟨nl, y6, ⟨s3, en⟩, rfl⟩
    refine ⟨fun σ' H4 => (H3 = H4 ∧ D72.many word = some rest.length ∧ -1 ∉ rest.map D72.numIn) ∧ σ' = [some (.str x), some (.str word), some (.ref rl), none, none, some (.ref nl), y6], ?_, ?_⟩
    · simp? only [en]
      have no : ¬ (D72.many word = some rest.length ∧ -1 ∉ rest.map D72.numIn) → Q .non H3 := fun z => k0 (if_neg z) _ (s2.trans s3)
      have em : lkT D72.forms word = D72.many word := rfl
      rw [em]
      cases hm : D72.many word with
      | none => exact no (by rw [hm]; simp)
      | some n =>
        rw [if_neg (by simp)]
        refine ⟨n, rfl, ?_⟩
        by_cases c1 : n = rest.length
        · subst c1
          rw [if_neg (by simp)]
          refine ⟨by simp [flatV], ?_⟩
          have iv := inV_int (-1) (rest.map D72.numIn)
          unfold inV eqV at iv
          by_cases c2 : -1 ∈ rest.map D72.numIn
          · rw [if_pos (by first | exact iv.trans (decide_eq_true c2) | simpa using c2)]
            exact no fun z => z.2 c2
          · rw [if_neg (by first | (rw [iv]; simpa using c2) | simpa using c2)]
            exact ⟨rfl, c2⟩
        · rw [if_pos (by simp; omega)]
          exact no fun z => c1 (by rw [hm] at z; exact Option.some.inj z.1)
    rintro σ' _ ⟨⟨rfl, hm, hn⟩, rfl⟩
    simp? only []
    refine fun p hp => ?_
    have sp := same_new (o := .tup [.str word, .ref nl, .str (Str.ofString "")]) hp
    exact k1 _ (if_pos ⟨hm, hn⟩) _ _ (s2.trans (s3.trans sp)) ⟨nl, upd_same, sp _ _ en⟩
end

/-! days as texts: read_day -/
def spReadDay (C : Addr) : Sp := fun vs H Q E => ∃ x : Str, vs = [.str x] ∧ x.length ≤ 79000 ∧
  (D72.bad (D72.rowsOf x) = none → ∀ H' L (es : List (Addr × D72.Deed)), Same H H' → H L = none → H' L = some (.lst (es.map fun e => V.ref e.1)) → (es.map fun e => some e.2) = (D72.rowsOf x).map D72.deedIn → (∀ e ∈ es, DeedAt H' e.1 e.2) → Q (.ref L) H') ∧
  ∀ k, D72.bad (D72.rowsOf x) = some k → ∀ H' d, Same H H' → H' d = some (.xd [("place", .int (k : Nat))]) → E (.ref C) (some d) H'
theorem DeedAt.tups {H H' : Hp} {a : Addr} {d : D72.Deed} (D : DeedAt H a d) (k : ∀ b xs, H b = some (.tup xs) → H' b = some (.tup xs)) : DeedAt H' a d := by
  obtain ⟨nu, h1, h2⟩ := D
  exact ⟨nu, k _ _ h1, k _ _ h2⟩
section
variable {P : Program} {w : World} {K : PySem.W.Frag} {mg : Str → Option Value} {base : Heap}
theorem ok_read_day (T : Txt K mg w) : FnOk P w K mg base (L2.CX P w) 3 T.f_read_day T.fd_read_day ["text"] (spReadDay T.C_BadText) := by
  have G_deed_in : FnOk P w K mg base CX0 2 T.f_deed_in T.fd_deed_in ["line"] spDeedIn := ok_deed_in T
  have G_BadText_init : FnOk P w K mg base CX0 1 T.f_BadText_init T.fd_BadText_init ["self", "place"] (spBadText T.C_BadText) := ok_BadText_init T
  refine T.F_read_day.okX sc_read_day (fun vs H Q E h => ?_) (fun cdv A outer s H vs Q E hr h => ?_)
  · obtain ⟨x, rfl, _⟩ := h
    rfl
  · obtain ⟨x, rfl, hx, k0, k1⟩ := h
    refine ⟨_, (pss_cons (ps_set (i := 1) sc_read_day.nd rfl (Or.inl rfl) (pe_lst pa_nil))
      (pss_cons (ps_for PassesOwn.leaving rfl (pi_enum rfl T.n_enumerate (pa_cons (pe_ifExp (pt_cmpR op_ne (pv 0) pe_str (nomark _)) (pe_split (pv 0) pe_str) (pe_lst pa_nil)) pa_nil)) (pg_tupH (n := 2) rfl (pgs_cons (pg_name (i := 2) sc_read_day.nd rfl (Or.inl rfl)) (pgs_cons (pg_name (i := 3) sc_read_day.nd rfl (Or.inl rfl)) pgs_nil))) (pss_cons (ps_set (i := 4) sc_read_day.nd rfl (Or.inl rfl) (pe_call G_deed_in (hr.mono (by decide)) rfl T.mg_deed_in T.F_deed_in.kp T.b_deed_in .nil pass0 (pa_cons (pv 3) pa_nil)))
        (pss_cons (ps_if (pt_cmpR op_isN (pv 4) pe_non (nomark _)) (pss_one (ps_raise rfl (takes_of rfl rfl rfl rfl) (pmk_kw T.O_BadText T.iO_BadText T.tO_BadText G_BadText_init (hr.mono (by decide)) T.kb_BadText_init pass0 rfl T.mg_BadText (pk_cons (pv 2) pk_nil)))) pss_nil)
        (pss_one (ps_expr (pe_bm PySem.F.plainAttrs_list PySem.F.slot_list_append PySem.F.type_list_append mt_append (pv 1) (pa_cons (pv 4) pa_nil)))))))
      (pss_one (ps_ret (pv 1))))), ?_⟩
    rw [show L2.start N_read_day [V.str x] = [some (V.str x), none, none, none, none] from rfl]
    simp? only [tFor_eq]
    refine fun fl hfl => ?_
    have s0 := same_new (o := .lst []) hfl
    have ef := upd_same (H := H) (a := fl) (o := .lst [])
    generalize upd H fl (.lst []) = H0 at s0 ef ⊢
    obtain ⟨lrs, lrr⟩ := D72.rows_len x
    simp? only [iEnum]
    refine (fun (G : ∀ (a : Addr) (H1 : Hp), Same H0 H1 → H1 a = some (.lst ((D72.rowsOf x).map V.str)) → a ≠ fl → (?P : Addr → Hp → Prop) a H1) => ?main) ?pf
    case main =>
      by_cases c : x = Str.empty
      · rw [if_neg (by rw [decide_eq_true (show x = Str.ofString "" from c)]; decide)]
        refine fun p hp => ?_
        have s1 := same_new (o := .lst []) hp
        have e1 := upd_same (H := H0) (a := p) (o := .lst [])
        have np : p ≠ fl := fun z => by rw [z, ef] at hp; cases hp
        generalize upd H0 p (.lst []) = H1 at s1 e1 ⊢
        have e1 : H1 p = some (.lst ((D72.rowsOf x).map V.str)) := by rw [e1, c]; rfl
        exact G p H1 s1 e1 np
      · rw [if_pos (by rw [decide_eq_false (show ¬ x = Str.ofString "" from c)]; rfl)]
        refine ⟨by decide +kernel, szl (show _ ≤ 100000 by omega), fun p hp => ?_⟩
        have s1 := same_new (o := .lst ((Txt.split x (Str.ofString "\n")).map V.str)) hp
        have e1 := upd_same (H := H0) (a := p) (o := .lst ((Txt.split x (Str.ofString "\n")).map V.str))
        have np : p ≠ fl := fun z => by rw [z, ef] at hp; cases hp
        generalize upd H0 p (.lst ((Txt.split x (Str.ofString "\n")).map V.str)) = H1 at s1 e1 ⊢
        have e1 : H1 p = some (.lst ((D72.rowsOf x).map V.str)) := by rw [e1]; unfold D72.rowsOf; rw [if_neg c]
        exact G p H1 s1 e1 np
    case pf =>
      refine fun a H1 s1 ea na => ?_
      have nfl : ∀ {b : Addr} {o : HO}, H b = some o → b ≠ fl := fun e z => by rw [z, hfl] at e; cases e
      have all : ∀ {Hm : Hp}, Keep [fl] H1 Hm → Same H Hm := fun km b o e => km b o (by simpa using nfl e) (s1 _ _ (s0 _ _ e))
      refine ⟨⟨_, .inl (.inl ea)⟩, forB_it (for_it walk_enum (fun m σ Hm => ∃ (x2 x3 x4 : Option V) (es : List (Addr × D72.Deed)), (Keep [fl] H1 Hm ∧ Hm fl = some (.lst (es.map fun e => V.ref e.1)) ∧ (es.map fun e => some e.2) = ((D72.rowsOf x).take m).map D72.deedIn ∧ (∀ e ∈ es, DeedAt Hm e.1 e.2) ∧ ∀ k, D72.bad (D72.rowsOf x) = some k → m ≤ k) ∧ σ = [some (.str x), some (.ref fl), x2, x3, x4])
        ⟨none, none, none, [], ⟨Keep.refl, s1 _ _ ef, rfl, (fun e he => by cases he), fun _ _ => Nat.zero_le _⟩, rfl⟩ (fun _ _ _ _ hh => by obtain ⟨_, _, _, _, ⟨km, _⟩, _⟩ := hh; exact .inl (.inl (km _ _ (by simpa using na) ea))) ?_ ?_)⟩
      · rintro m y σ Hm Hm2 hm ⟨x2, x3, x4, es, ⟨km, em, ee, eg, eb⟩, rfl⟩ ⟨t, u, v, rfl, ht, rfl, hu', hv⟩
        rw [List.length_map] at hm
        obtain ⟨r, hr'⟩ : ∃ r, (D72.rowsOf x)[m]? = some r := ⟨_, List.getElem?_eq_getElem hm⟩
        have hv : ((D72.rowsOf x).map V.str)[m]? = some v := hv
        rw [List.getElem?_map, hr'] at hv
        cases hu'
        obtain rfl := Option.some.inj hv
        have st := same_new (o := .tup [V.int (m : Nat), V.str r]) ht
        have et := upd_same (H := Hm) (a := t) (o := .tup [V.int (m : Nat), V.str r])
        have emt := st _ _ em
        generalize upd Hm t (.tup [V.int (m : Nat), V.str r]) = Ht at st et emt ⊢
        simp? only [gTupH, gCons, gNil, gName, et]
        have hk := (lrr r (List.mem_of_getElem? hr'))
        refine ⟨r, rfl, by omega, fun hd H2 s2 => ?_, fun d hd H2 a2 s2 D2 => ?_⟩
        · simp? only []
          have hb : D72.bad (D72.rowsOf x) = some m := by
            cases hb : D72.bad (D72.rowsOf x) with
            | none =>
              obtain ⟨d, hd2⟩ := D72.bad_none hb r (List.mem_of_getElem? hr')
              rw [hd] at hd2
              cases hd2
            | some k =>
              have h1 := eb k hb
              have h2 := (D72.bad_some hb).2
              by_cases c : m < k
              · obtain ⟨d, hd2⟩ := h2 m c r hr'
                rw [hd] at hd2
                cases hd2
              · rw [show k = m by omega]
          simp? only [tMkK]
          refine fun q hq => ⟨_, _, rfl, upd_same, fun dx hdx ndx => ⟨rfl, dx, upd_same, _, by rw [upd_ne ndx, upd_same], by rw [upd_ne ndx] at hdx; exact hdx, ?_⟩⟩
          refine k1 m hb _ dx (fun b o e => ?_) upd_same
          have e2 := s2 _ _ (st _ _ (all km _ _ e))
          have nq : b ≠ q := fun z => by rw [z, hq] at e2; cases e2
          have hdx2 : H2 dx = none := by rw [upd_ne ndx] at hdx; exact hdx
          have nd : b ≠ dx := fun z => by rw [z, hdx2] at e2; cases e2
          rw [upd_ne nd, del_ne nq, upd_ne nq, upd_ne nd, upd_ne nq]
          exact e2
        · simp? only []
          have s3 : Same Ht H2 := s2
          have ef2 := s3 _ _ emt
          have kp : ∀ {o : HO} (b : Addr) (xs : List V), H2 b = some (.tup xs) → upd H2 fl o b = some (.tup xs) := fun b xs e => by
            rw [upd_ne (fun z => by rw [z, ef2] at e; cases e)]
            exact e
          refine ⟨.inl ⟨rfl, _, .inl (.inl ef2)⟩, _, ef2, by rw [List.length_map]; exact szl' (by have := congrArg List.length ee; rw [List.length_map, List.length_map, List.length_take] at this; omega), fun b o nb e => ?_, _, _, _, es ++ [(a2, d)], by rw [List.map_append]; rfl, ?_, fun e he => ?_, fun k hb => ?_, rfl, rfl, rfl⟩
          · rw [upd_ne (by simpa using nb)]
            exact s3 _ _ (st _ _ (km b o nb e))
          · rw [List.map_append, ee, List.take_succ, hr', Option.toList_some, List.map_append]
            show _ ++ [some d] = _ ++ [D72.deedIn r]
            rw [hd]
          · rcases List.mem_append.mp he with q | q
            · exact ((eg e q).tups fun b xs e => s3 _ _ (st _ _ e)).tups kp
            · rw [List.mem_singleton.mp q]
              exact D2.tups kp
          · have h1 := eb k hb
            by_cases c : m = k
            · obtain ⟨⟨r2, hr2, hd2⟩, _⟩ := D72.bad_some hb
              rw [← c, hr'] at hr2
              cases hr2
              rw [hd] at hd2
              cases hd2
            · omega
      · rintro σ Hm ⟨x2, x3, x4, es, ⟨km, em, ee, eg, eb⟩, rfl⟩
        rw [List.length_map] at ee eb
        rw [List.take_length] at ee
        simp? only []
        refine k0 ?_ Hm fl es (all km) hfl em ee eg
        cases hb : D72.bad (D72.rowsOf x) with
        | none => rfl
        | some k =>
          obtain ⟨⟨r, hr2, _⟩, _⟩ := D72.bad_some hb
          have := eb k hb
          have := (List.getElem?_eq_some_iff.mp hr2).1
          omega
end

/-! days as texts: _law_place -/
def spPlace (P : Program) (w : World) (K : PySem.W.Frag) (mg : Str → Option Value) (C : Addr) (k : Nat) (B : Heap) : Sp := fun vs H Q _ => ∃ (f : Addr) (R : XK → Hp → VK → Prop), vs = [.ref f] ∧ Lm.Act0 P w K mg B k H f R ∧
  ∀ (E : XK) (Qn : VK), (∀ (n : Int) (d : Addr) (H' : Hp), H' d = some (.xd [("place", .int n)]) → (Q (.int n) H') → E (.ref C) (some d) H') → (∀ v H', Q (.int (-1)) H' → Qn v H') → R E H Qn
section
variable {P : Program} {w : World} {K : PySem.W.Frag} {mg : Str → Option Value} {base : Heap}
theorem ok_l_place (T : Txt K mg w) : FnOk P w K mg base CX0 7 T.f_l_place T.fd_l_place ["_law_call"] (spPlace P w K mg T.C_BadText 6 base) := by
  refine T.F_l_place.ok sc_l_place (fun vs H Q E h => ?_) (fun cdv A outer s H vs Q E hr h => ?_)
  · obtain ⟨f, R, rfl, _⟩ := h
    rfl
  · obtain ⟨f, R, rfl, hA, hR⟩ := h
    refine ⟨_, (pss_cons (ps_try_as (i := 1) rfl rfl sc_l_place.nd rfl rfl ⟨rfl, rfl, .inl T.mg_BadText⟩ L2.takes0 (fun W pn xe tk _ => (Lm.pss_exprA (i := 0) hA tk (hr.mono (by decide)) rfl (Or.inl rfl))) (fun a oe cls d pn hz hf => (pss_one (ps_ret (pe_ifExp (PW.pt (pw_and (pt_val (pe_callB (call_isD hz hf) (by rfl) T.n_isinstance (by decide +kernel) (pa_cons (pv 1) (pa_cons (pe_glob rfl T.mg_StoreError (v := .ref T.C_StoreError) rfl) pa_nil)))) (pw_and1 (pt_val (pe_callB (call_isD hz hf) (by rfl) T.n_isinstance (by decide +kernel) (pa_cons (pv 1) (pa_cons (pe_bltn (by rfl) T.n_ValueError (by decide +kernel) (v := .ty "ValueError") rfl) pa_nil))))))) (pe_xf T.X_BadText T.n_BadText_place hz hf (pv 1)) (pe_un un_neg pe_int))))))
      (pss_one (ps_ret (pe_un un_neg pe_int)))), ?_⟩
    rw [show L2.start N_l_place [V.ref f] = [some (V.ref f), none] from rfl]
    refine ⟨rfl, Lm.KeepF.refl H, hR _ _ (fun n d H' hd q => ⟨true, T.m_BadText, fun _ a ha => ?_, fun z => by cases z⟩) fun v H' q => ?_⟩
    · simp? only []
      refine ⟨T.C_BadText, rfl, ⟨_, hd⟩, T.E_BadText, _, fun u e => e, true, T.kS_BadText, ?_⟩
      rw [if_pos rfl]
      refine ⟨T.C_BadText, rfl, ⟨_, hd⟩, T.E_BadText, _, fun u e => e, true, T.kV_BadText, ?_⟩
      rw [if_pos rfl]
      exact ⟨_, hd, _, rfl, q⟩
    · simp? only []
      exact q
end

/-! days as texts: _law_alike -/
def cIsiT : List V → Hp → VK → Prop := fun xs H Q => ∃ x tp n1 n2 a, xs = [x, .ref tp] ∧ H tp = some (.tup [.ty n1, .ty n2]) ∧ okN n1 ∧ okN n2 ∧ tyT x H = some a ∧ Q (.bl (isN a n1 || isN a n2)) H
theorem isi_t2 {X : Cx} : CallR X (.builtin "isinstance") cIsiT := callImp call_isiT fun xs H Q ⟨x, tp, n1, n2, a, e, h, ok1, ok2, t, q⟩ =>
  ⟨x, tp, [.ty n1, .ty n2], _, [.type n1, .type n2], _, e, h, .cons (.ty n1) (.cons (.ty n2) .nil), tyT_ok t, kitAny_cons (kit_ty (kit_isN ok1)) (fun e1 => kitAny_cons (kit_ty (kit_isN ok2)) (fun e2 => by rw [kitAny_nil, e1, e2]; rfl) (fun e2 => by rw [e2, Bool.or_true])) (fun e1 => by rw [e1, Bool.true_or]), q⟩
def spAlike (n : Nat) : Sp := fun vs H Q _ => ∃ (x y : V) (d : Dx), vs = [x, y] ∧ RX H x d ∧ RX H y d ∧ d.deep ≤ n ∧ d.fits 93750 ∧ ∀ H', Same H H' → Q (.bl true) H'
section
variable {P : Program} {w : World} {K : PySem.W.Frag} {mg : Str → Option Value} {base : Heap}
theorem alike_step (T : Txt K mg w) (d : Nat) (sp0 : Sp) (G_l_alike : FnOk P w K mg base CX0 (d + 1) T.f_l_alike T.fd_l_alike ["_law_found", "_law_due"] sp0) (h0 : ∀ e, d = e + 1 → sp0 = spAlike e) :
    FnOk P w K mg base CX0 (d + 2) T.f_l_alike T.fd_l_alike ["_law_found", "_law_due"] (spAlike d) := by
  refine T.F_l_alike.ok sc_l_alike (fun vs H Q E h => ?_) (fun cdv A outer s H vs Q E hr h => ?_)
  · obtain ⟨x, y, dd, rfl, _⟩ := h
    rfl
  · have hu64 := hu64_of hr
    obtain ⟨x, y, dd, rfl, Rx, Ry, dp, ft, k⟩ := h
    refine ⟨_, (pss_cons (ps_if (pt_val (pe_callB isi_t2 (by rfl) T.n_isinstance (by decide +kernel) (pa_cons (pv 1) (pa_cons (pe_tup (pa_cons (pe_bltn (by rfl) T.n_tuple (by decide +kernel) (v := .ty "tuple") rfl) (pa_cons (pe_bltn (by rfl) T.n_list (by decide +kernel) (v := .ty "list") rfl) pa_nil))) pa_nil)))) (pss_cons (ps_if (PW.pt (pw_or (pt_not (pt_val (pe_callB isi_t2 (by rfl) T.n_isinstance (by decide +kernel) (pa_cons (pv 0) (pa_cons (pe_tup (pa_cons (pe_bltn (by rfl) T.n_tuple (by decide +kernel) (v := .ty "tuple") rfl) (pa_cons (pe_bltn (by rfl) T.n_list (by decide +kernel) (v := .ty "list") rfl) pa_nil))) pa_nil))))) (pw_or1 (pt_cmpR op_ne (pe_callB isi_h (by rfl) T.n_isinstance (by decide +kernel) (pa_cons (pv 0) (pa_cons (pe_bltn (by rfl) T.n_list (by decide +kernel) (v := .ty "list") rfl) pa_nil))) (pe_callB isi_h (by rfl) T.n_isinstance (by decide +kernel) (pa_cons (pv 1) (pa_cons (pe_bltn (by rfl) T.n_list (by decide +kernel) (v := .ty "list") rfl) pa_nil))) (nomark _))))) (pss_one (ps_ret pe_bl)) pss_nil)
        (pss_cons (ps_if (pt_cmpR op_ne (pe_callB len_lt (by rfl) T.n_len PySem.boot_len (pa_cons (pv 0) pa_nil)) (pe_callB len_lt (by rfl) T.n_len PySem.boot_len (pa_cons (pv 1) pa_nil)) (nomark _)) (pss_one (ps_ret pe_bl)) pss_nil)
        (pss_one (ps_ret (pe_cmpR (op_eqNilI hu64) (pe_lc (own := [("_law_k", 2)]) (g := gName 2) rfl sc_l_alike.nd (pi_range1 rfl T.n_range (pa_cons (pe_callB len_lt (by rfl) T.n_len PySem.boot_len (pa_cons (pv 1) pa_nil)) pa_nil)) (blkOk_by (N := N_l_alike) (sc := defScope s_l_alike) (by decide +kernel)) (fun _ _ _ _ _ => (pg_name (i := 2) sc_l_alike.nd rfl (Or.inl rfl))) (fun _ _ _ _ _ => pts_one (pt_not (pt_val (pe_call G_l_alike (hr.mono (by show _ ≤ d + 1; omega)) rfl T.mg_l_alike T.F_l_alike.kp T.b_l_alike .nil pass0 (pa_cons (pe_ix ix_lt (pv 0) (pv 2) (fun _ _ => rfl)) (pa_cons (pe_ix ix_lt (pv 1) (pv 2) (fun _ _ => rfl)) pa_nil)))))) (fun _ _ _ _ _ => (pv 2))) (pe_lst pa_nil) (nomark _)))))) pss_nil)
      (pss_cons (ps_if (PW.pt (pw_or (pt_cmpR op_isN (pv 1) pe_non (nomark _)) (pw_or1 (pt_val (pe_callB isi_h (by rfl) T.n_isinstance (by decide +kernel) (pa_cons (pv 1) (pa_cons (pe_bltn (by rfl) T.n_str (by decide +kernel) (v := .ty "str") rfl) pa_nil))))))) (pss_one (ps_ret (pe_and (pe_cmpR op_eq (pv 0) (pv 1) (nomark _)) (pe_one (pe_cmpR op_eq (pe_callB isi_h (by rfl) T.n_isinstance (by decide +kernel) (pa_cons (pv 0) (pa_cons (pe_bltn (by rfl) T.n_str (by decide +kernel) (v := .ty "str") rfl) pa_nil))) (pe_callB isi_h (by rfl) T.n_isinstance (by decide +kernel) (pa_cons (pv 1) (pa_cons (pe_bltn (by rfl) T.n_str (by decide +kernel) (v := .ty "str") rfl) pa_nil))) (nomark _)))))) pss_nil)
      (pss_one (ps_ret (pe_and (pe_callB isi_h (by rfl) T.n_isinstance (by decide +kernel) (pa_cons (pv 0) (pa_cons (pe_bltn (by rfl) T.n_int (by decide +kernel) (v := .ty "int") rfl) pa_nil))) (pe_and (pe_cmpR op_eq (pe_callB isi_h (by rfl) T.n_isinstance (by decide +kernel) (pa_cons (pv 0) (pa_cons (pe_bltn (by rfl) T.n_bool (by decide +kernel) (v := .ty "bool") rfl) pa_nil))) (pe_callB isi_h (by rfl) T.n_isinstance (by decide +kernel) (pa_cons (pv 1) (pa_cons (pe_bltn (by rfl) T.n_bool (by decide +kernel) (v := .ty "bool") rfl) pa_nil))) (nomark _)) (pe_one (pe_cmpR op_eq (pv 0) (pv 1) (nomark _))))))))), ?_⟩
    rw [show L2.start N_l_alike [x, y] = [some (x), some (y), none] from rfl]
    cases dd with
    | non =>
      simp only [RX] at Rx Ry
      subst Rx Ry
      simp? only [cIsiT, Bool.or_self]
      intro p hp
      exact k _ (same_new hp)
    | bl i =>
      simp only [RX] at Rx Ry
      subst Rx Ry
      simp? only [cIsiT, Bool.or_self]
      intro p hp
      exact k _ (same_new hp)
    | int i =>
      simp only [RX] at Rx Ry
      subst Rx Ry
      simp? only [cIsiT, Bool.or_self]
      intro p hp
      exact k _ (same_new hp)
    | str i =>
      simp only [RX] at Rx Ry
      subst Rx Ry
      simp? only [cIsiT, Bool.or_self]
      intro p hp
      exact k _ (same_new hp)
    | tup ds =>
      simp only [RX] at Rx Ry
      obtain ⟨a, us, rfl, ha, Ru⟩ := Rx
      obtain ⟨b, zs, rfl, hb, Rz⟩ := Ry
      have lu := Ru.len
      have lz := Rz.len
      simp only [Dx.fits] at ft
      obtain ⟨e, rfl⟩ : ∃ e, d = e + 1 := ⟨d - 1, by simp only [Dx.deep] at dp; omega⟩
      cases h0 e rfl
      simp only [Dx.deep] at dp
      rcases ha with ha | ⟨oa, ha⟩ <;> rcases hb with hb | ⟨ob, hb⟩
      all_goals
        simp? only [cIsiT, ha, hb, Bool.or_self]
        intro p1 hp1
        have s1 := same_new (o := .tup [.ty "tuple", .ty "list"]) hp1
        have ha1 := s1 _ _ ha
        have hb1 := s1 _ _ hb
        simp? only [cIsiT, ha1, hb1, Bool.or_self]
        intro p2 hp2
        have s2 := same_new (o := .tup [.ty "tuple", .ty "list"]) hp2
        have ha2 := s2 _ _ ha1
        have hb2 := s2 _ _ hb1
        simp? only [cIsiT, ha2, hb2, Bool.or_self, cLenLT]
        refine ⟨us, .inr rfl, zs, .inr rfl, ?_⟩
        rw [if_neg (by rw [lu, lz]; simp)]
        have S2 := s1.trans s2
        generalize upd (upd H p1 (.tup [.ty "tuple", .ty "list"])) p2 (.tup [.ty "tuple", .ty "list"]) = H2 at *
        simp? only [tLc_eq, iRng1, cLenLT, hb2]
        refine ⟨zs, .inr rfl, by omega, by omega, ?_⟩
        rw [Int.toNat_natCast]
        refine lcB_it fun D hD => ?_
        refine lc_it walk_range (fun i H3 => Same H2 H3 ∧ H3 D = some (.lst [])) ⟨same_new hD, upd_same⟩ (fun _ _ _ _ => trivial) ?_ ?_
        · rintro i x H3 H4 hi ⟨S3, eD⟩ ⟨rfl, rfl⟩
          have ha3 := S3 _ _ ha2
          have hb3 := S3 _ _ hb2
          have hid : i < ds.length := by omega
          have hdi : ds[i]? = some ds[i] := List.getElem?_eq_getElem hid
          obtain ⟨u, hu, Ru1⟩ := (RXs.same (S2.trans S3) Ru).at hdi
          obtain ⟨z, hz, Rz1⟩ := (RXs.same (S2.trans S3) Rz).at hdi
          have au : atI us (0 + (i : Int)) = some u := by rw [Int.zero_add]; exact atI_nat hu
          have az : atI zs (0 + (i : Int)) = some z := by rw [Int.zero_add]; exact atI_nat hz
          simp? only [gName, rIxLT, ha3, hb3]
          refine ⟨us, .inr rfl, u, au, zs, .inr rfl, z, az, u, z, ds[i], rfl, Ru1, Rz1, ?_, Dx.fitsL_at ft.2 hdi, fun H5 s5 => ?_⟩
          · have := Dx.deepL_at hdi
            omega
          · simp? only []
            exact ⟨S3.trans s5, s5 _ _ eD⟩
        · rintro H3 ⟨S3, eD⟩
          intro q hq
          have sq := same_new (o := .lst []) hq
          refine ⟨D, rfl, [], by rw [sq _ _ eD]; rfl, k _ ((S2.trans S3).trans sq)⟩
    | lst ds =>
      simp only [RX] at Rx Ry
      obtain ⟨a, us, rfl, ha, Ru⟩ := Rx
      obtain ⟨b, zs, rfl, hb, Rz⟩ := Ry
      have lu := Ru.len
      have lz := Rz.len
      simp only [Dx.fits] at ft
      obtain ⟨e, rfl⟩ : ∃ e, d = e + 1 := ⟨d - 1, by simp only [Dx.deep] at dp; omega⟩
      cases h0 e rfl
      simp only [Dx.deep] at dp
      simp? only [cIsiT, ha, hb, Bool.or_self]
      intro p1 hp1
      have s1 := same_new (o := .tup [.ty "tuple", .ty "list"]) hp1
      have ha1 := s1 _ _ ha
      have hb1 := s1 _ _ hb
      simp? only [cIsiT, ha1, hb1, Bool.or_self]
      intro p2 hp2
      have s2 := same_new (o := .tup [.ty "tuple", .ty "list"]) hp2
      have ha2 := s2 _ _ ha1
      have hb2 := s2 _ _ hb1
      simp? only [cIsiT, ha2, hb2, Bool.or_self, cLenLT]
      refine ⟨us, .inl rfl, zs, .inl rfl, ?_⟩
      rw [if_neg (by rw [lu, lz]; simp)]
      have S2 := s1.trans s2
      generalize upd (upd H p1 (.tup [.ty "tuple", .ty "list"])) p2 (.tup [.ty "tuple", .ty "list"]) = H2 at *
      simp? only [tLc_eq, iRng1, cLenLT, hb2]
      refine ⟨zs, .inl rfl, by omega, by omega, ?_⟩
      rw [Int.toNat_natCast]
      refine lcB_it fun D hD => ?_
      refine lc_it walk_range (fun i H3 => Same H2 H3 ∧ H3 D = some (.lst [])) ⟨same_new hD, upd_same⟩ (fun _ _ _ _ => trivial) ?_ ?_
      · rintro i x H3 H4 hi ⟨S3, eD⟩ ⟨rfl, rfl⟩
        have ha3 := S3 _ _ ha2
        have hb3 := S3 _ _ hb2
        have hid : i < ds.length := by omega
        have hdi : ds[i]? = some ds[i] := List.getElem?_eq_getElem hid
        obtain ⟨u, hu, Ru1⟩ := (RXs.same (S2.trans S3) Ru).at hdi
        obtain ⟨z, hz, Rz1⟩ := (RXs.same (S2.trans S3) Rz).at hdi
        have au : atI us (0 + (i : Int)) = some u := by rw [Int.zero_add]; exact atI_nat hu
        have az : atI zs (0 + (i : Int)) = some z := by rw [Int.zero_add]; exact atI_nat hz
        simp? only [gName, rIxLT, ha3, hb3]
        refine ⟨us, .inl rfl, u, au, zs, .inl rfl, z, az, u, z, ds[i], rfl, Ru1, Rz1, ?_, Dx.fitsL_at ft.2 hdi, fun H5 s5 => ?_⟩
        · have := Dx.deepL_at hdi
          omega
        · simp? only []
          exact ⟨S3.trans s5, s5 _ _ eD⟩
      · rintro H3 ⟨S3, eD⟩
        intro q hq
        have sq := same_new (o := .lst []) hq
        refine ⟨D, rfl, [], by rw [sq _ _ eD]; rfl, k _ ((S2.trans S3).trans sq)⟩
theorem ok_l_alike (T : Txt K mg w) : ∀ d : Nat, FnOk P w K mg base CX0 (d + 2) T.f_l_alike T.fd_l_alike ["_law_found", "_law_due"] (spAlike d)
  | 0 => alike_step T 0 (fun _ _ _ _ => False) (T.F_l_alike.ok sc_l_alike (fun vs H Q E h => h.elim) (fun cdv A outer s H vs Q E hr h => h.elim)) (fun e h => absurd h (by omega))
  | d + 1 => alike_step T (d + 1) (spAlike d) (ok_l_alike T d) (fun e h => by cases h; rfl)
end

/-! the law: days written and read -/
def spLaw (K : PySem.W.Frag) (P : Addr) : Sp := fun vs H Q _ => ∃ (a : Addr) (ns : List Int), vs = [.ref a] ∧ SqL K H a (ns.map V.int) ∧ ns.length ≤ 63 ∧ H P = some (.tbl #[]) ∧ ∀ H', Q (.bl true) H'
def oddL : List Str := ["", "come", "come 1 2", "ask 1", "ask 1 ", "ask x begin", "rise 1", "come -1", "come 01", "Come 1", "letters 1", "come 1000", " come 1", "come 1 ", "turn 1  2", "come 007", "go 1", "ask", "ask 1  begin", "known"]
/-- what is neither frozen nor a table -/
def NF (o : HO) : Prop := ¬ Lm.Fz o ∧ ∀ ps, o ≠ .tbl ps
theorem nf_lst {xs : List V} : NF (.lst xs) := ⟨fun z => z, fun _ z => by cases z⟩
theorem kf_keep {ms : List Addr} {H H' : Hp} (k : Keep ms H H') (n : ∀ m ∈ ms, ∃ o, H m = some o ∧ NF o) : Lm.KeepF H H' ∧ Lm.KeepT H H' := by
  constructor
  · intro b o e z
    refine k b o (fun hm => ?_) e
    obtain ⟨u, hu, h1, _⟩ := n b hm
    rw [e] at hu; cases hu
    exact h1 z
  · intro b ps e
    refine k b _ (fun hm => ?_) e
    obtain ⟨u, hu, _, h2⟩ := n b hm
    rw [e] at hu; cases hu
    exact h2 ps rfl
/-- what stands between two deeds of the law -/
structure St72 (P h l ol : Addr) (H : Hp) : Prop where
  X : BoxB H h l
  od : H ol = some (.lst (oddL.map V.str))
  tab : Lm.TabF [(P, Lm.lamQ "law")] H
  n : ol ∉ [h, l]
theorem St72.box {P h l ol : Addr} {H H' : Hp} (S : St72 P h l ol H) (X' : BoxB H' h l) (k : Keep [h, l] H H') : St72 P h l ol H' := by
  obtain ⟨k1, k2⟩ := kf_keep k fun m hm => by
    obtain ⟨ns, st, pl, b1, b2, _⟩ := id S.X
    rcases List.mem_cons.mp hm with rfl | hm
    · exact ⟨_, b1, nf_lst⟩
    · rw [List.mem_singleton.mp hm]
      exact ⟨_, b2, nf_lst⟩
  exact ⟨X', k _ _ S.n S.od, S.tab.ext k1 k2, S.n⟩
theorem St72.extN {P h l ol : Addr} {H H' : Hp} (S : St72 P h l ol H) (e : LamX.ExtN H H') (T : Lm.TabF [(P, Lm.lamQ "law")] H') : St72 P h l ol H' := by
  obtain ⟨ns, st, pl, b1, b2, b3⟩ := S.X
  have el : ∀ b o, H b = some (.lst o) → H' b = some (.lst o) := fun b o z => e b _ z fun ps q => by cases q
  exact ⟨⟨ns, st, pl, el _ _ b1, el _ _ b2, b3⟩, el _ _ S.od, T, S.n⟩
theorem St72.same {P h l ol : Addr} {H H' : Hp} (S : St72 P h l ol H) (k : Same H H') : St72 P h l ol H' :=
  S.extN (fun b o e _ => k b o e) (S.tab.ext (Lm.KeepF.of k) (Lm.KeepT.of k))
/-- a deed as data -/
def deedX (d : D72.Deed) : Dx := .tup [.str d.word, .tup (d.nums.map .int), .str d.text]
theorem DeedAt.rx {H : Hp} {a : Addr} {d : D72.Deed} (D : DeedAt H a d) : RX H (.ref a) (deedX d) := by
  obtain ⟨nu, h1, h2⟩ := D
  exact rx_tup h1 (rxs_cons (rx_str _) (rxs_cons (rx_tup h2 (rxs_map fun n _ => rx_int n)) (rxs_cons (rx_str _) rxs_nil)))
theorem deedX_ok {d : D72.Deed} (D : DeedSm d) : (deedX d).deep ≤ 2 ∧ (deedX d).fits 93750 := by
  have z := dxs_ok (g := Dx.int) (n := 0) (m := 93750) (l := d.nums) fun n _ => ⟨Nat.le_refl _, trivial⟩
  have l := D.l
  unfold deedX
  simp only [Dx.deep, Dx.deepL, Dx.fits, Dx.fitsL, List.length_cons, List.length_nil, List.length_map]
  exact ⟨by omega, by omega, trivial, ⟨by omega, z.2⟩, trivial, trivial⟩
theorem cutS_to (z : Str) (n : Nat) : (cutS z none (some (n : Int))).length ≤ n := by
  show (List.toArray _).size ≤ n
  rw [List.size_toArray, List.length_take, HT.sIx_nat]
  omega
theorem cutS_from (z : Str) (n : Nat) : (cutS z (some (n : Int)) none).length ≤ z.length - n := by
  show (List.toArray _).size ≤ _
  rw [List.size_toArray, List.length_take, HT.sIx_nat, HT.sIx_none]
  omega
theorem first_bad (rs : List Str) : ((List.range rs.length).filter fun k => !D72.isRow (rs.getD k Str.empty)).head? = D72.bad rs := by
  have gd : ∀ j (hj : j < rs.length), rs.getD j Str.empty = rs[j] := fun j hj => by rw [List.getD_eq_getElem?_getD, List.getElem?_eq_getElem hj, Option.getD_some]
  rw [List.head?_filter]
  refine Option.ext fun k => ?_
  rw [List.find?_range_eq_some]
  unfold D72.bad
  rw [List.findIdx?_eq_some_iff_getElem]
  constructor
  · rintro ⟨h1, h2, h3⟩
    have hk := List.mem_range.mp h2
    refine ⟨hk, by rw [gd _ hk] at h1; exact h1, fun j hj => ?_⟩
    have z := h3 j hj
    rw [gd _ (show j < rs.length by omega)] at z
    simpa using z
  · rintro ⟨hk, h1, h2⟩
    refine ⟨by rw [gd _ hk]; exact h1, List.mem_range.mpr hk, fun j hj => ?_⟩
    rw [gd _ (show j < rs.length by omega)]
    simpa using h2 j hj
def dueV (x : Str) : Int := match D72.bad (D72.rowsOf x) with
  | some k => (k : Nat)
  | none => -1
theorem due_at (x : Str) : atI ((((List.range (D72.rowsOf x).length).filter fun k => !D72.isRow ((D72.rowsOf x).getD k Str.empty)).map fun k : Nat => V.int (k : Int)) ++ [V.int (-1)]) 0 = some (.int (dueV x)) := by
  have h := first_bad (D72.rowsOf x)
  unfold dueV
  cases e : (List.range (D72.rowsOf x).length).filter fun k => !D72.isRow ((D72.rowsOf x).getD k Str.empty) with
  | nil =>
    rw [e] at h
    rw [← h]
    rfl
  | cons k r =>
    rw [e] at h
    rw [← h]
    exact at0
section
variable {P : Program} {w : World} {K : PySem.W.Frag} {mg : Str → Option Value} {base : Heap}
theorem ok_law (T : Txt K mg w) (TB : LamX.TabB base mg T.c_law T.P_law) : FnOk P w K mg base CX0 8 T.f_law T.fd_law ["_law_script"] (spLaw K T.P_law) := by
  have G_l_mix : FnOk P w K mg base CX0 1 T.f_l_mix T.fd_l_mix ["_law_script", "_law_seed"] (spMix K) := ok_l_mix T
  have G_l_next : FnOk P w K mg base CX0 1 T.f_l_next T.fd_l_next ["_law_h", "_law_many"] spNext := ok_l_next T
  have G_l_deeds : FnOk P w K mg base CX0 2 T.f_l_deeds T.fd_l_deeds ["_law_h", "_law_many"] spDeeds := ok_l_deeds T
  have G_l_row : FnOk P w K mg base CX0 1 T.f_l_row T.fd_l_row ["_law_deed"] spRowD := ok_l_row T
  have G_day_text : FnOk P w K mg base CX0 1 T.f_day_text T.fd_day_text ["deeds"] spDayText := ok_day_text T
  have G_read_day : FnOk P w K mg base (L2.CX P w) 3 T.f_read_day T.fd_read_day ["text"] (spReadDay T.C_BadText) := ok_read_day T
  have G_l_alike : FnOk P w K mg base CX0 5 T.f_l_alike T.fd_l_alike ["_law_found", "_law_due"] (spAlike 3) := ok_l_alike T 3
  have G_l_is_row : FnOk P w K mg base CX0 2 T.f_l_is_row T.fd_l_is_row ["_law_row_here"] spIsRow := ok_l_is_row T
  refine Fun.okL T.F_law T.hc_law sc_law (fun vs H Q E h => ?_) (fun A outer s H vs Q E hr h => ?_)
  · obtain ⟨a, ns, rfl, _⟩ := h
    rfl
  · obtain ⟨a, ns, rfl, hS, hlen, hP, k⟩ := h
    have hu64 := hu64_of hr
    refine ⟨_, (pss_cons (ps_set (i := 1) sc_law.nd rfl (Or.inl rfl) (pe_call G_l_mix (hr.mono (by decide)) rfl T.mg_l_mix T.F_l_mix.kp T.b_l_mix .nil pass0 (pa_cons (pv 0) (pa_cons pe_int pa_nil))))
      (Evl.pss_cut (ps_set (i := 2) sc_law.nd rfl (Or.inl rfl) (pe_lst (pa_cons pe_str (pa_cons pe_str (pa_cons pe_str (pa_cons pe_str (pa_cons pe_str (pa_cons pe_str (pa_cons pe_str (pa_cons pe_str (pa_cons pe_str (pa_cons pe_str pa_nil))))))))))))
      (Evl.pss_cut (ps_set (i := 2) sc_law.nd rfl (Or.inl rfl) (pe_op op_cat (pv 2) (pe_lst (pa_cons pe_str (pa_cons pe_str (pa_cons pe_str (pa_cons pe_str (pa_cons pe_str (pa_cons pe_str (pa_cons pe_str (pa_cons pe_str pa_nil)))))))))))
      (Evl.pss_cut (ps_set (i := 2) sc_law.nd rfl (Or.inl rfl) (pe_op op_cat (pv 2) (pe_lst (pa_cons pe_str (pa_cons pe_str pa_nil)))))
      (Evl.pss_cut (ps_for PassesOwn.never rfl (pi_range1 rfl T.n_range (pa_cons pe_int pa_nil)) (pg_name (i := 3) sc_law.nd rfl (Or.inl rfl)) (Evl.pss_cut (ps_set (i := 4) sc_law.nd rfl (Or.inl rfl) (pe_call G_l_deeds (hr.mono (by decide)) rfl T.mg_l_deeds T.F_l_deeds.kp T.b_l_deeds .nil pass0 (pa_cons (pv 1) (pa_cons (pe_call G_l_next (hr.mono (by decide)) rfl T.mg_l_next T.F_l_next.kp T.b_l_next .nil pass0 (pa_cons (pv 1) (pa_cons pe_int pa_nil))) pa_nil))))
        (Evl.pss_cut (ps_setLc (i := 5) (own := [("_law_deed", 13)]) (g := gName 13) (tt := tYes) rfl sc_law.nd rfl rfl (sw_true rfl rfl rfl (by decide +kernel)) (pi_listK K rfl (pv 4)) (blkOk_by (N := N_law) (sc := defScope s_law) (by decide +kernel)) (fun _ _ _ _ _ => (pg_name (i := 13) sc_law.nd rfl (Or.inl rfl))) (fun _ _ _ _ _ => pts_nil) (fun _ _ _ _ _ => (pe_call G_l_row (hr.mono (by decide)) rfl T.mg_l_row T.F_l_row.kp T.b_l_row .nil pass0 (pa_cons (pv 13) pa_nil))))
        (Evl.pss_cut (ps_set (i := 6) sc_law.nd rfl (Or.inl rfl) (pe_join pe_str (pv 5)))
        (Evl.pss_cut (ps_if (PW.pt (pw_or (pt_cmpR op_ne (pe_call G_day_text (hr.mono (by decide)) rfl T.mg_day_text T.F_day_text.kp T.b_day_text .nil pass0 (pa_cons (pv 4) pa_nil)) (pv 6) (nomark _)) (pw_or1 (pt_not (pt_val (pe_call G_l_alike (hr.mono (by decide)) rfl T.mg_l_alike T.F_l_alike.kp T.b_l_alike .nil pass0 (pa_cons (pe_call G_read_day (hr.mono (by decide)) rfl T.mg_read_day T.F_read_day.kp T.b_read_day .nil (passes_call L2.takes0 (fun _ _ _ _ z => z)) (pa_cons (pv 6) pa_nil)) (pa_cons (pv 4) pa_nil)))))))) (pss_one (ps_ret pe_bl)) pss_nil)
        (Evl.pss_cut (ps_set (i := 7) sc_law.nd rfl (Or.inl rfl) (pe_call G_l_next (hr.mono (by decide)) rfl T.mg_l_next T.F_l_next.kp T.b_l_next .nil pass0 (pa_cons (pv 1) (pa_cons (pe_op op_add (pe_callB len_lst (by rfl) T.n_len PySem.boot_len (pa_cons (pv 5) pa_nil)) pe_int) pa_nil))))
        (Evl.pss_cut (ps_set (i := 6) sc_law.nd rfl (Or.inl rfl) (pe_join pe_str (pe_op op_cat (pe_op op_cat (pe_slice sl_list (pv 5) po_none (po_some (pv 7))) (pe_lst (pa_cons (pe_ix ix_lst (pv 2) (pe_call G_l_next (hr.mono (by decide)) rfl T.mg_l_next T.F_l_next.kp T.b_l_next .nil pass0 (pa_cons (pv 1) (pa_cons (pe_callB len_lst (by rfl) T.n_len PySem.boot_len (pa_cons (pv 2) pa_nil)) pa_nil))) (fun _ _ => rfl)) pa_nil))) (pe_slice sl_list (pv 5) (po_some (pv 7)) po_none))))
        (Evl.pss_cut (ps_set (i := 8) sc_law.nd rfl (Or.inl rfl) (pe_call G_l_next (hr.mono (by decide)) rfl T.mg_l_next T.F_l_next.kp T.b_l_next .nil pass0 (pa_cons (pv 1) (pa_cons (pe_op op_add (pe_callB call_len_str (by rfl) T.n_len PySem.boot_len (pa_cons (pv 6) pa_nil)) pe_int) pa_nil))))
        (Evl.pss_cut (ps_set (i := 9) sc_law.nd rfl (Or.inl rfl) (pe_op op_add_str (pe_op op_add_str (pe_slice sl_str (pv 6) po_none (po_some (pv 8))) (pe_ix ix_str pe_str (pe_call G_l_next (hr.mono (by decide)) rfl T.mg_l_next T.F_l_next.kp T.b_l_next .nil pass0 (pa_cons (pv 1) (pa_cons pe_int pa_nil))) (fun _ _ => rfl))) (pe_slice sl_str (pv 6) (po_some (pe_op op_add (pv 8) (pe_call G_l_next (hr.mono (by decide)) rfl T.mg_l_next T.F_l_next.kp T.b_l_next .nil pass0 (pa_cons (pv 1) (pa_cons pe_int pa_nil))))) po_none)))
        (pss_one (ps_for PassesOwn.never rfl (pi_listK K rfl (pe_lst (pa_cons (pv 6) (pa_cons (pv 9) (pa_cons (pe_op op_add_str (pv 6) pe_str) pa_nil))))) (pg_name (i := 12) sc_law.nd rfl (Or.inr rfl)) (Evl.pss_cut (ps_set (i := 10) sc_law.nd rfl (Or.inr rfl) (pe_ifExp (pt_cmpR op_ne (pv 12) pe_str (nomark _)) (pe_split (pv 12) pe_str) (pe_lst pa_nil)))
          (Evl.pss_cut (ps_setLc (i := 11) (own := [("_law_k", 14)]) (g := gName 14) rfl sc_law.nd rfl rfl (sw_true rfl rfl rfl (by decide +kernel)) (pi_range1 rfl T.n_range (pa_cons (pe_callB len_lst (by rfl) T.n_len PySem.boot_len (pa_cons (pv 10) pa_nil)) pa_nil)) (blkOk_by (N := N_law) (sc := defScope s_law) (by decide +kernel)) (fun _ _ _ _ _ => (pg_name (i := 14) sc_law.nd rfl (Or.inl rfl))) (fun _ _ _ _ _ => pts_one (pt_not (pt_val (pe_call G_l_is_row (hr.mono (by decide)) rfl T.mg_l_is_row T.F_l_is_row.kp T.b_l_is_row .nil pass0 (pa_cons (pe_ix ix_lst (pv 10) (pv 14) (fun _ _ => rfl)) pa_nil))))) (fun _ _ _ _ _ => (pv 14)))
          (pss_one (ps_if (pt_not (pt_val (pe_call G_l_alike (hr.mono (by decide)) rfl T.mg_l_alike T.F_l_alike.kp T.b_l_alike .nil pass0 (pa_cons (Lm.pe_callZ (fun _ _ _ => rfl) (fun B => ok_l_place T) (hr.mono (by decide)) rfl T.mg_l_place T.F_l_place.kp T.b_l_place .nil (pa_cons (Lm.pe_lamS (k := 5) TB rfl (q := Lm.lamQ "law") rfl (Lm.lamG_by (N := N_law) (sc := defScope s_law) (by decide +kernel)) rfl (fun _ _ _ _ _ _ => rfl) (fun B A outer s H E f c' hr => (pe_call (ok_read_day T) (hr.mono (by decide)) rfl T.mg_read_day T.F_read_day.kp T.b_read_day .nil (passes_call (takes_of rfl rfl rfl rfl) (fun _ _ _ _ z => z)) (pa_cons (pv 12) pa_nil)))) pa_nil)) (pa_cons (pe_ix ix_lst (pe_op op_cat (pv 11) (pe_lst (pa_cons (pe_un un_neg pe_int) pa_nil))) pe_int (fun _ _ => rfl)) pa_nil))))) (pss_one (ps_ret pe_bl)) pss_nil)))))))))))))))
      (pss_one (ps_ret (pe_and (pe_cmpR (op_eqNilA hu64) (pe_call G_read_day (hr.mono (by decide)) rfl T.mg_read_day T.F_read_day.kp T.b_read_day .nil (passes_call L2.takes0 (fun _ _ _ _ z => z)) (pa_cons pe_str pa_nil)) (pe_lst pa_nil) (nomark _)) (pe_one (pe_cmpR op_eq (pe_call G_day_text (hr.mono (by decide)) rfl T.mg_day_text T.F_day_text.kp T.b_day_text .nil pass0 (pa_cons (pe_lst pa_nil) pa_nil)) pe_str (nomark _))))))))))), ?_⟩
    rw [show L2.start N_law [V.ref a] = [some (V.ref a), none, none, none, none, none, none, none, none, none, none, none, none, none, none] from rfl]
    simp? only []
    refine ⟨a, ns, 72, rfl, hS, hlen, fun H1 h l _ _ s1 B1 => ?_⟩
    have hP1 := s1 _ _ hP
    refine ⟨fun σ' H2 => ∃ ol, (Same H1 H2 ∧ H2 ol = some (.lst ((oddL.take 10).map V.str))) ∧ σ' = [some (.ref a), some (.ref h), some (.ref ol), none, none, none, none, none, none, none, none, none, none, none, none], ?_, ?_⟩
    · simp? only []
      exact ⟨szl (by decide), fun p hp => ⟨same_new hp, p, upd_same, rfl⟩⟩
    rintro σ' H2 ⟨ol0, ⟨s2, eo0⟩, rfl⟩
    refine ⟨fun σ' H3 => ∃ ol, (Same H2 H3 ∧ H3 ol = some (.lst ((oddL.take 18).map V.str))) ∧ σ' = [some (.ref a), some (.ref h), some (.ref ol), none, none, none, none, none, none, none, none, none, none, none, none], ?_, ?_⟩
    · simp? only [eo0]
      refine ⟨szl (by decide), fun p hp => ?_⟩
      have sp := same_new (o := .lst ((["letters 1", "come 1000", " come 1", "come 1 ", "turn 1  2", "come 007", "go 1", "ask"] : List Str).map V.str)) hp
      exact ⟨_, sp _ _ eo0, szl' (by decide), fun p2 hp2 => ⟨sp.trans (same_new hp2), p2, upd_same, rfl⟩⟩
    rintro σ' H3 ⟨ol1, ⟨s3, eo1⟩, rfl⟩
    refine ⟨fun σ' H4 => ∃ ol, (Same H3 H4 ∧ H4 ol = some (.lst (oddL.map V.str)) ∧ H3 ol = none) ∧ σ' = [some (.ref a), some (.ref h), some (.ref ol), none, none, none, none, none, none, none, none, none, none, none, none], ?_, ?_⟩
    · simp? only [eo1]
      refine fun p hp => ?_
      have sp := same_new (o := .lst ((["ask 1  begin", "known"] : List Str).map V.str)) hp
      exact ⟨_, sp _ _ eo1, szl' (by decide), fun p2 hp2 => ⟨sp.trans (same_new hp2), p2, upd_same, sp.free hp2, rfl⟩⟩
    rintro σ' H4 ⟨ol, ⟨s4, eo, no⟩, rfl⟩
    have S4 : St72 T.P_law h l ol H4 := by
      have B3 := (B1.same s2).same s3
      refine ⟨B3.same s4, eo, Lm.TabF.nil fun p hp => ?_, B3.free no⟩
      rw [List.mem_singleton.mp hp]
      exact s4 _ _ (s3 _ _ (s2 _ _ hP1))
    refine ⟨fun σ' H5 => ∃ (y3 y4 y5 y6 y7 y8 y9 y10 y11 y12 y13 y14 : Option V), St72 T.P_law h l ol H5 ∧ σ' = [some (.ref a), some (.ref h), some (.ref ol), y3, y4, y5, y6, y7, y8, y9, y10, y11, y12, y13, y14], ?_, ?_⟩
    · simp? only [tFor_eq, iRng1]
      refine forB_it (for_it walk_range (fun i σ Hm => ∃ (y3 y4 y5 y6 y7 y8 y9 y10 y11 y12 y13 y14 : Option V), St72 T.P_law h l ol Hm ∧ σ = [some (.ref a), some (.ref h), some (.ref ol), y3, y4, y5, y6, y7, y8, y9, y10, y11, y12, y13, y14])
        ⟨none, none, none, none, none, none, none, none, none, none, none, none, S4, rfl⟩ (fun _ _ _ _ _ => trivial) ?_ ?_)
      · rintro i y σ Hm Hm2 hi ⟨y3, y4, y5, y6, y7, y8, y9, y10, y11, y12, y13, y14, S5, rfl⟩ ⟨rfl, rfl⟩
        simp? only [gName]
        refine ⟨fun σ' H6 => ∃ (L : Addr) (es : List (Addr × D72.Deed)), (St72 T.P_law h l ol H6 ∧ H6 L = some (.lst (es.map fun e => V.ref e.1)) ∧ (∀ e ∈ es, DeedAt H6 e.1 e.2 ∧ DeedSm e.2 ∧ D72.GdD e.2) ∧ es.length ≤ 30) ∧ σ' = [some (.ref a), some (.ref h), some (.ref ol), some (.int (0 + (i : Int))), some (.ref L), y5, y6, y7, y8, y9, y10, y11, y12, y13, y14], ?_, ?_⟩
        · simp? only []
          refine ⟨h, l, 30, rfl, S5.X, by decide, by decide, fun n H6 n0 n1 X6 k6 => ?_⟩
          exact ⟨h, l, n, rfl, X6, n0, by omega, fun H7 L es hL X7 k7 eL eg le => ⟨(S5.box X6 k6).box X7 k7, L, es, eL, eg, le, rfl⟩⟩
        rintro σ' H6 ⟨L, es, ⟨S6, eL, eg, le⟩, rfl⟩
        refine ⟨fun σ' H7 => ∃ (rl : Addr) (y13 : Option V), (Same H6 H7 ∧ H7 rl = some (.lst ((es.map fun e => D72.rowOf e.2).map V.str)) ∧ H6 rl = none) ∧ σ' = [some (.ref a), some (.ref h), some (.ref ol), some (.int (0 + (i : Int))), some (.ref L), some (.ref rl), y6, y7, y8, y9, y10, y11, y12, y13, y14], ?_, ?_⟩
        · simp? only [tLc_eq, iList]
          refine ⟨⟨_, .inl (.inl eL)⟩, lc_all (walk_list (xs := es.map fun e => V.ref e.1)) es (fun e y _ => y = .str (D72.rowOf e.2)) (by rw [List.length_map]) (by omega) (fun H6 s => .inl (.inl (s _ _ eL))) yat_same (fun _ _ _ _ _ h _ _ => h) (fun j e y H7 H8 Q2 he s7 hy k2 => ?_) fun D H7 zs hD e1 s7 e2 e3 => ?_⟩
          · obtain ⟨rfl, rfl⟩ := yat_of he hy
            obtain ⟨g1, g2, g3⟩ := eg e (List.mem_of_getElem? he)
            simp? only [gName]
            exact ⟨e.1, e.2, rfl, g1.tups fun b xs q => s7 _ _ q, g2, fun H9 s9 => k2 _ _ s9 rfl⟩
          · rw [zs_vals (f := fun e : Addr × D72.Deed => V.str (D72.rowOf e.2)) e1 e3] at e2
            exact ⟨s7, D, by rw [e2, List.map_map]; rfl, hD, rfl⟩
        rintro σ' H7 ⟨rl, y13', ⟨s7, er, nr⟩, rfl⟩
        have S7 := S6.same s7
        have eg7 : ∀ e ∈ es, DeedAt H7 e.1 e.2 ∧ DeedSm e.2 ∧ D72.GdD e.2 := fun e he => ⟨(eg e he).1.tups fun b xs q => s7 _ _ q, (eg e he).2⟩
        have eL7 := s7 _ _ eL
        generalize hrows : (es.map fun e => D72.rowOf e.2) = rows at er
        have lrows : rows.length ≤ 30 := by rw [← hrows, List.length_map]; exact le
        have rlen : ∀ r ∈ rows, r.length ≤ 1300 := fun r hr => by
          rw [← hrows] at hr
          obtain ⟨e, he, rfl⟩ := List.mem_map.mp hr
          exact row_len (eg e he).2.1
        have sl := sum_sep (B := 1300) (C := 30) rlen lrows
        have l1 : (Str.ofString "\n").length = 1 := by decide +kernel
        refine ⟨fun σ' H8 => H7 = H8 ∧ σ' = [some (.ref a), some (.ref h), some (.ref ol), some (.int (0 + (i : Int))), some (.ref L), some (.ref rl), some (.str (Txt.join D72.nl rows)), y7, y8, y9, y10, y11, y12, y13', y14], ?_, ?_⟩
        · simp? only []
          refine ⟨rows, .inl (.inl (.inl er)), ?_, rfl⟩
          rw [l1]
          omega
        rintro σ' _ ⟨rfl, rfl⟩
        obtain ⟨g1, g2, g3⟩ := D72.deeds_good (ds := es.map (·.2)) fun d hd => by
          obtain ⟨e, he, rfl⟩ := List.mem_map.mp hd
          exact (eg e he).2.2
        have er2 : (es.map (·.2)).map D72.rowOf = rows := by rw [← hrows, List.map_map]; rfl
        rw [er2] at g1 g2 g3
        have jl := join_len D72.nl rows
        have l1' : D72.nl.length = 1 := l1
        rw [l1'] at jl
        have jl : (Txt.join D72.nl rows).length ≤ 39030 := by rw [TL.join_eq]; omega
        refine ⟨fun σ' H8 => Same H7 H8 ∧ σ' = [some (.ref a), some (.ref h), some (.ref ol), some (.int (0 + (i : Int))), some (.ref L), some (.ref rl), some (.str (Txt.join D72.nl rows)), y7, y8, y9, y10, y11, y12, y13', y14], ?_, ?_⟩
        · simp? only []
          refine ⟨L, es, rfl, eL7, fun e he => ⟨(eg7 e he).1, (eg7 e he).2.1⟩, by omega, fun H8 s8 => ?_⟩
          refine ⟨rfl, ?_⟩
          rw [if_neg (by rw [hrows]; simp)]
          refine ⟨_, rfl, by omega, fun _ H9 L2 es2 s9 nL2 eL2 ee2 eg2 => ?_, fun k hb => by rw [g1, g3] at hb; cases hb⟩
          rw [g1, g2] at ee2
          have e22 : es2.map (·.2) = es.map (·.2) := by
            have z := congrArg (List.filterMap id) ee2
            simpa [List.filterMap_map, Function.comp_def] using z
          have R2 : RX H9 (.ref L2) (.lst (es2.map fun e => deedX e.2)) := rx_lst eL2 (rxs_map fun e he => (eg2 e he).rx)
          have R1 : RX H9 (.ref L) (.lst (es.map fun e => deedX e.2)) := rx_lst (s9 _ _ (s8 _ _ eL7)) (rxs_map fun e he => ((eg7 e he).1.tups fun b xs q => s9 _ _ (s8 _ _ q)).rx)
          have e3 : (es2.map fun e => deedX e.2) = es.map fun e => deedX e.2 := by
            have z := congrArg (List.map deedX) e22
            rw [List.map_map, List.map_map] at z
            exact z
          rw [e3] at R2
          have ok := dxs_ok (g := fun e : Addr × D72.Deed => deedX e.2) (n := 2) (m := 93750) (l := es) fun e he => deedX_ok (eg e he).2.1
          refine ⟨_, _, _, rfl, R2, R1, by simp only [Dx.deep]; omega, by simp only [Dx.fits, List.length_map]; exact ⟨by omega, ok.2⟩, fun H10 s10 => ⟨true, rfl, ?_⟩⟩
          rw [if_neg (by simp)]
          exact s8.trans (s9.trans s10)
        rintro σ' H8 ⟨s8, rfl⟩
        have S8 := S7.same s8
        have er8 := s8 _ _ er
        have nr8 := S6.X.free nr
        clear eL eL7 eg7
        refine ⟨fun σ' H9 => ∃ at_ : Int, (0 ≤ at_ ∧ at_ ≤ rows.length ∧ St72 T.P_law h l ol H9 ∧ H9 rl = some (.lst (rows.map V.str))) ∧ σ' = [some (.ref a), some (.ref h), some (.ref ol), some (.int (0 + (i : Int))), some (.ref L), some (.ref rl), some (.str (Txt.join D72.nl rows)), some (.int at_), y8, y9, y10, y11, y12, y13', y14], ?_, ?_⟩
        · simp? only [er8]
          exact ⟨h, l, _, rfl, S8.X, by omega, by omega, fun r H9 r0 r1 X9 k9 => ⟨r, r0, by omega, S8.box X9 k9, k9 _ _ nr8 er8, rfl⟩⟩
        rintro σ' H9 ⟨at_, ⟨a0, a1, S9, er9⟩, rfl⟩
        obtain ⟨at_, rfl⟩ := Int.eq_ofNat_of_zero_le a0
        refine ⟨fun σ' H10 => ∃ tx : Str, (tx.length ≤ 40000 ∧ St72 T.P_law h l ol H10) ∧ σ' = [some (.ref a), some (.ref h), some (.ref ol), some (.int (0 + (i : Int))), some (.ref L), some (.ref rl), some (.str tx), some (.int at_), y8, y9, y10, y11, y12, y13', y14], ?_, ?_⟩
        · simp? only [er9, rSlL]
          refine ⟨rows.map V.str, .inl (.inl er9), fun p hp => ?_⟩
          have c1 : cutV (rows.map V.str) none (some (at_ : Int)) = (rows.take at_).map V.str := by rw [Td.cutV_to, List.map_take]
          have c2 : cutV (rows.map V.str) (some (at_ : Int)) none = (rows.drop at_).map V.str := by rw [cutV_from, List.map_drop]
          rw [c1]
          have sp := same_new (o := .lst ((rows.take at_).map V.str)) hp
          have ep := upd_same (H := H9) (a := p) (o := .lst ((rows.take at_).map V.str))
          have np := S9.X.free hp
          generalize upd H9 p (.lst ((rows.take at_).map V.str)) = Hp at sp ep ⊢
          have Sp := S9.same sp
          refine ⟨_, by rw [Sp.od]; rfl, h, l, _, rfl, Sp.X, by decide, by decide, fun r H10 r0 r1 X10 k10 => ?_⟩
          have S10 := Sp.box X10 k10
          obtain ⟨wd, hwd⟩ : ∃ wd, oddL[r.toNat]? = some wd := ⟨_, List.getElem?_eq_getElem (show r.toNat < 20 by rw [List.length_map] at r1; have z : (oddL.length : Int) = 20 := rfl; omega)⟩
          refine ⟨_, r, rfl, by rw [S10.od]; rfl, .str wd, by
            have z : r = ((r.toNat : Nat) : Int) := by omega
            rw [z]
            exact atI_nat (by rw [List.getElem?_map, hwd]; rfl), fun p1 hp1 => ?_⟩
          have q1 := same_new (o := .lst [V.str wd]) hp1
          refine ⟨_, q1 _ _ (k10 _ _ np ep), by rw [List.length_map, List.length_take]; exact szl' (by omega), fun p2 hp2 => ?_⟩
          have q2 := same_new (o := .lst ((rows.take at_).map V.str ++ [V.str wd])) hp2
          refine ⟨rows.map V.str, .inl (.inl (q2 _ _ (q1 _ _ (k10 _ _ nr8 (sp _ _ er9))))), fun p3 hp3 => ?_⟩
          rw [c2]
          have q3 := same_new (o := .lst ((rows.drop at_).map V.str)) hp3
          refine ⟨_, q3 _ _ upd_same, by rw [List.length_append, List.length_map, List.length_map, List.length_take, List.length_drop]; exact szl (by show min at_ rows.length + 1 + (rows.length - at_) ≤ 100000; omega), fun p4 hp4 => ?_⟩
          have q4 := same_new (o := .lst ((rows.take at_).map V.str ++ [V.str wd] ++ (rows.drop at_).map V.str)) hp4
          have wl : wd.length ≤ 20 := by
            have z : oddL.all (fun x => decide (x.length ≤ 20)) = true := by decide +kernel
            exact of_decide_eq_true (List.all_eq_true.mp z wd (List.mem_of_getElem? hwd))
          have ll : ((rows.take at_ ++ [wd] ++ rows.drop at_).map fun x => x.length).sum ≤ 39020 := by
            have z := congrArg (fun l : List Str => (l.map fun x => x.length).sum) (List.take_append_drop at_ rows)
            simp only [List.map_append, List.sum_append, List.map_cons, List.map_nil, List.sum_cons, List.sum_nil] at z ⊢
            omega
          have ln : (rows.take at_ ++ [wd] ++ rows.drop at_).length ≤ 32 := by
            rw [List.length_append, List.length_append, List.length_take, List.length_drop]
            simp only [List.length_cons, List.length_nil]
            omega
          have jl := join_len D72.nl (rows.take at_ ++ [wd] ++ rows.drop at_)
          rw [l1'] at jl
          refine ⟨rows.take at_ ++ [wd] ++ rows.drop at_, .inl (.inl (.inl (by rw [upd_same, List.map_append, List.map_append]; rfl))), by rw [l1]; omega, _, ?_, ((((S10.same q1).same q2).same q3).same q4), rfl⟩
          show (Txt.join D72.nl _).length ≤ _
          rw [TL.join_eq]
          omega
        rintro σ' H10 ⟨tx, ⟨lt, S10⟩, rfl⟩
        refine ⟨fun σ' H11 => ∃ sp : Int, (0 ≤ sp ∧ sp ≤ tx.length ∧ St72 T.P_law h l ol H11) ∧ σ' = [some (.ref a), some (.ref h), some (.ref ol), some (.int (0 + (i : Int))), some (.ref L), some (.ref rl), some (.str tx), some (.int at_), some (.int sp), y9, y10, y11, y12, y13', y14], ?_, ?_⟩
        · simp? only []
          exact ⟨szl (by omega), h, l, _, rfl, S10.X, by omega, by omega, fun r H11 r0 r1 X11 k11 => ⟨r, r0, by omega, S10.box X11 k11, rfl⟩⟩
        rintro σ' H11 ⟨sp, ⟨p0, p1, S11⟩, rfl⟩
        obtain ⟨sp, rfl⟩ := Int.eq_ofNat_of_zero_le p0
        refine ⟨fun σ' H12 => ∃ bt : Str, (bt.length ≤ 45000 ∧ St72 T.P_law h l ol H12) ∧ σ' = [some (.ref a), some (.ref h), some (.ref ol), some (.int (0 + (i : Int))), some (.ref L), some (.ref rl), some (.str tx), some (.int at_), some (.int sp), some (.str bt), y10, y11, y12, y13', y14], ?_, ?_⟩
        · simp? only [rSlS]
          refine ⟨szl (by omega), h, l, 5, rfl, S11.X, by decide, by decide, fun r H12 r0 r1 X12 k12 => ?_⟩
          have S12 := S11.box X12 k12
          obtain ⟨c, hc⟩ : ∃ c, (Str.ofString "a1 -\n").cps.toList[r.toNat]? = some c := ⟨_, List.getElem?_eq_getElem (show r.toNat < (Str.ofString "a1 -\n").cps.toList.length by rw [show (Str.ofString "a1 -\n").cps.toList.length = 5 by decide +kernel]; omega)⟩
          have b1 := cutS_to tx sp
          have lc : ({ cps := #[c] } : Str).length = 1 := rfl
          refine ⟨r, rfl, szl (by decide +kernel), c, by
            have z : r = ((r.toNat : Nat) : Int) := by omega
            rw [z]
            exact atI_nat hc, by rw [lc]; exact szl (show _ ≤ 100000 by omega), h, l, 2, rfl, S12.X, by decide, by decide, fun r2 H13 t0 t1 X13 k13 => ⟨r2, rfl, szl (by omega), ?_⟩⟩
          have b2 : (cutS tx (some ((sp : Int) + r2)) none).length ≤ tx.length - sp := by
            obtain ⟨m, hm⟩ := Int.eq_ofNat_of_zero_le (show 0 ≤ (sp : Int) + r2 by omega)
            rw [hm]
            have z := cutS_from tx m
            omega
          have b3 : (cutS tx none (some (sp : Int)) ++ ({ cps := #[c] } : Str)).length = (cutS tx none (some (sp : Int))).length + 1 := by
            rw [TL.len_tl, TL.tl_append, List.length_append, ← TL.len_tl]
            rfl
          refine ⟨by rw [b3]; exact szl (show _ ≤ 100000 by omega), _, ?_, S12.box X13 k13, rfl⟩
          rw [TL.len_tl, TL.tl_append, List.length_append, ← TL.len_tl, ← TL.len_tl, b3]
          omega
        rintro σ' H12 ⟨bt, ⟨lb, S12⟩, rfl⟩
        simp? only [tFor_eq, iList]
        refine ⟨by rw [l1]; exact szl (show _ ≤ 100000 by omega), fun p hp => ?_⟩
        have sp1 := same_new (o := .lst (([tx, bt, tx ++ Str.ofString "\n"] : List Str).map V.str)) hp
        have ep := upd_same (H := H12) (a := p) (o := .lst (([tx, bt, tx ++ Str.ofString "\n"] : List Str).map V.str))
        have S13 := S12.same sp1
        have lall : ∀ x ∈ ([tx, bt, tx ++ Str.ofString "\n"] : List Str), x.length ≤ 45001 := fun x hx => by
          simp only [List.mem_cons, List.mem_nil_iff, or_false] at hx
          rcases hx with rfl | rfl | rfl
          · omega
          · omega
          · rw [TL.len_tl, TL.tl_append, List.length_append, ← TL.len_tl, ← TL.len_tl, l1]
            omega
        change (∃ xs, SqL K (upd H12 p (.lst (([tx, bt, tx ++ Str.ofString "\n"] : List Str).map V.str))) p xs) ∧ forB (Itl K p) _ _ _ _ (upd H12 p (.lst (([tx, bt, tx ++ Str.ofString "\n"] : List Str).map V.str)))
        generalize upd H12 p (.lst (([tx, bt, tx ++ Str.ofString "\n"] : List Str).map V.str)) = H13 at ep S13 ⊢
        generalize ([tx, bt, tx ++ Str.ofString "\n"] : List Str) = ones at ep lall
        refine ⟨⟨_, .inl (.inl ep)⟩, forB_it (for_it (walk_list (xs := ones.map V.str)) (fun m σ Hn => ∃ (z10 z11 z12 z13 z14 : Option V), (St72 T.P_law h l ol Hn ∧ Hn p = some (.lst (ones.map V.str))) ∧ σ = [some (.ref a), some (.ref h), some (.ref ol), some (.int (0 + (i : Int))), some (.ref L), some (.ref rl), some (.str tx), some (.int at_), some (.int sp), some (.str bt), z10, z11, z12, z13, z14])
          ⟨_, _, _, _, _, ⟨S13, ep⟩, rfl⟩ (fun _ _ _ _ hh => by obtain ⟨_, _, _, _, _, ⟨_, e⟩, _⟩ := hh; exact .inl (.inl e)) ?_ ?_)⟩
        · rintro m y σ Hn Hn2 hm ⟨z10, z11, z12, z13, z14, ⟨S14, ep14⟩, rfl⟩ hy
          rw [List.length_map] at hm
          obtain ⟨one, he⟩ : ∃ one, ones[m]? = some one := ⟨_, List.getElem?_eq_getElem hm⟩
          obtain ⟨rfl, rfl⟩ := yat_of he hy
          have lone := lall one (List.mem_of_getElem? he)
          obtain ⟨lr1, lr2⟩ := D72.rows_len one
          simp? only [gName]
          refine ⟨fun σ' Ho => ∃ (sl : Addr), (St72 T.P_law h l ol Ho ∧ Ho p = some (.lst (ones.map V.str)) ∧ Ho sl = some (.lst ((D72.rowsOf one).map V.str))) ∧ σ' = [some (.ref a), some (.ref h), some (.ref ol), some (.int (0 + (i : Int))), some (.ref L), some (.ref rl), some (.str tx), some (.int at_), some (.int sp), some (.str bt), some (.ref sl), z11, some (.str one), z13, z14], ?_, ?_⟩
          · simp? only []
            by_cases c : one = Str.empty
            · rw [if_neg (by rw [decide_eq_true (show one = Str.ofString "" from c)]; decide)]
              intro q hq
              have sq := same_new (o := .lst []) hq
              exact ⟨S14.same sq, sq _ _ ep14, q, by rw [upd_same, c]; rfl, rfl⟩
            · rw [if_pos (by rw [decide_eq_false (show ¬ one = Str.ofString "" from c)]; rfl)]
              refine ⟨by decide +kernel, szl (show _ ≤ 100000 by omega), fun q hq => ?_⟩
              have sq := same_new (o := .lst ((Txt.split one (Str.ofString "\n")).map V.str)) hq
              exact ⟨S14.same sq, sq _ _ ep14, q, by rw [upd_same]; unfold D72.rowsOf; rw [if_neg c], rfl⟩
          rintro σ' Ho ⟨sl, ⟨S15, ep15, es15⟩, rfl⟩
          refine ⟨fun σ' Hq => ∃ (bl : Addr) (y14 : Option V), (St72 T.P_law h l ol Hq ∧ Hq p = some (.lst (ones.map V.str)) ∧ Hq bl = some (.lst (((List.range (D72.rowsOf one).length).filter fun k => !D72.isRow ((D72.rowsOf one).getD k Str.empty)).map fun k : Nat => V.int (k : Int)))) ∧ σ' = [some (.ref a), some (.ref h), some (.ref ol), some (.int (0 + (i : Int))), some (.ref L), some (.ref rl), some (.str tx), some (.int at_), some (.int sp), some (.str bt), some (.ref sl), some (.ref bl), some (.str one), z13, y14], ?_, ?_⟩
          · simp? only [tLc_eq, iRng1, es15]
            refine ⟨by omega, by omega, ?_⟩
            rw [Int.toNat_natCast]
            refine lc_ents walk_range (List.range (D72.rowsOf one).length) (fun k => !D72.isRow ((D72.rowsOf one).getD k Str.empty)) (fun k y _ => y = .int (k : Int)) (by rw [List.length_range]) (by rw [List.length_range]; omega) (fun _ _ => trivial) (fun i H x H' h => by rw [h.1]; exact Same.refl _) (fun _ _ _ _ _ h _ _ => h) (fun j k v H6 H7 Q2 N he s6 hy g1 g2 => ?_) fun D H6 zs hD e1 s6 e2 e3 => ?_
            · obtain ⟨rfl, rfl⟩ := hy
              have hj : j < (D72.rowsOf one).length := by
                have z := (List.getElem?_eq_some_iff.mp he).1
                rw [List.length_range] at z
                exact z
              obtain rfl : j = k := by
                rw [List.getElem?_range hj] at he
                exact Option.some.inj he
              have es6 := s6 _ _ es15
              simp? only [gName, es6]
              obtain ⟨r, hr2⟩ : ∃ r, (D72.rowsOf one)[j]? = some r := ⟨_, List.getElem?_eq_getElem hj⟩
              have gd : (D72.rowsOf one).getD j Str.empty = r := by rw [List.getD_eq_getElem?_getD, hr2, Option.getD_some]
              rw [gd] at g1 g2
              refine ⟨.str r, by rw [Int.zero_add]; exact atI_nat (by rw [List.getElem?_map, hr2]; rfl), r, rfl, by have := lr2 r (List.mem_of_getElem? hr2); omega, fun H8 s8 => ⟨_, rfl, ?_⟩⟩
              by_cases cn : D72.isRow r = true
              · rw [if_neg (by rw [cn]; decide)]
                exact g2 (by rw [cn]; rfl) _ s8
              · rw [if_pos (by simpa using cn)]
                exact g1 (by simpa using cn) _ _ s8 (by rw [Int.zero_add])
            · rw [zs_vals (f := fun k : Nat => V.int (k : Int)) e1 e3] at e2
              exact ⟨S15.same s6, s6 _ _ ep15, D, e2, rfl⟩
          rintro σ' Hq ⟨bl, y14, ⟨S16, ep16, eb16⟩, rfl⟩
          simp? only [Lm.tCallZ, Lm.tLam]
          refine ⟨S16.tab, fun f H9 e9 T9 A9 B zb => ?_⟩
          have S17 := S16.extN e9 T9
          have ep17 := e9 _ _ ep16 (fun ps q => by cases q)
          have eb17 := e9 _ _ eb16 (fun ps q => by cases q)
          refine ⟨f, _, rfl, A9 H9 (Lm.KeepF.refl _) _ B zb, fun E Qn hE hN => ?_⟩
          have fin : ∀ (H10 : Hp), Same H9 H10 → ∀ (p1 : Addr), H10 p1 = none → ∃ x1, upd H10 p1 (HO.lst [V.int (-1)]) bl = some (HO.lst x1) ∧ x1.length + 1 ≤ sizeLine ∧
              ∀ (p2 : Addr), upd H10 p1 (HO.lst [V.int (-1)]) p2 = none → ∃ x2, atI (x1 ++ [V.int (-1)]) 0 = some x2 ∧
                spAlike 3 [V.int (dueV one), x2] (upd (upd H10 p1 (HO.lst [V.int (-1)])) p2 (HO.lst (x1 ++ [V.int (-1)]))) (fun x H1 => ∃ c, x = V.bl c ∧ if (!c) = true then Q (V.bl false) H1 else St72 T.P_law h l ol H1 ∧ H1 p = some (HO.lst (ones.map V.str))) E0 := fun H10 s10 p1 hp1 => by
            have q1 := same_new (o := .lst [V.int (-1)]) hp1
            refine ⟨_, q1 _ _ (s10 _ _ eb17), by rw [List.length_map]; exact szl' (by have z := List.length_filter_le (fun k => !D72.isRow ((D72.rowsOf one).getD k Str.empty)) (List.range (D72.rowsOf one).length); rw [List.length_range] at z; omega), fun p2 hp2 => ⟨_, due_at one, ?_⟩⟩
            have ss := s10.trans (q1.trans (same_new (o := .lst ((((List.range (D72.rowsOf one).length).filter fun k => !D72.isRow ((D72.rowsOf one).getD k Str.empty)).map fun k : Nat => V.int (k : Int)) ++ [V.int (-1)])) hp2))
            refine ⟨_, _, .int (dueV one), rfl, rx_int _, rx_int _, Nat.zero_le _, trivial, fun H12 s12 => ⟨true, rfl, ?_⟩⟩
            rw [if_neg (by simp)]
            exact ⟨S17.same (ss.trans s12), s12 _ _ (ss _ _ ep17)⟩
          refine ⟨.str one, rfl, one, rfl, by omega, fun hb H10 L2 es2 s10 nL2 eL2 ee2 eg2 => hN _ H10 ?_, fun k hb H10 d s10 hd => hE k d H10 hd ?_⟩
          · have z := fin H10 s10
            unfold dueV at z
            rw [hb] at z
            exact z
          · have z := fin H10 s10
            unfold dueV at z
            rw [hb] at z
            exact z
        · rintro σ Hn ⟨z10, z11, z12, z13, z14, ⟨S14, ep14⟩, rfl⟩
          exact ⟨S14, _, _, _, _, _, _, _, _, _, _, _, _, rfl⟩
      · rintro σ Hm ⟨y3, y4, y5, y6, y7, y8, y9, y10, y11, y12, y13, y14, S5, rfl⟩
        exact ⟨S5, y3, y4, y5, y6, y7, y8, y9, y10, y11, y12, y13, y14, rfl⟩
    rintro σ' H5 ⟨y3, y4, y5, y6, y7, y8, y9, y10, y11, y12, y13, y14, S5, rfl⟩
    simp? only []
    have r0 : D72.rowsOf (Str.ofString "") = [] := rfl
    refine ⟨_, rfl, by decide +kernel, fun _ H6 L es s6 nL eL ee eg => fun p hp => ?_, fun k hk => by rw [r0] at hk; cases hk⟩
    have z : es = [] := by
      rw [r0] at ee
      exact List.map_eq_nil_iff.mp ee
    subst z
    have sp := same_new (o := .lst []) hp
    refine ⟨L, rfl, [], by rw [sp _ _ eL]; rfl, ?_⟩
    rw [if_pos (show ([] : List V).isEmpty = true from rfl)]
    intro p2 hp2
    refine ⟨p2, [], rfl, upd_same, (fun e he => by cases he), by decide, fun H7 s7 => ⟨rfl, ?_⟩⟩
    have z : decide (V.str (Txt.join D72.nl ([].map fun e : Addr × D72.Deed => D72.rowOf e.2)) = V.str (Str.ofString "")) = true := by
      rw [decide_eq_true_iff, List.map_nil, TL.join_eq]
      rfl
    rw [z]
    exact k _
end

theorem ok_all {P : Program} {w : World} {K : PySem.W.Frag} {mg : Str → Option Value} {base : Heap} (T : Txt K mg w) (TB : LamX.TabB base mg T.c_law T.P_law) : FnOk P w K mg base CX0 8 T.f_law T.fd_law ["_law_script"] (spLaw K T.P_law) := ok_law T TB
theorem all_mk {l : PySem.W.OpenLaw} {w : World} {K : PySem.W.Frag} {h : Heap} {mg : Str → Option Value} {cL PL fa f0 f1 f2 f3 f4 f5 f6 f7 f8 f9 f10 f11 f12 f13 CBadText : Addr} (X : K.In h) (G : h.Ns mainGlobals mg) (hfa : mg "law" = some (.ref fa))
    {od0 an0 od1 an1 od2 an2 od3 an3 od4 an4 od5 an5 od6 an6 od7 an7 od8 an8 od9 an9 od10 an10 od11 an11 od12 an12 od13 an13 : Option Addr} {sl0 sl1 sl2 sl3 sl4 sl5 sl6 sl7 sl8 sl9 sl10 sl11 sl12 sl13 : Array (Option Value)} {oc0 kV0 dc0 pm0 cd0 ct0 oc1 kV1 dc1 pm1 cd1 ct1 oc2 kV2 dc2 pm2 cd2 ct2 oc3 kV3 dc3 pm3 cd3 ct3 oc4 kV4 dc4 pm4 cd4 ct4 oc5 kV5 dc5 pm5 cd5 ct5 oc6 kV6 dc6 pm6 cd6 ct6 oc7 kV7 dc7 pm7 cd7 ct7 oc8 kV8 dc8 pm8 cd8 ct8 oc9 kV9 dc9 pm9 cd9 ct9 oc10 kV10 dc10 pm10 cd10 ct10 oc11 kV11 dc11 pm11 cd11 ct11 oc12 kV12 dc12 pm12 cd12 ct12 oc13 kV13 dc13 pm13 ct13 : Value}
    (a0 : PySem.W.findIn K (.ref CBadText) "__init__" = some (some (.ref f0))) (i0 : PySem.W.isFn K (.ref f0) = true) (ty0 : PySem.W.typeIn K (.ref f0) = some (.type "function"))
    (l0 : K.lookup f0 = some ⟨oc0, od0, .func (PySem.W.fnOf "__init__" "BadText.__init__" (defArgs s_BadText_init) (defBody s_BadText_init) (defScope s_BadText_init) .none kV0 dc0 pm0 an0 cd0 ct0), sl0⟩) (c0 : PySem.W.codeIn K cd0 "BadText.__init__" = true) (k0 : PySem.W.keepIn K (.ref f0) = true)
    (a1 : PySem.W.nsIn K mainGlobals "number_in" = some (some (.ref f1)))
    (l1 : K.lookup f1 = some ⟨oc1, od1, .func (PySem.W.fnOf "number_in" "number_in" (defArgs s_number_in) (defBody s_number_in) (defScope s_number_in) .none kV1 dc1 pm1 an1 cd1 ct1), sl1⟩) (c1 : PySem.W.codeIn K cd1 "number_in" = true) (k1 : PySem.W.keepIn K (.ref f1) = true)
    (a2 : PySem.W.nsIn K mainGlobals "deed_in" = some (some (.ref f2)))
    (l2 : K.lookup f2 = some ⟨oc2, od2, .func (PySem.W.fnOf "deed_in" "deed_in" (defArgs s_deed_in) (defBody s_deed_in) (defScope s_deed_in) .none kV2 dc2 pm2 an2 cd2 ct2), sl2⟩) (c2 : PySem.W.codeIn K cd2 "deed_in" = true) (k2 : PySem.W.keepIn K (.ref f2) = true)
    (a3 : PySem.W.nsIn K mainGlobals "read_day" = some (some (.ref f3)))
    (l3 : K.lookup f3 = some ⟨oc3, od3, .func (PySem.W.fnOf "read_day" "read_day" (defArgs s_read_day) (defBody s_read_day) (defScope s_read_day) .none kV3 dc3 pm3 an3 cd3 ct3), sl3⟩) (c3 : PySem.W.codeIn K cd3 "read_day" = true) (k3 : PySem.W.keepIn K (.ref f3) = true)
    (a4 : PySem.W.nsIn K mainGlobals "day_text" = some (some (.ref f4)))
    (l4 : K.lookup f4 = some ⟨oc4, od4, .func (PySem.W.fnOf "day_text" "day_text" (defArgs s_day_text) (defBody s_day_text) (defScope s_day_text) .none kV4 dc4 pm4 an4 cd4 ct4), sl4⟩) (c4 : PySem.W.codeIn K cd4 "day_text" = true) (k4 : PySem.W.keepIn K (.ref f4) = true)
    (a5 : PySem.W.nsIn K mainGlobals "_law_mix" = some (some (.ref f5)))
    (l5 : K.lookup f5 = some ⟨oc5, od5, .func (PySem.W.fnOf "_law_mix" "_law_mix" (defArgs s_l_mix) (defBody s_l_mix) (defScope s_l_mix) .none kV5 dc5 pm5 an5 cd5 ct5), sl5⟩) (c5 : PySem.W.codeIn K cd5 "_law_mix" = true) (k5 : PySem.W.keepIn K (.ref f5) = true)
    (a6 : PySem.W.nsIn K mainGlobals "_law_next" = some (some (.ref f6)))
    (l6 : K.lookup f6 = some ⟨oc6, od6, .func (PySem.W.fnOf "_law_next" "_law_next" (defArgs s_l_next) (defBody s_l_next) (defScope s_l_next) .none kV6 dc6 pm6 an6 cd6 ct6), sl6⟩) (c6 : PySem.W.codeIn K cd6 "_law_next" = true) (k6 : PySem.W.keepIn K (.ref f6) = true)
    (a7 : PySem.W.nsIn K mainGlobals "_law_alike" = some (some (.ref f7)))
    (l7 : K.lookup f7 = some ⟨oc7, od7, .func (PySem.W.fnOf "_law_alike" "_law_alike" (defArgs s_l_alike) (defBody s_l_alike) (defScope s_l_alike) .none kV7 dc7 pm7 an7 cd7 ct7), sl7⟩) (c7 : PySem.W.codeIn K cd7 "_law_alike" = true) (k7 : PySem.W.keepIn K (.ref f7) = true)
    (a8 : PySem.W.nsIn K mainGlobals "_law_place" = some (some (.ref f8)))
    (l8 : K.lookup f8 = some ⟨oc8, od8, .func (PySem.W.fnOf "_law_place" "_law_place" (defArgs s_l_place) (defBody s_l_place) (defScope s_l_place) .none kV8 dc8 pm8 an8 cd8 ct8), sl8⟩) (c8 : PySem.W.codeIn K cd8 "_law_place" = true) (k8 : PySem.W.keepIn K (.ref f8) = true)
    (a9 : PySem.W.nsIn K mainGlobals "_law_deeds" = some (some (.ref f9)))
    (l9 : K.lookup f9 = some ⟨oc9, od9, .func (PySem.W.fnOf "_law_deeds" "_law_deeds" (defArgs s_l_deeds) (defBody s_l_deeds) (defScope s_l_deeds) .none kV9 dc9 pm9 an9 cd9 ct9), sl9⟩) (c9 : PySem.W.codeIn K cd9 "_law_deeds" = true) (k9 : PySem.W.keepIn K (.ref f9) = true)
    (a10 : PySem.W.nsIn K mainGlobals "_law_row" = some (some (.ref f10)))
    (l10 : K.lookup f10 = some ⟨oc10, od10, .func (PySem.W.fnOf "_law_row" "_law_row" (defArgs s_l_row) (defBody s_l_row) (defScope s_l_row) .none kV10 dc10 pm10 an10 cd10 ct10), sl10⟩) (c10 : PySem.W.codeIn K cd10 "_law_row" = true) (k10 : PySem.W.keepIn K (.ref f10) = true)
    (a11 : PySem.W.nsIn K mainGlobals "_law_is_number" = some (some (.ref f11)))
    (l11 : K.lookup f11 = some ⟨oc11, od11, .func (PySem.W.fnOf "_law_is_number" "_law_is_number" (defArgs s_l_is_number) (defBody s_l_is_number) (defScope s_l_is_number) .none kV11 dc11 pm11 an11 cd11 ct11), sl11⟩) (c11 : PySem.W.codeIn K cd11 "_law_is_number" = true) (k11 : PySem.W.keepIn K (.ref f11) = true)
    (a12 : PySem.W.nsIn K mainGlobals "_law_is_row" = some (some (.ref f12)))
    (l12 : K.lookup f12 = some ⟨oc12, od12, .func (PySem.W.fnOf "_law_is_row" "_law_is_row" (defArgs s_l_is_row) (defBody s_l_is_row) (defScope s_l_is_row) .none kV12 dc12 pm12 an12 cd12 ct12), sl12⟩) (c12 : PySem.W.codeIn K cd12 "_law_is_row" = true) (k12 : PySem.W.keepIn K (.ref f12) = true)
    (a13 : PySem.W.nsIn K mainGlobals "law" = some (some (.ref f13)))
    (l13 : K.lookup f13 = some ⟨oc13, od13, .func (PySem.W.fnOf "law" "law" (defArgs s_law) (defBody s_law) (defScope s_law) .none kV13 dc13 pm13 an13 (.ref cL) ct13), sl13⟩) (c13 : PySem.W.codeIn K (.ref cL) "law" = true) (k13 : PySem.W.keepIn K (.ref f13) = true)
    (z_ValueError : PySem.W.nsIn K mainGlobals "ValueError" = some none)
    (z_len : PySem.W.nsIn K mainGlobals "len" = some none)
    (z_int : PySem.W.nsIn K mainGlobals "int" = some none)
    (z_tuple : PySem.W.nsIn K mainGlobals "tuple" = some none)
    (z_enumerate : PySem.W.nsIn K mainGlobals "enumerate" = some none)
    (z_str : PySem.W.nsIn K mainGlobals "str" = some none)
    (z_list : PySem.W.nsIn K mainGlobals "list" = some none)
    (z_max : PySem.W.nsIn K mainGlobals "max" = some none)
    (z_isinstance : PySem.W.nsIn K mainGlobals "isinstance" = some none)
    (z_range : PySem.W.nsIn K mainGlobals "range" = some none)
    (z_bool : PySem.W.nsIn K mainGlobals "bool" = some none)
    {CStoreError : Addr}
    (aE_StoreError : PySem.W.nsIn K mainGlobals "StoreError" = some (some (.ref CStoreError)))
    (ei_StoreError : PySem.W.isClsIn K CStoreError = true)
    (et_StoreError : PySem.W.typeIn K (.ref CStoreError) = some (.type "type"))
    (er_StoreError : PySem.W.readsIn K CStoreError (.type "type") = true)
    (eu_StoreError : PySem.W.specialIn K (.ref CStoreError) "__getattribute__" = some (some (.builtin "type.__getattribute__")))
    (evi_StoreError : PySem.W.findCls K (.ref CStoreError) (.type "type") "__init__" = some (.val (.builtin "ValueError.__init__")))
    (en : PySem.W.specialIn K (.builtin "object.__class__") "__get__" = some (some (.builtin "getset_descriptor.__get__")))
    (ey : PySem.W.takesIn K (.builtin "object.__class__") = some true)
    {nm_BadText qn_BadText : Str} {N_BadText : Addr} {bs_BadText bm_BadText sb_BadText : List Value} {sn_BadText : List Str} {ab_BadText : Bool} {col_BadText : Option Bool} {dd_BadText : Option Addr} {k0_BadText k1_BadText k2_BadText k3_BadText k5_BadText : Option Value}
    (aE_BadText : PySem.W.nsIn K mainGlobals "BadText" = some (some (.ref CBadText)))
    (lk_BadText : K.lookup CBadText = some (excClassObj nm_BadText qn_BadText CBadText N_BadText bs_BadText bm_BadText true sn_BadText sb_BadText ab_BadText col_BadText dd_BadText k0_BadText k1_BadText k2_BadText k3_BadText k5_BadText "ValueError.__new__"))
    (rv_BadText : PySem.HandSPX.refsVE bm_BadText = true)
    (sa_BadText : PySem.W.findIn K (.ref CBadText) "__setattr__" = some (some (.builtin "object.__setattr__")))
    (es_BadText : PySem.W.subIn K (.ref CBadText) (.type "BaseException") = some true)
    (et_BadText : PySem.W.typeIn K (.ref CBadText) = some (.type "type"))
    (ek_BadText : PySem.W.keepIn K (.ref CBadText) = true)
    (eg_BadText : PySem.W.findIn K (.ref CBadText) "__getattribute__" = some (some (.builtin "BaseException.__getattribute__")))
    (eh_BadText : PySem.W.findIn K (.ref CBadText) "__getattr__" = some none)
    (ed_BadText : PySem.W.hasDictIn K CBadText = true)
    (ec_BadText : PySem.W.findIn K (.ref CBadText) "__class__" = some (some (.builtin "object.__class__")))
    (em_BadText : PySem.W.mroIn K CBadText (.type "object") = some true)
    (ei_BadText : PySem.W.isClsIn K CBadText = true)
    (eq_BadText : PySem.W.subIn K (.ref CBadText) (.ref CBadText) = some true)
    (eb_BadText : PySem.W.subIn K (.ref CBadText) (.ref CStoreError) = some true)
    (ev_BadText : PySem.W.subIn K (.ref CBadText) (.type "ValueError") = some true)
    (np_BadText : PySem.W.findIn K (.ref CBadText) "place" = some none)
    {tzFIGURES : Tok} (tgFIGURES : PySem.W.nsIn K mainGlobals "FIGURES" = some (some (.str "0123456789" tzFIGURES)))
    {tzASK : Tok} (tgASK : PySem.W.nsIn K mainGlobals "ASK" = some (some (.str "ask" tzASK)))
    {tzM : Tok} (tgM : PySem.W.nsIn K mainGlobals "MOST_FIGURES" = some (some (.int 3 tzM)))
    {tA : Addr} {tE : Array DictEntry} {tN : Nat} (ta : PySem.W.nsIn K mainGlobals "FORMS" = some (some (.ref tA))) (tl : K.lookup tA = some ⟨.type "dict", none, .dict tE tN, #[]⟩) (tk : PySem.W.KeysLit w.params tE.toList) (tw : (tA == sysModules) = false) (te : tE.toList.map entOf = D72.forms.map fun e => some (e.1, (e.2 : Int)))
    {eL : Value} {dL : Option Addr} {vL : Array Value} {sL : Array (Option Value)} (own : LamX.OwnTab K fa h) (lc : K.lookup cL = some ⟨eL, dL, .fields vL, sL⟩) (vP : vL[11]? = some (.ref PL)) (nP : K.lookup PL = none) (hC : PySem.W.codeHdIn K cL PL = true)
    : LamX.LawAtS l w K CX0 8 63 "_law_script" mg fa h := by
  have e := hfa.symm.trans (PySem.W.mg_of X G a13)
  cases e
  have F0 := fun_mk (st := s_BadText_init) l0 c0 k0
  have F1 := fun_mk (st := s_number_in) l1 c1 k1
  have F2 := fun_mk (st := s_deed_in) l2 c2 k2
  have F3 := fun_mk (st := s_read_day) l3 c3 k3
  have F4 := fun_mk (st := s_day_text) l4 c4 k4
  have F5 := fun_mk (st := s_l_mix) l5 c5 k5
  have F6 := fun_mk (st := s_l_next) l6 c6 k6
  have F7 := fun_mk (st := s_l_alike) l7 c7 k7
  have F8 := fun_mk (st := s_l_place) l8 c8 k8
  have F9 := fun_mk (st := s_l_deeds) l9 c9 k9
  have F10 := fun_mk (st := s_l_row) l10 c10 k10
  have F11 := fun_mk (st := s_l_is_number) l11 c11 k11
  have F12 := fun_mk (st := s_l_is_row) l12 c12 k12
  have F13 := fun_mk (st := s_law) l13 c13 k13
  have hP := own cL PL _ _ _ _ _ _ l13 rfl rfl lc vP
  have T : ∃ T : Txt K mg w, T.f_law = fa ∧ T.fd_law = PySem.W.fnOf "law" "law" (defArgs s_law) (defBody s_law) (defScope s_law) .none kV13 dc13 pm13 an13 (.ref cL) ct13 ∧ T.c_law = cL ∧ T.P_law = PL := ⟨{ f_BadText_init := f0, fd_BadText_init := _, F_BadText_init := F0, kb_BadText_init := (F0.kbn (ps := ["self", "place"]) 1 ["place"] fun _ _ _ _ _ _ us ws hu hw => match us, hu, ws, hw with | [_], _, [_], _ => rfl), iO_BadText := a0, tO_BadText := ty0, f_number_in := f1, fd_number_in := _, F_number_in := F1, b_number_in := (F1.binds (ps := ["word"]) fun _ _ _ _ _ _ us hl => match us, hl with | [_], _ => rfl), mg_number_in := PySem.W.mg_of X G a1, f_deed_in := f2, fd_deed_in := _, F_deed_in := F2, b_deed_in := (F2.binds (ps := ["line"]) fun _ _ _ _ _ _ us hl => match us, hl with | [_], _ => rfl), mg_deed_in := PySem.W.mg_of X G a2, f_read_day := f3, fd_read_day := _, F_read_day := F3, b_read_day := (F3.binds (ps := ["text"]) fun _ _ _ _ _ _ us hl => match us, hl with | [_], _ => rfl), mg_read_day := PySem.W.mg_of X G a3, f_day_text := f4, fd_day_text := _, F_day_text := F4, b_day_text := (F4.binds (ps := ["deeds"]) fun _ _ _ _ _ _ us hl => match us, hl with | [_], _ => rfl), mg_day_text := PySem.W.mg_of X G a4, f_l_mix := f5, fd_l_mix := _, F_l_mix := F5, b_l_mix := (F5.binds (ps := ["_law_script", "_law_seed"]) fun _ _ _ _ _ _ us hl => match us, hl with | [_, _], _ => rfl), mg_l_mix := PySem.W.mg_of X G a5, f_l_next := f6, fd_l_next := _, F_l_next := F6, b_l_next := (F6.binds (ps := ["_law_h", "_law_many"]) fun _ _ _ _ _ _ us hl => match us, hl with | [_, _], _ => rfl), mg_l_next := PySem.W.mg_of X G a6, f_l_alike := f7, fd_l_alike := _, F_l_alike := F7, b_l_alike := (F7.binds (ps := ["_law_found", "_law_due"]) fun _ _ _ _ _ _ us hl => match us, hl with | [_, _], _ => rfl), mg_l_alike := PySem.W.mg_of X G a7, f_l_place := f8, fd_l_place := _, F_l_place := F8, b_l_place := (F8.binds (ps := ["_law_call"]) fun _ _ _ _ _ _ us hl => match us, hl with | [_], _ => rfl), mg_l_place := PySem.W.mg_of X G a8, f_l_deeds := f9, fd_l_deeds := _, F_l_deeds := F9, b_l_deeds := (F9.binds (ps := ["_law_h", "_law_many"]) fun _ _ _ _ _ _ us hl => match us, hl with | [_, _], _ => rfl), mg_l_deeds := PySem.W.mg_of X G a9, f_l_row := f10, fd_l_row := _, F_l_row := F10, b_l_row := (F10.binds (ps := ["_law_deed"]) fun _ _ _ _ _ _ us hl => match us, hl with | [_], _ => rfl), mg_l_row := PySem.W.mg_of X G a10, f_l_is_number := f11, fd_l_is_number := _, F_l_is_number := F11, b_l_is_number := (F11.binds (ps := ["_law_word"]) fun _ _ _ _ _ _ us hl => match us, hl with | [_], _ => rfl), mg_l_is_number := PySem.W.mg_of X G a11, f_l_is_row := f12, fd_l_is_row := _, F_l_is_row := F12, b_l_is_row := (F12.binds (ps := ["_law_row_here"]) fun _ _ _ _ _ _ us hl => match us, hl with | [_], _ => rfl), mg_l_is_row := PySem.W.mg_of X G a12, f_law := fa, fd_law := _, F_law := F13, b_law := (F13.binds (ps := ["_law_script"]) fun _ _ _ _ _ _ us hl => match us, hl with | [_], _ => rfl), mg_law := PySem.W.mg_of X G a13, n_ValueError := PySem.W.mg_none_of X G z_ValueError, n_len := PySem.W.mg_none_of X G z_len, n_int := PySem.W.mg_none_of X G z_int, n_tuple := PySem.W.mg_none_of X G z_tuple, n_enumerate := PySem.W.mg_none_of X G z_enumerate, n_str := PySem.W.mg_none_of X G z_str, n_list := PySem.W.mg_none_of X G z_list, n_max := PySem.W.mg_none_of X G z_max, n_isinstance := PySem.W.mg_none_of X G z_isinstance, n_range := PySem.W.mg_none_of X G z_range, n_bool := PySem.W.mg_none_of X G z_bool, C_StoreError := CStoreError, mg_StoreError := PySem.W.mg_of X G aE_StoreError, R_StoreError := ⟨er_StoreError, eu_StoreError⟩, v_StoreError := evi_StoreError, C_BadText := CBadText, X_BadText := ⟨eg_BadText, eh_BadText, es_BadText, ed_BadText⟩, E_BadText := ⟨eg_BadText, eh_BadText, es_BadText, ed_BadText, ec_BadText, en, ey, em_BadText⟩, m_BadText := Td.exm_of es_BadText ei_BadText et_BadText eq_BadText, kV_BadText := Td.kit_ve ev_BadText, kS_BadText := kit_sub ei_StoreError et_StoreError eb_BadText, mg_BadText := PySem.W.mg_of X G aE_BadText, O_BadText := ⟨⟨_, _, _, _, _, _, _, _, _, _, _, _, _, _, _, lk_BadText, rv_BadText⟩, sa_BadText, es_BadText, et_BadText, ek_BadText⟩, n_BadText_place := np_BadText, tk_FIGURES := tzFIGURES, mg_FIGURES := PySem.W.mg_of X G tgFIGURES, tk_ASK := tzASK, mg_ASK := PySem.W.mg_of X G tgASK, tk_MOST_FIGURES := tzM, mg_MOST_FIGURES := PySem.W.mg_of X G tgM, a_FORMS := tA, mg_FORMS := PySem.W.mg_of X G ta, D_FORMS := txTab_mk tl tk tw te, c_law := cL, P_law := PL, hc_law := rfl }, rfl, rfl, rfl, rfl⟩
  obtain ⟨T, t1, t2, t3, t4⟩ := T
  refine ⟨PySem.W.fnOf "law" "law" (defArgs s_law) (defBody s_law) (defScope s_law) .none kV13 dc13 pm13 an13 (.ref cL) ct13, [(cL, PL)], spLaw K PL, fun p hp => ?_, fun p hp => ?_, fun p hp => ?_, fun s v => .of_eq rfl, fun H a ns hl _ hH hS => ⟨a, ns, rfl, hS, hl, hH (cL, PL) (List.mem_singleton.mpr rfl), fun _ => rfl⟩, fun base _ _ hTB => ?_⟩
  · rw [List.mem_singleton.mp hp]; exact hP
  · rw [List.mem_singleton.mp hp]; exact nP
  · rw [List.mem_singleton.mp hp]; exact PySem.W.codeHd_of_K X hC
  have TB := hTB (cL, PL) (List.mem_singleton.mpr rfl)
  rw [← t1, ← t2, ← t4]
  rw [← t3, ← t4] at TB
  exact ok_all T TB
theorem walk {l : PySem.W.OpenLaw} {q : Program} {loose : List Str} {XP : (Str → Option Value) → Heap → Prop} {YP : World → Heap → Prop} {d : DefRec} {K : Params → PySem.W.Frag} (hn : l.most = some 63) (hdf : d.params.defaults = []) (hrec : ((recsOf q).any fun e => e.name == d.name) = true)
    (hY : ∀ (w : World) (h : Heap), YP w h → (K w.params).In h)
    (F : ∀ (w : World) (mg : Str → Option Value) (fa : Addr) (h : Heap), YP w h → (K w.params).In h → h.Ns mainGlobals mg → mg d.name = some (.ref fa) → LamX.OwnTab (K w.params) fa h → LamX.LawAtS l w (K w.params) CX0 8 63 "_law_script" mg fa h) :
    PySem.W.WalkO q loose XP YP l.row.toRowW d [] (fun f vs => PySem.call f vs) :=
  LamX.walk_ofOwn (n := 63) (k := 8) (x := "_law_script") (CX := fun _ => CX0) hn (by decide) hdf ⟨rfl, by decide, by decide⟩ hrec hY F fun _ _ _ _ _ z => z
end K72
open PySem PySem.W PyProof.Rows
set_option maxRecDepth 100000 in
set_option maxHeartbeats 0 in
theorem PySem.Challenge.cw_granary_k72_days_written_and_read_holds : PySem.Challenge.rw_granary_k72_days_written_and_read.Holds := by
  w_on; o_law; k_head; (case hw => w_witness2)
  k_fill
  refine K72.walk (l := PySem.Challenge.rw_granary_k72_days_written_and_read) rfl rfl ?R (fun w h Y => PySem.W.km_in_of Y) ?F
  case R => first | rfl | decide +kernel
  case F =>
    intro w mg fa h _ KX G hmg own
    refine' K72.all_mk KX G hmg ?i0 ?ty0 ?a0 ?l0 ?c0 ?k0 ?a1 ?l1 ?c1 ?k1 ?a2 ?l2 ?c2 ?k2 ?a3 ?l3 ?c3 ?k3 ?a4 ?l4 ?c4 ?k4 ?a5 ?l5 ?c5 ?k5 ?a6 ?l6 ?c6 ?k6 ?a7 ?l7 ?c7 ?k7 ?a8 ?l8 ?c8 ?k8 ?a9 ?l9 ?c9 ?k9 ?a10 ?l10 ?c10 ?k10 ?a11 ?l11 ?c11 ?k11 ?a12 ?l12 ?c12 ?k12 ?a13 ?l13 ?c13 ?k13 ?z_ValueError ?z_len ?z_int ?z_tuple ?z_enumerate ?z_str ?z_list ?z_max ?z_isinstance ?z_range ?z_bool ?aE_StoreError ?ei_StoreError ?et_StoreError ?er_StoreError ?eu_StoreError ?evi_StoreError ?en ?ey ?aE_BadText ?lk_BadText ?rv_BadText ?sa_BadText ?es_BadText ?et_BadText ?ek_BadText ?eg_BadText ?eh_BadText ?ed_BadText ?ec_BadText ?em_BadText ?ei_BadText ?eq_BadText ?eb_BadText ?ev_BadText ?np_BadText ?tgFIGURES ?tgASK ?tgM ?ta ?tl ?tk ?tw ?te own ?lc ?vP ?nP ?hC
    (case aE_StoreError => k_is)
    (case aE_BadText => k_is)
    (case i0 => k_is)
    (case ty0 => k_is)
    (case a0 => k_is)
    (case l0 => k_is)
    (case c0 => k_is)
    (case k0 => k_is)
    (case a1 => k_is)
    (case l1 => k_is)
    (case c1 => k_is)
    (case k1 => k_is)
    (case a2 => k_is)
    (case l2 => k_is)
    (case c2 => k_is)
    (case k2 => k_is)
    (case a3 => k_is)
    (case l3 => k_is)
    (case c3 => k_is)
    (case k3 => k_is)
    (case a4 => k_is)
    (case l4 => k_is)
    (case c4 => k_is)
    (case k4 => k_is)
    (case a5 => k_is)
    (case l5 => k_is)
    (case c5 => k_is)
    (case k5 => k_is)
    (case a6 => k_is)
    (case l6 => k_is)
    (case c6 => k_is)
    (case k6 => k_is)
    (case a7 => k_is)
    (case l7 => k_is)
    (case c7 => k_is)
    (case k7 => k_is)
    (case a8 => k_is)
    (case l8 => k_is)
    (case c8 => k_is)
    (case k8 => k_is)
    (case a9 => k_is)
    (case l9 => k_is)
    (case c9 => k_is)
    (case k9 => k_is)
    (case a10 => k_is)
    (case l10 => k_is)
    (case c10 => k_is)
    (case k10 => k_is)
    (case a11 => k_is)
    (case l11 => k_is)
    (case c11 => k_is)
    (case k11 => k_is)
    (case a12 => k_is)
    (case l12 => k_is)
    (case c12 => k_is)
    (case k12 => k_is)
    (case a13 => k_is)
    (case l13 => k_is)
    (case c13 => k_is)
    (case k13 => k_is)
    (case z_ValueError => k_is)
    (case z_len => k_is)
    (case z_int => k_is)
    (case z_tuple => k_is)
    (case z_enumerate => k_is)
    (case z_str => k_is)
    (case z_list => k_is)
    (case z_max => k_is)
    (case z_isinstance => k_is)
    (case z_range => k_is)
    (case z_bool => k_is)
    (case ei_StoreError => k_is)
    (case et_StoreError => k_is)
    (case er_StoreError => k_is)
    (case eu_StoreError => k_is)
    (case evi_StoreError => k_is)
    (case en => k_is)
    (case ey => k_is)
    (case lk_BadText => k_is)
    (case rv_BadText => rfl)
    (case sa_BadText => k_is)
    (case es_BadText => k_is)
    (case et_BadText => k_is)
    (case ek_BadText => k_is)
    (case eg_BadText => k_is)
    (case eh_BadText => k_is)
    (case ed_BadText => k_is)
    (case ec_BadText => k_is)
    (case em_BadText => k_is)
    (case ei_BadText => k_is)
    (case eq_BadText => k_is)
    (case eb_BadText => k_is)
    (case ev_BadText => k_is)
    (case np_BadText => k_is)
    (case tgFIGURES => k_is)
    (case tgASK => k_is)
    (case tgM => k_is)
    (case ta => k_is)
    (case tl => k_is)
    (case tk => k_keys)
    (case tw => decide)
    (case te => first | rfl | decide +kernel)
    (case lc => k_is)
    (case vP => rfl)
    (case nP => first | rfl | decide +kernel)
    (case hC => first | rfl | decide +kernel)

