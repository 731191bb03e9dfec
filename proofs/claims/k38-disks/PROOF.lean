import PyProof.Rows.All
import Wide.All
import OpenK.AllK
import Wide.FinOn
import HandS.ForMost
import HandS.Strs
import HandS.TupAny
import HandS.IsInst
import HandS.More
import HandS.Walk
import HandS.ReCall
import HandS.Evl
import HandS.Style
import KE.GoesMore
import HandS.TupSets
import KE.SortData
import HandS.DeepEq
import HandS.DictTup
import PyProof.DictMoreH
import HandS.Lambda
import HandS.Nested
import KE.KDflt
import HandS.WordsExc
import HandS.ExcOwn
import HandS.ExcIs
import HandS.SetFor
import HandS.Small
import PyProof.EqKinds
import PyProof.SeqRoads
import PyProof.ListOps
import HandS.EndOwn
import PySem.Challenge.RW_granary_k38_disks_step_by_step
set_option Elab.async false
set_option linter.all false
set_option maxRecDepth 100000
set_option maxHeartbeats 4000000
namespace G7
open PySem PySem.Spec PyProof.Rows L2

/-! ### heaps: all that was tracked stands, but at some addresses -/
def Keep (ms : List Addr) (H H' : Hp) : Prop := ∀ b o, b ∉ ms → H b = some o → H' b = some o
theorem Keep.refl {ms : List Addr} {H : Hp} : Keep ms H H := fun _ _ _ h => h
theorem Keep.trans {ms : List Addr} {H H1 H2 : Hp} (a : Keep ms H H1) (b : Keep ms H1 H2) : Keep ms H H2 := fun c o n h => b c o n (a c o n h)
theorem Keep.mono {ms ms' : List Addr} {H H1 : Hp} (a : Keep ms H H1) (s : ∀ b, b ∈ ms → b ∈ ms') : Keep ms' H H1 := fun c o n h => a c o (fun m => n (s c m)) h
theorem Keep.same {H H1 : Hp} (a : Keep [] H H1) : Same H H1 := fun c o h => a c o (by simp) h
theorem Keep.ofSame {ms : List Addr} {H H1 : Hp} (a : Same H H1) : Keep ms H H1 := fun c o _ h => a c o h
theorem Keep.new {ms : List Addr} {H : Hp} {p : Addr} {o : HO} (h : H p = none) : Keep ms H (upd H p o) := fun a u _ e => by
  rw [upd_ne (ne_of_none e h)]
  exact e
theorem Keep.thenNew {ms : List Addr} {H H1 : Hp} {p : Addr} {o : HO} (k : Keep ms H H1) (h : H1 p = none) : Keep ms H (upd H1 p o) := k.trans (Keep.new h)
theorem Keep.upd {ms : List Addr} {H H1 : Hp} {p : Addr} {o : HO} (k : Keep ms H H1) (h : p ∈ ms) : Keep ms H (L2.upd H1 p o) := fun a u n e => by
  rw [upd_ne (fun z => n (by rw [z]; exact h))]
  exact k a u n e
/-- an address that H does not know may change -/
theorem Keep.updFree {ms : List Addr} {H H1 : Hp} {p : Addr} {o : HO} (k : Keep ms H H1) (h : H p = none) : Keep ms H (L2.upd H1 p o) := fun a u n e => by
  rw [upd_ne (ne_of_none e h)]
  exact k a u n e
theorem Keep.free {H H1 : Hp} {p : Addr} (k : Keep [] H H1) (h : H1 p = none) : H p = none := k.same.free h
theorem same_new {H : Hp} {p : Addr} {o : HO} (h : H p = none) : Same H (upd H p o) := fun a u e => by
  rw [upd_ne (ne_of_none e h)]
  exact e
theorem Same.updFree {H H1 : Hp} {p : Addr} {o : HO} (k : Same H H1) (h : H p = none) : Same H (L2.upd H1 p o) := fun a u e => by
  rw [upd_ne (ne_of_none e h)]
  exact k a u e
theorem free_keep {ms : List Addr} {H H1 : Hp} {p : Addr} (k : Keep ms H H1) (n : p ∉ ms) (h : H1 p = none) : H p = none := by
  cases q : H p with
  | none => rfl
  | some o =>
    rw [k p o n q] at h
    cases h
theorem Keep.rd {ms : List Addr} {H H1 : Hp} {a : Addr} {u : HO} (k : Keep ms H H1) (n : a ∉ ms) (h : Rd H a u) : Rd H1 a u := by
  rcases h with h | ⟨o, h⟩
  · exact .inl (k _ _ n h)
  · exact .inr ⟨o, k _ _ n h⟩
theorem Keep.sqL {K : PySem.W.Frag} {ms : List Addr} {H H1 : Hp} {a : Addr} {xs : List V} (k : Keep ms H H1) (n : a ∉ ms) (h : SqL K H a xs) : SqL K H1 a xs := by
  rcases h with h | h
  · exact .inl (k.rd n h)
  · exact .inr h
theorem Keep.sqT {K : PySem.W.Frag} {ms : List Addr} {H H1 : Hp} {a : Addr} {xs : List V} (k : Keep ms H H1) (n : ∀ m, m ∈ ms → ∃ o, H m = some o ∧ Mut (some o)) (h : SqT K H a xs) : SqT K H1 a xs := by
  rcases h with (h | ⟨o, h⟩) | h
  · exact .inl (.inl (k _ _ (fun m => by obtain ⟨u, e, mu⟩ := n _ m; rw [h] at e; cases e; exact mu) h))
  · exact .inl (.inr ⟨o, k _ _ (fun m => by obtain ⟨u, e, mu⟩ := n _ m; rw [h] at e; cases e; exact mu) h⟩)
  · exact .inr h
theorem same_sqT {K : PySem.W.Frag} {H H1 : Hp} {a : Addr} {xs : List V} (k : Same H H1) (h : SqT K H a xs) : SqT K H1 a xs :=
  (Keep.ofSame (ms := []) k).sqT (fun m hm => absurd hm (by simp)) h
theorem int_at {ns : List Int} {i : Nat} {y : V} (h : (ns.map V.int)[i]? = some y) : ∃ z, ns[i]? = some z ∧ y = V.int z := by
  rw [List.getElem?_map] at h
  cases e : ns[i]? with
  | none => rw [e] at h; cases h
  | some z => rw [e] at h; exact ⟨z, rfl, (Option.some.inj h).symm⟩
theorem str_at {ns : List Str} {i : Nat} {y : V} (h : (ns.map V.str)[i]? = some y) : ∃ z, ns[i]? = some z ∧ y = V.str z := by
  rw [List.getElem?_map] at h
  cases e : ns[i]? with
  | none => rw [e] at h; cases h
  | some z => rw [e] at h; exact ⟨z, rfl, (Option.some.inj h).symm⟩
theorem szl {n : Nat} (h : n ≤ 100000) : n ≤ sizeLine := Nat.le_trans h (by decide)
theorem szl' {n : Nat} (h : n < 100000) : n < sizeLine := Nat.lt_of_lt_of_le h (by decide)
theorem hu64_of {A : Around} {k : Nat} (hr : Room k A) : A.units + 64 < cLine := by have := hr.un; omega
theorem map_int_inj {a b : List Int} (h : a.map V.int = b.map V.int) : a = b := by
  induction a generalizing b with
  | nil => cases b with
    | nil => rfl
    | cons _ _ => cases h
  | cons x r ih => cases b with
    | nil => cases h
    | cons y s =>
      injection h with h1 h2
      injection h1 with h1
      rw [h1, ih h2]

/-! ### data -/
theorem dpAll_ints (K : PySem.W.Frag) (H : Hp) : ∀ ns : List Int, DpAll K H (ns.map V.int) (ns.map PyData.int)
  | [] => .nil
  | n :: r => .cons (.int n) (dpAll_ints K H r)

/-! ### the draw box of the laws: [cells, stirred] -/
def BoxA (H : Hp) (h l : Addr) : Prop := ∃ (ns : List Int) (st : Int), H h = some (.lst [.ref l, .int st]) ∧ H l = some (.lst (ns.map V.int)) ∧ ns.length ≤ 100000
theorem BoxA.ne {H : Hp} {h l : Addr} (b : BoxA H h l) : h ≠ l := by
  obtain ⟨ns, st, e1, e2, _⟩ := b
  rintro rfl
  rw [e1] at e2
  injection e2 with e2
  injection e2 with e2
  cases ns with
  | nil => cases e2
  | cons n r => injection e2 with e3 _; cases e3
theorem BoxA.muts {H : Hp} {h l : Addr} (b : BoxA H h l) : ∀ m, m ∈ [h, l] → ∃ o, H m = some o ∧ Mut (some o) := by
  obtain ⟨ns, st, e1, e2, _⟩ := b
  intro m hm
  simp only [List.mem_cons, List.mem_nil_iff, or_false] at hm
  rcases hm with rfl | rfl
  · exact ⟨_, e1, trivial⟩
  · exact ⟨_, e2, trivial⟩
theorem BoxA.keep {ms : List Addr} {H H' : Hp} {h l : Addr} (b : BoxA H h l) (k : Keep ms H H') (n1 : h ∉ ms) (n2 : l ∉ ms) : BoxA H' h l := by
  obtain ⟨ns, st, e1, e2, e3⟩ := b
  exact ⟨ns, st, k _ _ n1 e1, k _ _ n2 e2, e3⟩
theorem BoxA.same {H H' : Hp} {h l : Addr} (b : BoxA H h l) (k : Same H H') : BoxA H' h l := b.keep (ms := []) (Keep.ofSame k) (by simp) (by simp)
end G7

set_option linter.all false
set_option Elab.async false
set_option maxRecDepth 100000
set_option maxHeartbeats 4000000
namespace G7
open PySem PySem.Spec PyProof.Rows L2
/-! ### rules of our own, by what stands in the abstract heap -/
/-- what may be read as a list, a tuple, a dict -/
def lsO : Option HO → Option (List V)
  | some (.lst xs) => some xs
  | some (.frz _ (.lst xs)) => some xs
  | _ => none
def tpO : Option HO → Option (List V)
  | some (.tup xs) => some xs
  | some (.frz _ (.tup xs)) => some xs
  | _ => none
def dkO : Option HO → Option (List (Key × V))
  | some (.dK xs) => some xs
  | some (.frz _ (.dK xs)) => some xs
  | _ => none
theorem rd_lsO {H : Hp} {a : Addr} {xs : List V} (h : lsO (H a) = some xs) : Rd H a (.lst xs) := by
  unfold lsO at h
  split at h
  · rename_i e; cases h; exact .inl e
  · rename_i o _ e; cases h; exact .inr ⟨o, e⟩
  · cases h
theorem rd_tpO {H : Hp} {a : Addr} {xs : List V} (h : tpO (H a) = some xs) : Rd H a (.tup xs) := by
  unfold tpO at h
  split at h
  · rename_i e; cases h; exact .inl e
  · rename_i o _ e; cases h; exact .inr ⟨o, e⟩
  · cases h
theorem rd_dkO {H : Hp} {a : Addr} {xs : List (Key × V)} (h : dkO (H a) = some xs) : Rd H a (.dK xs) := by
  unfold dkO at h
  split at h
  · rename_i e; cases h; exact .inl e
  · rename_i o _ e; cases h; exact .inr ⟨o, e⟩
  · cases h
theorem lsO_l {xs : List V} : lsO (some (.lst xs)) = some xs := rfl
theorem lsO_f {o : Obj} {xs : List V} : lsO (some (.frz o (.lst xs))) = some xs := rfl
theorem tpO_t {xs : List V} : tpO (some (.tup xs)) = some xs := rfl
theorem tpO_f {o : Obj} {xs : List V} : tpO (some (.frz o (.tup xs))) = some xs := rfl
theorem dkO_d {xs : List (Key × V)} : dkO (some (.dK xs)) = some xs := rfl
theorem dkO_f {o : Obj} {xs : List (Key × V)} : dkO (some (.frz o (.dK xs))) = some xs := rfl
theorem lay_ints : ∀ ns : List Int, PyData.canLayAll0 (ns.map PyData.int) = true
  | [] => by simp [PyData.canLayAll0]
  | n :: r => by simp [PyData.canLayAll0, PyData.canLay0, lay_ints r]
theorem depth_ints : ∀ ns : List Int, PyData.depthAll (ns.map PyData.int) ≤ 1
  | [] => by simp [PyData.depthAll]
  | n :: r => by
    have h := depth_ints r
    simp only [List.map_cons, PyData.depthAll, PyData.depth]
    omega
theorem shaped_ints (ns : List Int) : SeqAt.shaped (.list (ns.map PyData.int)) = true := by
  have h1 := depth_ints ns
  have h2 : PyData.depth (.list (ns.map PyData.int)) ≤ 64 := by
    simp only [PyData.depth]
    omega
  unfold SeqAt.shaped
  rw [Bool.and_eq_true]
  exact ⟨by simp only [PyData.canLay0]; exact lay_ints ns, decide_eq_true h2⟩
section
variable {X : Cx}
theorem ixImp {r r' : R2} (h : IxR X r) (i : ∀ x y H Q, r' x y H Q → r x y H Q) : IxR X r' := fun a b p s σ H x y v u Q I rx ry q e => h a b p s σ H x y v u Q I rx ry (i _ _ _ _ q) e
theorem opImp {f : Value → Value → Sem Value} {r r' : R2} (h : OpR X f r) (i : ∀ x y H Q, r' x y H Q → r x y H Q) : OpR X f r' := fun p s σ H x y v u Q I rx ry q => h p s σ H x y v u Q I rx ry (i _ _ _ _ q)
theorem callImp {f : Value} {r r' : List V → Hp → VK → Prop} (h : CallR X f r) (i : ∀ x H Q, r' x H Q → r x H Q) : CallR X f r' := fun p s σ H x u Q I rx q => h p s σ H x u Q I rx (i _ _ _ q)
theorem mtImp {id : String} {r r' : V → List V → Hp → VK → Prop} (h : MtR X id r) (i : ∀ x y H Q, r' x y H Q → r x y H Q) : MtR X id r' := fun p s σ H x xs v us Q I rx rs q => h p s σ H x xs v us Q I rx rs (i _ _ _ _ q)
def rIxH : R2 := fun x y H Q => ∃ p xs i v, x = .ref p ∧ y = .int i ∧ lsO (H p) = some xs ∧ atI xs i = some v ∧ Q v H
def rIxU : R2 := fun x y H Q => ∃ p xs i v, x = .ref p ∧ y = .int i ∧ tpO (H p) = some xs ∧ atI xs i = some v ∧ Q v H
theorem ix_lst : IxR X rIxH := ixImp ix_list fun x y H Q ⟨p, xs, i, v, e1, e2, h, a, q⟩ => ⟨p, xs, i, v, e1, e2, .inl (rd_lsO h), a, q⟩
theorem ix_tp : IxR X rIxU := ixImp ix_tup fun x y H Q ⟨p, xs, i, v, e1, e2, h, a, q⟩ => ⟨p, xs, i, v, e1, e2, .inl (rd_tpO h), a, q⟩
def cLenL : List V → Hp → VK → Prop := fun vs H Q => ∃ p xs, vs = [.ref p] ∧ lsO (H p) = some xs ∧ Q (.int (xs.length : Int)) H
def cLenT : List V → Hp → VK → Prop := fun vs H Q => ∃ p xs, vs = [.ref p] ∧ tpO (H p) = some xs ∧ Q (.int (xs.length : Int)) H
theorem len_lst : CallR X (.builtin "len") cLenL := callImp call_len_seq fun vs H Q ⟨p, xs, e, h, q⟩ => ⟨p, xs, e, .inl (.inl (rd_lsO h)), q⟩
theorem len_tp : CallR X (.builtin "len") cLenT := callImp call_len_seq fun vs H Q ⟨p, xs, e, h, q⟩ => ⟨p, xs, e, .inr (.inl (rd_tpO h)), q⟩
def cListL : List V → Hp → VK → Prop := fun vs H Q => ∃ p xs, vs = [.ref p] ∧ lsO (H p) = some xs ∧ ∀ l, H l = none → Q (.ref l) (upd H l (.lst xs))
def cListT : List V → Hp → VK → Prop := fun vs H Q => ∃ p xs, vs = [.ref p] ∧ tpO (H p) = some xs ∧ ∀ l, H l = none → Q (.ref l) (upd H l (.lst xs))
theorem list_lst : CallR X (.type "list") cListL := callImp call_list_of fun vs H Q ⟨p, xs, e, h, q⟩ => ⟨p, xs, e, .inl (.inl (rd_lsO h)), q⟩
theorem list_tp : CallR X (.type "list") cListT := callImp call_list_of fun vs H Q ⟨p, xs, e, h, q⟩ => ⟨p, xs, e, .inr (.inl (rd_tpO h)), q⟩
def cTupL : List V → Hp → VK → Prop := fun vs H Q => ∃ p xs, vs = [.ref p] ∧ lsO (H p) = some xs ∧ ∀ l, H l = none → Q (.ref l) (upd H l (.tup xs))
theorem tuple_lst : CallR X (.type "tuple") cTupL := callImp call_tuple_of fun vs H Q ⟨p, xs, e, h, q⟩ => ⟨p, xs, e, .inl ⟨.inl (rd_lsO h), q⟩⟩
/-- int of a bool, of an int -/
def cIntB : List V → Hp → VK → Prop := fun vs H Q => ∃ b, vs = [.bl b] ∧ Q (.int (if b then 1 else 0)) H
theorem int_bl : CallR X (.type "int") cIntB := callImp call_int1 fun vs H Q ⟨b, e, q⟩ => .inr ⟨b, e, q⟩
/-- all(..) of a list of bools -/
def cAll : List V → Hp → VK → Prop := fun vs H Q => ∃ (p : Addr) (bs : List Bool), vs = [.ref p] ∧ lsO (H p) = some (bs.map V.bl) ∧ Q (.bl (bs.all id)) H
theorem all_lst (hc : X.calm = true) : CallR X (.builtin "all") cAll := callImp (cr_all hc) fun vs H Q ⟨p, bs, e, h, q⟩ => ⟨p, bs, e, .inl (rd_lsO h), q⟩
/-- a list of ints against [] -/
def rEqNilI : R2 := fun x y H Q => ∃ (p q : Addr) (ns : List Int), x = .ref p ∧ y = .ref q ∧ lsO (H p) = some (ns.map V.int) ∧ lsO (H q) = some [] ∧ Q (.bl ns.isEmpty) H
theorem op_eqNilI (hu : X.A.units + 64 < cLine) : OpR X (compareOp .Eq) rEqNilI := opImp (op_eqD hu) fun x y H Q ⟨p, q, ns, e1, e2, h1, h2, k⟩ => by
  refine ⟨.list (ns.map PyData.int), .list [], e1 ▸ .lst (.inl (rd_lsO h1)) (dpAll_ints X.K H ns), e2 ▸ .lst (.inl (rd_lsO h2)) .nil, ?_, rfl, ?_⟩
  · exact shaped_ints ns
  · cases ns with
    | nil => exact k
    | cons n r => exact k
/-! a reading that lets what follows be weaker -/
def tM (t : TE) : TE := fun σ H Q => ∃ Q0 : VK, t σ H Q0 ∧ ∀ x H1, Q0 x H1 → Q x H1
theorem pe_m {e : Expr} {t : TE} (h : PE X e t) : PE X e (tM t) := ⟨fun pins s σ H Q I ⟨Q0, h0, q⟩ => thn (h.run pins s σ H Q0 I h0) fun u s' ⟨v, H', I', r, k⟩ => ⟨v, H', I', r, q v H' k⟩⟩
theorem tM_of {t : TE} {σ : L2.St} {H : Hp} {Q Q' : VK} (h : t σ H Q) (i : ∀ x H1, Q x H1 → Q' x H1) : tM t σ H Q' := ⟨Q, h, i⟩
theorem PE.imp' {e : Expr} {t t' : TE} (h : PE X e t) (i : ∀ σ H Q, t' σ H Q → t σ H Q) : PE X e t' := ⟨fun pins s σ H Q I q => h.run pins s σ H Q I (i σ H Q q)⟩
theorem PS.imp' {e : Stmt} {t t' : TS} (h : PS X e t) (i : ∀ D σ H, t' D σ H → t D σ H) : PS X e t' := ⟨fun pins s σ H D I q => h.run pins s σ H D I (i D σ H q)⟩
def keyO : V → Option Key
  | .int i => some (.inl i)
  | .str s => some (.inr s)
  | _ => none
theorem keyO_eq {y : V} {k : Key} (h : keyO y = some k) : y = kV k := by
  cases y <;> cases h <;> rfl
theorem keyO_i {i : Int} : keyO (.int i) = some (.inl i) := rfl
theorem keyO_s {s : Str} : keyO (.str s) = some (.inr s) := rfl
theorem dget_of {H : Hp} {a : Addr} {y : V} {kvs : List (Key × V)} {k : Key} (h : dkO (H a) = some kvs) (e : keyO y = some k) : DGet H a y (valV kvs k) := .inl ⟨kvs, k, rd_dkO h, keyO_eq e, rfl⟩
/-- d.get(k, x) -/
def tGet2 (td ty tx : TE) : TE := fun σ H Q => td σ H fun x H1 => ∃ a kvs, x = .ref a ∧ dkO (H1 a) = some kvs ∧ ty σ H1 fun y H2 => tx σ H2 fun z H3 => ∃ kvs k, dkO (H3 a) = some kvs ∧ keyO y = some k ∧ Q ((valV kvs k).getD z) H3
theorem pe_get2 {o e f : Expr} {td ty tx : TE} {apos cpos : Pos} (hu : X.A.units + 1 < cLine) (ho : PE X o td) (he : PE X e ty) (hf : PE X f tx)
    (h1 : attributeBase o "get" X.env (eval o X.env) = eval o X.env := by rfl)
    (h2 : ((backTo cpos (starEach [e, f] X.env)).all (fun x => !x.1) && (backToKw cpos (keywordEach [] X.env)).all (fun x => x.1.isSome) && decide (([e, f] : List Expr).length + ([] : List Keyword).length + (if ([] : List Keyword).isEmpty then 0 else 1) < 30)) = true := by rfl)
    (h3 : (apos.endLine == cpos.line) = true := by rfl) (h4 : backTo cpos (starEach [e, f] X.env) = [(false, eval e X.env), (false, eval f X.env)] := by rfl) :
    PE X (.Call (.Attribute o "get" apos) [e, f] [] cpos) (tGet2 td ty tx) :=
  PE.imp' (pe_dget2 hu (pe_m ho) (pe_m he) (pe_m hf) ⟨h1, h2, h3, h4⟩) fun σ H Q h => by
    refine tM_of h fun x H1 h => ?_
    obtain ⟨a, kvs, e1, e2, q⟩ := h
    refine ⟨a, e1, .inl ⟨kvs, rd_dkO e2⟩, tM_of q fun y H2 q => tM_of q fun z H3 q => ?_⟩
    obtain ⟨kvs, k, e3, e4, q⟩ := q
    exact ⟨_, dget_of e3 e4, q⟩
/-- d[k] -/
def tGetI (td ty : TE) : TE := fun σ H Q => td σ H fun x H1 => ty σ H1 fun y H2 => ∃ a kvs k v, x = .ref a ∧ dkO (H2 a) = some kvs ∧ keyO y = some k ∧ valV kvs k = some v ∧ Q v H2
theorem pe_getI {o i : Expr} {td ty : TE} {pos : Pos} (hu : X.A.units + 1 < cLine) (ho : PE X o td) (hi : PE X i ty) (hs : NoSl i) : PE X (.Subscript o i pos) (tGetI td ty) :=
  PE.imp' (pe_dget hu (pe_m ho) (pe_m hi) hs) fun σ H Q h => by
    refine tM_of h fun x H1 q => tM_of q fun y H2 q => ?_
    obtain ⟨a, kvs, k, v, e1, e2, e3, e4, q⟩ := q
    exact ⟨a, v, e1, by rw [← e4]; exact dget_of e2 e3, q⟩
/-- d[k] = v -/
def sPut (td ty tv : TE) : TS := fun D σ H => tv σ H fun v H1 => td σ H1 fun x H2 => ty σ H2 fun y H3 => ∃ a kvs k, x = .ref a ∧ H3 a = some (.dK kvs) ∧ keyO y = some k ∧ kvs.length < sizeLine ∧ D.nx σ (upd H3 a (.dK (putK kvs k v)))
theorem ps_put {o i value : Expr} {td ty tv : TE} {pos pos' : Pos} (hu : X.A.units + 1 < cLine) (ho : PE X o td) (hi : PE X i ty) (hv : PE X value tv) (hs : swapsWith value (some (.Subscript o i pos')) pos.line X.env = pure false) :
    PS X (.Assign [.Subscript o i pos'] value pos) (sPut td ty tv) :=
  PS.imp' (ps_dput hu (pe_m ho) (pe_m hi) (pe_m hv) hs) fun D σ H h => by
    refine tM_of h fun v H1 q => tM_of q fun x H2 q => tM_of q fun y H3 q => ?_
    obtain ⟨a, kvs, k, e1, e2, e3, e4, q⟩ := q
    exact ⟨a, _, e1, .inl ⟨kvs, k, e2, keyO_eq e3, e4, rfl⟩, q⟩
/-! tuples whose object is known: their methods may be called -/
def TupF (H : Hp) (p : Addr) (xs : List V) : Prop := ∃ o : Obj, H p = some (.frz o (.tup xs)) ∧ o.cls = .type "tuple" ∧ o.dict = none
def tTupF (t : TA) : TE := fun σ H Q => t σ H fun xs H1 => xs.length ≤ sizeLine ∧ ∀ p o, H1 p = none → o.cls = .type "tuple" → o.dict = none → Q (.ref p) (upd H1 p (.frz o (.tup xs)))
theorem pe_tupF {es : List Expr} {t : TA} {x1 : Nat} {pos : Pos} (h : PA X es t) : PE X (.Tuple es x1 pos) (tTupF t) := by
  refine ⟨fun pins s σ H Q I hq => ?_⟩
  refine wpAny_Tuple_spliced (thn (h.run pos pins s σ H _ I hq) fun us s1 ⟨xs, H1, I1, r, z, q⟩ => ⟨by rw [← r.length]; exact z, ?_⟩)
  have hf : H1 s1.heap.objs.size = none := I1.hok.fresh (Nat.le_refl _)
  refine ⟨.ref s1.heap.objs.size, _, I1.laid (o := .frz { cls := .type "tuple", data := .seq us.toArray } (.tup xs)) (t' := s1.toks) (fun b u e => Heap.get?_push_of_some _ e) (Nat.le_refl _) ?_, rfl, q _ _ hf rfl rfl⟩
  exact ⟨Heap.get?_push_size _ rfl, z, us, r, ⟨_, Heap.get?_push_size _ rfl, rfl, _, rfl⟩⟩
/-- a slice of a tuple; the whole of it is the tuple itself -/
def rSlF : V → Option Int → Option Int → Hp → VK → Prop := fun x lo hi H Q => ∃ a xs, x = .ref a ∧ tpO (H a) = some xs ∧
  (HT.sIx xs.length 0 lo = 0 ∧ HT.sIx xs.length xs.length hi = xs.length → Q (.ref a) H) ∧
  (¬ (HT.sIx xs.length 0 lo = 0 ∧ HT.sIx xs.length xs.length hi = xs.length) → ∀ p o, H p = none → o.cls = .type "tuple" → o.dict = none → Q (.ref p) (upd H p (.frz o (.tup (cutV xs lo hi)))))
theorem sl_tupF : SlR X rSlF := by
  intro pins s σ H x v vl vu lo hi sl Q I rx hs pl pu h
  obtain ⟨a, xs, rfl, hx, q1, q2⟩ := h
  by_cases hw : HT.sIx xs.length 0 lo = 0 ∧ HT.sIx xs.length xs.length hi = xs.length
  · exact sl_tupA pins s σ H _ v vl vu lo hi sl Q I rx hs pl pu ⟨a, xs, rfl, .inl (rd_tpO hx), q1, fun n => absurd hw n⟩
  · cases rx
    obtain ⟨its, r, ht, hz⟩ := I.tuple (show SqT X.K H a xs from .inl (rd_tpO hx))
    have hlen : its.toArray.size = xs.length := by rw [List.size_toArray]; exact r.length.symm
    refine ⟨"tuple", _, PyProof.Rows.slot_tuple_getitem.lookup, ht.typeIs, ?_⟩
    refine HT.getItem_tuple_cut ht hs pl pu (by rw [hlen]; exact hw) ?_ (by rw [hlen]; exact hz)
    rw [hlen]
    refine ⟨.ref s.heap.objs.size, _, I.laid (t' := s.toks) (o := .frz { cls := .type "tuple", data := .seq ((its.toArray.toList.drop (HT.sIx xs.length 0 lo)).take (HT.sIx xs.length xs.length hi - HT.sIx xs.length 0 lo)).toArray } (.tup (cutV xs lo hi))) (fun b ob q => Heap.get?_push_of_some _ q) (Nat.le_refl _) ?_, rfl, q2 hw _ _ (I.hok.fresh (Nat.le_refl _)) rfl rfl⟩
    · exact ⟨Heap.get?_push_size _ rfl, Nat.le_trans (cutV_length xs lo hi) hz, _, (r.drop (HT.sIx xs.length 0 lo)).take (HT.sIx xs.length xs.length hi - HT.sIx xs.length 0 lo), IsTup.new _ _⟩
/-- fields.index(word): fields a tuple of texts, its object known -/
def tyTup : V → Hp → Prop := fun x H => ∃ p o ys, x = .ref p ∧ H p = some (.frz o (.tup ys)) ∧ o.cls = .type "tuple" ∧ o.dict = none
theorem ty_tup : TyOk X "tuple" tyTup := by
  intro pins σ H s x v I r h
  obtain ⟨p, o, ys, rfl, h, hc, hd⟩ := h
  cases r
  obtain ⟨g1, _⟩ := I.hok p _ h
  exact ⟨⟨o, g1, hc⟩, fun a e => by cases e; exact ⟨o, g1, hd⟩⟩
def rTIdx : V → List V → Hp → VK → Prop := fun x xs H Q => ∃ (p : Addr) (fs : List Str) (z : Str) (j : Nat), x = .ref p ∧ xs = [.str z] ∧ tpO (H p) = some (fs.map V.str) ∧ fs[j]? = some z ∧ (∀ m, m < j → fs[m]? ≠ some z) ∧ Q (.int (j : Nat)) H
theorem mt_tidx : MtR X "tuple.index" rTIdx := mtImp mt_tup_index fun x xs H Q ⟨p, fs, z, j, e1, e2, h1, h2, h3, q⟩ => ⟨p, fs, z, j, e1, e2, .inl (rd_tpO h1), h2, h3, q⟩
/-- a, b = t -/
def gTupH (n : Nat) (t : TGs) : TG := fun v σ H Q => ∃ a xs, v = .ref a ∧ tpO (H a) = some xs ∧ xs.length = n ∧ t xs σ H Q
theorem pg_tupH {es : List Expr} {k : Nat} {t : TGs} {n : Nat} {pos : Pos} (hc : X.calm = true) (h : PGs X es t)
    (hn : (assignEach es X.env).length = n := by rfl) (hst : (assignEach es X.env).findIdx? (·.1) = none := by rfl) : PG X (.Tuple es k pos) (gTupH n t) :=
  ⟨fun pins s σ H v u Q I r ⟨a, xs, e1, e2, e3, e4⟩ => (pg_tup hc h hn hst).run pins s σ H v u Q I r ⟨a, xs, e1, .inl (rd_tpO e2), e3, e4⟩⟩
/-! the same with the written part by name (under a comprehension's block) -/
theorem pi_tupK (K : PySem.W.Frag) (hK : X.K = K) {tg l : Expr} {tl : TE} (h : PE X l tl) : PI X tg l (iTup K tl) := hK ▸ pi_tup h
theorem pi_listK (K : PySem.W.Frag) (hK : X.K = K) {tg l : Expr} {tl : TE} (h : PE X l tl) : PI X tg l (iList K tl) := hK ▸ pi_list h
theorem op_eqDK (K : PySem.W.Frag) (hK : X.K = K) (hu : X.A.units + 64 < cLine) : OpR X (compareOp .Eq) (rEqD K) := hK ▸ op_eqD hu
theorem op_neDK (K : PySem.W.Frag) (hK : X.K = K) (hu : X.A.units + 64 < cLine) : OpR X (compareOp .NotEq) (rNeD K) := hK ▸ op_neD hu
theorem op_in_seqK (K : PySem.W.Frag) (hK : X.K = K) : OpR X (compareOp .In) (rIn K false) := hK ▸ op_in_seq
theorem op_notIn_seqK (K : PySem.W.Frag) (hK : X.K = K) : OpR X (compareOp .NotIn) (rIn K true) := hK ▸ op_notIn_seq
theorem cx_K {CX : CXT} {P : Program} {w : World} {K : PySem.W.Frag} {mg : Str → Option Value} {base : Heap} {N : List Str} {q : Str} {sc : Scope} {f : Addr} {cd : Value} {A : Around} {outer : List Env} {s : Shared} {H : Hp} {E : XK} :
    (cxOf CX P w K mg base N q sc f cd A outer s H E).K = K := rfl
theorem cx_w {CX : CXT} {P : Program} {w : World} {K : PySem.W.Frag} {mg : Str → Option Value} {base : Heap} {N : List Str} {q : Str} {sc : Scope} {f : Addr} {cd : Value} {A : Around} {outer : List Env} {s : Shared} {H : Hp} {E : XK} :
    (cxOf CX P w K mg base N q sc f cd A outer s H E).w = w := rfl
theorem at0 {α : Type} {a : α} {r : List α} : atI (a :: r) 0 = some a := by
  unfold atI ixN
  rw [if_pos (by decide), if_pos (by rw [List.length_cons]; omega)]
  rfl
theorem at1 {α : Type} {a b : α} {r : List α} : atI (a :: b :: r) 1 = some b := by
  unfold atI ixN
  rw [if_pos (by decide), if_pos (by rw [List.length_cons, List.length_cons]; omega)]
  rfl
theorem at2 {α : Type} {a b c : α} {r : List α} : atI (a :: b :: c :: r) 2 = some c := by
  unfold atI ixN
  rw [if_pos (by decide), if_pos (by rw [List.length_cons, List.length_cons, List.length_cons]; omega)]
  rfl
theorem at3 {α : Type} {a b c d : α} {r : List α} : atI (a :: b :: c :: d :: r) 3 = some d := by
  unfold atI ixN
  rw [if_pos (by decide), if_pos (by rw [List.length_cons, List.length_cons, List.length_cons, List.length_cons]; omega)]
  rfl
theorem atN {α : Type} {xs : List α} {i : Int} (h0 : 0 ≤ i) : atI xs i = xs[i.toNat]? := by
  unfold atI ixN
  rw [if_pos h0]
  by_cases h : i < xs.length
  · rw [if_pos h]
    rfl
  · rw [if_neg h, List.getElem?_eq_none (by omega)]
    rfl
theorem ixs0 {n : Nat} : ixN (n + 1) 0 = some 0 := by
  unfold ixN
  rw [if_pos (by decide), if_pos (by omega)]
  rfl
theorem ixs1 {n : Nat} : ixN (n + 2) 1 = some 1 := by
  unfold ixN
  rw [if_pos (by decide), if_pos (by omega)]
  rfl
theorem ixs2 {n : Nat} : ixN (n + 3) 2 = some 2 := by
  unfold ixN
  rw [if_pos (by decide), if_pos (by omega)]
  rfl
theorem seq0 {n : Nat} : seqIndex? 0 (n + 1) = some 0 := by
  simp [seqIndex?]
theorem scal_ii {a b : Int} : scal (.int a) (.int b) = true := rfl
theorem scal_ss {a b : Str} : scal (.str a) (.str b) = true := rfl
theorem scal_bb {a b : Bool} : scal (.bl a) (.bl b) = true := rfl
theorem scal_nn : scal .non .non = true := rfl
theorem scal_ni {a : Int} : scal .non (.int a) = true := rfl
theorem scal_in {a : Int} : scal (.int a) .non = true := rfl
theorem scal_ns {a : Str} : scal .non (.str a) = true := rfl
theorem scal_sn {a : Str} : scal (.str a) .non = true := rfl
theorem tyV_list {K : PySem.W.Frag} {l : Addr} {H : Hp} (h : lsO (H l) ≠ none) : tyV K "list" (.ref l) H = True := by
  refine eq_true (.inl ⟨rfl, ?_⟩)
  cases e : lsO (H l) with
  | none => exact absurd e h
  | some xs => exact ⟨xs, .inl (rd_lsO e)⟩
theorem ex_map_int {ns : List Int} {P : List Int → Prop} : (∃ ms : List Int, ns.map V.int = ms.map V.int ∧ P ms) ↔ P ns :=
  ⟨fun ⟨ms, e, p⟩ => by rw [map_int_inj e]; exact p, fun p => ⟨ns, rfl, p⟩⟩
theorem ex_nil_int {P : List Int → Prop} : (∃ ms : List Int, [] = ms.map V.int ∧ P ms) ↔ P [] :=
  ⟨fun ⟨ms, e, p⟩ => (by
    cases ms with
    | nil => exact p
    | cons _ _ => cases e), fun p => ⟨[], rfl, p⟩⟩
theorem ex_cons_int {n : Int} {ns : List Int} {P : List Int → Prop} : (∃ ms : List Int, V.int n :: ns.map V.int = ms.map V.int ∧ P ms) ↔ P (n :: ns) := ex_map_int (ns := n :: ns)
end
/-! ### isinstance of a built-in class, by what stands in the heap -/
inductive TN where
  | non | bl | int | str | lst | tup | dct
def TN.nm : TN → String
  | .non => "NoneType"
  | .bl => "bool"
  | .int => "int"
  | .str => "str"
  | .lst => "list"
  | .tup => "tuple"
  | .dct => "dict"
def tyT : V → Hp → Option TN
  | .non, _ => some .non
  | .bl _, _ => some .bl
  | .int _, _ => some .int
  | .str _, _ => some .str
  | .ref p, H => match H p with
    | some (.lst _) => some .lst
    | some (.tup _) => some .tup
    | some (.dK _) => some .dct
    | some (.dT _) => some .dct
    | _ => none
  | _, _ => none
theorem tyT_ok {K : PySem.W.Frag} {x : V} {H : Hp} {a : TN} (h : tyT x H = some a) : TyX K H x (.type a.nm) := by
  cases x with
  | non => cases h; exact .base .non
  | bl b => cases h; exact .base (.bl b)
  | int b => cases h; exact .base (.int b)
  | str b => cases h; exact .base (.str b)
  | ref p =>
    unfold tyT at h
    dsimp only at h
    split at h
    · rename_i e; cases h; exact .base (.lst e)
    · rename_i e; cases h; exact .base (.tup e)
    · rename_i e; cases h; exact .base (.dK e)
    · rename_i e; cases h; exact .base (.dT e)
    · cases h
  | _ => cases h
theorem tyT_n {H : Hp} : tyT .non H = some .non := rfl
theorem tyT_b {b : Bool} {H : Hp} : tyT (.bl b) H = some .bl := rfl
theorem tyT_i {b : Int} {H : Hp} : tyT (.int b) H = some .int := rfl
theorem tyT_s {b : Str} {H : Hp} : tyT (.str b) H = some .str := rfl
theorem tyT_r {p : Addr} {H : Hp} : tyT (.ref p) H = match H p with
    | some (.lst _) => some .lst
    | some (.tup _) => some .tup
    | some (.dK _) => some .dct
    | some (.dT _) => some .dct
    | _ => none := rfl
def isN (a : TN) (n : String) : Bool := (kitB a.nm n).getD false
theorem isn_non_bool : isN .non "bool" = false := by decide +kernel
theorem isn_non_int : isN .non "int" = false := by decide +kernel
theorem isn_non_str : isN .non "str" = false := by decide +kernel
theorem isn_non_tuple : isN .non "tuple" = false := by decide +kernel
theorem isn_non_list : isN .non "list" = false := by decide +kernel
theorem isn_non_dict : isN .non "dict" = false := by decide +kernel
theorem isn_bl_bool : isN .bl "bool" = true := by decide +kernel
theorem isn_bl_int : isN .bl "int" = true := by decide +kernel
theorem isn_bl_str : isN .bl "str" = false := by decide +kernel
theorem isn_bl_tuple : isN .bl "tuple" = false := by decide +kernel
theorem isn_bl_list : isN .bl "list" = false := by decide +kernel
theorem isn_bl_dict : isN .bl "dict" = false := by decide +kernel
theorem isn_int_bool : isN .int "bool" = false := by decide +kernel
theorem isn_int_int : isN .int "int" = true := by decide +kernel
theorem isn_int_str : isN .int "str" = false := by decide +kernel
theorem isn_int_tuple : isN .int "tuple" = false := by decide +kernel
theorem isn_int_list : isN .int "list" = false := by decide +kernel
theorem isn_int_dict : isN .int "dict" = false := by decide +kernel
theorem isn_str_bool : isN .str "bool" = false := by decide +kernel
theorem isn_str_int : isN .str "int" = false := by decide +kernel
theorem isn_str_str : isN .str "str" = true := by decide +kernel
theorem isn_str_tuple : isN .str "tuple" = false := by decide +kernel
theorem isn_str_list : isN .str "list" = false := by decide +kernel
theorem isn_str_dict : isN .str "dict" = false := by decide +kernel
theorem isn_lst_bool : isN .lst "bool" = false := by decide +kernel
theorem isn_lst_int : isN .lst "int" = false := by decide +kernel
theorem isn_lst_str : isN .lst "str" = false := by decide +kernel
theorem isn_lst_tuple : isN .lst "tuple" = false := by decide +kernel
theorem isn_lst_list : isN .lst "list" = true := by decide +kernel
theorem isn_lst_dict : isN .lst "dict" = false := by decide +kernel
theorem isn_tup_bool : isN .tup "bool" = false := by decide +kernel
theorem isn_tup_int : isN .tup "int" = false := by decide +kernel
theorem isn_tup_str : isN .tup "str" = false := by decide +kernel
theorem isn_tup_tuple : isN .tup "tuple" = true := by decide +kernel
theorem isn_tup_list : isN .tup "list" = false := by decide +kernel
theorem isn_tup_dict : isN .tup "dict" = false := by decide +kernel
theorem isn_dct_bool : isN .dct "bool" = false := by decide +kernel
theorem isn_dct_int : isN .dct "int" = false := by decide +kernel
theorem isn_dct_str : isN .dct "str" = false := by decide +kernel
theorem isn_dct_tuple : isN .dct "tuple" = false := by decide +kernel
theorem isn_dct_list : isN .dct "list" = false := by decide +kernel
theorem isn_dct_dict : isN .dct "dict" = true := by decide +kernel
def okN (n : String) : Prop := n = "bool" ∨ n = "int" ∨ n = "str" ∨ n = "tuple" ∨ n = "list" ∨ n = "dict"
theorem okn_bool : okN "bool" = True := eq_true (by unfold okN; simp)
theorem okn_int : okN "int" = True := eq_true (by unfold okN; simp)
theorem okn_str : okN "str" = True := eq_true (by unfold okN; simp)
theorem okn_tuple : okN "tuple" = True := eq_true (by unfold okN; simp)
theorem okn_list : okN "list" = True := eq_true (by unfold okN; simp)
theorem okn_dict : okN "dict" = True := eq_true (by unfold okN; simp)
theorem kit_isN {a : TN} {n : String} (h : okN n) : kitB a.nm n = some (isN a n) := by
  rcases h with rfl | rfl | rfl | rfl | rfl | rfl <;> cases a <;> decide +kernel
def cIsi : List V → Hp → VK → Prop := fun xs H Q => ∃ x n a, xs = [x, .ty n] ∧ okN n ∧ tyT x H = some a ∧ Q (.bl (isN a n)) H
theorem isi_h {X : Cx} : CallR X (.builtin "isinstance") cIsi := callImp call_isi fun xs H Q ⟨x, n, a, e, ok, t, q⟩ => ⟨x, .ty n, _, _, _, e, .ty n, tyT_ok t, kit_ty (kit_isN ok), q⟩
end G7

namespace G7
open PySem PySem.Spec PyProof.Rows L2
/-! ### promises of the draws -/
def spBegun (K : PySem.W.Frag) : Sp := fun vs H Q _ => ∃ (a : Addr) (ns : List Int), vs = [.ref a] ∧ SqL K H a (ns.map V.int) ∧ ns.length ≤ 63 ∧ ∀ H' h l, H h = none → H l = none → Same H H' → BoxA H' h l → Q (.ref h) H'
def spTake : Sp := fun vs H Q _ => ∃ (h l : Addr) (n : Int), vs = [.ref h, .int n] ∧ BoxA H h l ∧ 0 < n ∧ n < 1073741824 ∧ ∀ r H', 0 ≤ r → r < n → BoxA H' h l → Keep [h, l] H H' → Q (.int r) H'
theorem cut_ne {α : Type} {a b : α} {P : Prop} (h : a = b → False) : a ≠ b := h
end G7

set_option linter.all false
set_option Elab.async false
set_option maxRecDepth 100000
set_option maxHeartbeats 4000000
namespace G7
open PySem PySem.Spec PyProof.Rows L2
theorem cpow18 : CPow 10 18 = True := eq_true ⟨by decide, by decide, by decide⟩
/-! ### words of the statements' trees -/
inductive Wd where
  | num | field | add | sub | mul | eq | lt | gt | le | ge | and | or | not
  deriving DecidableEq
def Wd.s : Wd → Str
  | .num => "num"
  | .field => "field"
  | .add => "+"
  | .sub => "-"
  | .mul => "*"
  | .eq => "="
  | .lt => "<"
  | .gt => ">"
  | .le => "<="
  | .ge => ">="
  | .and => "and"
  | .or => "or"
  | .not => "not"
def Wd.all : List Wd := [.num, .field, .add, .sub, .mul, .eq, .lt, .gt, .le, .ge, .and, .or, .not]
theorem Wd.s_inj : ∀ a b : Wd, (a.s = b.s) = (a = b) := by
  intro a b
  cases a <;> cases b <;> first | rfl | (apply propext; constructor <;> intro h <;> first | (revert h; decide +kernel) | cases h)
theorem ws_num : (Str.ofString "num" : Str) = Wd.s .num := rfl
theorem ws_field : (Str.ofString "field" : Str) = Wd.s .field := rfl
theorem ws_add : (Str.ofString "+" : Str) = Wd.s .add := rfl
theorem ws_sub : (Str.ofString "-" : Str) = Wd.s .sub := rfl
theorem ws_mul : (Str.ofString "*" : Str) = Wd.s .mul := rfl
theorem ws_eq : (Str.ofString "=" : Str) = Wd.s .eq := rfl
theorem ws_lt : (Str.ofString "<" : Str) = Wd.s .lt := rfl
theorem ws_gt : (Str.ofString ">" : Str) = Wd.s .gt := rfl
theorem ws_le : (Str.ofString "<=" : Str) = Wd.s .le := rfl
theorem ws_ge : (Str.ofString ">=" : Str) = Wd.s .ge := rfl
theorem ws_and : (Str.ofString "and" : Str) = Wd.s .and := rfl
theorem ws_or : (Str.ofString "or" : Str) = Wd.s .or := rfl
theorem ws_not : (Str.ofString "not" : Str) = Wd.s .not := rfl
theorem ex_wd {a : Wd} {P : Wd → Prop} : (∃ b, a = b ∧ P b) ↔ P a := ⟨fun ⟨b, e, p⟩ => by rw [e]; exact p, fun p => ⟨a, rfl, p⟩⟩
/-! ### terms and conditions -/
inductive Tm where
  | num (n : Int)
  | fld (t f : Str)
  | op (o : Wd) (a b : Tm)
inductive Cd where
  | cmp (c : Wd) (a b : Tm)
  | neg (c : Cd)
  | con (o : Wd) (a b : Cd)
/-- the words stand where they may -/
def Wd.isOp : Wd → Bool
  | .add => true
  | .sub => true
  | .mul => true
  | _ => false
def Wd.isCmp : Wd → Bool
  | .eq => true
  | .lt => true
  | .gt => true
  | .le => true
  | .ge => true
  | _ => false
def Wd.isCon : Wd → Bool
  | .and => true
  | .or => true
  | _ => false
def Tm.ok : Tm → Bool
  | .num _ => true
  | .fld t f => PyData.strOk t && PyData.strOk f
  | .op o a b => o.isOp && a.ok && b.ok
def Cd.ok : Cd → Bool
  | .cmp c a b => c.isCmp && a.ok && b.ok
  | .neg c => c.ok
  | .con o a b => o.isCon && a.ok && b.ok
def Tm.deep : Tm → Nat
  | .op _ a b => max a.deep b.deep + 1
  | _ => 1
def Cd.deep : Cd → Nat
  | .cmp _ a b => max a.deep b.deep + 1
  | .neg c => c.deep + 1
  | .con _ a b => max a.deep b.deep + 1
def Tm.enc : Tm → PyData
  | .num n => .tuple [.str (Wd.s .num), .int n]
  | .fld t f => .tuple [.str (Wd.s .field), .str t, .str f]
  | .op o a b => .tuple [.str o.s, a.enc, b.enc]
def Cd.enc : Cd → PyData
  | .cmp c a b => .tuple [.str c.s, a.enc, b.enc]
  | .neg c => .tuple [.str (Wd.s .not), c.enc]
  | .con o a b => .tuple [.str o.s, a.enc, b.enc]
/-- v is the term in H -/
def RT (H : Hp) : V → Tm → Prop
  | v, .num n => ∃ a, v = .ref a ∧ H a = some (.tup [.str (Wd.s .num), .int n])
  | v, .fld t f => ∃ a, v = .ref a ∧ H a = some (.tup [.str (Wd.s .field), .str t, .str f])
  | v, .op o x y => ∃ a u w, v = .ref a ∧ H a = some (.tup [.str o.s, u, w]) ∧ RT H u x ∧ RT H w y
def RC (H : Hp) : V → Cd → Prop
  | v, .cmp c x y => ∃ a u w, v = .ref a ∧ H a = some (.tup [.str c.s, u, w]) ∧ RT H u x ∧ RT H w y
  | v, .neg c => ∃ a u, v = .ref a ∧ H a = some (.tup [.str (Wd.s .not), u]) ∧ RC H u c
  | v, .con o x y => ∃ a u w, v = .ref a ∧ H a = some (.tup [.str o.s, u, w]) ∧ RC H u x ∧ RC H w y
/-- None or a condition -/
def RCo (H : Hp) (v : V) : Option Cd → Prop
  | none => v = .non
  | some c => RC H v c
/-- tuples stand -/
def TupS (H H' : Hp) : Prop := ∀ a xs, H a = some (.tup xs) → H' a = some (.tup xs)
theorem TupS.refl {H : Hp} : TupS H H := fun _ _ h => h
theorem TupS.trans {H H1 H2 : Hp} (a : TupS H H1) (b : TupS H1 H2) : TupS H H2 := fun c o h => b c o (a c o h)
theorem TupS.ofSame {H H1 : Hp} (a : Same H H1) : TupS H H1 := fun c o h => a c _ h
theorem TupS.ofKeep {H H1 : Hp} {ms : List Addr} (n : ∀ m, m ∈ ms → ∃ o, H m = some o ∧ Mut (some o)) (a : Keep ms H H1) : TupS H H1 := fun c o h =>
  a c _ (fun m => by obtain ⟨u, e, mu⟩ := n c m; rw [h] at e; cases e; exact mu) h
theorem TupS.upd {H H1 : Hp} {p : Addr} {o u : HO} (a : TupS H H1) (h : H1 p = some u) (hu : ∀ xs, u ≠ .tup xs) : TupS H (L2.upd H1 p o) := fun c xs e => by
  have e1 := a c xs e
  rw [upd_ne (fun z => by rw [z, h] at e1; cases e1; exact hu _ rfl)]
  exact e1
theorem RT.tups {H H' : Hp} (s : TupS H H') : ∀ {t : Tm} {v : V}, RT H v t → RT H' v t
  | .num n, v, ⟨a, e, h⟩ => ⟨a, e, s _ _ h⟩
  | .fld t f, v, ⟨a, e, h⟩ => ⟨a, e, s _ _ h⟩
  | .op o x y, v, ⟨a, u, w, e, h, h1, h2⟩ => ⟨a, u, w, e, s _ _ h, RT.tups s h1, RT.tups s h2⟩
theorem RC.tups {H H' : Hp} (s : TupS H H') : ∀ {t : Cd} {v : V}, RC H v t → RC H' v t
  | .cmp o x y, v, ⟨a, u, w, e, h, h1, h2⟩ => ⟨a, u, w, e, s _ _ h, RT.tups s h1, RT.tups s h2⟩
  | .neg c, v, ⟨a, u, e, h, h1⟩ => ⟨a, u, e, s _ _ h, RC.tups s h1⟩
  | .con o x y, v, ⟨a, u, w, e, h, h1, h2⟩ => ⟨a, u, w, e, s _ _ h, RC.tups s h1, RC.tups s h2⟩
theorem RCo.tups {H H' : Hp} (s : TupS H H') {v : V} : ∀ {o : Option Cd}, RCo H v o → RCo H' v o
  | none, h => h
  | some c, h => RC.tups s h
theorem RT.dp {K : PySem.W.Frag} {H : Hp} : ∀ {t : Tm} {v : V}, RT H v t → Dp K H v t.enc
  | .num n, v, ⟨a, e, h⟩ => by rw [e]; exact .tup (.inl (.inl h)) (.cons (.str _) (.cons (.int _) .nil))
  | .fld t f, v, ⟨a, e, h⟩ => by rw [e]; exact .tup (.inl (.inl h)) (.cons (.str _) (.cons (.str _) (.cons (.str _) .nil)))
  | .op o x y, v, ⟨a, u, w, e, h, h1, h2⟩ => by rw [e]; exact .tup (.inl (.inl h)) (.cons (.str _) (.cons (RT.dp h1) (.cons (RT.dp h2) .nil)))
theorem RC.dp {K : PySem.W.Frag} {H : Hp} : ∀ {t : Cd} {v : V}, RC H v t → Dp K H v t.enc
  | .cmp o x y, v, ⟨a, u, w, e, h, h1, h2⟩ => by rw [e]; exact .tup (.inl (.inl h)) (.cons (.str _) (.cons (RT.dp h1) (.cons (RT.dp h2) .nil)))
  | .neg c, v, ⟨a, u, e, h, h1⟩ => by rw [e]; exact .tup (.inl (.inl h)) (.cons (.str _) (.cons (RC.dp h1) .nil))
  | .con o x y, v, ⟨a, u, w, e, h, h1, h2⟩ => by rw [e]; exact .tup (.inl (.inl h)) (.cons (.str _) (.cons (RC.dp h1) (.cons (RC.dp h2) .nil)))
theorem Wd.strOk (o : Wd) : PyData.strOk o.s = true := by cases o <;> decide +kernel
theorem Tm.lay : ∀ t : Tm, t.ok = true → t.enc.canLay0 = true
  | .num n, _ => by simp [Tm.enc, PyData.canLay0, PyData.canLayAll0, Wd.strOk]
  | .fld t f, h => by
    simp only [Tm.ok, Bool.and_eq_true] at h
    simp [Tm.enc, PyData.canLay0, PyData.canLayAll0, Wd.strOk, h]
  | .op o a b, h => by
    simp only [Tm.ok, Bool.and_eq_true] at h
    simp [Tm.enc, PyData.canLay0, PyData.canLayAll0, Tm.lay a h.1.2, Tm.lay b h.2, Wd.strOk]
theorem Tm.depth : ∀ t : Tm, t.enc.depth ≤ t.deep
  | .num n => by simp [Tm.enc, PyData.depth, PyData.depthAll, Tm.deep]
  | .fld t f => by simp [Tm.enc, PyData.depth, PyData.depthAll, Tm.deep]
  | .op o a b => by
    have h1 := Tm.depth a
    have h2 := Tm.depth b
    simp only [Tm.enc, PyData.depth, PyData.depthAll, Tm.deep]
    omega
end G7

set_option linter.all false
set_option Elab.async false
set_option maxRecDepth 100000
set_option maxHeartbeats 4000000
namespace G7
open PySem PySem.Spec PyProof.Rows L2
/-! ### the second draw box: [mixed, cells, place] -/
def BoxB (H : Hp) (h l : Addr) : Prop := ∃ (m : Int) (ns : List Int) (p : Int), H h = some (.lst [.int m, .ref l, .int p]) ∧ H l = some (.lst (ns.map V.int)) ∧ ns.length ≤ 63
theorem BoxB.muts {H : Hp} {h l : Addr} (b : BoxB H h l) : ∀ m, m ∈ [h, l] → ∃ o, H m = some o ∧ Mut (some o) := by
  obtain ⟨m0, ns, st, e1, e2, _⟩ := b
  intro m hm
  simp only [List.mem_cons, List.mem_nil_iff, or_false] at hm
  rcases hm with rfl | rfl
  · exact ⟨_, e1, trivial⟩
  · exact ⟨_, e2, trivial⟩
theorem BoxB.keep {ms : List Addr} {H H' : Hp} {h l : Addr} (b : BoxB H h l) (k : Keep ms H H') (n1 : h ∉ ms) (n2 : l ∉ ms) : BoxB H' h l := by
  obtain ⟨m, ns, st, e1, e2, e3⟩ := b
  exact ⟨m, ns, st, k _ _ n1 e1, k _ _ n2 e2, e3⟩
theorem BoxB.same {H H' : Hp} {h l : Addr} (b : BoxB H h l) (k : Same H H') : BoxB H' h l := b.keep (ms := []) (Keep.ofSame k) (by simp) (by simp)
theorem BoxB.ne {H : Hp} {h l : Addr} (b : BoxB H h l) : h ≠ l := by
  obtain ⟨m, ns, st, e1, e2, _⟩ := b
  rintro rfl
  rw [e1] at e2
  injection e2 with e2
  injection e2 with e2
  rcases ns with _ | ⟨n, _ | ⟨n2, r⟩⟩
  · cases e2
  · injection e2 with _ e3; cases e3
  · injection e2 with _ e3
    injection e3 with e4 _
    cases e4
theorem BoxB.tups {H H' : Hp} {h l : Addr} (b : BoxB H h l) (k : Keep [h, l] H H') : TupS H H' := TupS.ofKeep b.muts k
/-- what is no list is not the box -/
theorem BoxB.notin {H : Hp} {h l q : Addr} {o : HO} (B : BoxB H h l) (e : H q = some o) (n : ∀ xs, o ≠ .lst xs) : q ∉ [h, l] := fun m => by
  obtain ⟨m0, ns, st, b1, b2, _⟩ := B
  simp only [List.mem_cons, List.mem_nil_iff, or_false] at m
  rcases m with rfl | rfl
  · rw [b1] at e; cases e; exact n _ rfl
  · rw [b2] at e; cases e; exact n _ rfl
/-- an address that is free now is not the box -/
theorem BoxB.free {H : Hp} {h l q : Addr} (B : BoxB H h l) (e : H q = none) : q ∉ [h, l] := fun m => by
  obtain ⟨m0, ns, st, b1, b2, _⟩ := B
  simp only [List.mem_cons, List.mem_nil_iff, or_false] at m
  rcases m with rfl | rfl
  · rw [b1] at e; cases e
  · rw [b2] at e; cases e
theorem BoxB.updNot {H : Hp} {h l q : Addr} {o : HO} (B : BoxB H h l) (n : q ∉ [h, l]) : BoxB (L2.upd H q o) h l :=
  B.keep (ms := [q]) (Keep.upd Keep.refl (by simp)) (fun z => n (by simp at z; simp [z])) (fun z => n (by simp at z; simp [z]))
/-- the cell that is drawn from -/
theorem cell_at (ns : List Int) (pl : Int) : ∃ c : Int, atI (ns.map V.int ++ [V.int 0]) (pl % (if (ns.length : Int) > 1 then (ns.length : Int) else 1)) = some (.int c) ∧
    (c ≠ 0 → 0 < (ns.length : Int) ∧ ∃ j : Nat, j < ns.length ∧ pl % (ns.length : Int) = j ∧ (if (ns.length : Int) > 1 then (ns.length : Int) else 1) = ns.length) := by
  have hd : 0 < (if (ns.length : Int) > 1 then (ns.length : Int) else 1) := by split <;> omega
  have h0 := Int.emod_nonneg pl (show (if (ns.length : Int) > 1 then (ns.length : Int) else 1) ≠ 0 by omega)
  have h1 := Int.emod_lt_of_pos pl hd
  rw [atN h0]
  by_cases hl : 0 < ns.length
  · have e : (if (ns.length : Int) > 1 then (ns.length : Int) else 1) = ns.length := by split <;> omega
    rw [e] at h0 h1 ⊢
    have hj : (pl % (ns.length : Int)).toNat < ns.length := by omega
    refine ⟨ns[(pl % (ns.length : Int)).toNat], ?_, fun _ => ⟨by omega, (pl % (ns.length : Int)).toNat, hj, by omega, rfl⟩⟩
    rw [List.getElem?_append_left (by rw [List.length_map]; exact hj), List.getElem?_map, List.getElem?_eq_getElem hj]
    rfl
  · have e0 : ns = [] := List.eq_nil_of_length_eq_zero (by omega)
    subst e0
    refine ⟨0, ?_, fun n => absurd rfl n⟩
    have : (pl % (if ((([] : List Int).length : Nat) : Int) > 1 then ((([] : List Int).length : Nat) : Int) else 1)).toNat = 0 := by
      have h2 : (if ((([] : List Int).length : Nat) : Int) > 1 then ((([] : List Int).length : Nat) : Int) else 1) = 1 := rfl
      rw [h2] at h1 ⊢
      omega
    rw [this]
    rfl
theorem ixN_j {n j : Nat} {i : Int} (h : i = j) (hj : j < n) : ixN n i = some j := by
  subst h
  unfold ixN
  rw [if_pos (by omega), if_pos (by omega)]
  simp
def spMix (K : PySem.W.Frag) : Sp := fun vs H Q _ => ∃ (a : Addr) (ns : List Int) (z : Int), vs = [.ref a, .int z] ∧ SqL K H a (ns.map V.int) ∧ ns.length ≤ 63 ∧ ∀ H' h l, H h = none → H l = none → Same H H' → BoxB H' h l → Q (.ref h) H'
def spNext : Sp := fun vs H Q _ => ∃ (h l : Addr) (n : Int), vs = [.ref h, .int n] ∧ BoxB H h l ∧ 0 < n ∧ n < 1073741824 ∧ ∀ r H', 0 ≤ r → r < n → BoxB H' h l → Keep [h, l] H H' → Q (.int r) H'
end G7

set_option linter.all false
set_option Elab.async false
set_option maxRecDepth 100000
set_option maxHeartbeats 4000000
namespace G7
open PySem PySem.Spec PyProof.Rows L2 HT
/-! ### t[::-1] of a tuple -/
theorem places_rev (n : Nat) : Builtin.Slice.sliceAdjust none none (-1) (n : Int) = ((n : Int) - 1, -1) ∧ Builtin.Slice.slicePlaces ((n : Int) - 1) (-1) (-1) = n := by
  refine ⟨rfl, ?_⟩
  unfold Builtin.Slice.slicePlaces
  rw [if_neg (by decide)]
  by_cases h : (n : Int) - 1 > -1
  · rw [if_pos h]
    have : ((n : Int) - 1 - -1 - 1) / (-(-1)) + 1 = n := by
      show ((n : Int) - 1 - -1 - 1) / 1 + 1 = n
      omega
    rw [this]
    simp
  · rw [if_neg h]
    omega
theorem range_rev (n : Nat) : (List.range n).map (fun k => n - 1 - k) = (List.range n).reverse := by
  refine List.ext_getElem (by simp) fun i h1 h2 => ?_
  simp at h1 h2
  simp [List.getElem_reverse]
theorem pick_all {α : Type} (xs : Array α) : (List.range xs.size).filterMap (xs[·]?) = xs.toList := by
  have e : (List.range xs.size).filterMap (xs[·]?) = (List.range xs.toList.length).filterMap (xs.toList[·]?) := by simp
  rw [e]
  generalize xs.toList = l
  induction l with
  | nil => rfl
  | cons a r ih =>
    rw [List.length_cons, List.range_succ_eq_map, List.filterMap_cons]
    show a :: _ = _
    rw [List.filterMap_map]
    exact congrArg (a :: ·) ih
theorem fm_congr {α β : Type} {f g : α → Option β} : ∀ {l : List α}, (∀ a ∈ l, f a = g a) → l.filterMap f = l.filterMap g
  | [], _ => rfl
  | a :: r, h => by
    rw [List.filterMap_cons, List.filterMap_cons, h a (List.mem_cons_self), fm_congr fun b hb => h b (List.mem_cons_of_mem _ hb)]
theorem pick_rev (xs : Array Value) : ((List.range xs.size).filterMap fun (m : Nat) => xs[(((xs.size : Int) - 1) + (m : Int) * -1).toNat]?).toArray = xs.toList.reverse.toArray := by
  congr 1
  have e : (List.range xs.size).filterMap (fun (m : Nat) => xs[(((xs.size : Int) - 1) + (m : Int) * -1).toNat]?) = ((List.range xs.size).map fun k => xs.size - 1 - k).filterMap (xs[·]?) := by
    rw [List.filterMap_map]
    refine fm_congr fun m hm => ?_
    have hm := List.mem_range.mp hm
    have : (((xs.size : Int) - 1) + (m : Int) * -1).toNat = xs.size - 1 - m := by omega
    show xs[(((xs.size : Int) - 1) + (m : Int) * -1).toNat]? = xs[xs.size - 1 - m]?
    rw [this]
  rw [e, range_rev, List.filterMap_reverse, pick_all]
section
variable {prog : Program} {w : World} {A : Around} {E : Value → Shared → Prop} {s : Shared}
theorem getItem_tuple_rev {t sl : Addr} {items : Array Value} {st : Value} {Q : Value → Shared → Prop} (ht : IsTup s.heap t items) (hs : s.heap.IsSliceOf sl .none .none st) (ps : IsPart st (some (-1)))
    (h : Q (.ref s.heap.objs.size) { s with heap := s.heap.push { cls := .type "tuple", data := .seq items.toList.reverse.toArray } })
    (hsz : items.size ≤ sizeLine) : wpAny (model prog w) A (getItem (.ref t) (.ref sl)) Q E s := by
  have hok : sizeOk (.seq items.toList.reverse.toArray) := by
    show items.toList.reverse.toArray.size ≤ sizeLine
    simpa using hsz
  obtain ⟨os, hos, hcs, hds⟩ := id hs
  have tys : s.TypeIs (.ref sl) "slice" := ⟨os, hos, hcs⟩
  unfold getItem
  refine wpAny_holding ?_
  refine wpAny_bind (wpAny_sequenceKey ht.typeIs (by decide) ?_)
  refine wpAny_bind (wpAny_callSpecial?_slot (name := Str.ofString "__getitem__") ht.typeIs slot_tuple_getitem (wpAny_call_entry slot_tuple_getitem ht.typeIs entry_tuple_getitem ?_ (args_tuple_getitem _ _)))
  show wpAny _ _ (Builtin.Tuple.tupleItemsOf (.ref t) >>= _) _ _ s
  refine wpAny_bind (tupleItemsOf_ ht (wpAny_bind (wpAny_typeOf tys ?_)))
  rw [if_pos (by decide)]
  have hap : ∀ {A' : Around} {E' : Value → Shared → Prop} {Q' : Int × Int × Nat → Shared → Prop}, Q' ((items.size : Int) - 1, -1, items.size) s → wpAny (model prog w) A' (Builtin.Slice.sliceApplied (.ref sl) (pure (items.size : Int))) Q' E' s := fun {A' E' Q'} hq => by
    unfold Builtin.Slice.sliceApplied Builtin.Slice.sliceFields
    refine wpAny_bind (wpAny_bind (wpAny_field hos hds (x := .none) rfl (wpAny_bind (wpAny_field hos hds (x := .none) rfl (wpAny_bind (wpAny_field hos hds (x := st) rfl (wpAny_pure ?_)))))))
    refine wpAny_bind (slicePart_ ps ?_)
    show wpAny _ _ (if ((-1 : Int) == 0) = true then _ else _) _ _ s
    rw [if_neg (by decide)]
    refine wpAny_bind (slicePart_none (wpAny_bind (slicePart_none (wpAny_bind (wpAny_pure ?_)))))
    show wpAny _ _ (match Builtin.Slice.sliceAdjust none none (-1) (items.size : Int) with | (lo, hi) => pure (lo, (-1 : Int), Builtin.Slice.slicePlaces lo hi (-1))) _ _ s
    rw [(places_rev items.size).1]
    show wpAny _ _ (pure ((items.size : Int) - 1, (-1 : Int), Builtin.Slice.slicePlaces ((items.size : Int) - 1) (-1) (-1))) _ _ s
    rw [(places_rev items.size).2]
    exact wpAny_pure hq
  refine wpAny_bind (hap ?_)
  show wpAny _ _ (if (((items.size : Int) - 1) == 0 && (-1 : Int) == 1 && items.size == items.size) = true then _ else _) _ _ s
  rw [if_neg (by simp), pick_rev]
  first
    | exact wpAny_bind (m := Builtin.Tuple.tupleExact _) (wpAny_newObj_type (wpAny_pure ⟨_, rfl, wpAny_pure h⟩) hok)
    | exact wpAny_bind (m := Builtin.Tuple.tupleExact _) (wpAny_newObj_type (wpAny_bind (wpAny_pure (wpAny_pure ⟨_, rfl, wpAny_pure h⟩))) hok)
    | exact wpAny_bind (wpAny_bind (m := Builtin.Tuple.tupleExact _) (wpAny_newObj_type (wpAny_pure (wpAny_pure ⟨_, rfl, wpAny_pure h⟩)) hok))
    | exact wpAny_bind (wpAny_bind (m := Builtin.Tuple.tupleExact _) (wpAny_newObj_type (wpAny_pure ⟨_, rfl, wpAny_pure h⟩) hok))
end
section
variable {X : Cx} {e st : Expr} {te : TE} {ts : TO} {p2 pos : Pos}
def tRevT (te : TE) (ts : TO) : TE := fun σ H Q => te σ H fun x H1 => ts σ H1 fun o H2 => o = some (-1) ∧ ∃ a xs, x = .ref a ∧ tpO (H2 a) = some xs ∧ ∀ p, H2 p = none → Q (.ref p) (upd H2 p (.tup xs.reverse))
theorem vals_rev : ∀ {xs : List V} {us : List Value}, Vals xs us → Vals xs.reverse us.reverse
  | _, _, .nil => .nil
  | _, _, .cons r t => by
    rw [List.reverse_cons, List.reverse_cons]
    exact (vals_rev t).append (.cons r .nil)
theorem pe_revT (he : PE X e te) (hs : PO X (some st) ts) (hsb : ∀ v u, subscripted (.Slice none none (some st) p2) false v u = operate [v, u] (getItem v u) := by intro _ _; with_unfolding_all rfl) : PE X (.Subscript e (.Slice none none (some st) p2) pos) (tRevT te ts) := by
  refine ⟨fun pins s σ H Q I h => ?_⟩
  refine Subscript_ (thn (he.run pins s σ H _ I h) fun v s1 ⟨x, H1, I1, r1, q1⟩ => ?_)
  refine wpAny_Slice ?_
  rw [evalPart_none]
  refine wpAny_pure (wpAny_pure ?_)
  refine thn (hs.run pins s1 σ H1 _ I1 q1) fun vs s3 ⟨o, H3, I3, po, eo, a, xs, ex, hx, q3⟩ => ?_
  subst eo
  subst ex
  cases r1
  have I4 : Inv X pins σ H3 { s3 with heap := s3.heap.push { cls := .type "slice", data := .fields #[.none, .none, vs] } } := I3.kept (t' := s3.toks) fun b ob q => Heap.get?_push_of_some _ q
  obtain ⟨its, r, ht, hz⟩ := I4.tuple (show SqT X.K H3 a xs from .inl (rd_tpO hx))
  have hl : its.toArray.size = xs.length := by rw [List.size_toArray]; exact r.length.symm
  refine tail_any (ops := [.ref a, .ref s3.heap.objs.size]) ht.typeIs slot_tuple_getitem.lookup (getItem_tuple_rev (sl := s3.heap.objs.size) ht (Heap.IsSliceOf.new ..) po ?_ (by rw [hl]; exact hz)) (hsb _ _)
  have I5 := I4.laid (t' := s3.toks) (h' := (s3.heap.push { cls := .type "slice", data := .fields #[.none, .none, vs] }).push { cls := .type "tuple", data := .seq its.toArray.toList.reverse.toArray }) (o := .tup xs.reverse) (fun b ob q => Heap.get?_push_of_some _ q) (Nat.le_refl _)
    ⟨by rw [List.length_reverse]; exact hz, its.reverse, vals_rev r, ⟨_, by rw [Heap.get?_push_size _ rfl], rfl, 0, by simp⟩⟩
  exact ⟨.ref _, _, I5, rfl, q3 _ (I4.hok.fresh (Nat.le_refl _))⟩
end
end G7

set_option linter.all false
set_option Elab.async false
set_option maxRecDepth 100000
set_option maxHeartbeats 4000000
namespace G7
open PySem PySem.Spec PyProof.Rows L2
section
variable {X : Cx}
/-- t + u, neither empty -/
def rCatH : R2 := fun x y H Q => ∃ a b xs ys, x = .ref a ∧ y = .ref b ∧ tpO (H a) = some xs ∧ tpO (H b) = some ys ∧ xs.length + ys.length ≤ sizeLine ∧ xs ≠ [] ∧ ys ≠ [] ∧ ∀ p, H p = none → Q (.ref p) (upd H p (.tup (xs ++ ys)))
theorem op_catH : OpR X (binaryOp .Add) rCatH := opImp op_catA fun x y H Q ⟨a, b, xs, ys, e1, e2, h1, h2, hz, n1, n2, q⟩ =>
  ⟨a, b, xs, ys, e1, e2, .inl (rd_tpO h1), .inl (rd_tpO h2), hz, fun n => absurd n n1, fun _ n => absurd n n2, fun _ _ => q⟩
/-- l + m of lists -/
def rCatL : R2 := fun x y H Q => ∃ l b xs zs, x = .ref l ∧ y = .ref b ∧ H l = some (.lst xs) ∧ H b = some (.lst zs) ∧ xs.length + zs.length ≤ sizeLine ∧ ∀ p, H p = none → Q (.ref p) (upd H p (.lst (xs ++ zs)))
/-- x in a tuple of flat items -/
def rInT : R2 := fun x y H Q => ∃ p xs, y = .ref p ∧ tpO (H p) = some xs ∧ flatV x = true ∧ xs.all flatV = true ∧ Q (.bl (inV x xs)) H
theorem op_inT : OpR X (compareOp .In) rInT := opImp op_in_seq fun x y H Q ⟨p, xs, e, h, f1, f2, q⟩ => ⟨p, xs, e, .inr (.inl (rd_tpO h)), f1, f2, q⟩
/-- d != e of dicts: unlike lengths, or the same data at each key -/
def rNeDic (K : PySem.W.Frag) : R2 := fun x y H Q => ∃ a b ks ls, x = .ref a ∧ y = .ref b ∧ H a = some (.dK ks) ∧ H b = some (.dK ls) ∧ ks.length = ls.length ∧
  (∀ p ∈ ks, ∃ v d, valV ls p.1 = some v ∧ Dp K H p.2 d ∧ Dp K H v d ∧ SeqAt.shaped d = true) ∧ Q (.bl false) H
theorem hits_dp {A : Around} {pins : List (Addr × Obj)} {σ : L2.St} {H : Hp} {s : Shared} (I : Inv X pins σ H s) (hu : A.in1.units + 64 < cLine) {kvs : List (Key × V)} {vb : List (Key × Value)} (rb : KV kvs vb) {ks : List (Key × V)} {va : List (Key × Value)} (ra : KV ks va) :
    (∀ p ∈ ks, ∃ v d, valV kvs p.1 = some v ∧ Dp X.K H p.2 d ∧ Dp X.K H v d ∧ SeqAt.shaped d = true) → PySem.W.KeqHits A.in1 s vb va true := by
  unfold KV at ra
  induction ra with
  | nil => intro _; exact .nil
  | @cons p q ps qs h t ih =>
    intro hp
    obtain ⟨h1, h2⟩ := h
    obtain ⟨v0, d, e, d1, d2, sh⟩ := hp p List.mem_cons_self
    have rr : RelO (some v0) (valueAt vb p.1) := by rw [← e]; exact rb.val p.1
    obtain ⟨y, hy, ry⟩ := rr.some_of
    obtain ⟨k, v⟩ := q
    have h1' : p.1 = k := h1
    rw [h1'] at hy
    obtain ⟨as, r1⟩ := Dp.reads I d _ v d1 h2
    obtain ⟨bs, r2⟩ := Dp.reads I d _ y d2 ry
    have q := PySem.W.keq_at (A := A) r1 r2 sh sh hu
    rw [SeqAt.eqv_refl d (SeqAt.canLay_of_shaped sh)] at q
    show PySem.W.KeqHits A.in1 s vb ((k, v) :: qs) (true && true)
    exact .hit hy q (ih fun p' hm => hp p' (List.mem_cons_of_mem _ hm))
theorem op_ne_dicD (hu : X.A.in1.units + 64 < cLine) (hu0 : X.A.units < cLine) : OpR X (compareOp .NotEq) (rNeDic X.K) := by
  intro pins s σ H x y v u Q I rx ry h
  obtain ⟨a, b, ks, ls, rfl, rfl, ea, eb, hlen, hp, q⟩ := h
  obtain rfl : v = Value.ref a := rx
  obtain rfl : u = Value.ref b := ry
  obtain ⟨_, ya, va, ra, da⟩ := (show ObjOk X.prog X.w H s.heap a (.dK ks) from I.hok a _ ea)
  obtain ⟨_, yb, vb, rb, db⟩ := (show ObjOk X.prog X.w H s.heap b (.dK ls) from I.hok b _ eb)
  have hl : va.length = vb.length := by rw [← ra.length, ← rb.length]; exact hlen
  exact PySem.W.keq_ne (knd := mixKind X.prog X.w) (r := true) ya yb da db hu0 (fun _ => hits_dp I hu rb ra hp) (fin_bl I q (by simp [hl]))
/-- .. or None against a flat value -/
def rNeDicO (K : PySem.W.Frag) : R2 := fun x y H Q => (x = .non ∧ y = .non ∧ Q (.bl false) H) ∨ rNeDic K x y H Q
theorem op_ne_dicO (hu : X.A.in1.units + 64 < cLine) (hu0 : X.A.units < cLine) : OpR X (compareOp .NotEq) (rNeDicO X.K) := OpR.or (opImp op_ne fun x y H Q ⟨e1, e2, q⟩ => by
    subst e1 e2
    exact ⟨rfl, q⟩) (op_ne_dicD hu hu0)
/-- sorted(d): keys all texts -/
def cSortD : List V → Hp → VK → Prop := fun xs H Q => ∃ (a : Addr) (kvs : List (Key × V)) (ks : List Str), xs = [.ref a] ∧ dkO (H a) = some kvs ∧ kvs.map (·.1) = ks.map Sum.inr ∧ ks.length < 64 ∧
    ∀ (ys : List Str) (p : Addr), ys.Perm ks → H p = none → Q (.ref p) (upd H p (.lst (ys.map V.str)))
theorem sorted_dic (hc : X.calm = true) : CallR X (.builtin "sorted") cSortD := callImp (call_sortedD hc) fun xs H Q ⟨a, kvs, ks, e, h, h2, h3, q⟩ => ⟨a, kvs, ks, e, rd_dkO h, h2, h3, fun ys p h1 _ => q ys p h1⟩
/-- max(xs), min(xs) of a list of ints -/
def cMaxL : List V → Hp → VK → Prop := fun vs H Q => ∃ (a : Addr) (ns : List Int), vs = [V.ref a] ∧ lsO (H a) = some (ns.map V.int) ∧ 0 < ns.length ∧ ∀ m, m ∈ ns → (∀ y, y ∈ ns → y ≤ m) → Q (.int m) H
def cMinL : List V → Hp → VK → Prop := fun vs H Q => ∃ (a : Addr) (ns : List Int), vs = [V.ref a] ∧ lsO (H a) = some (ns.map V.int) ∧ 0 < ns.length ∧ ∀ m, m ∈ ns → (∀ y, y ∈ ns → m ≤ y) → Q (.int m) H
theorem max_lst (hc : X.calm = true) : CallR X (.builtin "max") cMaxL := callImp (cr_max hc) fun vs H Q ⟨a, ns, e, h, q⟩ => ⟨a, ns, e, .inl (rd_lsO h), q⟩
theorem min_lst (hc : X.calm = true) : CallR X (.builtin "min") cMinL := callImp (cr_min hc) fun vs H Q ⟨a, ns, e, h, q⟩ => ⟨a, ns, e, .inl (rd_lsO h), q⟩
/-- a list of ints != [] -/
def rNeNilI : R2 := fun x y H Q => ∃ (p q : Addr) (ns : List Int), x = .ref p ∧ y = .ref q ∧ lsO (H p) = some (ns.map V.int) ∧ lsO (H q) = some [] ∧ Q (.bl (!ns.isEmpty)) H
theorem op_neNilI (hu : X.A.units + 64 < cLine) : OpR X (compareOp .NotEq) rNeNilI := opImp (op_neD hu) fun x y H Q ⟨p, q, ns, e1, e2, h1, h2, k⟩ => by
  refine ⟨.list (ns.map PyData.int), .list [], e1 ▸ .lst (.inl (rd_lsO h1)) (dpAll_ints X.K H ns), e2 ▸ .lst (.inl (rd_lsO h2)) .nil, ?_, rfl, ?_⟩
  · exact shaped_ints ns
  · cases ns with
    | nil => exact k
    | cons n r => exact k
end
/-! a list of texts, or of pairs of texts, against [] -/
theorem lay_strs : ∀ ns : List Str, (∀ s ∈ ns, PyData.strOk s = true) → PyData.canLayAll0 (ns.map PyData.str) = true
  | [], _ => by simp [PyData.canLayAll0]
  | n :: r, h => by
    have h1 := h n List.mem_cons_self
    simp [PyData.canLayAll0, PyData.canLay0, h1, lay_strs r fun s hs => h s (List.mem_cons_of_mem _ hs)]
theorem depth_strs : ∀ ns : List Str, PyData.depthAll (ns.map PyData.str) ≤ 1
  | [] => by simp [PyData.depthAll]
  | n :: r => by
    have h := depth_strs r
    simp only [List.map_cons, PyData.depthAll, PyData.depth]
    omega
theorem shaped_strs (ns : List Str) (h : ∀ s ∈ ns, PyData.strOk s = true) : SeqAt.shaped (.list (ns.map PyData.str)) = true := by
  have h1 := depth_strs ns
  have h2 : PyData.depth (.list (ns.map PyData.str)) ≤ 64 := by
    simp only [PyData.depth]
    omega
  unfold SeqAt.shaped
  rw [Bool.and_eq_true]
  exact ⟨by simp only [PyData.canLay0]; exact lay_strs ns h, decide_eq_true h2⟩
theorem dpAll_strs (K : PySem.W.Frag) (H : Hp) : ∀ ns : List Str, DpAll K H (ns.map V.str) (ns.map PyData.str)
  | [] => .nil
  | n :: r => .cons (.str n) (dpAll_strs K H r)
/-- (table, field) of some -/
abbrev Fd := Addr × Str × Str
structure RF (H : Hp) (a : Addr) (ps : List Fd) : Prop where
  at_ : H a = some (.lst (ps.map fun e => V.ref e.1))
  tups : ∀ e ∈ ps, H e.1 = some (.tup [.str e.2.1, .str e.2.2])
  oks : ∀ e ∈ ps, PyData.strOk e.2.1 = true ∧ PyData.strOk e.2.2 = true
def Fd.dat (e : Fd) : PyData := .tuple [.str e.2.1, .str e.2.2]
theorem RF.same {H H' : Hp} {a : Addr} {ps : List Fd} (R : RF H a ps) (k : Same H H') : RF H' a ps := ⟨k _ _ R.at_, fun e he => k _ _ (R.tups e he), R.oks⟩
theorem RF.keepB {H H' : Hp} {h l a : Addr} {ps : List Fd} (R : RF H a ps) (k : Keep [h, l] H H') (B : BoxB H h l) (n : a ∉ [h, l]) : RF H' a ps :=
  ⟨k _ _ n R.at_, fun e he => k _ _ (B.notin (R.tups e he) (by intro xs q; cases q)) (R.tups e he), R.oks⟩
theorem dpAll_fds {K : PySem.W.Frag} {H : Hp} : ∀ {ps : List Fd}, (∀ e ∈ ps, H e.1 = some (.tup [.str e.2.1, .str e.2.2])) → DpAll K H (ps.map fun e => V.ref e.1) (ps.map Fd.dat)
  | [], _ => .nil
  | e :: r, h => .cons (.tup (.inl (.inl (h e List.mem_cons_self))) (.cons (.str _) (.cons (.str _) .nil))) (dpAll_fds fun e he => h e (List.mem_cons_of_mem _ he))
theorem lay_fds : ∀ {ps : List Fd}, (∀ e ∈ ps, PyData.strOk e.2.1 = true ∧ PyData.strOk e.2.2 = true) → PyData.canLayAll0 (ps.map Fd.dat) = true
  | [], _ => by simp [PyData.canLayAll0]
  | e :: r, h => by
    have h1 := h e List.mem_cons_self
    simp [PyData.canLayAll0, PyData.canLay0, Fd.dat, h1, lay_fds fun e he => h e (List.mem_cons_of_mem _ he)]
theorem depth_fds : ∀ (ps : List Fd), PyData.depthAll (ps.map Fd.dat) ≤ 2
  | [] => by simp [PyData.depthAll]
  | e :: r => by
    have h := depth_fds r
    simp only [List.map_cons, PyData.depthAll, PyData.depth, Fd.dat]
    omega
theorem shaped_fds {ps : List Fd} (h : ∀ e ∈ ps, PyData.strOk e.2.1 = true ∧ PyData.strOk e.2.2 = true) : SeqAt.shaped (.list (ps.map Fd.dat)) = true := by
  have h1 := depth_fds ps
  have h2 : PyData.depth (.list (ps.map Fd.dat)) ≤ 64 := by
    simp only [PyData.depth]
    omega
  unfold SeqAt.shaped
  rw [Bool.and_eq_true]
  exact ⟨by simp only [PyData.canLay0]; exact lay_fds h, decide_eq_true h2⟩
theorem RF.eqNil {K : PySem.W.Frag} {H : Hp} {a q : Addr} {ps : List Fd} {Q : VK} (R : RF H a ps) (hq : H q = some (.lst [])) (k : Q (.bl ps.isEmpty) H) : rEqD K (.ref a) (.ref q) H Q := by
  refine ⟨.list (ps.map Fd.dat), .list [], .lst (.inl (.inl R.at_)) (dpAll_fds R.tups), .lst (.inl (.inl hq)) .nil, shaped_fds R.oks, rfl, ?_⟩
  cases ps with
  | nil => exact k
  | cons n r => exact k
theorem RF.neNil {K : PySem.W.Frag} {H : Hp} {a q : Addr} {ps : List Fd} {Q : VK} (R : RF H a ps) (hq : H q = some (.lst [])) (k : Q (.bl (!ps.isEmpty)) H) : rNeD K (.ref a) (.ref q) H Q := by
  refine ⟨.list (ps.map Fd.dat), .list [], .lst (.inl (.inl R.at_)) (dpAll_fds R.tups), .lst (.inl (.inl hq)) .nil, shaped_fds R.oks, rfl, ?_⟩
  cases ps with
  | nil => exact k
  | cons n r => exact k
end G7

set_option linter.all false
set_option Elab.async false
set_option maxRecDepth 100000
set_option maxHeartbeats 4000000
namespace G7
open PySem PySem.Spec PyProof.Rows L2
/-! ### TURNED, a dict of the module -/
def Wd.turn : Wd → Wd
  | .lt => .gt
  | .gt => .lt
  | .le => .ge
  | .ge => .le
  | c => c
def Wd.isLog : Wd → Bool
  | .and => true
  | .or => true
  | .not => true
  | _ => false
structure TabAt (K : PySem.W.Frag) (w : World) (d : Addr) : Prop where
  kd : ∃ es n, KDict K w d es n
  hit : ∀ c : Wd, c.isCmp = true → ∃ t, PySem.W.nsIn K d c.s = some (some (.str c.turn.s t))
  miss : ∀ c : Wd, c.isLog = true → PySem.W.nsIn K d c.s = some none
def rInTab (d : Addr) : R2 := fun x y H Q => ∃ c : Wd, x = .str c.s ∧ y = .ref d ∧ (c.isCmp || c.isLog) = true ∧ Q (.bl c.isCmp) H
def rIxTab (d : Addr) : R2 := fun x y H Q => ∃ c : Wd, x = .ref d ∧ y = .str c.s ∧ c.isCmp = true ∧ Q (.str c.turn.s) H
section
variable {X : Cx} {d : Addr}
theorem op_inTab (D : TabAt X.K X.w d) : OpR X (compareOp .In) (rInTab d) := by
  obtain ⟨es, n, kd⟩ := D.kd
  refine opImp (op_in_kd kd) fun x y H Q ⟨c, e1, e2, e3, q⟩ => ?_
  cases hc : c.isCmp with
  | true =>
    obtain ⟨t, ht⟩ := D.hit c hc
    exact ⟨_, _, e1, e2, ht, by rw [hc] at q; exact q⟩
  | false =>
    rw [hc, Bool.false_or] at e3
    exact ⟨_, _, e1, e2, D.miss c e3, by rw [hc] at q; exact q⟩
theorem ix_tab (D : TabAt X.K X.w d) : IxR X (rIxTab d) := by
  obtain ⟨es, n, kd⟩ := D.kd
  refine ixImp ix_kdict fun x y H Q ⟨c, e1, e2, e3, q⟩ => ?_
  obtain ⟨t, ht⟩ := D.hit c e3
  exact ⟨_, _, .str c.turn.s, e1, e2, ⟨es, n, _, kd.at_, kd.lit, ht, ⟨t, rfl⟩⟩, q⟩
end
theorem tab_mk {K : PySem.W.Frag} {w : World} {d : Addr} {es : Array DictEntry} {n : Nat} (h1 : K.lookup d = some ⟨.type "dict", none, .dict es n, #[]⟩) (h2 : PySem.W.KeysLit w.params es.toList) (h3 : (d == sysModules) = false)
    {t1 t2 t3 t4 t5 : Tok} (k1 : PySem.W.nsIn K d "=" = some (some (.str "=" t1))) (k2 : PySem.W.nsIn K d "<" = some (some (.str ">" t2))) (k3 : PySem.W.nsIn K d ">" = some (some (.str "<" t3)))
    (k4 : PySem.W.nsIn K d "<=" = some (some (.str ">=" t4))) (k5 : PySem.W.nsIn K d ">=" = some (some (.str "<=" t5)))
    (m1 : PySem.W.nsIn K d "and" = some none) (m2 : PySem.W.nsIn K d "or" = some none) (m3 : PySem.W.nsIn K d "not" = some none) : TabAt K w d :=
  ⟨⟨es, n, h1, h2, h3⟩, fun c hc => by cases c <;> first | exact ⟨_, k1⟩ | exact ⟨_, k2⟩ | exact ⟨_, k3⟩ | exact ⟨_, k4⟩ | exact ⟨_, k5⟩ | (cases hc),
    fun c hc => by cases c <;> first | exact m1 | exact m2 | exact m3 | (cases hc)⟩
/-! ### trees: the first word, how great -/
def Tm.head : Tm → Wd
  | .num _ => .num
  | .fld _ _ => .field
  | .op o _ _ => o
def Tm.lim : Tm → Prop
  | .num n => -1000 ≤ n ∧ n ≤ 1000
  | .fld _ _ => True
  | .op _ a b => a.lim ∧ b.lim
def Cd.lim : Cd → Prop
  | .cmp _ a b => a.lim ∧ b.lim ∧ a.deep ≤ 8 ∧ b.deep ≤ 8
  | .neg c => c.lim
  | .con _ a b => a.lim ∧ b.lim
/-- how many comparisons -/
def Cd.leaves : Cd → Nat
  | .cmp _ _ _ => 1
  | .neg c => c.leaves
  | .con _ a b => a.leaves + b.leaves
/-- how deep and, or, not stand -/
def Cd.high : Cd → Nat
  | .cmp _ _ _ => 0
  | .neg c => c.high + 1
  | .con _ a b => max a.high b.high + 1
def Cd.head : Cd → Wd
  | .cmp c _ _ => c
  | .neg _ => .not
  | .con o _ _ => o
structure Cd.Good (c : Cd) (d m : Nat) : Prop where
  ok : c.ok = true
  lim : c.lim
  high : c.high ≤ d
  few : c.leaves ≤ m
def CoGood : Option Cd → Nat → Nat → Prop
  | none, _, _ => True
  | some c, d, m => c.Good d m
def partsC : Cd → List Cd
  | .con .and a b => partsC a ++ partsC b
  | c => [c]
def partsO : Option Cd → List Cd
  | none => []
  | some c => partsC c
def Cd.isCmpC : Cd → Bool
  | .cmp _ _ _ => true
  | _ => false
theorem partsC_len : ∀ c : Cd, (partsC c).length ≤ c.leaves
  | .cmp _ _ _ => by simp [partsC, Cd.leaves]
  | .neg c => by
    have : ∀ c : Cd, 1 ≤ c.leaves := by
      intro c
      induction c with
      | cmp => simp [Cd.leaves]
      | neg c ih => simpa [Cd.leaves] using ih
      | con o a b i1 i2 => simp [Cd.leaves]; omega
    simp [partsC, Cd.leaves, this c]
  | .con o a b => by
    have h1 := partsC_len a
    have h2 := partsC_len b
    have : ∀ c : Cd, 1 ≤ c.leaves := by
      intro c
      induction c with
      | cmp => simp [Cd.leaves]
      | neg c ih => simpa [Cd.leaves] using ih
      | con o a b i1 i2 => simp [Cd.leaves]; omega
    have l1 := this a
    cases o <;> simp [partsC, Cd.leaves] <;> omega
/-- each part is a comparison, an or, a not -/
def Cd.part : Cd → Prop
  | .cmp c a b => c.isCmp = true ∧ a.ok = true ∧ b.ok = true ∧ a.lim ∧ b.lim ∧ a.deep ≤ 8 ∧ b.deep ≤ 8
  | .neg _ => True
  | .con o _ _ => o = .or
theorem partsC_part : ∀ c : Cd, c.ok = true → c.lim → ∀ p ∈ partsC c, p.part
  | .cmp c a b, h, l => by
    intro p hp
    cases List.mem_singleton.mp hp
    simp only [Cd.ok, Bool.and_eq_true] at h
    exact ⟨h.1.1, h.1.2, h.2, l⟩
  | .neg c, h, l => by
    intro p hp
    cases List.mem_singleton.mp hp
    trivial
  | .con o a b, h, l => by
    simp only [Cd.ok, Bool.and_eq_true] at h
    intro p hp
    cases o with
    | and =>
      rcases List.mem_append.mp hp with hp | hp
      · exact partsC_part a h.1.2 l.1 p hp
      · exact partsC_part b h.2 l.2 p hp
    | or =>
      cases List.mem_singleton.mp hp
      rfl
    | _ => exact absurd h.1.1 (by simp [Wd.isCon])
theorem partsO_part : ∀ {c : Option Cd} {d m : Nat}, CoGood c d m → ∀ p ∈ partsO c, p.part
  | none, _, _, _, p, hp => absurd hp (by simp [partsO])
  | some c, _, _, g, p, hp => partsC_part c g.ok g.lim p hp
theorem partsO_len : ∀ {c : Option Cd} {d m : Nat}, CoGood c d m → (partsO c).length ≤ m
  | none, _, _, _ => Nat.zero_le _
  | some c, _, _, g => Nat.le_trans (partsC_len c) g.few
/-- a list of conditions at a -/
structure RL (H : Hp) (a : Addr) (es : List (V × Cd)) : Prop where
  at_ : H a = some (.lst (es.map (·.1)))
  each : ∀ e ∈ es, RC H e.1 e.2
/-! ### spans -/
abbrev OI := Option Int
def tru (c : Wd) (a b : Int) : Bool := match c with
  | .eq => decide (a = b)
  | .lt => decide (a < b)
  | .gt => decide (b < a)
  | .le => decide (a ≤ b)
  | .ge => decide (b ≤ a)
  | _ => false
def spanOf (c : Wd) (n : Int) : OI × OI := match c with
  | .eq => (some n, some n)
  | .lt => (none, some (n - 1))
  | .le => (none, some n)
  | .gt => (some (n + 1), none)
  | .ge => (some n, none)
  | _ => (none, none)
def maxO : OI → OI → OI
  | none, o => o
  | some a, none => some a
  | some a, some b => some (max a b)
def minO : OI → OI → OI
  | none, o => o
  | some a, none => some a
  | some a, some b => some (min a b)
def narrow (s t : OI × OI) : OI × OI := (maxO s.1 t.1, minO s.2 t.2)
def emptyS (s : OI × OI) : Bool := match s with
  | (some a, some b) => decide (b < a)
  | _ => false
abbrev Sp3 := Str × OI × OI
def lookS (es : List Sp3) (f : Str) : OI × OI := ((es.find? fun e => decide (e.1 = f)).map (·.2)).getD (none, none)
def putS (es : List Sp3) (f : Str) (s : OI × OI) : List Sp3 := if (es.any fun e => decide (e.1 = f)) = true then es.map (fun e => if e.1 = f then (e.1, s) else e) else es ++ [(f, s)]
/-- one comparison, its field on the left -/
def step2 (t : Str) (es : List Sp3) (c : Wd) (x y : Tm) : List Sp3 := match x, y with
  | .fld t' f, .num a => if t' = t then putS es f (narrow (lookS es f) (spanOf c a)) else es
  | _, _ => es
def truT (c : Wd) (x y : Tm) : Bool := match x, y with
  | .num a, .num b => tru c a b
  | _, _ => true
/-- none where numbers compare falsely -/
def stepC (t : Str) (es : List Sp3) : Cd → Option (List Sp3)
  | .cmp c x y => if truT c x y = true then some (if x.head = .num then step2 t es c.turn y x else step2 t es c x y) else none
  | _ => some es
def foldC (t : Str) : List Sp3 → List Cd → Option (List Sp3)
  | es, [] => some es
  | es, c :: r => match stepC t es c with
    | none => none
    | some es' => foldC t es' r
def boundsM (t : Str) (co : Option Cd) : Option (List Sp3) := match foldC t [] (partsO co) with
  | none => none
  | some es => if es.any fun e => emptyS e.2 then none else some es
end G7
namespace G7
open PySem PySem.Spec PyProof.Rows L2
def oi : OI → V
  | none => .non
  | some i => .int i
theorem oi_n : oi none = .non := rfl
theorem oi_s {i : Int} : oi (some i) = .int i := rfl
def knownC : Cd → Bool
  | .cmp _ a b => decide (a.head = .num) && decide (b.head = .num)
  | _ => false
theorem RT.headed {H : Hp} : ∀ {t : Tm} {v : V}, RT H v t → ∃ a r, v = .ref a ∧ H a = some (.tup (.str t.head.s :: r))
  | .num n, _, ⟨a, e, h⟩ => ⟨a, _, e, h⟩
  | .fld t f, _, ⟨a, e, h⟩ => ⟨a, _, e, h⟩
  | .op o x y, _, ⟨a, u, w, e, h, _, _⟩ => ⟨a, _, e, h⟩
theorem RC.headed {H : Hp} : ∀ {t : Cd} {v : V}, RC H v t → ∃ a r, v = .ref a ∧ H a = some (.tup (.str t.head.s :: r))
  | .cmp c x y, _, ⟨a, u, w, e, h, _, _⟩ => ⟨a, _, e, h⟩
  | .neg c, _, ⟨a, u, e, h, _⟩ => ⟨a, _, e, h⟩
  | .con o x y, _, ⟨a, u, w, e, h, _, _⟩ => ⟨a, _, e, h⟩
end G7
namespace G7
open PySem PySem.Spec PyProof.Rows L2
theorem Wd.beq_s (a b : Wd) : (a.s == b.s) = decide (a = b) := by
  have h := Wd.s_inj a b
  by_cases e : a = b
  · rw [decide_eq_true e, e]
    exact beq_self_eq_true _
  · rw [decide_eq_false e]
    exact beq_false_of_ne fun q => e (h.mp q)
theorem sz0 : (0 ≤ sizeLine) = True := eq_true (Nat.zero_le _)
theorem sz1 : (1 ≤ sizeLine) = True := eq_true (szl (by decide))
theorem sz2 : (2 ≤ sizeLine) = True := eq_true (szl (by decide))
theorem sz3 : (3 ≤ sizeLine) = True := eq_true (szl (by decide))
theorem sz4 : (4 ≤ sizeLine) = True := eq_true (szl (by decide))
theorem sz5 : (5 ≤ sizeLine) = True := eq_true (szl (by decide))
theorem sz6 : (6 ≤ sizeLine) = True := eq_true (szl (by decide))
theorem isc_num : Wd.num.isCmp = false := rfl
theorem isc_field : Wd.field.isCmp = false := rfl
theorem isc_eq : Wd.eq.isCmp = true := rfl
theorem isc_lt : Wd.lt.isCmp = true := rfl
theorem isc_gt : Wd.gt.isCmp = true := rfl
theorem isc_le : Wd.le.isCmp = true := rfl
theorem isc_ge : Wd.ge.isCmp = true := rfl
theorem isc_and : Wd.and.isCmp = false := rfl
theorem isc_or : Wd.or.isCmp = false := rfl
theorem isc_not : Wd.not.isCmp = false := rfl
theorem isl_and : Wd.and.isLog = true := rfl
theorem isl_or : Wd.or.isLog = true := rfl
theorem isl_not : Wd.not.isLog = true := rfl
end G7
namespace G7
open PySem PySem.Spec PyProof.Rows L2
def lcB (J : It) (g : TG) (tt : TT) (te : TE) (vs : List Nat) (σ : L2.St) (H1 : Hp) (Q : VK) : Prop := tLc (fun _ H R => R J H) g tt te vs σ H1 Q
def forB (J : It) (g : TG) (tb : TS) (D : Ends) (σ : L2.St) (H1 : Hp) : Prop := tFor (fun _ H R => R J H) g tb D σ H1
theorem tLc_eq {wi : TI} {g : TG} {tt : TT} {te : TE} {vs : List Nat} {σ : L2.St} {H : Hp} {Q : VK} : tLc wi g tt te vs σ H Q = wi σ H fun J H1 => lcB J g tt te vs σ H1 Q := rfl
theorem tFor_eq {wi : TI} {g : TG} {tb : TS} {D : Ends} {σ : L2.St} {H : Hp} : tFor wi g tb D σ H = wi σ H fun J H1 => forB J g tb D σ H1 := rfl
theorem lcB_it {J : It} {g : TG} {tt : TT} {te : TE} {vs : List Nat} {σ : L2.St} {H1 : Hp} {Q : VK}
    (h : ∀ D, H1 D = none → ∃ W : Nat → Nat → Hp → Prop, (∃ m, W 0 m (upd H1 D (.lst []))) ∧ ∀ i m H, W i m H →
  (J.stop i H ∧ Q (.ref D) H) ∨ (J.go i H ∧ ∃ Nx : Hp → Prop, (∀ H', Nx H' → ∃ m', m' < m ∧ W (i + 1) m' H') ∧ ∀ x H', J.yld i H x H' → g x (wipe σ vs) H' fun σ2 H2 => wipe σ2 vs = wipe σ vs ∧ tt σ2 H2 fun b H3 =>
    if b = true then te σ2 H3 fun y H4 => ∃ acc, H4 D = some (.lst acc) ∧ acc.length < sizeLine ∧ Nx (upd H4 D (.lst (acc ++ [y]))) else Nx H3)) : lcB J g tt te vs σ H1 Q := h
theorem forB_it {J : It} {g : TG} {tb : TS} {D : Ends} {σ : L2.St} {H : Hp} (h : ∃ W : Nat → Nat → L2.St → Hp → Prop, (∃ m, W 0 m σ H) ∧ ∀ i m σ H, W i m σ H →
  (J.stop i H ∧ D.nx σ H) ∨ (J.go i H ∧ ∃ N : L2.St → Hp → Prop, (∀ σ' H', N σ' H' → ∃ m', m' < m ∧ W (i + 1) m' σ' H') ∧ ∀ x H', J.yld i H x H' → g x σ H' fun σ2 H2 => tb { D with nx := N, ct := N, bk := D.nx } σ2 H2)) : forB J g tb D σ H := h
/-- what stands in both lists of ends -/
def somes : List OI → List Int
  | [] => []
  | none :: r => somes r
  | some a :: r => a :: somes r
theorem somes_append : ∀ a b : List OI, somes (a ++ b) = somes a ++ somes b
  | [], b => rfl
  | none :: r, b => somes_append r b
  | some a :: r, b => by
    show a :: somes (r ++ b) = a :: (somes r ++ somes b)
    rw [somes_append r b]
end G7

set_option linter.all false
set_option Elab.async false
set_option maxRecDepth 100000
set_option maxHeartbeats 4000000
namespace G7
open PySem PySem.Spec PyProof.Rows L2
/-! ### dicts of spans -/
abbrev En := Str × Addr × OI × OI
def ent (e : En) : Key × V := (.inr e.1, .ref e.2.1)
def dr (e : En) : Sp3 := (e.1, e.2.2)
abbrev RowG := OI × OI → List V
def gO : RowG := fun s => [oi s.1, oi s.2]
def loI : OI → Int
  | none => -1000000000
  | some a => a
def hiI : OI → Int
  | none => 1000000000
  | some a => a
def gI : RowG := fun s => [.int (loI s.1), .int (hiI s.2)]
structure DBg (g : RowG) (H : Hp) (d : Addr) (es : List En) : Prop where
  at_ : H d = some (.dK (es.map ent))
  tups : ∀ e ∈ es, H e.2.1 = some (.tup (g e.2.2))
  oks : ∀ e ∈ es, PyData.strOk e.1 = true
  nd : (es.map (·.1)).Nodup
theorem DBg.same {g : RowG} {H H' : Hp} {d : Addr} {es : List En} (b : DBg g H d es) (k : Same H H') : DBg g H' d es := ⟨k _ _ b.at_, fun e he => k _ _ (b.tups e he), b.oks, b.nd⟩
theorem look_ent : ∀ (es : List En) (f : Str), (valV (es.map ent) (Sum.inr f : Key) = none ∧ lookS (es.map dr) f = (none, none)) ∨ ∃ e ∈ es, valV (es.map ent) (Sum.inr f : Key) = some (.ref e.2.1) ∧ lookS (es.map dr) f = e.2.2 ∧ e.1 = f
  | [], f => .inl ⟨rfl, rfl⟩
  | e :: r, f => by
    by_cases h : e.1 = f
    · refine .inr ⟨e, List.mem_cons_self, valV_pos (congrArg Sum.inr h), ?_, h⟩
      unfold lookS
      rw [List.map_cons, List.find?_cons, show decide ((dr e).1 = f) = true from decide_eq_true h]
      rfl
    · have e1 : valV ((e :: r).map ent) (Sum.inr f : Key) = valV (r.map ent) (Sum.inr f : Key) := valV_neg fun q => h (Sum.inr.inj q)
      have e2 : lookS ((e :: r).map dr) f = lookS (r.map dr) f := by
        unfold lookS
        rw [List.map_cons, List.find?_cons, show decide ((dr e).1 = f) = false from decide_eq_false h]
      rw [e1, e2]
      rcases look_ent r f with q | ⟨e', h1, h2⟩
      · exact .inl q
      · exact .inr ⟨e', List.mem_cons_of_mem _ h1, h2⟩
def putE (es : List En) (f : Str) (p : Addr) (s : OI × OI) : List En := if (es.any fun e => decide (e.1 = f)) = true then es.map (fun e => if e.1 = f then (e.1, p, s) else e) else es ++ [(f, p, s)]
theorem any_ent (es : List En) (f : Str) : ((es.map ent).any fun kv => decide (kv.1 = (Sum.inr f : Key))) = es.any fun e => decide (e.1 = f) := by
  rw [List.any_map]
  congr 1
  funext e
  show decide ((Sum.inr e.1 : Key) = Sum.inr f) = decide (e.1 = f)
  exact decide_eq_decide.mpr ⟨Sum.inr.inj, congrArg _⟩
theorem any_dr (es : List En) (f : Str) : ((es.map dr).any fun e => decide (e.1 = f)) = es.any fun e => decide (e.1 = f) := by
  rw [List.any_map]
  rfl
theorem putE_ent (es : List En) (f : Str) (p : Addr) (s : OI × OI) : putK (es.map ent) (Sum.inr f : Key) (.ref p) = (putE es f p s).map ent := by
  unfold putK putE
  rw [any_ent]
  by_cases h : (es.any fun e => decide (e.1 = f)) = true
  · rw [if_pos h, if_pos h, List.map_map, List.map_map]
    congr 1
    funext e
    show (if (Sum.inr e.1 : Key) = Sum.inr f then ((Sum.inr e.1 : Key), V.ref p) else ent e) = ent (if e.1 = f then (e.1, p, s) else e)
    by_cases q : e.1 = f
    · rw [if_pos q, if_pos (congrArg _ q)]
      rfl
    · rw [if_neg q, if_neg fun z => q (Sum.inr.inj z)]
  · rw [if_neg h, if_neg h, List.map_append]
    rfl
theorem putE_dr (es : List En) (f : Str) (p : Addr) (s : OI × OI) : (putE es f p s).map dr = putS (es.map dr) f s := by
  unfold putS putE
  rw [any_dr]
  by_cases h : (es.any fun e => decide (e.1 = f)) = true
  · rw [if_pos h, if_pos h, List.map_map, List.map_map]
    congr 1
    funext e
    show dr (if e.1 = f then (e.1, p, s) else e) = (if e.1 = f then (e.1, s) else dr e)
    by_cases q : e.1 = f
    · rw [if_pos q, if_pos q]
      rfl
    · rw [if_neg q, if_neg q]
  · rw [if_neg h, if_neg h, List.map_append]
    rfl
theorem putE_len (es : List En) (f : Str) (p : Addr) (s : OI × OI) : (putE es f p s).length ≤ es.length + 1 := by
  unfold putE
  split
  · rw [List.length_map]; omega
  · rw [List.length_append]; exact Nat.le_refl _
theorem putE_mem {es : List En} {f : Str} {p : Addr} {s : OI × OI} {e : En} (h : e ∈ putE es f p s) : e ∈ es ∨ (e.1 = f ∧ e.2.1 = p ∧ e.2.2 = s) := by
  unfold putE at h
  split at h
  · obtain ⟨e', h1, rfl⟩ := List.mem_map.mp h
    by_cases q : e'.1 = f
    · rw [if_pos q]
      exact .inr ⟨q, rfl, rfl⟩
    · rw [if_neg q]
      exact .inl h1
  · rcases List.mem_append.mp h with h | h
    · exact .inl h
    · cases List.mem_singleton.mp h
      exact .inr ⟨rfl, rfl, rfl⟩
theorem putE_nd {es : List En} {f : Str} {p : Addr} {s : OI × OI} (h : (es.map (·.1)).Nodup) : ((putE es f p s).map (·.1)).Nodup := by
  unfold putE
  split
  · have e : (es.map fun e => if e.1 = f then (e.1, p, s) else e).map (·.1) = es.map (·.1) := by
      rw [List.map_map]
      congr 1
      funext e
      show (if e.1 = f then ((e.1, p, s) : En) else e).1 = e.1
      split <;> rfl
    rw [e]
    exact h
  · rename_i q
    rw [List.map_append, List.nodup_append]
    refine ⟨h, by simp, fun a ha b hb => ?_⟩
    cases List.mem_singleton.mp hb
    rintro rfl
    obtain ⟨e, he, h2⟩ := List.mem_map.mp ha
    exact q (List.any_eq_true.mpr ⟨e, he, decide_eq_true h2⟩)
theorem DBg.put {g : RowG} {H H' : Hp} {d p : Addr} {es : List En} {f : Str} {s : OI × OI} (D : DBg g H d es) (k : Same H H') (hp : H' p = some (.tup (g s))) (hf : PyData.strOk f = true) :
    DBg g (upd H' d (.dK (putK (es.map ent) (Sum.inr f : Key) (.ref p)))) d (putE es f p s) := by
  have D' := D.same k
  have npd : p ≠ d := ne_of hp D'.at_ (by intro z; cases z)
  refine ⟨by rw [upd_same, putE_ent es f p s], fun e he => ?_, fun e he => ?_, putE_nd D.nd⟩
  · rcases putE_mem he with h | ⟨h1, h2, h3⟩
    · have t := D'.tups e h
      rw [upd_ne (ne_of t D'.at_ (by intro z; cases z))]
      exact t
    · rw [h2, upd_ne npd, h3]
      exact hp
  · rcases putE_mem he with h | ⟨h1, h2, h3⟩
    · exact D.oks e h
    · rw [h1]; exact hf
/-! ### numbers within the law's stand-ins -/
def okS (s : OI × OI) : Prop := (∀ a, s.1 = some a → -1001 ≤ a ∧ a ≤ 1001) ∧ ∀ a, s.2 = some a → -1001 ≤ a ∧ a ≤ 1001
theorem okS_span {c : Wd} {n : Int} (h : -1000 ≤ n ∧ n ≤ 1000) : okS (spanOf c n) := by
  cases c <;> (refine ⟨fun a e => ?_, fun a e => ?_⟩ <;> simp only [spanOf, Option.some.injEq, reduceCtorEq] at e <;> omega)
theorem okS_narrow {s t : OI × OI} (h1 : okS s) (h2 : okS t) : okS (narrow s t) := by
  obtain ⟨s1, s2⟩ := s
  obtain ⟨t1, t2⟩ := t
  refine ⟨fun a e => ?_, fun a e => ?_⟩
  · cases s1 with
    | none => exact h2.1 a e
    | some x =>
      cases t1 with
      | none => exact h1.1 a e
      | some y =>
        have hx := h1.1 x rfl
        have hy := h2.1 y rfl
        have e := Option.some.inj e
        omega
  · cases s2 with
    | none => exact h2.2 a e
    | some x =>
      cases t2 with
      | none => exact h1.2 a e
      | some y =>
        have hx := h1.2 x rfl
        have hy := h2.2 y rfl
        have e := Option.some.inj e
        omega
def pick5 (c : Wd) (a1 a2 a3 a4 a5 : V) : V := match c with
  | .eq => a1
  | .lt => a2
  | .gt => a3
  | .le => a4
  | .ge => a5
  | _ => .non
theorem val5 (c : Wd) (h : c.isCmp = true) (a1 a2 a3 a4 a5 : V) : valV (mergeK [] [((Sum.inr Wd.eq.s : Key), a1), (Sum.inr Wd.lt.s, a2), (Sum.inr Wd.gt.s, a3), (Sum.inr Wd.le.s, a4), (Sum.inr Wd.ge.s, a5)]) (Sum.inr c.s : Key) = some (pick5 c a1 a2 a3 a4 a5) := by
  cases c <;> first | (cases h; done) | (with_unfolding_all rfl)
/-! ### the first two of a term -/
def isF (t : Str) : Tm → Bool
  | .fld t' _ => decide (t' = t)
  | _ => false
theorem sh2 {a b : PyData} (h1 : a.canLay0 = true) (h2 : b.canLay0 = true) (d1 : a.depth ≤ 8) (d2 : b.depth ≤ 8) : SeqAt.shaped (.tuple [a, b]) = true := by
  unfold SeqAt.shaped
  rw [Bool.and_eq_true]
  refine ⟨by simp [PyData.canLay0, PyData.canLayAll0, h1, h2], decide_eq_true ?_⟩
  simp only [PyData.depth, PyData.depthAll]
  omega
theorem shS {s : Str} (h : PyData.strOk s = true) : (PyData.str s).canLay0 = true := by simp [PyData.canLay0, h]
theorem dS (s : Str) : (PyData.str s).depth ≤ 8 := by simp [PyData.depth]
def rSlX : V → Option Int → Option Int → Hp → VK → Prop := rSlF
theorem sl_tupX {X : Cx} : SlR X rSlX := sl_tupF
theorem sl_eqF {K : PySem.W.Frag} {H : Hp} {v : V} {x : Tm} {t : Str} {Q : VK} (R : RT H v x) (ok : x.ok = true) (dp : x.deep ≤ 8) (ht : PyData.strOk t = true) (k : ∀ H', Same H H' → Q (.bl (isF t x)) H') :
    rSlX v none (some 2) H fun y H1 => ∀ q, H1 q = none → rEqD K y (.ref q) (upd H1 q (.tup [.str Wd.field.s, .str t])) Q := by
  have two : HT.sIx 2 2 (some 2) = 2 := HT.sIx_nat 2 2 2
  have thr : HT.sIx 3 3 (some 2) = 2 := HT.sIx_nat 3 3 2
  have shq : SeqAt.shaped (.tuple [.str Wd.field.s, .str t]) = true := sh2 (shS (Wd.strOk _)) (shS ht) (dS _) (dS _)
  have nofield : ∀ (c : Wd) (X : PyData), c ≠ .field → PyData.eqv (.tuple [.str c.s, X]) (.tuple [.str Wd.field.s, .str t]) = false := fun c X hc => by
    simp only [PyData.eqv, PyData.eqvAll, Wd.beq_s, decide_eq_false hc, Bool.false_and]
  cases x with
  | num n =>
    obtain ⟨a, rfl, h⟩ := R
    refine ⟨a, [.str Wd.num.s, .int n], rfl, by rw [h]; rfl, fun _ q hq => ?_, fun nw => absurd (show HT.sIx 2 0 none = 0 ∧ HT.sIx 2 2 (some 2) = 2 from ⟨HT.sIx_none _ _, two⟩) nw⟩
    refine ⟨.tuple [.str Wd.num.s, .int n], .tuple [.str Wd.field.s, .str t], .tup (.inl (.inl (same_new hq _ _ h))) (.cons (.str _) (.cons (.int _) .nil)), .tup (.inl (.inl upd_same)) (.cons (.str _) (.cons (.str _) .nil)),
      sh2 (shS (Wd.strOk _)) (by simp [PyData.canLay0]) (dS _) (by simp [PyData.depth]), shq, ?_⟩
    rw [nofield _ _ (by decide)]
    exact k _ (same_new hq)
  | fld t' f =>
    simp only [Tm.ok, Bool.and_eq_true] at ok
    obtain ⟨a, rfl, h⟩ := R
    refine ⟨a, _, rfl, by rw [h]; rfl, fun hw => absurd hw.2 (by show ¬ HT.sIx 3 3 (some 2) = 3; rw [thr]; decide), fun _ p o hp _ _ q hq => ?_⟩
    have ec : cutV [V.str Wd.field.s, V.str t', V.str f] none (some 2) = [V.str Wd.field.s, V.str t'] := by
      unfold cutV
      rw [HT.sIx_none]
      show List.take (HT.sIx 3 3 (some 2) - 0) [V.str Wd.field.s, V.str t', V.str f] = _
      rw [thr]
      rfl
    refine ⟨.tuple [.str Wd.field.s, .str t'], .tuple [.str Wd.field.s, .str t], .tup (.inl (.inr ⟨o, same_new hq _ _ (by rw [upd_same, ec])⟩)) (.cons (.str _) (.cons (.str _) .nil)), .tup (.inl (.inl upd_same)) (.cons (.str _) (.cons (.str _) .nil)),
      sh2 (shS (Wd.strOk _)) (shS ok.1) (dS _) (dS _), shq, ?_⟩
    have e : PyData.eqv (.tuple [.str Wd.field.s, .str t']) (.tuple [.str Wd.field.s, .str t]) = decide (t' = t) := by
      simp only [PyData.eqv, PyData.eqvAll, Bool.and_true, beq_self_eq_true, Bool.true_and]
      by_cases z : t' = t
      · rw [z, decide_eq_true rfl]; exact beq_self_eq_true _
      · rw [decide_eq_false z]; exact beq_false_of_ne z
    rw [e]
    exact k _ ((same_new hp).trans (same_new hq))
  | op c x y =>
    have okk := ok
    simp only [Tm.ok, Bool.and_eq_true] at ok
    obtain ⟨a, u, w, rfl, h, hx, hy⟩ := R
    refine ⟨a, _, rfl, by rw [h]; rfl, fun hw => absurd hw.2 (by show ¬ HT.sIx 3 3 (some 2) = 3; rw [thr]; decide), fun _ p o hp _ _ q hq => ?_⟩
    have ec : cutV [V.str c.s, u, w] none (some 2) = [V.str c.s, u] := by
      unfold cutV
      rw [HT.sIx_none]
      show List.take (HT.sIx 3 3 (some 2) - 0) [V.str c.s, u, w] = _
      rw [thr]
      rfl
    have dx := Tm.depth x
    have dd : x.deep ≤ 8 := by simp only [Tm.deep] at dp; omega
    refine ⟨.tuple [.str c.s, x.enc], .tuple [.str Wd.field.s, .str t], .tup (.inl (.inr ⟨o, same_new hq _ _ (by rw [upd_same, ec])⟩)) (.cons (.str _) (.cons ((hx.tups (TupS.ofSame ((same_new hp).trans (same_new hq)))).dp) .nil)), .tup (.inl (.inl upd_same)) (.cons (.str _) (.cons (.str _) .nil)),
      sh2 (shS (Wd.strOk _)) (Tm.lay x ok.1.2) (dS _) (by omega), shq, ?_⟩
    rw [nofield _ _ (by rintro rfl; exact absurd ok.1.1 (by decide))]
    exact k _ ((same_new hp).trans (same_new hq))
theorem foldC_append (t : Str) : ∀ (es : List Sp3) (a b : List Cd), foldC t es (a ++ b) = match foldC t es a with
    | none => none
    | some e => foldC t e b
  | es, [], b => rfl
  | es, c :: r, b => by
    show (match stepC t es c with | none => none | some es' => foldC t es' (r ++ b)) = match (match stepC t es c with | none => none | some es' => foldC t es' r) with | none => none | some e => foldC t e b
    cases stepC t es c with
    | none => rfl
    | some e => exact foldC_append t e r b
theorem foldC_one {t : Str} {es : List Sp3} {c : Cd} : foldC t es [c] = stepC t es c := by
  show (match stepC t es c with | none => none | some es' => foldC t es' []) = stepC t es c
  cases stepC t es c <;> rfl
theorem foldC_take {t : Str} {l : List Cd} {i : Nat} {c : Cd} {es : List Sp3} (h : l[i]? = some c) (f : foldC t [] (l.take i) = some es) : foldC t [] (l.take (i + 1)) = stepC t es c := by
  rw [List.take_add_one, h, foldC_append, f]
  exact foldC_one
theorem foldC_none {t : Str} {l : List Cd} {i : Nat} (f : foldC t [] (l.take i) = none) : foldC t [] l = none := by
  have e := foldC_append t [] (l.take i) (l.drop i)
  rw [List.take_append_drop, f] at e
  exact e
theorem boundsM_none {t : Str} {co : Option Cd} {i : Nat} (f : foldC t [] ((partsO co).take i) = none) : boundsM t co = none := by
  unfold boundsM
  rw [foldC_none f]
theorem boundsM_some {t : Str} {co : Option Cd} {es : List En} (f : foldC t [] (partsO co) = some (es.map dr)) : boundsM t co = if (es.any fun e => emptyS e.2.2) = true then none else some (es.map dr) := by
  unfold boundsM
  rw [f]
  show (if ((es.map dr).any fun e => emptyS e.2) = true then none else some (es.map dr)) = _
  rw [List.any_map]
  rfl
theorem head_num {x : Tm} (ok : x.ok = true) (h : x.head = .num) : ∃ n, x = .num n := by
  cases x with
  | num n => exact ⟨n, rfl⟩
  | fld a b => cases h
  | op o a b =>
    simp only [Tm.ok, Bool.and_eq_true] at ok
    obtain rfl : o = .num := h
    cases ok.1.1
theorem isF_fld {t : Str} {x : Tm} (h : isF t x = true) : ∃ f, x = .fld t f := by
  cases x with
  | fld a b => exact ⟨b, by rw [of_decide_eq_true h]⟩
  | _ => cases h
theorem step2_no1 {t : Str} {es : List Sp3} {c : Wd} {x y : Tm} (h : isF t x = false) : step2 t es c x y = es := by
  cases x with
  | fld a b =>
    cases y with
    | num n => exact if_neg (of_decide_eq_false h)
    | _ => rfl
  | _ => rfl
theorem step2_no2 {t : Str} {es : List Sp3} {c : Wd} {x y : Tm} (h : ¬ y.head = .num) : step2 t es c x y = es := by
  cases y with
  | num n => exact absurd rfl h
  | _ => cases x <;> rfl
theorem step2_yes {t f : Str} {es : List Sp3} {c : Wd} {n : Int} : step2 t es c (.fld t f) (.num n) = putS es f (narrow (lookS es f) (spanOf c n)) := if_pos rfl
theorem nd_ent {es : List En} (h : (es.map (·.1)).Nodup) : ((es.map ent).map (·.1)).Nodup := by
  have e : (es.map ent).map (·.1) = (es.map (·.1)).map (Sum.inr : Str → Key) := by
    rw [List.map_map, List.map_map]
    rfl
  rw [e]
  generalize es.map (·.1) = l at h
  induction l with
  | nil => exact List.nodup_nil
  | cons a r ih =>
    rw [List.nodup_cons] at h
    rw [List.map_cons, List.nodup_cons]
    refine ⟨fun m => ?_, ih h.2⟩
    obtain ⟨b, hb, q⟩ := List.mem_map.mp m
    exact h.1 (Sum.inr.inj q ▸ hb)
theorem val_ent {es : List En} (h : (es.map (·.1)).Nodup) {e : En} (he : e ∈ es) : valV (es.map ent) (Sum.inr e.1 : Key) = some (.ref e.2.1) :=
  val_nodup (nd_ent h) (ent e) (List.mem_map.mpr ⟨e, he, rfl⟩)
theorem strs_neNil {K : PySem.W.Frag} {H : Hp} {a q : Addr} {ss : List Str} {Q : VK} (h : H a = some (.lst (ss.map V.str))) (ho : ∀ s ∈ ss, PyData.strOk s = true) (hq : H q = some (.lst [])) (k : Q (.bl (!ss.isEmpty)) H) : rNeD K (.ref a) (.ref q) H Q := by
  refine ⟨.list (ss.map PyData.str), .list [], .lst (.inl (.inl h)) (dpAll_strs K H ss), .lst (.inl (.inl hq)) .nil, shaped_strs ss ho, rfl, ?_⟩
  cases ss with
  | nil => exact k
  | cons n r => exact k
theorem filter_map_empty {es : List En} {p : En → Bool} {α : Type} {f : En → α} : ((es.filter p).map f).isEmpty = !es.any p := by
  induction es with
  | nil => rfl
  | cons a r ih =>
    rw [List.filter_cons, List.any_cons]
    cases h : p a with
    | true => rfl
    | false => rw [if_neg (by simp), Bool.false_or]; exact ih
theorem cpow9 : CPow 10 9 = True := eq_true ⟨by decide, by decide, by decide⟩
theorem foldC_filter (t : Str) : ∀ (l : List Cd) (es : List Sp3), foldC t es (l.filter Cd.isCmpC) = foldC t es l
  | [], _ => rfl
  | .cmp c x y :: r, es => by
    show foldC t es (.cmp c x y :: r.filter Cd.isCmpC) = _
    show (match stepC t es (.cmp c x y) with | none => none | some es' => foldC t es' (r.filter Cd.isCmpC)) = (match stepC t es (.cmp c x y) with | none => none | some es' => foldC t es' r)
    cases stepC t es (.cmp c x y) with
    | none => rfl
    | some e => exact foldC_filter t r e
  | .neg c :: r, es => foldC_filter t r es
  | .con o a b :: r, es => foldC_filter t r es
theorem putS_new {es : List Sp3} {f : Str} {s : OI × OI} (h : f ∉ es.map (·.1)) : putS es f s = es ++ [(f, s)] := by
  unfold putS
  rw [if_neg]
  intro q
  obtain ⟨e, he, h2⟩ := List.any_eq_true.mp q
  exact h (List.mem_map.mpr ⟨e, he, of_decide_eq_true h2⟩)
def turnL : List (Key × V) := mergeK [] [((Sum.inr Wd.eq.s : Key), V.str Wd.eq.s), (Sum.inr Wd.lt.s, .str Wd.gt.s), (Sum.inr Wd.gt.s, .str Wd.lt.s), (Sum.inr Wd.le.s, .str Wd.ge.s), (Sum.inr Wd.ge.s, .str Wd.le.s)]
theorem valV_turn {c : Wd} (h : c.isCmp = true) : valV turnL (Sum.inr c.s : Key) = some (.str c.turn.s) := by
  unfold turnL
  rw [val5 c h]
  cases c <;> first | (cases h; done) | rfl
theorem lowMax {lo : OI} {m : Int} (h : ∀ a, lo = some a → -1001 ≤ a ∧ a ≤ 1001) (h1 : -1001 ≤ m) : (if m > loI lo then m else loI lo) = loI (maxO lo (some m)) := by
  cases lo with
  | none => exact if_pos (by show (-1000000000 : Int) < m; omega)
  | some a =>
    show (if m > a then m else a) = max a m
    by_cases q : m > a
    · rw [if_pos q]; omega
    · rw [if_neg q]; omega
theorem lowNo {lo : OI} : loI lo = loI (maxO lo none) := by cases lo <;> rfl
theorem hiMin {lo : OI} {m : Int} (h : ∀ a, lo = some a → -1001 ≤ a ∧ a ≤ 1001) (h1 : m ≤ 1001) : (if m < hiI lo then m else hiI lo) = hiI (minO lo (some m)) := by
  cases lo with
  | none => exact if_pos (by show m < (1000000000 : Int); omega)
  | some a =>
    show (if m < a then m else a) = min a m
    by_cases q : m < a
    · rw [if_pos q]; omega
    · rw [if_neg q]; omega
theorem hiNo {lo : OI} : hiI lo = hiI (minO lo none) := by cases lo <;> rfl
theorem emI {s : OI × OI} (h : okS s) : decide (hiI s.2 < loI s.1) = emptyS s := by
  obtain ⟨s1, s2⟩ := s
  cases s1 with
  | none =>
    cases s2 with
    | none => exact decide_eq_false (by show ¬ (1000000000 : Int) < -1000000000; decide)
    | some b =>
      have q := h.2 b rfl
      exact decide_eq_false (by show ¬ b < -1000000000; omega)
  | some a =>
    cases s2 with
    | none =>
      have q := h.1 a rfl
      exact decide_eq_false (by show ¬ (1000000000 : Int) < a; omega)
    | some b => rfl
end G7

set_option linter.all false
set_option Elab.async false
set_option maxRecDepth 100000
set_option maxHeartbeats 4000000
/-! instances' fields; dicts whose keys are tuples; tuples of ints compared -/
namespace G7
open PySem PySem.Spec PyProof.Rows L2
/-- what may be read as a dict with tuple keys -/
def dtO : Option HO → Option (List (List Key × V))
  | some (.dT xs) => some xs
  | some (.frz _ (.dT xs)) => some xs
  | _ => none
theorem rd_dtO {H : Hp} {a : Addr} {xs : List (List Key × V)} (h : dtO (H a) = some xs) : Rd H a (.dT xs) := by
  unfold dtO at h
  split at h
  · rename_i e; cases h; exact .inl e
  · rename_i o _ e; cases h; exact .inr ⟨o, e⟩
  · cases h
theorem dtO_d {xs : List (List Key × V)} : dtO (some (.dT xs)) = some xs := rfl
theorem dtO_f {o : Obj} {xs : List (List Key × V)} : dtO (some (.frz o (.dT xs))) = some xs := rfl
/-- the words of a tuple that is a key -/
def kysO : List V → Option (List Key)
  | [] => some []
  | x :: r => match keyO x with
    | some k => (kysO r).map (k :: ·)
    | none => none
theorem kysO_eq : ∀ {xs : List V} {ks : List Key}, kysO xs = some ks → xs = ks.map kV
  | [], ks, h => by cases h; rfl
  | x :: r, ks, h => by
    unfold kysO at h
    cases e : keyO x with
    | none => rw [e] at h; cases h
    | some k =>
      rw [e] at h
      cases e2 : kysO r with
      | none => rw [e2] at h; cases h
      | some l =>
        rw [e2] at h
        cases h
        rw [List.map_cons, ← kysO_eq e2, ← keyO_eq e]
theorem kysO_n : kysO [] = some [] := rfl
theorem kysO_i {i : Int} {r : List V} : kysO (.int i :: r) = (kysO r).map (Sum.inl i :: ·) := rfl
theorem kysO_s {i : Str} {r : List V} : kysO (.str i :: r) = (kysO r).map (Sum.inr i :: ·) := rfl
/-- the ints of a tuple -/
def intsV : List V → Option (List Int)
  | [] => some []
  | .int i :: r => (intsV r).map (i :: ·)
  | _ :: _ => none
theorem intsV_eq : ∀ {xs : List V} {ns : List Int}, intsV xs = some ns → xs = ns.map V.int
  | [], ns, h => by cases h; rfl
  | x :: r, ns, h => by
    cases x with
    | int i =>
      have h : (intsV r).map (i :: ·) = some ns := h
      cases e2 : intsV r with
      | none => rw [e2] at h; cases h
      | some l =>
        rw [e2] at h
        cases h
        rw [List.map_cons, ← intsV_eq e2]
    | _ => cases h
theorem intsV_n : intsV [] = some [] := rfl
theorem intsV_i {i : Int} {r : List V} : intsV (.int i :: r) = (intsV r).map (i :: ·) := rfl
section
variable {X : Cx}
theorem pe_fldK (K : PySem.W.Frag) (hK : X.K = K) {e : Expr} {f : Str} {pos : Pos} {ta : TE} (he : PE X e ta) (hb : attributeBase e f X.env (eval e X.env) = eval e X.env) : PE X (.Attribute e f pos) (tFld K ta f) := hK ▸ pe_fld he hb
/-- t < u, tuples of ints -/
def rLtH : R2 := fun x y H Q => ∃ a b xs ys ns ms, x = .ref a ∧ y = .ref b ∧ tpO (H a) = some xs ∧ tpO (H b) = some ys ∧ intsV xs = some ns ∧ intsV ys = some ms ∧ Q (.bl (HT.lexLt ns ms)) H
theorem op_ltTH (hu : X.A.units < cLine) : OpR X (compareOp .Lt) rLtH := opImp (op_ltT hu) fun x y H Q ⟨a, b, xs, ys, ns, ms, e1, e2, h1, h2, i1, i2, q⟩ =>
  ⟨a, b, ns, ms, e1, e2, .inl (by rw [← intsV_eq i1]; exact rd_tpO h1), .inl (by rw [← intsV_eq i2]; exact rd_tpO h2), q⟩
/-! dicts with tuple keys -/
theorem dgetT_of {H : Hp} {a b : Addr} {kvs : List (List Key × V)} {xs : List V} {ks : List Key} (h : dtO (H a) = some kvs) (hb : H b = some (.tup xs)) (hk : kysO xs = some ks) : DGet H a (.ref b) (valV kvs ks) :=
  .inr ⟨kvs, ks, b, rd_dtO h, rfl, by rw [← kysO_eq hk]; exact hb, rfl⟩
def tGetT (td ty : TE) : TE := fun σ H Q => td σ H fun x H1 => ty σ H1 fun y H2 => ∃ a kvs b xs ks v, x = .ref a ∧ dtO (H2 a) = some kvs ∧ y = .ref b ∧ H2 b = some (.tup xs) ∧ kysO xs = some ks ∧ valV kvs ks = some v ∧ Q v H2
def tInT (ty td : TE) : TE := fun σ H Q => ty σ H fun y H1 => td σ H1 fun x H2 => ∃ a kvs b xs ks, x = .ref a ∧ dtO (H2 a) = some kvs ∧ y = .ref b ∧ H2 b = some (.tup xs) ∧ kysO xs = some ks ∧ Q (.bl (valV kvs ks).isSome) H2
def tNinT (ty td : TE) : TE := fun σ H Q => ty σ H fun y H1 => td σ H1 fun x H2 => ∃ a kvs b xs ks, x = .ref a ∧ dtO (H2 a) = some kvs ∧ y = .ref b ∧ H2 b = some (.tup xs) ∧ kysO xs = some ks ∧ Q (.bl (!(valV kvs ks).isSome)) H2
def sPutT (td ty tv : TE) : TS := fun D σ H => tv σ H fun v H1 => td σ H1 fun x H2 => ty σ H2 fun y H3 => ∃ a kvs b xs ks, x = .ref a ∧ H3 a = some (.dT kvs) ∧ y = .ref b ∧ H3 b = some (.tup xs) ∧ kysO xs = some ks ∧ kvs.length < sizeLine ∧ D.nx σ (upd H3 a (.dT (putK kvs ks v)))
def sAugT (f : Int → Int → Int) (td ty tv : TE) : TS := fun D σ H => td σ H fun x H1 => ty σ H1 fun y H2 => ∃ a kvs b xs ks i, x = .ref a ∧ dtO (H2 a) = some kvs ∧ y = .ref b ∧ H2 b = some (.tup xs) ∧ kysO xs = some ks ∧ valV kvs ks = some (.int i) ∧
  tv σ H2 fun z H3 => ∃ j kvs2, z = .int j ∧ H3 a = some (.dT kvs2) ∧ H3 b = some (.tup xs) ∧ kvs2.length < sizeLine ∧ D.nx σ (upd H3 a (.dT (putK kvs2 ks (.int (f i j)))))
def tPopT (td ty : TE) : TE := fun σ H Q => td σ H fun x H1 => ∃ a kvs, x = .ref a ∧ H1 a = some (.dT kvs) ∧ ty σ H1 fun y H2 => ∃ kvs2 b xs ks v, y = .ref b ∧ H2 a = some (.dT kvs2) ∧ H2 b = some (.tup xs) ∧ kysO xs = some ks ∧ valV kvs2 ks = some v ∧ Q v (upd H2 a (.dT (dropK kvs2 ks)))
variable {o e value : Expr} {td ty tv : TE} {pos pos' : Pos}
theorem pe_getT (hu : X.A.units + 1 < cLine) (ho : PE X o td) (hi : PE X e ty) (hs : NoSl e) : PE X (.Subscript o e pos) (tGetT td ty) :=
  PE.imp' (pe_dget hu (pe_m ho) (pe_m hi) hs) fun σ H Q h => tM_of h fun x H1 q => tM_of q fun y H2 q => by
    obtain ⟨a, kvs, b, xs, ks, v, e1, h1, e2, h2, h3, h4, k⟩ := q
    subst e1 e2
    exact ⟨a, v, rfl, by rw [← h4]; exact dgetT_of h1 h2 h3, k⟩
theorem pc_inT (hu : X.A.units + 1 < cLine) (hi : PE X e ty) (ho : PE X o td) : PC X .In e o (tInT ty td) := by
  have h0 := pc_din hu (pe_m hi) (pe_m ho)
  exact ⟨fun pins s σ H Q I h => h0.run pins s σ H Q I (tM_of h fun y H1 q => tM_of q fun x H2 q => by
    obtain ⟨a, kvs, b, xs, ks, e1, h1, e2, h2, h3, k⟩ := q
    subst e1 e2
    exact ⟨a, _, rfl, dgetT_of h1 h2 h3, k⟩)⟩
theorem pc_ninT (hu : X.A.units + 1 < cLine) (hi : PE X e ty) (ho : PE X o td) : PC X .NotIn e o (tNinT ty td) := by
  have h0 := pc_dnotin hu (pe_m hi) (pe_m ho)
  exact ⟨fun pins s σ H Q I h => h0.run pins s σ H Q I (tM_of h fun y H1 q => tM_of q fun x H2 q => by
    obtain ⟨a, kvs, b, xs, ks, e1, h1, e2, h2, h3, k⟩ := q
    subst e1 e2
    exact ⟨a, _, rfl, dgetT_of h1 h2 h3, k⟩)⟩
theorem ps_putT (hu : X.A.units + 1 < cLine) (ho : PE X o td) (hi : PE X e ty) (hv : PE X value tv) (hs : swapsWith value (some (.Subscript o e pos')) pos.line X.env = pure false) : PS X (.Assign [.Subscript o e pos'] value pos) (sPutT td ty tv) :=
  PS.imp' (ps_dput hu (pe_m ho) (pe_m hi) (pe_m hv) hs) fun D σ H h => by
    refine tM_of h fun v H1 q => tM_of q fun x H2 q => tM_of q fun y H3 q => ?_
    obtain ⟨a, kvs, b, xs, ks, e1, h1, e2, h2, h3, h4, k⟩ := q
    subst e1 e2
    exact ⟨a, _, rfl, DPut.t h1 (by rw [← kysO_eq h3]; exact h2) h4, k⟩
theorem ps_augT {op : Operator} {f : Int → Int → Int} {rd : V → V → Hp → VK → Prop} (hu : X.A.units + 1 < cLine) (ho : PE X o td) (hi : PE X e ty) (hv : PE X value tv) (hop : InOp X op rd) (hf : ∀ i j H Q, Q (V.int (f i j)) H → rd (.int i) (.int j) H Q)
    (hs : ∀ (ov iv new : Value), augStore e ov iv new = (do
      holding [new, ov, iv] (setItem ov iv new)
      release [new, ov, iv] []
      pure Flow.next)) :
    PS X (.AugAssign (.Subscript o e pos') op value pos) (sAugT f td ty tv) :=
  PS.imp' (ps_daug hu (pe_m ho) (pe_m hi) (pe_m hv) hop hs) fun D σ H h => by
    refine tM_of h fun x H1 q => tM_of q fun y H2 q => ?_
    obtain ⟨a, kvs, b, xs, ks, i, e1, h1, e2, h2, h3, h4, k⟩ := q
    subst e1 e2
    refine ⟨a, .int i, rfl, by rw [← h4]; exact dgetT_of h1 h2 h3, tM_of k fun z H3 q => ?_⟩
    obtain ⟨j, kvs2, rfl, g1, g2, g3, k⟩ := q
    exact hf i j H3 _ ⟨_, DPut.t g1 (by rw [← kysO_eq h3]; exact g2) g3, k⟩
theorem d_popT {pins : List (Addr × Obj)} {σ : L2.St} {H : Hp} {s : Shared} {a b : Addr} {kvs : List (List Key × V)} {k : List Key} {v : V} {A : Around} {E : Value → Shared → Prop} {Q : Value → Shared → Prop} (hu : A.units + 1 < cLine) (I : Inv X pins σ H s) (ha : H a = some (.dT kvs)) (hb : H b = some (.tup (k.map kV))) (hv : valV kvs k = some v)
    (h : ∀ w' s', Inv X pins σ (upd H a (.dT (dropK kvs k))) s' → RelV v w' → Q w' s') : wpAny (model X.prog X.w) A (call (.builtin "dict.pop") [.ref a, .ref b]) Q E s := by
  obtain ⟨z, hd, xs', rel, dd⟩ := dt_of I.hok ha
  have hz : xs'.length ≤ sizeLine := by rw [← Paired.length rel]; exact z
  obtain ⟨p, hp, rv⟩ : ∃ p, atKey xs' k = some p ∧ RelV v p.2 := by
    have r := rel.val k
    rw [hv] at r
    cases e : atKey xs' k with
    | none => rw [e] at r; exact (show False from r).elim
    | some p => rw [e] at r; exact ⟨p, rfl, r⟩
  refine PySem.call_pop_heap (knd := tupleKind (mixKind X.prog X.w)) (k := k) (.inl rfl) (PySem.F.args_dict_pop_2 _ _) (tupleKind_room_in1 hu) (key_of I.hok hb) hd dd hp (fun h' dd' hs => ?_) hz
  obtain ⟨o, es, ep, hq, h2, h3, h4, _, h5⟩ := dd'
  exact h _ _ (d_write I (by rw [ha]; exact True.intro) hs ⟨o, hq⟩ ⟨Nat.le_trans (dropK_le kvs k) z, hd, _, (L2.DX.KT_drop k rel).keeps (fun c ys ec => (by rw [upd_ne (ne_of ec ha (fun z => nomatch z))]; exact ec)), o, es, ep, hq, h2, h3, h4, h5⟩) rv
theorem pe_popT {apos cpos : Pos} (hu : X.A.units + 1 < cLine) (ho : PE X o td) (he : PE X e ty) (m : M1 X o "pop" apos e cpos) : PE X (.Call (.Attribute o "pop" apos) [e] [] cpos) (tPopT td ty) := by
  refine ⟨fun pins s σ H Q I h => ?_⟩
  refine wpAny_Call_method m.base m.few m.line PySem.F.plainAttrs_dict PySem.F.slot_dict_pop PySem.F.type_dict_pop (thn (ho.run pins s σ H _ I h) fun u s1 ⟨x, H1, I1, rx, a, kvs, ex, d, q1⟩ => ?_)
  subst ex
  obtain rfl : u = Value.ref a := rx
  obtain ⟨t1, t2, _⟩ := isD_at I1 (.inr ⟨kvs, .inl d⟩)
  refine ⟨t1, t2, ?_⟩
  rw [m.trees]
  refine Calls.callWith_builtin rfl (Calls.evalArgs_plain (Calls.spliced_cons (thn (he.run pins s1 σ H1 _ I1 q1) fun iv s2 ⟨y, H2, I2, ry, kvs2, b, xs, ks, v, ey, ea, eb, ek, l, q2⟩ => Calls.spliced_nil ?_)))
  subst ey
  obtain rfl : iv = Value.ref b := ry
  exact d_popT hu I2 ea (by rw [← kysO_eq ek]; exact eb) l fun w' s3 I3 rw' => ⟨v, _, I3, rw', q2⟩
end
theorem valV_drop {κ : Type} [DecidableEq κ] (k j : κ) : ∀ kvs : List (κ × V), valV (dropK kvs k) j = if j = k then none else valV kvs j
  | [] => by simp [dropK, valV]
  | p :: r => by
    have ih := valV_drop k j r
    by_cases e : p.1 = k
    · rw [dropK_pos e, ih]
      by_cases e2 : j = k
      · rw [if_pos e2, if_pos e2]
      · rw [if_neg e2, if_neg e2, valV_neg (fun z => e2 (z.symm.trans e))]
    · rw [dropK_neg e]
      by_cases e3 : p.1 = j
      · rw [valV_pos e3, valV_pos e3, if_neg (fun z => e (e3.trans z))]
      · rw [valV_neg e3, valV_neg e3, ih]
theorem nodup_few {α : Type} [DecidableEq α] : ∀ (l D : List α), l.Nodup → (∀ x ∈ l, x ∈ D) → l.length ≤ D.length
  | [], _, _, _ => Nat.zero_le _
  | x :: l, D, hn, hs => by
    obtain ⟨h1, h2⟩ := List.nodup_cons.mp hn
    have hx : x ∈ D := hs x List.mem_cons_self
    have ih := nodup_few l (D.erase x) h2 fun y hy => (List.mem_erase_of_ne fun e => h1 (by rw [← e]; exact hy)).2 (hs y (List.mem_cons_of_mem _ hy))
    have e := List.length_erase_of_mem hx
    have hp : 0 < D.length := List.length_pos_of_mem hx
    rw [List.length_cons]
    omega
end G7

set_option linter.all false
set_option Elab.async false
set_option maxRecDepth 100000
set_option maxHeartbeats 4000000
/-! pairs of ints, rising: the plain law of an index -/
namespace G7
open PySem PySem.Spec PyProof.Rows L2
/-- k parts a list: those ahead are so, those from there on are not -/
structure Cut {α : Type} (l : List α) (p : α → Bool) (k : Nat) : Prop where
  le : k ≤ l.length
  lo : ∀ i x, i < k → l[i]? = some x → p x = true
  hi : ∀ i x, k ≤ i → l[i]? = some x → p x = false
theorem Cut.take {α : Type} {l : List α} {p : α → Bool} {k : Nat} (c : Cut l p k) {x : α} : x ∈ l.take k ↔ x ∈ l ∧ p x = true := by
  constructor
  · intro h
    obtain ⟨i, hi⟩ := List.mem_iff_getElem?.mp h
    rw [List.getElem?_take] at hi
    split at hi
    · rename_i hk
      exact ⟨List.mem_of_getElem? hi, c.lo i x hk hi⟩
    · cases hi
  · rintro ⟨h, hp⟩
    obtain ⟨i, hi⟩ := List.mem_iff_getElem?.mp h
    refine List.mem_iff_getElem?.mpr ⟨i, ?_⟩
    rw [List.getElem?_take, if_pos, hi]
    by_cases hk : i < k
    · exact hk
    · rw [c.hi i x (by omega) hi] at hp
      cases hp
theorem Cut.drop {α : Type} {l : List α} {p : α → Bool} {k : Nat} (c : Cut l p k) {x : α} : x ∈ l.drop k ↔ x ∈ l ∧ p x = false := by
  constructor
  · intro h
    obtain ⟨i, hi⟩ := List.mem_iff_getElem?.mp h
    rw [List.getElem?_drop] at hi
    exact ⟨List.mem_of_getElem? hi, c.hi _ x (by omega) hi⟩
  · rintro ⟨h, hp⟩
    obtain ⟨i, hi⟩ := List.mem_iff_getElem?.mp h
    by_cases hk : i < k
    · rw [c.lo i x hk hi] at hp
      cases hp
    · exact List.mem_iff_getElem?.mpr ⟨i - k, by rw [List.getElem?_drop, show k + (i - k) = i by omega]; exact hi⟩
theorem Cut.slice {α : Type} {l : List α} {p q : α → Bool} {a b : Nat} (c : Cut l p a) (d : Cut l q b) {x : α} : x ∈ (l.drop a).take (b - a) ↔ x ∈ l ∧ p x = false ∧ q x = true := by
  constructor
  · intro h
    obtain ⟨i, hi⟩ := List.mem_iff_getElem?.mp h
    rw [List.getElem?_take] at hi
    split at hi
    · rename_i hk
      rw [List.getElem?_drop] at hi
      exact ⟨List.mem_of_getElem? hi, c.hi _ x (by omega) hi, d.lo _ x (by omega) hi⟩
    · cases hi
  · rintro ⟨h, hp, hq⟩
    obtain ⟨i, hi⟩ := List.mem_iff_getElem?.mp h
    have h1 : a ≤ i := by
      by_cases hk : i < a
      · rw [c.lo i x hk hi] at hp
        cases hp
      · omega
    have h2 : i < b := by
      by_cases hk : i < b
      · exact hk
      · rw [d.hi i x (by omega) hi] at hq
        cases hq
    exact List.mem_iff_getElem?.mpr ⟨i - a, by rw [List.getElem?_take, if_pos (by omega), List.getElem?_drop, show a + (i - a) = i by omega]; exact hi⟩
/-! room -/
theorem hu65_of {A : Around} {k : Nat} (hr : Room k A) : A.in1.units + 64 < cLine := by have := hr.un; show A.units + 1 + 64 < cLine; omega
theorem hu00_of {A : Around} {k : Nat} (hr : Room k A) : A.units < cLine := by have := hr.un; omega
theorem seqIx {i : Int} {n : Nat} (h0 : 0 ≤ i) (h1 : i < (n : Int)) : seqIndex? i n = some i.toNat := by
  unfold seqIndex?
  simp only [show ¬ i < 0 by omega, if_false, h0, h1, decide_true, Bool.and_self, if_true]
/-! bounds -/
def geLo (w : Int) : OI → Bool
  | none => true
  | some l => decide (l ≤ w)
def leHi (w : Int) : OI → Bool
  | none => true
  | some h => decide (w ≤ h)
def btw (w : Int) (lo hi : OI) : Bool := geLo w lo && leHi w hi
/-! pairs -/
def lt2 (p q : Int × Int) : Prop := p.1 < q.1 ∨ p.1 = q.1 ∧ p.2 < q.2
instance (p q : Int × Int) : Decidable (lt2 p q) := by unfold lt2; infer_instance
theorem lt2_trans {p q r : Int × Int} (h : lt2 p q) (k : lt2 q r) : lt2 p r := by
  unfold lt2 at *
  omega
theorem lt2_irrefl {p : Int × Int} (h : lt2 p p) : False := by
  unfold lt2 at h
  omega
theorem lt2_tri (p q : Int × Int) : lt2 p q ∨ p = q ∨ lt2 q p := by
  obtain ⟨a, b⟩ := p
  obtain ⟨c, d⟩ := q
  unfold lt2
  simp only [Prod.mk.injEq]
  omega
theorem lex2 {a b c d : Int} : (HT.lexLt [a, b] [c, d] = true) ↔ lt2 (a, b) (c, d) := by
  rw [HT.lexLt_cons, HT.lexLt_cons, HT.lexLt_nil_nil]
  unfold lt2
  dsimp only
  split <;> rename_i h
  · split <;> rename_i h2
    · constructor
      · intro z; cases z
      · omega
    · rw [decide_eq_true_iff]
      omega
  · rw [decide_eq_true_iff]
    omega
theorem lex1 {a b c : Int} : (HT.lexLt [a, b] [c] = true) ↔ a < c := by
  rw [HT.lexLt_cons, HT.lexLt_cons_nil]
  split <;> rename_i h
  · constructor
    · intro z; cases z
    · omega
  · rw [decide_eq_true_iff]
/-- a pair as a tuple at an address -/
abbrev Pr := Addr × Int × Int
abbrev Ris2 (l : List Pr) : Prop := l.Pairwise fun p q => lt2 p.2 q.2
theorem Ris2.nd {l : List Pr} (r : Ris2 l) : (l.map (·.2)).Nodup := by
  unfold List.Nodup
  rw [List.pairwise_map]
  exact r.imp fun {p q} h e => by rw [e] at h; exact lt2_irrefl h
theorem ris_at {l : List Pr} (r : Ris2 l) {i j : Nat} {p q : Pr} (hi : l[i]? = some p) (hj : l[j]? = some q) (h : i < j) : lt2 p.2 q.2 := by
  obtain ⟨h1, e1⟩ := List.getElem?_eq_some_iff.mp hi
  obtain ⟨h2, e2⟩ := List.getElem?_eq_some_iff.mp hj
  have z := (List.pairwise_iff_getElem.mp r) i j h1 h2 h
  rw [e1, e2] at z
  exact z
/-- one laid in at its place -/
theorem ris_ins {l : List Pr} (r : Ris2 l) {q : Pr} {k : Nat} (c : Cut l (fun p => decide (lt2 p.2 q.2)) k) (hn : q.2 ∉ l.map (·.2)) : Ris2 (l.take k ++ [q] ++ l.drop k) := by
  unfold Ris2
  rw [List.pairwise_append, List.pairwise_append]
  refine ⟨⟨r.sublist (List.take_sublist _ _), by simp, fun a ha b hb => ?_⟩, r.sublist (List.drop_sublist _ _), fun a ha b hb => ?_⟩
  · obtain ⟨_, h⟩ := c.take.mp ha
    rw [List.mem_singleton.mp hb]
    exact of_decide_eq_true h
  · obtain ⟨hb1, h⟩ := c.drop.mp hb
    have hb2 : ¬ lt2 b.2 q.2 := of_decide_eq_false h
    have qb : lt2 q.2 b.2 := by
      rcases lt2_tri b.2 q.2 with z | z | z
      · exact absurd z hb2
      · exact absurd (List.mem_map.mpr ⟨b, hb1, z⟩) hn
      · exact z
    rcases List.mem_append.mp ha with h1 | h1
    · obtain ⟨_, z⟩ := c.take.mp h1
      exact lt2_trans (of_decide_eq_true z) qb
    · rw [List.mem_singleton.mp h1]
      exact qb
theorem mem_ins3 {α : Type} {l : List α} {k : Nat} {q x : α} : x ∈ l.take k ++ [q] ++ l.drop k ↔ x = q ∨ x ∈ l := by
  have e : x ∈ l ↔ x ∈ l.take k ∨ x ∈ l.drop k := by
    rw [← List.mem_append, List.take_append_drop]
  rw [List.mem_append, List.mem_append, List.mem_singleton, e]
  constructor
  · rintro ((h | h) | h)
    · exact .inr (.inl h)
    · exact .inl h
    · exact .inr (.inr h)
  · rintro (h | h | h)
    · exact .inl (.inr h)
    · exact .inl (.inl h)
    · exact .inr h
/-- one that is there stands at its place -/
theorem ris_place {l : List Pr} (r : Ris2 l) {q : Int × Int} {k : Nat} (c : Cut l (fun p => decide (lt2 p.2 q)) k) (hm : q ∈ l.map (·.2)) : ∃ p, l[k]? = some p ∧ p.2 = q := by
  obtain ⟨p, hp, rfl⟩ := List.mem_map.mp hm
  obtain ⟨j, hj⟩ := List.mem_iff_getElem?.mp hp
  have h1 : k ≤ j := by
    by_cases hk : j < k
    · have z := of_decide_eq_true (c.lo j p hk hj)
      exact (lt2_irrefl z).elim
    · omega
  by_cases h2 : k = j
  · exact ⟨p, by rw [h2]; exact hj, rfl⟩
  · have hl : k < l.length := by
      have := (List.getElem?_eq_some_iff.mp hj).1
      omega
    have hk : l[k]? = some l[k] := List.getElem?_eq_getElem hl
    have z := of_decide_eq_false (c.hi k _ (Nat.le_refl _) hk)
    exact absurd (ris_at r hk hj (by omega)) z
theorem mem_erase2 {l : List Pr} (r : Ris2 l) {k : Nat} {p : Pr} (hk : l[k]? = some p) {x : Int × Int} : x ∈ (l.eraseIdx k).map (·.2) ↔ x ∈ l.map (·.2) ∧ x ≠ p.2 := by
  constructor
  · intro h
    obtain ⟨y, hy, rfl⟩ := List.mem_map.mp h
    obtain ⟨i, hi⟩ := List.mem_iff_getElem?.mp hy
    rw [List.getElem?_eraseIdx] at hi
    split at hi <;> rename_i hc
    · exact ⟨List.mem_map.mpr ⟨y, List.mem_of_getElem? hi, rfl⟩, fun e => by have z := ris_at r hi hk hc; rw [e] at z; exact lt2_irrefl z⟩
    · exact ⟨List.mem_map.mpr ⟨y, List.mem_of_getElem? hi, rfl⟩, fun e => by have z := ris_at r hk hi (by omega); rw [e] at z; exact lt2_irrefl z⟩
  · rintro ⟨h, hne⟩
    obtain ⟨y, hy, rfl⟩ := List.mem_map.mp h
    obtain ⟨i, hi⟩ := List.mem_iff_getElem?.mp hy
    refine List.mem_map.mpr ⟨y, ?_, rfl⟩
    by_cases c : i < k
    · exact List.mem_iff_getElem?.mpr ⟨i, by rw [List.getElem?_eraseIdx, if_pos c]; exact hi⟩
    · have hik : i ≠ k := fun e => by rw [e, hk] at hi; cases hi; exact hne rfl
      exact List.mem_iff_getElem?.mpr ⟨i - 1, by rw [List.getElem?_eraseIdx, if_neg (by omega), show i - 1 + 1 = i by omega]; exact hi⟩
theorem ris_erase {l : List Pr} (r : Ris2 l) (k : Nat) : Ris2 (l.eraseIdx k) := r.sublist (List.eraseIdx_sublist ..)
/-- two rising lists of the same pairs tell the same -/
theorem ris_same : ∀ {l m : List (Int × Int)}, l.Pairwise lt2 → m.Pairwise lt2 → (∀ x, x ∈ l ↔ x ∈ m) → l = m
  | [], [], _, _, _ => rfl
  | [], y :: m, _, _, h => absurd ((h y).mpr List.mem_cons_self) (by simp)
  | x :: l, [], _, _, h => absurd ((h x).mp List.mem_cons_self) (by simp)
  | x :: l, y :: m, h1, h2, h => by
    obtain ⟨a1, a2⟩ := List.pairwise_cons.mp h1
    obtain ⟨b1, b2⟩ := List.pairwise_cons.mp h2
    have e : x = y := by
      rcases List.mem_cons.mp ((h x).mp List.mem_cons_self) with z | z
      · exact z
      · rcases List.mem_cons.mp ((h y).mpr List.mem_cons_self) with w | w
        · exact w.symm
        · exact (lt2_irrefl (lt2_trans (a1 y w) (b1 x z))).elim
    subst e
    congr 1
    refine ris_same a2 b2 fun z => ⟨fun hz => ?_, fun hz => ?_⟩
    · rcases List.mem_cons.mp ((h z).mp (List.mem_cons_of_mem _ hz)) with w | w
      · subst w
        exact (lt2_irrefl (a1 z hz)).elim
      · exact w
    · rcases List.mem_cons.mp ((h z).mpr (List.mem_cons_of_mem _ hz)) with w | w
      · subst w
        exact (lt2_irrefl (b1 z hz)).elim
      · exact w
theorem ris_map {l : List Pr} (r : Ris2 l) : (l.map (·.2)).Pairwise lt2 := by
  rw [List.pairwise_map]
  exact r
abbrev ky2 (q : Int × Int) : List Key := [Sum.inl q.1, Sum.inl q.2]
theorem lkey2 {q : Int × Int} {r : Int × Int} : ([(Sum.inl q.1 : Key), Sum.inl q.2] = [Sum.inl r.1, Sum.inl r.2]) ↔ q = r := by
  obtain ⟨a, b⟩ := q
  obtain ⟨c, d⟩ := r
  simp
theorem keys_putK {κ : Type} [DecidableEq κ] (kvs : List (κ × V)) (k : κ) (v : V) : (putK kvs k v).map (·.1) = if (valV kvs k).isSome = true then kvs.map (·.1) else kvs.map (·.1) ++ [k] := by
  unfold putK
  rw [valV_any]
  split
  · rw [List.map_map]
    apply List.map_congr_left
    intro p _
    show (if p.1 = k then (p.1, v) else p).1 = p.1
    split <;> rfl
  · rw [List.map_append]
    rfl
theorem ky2_eq {q r : Int × Int} : (ky2 q = ky2 r) ↔ q = r := lkey2
/-- one more is counted -/
theorem cnt_add {kvs kvs' : List (List Key × V)} {M : List (Int × Int)} {q : Int × Int} (h : ∀ r : Int × Int, valV kvs (ky2 r) = if r ∈ M then some (.int (M.count r)) else none) (h' : ∀ r, valV kvs' (ky2 r) = if ky2 r = ky2 q then some (.int (M.count q + 1)) else valV kvs (ky2 r)) (r : Int × Int) :
    valV kvs' (ky2 r) = if r ∈ q :: M then some (.int ((q :: M).count r)) else none := by
  rw [h' r]
  by_cases e : r = q
  · subst e
    rw [if_pos rfl, if_pos List.mem_cons_self, List.count_cons_self]
    rfl
  · rw [if_neg (fun z => e (ky2_eq.mp z)), h r]
    have e1 : (r ∈ q :: M) ↔ r ∈ M := by simp [e]
    by_cases m : r ∈ M
    · rw [if_pos m, if_pos (e1.mpr m), List.count_cons_of_ne (fun z => e z.symm)]
    · rw [if_neg m, if_neg (fun z => m (e1.mp z))]
theorem ks_add {kvs : List (List Key × V)} {M : List (Int × Int)} {q : Int × Int} {v : V} (h : ∀ k ∈ kvs.map (·.1), k ∈ M.map ky2) : ∀ k ∈ (putK kvs (ky2 q) v).map (·.1), k ∈ (q :: M).map ky2 := by
  intro k hk
  rw [keys_putK] at hk
  rw [List.map_cons]
  split at hk
  · exact List.mem_cons_of_mem _ (h k hk)
  · rcases List.mem_append.mp hk with z | z
    · exact List.mem_cons_of_mem _ (h k z)
    · rw [List.mem_singleton.mp z]
      exact List.mem_cons_self
theorem nd_put {κ : Type} [DecidableEq κ] {kvs : List (κ × V)} {k : κ} {v : V} (h : (kvs.map (·.1)).Nodup) : ((putK kvs k v).map (·.1)).Nodup := by
  rw [keys_putK]
  split
  · exact h
  · rename_i c
    refine nd_snoc h (valV_not ?_)
    cases e : valV kvs k with
    | none => rfl
    | some z => rw [e] at c; exact absurd rfl c
/-- one less is counted -/
theorem cnt_lose {kvs kvs' : List (List Key × V)} {M : List (Int × Int)} {q : Int × Int} (hq : q ∈ M) (h : ∀ r : Int × Int, valV kvs (ky2 r) = if r ∈ M then some (.int (M.count r)) else none) (h' : ∀ r, valV kvs' (ky2 r) = if r = q then (if M.count q = 1 then none else some (.int ((M.count q : Int) - 1))) else valV kvs (ky2 r)) (r : Int × Int) :
    valV kvs' (ky2 r) = if r ∈ M.erase q then some (.int ((M.erase q).count r)) else none := by
  rw [h' r]
  have h1 := List.one_le_count_iff.mpr hq
  by_cases e : r = q
  · subst e
    rw [if_pos rfl, List.count_erase_self]
    by_cases c : M.count r = 1
    · rw [if_pos c, if_neg]
      intro z
      have := List.one_le_count_iff.mpr z
      rw [List.count_erase_self] at this
      omega
    · rw [if_neg c, if_pos]
      · congr 2
        omega
      · rw [← List.one_le_count_iff, List.count_erase_self]
        omega
  · rw [if_neg e, h r, List.count_erase_of_ne e]
    have e1 : (r ∈ M.erase q) ↔ r ∈ M := List.mem_erase_of_ne e
    by_cases m : r ∈ M
    · rw [if_pos m, if_pos (e1.mpr m)]
    · rw [if_neg m, if_neg (fun z => m (e1.mp z))]
theorem mem_lose {M : List (Int × Int)} {q r : Int × Int} (hq : q ∈ M) : r ∈ M.erase q ↔ r ∈ M ∧ (M.count q = 1 → r ≠ q) := by
  have h1 := List.one_le_count_iff.mpr hq
  by_cases e : r = q
  · subst e
    rw [← List.one_le_count_iff, List.count_erase_self]
    constructor
    · intro z
      exact ⟨hq, fun c => by omega⟩
    · rintro ⟨_, z⟩
      have : M.count r ≠ 1 := fun c => z c rfl
      omega
  · rw [List.mem_erase_of_ne e]
    exact ⟨fun z => ⟨z, fun _ => e⟩, fun z => z.1⟩
/-! a list of pairs against [] -/
def Pr.dat (e : Pr) : PyData := .tuple [.int e.2.1, .int e.2.2]
theorem dpAll_prs {K : PySem.W.Frag} {H : Hp} : ∀ {ps : List Pr}, (∀ e ∈ ps, H e.1 = some (.tup [.int e.2.1, .int e.2.2])) → DpAll K H (ps.map fun e => V.ref e.1) (ps.map Pr.dat)
  | [], _ => .nil
  | e :: r, h => .cons (.tup (.inl (.inl (h e List.mem_cons_self))) (.cons (.int _) (.cons (.int _) .nil))) (dpAll_prs fun e he => h e (List.mem_cons_of_mem _ he))
theorem lay_prs : ∀ (ps : List Pr), PyData.canLayAll0 (ps.map Pr.dat) = true
  | [] => by simp [PyData.canLayAll0]
  | e :: r => by simp [PyData.canLayAll0, PyData.canLay0, Pr.dat, lay_prs r]
theorem depth_prs : ∀ (ps : List Pr), PyData.depthAll (ps.map Pr.dat) ≤ 2
  | [] => by simp [PyData.depthAll]
  | e :: r => by
    have h := depth_prs r
    simp only [List.map_cons, PyData.depthAll, PyData.depth, Pr.dat]
    omega
theorem shaped_prs (ps : List Pr) : SeqAt.shaped (.list (ps.map Pr.dat)) = true := by
  have h1 := depth_prs ps
  have h2 : PyData.depth (.list (ps.map Pr.dat)) ≤ 64 := by
    simp only [PyData.depth]
    omega
  unfold SeqAt.shaped
  rw [Bool.and_eq_true]
  exact ⟨by simp only [PyData.canLay0]; exact lay_prs ps, decide_eq_true h2⟩
theorem neNil_prs {K : PySem.W.Frag} {H : Hp} {a q : Addr} {ps : List Pr} {Q : VK} (ha : H a = some (.lst (ps.map fun e => V.ref e.1))) (ht : ∀ e ∈ ps, H e.1 = some (.tup [.int e.2.1, .int e.2.2])) (hq : H q = some (.lst [])) (k : Q (.bl (!ps.isEmpty)) H) : rNeD K (.ref a) (.ref q) H Q := by
  refine ⟨.list (ps.map Pr.dat), .list [], .lst (.inl (.inl ha)) (dpAll_prs ht), .lst (.inl (.inl hq)) .nil, shaped_prs ps, rfl, ?_⟩
  cases ps with
  | nil => exact k
  | cons n r => exact k
end G7

set_option linter.all false
set_option Elab.async false
set_option maxRecDepth 100000
set_option maxHeartbeats 4000000
namespace G7
open PySem PySem.Spec PyProof.Rows L2
/-! ### data of any depth, in tuples and lists, truth values too -/
inductive Dx where
  | non
  | bl (b : Bool)
  | int (i : Int)
  | str (s : Str)
  | tup (l : List Dx)
  | lst (l : List Dx)
mutual
def RX (H : Hp) : V → Dx → Prop
  | v, .non => v = .non
  | v, .bl b => v = .bl b
  | v, .int i => v = .int i
  | v, .str s => v = .str s
  | v, .tup ds => ∃ a us, v = .ref a ∧ H a = some (.tup us) ∧ RXs H us ds
  | v, .lst ds => ∃ a us, v = .ref a ∧ H a = some (.lst us) ∧ RXs H us ds
def RXs (H : Hp) : List V → List Dx → Prop
  | [], [] => True
  | u :: us, d :: ds => RX H u d ∧ RXs H us ds
  | _, _ => False
end
mutual
def Dx.fits (m : Nat) : Dx → Prop
  | .tup ds => ds.length ≤ m ∧ Dx.fitsL m ds
  | .lst ds => ds.length ≤ m ∧ Dx.fitsL m ds
  | _ => True
def Dx.fitsL (m : Nat) : List Dx → Prop
  | [] => True
  | d :: r => Dx.fits m d ∧ Dx.fitsL m r
end
mutual
def Dx.deep : Dx → Nat
  | .tup ds => Dx.deepL ds + 1
  | .lst ds => Dx.deepL ds + 1
  | _ => 0
def Dx.deepL : List Dx → Nat
  | [] => 0
  | d :: r => max (Dx.deep d) (Dx.deepL r)
end
theorem RXs.len {H : Hp} : ∀ {us : List V} {ds : List Dx}, RXs H us ds → us.length = ds.length
  | [], [], _ => rfl
  | u :: us, d :: ds, h => by
    have h : RX H u d ∧ RXs H us ds := by simpa only [RXs] using h
    rw [List.length_cons, List.length_cons, RXs.len h.2]
  | [], d :: ds, h => by simp only [RXs] at h
  | u :: us, [], h => by simp only [RXs] at h
theorem RXs.at {H : Hp} : ∀ {us : List V} {ds : List Dx} {i : Nat} {d : Dx}, RXs H us ds → ds[i]? = some d → ∃ u, us[i]? = some u ∧ RX H u d
  | [], [], _, _, _, e => by cases e
  | u :: us, d :: ds, 0, d', h, e => by
    have h : RX H u d ∧ RXs H us ds := by simpa only [RXs] using h
    cases e
    exact ⟨u, rfl, h.1⟩
  | u :: us, d :: ds, i + 1, d', h, e => by
    have h : RX H u d ∧ RXs H us ds := by simpa only [RXs] using h
    exact RXs.at (us := us) (ds := ds) (i := i) h.2 (by simpa using e)
  | [], d :: ds, _, _, h, _ => by simp only [RXs] at h
  | u :: us, [], _, _, h, _ => by simp only [RXs] at h
theorem Dx.fitsL_at {m : Nat} : ∀ {ds : List Dx} {i : Nat} {d : Dx}, Dx.fitsL m ds → ds[i]? = some d → Dx.fits m d
  | [], _, _, _, e => by cases e
  | d :: ds, 0, d', h, e => by
    cases e
    exact h.1
  | d :: ds, i + 1, d', h, e => Dx.fitsL_at h.2 e
theorem Dx.deepL_at : ∀ {ds : List Dx} {i : Nat} {d : Dx}, ds[i]? = some d → Dx.deep d ≤ Dx.deepL ds
  | [], _, _, e => by cases e
  | d :: ds, 0, d', e => by
    cases e
    exact Nat.le_max_left _ _
  | d :: ds, i + 1, d', e => Nat.le_trans (Dx.deepL_at (ds := ds) e) (Nat.le_max_right _ _)
mutual
theorem RX.same {H H' : Hp} (k : Same H H') : ∀ {d : Dx} {v : V}, RX H v d → RX H' v d
  | .non, _, h => by simpa only [RX] using h
  | .bl _, _, h => by simpa only [RX] using h
  | .int _, _, h => by simpa only [RX] using h
  | .str _, _, h => by simpa only [RX] using h
  | .tup ds, v, h => by
    simp only [RX] at h ⊢
    obtain ⟨a, us, e, h1, h2⟩ := h
    exact ⟨a, us, e, k _ _ h1, RXs.same k h2⟩
  | .lst ds, v, h => by
    simp only [RX] at h ⊢
    obtain ⟨a, us, e, h1, h2⟩ := h
    exact ⟨a, us, e, k _ _ h1, RXs.same k h2⟩
theorem RXs.same {H H' : Hp} (k : Same H H') : ∀ {ds : List Dx} {us : List V}, RXs H us ds → RXs H' us ds
  | [], [], h => by simp only [RXs]
  | d :: ds, u :: us, h => by
    simp only [RXs] at h ⊢
    exact ⟨RX.same k h.1, RXs.same k h.2⟩
  | d :: ds, [], h => by simp only [RXs] at h
  | [], u :: us, h => by simp only [RXs] at h
end
theorem rx_str {H : Hp} (s : Str) : RX H (.str s) (.str s) := by simp only [RX]
theorem rx_int {H : Hp} (s : Int) : RX H (.int s) (.int s) := by simp only [RX]
theorem rx_non {H : Hp} : RX H .non .non := by simp only [RX]
theorem rx_bl {H : Hp} (b : Bool) : RX H (.bl b) (.bl b) := by simp only [RX]
theorem rx_tup {H : Hp} {a : Addr} {us : List V} {ds : List Dx} (h : H a = some (.tup us)) (r : RXs H us ds) : RX H (.ref a) (.tup ds) := by
  simp only [RX]
  exact ⟨a, us, rfl, h, r⟩
theorem rx_lst {H : Hp} {a : Addr} {us : List V} {ds : List Dx} (h : H a = some (.lst us)) (r : RXs H us ds) : RX H (.ref a) (.lst ds) := by
  simp only [RX]
  exact ⟨a, us, rfl, h, r⟩
theorem rxs_nil {H : Hp} : RXs H [] [] := by simp only [RXs]
theorem rxs_cons {H : Hp} {u : V} {us : List V} {d : Dx} {ds : List Dx} (h : RX H u d) (r : RXs H us ds) : RXs H (u :: us) (d :: ds) := by
  simp only [RXs]
  exact ⟨h, r⟩
theorem rxs_map {α : Type} {H : Hp} {f : α → V} {g : α → Dx} : ∀ {l : List α}, (∀ x ∈ l, RX H (f x) (g x)) → RXs H (l.map f) (l.map g)
  | [], _ => rxs_nil
  | x :: r, h => rxs_cons (h x List.mem_cons_self) (rxs_map fun y hy => h y (List.mem_cons_of_mem _ hy))
theorem dxs_ok {α : Type} {g : α → Dx} {n m : Nat} : ∀ {l : List α}, (∀ x ∈ l, (g x).deep ≤ n ∧ (g x).fits m) → Dx.deepL (l.map g) ≤ n ∧ Dx.fitsL m (l.map g)
  | [], _ => by simp [Dx.deepL, Dx.fitsL]
  | x :: r, h => by
    have h1 := h x List.mem_cons_self
    have h2 := dxs_ok (g := g) (l := r) fun y hy => h y (List.mem_cons_of_mem _ hy)
    simp only [List.map_cons, Dx.deepL, Dx.fitsL]
    exact ⟨by omega, h1.2, h2.2⟩
/-- a pair of ints -/
def dx2 (q : Int × Int) : Dx := .tup [.int q.1, .int q.2]
theorem rx2 {H : Hp} {a : Addr} {q : Int × Int} (h : H a = some (.tup [.int q.1, .int q.2])) : RX H (.ref a) (dx2 q) := rx_tup h (rxs_cons (rx_int _) (rxs_cons (rx_int _) rxs_nil))
/-- an item of a list or of a tuple -/
def rIxLT : R2 := fun x y H Q => ∃ p xs i v, x = .ref p ∧ y = .int i ∧ (lsO (H p) = some xs ∨ tpO (H p) = some xs) ∧ atI xs i = some v ∧ Q v H
theorem ix_lt {X : Cx} : IxR X rIxLT := fun a b p s σ H x y v u Q I rx ry ⟨q, xs, i, w, e1, e2, h, e, k⟩ => by
  rcases h with h | h
  · exact ix_lst a b p s σ H x y v u Q I rx ry ⟨q, xs, i, w, e1, e2, h, e, k⟩
  · exact ix_tp a b p s σ H x y v u Q I rx ry ⟨q, xs, i, w, e1, e2, h, e, k⟩
def cLenLT : List V → Hp → VK → Prop := fun vs H Q => ∃ p xs, vs = [.ref p] ∧ (lsO (H p) = some xs ∨ tpO (H p) = some xs) ∧ Q (.int (xs.length : Int)) H
theorem len_lt {X : Cx} : CallR X (.builtin "len") cLenLT := callImp call_len_seq fun vs H Q ⟨p, xs, e, h, q⟩ => ⟨p, xs, e, h.elim (fun h => .inl (.inl (rd_lsO h))) (fun h => .inr (.inl (rd_tpO h))), q⟩
end G7

set_option linter.all false
set_option Elab.async false
set_option maxRecDepth 100000
set_option maxHeartbeats 4000000
namespace G7
open PySem PySem.Spec PyProof.Rows L2
/-- take(box, [x, y][take(box, 2)]), the box in slot i -/
def tTake2 (i : Nat) (x y : Int) : TE := tCall spTake [] E0 (tCons (tVar i) (tCons (tOp rIxH (tLst (tCons (tC (V.int x)) (tCons (tC (V.int y)) tNil))) (tCall spTake [] E0 (tCons (tVar i) (tCons (tC (V.int 2)) tNil)))) tNil))
theorem take2 {i : Nat} {x y : Int} {σ : L2.St} {H : Hp} {Q : VK} {h l : Addr} (hv : σ[i]? = some (some (V.ref h))) (B : BoxA H h l) (hx : 0 < x ∧ x < 1073741824) (hy : 0 < y ∧ y < 1073741824)
    (k : ∀ r H', 0 ≤ r → (r < x ∨ r < y) → BoxA H' h l → Keep [h, l] H H' → Q (.int r) H') : tTake2 i x y σ H Q := by
  refine ⟨_, hv, ⟨szl (by show 2 ≤ 100000; decide), fun p hp => ⟨_, hv, h, l, 2, rfl, B.same (same_new hp), by decide, by decide, fun r H1 r0 r1 B1 k1 => ?_⟩⟩⟩
  have np : p ∉ [h, l] := fun m => by
    obtain ⟨ns, st, b1, b2, _⟩ := B
    simp only [List.mem_cons, List.mem_nil_iff, or_false] at m
    rcases m with rfl | rfl
    · rw [hp] at b1; cases b1
    · rw [hp] at b2; cases b2
  have e1 := k1 _ _ np upd_same
  have kk : Keep [h, l] H H1 := (Keep.new hp).trans k1
  by_cases c : r = 0
  · subst c
    exact ⟨p, _, 0, V.int x, rfl, rfl, by rw [e1]; rfl, at0, h, l, x, rfl, B1, hx.1, hx.2, fun r' H2 a1 a2 B2 k2 => k r' H2 a1 (.inl a2) B2 (kk.trans k2)⟩
  · have c : r = 1 := by omega
    subst c
    exact ⟨p, _, 1, V.int y, rfl, rfl, by rw [e1]; rfl, at1, h, l, y, rfl, B1, hy.1, hy.2, fun r' H2 a1 a2 B2 k2 => k r' H2 a1 (.inr a2) B2 (kk.trans k2)⟩
end G7

set_option linter.all false
set_option Elab.async false
set_option maxRecDepth 100000
set_option maxHeartbeats 4000000
/-! lambdas as values: made, handed on, called by others -/
namespace Lm
open PySem PySem.Spec PyProof.Rows L2 LamX
/-- a thing that is never written, known to the object -/
def FzO (o : Obj) : HO := .frz o (.ext fun _ => True)
theorem fzO_ne {o : Obj} (ps : Array Value) : FzO o ≠ .tbl ps := fun z => by
  unfold FzO at z
  cases z
theorem fz_ok {P : Program} {w : World} {H : Hp} {h : Heap} {a : Addr} {o : Obj} (e : h.get? a = some o) : ObjOk P w H h a (FzO o) := ⟨e, True.intro, ⟨o, e⟩, fun _ _ _ _ => True.intro⟩
def Fz : HO → Prop
  | .frz _ _ => True
  | .tup _ => True
  | _ => False
/-- what is frozen stays -/
def KeepF (H H' : Hp) : Prop := ∀ b o, H b = some o → Fz o → H' b = some o
theorem KeepF.refl (H : Hp) : KeepF H H := fun _ _ e _ => e
theorem KeepF.trans {H H1 H2 : Hp} (a : KeepF H H1) (b : KeepF H1 H2) : KeepF H H2 := fun c o e z => b c o (a c o e z) z
theorem KeepF.of {H H' : Hp} (e : ∀ b o, H b = some o → H' b = some o) : KeepF H H' := fun b o h _ => e b o h
theorem KeepF.extN {H H' : Hp} (e : ExtN H H') : KeepF H H' := fun b o h z => e b o h fun ps q => by rw [q] at z; exact z
theorem KeepF.un {fs ex : List Addr} {H H' : Hp} {h h' : Heap} (u : Un fs ex H H' h h') : KeepF H H' := fun b o e z => by
  cases o with
  | frz ob v => exact u.frzs b ob v e
  | tup xs => exact u.tups b xs e
  | _ => exact z.elim
theorem KeepF.upd {H : Hp} {a : Addr} {o : HO} (n : ∀ u, H a = some u → ¬ Fz u) : KeepF H (upd H a o) := fun b u e z => by
  rw [upd_ne (show b ≠ a from fun q => n u (by rw [← q]; exact e) z)]
  exact e
/-- tables stay -/
def KeepT (H H' : Hp) : Prop := ∀ b ps, H b = some (.tbl ps) → H' b = some (.tbl ps)
theorem KeepT.refl (H : Hp) : KeepT H H := fun _ _ e => e
theorem KeepT.trans {H H1 H2 : Hp} (a : KeepT H H1) (b : KeepT H1 H2) : KeepT H H2 := fun c o e => b c o (a c o e)
theorem KeepT.of {H H' : Hp} (e : ∀ b o, H b = some o → H' b = some o) : KeepT H H' := fun b o h => e b _ h
theorem KeepT.upd {H : Hp} {a : Addr} {o : HO} (n : ∀ ps, H a ≠ some (.tbl ps)) : KeepT H (upd H a o) := fun b u e => by
  rw [upd_ne (show b ≠ a from fun q => n u (by rw [← q]; exact e))]
  exact e
/-- tables whose code objects bear one name, and are frozen -/
def TabF (T : List (Addr × Str)) (H : Hp) : Prop := ∀ p ∈ T, ∃ ps : Array Value, H p.1 = some (.tbl ps) ∧ TriplesOk ps.toList ∧
  ∀ (pos : Pos) (cv : Value), codeAmong pos ps.toList = some cv → ∃ (c : Addr) (oc : Obj) (vs : Array Value) (t : Tok), cv = .ref c ∧ H c = some (FzO oc) ∧ oc.data = .fields vs ∧ vs[1]? = some (.str p.2 t)
theorem TabF.ext {T : List (Addr × Str)} {H H' : Hp} (t : TabF T H) (e : KeepF H H') (e2 : KeepT H H') : TabF T H' := fun p hp => by
  obtain ⟨ps, h1, h2, h3⟩ := t p hp
  refine ⟨ps, e2 _ _ h1, h2, fun pos cv hc => ?_⟩
  obtain ⟨c, oc, vs, t, e1, e3, e4, e5⟩ := h3 pos cv hc
  exact ⟨c, oc, vs, t, e1, e c _ e3 True.intro, e4, e5⟩
theorem TabF.nil {H : Hp} {T : List (Addr × Str)} (h : ∀ p ∈ T, H p.1 = some (.tbl #[])) : TabF T H := fun p hp => ⟨#[], h p hp, True.intro, fun pos cv hc => by
  have z : codeAmong pos [] = some cv := hc
  simp [codeAmong] at z⟩
section
variable {X : Cx} {pins : List (Addr × Obj)} {σ : L2.St} {H : Hp} {s : Shared}
/-- what is known of a thing that may change is known of it as it is, from now on -/
theorem inv_freeze {c : Addr} {φ : Heap → Prop} {oc : Obj} (I : Inv X pins σ H s) (h1 : H c = some (.ext φ)) (h2 : s.heap.get? c = some oc) : Inv X pins σ (upd H c (FzO oc)) s :=
  I.write (h' := s.heap) (t' := s.toks) (o := FzO oc) (by rw [h1]; exact True.intro) (.inl rfl) (fun _ _ _ q => q) ⟨oc, h2⟩ (fz_ok h2)
/-- a code object new in a table, frozen -/
theorem inv_tableF {P c : Addr} {q : Str} {t : Tok} {vs : Array Value} {ps more : Array Value} {h' : Heap} {t' : Nat} {oc : Obj} (I : Inv X pins σ H s) (hP : H P = some (.tbl ps)) (k : ∀ b o, b ≠ P → s.heap.get? b = some o → h'.get? b = some o)
    (hm : h'.get? P = some { cls := .none, data := .fields (ps ++ more) }) (hc : s.heap.objs.size ≤ c) (ho : h'.get? c = some oc) (hd : oc.data = .fields vs) (hv : vs[1]? = some (.str q t)) :
    Inv X pins σ (upd (upd H P (.tbl (ps ++ more))) c (FzO oc)) { s with heap := h', toks := t' } := by
  have J := LamX.inv_table (t' := t') (q := q) I hP k hm hc ⟨oc, vs, t, ho, hd, hv⟩
  have F := inv_freeze (oc := oc) J (show upd (upd H P (.tbl (ps ++ more))) c (CodeO c q) c = some (.ext _) from upd_same) ho
  rw [upd_upd] at F
  exact F
/-- the lambda's function object -/
def LamObj (q : Str) (params : Arguments) (body : Expr) (scope : Scope) (cl : List (Str × Addr)) (dV : Value) (c : Addr) (o : Obj) : Prop :=
  ∃ (doc pm ctv : Value), o = PySem.W.kdv_obj "<lambda>" q params (.expr body) scope cl dV doc pm c ctv
/-- what stands of a lambda: its function object, its code object -/
def LamAt (q : Str) (params : Arguments) (body : Expr) (scope : Scope) (cl : List (Str × Addr)) (dV : Value) (f : Addr) (H : Hp) : Prop :=
  ∃ (c : Addr) (o oc : Obj) (vs : Array Value) (t : Tok), LamObj q params body scope cl dV c o ∧ H f = some (FzO o) ∧ H c = some (FzO oc) ∧ oc.data = .fields vs ∧ vs[1]? = some (.str q t)
theorem LamAt.keep {q : Str} {params : Arguments} {body : Expr} {scope : Scope} {cl : List (Str × Addr)} {dV : Value} {f : Addr} {H H' : Hp} (l : LamAt q params body scope cl dV f H) (k : KeepF H H') : LamAt q params body scope cl dV f H' := by
  obtain ⟨c, o, oc, vs, t, h1, h2, h3, h4, h5⟩ := l
  exact ⟨c, o, oc, vs, t, h1, k _ _ h2 True.intro, k _ _ h3 True.intro, h4, h5⟩
/-- the function object is laid, where its code object stands -/
theorem lam_lay {T : List (Addr × Str)} {q : Str} {c' : Addr} {params : Arguments} {body : Expr} {scope : Scope} {dV doc pm ctv : Value} {cl : List (Str × Addr)} {h' : Heap} {tk : Nat} {oc : Obj} {vs : Array Value} {t : Tok} (J : Inv X pins σ H { s with heap := h', toks := tk }) (hT : TabF T H)
    (hc : H c' = some (FzO oc)) (hd : oc.data = .fields vs) (hv : vs[1]? = some (.str q t)) :
    ∃ H2, Inv X pins σ H2 { s with heap := h'.push (PySem.W.kdv_obj "<lambda>" q params (.expr body) scope cl dV doc pm c' ctv), toks := tk } ∧ (∀ b o, H b = some o → H2 b = some o) ∧ TabF T H2 ∧ LamAt q params body scope cl dV h'.objs.size H2 := by
  have new : H h'.objs.size = none := J.hok.fresh (Nat.le_refl _)
  have more : ∀ b o, H b = some o → upd H h'.objs.size (FzO (PySem.W.kdv_obj "<lambda>" q params (.expr body) scope cl dV doc pm c' ctv)) b = some o := fun b o e => (upd_ne (ne_of_none e new)).trans e
  refine ⟨_, J.laid (t' := tk) (o := FzO (PySem.W.kdv_obj "<lambda>" q params (.expr body) scope cl dV doc pm c' ctv)) (fun _ _ z => Heap.get?_push_of_some _ z) (Nat.le_refl _) (fz_ok (Heap.get?_push_size _ rfl)), more, hT.ext (KeepF.of more) (KeepT.of more), ?_⟩
  exact ⟨c', _, oc, vs, t, ⟨doc, pm, ctv, rfl⟩, upd_same, more _ _ hc, hd, hv⟩
/-- a table grown by one code object -/
theorem TabF.grow {T : List (Addr × Str)} {P c' : Addr} {q : Str} {pos : Pos} {ps : Array Value} {oc : Obj} {vs : Array Value} {t : Tok} (hT : TabF T H) (hP : H P = some (.tbl ps)) (hm : (P, q) ∈ T) (hu : ∀ p ∈ T, p.1 = P → p.2 = q) (new : H c' = none) (hd : oc.data = .fields vs) (hv : vs[1]? = some (.str q t)) :
    ExtN H (upd (upd H P (.tbl (ps ++ #[rawInt pos.line, rawInt pos.col, .ref c']))) c' (FzO oc)) ∧ TabF T (upd (upd H P (.tbl (ps ++ #[rawInt pos.line, rawInt pos.col, .ref c']))) c' (FzO oc)) := by
  have out : ∀ b o, H b = some o → b ≠ P → upd (upd H P (.tbl (ps ++ #[rawInt pos.line, rawInt pos.col, .ref c']))) c' (FzO oc) b = some o := fun b o e n => by
    rw [upd_ne (ne_of_none e new), upd_ne n]
    exact e
  have ext : ExtN H (upd (upd H P (.tbl (ps ++ #[rawInt pos.line, rawInt pos.col, .ref c']))) c' (FzO oc)) := fun b o e n => out b o e fun z => by
    rw [z, hP] at e
    exact n ps (Option.some.inj e).symm
  refine ⟨ext, fun p hp => ?_⟩
  obtain ⟨qs, a1, a2, a3⟩ := hT p hp
  have old : ∀ (pos : Pos) (cv : Value), codeAmong pos qs.toList = some cv → ∃ (c : Addr) (o : Obj) (ws : Array Value) (u : Tok), cv = .ref c ∧ upd (upd H P (.tbl (ps ++ #[rawInt pos.line, rawInt pos.col, .ref c']))) c' (FzO oc) c = some (FzO o) ∧ o.data = .fields ws ∧ ws[1]? = some (.str p.2 u) := fun pos' cv e => by
    obtain ⟨c, o, ws, u, e1, e2, e3⟩ := a3 pos' cv e
    refine ⟨c, o, ws, u, e1, ?_, e3⟩
    rw [upd_ne (ne_of_none e2 new), upd_ne (fun z => by rw [z, hP] at e2; cases e2)]
    exact e2
  by_cases hb : p.1 = P
  · obtain rfl : qs = ps := by
      rw [hb, hP] at a1
      exact (HO.tbl.inj (Option.some.inj a1)).symm
    have flat : (qs ++ #[rawInt pos.line, rawInt pos.col, .ref c']).toList = qs.toList ++ [rawInt pos.line, rawInt pos.col, .ref c'] := by rw [Array.toList_append]
    refine ⟨qs ++ #[rawInt pos.line, rawInt pos.col, .ref c'], ?_, ?_, fun pos' cv e => ?_⟩
    · rw [hb, upd_ne (ne_of_none hP new)]
      exact upd_same
    · rw [flat]
      exact PySem.TriplesOk_snoc _ _ _ _ a2
    · rw [flat] at e
      cases among_app _ a2 e with
      | inl z =>
        obtain ⟨c, o, ws, u, e1, e2, e3⟩ := a3 pos' cv z
        exact ⟨c, o, ws, u, e1, ext _ _ e2 fzO_ne, e3⟩
      | inr z => exact ⟨c', oc, vs, t, z, upd_same, hd, by rw [hu p hp hb]; exact hv⟩
  · refine ⟨qs, out _ _ a1 hb, a2, fun pos' cv e => ?_⟩
    obtain ⟨c, o, ws, u, e1, e2, e3⟩ := a3 pos' cv e
    exact ⟨c, o, ws, u, e1, ext _ _ e2 fzO_ne, e3⟩
theorem lam_tail {T : List (Addr × Str)} {c P : Addr} {params : Arguments} {body : Expr} {scope : Scope} {pos : Pos} {dV : Value} {E : Value → Shared → Prop} {Q : Value → Shared → Prop} (I : Inv X pins σ H s) (TB : TabB X.base X.mg c P) (hcode : X.env.code = .ref c)
    (hm : (P, X.env.qual ++ "<lambda>") ∈ T) (hu : ∀ p ∈ T, p.1 = P → p.2 = X.env.qual ++ "<lambda>") (hT : TabF T H) (hfree : ∀ y ∈ scope.names, y.2 = .free → ∃ c, X.env.cells.lookup y.1 = some c)
    (h : ∀ (f : Addr) (H1 : Hp) (s' : Shared), Inv X pins σ H1 s' → ExtN H H1 → TabF T H1 → LamAt (X.env.qual ++ "<lambda>") params body scope (cloFrom X.env.cells scope.names []) dV f H1 → Q (.ref f) s') :
    wpAny (model X.prog X.w) X.A (makeTail "<lambda>" (X.env.qual ++ "<lambda>") params (.expr body) scope X.env dV .none none pos pos.line) Q E s := by
  obtain ⟨ps, tab, three, known⟩ := hT _ hm
  have at_ := I.hok P _ tab
  have bas := TB.bm.keeps I.bk
  have hd0 := TB.code.keeps I.bk
  have gl := I.mod.glob.keeps I.bk
  by_cases hit : ∃ cv, codeAmong pos ps.toList = some cv
  · obtain ⟨cv, hit⟩ := hit
    obtain ⟨c', oc, vs, t, rfl, hco, hd, hv⟩ := known pos cv hit
    refine PySem.W.kdv_makeTailHit (closure_ok hfree) I.ok.glob gl hcode hd0 at_ three hit bas fun ctv doc h' tk kp _ => ?_
    obtain ⟨H2, J2, m2, T2, l2⟩ := lam_lay (s := s) (doc := doc) (pm := (X.mg "__name__").getD .none) (ctv := ctv) (I.kept (t' := tk) kp) hT hco hd hv
    exact h _ H2 _ J2 (fun b o e _ => m2 b o e) T2 l2
  · have miss : codeAmong pos ps.toList = none := by
      cases z : codeAmong pos ps.toList with
      | none => rfl
      | some cv => exact absurd ⟨cv, z⟩ hit
    refine PySem.W.kdv_makeTail (closure_ok hfree) I.ok.glob gl hcode hd0 at_ three miss TB.gP bas fun c' ctv doc h' tk but ge lt rec grown => ?_
    obtain ⟨_, oc, vs, t, z, hoc, hd, hv⟩ := rec
    obtain rfl := Value.ref.inj z
    have J := inv_tableF (t' := tk) I tab (fun b o n e => but b o n e) grown ge hoc hd hv
    obtain ⟨ext, T1⟩ := hT.grow (pos := pos) tab hm hu (I.hok.fresh ge) hd hv
    obtain ⟨H2, J2, m2, T2, l2⟩ := lam_lay (s := s) (doc := doc) (pm := (X.mg "__name__").getD .none) (ctv := ctv) J T1 upd_same hd hv
    exact h _ H2 _ J2 (fun b o e n => m2 b o (ext b o e n)) T2 l2
end
/-! ### the lambda's names -/
/-- captured names, globals; parameters that the maker's own names do not hold -/
structure LamG (N : List Str) (sc scope : Scope) : Prop where
  kind : scope.kind = .function
  co : scope.isCoroutine = false
  gen : scope.isGenerator = false
  own : ∀ y ∈ scope.names, y.2 ≠ .cell ∧ (y.2 = .local → y.1 ∉ N)
  free : ∀ y ∈ scope.names, y.2 = .free → sc.names.lookup y.1 = some .cell ∨ sc.names.lookup y.1 = some .free
def lamGB (N : List Str) (sc scope : Scope) : Bool :=
  decide (scope.kind = .function) && !scope.isCoroutine && !scope.isGenerator && scope.names.all fun y => !decide (y.2 = .cell) && (!decide (y.2 = .local) || !N.contains y.1) && (!decide (y.2 = .free) || decide (sc.names.lookup y.1 = some .cell) || decide (sc.names.lookup y.1 = some .free))
theorem lamG_by {N : List Str} {sc scope : Scope} (h : lamGB N sc scope = true) : LamG N sc scope := by
  unfold lamGB at h
  simp only [Bool.and_eq_true, Bool.or_eq_true, Bool.not_eq_true', decide_eq_true_eq, decide_eq_false_iff_not, List.all_eq_true] at h
  obtain ⟨⟨⟨h1, h2⟩, h3⟩, h4⟩ := h
  refine ⟨h1, h2, h3, fun y hy => ⟨(h4 y hy).1.1, fun e hm => ?_⟩, fun y hy e => ?_⟩
  · rcases (h4 y hy).1.2 with z | z
    · exact absurd e z
    · rw [List.contains_iff_mem.mpr hm] at z
      cases z
  · rcases (h4 y hy).2 with (z | z) | z
    · exact absurd e z
    · exact .inl z
    · exact .inr z
theorem LamG.has {X : Cx} {scope : Scope} (L : LamG X.N X.env.scope scope) (ok : X.Ok) : ∀ y ∈ scope.names, y.2 = .free → ∃ c, X.env.cells.lookup y.1 = some c := fun y hy e => by
  rcases L.free y hy e with k | k
  · exact ok.has _ (.inl k)
  · exact ok.has _ (.inr k)
section
variable {X : Cx} {pins : List (Addr × Obj)} {σ : L2.St} {H HZ : Hp} {s s1 : Shared}
/-- the context over a greater ground -/
abbrev onB (X : Cx) (B : Heap) : Cx := { X with base := B }
/-- a ground in which the cells of X's names stand, at the state s -/
structure ExtB (X : Cx) (H : Hp) (s : Shared) (B : Heap) : Prop where
  size : B.objs.size ≤ s.heap.objs.size
  sub : ∀ b o, B.get? b = some o → s.heap.get? b = some o ∧ H b = none
  base : ∀ b o, X.base.get? b = some o → B.get? b = some o
  cell : ∀ x c o, X.env.cells.lookup x = some c → s.heap.get? c = some o → B.get? c = some o
  funs : s.heap.FunFrames B X.stack
open Classical in
theorem extB_ex (I : Inv X pins σ H s) (hfn : ∀ x c, X.env.cells.lookup x = some c → X.fn x = true) : ∃ B, ExtB X H s B := by
  let q : Addr → Bool := fun b => decide ((∃ o, X.base.get? b = some o) ∨ ∃ x, X.env.cells.lookup x = some b)
  let l := (List.range s.heap.objs.size).filter fun b => !q b
  have nl : ∀ b, q b = true → b ∉ l := fun b hb hm => by
    have z := (List.mem_filter.mp hm).2
    rw [hb] at z
    cases z
  have yl : ∀ b, b < s.heap.objs.size → q b = false → b ∈ l := fun b h1 h2 => List.mem_filter.mpr ⟨List.mem_range.mpr h1, by rw [h2]; rfl⟩
  have get : ∀ b o, s.heap.get? b = some o → q b = true → (PySem.W.hideAll s.heap l).get? b = some o := fun b o e hb => PySem.W.hideAll_get _ e (nl b hb)
  have of_ : ∀ b o, (PySem.W.hideAll s.heap l).get? b = some o → s.heap.get? b = some o ∧ q b = true := fun b o e => by
    have e2 := PySem.W.of_hideAll _ e
    refine ⟨e2, ?_⟩
    cases hq : q b with
    | true => rfl
    | false =>
      rw [PySem.W.hideAll_none _ (yl b (Heap.lt_size e2) hq)] at e
      cases e
  have bk : ∀ b o, X.base.get? b = some o → s.heap.get? b = some o ∧ H b = none := I.bs
  refine ⟨PySem.W.hideAll s.heap l, Nat.le_of_eq (PySem.W.hideAll_size _ _), fun b o e => ?_, fun b o e => get b o (bk b o e).1 (decide_eq_true (.inl ⟨o, e⟩)), fun x c o e1 e2 => get c o e2 (decide_eq_true (.inr ⟨x, e1⟩)), funFrames_none I.stack fun b hb => ?_⟩
  · obtain ⟨e2, hq⟩ := of_ b o e
    refine ⟨e2, ?_⟩
    rcases of_decide_eq_true hq with ⟨o', z⟩ | ⟨x, z⟩
    · exact (bk b o' z).2
    · exact I.freeC x b z
  · cases e : (PySem.W.hideAll s.heap l).get? b with
    | none => rfl
    | some o =>
      obtain ⟨e2, hq⟩ := of_ b o e
      rcases of_decide_eq_true hq with ⟨o', z⟩ | ⟨x, z⟩
      · obtain ⟨z2, _⟩ := I.stack.mem hb
        rw [z] at z2
        cases z2
      · rcases List.mem_cons.mp (I.stkSub b hb) with z2 | z2
        · exact absurd z2 (I.cne x b z)
        · obtain ⟨_, o3, e3, _⟩ := I.ok.funs.mem z2
          exact absurd (Nat.lt_of_lt_of_le (Heap.lt_size e3) (I.ok.cab x b (hfn x b z) z)) (Nat.lt_irrefl _)
theorem ExtB.env0 {B : Heap} (x : ExtB X H s B) (I : Inv X pins σ H s) : Env0 X.prog X.w X.K X.mg B X.A X.stack s H := by
  have e := I.env0
  exact ⟨e.frames, ⟨e.mod.kin.keeps x.base, e.mod.glob.keeps x.base, (let ⟨mb, h1, h2⟩ := e.mod.blt; ⟨mb, h1.keeps x.base, h2⟩), e.mod.nolimit.keeps x.base⟩, x.sub, x.size, x.funs, e.frf, e.hok, e.bare⟩
/-- the captured cells, looked up -/
theorem clo_to {cells : List (Str × Addr)} {names : List (Str × NameKind)} {y : Str} {c : Addr} (hf : ∀ z ∈ names, z.2 = .free → ∃ c, cells.lookup z.1 = some c) (e : (cloFrom cells names []).lookup y = some c) : cells.lookup y = some c := by
  cases cloFrom_mem (PySem.mem_of_lookup e) with
  | inl z => exact absurd z List.not_mem_nil
  | inr z =>
    obtain ⟨d, hd⟩ := hf (y, .free) z.1 rfl
    have hd : cells.lookup y = some d := hd
    have e2 := z.2
    rw [hd] at e2
    rw [hd, show c = d from e2]
theorem clo_of {cells : List (Str × Addr)} {names : List (Str × NameKind)} {y : Str} (h : names.lookup y = some .free) : ∃ c, (cloFrom cells names []).lookup y = some c :=
  mem_lookup (cloFrom_has (acc := []) (PySem.mem_of_lookup h))
theorem lam_startB {A : Around} {outer : List Env} {E : XK} {scope : Scope} {f c' : Addr} {h₁ : Heap} {tk : Nat} {m0 : Str → Option Value} {B : Heap} (I : Inv X pins σ H s) (L : LamG X.N X.env.scope scope) (x : ExtB X H s B) (e0 : Env0 X.prog X.w X.K X.mg B A outer s1 HZ) (hd : A.handled = none)
    (hns : h₁.Ns s1.heap.objs.size m0) (kp : ∀ b o, s1.heap.get? b = some o → h₁.get? b = some o) :
    Inv (lamCx (onB X B) A outer s1 HZ E scope f c') [] σ HZ { s1 with heap := h₁, toks := tk } := by
  have back : ∀ {y c}, (cloFrom X.env.cells scope.names []).lookup y = some c → X.env.cells.lookup y = some c := fun e => clo_to (L.has I.ok) e
  have stays : ∀ {y : Str} {c : Addr} {v : Option Value}, X.env.cells.lookup y = some c → s.heap.IsCell c v → h₁.IsCell c v ∧ HZ c = none := fun {y c v} e z => by
    obtain ⟨o, ho, hv⟩ := z
    obtain ⟨w1, w2⟩ := e0.bs c o (x.cell y c o e ho)
    exact ⟨⟨o, kp _ _ w1, hv⟩, w2⟩
  have none_ex : ∀ b : Addr, b ∈ ([] : List Addr) → False := fun b z => List.not_mem_nil z
  exact
    { ok :=
        { mod := e0.mod, kind := L.kind, glob := rfl, blt := rfl, above := Nat.le_refl _, inj := fun y z c h1 h2 => I.ok.inj y z c (back h1) (back h2)
          has := fun y hy => by
            rcases (show scope.names.lookup y = some .cell ∨ scope.names.lookup y = some .free from hy) with z | z
            · exact ((L.own _ (PySem.mem_of_lookup z)).1 rfl).elim
            · exact clo_of z
          cab := fun y c z => nomatch (show false = true from z)
          hd := fun _ => hd, frames := Around.frames_deeper e0.frames, stk := .inr ⟨rfl, rfl⟩, exf := fun b z => (none_ex b z).elim, bs := e0.bs, bsz := e0.bsz, noex := fun b _ _ z => none_ex b z, exfs := fun b z => (none_ex b z).elim, funs := e0.funs, frf := e0.frf }
      os := rfl, bare := e0.bare, base := Un.kept kp
      loc := by
        refine ⟨m0, hns, fun i y v n sl vis => ?_⟩
        obtain ⟨_, _, known⟩ := I.loc
        rcases (show Vis scope y from vis) with z | z | z
        · exact absurd (List.mem_of_getElem? (show X.N[i]? = some y from n)) ((L.own _ (PySem.mem_of_lookup z)).2 rfl)
        · exact ((L.own _ (PySem.mem_of_lookup z)).1 rfl).elim
        · obtain ⟨c, hc⟩ := clo_of (cells := X.env.cells) z
          have up := L.free _ (PySem.mem_of_lookup z) rfl
          obtain ⟨u, rv, w⟩ := known i y v n sl (up.elim (fun q => .inr (.inl q)) fun q => .inr (.inr q))
          refine ⟨u, rv, .inr ⟨.inr z, c, hc, ?_⟩⟩
          rcases w with ⟨loc, _⟩ | ⟨_, d, hd2, cell⟩
          · have loc : X.env.scope.names.lookup y = some .local := loc
            rcases up with q | q <;> exact nomatch (loc.symm.trans (show X.env.scope.names.lookup y = _ from q))
          · obtain rfl : c = d := Option.some.inj ((back hc).symm.trans hd2)
            exact (stays hd2 cell).1
      cell := fun y c e => by
        obtain ⟨v, z⟩ := I.cell y c (back e)
        exact ⟨v, (stays (back e) z).1⟩
      free := e0.hok.fresh (Nat.le_refl _)
      freeC := fun y c e => by
        obtain ⟨v, z⟩ := I.cell y c (back e)
        exact (stays (back e) z).2
      pin := fun q z => nomatch (show q ∈ ([] : List (Addr × Obj)) from z)
      hok := e0.hok.kept kp, len := I.len }
end
/-! ### what a callable does when it is called without arguments, over the ground B, while what is frozen in H0 stays -/
def Act0 (P : Program) (w : World) (K : PySem.W.Frag) (mg : Str → Option Value) (B : Heap) (k : Nat) (H0 : Hp) (f : Addr) (R : XK → Hp → VK → Prop) : Prop :=
  ∀ (A : Around) (outer : List Env) (s1 : Shared) (H1 : Hp) (Q : VK) (E : XK), Room k A → Env0 P w K mg B A outer s1 H1 → KeepF H0 H1 → R E H1 Q →
    (∃ (oc : Value) (od : Option Addr) (fd : FuncData) (osl : Array (Option Value)), s1.heap.get? f = some ⟨oc, od, .func fd, osl⟩) ∧ codeAny (model P w) A (.call (.ref f) ⟨[], []⟩) (CR (L2.CX P w) outer P w H1 s1 Q E) s1
section
variable {P : Program} {w : World} {K : PySem.W.Frag} {mg : Str → Option Value} {B : Heap} {k : Nat} {H H1 : Hp} {f : Addr} {R : XK → Hp → VK → Prop}
theorem Act0.keep (a : Act0 P w K mg B k H f R) (h : KeepF H H1) : Act0 P w K mg B k H1 f R := fun A outer s2 H2 Q E hr e0 k2 => a A outer s2 H2 Q E hr e0 (h.trans k2)
theorem Act0.mono (a : Act0 P w K mg B k H f R) {j : Nat} (h : k ≤ j) : Act0 P w K mg B j H f R := fun A outer s2 H2 Q E hr => a A outer s2 H2 Q E (hr.mono h)
theorem Act0.imp (a : Act0 P w K mg B k H f R) {R' : XK → Hp → VK → Prop} (h : ∀ E H Q, R' E H Q → R E H Q) : Act0 P w K mg B k H f R' := fun A outer s2 H2 Q E hr e0 u r => a A outer s2 H2 Q E hr e0 u (h _ _ _ r)
end
/-- a ground over the state in which X stands -/
def Zb (X : Cx) (σ : L2.St) (H : Hp) (B : Heap) : Prop := ∃ (pins : List (Addr × Obj)) (s : Shared), Inv X pins σ H s ∧ ExtB X H s B
/-- a lambda made in X: whatever X's names hold when it is handed on -/
def Acts (X : Cx) (k : Nat) (R : L2.St → XK → Hp → VK → Prop) (f : Addr) (H : Hp) : Prop :=
  ∀ H2, KeepF H H2 → ∀ (σ : L2.St) (B : Heap), Zb X σ H2 B → Act0 X.prog X.w X.K X.mg B k H2 f (R σ)
theorem Acts.keep {X : Cx} {k : Nat} {R : L2.St → XK → Hp → VK → Prop} {f : Addr} {H H1 : Hp} (a : Acts X k R f H) (h : KeepF H H1) : Acts X k R f H1 := fun H2 h2 => a H2 (h.trans h2)
section
variable {X : Cx}
theorem act_lam {k : Nat} {params : Arguments} {body : Expr} {scope : Scope} {dV : Value} {f : Addr} {H : Hp} {t : XK → TE} (L : LamG X.N X.env.scope scope) (l : LamAt (X.env.qual ++ "<lambda>") params body scope (cloFrom X.env.cells scope.names []) dV f H)
    (hbind : ∀ (s1 : Shared) (H1 : Hp) (c : Addr) (doc pm ctv : Value), KeepF H H1 → HOk X.prog X.w H1 s1.heap → ∃ binds : List (Str × Value), (∀ y ∈ binds, scope.names.lookup y.1 = some .local) ∧
      BindsTo s1 (PySem.W.kdv_fn "<lambda>" (X.env.qual ++ "<lambda>") params (.expr body) scope (cloFrom X.env.cells scope.names []) dV doc pm (.ref c) ctv) ⟨[], []⟩ binds)
    (hbody : ∀ (B : Heap) (A : Around) (outer : List Env) (s : Shared) (H : Hp) (E : XK) (f c' : Addr), Room k (A.deeper (lamEnv X scope s.heap.objs.size f c')) → PE (lamCx (onB X B) A outer s H E scope f c') body (t E)) :
    Acts X (k + 1) (fun σ E H Q => t E σ H Q) f H := by
  rintro H2 kp σ B ⟨pins, s, I, xb⟩ A outer s1 H1 Q E hr e0 kf r
  obtain ⟨c, o, oc, vs, tk, ⟨doc, pm, ctv, rfl⟩, hf, hc, hd, hv⟩ := l.keep (kp.trans kf)
  have of1 := (e0.hok f _ hf).1
  have oc1 := (e0.hok c _ hc).1
  refine ⟨⟨_, _, _, _, of1⟩, ?_⟩
  refine PySem.W.kla_callFunE hr.depth of1 rfl L.co L.gen rfl ⟨c, oc, vs, tk, rfl, oc1, hd, hv⟩ ?_
  obtain ⟨binds, hl, hb⟩ := hbind s1 H1 c doc pm ctv (kp.trans kf) e0.hok
  have lim : s1.heap.NoLimit := e0.mod.nolimit.keeps fun b o e => (e0.bs b o e).1
  refine hb _ _ _ _ (wpAny_newFunctionEnv (fun y hy => (L.own y hy).1) hl (fun h₁ hns hsb => ⟨lim.fresh _ hsb, ?_⟩) L.kind)
  show codeAny _ _ (.expr body (lamEnv X scope s1.heap.objs.size f c)) _ _
  have kp1 : ∀ b o, s1.heap.get? b = some o → h₁.get? b = some o := fun b o e => hsb.extBut b o (Nat.ne_of_lt (Heap.lt_size e)) (Heap.get?_push_of_some _ e)
  have J : Inv (lamCx (onB X B) A outer s1 H1 E scope f c) [] σ H1 { s1 with heap := h₁, toks := s1.toks + binds.length } := lam_startB I L xb e0 hr.hd hns kp1
  refine PySem.W.kla_codeExpr (wpAny_mono ((hbody B A outer s1 H1 E f c (hr.deeper _)).run [] _ _ H1 Q J r) (fun v s' hq => ?_) fun e s' hq => hq)
  obtain ⟨w', H', J', rv, q⟩ := hq
  exact ⟨w', H', J'.os, J'.bare, J'.base, J'.hok, rv, q⟩
/-- the reading of a lambda -/
def tLam (X : Cx) (k : Nat) (T : List (Addr × Str)) (t : XK → TE) : TE := fun σ H Q => TabF T H ∧ ∀ (f : Addr) (H1 : Hp), ExtN H H1 → TabF T H1 → Acts X k (fun σ E H Q => t E σ H Q) f H1 → Q (.ref f) H1
theorem pe_lam {T : List (Addr × Str)} {c P : Addr} {k : Nat} {params : Arguments} {body : Expr} {scope : Scope} {pos : Pos} {t : XK → TE} (TB : TabB X.base X.mg c P) (hcode : X.env.code = .ref c)
    (hm : (P, X.env.qual ++ "<lambda>") ∈ T) (hu : ∀ p ∈ T, p.1 = P → p.2 = X.env.qual ++ "<lambda>") (L : LamG X.N X.env.scope scope) (hdef : defaultsOf params X.env = ([], []))
    (hbind : ∀ (q : Str) (cl : List (Str × Addr)) (doc pm cv ctv : Value), bindArgs (PySem.W.kdv_fn "<lambda>" q params (.expr body) scope cl .none doc pm cv ctv) ⟨[], []⟩ = pure [])
    (hbody : ∀ (B : Heap) (A : Around) (outer : List Env) (s : Shared) (H : Hp) (E : XK) (f c' : Addr), Room k (A.deeper (lamEnv X scope s.heap.objs.size f c')) → PE (lamCx (onB X B) A outer s H E scope f c') body (t E)) :
    PE X (.Lambda params body scope pos) (tLam X (k + 1) T t) := by
  refine ⟨fun pins s σ H Q I h => ?_⟩
  obtain ⟨hT, h⟩ := h
  refine PySem.W.kla_eval hdef ?_
  rw [makeFunction_eq]
  simp only [List.zip_nil_right, List.filterMap_nil, List.isEmpty_nil, if_true, pure_bind]
  refine lam_tail I TB hcode hm hu hT (L.has I.ok) fun f H1 s' I1 eN T1 l => ?_
  exact ⟨.ref f, H1, I1, rfl, h f H1 eN T1 (act_lam L l (fun s1 H1 c doc pm ctv _ _ => ⟨[], fun y hy => absurd hy (by simp), .of_eq (hbind _ _ _ _ _ _)⟩) hbody)⟩
/-- lambda a = e: .. -/
theorem pe_lam1 {T : List (Addr × Str)} {c P : Addr} {k : Nat} {params : Arguments} {body : Expr} {scope : Scope} {pos : Pos} {t : XK → TE} {a : Str} {e : Expr} {te : TE} (TB : TabB X.base X.mg c P) (hcode : X.env.code = .ref c)
    (hm : (P, X.env.qual ++ "<lambda>") ∈ T) (hu : ∀ p ∈ T, p.1 = P → p.2 = X.env.qual ++ "<lambda>") (L : LamG X.N X.env.scope scope) (hd1 : params.defaults = [e]) (hk0 : params.kw_defaults = []) (he : PE X e te) (hla : scope.names.lookup a = some .local)
    (hbind : ∀ (q : Str) (cl : List (Str × Addr)) (doc pm cv ctv : Value) (d : Addr), ∃ ka : Option (Array Value) → Sem (List (Str × Value)), bindArgs (PySem.W.kdv_fn "<lambda>" q params (.expr body) scope cl (.ref d) doc pm cv ctv) ⟨[], []⟩ = seqItems? (.ref d) >>= ka ∧ ∀ u, ka (some #[u]) = pure [(a, u)])
    (hbody : ∀ (B : Heap) (A : Around) (outer : List Env) (s : Shared) (H : Hp) (E : XK) (f c' : Addr), Room k (A.deeper (lamEnv X scope s.heap.objs.size f c')) → PE (lamCx (onB X B) A outer s H E scope f c') body (t E)) :
    PE X (.Lambda params body scope pos) (fun σ H Q => te σ H fun v H1 => ∀ d, H1 d = none → tLam X (k + 1) T t σ (upd H1 d (.tup [v])) Q) := by
  refine ⟨fun pins s σ H Q I h => ?_⟩
  refine PySem.W.kdv_lam (by rw [hd1]; rfl) hk0 ?_
  rw [hd1]
  refine PySem.W.kdv_all1 (thn (he.run pins s σ H _ I h) fun u s1 ⟨v, H1, I1, r, q⟩ => PySem.W.kdv_all0 ?_)
  rw [makeFunction_eq]
  simp only [List.zip_nil_right, List.filterMap_nil, List.isEmpty_nil, List.isEmpty_cons, if_true, if_false, Bool.false_eq_true, pure_bind]
  refine wpAny_bind (wpAny_newTextTuple ?_)
  have nd : H1 s1.heap.objs.size = none := I1.hok.fresh (Nat.le_refl _)
  have gt : (s1.heap.push { cls := .type "tuple", data := .seq [u].toArray }).get? s1.heap.objs.size = some { cls := .type "tuple", data := .seq [u].toArray } := Heap.get?_push_size _ rfl
  have I2 := I1.laid (a := s1.heap.objs.size) (o := .tup [v]) (t' := s1.toks) (h' := s1.heap.push { cls := .type "tuple", data := .seq [u].toArray }) (fun b w e => Heap.get?_push_of_some _ e) (Nat.le_refl _) ⟨(show 1 ≤ sizeLine by decide), [u], .cons r .nil, ⟨_, gt, rfl, _, rfl⟩⟩
  obtain ⟨hT, q⟩ := q s1.heap.objs.size nd
  refine lam_tail I2 TB hcode hm hu hT (L.has I.ok) fun f H2 s' I3 eN T1 l => ?_
  have tup2 : H2 s1.heap.objs.size = some (.tup [v]) := eN _ _ upd_same fun ps z => by cases z
  refine ⟨.ref f, H2, I3, rfl, q f H2 eN T1 (act_lam L l (fun s2 H3 c doc pm ctv kp ok => ?_) hbody)⟩
  obtain ⟨_, its, rv, ot, ho, _, n, hdt⟩ := ok _ _ (kp _ _ tup2 True.intro)
  cases rv with
  | cons r1 rr =>
    cases rr
    obtain ⟨ka, hb, hka⟩ := hbind (X.env.qual ++ "<lambda>") (cloFrom X.env.cells scope.names []) doc pm (.ref c) ctv s1.heap.objs.size
    exact ⟨[(a, _)], fun y hy => by rw [List.mem_singleton.mp hy]; exact hla, .of_defaults (T := s1.heap.objs.size) rfl ho hdt hb (hka _)⟩
/-- a(), a name that holds a callable of known doing -/
theorem pe_callA {H0 : Hp} {k i : Nat} {f : Addr} {R : XK → Hp → VK → Prop} {W : WX} {E : XK} {a : Str} {p1 p2 : Pos} (hA : Act0 X.prog X.w X.K X.mg X.base k H0 f R) (tk : Takes X W) (hW : ∀ cls d σ' H', E cls d H' → W cls d σ' H')
    (hr : Room k X.A) (hN : X.N[i]? = some a) (hv : Vis X.env.scope a) (hd : (a == ("__debug__" : Str)) = false := by decide) (hcd : (a == ("__classdict__" : Str)) = false := by decide) :
    PE X (.Call (.Name a p1) [] [] p2) (fun σ H Q => σ[i]? = some (some (.ref f)) ∧ KeepF H0 H ∧ R E H Q) := by
  refine ⟨fun pins s σ H Q I h => ?_⟩
  obtain ⟨hs, hk, hR⟩ := h
  refine wpAny_Call_Name_kw (thn ((pe_var (pos := p1) (i := i) hN hv hd hcd).run pins s σ H (fun v H1 => v = .ref f ∧ H1 = H) I ⟨.ref f, hs, rfl, rfl⟩) fun u s1 ⟨v, H1, I1, r1, q1⟩ => ?_)
  obtain ⟨ev, eH⟩ := q1
  subst ev
  rw [eH] at I1
  obtain rfl : u = Value.ref f := r1
  obtain ⟨fo, rc⟩ := hA X.A X.stack s1 H Q E hr I1.env0 hk hR
  refine PySem.W.callWith_F0 fo ?_
  have hx : Passes (L2.CX X.prog X.w) X E := passes_call tk hW
  refine wpAny_call (codeAny_mono rc fun r s' hq => ?_)
  cases r with
  | error e => exact hx pins σ H s1 e s' I1 hq
  | ok fl =>
    cases fl with
    | ret u => exact I1.after hq
    | next => exact False.elim hq
    | brk => exact False.elim hq
    | cont => exact False.elim hq
/-- return a(), where what a lets out is taken, at these names -/
theorem pss_retA {H0 : Hp} {k i : Nat} {f : Addr} {R : XK → Hp → VK → Prop} {W : WX} {a : Str} {p1 p2 p3 : Pos} (hA : Act0 X.prog X.w X.K X.mg X.base k H0 f R) (tk : Takes X W)
    (hr : Room k X.A) (hN : X.N[i]? = some a) (hv : Vis X.env.scope a) (hd : (a == ("__debug__" : Str)) = false := by decide) (hcd : (a == ("__classdict__" : Str)) = false := by decide) :
    PSs X [.Return (some (.Call (.Name a p1) [] [] p2)) p3] (fun D σ H => σ[i]? = some (some (.ref f)) ∧ KeepF H0 H ∧ R (fun cls d H' => W cls d σ H') H D.rt) := by
  refine pss_one (ps_ret (pos := p3) (te := fun σ H Q => σ[i]? = some (some (.ref f)) ∧ KeepF H0 H ∧ R (fun cls d H' => W cls d σ H') H Q) ?_)
  refine ⟨fun pins s σ H Q I h => ?_⟩
  obtain ⟨hs, hk, hR⟩ := h
  refine wpAny_Call_Name_kw (thn ((pe_var (pos := p1) (i := i) hN hv hd hcd).run pins s σ H (fun v H1 => v = .ref f ∧ H1 = H) I ⟨.ref f, hs, rfl, rfl⟩) fun u s1 ⟨v, H1, I1, r1, q1⟩ => ?_)
  obtain ⟨ev, eH⟩ := q1
  subst ev
  rw [eH] at I1
  obtain rfl : u = Value.ref f := r1
  obtain ⟨fo, rc⟩ := hA X.A X.stack s1 H Q (fun cls d H' => W cls d σ H') hr I1.env0 hk hR
  refine PySem.W.callWith_F0 fo ?_
  refine wpAny_call (codeAny_mono rc fun r s' hq => ?_)
  cases r with
  | error e => exact passAt tk σ pins H s1 e s' I1 hq
  | ok fl =>
    cases fl with
    | ret u => exact I1.after hq
    | next => exact False.elim hq
    | brk => exact False.elim hq
    | cont => exact False.elim hq
end
/-- a call over a greater ground: the callee is handed lambdas -/
def tCallZ (X : Cx) (sp : Heap → Sp) (dvs : List V) (t : TA) : TE := fun σ H Q => t σ H fun vs H1 => ∀ B, Zb X σ H1 B → sp B (vs ++ dvs) H1 Q L2.E0
section
variable {X : Cx} {k : Nat} {f : Addr} {fd : FuncData} {ps : List Str} {sp : Heap → Sp} {dvs : List V} {ds : List Value} {x : Str} {p pos : Pos} {e : Expr} {es : List Expr} {t : TA}
theorem pe_callZ (hfn : ∀ x c, X.env.cells.lookup x = some c → X.fn x = true) (F : ∀ B, FnOk X.prog X.w X.K X.mg B L2.CX0 k f fd ps (sp B)) (hr : Room k X.A) (hg : Gl X x) (hm : X.mg x = some (.ref f)) (hk : PySem.W.keepIn X.K (.ref f) = true) (hb : Binds X.K fd ps ds) (hd : Vals dvs ds)
    (ha : PA X (e :: es) t) (hdb : (x == ("__debug__" : Str)) = false := by decide) (he : starEach (e :: es) X.env = (false, eval e X.env) :: starEach es X.env := by rfl) (hpl : (backTo pos (starEach es X.env)).any (·.1) = false := by rfl) :
    PE X (.Call (.Name x p) (e :: es) [] pos) (tCallZ X sp dvs t) := by
  refine ⟨fun pins s σ H Q I h => ?_⟩
  refine wpAny_Call_Name_kw (ld_glob I hg hm ?_ hdb)
  refine PySem.W.callWith_K (h₀ := X.base) I.ok.mod.kin hk (thn (ha.run pos pins s σ H _ I h) fun us s1 ⟨vs, H1, I1, r, q⟩ => ⟨I1.kIn, ?_⟩) he hpl
  obtain ⟨B, xb⟩ := extB_ex I1 hfn
  have h := q B ⟨pins, s1, I1, xb⟩
  have r2 : Vals (vs ++ dvs) (us ++ ds) := r.append hd
  have hl : (us ++ ds).length = ps.length := by rw [← r2.length]; exact (F B).len _ _ _ _ h
  refine wpAny_call (codeAny_mono ((F B).run X.A X.stack s1 H1 ⟨us, []⟩ (us ++ ds) (vs ++ dvs) Q L2.E0 hr (xb.env0 I1) (hb s1 us I1.kIn hl) r2 h) fun r s' hq => ?_)
  cases r with
  | error e => exact hq.elim
  | ok fl =>
    cases fl with
    | ret u => exact I1.after hq
    | next => exact False.elim hq
    | brk => exact False.elim hq
    | cont => exact False.elim hq
end
section
variable {X : Cx}
/-- the name that the codes of a def's lambdas bear -/
def lamQ (q : Str) : Str := q ++ ".<locals>." ++ "<lambda>"
/-- one table -/
theorem pe_lamS {c P : Addr} {q : Str} {k : Nat} {params : Arguments} {body : Expr} {scope : Scope} {pos : Pos} {t : XK → TE} (TB : TabB X.base X.mg c P) (hcode : X.env.code = .ref c) (hq : X.env.qual ++ "<lambda>" = q) (L : LamG X.N X.env.scope scope) (hdef : defaultsOf params X.env = ([], []))
    (hbind : ∀ (q : Str) (cl : List (Str × Addr)) (doc pm cv ctv : Value), bindArgs (PySem.W.kdv_fn "<lambda>" q params (.expr body) scope cl .none doc pm cv ctv) ⟨[], []⟩ = pure [])
    (hbody : ∀ (B : Heap) (A : Around) (outer : List Env) (s : Shared) (H : Hp) (E : XK) (f c' : Addr), Room k (A.deeper (lamEnv X scope s.heap.objs.size f c')) → PE (lamCx (onB X B) A outer s H E scope f c') body (t E)) :
    PE X (.Lambda params body scope pos) (tLam X (k + 1) [(P, q)] t) := by
  subst hq
  exact pe_lam TB hcode (List.mem_singleton.mpr rfl) (fun p hp _ => by rw [List.mem_singleton.mp hp]) L hdef hbind hbody
theorem pe_lam1S {c P : Addr} {q : Str} {k : Nat} {params : Arguments} {body : Expr} {scope : Scope} {pos : Pos} {t : XK → TE} {a : Str} {e : Expr} {te : TE} (TB : TabB X.base X.mg c P) (hcode : X.env.code = .ref c) (hq : X.env.qual ++ "<lambda>" = q)
    (L : LamG X.N X.env.scope scope) (hd1 : params.defaults = [e]) (hk0 : params.kw_defaults = []) (he : PE X e te) (hla : scope.names.lookup a = some .local)
    (hbind : ∀ (q : Str) (cl : List (Str × Addr)) (doc pm cv ctv : Value) (d : Addr), ∃ ka : Option (Array Value) → Sem (List (Str × Value)), bindArgs (PySem.W.kdv_fn "<lambda>" q params (.expr body) scope cl (.ref d) doc pm cv ctv) ⟨[], []⟩ = seqItems? (.ref d) >>= ka ∧ ∀ u, ka (some #[u]) = pure [(a, u)])
    (hbody : ∀ (B : Heap) (A : Around) (outer : List Env) (s : Shared) (H : Hp) (E : XK) (f c' : Addr), Room k (A.deeper (lamEnv X scope s.heap.objs.size f c')) → PE (lamCx (onB X B) A outer s H E scope f c') body (t E)) :
    PE X (.Lambda params body scope pos) (fun σ H Q => te σ H fun v H1 => ∀ d, H1 d = none → tLam X (k + 1) [(P, q)] t σ (upd H1 d (.tup [v])) Q) := by
  subst hq
  exact pe_lam1 TB hcode (List.mem_singleton.mpr rfl) (fun p hp _ => by rw [List.mem_singleton.mp hp]) L hd1 hk0 he hla hbind hbody
end
end Lm

set_option linter.all false
set_option Elab.async false
set_option maxRecDepth 100000
set_option maxHeartbeats 4000000
/-! told: what the rows do with a caught error: lists of truths, count, index -/
namespace Td
open PySem PySem.Spec PyProof.Rows L2
theorem bools_of {bs : List Bool} : ∀ {us : List Value}, Vals (bs.map V.bl) us → us = bs.map Value.bool := by
  induction bs with
  | nil =>
    intro us r
    cases r
    rfl
  | cons b bs ih =>
    intro us r
    cases r with
    | cons r1 rr =>
      cases r1
      rw [ih rr]
      rfl
section
variable {X : Cx}
def isT : Value → Bool
  | .bool b => b
  | _ => false
theorem eq_isT {A : Around} {s : Shared} {bs : List Bool} : ∀ y ∈ (bs.map Value.bool).toArray, SeqAt.EqAt A s y (.bool true) (isT y) := fun y hy => by
  have hy : y ∈ bs.map Value.bool := by simpa using hy
  obtain ⟨b, _, rfl⟩ := List.mem_map.mp hy
  have q := SeqAt.EqAt.bool_bool (A := A) (s := s) b true
  rw [show (b == true) = isT (.bool b) from by cases b <;> rfl] at q
  exact q
theorem countP_isT (bs : List Bool) : (bs.map Value.bool).countP isT = bs.count true := by
  induction bs with
  | nil => rfl
  | cons b bs ih =>
    rw [List.map_cons, List.countP_cons, List.count_cons, ih]
    cases b <;> rfl
/-- l.count(True) -/
def rCntT : V → List V → Hp → VK → Prop := fun x xs H Q => ∃ (p : Addr) (bs : List Bool), x = .ref p ∧ xs = [.bl true] ∧ H p = some (.lst (bs.map V.bl)) ∧ Q (.int (bs.count true : Nat)) H
theorem mt_countT : MtR X "list.count" rCntT := by
  intro pins s σ H x xs v us Q I rx rxs h
  obtain ⟨p, bs, rfl, rfl, hs, q⟩ := h
  cases rx
  obtain ⟨u, rfl, ru⟩ := rxs.one
  cases ru
  obtain ⟨its, rv, ⟨⟨cls, dd, data, sl⟩, n, ho, hc, hdn, hd⟩, hlen⟩ := I.list (.inl (.inl hs))
  simp only at hc hd
  subst hc hd
  have hi := bools_of rv
  subst hi
  refine call_meets PySem.F.slot_list_count ⟨_, ho, rfl⟩ PySem.F.entry_list_count (PySem.F.args_list_count_2 _ _)
    (SeqAt.list_countAt p (bs.map Value.bool).toArray n dd sl (.bool true) isT) ⟨ho, eq_isT, ?_⟩
  have ec : (bs.map Value.bool).toArray.toList.countP isT = bs.count true := countP_isT bs
  refine ⟨.int (bs.count true : Nat), H, I.tok _, ⟨s.toks, ?_⟩, q⟩
  show Value.int (((bs.map Value.bool).toArray.toList.countP isT : Nat) : Int) s.toks = Value.int ((bs.count true : Nat) : Int) s.toks
  rw [ec]
/-- l.index(True), where it stands -/
def rIdxT : V → List V → Hp → VK → Prop := fun x xs H Q => ∃ (p : Addr) (bs : List Bool) (j : Nat), x = .ref p ∧ xs = [.bl true] ∧ H p = some (.lst (bs.map V.bl)) ∧ bs[j]? = some true ∧ (∀ m : Nat, m < j → bs[m]? = some false) ∧ Q (.int (j : Nat)) H
theorem mt_indexT : MtR X "list.index" rIdxT := by
  intro pins s σ H x xs v us Q I rx rxs h
  obtain ⟨p, bs, j, rfl, rfl, hs, hj, hno, q⟩ := h
  cases rx
  obtain ⟨u, rfl, ru⟩ := rxs.one
  cases ru
  obtain ⟨its, rv, ⟨⟨cls, dd, data, sl⟩, n, ho, hc, hdn, hd⟩, hlen⟩ := I.list (.inl (.inl hs))
  simp only at hc hd
  subst hc hd
  have hi := bools_of rv
  subst hi
  have hjn : j < bs.length := (List.getElem?_eq_some_iff.mp hj).1
  rw [List.length_map] at hlen
  have hsz : bs.length ≤ 1152921504606846975 := Nat.le_trans hlen (by rw [sizeLine_eq]; decide)
  have at_ : ∀ (m : Nat) (hm : m < (bs.map Value.bool).toArray.size), (bs.map Value.bool).toArray[m] = .bool (bs[m]'(by simpa using hm)) := fun m hm => by simp
  refine call_meets PySem.F.slot_list_index ⟨_, ho, rfl⟩ PySem.F.entry_list_index (PySem.F.args_list_index_2 _ _)
    (SeqAt.list_indexAt p (bs.map Value.bool).toArray n dd sl (.bool true) isT j (by simpa using hjn) (by omega) ?_ fun m hm hmj => ?_) ⟨ho, eq_isT, ?_⟩
  · rw [at_ j (by simpa using hjn)]
    exact (List.getElem?_eq_some_iff.mp hj).2
  · rw [at_ m hm]
    obtain ⟨_, e⟩ := List.getElem?_eq_some_iff.mp (hno m hmj)
    show bs[m] = false
    exact e
  · exact ⟨.int (j : Nat), H, I.tok _, ⟨s.toks, rfl⟩, q⟩
end
section
variable {X : Cx} {T : String} {name : Str} {id : String} {r : V → List V → Hp → VK → Prop} {o e : Expr} {es : List Expr} {to : TE} {t : TA} {apos cpos : Pos}
/-- a method of a built-in thing, where a reading must not speak of X.K -/
theorem pe_bmS (K : PySem.W.Frag) (hK : X.K = K) (pa : PlainAttrs T) (slot : Slot T name id) (hty : typeOf (.builtin id) = pure (.type "method_descriptor")) (hm : MtR X id r) (ho : PE X o to) (ha : PA X (e :: es) t)
    (hbase : attributeBase o name X.env (eval o X.env) = eval o X.env := by rfl)
    (hfew : ((backTo cpos (starEach (e :: es) X.env)).all (fun x => !x.1) && (backToKw cpos (keywordEach [] X.env)).all (fun x => x.1.isSome)
      && decide ((e :: es).length + ([] : List Keyword).length + (if ([] : List Keyword).isEmpty then 0 else 1) < 30)) = true := by rfl)
    (hline : (apos.endLine == cpos.line) = true := by rfl) (hs : starEach (e :: es) X.env = (false, eval e X.env) :: starEach es X.env := by rfl) (hplain : (backTo cpos (starEach es X.env)).any (·.1) = false := by rfl) :
    PE X (.Call (.Attribute o name apos) (e :: es) [] cpos) (tBM K T r to t) := by
  subst hK
  exact pe_bm pa slot hty hm ho ha hbase hfew hline hs hplain
end
/-! ### l += m of lists -/
theorem cutV_to (xs : List V) (k : Nat) : cutV xs none (some (k : Int)) = xs.take k := by
  unfold cutV
  rw [HT.sIx_none, HT.sIx_nat, List.drop_zero, Nat.sub_zero]
  by_cases h : k ≤ xs.length
  · rw [Nat.min_eq_left h]
  · rw [Nat.min_eq_right (by omega), List.take_length, List.take_of_length_le (by omega)]

theorem list_hfi : fillsInplaceSlot (.type "list") "add" (Operator.Add == .Add) = pure false := by
  unfold fillsInplaceSlot
  show (typeLookup (.type "list") (dunderI "add") >>= fun fi => pure (fi.isSome && !isSeqSlot fi)) = pure false
  rw [PySem.F.slot_list_iadd.lookup]
  rfl
theorem list_seqI : seqSlot? (.type "list") (dunderI "add") = pure (some (.builtin "list.__iadd__")) := by
  unfold seqSlot?
  rw [PySem.F.slot_list_iadd.lookup]
  rfl
section
variable {X : Cx}
def rExt : V → V → Hp → VK → Prop := fun x y H Q => ∃ l b xs zs, x = .ref l ∧ y = .ref b ∧ H l = some (.lst xs) ∧ H b = some (.lst zs) ∧ xs.length + zs.length ≤ sizeLine ∧ Q (.ref l) (upd H l (.lst (xs ++ zs)))
theorem in_ext : InOp X .Add rExt := by
  intro pins s σ H x y u v Q I rx ry h
  obtain ⟨l, b, xs, zs, rfl, rfl, hH, hB, hz, q⟩ := h
  cases rx
  cases ry
  obtain ⟨z, its, n, r, hl, e⟩ := I.lstM hH
  obtain ⟨z2, its2, n2, r2, hl2, e2⟩ := I.lstM hB
  have hsz : its.toArray.size + its2.toArray.size ≤ sizeLine := by rw [List.size_toArray, List.size_toArray]; omega
  have hlong : ¬ (!its.toArray.isEmpty && Builtin.List.listTooLong (its.toArray.size + its2.toArray.size)) = true := by
    rw [notLongL hsz, Bool.and_false]
    exact Bool.false_ne_true
  have ha : s.TypeIs (.ref l) "list" := ⟨_, e, rfl⟩
  have hb : s.TypeIs (.ref b) "list" := ⟨_, e2, rfl⟩
  unfold inplaceOp
  refine wpAny_holding ?_
  refine wpAny_bind (wpAny_typeOf ha (wpAny_bind (wpAny_of_eq list_hfi ?_)))
  show wpAny _ _ (if false = true then _ else _) _ _ _
  rw [if_neg Bool.false_ne_true]
  refine wpAny_bind (PySem.wpAny_binaryOp1_none (nm := "add") ha hb PySem.noFill_list_add ?_)
  refine wpAny_bind (wpAny_of_eq list_seqI ?_)
  refine wpAny_bind (wpAny_rule ?_)
  refine call_meets PySem.F.slot_list_iadd ha PySem.F.entry_list_iadd (PySem.F.args_list_iadd_2 _ _)
    (AutoSeq1.list___iadd___list_list_0 l its.toArray n b its2.toArray n2 hlong (by rw [List.size_toArray]; omega) (by omega)) ⟨e, e2, ?_⟩
  refine ⟨.ref l, _, I.lset (its' := its ++ its2) hH e (by simp) (r.append r2) ?_, rfl, q⟩
  rw [List.length_append]
  omega
end
/-! ### the program's own errors -/
/-- an own exception class without own __init__, that is raised -/
structure EKls (K : PySem.W.Frag) (mg : Str → Option Value) (x : Str) (C : Addr) : Prop where
  gC : mg x = some (.ref C)
  kC : PySem.W.keepIn K (.ref C) = true
  ex : PySem.W.excIn K C [.type "ValueError", .type "Exception", .type "BaseException", .type "object"] "ValueError.__new__" = true
  exC : PySem.W.subIn K (.ref C) (.type "BaseException") = some true
  tyC : PySem.W.typeIn K (.ref C) = some (.type "type")
/-- what the class D, the i-th of Cs, says where its errors are caught -/
structure Kind (K : PySem.W.Frag) (CS : Addr) (Cs : List Addr) (i : Nat) (D : Addr) : Prop where
  is : ExcC K D
  st : PySem.W.exmOne K (.ref D) (.ref CS) = some true
  ve : PySem.W.kitOne K (.ref D) (.type "ValueError") = some true
  at_ : ∀ j c, Cs[j]? = some c → PySem.W.kitOne K (.ref D) (.ref c) = some (decide (j = i))
theorem kit_no {K : PySem.W.Frag} {D C : Addr} (h2 : PySem.W.isClsIn K C = true) (h3 : PySem.W.typeIn K (.ref C) = some (.type "type")) (h4 : PySem.W.subIn K (.ref D) (.ref C) = some false) (n : D ≠ C) : PySem.W.kitOne K (.ref D) (.ref C) = some false := by
  have e1 : ((Value.ref D : Value) == .ref C) = false := by
    refine Bool.eq_false_iff.mpr fun q => n ?_
    exact Value.ref.inj (beq_iff_eq.mp q)
  have e2 : ((PySem.W.clsIn K C).isSome && PySem.W.typeIn K (.ref C) == some (.type "type")) = true := by
    have h2' : (PySem.W.clsIn K C).isSome = true := h2
    rw [h2', h3] <;> rfl
  show (if ((Value.ref D : Value) == .ref C) = true then some true else (if ((PySem.W.clsIn K C).isSome && PySem.W.typeIn K (.ref C) == some (.type "type")) = true then PySem.W.subIn K (.ref D) (.ref C) else none)) = some false
  rw [if_neg (by rw [e1]; exact Bool.false_ne_true), if_pos e2]
  exact h4
theorem kit_self {K : PySem.W.Frag} {D : Addr} : PySem.W.kitOne K (.ref D) (.ref D) = some true := by
  unfold PySem.W.kitOne
  rw [if_pos (beq_self_eq_true _)]
theorem kit_ve {K : PySem.W.Frag} {D : Addr} (h : PySem.W.subIn K (.ref D) (.type "ValueError") = some true) : PySem.W.kitOne K (.ref D) (.type "ValueError") = some true := by
  have e1 : ((Value.ref D : Value) == .type "ValueError") = false := rfl
  have e2 : PySem.W.kitMeta "ValueError" = true := by decide +kernel
  show (if ((Value.ref D : Value) == .type "ValueError") = true then some true else (if PySem.W.kitMeta "ValueError" = true then PySem.W.subIn K (.ref D) (.type "ValueError") else none)) = some true
  rw [if_neg (by rw [e1]; exact Bool.false_ne_true), if_pos e2]
  exact h
theorem exm_of {K : PySem.W.Frag} {D S : Addr} (h1 : PySem.W.subIn K (.ref S) (.type "BaseException") = some true) (h2 : PySem.W.isClsIn K S = true) (h3 : PySem.W.typeIn K (.ref S) = some (.type "type")) (h4 : PySem.W.subIn K (.ref D) (.ref S) = some true) :
    PySem.W.exmOne K (.ref D) (.ref S) = some true := by
  have e1 : (PySem.W.subIn K (.ref S) (.type "BaseException") == some true) = true := by rw [h1] <;> rfl
  have e2 : ((PySem.W.clsIn K S).isSome && PySem.W.typeIn K (.ref S) == some (.type "type")) = true := by
    have h2' : (PySem.W.clsIn K S).isSome = true := h2
    rw [h2', h3] <;> rfl
  show (if (PySem.W.subIn K (.ref S) (.type "BaseException") == some true) = true then (if ((PySem.W.clsIn K S).isSome && PySem.W.typeIn K (.ref S) == some (.type "type")) = true then PySem.W.subIn K (.ref D) (.ref S) else none) else none) = some true
  rw [if_pos e1, if_pos e2]
  exact h4
theorem kind_at {K : PySem.W.Frag} {D c0 c1 c2 c3 c4 c5 c6 c7 c8 : Addr} {i : Nat} (h0 : PySem.W.kitOne K (.ref D) (.ref c0) = some (decide (0 = i))) (h1 : PySem.W.kitOne K (.ref D) (.ref c1) = some (decide (1 = i))) (h2 : PySem.W.kitOne K (.ref D) (.ref c2) = some (decide (2 = i)))
    (h3 : PySem.W.kitOne K (.ref D) (.ref c3) = some (decide (3 = i))) (h4 : PySem.W.kitOne K (.ref D) (.ref c4) = some (decide (4 = i))) (h5 : PySem.W.kitOne K (.ref D) (.ref c5) = some (decide (5 = i))) (h6 : PySem.W.kitOne K (.ref D) (.ref c6) = some (decide (6 = i)))
    (h7 : PySem.W.kitOne K (.ref D) (.ref c7) = some (decide (7 = i))) (h8 : PySem.W.kitOne K (.ref D) (.ref c8) = some (decide (8 = i))) : ∀ j c, [c0, c1, c2, c3, c4, c5, c6, c7, c8][j]? = some c → PySem.W.kitOne K (.ref D) (.ref c) = some (decide (j = i)) := by
  intro j c hj
  rcases j with _ | _ | _ | _ | _ | _ | _ | _ | _ | j
  · cases hj; exact h0
  · cases hj; exact h1
  · cases hj; exact h2
  · cases hj; exact h3
  · cases hj; exact h4
  · cases hj; exact h5
  · cases hj; exact h6
  · cases hj; exact h7
  · cases hj; exact h8
  · cases hj
section
variable {X : Cx} {x : Str} {C : Addr} {p pos pos2 : Pos} {e : Expr} {es : List Expr} {t : TA} {W : WX}
/-- raise X(e, ..) -/
theorem ps_raiseE (hc : X.calm = true) (tk : Takes X W) (c : EKls X.K X.mg x C) (hg : Gl X x) (ha : PA X (e :: es) t) (hdb : (x == ("__debug__" : Str)) = false := by decide)
    (he : starEach (e :: es) X.env = (false, eval e X.env) :: starEach es X.env := by rfl) (hpl : (backTo pos (starEach es X.env)).any (·.1) = false := by rfl) :
    PS X (.Raise (some (.Call (.Name x p) (e :: es) [] pos)) none pos2) (fun _ σ H => t σ H fun vs H1 => vs.length ≤ sizeLine ∧ W (.ref C) none σ H1) :=
  ps_raise hc tk (pmk_ownA PySem.F.excBase_ValueError c.ex c.gC c.kC (raises_own c.exC c.tyC) hg ha hdb he hpl)
def IsB (K : PySem.W.Frag) (D : Addr) (c : V) (b : Bool) : Prop := ∃ cv, (∀ u, RelV c u → u = cv) ∧ PySem.W.kitOne K (.ref D) cv = some b
theorem isb_ref {K : PySem.W.Frag} {D C : Addr} {b : Bool} (h : PySem.W.kitOne K (.ref D) (.ref C) = some b) : IsB K D (.ref C) b := ⟨.ref C, fun _ r => r, h⟩
theorem isb_ty {K : PySem.W.Frag} {D : Addr} {n : String} {b : Bool} (h : PySem.W.kitOne K (.ref D) (.type n) = some b) : IsB K D (.ty n) b := ⟨.type n, fun _ r => r, h⟩
/-- isinstance(e, c), e the caught error -/
def rIsG (K : PySem.W.Frag) (cls : Value) (d : Option Addr) (a : Addr) : List V → Hp → VK → Prop := fun xs H Q => ∃ D, cls = .ref D ∧ d = none ∧ ExcC K D ∧ ∃ (c : V) (b : Bool), xs = [.ref a, c] ∧ IsB K D c b ∧ Q (.bl b) H
theorem call_isG {a : Addr} {oe : Obj} {cls : Value} {d : Option Addr} {pn : List (Addr × Obj)} (hz : Zc cls d oe) (hf : ∃ vs, oe.data = .fields vs) : CallR (X.suite a ((a, oe) :: pn)) (.builtin "isinstance") (rIsG X.K cls d a) := by
  intro pins s σ H xs us Q I r h
  obtain ⟨D, rfl, rfl, ec, c, b, rfl, ⟨cv, h1, h2⟩, q⟩ := h
  exact call_isE (X := X) ec hz hf pins s σ H _ us Q I r ⟨c, cv, b, rfl, h1, h2, q⟩
end
/-- the kinds' words, in turn -/
def kindW : List Str := ["BadName", "BadNumber", "BadPlan", "BadRow", "BadText", "Gone", "TooGreat", "Twice", "Within"]
/-- told(work): the work's answer, or the pair that tells its error -/
def spTold (P : Program) (w : World) (K : PySem.W.Frag) (mg : Str → Option Value) (CS : Addr) (Cs : List Addr) (k : Nat) (B : Heap) : Sp := fun vs H Q _ => ∃ (f : Addr) (R : XK → Hp → VK → Prop), vs = [.ref f] ∧ Lm.Act0 P w K mg B k H f R ∧
  ∀ E : XK, (∀ (D : Addr) (i : Nat) (nm : Str) (H' : Hp), Kind K CS Cs i D → kindW[i]? = some nm → (∀ H2 p, Same H' H2 → H' p = none → H2 p = some (.tup [.str nm, .int 0]) → Q (.ref p) H2) → E (.ref D) none H') → R E H Q
/-- all(works, due): each work raises the same, and changes nothing -/
def spAll (P : Program) (w : World) (K : PySem.W.Frag) (mg : Str → Option Value) (CS : Addr) (Cs : List Addr) (k : Nat) (B : Heap) : Sp := fun vs H Q _ => ∃ (a dt : Addr) (ws : List Addr) (i : Nat) (nm : Str) (D : Addr), vs = [.ref a, .ref dt] ∧ H a = some (.lst (ws.map V.ref)) ∧ ws.length ≤ 100 ∧
  H dt = some (.tup [.str nm, .int 0]) ∧ Kind K CS Cs i D ∧ kindW[i]? = some nm ∧ (∀ f ∈ ws, ∃ R, Lm.Act0 P w K mg B k H f R ∧ ∀ H' E Q, Same H H' → (∀ H2, Same H' H2 → E (.ref D) none H2) → R E H' Q) ∧ ∀ H', Same H H' → Q (.bl true) H'
/-! ### a def whose code object is known -/
theorem _root_.L2.Fun.okL {P : Program} {w : World} {K : PySem.W.Frag} {mg : Str → Option Value} {base : Heap} {x qual : Str} {st : Stmt} {f c : Addr} {fd : FuncData} {N ps : List Str} {k : Nat} {sp : Sp} (F : L2.Fun K x qual st f fd) (hc : fd.code = .ref c) (S : FnScope N ps (defScope st)) (len : ∀ vs H Q E, sp vs H Q E → vs.length = ps.length)
    (hbody : ∀ (A : Around) (outer : List Env) (s : Shared) (H : Hp) (vs : List V) (Q : VK) (E : XK), Room k (A.deeper (envOfC qual (defScope st) s.heap.objs.size f (.ref c))) → sp vs H Q E →
      ∃ t, PSs (cxOf L2.CX0 P w K mg base N qual (defScope st) f (.ref c) A outer s H E).nox (defBody st) t ∧ t { nx := fun _ H' => Q .non H', rt := Q } (L2.start N vs) H) : FnOk P w K mg base L2.CX0 (k + 1) f fd ps sp := by
  obtain ⟨oc, od, kV, doc, pm, an, cdv, ct, osl, rfl, lk, hcd⟩ := F.ex
  have e : cdv = .ref c := hc
  subst e
  refine fn_of lk hcd S len fun A outer s H vs Q E hr hsp => ?_
  obtain ⟨t, h, q⟩ := hbody A outer s H vs Q E hr hsp
  exact ⟨t, h.nox, q⟩
end Td

namespace K38
open PySem PySem.Spec PyProof.Rows L2 G7
def top (i : Nat) : Stmt := PySem.Challenge.pw_granary_k38_disks_step_by_step.main.body.getD i (.Pass ⟨0, 0, 0, 0⟩)
abbrev s_Disk_init : Stmt := inClass (top 12) 0
abbrev N_Disk_init : List Str := ["self"]
theorem sc_Disk_init : FnScope N_Disk_init ["self"] (defScope s_Disk_init) := ⟨rfl, rfl, rfl, by decide +kernel, rfl, by decide +kernel, by decide +kernel⟩
abbrev s_Disk_need_power : Stmt := inClass (top 12) 1
abbrev N_Disk_need_power : List Str := ["self"]
theorem sc_Disk_need_power : FnScope N_Disk_need_power ["self"] (defScope s_Disk_need_power) := ⟨rfl, rfl, rfl, by decide +kernel, rfl, by decide +kernel, by decide +kernel⟩
abbrev s_Disk_count : Stmt := inClass (top 12) 2
abbrev N_Disk_count : List Str := ["self"]
theorem sc_Disk_count : FnScope N_Disk_count ["self"] (defScope s_Disk_count) := ⟨rfl, rfl, rfl, by decide +kernel, rfl, by decide +kernel, by decide +kernel⟩
abbrev s_Disk_write : Stmt := inClass (top 12) 3
abbrev N_Disk_write : List Str := ["self", "unit"]
theorem sc_Disk_write : FnScope N_Disk_write ["self", "unit"] (defScope s_Disk_write) := ⟨rfl, rfl, rfl, by decide +kernel, rfl, by decide +kernel, by decide +kernel⟩
abbrev s_Disk_settle : Stmt := inClass (top 12) 4
abbrev N_Disk_settle : List Str := ["self"]
theorem sc_Disk_settle : FnScope N_Disk_settle ["self"] (defScope s_Disk_settle) := ⟨rfl, rfl, rfl, by decide +kernel, rfl, by decide +kernel, by decide +kernel⟩
abbrev s_Disk_units : Stmt := inClass (top 12) 5
abbrev N_Disk_units : List Str := ["self"]
theorem sc_Disk_units : FnScope N_Disk_units ["self"] (defScope s_Disk_units) := ⟨rfl, rfl, rfl, by decide +kernel, rfl, by decide +kernel, by decide +kernel⟩
abbrev s_Disk_arm : Stmt := inClass (top 12) 6
abbrev N_Disk_arm : List Str := ["self", "many"]
theorem sc_Disk_arm : FnScope N_Disk_arm ["self", "many"] (defScope s_Disk_arm) := ⟨rfl, rfl, rfl, by decide +kernel, rfl, by decide +kernel, by decide +kernel⟩
abbrev s_Disk_fall : Stmt := inClass (top 12) 7
abbrev N_Disk_fall : List Str := ["self", "cut"]
theorem sc_Disk_fall : FnScope N_Disk_fall ["self", "cut"] (defScope s_Disk_fall) := ⟨rfl, rfl, rfl, by decide +kernel, rfl, by decide +kernel, by decide +kernel⟩
abbrev s_l_begun : Stmt := top 14
abbrev N_l_begun : List Str := ["_law_script", "_law_stirred", "_law_cell"]
theorem sc_l_begun : FnScope N_l_begun ["_law_script"] (defScope s_l_begun) := ⟨rfl, rfl, rfl, by decide +kernel, rfl, by decide +kernel, by decide +kernel⟩
abbrev s_l_take : Stmt := top 15
abbrev N_l_take : List Str := ["_law_box", "_law_many", "_law_drawn"]
theorem sc_l_take : FnScope N_l_take ["_law_box", "_law_many"] (defScope s_l_take) := ⟨rfl, rfl, rfl, by decide +kernel, rfl, by decide +kernel, by decide +kernel⟩
abbrev s_l_alike : Stmt := top 16
abbrev N_l_alike : List Str := ["_law_found", "_law_due", "_law_k"]
theorem sc_l_alike : FnScope N_l_alike ["_law_found", "_law_due"] (defScope s_l_alike) := ⟨rfl, rfl, rfl, by decide +kernel, rfl, by decide +kernel, by decide +kernel⟩
abbrev s_l_told : Stmt := top 17
abbrev N_l_told : List Str := ["_law_work", "e", "_law_kinds", "_law_words"]
theorem sc_l_told : FnScope N_l_told ["_law_work"] (defScope s_l_told) := ⟨rfl, rfl, rfl, by decide +kernel, rfl, by decide +kernel, by decide +kernel⟩
abbrev s_l_all : Stmt := top 18
abbrev N_l_all : List Str := ["_law_works", "_law_due", "_law_work"]
theorem sc_l_all : FnScope N_l_all ["_law_works", "_law_due"] (defScope s_l_all) := ⟨rfl, rfl, rfl, by decide +kernel, rfl, by decide +kernel, by decide +kernel⟩
abbrev s_law : Stmt := top 19
abbrev N_law : List Str := ["_law_script", "_law_box", "_law_there", "_law_late", "_law_left", "_law_is_gone", "_law_turn", "_law_way", "_law_is_out", "_law_found", "_law_cut", "_law_again", "_law_bad", "_law_disk", "_law_unit"]
theorem sc_law : FnScope N_law ["_law_script"] (defScope s_law) := ⟨rfl, rfl, rfl, by decide +kernel, rfl, by decide +kernel, by decide +kernel⟩
def fsDisk (v0 v1 v2 v3 : V) : List (Str × V) := [("there", v0), ("late", v1), ("left", v2), ("is_gone", v3)]
def fpDisk1 (v0 : V) : List (Str × V) := [("there", v0)]
def fpDisk2 (v0 v1 : V) : List (Str × V) := [("there", v0), ("late", v1)]
def fpDisk3 (v0 v1 v2 : V) : List (Str × V) := [("there", v0), ("late", v1), ("left", v2)]
theorem lkDisk_there {v0 v1 v2 v3 : V} : (fsDisk v0 v1 v2 v3).lookup ("there" : Str) = some v0 := by unfold fsDisk; rw [List.lookup_cons, show (("there" : Str) == "there") = true from by decide +kernel]
theorem lkDisk_late {v0 v1 v2 v3 : V} : (fsDisk v0 v1 v2 v3).lookup ("late" : Str) = some v1 := by unfold fsDisk; rw [List.lookup_cons, show (("late" : Str) == "there") = false from by decide +kernel]; dsimp only; rw [List.lookup_cons, show (("late" : Str) == "late") = true from by decide +kernel]
theorem lkDisk_left {v0 v1 v2 v3 : V} : (fsDisk v0 v1 v2 v3).lookup ("left" : Str) = some v2 := by unfold fsDisk; rw [List.lookup_cons, show (("left" : Str) == "there") = false from by decide +kernel]; dsimp only; rw [List.lookup_cons, show (("left" : Str) == "late") = false from by decide +kernel]; dsimp only; rw [List.lookup_cons, show (("left" : Str) == "left") = true from by decide +kernel]
theorem lkDisk_is_gone {v0 v1 v2 v3 : V} : (fsDisk v0 v1 v2 v3).lookup ("is_gone" : Str) = some v3 := by unfold fsDisk; rw [List.lookup_cons, show (("is_gone" : Str) == "there") = false from by decide +kernel]; dsimp only; rw [List.lookup_cons, show (("is_gone" : Str) == "late") = false from by decide +kernel]; dsimp only; rw [List.lookup_cons, show (("is_gone" : Str) == "left") = false from by decide +kernel]; dsimp only; rw [List.lookup_cons, show (("is_gone" : Str) == "is_gone") = true from by decide +kernel]
theorem noDisk_need_power {v0 v1 v2 v3 : V} : (fsDisk v0 v1 v2 v3).lookup ("need_power" : Str) = none := by unfold fsDisk; rw [List.lookup_cons, show (("need_power" : Str) == "there") = false from by decide +kernel]; dsimp only; rw [List.lookup_cons, show (("need_power" : Str) == "late") = false from by decide +kernel]; dsimp only; rw [List.lookup_cons, show (("need_power" : Str) == "left") = false from by decide +kernel]; dsimp only; rw [List.lookup_cons, show (("need_power" : Str) == "is_gone") = false from by decide +kernel]; dsimp only; rfl
theorem noDisk_count {v0 v1 v2 v3 : V} : (fsDisk v0 v1 v2 v3).lookup ("count" : Str) = none := by unfold fsDisk; rw [List.lookup_cons, show (("count" : Str) == "there") = false from by decide +kernel]; dsimp only; rw [List.lookup_cons, show (("count" : Str) == "late") = false from by decide +kernel]; dsimp only; rw [List.lookup_cons, show (("count" : Str) == "left") = false from by decide +kernel]; dsimp only; rw [List.lookup_cons, show (("count" : Str) == "is_gone") = false from by decide +kernel]; dsimp only; rfl
theorem noDisk_write {v0 v1 v2 v3 : V} : (fsDisk v0 v1 v2 v3).lookup ("write" : Str) = none := by unfold fsDisk; rw [List.lookup_cons, show (("write" : Str) == "there") = false from by decide +kernel]; dsimp only; rw [List.lookup_cons, show (("write" : Str) == "late") = false from by decide +kernel]; dsimp only; rw [List.lookup_cons, show (("write" : Str) == "left") = false from by decide +kernel]; dsimp only; rw [List.lookup_cons, show (("write" : Str) == "is_gone") = false from by decide +kernel]; dsimp only; rfl
theorem noDisk_settle {v0 v1 v2 v3 : V} : (fsDisk v0 v1 v2 v3).lookup ("settle" : Str) = none := by unfold fsDisk; rw [List.lookup_cons, show (("settle" : Str) == "there") = false from by decide +kernel]; dsimp only; rw [List.lookup_cons, show (("settle" : Str) == "late") = false from by decide +kernel]; dsimp only; rw [List.lookup_cons, show (("settle" : Str) == "left") = false from by decide +kernel]; dsimp only; rw [List.lookup_cons, show (("settle" : Str) == "is_gone") = false from by decide +kernel]; dsimp only; rfl
theorem noDisk_units {v0 v1 v2 v3 : V} : (fsDisk v0 v1 v2 v3).lookup ("units" : Str) = none := by unfold fsDisk; rw [List.lookup_cons, show (("units" : Str) == "there") = false from by decide +kernel]; dsimp only; rw [List.lookup_cons, show (("units" : Str) == "late") = false from by decide +kernel]; dsimp only; rw [List.lookup_cons, show (("units" : Str) == "left") = false from by decide +kernel]; dsimp only; rw [List.lookup_cons, show (("units" : Str) == "is_gone") = false from by decide +kernel]; dsimp only; rfl
theorem noDisk_arm {v0 v1 v2 v3 : V} : (fsDisk v0 v1 v2 v3).lookup ("arm" : Str) = none := by unfold fsDisk; rw [List.lookup_cons, show (("arm" : Str) == "there") = false from by decide +kernel]; dsimp only; rw [List.lookup_cons, show (("arm" : Str) == "late") = false from by decide +kernel]; dsimp only; rw [List.lookup_cons, show (("arm" : Str) == "left") = false from by decide +kernel]; dsimp only; rw [List.lookup_cons, show (("arm" : Str) == "is_gone") = false from by decide +kernel]; dsimp only; rfl
theorem noDisk_fall {v0 v1 v2 v3 : V} : (fsDisk v0 v1 v2 v3).lookup ("fall" : Str) = none := by unfold fsDisk; rw [List.lookup_cons, show (("fall" : Str) == "there") = false from by decide +kernel]; dsimp only; rw [List.lookup_cons, show (("fall" : Str) == "late") = false from by decide +kernel]; dsimp only; rw [List.lookup_cons, show (("fall" : Str) == "left") = false from by decide +kernel]; dsimp only; rw [List.lookup_cons, show (("fall" : Str) == "is_gone") = false from by decide +kernel]; dsimp only; rfl
theorem inDisk_there {v0 : V} : putF ("there" : Str) v0 [] = (fpDisk1 v0) := by unfold fpDisk1; rfl
theorem inDisk_late {v0 v1 : V} : putF ("late" : Str) v1 (fpDisk1 v0) = (fpDisk2 v0 v1) := by unfold fpDisk1; unfold fpDisk2; rw [putF, if_neg (show ¬ (("there" : Str) = "late") from by decide +kernel)]; rfl
theorem inDisk_left {v0 v1 v2 : V} : putF ("left" : Str) v2 (fpDisk2 v0 v1) = (fpDisk3 v0 v1 v2) := by unfold fpDisk2; unfold fpDisk3; rw [putF, if_neg (show ¬ (("there" : Str) = "left") from by decide +kernel)]; rw [putF, if_neg (show ¬ (("late" : Str) = "left") from by decide +kernel)]; rfl
theorem inDisk_is_gone {v0 v1 v2 v3 : V} : putF ("is_gone" : Str) v3 (fpDisk3 v0 v1 v2) = fsDisk v0 v1 v2 v3 := by unfold fpDisk3; unfold fsDisk; rw [putF, if_neg (show ¬ (("there" : Str) = "is_gone") from by decide +kernel)]; rw [putF, if_neg (show ¬ (("late" : Str) = "is_gone") from by decide +kernel)]; rw [putF, if_neg (show ¬ (("left" : Str) = "is_gone") from by decide +kernel)]; rfl
theorem puDisk_there {v0 v1 v2 v3 y : V} : putF ("there" : Str) y (fsDisk v0 v1 v2 v3) = fsDisk y v1 v2 v3 := by unfold fsDisk; rw [putF, if_pos rfl]
theorem puDisk_late {v0 v1 v2 v3 y : V} : putF ("late" : Str) y (fsDisk v0 v1 v2 v3) = fsDisk v0 y v2 v3 := by unfold fsDisk; rw [putF, if_neg (show ¬ (("there" : Str) = "late") from by decide +kernel)]; rw [putF, if_pos rfl]
theorem puDisk_left {v0 v1 v2 v3 y : V} : putF ("left" : Str) y (fsDisk v0 v1 v2 v3) = fsDisk v0 v1 y v3 := by unfold fsDisk; rw [putF, if_neg (show ¬ (("there" : Str) = "left") from by decide +kernel)]; rw [putF, if_neg (show ¬ (("late" : Str) = "left") from by decide +kernel)]; rw [putF, if_pos rfl]
theorem puDisk_is_gone {v0 v1 v2 v3 y : V} : putF ("is_gone" : Str) y (fsDisk v0 v1 v2 v3) = fsDisk v0 v1 v2 y := by unfold fsDisk; rw [putF, if_neg (show ¬ (("there" : Str) = "is_gone") from by decide +kernel)]; rw [putF, if_neg (show ¬ (("late" : Str) = "is_gone") from by decide +kernel)]; rw [putF, if_neg (show ¬ (("left" : Str) = "is_gone") from by decide +kernel)]; rw [putF, if_pos rfl]
theorem lnDisk {v0 v1 v2 v3 : V} : (fsDisk v0 v1 v2 v3).length < 1000 := by unfold fsDisk; simp
theorem lpDisk1 {v0 : V} : (fpDisk1 v0).length < 1000 := by unfold fpDisk1; simp
theorem lpDisk2 {v0 v1 : V} : (fpDisk2 v0 v1).length < 1000 := by unfold fpDisk2; simp
theorem lpDisk3 {v0 v1 v2 : V} : (fpDisk3 v0 v1 v2).length < 1000 := by unfold fpDisk3; simp
theorem l0Disk : (0 : Nat) < 1000 := by decide

structure Txt (K : PySem.W.Frag) (mg : Str → Option Value) where
  f_Disk_init : Addr
  fd_Disk_init : FuncData
  F_Disk_init : Fun K "__init__" "Disk.__init__" s_Disk_init f_Disk_init fd_Disk_init
  b_Disk_init : Binds K fd_Disk_init ["self"] []
  f_Disk_need_power : Addr
  fd_Disk_need_power : FuncData
  F_Disk_need_power : Fun K "need_power" "Disk.need_power" s_Disk_need_power f_Disk_need_power fd_Disk_need_power
  b_Disk_need_power : Binds K fd_Disk_need_power ["self"] []
  f_Disk_count : Addr
  fd_Disk_count : FuncData
  F_Disk_count : Fun K "count" "Disk.count" s_Disk_count f_Disk_count fd_Disk_count
  b_Disk_count : Binds K fd_Disk_count ["self"] []
  f_Disk_write : Addr
  fd_Disk_write : FuncData
  F_Disk_write : Fun K "write" "Disk.write" s_Disk_write f_Disk_write fd_Disk_write
  b_Disk_write : Binds K fd_Disk_write ["self", "unit"] []
  f_Disk_settle : Addr
  fd_Disk_settle : FuncData
  F_Disk_settle : Fun K "settle" "Disk.settle" s_Disk_settle f_Disk_settle fd_Disk_settle
  b_Disk_settle : Binds K fd_Disk_settle ["self"] []
  f_Disk_units : Addr
  fd_Disk_units : FuncData
  F_Disk_units : Fun K "units" "Disk.units" s_Disk_units f_Disk_units fd_Disk_units
  b_Disk_units : Binds K fd_Disk_units ["self"] []
  f_Disk_arm : Addr
  fd_Disk_arm : FuncData
  F_Disk_arm : Fun K "arm" "Disk.arm" s_Disk_arm f_Disk_arm fd_Disk_arm
  b_Disk_arm : Binds K fd_Disk_arm ["self", "many"] []
  f_Disk_fall : Addr
  fd_Disk_fall : FuncData
  F_Disk_fall : Fun K "fall" "Disk.fall" s_Disk_fall f_Disk_fall fd_Disk_fall
  b_Disk_fall : Binds K fd_Disk_fall ["self", "cut"] []
  f_l_begun : Addr
  fd_l_begun : FuncData
  F_l_begun : Fun K "_law_begun" "_law_begun" s_l_begun f_l_begun fd_l_begun
  b_l_begun : Binds K fd_l_begun ["_law_script"] []
  mg_l_begun : mg "_law_begun" = some (.ref f_l_begun)
  f_l_take : Addr
  fd_l_take : FuncData
  F_l_take : Fun K "_law_take" "_law_take" s_l_take f_l_take fd_l_take
  b_l_take : Binds K fd_l_take ["_law_box", "_law_many"] []
  mg_l_take : mg "_law_take" = some (.ref f_l_take)
  f_l_alike : Addr
  fd_l_alike : FuncData
  F_l_alike : Fun K "_law_alike" "_law_alike" s_l_alike f_l_alike fd_l_alike
  b_l_alike : Binds K fd_l_alike ["_law_found", "_law_due"] []
  mg_l_alike : mg "_law_alike" = some (.ref f_l_alike)
  f_l_told : Addr
  fd_l_told : FuncData
  F_l_told : Fun K "_law_told" "_law_told" s_l_told f_l_told fd_l_told
  b_l_told : Binds K fd_l_told ["_law_work"] []
  mg_l_told : mg "_law_told" = some (.ref f_l_told)
  f_l_all : Addr
  fd_l_all : FuncData
  F_l_all : Fun K "_law_all" "_law_all" s_l_all f_l_all fd_l_all
  b_l_all : Binds K fd_l_all ["_law_works", "_law_due"] []
  mg_l_all : mg "_law_all" = some (.ref f_l_all)
  f_law : Addr
  fd_law : FuncData
  F_law : Fun K "law" "law" s_law f_law fd_law
  b_law : Binds K fd_law ["_law_script"] []
  mg_law : mg "law" = some (.ref f_law)
  C_Disk : Addr
  cl_Disk : Cls K C_Disk
  mg_Disk : mg "Disk" = some (.ref C_Disk)
  mk_Disk : Mk K C_Disk f_Disk_init
  na_Disk_there : NoAttr K C_Disk "there"
  na_Disk_late : NoAttr K C_Disk "late"
  na_Disk_left : NoAttr K C_Disk "left"
  na_Disk_is_gone : NoAttr K C_Disk "is_gone"
  me_Disk_need_power : Meth K C_Disk "need_power" f_Disk_need_power
  me_Disk_count : Meth K C_Disk "count" f_Disk_count
  me_Disk_write : Meth K C_Disk "write" f_Disk_write
  me_Disk_settle : Meth K C_Disk "settle" f_Disk_settle
  me_Disk_units : Meth K C_Disk "units" f_Disk_units
  me_Disk_arm : Meth K C_Disk "arm" f_Disk_arm
  me_Disk_fall : Meth K C_Disk "fall" f_Disk_fall
  n_ValueError : mg "ValueError" = none
  n_list : mg "list" = none
  n_int : mg "int" = none
  n_len : mg "len" = none
  n_isinstance : mg "isinstance" = none
  n_bool : mg "bool" = none
  n_str : mg "str" = none
  n_tuple : mg "tuple" = none
  n_range : mg "range" = none
  C_StoreError : Addr
  mg_StoreError : mg "StoreError" = some (.ref C_StoreError)
  C_BadName : Addr
  mg_BadName : mg "BadName" = some (.ref C_BadName)
  C_BadNumber : Addr
  mg_BadNumber : mg "BadNumber" = some (.ref C_BadNumber)
  C_BadPlan : Addr
  mg_BadPlan : mg "BadPlan" = some (.ref C_BadPlan)
  C_BadRow : Addr
  mg_BadRow : mg "BadRow" = some (.ref C_BadRow)
  C_BadText : Addr
  mg_BadText : mg "BadText" = some (.ref C_BadText)
  C_Gone : Addr
  mg_Gone : mg "Gone" = some (.ref C_Gone)
  C_TooGreat : Addr
  mg_TooGreat : mg "TooGreat" = some (.ref C_TooGreat)
  C_Twice : Addr
  mg_Twice : mg "Twice" = some (.ref C_Twice)
  C_Within : Addr
  mg_Within : mg "Within" = some (.ref C_Within)
  X_Gone : Td.EKls K mg "Gone" C_Gone
  K_Gone : Td.Kind K C_StoreError [C_BadName, C_BadNumber, C_BadPlan, C_BadRow, C_BadText, C_Gone, C_TooGreat, C_Twice, C_Within] 5 C_Gone
  X_BadNumber : Td.EKls K mg "BadNumber" C_BadNumber
  K_BadNumber : Td.Kind K C_StoreError [C_BadName, C_BadNumber, C_BadPlan, C_BadRow, C_BadText, C_Gone, C_TooGreat, C_Twice, C_Within] 1 C_BadNumber
  c_law : Addr
  P_law : Addr
  hc_law : fd_law.code = .ref c_law

section
variable {P : Program} {w : World} {K : PySem.W.Frag} {mg : Str → Option Value} {base : Heap}
theorem ok_l_begun (T : Txt K mg) : FnOk P w K mg base CX0 1 T.f_l_begun T.fd_l_begun ["_law_script"] (spBegun K) := by
  refine T.F_l_begun.ok sc_l_begun (fun vs H Q E h => ?_) (fun cdv A outer s H vs Q E hr h => ?_)
  · obtain ⟨a, ns, rfl, _⟩ := h
    rfl
  · obtain ⟨a, ns, rfl, hS, hlen, k⟩ := h
    refine ⟨_, (pss_cons (ps_set (i := 1) sc_l_begun.nd rfl (Or.inl rfl) pe_int)
      (pss_cons (ps_for PassesOwn.never rfl (pi_listK K rfl (pv 0)) (pg_name (i := 2) sc_l_begun.nd rfl (Or.inl rfl)) (pss_one (ps_set (i := 1) sc_l_begun.nd rfl (Or.inl rfl) (pe_op op_mod (pe_op op_add (pe_op op_add (pe_op op_mul (pv 1) pe_int) (pe_op op_mul (pv 2) pe_int)) pe_int) pe_int))))
      (pss_one (ps_ret (pe_lst (pa_cons (pe_callTy call_list_of (by rfl) T.n_list (by decide +kernel) (pa_cons (pv 0) pa_nil)) (pa_cons (pe_op op_mul (pv 1) (pe_callTy int_bl (by rfl) T.n_int (by decide +kernel) (pa_cons (pe_cmpR op_gt (pe_callB call_len_seq (by rfl) T.n_len PySem.boot_len (pa_cons (pv 0) pa_nil)) pe_int (nomark _)) pa_nil))) pa_nil))))))), ?_⟩
    refine ⟨_, rfl, a, rfl, ⟨_, hS⟩, for_list (K := K) (a := a) (xs := ns.map V.int) (fun i σ H2 => ∃ (z : Int) (v : Option V), σ = [some (.ref a), some (.int z), v] ∧ H2 = H) ⟨0, none, rfl, rfl⟩ (fun i σ H2 _ ⟨_, _, _, e⟩ => by rw [e]; exact hS) ?_ ?_⟩
    · rintro i y σ H2 hi ⟨z, v, rfl, rfl⟩
      obtain ⟨c, _, rfl⟩ := int_at hi
      simp only [tVar, tC, tOp, rI, rI0, rU, tTest, tB, tAnd, tOr, tNot, tAndV, tOrV, tNotV, tIf, tNil, tCons, tTup, tLst, tCB, tSeq, tAsg, gName, tRet, tRetN, tIfS, tNext, tDrop, tCall, tUn, tPar, CMul, CDiv, V.int.injEq, V.bl.injEq, V.ref.injEq, V.str.injEq, Option.some.injEq, List.cons.injEq, and_true, true_and, and_false, false_and, or_false, false_or, or_true, true_or, exists_eq_left', exists_eq_left, exists_and_left, exists_and_right, exists_eq', exists_eq, exists_false, exists_const, List.getElem?_cons_succ, List.getElem?_cons_zero, List.set_cons_succ, List.set_cons_zero, List.length_cons, List.length_nil, List.cons_append, List.nil_append, List.append_nil, reduceCtorEq, Int.reduceLT, Int.reduceLE, Int.reduceNeg, Int.reducePow, Int.reduceSub, Int.reduceAdd, Nat.reduceAdd, Nat.reduceLeDiff, Bool.not_true, Bool.not_false, decide_true, decide_false, Bool.false_eq_true, ↓reduceIte, upd_same, not_true_eq_false, not_false_eq_true, lsO_l, lsO_f, tpO_t, tpO_f, dkO_d, dkO_f, keyO_i, keyO_s, rIxH, rIxU, cLenL, cLenT, cListL, cListT, cTupL, cIntB, cAll, rEqNilI, rEq, rNe, scal_ii, scal_ss, scal_bb, scal_nn, scal_ni, scal_in, scal_ns, scal_sn, gSub, rSetL, ixs0, ixs1, ixs2, seq0, at0, at1, at2, at3, tBM, tBM0, rAppend, rPopAt, tyV_list, tGet2, tGetI, sPut, tMG, rTIdx, tyTup, tTupF, cx_K, cx_w, ex_map_int, ex_nil_int, ex_cons_int, List.map_cons, List.map_nil, List.isEmpty_nil, List.isEmpty_cons, List.eraseIdx_zero, List.tail_cons, List.eraseIdx_cons_zero, HO.lst.injEq, HO.tup.injEq, HO.dK.injEq, HO.frz.injEq, ne_eq, gTupH, gCons, gNil, wipe, tYes, upd_upd, and_assoc, List.getElem?_map, Option.map_some, isn_non_bool, isn_non_int, isn_non_str, isn_non_tuple, isn_non_list, isn_non_dict, isn_bl_bool, isn_bl_int, isn_bl_str, isn_bl_tuple, isn_bl_list, isn_bl_dict, isn_int_bool, isn_int_int, isn_int_str, isn_int_tuple, isn_int_list, isn_int_dict, isn_str_bool, isn_str_int, isn_str_str, isn_str_tuple, isn_str_list, isn_str_dict, isn_lst_bool, isn_lst_int, isn_lst_str, isn_lst_tuple, isn_lst_list, isn_lst_dict, isn_tup_bool, isn_tup_int, isn_tup_str, isn_tup_tuple, isn_tup_list, isn_tup_dict, isn_dct_bool, isn_dct_int, isn_dct_str, isn_dct_tuple, isn_dct_list, isn_dct_dict, okn_bool, okn_int, okn_str, okn_tuple, okn_list, okn_dict, cIsi, tyT_n, tyT_b, tyT_i, tyT_s, tyT_r, V.ty.injEq, tSl, tPart, tNoPart, rSlF, gName, tFld, sFld, tMeth, tMake, tGetT, tInT, tNinT, sPutT, sAugT, tPopT, rLtH, dtO_d, dtO_f, kysO_n, kysO_i, kysO_s, intsV_n, intsV_i, HO.ins.injEq, HO.dT.injEq, tDNewT, rIxLT, cLenLT, rSub, rAdd, sFldAug, Td.rIsG, Td.rCntT, Td.rIdxT, Td.rExt, Lm.tCallZ, Lm.tLam]
    · rintro σ H2 ⟨z, v, rfl, rfl⟩
      simp only [tVar, tC, tOp, rI, rI0, rU, tTest, tB, tAnd, tOr, tNot, tAndV, tOrV, tNotV, tIf, tNil, tCons, tTup, tLst, tCB, tSeq, tAsg, gName, tRet, tRetN, tIfS, tNext, tDrop, tCall, tUn, tPar, CMul, CDiv, V.int.injEq, V.bl.injEq, V.ref.injEq, V.str.injEq, Option.some.injEq, List.cons.injEq, and_true, true_and, and_false, false_and, or_false, false_or, or_true, true_or, exists_eq_left', exists_eq_left, exists_and_left, exists_and_right, exists_eq', exists_eq, exists_false, exists_const, List.getElem?_cons_succ, List.getElem?_cons_zero, List.set_cons_succ, List.set_cons_zero, List.length_cons, List.length_nil, List.cons_append, List.nil_append, List.append_nil, reduceCtorEq, Int.reduceLT, Int.reduceLE, Int.reduceNeg, Int.reducePow, Int.reduceSub, Int.reduceAdd, Nat.reduceAdd, Nat.reduceLeDiff, Bool.not_true, Bool.not_false, decide_true, decide_false, Bool.false_eq_true, ↓reduceIte, upd_same, not_true_eq_false, not_false_eq_true, lsO_l, lsO_f, tpO_t, tpO_f, dkO_d, dkO_f, keyO_i, keyO_s, rIxH, rIxU, cLenL, cLenT, cListL, cListT, cTupL, cIntB, cAll, rEqNilI, rEq, rNe, scal_ii, scal_ss, scal_bb, scal_nn, scal_ni, scal_in, scal_ns, scal_sn, gSub, rSetL, ixs0, ixs1, ixs2, seq0, at0, at1, at2, at3, tBM, tBM0, rAppend, rPopAt, tyV_list, tGet2, tGetI, sPut, tMG, rTIdx, tyTup, tTupF, cx_K, cx_w, ex_map_int, ex_nil_int, ex_cons_int, List.map_cons, List.map_nil, List.isEmpty_nil, List.isEmpty_cons, List.eraseIdx_zero, List.tail_cons, List.eraseIdx_cons_zero, HO.lst.injEq, HO.tup.injEq, HO.dK.injEq, HO.frz.injEq, ne_eq, gTupH, gCons, gNil, wipe, tYes, upd_upd, and_assoc, List.getElem?_map, Option.map_some, isn_non_bool, isn_non_int, isn_non_str, isn_non_tuple, isn_non_list, isn_non_dict, isn_bl_bool, isn_bl_int, isn_bl_str, isn_bl_tuple, isn_bl_list, isn_bl_dict, isn_int_bool, isn_int_int, isn_int_str, isn_int_tuple, isn_int_list, isn_int_dict, isn_str_bool, isn_str_int, isn_str_str, isn_str_tuple, isn_str_list, isn_str_dict, isn_lst_bool, isn_lst_int, isn_lst_str, isn_lst_tuple, isn_lst_list, isn_lst_dict, isn_tup_bool, isn_tup_int, isn_tup_str, isn_tup_tuple, isn_tup_list, isn_tup_dict, isn_dct_bool, isn_dct_int, isn_dct_str, isn_dct_tuple, isn_dct_list, isn_dct_dict, okn_bool, okn_int, okn_str, okn_tuple, okn_list, okn_dict, cIsi, tyT_n, tyT_b, tyT_i, tyT_s, tyT_r, V.ty.injEq, tSl, tPart, tNoPart, rSlF, gName, tFld, sFld, tMeth, tMake, tGetT, tInT, tNinT, sPutT, sAugT, tPopT, rLtH, dtO_d, dtO_f, kysO_n, kysO_i, kysO_s, intsV_n, intsV_i, HO.ins.injEq, HO.dT.injEq, tDNewT, rIxLT, cLenLT, rSub, rAdd, sFldAug, Td.rIsG, Td.rCntT, Td.rIdxT, Td.rExt, Lm.tCallZ, Lm.tLam]
      refine ⟨_, .inl hS, fun l hl => ⟨_, .inl ((same_new hl).seq hS), ?_⟩⟩
      refine ⟨by split <;> simp, szl (by decide), fun p hp => ?_⟩
      have nlp : l ≠ p := ne_of_none (H := upd H2 l (.lst (ns.map V.int))) upd_same hp
      refine k _ _ l ((same_new hl).free hp) hl ((same_new hl).trans (same_new hp)) ⟨ns, _, upd_same, ?_, by omega⟩
      rw [upd_ne nlp, upd_same]
theorem ok_l_take (T : Txt K mg) : FnOk P w K mg base CX0 1 T.f_l_take T.fd_l_take ["_law_box", "_law_many"] spTake := by
  refine T.F_l_take.ok sc_l_take (fun vs H Q E h => ?_) (fun cdv A outer s H vs Q E hr h => ?_)
  · obtain ⟨h, l, n, rfl, _⟩ := h
    rfl
  · obtain ⟨h, l, n, rfl, B, n0, n1, k⟩ := h
    have hu64 := hu64_of hr
    have nhl := B.ne
    obtain ⟨ns, st, e1, e2, hlen⟩ := id B
    refine ⟨_, (pss_cons (ps_if (pt_cmpR (op_eqNilI hu64) (pe_ix ix_lst (pv 0) pe_int (fun _ _ => rfl)) (pe_lst pa_nil) (nomark _)) (pss_cons (ps_asg (pe_op op_mod (pe_op op_mul (pe_ix ix_lst (pv 0) pe_int (fun _ _ => rfl)) pe_int) pe_int) (pg_sub (pv 0) pe_int set_list))
        (pss_one (ps_ret (pe_op op_mod (pe_op op_fdiv (pe_ix ix_lst (pv 0) pe_int (fun _ _ => rfl)) pe_int) (pv 1))))) pss_nil)
      (pss_cons (ps_set (i := 2) sc_l_take.nd rfl (Or.inl rfl) (pe_ix ix_lst (pe_ix ix_lst (pv 0) pe_int (fun _ _ => rfl)) pe_int (fun _ _ => rfl)))
      (pss_cons (ps_asg (pe_op op_fdiv (pv 2) (pv 1)) (pg_sub (pe_ix ix_lst (pv 0) pe_int (fun _ _ => rfl)) pe_int set_list))
      (pss_cons (ps_if (PW.pt (pw_or (pt_cmpR op_eq (pe_ix ix_lst (pe_ix ix_lst (pv 0) pe_int (fun _ _ => rfl)) pe_int (fun _ _ => rfl)) pe_int (nomark _)) (pw_or1 (pt_cmpR op_eq (pe_ix ix_lst (pe_ix ix_lst (pv 0) pe_int (fun _ _ => rfl)) pe_int (fun _ _ => rfl)) (pe_un un_neg pe_int) (nomark _))))) (pss_one (ps_expr (pe_bm PySem.F.plainAttrs_list PySem.F.slot_list_pop PySem.F.type_list_pop mt_popAt (pe_ix ix_lst (pv 0) pe_int (fun _ _ => rfl)) (pa_cons pe_int pa_nil)))) pss_nil)
      (pss_one (ps_ret (pe_op op_mod (pv 2) (pv 1)))))))), ?_⟩
    rw [show L2.start N_l_take [V.ref h, V.int n] = [some (V.ref h), some (V.int n), none] from rfl]
    simp only [tVar, tC, tOp, rI, rI0, rU, tTest, tB, tAnd, tOr, tNot, tAndV, tOrV, tNotV, tIf, tNil, tCons, tTup, tLst, tCB, tSeq, tAsg, gName, tRet, tRetN, tIfS, tNext, tDrop, tCall, tUn, tPar, CMul, CDiv, V.int.injEq, V.bl.injEq, V.ref.injEq, V.str.injEq, Option.some.injEq, List.cons.injEq, and_true, true_and, and_false, false_and, or_false, false_or, or_true, true_or, exists_eq_left', exists_eq_left, exists_and_left, exists_and_right, exists_eq', exists_eq, exists_false, exists_const, List.getElem?_cons_succ, List.getElem?_cons_zero, List.set_cons_succ, List.set_cons_zero, List.length_cons, List.length_nil, List.cons_append, List.nil_append, List.append_nil, reduceCtorEq, Int.reduceLT, Int.reduceLE, Int.reduceNeg, Int.reducePow, Int.reduceSub, Int.reduceAdd, Nat.reduceAdd, Nat.reduceLeDiff, Bool.not_true, Bool.not_false, decide_true, decide_false, Bool.false_eq_true, ↓reduceIte, upd_same, not_true_eq_false, not_false_eq_true, lsO_l, lsO_f, tpO_t, tpO_f, dkO_d, dkO_f, keyO_i, keyO_s, rIxH, rIxU, cLenL, cLenT, cListL, cListT, cTupL, cIntB, cAll, rEqNilI, rEq, rNe, scal_ii, scal_ss, scal_bb, scal_nn, scal_ni, scal_in, scal_ns, scal_sn, gSub, rSetL, ixs0, ixs1, ixs2, seq0, at0, at1, at2, at3, tBM, tBM0, rAppend, rPopAt, tyV_list, tGet2, tGetI, sPut, tMG, rTIdx, tyTup, tTupF, cx_K, cx_w, ex_map_int, ex_nil_int, ex_cons_int, List.map_cons, List.map_nil, List.isEmpty_nil, List.isEmpty_cons, List.eraseIdx_zero, List.tail_cons, List.eraseIdx_cons_zero, HO.lst.injEq, HO.tup.injEq, HO.dK.injEq, HO.frz.injEq, ne_eq, gTupH, gCons, gNil, wipe, tYes, upd_upd, and_assoc, List.getElem?_map, Option.map_some, isn_non_bool, isn_non_int, isn_non_str, isn_non_tuple, isn_non_list, isn_non_dict, isn_bl_bool, isn_bl_int, isn_bl_str, isn_bl_tuple, isn_bl_list, isn_bl_dict, isn_int_bool, isn_int_int, isn_int_str, isn_int_tuple, isn_int_list, isn_int_dict, isn_str_bool, isn_str_int, isn_str_str, isn_str_tuple, isn_str_list, isn_str_dict, isn_lst_bool, isn_lst_int, isn_lst_str, isn_lst_tuple, isn_lst_list, isn_lst_dict, isn_tup_bool, isn_tup_int, isn_tup_str, isn_tup_tuple, isn_tup_list, isn_tup_dict, isn_dct_bool, isn_dct_int, isn_dct_str, isn_dct_tuple, isn_dct_list, isn_dct_dict, okn_bool, okn_int, okn_str, okn_tuple, okn_list, okn_dict, cIsi, tyT_n, tyT_b, tyT_i, tyT_s, tyT_r, V.ty.injEq, tSl, tPart, tNoPart, rSlF, gName, tFld, sFld, tMeth, tMake, tGetT, tInT, tNinT, sPutT, sAugT, tPopT, rLtH, dtO_d, dtO_f, kysO_n, kysO_i, kysO_s, intsV_n, intsV_i, HO.ins.injEq, HO.dT.injEq, tDNewT, rIxLT, cLenLT, rSub, rAdd, sFldAug, Td.rIsG, Td.rCntT, Td.rIdxT, Td.rExt, Lm.tCallZ, Lm.tLam, e1]
    refine ⟨szl (by decide), fun p hp => ?_⟩
    have nh : h ≠ p := ne_of_none e1 hp
    have nl : l ≠ p := ne_of_none e2 hp
    simp only [tVar, tC, tOp, rI, rI0, rU, tTest, tB, tAnd, tOr, tNot, tAndV, tOrV, tNotV, tIf, tNil, tCons, tTup, tLst, tCB, tSeq, tAsg, gName, tRet, tRetN, tIfS, tNext, tDrop, tCall, tUn, tPar, CMul, CDiv, V.int.injEq, V.bl.injEq, V.ref.injEq, V.str.injEq, Option.some.injEq, List.cons.injEq, and_true, true_and, and_false, false_and, or_false, false_or, or_true, true_or, exists_eq_left', exists_eq_left, exists_and_left, exists_and_right, exists_eq', exists_eq, exists_false, exists_const, List.getElem?_cons_succ, List.getElem?_cons_zero, List.set_cons_succ, List.set_cons_zero, List.length_cons, List.length_nil, List.cons_append, List.nil_append, List.append_nil, reduceCtorEq, Int.reduceLT, Int.reduceLE, Int.reduceNeg, Int.reducePow, Int.reduceSub, Int.reduceAdd, Nat.reduceAdd, Nat.reduceLeDiff, Bool.not_true, Bool.not_false, decide_true, decide_false, Bool.false_eq_true, ↓reduceIte, upd_same, not_true_eq_false, not_false_eq_true, lsO_l, lsO_f, tpO_t, tpO_f, dkO_d, dkO_f, keyO_i, keyO_s, rIxH, rIxU, cLenL, cLenT, cListL, cListT, cTupL, cIntB, cAll, rEqNilI, rEq, rNe, scal_ii, scal_ss, scal_bb, scal_nn, scal_ni, scal_in, scal_ns, scal_sn, gSub, rSetL, ixs0, ixs1, ixs2, seq0, at0, at1, at2, at3, tBM, tBM0, rAppend, rPopAt, tyV_list, tGet2, tGetI, sPut, tMG, rTIdx, tyTup, tTupF, cx_K, cx_w, ex_map_int, ex_nil_int, ex_cons_int, List.map_cons, List.map_nil, List.isEmpty_nil, List.isEmpty_cons, List.eraseIdx_zero, List.tail_cons, List.eraseIdx_cons_zero, HO.lst.injEq, HO.tup.injEq, HO.dK.injEq, HO.frz.injEq, ne_eq, gTupH, gCons, gNil, wipe, tYes, upd_upd, and_assoc, List.getElem?_map, Option.map_some, isn_non_bool, isn_non_int, isn_non_str, isn_non_tuple, isn_non_list, isn_non_dict, isn_bl_bool, isn_bl_int, isn_bl_str, isn_bl_tuple, isn_bl_list, isn_bl_dict, isn_int_bool, isn_int_int, isn_int_str, isn_int_tuple, isn_int_list, isn_int_dict, isn_str_bool, isn_str_int, isn_str_str, isn_str_tuple, isn_str_list, isn_str_dict, isn_lst_bool, isn_lst_int, isn_lst_str, isn_lst_tuple, isn_lst_list, isn_lst_dict, isn_tup_bool, isn_tup_int, isn_tup_str, isn_tup_tuple, isn_tup_list, isn_tup_dict, isn_dct_bool, isn_dct_int, isn_dct_str, isn_dct_tuple, isn_dct_list, isn_dct_dict, okn_bool, okn_int, okn_str, okn_tuple, okn_list, okn_dict, cIsi, tyT_n, tyT_b, tyT_i, tyT_s, tyT_r, V.ty.injEq, tSl, tPart, tNoPart, rSlF, gName, tFld, sFld, tMeth, tMake, tGetT, tInT, tNinT, sPutT, sAugT, tPopT, rLtH, dtO_d, dtO_f, kysO_n, kysO_i, kysO_s, intsV_n, intsV_i, HO.ins.injEq, HO.dT.injEq, tDNewT, rIxLT, cLenLT, rSub, rAdd, sFldAug, Td.rIsG, Td.rCntT, Td.rIdxT, Td.rExt, Lm.tCallZ, Lm.tLam, upd_ne nl, upd_ne nh, e1, e2]
    have kp : Keep [h, l] H (upd H p (.lst [])) := Keep.new hp
    cases ns with
    | nil =>
      simp only [tVar, tC, tOp, rI, rI0, rU, tTest, tB, tAnd, tOr, tNot, tAndV, tOrV, tNotV, tIf, tNil, tCons, tTup, tLst, tCB, tSeq, tAsg, gName, tRet, tRetN, tIfS, tNext, tDrop, tCall, tUn, tPar, CMul, CDiv, V.int.injEq, V.bl.injEq, V.ref.injEq, V.str.injEq, Option.some.injEq, List.cons.injEq, and_true, true_and, and_false, false_and, or_false, false_or, or_true, true_or, exists_eq_left', exists_eq_left, exists_and_left, exists_and_right, exists_eq', exists_eq, exists_false, exists_const, List.getElem?_cons_succ, List.getElem?_cons_zero, List.set_cons_succ, List.set_cons_zero, List.length_cons, List.length_nil, List.cons_append, List.nil_append, List.append_nil, reduceCtorEq, Int.reduceLT, Int.reduceLE, Int.reduceNeg, Int.reducePow, Int.reduceSub, Int.reduceAdd, Nat.reduceAdd, Nat.reduceLeDiff, Bool.not_true, Bool.not_false, decide_true, decide_false, Bool.false_eq_true, ↓reduceIte, upd_same, not_true_eq_false, not_false_eq_true, lsO_l, lsO_f, tpO_t, tpO_f, dkO_d, dkO_f, keyO_i, keyO_s, rIxH, rIxU, cLenL, cLenT, cListL, cListT, cTupL, cIntB, cAll, rEqNilI, rEq, rNe, scal_ii, scal_ss, scal_bb, scal_nn, scal_ni, scal_in, scal_ns, scal_sn, gSub, rSetL, ixs0, ixs1, ixs2, seq0, at0, at1, at2, at3, tBM, tBM0, rAppend, rPopAt, tyV_list, tGet2, tGetI, sPut, tMG, rTIdx, tyTup, tTupF, cx_K, cx_w, ex_map_int, ex_nil_int, ex_cons_int, List.map_cons, List.map_nil, List.isEmpty_nil, List.isEmpty_cons, List.eraseIdx_zero, List.tail_cons, List.eraseIdx_cons_zero, HO.lst.injEq, HO.tup.injEq, HO.dK.injEq, HO.frz.injEq, ne_eq, gTupH, gCons, gNil, wipe, tYes, upd_upd, and_assoc, List.getElem?_map, Option.map_some, isn_non_bool, isn_non_int, isn_non_str, isn_non_tuple, isn_non_list, isn_non_dict, isn_bl_bool, isn_bl_int, isn_bl_str, isn_bl_tuple, isn_bl_list, isn_bl_dict, isn_int_bool, isn_int_int, isn_int_str, isn_int_tuple, isn_int_list, isn_int_dict, isn_str_bool, isn_str_int, isn_str_str, isn_str_tuple, isn_str_list, isn_str_dict, isn_lst_bool, isn_lst_int, isn_lst_str, isn_lst_tuple, isn_lst_list, isn_lst_dict, isn_tup_bool, isn_tup_int, isn_tup_str, isn_tup_tuple, isn_tup_list, isn_tup_dict, isn_dct_bool, isn_dct_int, isn_dct_str, isn_dct_tuple, isn_dct_list, isn_dct_dict, okn_bool, okn_int, okn_str, okn_tuple, okn_list, okn_dict, cIsi, tyT_n, tyT_b, tyT_i, tyT_s, tyT_r, V.ty.injEq, tSl, tPart, tNoPart, rSlF, gName, tFld, sFld, tMeth, tMake, tGetT, tInT, tNinT, sPutT, sAugT, tPopT, rLtH, dtO_d, dtO_f, kysO_n, kysO_i, kysO_s, intsV_n, intsV_i, HO.ins.injEq, HO.dT.injEq, tDNewT, rIxLT, cLenLT, rSub, rAdd, sFldAug, Td.rIsG, Td.rCntT, Td.rIdxT, Td.rExt, Lm.tCallZ, Lm.tLam]
      refine ⟨n0, k _ _ (Int.emod_nonneg _ (by omega)) (Int.emod_lt_of_pos _ n0) ⟨[], _, upd_same, ?_, hlen⟩ (kp.upd (by simp))⟩
      rw [upd_ne nhl.symm, upd_ne nl]
      exact e2
    | cons c r =>
      simp only [tVar, tC, tOp, rI, rI0, rU, tTest, tB, tAnd, tOr, tNot, tAndV, tOrV, tNotV, tIf, tNil, tCons, tTup, tLst, tCB, tSeq, tAsg, gName, tRet, tRetN, tIfS, tNext, tDrop, tCall, tUn, tPar, CMul, CDiv, V.int.injEq, V.bl.injEq, V.ref.injEq, V.str.injEq, Option.some.injEq, List.cons.injEq, and_true, true_and, and_false, false_and, or_false, false_or, or_true, true_or, exists_eq_left', exists_eq_left, exists_and_left, exists_and_right, exists_eq', exists_eq, exists_false, exists_const, List.getElem?_cons_succ, List.getElem?_cons_zero, List.set_cons_succ, List.set_cons_zero, List.length_cons, List.length_nil, List.cons_append, List.nil_append, List.append_nil, reduceCtorEq, Int.reduceLT, Int.reduceLE, Int.reduceNeg, Int.reducePow, Int.reduceSub, Int.reduceAdd, Nat.reduceAdd, Nat.reduceLeDiff, Bool.not_true, Bool.not_false, decide_true, decide_false, Bool.false_eq_true, ↓reduceIte, upd_same, not_true_eq_false, not_false_eq_true, lsO_l, lsO_f, tpO_t, tpO_f, dkO_d, dkO_f, keyO_i, keyO_s, rIxH, rIxU, cLenL, cLenT, cListL, cListT, cTupL, cIntB, cAll, rEqNilI, rEq, rNe, scal_ii, scal_ss, scal_bb, scal_nn, scal_ni, scal_in, scal_ns, scal_sn, gSub, rSetL, ixs0, ixs1, ixs2, seq0, at0, at1, at2, at3, tBM, tBM0, rAppend, rPopAt, tyV_list, tGet2, tGetI, sPut, tMG, rTIdx, tyTup, tTupF, cx_K, cx_w, ex_map_int, ex_nil_int, ex_cons_int, List.map_cons, List.map_nil, List.isEmpty_nil, List.isEmpty_cons, List.eraseIdx_zero, List.tail_cons, List.eraseIdx_cons_zero, HO.lst.injEq, HO.tup.injEq, HO.dK.injEq, HO.frz.injEq, ne_eq, gTupH, gCons, gNil, wipe, tYes, upd_upd, and_assoc, List.getElem?_map, Option.map_some, isn_non_bool, isn_non_int, isn_non_str, isn_non_tuple, isn_non_list, isn_non_dict, isn_bl_bool, isn_bl_int, isn_bl_str, isn_bl_tuple, isn_bl_list, isn_bl_dict, isn_int_bool, isn_int_int, isn_int_str, isn_int_tuple, isn_int_list, isn_int_dict, isn_str_bool, isn_str_int, isn_str_str, isn_str_tuple, isn_str_list, isn_str_dict, isn_lst_bool, isn_lst_int, isn_lst_str, isn_lst_tuple, isn_lst_list, isn_lst_dict, isn_tup_bool, isn_tup_int, isn_tup_str, isn_tup_tuple, isn_tup_list, isn_tup_dict, isn_dct_bool, isn_dct_int, isn_dct_str, isn_dct_tuple, isn_dct_list, isn_dct_dict, okn_bool, okn_int, okn_str, okn_tuple, okn_list, okn_dict, cIsi, tyT_n, tyT_b, tyT_i, tyT_s, tyT_r, V.ty.injEq, tSl, tPart, tNoPart, rSlF, gName, tFld, sFld, tMeth, tMake, tGetT, tInT, tNinT, sPutT, sAugT, tPopT, rLtH, dtO_d, dtO_f, kysO_n, kysO_i, kysO_s, intsV_n, intsV_i, HO.ins.injEq, HO.dT.injEq, tDNewT, rIxLT, cLenLT, rSub, rAdd, sFldAug, Td.rIsG, Td.rCntT, Td.rIdxT, Td.rExt, Lm.tCallZ, Lm.tLam, upd_ne nhl, upd_ne nh, e1]
      refine ⟨n0, n1, ?_⟩
      have fin : ∀ rs : List Int, rs.length ≤ 100000 → Q (.int (c % n)) (upd (upd H p (.lst [])) l (.lst (rs.map V.int))) := fun rs hl =>
        k _ _ (Int.emod_nonneg _ (by omega)) (Int.emod_lt_of_pos _ n0) ⟨rs, st, by rw [upd_ne nhl, upd_ne nh]; exact e1, upd_same, hl⟩ (kp.upd (by simp))
      have hr2 : r.length ≤ 100000 := by
        rw [List.length_cons] at hlen
        omega
      split
      · exact ⟨n0, fin r hr2⟩
      · split
        · exact ⟨n0, fin r hr2⟩
        · exact ⟨n0, fin (c / n :: r) hlen⟩
end

/-! a disk: what lies there, what lies late, the units left, power -/
def Out (left : OI) (gone : Bool) : Prop := gone = true ∨ left = some 0
def spDkInit (C : Addr) : Sp := fun vs H Q _ => ∃ (p dx : Addr), vs = [.ref p] ∧ H p = some (.ins C dx []) ∧ ∀ (t l : Addr) (H' : Hp), H t = none → H l = none → t ≠ l → H' p = some (.ins C dx (fsDisk (.ref t) (.ref l) .non (.bl false))) → H' t = some (.lst []) → H' l = some (.lst []) → Keep [p] H H' → Q .non H'
def spDkNeed (C G : Addr) : Sp := fun vs H Q E => ∃ (a dx : Addr) (v0 v1 v2 : V) (gone : Bool), vs = [.ref a] ∧ H a = some (.ins C dx (fsDisk v0 v1 v2 (.bl gone))) ∧ (gone = true → E (.ref G) none H) ∧ (gone = false → Q .non H)
def spDkCount (C G : Addr) : Sp := fun vs H Q E => ∃ (a dx : Addr) (v0 v1 : V) (left : OI) (gone : Bool), vs = [.ref a] ∧ H a = some (.ins C dx (fsDisk v0 v1 (oi left) (.bl gone))) ∧
  (∀ H', Out left gone → Keep [a] H H' → H' a = some (.ins C dx (fsDisk v0 v1 (oi left) (.bl true))) → E (.ref G) none H') ∧
  (∀ H', ¬ Out left gone → Keep [a] H H' → H' a = some (.ins C dx (fsDisk v0 v1 (oi (left.map fun i => i - 1)) (.bl false))) → Q .non H')
/-- the disk at a: there at t, late at l -/
structure Dk (C : Addr) (H : Hp) (a dx t l : Addr) (xs ys : List V) (left : OI) (gone : Bool) : Prop where
  ob : H a = some (.ins C dx (fsDisk (.ref t) (.ref l) (oi left) (.bl gone)))
  th : H t = some (.lst xs)
  la : H l = some (.lst ys)
  ne : t ≠ l
def spDkWrite (C G : Addr) : Sp := fun vs H Q E => ∃ (a dx t l : Addr) (xs ys : List V) (u : V) (left : OI) (gone : Bool), vs = [.ref a, u] ∧ Dk C H a dx t l xs ys left gone ∧ ys.length ≤ 90000 ∧
  (∀ H', Out left gone → Keep [a] H H' → Dk C H' a dx t l xs ys left true → E (.ref G) none H') ∧
  (∀ H', ¬ Out left gone → Keep [a, l] H H' → Dk C H' a dx t l xs (ys ++ [u]) (left.map fun i => i - 1) false → Q .non H')
def spDkSettle (C G : Addr) : Sp := fun vs H Q E => ∃ (a dx t l : Addr) (xs ys : List V) (left : OI) (gone : Bool), vs = [.ref a] ∧ Dk C H a dx t l xs ys left gone ∧ xs.length + ys.length ≤ 90000 ∧
  (∀ H', Out left gone → Keep [a] H H' → Dk C H' a dx t l xs ys left true → E (.ref G) none H') ∧
  (∀ H' l', ¬ Out left gone → H l' = none → Keep [a, t] H H' → Dk C H' a dx t l' (xs ++ ys) [] (left.map fun i => i - 1) false → Q .non H')
def spDkUnits (C G : Addr) : Sp := fun vs H Q E => ∃ (a dx t l : Addr) (xs ys : List V) (left : OI) (gone : Bool), vs = [.ref a] ∧ Dk C H a dx t l xs ys left gone ∧ xs.length + ys.length ≤ 90000 ∧
  (gone = true → E (.ref G) none H) ∧ (gone = false → ∀ p, H p = none → Q (.ref p) (upd H p (.lst (xs ++ ys))))
def spDkArm (C B : Addr) : Sp := fun vs H Q E => ∃ (a dx t l : Addr) (xs ys : List V) (left : OI) (gone : Bool) (n : Int), vs = [.ref a, .int n] ∧ Dk C H a dx t l xs ys left gone ∧
  (n < 0 → E (.ref B) none H) ∧ (∀ H', 0 ≤ n → Keep [a] H H' → Dk C H' a dx t l xs ys (some n) gone → Q .non H')
def spDkFall (C B : Addr) : Sp := fun vs H Q E => ∃ (a dx t l : Addr) (xs ys : List V) (left : OI) (gone : Bool) (n : Int), vs = [.ref a, .int n] ∧ Dk C H a dx t l xs ys left gone ∧ xs.length + ys.length ≤ 90000 ∧
  (n < 0 → E (.ref B) none H) ∧ (∀ H' l', 0 ≤ n → H l' = none → Keep [a, t] H H' → Dk C H' a dx t l' (xs ++ ys.take n.toNat) [] none false → Q .non H')
theorem cut_to (ys : List V) {n : Int} (h : 0 ≤ n) : cutV ys none (some n) = ys.take n.toNat := by
  have e := Td.cutV_to ys n.toNat
  rw [show ((n.toNat : Nat) : Int) = n by omega] at e
  exact e
section
variable {P : Program} {w : World} {K : PySem.W.Frag} {mg : Str → Option Value} {base : Heap}
theorem Dk.nat {C : Addr} {H : Hp} {a dx t l : Addr} {xs ys : List V} {left : OI} {gone : Bool} (D : Dk C H a dx t l xs ys left gone) : a ≠ t ∧ a ≠ l := ⟨ne_of D.ob D.th (by intro z; cases z), ne_of D.ob D.la (by intro z; cases z)⟩
theorem ok_Disk_init (T : Txt K mg) : FnOk P w K mg base CX0 1 T.f_Disk_init T.fd_Disk_init ["self"] (spDkInit T.C_Disk) := by
  refine T.F_Disk_init.ok sc_Disk_init (fun vs H Q E h => ?_) (fun cdv A outer s H vs Q E hr h => ?_)
  · obtain ⟨p, dx, rfl, _⟩ := h
    rfl
  · obtain ⟨p, dx, rfl, hp, k⟩ := h
    refine ⟨_, (pss_cons (ps_fld (pv 0) (pe_lst pa_nil) rfl)
      (pss_cons (ps_fld (pv 0) (pe_lst pa_nil) rfl)
      (pss_cons (ps_fld (pv 0) pe_non rfl)
      (pss_one (ps_fld (pv 0) pe_bl rfl))))), ?_⟩
    rw [show L2.start N_Disk_init [V.ref p] = [some (V.ref p)] from rfl]
    simp only [tVar, tC, tOp, rI, rI0, rU, tTest, tB, tAnd, tOr, tNot, tAndV, tOrV, tNotV, tIf, tNil, tCons, tTup, tLst, tCB, tSeq, tAsg, gName, tRet, tRetN, tIfS, tNext, tDrop, tCall, tUn, tPar, CMul, CDiv, V.int.injEq, V.bl.injEq, V.ref.injEq, V.str.injEq, Option.some.injEq, List.cons.injEq, and_true, true_and, and_false, false_and, or_false, false_or, or_true, true_or, exists_eq_left', exists_eq_left, exists_and_left, exists_and_right, exists_eq', exists_eq, exists_false, exists_const, List.getElem?_cons_succ, List.getElem?_cons_zero, List.set_cons_succ, List.set_cons_zero, List.length_cons, List.length_nil, List.cons_append, List.nil_append, List.append_nil, reduceCtorEq, Int.reduceLT, Int.reduceLE, Int.reduceNeg, Int.reducePow, Int.reduceSub, Int.reduceAdd, Nat.reduceAdd, Nat.reduceLeDiff, Bool.not_true, Bool.not_false, decide_true, decide_false, Bool.false_eq_true, ↓reduceIte, upd_same, not_true_eq_false, not_false_eq_true, lsO_l, lsO_f, tpO_t, tpO_f, dkO_d, dkO_f, keyO_i, keyO_s, rIxH, rIxU, cLenL, cLenT, cListL, cListT, cTupL, cIntB, cAll, rEqNilI, rEq, rNe, scal_ii, scal_ss, scal_bb, scal_nn, scal_ni, scal_in, scal_ns, scal_sn, gSub, rSetL, ixs0, ixs1, ixs2, seq0, at0, at1, at2, at3, tBM, tBM0, rAppend, rPopAt, tyV_list, tGet2, tGetI, sPut, tMG, rTIdx, tyTup, tTupF, cx_K, cx_w, ex_map_int, ex_nil_int, ex_cons_int, List.map_cons, List.map_nil, List.isEmpty_nil, List.isEmpty_cons, List.eraseIdx_zero, List.tail_cons, List.eraseIdx_cons_zero, HO.lst.injEq, HO.tup.injEq, HO.dK.injEq, HO.frz.injEq, ne_eq, gTupH, gCons, gNil, wipe, tYes, upd_upd, and_assoc, List.getElem?_map, Option.map_some, isn_non_bool, isn_non_int, isn_non_str, isn_non_tuple, isn_non_list, isn_non_dict, isn_bl_bool, isn_bl_int, isn_bl_str, isn_bl_tuple, isn_bl_list, isn_bl_dict, isn_int_bool, isn_int_int, isn_int_str, isn_int_tuple, isn_int_list, isn_int_dict, isn_str_bool, isn_str_int, isn_str_str, isn_str_tuple, isn_str_list, isn_str_dict, isn_lst_bool, isn_lst_int, isn_lst_str, isn_lst_tuple, isn_lst_list, isn_lst_dict, isn_tup_bool, isn_tup_int, isn_tup_str, isn_tup_tuple, isn_tup_list, isn_tup_dict, isn_dct_bool, isn_dct_int, isn_dct_str, isn_dct_tuple, isn_dct_list, isn_dct_dict, okn_bool, okn_int, okn_str, okn_tuple, okn_list, okn_dict, cIsi, tyT_n, tyT_b, tyT_i, tyT_s, tyT_r, V.ty.injEq, tSl, tPart, tNoPart, rSlF, gName, tFld, sFld, tMeth, tMake, tGetT, tInT, tNinT, sPutT, sAugT, tPopT, rLtH, dtO_d, dtO_f, kysO_n, kysO_i, kysO_s, intsV_n, intsV_i, HO.ins.injEq, HO.dT.injEq, tDNewT, rIxLT, cLenLT, rSub, rAdd, sFldAug, Td.rIsG, Td.rCntT, Td.rIdxT, Td.rExt, Lm.tCallZ, Lm.tLam]
    refine ⟨szl (by decide), fun t ht => ?_⟩
    have npt : p ≠ t := ne_of_none hp ht
    simp only [tVar, tC, tOp, rI, rI0, rU, tTest, tB, tAnd, tOr, tNot, tAndV, tOrV, tNotV, tIf, tNil, tCons, tTup, tLst, tCB, tSeq, tAsg, gName, tRet, tRetN, tIfS, tNext, tDrop, tCall, tUn, tPar, CMul, CDiv, V.int.injEq, V.bl.injEq, V.ref.injEq, V.str.injEq, Option.some.injEq, List.cons.injEq, and_true, true_and, and_false, false_and, or_false, false_or, or_true, true_or, exists_eq_left', exists_eq_left, exists_and_left, exists_and_right, exists_eq', exists_eq, exists_false, exists_const, List.getElem?_cons_succ, List.getElem?_cons_zero, List.set_cons_succ, List.set_cons_zero, List.length_cons, List.length_nil, List.cons_append, List.nil_append, List.append_nil, reduceCtorEq, Int.reduceLT, Int.reduceLE, Int.reduceNeg, Int.reducePow, Int.reduceSub, Int.reduceAdd, Nat.reduceAdd, Nat.reduceLeDiff, Bool.not_true, Bool.not_false, decide_true, decide_false, Bool.false_eq_true, ↓reduceIte, upd_same, not_true_eq_false, not_false_eq_true, lsO_l, lsO_f, tpO_t, tpO_f, dkO_d, dkO_f, keyO_i, keyO_s, rIxH, rIxU, cLenL, cLenT, cListL, cListT, cTupL, cIntB, cAll, rEqNilI, rEq, rNe, scal_ii, scal_ss, scal_bb, scal_nn, scal_ni, scal_in, scal_ns, scal_sn, gSub, rSetL, ixs0, ixs1, ixs2, seq0, at0, at1, at2, at3, tBM, tBM0, rAppend, rPopAt, tyV_list, tGet2, tGetI, sPut, tMG, rTIdx, tyTup, tTupF, cx_K, cx_w, ex_map_int, ex_nil_int, ex_cons_int, List.map_cons, List.map_nil, List.isEmpty_nil, List.isEmpty_cons, List.eraseIdx_zero, List.tail_cons, List.eraseIdx_cons_zero, HO.lst.injEq, HO.tup.injEq, HO.dK.injEq, HO.frz.injEq, ne_eq, gTupH, gCons, gNil, wipe, tYes, upd_upd, and_assoc, List.getElem?_map, Option.map_some, isn_non_bool, isn_non_int, isn_non_str, isn_non_tuple, isn_non_list, isn_non_dict, isn_bl_bool, isn_bl_int, isn_bl_str, isn_bl_tuple, isn_bl_list, isn_bl_dict, isn_int_bool, isn_int_int, isn_int_str, isn_int_tuple, isn_int_list, isn_int_dict, isn_str_bool, isn_str_int, isn_str_str, isn_str_tuple, isn_str_list, isn_str_dict, isn_lst_bool, isn_lst_int, isn_lst_str, isn_lst_tuple, isn_lst_list, isn_lst_dict, isn_tup_bool, isn_tup_int, isn_tup_str, isn_tup_tuple, isn_tup_list, isn_tup_dict, isn_dct_bool, isn_dct_int, isn_dct_str, isn_dct_tuple, isn_dct_list, isn_dct_dict, okn_bool, okn_int, okn_str, okn_tuple, okn_list, okn_dict, cIsi, tyT_n, tyT_b, tyT_i, tyT_s, tyT_r, V.ty.injEq, tSl, tPart, tNoPart, rSlF, gName, tFld, sFld, tMeth, tMake, tGetT, tInT, tNinT, sPutT, sAugT, tPopT, rLtH, dtO_d, dtO_f, kysO_n, kysO_i, kysO_s, intsV_n, intsV_i, HO.ins.injEq, HO.dT.injEq, tDNewT, rIxLT, cLenLT, rSub, rAdd, sFldAug, Td.rIsG, Td.rCntT, Td.rIdxT, Td.rExt, Lm.tCallZ, Lm.tLam, lkDisk_there, lkDisk_late, lkDisk_left, lkDisk_is_gone, noDisk_need_power, noDisk_count, noDisk_write, noDisk_settle, noDisk_units, noDisk_arm, noDisk_fall, inDisk_there, inDisk_late, inDisk_left, inDisk_is_gone, puDisk_there, puDisk_late, puDisk_left, puDisk_is_gone, lnDisk, lpDisk1, lpDisk2, lpDisk3, l0Disk, T.cl_Disk, T.na_Disk_there, T.na_Disk_late, T.na_Disk_left, T.na_Disk_is_gone, upd_ne npt, hp]
    refine ⟨szl (by decide), fun l hl => ?_⟩
    have npl : p ≠ l := fun e => by rw [e, upd_same] at hl; cases hl
    simp only [tVar, tC, tOp, rI, rI0, rU, tTest, tB, tAnd, tOr, tNot, tAndV, tOrV, tNotV, tIf, tNil, tCons, tTup, tLst, tCB, tSeq, tAsg, gName, tRet, tRetN, tIfS, tNext, tDrop, tCall, tUn, tPar, CMul, CDiv, V.int.injEq, V.bl.injEq, V.ref.injEq, V.str.injEq, Option.some.injEq, List.cons.injEq, and_true, true_and, and_false, false_and, or_false, false_or, or_true, true_or, exists_eq_left', exists_eq_left, exists_and_left, exists_and_right, exists_eq', exists_eq, exists_false, exists_const, List.getElem?_cons_succ, List.getElem?_cons_zero, List.set_cons_succ, List.set_cons_zero, List.length_cons, List.length_nil, List.cons_append, List.nil_append, List.append_nil, reduceCtorEq, Int.reduceLT, Int.reduceLE, Int.reduceNeg, Int.reducePow, Int.reduceSub, Int.reduceAdd, Nat.reduceAdd, Nat.reduceLeDiff, Bool.not_true, Bool.not_false, decide_true, decide_false, Bool.false_eq_true, ↓reduceIte, upd_same, not_true_eq_false, not_false_eq_true, lsO_l, lsO_f, tpO_t, tpO_f, dkO_d, dkO_f, keyO_i, keyO_s, rIxH, rIxU, cLenL, cLenT, cListL, cListT, cTupL, cIntB, cAll, rEqNilI, rEq, rNe, scal_ii, scal_ss, scal_bb, scal_nn, scal_ni, scal_in, scal_ns, scal_sn, gSub, rSetL, ixs0, ixs1, ixs2, seq0, at0, at1, at2, at3, tBM, tBM0, rAppend, rPopAt, tyV_list, tGet2, tGetI, sPut, tMG, rTIdx, tyTup, tTupF, cx_K, cx_w, ex_map_int, ex_nil_int, ex_cons_int, List.map_cons, List.map_nil, List.isEmpty_nil, List.isEmpty_cons, List.eraseIdx_zero, List.tail_cons, List.eraseIdx_cons_zero, HO.lst.injEq, HO.tup.injEq, HO.dK.injEq, HO.frz.injEq, ne_eq, gTupH, gCons, gNil, wipe, tYes, upd_upd, and_assoc, List.getElem?_map, Option.map_some, isn_non_bool, isn_non_int, isn_non_str, isn_non_tuple, isn_non_list, isn_non_dict, isn_bl_bool, isn_bl_int, isn_bl_str, isn_bl_tuple, isn_bl_list, isn_bl_dict, isn_int_bool, isn_int_int, isn_int_str, isn_int_tuple, isn_int_list, isn_int_dict, isn_str_bool, isn_str_int, isn_str_str, isn_str_tuple, isn_str_list, isn_str_dict, isn_lst_bool, isn_lst_int, isn_lst_str, isn_lst_tuple, isn_lst_list, isn_lst_dict, isn_tup_bool, isn_tup_int, isn_tup_str, isn_tup_tuple, isn_tup_list, isn_tup_dict, isn_dct_bool, isn_dct_int, isn_dct_str, isn_dct_tuple, isn_dct_list, isn_dct_dict, okn_bool, okn_int, okn_str, okn_tuple, okn_list, okn_dict, cIsi, tyT_n, tyT_b, tyT_i, tyT_s, tyT_r, V.ty.injEq, tSl, tPart, tNoPart, rSlF, gName, tFld, sFld, tMeth, tMake, tGetT, tInT, tNinT, sPutT, sAugT, tPopT, rLtH, dtO_d, dtO_f, kysO_n, kysO_i, kysO_s, intsV_n, intsV_i, HO.ins.injEq, HO.dT.injEq, tDNewT, rIxLT, cLenLT, rSub, rAdd, sFldAug, Td.rIsG, Td.rCntT, Td.rIdxT, Td.rExt, Lm.tCallZ, Lm.tLam, lkDisk_there, lkDisk_late, lkDisk_left, lkDisk_is_gone, noDisk_need_power, noDisk_count, noDisk_write, noDisk_settle, noDisk_units, noDisk_arm, noDisk_fall, inDisk_there, inDisk_late, inDisk_left, inDisk_is_gone, puDisk_there, puDisk_late, puDisk_left, puDisk_is_gone, lnDisk, lpDisk1, lpDisk2, lpDisk3, l0Disk, T.cl_Disk, T.na_Disk_there, T.na_Disk_late, T.na_Disk_left, T.na_Disk_is_gone, upd_ne npl]
    have ntl : t ≠ l := fun e => by rw [e, upd_ne npl.symm, ← e, upd_same] at hl; cases hl
    have hl0 : H l = none := by rw [upd_ne npl.symm, upd_ne ntl.symm] at hl; exact hl
    refine k t l _ ht hl0 ntl upd_same ?_ ?_ ?_
    · rw [upd_ne npt.symm, upd_ne ntl, upd_ne npt.symm, upd_same]
    · rw [upd_ne npl.symm, upd_same]
    · exact ((((Keep.refl.updFree ht).upd (by simp)).updFree hl0).upd (by simp))
theorem ok_Disk_need_power (T : Txt K mg) : FnOk P w K mg base (L2.CX P w) 1 T.f_Disk_need_power T.fd_Disk_need_power ["self"] (spDkNeed T.C_Disk T.C_Gone) := by
  refine T.F_Disk_need_power.okX sc_Disk_need_power (fun vs H Q E h => ?_) (fun cdv A outer s H vs Q E hr h => ?_)
  · obtain ⟨a, dx, v0, v1, v2, gone, rfl, _⟩ := h
    rfl
  · obtain ⟨a, dx, v0, v1, v2, gone, rfl, ha, k1, k2⟩ := h
    refine ⟨_, (pss_one (ps_if (pt_val (pe_fldK K rfl (pv 0) rfl)) (pss_one (Td.ps_raiseE rfl (takes_of rfl rfl rfl rfl) T.X_Gone rfl (pa_cons pe_str pa_nil))) pss_nil)), ?_⟩
    rw [show L2.start N_Disk_need_power [V.ref a] = [some (V.ref a)] from rfl]
    simp only [tVar, tC, tOp, rI, rI0, rU, tTest, tB, tAnd, tOr, tNot, tAndV, tOrV, tNotV, tIf, tNil, tCons, tTup, tLst, tCB, tSeq, tAsg, gName, tRet, tRetN, tIfS, tNext, tDrop, tCall, tUn, tPar, CMul, CDiv, V.int.injEq, V.bl.injEq, V.ref.injEq, V.str.injEq, Option.some.injEq, List.cons.injEq, and_true, true_and, and_false, false_and, or_false, false_or, or_true, true_or, exists_eq_left', exists_eq_left, exists_and_left, exists_and_right, exists_eq', exists_eq, exists_false, exists_const, List.getElem?_cons_succ, List.getElem?_cons_zero, List.set_cons_succ, List.set_cons_zero, List.length_cons, List.length_nil, List.cons_append, List.nil_append, List.append_nil, reduceCtorEq, Int.reduceLT, Int.reduceLE, Int.reduceNeg, Int.reducePow, Int.reduceSub, Int.reduceAdd, Nat.reduceAdd, Nat.reduceLeDiff, Bool.not_true, Bool.not_false, decide_true, decide_false, Bool.false_eq_true, ↓reduceIte, upd_same, not_true_eq_false, not_false_eq_true, lsO_l, lsO_f, tpO_t, tpO_f, dkO_d, dkO_f, keyO_i, keyO_s, rIxH, rIxU, cLenL, cLenT, cListL, cListT, cTupL, cIntB, cAll, rEqNilI, rEq, rNe, scal_ii, scal_ss, scal_bb, scal_nn, scal_ni, scal_in, scal_ns, scal_sn, gSub, rSetL, ixs0, ixs1, ixs2, seq0, at0, at1, at2, at3, tBM, tBM0, rAppend, rPopAt, tyV_list, tGet2, tGetI, sPut, tMG, rTIdx, tyTup, tTupF, cx_K, cx_w, ex_map_int, ex_nil_int, ex_cons_int, List.map_cons, List.map_nil, List.isEmpty_nil, List.isEmpty_cons, List.eraseIdx_zero, List.tail_cons, List.eraseIdx_cons_zero, HO.lst.injEq, HO.tup.injEq, HO.dK.injEq, HO.frz.injEq, ne_eq, gTupH, gCons, gNil, wipe, tYes, upd_upd, and_assoc, List.getElem?_map, Option.map_some, isn_non_bool, isn_non_int, isn_non_str, isn_non_tuple, isn_non_list, isn_non_dict, isn_bl_bool, isn_bl_int, isn_bl_str, isn_bl_tuple, isn_bl_list, isn_bl_dict, isn_int_bool, isn_int_int, isn_int_str, isn_int_tuple, isn_int_list, isn_int_dict, isn_str_bool, isn_str_int, isn_str_str, isn_str_tuple, isn_str_list, isn_str_dict, isn_lst_bool, isn_lst_int, isn_lst_str, isn_lst_tuple, isn_lst_list, isn_lst_dict, isn_tup_bool, isn_tup_int, isn_tup_str, isn_tup_tuple, isn_tup_list, isn_tup_dict, isn_dct_bool, isn_dct_int, isn_dct_str, isn_dct_tuple, isn_dct_list, isn_dct_dict, okn_bool, okn_int, okn_str, okn_tuple, okn_list, okn_dict, cIsi, tyT_n, tyT_b, tyT_i, tyT_s, tyT_r, V.ty.injEq, tSl, tPart, tNoPart, rSlF, gName, tFld, sFld, tMeth, tMake, tGetT, tInT, tNinT, sPutT, sAugT, tPopT, rLtH, dtO_d, dtO_f, kysO_n, kysO_i, kysO_s, intsV_n, intsV_i, HO.ins.injEq, HO.dT.injEq, tDNewT, rIxLT, cLenLT, rSub, rAdd, sFldAug, Td.rIsG, Td.rCntT, Td.rIdxT, Td.rExt, Lm.tCallZ, Lm.tLam, lkDisk_there, lkDisk_late, lkDisk_left, lkDisk_is_gone, noDisk_need_power, noDisk_count, noDisk_write, noDisk_settle, noDisk_units, noDisk_arm, noDisk_fall, inDisk_there, inDisk_late, inDisk_left, inDisk_is_gone, puDisk_there, puDisk_late, puDisk_left, puDisk_is_gone, lnDisk, lpDisk1, lpDisk2, lpDisk3, l0Disk, T.cl_Disk, T.na_Disk_there, T.na_Disk_late, T.na_Disk_left, T.na_Disk_is_gone, ha]
    cases gone with
    | true => simp only [tVar, tC, tOp, rI, rI0, rU, tTest, tB, tAnd, tOr, tNot, tAndV, tOrV, tNotV, tIf, tNil, tCons, tTup, tLst, tCB, tSeq, tAsg, gName, tRet, tRetN, tIfS, tNext, tDrop, tCall, tUn, tPar, CMul, CDiv, V.int.injEq, V.bl.injEq, V.ref.injEq, V.str.injEq, Option.some.injEq, List.cons.injEq, and_true, true_and, and_false, false_and, or_false, false_or, or_true, true_or, exists_eq_left', exists_eq_left, exists_and_left, exists_and_right, exists_eq', exists_eq, exists_false, exists_const, List.getElem?_cons_succ, List.getElem?_cons_zero, List.set_cons_succ, List.set_cons_zero, List.length_cons, List.length_nil, List.cons_append, List.nil_append, List.append_nil, reduceCtorEq, Int.reduceLT, Int.reduceLE, Int.reduceNeg, Int.reducePow, Int.reduceSub, Int.reduceAdd, Nat.reduceAdd, Nat.reduceLeDiff, Bool.not_true, Bool.not_false, decide_true, decide_false, Bool.false_eq_true, ↓reduceIte, upd_same, not_true_eq_false, not_false_eq_true, lsO_l, lsO_f, tpO_t, tpO_f, dkO_d, dkO_f, keyO_i, keyO_s, rIxH, rIxU, cLenL, cLenT, cListL, cListT, cTupL, cIntB, cAll, rEqNilI, rEq, rNe, scal_ii, scal_ss, scal_bb, scal_nn, scal_ni, scal_in, scal_ns, scal_sn, gSub, rSetL, ixs0, ixs1, ixs2, seq0, at0, at1, at2, at3, tBM, tBM0, rAppend, rPopAt, tyV_list, tGet2, tGetI, sPut, tMG, rTIdx, tyTup, tTupF, cx_K, cx_w, ex_map_int, ex_nil_int, ex_cons_int, List.map_cons, List.map_nil, List.isEmpty_nil, List.isEmpty_cons, List.eraseIdx_zero, List.tail_cons, List.eraseIdx_cons_zero, HO.lst.injEq, HO.tup.injEq, HO.dK.injEq, HO.frz.injEq, ne_eq, gTupH, gCons, gNil, wipe, tYes, upd_upd, and_assoc, List.getElem?_map, Option.map_some, isn_non_bool, isn_non_int, isn_non_str, isn_non_tuple, isn_non_list, isn_non_dict, isn_bl_bool, isn_bl_int, isn_bl_str, isn_bl_tuple, isn_bl_list, isn_bl_dict, isn_int_bool, isn_int_int, isn_int_str, isn_int_tuple, isn_int_list, isn_int_dict, isn_str_bool, isn_str_int, isn_str_str, isn_str_tuple, isn_str_list, isn_str_dict, isn_lst_bool, isn_lst_int, isn_lst_str, isn_lst_tuple, isn_lst_list, isn_lst_dict, isn_tup_bool, isn_tup_int, isn_tup_str, isn_tup_tuple, isn_tup_list, isn_tup_dict, isn_dct_bool, isn_dct_int, isn_dct_str, isn_dct_tuple, isn_dct_list, isn_dct_dict, okn_bool, okn_int, okn_str, okn_tuple, okn_list, okn_dict, cIsi, tyT_n, tyT_b, tyT_i, tyT_s, tyT_r, V.ty.injEq, tSl, tPart, tNoPart, rSlF, gName, tFld, sFld, tMeth, tMake, tGetT, tInT, tNinT, sPutT, sAugT, tPopT, rLtH, dtO_d, dtO_f, kysO_n, kysO_i, kysO_s, intsV_n, intsV_i, HO.ins.injEq, HO.dT.injEq, tDNewT, rIxLT, cLenLT, rSub, rAdd, sFldAug, Td.rIsG, Td.rCntT, Td.rIdxT, Td.rExt, Lm.tCallZ, Lm.tLam]; exact ⟨szl (by decide), k1 rfl⟩
    | false => simp only [tVar, tC, tOp, rI, rI0, rU, tTest, tB, tAnd, tOr, tNot, tAndV, tOrV, tNotV, tIf, tNil, tCons, tTup, tLst, tCB, tSeq, tAsg, gName, tRet, tRetN, tIfS, tNext, tDrop, tCall, tUn, tPar, CMul, CDiv, V.int.injEq, V.bl.injEq, V.ref.injEq, V.str.injEq, Option.some.injEq, List.cons.injEq, and_true, true_and, and_false, false_and, or_false, false_or, or_true, true_or, exists_eq_left', exists_eq_left, exists_and_left, exists_and_right, exists_eq', exists_eq, exists_false, exists_const, List.getElem?_cons_succ, List.getElem?_cons_zero, List.set_cons_succ, List.set_cons_zero, List.length_cons, List.length_nil, List.cons_append, List.nil_append, List.append_nil, reduceCtorEq, Int.reduceLT, Int.reduceLE, Int.reduceNeg, Int.reducePow, Int.reduceSub, Int.reduceAdd, Nat.reduceAdd, Nat.reduceLeDiff, Bool.not_true, Bool.not_false, decide_true, decide_false, Bool.false_eq_true, ↓reduceIte, upd_same, not_true_eq_false, not_false_eq_true, lsO_l, lsO_f, tpO_t, tpO_f, dkO_d, dkO_f, keyO_i, keyO_s, rIxH, rIxU, cLenL, cLenT, cListL, cListT, cTupL, cIntB, cAll, rEqNilI, rEq, rNe, scal_ii, scal_ss, scal_bb, scal_nn, scal_ni, scal_in, scal_ns, scal_sn, gSub, rSetL, ixs0, ixs1, ixs2, seq0, at0, at1, at2, at3, tBM, tBM0, rAppend, rPopAt, tyV_list, tGet2, tGetI, sPut, tMG, rTIdx, tyTup, tTupF, cx_K, cx_w, ex_map_int, ex_nil_int, ex_cons_int, List.map_cons, List.map_nil, List.isEmpty_nil, List.isEmpty_cons, List.eraseIdx_zero, List.tail_cons, List.eraseIdx_cons_zero, HO.lst.injEq, HO.tup.injEq, HO.dK.injEq, HO.frz.injEq, ne_eq, gTupH, gCons, gNil, wipe, tYes, upd_upd, and_assoc, List.getElem?_map, Option.map_some, isn_non_bool, isn_non_int, isn_non_str, isn_non_tuple, isn_non_list, isn_non_dict, isn_bl_bool, isn_bl_int, isn_bl_str, isn_bl_tuple, isn_bl_list, isn_bl_dict, isn_int_bool, isn_int_int, isn_int_str, isn_int_tuple, isn_int_list, isn_int_dict, isn_str_bool, isn_str_int, isn_str_str, isn_str_tuple, isn_str_list, isn_str_dict, isn_lst_bool, isn_lst_int, isn_lst_str, isn_lst_tuple, isn_lst_list, isn_lst_dict, isn_tup_bool, isn_tup_int, isn_tup_str, isn_tup_tuple, isn_tup_list, isn_tup_dict, isn_dct_bool, isn_dct_int, isn_dct_str, isn_dct_tuple, isn_dct_list, isn_dct_dict, okn_bool, okn_int, okn_str, okn_tuple, okn_list, okn_dict, cIsi, tyT_n, tyT_b, tyT_i, tyT_s, tyT_r, V.ty.injEq, tSl, tPart, tNoPart, rSlF, gName, tFld, sFld, tMeth, tMake, tGetT, tInT, tNinT, sPutT, sAugT, tPopT, rLtH, dtO_d, dtO_f, kysO_n, kysO_i, kysO_s, intsV_n, intsV_i, HO.ins.injEq, HO.dT.injEq, tDNewT, rIxLT, cLenLT, rSub, rAdd, sFldAug, Td.rIsG, Td.rCntT, Td.rIdxT, Td.rExt, Lm.tCallZ, Lm.tLam]; exact k2 rfl
theorem ok_Disk_count (T : Txt K mg) : FnOk P w K mg base (L2.CX P w) 2 T.f_Disk_count T.fd_Disk_count ["self"] (spDkCount T.C_Disk T.C_Gone) := by
  have G_Disk_need_power : FnOk P w K mg base (L2.CX P w) 1 T.f_Disk_need_power T.fd_Disk_need_power ["self"] (spDkNeed T.C_Disk T.C_Gone) := ok_Disk_need_power T
  refine T.F_Disk_count.okX sc_Disk_count (fun vs H Q E h => ?_) (fun cdv A outer s H vs Q E hr h => ?_)
  · obtain ⟨a, dx, v0, v1, left, gone, rfl, _⟩ := h
    rfl
  · obtain ⟨a, dx, v0, v1, left, gone, rfl, ha, k1, k2⟩ := h
    refine ⟨_, (pss_cons (ps_expr (pe_meth0 (pv 0) T.cl_Disk T.me_Disk_need_power G_Disk_need_power (hr.mono (by decide)) T.b_Disk_need_power .nil (passes_call (takes_of rfl rfl rfl rfl) (fun _ _ _ _ z => z))))
      (pss_cons (ps_if (pt_cmpR op_eq (pe_fldK K rfl (pv 0) rfl) pe_int (nomark _)) (pss_cons (ps_fld (pv 0) pe_bl rfl)
        (pss_one (Td.ps_raiseE rfl (takes_of rfl rfl rfl rfl) T.X_Gone rfl (pa_cons pe_str pa_nil)))) pss_nil)
      (pss_one (ps_if (pt_cmpR op_notN (pe_fldK K rfl (pv 0) rfl) pe_non (nomark _)) (pss_one (ps_fldaug (pv 0) pe_int in_sub)) pss_nil)))), ?_⟩
    rw [show L2.start N_Disk_count [V.ref a] = [some (V.ref a)] from rfl]
    simp only [tVar, tC, tOp, rI, rI0, rU, tTest, tB, tAnd, tOr, tNot, tAndV, tOrV, tNotV, tIf, tNil, tCons, tTup, tLst, tCB, tSeq, tAsg, gName, tRet, tRetN, tIfS, tNext, tDrop, tCall, tUn, tPar, CMul, CDiv, V.int.injEq, V.bl.injEq, V.ref.injEq, V.str.injEq, Option.some.injEq, List.cons.injEq, and_true, true_and, and_false, false_and, or_false, false_or, or_true, true_or, exists_eq_left', exists_eq_left, exists_and_left, exists_and_right, exists_eq', exists_eq, exists_false, exists_const, List.getElem?_cons_succ, List.getElem?_cons_zero, List.set_cons_succ, List.set_cons_zero, List.length_cons, List.length_nil, List.cons_append, List.nil_append, List.append_nil, reduceCtorEq, Int.reduceLT, Int.reduceLE, Int.reduceNeg, Int.reducePow, Int.reduceSub, Int.reduceAdd, Nat.reduceAdd, Nat.reduceLeDiff, Bool.not_true, Bool.not_false, decide_true, decide_false, Bool.false_eq_true, ↓reduceIte, upd_same, not_true_eq_false, not_false_eq_true, lsO_l, lsO_f, tpO_t, tpO_f, dkO_d, dkO_f, keyO_i, keyO_s, rIxH, rIxU, cLenL, cLenT, cListL, cListT, cTupL, cIntB, cAll, rEqNilI, rEq, rNe, scal_ii, scal_ss, scal_bb, scal_nn, scal_ni, scal_in, scal_ns, scal_sn, gSub, rSetL, ixs0, ixs1, ixs2, seq0, at0, at1, at2, at3, tBM, tBM0, rAppend, rPopAt, tyV_list, tGet2, tGetI, sPut, tMG, rTIdx, tyTup, tTupF, cx_K, cx_w, ex_map_int, ex_nil_int, ex_cons_int, List.map_cons, List.map_nil, List.isEmpty_nil, List.isEmpty_cons, List.eraseIdx_zero, List.tail_cons, List.eraseIdx_cons_zero, HO.lst.injEq, HO.tup.injEq, HO.dK.injEq, HO.frz.injEq, ne_eq, gTupH, gCons, gNil, wipe, tYes, upd_upd, and_assoc, List.getElem?_map, Option.map_some, isn_non_bool, isn_non_int, isn_non_str, isn_non_tuple, isn_non_list, isn_non_dict, isn_bl_bool, isn_bl_int, isn_bl_str, isn_bl_tuple, isn_bl_list, isn_bl_dict, isn_int_bool, isn_int_int, isn_int_str, isn_int_tuple, isn_int_list, isn_int_dict, isn_str_bool, isn_str_int, isn_str_str, isn_str_tuple, isn_str_list, isn_str_dict, isn_lst_bool, isn_lst_int, isn_lst_str, isn_lst_tuple, isn_lst_list, isn_lst_dict, isn_tup_bool, isn_tup_int, isn_tup_str, isn_tup_tuple, isn_tup_list, isn_tup_dict, isn_dct_bool, isn_dct_int, isn_dct_str, isn_dct_tuple, isn_dct_list, isn_dct_dict, okn_bool, okn_int, okn_str, okn_tuple, okn_list, okn_dict, cIsi, tyT_n, tyT_b, tyT_i, tyT_s, tyT_r, V.ty.injEq, tSl, tPart, tNoPart, rSlF, gName, tFld, sFld, tMeth, tMake, tGetT, tInT, tNinT, sPutT, sAugT, tPopT, rLtH, dtO_d, dtO_f, kysO_n, kysO_i, kysO_s, intsV_n, intsV_i, HO.ins.injEq, HO.dT.injEq, tDNewT, rIxLT, cLenLT, rSub, rAdd, sFldAug, Td.rIsG, Td.rCntT, Td.rIdxT, Td.rExt, Lm.tCallZ, Lm.tLam, lkDisk_there, lkDisk_late, lkDisk_left, lkDisk_is_gone, noDisk_need_power, noDisk_count, noDisk_write, noDisk_settle, noDisk_units, noDisk_arm, noDisk_fall, inDisk_there, inDisk_late, inDisk_left, inDisk_is_gone, puDisk_there, puDisk_late, puDisk_left, puDisk_is_gone, lnDisk, lpDisk1, lpDisk2, lpDisk3, l0Disk, T.cl_Disk, T.na_Disk_there, T.na_Disk_late, T.na_Disk_left, T.na_Disk_is_gone, ha]
    refine ⟨a, dx, v0, v1, oi left, gone, rfl, ha, fun g => ?_, fun g => ?_⟩
    · subst g
      exact k1 H (.inl rfl) Keep.refl ha
    · subst g
      cases left with
      | none =>
        simp only [tVar, tC, tOp, rI, rI0, rU, tTest, tB, tAnd, tOr, tNot, tAndV, tOrV, tNotV, tIf, tNil, tCons, tTup, tLst, tCB, tSeq, tAsg, gName, tRet, tRetN, tIfS, tNext, tDrop, tCall, tUn, tPar, CMul, CDiv, V.int.injEq, V.bl.injEq, V.ref.injEq, V.str.injEq, Option.some.injEq, List.cons.injEq, and_true, true_and, and_false, false_and, or_false, false_or, or_true, true_or, exists_eq_left', exists_eq_left, exists_and_left, exists_and_right, exists_eq', exists_eq, exists_false, exists_const, List.getElem?_cons_succ, List.getElem?_cons_zero, List.set_cons_succ, List.set_cons_zero, List.length_cons, List.length_nil, List.cons_append, List.nil_append, List.append_nil, reduceCtorEq, Int.reduceLT, Int.reduceLE, Int.reduceNeg, Int.reducePow, Int.reduceSub, Int.reduceAdd, Nat.reduceAdd, Nat.reduceLeDiff, Bool.not_true, Bool.not_false, decide_true, decide_false, Bool.false_eq_true, ↓reduceIte, upd_same, not_true_eq_false, not_false_eq_true, lsO_l, lsO_f, tpO_t, tpO_f, dkO_d, dkO_f, keyO_i, keyO_s, rIxH, rIxU, cLenL, cLenT, cListL, cListT, cTupL, cIntB, cAll, rEqNilI, rEq, rNe, scal_ii, scal_ss, scal_bb, scal_nn, scal_ni, scal_in, scal_ns, scal_sn, gSub, rSetL, ixs0, ixs1, ixs2, seq0, at0, at1, at2, at3, tBM, tBM0, rAppend, rPopAt, tyV_list, tGet2, tGetI, sPut, tMG, rTIdx, tyTup, tTupF, cx_K, cx_w, ex_map_int, ex_nil_int, ex_cons_int, List.map_cons, List.map_nil, List.isEmpty_nil, List.isEmpty_cons, List.eraseIdx_zero, List.tail_cons, List.eraseIdx_cons_zero, HO.lst.injEq, HO.tup.injEq, HO.dK.injEq, HO.frz.injEq, ne_eq, gTupH, gCons, gNil, wipe, tYes, upd_upd, and_assoc, List.getElem?_map, Option.map_some, isn_non_bool, isn_non_int, isn_non_str, isn_non_tuple, isn_non_list, isn_non_dict, isn_bl_bool, isn_bl_int, isn_bl_str, isn_bl_tuple, isn_bl_list, isn_bl_dict, isn_int_bool, isn_int_int, isn_int_str, isn_int_tuple, isn_int_list, isn_int_dict, isn_str_bool, isn_str_int, isn_str_str, isn_str_tuple, isn_str_list, isn_str_dict, isn_lst_bool, isn_lst_int, isn_lst_str, isn_lst_tuple, isn_lst_list, isn_lst_dict, isn_tup_bool, isn_tup_int, isn_tup_str, isn_tup_tuple, isn_tup_list, isn_tup_dict, isn_dct_bool, isn_dct_int, isn_dct_str, isn_dct_tuple, isn_dct_list, isn_dct_dict, okn_bool, okn_int, okn_str, okn_tuple, okn_list, okn_dict, cIsi, tyT_n, tyT_b, tyT_i, tyT_s, tyT_r, V.ty.injEq, tSl, tPart, tNoPart, rSlF, gName, tFld, sFld, tMeth, tMake, tGetT, tInT, tNinT, sPutT, sAugT, tPopT, rLtH, dtO_d, dtO_f, kysO_n, kysO_i, kysO_s, intsV_n, intsV_i, HO.ins.injEq, HO.dT.injEq, tDNewT, rIxLT, cLenLT, rSub, rAdd, sFldAug, Td.rIsG, Td.rCntT, Td.rIdxT, Td.rExt, Lm.tCallZ, Lm.tLam, lkDisk_there, lkDisk_late, lkDisk_left, lkDisk_is_gone, noDisk_need_power, noDisk_count, noDisk_write, noDisk_settle, noDisk_units, noDisk_arm, noDisk_fall, inDisk_there, inDisk_late, inDisk_left, inDisk_is_gone, puDisk_there, puDisk_late, puDisk_left, puDisk_is_gone, lnDisk, lpDisk1, lpDisk2, lpDisk3, l0Disk, T.cl_Disk, T.na_Disk_there, T.na_Disk_late, T.na_Disk_left, T.na_Disk_is_gone, oi_n, ha]
        exact k2 H (by rintro (z | z) <;> cases z) Keep.refl ha
      | some i =>
        simp only [tVar, tC, tOp, rI, rI0, rU, tTest, tB, tAnd, tOr, tNot, tAndV, tOrV, tNotV, tIf, tNil, tCons, tTup, tLst, tCB, tSeq, tAsg, gName, tRet, tRetN, tIfS, tNext, tDrop, tCall, tUn, tPar, CMul, CDiv, V.int.injEq, V.bl.injEq, V.ref.injEq, V.str.injEq, Option.some.injEq, List.cons.injEq, and_true, true_and, and_false, false_and, or_false, false_or, or_true, true_or, exists_eq_left', exists_eq_left, exists_and_left, exists_and_right, exists_eq', exists_eq, exists_false, exists_const, List.getElem?_cons_succ, List.getElem?_cons_zero, List.set_cons_succ, List.set_cons_zero, List.length_cons, List.length_nil, List.cons_append, List.nil_append, List.append_nil, reduceCtorEq, Int.reduceLT, Int.reduceLE, Int.reduceNeg, Int.reducePow, Int.reduceSub, Int.reduceAdd, Nat.reduceAdd, Nat.reduceLeDiff, Bool.not_true, Bool.not_false, decide_true, decide_false, Bool.false_eq_true, ↓reduceIte, upd_same, not_true_eq_false, not_false_eq_true, lsO_l, lsO_f, tpO_t, tpO_f, dkO_d, dkO_f, keyO_i, keyO_s, rIxH, rIxU, cLenL, cLenT, cListL, cListT, cTupL, cIntB, cAll, rEqNilI, rEq, rNe, scal_ii, scal_ss, scal_bb, scal_nn, scal_ni, scal_in, scal_ns, scal_sn, gSub, rSetL, ixs0, ixs1, ixs2, seq0, at0, at1, at2, at3, tBM, tBM0, rAppend, rPopAt, tyV_list, tGet2, tGetI, sPut, tMG, rTIdx, tyTup, tTupF, cx_K, cx_w, ex_map_int, ex_nil_int, ex_cons_int, List.map_cons, List.map_nil, List.isEmpty_nil, List.isEmpty_cons, List.eraseIdx_zero, List.tail_cons, List.eraseIdx_cons_zero, HO.lst.injEq, HO.tup.injEq, HO.dK.injEq, HO.frz.injEq, ne_eq, gTupH, gCons, gNil, wipe, tYes, upd_upd, and_assoc, List.getElem?_map, Option.map_some, isn_non_bool, isn_non_int, isn_non_str, isn_non_tuple, isn_non_list, isn_non_dict, isn_bl_bool, isn_bl_int, isn_bl_str, isn_bl_tuple, isn_bl_list, isn_bl_dict, isn_int_bool, isn_int_int, isn_int_str, isn_int_tuple, isn_int_list, isn_int_dict, isn_str_bool, isn_str_int, isn_str_str, isn_str_tuple, isn_str_list, isn_str_dict, isn_lst_bool, isn_lst_int, isn_lst_str, isn_lst_tuple, isn_lst_list, isn_lst_dict, isn_tup_bool, isn_tup_int, isn_tup_str, isn_tup_tuple, isn_tup_list, isn_tup_dict, isn_dct_bool, isn_dct_int, isn_dct_str, isn_dct_tuple, isn_dct_list, isn_dct_dict, okn_bool, okn_int, okn_str, okn_tuple, okn_list, okn_dict, cIsi, tyT_n, tyT_b, tyT_i, tyT_s, tyT_r, V.ty.injEq, tSl, tPart, tNoPart, rSlF, gName, tFld, sFld, tMeth, tMake, tGetT, tInT, tNinT, sPutT, sAugT, tPopT, rLtH, dtO_d, dtO_f, kysO_n, kysO_i, kysO_s, intsV_n, intsV_i, HO.ins.injEq, HO.dT.injEq, tDNewT, rIxLT, cLenLT, rSub, rAdd, sFldAug, Td.rIsG, Td.rCntT, Td.rIdxT, Td.rExt, Lm.tCallZ, Lm.tLam, lkDisk_there, lkDisk_late, lkDisk_left, lkDisk_is_gone, noDisk_need_power, noDisk_count, noDisk_write, noDisk_settle, noDisk_units, noDisk_arm, noDisk_fall, inDisk_there, inDisk_late, inDisk_left, inDisk_is_gone, puDisk_there, puDisk_late, puDisk_left, puDisk_is_gone, lnDisk, lpDisk1, lpDisk2, lpDisk3, l0Disk, T.cl_Disk, T.na_Disk_there, T.na_Disk_late, T.na_Disk_left, T.na_Disk_is_gone, oi_s, ha]
        by_cases c : i = 0
        · subst c
          simp only [tVar, tC, tOp, rI, rI0, rU, tTest, tB, tAnd, tOr, tNot, tAndV, tOrV, tNotV, tIf, tNil, tCons, tTup, tLst, tCB, tSeq, tAsg, gName, tRet, tRetN, tIfS, tNext, tDrop, tCall, tUn, tPar, CMul, CDiv, V.int.injEq, V.bl.injEq, V.ref.injEq, V.str.injEq, Option.some.injEq, List.cons.injEq, and_true, true_and, and_false, false_and, or_false, false_or, or_true, true_or, exists_eq_left', exists_eq_left, exists_and_left, exists_and_right, exists_eq', exists_eq, exists_false, exists_const, List.getElem?_cons_succ, List.getElem?_cons_zero, List.set_cons_succ, List.set_cons_zero, List.length_cons, List.length_nil, List.cons_append, List.nil_append, List.append_nil, reduceCtorEq, Int.reduceLT, Int.reduceLE, Int.reduceNeg, Int.reducePow, Int.reduceSub, Int.reduceAdd, Nat.reduceAdd, Nat.reduceLeDiff, Bool.not_true, Bool.not_false, decide_true, decide_false, Bool.false_eq_true, ↓reduceIte, upd_same, not_true_eq_false, not_false_eq_true, lsO_l, lsO_f, tpO_t, tpO_f, dkO_d, dkO_f, keyO_i, keyO_s, rIxH, rIxU, cLenL, cLenT, cListL, cListT, cTupL, cIntB, cAll, rEqNilI, rEq, rNe, scal_ii, scal_ss, scal_bb, scal_nn, scal_ni, scal_in, scal_ns, scal_sn, gSub, rSetL, ixs0, ixs1, ixs2, seq0, at0, at1, at2, at3, tBM, tBM0, rAppend, rPopAt, tyV_list, tGet2, tGetI, sPut, tMG, rTIdx, tyTup, tTupF, cx_K, cx_w, ex_map_int, ex_nil_int, ex_cons_int, List.map_cons, List.map_nil, List.isEmpty_nil, List.isEmpty_cons, List.eraseIdx_zero, List.tail_cons, List.eraseIdx_cons_zero, HO.lst.injEq, HO.tup.injEq, HO.dK.injEq, HO.frz.injEq, ne_eq, gTupH, gCons, gNil, wipe, tYes, upd_upd, and_assoc, List.getElem?_map, Option.map_some, isn_non_bool, isn_non_int, isn_non_str, isn_non_tuple, isn_non_list, isn_non_dict, isn_bl_bool, isn_bl_int, isn_bl_str, isn_bl_tuple, isn_bl_list, isn_bl_dict, isn_int_bool, isn_int_int, isn_int_str, isn_int_tuple, isn_int_list, isn_int_dict, isn_str_bool, isn_str_int, isn_str_str, isn_str_tuple, isn_str_list, isn_str_dict, isn_lst_bool, isn_lst_int, isn_lst_str, isn_lst_tuple, isn_lst_list, isn_lst_dict, isn_tup_bool, isn_tup_int, isn_tup_str, isn_tup_tuple, isn_tup_list, isn_tup_dict, isn_dct_bool, isn_dct_int, isn_dct_str, isn_dct_tuple, isn_dct_list, isn_dct_dict, okn_bool, okn_int, okn_str, okn_tuple, okn_list, okn_dict, cIsi, tyT_n, tyT_b, tyT_i, tyT_s, tyT_r, V.ty.injEq, tSl, tPart, tNoPart, rSlF, gName, tFld, sFld, tMeth, tMake, tGetT, tInT, tNinT, sPutT, sAugT, tPopT, rLtH, dtO_d, dtO_f, kysO_n, kysO_i, kysO_s, intsV_n, intsV_i, HO.ins.injEq, HO.dT.injEq, tDNewT, rIxLT, cLenLT, rSub, rAdd, sFldAug, Td.rIsG, Td.rCntT, Td.rIdxT, Td.rExt, Lm.tCallZ, Lm.tLam]
          exact ⟨szl (by decide), k1 _ (.inr rfl) (Keep.refl.upd (by simp)) upd_same⟩
        · rw [if_neg (by simpa using c)]
          exact k2 _ (by rintro (z | z) <;> cases z; exact c rfl) (Keep.refl.upd (by simp)) upd_same
theorem ok_Disk_write (T : Txt K mg) : FnOk P w K mg base (L2.CX P w) 3 T.f_Disk_write T.fd_Disk_write ["self", "unit"] (spDkWrite T.C_Disk T.C_Gone) := by
  have G_Disk_count : FnOk P w K mg base (L2.CX P w) 2 T.f_Disk_count T.fd_Disk_count ["self"] (spDkCount T.C_Disk T.C_Gone) := ok_Disk_count T
  refine T.F_Disk_write.okX sc_Disk_write (fun vs H Q E h => ?_) (fun cdv A outer s H vs Q E hr h => ?_)
  · obtain ⟨a, dx, t, l, xs, ys, u, left, gone, rfl, _⟩ := h
    rfl
  · obtain ⟨a, dx, t, l, xs, ys, u, left, gone, rfl, D, hz, k1, k2⟩ := h
    obtain ⟨nat, nal⟩ := D.nat
    refine ⟨_, (pss_cons (ps_expr (pe_meth0 (pv 0) T.cl_Disk T.me_Disk_count G_Disk_count (hr.mono (by decide)) T.b_Disk_count .nil (passes_call (takes_of rfl rfl rfl rfl) (fun _ _ _ _ z => z))))
      (pss_one (ps_expr (pe_bm PySem.F.plainAttrs_list PySem.F.slot_list_append PySem.F.type_list_append mt_append (pe_fldK K rfl (pv 0) rfl) (pa_cons (pv 1) pa_nil))))), ?_⟩
    rw [show L2.start N_Disk_write [V.ref a, u] = [some (V.ref a), some (u)] from rfl]
    simp only [tVar, tC, tOp, rI, rI0, rU, tTest, tB, tAnd, tOr, tNot, tAndV, tOrV, tNotV, tIf, tNil, tCons, tTup, tLst, tCB, tSeq, tAsg, gName, tRet, tRetN, tIfS, tNext, tDrop, tCall, tUn, tPar, CMul, CDiv, V.int.injEq, V.bl.injEq, V.ref.injEq, V.str.injEq, Option.some.injEq, List.cons.injEq, and_true, true_and, and_false, false_and, or_false, false_or, or_true, true_or, exists_eq_left', exists_eq_left, exists_and_left, exists_and_right, exists_eq', exists_eq, exists_false, exists_const, List.getElem?_cons_succ, List.getElem?_cons_zero, List.set_cons_succ, List.set_cons_zero, List.length_cons, List.length_nil, List.cons_append, List.nil_append, List.append_nil, reduceCtorEq, Int.reduceLT, Int.reduceLE, Int.reduceNeg, Int.reducePow, Int.reduceSub, Int.reduceAdd, Nat.reduceAdd, Nat.reduceLeDiff, Bool.not_true, Bool.not_false, decide_true, decide_false, Bool.false_eq_true, ↓reduceIte, upd_same, not_true_eq_false, not_false_eq_true, lsO_l, lsO_f, tpO_t, tpO_f, dkO_d, dkO_f, keyO_i, keyO_s, rIxH, rIxU, cLenL, cLenT, cListL, cListT, cTupL, cIntB, cAll, rEqNilI, rEq, rNe, scal_ii, scal_ss, scal_bb, scal_nn, scal_ni, scal_in, scal_ns, scal_sn, gSub, rSetL, ixs0, ixs1, ixs2, seq0, at0, at1, at2, at3, tBM, tBM0, rAppend, rPopAt, tyV_list, tGet2, tGetI, sPut, tMG, rTIdx, tyTup, tTupF, cx_K, cx_w, ex_map_int, ex_nil_int, ex_cons_int, List.map_cons, List.map_nil, List.isEmpty_nil, List.isEmpty_cons, List.eraseIdx_zero, List.tail_cons, List.eraseIdx_cons_zero, HO.lst.injEq, HO.tup.injEq, HO.dK.injEq, HO.frz.injEq, ne_eq, gTupH, gCons, gNil, wipe, tYes, upd_upd, and_assoc, List.getElem?_map, Option.map_some, isn_non_bool, isn_non_int, isn_non_str, isn_non_tuple, isn_non_list, isn_non_dict, isn_bl_bool, isn_bl_int, isn_bl_str, isn_bl_tuple, isn_bl_list, isn_bl_dict, isn_int_bool, isn_int_int, isn_int_str, isn_int_tuple, isn_int_list, isn_int_dict, isn_str_bool, isn_str_int, isn_str_str, isn_str_tuple, isn_str_list, isn_str_dict, isn_lst_bool, isn_lst_int, isn_lst_str, isn_lst_tuple, isn_lst_list, isn_lst_dict, isn_tup_bool, isn_tup_int, isn_tup_str, isn_tup_tuple, isn_tup_list, isn_tup_dict, isn_dct_bool, isn_dct_int, isn_dct_str, isn_dct_tuple, isn_dct_list, isn_dct_dict, okn_bool, okn_int, okn_str, okn_tuple, okn_list, okn_dict, cIsi, tyT_n, tyT_b, tyT_i, tyT_s, tyT_r, V.ty.injEq, tSl, tPart, tNoPart, rSlF, gName, tFld, sFld, tMeth, tMake, tGetT, tInT, tNinT, sPutT, sAugT, tPopT, rLtH, dtO_d, dtO_f, kysO_n, kysO_i, kysO_s, intsV_n, intsV_i, HO.ins.injEq, HO.dT.injEq, tDNewT, rIxLT, cLenLT, rSub, rAdd, sFldAug, Td.rIsG, Td.rCntT, Td.rIdxT, Td.rExt, Lm.tCallZ, Lm.tLam, lkDisk_there, lkDisk_late, lkDisk_left, lkDisk_is_gone, noDisk_need_power, noDisk_count, noDisk_write, noDisk_settle, noDisk_units, noDisk_arm, noDisk_fall, inDisk_there, inDisk_late, inDisk_left, inDisk_is_gone, puDisk_there, puDisk_late, puDisk_left, puDisk_is_gone, lnDisk, lpDisk1, lpDisk2, lpDisk3, l0Disk, T.cl_Disk, T.na_Disk_there, T.na_Disk_late, T.na_Disk_left, T.na_Disk_is_gone, D.ob]
    refine ⟨a, dx, _, _, left, gone, rfl, D.ob, fun H' o kp e => ?_, fun H' o kp e => ?_⟩
    · exact k1 H' o kp ⟨e, kp _ _ (by simpa using nat.symm) D.th, kp _ _ (by simpa using nal.symm) D.la, D.ne⟩
    · have h1 := kp _ _ (by simpa using nat.symm) D.th
      have h2 := kp _ _ (by simpa using nal.symm) D.la
      simp only [tVar, tC, tOp, rI, rI0, rU, tTest, tB, tAnd, tOr, tNot, tAndV, tOrV, tNotV, tIf, tNil, tCons, tTup, tLst, tCB, tSeq, tAsg, gName, tRet, tRetN, tIfS, tNext, tDrop, tCall, tUn, tPar, CMul, CDiv, V.int.injEq, V.bl.injEq, V.ref.injEq, V.str.injEq, Option.some.injEq, List.cons.injEq, and_true, true_and, and_false, false_and, or_false, false_or, or_true, true_or, exists_eq_left', exists_eq_left, exists_and_left, exists_and_right, exists_eq', exists_eq, exists_false, exists_const, List.getElem?_cons_succ, List.getElem?_cons_zero, List.set_cons_succ, List.set_cons_zero, List.length_cons, List.length_nil, List.cons_append, List.nil_append, List.append_nil, reduceCtorEq, Int.reduceLT, Int.reduceLE, Int.reduceNeg, Int.reducePow, Int.reduceSub, Int.reduceAdd, Nat.reduceAdd, Nat.reduceLeDiff, Bool.not_true, Bool.not_false, decide_true, decide_false, Bool.false_eq_true, ↓reduceIte, upd_same, not_true_eq_false, not_false_eq_true, lsO_l, lsO_f, tpO_t, tpO_f, dkO_d, dkO_f, keyO_i, keyO_s, rIxH, rIxU, cLenL, cLenT, cListL, cListT, cTupL, cIntB, cAll, rEqNilI, rEq, rNe, scal_ii, scal_ss, scal_bb, scal_nn, scal_ni, scal_in, scal_ns, scal_sn, gSub, rSetL, ixs0, ixs1, ixs2, seq0, at0, at1, at2, at3, tBM, tBM0, rAppend, rPopAt, tyV_list, tGet2, tGetI, sPut, tMG, rTIdx, tyTup, tTupF, cx_K, cx_w, ex_map_int, ex_nil_int, ex_cons_int, List.map_cons, List.map_nil, List.isEmpty_nil, List.isEmpty_cons, List.eraseIdx_zero, List.tail_cons, List.eraseIdx_cons_zero, HO.lst.injEq, HO.tup.injEq, HO.dK.injEq, HO.frz.injEq, ne_eq, gTupH, gCons, gNil, wipe, tYes, upd_upd, and_assoc, List.getElem?_map, Option.map_some, isn_non_bool, isn_non_int, isn_non_str, isn_non_tuple, isn_non_list, isn_non_dict, isn_bl_bool, isn_bl_int, isn_bl_str, isn_bl_tuple, isn_bl_list, isn_bl_dict, isn_int_bool, isn_int_int, isn_int_str, isn_int_tuple, isn_int_list, isn_int_dict, isn_str_bool, isn_str_int, isn_str_str, isn_str_tuple, isn_str_list, isn_str_dict, isn_lst_bool, isn_lst_int, isn_lst_str, isn_lst_tuple, isn_lst_list, isn_lst_dict, isn_tup_bool, isn_tup_int, isn_tup_str, isn_tup_tuple, isn_tup_list, isn_tup_dict, isn_dct_bool, isn_dct_int, isn_dct_str, isn_dct_tuple, isn_dct_list, isn_dct_dict, okn_bool, okn_int, okn_str, okn_tuple, okn_list, okn_dict, cIsi, tyT_n, tyT_b, tyT_i, tyT_s, tyT_r, V.ty.injEq, tSl, tPart, tNoPart, rSlF, gName, tFld, sFld, tMeth, tMake, tGetT, tInT, tNinT, sPutT, sAugT, tPopT, rLtH, dtO_d, dtO_f, kysO_n, kysO_i, kysO_s, intsV_n, intsV_i, HO.ins.injEq, HO.dT.injEq, tDNewT, rIxLT, cLenLT, rSub, rAdd, sFldAug, Td.rIsG, Td.rCntT, Td.rIdxT, Td.rExt, Lm.tCallZ, Lm.tLam, lkDisk_there, lkDisk_late, lkDisk_left, lkDisk_is_gone, noDisk_need_power, noDisk_count, noDisk_write, noDisk_settle, noDisk_units, noDisk_arm, noDisk_fall, inDisk_there, inDisk_late, inDisk_left, inDisk_is_gone, puDisk_there, puDisk_late, puDisk_left, puDisk_is_gone, lnDisk, lpDisk1, lpDisk2, lpDisk3, l0Disk, T.cl_Disk, T.na_Disk_there, T.na_Disk_late, T.na_Disk_left, T.na_Disk_is_gone, e, h1, h2]
      refine ⟨szl' (n := ys.length) (by omega), k2 _ o ((kp.mono (by simp)).upd (by simp)) ⟨by rw [upd_ne nal]; exact e, by rw [upd_ne D.ne]; exact h1, upd_same, D.ne⟩⟩
theorem ok_Disk_settle (T : Txt K mg) : FnOk P w K mg base (L2.CX P w) 3 T.f_Disk_settle T.fd_Disk_settle ["self"] (spDkSettle T.C_Disk T.C_Gone) := by
  have G_Disk_count : FnOk P w K mg base (L2.CX P w) 2 T.f_Disk_count T.fd_Disk_count ["self"] (spDkCount T.C_Disk T.C_Gone) := ok_Disk_count T
  refine T.F_Disk_settle.okX sc_Disk_settle (fun vs H Q E h => ?_) (fun cdv A outer s H vs Q E hr h => ?_)
  · obtain ⟨a, dx, t, l, xs, ys, left, gone, rfl, _⟩ := h
    rfl
  · obtain ⟨a, dx, t, l, xs, ys, left, gone, rfl, D, hz, k1, k2⟩ := h
    obtain ⟨nat, nal⟩ := D.nat
    refine ⟨_, (pss_cons (ps_expr (pe_meth0 (pv 0) T.cl_Disk T.me_Disk_count G_Disk_count (hr.mono (by decide)) T.b_Disk_count .nil (passes_call (takes_of rfl rfl rfl rfl) (fun _ _ _ _ z => z))))
      (pss_cons (ps_fldaug (pv 0) (pe_fldK K rfl (pv 0) rfl) Td.in_ext)
      (pss_one (ps_fld (pv 0) (pe_lst pa_nil) rfl)))), ?_⟩
    rw [show L2.start N_Disk_settle [V.ref a] = [some (V.ref a)] from rfl]
    simp only [tVar, tC, tOp, rI, rI0, rU, tTest, tB, tAnd, tOr, tNot, tAndV, tOrV, tNotV, tIf, tNil, tCons, tTup, tLst, tCB, tSeq, tAsg, gName, tRet, tRetN, tIfS, tNext, tDrop, tCall, tUn, tPar, CMul, CDiv, V.int.injEq, V.bl.injEq, V.ref.injEq, V.str.injEq, Option.some.injEq, List.cons.injEq, and_true, true_and, and_false, false_and, or_false, false_or, or_true, true_or, exists_eq_left', exists_eq_left, exists_and_left, exists_and_right, exists_eq', exists_eq, exists_false, exists_const, List.getElem?_cons_succ, List.getElem?_cons_zero, List.set_cons_succ, List.set_cons_zero, List.length_cons, List.length_nil, List.cons_append, List.nil_append, List.append_nil, reduceCtorEq, Int.reduceLT, Int.reduceLE, Int.reduceNeg, Int.reducePow, Int.reduceSub, Int.reduceAdd, Nat.reduceAdd, Nat.reduceLeDiff, Bool.not_true, Bool.not_false, decide_true, decide_false, Bool.false_eq_true, ↓reduceIte, upd_same, not_true_eq_false, not_false_eq_true, lsO_l, lsO_f, tpO_t, tpO_f, dkO_d, dkO_f, keyO_i, keyO_s, rIxH, rIxU, cLenL, cLenT, cListL, cListT, cTupL, cIntB, cAll, rEqNilI, rEq, rNe, scal_ii, scal_ss, scal_bb, scal_nn, scal_ni, scal_in, scal_ns, scal_sn, gSub, rSetL, ixs0, ixs1, ixs2, seq0, at0, at1, at2, at3, tBM, tBM0, rAppend, rPopAt, tyV_list, tGet2, tGetI, sPut, tMG, rTIdx, tyTup, tTupF, cx_K, cx_w, ex_map_int, ex_nil_int, ex_cons_int, List.map_cons, List.map_nil, List.isEmpty_nil, List.isEmpty_cons, List.eraseIdx_zero, List.tail_cons, List.eraseIdx_cons_zero, HO.lst.injEq, HO.tup.injEq, HO.dK.injEq, HO.frz.injEq, ne_eq, gTupH, gCons, gNil, wipe, tYes, upd_upd, and_assoc, List.getElem?_map, Option.map_some, isn_non_bool, isn_non_int, isn_non_str, isn_non_tuple, isn_non_list, isn_non_dict, isn_bl_bool, isn_bl_int, isn_bl_str, isn_bl_tuple, isn_bl_list, isn_bl_dict, isn_int_bool, isn_int_int, isn_int_str, isn_int_tuple, isn_int_list, isn_int_dict, isn_str_bool, isn_str_int, isn_str_str, isn_str_tuple, isn_str_list, isn_str_dict, isn_lst_bool, isn_lst_int, isn_lst_str, isn_lst_tuple, isn_lst_list, isn_lst_dict, isn_tup_bool, isn_tup_int, isn_tup_str, isn_tup_tuple, isn_tup_list, isn_tup_dict, isn_dct_bool, isn_dct_int, isn_dct_str, isn_dct_tuple, isn_dct_list, isn_dct_dict, okn_bool, okn_int, okn_str, okn_tuple, okn_list, okn_dict, cIsi, tyT_n, tyT_b, tyT_i, tyT_s, tyT_r, V.ty.injEq, tSl, tPart, tNoPart, rSlF, gName, tFld, sFld, tMeth, tMake, tGetT, tInT, tNinT, sPutT, sAugT, tPopT, rLtH, dtO_d, dtO_f, kysO_n, kysO_i, kysO_s, intsV_n, intsV_i, HO.ins.injEq, HO.dT.injEq, tDNewT, rIxLT, cLenLT, rSub, rAdd, sFldAug, Td.rIsG, Td.rCntT, Td.rIdxT, Td.rExt, Lm.tCallZ, Lm.tLam, lkDisk_there, lkDisk_late, lkDisk_left, lkDisk_is_gone, noDisk_need_power, noDisk_count, noDisk_write, noDisk_settle, noDisk_units, noDisk_arm, noDisk_fall, inDisk_there, inDisk_late, inDisk_left, inDisk_is_gone, puDisk_there, puDisk_late, puDisk_left, puDisk_is_gone, lnDisk, lpDisk1, lpDisk2, lpDisk3, l0Disk, T.cl_Disk, T.na_Disk_there, T.na_Disk_late, T.na_Disk_left, T.na_Disk_is_gone, D.ob]
    refine ⟨a, dx, _, _, left, gone, rfl, D.ob, fun H' o kp e => ?_, fun H' o kp e => ?_⟩
    · exact k1 H' o kp ⟨e, kp _ _ (by simpa using nat.symm) D.th, kp _ _ (by simpa using nal.symm) D.la, D.ne⟩
    · have h1 := kp _ _ (by simpa using nat.symm) D.th
      have h2 := kp _ _ (by simpa using nal.symm) D.la
      simp only [tVar, tC, tOp, rI, rI0, rU, tTest, tB, tAnd, tOr, tNot, tAndV, tOrV, tNotV, tIf, tNil, tCons, tTup, tLst, tCB, tSeq, tAsg, gName, tRet, tRetN, tIfS, tNext, tDrop, tCall, tUn, tPar, CMul, CDiv, V.int.injEq, V.bl.injEq, V.ref.injEq, V.str.injEq, Option.some.injEq, List.cons.injEq, and_true, true_and, and_false, false_and, or_false, false_or, or_true, true_or, exists_eq_left', exists_eq_left, exists_and_left, exists_and_right, exists_eq', exists_eq, exists_false, exists_const, List.getElem?_cons_succ, List.getElem?_cons_zero, List.set_cons_succ, List.set_cons_zero, List.length_cons, List.length_nil, List.cons_append, List.nil_append, List.append_nil, reduceCtorEq, Int.reduceLT, Int.reduceLE, Int.reduceNeg, Int.reducePow, Int.reduceSub, Int.reduceAdd, Nat.reduceAdd, Nat.reduceLeDiff, Bool.not_true, Bool.not_false, decide_true, decide_false, Bool.false_eq_true, ↓reduceIte, upd_same, not_true_eq_false, not_false_eq_true, lsO_l, lsO_f, tpO_t, tpO_f, dkO_d, dkO_f, keyO_i, keyO_s, rIxH, rIxU, cLenL, cLenT, cListL, cListT, cTupL, cIntB, cAll, rEqNilI, rEq, rNe, scal_ii, scal_ss, scal_bb, scal_nn, scal_ni, scal_in, scal_ns, scal_sn, gSub, rSetL, ixs0, ixs1, ixs2, seq0, at0, at1, at2, at3, tBM, tBM0, rAppend, rPopAt, tyV_list, tGet2, tGetI, sPut, tMG, rTIdx, tyTup, tTupF, cx_K, cx_w, ex_map_int, ex_nil_int, ex_cons_int, List.map_cons, List.map_nil, List.isEmpty_nil, List.isEmpty_cons, List.eraseIdx_zero, List.tail_cons, List.eraseIdx_cons_zero, HO.lst.injEq, HO.tup.injEq, HO.dK.injEq, HO.frz.injEq, ne_eq, gTupH, gCons, gNil, wipe, tYes, upd_upd, and_assoc, List.getElem?_map, Option.map_some, isn_non_bool, isn_non_int, isn_non_str, isn_non_tuple, isn_non_list, isn_non_dict, isn_bl_bool, isn_bl_int, isn_bl_str, isn_bl_tuple, isn_bl_list, isn_bl_dict, isn_int_bool, isn_int_int, isn_int_str, isn_int_tuple, isn_int_list, isn_int_dict, isn_str_bool, isn_str_int, isn_str_str, isn_str_tuple, isn_str_list, isn_str_dict, isn_lst_bool, isn_lst_int, isn_lst_str, isn_lst_tuple, isn_lst_list, isn_lst_dict, isn_tup_bool, isn_tup_int, isn_tup_str, isn_tup_tuple, isn_tup_list, isn_tup_dict, isn_dct_bool, isn_dct_int, isn_dct_str, isn_dct_tuple, isn_dct_list, isn_dct_dict, okn_bool, okn_int, okn_str, okn_tuple, okn_list, okn_dict, cIsi, tyT_n, tyT_b, tyT_i, tyT_s, tyT_r, V.ty.injEq, tSl, tPart, tNoPart, rSlF, gName, tFld, sFld, tMeth, tMake, tGetT, tInT, tNinT, sPutT, sAugT, tPopT, rLtH, dtO_d, dtO_f, kysO_n, kysO_i, kysO_s, intsV_n, intsV_i, HO.ins.injEq, HO.dT.injEq, tDNewT, rIxLT, cLenLT, rSub, rAdd, sFldAug, Td.rIsG, Td.rCntT, Td.rIdxT, Td.rExt, Lm.tCallZ, Lm.tLam, lkDisk_there, lkDisk_late, lkDisk_left, lkDisk_is_gone, noDisk_need_power, noDisk_count, noDisk_write, noDisk_settle, noDisk_units, noDisk_arm, noDisk_fall, inDisk_there, inDisk_late, inDisk_left, inDisk_is_gone, puDisk_there, puDisk_late, puDisk_left, puDisk_is_gone, lnDisk, lpDisk1, lpDisk2, lpDisk3, l0Disk, T.cl_Disk, T.na_Disk_there, T.na_Disk_late, T.na_Disk_left, T.na_Disk_is_gone, e, h1, h2, upd_ne nat]
      refine ⟨szl (by omega), szl (by decide), fun p hp => ?_⟩
      have nap : a ≠ p := fun z => by rw [z, upd_same] at hp; cases hp
      have ntp : t ≠ p := fun z => by rw [upd_ne (by rw [← z]; exact nat.symm), ← z, upd_same] at hp; cases hp
      have hp0 : H' p = none := by rw [upd_ne nap.symm, upd_ne ntp.symm] at hp; exact hp
      simp only [tVar, tC, tOp, rI, rI0, rU, tTest, tB, tAnd, tOr, tNot, tAndV, tOrV, tNotV, tIf, tNil, tCons, tTup, tLst, tCB, tSeq, tAsg, gName, tRet, tRetN, tIfS, tNext, tDrop, tCall, tUn, tPar, CMul, CDiv, V.int.injEq, V.bl.injEq, V.ref.injEq, V.str.injEq, Option.some.injEq, List.cons.injEq, and_true, true_and, and_false, false_and, or_false, false_or, or_true, true_or, exists_eq_left', exists_eq_left, exists_and_left, exists_and_right, exists_eq', exists_eq, exists_false, exists_const, List.getElem?_cons_succ, List.getElem?_cons_zero, List.set_cons_succ, List.set_cons_zero, List.length_cons, List.length_nil, List.cons_append, List.nil_append, List.append_nil, reduceCtorEq, Int.reduceLT, Int.reduceLE, Int.reduceNeg, Int.reducePow, Int.reduceSub, Int.reduceAdd, Nat.reduceAdd, Nat.reduceLeDiff, Bool.not_true, Bool.not_false, decide_true, decide_false, Bool.false_eq_true, ↓reduceIte, upd_same, not_true_eq_false, not_false_eq_true, lsO_l, lsO_f, tpO_t, tpO_f, dkO_d, dkO_f, keyO_i, keyO_s, rIxH, rIxU, cLenL, cLenT, cListL, cListT, cTupL, cIntB, cAll, rEqNilI, rEq, rNe, scal_ii, scal_ss, scal_bb, scal_nn, scal_ni, scal_in, scal_ns, scal_sn, gSub, rSetL, ixs0, ixs1, ixs2, seq0, at0, at1, at2, at3, tBM, tBM0, rAppend, rPopAt, tyV_list, tGet2, tGetI, sPut, tMG, rTIdx, tyTup, tTupF, cx_K, cx_w, ex_map_int, ex_nil_int, ex_cons_int, List.map_cons, List.map_nil, List.isEmpty_nil, List.isEmpty_cons, List.eraseIdx_zero, List.tail_cons, List.eraseIdx_cons_zero, HO.lst.injEq, HO.tup.injEq, HO.dK.injEq, HO.frz.injEq, ne_eq, gTupH, gCons, gNil, wipe, tYes, upd_upd, and_assoc, List.getElem?_map, Option.map_some, isn_non_bool, isn_non_int, isn_non_str, isn_non_tuple, isn_non_list, isn_non_dict, isn_bl_bool, isn_bl_int, isn_bl_str, isn_bl_tuple, isn_bl_list, isn_bl_dict, isn_int_bool, isn_int_int, isn_int_str, isn_int_tuple, isn_int_list, isn_int_dict, isn_str_bool, isn_str_int, isn_str_str, isn_str_tuple, isn_str_list, isn_str_dict, isn_lst_bool, isn_lst_int, isn_lst_str, isn_lst_tuple, isn_lst_list, isn_lst_dict, isn_tup_bool, isn_tup_int, isn_tup_str, isn_tup_tuple, isn_tup_list, isn_tup_dict, isn_dct_bool, isn_dct_int, isn_dct_str, isn_dct_tuple, isn_dct_list, isn_dct_dict, okn_bool, okn_int, okn_str, okn_tuple, okn_list, okn_dict, cIsi, tyT_n, tyT_b, tyT_i, tyT_s, tyT_r, V.ty.injEq, tSl, tPart, tNoPart, rSlF, gName, tFld, sFld, tMeth, tMake, tGetT, tInT, tNinT, sPutT, sAugT, tPopT, rLtH, dtO_d, dtO_f, kysO_n, kysO_i, kysO_s, intsV_n, intsV_i, HO.ins.injEq, HO.dT.injEq, tDNewT, rIxLT, cLenLT, rSub, rAdd, sFldAug, Td.rIsG, Td.rCntT, Td.rIdxT, Td.rExt, Lm.tCallZ, Lm.tLam, lkDisk_there, lkDisk_late, lkDisk_left, lkDisk_is_gone, noDisk_need_power, noDisk_count, noDisk_write, noDisk_settle, noDisk_units, noDisk_arm, noDisk_fall, inDisk_there, inDisk_late, inDisk_left, inDisk_is_gone, puDisk_there, puDisk_late, puDisk_left, puDisk_is_gone, lnDisk, lpDisk1, lpDisk2, lpDisk3, l0Disk, T.cl_Disk, T.na_Disk_there, T.na_Disk_late, T.na_Disk_left, T.na_Disk_is_gone, upd_ne nap]
      refine k2 _ p o (free_keep (kp.mono (ms' := [a, t]) (by simp)) (by simpa using ⟨nap.symm, ntp.symm⟩) hp0) ?_ ⟨upd_same, ?_, ?_, ntp⟩
      · exact ((((kp.mono (by simp)).upd (by simp)).upd (by simp)).updFree (free_keep (kp.mono (ms' := [a, t]) (by simp)) (by simpa using ⟨nap.symm, ntp.symm⟩) hp0)).upd (by simp)
      · rw [upd_ne nat.symm, upd_ne ntp, upd_ne nat.symm, upd_same]
      · rw [upd_ne nap.symm, upd_same]
theorem ok_Disk_units (T : Txt K mg) : FnOk P w K mg base (L2.CX P w) 2 T.f_Disk_units T.fd_Disk_units ["self"] (spDkUnits T.C_Disk T.C_Gone) := by
  have G_Disk_need_power : FnOk P w K mg base (L2.CX P w) 1 T.f_Disk_need_power T.fd_Disk_need_power ["self"] (spDkNeed T.C_Disk T.C_Gone) := ok_Disk_need_power T
  refine T.F_Disk_units.okX sc_Disk_units (fun vs H Q E h => ?_) (fun cdv A outer s H vs Q E hr h => ?_)
  · obtain ⟨a, dx, t, l, xs, ys, left, gone, rfl, _⟩ := h
    rfl
  · obtain ⟨a, dx, t, l, xs, ys, left, gone, rfl, D, hz, k1, k2⟩ := h
    refine ⟨_, (pss_cons (ps_expr (pe_meth0 (pv 0) T.cl_Disk T.me_Disk_need_power G_Disk_need_power (hr.mono (by decide)) T.b_Disk_need_power .nil (passes_call (takes_of rfl rfl rfl rfl) (fun _ _ _ _ z => z))))
      (pss_one (ps_ret (pe_op op_cat (pe_fldK K rfl (pv 0) rfl) (pe_fldK K rfl (pv 0) rfl))))), ?_⟩
    rw [show L2.start N_Disk_units [V.ref a] = [some (V.ref a)] from rfl]
    simp only [tVar, tC, tOp, rI, rI0, rU, tTest, tB, tAnd, tOr, tNot, tAndV, tOrV, tNotV, tIf, tNil, tCons, tTup, tLst, tCB, tSeq, tAsg, gName, tRet, tRetN, tIfS, tNext, tDrop, tCall, tUn, tPar, CMul, CDiv, V.int.injEq, V.bl.injEq, V.ref.injEq, V.str.injEq, Option.some.injEq, List.cons.injEq, and_true, true_and, and_false, false_and, or_false, false_or, or_true, true_or, exists_eq_left', exists_eq_left, exists_and_left, exists_and_right, exists_eq', exists_eq, exists_false, exists_const, List.getElem?_cons_succ, List.getElem?_cons_zero, List.set_cons_succ, List.set_cons_zero, List.length_cons, List.length_nil, List.cons_append, List.nil_append, List.append_nil, reduceCtorEq, Int.reduceLT, Int.reduceLE, Int.reduceNeg, Int.reducePow, Int.reduceSub, Int.reduceAdd, Nat.reduceAdd, Nat.reduceLeDiff, Bool.not_true, Bool.not_false, decide_true, decide_false, Bool.false_eq_true, ↓reduceIte, upd_same, not_true_eq_false, not_false_eq_true, lsO_l, lsO_f, tpO_t, tpO_f, dkO_d, dkO_f, keyO_i, keyO_s, rIxH, rIxU, cLenL, cLenT, cListL, cListT, cTupL, cIntB, cAll, rEqNilI, rEq, rNe, scal_ii, scal_ss, scal_bb, scal_nn, scal_ni, scal_in, scal_ns, scal_sn, gSub, rSetL, ixs0, ixs1, ixs2, seq0, at0, at1, at2, at3, tBM, tBM0, rAppend, rPopAt, tyV_list, tGet2, tGetI, sPut, tMG, rTIdx, tyTup, tTupF, cx_K, cx_w, ex_map_int, ex_nil_int, ex_cons_int, List.map_cons, List.map_nil, List.isEmpty_nil, List.isEmpty_cons, List.eraseIdx_zero, List.tail_cons, List.eraseIdx_cons_zero, HO.lst.injEq, HO.tup.injEq, HO.dK.injEq, HO.frz.injEq, ne_eq, gTupH, gCons, gNil, wipe, tYes, upd_upd, and_assoc, List.getElem?_map, Option.map_some, isn_non_bool, isn_non_int, isn_non_str, isn_non_tuple, isn_non_list, isn_non_dict, isn_bl_bool, isn_bl_int, isn_bl_str, isn_bl_tuple, isn_bl_list, isn_bl_dict, isn_int_bool, isn_int_int, isn_int_str, isn_int_tuple, isn_int_list, isn_int_dict, isn_str_bool, isn_str_int, isn_str_str, isn_str_tuple, isn_str_list, isn_str_dict, isn_lst_bool, isn_lst_int, isn_lst_str, isn_lst_tuple, isn_lst_list, isn_lst_dict, isn_tup_bool, isn_tup_int, isn_tup_str, isn_tup_tuple, isn_tup_list, isn_tup_dict, isn_dct_bool, isn_dct_int, isn_dct_str, isn_dct_tuple, isn_dct_list, isn_dct_dict, okn_bool, okn_int, okn_str, okn_tuple, okn_list, okn_dict, cIsi, tyT_n, tyT_b, tyT_i, tyT_s, tyT_r, V.ty.injEq, tSl, tPart, tNoPart, rSlF, gName, tFld, sFld, tMeth, tMake, tGetT, tInT, tNinT, sPutT, sAugT, tPopT, rLtH, dtO_d, dtO_f, kysO_n, kysO_i, kysO_s, intsV_n, intsV_i, HO.ins.injEq, HO.dT.injEq, tDNewT, rIxLT, cLenLT, rSub, rAdd, sFldAug, Td.rIsG, Td.rCntT, Td.rIdxT, Td.rExt, Lm.tCallZ, Lm.tLam, lkDisk_there, lkDisk_late, lkDisk_left, lkDisk_is_gone, noDisk_need_power, noDisk_count, noDisk_write, noDisk_settle, noDisk_units, noDisk_arm, noDisk_fall, inDisk_there, inDisk_late, inDisk_left, inDisk_is_gone, puDisk_there, puDisk_late, puDisk_left, puDisk_is_gone, lnDisk, lpDisk1, lpDisk2, lpDisk3, l0Disk, T.cl_Disk, T.na_Disk_there, T.na_Disk_late, T.na_Disk_left, T.na_Disk_is_gone, D.ob]
    refine ⟨a, dx, _, _, _, gone, rfl, D.ob, k1, fun g => ?_⟩
    simp only [tVar, tC, tOp, rI, rI0, rU, tTest, tB, tAnd, tOr, tNot, tAndV, tOrV, tNotV, tIf, tNil, tCons, tTup, tLst, tCB, tSeq, tAsg, gName, tRet, tRetN, tIfS, tNext, tDrop, tCall, tUn, tPar, CMul, CDiv, V.int.injEq, V.bl.injEq, V.ref.injEq, V.str.injEq, Option.some.injEq, List.cons.injEq, and_true, true_and, and_false, false_and, or_false, false_or, or_true, true_or, exists_eq_left', exists_eq_left, exists_and_left, exists_and_right, exists_eq', exists_eq, exists_false, exists_const, List.getElem?_cons_succ, List.getElem?_cons_zero, List.set_cons_succ, List.set_cons_zero, List.length_cons, List.length_nil, List.cons_append, List.nil_append, List.append_nil, reduceCtorEq, Int.reduceLT, Int.reduceLE, Int.reduceNeg, Int.reducePow, Int.reduceSub, Int.reduceAdd, Nat.reduceAdd, Nat.reduceLeDiff, Bool.not_true, Bool.not_false, decide_true, decide_false, Bool.false_eq_true, ↓reduceIte, upd_same, not_true_eq_false, not_false_eq_true, lsO_l, lsO_f, tpO_t, tpO_f, dkO_d, dkO_f, keyO_i, keyO_s, rIxH, rIxU, cLenL, cLenT, cListL, cListT, cTupL, cIntB, cAll, rEqNilI, rEq, rNe, scal_ii, scal_ss, scal_bb, scal_nn, scal_ni, scal_in, scal_ns, scal_sn, gSub, rSetL, ixs0, ixs1, ixs2, seq0, at0, at1, at2, at3, tBM, tBM0, rAppend, rPopAt, tyV_list, tGet2, tGetI, sPut, tMG, rTIdx, tyTup, tTupF, cx_K, cx_w, ex_map_int, ex_nil_int, ex_cons_int, List.map_cons, List.map_nil, List.isEmpty_nil, List.isEmpty_cons, List.eraseIdx_zero, List.tail_cons, List.eraseIdx_cons_zero, HO.lst.injEq, HO.tup.injEq, HO.dK.injEq, HO.frz.injEq, ne_eq, gTupH, gCons, gNil, wipe, tYes, upd_upd, and_assoc, List.getElem?_map, Option.map_some, isn_non_bool, isn_non_int, isn_non_str, isn_non_tuple, isn_non_list, isn_non_dict, isn_bl_bool, isn_bl_int, isn_bl_str, isn_bl_tuple, isn_bl_list, isn_bl_dict, isn_int_bool, isn_int_int, isn_int_str, isn_int_tuple, isn_int_list, isn_int_dict, isn_str_bool, isn_str_int, isn_str_str, isn_str_tuple, isn_str_list, isn_str_dict, isn_lst_bool, isn_lst_int, isn_lst_str, isn_lst_tuple, isn_lst_list, isn_lst_dict, isn_tup_bool, isn_tup_int, isn_tup_str, isn_tup_tuple, isn_tup_list, isn_tup_dict, isn_dct_bool, isn_dct_int, isn_dct_str, isn_dct_tuple, isn_dct_list, isn_dct_dict, okn_bool, okn_int, okn_str, okn_tuple, okn_list, okn_dict, cIsi, tyT_n, tyT_b, tyT_i, tyT_s, tyT_r, V.ty.injEq, tSl, tPart, tNoPart, rSlF, gName, tFld, sFld, tMeth, tMake, tGetT, tInT, tNinT, sPutT, sAugT, tPopT, rLtH, dtO_d, dtO_f, kysO_n, kysO_i, kysO_s, intsV_n, intsV_i, HO.ins.injEq, HO.dT.injEq, tDNewT, rIxLT, cLenLT, rSub, rAdd, sFldAug, Td.rIsG, Td.rCntT, Td.rIdxT, Td.rExt, Lm.tCallZ, Lm.tLam, lkDisk_there, lkDisk_late, lkDisk_left, lkDisk_is_gone, noDisk_need_power, noDisk_count, noDisk_write, noDisk_settle, noDisk_units, noDisk_arm, noDisk_fall, inDisk_there, inDisk_late, inDisk_left, inDisk_is_gone, puDisk_there, puDisk_late, puDisk_left, puDisk_is_gone, lnDisk, lpDisk1, lpDisk2, lpDisk3, l0Disk, T.cl_Disk, T.na_Disk_there, T.na_Disk_late, T.na_Disk_left, T.na_Disk_is_gone, D.ob]
    exact ⟨_, _, _, _, rfl, rfl, D.th, D.la, szl (by omega), k2 g⟩
theorem ok_Disk_arm (T : Txt K mg) : FnOk P w K mg base (L2.CX P w) 1 T.f_Disk_arm T.fd_Disk_arm ["self", "many"] (spDkArm T.C_Disk T.C_BadNumber) := by
  refine T.F_Disk_arm.okX sc_Disk_arm (fun vs H Q E h => ?_) (fun cdv A outer s H vs Q E hr h => ?_)
  · obtain ⟨a, dx, t, l, xs, ys, left, gone, n, rfl, _⟩ := h
    rfl
  · obtain ⟨a, dx, t, l, xs, ys, left, gone, n, rfl, D, k1, k2⟩ := h
    obtain ⟨nat, nal⟩ := D.nat
    refine ⟨_, (pss_cons (ps_if (pt_cmpR op_lt (pv 1) pe_int (nomark _)) (pss_one (Td.ps_raiseE rfl (takes_of rfl rfl rfl rfl) T.X_BadNumber rfl (pa_cons (pv 1) pa_nil))) pss_nil)
      (pss_one (ps_fld (pv 0) (pv 1) rfl))), ?_⟩
    rw [show L2.start N_Disk_arm [V.ref a, V.int n] = [some (V.ref a), some (V.int n)] from rfl]
    simp only [tVar, tC, tOp, rI, rI0, rU, tTest, tB, tAnd, tOr, tNot, tAndV, tOrV, tNotV, tIf, tNil, tCons, tTup, tLst, tCB, tSeq, tAsg, gName, tRet, tRetN, tIfS, tNext, tDrop, tCall, tUn, tPar, CMul, CDiv, V.int.injEq, V.bl.injEq, V.ref.injEq, V.str.injEq, Option.some.injEq, List.cons.injEq, and_true, true_and, and_false, false_and, or_false, false_or, or_true, true_or, exists_eq_left', exists_eq_left, exists_and_left, exists_and_right, exists_eq', exists_eq, exists_false, exists_const, List.getElem?_cons_succ, List.getElem?_cons_zero, List.set_cons_succ, List.set_cons_zero, List.length_cons, List.length_nil, List.cons_append, List.nil_append, List.append_nil, reduceCtorEq, Int.reduceLT, Int.reduceLE, Int.reduceNeg, Int.reducePow, Int.reduceSub, Int.reduceAdd, Nat.reduceAdd, Nat.reduceLeDiff, Bool.not_true, Bool.not_false, decide_true, decide_false, Bool.false_eq_true, ↓reduceIte, upd_same, not_true_eq_false, not_false_eq_true, lsO_l, lsO_f, tpO_t, tpO_f, dkO_d, dkO_f, keyO_i, keyO_s, rIxH, rIxU, cLenL, cLenT, cListL, cListT, cTupL, cIntB, cAll, rEqNilI, rEq, rNe, scal_ii, scal_ss, scal_bb, scal_nn, scal_ni, scal_in, scal_ns, scal_sn, gSub, rSetL, ixs0, ixs1, ixs2, seq0, at0, at1, at2, at3, tBM, tBM0, rAppend, rPopAt, tyV_list, tGet2, tGetI, sPut, tMG, rTIdx, tyTup, tTupF, cx_K, cx_w, ex_map_int, ex_nil_int, ex_cons_int, List.map_cons, List.map_nil, List.isEmpty_nil, List.isEmpty_cons, List.eraseIdx_zero, List.tail_cons, List.eraseIdx_cons_zero, HO.lst.injEq, HO.tup.injEq, HO.dK.injEq, HO.frz.injEq, ne_eq, gTupH, gCons, gNil, wipe, tYes, upd_upd, and_assoc, List.getElem?_map, Option.map_some, isn_non_bool, isn_non_int, isn_non_str, isn_non_tuple, isn_non_list, isn_non_dict, isn_bl_bool, isn_bl_int, isn_bl_str, isn_bl_tuple, isn_bl_list, isn_bl_dict, isn_int_bool, isn_int_int, isn_int_str, isn_int_tuple, isn_int_list, isn_int_dict, isn_str_bool, isn_str_int, isn_str_str, isn_str_tuple, isn_str_list, isn_str_dict, isn_lst_bool, isn_lst_int, isn_lst_str, isn_lst_tuple, isn_lst_list, isn_lst_dict, isn_tup_bool, isn_tup_int, isn_tup_str, isn_tup_tuple, isn_tup_list, isn_tup_dict, isn_dct_bool, isn_dct_int, isn_dct_str, isn_dct_tuple, isn_dct_list, isn_dct_dict, okn_bool, okn_int, okn_str, okn_tuple, okn_list, okn_dict, cIsi, tyT_n, tyT_b, tyT_i, tyT_s, tyT_r, V.ty.injEq, tSl, tPart, tNoPart, rSlF, gName, tFld, sFld, tMeth, tMake, tGetT, tInT, tNinT, sPutT, sAugT, tPopT, rLtH, dtO_d, dtO_f, kysO_n, kysO_i, kysO_s, intsV_n, intsV_i, HO.ins.injEq, HO.dT.injEq, tDNewT, rIxLT, cLenLT, rSub, rAdd, sFldAug, Td.rIsG, Td.rCntT, Td.rIdxT, Td.rExt, Lm.tCallZ, Lm.tLam, lkDisk_there, lkDisk_late, lkDisk_left, lkDisk_is_gone, noDisk_need_power, noDisk_count, noDisk_write, noDisk_settle, noDisk_units, noDisk_arm, noDisk_fall, inDisk_there, inDisk_late, inDisk_left, inDisk_is_gone, puDisk_there, puDisk_late, puDisk_left, puDisk_is_gone, lnDisk, lpDisk1, lpDisk2, lpDisk3, l0Disk, T.cl_Disk, T.na_Disk_there, T.na_Disk_late, T.na_Disk_left, T.na_Disk_is_gone, D.ob]
    by_cases c : n < 0
    · rw [if_pos (decide_eq_true c)]
      exact ⟨szl (by decide), k1 c⟩
    · rw [if_neg (by simpa using c)]
      exact k2 _ (by omega) (Keep.refl.upd (by simp)) ⟨upd_same, by rw [upd_ne nat.symm]; exact D.th, by rw [upd_ne nal.symm]; exact D.la, D.ne⟩
theorem ok_Disk_fall (T : Txt K mg) : FnOk P w K mg base (L2.CX P w) 1 T.f_Disk_fall T.fd_Disk_fall ["self", "cut"] (spDkFall T.C_Disk T.C_BadNumber) := by
  refine T.F_Disk_fall.okX sc_Disk_fall (fun vs H Q E h => ?_) (fun cdv A outer s H vs Q E hr h => ?_)
  · obtain ⟨a, dx, t, l, xs, ys, left, gone, n, rfl, _⟩ := h
    rfl
  · obtain ⟨a, dx, t, l, xs, ys, left, gone, n, rfl, D, hz, k1, k2⟩ := h
    obtain ⟨nat, nal⟩ := D.nat
    refine ⟨_, (pss_cons (ps_if (pt_cmpR op_lt (pv 1) pe_int (nomark _)) (pss_one (Td.ps_raiseE rfl (takes_of rfl rfl rfl rfl) T.X_BadNumber rfl (pa_cons (pv 1) pa_nil))) pss_nil)
      (pss_cons (ps_fldaug (pv 0) (pe_slice sl_list (pe_fldK K rfl (pv 0) rfl) po_none (po_some (pv 1))) Td.in_ext)
      (pss_cons (ps_fld (pv 0) (pe_lst pa_nil) rfl)
      (pss_cons (ps_fld (pv 0) pe_non rfl)
      (pss_one (ps_fld (pv 0) pe_bl rfl)))))), ?_⟩
    rw [show L2.start N_Disk_fall [V.ref a, V.int n] = [some (V.ref a), some (V.int n)] from rfl]
    simp only [tVar, tC, tOp, rI, rI0, rU, tTest, tB, tAnd, tOr, tNot, tAndV, tOrV, tNotV, tIf, tNil, tCons, tTup, tLst, tCB, tSeq, tAsg, gName, tRet, tRetN, tIfS, tNext, tDrop, tCall, tUn, tPar, CMul, CDiv, V.int.injEq, V.bl.injEq, V.ref.injEq, V.str.injEq, Option.some.injEq, List.cons.injEq, and_true, true_and, and_false, false_and, or_false, false_or, or_true, true_or, exists_eq_left', exists_eq_left, exists_and_left, exists_and_right, exists_eq', exists_eq, exists_false, exists_const, List.getElem?_cons_succ, List.getElem?_cons_zero, List.set_cons_succ, List.set_cons_zero, List.length_cons, List.length_nil, List.cons_append, List.nil_append, List.append_nil, reduceCtorEq, Int.reduceLT, Int.reduceLE, Int.reduceNeg, Int.reducePow, Int.reduceSub, Int.reduceAdd, Nat.reduceAdd, Nat.reduceLeDiff, Bool.not_true, Bool.not_false, decide_true, decide_false, Bool.false_eq_true, ↓reduceIte, upd_same, not_true_eq_false, not_false_eq_true, lsO_l, lsO_f, tpO_t, tpO_f, dkO_d, dkO_f, keyO_i, keyO_s, rIxH, rIxU, cLenL, cLenT, cListL, cListT, cTupL, cIntB, cAll, rEqNilI, rEq, rNe, scal_ii, scal_ss, scal_bb, scal_nn, scal_ni, scal_in, scal_ns, scal_sn, gSub, rSetL, ixs0, ixs1, ixs2, seq0, at0, at1, at2, at3, tBM, tBM0, rAppend, rPopAt, tyV_list, tGet2, tGetI, sPut, tMG, rTIdx, tyTup, tTupF, cx_K, cx_w, ex_map_int, ex_nil_int, ex_cons_int, List.map_cons, List.map_nil, List.isEmpty_nil, List.isEmpty_cons, List.eraseIdx_zero, List.tail_cons, List.eraseIdx_cons_zero, HO.lst.injEq, HO.tup.injEq, HO.dK.injEq, HO.frz.injEq, ne_eq, gTupH, gCons, gNil, wipe, tYes, upd_upd, and_assoc, List.getElem?_map, Option.map_some, isn_non_bool, isn_non_int, isn_non_str, isn_non_tuple, isn_non_list, isn_non_dict, isn_bl_bool, isn_bl_int, isn_bl_str, isn_bl_tuple, isn_bl_list, isn_bl_dict, isn_int_bool, isn_int_int, isn_int_str, isn_int_tuple, isn_int_list, isn_int_dict, isn_str_bool, isn_str_int, isn_str_str, isn_str_tuple, isn_str_list, isn_str_dict, isn_lst_bool, isn_lst_int, isn_lst_str, isn_lst_tuple, isn_lst_list, isn_lst_dict, isn_tup_bool, isn_tup_int, isn_tup_str, isn_tup_tuple, isn_tup_list, isn_tup_dict, isn_dct_bool, isn_dct_int, isn_dct_str, isn_dct_tuple, isn_dct_list, isn_dct_dict, okn_bool, okn_int, okn_str, okn_tuple, okn_list, okn_dict, cIsi, tyT_n, tyT_b, tyT_i, tyT_s, tyT_r, V.ty.injEq, tSl, tPart, tNoPart, rSlF, gName, tFld, sFld, tMeth, tMake, tGetT, tInT, tNinT, sPutT, sAugT, tPopT, rLtH, dtO_d, dtO_f, kysO_n, kysO_i, kysO_s, intsV_n, intsV_i, HO.ins.injEq, HO.dT.injEq, tDNewT, rIxLT, cLenLT, rSub, rAdd, sFldAug, Td.rIsG, Td.rCntT, Td.rIdxT, Td.rExt, Lm.tCallZ, Lm.tLam, lkDisk_there, lkDisk_late, lkDisk_left, lkDisk_is_gone, noDisk_need_power, noDisk_count, noDisk_write, noDisk_settle, noDisk_units, noDisk_arm, noDisk_fall, inDisk_there, inDisk_late, inDisk_left, inDisk_is_gone, puDisk_there, puDisk_late, puDisk_left, puDisk_is_gone, lnDisk, lpDisk1, lpDisk2, lpDisk3, l0Disk, T.cl_Disk, T.na_Disk_there, T.na_Disk_late, T.na_Disk_left, T.na_Disk_is_gone, D.ob]
    by_cases c : n < 0
    · rw [if_pos (decide_eq_true c)]
      exact ⟨szl (by decide), k1 c⟩
    · rw [if_neg (by simpa using c)]
      refine ⟨l, ys, rfl, .inl (.inl D.la), fun p hp => ?_⟩
      have nap : a ≠ p := ne_of_none D.ob hp
      have ntp : t ≠ p := ne_of_none D.th hp
      have hcut : cutV ys none (some n) = ys.take n.toNat := cut_to ys (by omega)
      rw [hcut]
      have h1 : upd H p (.lst (ys.take n.toNat)) t = some (.lst xs) := by rw [upd_ne ntp]; exact D.th
      have h2 : upd H p (.lst (ys.take n.toNat)) a = some (.ins T.C_Disk dx (fsDisk (.ref t) (.ref l) (oi left) (.bl gone))) := by rw [upd_ne nap]; exact D.ob
      have hlen : (ys.take n.toNat).length ≤ ys.length := by rw [List.length_take]; omega
      refine ⟨p, rfl, xs, h1, _, upd_same, szl (by omega), ?_⟩
      simp only [tVar, tC, tOp, rI, rI0, rU, tTest, tB, tAnd, tOr, tNot, tAndV, tOrV, tNotV, tIf, tNil, tCons, tTup, tLst, tCB, tSeq, tAsg, gName, tRet, tRetN, tIfS, tNext, tDrop, tCall, tUn, tPar, CMul, CDiv, V.int.injEq, V.bl.injEq, V.ref.injEq, V.str.injEq, Option.some.injEq, List.cons.injEq, and_true, true_and, and_false, false_and, or_false, false_or, or_true, true_or, exists_eq_left', exists_eq_left, exists_and_left, exists_and_right, exists_eq', exists_eq, exists_false, exists_const, List.getElem?_cons_succ, List.getElem?_cons_zero, List.set_cons_succ, List.set_cons_zero, List.length_cons, List.length_nil, List.cons_append, List.nil_append, List.append_nil, reduceCtorEq, Int.reduceLT, Int.reduceLE, Int.reduceNeg, Int.reducePow, Int.reduceSub, Int.reduceAdd, Nat.reduceAdd, Nat.reduceLeDiff, Bool.not_true, Bool.not_false, decide_true, decide_false, Bool.false_eq_true, ↓reduceIte, upd_same, not_true_eq_false, not_false_eq_true, lsO_l, lsO_f, tpO_t, tpO_f, dkO_d, dkO_f, keyO_i, keyO_s, rIxH, rIxU, cLenL, cLenT, cListL, cListT, cTupL, cIntB, cAll, rEqNilI, rEq, rNe, scal_ii, scal_ss, scal_bb, scal_nn, scal_ni, scal_in, scal_ns, scal_sn, gSub, rSetL, ixs0, ixs1, ixs2, seq0, at0, at1, at2, at3, tBM, tBM0, rAppend, rPopAt, tyV_list, tGet2, tGetI, sPut, tMG, rTIdx, tyTup, tTupF, cx_K, cx_w, ex_map_int, ex_nil_int, ex_cons_int, List.map_cons, List.map_nil, List.isEmpty_nil, List.isEmpty_cons, List.eraseIdx_zero, List.tail_cons, List.eraseIdx_cons_zero, HO.lst.injEq, HO.tup.injEq, HO.dK.injEq, HO.frz.injEq, ne_eq, gTupH, gCons, gNil, wipe, tYes, upd_upd, and_assoc, List.getElem?_map, Option.map_some, isn_non_bool, isn_non_int, isn_non_str, isn_non_tuple, isn_non_list, isn_non_dict, isn_bl_bool, isn_bl_int, isn_bl_str, isn_bl_tuple, isn_bl_list, isn_bl_dict, isn_int_bool, isn_int_int, isn_int_str, isn_int_tuple, isn_int_list, isn_int_dict, isn_str_bool, isn_str_int, isn_str_str, isn_str_tuple, isn_str_list, isn_str_dict, isn_lst_bool, isn_lst_int, isn_lst_str, isn_lst_tuple, isn_lst_list, isn_lst_dict, isn_tup_bool, isn_tup_int, isn_tup_str, isn_tup_tuple, isn_tup_list, isn_tup_dict, isn_dct_bool, isn_dct_int, isn_dct_str, isn_dct_tuple, isn_dct_list, isn_dct_dict, okn_bool, okn_int, okn_str, okn_tuple, okn_list, okn_dict, cIsi, tyT_n, tyT_b, tyT_i, tyT_s, tyT_r, V.ty.injEq, tSl, tPart, tNoPart, rSlF, gName, tFld, sFld, tMeth, tMake, tGetT, tInT, tNinT, sPutT, sAugT, tPopT, rLtH, dtO_d, dtO_f, kysO_n, kysO_i, kysO_s, intsV_n, intsV_i, HO.ins.injEq, HO.dT.injEq, tDNewT, rIxLT, cLenLT, rSub, rAdd, sFldAug, Td.rIsG, Td.rCntT, Td.rIdxT, Td.rExt, Lm.tCallZ, Lm.tLam, lkDisk_there, lkDisk_late, lkDisk_left, lkDisk_is_gone, noDisk_need_power, noDisk_count, noDisk_write, noDisk_settle, noDisk_units, noDisk_arm, noDisk_fall, inDisk_there, inDisk_late, inDisk_left, inDisk_is_gone, puDisk_there, puDisk_late, puDisk_left, puDisk_is_gone, lnDisk, lpDisk1, lpDisk2, lpDisk3, l0Disk, T.cl_Disk, T.na_Disk_there, T.na_Disk_late, T.na_Disk_left, T.na_Disk_is_gone, upd_ne nat, h2]
      refine ⟨szl (by decide), fun q hq => ?_⟩
      have naq : a ≠ q := fun z => by rw [z, upd_same] at hq; cases hq
      have ntq : t ≠ q := fun z => by rw [upd_ne (by rw [← z]; exact nat.symm), ← z, upd_same] at hq; cases hq
      have npq : p ≠ q := fun z => by rw [upd_ne (by rw [← z]; exact nap.symm), upd_ne (by rw [← z]; exact ntp.symm), ← z, upd_same] at hq; cases hq
      have hq0 : H q = none := by rw [upd_ne naq.symm, upd_ne ntq.symm, upd_ne npq.symm] at hq; exact hq
      simp only [tVar, tC, tOp, rI, rI0, rU, tTest, tB, tAnd, tOr, tNot, tAndV, tOrV, tNotV, tIf, tNil, tCons, tTup, tLst, tCB, tSeq, tAsg, gName, tRet, tRetN, tIfS, tNext, tDrop, tCall, tUn, tPar, CMul, CDiv, V.int.injEq, V.bl.injEq, V.ref.injEq, V.str.injEq, Option.some.injEq, List.cons.injEq, and_true, true_and, and_false, false_and, or_false, false_or, or_true, true_or, exists_eq_left', exists_eq_left, exists_and_left, exists_and_right, exists_eq', exists_eq, exists_false, exists_const, List.getElem?_cons_succ, List.getElem?_cons_zero, List.set_cons_succ, List.set_cons_zero, List.length_cons, List.length_nil, List.cons_append, List.nil_append, List.append_nil, reduceCtorEq, Int.reduceLT, Int.reduceLE, Int.reduceNeg, Int.reducePow, Int.reduceSub, Int.reduceAdd, Nat.reduceAdd, Nat.reduceLeDiff, Bool.not_true, Bool.not_false, decide_true, decide_false, Bool.false_eq_true, ↓reduceIte, upd_same, not_true_eq_false, not_false_eq_true, lsO_l, lsO_f, tpO_t, tpO_f, dkO_d, dkO_f, keyO_i, keyO_s, rIxH, rIxU, cLenL, cLenT, cListL, cListT, cTupL, cIntB, cAll, rEqNilI, rEq, rNe, scal_ii, scal_ss, scal_bb, scal_nn, scal_ni, scal_in, scal_ns, scal_sn, gSub, rSetL, ixs0, ixs1, ixs2, seq0, at0, at1, at2, at3, tBM, tBM0, rAppend, rPopAt, tyV_list, tGet2, tGetI, sPut, tMG, rTIdx, tyTup, tTupF, cx_K, cx_w, ex_map_int, ex_nil_int, ex_cons_int, List.map_cons, List.map_nil, List.isEmpty_nil, List.isEmpty_cons, List.eraseIdx_zero, List.tail_cons, List.eraseIdx_cons_zero, HO.lst.injEq, HO.tup.injEq, HO.dK.injEq, HO.frz.injEq, ne_eq, gTupH, gCons, gNil, wipe, tYes, upd_upd, and_assoc, List.getElem?_map, Option.map_some, isn_non_bool, isn_non_int, isn_non_str, isn_non_tuple, isn_non_list, isn_non_dict, isn_bl_bool, isn_bl_int, isn_bl_str, isn_bl_tuple, isn_bl_list, isn_bl_dict, isn_int_bool, isn_int_int, isn_int_str, isn_int_tuple, isn_int_list, isn_int_dict, isn_str_bool, isn_str_int, isn_str_str, isn_str_tuple, isn_str_list, isn_str_dict, isn_lst_bool, isn_lst_int, isn_lst_str, isn_lst_tuple, isn_lst_list, isn_lst_dict, isn_tup_bool, isn_tup_int, isn_tup_str, isn_tup_tuple, isn_tup_list, isn_tup_dict, isn_dct_bool, isn_dct_int, isn_dct_str, isn_dct_tuple, isn_dct_list, isn_dct_dict, okn_bool, okn_int, okn_str, okn_tuple, okn_list, okn_dict, cIsi, tyT_n, tyT_b, tyT_i, tyT_s, tyT_r, V.ty.injEq, tSl, tPart, tNoPart, rSlF, gName, tFld, sFld, tMeth, tMake, tGetT, tInT, tNinT, sPutT, sAugT, tPopT, rLtH, dtO_d, dtO_f, kysO_n, kysO_i, kysO_s, intsV_n, intsV_i, HO.ins.injEq, HO.dT.injEq, tDNewT, rIxLT, cLenLT, rSub, rAdd, sFldAug, Td.rIsG, Td.rCntT, Td.rIdxT, Td.rExt, Lm.tCallZ, Lm.tLam, lkDisk_there, lkDisk_late, lkDisk_left, lkDisk_is_gone, noDisk_need_power, noDisk_count, noDisk_write, noDisk_settle, noDisk_units, noDisk_arm, noDisk_fall, inDisk_there, inDisk_late, inDisk_left, inDisk_is_gone, puDisk_there, puDisk_late, puDisk_left, puDisk_is_gone, lnDisk, lpDisk1, lpDisk2, lpDisk3, l0Disk, T.cl_Disk, T.na_Disk_there, T.na_Disk_late, T.na_Disk_left, T.na_Disk_is_gone, upd_ne naq]
      refine k2 _ q (by omega) hq0 ?_ ⟨upd_same, ?_, ?_, ntq⟩
      · exact (((((Keep.refl.updFree hp).upd (by simp)).upd (by simp)).updFree hq0).upd (by simp))
      · rw [upd_ne nat.symm, upd_ne ntq, upd_ne nat.symm, upd_same]
      · rw [upd_ne naq.symm, upd_same]
end

/-! alike: data that are the same tell True -/
def spAlikeD (d : Nat) : Sp := fun vs H Q _ => ∃ (u v : V) (t : Dx), vs = [u, v] ∧ RX H u t ∧ RX H v t ∧ t.deep ≤ d ∧ t.fits 100000 ∧ Q (.bl true) H
section
variable {P : Program} {w : World} {K : PySem.W.Frag} {mg : Str → Option Value} {base : Heap}
theorem alike_step (T : Txt K mg) (d : Nat) (sp0 : Sp) (G_l_alike : FnOk P w K mg base CX0 (d + 1) T.f_l_alike T.fd_l_alike ["_law_found", "_law_due"] sp0)
    (h0 : ∀ (u v : V) (t : Dx) (H : Hp) (Q : VK), 1 ≤ d → RX H u t → RX H v t → t.deep + 1 ≤ d → t.fits 100000 → Q (.bl true) H → sp0 [u, v] H Q E0) :
    FnOk P w K mg base CX0 (d + 2) T.f_l_alike T.fd_l_alike ["_law_found", "_law_due"] (spAlikeD d) := by
  refine T.F_l_alike.ok sc_l_alike (fun vs H Q E h => ?_) (fun cdv A outer s H vs Q E hr h => ?_)
  · obtain ⟨u, v, t, rfl, _⟩ := h
    rfl
  · have hu64 := hu64_of hr
    obtain ⟨u, v, t, rfl, R1, R2, hd, hf, k⟩ := h
    refine ⟨_, (pss_cons (ps_if (pt_cmpR op_isN (pv 1) pe_non (nomark _)) (pss_one (ps_ret (pe_cmpR op_isN (pv 0) pe_non (nomark _)))) pss_nil)
      (pss_cons (ps_if (pt_val (pe_callB isi_h (by rfl) T.n_isinstance (by decide +kernel) (pa_cons (pv 1) (pa_cons (pe_bltn (by rfl) T.n_bool (by decide +kernel) (v := .ty "bool") rfl) pa_nil)))) (pss_one (ps_ret (pe_and (pe_callB isi_h (by rfl) T.n_isinstance (by decide +kernel) (pa_cons (pv 0) (pa_cons (pe_bltn (by rfl) T.n_bool (by decide +kernel) (v := .ty "bool") rfl) pa_nil))) (pe_one (pe_cmpR op_eq (pv 0) (pv 1) (nomark _)))))) pss_nil)
      (pss_cons (ps_if (pt_val (pe_callB isi_h (by rfl) T.n_isinstance (by decide +kernel) (pa_cons (pv 1) (pa_cons (pe_bltn (by rfl) T.n_int (by decide +kernel) (v := .ty "int") rfl) pa_nil)))) (pss_one (ps_ret (pe_and (pe_callB isi_h (by rfl) T.n_isinstance (by decide +kernel) (pa_cons (pv 0) (pa_cons (pe_bltn (by rfl) T.n_int (by decide +kernel) (v := .ty "int") rfl) pa_nil))) (pe_and (pe_not (pe_callB isi_h (by rfl) T.n_isinstance (by decide +kernel) (pa_cons (pv 0) (pa_cons (pe_bltn (by rfl) T.n_bool (by decide +kernel) (v := .ty "bool") rfl) pa_nil)))) (pe_one (pe_cmpR op_eq (pv 0) (pv 1) (nomark _))))))) pss_nil)
      (pss_cons (ps_if (pt_val (pe_callB isi_h (by rfl) T.n_isinstance (by decide +kernel) (pa_cons (pv 1) (pa_cons (pe_bltn (by rfl) T.n_str (by decide +kernel) (v := .ty "str") rfl) pa_nil)))) (pss_one (ps_ret (pe_and (pe_callB isi_h (by rfl) T.n_isinstance (by decide +kernel) (pa_cons (pv 0) (pa_cons (pe_bltn (by rfl) T.n_str (by decide +kernel) (v := .ty "str") rfl) pa_nil))) (pe_one (pe_cmpR op_eq (pv 0) (pv 1) (nomark _)))))) pss_nil)
      (pss_cons (ps_if (PW.pt (pw_or (pt_cmpR op_ne (pe_callB isi_h (by rfl) T.n_isinstance (by decide +kernel) (pa_cons (pv 1) (pa_cons (pe_bltn (by rfl) T.n_tuple (by decide +kernel) (v := .ty "tuple") rfl) pa_nil))) (pe_callB isi_h (by rfl) T.n_isinstance (by decide +kernel) (pa_cons (pv 0) (pa_cons (pe_bltn (by rfl) T.n_tuple (by decide +kernel) (v := .ty "tuple") rfl) pa_nil))) (nomark _)) (pw_or1 (pt_cmpR op_ne (pe_callB isi_h (by rfl) T.n_isinstance (by decide +kernel) (pa_cons (pv 1) (pa_cons (pe_bltn (by rfl) T.n_list (by decide +kernel) (v := .ty "list") rfl) pa_nil))) (pe_callB isi_h (by rfl) T.n_isinstance (by decide +kernel) (pa_cons (pv 0) (pa_cons (pe_bltn (by rfl) T.n_list (by decide +kernel) (v := .ty "list") rfl) pa_nil))) (nomark _))))) (pss_one (ps_ret pe_bl)) pss_nil)
      (pss_cons (ps_if (pt_cmpR op_ne (pe_callB len_lt (by rfl) T.n_len PySem.boot_len (pa_cons (pv 0) pa_nil)) (pe_callB len_lt (by rfl) T.n_len PySem.boot_len (pa_cons (pv 1) pa_nil)) (nomark _)) (pss_one (ps_ret pe_bl)) pss_nil)
      (pss_cons (ps_for PassesOwn.never rfl (pi_range1 rfl T.n_range (pa_cons (pe_callB len_lt (by rfl) T.n_len PySem.boot_len (pa_cons (pv 1) pa_nil)) pa_nil)) (pg_name (i := 2) sc_l_alike.nd rfl (Or.inl rfl)) (pss_one (ps_if (pt_not (pt_val (pe_call G_l_alike (hr.mono (by show _ ≤ d + 1; omega)) rfl T.mg_l_alike T.F_l_alike.kp T.b_l_alike .nil pass0 (pa_cons (pe_ix ix_lt (pv 0) (pv 2) (fun _ _ => rfl)) (pa_cons (pe_ix ix_lt (pv 1) (pv 2) (fun _ _ => rfl)) pa_nil))))) (pss_one (ps_ret pe_bl)) pss_nil)))
      (pss_one (ps_ret pe_bl))))))))), ?_⟩
    rw [show L2.start N_l_alike [u, v] = [some (u), some (v), none] from rfl]
    cases t with
    | non =>
      simp only [RX] at R1 R2
      subst R1 R2
      simp only [tVar, tC, tOp, rI, rI0, rU, tTest, tB, tAnd, tOr, tNot, tAndV, tOrV, tNotV, tIf, tNil, tCons, tTup, tLst, tCB, tSeq, tAsg, gName, tRet, tRetN, tIfS, tNext, tDrop, tCall, tUn, tPar, CMul, CDiv, V.int.injEq, V.bl.injEq, V.ref.injEq, V.str.injEq, Option.some.injEq, List.cons.injEq, and_true, true_and, and_false, false_and, or_false, false_or, or_true, true_or, exists_eq_left', exists_eq_left, exists_and_left, exists_and_right, exists_eq', exists_eq, exists_false, exists_const, List.getElem?_cons_succ, List.getElem?_cons_zero, List.set_cons_succ, List.set_cons_zero, List.length_cons, List.length_nil, List.cons_append, List.nil_append, List.append_nil, reduceCtorEq, Int.reduceLT, Int.reduceLE, Int.reduceNeg, Int.reducePow, Int.reduceSub, Int.reduceAdd, Nat.reduceAdd, Nat.reduceLeDiff, Bool.not_true, Bool.not_false, decide_true, decide_false, Bool.false_eq_true, ↓reduceIte, upd_same, not_true_eq_false, not_false_eq_true, lsO_l, lsO_f, tpO_t, tpO_f, dkO_d, dkO_f, keyO_i, keyO_s, rIxH, rIxU, cLenL, cLenT, cListL, cListT, cTupL, cIntB, cAll, rEqNilI, rEq, rNe, scal_ii, scal_ss, scal_bb, scal_nn, scal_ni, scal_in, scal_ns, scal_sn, gSub, rSetL, ixs0, ixs1, ixs2, seq0, at0, at1, at2, at3, tBM, tBM0, rAppend, rPopAt, tyV_list, tGet2, tGetI, sPut, tMG, rTIdx, tyTup, tTupF, cx_K, cx_w, ex_map_int, ex_nil_int, ex_cons_int, List.map_cons, List.map_nil, List.isEmpty_nil, List.isEmpty_cons, List.eraseIdx_zero, List.tail_cons, List.eraseIdx_cons_zero, HO.lst.injEq, HO.tup.injEq, HO.dK.injEq, HO.frz.injEq, ne_eq, gTupH, gCons, gNil, wipe, tYes, upd_upd, and_assoc, List.getElem?_map, Option.map_some, isn_non_bool, isn_non_int, isn_non_str, isn_non_tuple, isn_non_list, isn_non_dict, isn_bl_bool, isn_bl_int, isn_bl_str, isn_bl_tuple, isn_bl_list, isn_bl_dict, isn_int_bool, isn_int_int, isn_int_str, isn_int_tuple, isn_int_list, isn_int_dict, isn_str_bool, isn_str_int, isn_str_str, isn_str_tuple, isn_str_list, isn_str_dict, isn_lst_bool, isn_lst_int, isn_lst_str, isn_lst_tuple, isn_lst_list, isn_lst_dict, isn_tup_bool, isn_tup_int, isn_tup_str, isn_tup_tuple, isn_tup_list, isn_tup_dict, isn_dct_bool, isn_dct_int, isn_dct_str, isn_dct_tuple, isn_dct_list, isn_dct_dict, okn_bool, okn_int, okn_str, okn_tuple, okn_list, okn_dict, cIsi, tyT_n, tyT_b, tyT_i, tyT_s, tyT_r, V.ty.injEq, tSl, tPart, tNoPart, rSlF, gName, tFld, sFld, tMeth, tMake, tGetT, tInT, tNinT, sPutT, sAugT, tPopT, rLtH, dtO_d, dtO_f, kysO_n, kysO_i, kysO_s, intsV_n, intsV_i, HO.ins.injEq, HO.dT.injEq, tDNewT, rIxLT, cLenLT, rSub, rAdd, sFldAug, Td.rIsG, Td.rCntT, Td.rIdxT, Td.rExt, Lm.tCallZ, Lm.tLam]
      exact k
    | bl b =>
      simp only [RX] at R1 R2
      subst R1 R2
      simp only [tVar, tC, tOp, rI, rI0, rU, tTest, tB, tAnd, tOr, tNot, tAndV, tOrV, tNotV, tIf, tNil, tCons, tTup, tLst, tCB, tSeq, tAsg, gName, tRet, tRetN, tIfS, tNext, tDrop, tCall, tUn, tPar, CMul, CDiv, V.int.injEq, V.bl.injEq, V.ref.injEq, V.str.injEq, Option.some.injEq, List.cons.injEq, and_true, true_and, and_false, false_and, or_false, false_or, or_true, true_or, exists_eq_left', exists_eq_left, exists_and_left, exists_and_right, exists_eq', exists_eq, exists_false, exists_const, List.getElem?_cons_succ, List.getElem?_cons_zero, List.set_cons_succ, List.set_cons_zero, List.length_cons, List.length_nil, List.cons_append, List.nil_append, List.append_nil, reduceCtorEq, Int.reduceLT, Int.reduceLE, Int.reduceNeg, Int.reducePow, Int.reduceSub, Int.reduceAdd, Nat.reduceAdd, Nat.reduceLeDiff, Bool.not_true, Bool.not_false, decide_true, decide_false, Bool.false_eq_true, ↓reduceIte, upd_same, not_true_eq_false, not_false_eq_true, lsO_l, lsO_f, tpO_t, tpO_f, dkO_d, dkO_f, keyO_i, keyO_s, rIxH, rIxU, cLenL, cLenT, cListL, cListT, cTupL, cIntB, cAll, rEqNilI, rEq, rNe, scal_ii, scal_ss, scal_bb, scal_nn, scal_ni, scal_in, scal_ns, scal_sn, gSub, rSetL, ixs0, ixs1, ixs2, seq0, at0, at1, at2, at3, tBM, tBM0, rAppend, rPopAt, tyV_list, tGet2, tGetI, sPut, tMG, rTIdx, tyTup, tTupF, cx_K, cx_w, ex_map_int, ex_nil_int, ex_cons_int, List.map_cons, List.map_nil, List.isEmpty_nil, List.isEmpty_cons, List.eraseIdx_zero, List.tail_cons, List.eraseIdx_cons_zero, HO.lst.injEq, HO.tup.injEq, HO.dK.injEq, HO.frz.injEq, ne_eq, gTupH, gCons, gNil, wipe, tYes, upd_upd, and_assoc, List.getElem?_map, Option.map_some, isn_non_bool, isn_non_int, isn_non_str, isn_non_tuple, isn_non_list, isn_non_dict, isn_bl_bool, isn_bl_int, isn_bl_str, isn_bl_tuple, isn_bl_list, isn_bl_dict, isn_int_bool, isn_int_int, isn_int_str, isn_int_tuple, isn_int_list, isn_int_dict, isn_str_bool, isn_str_int, isn_str_str, isn_str_tuple, isn_str_list, isn_str_dict, isn_lst_bool, isn_lst_int, isn_lst_str, isn_lst_tuple, isn_lst_list, isn_lst_dict, isn_tup_bool, isn_tup_int, isn_tup_str, isn_tup_tuple, isn_tup_list, isn_tup_dict, isn_dct_bool, isn_dct_int, isn_dct_str, isn_dct_tuple, isn_dct_list, isn_dct_dict, okn_bool, okn_int, okn_str, okn_tuple, okn_list, okn_dict, cIsi, tyT_n, tyT_b, tyT_i, tyT_s, tyT_r, V.ty.injEq, tSl, tPart, tNoPart, rSlF, gName, tFld, sFld, tMeth, tMake, tGetT, tInT, tNinT, sPutT, sAugT, tPopT, rLtH, dtO_d, dtO_f, kysO_n, kysO_i, kysO_s, intsV_n, intsV_i, HO.ins.injEq, HO.dT.injEq, tDNewT, rIxLT, cLenLT, rSub, rAdd, sFldAug, Td.rIsG, Td.rCntT, Td.rIdxT, Td.rExt, Lm.tCallZ, Lm.tLam]
      exact k
    | int b =>
      simp only [RX] at R1 R2
      subst R1 R2
      simp only [tVar, tC, tOp, rI, rI0, rU, tTest, tB, tAnd, tOr, tNot, tAndV, tOrV, tNotV, tIf, tNil, tCons, tTup, tLst, tCB, tSeq, tAsg, gName, tRet, tRetN, tIfS, tNext, tDrop, tCall, tUn, tPar, CMul, CDiv, V.int.injEq, V.bl.injEq, V.ref.injEq, V.str.injEq, Option.some.injEq, List.cons.injEq, and_true, true_and, and_false, false_and, or_false, false_or, or_true, true_or, exists_eq_left', exists_eq_left, exists_and_left, exists_and_right, exists_eq', exists_eq, exists_false, exists_const, List.getElem?_cons_succ, List.getElem?_cons_zero, List.set_cons_succ, List.set_cons_zero, List.length_cons, List.length_nil, List.cons_append, List.nil_append, List.append_nil, reduceCtorEq, Int.reduceLT, Int.reduceLE, Int.reduceNeg, Int.reducePow, Int.reduceSub, Int.reduceAdd, Nat.reduceAdd, Nat.reduceLeDiff, Bool.not_true, Bool.not_false, decide_true, decide_false, Bool.false_eq_true, ↓reduceIte, upd_same, not_true_eq_false, not_false_eq_true, lsO_l, lsO_f, tpO_t, tpO_f, dkO_d, dkO_f, keyO_i, keyO_s, rIxH, rIxU, cLenL, cLenT, cListL, cListT, cTupL, cIntB, cAll, rEqNilI, rEq, rNe, scal_ii, scal_ss, scal_bb, scal_nn, scal_ni, scal_in, scal_ns, scal_sn, gSub, rSetL, ixs0, ixs1, ixs2, seq0, at0, at1, at2, at3, tBM, tBM0, rAppend, rPopAt, tyV_list, tGet2, tGetI, sPut, tMG, rTIdx, tyTup, tTupF, cx_K, cx_w, ex_map_int, ex_nil_int, ex_cons_int, List.map_cons, List.map_nil, List.isEmpty_nil, List.isEmpty_cons, List.eraseIdx_zero, List.tail_cons, List.eraseIdx_cons_zero, HO.lst.injEq, HO.tup.injEq, HO.dK.injEq, HO.frz.injEq, ne_eq, gTupH, gCons, gNil, wipe, tYes, upd_upd, and_assoc, List.getElem?_map, Option.map_some, isn_non_bool, isn_non_int, isn_non_str, isn_non_tuple, isn_non_list, isn_non_dict, isn_bl_bool, isn_bl_int, isn_bl_str, isn_bl_tuple, isn_bl_list, isn_bl_dict, isn_int_bool, isn_int_int, isn_int_str, isn_int_tuple, isn_int_list, isn_int_dict, isn_str_bool, isn_str_int, isn_str_str, isn_str_tuple, isn_str_list, isn_str_dict, isn_lst_bool, isn_lst_int, isn_lst_str, isn_lst_tuple, isn_lst_list, isn_lst_dict, isn_tup_bool, isn_tup_int, isn_tup_str, isn_tup_tuple, isn_tup_list, isn_tup_dict, isn_dct_bool, isn_dct_int, isn_dct_str, isn_dct_tuple, isn_dct_list, isn_dct_dict, okn_bool, okn_int, okn_str, okn_tuple, okn_list, okn_dict, cIsi, tyT_n, tyT_b, tyT_i, tyT_s, tyT_r, V.ty.injEq, tSl, tPart, tNoPart, rSlF, gName, tFld, sFld, tMeth, tMake, tGetT, tInT, tNinT, sPutT, sAugT, tPopT, rLtH, dtO_d, dtO_f, kysO_n, kysO_i, kysO_s, intsV_n, intsV_i, HO.ins.injEq, HO.dT.injEq, tDNewT, rIxLT, cLenLT, rSub, rAdd, sFldAug, Td.rIsG, Td.rCntT, Td.rIdxT, Td.rExt, Lm.tCallZ, Lm.tLam]
      exact k
    | str b =>
      simp only [RX] at R1 R2
      subst R1 R2
      simp only [tVar, tC, tOp, rI, rI0, rU, tTest, tB, tAnd, tOr, tNot, tAndV, tOrV, tNotV, tIf, tNil, tCons, tTup, tLst, tCB, tSeq, tAsg, gName, tRet, tRetN, tIfS, tNext, tDrop, tCall, tUn, tPar, CMul, CDiv, V.int.injEq, V.bl.injEq, V.ref.injEq, V.str.injEq, Option.some.injEq, List.cons.injEq, and_true, true_and, and_false, false_and, or_false, false_or, or_true, true_or, exists_eq_left', exists_eq_left, exists_and_left, exists_and_right, exists_eq', exists_eq, exists_false, exists_const, List.getElem?_cons_succ, List.getElem?_cons_zero, List.set_cons_succ, List.set_cons_zero, List.length_cons, List.length_nil, List.cons_append, List.nil_append, List.append_nil, reduceCtorEq, Int.reduceLT, Int.reduceLE, Int.reduceNeg, Int.reducePow, Int.reduceSub, Int.reduceAdd, Nat.reduceAdd, Nat.reduceLeDiff, Bool.not_true, Bool.not_false, decide_true, decide_false, Bool.false_eq_true, ↓reduceIte, upd_same, not_true_eq_false, not_false_eq_true, lsO_l, lsO_f, tpO_t, tpO_f, dkO_d, dkO_f, keyO_i, keyO_s, rIxH, rIxU, cLenL, cLenT, cListL, cListT, cTupL, cIntB, cAll, rEqNilI, rEq, rNe, scal_ii, scal_ss, scal_bb, scal_nn, scal_ni, scal_in, scal_ns, scal_sn, gSub, rSetL, ixs0, ixs1, ixs2, seq0, at0, at1, at2, at3, tBM, tBM0, rAppend, rPopAt, tyV_list, tGet2, tGetI, sPut, tMG, rTIdx, tyTup, tTupF, cx_K, cx_w, ex_map_int, ex_nil_int, ex_cons_int, List.map_cons, List.map_nil, List.isEmpty_nil, List.isEmpty_cons, List.eraseIdx_zero, List.tail_cons, List.eraseIdx_cons_zero, HO.lst.injEq, HO.tup.injEq, HO.dK.injEq, HO.frz.injEq, ne_eq, gTupH, gCons, gNil, wipe, tYes, upd_upd, and_assoc, List.getElem?_map, Option.map_some, isn_non_bool, isn_non_int, isn_non_str, isn_non_tuple, isn_non_list, isn_non_dict, isn_bl_bool, isn_bl_int, isn_bl_str, isn_bl_tuple, isn_bl_list, isn_bl_dict, isn_int_bool, isn_int_int, isn_int_str, isn_int_tuple, isn_int_list, isn_int_dict, isn_str_bool, isn_str_int, isn_str_str, isn_str_tuple, isn_str_list, isn_str_dict, isn_lst_bool, isn_lst_int, isn_lst_str, isn_lst_tuple, isn_lst_list, isn_lst_dict, isn_tup_bool, isn_tup_int, isn_tup_str, isn_tup_tuple, isn_tup_list, isn_tup_dict, isn_dct_bool, isn_dct_int, isn_dct_str, isn_dct_tuple, isn_dct_list, isn_dct_dict, okn_bool, okn_int, okn_str, okn_tuple, okn_list, okn_dict, cIsi, tyT_n, tyT_b, tyT_i, tyT_s, tyT_r, V.ty.injEq, tSl, tPart, tNoPart, rSlF, gName, tFld, sFld, tMeth, tMake, tGetT, tInT, tNinT, sPutT, sAugT, tPopT, rLtH, dtO_d, dtO_f, kysO_n, kysO_i, kysO_s, intsV_n, intsV_i, HO.ins.injEq, HO.dT.injEq, tDNewT, rIxLT, cLenLT, rSub, rAdd, sFldAug, Td.rIsG, Td.rCntT, Td.rIdxT, Td.rExt, Lm.tCallZ, Lm.tLam]
      exact k
    | tup ds =>
      simp only [RX] at R1 R2
      obtain ⟨a, us, rfl, ha, R1⟩ := R1
      obtain ⟨b, vs, rfl, hb, R2⟩ := R2
      have l1 := R1.len
      have l2 := R2.len
      simp only [Dx.deep, Dx.fits] at hd hf
      simp only [tVar, tC, tOp, rI, rI0, rU, tTest, tB, tAnd, tOr, tNot, tAndV, tOrV, tNotV, tIf, tNil, tCons, tTup, tLst, tCB, tSeq, tAsg, gName, tRet, tRetN, tIfS, tNext, tDrop, tCall, tUn, tPar, CMul, CDiv, V.int.injEq, V.bl.injEq, V.ref.injEq, V.str.injEq, Option.some.injEq, List.cons.injEq, and_true, true_and, and_false, false_and, or_false, false_or, or_true, true_or, exists_eq_left', exists_eq_left, exists_and_left, exists_and_right, exists_eq', exists_eq, exists_false, exists_const, List.getElem?_cons_succ, List.getElem?_cons_zero, List.set_cons_succ, List.set_cons_zero, List.length_cons, List.length_nil, List.cons_append, List.nil_append, List.append_nil, reduceCtorEq, Int.reduceLT, Int.reduceLE, Int.reduceNeg, Int.reducePow, Int.reduceSub, Int.reduceAdd, Nat.reduceAdd, Nat.reduceLeDiff, Bool.not_true, Bool.not_false, decide_true, decide_false, Bool.false_eq_true, ↓reduceIte, upd_same, not_true_eq_false, not_false_eq_true, lsO_l, lsO_f, tpO_t, tpO_f, dkO_d, dkO_f, keyO_i, keyO_s, rIxH, rIxU, cLenL, cLenT, cListL, cListT, cTupL, cIntB, cAll, rEqNilI, rEq, rNe, scal_ii, scal_ss, scal_bb, scal_nn, scal_ni, scal_in, scal_ns, scal_sn, gSub, rSetL, ixs0, ixs1, ixs2, seq0, at0, at1, at2, at3, tBM, tBM0, rAppend, rPopAt, tyV_list, tGet2, tGetI, sPut, tMG, rTIdx, tyTup, tTupF, cx_K, cx_w, ex_map_int, ex_nil_int, ex_cons_int, List.map_cons, List.map_nil, List.isEmpty_nil, List.isEmpty_cons, List.eraseIdx_zero, List.tail_cons, List.eraseIdx_cons_zero, HO.lst.injEq, HO.tup.injEq, HO.dK.injEq, HO.frz.injEq, ne_eq, gTupH, gCons, gNil, wipe, tYes, upd_upd, and_assoc, List.getElem?_map, Option.map_some, isn_non_bool, isn_non_int, isn_non_str, isn_non_tuple, isn_non_list, isn_non_dict, isn_bl_bool, isn_bl_int, isn_bl_str, isn_bl_tuple, isn_bl_list, isn_bl_dict, isn_int_bool, isn_int_int, isn_int_str, isn_int_tuple, isn_int_list, isn_int_dict, isn_str_bool, isn_str_int, isn_str_str, isn_str_tuple, isn_str_list, isn_str_dict, isn_lst_bool, isn_lst_int, isn_lst_str, isn_lst_tuple, isn_lst_list, isn_lst_dict, isn_tup_bool, isn_tup_int, isn_tup_str, isn_tup_tuple, isn_tup_list, isn_tup_dict, isn_dct_bool, isn_dct_int, isn_dct_str, isn_dct_tuple, isn_dct_list, isn_dct_dict, okn_bool, okn_int, okn_str, okn_tuple, okn_list, okn_dict, cIsi, tyT_n, tyT_b, tyT_i, tyT_s, tyT_r, V.ty.injEq, tSl, tPart, tNoPart, rSlF, gName, tFld, sFld, tMeth, tMake, tGetT, tInT, tNinT, sPutT, sAugT, tPopT, rLtH, dtO_d, dtO_f, kysO_n, kysO_i, kysO_s, intsV_n, intsV_i, HO.ins.injEq, HO.dT.injEq, tDNewT, rIxLT, cLenLT, rSub, rAdd, sFldAug, Td.rIsG, Td.rCntT, Td.rIdxT, Td.rExt, Lm.tCallZ, Lm.tLam, ha, hb]
      refine ⟨us, .inr rfl, vs, .inr rfl, ?_⟩
      rw [if_neg (by simp [l1, l2])]
      simp only [tVar, tC, tOp, rI, rI0, rU, tTest, tB, tAnd, tOr, tNot, tAndV, tOrV, tNotV, tIf, tNil, tCons, tTup, tLst, tCB, tSeq, tAsg, gName, tRet, tRetN, tIfS, tNext, tDrop, tCall, tUn, tPar, CMul, CDiv, V.int.injEq, V.bl.injEq, V.ref.injEq, V.str.injEq, Option.some.injEq, List.cons.injEq, and_true, true_and, and_false, false_and, or_false, false_or, or_true, true_or, exists_eq_left', exists_eq_left, exists_and_left, exists_and_right, exists_eq', exists_eq, exists_false, exists_const, List.getElem?_cons_succ, List.getElem?_cons_zero, List.set_cons_succ, List.set_cons_zero, List.length_cons, List.length_nil, List.cons_append, List.nil_append, List.append_nil, reduceCtorEq, Int.reduceLT, Int.reduceLE, Int.reduceNeg, Int.reducePow, Int.reduceSub, Int.reduceAdd, Nat.reduceAdd, Nat.reduceLeDiff, Bool.not_true, Bool.not_false, decide_true, decide_false, Bool.false_eq_true, ↓reduceIte, upd_same, not_true_eq_false, not_false_eq_true, lsO_l, lsO_f, tpO_t, tpO_f, dkO_d, dkO_f, keyO_i, keyO_s, rIxH, rIxU, cLenL, cLenT, cListL, cListT, cTupL, cIntB, cAll, rEqNilI, rEq, rNe, scal_ii, scal_ss, scal_bb, scal_nn, scal_ni, scal_in, scal_ns, scal_sn, gSub, rSetL, ixs0, ixs1, ixs2, seq0, at0, at1, at2, at3, tBM, tBM0, rAppend, rPopAt, tyV_list, tGet2, tGetI, sPut, tMG, rTIdx, tyTup, tTupF, cx_K, cx_w, ex_map_int, ex_nil_int, ex_cons_int, List.map_cons, List.map_nil, List.isEmpty_nil, List.isEmpty_cons, List.eraseIdx_zero, List.tail_cons, List.eraseIdx_cons_zero, HO.lst.injEq, HO.tup.injEq, HO.dK.injEq, HO.frz.injEq, ne_eq, gTupH, gCons, gNil, wipe, tYes, upd_upd, and_assoc, List.getElem?_map, Option.map_some, isn_non_bool, isn_non_int, isn_non_str, isn_non_tuple, isn_non_list, isn_non_dict, isn_bl_bool, isn_bl_int, isn_bl_str, isn_bl_tuple, isn_bl_list, isn_bl_dict, isn_int_bool, isn_int_int, isn_int_str, isn_int_tuple, isn_int_list, isn_int_dict, isn_str_bool, isn_str_int, isn_str_str, isn_str_tuple, isn_str_list, isn_str_dict, isn_lst_bool, isn_lst_int, isn_lst_str, isn_lst_tuple, isn_lst_list, isn_lst_dict, isn_tup_bool, isn_tup_int, isn_tup_str, isn_tup_tuple, isn_tup_list, isn_tup_dict, isn_dct_bool, isn_dct_int, isn_dct_str, isn_dct_tuple, isn_dct_list, isn_dct_dict, okn_bool, okn_int, okn_str, okn_tuple, okn_list, okn_dict, cIsi, tyT_n, tyT_b, tyT_i, tyT_s, tyT_r, V.ty.injEq, tSl, tPart, tNoPart, rSlF, gName, tFld, sFld, tMeth, tMake, tGetT, tInT, tNinT, sPutT, sAugT, tPopT, rLtH, dtO_d, dtO_f, kysO_n, kysO_i, kysO_s, intsV_n, intsV_i, HO.ins.injEq, HO.dT.injEq, tDNewT, rIxLT, cLenLT, rSub, rAdd, sFldAug, Td.rIsG, Td.rCntT, Td.rIdxT, Td.rExt, Lm.tCallZ, Lm.tLam, tFor_eq, iRng1, hb]
      refine ⟨vs, .inr rfl, by omega, by omega, forB_it (for_it walk_range (fun i σ H2 => ∃ y : Option V, σ = [some (.ref a), some (.ref b), y] ∧ H2 = H) ⟨none, rfl, rfl⟩ (fun _ _ _ _ _ => trivial) ?_ ?_)⟩
      · rintro i x σ H2 H3 hi ⟨y, rfl, rfl⟩ ⟨rfl, rfl⟩
        have hil : i < ds.length := by omega
        obtain ⟨u, hu1, ru⟩ := R1.at (List.getElem?_eq_getElem hil)
        obtain ⟨v, hv1, rv⟩ := R2.at (List.getElem?_eq_getElem hil)
        have dd := Dx.deepL_at (List.getElem?_eq_getElem hil)
        have ff := Dx.fitsL_at hf.2 (List.getElem?_eq_getElem hil)
        have a1 : atI us (0 + (i : Int)) = some u := by rw [Int.zero_add]; exact atI_nat hu1
        have a2 : atI vs (0 + (i : Int)) = some v := by rw [Int.zero_add]; exact atI_nat hv1
        simp only [tVar, tC, tOp, rI, rI0, rU, tTest, tB, tAnd, tOr, tNot, tAndV, tOrV, tNotV, tIf, tNil, tCons, tTup, tLst, tCB, tSeq, tAsg, gName, tRet, tRetN, tIfS, tNext, tDrop, tCall, tUn, tPar, CMul, CDiv, V.int.injEq, V.bl.injEq, V.ref.injEq, V.str.injEq, Option.some.injEq, List.cons.injEq, and_true, true_and, and_false, false_and, or_false, false_or, or_true, true_or, exists_eq_left', exists_eq_left, exists_and_left, exists_and_right, exists_eq', exists_eq, exists_false, exists_const, List.getElem?_cons_succ, List.getElem?_cons_zero, List.set_cons_succ, List.set_cons_zero, List.length_cons, List.length_nil, List.cons_append, List.nil_append, List.append_nil, reduceCtorEq, Int.reduceLT, Int.reduceLE, Int.reduceNeg, Int.reducePow, Int.reduceSub, Int.reduceAdd, Nat.reduceAdd, Nat.reduceLeDiff, Bool.not_true, Bool.not_false, decide_true, decide_false, Bool.false_eq_true, ↓reduceIte, upd_same, not_true_eq_false, not_false_eq_true, lsO_l, lsO_f, tpO_t, tpO_f, dkO_d, dkO_f, keyO_i, keyO_s, rIxH, rIxU, cLenL, cLenT, cListL, cListT, cTupL, cIntB, cAll, rEqNilI, rEq, rNe, scal_ii, scal_ss, scal_bb, scal_nn, scal_ni, scal_in, scal_ns, scal_sn, gSub, rSetL, ixs0, ixs1, ixs2, seq0, at0, at1, at2, at3, tBM, tBM0, rAppend, rPopAt, tyV_list, tGet2, tGetI, sPut, tMG, rTIdx, tyTup, tTupF, cx_K, cx_w, ex_map_int, ex_nil_int, ex_cons_int, List.map_cons, List.map_nil, List.isEmpty_nil, List.isEmpty_cons, List.eraseIdx_zero, List.tail_cons, List.eraseIdx_cons_zero, HO.lst.injEq, HO.tup.injEq, HO.dK.injEq, HO.frz.injEq, ne_eq, gTupH, gCons, gNil, wipe, tYes, upd_upd, and_assoc, List.getElem?_map, Option.map_some, isn_non_bool, isn_non_int, isn_non_str, isn_non_tuple, isn_non_list, isn_non_dict, isn_bl_bool, isn_bl_int, isn_bl_str, isn_bl_tuple, isn_bl_list, isn_bl_dict, isn_int_bool, isn_int_int, isn_int_str, isn_int_tuple, isn_int_list, isn_int_dict, isn_str_bool, isn_str_int, isn_str_str, isn_str_tuple, isn_str_list, isn_str_dict, isn_lst_bool, isn_lst_int, isn_lst_str, isn_lst_tuple, isn_lst_list, isn_lst_dict, isn_tup_bool, isn_tup_int, isn_tup_str, isn_tup_tuple, isn_tup_list, isn_tup_dict, isn_dct_bool, isn_dct_int, isn_dct_str, isn_dct_tuple, isn_dct_list, isn_dct_dict, okn_bool, okn_int, okn_str, okn_tuple, okn_list, okn_dict, cIsi, tyT_n, tyT_b, tyT_i, tyT_s, tyT_r, V.ty.injEq, tSl, tPart, tNoPart, rSlF, gName, tFld, sFld, tMeth, tMake, tGetT, tInT, tNinT, sPutT, sAugT, tPopT, rLtH, dtO_d, dtO_f, kysO_n, kysO_i, kysO_s, intsV_n, intsV_i, HO.ins.injEq, HO.dT.injEq, tDNewT, rIxLT, cLenLT, rSub, rAdd, sFldAug, Td.rIsG, Td.rCntT, Td.rIdxT, Td.rExt, Lm.tCallZ, Lm.tLam, gName, ha, hb]
        refine ⟨us, .inr rfl, _, a1, vs, .inr rfl, _, a2, h0 u v _ _ _ (by omega) ru rv (by omega) ff ?_⟩
        simp only [tVar, tC, tOp, rI, rI0, rU, tTest, tB, tAnd, tOr, tNot, tAndV, tOrV, tNotV, tIf, tNil, tCons, tTup, tLst, tCB, tSeq, tAsg, gName, tRet, tRetN, tIfS, tNext, tDrop, tCall, tUn, tPar, CMul, CDiv, V.int.injEq, V.bl.injEq, V.ref.injEq, V.str.injEq, Option.some.injEq, List.cons.injEq, and_true, true_and, and_false, false_and, or_false, false_or, or_true, true_or, exists_eq_left', exists_eq_left, exists_and_left, exists_and_right, exists_eq', exists_eq, exists_false, exists_const, List.getElem?_cons_succ, List.getElem?_cons_zero, List.set_cons_succ, List.set_cons_zero, List.length_cons, List.length_nil, List.cons_append, List.nil_append, List.append_nil, reduceCtorEq, Int.reduceLT, Int.reduceLE, Int.reduceNeg, Int.reducePow, Int.reduceSub, Int.reduceAdd, Nat.reduceAdd, Nat.reduceLeDiff, Bool.not_true, Bool.not_false, decide_true, decide_false, Bool.false_eq_true, ↓reduceIte, upd_same, not_true_eq_false, not_false_eq_true, lsO_l, lsO_f, tpO_t, tpO_f, dkO_d, dkO_f, keyO_i, keyO_s, rIxH, rIxU, cLenL, cLenT, cListL, cListT, cTupL, cIntB, cAll, rEqNilI, rEq, rNe, scal_ii, scal_ss, scal_bb, scal_nn, scal_ni, scal_in, scal_ns, scal_sn, gSub, rSetL, ixs0, ixs1, ixs2, seq0, at0, at1, at2, at3, tBM, tBM0, rAppend, rPopAt, tyV_list, tGet2, tGetI, sPut, tMG, rTIdx, tyTup, tTupF, cx_K, cx_w, ex_map_int, ex_nil_int, ex_cons_int, List.map_cons, List.map_nil, List.isEmpty_nil, List.isEmpty_cons, List.eraseIdx_zero, List.tail_cons, List.eraseIdx_cons_zero, HO.lst.injEq, HO.tup.injEq, HO.dK.injEq, HO.frz.injEq, ne_eq, gTupH, gCons, gNil, wipe, tYes, upd_upd, and_assoc, List.getElem?_map, Option.map_some, isn_non_bool, isn_non_int, isn_non_str, isn_non_tuple, isn_non_list, isn_non_dict, isn_bl_bool, isn_bl_int, isn_bl_str, isn_bl_tuple, isn_bl_list, isn_bl_dict, isn_int_bool, isn_int_int, isn_int_str, isn_int_tuple, isn_int_list, isn_int_dict, isn_str_bool, isn_str_int, isn_str_str, isn_str_tuple, isn_str_list, isn_str_dict, isn_lst_bool, isn_lst_int, isn_lst_str, isn_lst_tuple, isn_lst_list, isn_lst_dict, isn_tup_bool, isn_tup_int, isn_tup_str, isn_tup_tuple, isn_tup_list, isn_tup_dict, isn_dct_bool, isn_dct_int, isn_dct_str, isn_dct_tuple, isn_dct_list, isn_dct_dict, okn_bool, okn_int, okn_str, okn_tuple, okn_list, okn_dict, cIsi, tyT_n, tyT_b, tyT_i, tyT_s, tyT_r, V.ty.injEq, tSl, tPart, tNoPart, rSlF, gName, tFld, sFld, tMeth, tMake, tGetT, tInT, tNinT, sPutT, sAugT, tPopT, rLtH, dtO_d, dtO_f, kysO_n, kysO_i, kysO_s, intsV_n, intsV_i, HO.ins.injEq, HO.dT.injEq, tDNewT, rIxLT, cLenLT, rSub, rAdd, sFldAug, Td.rIsG, Td.rCntT, Td.rIdxT, Td.rExt, Lm.tCallZ, Lm.tLam]
      · rintro σ H2 ⟨y, rfl, rfl⟩
        simp only [tVar, tC, tOp, rI, rI0, rU, tTest, tB, tAnd, tOr, tNot, tAndV, tOrV, tNotV, tIf, tNil, tCons, tTup, tLst, tCB, tSeq, tAsg, gName, tRet, tRetN, tIfS, tNext, tDrop, tCall, tUn, tPar, CMul, CDiv, V.int.injEq, V.bl.injEq, V.ref.injEq, V.str.injEq, Option.some.injEq, List.cons.injEq, and_true, true_and, and_false, false_and, or_false, false_or, or_true, true_or, exists_eq_left', exists_eq_left, exists_and_left, exists_and_right, exists_eq', exists_eq, exists_false, exists_const, List.getElem?_cons_succ, List.getElem?_cons_zero, List.set_cons_succ, List.set_cons_zero, List.length_cons, List.length_nil, List.cons_append, List.nil_append, List.append_nil, reduceCtorEq, Int.reduceLT, Int.reduceLE, Int.reduceNeg, Int.reducePow, Int.reduceSub, Int.reduceAdd, Nat.reduceAdd, Nat.reduceLeDiff, Bool.not_true, Bool.not_false, decide_true, decide_false, Bool.false_eq_true, ↓reduceIte, upd_same, not_true_eq_false, not_false_eq_true, lsO_l, lsO_f, tpO_t, tpO_f, dkO_d, dkO_f, keyO_i, keyO_s, rIxH, rIxU, cLenL, cLenT, cListL, cListT, cTupL, cIntB, cAll, rEqNilI, rEq, rNe, scal_ii, scal_ss, scal_bb, scal_nn, scal_ni, scal_in, scal_ns, scal_sn, gSub, rSetL, ixs0, ixs1, ixs2, seq0, at0, at1, at2, at3, tBM, tBM0, rAppend, rPopAt, tyV_list, tGet2, tGetI, sPut, tMG, rTIdx, tyTup, tTupF, cx_K, cx_w, ex_map_int, ex_nil_int, ex_cons_int, List.map_cons, List.map_nil, List.isEmpty_nil, List.isEmpty_cons, List.eraseIdx_zero, List.tail_cons, List.eraseIdx_cons_zero, HO.lst.injEq, HO.tup.injEq, HO.dK.injEq, HO.frz.injEq, ne_eq, gTupH, gCons, gNil, wipe, tYes, upd_upd, and_assoc, List.getElem?_map, Option.map_some, isn_non_bool, isn_non_int, isn_non_str, isn_non_tuple, isn_non_list, isn_non_dict, isn_bl_bool, isn_bl_int, isn_bl_str, isn_bl_tuple, isn_bl_list, isn_bl_dict, isn_int_bool, isn_int_int, isn_int_str, isn_int_tuple, isn_int_list, isn_int_dict, isn_str_bool, isn_str_int, isn_str_str, isn_str_tuple, isn_str_list, isn_str_dict, isn_lst_bool, isn_lst_int, isn_lst_str, isn_lst_tuple, isn_lst_list, isn_lst_dict, isn_tup_bool, isn_tup_int, isn_tup_str, isn_tup_tuple, isn_tup_list, isn_tup_dict, isn_dct_bool, isn_dct_int, isn_dct_str, isn_dct_tuple, isn_dct_list, isn_dct_dict, okn_bool, okn_int, okn_str, okn_tuple, okn_list, okn_dict, cIsi, tyT_n, tyT_b, tyT_i, tyT_s, tyT_r, V.ty.injEq, tSl, tPart, tNoPart, rSlF, gName, tFld, sFld, tMeth, tMake, tGetT, tInT, tNinT, sPutT, sAugT, tPopT, rLtH, dtO_d, dtO_f, kysO_n, kysO_i, kysO_s, intsV_n, intsV_i, HO.ins.injEq, HO.dT.injEq, tDNewT, rIxLT, cLenLT, rSub, rAdd, sFldAug, Td.rIsG, Td.rCntT, Td.rIdxT, Td.rExt, Lm.tCallZ, Lm.tLam]
        exact k
    | lst ds =>
      simp only [RX] at R1 R2
      obtain ⟨a, us, rfl, ha, R1⟩ := R1
      obtain ⟨b, vs, rfl, hb, R2⟩ := R2
      have l1 := R1.len
      have l2 := R2.len
      simp only [Dx.deep, Dx.fits] at hd hf
      simp only [tVar, tC, tOp, rI, rI0, rU, tTest, tB, tAnd, tOr, tNot, tAndV, tOrV, tNotV, tIf, tNil, tCons, tTup, tLst, tCB, tSeq, tAsg, gName, tRet, tRetN, tIfS, tNext, tDrop, tCall, tUn, tPar, CMul, CDiv, V.int.injEq, V.bl.injEq, V.ref.injEq, V.str.injEq, Option.some.injEq, List.cons.injEq, and_true, true_and, and_false, false_and, or_false, false_or, or_true, true_or, exists_eq_left', exists_eq_left, exists_and_left, exists_and_right, exists_eq', exists_eq, exists_false, exists_const, List.getElem?_cons_succ, List.getElem?_cons_zero, List.set_cons_succ, List.set_cons_zero, List.length_cons, List.length_nil, List.cons_append, List.nil_append, List.append_nil, reduceCtorEq, Int.reduceLT, Int.reduceLE, Int.reduceNeg, Int.reducePow, Int.reduceSub, Int.reduceAdd, Nat.reduceAdd, Nat.reduceLeDiff, Bool.not_true, Bool.not_false, decide_true, decide_false, Bool.false_eq_true, ↓reduceIte, upd_same, not_true_eq_false, not_false_eq_true, lsO_l, lsO_f, tpO_t, tpO_f, dkO_d, dkO_f, keyO_i, keyO_s, rIxH, rIxU, cLenL, cLenT, cListL, cListT, cTupL, cIntB, cAll, rEqNilI, rEq, rNe, scal_ii, scal_ss, scal_bb, scal_nn, scal_ni, scal_in, scal_ns, scal_sn, gSub, rSetL, ixs0, ixs1, ixs2, seq0, at0, at1, at2, at3, tBM, tBM0, rAppend, rPopAt, tyV_list, tGet2, tGetI, sPut, tMG, rTIdx, tyTup, tTupF, cx_K, cx_w, ex_map_int, ex_nil_int, ex_cons_int, List.map_cons, List.map_nil, List.isEmpty_nil, List.isEmpty_cons, List.eraseIdx_zero, List.tail_cons, List.eraseIdx_cons_zero, HO.lst.injEq, HO.tup.injEq, HO.dK.injEq, HO.frz.injEq, ne_eq, gTupH, gCons, gNil, wipe, tYes, upd_upd, and_assoc, List.getElem?_map, Option.map_some, isn_non_bool, isn_non_int, isn_non_str, isn_non_tuple, isn_non_list, isn_non_dict, isn_bl_bool, isn_bl_int, isn_bl_str, isn_bl_tuple, isn_bl_list, isn_bl_dict, isn_int_bool, isn_int_int, isn_int_str, isn_int_tuple, isn_int_list, isn_int_dict, isn_str_bool, isn_str_int, isn_str_str, isn_str_tuple, isn_str_list, isn_str_dict, isn_lst_bool, isn_lst_int, isn_lst_str, isn_lst_tuple, isn_lst_list, isn_lst_dict, isn_tup_bool, isn_tup_int, isn_tup_str, isn_tup_tuple, isn_tup_list, isn_tup_dict, isn_dct_bool, isn_dct_int, isn_dct_str, isn_dct_tuple, isn_dct_list, isn_dct_dict, okn_bool, okn_int, okn_str, okn_tuple, okn_list, okn_dict, cIsi, tyT_n, tyT_b, tyT_i, tyT_s, tyT_r, V.ty.injEq, tSl, tPart, tNoPart, rSlF, gName, tFld, sFld, tMeth, tMake, tGetT, tInT, tNinT, sPutT, sAugT, tPopT, rLtH, dtO_d, dtO_f, kysO_n, kysO_i, kysO_s, intsV_n, intsV_i, HO.ins.injEq, HO.dT.injEq, tDNewT, rIxLT, cLenLT, rSub, rAdd, sFldAug, Td.rIsG, Td.rCntT, Td.rIdxT, Td.rExt, Lm.tCallZ, Lm.tLam, ha, hb]
      refine ⟨us, .inl rfl, vs, .inl rfl, ?_⟩
      rw [if_neg (by simp [l1, l2])]
      simp only [tVar, tC, tOp, rI, rI0, rU, tTest, tB, tAnd, tOr, tNot, tAndV, tOrV, tNotV, tIf, tNil, tCons, tTup, tLst, tCB, tSeq, tAsg, gName, tRet, tRetN, tIfS, tNext, tDrop, tCall, tUn, tPar, CMul, CDiv, V.int.injEq, V.bl.injEq, V.ref.injEq, V.str.injEq, Option.some.injEq, List.cons.injEq, and_true, true_and, and_false, false_and, or_false, false_or, or_true, true_or, exists_eq_left', exists_eq_left, exists_and_left, exists_and_right, exists_eq', exists_eq, exists_false, exists_const, List.getElem?_cons_succ, List.getElem?_cons_zero, List.set_cons_succ, List.set_cons_zero, List.length_cons, List.length_nil, List.cons_append, List.nil_append, List.append_nil, reduceCtorEq, Int.reduceLT, Int.reduceLE, Int.reduceNeg, Int.reducePow, Int.reduceSub, Int.reduceAdd, Nat.reduceAdd, Nat.reduceLeDiff, Bool.not_true, Bool.not_false, decide_true, decide_false, Bool.false_eq_true, ↓reduceIte, upd_same, not_true_eq_false, not_false_eq_true, lsO_l, lsO_f, tpO_t, tpO_f, dkO_d, dkO_f, keyO_i, keyO_s, rIxH, rIxU, cLenL, cLenT, cListL, cListT, cTupL, cIntB, cAll, rEqNilI, rEq, rNe, scal_ii, scal_ss, scal_bb, scal_nn, scal_ni, scal_in, scal_ns, scal_sn, gSub, rSetL, ixs0, ixs1, ixs2, seq0, at0, at1, at2, at3, tBM, tBM0, rAppend, rPopAt, tyV_list, tGet2, tGetI, sPut, tMG, rTIdx, tyTup, tTupF, cx_K, cx_w, ex_map_int, ex_nil_int, ex_cons_int, List.map_cons, List.map_nil, List.isEmpty_nil, List.isEmpty_cons, List.eraseIdx_zero, List.tail_cons, List.eraseIdx_cons_zero, HO.lst.injEq, HO.tup.injEq, HO.dK.injEq, HO.frz.injEq, ne_eq, gTupH, gCons, gNil, wipe, tYes, upd_upd, and_assoc, List.getElem?_map, Option.map_some, isn_non_bool, isn_non_int, isn_non_str, isn_non_tuple, isn_non_list, isn_non_dict, isn_bl_bool, isn_bl_int, isn_bl_str, isn_bl_tuple, isn_bl_list, isn_bl_dict, isn_int_bool, isn_int_int, isn_int_str, isn_int_tuple, isn_int_list, isn_int_dict, isn_str_bool, isn_str_int, isn_str_str, isn_str_tuple, isn_str_list, isn_str_dict, isn_lst_bool, isn_lst_int, isn_lst_str, isn_lst_tuple, isn_lst_list, isn_lst_dict, isn_tup_bool, isn_tup_int, isn_tup_str, isn_tup_tuple, isn_tup_list, isn_tup_dict, isn_dct_bool, isn_dct_int, isn_dct_str, isn_dct_tuple, isn_dct_list, isn_dct_dict, okn_bool, okn_int, okn_str, okn_tuple, okn_list, okn_dict, cIsi, tyT_n, tyT_b, tyT_i, tyT_s, tyT_r, V.ty.injEq, tSl, tPart, tNoPart, rSlF, gName, tFld, sFld, tMeth, tMake, tGetT, tInT, tNinT, sPutT, sAugT, tPopT, rLtH, dtO_d, dtO_f, kysO_n, kysO_i, kysO_s, intsV_n, intsV_i, HO.ins.injEq, HO.dT.injEq, tDNewT, rIxLT, cLenLT, rSub, rAdd, sFldAug, Td.rIsG, Td.rCntT, Td.rIdxT, Td.rExt, Lm.tCallZ, Lm.tLam, tFor_eq, iRng1, hb]
      refine ⟨vs, .inl rfl, by omega, by omega, forB_it (for_it walk_range (fun i σ H2 => ∃ y : Option V, σ = [some (.ref a), some (.ref b), y] ∧ H2 = H) ⟨none, rfl, rfl⟩ (fun _ _ _ _ _ => trivial) ?_ ?_)⟩
      · rintro i x σ H2 H3 hi ⟨y, rfl, rfl⟩ ⟨rfl, rfl⟩
        have hil : i < ds.length := by omega
        obtain ⟨u, hu1, ru⟩ := R1.at (List.getElem?_eq_getElem hil)
        obtain ⟨v, hv1, rv⟩ := R2.at (List.getElem?_eq_getElem hil)
        have dd := Dx.deepL_at (List.getElem?_eq_getElem hil)
        have ff := Dx.fitsL_at hf.2 (List.getElem?_eq_getElem hil)
        have a1 : atI us (0 + (i : Int)) = some u := by rw [Int.zero_add]; exact atI_nat hu1
        have a2 : atI vs (0 + (i : Int)) = some v := by rw [Int.zero_add]; exact atI_nat hv1
        simp only [tVar, tC, tOp, rI, rI0, rU, tTest, tB, tAnd, tOr, tNot, tAndV, tOrV, tNotV, tIf, tNil, tCons, tTup, tLst, tCB, tSeq, tAsg, gName, tRet, tRetN, tIfS, tNext, tDrop, tCall, tUn, tPar, CMul, CDiv, V.int.injEq, V.bl.injEq, V.ref.injEq, V.str.injEq, Option.some.injEq, List.cons.injEq, and_true, true_and, and_false, false_and, or_false, false_or, or_true, true_or, exists_eq_left', exists_eq_left, exists_and_left, exists_and_right, exists_eq', exists_eq, exists_false, exists_const, List.getElem?_cons_succ, List.getElem?_cons_zero, List.set_cons_succ, List.set_cons_zero, List.length_cons, List.length_nil, List.cons_append, List.nil_append, List.append_nil, reduceCtorEq, Int.reduceLT, Int.reduceLE, Int.reduceNeg, Int.reducePow, Int.reduceSub, Int.reduceAdd, Nat.reduceAdd, Nat.reduceLeDiff, Bool.not_true, Bool.not_false, decide_true, decide_false, Bool.false_eq_true, ↓reduceIte, upd_same, not_true_eq_false, not_false_eq_true, lsO_l, lsO_f, tpO_t, tpO_f, dkO_d, dkO_f, keyO_i, keyO_s, rIxH, rIxU, cLenL, cLenT, cListL, cListT, cTupL, cIntB, cAll, rEqNilI, rEq, rNe, scal_ii, scal_ss, scal_bb, scal_nn, scal_ni, scal_in, scal_ns, scal_sn, gSub, rSetL, ixs0, ixs1, ixs2, seq0, at0, at1, at2, at3, tBM, tBM0, rAppend, rPopAt, tyV_list, tGet2, tGetI, sPut, tMG, rTIdx, tyTup, tTupF, cx_K, cx_w, ex_map_int, ex_nil_int, ex_cons_int, List.map_cons, List.map_nil, List.isEmpty_nil, List.isEmpty_cons, List.eraseIdx_zero, List.tail_cons, List.eraseIdx_cons_zero, HO.lst.injEq, HO.tup.injEq, HO.dK.injEq, HO.frz.injEq, ne_eq, gTupH, gCons, gNil, wipe, tYes, upd_upd, and_assoc, List.getElem?_map, Option.map_some, isn_non_bool, isn_non_int, isn_non_str, isn_non_tuple, isn_non_list, isn_non_dict, isn_bl_bool, isn_bl_int, isn_bl_str, isn_bl_tuple, isn_bl_list, isn_bl_dict, isn_int_bool, isn_int_int, isn_int_str, isn_int_tuple, isn_int_list, isn_int_dict, isn_str_bool, isn_str_int, isn_str_str, isn_str_tuple, isn_str_list, isn_str_dict, isn_lst_bool, isn_lst_int, isn_lst_str, isn_lst_tuple, isn_lst_list, isn_lst_dict, isn_tup_bool, isn_tup_int, isn_tup_str, isn_tup_tuple, isn_tup_list, isn_tup_dict, isn_dct_bool, isn_dct_int, isn_dct_str, isn_dct_tuple, isn_dct_list, isn_dct_dict, okn_bool, okn_int, okn_str, okn_tuple, okn_list, okn_dict, cIsi, tyT_n, tyT_b, tyT_i, tyT_s, tyT_r, V.ty.injEq, tSl, tPart, tNoPart, rSlF, gName, tFld, sFld, tMeth, tMake, tGetT, tInT, tNinT, sPutT, sAugT, tPopT, rLtH, dtO_d, dtO_f, kysO_n, kysO_i, kysO_s, intsV_n, intsV_i, HO.ins.injEq, HO.dT.injEq, tDNewT, rIxLT, cLenLT, rSub, rAdd, sFldAug, Td.rIsG, Td.rCntT, Td.rIdxT, Td.rExt, Lm.tCallZ, Lm.tLam, gName, ha, hb]
        refine ⟨us, .inl rfl, _, a1, vs, .inl rfl, _, a2, h0 u v _ _ _ (by omega) ru rv (by omega) ff ?_⟩
        simp only [tVar, tC, tOp, rI, rI0, rU, tTest, tB, tAnd, tOr, tNot, tAndV, tOrV, tNotV, tIf, tNil, tCons, tTup, tLst, tCB, tSeq, tAsg, gName, tRet, tRetN, tIfS, tNext, tDrop, tCall, tUn, tPar, CMul, CDiv, V.int.injEq, V.bl.injEq, V.ref.injEq, V.str.injEq, Option.some.injEq, List.cons.injEq, and_true, true_and, and_false, false_and, or_false, false_or, or_true, true_or, exists_eq_left', exists_eq_left, exists_and_left, exists_and_right, exists_eq', exists_eq, exists_false, exists_const, List.getElem?_cons_succ, List.getElem?_cons_zero, List.set_cons_succ, List.set_cons_zero, List.length_cons, List.length_nil, List.cons_append, List.nil_append, List.append_nil, reduceCtorEq, Int.reduceLT, Int.reduceLE, Int.reduceNeg, Int.reducePow, Int.reduceSub, Int.reduceAdd, Nat.reduceAdd, Nat.reduceLeDiff, Bool.not_true, Bool.not_false, decide_true, decide_false, Bool.false_eq_true, ↓reduceIte, upd_same, not_true_eq_false, not_false_eq_true, lsO_l, lsO_f, tpO_t, tpO_f, dkO_d, dkO_f, keyO_i, keyO_s, rIxH, rIxU, cLenL, cLenT, cListL, cListT, cTupL, cIntB, cAll, rEqNilI, rEq, rNe, scal_ii, scal_ss, scal_bb, scal_nn, scal_ni, scal_in, scal_ns, scal_sn, gSub, rSetL, ixs0, ixs1, ixs2, seq0, at0, at1, at2, at3, tBM, tBM0, rAppend, rPopAt, tyV_list, tGet2, tGetI, sPut, tMG, rTIdx, tyTup, tTupF, cx_K, cx_w, ex_map_int, ex_nil_int, ex_cons_int, List.map_cons, List.map_nil, List.isEmpty_nil, List.isEmpty_cons, List.eraseIdx_zero, List.tail_cons, List.eraseIdx_cons_zero, HO.lst.injEq, HO.tup.injEq, HO.dK.injEq, HO.frz.injEq, ne_eq, gTupH, gCons, gNil, wipe, tYes, upd_upd, and_assoc, List.getElem?_map, Option.map_some, isn_non_bool, isn_non_int, isn_non_str, isn_non_tuple, isn_non_list, isn_non_dict, isn_bl_bool, isn_bl_int, isn_bl_str, isn_bl_tuple, isn_bl_list, isn_bl_dict, isn_int_bool, isn_int_int, isn_int_str, isn_int_tuple, isn_int_list, isn_int_dict, isn_str_bool, isn_str_int, isn_str_str, isn_str_tuple, isn_str_list, isn_str_dict, isn_lst_bool, isn_lst_int, isn_lst_str, isn_lst_tuple, isn_lst_list, isn_lst_dict, isn_tup_bool, isn_tup_int, isn_tup_str, isn_tup_tuple, isn_tup_list, isn_tup_dict, isn_dct_bool, isn_dct_int, isn_dct_str, isn_dct_tuple, isn_dct_list, isn_dct_dict, okn_bool, okn_int, okn_str, okn_tuple, okn_list, okn_dict, cIsi, tyT_n, tyT_b, tyT_i, tyT_s, tyT_r, V.ty.injEq, tSl, tPart, tNoPart, rSlF, gName, tFld, sFld, tMeth, tMake, tGetT, tInT, tNinT, sPutT, sAugT, tPopT, rLtH, dtO_d, dtO_f, kysO_n, kysO_i, kysO_s, intsV_n, intsV_i, HO.ins.injEq, HO.dT.injEq, tDNewT, rIxLT, cLenLT, rSub, rAdd, sFldAug, Td.rIsG, Td.rCntT, Td.rIdxT, Td.rExt, Lm.tCallZ, Lm.tLam]
      · rintro σ H2 ⟨y, rfl, rfl⟩
        simp only [tVar, tC, tOp, rI, rI0, rU, tTest, tB, tAnd, tOr, tNot, tAndV, tOrV, tNotV, tIf, tNil, tCons, tTup, tLst, tCB, tSeq, tAsg, gName, tRet, tRetN, tIfS, tNext, tDrop, tCall, tUn, tPar, CMul, CDiv, V.int.injEq, V.bl.injEq, V.ref.injEq, V.str.injEq, Option.some.injEq, List.cons.injEq, and_true, true_and, and_false, false_and, or_false, false_or, or_true, true_or, exists_eq_left', exists_eq_left, exists_and_left, exists_and_right, exists_eq', exists_eq, exists_false, exists_const, List.getElem?_cons_succ, List.getElem?_cons_zero, List.set_cons_succ, List.set_cons_zero, List.length_cons, List.length_nil, List.cons_append, List.nil_append, List.append_nil, reduceCtorEq, Int.reduceLT, Int.reduceLE, Int.reduceNeg, Int.reducePow, Int.reduceSub, Int.reduceAdd, Nat.reduceAdd, Nat.reduceLeDiff, Bool.not_true, Bool.not_false, decide_true, decide_false, Bool.false_eq_true, ↓reduceIte, upd_same, not_true_eq_false, not_false_eq_true, lsO_l, lsO_f, tpO_t, tpO_f, dkO_d, dkO_f, keyO_i, keyO_s, rIxH, rIxU, cLenL, cLenT, cListL, cListT, cTupL, cIntB, cAll, rEqNilI, rEq, rNe, scal_ii, scal_ss, scal_bb, scal_nn, scal_ni, scal_in, scal_ns, scal_sn, gSub, rSetL, ixs0, ixs1, ixs2, seq0, at0, at1, at2, at3, tBM, tBM0, rAppend, rPopAt, tyV_list, tGet2, tGetI, sPut, tMG, rTIdx, tyTup, tTupF, cx_K, cx_w, ex_map_int, ex_nil_int, ex_cons_int, List.map_cons, List.map_nil, List.isEmpty_nil, List.isEmpty_cons, List.eraseIdx_zero, List.tail_cons, List.eraseIdx_cons_zero, HO.lst.injEq, HO.tup.injEq, HO.dK.injEq, HO.frz.injEq, ne_eq, gTupH, gCons, gNil, wipe, tYes, upd_upd, and_assoc, List.getElem?_map, Option.map_some, isn_non_bool, isn_non_int, isn_non_str, isn_non_tuple, isn_non_list, isn_non_dict, isn_bl_bool, isn_bl_int, isn_bl_str, isn_bl_tuple, isn_bl_list, isn_bl_dict, isn_int_bool, isn_int_int, isn_int_str, isn_int_tuple, isn_int_list, isn_int_dict, isn_str_bool, isn_str_int, isn_str_str, isn_str_tuple, isn_str_list, isn_str_dict, isn_lst_bool, isn_lst_int, isn_lst_str, isn_lst_tuple, isn_lst_list, isn_lst_dict, isn_tup_bool, isn_tup_int, isn_tup_str, isn_tup_tuple, isn_tup_list, isn_tup_dict, isn_dct_bool, isn_dct_int, isn_dct_str, isn_dct_tuple, isn_dct_list, isn_dct_dict, okn_bool, okn_int, okn_str, okn_tuple, okn_list, okn_dict, cIsi, tyT_n, tyT_b, tyT_i, tyT_s, tyT_r, V.ty.injEq, tSl, tPart, tNoPart, rSlF, gName, tFld, sFld, tMeth, tMake, tGetT, tInT, tNinT, sPutT, sAugT, tPopT, rLtH, dtO_d, dtO_f, kysO_n, kysO_i, kysO_s, intsV_n, intsV_i, HO.ins.injEq, HO.dT.injEq, tDNewT, rIxLT, cLenLT, rSub, rAdd, sFldAug, Td.rIsG, Td.rCntT, Td.rIdxT, Td.rExt, Lm.tCallZ, Lm.tLam]
        exact k
theorem ok_l_alike (T : Txt K mg) : ∀ d, FnOk P w K mg base CX0 (d + 2) T.f_l_alike T.fd_l_alike ["_law_found", "_law_due"] (spAlikeD d)
  | 0 => alike_step T 0 (fun _ _ _ _ => False) (T.F_l_alike.ok sc_l_alike (fun vs H Q E h => h.elim) (fun cdv A outer s H vs Q E hr h => h.elim)) fun u v t H Q h => absurd h (by omega)
  | d + 1 => alike_step T (d + 1) (spAlikeD d) (ok_l_alike T d) fun u v t H Q _ R1 R2 hd hf k => ⟨u, v, t, rfl, R1, R2, by omega, hf, k⟩
end

/-! told, all -/
section
variable {P : Program} {w : World} {K : PySem.W.Frag} {mg : Str → Option Value} {base : Heap}
abbrev errCs (T : Txt K mg) : List Addr := [T.C_BadName, T.C_BadNumber, T.C_BadPlan, T.C_BadRow, T.C_BadText, T.C_Gone, T.C_TooGreat, T.C_Twice, T.C_Within]
theorem ok_l_told (T : Txt K mg) : FnOk P w K mg base CX0 6 T.f_l_told T.fd_l_told ["_law_work"] (Td.spTold P w K mg T.C_StoreError (errCs T) 5 base) := by
  refine T.F_l_told.ok sc_l_told (fun vs H Q E h => ?_) (fun cdv A outer s H vs Q E hr h => ?_)
  · obtain ⟨f, R, rfl, _⟩ := h
    rfl
  · obtain ⟨f, R, rfl, hA, hR⟩ := h
    refine ⟨_, (pss_one (ps_try_as (i := 1) rfl rfl sc_l_told.nd rfl rfl ⟨rfl, rfl, .inl T.mg_StoreError⟩ L2.takes0 (fun W pn xe tk _ => (Lm.pss_retA (i := 0) hA tk (hr.mono (by decide)) rfl (Or.inl rfl))) (fun a oe cls d pn hz hf => (pss_cons (ps_set (i := 2) sc_l_told.nd rfl (Or.inl rfl) (pe_lst (pa_cons (pe_callB (Td.call_isG hz hf) (by rfl) T.n_isinstance (by decide +kernel) (pa_cons (pv 1) (pa_cons (pe_glob rfl T.mg_BadName (v := .ref T.C_BadName) rfl) pa_nil))) (pa_cons (pe_callB (Td.call_isG hz hf) (by rfl) T.n_isinstance (by decide +kernel) (pa_cons (pv 1) (pa_cons (pe_glob rfl T.mg_BadNumber (v := .ref T.C_BadNumber) rfl) pa_nil))) (pa_cons (pe_callB (Td.call_isG hz hf) (by rfl) T.n_isinstance (by decide +kernel) (pa_cons (pv 1) (pa_cons (pe_glob rfl T.mg_BadPlan (v := .ref T.C_BadPlan) rfl) pa_nil))) (pa_cons (pe_callB (Td.call_isG hz hf) (by rfl) T.n_isinstance (by decide +kernel) (pa_cons (pv 1) (pa_cons (pe_glob rfl T.mg_BadRow (v := .ref T.C_BadRow) rfl) pa_nil))) pa_nil))))))
        (pss_cons (ps_set (i := 2) sc_l_told.nd rfl (Or.inl rfl) (pe_op op_cat (pv 2) (pe_lst (pa_cons (pe_callB (Td.call_isG hz hf) (by rfl) T.n_isinstance (by decide +kernel) (pa_cons (pv 1) (pa_cons (pe_glob rfl T.mg_BadText (v := .ref T.C_BadText) rfl) pa_nil))) (pa_cons (pe_callB (Td.call_isG hz hf) (by rfl) T.n_isinstance (by decide +kernel) (pa_cons (pv 1) (pa_cons (pe_glob rfl T.mg_Gone (v := .ref T.C_Gone) rfl) pa_nil))) (pa_cons (pe_callB (Td.call_isG hz hf) (by rfl) T.n_isinstance (by decide +kernel) (pa_cons (pv 1) (pa_cons (pe_glob rfl T.mg_TooGreat (v := .ref T.C_TooGreat) rfl) pa_nil))) (pa_cons (pe_callB (Td.call_isG hz hf) (by rfl) T.n_isinstance (by decide +kernel) (pa_cons (pv 1) (pa_cons (pe_glob rfl T.mg_Twice (v := .ref T.C_Twice) rfl) pa_nil))) pa_nil)))))))
        (pss_cons (ps_expr (Td.pe_bmS K rfl PySem.F.plainAttrs_list PySem.F.slot_list_append PySem.F.type_list_append mt_append (pv 2) (pa_cons (pe_callB (Td.call_isG hz hf) (by rfl) T.n_isinstance (by decide +kernel) (pa_cons (pv 1) (pa_cons (pe_glob rfl T.mg_Within (v := .ref T.C_Within) rfl) pa_nil))) pa_nil)))
        (pss_cons (ps_if (PW.pt (pw_or (pt_cmpR op_ne (Td.pe_bmS K rfl PySem.F.plainAttrs_list PySem.F.slot_list_count PySem.F.type_list_count Td.mt_countT (pv 2) (pa_cons pe_bl pa_nil)) pe_int (nomark _)) (pw_or1 (pt_not (pt_val (pe_callB (Td.call_isG hz hf) (by rfl) T.n_isinstance (by decide +kernel) (pa_cons (pv 1) (pa_cons (pe_bltn (by rfl) T.n_ValueError (by decide +kernel) (v := .ty "ValueError") rfl) pa_nil)))))))) (pss_one (ps_ret (pe_tup (pa_cons pe_str (pa_cons pe_int pa_nil))))) pss_nil)
        (pss_cons (ps_set (i := 3) sc_l_told.nd rfl (Or.inl rfl) (pe_lst (pa_cons pe_str (pa_cons pe_str (pa_cons pe_str (pa_cons pe_str (pa_cons pe_str (pa_cons pe_str (pa_cons pe_str (pa_cons pe_str (pa_cons pe_str pa_nil)))))))))))
        (pss_one (ps_ret (pe_tup (pa_cons (pe_ix ix_lst (pv 3) (Td.pe_bmS K rfl PySem.F.plainAttrs_list PySem.F.slot_list_index PySem.F.type_list_index Td.mt_indexT (pv 2) (pa_cons pe_bl pa_nil)) (fun _ _ => rfl)) (pa_cons pe_int pa_nil))))))))))))), ?_⟩
    rw [show L2.start N_l_told [V.ref f] = [some (V.ref f), none, none, none] from rfl]
    refine ⟨rfl, Lm.KeepF.refl H, hR _ fun D i nm H' kd hi k => ⟨true, kd.st, fun _ x hx => ?_, fun z => by cases z⟩⟩
    simp only [tVar, tC, tOp, rI, rI0, rU, tTest, tB, tAnd, tOr, tNot, tAndV, tOrV, tNotV, tIf, tNil, tCons, tTup, tLst, tCB, tSeq, tAsg, gName, tRet, tRetN, tIfS, tNext, tDrop, tCall, tUn, tPar, CMul, CDiv, V.int.injEq, V.bl.injEq, V.ref.injEq, V.str.injEq, Option.some.injEq, List.cons.injEq, and_true, true_and, and_false, false_and, or_false, false_or, or_true, true_or, exists_eq_left', exists_eq_left, exists_and_left, exists_and_right, exists_eq', exists_eq, exists_false, exists_const, List.getElem?_cons_succ, List.getElem?_cons_zero, List.set_cons_succ, List.set_cons_zero, List.length_cons, List.length_nil, List.cons_append, List.nil_append, List.append_nil, reduceCtorEq, Int.reduceLT, Int.reduceLE, Int.reduceNeg, Int.reducePow, Int.reduceSub, Int.reduceAdd, Nat.reduceAdd, Nat.reduceLeDiff, Bool.not_true, Bool.not_false, decide_true, decide_false, Bool.false_eq_true, ↓reduceIte, upd_same, not_true_eq_false, not_false_eq_true, lsO_l, lsO_f, tpO_t, tpO_f, dkO_d, dkO_f, keyO_i, keyO_s, rIxH, rIxU, cLenL, cLenT, cListL, cListT, cTupL, cIntB, cAll, rEqNilI, rEq, rNe, scal_ii, scal_ss, scal_bb, scal_nn, scal_ni, scal_in, scal_ns, scal_sn, gSub, rSetL, ixs0, ixs1, ixs2, seq0, at0, at1, at2, at3, tBM, tBM0, rAppend, rPopAt, tyV_list, tGet2, tGetI, sPut, tMG, rTIdx, tyTup, tTupF, cx_K, cx_w, ex_map_int, ex_nil_int, ex_cons_int, List.map_cons, List.map_nil, List.isEmpty_nil, List.isEmpty_cons, List.eraseIdx_zero, List.tail_cons, List.eraseIdx_cons_zero, HO.lst.injEq, HO.tup.injEq, HO.dK.injEq, HO.frz.injEq, ne_eq, gTupH, gCons, gNil, wipe, tYes, upd_upd, and_assoc, List.getElem?_map, Option.map_some, isn_non_bool, isn_non_int, isn_non_str, isn_non_tuple, isn_non_list, isn_non_dict, isn_bl_bool, isn_bl_int, isn_bl_str, isn_bl_tuple, isn_bl_list, isn_bl_dict, isn_int_bool, isn_int_int, isn_int_str, isn_int_tuple, isn_int_list, isn_int_dict, isn_str_bool, isn_str_int, isn_str_str, isn_str_tuple, isn_str_list, isn_str_dict, isn_lst_bool, isn_lst_int, isn_lst_str, isn_lst_tuple, isn_lst_list, isn_lst_dict, isn_tup_bool, isn_tup_int, isn_tup_str, isn_tup_tuple, isn_tup_list, isn_tup_dict, isn_dct_bool, isn_dct_int, isn_dct_str, isn_dct_tuple, isn_dct_list, isn_dct_dict, okn_bool, okn_int, okn_str, okn_tuple, okn_list, okn_dict, cIsi, tyT_n, tyT_b, tyT_i, tyT_s, tyT_r, V.ty.injEq, tSl, tPart, tNoPart, rSlF, gName, tFld, sFld, tMeth, tMake, tGetT, tInT, tNinT, sPutT, sAugT, tPopT, rLtH, dtO_d, dtO_f, kysO_n, kysO_i, kysO_s, intsV_n, intsV_i, HO.ins.injEq, HO.dT.injEq, tDNewT, rIxLT, cLenLT, rSub, rAdd, sFldAug, Td.rIsG, Td.rCntT, Td.rIdxT, Td.rExt, Lm.tCallZ, Lm.tLam]
    refine ⟨D, rfl, kd.is, _, Td.isb_ref (kd.at_ 0 _ rfl), D, rfl, kd.is, _, Td.isb_ref (kd.at_ 1 _ rfl), D, rfl, kd.is, _, Td.isb_ref (kd.at_ 2 _ rfl), D, rfl, kd.is, _, Td.isb_ref (kd.at_ 3 _ rfl), szl (by decide), fun p1 hp1 => ?_⟩
    refine ⟨D, rfl, kd.is, _, Td.isb_ref (kd.at_ 4 _ rfl), D, rfl, kd.is, _, Td.isb_ref (kd.at_ 5 _ rfl), D, rfl, kd.is, _, Td.isb_ref (kd.at_ 6 _ rfl), D, rfl, kd.is, _, Td.isb_ref (kd.at_ 7 _ rfl), szl (by decide), fun p2 hp2 => ?_⟩
    have n12 : p1 ≠ p2 := fun z => by rw [z, upd_same] at hp2; cases hp2

    have e1 : upd (upd H' p1 (HO.lst [V.bl (decide (0 = i)), V.bl (decide (1 = i)), V.bl (decide (2 = i)), V.bl (decide (3 = i))])) p2 (HO.lst [V.bl (decide (4 = i)), V.bl (decide (5 = i)), V.bl (decide (6 = i)), V.bl (decide (7 = i))]) p1 = some (.lst [V.bl (decide (0 = i)), V.bl (decide (1 = i)), V.bl (decide (2 = i)), V.bl (decide (3 = i))]) := by rw [upd_ne n12, upd_same]
    refine ⟨p1, p2, _, _, rfl, rfl, e1, upd_same, szl (show 8 ≤ 100000 by decide), fun p3 hp3 => ?_⟩
    have hp10 : H' p1 = none := hp1
    have n13 : p1 ≠ p3 := fun z => by rw [z, upd_ne (by rw [← z]; exact n12), upd_same] at hp3; cases hp3
    have n23 : p2 ≠ p3 := fun z => by rw [z, upd_same] at hp3; cases hp3
    have hp30 : H' p3 = none := by rw [upd_ne n23.symm, upd_ne n13.symm] at hp3; exact hp3
    have hp20 : H' p2 = none := by rw [upd_ne n12.symm] at hp2; exact hp2
    have s3 : Same H' (upd (upd (upd H' p1 (HO.lst [V.bl (decide (0 = i)), V.bl (decide (1 = i)), V.bl (decide (2 = i)), V.bl (decide (3 = i))])) p2 (HO.lst [V.bl (decide (4 = i)), V.bl (decide (5 = i)), V.bl (decide (6 = i)), V.bl (decide (7 = i))])) p3 (.lst ([V.bl (decide (0 = i)), V.bl (decide (1 = i)), V.bl (decide (2 = i)), V.bl (decide (3 = i))] ++ [V.bl (decide (4 = i)), V.bl (decide (5 = i)), V.bl (decide (6 = i)), V.bl (decide (7 = i))]))) :=
      Same.updFree (Same.updFree (same_new hp1) hp20) hp30
    have e3 : upd (upd (upd H' p1 (HO.lst [V.bl (decide (0 = i)), V.bl (decide (1 = i)), V.bl (decide (2 = i)), V.bl (decide (3 = i))])) p2 (HO.lst [V.bl (decide (4 = i)), V.bl (decide (5 = i)), V.bl (decide (6 = i)), V.bl (decide (7 = i))])) p3 (.lst ([V.bl (decide (0 = i)), V.bl (decide (1 = i)), V.bl (decide (2 = i)), V.bl (decide (3 = i))] ++ [V.bl (decide (4 = i)), V.bl (decide (5 = i)), V.bl (decide (6 = i)), V.bl (decide (7 = i))])) p3 = some (.lst ([V.bl (decide (0 = i)), V.bl (decide (1 = i)), V.bl (decide (2 = i)), V.bl (decide (3 = i))] ++ [V.bl (decide (4 = i)), V.bl (decide (5 = i)), V.bl (decide (6 = i)), V.bl (decide (7 = i))])) := upd_same
    have g1 : H' p1 = none := hp1
    generalize upd (upd (upd H' p1 (HO.lst [V.bl (decide (0 = i)), V.bl (decide (1 = i)), V.bl (decide (2 = i)), V.bl (decide (3 = i))])) p2 (HO.lst [V.bl (decide (4 = i)), V.bl (decide (5 = i)), V.bl (decide (6 = i)), V.bl (decide (7 = i))])) p3 (.lst ([V.bl (decide (0 = i)), V.bl (decide (1 = i)), V.bl (decide (2 = i)), V.bl (decide (3 = i))] ++ [V.bl (decide (4 = i)), V.bl (decide (5 = i)), V.bl (decide (6 = i)), V.bl (decide (7 = i))])) = H3 at s3 e3 ⊢
    have hi9 : i < 9 := (List.getElem?_eq_some_iff.mp hi).1
    simp only [tVar, tC, tOp, rI, rI0, rU, tTest, tB, tAnd, tOr, tNot, tAndV, tOrV, tNotV, tIf, tNil, tCons, tTup, tLst, tCB, tSeq, tAsg, gName, tRet, tRetN, tIfS, tNext, tDrop, tCall, tUn, tPar, CMul, CDiv, V.int.injEq, V.bl.injEq, V.ref.injEq, V.str.injEq, Option.some.injEq, List.cons.injEq, and_true, true_and, and_false, false_and, or_false, false_or, or_true, true_or, exists_eq_left', exists_eq_left, exists_and_left, exists_and_right, exists_eq', exists_eq, exists_false, exists_const, List.getElem?_cons_succ, List.getElem?_cons_zero, List.set_cons_succ, List.set_cons_zero, List.length_cons, List.length_nil, List.cons_append, List.nil_append, List.append_nil, reduceCtorEq, Int.reduceLT, Int.reduceLE, Int.reduceNeg, Int.reducePow, Int.reduceSub, Int.reduceAdd, Nat.reduceAdd, Nat.reduceLeDiff, Bool.not_true, Bool.not_false, decide_true, decide_false, Bool.false_eq_true, ↓reduceIte, upd_same, not_true_eq_false, not_false_eq_true, lsO_l, lsO_f, tpO_t, tpO_f, dkO_d, dkO_f, keyO_i, keyO_s, rIxH, rIxU, cLenL, cLenT, cListL, cListT, cTupL, cIntB, cAll, rEqNilI, rEq, rNe, scal_ii, scal_ss, scal_bb, scal_nn, scal_ni, scal_in, scal_ns, scal_sn, gSub, rSetL, ixs0, ixs1, ixs2, seq0, at0, at1, at2, at3, tBM, tBM0, rAppend, rPopAt, tyV_list, tGet2, tGetI, sPut, tMG, rTIdx, tyTup, tTupF, cx_K, cx_w, ex_map_int, ex_nil_int, ex_cons_int, List.map_cons, List.map_nil, List.isEmpty_nil, List.isEmpty_cons, List.eraseIdx_zero, List.tail_cons, List.eraseIdx_cons_zero, HO.lst.injEq, HO.tup.injEq, HO.dK.injEq, HO.frz.injEq, ne_eq, gTupH, gCons, gNil, wipe, tYes, upd_upd, and_assoc, List.getElem?_map, Option.map_some, isn_non_bool, isn_non_int, isn_non_str, isn_non_tuple, isn_non_list, isn_non_dict, isn_bl_bool, isn_bl_int, isn_bl_str, isn_bl_tuple, isn_bl_list, isn_bl_dict, isn_int_bool, isn_int_int, isn_int_str, isn_int_tuple, isn_int_list, isn_int_dict, isn_str_bool, isn_str_int, isn_str_str, isn_str_tuple, isn_str_list, isn_str_dict, isn_lst_bool, isn_lst_int, isn_lst_str, isn_lst_tuple, isn_lst_list, isn_lst_dict, isn_tup_bool, isn_tup_int, isn_tup_str, isn_tup_tuple, isn_tup_list, isn_tup_dict, isn_dct_bool, isn_dct_int, isn_dct_str, isn_dct_tuple, isn_dct_list, isn_dct_dict, okn_bool, okn_int, okn_str, okn_tuple, okn_list, okn_dict, cIsi, tyT_n, tyT_b, tyT_i, tyT_s, tyT_r, V.ty.injEq, tSl, tPart, tNoPart, rSlF, gName, tFld, sFld, tMeth, tMake, tGetT, tInT, tNinT, sPutT, sAugT, tPopT, rLtH, dtO_d, dtO_f, kysO_n, kysO_i, kysO_s, intsV_n, intsV_i, HO.ins.injEq, HO.dT.injEq, tDNewT, rIxLT, cLenLT, rSub, rAdd, sFldAug, Td.rIsG, Td.rCntT, Td.rIdxT, Td.rExt, Lm.tCallZ, Lm.tLam, e3]
    refine ⟨D, rfl, kd.is, _, Td.isb_ref (kd.at_ 8 _ rfl), szl' (by decide), ?_⟩
    refine ⟨[decide (0 = i), decide (1 = i), decide (2 = i), decide (3 = i), decide (4 = i), decide (5 = i), decide (6 = i), decide (7 = i), decide (8 = i)], rfl, ?_⟩
    have hc : List.count true [decide (0 = i), decide (1 = i), decide (2 = i), decide (3 = i), decide (4 = i), decide (5 = i), decide (6 = i), decide (7 = i), decide (8 = i)] = 1 := by
      rcases (by omega : i = 0 ∨ i = 1 ∨ i = 2 ∨ i = 3 ∨ i = 4 ∨ i = 5 ∨ i = 6 ∨ i = 7 ∨ i = 8) with z | z | z | z | z | z | z | z | z <;> subst z <;> rfl
    rw [hc]
    rw [if_neg (by simp)]
    refine ⟨D, rfl, kd.is, true, Td.isb_ty kd.ve, ?_⟩
    rw [if_neg (by simp)]
    refine ⟨szl (by decide), fun p4 hp4 => ?_⟩
    have s4 : Same H' (upd H3 p3 (HO.lst [V.bl (decide (0 = i)), V.bl (decide (1 = i)), V.bl (decide (2 = i)), V.bl (decide (3 = i)), V.bl (decide (4 = i)), V.bl (decide (5 = i)), V.bl (decide (6 = i)), V.bl (decide (7 = i)), V.bl (decide (8 = i))])) := Same.updFree s3 hp30
    have e4 : upd H3 p3 (HO.lst [V.bl (decide (0 = i)), V.bl (decide (1 = i)), V.bl (decide (2 = i)), V.bl (decide (3 = i)), V.bl (decide (4 = i)), V.bl (decide (5 = i)), V.bl (decide (6 = i)), V.bl (decide (7 = i)), V.bl (decide (8 = i))]) p3 = some (HO.lst [V.bl (decide (0 = i)), V.bl (decide (1 = i)), V.bl (decide (2 = i)), V.bl (decide (3 = i)), V.bl (decide (4 = i)), V.bl (decide (5 = i)), V.bl (decide (6 = i)), V.bl (decide (7 = i)), V.bl (decide (8 = i))]) := upd_same
    generalize upd H3 p3 (HO.lst [V.bl (decide (0 = i)), V.bl (decide (1 = i)), V.bl (decide (2 = i)), V.bl (decide (3 = i)), V.bl (decide (4 = i)), V.bl (decide (5 = i)), V.bl (decide (6 = i)), V.bl (decide (7 = i)), V.bl (decide (8 = i))]) = H4 at s4 e4 hp4 ⊢
    have n34 : p3 ≠ p4 := ne_of_none e4 hp4
    simp only [tVar, tC, tOp, rI, rI0, rU, tTest, tB, tAnd, tOr, tNot, tAndV, tOrV, tNotV, tIf, tNil, tCons, tTup, tLst, tCB, tSeq, tAsg, gName, tRet, tRetN, tIfS, tNext, tDrop, tCall, tUn, tPar, CMul, CDiv, V.int.injEq, V.bl.injEq, V.ref.injEq, V.str.injEq, Option.some.injEq, List.cons.injEq, and_true, true_and, and_false, false_and, or_false, false_or, or_true, true_or, exists_eq_left', exists_eq_left, exists_and_left, exists_and_right, exists_eq', exists_eq, exists_false, exists_const, List.getElem?_cons_succ, List.getElem?_cons_zero, List.set_cons_succ, List.set_cons_zero, List.length_cons, List.length_nil, List.cons_append, List.nil_append, List.append_nil, reduceCtorEq, Int.reduceLT, Int.reduceLE, Int.reduceNeg, Int.reducePow, Int.reduceSub, Int.reduceAdd, Nat.reduceAdd, Nat.reduceLeDiff, Bool.not_true, Bool.not_false, decide_true, decide_false, Bool.false_eq_true, ↓reduceIte, upd_same, not_true_eq_false, not_false_eq_true, lsO_l, lsO_f, tpO_t, tpO_f, dkO_d, dkO_f, keyO_i, keyO_s, rIxH, rIxU, cLenL, cLenT, cListL, cListT, cTupL, cIntB, cAll, rEqNilI, rEq, rNe, scal_ii, scal_ss, scal_bb, scal_nn, scal_ni, scal_in, scal_ns, scal_sn, gSub, rSetL, ixs0, ixs1, ixs2, seq0, at0, at1, at2, at3, tBM, tBM0, rAppend, rPopAt, tyV_list, tGet2, tGetI, sPut, tMG, rTIdx, tyTup, tTupF, cx_K, cx_w, ex_map_int, ex_nil_int, ex_cons_int, List.map_cons, List.map_nil, List.isEmpty_nil, List.isEmpty_cons, List.eraseIdx_zero, List.tail_cons, List.eraseIdx_cons_zero, HO.lst.injEq, HO.tup.injEq, HO.dK.injEq, HO.frz.injEq, ne_eq, gTupH, gCons, gNil, wipe, tYes, upd_upd, and_assoc, List.getElem?_map, Option.map_some, isn_non_bool, isn_non_int, isn_non_str, isn_non_tuple, isn_non_list, isn_non_dict, isn_bl_bool, isn_bl_int, isn_bl_str, isn_bl_tuple, isn_bl_list, isn_bl_dict, isn_int_bool, isn_int_int, isn_int_str, isn_int_tuple, isn_int_list, isn_int_dict, isn_str_bool, isn_str_int, isn_str_str, isn_str_tuple, isn_str_list, isn_str_dict, isn_lst_bool, isn_lst_int, isn_lst_str, isn_lst_tuple, isn_lst_list, isn_lst_dict, isn_tup_bool, isn_tup_int, isn_tup_str, isn_tup_tuple, isn_tup_list, isn_tup_dict, isn_dct_bool, isn_dct_int, isn_dct_str, isn_dct_tuple, isn_dct_list, isn_dct_dict, okn_bool, okn_int, okn_str, okn_tuple, okn_list, okn_dict, cIsi, tyT_n, tyT_b, tyT_i, tyT_s, tyT_r, V.ty.injEq, tSl, tPart, tNoPart, rSlF, gName, tFld, sFld, tMeth, tMake, tGetT, tInT, tNinT, sPutT, sAugT, tPopT, rLtH, dtO_d, dtO_f, kysO_n, kysO_i, kysO_s, intsV_n, intsV_i, HO.ins.injEq, HO.dT.injEq, tDNewT, rIxLT, cLenLT, rSub, rAdd, sFldAug, Td.rIsG, Td.rCntT, Td.rIdxT, Td.rExt, Lm.tCallZ, Lm.tLam, upd_ne n34, e4]
    refine ⟨[decide (0 = i), decide (1 = i), decide (2 = i), decide (3 = i), decide (4 = i), decide (5 = i), decide (6 = i), decide (7 = i), decide (8 = i)], rfl, i, ?_, fun m hm => ?_, V.str nm, ?_, szl (by decide), fun p5 hp5 => ?_⟩
    · rcases (by omega : i = 0 ∨ i = 1 ∨ i = 2 ∨ i = 3 ∨ i = 4 ∨ i = 5 ∨ i = 6 ∨ i = 7 ∨ i = 8) with z | z | z | z | z | z | z | z | z <;> subst z <;> rfl
    · have e : ([decide (0 = i), decide (1 = i), decide (2 = i), decide (3 = i), decide (4 = i), decide (5 = i), decide (6 = i), decide (7 = i), decide (8 = i)] : List Bool)[m]? = some (decide (m = i)) := by
        rcases (by omega : m = 0 ∨ m = 1 ∨ m = 2 ∨ m = 3 ∨ m = 4 ∨ m = 5 ∨ m = 6 ∨ m = 7) with z | z | z | z | z | z | z | z <;> subst z <;> rfl
      rw [e, decide_eq_false (by omega)]
    · have hw : (Td.kindW.map V.str)[i]? = some (V.str nm) := by rw [List.getElem?_map, hi]; rfl
      have hx : atI (Td.kindW.map V.str) (i : Int) = some (V.str nm) := by
        unfold atI ixN
        rw [if_pos (by omega), if_pos (by rw [List.length_map]; show (i : Int) < 9; omega)]
        simpa using hw
      exact hx
    · exact k _ p5 (Same.updFree (Same.updFree s4 (s4.free hp4)) ((Same.updFree s4 (s4.free hp4)).free hp5)) ((Same.updFree s4 (s4.free hp4)).free hp5) upd_same
theorem ok_l_all (T : Txt K mg) : FnOk P w K mg base CX0 7 T.f_l_all T.fd_l_all ["_law_works", "_law_due"] (Td.spAll P w K mg T.C_StoreError (errCs T) 5 base) := by
  have G_l_told : FnOk P w K mg base CX0 6 T.f_l_told T.fd_l_told ["_law_work"] (Td.spTold P w K mg T.C_StoreError (errCs T) 5 base) := ok_l_told T
  have G_l_alike : FnOk P w K mg base CX0 6 T.f_l_alike T.fd_l_alike ["_law_found", "_law_due"] (spAlikeD 4) := ok_l_alike T 4
  refine T.F_l_all.ok sc_l_all (fun vs H Q E h => ?_) (fun cdv A outer s H vs Q E hr h => ?_)
  · obtain ⟨a, dt, ws, i, nm, D, rfl, _⟩ := h
    rfl
  · have hu64 := hu64_of hr
    obtain ⟨a, dt, ws, i, nm, D, rfl, ha, hz, hdt, kd, hi, hw, k⟩ := h
    refine ⟨_, (pss_one (ps_ret (pe_cmpR (op_eqNilI hu64) (pe_lc (own := [("_law_work", 2)]) (g := gName 2) rfl sc_l_all.nd (pi_listK K rfl (pv 0)) (blkOk_by (N := N_l_all) (sc := defScope s_l_all) (by decide +kernel)) (fun _ _ _ _ _ => (pg_name (i := 2) sc_l_all.nd rfl (Or.inl rfl))) (fun _ _ _ _ _ => pts_one (pt_not (pt_val (pe_call G_l_alike (hr.mono (by decide)) rfl T.mg_l_alike T.F_l_alike.kp T.b_l_alike .nil pass0 (pa_cons (pe_call G_l_told (hr.mono (by decide)) rfl T.mg_l_told T.F_l_told.kp T.b_l_told .nil pass0 (pa_cons (pv 2) pa_nil)) (pa_cons (pv 1) pa_nil)))))) (fun _ _ _ _ _ => (pv 2))) (pe_lst pa_nil) (nomark _)))), ?_⟩
    rw [show L2.start N_l_all [V.ref a, V.ref dt] = [some (V.ref a), some (V.ref dt), none] from rfl]
    simp only [tVar, tC, tOp, rI, rI0, rU, tTest, tB, tAnd, tOr, tNot, tAndV, tOrV, tNotV, tIf, tNil, tCons, tTup, tLst, tCB, tSeq, tAsg, gName, tRet, tRetN, tIfS, tNext, tDrop, tCall, tUn, tPar, CMul, CDiv, V.int.injEq, V.bl.injEq, V.ref.injEq, V.str.injEq, Option.some.injEq, List.cons.injEq, and_true, true_and, and_false, false_and, or_false, false_or, or_true, true_or, exists_eq_left', exists_eq_left, exists_and_left, exists_and_right, exists_eq', exists_eq, exists_false, exists_const, List.getElem?_cons_succ, List.getElem?_cons_zero, List.set_cons_succ, List.set_cons_zero, List.length_cons, List.length_nil, List.cons_append, List.nil_append, List.append_nil, reduceCtorEq, Int.reduceLT, Int.reduceLE, Int.reduceNeg, Int.reducePow, Int.reduceSub, Int.reduceAdd, Nat.reduceAdd, Nat.reduceLeDiff, Bool.not_true, Bool.not_false, decide_true, decide_false, Bool.false_eq_true, ↓reduceIte, upd_same, not_true_eq_false, not_false_eq_true, lsO_l, lsO_f, tpO_t, tpO_f, dkO_d, dkO_f, keyO_i, keyO_s, rIxH, rIxU, cLenL, cLenT, cListL, cListT, cTupL, cIntB, cAll, rEqNilI, rEq, rNe, scal_ii, scal_ss, scal_bb, scal_nn, scal_ni, scal_in, scal_ns, scal_sn, gSub, rSetL, ixs0, ixs1, ixs2, seq0, at0, at1, at2, at3, tBM, tBM0, rAppend, rPopAt, tyV_list, tGet2, tGetI, sPut, tMG, rTIdx, tyTup, tTupF, cx_K, cx_w, ex_map_int, ex_nil_int, ex_cons_int, List.map_cons, List.map_nil, List.isEmpty_nil, List.isEmpty_cons, List.eraseIdx_zero, List.tail_cons, List.eraseIdx_cons_zero, HO.lst.injEq, HO.tup.injEq, HO.dK.injEq, HO.frz.injEq, ne_eq, gTupH, gCons, gNil, wipe, tYes, upd_upd, and_assoc, List.getElem?_map, Option.map_some, isn_non_bool, isn_non_int, isn_non_str, isn_non_tuple, isn_non_list, isn_non_dict, isn_bl_bool, isn_bl_int, isn_bl_str, isn_bl_tuple, isn_bl_list, isn_bl_dict, isn_int_bool, isn_int_int, isn_int_str, isn_int_tuple, isn_int_list, isn_int_dict, isn_str_bool, isn_str_int, isn_str_str, isn_str_tuple, isn_str_list, isn_str_dict, isn_lst_bool, isn_lst_int, isn_lst_str, isn_lst_tuple, isn_lst_list, isn_lst_dict, isn_tup_bool, isn_tup_int, isn_tup_str, isn_tup_tuple, isn_tup_list, isn_tup_dict, isn_dct_bool, isn_dct_int, isn_dct_str, isn_dct_tuple, isn_dct_list, isn_dct_dict, okn_bool, okn_int, okn_str, okn_tuple, okn_list, okn_dict, cIsi, tyT_n, tyT_b, tyT_i, tyT_s, tyT_r, V.ty.injEq, tSl, tPart, tNoPart, rSlF, gName, tFld, sFld, tMeth, tMake, tGetT, tInT, tNinT, sPutT, sAugT, tPopT, rLtH, dtO_d, dtO_f, kysO_n, kysO_i, kysO_s, intsV_n, intsV_i, HO.ins.injEq, HO.dT.injEq, tDNewT, rIxLT, cLenLT, rSub, rAdd, sFldAug, Td.rIsG, Td.rCntT, Td.rIdxT, Td.rExt, Lm.tCallZ, Lm.tLam, tLc_eq, iList]
    refine ⟨⟨_, .inl (.inl ha)⟩, lcB_it fun L hL => lc_it (walk_list (xs := ws.map V.ref)) (fun m H1 => Same H H1 ∧ H1 L = some (.lst [])) ⟨same_new hL, upd_same⟩ (fun m H1 _ ⟨ss, _⟩ => .inl (.inl (ss _ _ ha))) ?_ ?_⟩
    · rintro m y H1 H2 hm ⟨ss, eL⟩ ⟨rfl, hy⟩
      rw [List.getElem?_map] at hy
      obtain ⟨f, hf, rfl⟩ := Option.map_eq_some_iff.mp hy
      obtain ⟨R, hA, hR⟩ := hw f (List.mem_of_getElem? hf)
      simp only [tVar, tC, tOp, rI, rI0, rU, tTest, tB, tAnd, tOr, tNot, tAndV, tOrV, tNotV, tIf, tNil, tCons, tTup, tLst, tCB, tSeq, tAsg, gName, tRet, tRetN, tIfS, tNext, tDrop, tCall, tUn, tPar, CMul, CDiv, V.int.injEq, V.bl.injEq, V.ref.injEq, V.str.injEq, Option.some.injEq, List.cons.injEq, and_true, true_and, and_false, false_and, or_false, false_or, or_true, true_or, exists_eq_left', exists_eq_left, exists_and_left, exists_and_right, exists_eq', exists_eq, exists_false, exists_const, List.getElem?_cons_succ, List.getElem?_cons_zero, List.set_cons_succ, List.set_cons_zero, List.length_cons, List.length_nil, List.cons_append, List.nil_append, List.append_nil, reduceCtorEq, Int.reduceLT, Int.reduceLE, Int.reduceNeg, Int.reducePow, Int.reduceSub, Int.reduceAdd, Nat.reduceAdd, Nat.reduceLeDiff, Bool.not_true, Bool.not_false, decide_true, decide_false, Bool.false_eq_true, ↓reduceIte, upd_same, not_true_eq_false, not_false_eq_true, lsO_l, lsO_f, tpO_t, tpO_f, dkO_d, dkO_f, keyO_i, keyO_s, rIxH, rIxU, cLenL, cLenT, cListL, cListT, cTupL, cIntB, cAll, rEqNilI, rEq, rNe, scal_ii, scal_ss, scal_bb, scal_nn, scal_ni, scal_in, scal_ns, scal_sn, gSub, rSetL, ixs0, ixs1, ixs2, seq0, at0, at1, at2, at3, tBM, tBM0, rAppend, rPopAt, tyV_list, tGet2, tGetI, sPut, tMG, rTIdx, tyTup, tTupF, cx_K, cx_w, ex_map_int, ex_nil_int, ex_cons_int, List.map_cons, List.map_nil, List.isEmpty_nil, List.isEmpty_cons, List.eraseIdx_zero, List.tail_cons, List.eraseIdx_cons_zero, HO.lst.injEq, HO.tup.injEq, HO.dK.injEq, HO.frz.injEq, ne_eq, gTupH, gCons, gNil, wipe, tYes, upd_upd, and_assoc, List.getElem?_map, Option.map_some, isn_non_bool, isn_non_int, isn_non_str, isn_non_tuple, isn_non_list, isn_non_dict, isn_bl_bool, isn_bl_int, isn_bl_str, isn_bl_tuple, isn_bl_list, isn_bl_dict, isn_int_bool, isn_int_int, isn_int_str, isn_int_tuple, isn_int_list, isn_int_dict, isn_str_bool, isn_str_int, isn_str_str, isn_str_tuple, isn_str_list, isn_str_dict, isn_lst_bool, isn_lst_int, isn_lst_str, isn_lst_tuple, isn_lst_list, isn_lst_dict, isn_tup_bool, isn_tup_int, isn_tup_str, isn_tup_tuple, isn_tup_list, isn_tup_dict, isn_dct_bool, isn_dct_int, isn_dct_str, isn_dct_tuple, isn_dct_list, isn_dct_dict, okn_bool, okn_int, okn_str, okn_tuple, okn_list, okn_dict, cIsi, tyT_n, tyT_b, tyT_i, tyT_s, tyT_r, V.ty.injEq, tSl, tPart, tNoPart, rSlF, gName, tFld, sFld, tMeth, tMake, tGetT, tInT, tNinT, sPutT, sAugT, tPopT, rLtH, dtO_d, dtO_f, kysO_n, kysO_i, kysO_s, intsV_n, intsV_i, HO.ins.injEq, HO.dT.injEq, tDNewT, rIxLT, cLenLT, rSub, rAdd, sFldAug, Td.rIsG, Td.rCntT, Td.rIdxT, Td.rExt, Lm.tCallZ, Lm.tLam]
      have hpair : ∀ {H' : Hp} {p : Addr}, H' p = some (.tup [.str nm, .int 0]) → RX H' (.ref p) (.tup [.str nm, .int 0]) := fun {H' p} e => by
        simp only [RX, RXs]
        exact ⟨p, _, rfl, e, rfl, rfl, True.intro⟩
      refine ⟨f, R, rfl, hA.keep (Lm.KeepF.of ss), fun E hE => hR H2 E _ ss fun H3 s3 => hE D i nm H3 kd hi fun H4 p s4 hp e4 => ?_⟩
      have s24 : Same H2 H4 := s3.trans s4
      refine ⟨_, _, .tup [.str nm, .int 0], rfl, hpair e4, hpair (s24 _ _ (ss _ _ hdt)), by simp [Dx.deep, Dx.deepL], by simp [Dx.fits, Dx.fitsL], true, rfl, ?_⟩
      rw [if_neg (by simp)]
      exact ⟨ss.trans s24, s24 _ _ eL⟩
    · rintro H1 ⟨ss, eL⟩
      simp only [tVar, tC, tOp, rI, rI0, rU, tTest, tB, tAnd, tOr, tNot, tAndV, tOrV, tNotV, tIf, tNil, tCons, tTup, tLst, tCB, tSeq, tAsg, gName, tRet, tRetN, tIfS, tNext, tDrop, tCall, tUn, tPar, CMul, CDiv, V.int.injEq, V.bl.injEq, V.ref.injEq, V.str.injEq, Option.some.injEq, List.cons.injEq, and_true, true_and, and_false, false_and, or_false, false_or, or_true, true_or, exists_eq_left', exists_eq_left, exists_and_left, exists_and_right, exists_eq', exists_eq, exists_false, exists_const, List.getElem?_cons_succ, List.getElem?_cons_zero, List.set_cons_succ, List.set_cons_zero, List.length_cons, List.length_nil, List.cons_append, List.nil_append, List.append_nil, reduceCtorEq, Int.reduceLT, Int.reduceLE, Int.reduceNeg, Int.reducePow, Int.reduceSub, Int.reduceAdd, Nat.reduceAdd, Nat.reduceLeDiff, Bool.not_true, Bool.not_false, decide_true, decide_false, Bool.false_eq_true, ↓reduceIte, upd_same, not_true_eq_false, not_false_eq_true, lsO_l, lsO_f, tpO_t, tpO_f, dkO_d, dkO_f, keyO_i, keyO_s, rIxH, rIxU, cLenL, cLenT, cListL, cListT, cTupL, cIntB, cAll, rEqNilI, rEq, rNe, scal_ii, scal_ss, scal_bb, scal_nn, scal_ni, scal_in, scal_ns, scal_sn, gSub, rSetL, ixs0, ixs1, ixs2, seq0, at0, at1, at2, at3, tBM, tBM0, rAppend, rPopAt, tyV_list, tGet2, tGetI, sPut, tMG, rTIdx, tyTup, tTupF, cx_K, cx_w, ex_map_int, ex_nil_int, ex_cons_int, List.map_cons, List.map_nil, List.isEmpty_nil, List.isEmpty_cons, List.eraseIdx_zero, List.tail_cons, List.eraseIdx_cons_zero, HO.lst.injEq, HO.tup.injEq, HO.dK.injEq, HO.frz.injEq, ne_eq, gTupH, gCons, gNil, wipe, tYes, upd_upd, and_assoc, List.getElem?_map, Option.map_some, isn_non_bool, isn_non_int, isn_non_str, isn_non_tuple, isn_non_list, isn_non_dict, isn_bl_bool, isn_bl_int, isn_bl_str, isn_bl_tuple, isn_bl_list, isn_bl_dict, isn_int_bool, isn_int_int, isn_int_str, isn_int_tuple, isn_int_list, isn_int_dict, isn_str_bool, isn_str_int, isn_str_str, isn_str_tuple, isn_str_list, isn_str_dict, isn_lst_bool, isn_lst_int, isn_lst_str, isn_lst_tuple, isn_lst_list, isn_lst_dict, isn_tup_bool, isn_tup_int, isn_tup_str, isn_tup_tuple, isn_tup_list, isn_tup_dict, isn_dct_bool, isn_dct_int, isn_dct_str, isn_dct_tuple, isn_dct_list, isn_dct_dict, okn_bool, okn_int, okn_str, okn_tuple, okn_list, okn_dict, cIsi, tyT_n, tyT_b, tyT_i, tyT_s, tyT_r, V.ty.injEq, tSl, tPart, tNoPart, rSlF, gName, tFld, sFld, tMeth, tMake, tGetT, tInT, tNinT, sPutT, sAugT, tPopT, rLtH, dtO_d, dtO_f, kysO_n, kysO_i, kysO_s, intsV_n, intsV_i, HO.ins.injEq, HO.dT.injEq, tDNewT, rIxLT, cLenLT, rSub, rAdd, sFldAug, Td.rIsG, Td.rCntT, Td.rIdxT, Td.rExt, Lm.tCallZ, Lm.tLam]
      refine ⟨szl (by decide), fun p hp => ⟨[], ?_, k _ (Same.updFree ss (ss.free hp))⟩⟩
      rw [upd_ne (ne_of_none eL hp), eL]
      rfl
end

def spLaw (K : PySem.W.Frag) (P : Addr) : Sp := fun vs H Q _ => ∃ (a : Addr) (ns : List Int), vs = [.ref a] ∧ SqL K H a (ns.map V.int) ∧ ns.length ≤ 63 ∧ H P = some (.tbl #[]) ∧ ∀ H', Q (.bl true) H'
/-- what is neither frozen nor a table -/
def NF (o : HO) : Prop := ¬ Lm.Fz o ∧ ∀ ps, o ≠ .tbl ps
theorem nf_lst {xs : List V} : NF (.lst xs) := ⟨fun z => z, fun _ z => by cases z⟩
theorem nf_ins {C dx : Addr} {fs : List (Str × V)} : NF (.ins C dx fs) := ⟨fun z => z, fun _ z => by cases z⟩
theorem kf_keep {ms : List Addr} {H H' : Hp} (k : Keep ms H H') (n : ∀ m ∈ ms, ∃ o, H m = some o ∧ NF o) : Lm.KeepF H H' ∧ Lm.KeepT H H' := by
  constructor
  · intro b o e z
    refine k b o (fun hm => ?_) e
    obtain ⟨u, hu, h1, _⟩ := n b hm
    rw [e] at hu; cases hu
    exact h1 z
  · intro b ps e
    refine k b _ (fun hm => ?_) e
    obtain ⟨u, hu, _, h2⟩ := n b hm
    rw [e] at hu; cases hu
    exact h2 ps rfl
/-- a unit: ("unit", turn, (n, None)) -/
def Tp (H : Hp) (u : V) : Prop := ∃ (p q : Addr) (i n : Int), u = .ref p ∧ H p = some (.tup [.str "unit", .int i, .ref q]) ∧ H q = some (.tup [.int n, .non])
theorem Tp.kf {H H' : Hp} {u : V} (t : Tp H u) (k : Lm.KeepF H H') : Tp H' u := by
  obtain ⟨p, q, i, n, e, h1, h2⟩ := t
  exact ⟨p, q, i, n, e, k _ _ h1 True.intro, k _ _ h2 True.intro⟩
def tpD (i n : Int) : Dx := .tup [.str "unit", .int i, .tup [.int n, .non]]
theorem Tp.rx {H : Hp} {u : V} (t : Tp H u) : ∃ i n, RX H u (tpD i n) := by
  obtain ⟨p, q, i, n, rfl, h1, h2⟩ := t
  refine ⟨i, n, ?_⟩
  simp only [tpD, RX, RXs]
  exact ⟨p, _, rfl, h1, rfl, rfl, ⟨q, _, rfl, h2, rfl, rfl, True.intro⟩, True.intro⟩
theorem tps_rx {H : Hp} : ∀ {us : List V}, (∀ u ∈ us, Tp H u) → ∃ ds : List Dx, RXs H us ds ∧ Dx.deepL ds ≤ 2 ∧ Dx.fitsL 100000 ds
  | [], _ => ⟨[], True.intro, by simp [Dx.deepL], True.intro⟩
  | u :: us, h => by
    obtain ⟨i, n, r⟩ := (h u List.mem_cons_self).rx
    obtain ⟨ds, r2, d2, f2⟩ := tps_rx fun v hv => h v (List.mem_cons_of_mem _ hv)
    refine ⟨tpD i n :: ds, ⟨r, r2⟩, ?_, ⟨?_, f2⟩⟩
    · simp only [Dx.deepL, tpD, Dx.deep]
      omega
    · simp [tpD, Dx.fits, Dx.fitsL]
theorem pair_rx {H : Hp} {p : Addr} {nm : Str} (e : H p = some (.tup [.str nm, .int 0])) : RX H (.ref p) (.tup [.str nm, .int 0]) := by
  simp only [RX, RXs]
  exact ⟨p, _, rfl, e, rfl, rfl, True.intro⟩
/-- what stands between two turns -/
structure St38 (C P h l a dx t ll lt ly : Addr) (H : Hp) (xs ys xd yd : List V) (left : OI) (gone : Bool) : Prop where
  box : BoxA H h l
  dk : Dk C H a dx t ll xd yd left gone
  eX : H lt = some (.lst xs)
  eY : H ly = some (.lst ys)
  tab : Lm.TabF [(P, Lm.lamQ "law")] H
  us : ∀ u ∈ xs ++ ys, Tp H u
  nh : h ≠ t ∧ h ≠ ll ∧ h ≠ lt ∧ h ≠ ly
  nl : l ≠ t ∧ l ≠ ll ∧ l ≠ lt ∧ l ≠ ly
  nt : t ≠ lt ∧ t ≠ ly ∧ ll ≠ lt ∧ ll ≠ ly
section
variable {C P h l a dx t ll lt ly : Addr} {H H' : Hp} {xs ys xd yd : List V} {left : OI} {gone : Bool}
theorem St38.ns (S : St38 C P h l a dx t ll lt ly H xs ys xd yd left gone) : ∀ m ∈ [h, l, a, t, ll, lt, ly], ∃ o, H m = some o ∧ NF o := by
  obtain ⟨ns, st, b1, b2, _⟩ := S.box
  intro m hm
  simp only [List.mem_cons, List.mem_nil_iff, or_false] at hm
  rcases hm with rfl | rfl | rfl | rfl | rfl | rfl | rfl
  · exact ⟨_, b1, nf_lst⟩
  · exact ⟨_, b2, nf_lst⟩
  · exact ⟨_, S.dk.ob, nf_ins⟩
  · exact ⟨_, S.dk.th, nf_lst⟩
  · exact ⟨_, S.dk.la, nf_lst⟩
  · exact ⟨_, S.eX, nf_lst⟩
  · exact ⟨_, S.eY, nf_lst⟩
theorem St38.ins (S : St38 C P h l a dx t ll lt ly H xs ys xd yd left gone) : a ≠ h ∧ a ≠ l ∧ a ≠ t ∧ a ≠ ll ∧ a ≠ lt ∧ a ≠ ly := by
  obtain ⟨ns, st, b1, b2, _⟩ := S.box
  exact ⟨ne_of S.dk.ob b1 (by intro z; cases z), ne_of S.dk.ob b2 (by intro z; cases z), ne_of S.dk.ob S.dk.th (by intro z; cases z), ne_of S.dk.ob S.dk.la (by intro z; cases z), ne_of S.dk.ob S.eX (by intro z; cases z), ne_of S.dk.ob S.eY (by intro z; cases z)⟩
/-- what a draw leaves -/
theorem St38.keepB (S : St38 C P h l a dx t ll lt ly H xs ys xd yd left gone) (B : BoxA H' h l) (k : Keep [h, l] H H') : St38 C P h l a dx t ll lt ly H' xs ys xd yd left gone := by
  obtain ⟨k1, k2⟩ := kf_keep k fun m hm => S.ns m (by simp only [List.mem_cons, List.mem_nil_iff, or_false] at hm ⊢; rcases hm with z | z <;> simp [z])
  obtain ⟨i1, i2, i3, i4, i5, i6⟩ := S.ins
  obtain ⟨h1, h2, h3, h4⟩ := S.nh
  obtain ⟨l1, l2, l3, l4⟩ := S.nl
  have n2 : ∀ b, b ≠ h → b ≠ l → b ∉ [h, l] := fun b x y => by simp [x, y]
  exact ⟨B, ⟨k _ _ (n2 _ i1 i2) S.dk.ob, k _ _ (n2 _ h1.symm l1.symm) S.dk.th, k _ _ (n2 _ h2.symm l2.symm) S.dk.la, S.dk.ne⟩, k _ _ (n2 _ h3.symm l3.symm) S.eX, k _ _ (n2 _ h4.symm l4.symm) S.eY, S.tab.ext k1 k2, fun u hu => (S.us u hu).kf k1, S.nh, S.nl, S.nt⟩
/-- what a deed of the disk leaves -/
theorem St38.step {ms : List Addr} {ll2 : Addr} {xd' yd' : List V} {left' : OI} {gone' : Bool} (S : St38 C P h l a dx t ll lt ly H xs ys xd yd left gone) (hm : ∀ m ∈ ms, m = a ∨ m = t ∨ m = ll) (k : Keep ms H H') (D : Dk C H' a dx t ll2 xd' yd' left' gone') (hl : ll2 = ll ∨ H ll2 = none) :
    St38 C P h l a dx t ll2 lt ly H' xs ys xd' yd' left' gone' ∧ Lm.KeepF H H' := by
  obtain ⟨k1, k2⟩ := kf_keep k fun m hmm => S.ns m (by rcases hm m hmm with z | z | z <;> simp [z])
  obtain ⟨i1, i2, i3, i4, i5, i6⟩ := S.ins
  obtain ⟨h1, h2, h3, h4⟩ := S.nh
  obtain ⟨l1, l2, l3, l4⟩ := S.nl
  obtain ⟨t1, t2, t3, t4⟩ := S.nt
  have out : ∀ b, b ≠ a → b ≠ t → b ≠ ll → b ∉ ms := fun b x y z m => by
    rcases hm b m with q | q | q
    · exact x q
    · exact y q
    · exact z q
  obtain ⟨ns, st, b1, b2, b3⟩ := id S.box
  have nl2 : ∀ {b : Addr} {o : HO}, H b = some o → b ≠ ll → b ≠ ll2 := fun {b o} e n => by
    rcases hl with z | z
    · rw [z]; exact n
    · exact ne_of_none e z
  exact ⟨⟨S.box.keep k (out _ i1.symm h1 h2) (out _ i2.symm l1 l2), D, k _ _ (out _ i5.symm t1.symm t3.symm) S.eX, k _ _ (out _ i6.symm t2.symm t4.symm) S.eY, S.tab.ext k1 k2, fun u hu => (S.us u hu).kf k1, ⟨h1, nl2 b1 h2, h3, h4⟩, ⟨l1, nl2 b2 l2, l3, l4⟩, ⟨t1, t2, (nl2 S.eX t3.symm).symm, (nl2 S.eY t4.symm).symm⟩⟩, k1⟩
/-- the law's own lists -/
theorem St38.law {lt2 ly2 : Addr} {xs2 ys2 : List V} (S : St38 C P h l a dx t ll lt ly H xs ys xd yd left gone) (ss : Same H H') (hx : H' lt2 = some (.lst xs2)) (hy : H' ly2 = some (.lst ys2)) (n1 : lt2 = lt ∨ H lt2 = none) (n2 : ly2 = ly ∨ H ly2 = none) (us2 : ∀ u ∈ xs2 ++ ys2, Tp H u) :
    St38 C P h l a dx t ll lt2 ly2 H' xs2 ys2 xd yd left gone := by
  obtain ⟨ns, st, b1, b2, b3⟩ := id S.box
  obtain ⟨h1, h2, h3, h4⟩ := S.nh
  obtain ⟨l1, l2, l3, l4⟩ := S.nl
  obtain ⟨t1, t2, t3, t4⟩ := S.nt
  have f1 : ∀ {b : Addr} {o : HO}, H b = some o → b ≠ lt → b ≠ lt2 := fun {b o} e n => by
    rcases n1 with z | z
    · rw [z]; exact n
    · exact ne_of_none e z
  have f2 : ∀ {b : Addr} {o : HO}, H b = some o → b ≠ ly → b ≠ ly2 := fun {b o} e n => by
    rcases n2 with z | z
    · rw [z]; exact n
    · exact ne_of_none e z
  exact ⟨S.box.same ss, ⟨ss _ _ S.dk.ob, ss _ _ S.dk.th, ss _ _ S.dk.la, S.dk.ne⟩, hx, hy, S.tab.ext (Lm.KeepF.of ss) (Lm.KeepT.of ss), fun u hu => (us2 u hu).kf (Lm.KeepF.of ss), ⟨h1, h2, f1 b1 h3, f2 b1 h4⟩, ⟨l1, l2, f1 b2 l3, f2 b2 l4⟩, ⟨f1 S.dk.th t1, f2 S.dk.th t2, f1 S.dk.la t3, f2 S.dk.la t4⟩⟩
/-- what touches nothing of it -/
theorem St38.off {p : Addr} {zs : List V} {o : HO} (S : St38 C P h l a dx t ll lt ly H xs ys xd yd left gone) (hp : H p = some (.lst zs)) (np : ∀ m ∈ [h, l, a, t, ll, lt, ly], p ≠ m) : St38 C P h l a dx t ll lt ly (upd H p o) xs ys xd yd left gone := by
  have k : Keep [p] H (upd H p o) := Keep.refl.upd (by simp)
  obtain ⟨k1, k2⟩ := kf_keep k fun m hm => by rw [List.mem_singleton.mp hm]; exact ⟨_, hp, nf_lst⟩
  have out : ∀ b, b ∈ [h, l, a, t, ll, lt, ly] → b ∉ [p] := fun b hb z => np b hb (List.mem_singleton.mp z).symm
  exact ⟨S.box.keep k (out _ (by simp)) (out _ (by simp)), ⟨k _ _ (out _ (by simp)) S.dk.ob, k _ _ (out _ (by simp)) S.dk.th, k _ _ (out _ (by simp)) S.dk.la, S.dk.ne⟩, k _ _ (out _ (by simp)) S.eX, k _ _ (out _ (by simp)) S.eY, S.tab.ext k1 k2, fun u hu => (S.us u hu).kf k1, S.nh, S.nl, S.nt⟩
theorem St38.extN (S : St38 C P h l a dx t ll lt ly H xs ys xd yd left gone) (e : LamX.ExtN H H') (T : Lm.TabF [(P, Lm.lamQ "law")] H') : St38 C P h l a dx t ll lt ly H' xs ys xd yd left gone := by
  obtain ⟨ns, st, b1, b2, b3⟩ := S.box
  have k1 := Lm.KeepF.extN e
  have el : ∀ b o, H b = some (.lst o) → H' b = some (.lst o) := fun b o z => e b _ z fun ps q => by cases q
  exact ⟨⟨ns, st, el _ _ b1, el _ _ b2, b3⟩, ⟨e _ _ S.dk.ob (fun ps q => by cases q), el _ _ S.dk.th, el _ _ S.dk.la, S.dk.ne⟩, el _ _ S.eX, el _ _ S.eY, T, fun u hu => (S.us u hu).kf k1, S.nh, S.nl, S.nt⟩
theorem St38.same (S : St38 C P h l a dx t ll lt ly H xs ys xd yd left gone) (k : Same H H') : St38 C P h l a dx t ll lt ly H' xs ys xd yd left gone :=
  S.extN (fun b o e _ => k b o e) (S.tab.ext (Lm.KeepF.of k) (Lm.KeepT.of k))
end
section
variable {P : Program} {w : World} {K : PySem.W.Frag} {mg : Str → Option Value} {base : Heap}
theorem ok_law (T : Txt K mg) (TB : LamX.TabB base mg T.c_law T.P_law) : FnOk P w K mg base CX0 8 T.f_law T.fd_law ["_law_script"] (spLaw K T.P_law) := by
  have G_l_begun : FnOk P w K mg base CX0 1 T.f_l_begun T.fd_l_begun ["_law_script"] (spBegun K) := ok_l_begun T
  have G_l_take : FnOk P w K mg base CX0 1 T.f_l_take T.fd_l_take ["_law_box", "_law_many"] spTake := ok_l_take T
  have G_l_alike : FnOk P w K mg base CX0 6 T.f_l_alike T.fd_l_alike ["_law_found", "_law_due"] (spAlikeD 4) := ok_l_alike T 4
  have G_Disk_init : FnOk P w K mg base CX0 1 T.f_Disk_init T.fd_Disk_init ["self"] (spDkInit T.C_Disk) := ok_Disk_init T
  have G_Disk_arm : FnOk P w K mg base (L2.CX P w) 1 T.f_Disk_arm T.fd_Disk_arm ["self", "many"] (spDkArm T.C_Disk T.C_BadNumber) := ok_Disk_arm T
  have G_Disk_fall : FnOk P w K mg base (L2.CX P w) 1 T.f_Disk_fall T.fd_Disk_fall ["self", "cut"] (spDkFall T.C_Disk T.C_BadNumber) := ok_Disk_fall T
  refine Fun.okL T.F_law T.hc_law sc_law (fun vs H Q E h => ?_) (fun A outer s H vs Q E hr h => ?_)
  · obtain ⟨a, ns, rfl, _⟩ := h
    rfl
  · obtain ⟨a, ns, rfl, hS, hlen, hP, k⟩ := h
    have hu64 := hu64_of hr
    refine ⟨_, (pss_cons (ps_set (i := 1) sc_law.nd rfl (Or.inl rfl) (pe_call G_l_begun (hr.mono (by decide)) rfl T.mg_l_begun T.F_l_begun.kp T.b_l_begun .nil pass0 (pa_cons (pv 0) pa_nil)))
      (pss_cons (ps_asg (pe_tup (pa_cons (pe_make0 T.mk_Disk G_Disk_init (hr.mono (by decide)) rfl T.mg_Disk T.b_Disk_init .nil pass0) (pa_cons (pe_lst pa_nil) (pa_cons (pe_lst pa_nil) (pa_cons pe_non (pa_cons pe_bl pa_nil)))))) (pg_tupH (n := 5) rfl (pgs_cons (pg_name (i := 13) sc_law.nd rfl (Or.inr rfl)) (pgs_cons (pg_name (i := 2) sc_law.nd rfl (Or.inl rfl)) (pgs_cons (pg_name (i := 3) sc_law.nd rfl (Or.inl rfl)) (pgs_cons (pg_name (i := 4) sc_law.nd rfl (Or.inl rfl)) (pgs_cons (pg_name (i := 5) sc_law.nd rfl (Or.inl rfl)) pgs_nil)))))))
      (pss_cons (ps_for PassesOwn.never rfl (pi_range1 rfl T.n_range (pa_cons (PE.imp' (t' := tTake2 1 (20) (61)) (pe_call G_l_take (hr.mono (by decide)) rfl T.mg_l_take T.F_l_take.kp T.b_l_take .nil pass0 (pa_cons (pv 1) (pa_cons (pe_ix ix_lst (pe_lst (pa_cons pe_int (pa_cons pe_int pa_nil))) (pe_call G_l_take (hr.mono (by decide)) rfl T.mg_l_take T.F_l_take.kp T.b_l_take .nil pass0 (pa_cons (pv 1) (pa_cons pe_int pa_nil))) (fun _ _ => rfl)) pa_nil))) (fun _ _ _ h => h)) pa_nil)) (pg_name (i := 6) sc_law.nd rfl (Or.inl rfl)) (Evl.pss_cut (ps_asg (pe_tup (pa_cons (pe_call G_l_take (hr.mono (by decide)) rfl T.mg_l_take T.F_l_take.kp T.b_l_take .nil pass0 (pa_cons (pv 1) (pa_cons pe_int pa_nil))) (pa_cons (pe_tup (pa_cons pe_str (pa_cons (pv 6) (pa_cons (pe_tup (pa_cons (pe_call G_l_take (hr.mono (by decide)) rfl T.mg_l_take T.F_l_take.kp T.b_l_take .nil pass0 (pa_cons (pv 1) (pa_cons pe_int pa_nil))) (pa_cons pe_non pa_nil))) pa_nil)))) pa_nil))) (pg_tupH (n := 2) rfl (pgs_cons (pg_name (i := 7) sc_law.nd rfl (Or.inl rfl)) (pgs_cons (pg_name (i := 14) sc_law.nd rfl (Or.inr rfl)) pgs_nil))))
        (Evl.pss_cut (ps_if (pt_cmpR op_lt (pv 7) pe_int (nomark _)) (Evl.pss_cut (ps_set (i := 8) sc_law.nd rfl (Or.inl rfl) (pe_or (pv 5) (pe_one (pe_cmpR op_eq (pv 4) pe_int (nomark _)))))
          (Evl.pss_cut (ps_set (i := 9) sc_law.nd rfl (Or.inl rfl) (Lm.pe_callZ (fun _ _ _ => rfl) (fun B => ok_l_told T) (hr.mono (by decide)) rfl T.mg_l_told T.F_l_told.kp T.b_l_told .nil (pa_cons (pe_ifExp (pt_cmpR op_gt (pv 7) pe_int (nomark _)) (Lm.pe_lamS (k := 4) TB rfl (q := Lm.lamQ "law") rfl (Lm.lamG_by (N := N_law) (sc := defScope s_law) (by decide +kernel)) rfl (fun _ _ _ _ _ _ => rfl) (fun B A outer s H E f c' hr => (pe_meth0 (pv 13) T.cl_Disk T.me_Disk_settle (ok_Disk_settle T) (hr.mono (by decide)) T.b_Disk_settle .nil (passes_call (takes_of rfl rfl rfl rfl) (fun _ _ _ _ z => z))))) (Lm.pe_lam1S (k := 4) (a := "_law_a") TB rfl (q := Lm.lamQ "law") rfl (Lm.lamG_by (N := N_law) (sc := defScope s_law) (by decide +kernel)) rfl rfl pe_int rfl (fun _ _ _ _ _ _ _ => ⟨_, rfl, fun _ => rfl⟩) (fun B A outer s H E f c' hr => (pe_meth (pv 13) T.cl_Disk T.me_Disk_write (ok_Disk_write T) (hr.mono (by decide)) T.b_Disk_write .nil (passes_call (takes_of rfl rfl rfl rfl) (fun _ _ _ _ z => z)) (pa_cons (pv 14) pa_nil))))) pa_nil)))
          (pss_cons (ps_if (pt_not (pt_val (pe_call G_l_alike (hr.mono (by decide)) rfl T.mg_l_alike T.F_l_alike.kp T.b_l_alike .nil pass0 (pa_cons (pv 9) (pa_cons (pe_ifExp (pt_val (pv 8)) (pe_tup (pa_cons pe_str (pa_cons pe_int pa_nil))) pe_non) pa_nil))))) (pss_one (ps_ret pe_bl)) pss_nil)
          (pss_cons (ps_set (i := 5) sc_law.nd rfl (Or.inl rfl) (pv 8))
          (pss_cons (ps_set (i := 4) sc_law.nd rfl (Or.inl rfl) (pe_ifExp (PW.pt (pw_or (pt_val (pv 8)) (pw_or1 (pt_cmpR op_isN (pv 4) pe_non (nomark _))))) (pv 4) (pe_op op_sub (pv 4) pe_int)))
          (pss_one (ps_if (PW.pt (pw_and (pt_not (pt_val (pv 8))) (pw_and1 (pt_cmpR op_gt (pv 7) pe_int (nomark _))))) (pss_one (ps_par (i := 2) (j := 3) rfl sc_law.nd rfl rfl (by decide) rfl rfl (pa_cons (pe_op op_cat (pv 2) (pv 3)) (pa_cons (pe_lst pa_nil) pa_nil)) (by rfl))) (pss_one (ps_if (pt_not (pt_val (pv 8))) (pss_one (ps_set (i := 3) sc_law.nd rfl (Or.inl rfl) (pe_op op_cat (pv 3) (pe_lst (pa_cons (pv 14) pa_nil))))) pss_nil))))))))) (pss_one (ps_if (PW.pt (pw_and (pt_cmpR op_eq (pv 7) pe_int (nomark _)) (pw_and1 (pt_not (pt_val (pv 5)))))) (pss_cons (ps_set (i := 4) sc_law.nd rfl (Or.inl rfl) (pe_call G_l_take (hr.mono (by decide)) rfl T.mg_l_take T.F_l_take.kp T.b_l_take .nil pass0 (pa_cons (pv 1) (pa_cons pe_int pa_nil))))
            (pss_one (ps_expr (pe_meth (pv 13) T.cl_Disk T.me_Disk_arm G_Disk_arm (hr.mono (by decide)) T.b_Disk_arm .nil (passes_call L2.takes0 (fun _ _ _ _ z => z)) (pa_cons (pv 4) pa_nil))))) (pss_one (ps_if (pt_cmpR op_gt (pv 7) pe_int (nomark _)) (pss_cons (ps_set (i := 10) sc_law.nd rfl (Or.inl rfl) (PE.imp' (t' := tTake2 1 (5) (15)) (pe_call G_l_take (hr.mono (by decide)) rfl T.mg_l_take T.F_l_take.kp T.b_l_take .nil pass0 (pa_cons (pv 1) (pa_cons (pe_ix ix_lst (pe_lst (pa_cons pe_int (pa_cons pe_int pa_nil))) (pe_call G_l_take (hr.mono (by decide)) rfl T.mg_l_take T.F_l_take.kp T.b_l_take .nil pass0 (pa_cons (pv 1) (pa_cons pe_int pa_nil))) (fun _ _ => rfl)) pa_nil))) (fun _ _ _ h => h)))
              (pss_cons (ps_expr (pe_meth (pv 13) T.cl_Disk T.me_Disk_fall G_Disk_fall (hr.mono (by decide)) T.b_Disk_fall .nil (passes_call L2.takes0 (fun _ _ _ _ z => z)) (pa_cons (pv 10) pa_nil)))
              (pss_one (ps_asg (pe_tup (pa_cons (pe_op op_cat (pv 2) (pe_slice sl_list (pv 3) po_none (po_some (pv 10)))) (pa_cons (pe_lst pa_nil) (pa_cons pe_non (pa_cons pe_bl pa_nil))))) (pg_tupH (n := 4) rfl (pgs_cons (pg_name (i := 2) sc_law.nd rfl (Or.inl rfl)) (pgs_cons (pg_name (i := 3) sc_law.nd rfl (Or.inl rfl)) (pgs_cons (pg_name (i := 4) sc_law.nd rfl (Or.inl rfl)) (pgs_cons (pg_name (i := 5) sc_law.nd rfl (Or.inl rfl)) pgs_nil))))))))) pss_nil)))))
        (Evl.pss_cut (ps_set (i := 12) sc_law.nd rfl (Or.inr rfl) (pe_op op_sub (pe_un un_neg pe_int) (pe_call G_l_take (hr.mono (by decide)) rfl T.mg_l_take T.F_l_take.kp T.b_l_take .nil pass0 (pa_cons (pv 1) (pa_cons pe_int pa_nil)))))
        (pss_cons (ps_if (pt_not (pt_val (Lm.pe_callZ (fun _ _ _ => rfl) (fun B => ok_l_all T) (hr.mono (by decide)) rfl T.mg_l_all T.F_l_all.kp T.b_l_all .nil (pa_cons (pe_lst (pa_cons (Lm.pe_lamS (k := 4) TB rfl (q := Lm.lamQ "law") rfl (Lm.lamG_by (N := N_law) (sc := defScope s_law) (by decide +kernel)) rfl (fun _ _ _ _ _ _ => rfl) (fun B A outer s H E f c' hr => (pe_meth (pv 13) T.cl_Disk T.me_Disk_fall (ok_Disk_fall T) (hr.mono (by decide)) T.b_Disk_fall .nil (passes_call (takes_of rfl rfl rfl rfl) (fun _ _ _ _ z => z)) (pa_cons (pv 12) pa_nil)))) (pa_cons (Lm.pe_lam1S (k := 4) (a := "_law_a") TB rfl (q := Lm.lamQ "law") rfl (Lm.lamG_by (N := N_law) (sc := defScope s_law) (by decide +kernel)) rfl rfl pe_int rfl (fun _ _ _ _ _ _ _ => ⟨_, rfl, fun _ => rfl⟩) (fun B A outer s H E f c' hr => (pe_meth (pv 13) T.cl_Disk T.me_Disk_arm (ok_Disk_arm T) (hr.mono (by decide)) T.b_Disk_arm .nil (passes_call (takes_of rfl rfl rfl rfl) (fun _ _ _ _ z => z)) (pa_cons (pv 12) pa_nil)))) pa_nil))) (pa_cons (pe_tup (pa_cons pe_str (pa_cons pe_int pa_nil))) pa_nil))))) (pss_one (ps_ret pe_bl)) pss_nil)
        (pss_one (ps_for PassesOwn.never rfl (pi_range1 rfl T.n_range (pa_cons pe_int pa_nil)) (pg_name (i := 11) sc_law.nd rfl (Or.inl rfl)) (Evl.pss_cut (ps_set (i := 9) sc_law.nd rfl (Or.inl rfl) (Lm.pe_callZ (fun _ _ _ => rfl) (fun B => ok_l_told T) (hr.mono (by decide)) rfl T.mg_l_told T.F_l_told.kp T.b_l_told .nil (pa_cons (Lm.pe_lamS (k := 4) TB rfl (q := Lm.lamQ "law") rfl (Lm.lamG_by (N := N_law) (sc := defScope s_law) (by decide +kernel)) rfl (fun _ _ _ _ _ _ => rfl) (fun B A outer s H E f c' hr => (pe_meth0 (pv 13) T.cl_Disk T.me_Disk_units (ok_Disk_units T) (hr.mono (by decide)) T.b_Disk_units .nil (passes_call (takes_of rfl rfl rfl rfl) (fun _ _ _ _ z => z))))) pa_nil)))
          (pss_cons (ps_if (pt_not (pt_val (pe_call G_l_alike (hr.mono (by decide)) rfl T.mg_l_alike T.F_l_alike.kp T.b_l_alike .nil pass0 (pa_cons (pv 9) (pa_cons (pe_ifExp (pt_val (pv 5)) (pe_tup (pa_cons pe_str (pa_cons pe_int pa_nil))) (pe_op op_cat (pv 2) (pv 3))) pa_nil))))) (pss_one (ps_ret pe_bl)) pss_nil)
          (pss_one (ps_if (pt_not (pt_val (pv 5))) (pss_one (ps_expr (pe_bm PySem.F.plainAttrs_list PySem.F.slot_list_append PySem.F.type_list_append mt_append (pv 9) (pa_cons pe_int pa_nil)))) pss_nil)))))))))))
      (pss_one (ps_ret pe_bl))))), ?_⟩
    rw [show L2.start N_law [V.ref a] = [some (V.ref a), none, none, none, none, none, none, none, none, none, none, none, none, none, none] from rfl]
    simp only [tVar, tC, tOp, rI, rI0, rU, tTest, tB, tAnd, tOr, tNot, tAndV, tOrV, tNotV, tIf, tNil, tCons, tTup, tLst, tCB, tSeq, tAsg, gName, tRet, tRetN, tIfS, tNext, tDrop, tCall, tUn, tPar, CMul, CDiv, V.int.injEq, V.bl.injEq, V.ref.injEq, V.str.injEq, Option.some.injEq, List.cons.injEq, and_true, true_and, and_false, false_and, or_false, false_or, or_true, true_or, exists_eq_left', exists_eq_left, exists_and_left, exists_and_right, exists_eq', exists_eq, exists_false, exists_const, List.getElem?_cons_succ, List.getElem?_cons_zero, List.set_cons_succ, List.set_cons_zero, List.length_cons, List.length_nil, List.cons_append, List.nil_append, List.append_nil, reduceCtorEq, Int.reduceLT, Int.reduceLE, Int.reduceNeg, Int.reducePow, Int.reduceSub, Int.reduceAdd, Nat.reduceAdd, Nat.reduceLeDiff, Bool.not_true, Bool.not_false, decide_true, decide_false, Bool.false_eq_true, ↓reduceIte, upd_same, not_true_eq_false, not_false_eq_true, lsO_l, lsO_f, tpO_t, tpO_f, dkO_d, dkO_f, keyO_i, keyO_s, rIxH, rIxU, cLenL, cLenT, cListL, cListT, cTupL, cIntB, cAll, rEqNilI, rEq, rNe, scal_ii, scal_ss, scal_bb, scal_nn, scal_ni, scal_in, scal_ns, scal_sn, gSub, rSetL, ixs0, ixs1, ixs2, seq0, at0, at1, at2, at3, tBM, tBM0, rAppend, rPopAt, tyV_list, tGet2, tGetI, sPut, tMG, rTIdx, tyTup, tTupF, cx_K, cx_w, ex_map_int, ex_nil_int, ex_cons_int, List.map_cons, List.map_nil, List.isEmpty_nil, List.isEmpty_cons, List.eraseIdx_zero, List.tail_cons, List.eraseIdx_cons_zero, HO.lst.injEq, HO.tup.injEq, HO.dK.injEq, HO.frz.injEq, ne_eq, gTupH, gCons, gNil, wipe, tYes, upd_upd, and_assoc, List.getElem?_map, Option.map_some, isn_non_bool, isn_non_int, isn_non_str, isn_non_tuple, isn_non_list, isn_non_dict, isn_bl_bool, isn_bl_int, isn_bl_str, isn_bl_tuple, isn_bl_list, isn_bl_dict, isn_int_bool, isn_int_int, isn_int_str, isn_int_tuple, isn_int_list, isn_int_dict, isn_str_bool, isn_str_int, isn_str_str, isn_str_tuple, isn_str_list, isn_str_dict, isn_lst_bool, isn_lst_int, isn_lst_str, isn_lst_tuple, isn_lst_list, isn_lst_dict, isn_tup_bool, isn_tup_int, isn_tup_str, isn_tup_tuple, isn_tup_list, isn_tup_dict, isn_dct_bool, isn_dct_int, isn_dct_str, isn_dct_tuple, isn_dct_list, isn_dct_dict, okn_bool, okn_int, okn_str, okn_tuple, okn_list, okn_dict, cIsi, tyT_n, tyT_b, tyT_i, tyT_s, tyT_r, V.ty.injEq, tSl, tPart, tNoPart, rSlF, gName, tFld, sFld, tMeth, tMake, tGetT, tInT, tNinT, sPutT, sAugT, tPopT, rLtH, dtO_d, dtO_f, kysO_n, kysO_i, kysO_s, intsV_n, intsV_i, HO.ins.injEq, HO.dT.injEq, tDNewT, rIxLT, cLenLT, rSub, rAdd, sFldAug, Td.rIsG, Td.rCntT, Td.rIdxT, Td.rExt, Lm.tCallZ, Lm.tLam]
    refine ⟨a, ns, rfl, hS, hlen, fun H1 h l _ _ s1 B1 => ?_⟩
    simp only [tVar, tC, tOp, rI, rI0, rU, tTest, tB, tAnd, tOr, tNot, tAndV, tOrV, tNotV, tIf, tNil, tCons, tTup, tLst, tCB, tSeq, tAsg, gName, tRet, tRetN, tIfS, tNext, tDrop, tCall, tUn, tPar, CMul, CDiv, V.int.injEq, V.bl.injEq, V.ref.injEq, V.str.injEq, Option.some.injEq, List.cons.injEq, and_true, true_and, and_false, false_and, or_false, false_or, or_true, true_or, exists_eq_left', exists_eq_left, exists_and_left, exists_and_right, exists_eq', exists_eq, exists_false, exists_const, List.getElem?_cons_succ, List.getElem?_cons_zero, List.set_cons_succ, List.set_cons_zero, List.length_cons, List.length_nil, List.cons_append, List.nil_append, List.append_nil, reduceCtorEq, Int.reduceLT, Int.reduceLE, Int.reduceNeg, Int.reducePow, Int.reduceSub, Int.reduceAdd, Nat.reduceAdd, Nat.reduceLeDiff, Bool.not_true, Bool.not_false, decide_true, decide_false, Bool.false_eq_true, ↓reduceIte, upd_same, not_true_eq_false, not_false_eq_true, lsO_l, lsO_f, tpO_t, tpO_f, dkO_d, dkO_f, keyO_i, keyO_s, rIxH, rIxU, cLenL, cLenT, cListL, cListT, cTupL, cIntB, cAll, rEqNilI, rEq, rNe, scal_ii, scal_ss, scal_bb, scal_nn, scal_ni, scal_in, scal_ns, scal_sn, gSub, rSetL, ixs0, ixs1, ixs2, seq0, at0, at1, at2, at3, tBM, tBM0, rAppend, rPopAt, tyV_list, tGet2, tGetI, sPut, tMG, rTIdx, tyTup, tTupF, cx_K, cx_w, ex_map_int, ex_nil_int, ex_cons_int, List.map_cons, List.map_nil, List.isEmpty_nil, List.isEmpty_cons, List.eraseIdx_zero, List.tail_cons, List.eraseIdx_cons_zero, HO.lst.injEq, HO.tup.injEq, HO.dK.injEq, HO.frz.injEq, ne_eq, gTupH, gCons, gNil, wipe, tYes, upd_upd, and_assoc, List.getElem?_map, Option.map_some, isn_non_bool, isn_non_int, isn_non_str, isn_non_tuple, isn_non_list, isn_non_dict, isn_bl_bool, isn_bl_int, isn_bl_str, isn_bl_tuple, isn_bl_list, isn_bl_dict, isn_int_bool, isn_int_int, isn_int_str, isn_int_tuple, isn_int_list, isn_int_dict, isn_str_bool, isn_str_int, isn_str_str, isn_str_tuple, isn_str_list, isn_str_dict, isn_lst_bool, isn_lst_int, isn_lst_str, isn_lst_tuple, isn_lst_list, isn_lst_dict, isn_tup_bool, isn_tup_int, isn_tup_str, isn_tup_tuple, isn_tup_list, isn_tup_dict, isn_dct_bool, isn_dct_int, isn_dct_str, isn_dct_tuple, isn_dct_list, isn_dct_dict, okn_bool, okn_int, okn_str, okn_tuple, okn_list, okn_dict, cIsi, tyT_n, tyT_b, tyT_i, tyT_s, tyT_r, V.ty.injEq, tSl, tPart, tNoPart, rSlF, gName, tFld, sFld, tMeth, tMake, tGetT, tInT, tNinT, sPutT, sAugT, tPopT, rLtH, dtO_d, dtO_f, kysO_n, kysO_i, kysO_s, intsV_n, intsV_i, HO.ins.injEq, HO.dT.injEq, tDNewT, rIxLT, cLenLT, rSub, rAdd, sFldAug, Td.rIsG, Td.rCntT, Td.rIdxT, Td.rExt, Lm.tCallZ, Lm.tLam]
    intro x dx hx hdx ndx
    refine ⟨x, dx, rfl, upd_same, fun t ll H2 ht hl ntl hob hth hla kp => ⟨rfl, szl (by decide), fun lt hlt => ?_⟩⟩
    refine ⟨szl (by decide), fun ly hly => ⟨szl (by decide), fun tq htq => ?_⟩⟩
    have sx : Same H1 (upd (upd H1 dx (.own x)) x (.ins T.C_Disk dx [])) := Same.updFree (same_new hdx) hx
    have nx : ∀ {b : Addr} {o : HO}, H1 b = some o → b ≠ x := fun e => ne_of_none e hx
    have up : ∀ {b : Addr} {o : HO}, H1 b = some o → H2 b = some o := fun {b o} e => kp _ _ (by simpa using nx e) (sx _ _ e)
    have S0 : St38 T.C_Disk T.P_law h l x dx t ll lt ly (upd (upd (upd H2 lt (.lst [])) ly (.lst [])) tq (.tup [.ref x, .ref lt, .ref ly, .non, .bl false])) [] [] [] [] none false := by
      obtain ⟨ns', st, b1, b2, b3⟩ := id B1
      have s2 : Same H2 (upd H2 lt (.lst [])) := same_new hlt
      have s3 : Same (upd H2 lt (.lst [])) (upd (upd H2 lt (.lst [])) ly (.lst [])) := same_new hly
      have s4 : Same (upd (upd H2 lt (.lst [])) ly (.lst [])) (upd (upd (upd H2 lt (.lst [])) ly (.lst [])) tq (.tup [.ref x, .ref lt, .ref ly, .non, .bl false])) := same_new htq
      have s := (s2.trans s3).trans s4
      have eh := up b1
      have el := up b2
      have hP2 := up (s1 _ _ hP)
      refine ⟨⟨ns', st, s _ _ eh, s _ _ el, b3⟩, ⟨s _ _ hob, s _ _ hth, s _ _ hla, ntl⟩, s4 _ _ (s3 _ _ upd_same), s4 _ _ upd_same, Lm.TabF.nil fun p hp => ?_, fun u hu => absurd hu (by simp), ⟨ne_of_none (sx _ _ b1) ht, ne_of_none (sx _ _ b1) hl, ne_of_none eh hlt, ne_of_none (s2 _ _ eh) hly⟩, ⟨ne_of_none (sx _ _ b2) ht, ne_of_none (sx _ _ b2) hl, ne_of_none el hlt, ne_of_none (s2 _ _ el) hly⟩,
        ⟨ne_of_none hth hlt, ne_of_none (s2 _ _ hth) hly, ne_of_none hla hlt, ne_of_none (s2 _ _ hla) hly⟩⟩
      rw [List.mem_singleton.mp hp]
      exact s _ _ hP2
    generalize upd (upd (upd H2 lt (.lst [])) ly (.lst [])) tq (.tup [.ref x, .ref lt, .ref ly, .non, .bl false]) = H3 at S0 ⊢
    simp only [tVar, tC, tOp, rI, rI0, rU, tTest, tB, tAnd, tOr, tNot, tAndV, tOrV, tNotV, tIf, tNil, tCons, tTup, tLst, tCB, tSeq, tAsg, gName, tRet, tRetN, tIfS, tNext, tDrop, tCall, tUn, tPar, CMul, CDiv, V.int.injEq, V.bl.injEq, V.ref.injEq, V.str.injEq, Option.some.injEq, List.cons.injEq, and_true, true_and, and_false, false_and, or_false, false_or, or_true, true_or, exists_eq_left', exists_eq_left, exists_and_left, exists_and_right, exists_eq', exists_eq, exists_false, exists_const, List.getElem?_cons_succ, List.getElem?_cons_zero, List.set_cons_succ, List.set_cons_zero, List.length_cons, List.length_nil, List.cons_append, List.nil_append, List.append_nil, reduceCtorEq, Int.reduceLT, Int.reduceLE, Int.reduceNeg, Int.reducePow, Int.reduceSub, Int.reduceAdd, Nat.reduceAdd, Nat.reduceLeDiff, Bool.not_true, Bool.not_false, decide_true, decide_false, Bool.false_eq_true, ↓reduceIte, upd_same, not_true_eq_false, not_false_eq_true, lsO_l, lsO_f, tpO_t, tpO_f, dkO_d, dkO_f, keyO_i, keyO_s, rIxH, rIxU, cLenL, cLenT, cListL, cListT, cTupL, cIntB, cAll, rEqNilI, rEq, rNe, scal_ii, scal_ss, scal_bb, scal_nn, scal_ni, scal_in, scal_ns, scal_sn, gSub, rSetL, ixs0, ixs1, ixs2, seq0, at0, at1, at2, at3, tBM, tBM0, rAppend, rPopAt, tyV_list, tGet2, tGetI, sPut, tMG, rTIdx, tyTup, tTupF, cx_K, cx_w, ex_map_int, ex_nil_int, ex_cons_int, List.map_cons, List.map_nil, List.isEmpty_nil, List.isEmpty_cons, List.eraseIdx_zero, List.tail_cons, List.eraseIdx_cons_zero, HO.lst.injEq, HO.tup.injEq, HO.dK.injEq, HO.frz.injEq, ne_eq, gTupH, gCons, gNil, wipe, tYes, upd_upd, and_assoc, List.getElem?_map, Option.map_some, isn_non_bool, isn_non_int, isn_non_str, isn_non_tuple, isn_non_list, isn_non_dict, isn_bl_bool, isn_bl_int, isn_bl_str, isn_bl_tuple, isn_bl_list, isn_bl_dict, isn_int_bool, isn_int_int, isn_int_str, isn_int_tuple, isn_int_list, isn_int_dict, isn_str_bool, isn_str_int, isn_str_str, isn_str_tuple, isn_str_list, isn_str_dict, isn_lst_bool, isn_lst_int, isn_lst_str, isn_lst_tuple, isn_lst_list, isn_lst_dict, isn_tup_bool, isn_tup_int, isn_tup_str, isn_tup_tuple, isn_tup_list, isn_tup_dict, isn_dct_bool, isn_dct_int, isn_dct_str, isn_dct_tuple, isn_dct_list, isn_dct_dict, okn_bool, okn_int, okn_str, okn_tuple, okn_list, okn_dict, cIsi, tyT_n, tyT_b, tyT_i, tyT_s, tyT_r, V.ty.injEq, tSl, tPart, tNoPart, rSlF, gName, tFld, sFld, tMeth, tMake, tGetT, tInT, tNinT, sPutT, sAugT, tPopT, rLtH, dtO_d, dtO_f, kysO_n, kysO_i, kysO_s, intsV_n, intsV_i, HO.ins.injEq, HO.dT.injEq, tDNewT, rIxLT, cLenLT, rSub, rAdd, sFldAug, Td.rIsG, Td.rCntT, Td.rIdxT, Td.rExt, Lm.tCallZ, Lm.tLam, tFor_eq, iRng1]
    refine take2 rfl S0.box (by decide) (by decide) fun n H4 n0 n1 B4 k4 => ?_
    have S4 := S0.keepB B4 k4
    simp only [tVar, tC, tOp, rI, rI0, rU, tTest, tB, tAnd, tOr, tNot, tAndV, tOrV, tNotV, tIf, tNil, tCons, tTup, tLst, tCB, tSeq, tAsg, gName, tRet, tRetN, tIfS, tNext, tDrop, tCall, tUn, tPar, CMul, CDiv, V.int.injEq, V.bl.injEq, V.ref.injEq, V.str.injEq, Option.some.injEq, List.cons.injEq, and_true, true_and, and_false, false_and, or_false, false_or, or_true, true_or, exists_eq_left', exists_eq_left, exists_and_left, exists_and_right, exists_eq', exists_eq, exists_false, exists_const, List.getElem?_cons_succ, List.getElem?_cons_zero, List.set_cons_succ, List.set_cons_zero, List.length_cons, List.length_nil, List.cons_append, List.nil_append, List.append_nil, reduceCtorEq, Int.reduceLT, Int.reduceLE, Int.reduceNeg, Int.reducePow, Int.reduceSub, Int.reduceAdd, Nat.reduceAdd, Nat.reduceLeDiff, Bool.not_true, Bool.not_false, decide_true, decide_false, Bool.false_eq_true, ↓reduceIte, upd_same, not_true_eq_false, not_false_eq_true, lsO_l, lsO_f, tpO_t, tpO_f, dkO_d, dkO_f, keyO_i, keyO_s, rIxH, rIxU, cLenL, cLenT, cListL, cListT, cTupL, cIntB, cAll, rEqNilI, rEq, rNe, scal_ii, scal_ss, scal_bb, scal_nn, scal_ni, scal_in, scal_ns, scal_sn, gSub, rSetL, ixs0, ixs1, ixs2, seq0, at0, at1, at2, at3, tBM, tBM0, rAppend, rPopAt, tyV_list, tGet2, tGetI, sPut, tMG, rTIdx, tyTup, tTupF, cx_K, cx_w, ex_map_int, ex_nil_int, ex_cons_int, List.map_cons, List.map_nil, List.isEmpty_nil, List.isEmpty_cons, List.eraseIdx_zero, List.tail_cons, List.eraseIdx_cons_zero, HO.lst.injEq, HO.tup.injEq, HO.dK.injEq, HO.frz.injEq, ne_eq, gTupH, gCons, gNil, wipe, tYes, upd_upd, and_assoc, List.getElem?_map, Option.map_some, isn_non_bool, isn_non_int, isn_non_str, isn_non_tuple, isn_non_list, isn_non_dict, isn_bl_bool, isn_bl_int, isn_bl_str, isn_bl_tuple, isn_bl_list, isn_bl_dict, isn_int_bool, isn_int_int, isn_int_str, isn_int_tuple, isn_int_list, isn_int_dict, isn_str_bool, isn_str_int, isn_str_str, isn_str_tuple, isn_str_list, isn_str_dict, isn_lst_bool, isn_lst_int, isn_lst_str, isn_lst_tuple, isn_lst_list, isn_lst_dict, isn_tup_bool, isn_tup_int, isn_tup_str, isn_tup_tuple, isn_tup_list, isn_tup_dict, isn_dct_bool, isn_dct_int, isn_dct_str, isn_dct_tuple, isn_dct_list, isn_dct_dict, okn_bool, okn_int, okn_str, okn_tuple, okn_list, okn_dict, cIsi, tyT_n, tyT_b, tyT_i, tyT_s, tyT_r, V.ty.injEq, tSl, tPart, tNoPart, rSlF, gName, tFld, sFld, tMeth, tMake, tGetT, tInT, tNinT, sPutT, sAugT, tPopT, rLtH, dtO_d, dtO_f, kysO_n, kysO_i, kysO_s, intsV_n, intsV_i, HO.ins.injEq, HO.dT.injEq, tDNewT, rIxLT, cLenLT, rSub, rAdd, sFldAug, Td.rIsG, Td.rCntT, Td.rIdxT, Td.rExt, Lm.tCallZ, Lm.tLam]
    refine ⟨by omega, by omega, forB_it (for_it walk_range (fun i σ H5 => ∃ (z6 z7 z8 z9 z10 z11 z12 z14 : Option V) (ll lt ly : Addr) (xs ys : List V) (left : OI) (gone : Bool), σ = [some (.ref a), some (.ref h), some (.ref lt), some (.ref ly), some (oi left), some (.bl gone), z6, z7, z8, z9, z10, z11, z12, some (.ref x), z14] ∧ St38 T.C_Disk T.P_law h l x dx t ll lt ly H5 xs ys xs ys left gone ∧ xs.length + ys.length ≤ i)
      ⟨none, none, none, none, none, none, none, none, ll, lt, ly, [], [], none, false, rfl, S4, Nat.le_refl _⟩ (fun _ _ _ _ _ => trivial) ?_ ?_)⟩
    · rintro i y σ H5 H5' hi ⟨z6, z7, z8, z9, z10, z11, z12, z14, ll', lt', ly', xs, ys, left, gone, rfl, S5, hq⟩ ⟨rfl, rfl⟩
      have hi61 : i < 61 := by omega
      simp only [tVar, tC, tOp, rI, rI0, rU, tTest, tB, tAnd, tOr, tNot, tAndV, tOrV, tNotV, tIf, tNil, tCons, tTup, tLst, tCB, tSeq, tAsg, gName, tRet, tRetN, tIfS, tNext, tDrop, tCall, tUn, tPar, CMul, CDiv, V.int.injEq, V.bl.injEq, V.ref.injEq, V.str.injEq, Option.some.injEq, List.cons.injEq, and_true, true_and, and_false, false_and, or_false, false_or, or_true, true_or, exists_eq_left', exists_eq_left, exists_and_left, exists_and_right, exists_eq', exists_eq, exists_false, exists_const, List.getElem?_cons_succ, List.getElem?_cons_zero, List.set_cons_succ, List.set_cons_zero, List.length_cons, List.length_nil, List.cons_append, List.nil_append, List.append_nil, reduceCtorEq, Int.reduceLT, Int.reduceLE, Int.reduceNeg, Int.reducePow, Int.reduceSub, Int.reduceAdd, Nat.reduceAdd, Nat.reduceLeDiff, Bool.not_true, Bool.not_false, decide_true, decide_false, Bool.false_eq_true, ↓reduceIte, upd_same, not_true_eq_false, not_false_eq_true, lsO_l, lsO_f, tpO_t, tpO_f, dkO_d, dkO_f, keyO_i, keyO_s, rIxH, rIxU, cLenL, cLenT, cListL, cListT, cTupL, cIntB, cAll, rEqNilI, rEq, rNe, scal_ii, scal_ss, scal_bb, scal_nn, scal_ni, scal_in, scal_ns, scal_sn, gSub, rSetL, ixs0, ixs1, ixs2, seq0, at0, at1, at2, at3, tBM, tBM0, rAppend, rPopAt, tyV_list, tGet2, tGetI, sPut, tMG, rTIdx, tyTup, tTupF, cx_K, cx_w, ex_map_int, ex_nil_int, ex_cons_int, List.map_cons, List.map_nil, List.isEmpty_nil, List.isEmpty_cons, List.eraseIdx_zero, List.tail_cons, List.eraseIdx_cons_zero, HO.lst.injEq, HO.tup.injEq, HO.dK.injEq, HO.frz.injEq, ne_eq, gTupH, gCons, gNil, wipe, tYes, upd_upd, and_assoc, List.getElem?_map, Option.map_some, isn_non_bool, isn_non_int, isn_non_str, isn_non_tuple, isn_non_list, isn_non_dict, isn_bl_bool, isn_bl_int, isn_bl_str, isn_bl_tuple, isn_bl_list, isn_bl_dict, isn_int_bool, isn_int_int, isn_int_str, isn_int_tuple, isn_int_list, isn_int_dict, isn_str_bool, isn_str_int, isn_str_str, isn_str_tuple, isn_str_list, isn_str_dict, isn_lst_bool, isn_lst_int, isn_lst_str, isn_lst_tuple, isn_lst_list, isn_lst_dict, isn_tup_bool, isn_tup_int, isn_tup_str, isn_tup_tuple, isn_tup_list, isn_tup_dict, isn_dct_bool, isn_dct_int, isn_dct_str, isn_dct_tuple, isn_dct_list, isn_dct_dict, okn_bool, okn_int, okn_str, okn_tuple, okn_list, okn_dict, cIsi, tyT_n, tyT_b, tyT_i, tyT_s, tyT_r, V.ty.injEq, tSl, tPart, tNoPart, rSlF, gName, tFld, sFld, tMeth, tMake, tGetT, tInT, tNinT, sPutT, sAugT, tPopT, rLtH, dtO_d, dtO_f, kysO_n, kysO_i, kysO_s, intsV_n, intsV_i, HO.ins.injEq, HO.dT.injEq, tDNewT, rIxLT, cLenLT, rSub, rAdd, sFldAug, Td.rIsG, Td.rCntT, Td.rIdxT, Td.rExt, Lm.tCallZ, Lm.tLam, gName]
      refine ⟨fun σ' H6 => ∃ (wv : Int) (un : V), σ' = [some (.ref a), some (.ref h), some (.ref lt'), some (.ref ly'), some (oi left), some (.bl gone), some (.int (0 + (i : Int))), some (.int wv), z8, z9, z10, z11, z12, some (.ref x), some un] ∧ St38 T.C_Disk T.P_law h l x dx t ll' lt' ly' H6 xs ys xs ys left gone ∧ Tp H6 un, ?_, ?_⟩
      · simp only [tVar, tC, tOp, rI, rI0, rU, tTest, tB, tAnd, tOr, tNot, tAndV, tOrV, tNotV, tIf, tNil, tCons, tTup, tLst, tCB, tSeq, tAsg, gName, tRet, tRetN, tIfS, tNext, tDrop, tCall, tUn, tPar, CMul, CDiv, V.int.injEq, V.bl.injEq, V.ref.injEq, V.str.injEq, Option.some.injEq, List.cons.injEq, and_true, true_and, and_false, false_and, or_false, false_or, or_true, true_or, exists_eq_left', exists_eq_left, exists_and_left, exists_and_right, exists_eq', exists_eq, exists_false, exists_const, List.getElem?_cons_succ, List.getElem?_cons_zero, List.set_cons_succ, List.set_cons_zero, List.length_cons, List.length_nil, List.cons_append, List.nil_append, List.append_nil, reduceCtorEq, Int.reduceLT, Int.reduceLE, Int.reduceNeg, Int.reducePow, Int.reduceSub, Int.reduceAdd, Nat.reduceAdd, Nat.reduceLeDiff, Bool.not_true, Bool.not_false, decide_true, decide_false, Bool.false_eq_true, ↓reduceIte, upd_same, not_true_eq_false, not_false_eq_true, lsO_l, lsO_f, tpO_t, tpO_f, dkO_d, dkO_f, keyO_i, keyO_s, rIxH, rIxU, cLenL, cLenT, cListL, cListT, cTupL, cIntB, cAll, rEqNilI, rEq, rNe, scal_ii, scal_ss, scal_bb, scal_nn, scal_ni, scal_in, scal_ns, scal_sn, gSub, rSetL, ixs0, ixs1, ixs2, seq0, at0, at1, at2, at3, tBM, tBM0, rAppend, rPopAt, tyV_list, tGet2, tGetI, sPut, tMG, rTIdx, tyTup, tTupF, cx_K, cx_w, ex_map_int, ex_nil_int, ex_cons_int, List.map_cons, List.map_nil, List.isEmpty_nil, List.isEmpty_cons, List.eraseIdx_zero, List.tail_cons, List.eraseIdx_cons_zero, HO.lst.injEq, HO.tup.injEq, HO.dK.injEq, HO.frz.injEq, ne_eq, gTupH, gCons, gNil, wipe, tYes, upd_upd, and_assoc, List.getElem?_map, Option.map_some, isn_non_bool, isn_non_int, isn_non_str, isn_non_tuple, isn_non_list, isn_non_dict, isn_bl_bool, isn_bl_int, isn_bl_str, isn_bl_tuple, isn_bl_list, isn_bl_dict, isn_int_bool, isn_int_int, isn_int_str, isn_int_tuple, isn_int_list, isn_int_dict, isn_str_bool, isn_str_int, isn_str_str, isn_str_tuple, isn_str_list, isn_str_dict, isn_lst_bool, isn_lst_int, isn_lst_str, isn_lst_tuple, isn_lst_list, isn_lst_dict, isn_tup_bool, isn_tup_int, isn_tup_str, isn_tup_tuple, isn_tup_list, isn_tup_dict, isn_dct_bool, isn_dct_int, isn_dct_str, isn_dct_tuple, isn_dct_list, isn_dct_dict, okn_bool, okn_int, okn_str, okn_tuple, okn_list, okn_dict, cIsi, tyT_n, tyT_b, tyT_i, tyT_s, tyT_r, V.ty.injEq, tSl, tPart, tNoPart, rSlF, gName, tFld, sFld, tMeth, tMake, tGetT, tInT, tNinT, sPutT, sAugT, tPopT, rLtH, dtO_d, dtO_f, kysO_n, kysO_i, kysO_s, intsV_n, intsV_i, HO.ins.injEq, HO.dT.injEq, tDNewT, rIxLT, cLenLT, rSub, rAdd, sFldAug, Td.rIsG, Td.rCntT, Td.rIdxT, Td.rExt, Lm.tCallZ, Lm.tLam]
        refine ⟨h, l, 10, rfl, S5.box, by decide, by decide, fun r H6 r0 r1 B6 k6 => ⟨h, l, 9, rfl, (S5.keepB B6 k6).box, by decide, by decide, fun r2 H7 _ _ B7 k7 => ⟨szl (by decide), fun p hp => ⟨szl (by decide), fun p1 hp1 => ⟨szl (by decide), fun p2 hp2 => ⟨⟨r, rfl⟩, ?_, ?_⟩⟩⟩⟩⟩⟩
        · exact (((S5.keepB B6 k6).keepB B7 k7).same (same_new hp)).same (same_new hp1) |>.same (same_new hp2)
        · have s1 := same_new (o := .tup [.str "unit", .int (0 + (i : Int)), .ref p]) hp1
          have s2 := same_new (o := .tup [.int r, .ref p1]) hp2
          exact ⟨p1, p, _, r2, rfl, s2 _ _ upd_same, s2 _ _ (s1 _ _ upd_same)⟩
      rintro σ H6 ⟨wv, un, rfl, S6, tu⟩
      -- the deed
      refine ⟨fun σ' H7 => ∃ (y6 y7 y8 y9 y10 y11 y12 y14 : Option V) (ll lt ly : Addr) (xs ys : List V) (left : OI) (gone : Bool), σ' = [some (.ref a), some (.ref h), some (.ref lt), some (.ref ly), some (oi left), some (.bl gone), y6, y7, y8, y9, y10, y11, y12, some (.ref x), y14] ∧ St38 T.C_Disk T.P_law h l x dx t ll lt ly H7 xs ys xs ys left gone ∧ xs.length + ys.length ≤ i + 1, ?_, ?_⟩
      · simp only [tVar, tC, tOp, rI, rI0, rU, tTest, tB, tAnd, tOr, tNot, tAndV, tOrV, tNotV, tIf, tNil, tCons, tTup, tLst, tCB, tSeq, tAsg, gName, tRet, tRetN, tIfS, tNext, tDrop, tCall, tUn, tPar, CMul, CDiv, V.int.injEq, V.bl.injEq, V.ref.injEq, V.str.injEq, Option.some.injEq, List.cons.injEq, and_true, true_and, and_false, false_and, or_false, false_or, or_true, true_or, exists_eq_left', exists_eq_left, exists_and_left, exists_and_right, exists_eq', exists_eq, exists_false, exists_const, List.getElem?_cons_succ, List.getElem?_cons_zero, List.set_cons_succ, List.set_cons_zero, List.length_cons, List.length_nil, List.cons_append, List.nil_append, List.append_nil, reduceCtorEq, Int.reduceLT, Int.reduceLE, Int.reduceNeg, Int.reducePow, Int.reduceSub, Int.reduceAdd, Nat.reduceAdd, Nat.reduceLeDiff, Bool.not_true, Bool.not_false, decide_true, decide_false, Bool.false_eq_true, ↓reduceIte, upd_same, not_true_eq_false, not_false_eq_true, lsO_l, lsO_f, tpO_t, tpO_f, dkO_d, dkO_f, keyO_i, keyO_s, rIxH, rIxU, cLenL, cLenT, cListL, cListT, cTupL, cIntB, cAll, rEqNilI, rEq, rNe, scal_ii, scal_ss, scal_bb, scal_nn, scal_ni, scal_in, scal_ns, scal_sn, gSub, rSetL, ixs0, ixs1, ixs2, seq0, at0, at1, at2, at3, tBM, tBM0, rAppend, rPopAt, tyV_list, tGet2, tGetI, sPut, tMG, rTIdx, tyTup, tTupF, cx_K, cx_w, ex_map_int, ex_nil_int, ex_cons_int, List.map_cons, List.map_nil, List.isEmpty_nil, List.isEmpty_cons, List.eraseIdx_zero, List.tail_cons, List.eraseIdx_cons_zero, HO.lst.injEq, HO.tup.injEq, HO.dK.injEq, HO.frz.injEq, ne_eq, gTupH, gCons, gNil, wipe, tYes, upd_upd, and_assoc, List.getElem?_map, Option.map_some, isn_non_bool, isn_non_int, isn_non_str, isn_non_tuple, isn_non_list, isn_non_dict, isn_bl_bool, isn_bl_int, isn_bl_str, isn_bl_tuple, isn_bl_list, isn_bl_dict, isn_int_bool, isn_int_int, isn_int_str, isn_int_tuple, isn_int_list, isn_int_dict, isn_str_bool, isn_str_int, isn_str_str, isn_str_tuple, isn_str_list, isn_str_dict, isn_lst_bool, isn_lst_int, isn_lst_str, isn_lst_tuple, isn_lst_list, isn_lst_dict, isn_tup_bool, isn_tup_int, isn_tup_str, isn_tup_tuple, isn_tup_list, isn_tup_dict, isn_dct_bool, isn_dct_int, isn_dct_str, isn_dct_tuple, isn_dct_list, isn_dct_dict, okn_bool, okn_int, okn_str, okn_tuple, okn_list, okn_dict, cIsi, tyT_n, tyT_b, tyT_i, tyT_s, tyT_r, V.ty.injEq, tSl, tPart, tNoPart, rSlF, gName, tFld, sFld, tMeth, tMake, tGetT, tInT, tNinT, sPutT, sAugT, tPopT, rLtH, dtO_d, dtO_f, kysO_n, kysO_i, kysO_s, intsV_n, intsV_i, HO.ins.injEq, HO.dT.injEq, tDNewT, rIxLT, cLenLT, rSub, rAdd, sFldAug, Td.rIsG, Td.rCntT, Td.rIdxT, Td.rExt, Lm.tCallZ, Lm.tLam]
        by_cases c7 : wv < 7
        · rw [if_pos (decide_eq_true c7)]
          refine ⟨fun σ' H7 => ∃ (io : Bool), σ' = [some (.ref a), some (.ref h), some (.ref lt'), some (.ref ly'), some (oi left), some (.bl gone), some (.int (0 + (i : Int))), some (.int wv), some (.bl io), z9, z10, z11, z12, some (.ref x), some un] ∧ H7 = H6 ∧ (io = true ↔ Out left gone), ?_, ?_⟩
          · simp only [tVar, tC, tOp, rI, rI0, rU, tTest, tB, tAnd, tOr, tNot, tAndV, tOrV, tNotV, tIf, tNil, tCons, tTup, tLst, tCB, tSeq, tAsg, gName, tRet, tRetN, tIfS, tNext, tDrop, tCall, tUn, tPar, CMul, CDiv, V.int.injEq, V.bl.injEq, V.ref.injEq, V.str.injEq, Option.some.injEq, List.cons.injEq, and_true, true_and, and_false, false_and, or_false, false_or, or_true, true_or, exists_eq_left', exists_eq_left, exists_and_left, exists_and_right, exists_eq', exists_eq, exists_false, exists_const, List.getElem?_cons_succ, List.getElem?_cons_zero, List.set_cons_succ, List.set_cons_zero, List.length_cons, List.length_nil, List.cons_append, List.nil_append, List.append_nil, reduceCtorEq, Int.reduceLT, Int.reduceLE, Int.reduceNeg, Int.reducePow, Int.reduceSub, Int.reduceAdd, Nat.reduceAdd, Nat.reduceLeDiff, Bool.not_true, Bool.not_false, decide_true, decide_false, Bool.false_eq_true, ↓reduceIte, upd_same, not_true_eq_false, not_false_eq_true, lsO_l, lsO_f, tpO_t, tpO_f, dkO_d, dkO_f, keyO_i, keyO_s, rIxH, rIxU, cLenL, cLenT, cListL, cListT, cTupL, cIntB, cAll, rEqNilI, rEq, rNe, scal_ii, scal_ss, scal_bb, scal_nn, scal_ni, scal_in, scal_ns, scal_sn, gSub, rSetL, ixs0, ixs1, ixs2, seq0, at0, at1, at2, at3, tBM, tBM0, rAppend, rPopAt, tyV_list, tGet2, tGetI, sPut, tMG, rTIdx, tyTup, tTupF, cx_K, cx_w, ex_map_int, ex_nil_int, ex_cons_int, List.map_cons, List.map_nil, List.isEmpty_nil, List.isEmpty_cons, List.eraseIdx_zero, List.tail_cons, List.eraseIdx_cons_zero, HO.lst.injEq, HO.tup.injEq, HO.dK.injEq, HO.frz.injEq, ne_eq, gTupH, gCons, gNil, wipe, tYes, upd_upd, and_assoc, List.getElem?_map, Option.map_some, isn_non_bool, isn_non_int, isn_non_str, isn_non_tuple, isn_non_list, isn_non_dict, isn_bl_bool, isn_bl_int, isn_bl_str, isn_bl_tuple, isn_bl_list, isn_bl_dict, isn_int_bool, isn_int_int, isn_int_str, isn_int_tuple, isn_int_list, isn_int_dict, isn_str_bool, isn_str_int, isn_str_str, isn_str_tuple, isn_str_list, isn_str_dict, isn_lst_bool, isn_lst_int, isn_lst_str, isn_lst_tuple, isn_lst_list, isn_lst_dict, isn_tup_bool, isn_tup_int, isn_tup_str, isn_tup_tuple, isn_tup_list, isn_tup_dict, isn_dct_bool, isn_dct_int, isn_dct_str, isn_dct_tuple, isn_dct_list, isn_dct_dict, okn_bool, okn_int, okn_str, okn_tuple, okn_list, okn_dict, cIsi, tyT_n, tyT_b, tyT_i, tyT_s, tyT_r, V.ty.injEq, tSl, tPart, tNoPart, rSlF, gName, tFld, sFld, tMeth, tMake, tGetT, tInT, tNinT, sPutT, sAugT, tPopT, rLtH, dtO_d, dtO_f, kysO_n, kysO_i, kysO_s, intsV_n, intsV_i, HO.ins.injEq, HO.dT.injEq, tDNewT, rIxLT, cLenLT, rSub, rAdd, sFldAug, Td.rIsG, Td.rCntT, Td.rIdxT, Td.rExt, Lm.tCallZ, Lm.tLam]
            cases gone with
            | true =>
              rw [if_pos rfl]
              simp [Out]
            | false =>
              rw [if_neg (by simp)]
              cases left with
              | none =>
                simp only [tVar, tC, tOp, rI, rI0, rU, tTest, tB, tAnd, tOr, tNot, tAndV, tOrV, tNotV, tIf, tNil, tCons, tTup, tLst, tCB, tSeq, tAsg, gName, tRet, tRetN, tIfS, tNext, tDrop, tCall, tUn, tPar, CMul, CDiv, V.int.injEq, V.bl.injEq, V.ref.injEq, V.str.injEq, Option.some.injEq, List.cons.injEq, and_true, true_and, and_false, false_and, or_false, false_or, or_true, true_or, exists_eq_left', exists_eq_left, exists_and_left, exists_and_right, exists_eq', exists_eq, exists_false, exists_const, List.getElem?_cons_succ, List.getElem?_cons_zero, List.set_cons_succ, List.set_cons_zero, List.length_cons, List.length_nil, List.cons_append, List.nil_append, List.append_nil, reduceCtorEq, Int.reduceLT, Int.reduceLE, Int.reduceNeg, Int.reducePow, Int.reduceSub, Int.reduceAdd, Nat.reduceAdd, Nat.reduceLeDiff, Bool.not_true, Bool.not_false, decide_true, decide_false, Bool.false_eq_true, ↓reduceIte, upd_same, not_true_eq_false, not_false_eq_true, lsO_l, lsO_f, tpO_t, tpO_f, dkO_d, dkO_f, keyO_i, keyO_s, rIxH, rIxU, cLenL, cLenT, cListL, cListT, cTupL, cIntB, cAll, rEqNilI, rEq, rNe, scal_ii, scal_ss, scal_bb, scal_nn, scal_ni, scal_in, scal_ns, scal_sn, gSub, rSetL, ixs0, ixs1, ixs2, seq0, at0, at1, at2, at3, tBM, tBM0, rAppend, rPopAt, tyV_list, tGet2, tGetI, sPut, tMG, rTIdx, tyTup, tTupF, cx_K, cx_w, ex_map_int, ex_nil_int, ex_cons_int, List.map_cons, List.map_nil, List.isEmpty_nil, List.isEmpty_cons, List.eraseIdx_zero, List.tail_cons, List.eraseIdx_cons_zero, HO.lst.injEq, HO.tup.injEq, HO.dK.injEq, HO.frz.injEq, ne_eq, gTupH, gCons, gNil, wipe, tYes, upd_upd, and_assoc, List.getElem?_map, Option.map_some, isn_non_bool, isn_non_int, isn_non_str, isn_non_tuple, isn_non_list, isn_non_dict, isn_bl_bool, isn_bl_int, isn_bl_str, isn_bl_tuple, isn_bl_list, isn_bl_dict, isn_int_bool, isn_int_int, isn_int_str, isn_int_tuple, isn_int_list, isn_int_dict, isn_str_bool, isn_str_int, isn_str_str, isn_str_tuple, isn_str_list, isn_str_dict, isn_lst_bool, isn_lst_int, isn_lst_str, isn_lst_tuple, isn_lst_list, isn_lst_dict, isn_tup_bool, isn_tup_int, isn_tup_str, isn_tup_tuple, isn_tup_list, isn_tup_dict, isn_dct_bool, isn_dct_int, isn_dct_str, isn_dct_tuple, isn_dct_list, isn_dct_dict, okn_bool, okn_int, okn_str, okn_tuple, okn_list, okn_dict, cIsi, tyT_n, tyT_b, tyT_i, tyT_s, tyT_r, V.ty.injEq, tSl, tPart, tNoPart, rSlF, gName, tFld, sFld, tMeth, tMake, tGetT, tInT, tNinT, sPutT, sAugT, tPopT, rLtH, dtO_d, dtO_f, kysO_n, kysO_i, kysO_s, intsV_n, intsV_i, HO.ins.injEq, HO.dT.injEq, tDNewT, rIxLT, cLenLT, rSub, rAdd, sFldAug, Td.rIsG, Td.rCntT, Td.rIdxT, Td.rExt, Lm.tCallZ, Lm.tLam, oi_n]
                simp [Out]
              | some j =>
                simp only [tVar, tC, tOp, rI, rI0, rU, tTest, tB, tAnd, tOr, tNot, tAndV, tOrV, tNotV, tIf, tNil, tCons, tTup, tLst, tCB, tSeq, tAsg, gName, tRet, tRetN, tIfS, tNext, tDrop, tCall, tUn, tPar, CMul, CDiv, V.int.injEq, V.bl.injEq, V.ref.injEq, V.str.injEq, Option.some.injEq, List.cons.injEq, and_true, true_and, and_false, false_and, or_false, false_or, or_true, true_or, exists_eq_left', exists_eq_left, exists_and_left, exists_and_right, exists_eq', exists_eq, exists_false, exists_const, List.getElem?_cons_succ, List.getElem?_cons_zero, List.set_cons_succ, List.set_cons_zero, List.length_cons, List.length_nil, List.cons_append, List.nil_append, List.append_nil, reduceCtorEq, Int.reduceLT, Int.reduceLE, Int.reduceNeg, Int.reducePow, Int.reduceSub, Int.reduceAdd, Nat.reduceAdd, Nat.reduceLeDiff, Bool.not_true, Bool.not_false, decide_true, decide_false, Bool.false_eq_true, ↓reduceIte, upd_same, not_true_eq_false, not_false_eq_true, lsO_l, lsO_f, tpO_t, tpO_f, dkO_d, dkO_f, keyO_i, keyO_s, rIxH, rIxU, cLenL, cLenT, cListL, cListT, cTupL, cIntB, cAll, rEqNilI, rEq, rNe, scal_ii, scal_ss, scal_bb, scal_nn, scal_ni, scal_in, scal_ns, scal_sn, gSub, rSetL, ixs0, ixs1, ixs2, seq0, at0, at1, at2, at3, tBM, tBM0, rAppend, rPopAt, tyV_list, tGet2, tGetI, sPut, tMG, rTIdx, tyTup, tTupF, cx_K, cx_w, ex_map_int, ex_nil_int, ex_cons_int, List.map_cons, List.map_nil, List.isEmpty_nil, List.isEmpty_cons, List.eraseIdx_zero, List.tail_cons, List.eraseIdx_cons_zero, HO.lst.injEq, HO.tup.injEq, HO.dK.injEq, HO.frz.injEq, ne_eq, gTupH, gCons, gNil, wipe, tYes, upd_upd, and_assoc, List.getElem?_map, Option.map_some, isn_non_bool, isn_non_int, isn_non_str, isn_non_tuple, isn_non_list, isn_non_dict, isn_bl_bool, isn_bl_int, isn_bl_str, isn_bl_tuple, isn_bl_list, isn_bl_dict, isn_int_bool, isn_int_int, isn_int_str, isn_int_tuple, isn_int_list, isn_int_dict, isn_str_bool, isn_str_int, isn_str_str, isn_str_tuple, isn_str_list, isn_str_dict, isn_lst_bool, isn_lst_int, isn_lst_str, isn_lst_tuple, isn_lst_list, isn_lst_dict, isn_tup_bool, isn_tup_int, isn_tup_str, isn_tup_tuple, isn_tup_list, isn_tup_dict, isn_dct_bool, isn_dct_int, isn_dct_str, isn_dct_tuple, isn_dct_list, isn_dct_dict, okn_bool, okn_int, okn_str, okn_tuple, okn_list, okn_dict, cIsi, tyT_n, tyT_b, tyT_i, tyT_s, tyT_r, V.ty.injEq, tSl, tPart, tNoPart, rSlF, gName, tFld, sFld, tMeth, tMake, tGetT, tInT, tNinT, sPutT, sAugT, tPopT, rLtH, dtO_d, dtO_f, kysO_n, kysO_i, kysO_s, intsV_n, intsV_i, HO.ins.injEq, HO.dT.injEq, tDNewT, rIxLT, cLenLT, rSub, rAdd, sFldAug, Td.rIsG, Td.rCntT, Td.rIdxT, Td.rExt, Lm.tCallZ, Lm.tLam, oi_s]
                simp [Out]
          rintro σ H7 ⟨io, rfl, rfl, hio⟩
          refine ⟨fun σ' H7 => ∃ (fv : V) (ll2 : Addr) (xd yd : List V) (left2 : OI) (gone2 : Bool), σ' = [some (.ref a), some (.ref h), some (.ref lt'), some (.ref ly'), some (oi left), some (.bl gone), some (.int (0 + (i : Int))), some (.int wv), some (.bl io), some fv, z10, z11, z12, some (.ref x), some un] ∧ St38 T.C_Disk T.P_law h l x dx t ll2 lt' ly' H7 xs ys xd yd left2 gone2 ∧ Tp H7 un ∧
            ((io = true ∧ (∃ p, fv = .ref p ∧ H7 p = some (.tup [.str "Gone", .int 0])) ∧ xd = xs ∧ yd = ys ∧ left2 = left ∧ gone2 = true) ∨ (io = false ∧ fv = .non ∧ left2 = left.map (fun i => i - 1) ∧ gone2 = false ∧ ((4 < wv ∧ xd = xs ++ ys ∧ yd = []) ∨ (¬ 4 < wv ∧ xd = xs ∧ yd = ys ++ [un])))), ?_, ?_⟩
          · have io1 : Out left gone → io = true := fun o => hio.mpr o
            have io0 : ¬ Out left gone → io = false := fun o => by
              cases io with
              | false => rfl
              | true => exact absurd (hio.mp rfl) o
            simp only [tVar, tC, tOp, rI, rI0, rU, tTest, tB, tAnd, tOr, tNot, tAndV, tOrV, tNotV, tIf, tNil, tCons, tTup, tLst, tCB, tSeq, tAsg, gName, tRet, tRetN, tIfS, tNext, tDrop, tCall, tUn, tPar, CMul, CDiv, V.int.injEq, V.bl.injEq, V.ref.injEq, V.str.injEq, Option.some.injEq, List.cons.injEq, and_true, true_and, and_false, false_and, or_false, false_or, or_true, true_or, exists_eq_left', exists_eq_left, exists_and_left, exists_and_right, exists_eq', exists_eq, exists_false, exists_const, List.getElem?_cons_succ, List.getElem?_cons_zero, List.set_cons_succ, List.set_cons_zero, List.length_cons, List.length_nil, List.cons_append, List.nil_append, List.append_nil, reduceCtorEq, Int.reduceLT, Int.reduceLE, Int.reduceNeg, Int.reducePow, Int.reduceSub, Int.reduceAdd, Nat.reduceAdd, Nat.reduceLeDiff, Bool.not_true, Bool.not_false, decide_true, decide_false, Bool.false_eq_true, ↓reduceIte, upd_same, not_true_eq_false, not_false_eq_true, lsO_l, lsO_f, tpO_t, tpO_f, dkO_d, dkO_f, keyO_i, keyO_s, rIxH, rIxU, cLenL, cLenT, cListL, cListT, cTupL, cIntB, cAll, rEqNilI, rEq, rNe, scal_ii, scal_ss, scal_bb, scal_nn, scal_ni, scal_in, scal_ns, scal_sn, gSub, rSetL, ixs0, ixs1, ixs2, seq0, at0, at1, at2, at3, tBM, tBM0, rAppend, rPopAt, tyV_list, tGet2, tGetI, sPut, tMG, rTIdx, tyTup, tTupF, cx_K, cx_w, ex_map_int, ex_nil_int, ex_cons_int, List.map_cons, List.map_nil, List.isEmpty_nil, List.isEmpty_cons, List.eraseIdx_zero, List.tail_cons, List.eraseIdx_cons_zero, HO.lst.injEq, HO.tup.injEq, HO.dK.injEq, HO.frz.injEq, ne_eq, gTupH, gCons, gNil, wipe, tYes, upd_upd, and_assoc, List.getElem?_map, Option.map_some, isn_non_bool, isn_non_int, isn_non_str, isn_non_tuple, isn_non_list, isn_non_dict, isn_bl_bool, isn_bl_int, isn_bl_str, isn_bl_tuple, isn_bl_list, isn_bl_dict, isn_int_bool, isn_int_int, isn_int_str, isn_int_tuple, isn_int_list, isn_int_dict, isn_str_bool, isn_str_int, isn_str_str, isn_str_tuple, isn_str_list, isn_str_dict, isn_lst_bool, isn_lst_int, isn_lst_str, isn_lst_tuple, isn_lst_list, isn_lst_dict, isn_tup_bool, isn_tup_int, isn_tup_str, isn_tup_tuple, isn_tup_list, isn_tup_dict, isn_dct_bool, isn_dct_int, isn_dct_str, isn_dct_tuple, isn_dct_list, isn_dct_dict, okn_bool, okn_int, okn_str, okn_tuple, okn_list, okn_dict, cIsi, tyT_n, tyT_b, tyT_i, tyT_s, tyT_r, V.ty.injEq, tSl, tPart, tNoPart, rSlF, gName, tFld, sFld, tMeth, tMake, tGetT, tInT, tNinT, sPutT, sAugT, tPopT, rLtH, dtO_d, dtO_f, kysO_n, kysO_i, kysO_s, intsV_n, intsV_i, HO.ins.injEq, HO.dT.injEq, tDNewT, rIxLT, cLenLT, rSub, rAdd, sFldAug, Td.rIsG, Td.rCntT, Td.rIdxT, Td.rExt, Lm.tCallZ, Lm.tLam]
            by_cases c4 : 4 < wv
            · rw [if_pos (decide_eq_true c4)]
              refine ⟨S6.tab, fun f H9 e9 T9 A9 B zb => ?_⟩
              have S9 := S6.extN e9 T9
              have tu9 := tu.kf (Lm.KeepF.extN e9)
              refine ⟨f, _, rfl, A9 H9 (Lm.KeepF.refl _) _ B zb, fun E hE => ?_⟩
              simp only [tVar, tC, tOp, rI, rI0, rU, tTest, tB, tAnd, tOr, tNot, tAndV, tOrV, tNotV, tIf, tNil, tCons, tTup, tLst, tCB, tSeq, tAsg, gName, tRet, tRetN, tIfS, tNext, tDrop, tCall, tUn, tPar, CMul, CDiv, V.int.injEq, V.bl.injEq, V.ref.injEq, V.str.injEq, Option.some.injEq, List.cons.injEq, and_true, true_and, and_false, false_and, or_false, false_or, or_true, true_or, exists_eq_left', exists_eq_left, exists_and_left, exists_and_right, exists_eq', exists_eq, exists_false, exists_const, List.getElem?_cons_succ, List.getElem?_cons_zero, List.set_cons_succ, List.set_cons_zero, List.length_cons, List.length_nil, List.cons_append, List.nil_append, List.append_nil, reduceCtorEq, Int.reduceLT, Int.reduceLE, Int.reduceNeg, Int.reducePow, Int.reduceSub, Int.reduceAdd, Nat.reduceAdd, Nat.reduceLeDiff, Bool.not_true, Bool.not_false, decide_true, decide_false, Bool.false_eq_true, ↓reduceIte, upd_same, not_true_eq_false, not_false_eq_true, lsO_l, lsO_f, tpO_t, tpO_f, dkO_d, dkO_f, keyO_i, keyO_s, rIxH, rIxU, cLenL, cLenT, cListL, cListT, cTupL, cIntB, cAll, rEqNilI, rEq, rNe, scal_ii, scal_ss, scal_bb, scal_nn, scal_ni, scal_in, scal_ns, scal_sn, gSub, rSetL, ixs0, ixs1, ixs2, seq0, at0, at1, at2, at3, tBM, tBM0, rAppend, rPopAt, tyV_list, tGet2, tGetI, sPut, tMG, rTIdx, tyTup, tTupF, cx_K, cx_w, ex_map_int, ex_nil_int, ex_cons_int, List.map_cons, List.map_nil, List.isEmpty_nil, List.isEmpty_cons, List.eraseIdx_zero, List.tail_cons, List.eraseIdx_cons_zero, HO.lst.injEq, HO.tup.injEq, HO.dK.injEq, HO.frz.injEq, ne_eq, gTupH, gCons, gNil, wipe, tYes, upd_upd, and_assoc, List.getElem?_map, Option.map_some, isn_non_bool, isn_non_int, isn_non_str, isn_non_tuple, isn_non_list, isn_non_dict, isn_bl_bool, isn_bl_int, isn_bl_str, isn_bl_tuple, isn_bl_list, isn_bl_dict, isn_int_bool, isn_int_int, isn_int_str, isn_int_tuple, isn_int_list, isn_int_dict, isn_str_bool, isn_str_int, isn_str_str, isn_str_tuple, isn_str_list, isn_str_dict, isn_lst_bool, isn_lst_int, isn_lst_str, isn_lst_tuple, isn_lst_list, isn_lst_dict, isn_tup_bool, isn_tup_int, isn_tup_str, isn_tup_tuple, isn_tup_list, isn_tup_dict, isn_dct_bool, isn_dct_int, isn_dct_str, isn_dct_tuple, isn_dct_list, isn_dct_dict, okn_bool, okn_int, okn_str, okn_tuple, okn_list, okn_dict, cIsi, tyT_n, tyT_b, tyT_i, tyT_s, tyT_r, V.ty.injEq, tSl, tPart, tNoPart, rSlF, gName, tFld, sFld, tMeth, tMake, tGetT, tInT, tNinT, sPutT, sAugT, tPopT, rLtH, dtO_d, dtO_f, kysO_n, kysO_i, kysO_s, intsV_n, intsV_i, HO.ins.injEq, HO.dT.injEq, tDNewT, rIxLT, cLenLT, rSub, rAdd, sFldAug, Td.rIsG, Td.rCntT, Td.rIdxT, Td.rExt, Lm.tCallZ, Lm.tLam, lkDisk_there, lkDisk_late, lkDisk_left, lkDisk_is_gone, noDisk_need_power, noDisk_count, noDisk_write, noDisk_settle, noDisk_units, noDisk_arm, noDisk_fall, inDisk_there, inDisk_late, inDisk_left, inDisk_is_gone, puDisk_there, puDisk_late, puDisk_left, puDisk_is_gone, lnDisk, lpDisk1, lpDisk2, lpDisk3, l0Disk, T.cl_Disk, T.na_Disk_there, T.na_Disk_late, T.na_Disk_left, T.na_Disk_is_gone, S9.dk.ob]
              refine ⟨x, dx, t, ll', xs, ys, left, gone, rfl, S9.dk, by omega, fun H' o kp D => hE T.C_Gone 5 "Gone" H' T.K_Gone rfl fun H2 p ss hp e => ?_, fun H' l' o hl kp D => ?_⟩
              · obtain ⟨S', kf⟩ := S9.step (by simp) kp D (.inl rfl)
                exact ⟨ll', xs, ys, left, true, S'.same ss, (tu9.kf kf).kf (Lm.KeepF.of ss), .inl ⟨io1 o, ⟨p, rfl, e⟩, rfl, rfl, rfl, rfl⟩⟩
              · obtain ⟨S', kf⟩ := S9.step (by simp) kp D (.inr hl)
                exact ⟨l', xs ++ ys, [], _, false, S', tu9.kf kf, .inr ⟨io0 o, rfl, rfl, rfl, .inl ⟨c4, rfl, rfl⟩⟩⟩
            · rw [if_neg (by simpa using c4)]
              intro d hd
              have Sd := S6.same (same_new (o := .tup [.int 0]) hd)
              refine ⟨Sd.tab, fun f H9 e9 T9 A9 B zb => ?_⟩
              have S9 := Sd.extN e9 T9
              have tu9 := (tu.kf (Lm.KeepF.of (same_new hd))).kf (Lm.KeepF.extN e9)
              refine ⟨f, _, rfl, A9 H9 (Lm.KeepF.refl _) _ B zb, fun E hE => ?_⟩
              simp only [tVar, tC, tOp, rI, rI0, rU, tTest, tB, tAnd, tOr, tNot, tAndV, tOrV, tNotV, tIf, tNil, tCons, tTup, tLst, tCB, tSeq, tAsg, gName, tRet, tRetN, tIfS, tNext, tDrop, tCall, tUn, tPar, CMul, CDiv, V.int.injEq, V.bl.injEq, V.ref.injEq, V.str.injEq, Option.some.injEq, List.cons.injEq, and_true, true_and, and_false, false_and, or_false, false_or, or_true, true_or, exists_eq_left', exists_eq_left, exists_and_left, exists_and_right, exists_eq', exists_eq, exists_false, exists_const, List.getElem?_cons_succ, List.getElem?_cons_zero, List.set_cons_succ, List.set_cons_zero, List.length_cons, List.length_nil, List.cons_append, List.nil_append, List.append_nil, reduceCtorEq, Int.reduceLT, Int.reduceLE, Int.reduceNeg, Int.reducePow, Int.reduceSub, Int.reduceAdd, Nat.reduceAdd, Nat.reduceLeDiff, Bool.not_true, Bool.not_false, decide_true, decide_false, Bool.false_eq_true, ↓reduceIte, upd_same, not_true_eq_false, not_false_eq_true, lsO_l, lsO_f, tpO_t, tpO_f, dkO_d, dkO_f, keyO_i, keyO_s, rIxH, rIxU, cLenL, cLenT, cListL, cListT, cTupL, cIntB, cAll, rEqNilI, rEq, rNe, scal_ii, scal_ss, scal_bb, scal_nn, scal_ni, scal_in, scal_ns, scal_sn, gSub, rSetL, ixs0, ixs1, ixs2, seq0, at0, at1, at2, at3, tBM, tBM0, rAppend, rPopAt, tyV_list, tGet2, tGetI, sPut, tMG, rTIdx, tyTup, tTupF, cx_K, cx_w, ex_map_int, ex_nil_int, ex_cons_int, List.map_cons, List.map_nil, List.isEmpty_nil, List.isEmpty_cons, List.eraseIdx_zero, List.tail_cons, List.eraseIdx_cons_zero, HO.lst.injEq, HO.tup.injEq, HO.dK.injEq, HO.frz.injEq, ne_eq, gTupH, gCons, gNil, wipe, tYes, upd_upd, and_assoc, List.getElem?_map, Option.map_some, isn_non_bool, isn_non_int, isn_non_str, isn_non_tuple, isn_non_list, isn_non_dict, isn_bl_bool, isn_bl_int, isn_bl_str, isn_bl_tuple, isn_bl_list, isn_bl_dict, isn_int_bool, isn_int_int, isn_int_str, isn_int_tuple, isn_int_list, isn_int_dict, isn_str_bool, isn_str_int, isn_str_str, isn_str_tuple, isn_str_list, isn_str_dict, isn_lst_bool, isn_lst_int, isn_lst_str, isn_lst_tuple, isn_lst_list, isn_lst_dict, isn_tup_bool, isn_tup_int, isn_tup_str, isn_tup_tuple, isn_tup_list, isn_tup_dict, isn_dct_bool, isn_dct_int, isn_dct_str, isn_dct_tuple, isn_dct_list, isn_dct_dict, okn_bool, okn_int, okn_str, okn_tuple, okn_list, okn_dict, cIsi, tyT_n, tyT_b, tyT_i, tyT_s, tyT_r, V.ty.injEq, tSl, tPart, tNoPart, rSlF, gName, tFld, sFld, tMeth, tMake, tGetT, tInT, tNinT, sPutT, sAugT, tPopT, rLtH, dtO_d, dtO_f, kysO_n, kysO_i, kysO_s, intsV_n, intsV_i, HO.ins.injEq, HO.dT.injEq, tDNewT, rIxLT, cLenLT, rSub, rAdd, sFldAug, Td.rIsG, Td.rCntT, Td.rIdxT, Td.rExt, Lm.tCallZ, Lm.tLam, lkDisk_there, lkDisk_late, lkDisk_left, lkDisk_is_gone, noDisk_need_power, noDisk_count, noDisk_write, noDisk_settle, noDisk_units, noDisk_arm, noDisk_fall, inDisk_there, inDisk_late, inDisk_left, inDisk_is_gone, puDisk_there, puDisk_late, puDisk_left, puDisk_is_gone, lnDisk, lpDisk1, lpDisk2, lpDisk3, l0Disk, T.cl_Disk, T.na_Disk_there, T.na_Disk_late, T.na_Disk_left, T.na_Disk_is_gone, S9.dk.ob]
              refine ⟨x, dx, t, ll', xs, ys, un, left, gone, rfl, S9.dk, by omega, fun H' o kp D => hE T.C_Gone 5 "Gone" H' T.K_Gone rfl fun H2 p ss hp e => ?_, fun H' o kp D => ?_⟩
              · obtain ⟨S', kf⟩ := S9.step (by simp) kp D (.inl rfl)
                exact ⟨ll', xs, ys, left, true, S'.same ss, (tu9.kf kf).kf (Lm.KeepF.of ss), .inl ⟨io1 o, ⟨p, rfl, e⟩, rfl, rfl, rfl, rfl⟩⟩
              · obtain ⟨S', kf⟩ := S9.step (by simp) kp D (.inl rfl)
                exact ⟨ll', xs, ys ++ [un], _, false, S', tu9.kf kf, .inr ⟨io0 o, rfl, rfl, rfl, .inr ⟨c4, rfl, rfl⟩⟩⟩
          rintro σ H8 ⟨fv, ll2, xd, yd, left2, gone2, rfl, S8, tu8, cs⟩
          cases io with
          | true =>
            rcases cs with ⟨_, ⟨p, rfl, ep⟩, rfl, rfl, rfl, rfl⟩ | ⟨z, _⟩
            · simp only [tVar, tC, tOp, rI, rI0, rU, tTest, tB, tAnd, tOr, tNot, tAndV, tOrV, tNotV, tIf, tNil, tCons, tTup, tLst, tCB, tSeq, tAsg, gName, tRet, tRetN, tIfS, tNext, tDrop, tCall, tUn, tPar, CMul, CDiv, V.int.injEq, V.bl.injEq, V.ref.injEq, V.str.injEq, Option.some.injEq, List.cons.injEq, and_true, true_and, and_false, false_and, or_false, false_or, or_true, true_or, exists_eq_left', exists_eq_left, exists_and_left, exists_and_right, exists_eq', exists_eq, exists_false, exists_const, List.getElem?_cons_succ, List.getElem?_cons_zero, List.set_cons_succ, List.set_cons_zero, List.length_cons, List.length_nil, List.cons_append, List.nil_append, List.append_nil, reduceCtorEq, Int.reduceLT, Int.reduceLE, Int.reduceNeg, Int.reducePow, Int.reduceSub, Int.reduceAdd, Nat.reduceAdd, Nat.reduceLeDiff, Bool.not_true, Bool.not_false, decide_true, decide_false, Bool.false_eq_true, ↓reduceIte, upd_same, not_true_eq_false, not_false_eq_true, lsO_l, lsO_f, tpO_t, tpO_f, dkO_d, dkO_f, keyO_i, keyO_s, rIxH, rIxU, cLenL, cLenT, cListL, cListT, cTupL, cIntB, cAll, rEqNilI, rEq, rNe, scal_ii, scal_ss, scal_bb, scal_nn, scal_ni, scal_in, scal_ns, scal_sn, gSub, rSetL, ixs0, ixs1, ixs2, seq0, at0, at1, at2, at3, tBM, tBM0, rAppend, rPopAt, tyV_list, tGet2, tGetI, sPut, tMG, rTIdx, tyTup, tTupF, cx_K, cx_w, ex_map_int, ex_nil_int, ex_cons_int, List.map_cons, List.map_nil, List.isEmpty_nil, List.isEmpty_cons, List.eraseIdx_zero, List.tail_cons, List.eraseIdx_cons_zero, HO.lst.injEq, HO.tup.injEq, HO.dK.injEq, HO.frz.injEq, ne_eq, gTupH, gCons, gNil, wipe, tYes, upd_upd, and_assoc, List.getElem?_map, Option.map_some, isn_non_bool, isn_non_int, isn_non_str, isn_non_tuple, isn_non_list, isn_non_dict, isn_bl_bool, isn_bl_int, isn_bl_str, isn_bl_tuple, isn_bl_list, isn_bl_dict, isn_int_bool, isn_int_int, isn_int_str, isn_int_tuple, isn_int_list, isn_int_dict, isn_str_bool, isn_str_int, isn_str_str, isn_str_tuple, isn_str_list, isn_str_dict, isn_lst_bool, isn_lst_int, isn_lst_str, isn_lst_tuple, isn_lst_list, isn_lst_dict, isn_tup_bool, isn_tup_int, isn_tup_str, isn_tup_tuple, isn_tup_list, isn_tup_dict, isn_dct_bool, isn_dct_int, isn_dct_str, isn_dct_tuple, isn_dct_list, isn_dct_dict, okn_bool, okn_int, okn_str, okn_tuple, okn_list, okn_dict, cIsi, tyT_n, tyT_b, tyT_i, tyT_s, tyT_r, V.ty.injEq, tSl, tPart, tNoPart, rSlF, gName, tFld, sFld, tMeth, tMake, tGetT, tInT, tNinT, sPutT, sAugT, tPopT, rLtH, dtO_d, dtO_f, kysO_n, kysO_i, kysO_s, intsV_n, intsV_i, HO.ins.injEq, HO.dT.injEq, tDNewT, rIxLT, cLenLT, rSub, rAdd, sFldAug, Td.rIsG, Td.rCntT, Td.rIdxT, Td.rExt, Lm.tCallZ, Lm.tLam]
              refine ⟨szl (by decide), fun q hq => ?_⟩
              have sq := same_new (o := .tup [.str "Gone", .int 0]) hq
              refine ⟨_, _, .tup [.str "Gone", .int 0], rfl, pair_rx (sq _ _ ep), pair_rx upd_same, by simp [Dx.deep, Dx.deepL], by simp [Dx.fits, Dx.fitsL], true, rfl, ?_⟩
              rw [if_neg (by simp)]
              exact ⟨_, _, _, _, _, _, _, _, ll2, xd, yd, left2, rfl, rfl, rfl, rfl, rfl, rfl, rfl, rfl, rfl, S8.same sq, by omega⟩
            · cases z
          | false =>
            rcases cs with ⟨z, _⟩ | ⟨_, rfl, rfl, rfl, cs⟩
            · cases z
            · simp only [tVar, tC, tOp, rI, rI0, rU, tTest, tB, tAnd, tOr, tNot, tAndV, tOrV, tNotV, tIf, tNil, tCons, tTup, tLst, tCB, tSeq, tAsg, gName, tRet, tRetN, tIfS, tNext, tDrop, tCall, tUn, tPar, CMul, CDiv, V.int.injEq, V.bl.injEq, V.ref.injEq, V.str.injEq, Option.some.injEq, List.cons.injEq, and_true, true_and, and_false, false_and, or_false, false_or, or_true, true_or, exists_eq_left', exists_eq_left, exists_and_left, exists_and_right, exists_eq', exists_eq, exists_false, exists_const, List.getElem?_cons_succ, List.getElem?_cons_zero, List.set_cons_succ, List.set_cons_zero, List.length_cons, List.length_nil, List.cons_append, List.nil_append, List.append_nil, reduceCtorEq, Int.reduceLT, Int.reduceLE, Int.reduceNeg, Int.reducePow, Int.reduceSub, Int.reduceAdd, Nat.reduceAdd, Nat.reduceLeDiff, Bool.not_true, Bool.not_false, decide_true, decide_false, Bool.false_eq_true, ↓reduceIte, upd_same, not_true_eq_false, not_false_eq_true, lsO_l, lsO_f, tpO_t, tpO_f, dkO_d, dkO_f, keyO_i, keyO_s, rIxH, rIxU, cLenL, cLenT, cListL, cListT, cTupL, cIntB, cAll, rEqNilI, rEq, rNe, scal_ii, scal_ss, scal_bb, scal_nn, scal_ni, scal_in, scal_ns, scal_sn, gSub, rSetL, ixs0, ixs1, ixs2, seq0, at0, at1, at2, at3, tBM, tBM0, rAppend, rPopAt, tyV_list, tGet2, tGetI, sPut, tMG, rTIdx, tyTup, tTupF, cx_K, cx_w, ex_map_int, ex_nil_int, ex_cons_int, List.map_cons, List.map_nil, List.isEmpty_nil, List.isEmpty_cons, List.eraseIdx_zero, List.tail_cons, List.eraseIdx_cons_zero, HO.lst.injEq, HO.tup.injEq, HO.dK.injEq, HO.frz.injEq, ne_eq, gTupH, gCons, gNil, wipe, tYes, upd_upd, and_assoc, List.getElem?_map, Option.map_some, isn_non_bool, isn_non_int, isn_non_str, isn_non_tuple, isn_non_list, isn_non_dict, isn_bl_bool, isn_bl_int, isn_bl_str, isn_bl_tuple, isn_bl_list, isn_bl_dict, isn_int_bool, isn_int_int, isn_int_str, isn_int_tuple, isn_int_list, isn_int_dict, isn_str_bool, isn_str_int, isn_str_str, isn_str_tuple, isn_str_list, isn_str_dict, isn_lst_bool, isn_lst_int, isn_lst_str, isn_lst_tuple, isn_lst_list, isn_lst_dict, isn_tup_bool, isn_tup_int, isn_tup_str, isn_tup_tuple, isn_tup_list, isn_tup_dict, isn_dct_bool, isn_dct_int, isn_dct_str, isn_dct_tuple, isn_dct_list, isn_dct_dict, okn_bool, okn_int, okn_str, okn_tuple, okn_list, okn_dict, cIsi, tyT_n, tyT_b, tyT_i, tyT_s, tyT_r, V.ty.injEq, tSl, tPart, tNoPart, rSlF, gName, tFld, sFld, tMeth, tMake, tGetT, tInT, tNinT, sPutT, sAugT, tPopT, rLtH, dtO_d, dtO_f, kysO_n, kysO_i, kysO_s, intsV_n, intsV_i, HO.ins.injEq, HO.dT.injEq, tDNewT, rIxLT, cLenLT, rSub, rAdd, sFldAug, Td.rIsG, Td.rCntT, Td.rIdxT, Td.rExt, Lm.tCallZ, Lm.tLam]
              refine ⟨_, _, .non, rfl, by simp [RX], by simp [RX], by simp [Dx.deep], by simp [Dx.fits], true, rfl, ?_⟩
              rw [if_neg (by simp)]
              rcases cs with ⟨c4, rfl, rfl⟩ | ⟨c4, rfl, rfl⟩
              · have fin : ∀ p q, H8 p = none → upd H8 p (.lst (xs ++ ys)) q = none → St38 T.C_Disk T.P_law h l x dx t ll2 p q (upd (upd H8 p (.lst (xs ++ ys))) q (.lst [])) (xs ++ ys) [] (xs ++ ys) [] (left.map fun i => i - 1) false := fun p q hp hq => by
                  have sp := same_new (o := .lst (xs ++ ys)) hp
                  have sq := same_new (o := .lst []) hq
                  exact S8.law (sp.trans sq) (sq _ _ upd_same) upd_same (.inr hp) (.inr (sp.free hq)) (by rw [List.append_nil]; exact S8.us)
                cases left with
                | none =>
                  rw [if_pos (by simp [oi]), if_pos (decide_eq_true c4)]
                  exact ⟨lt', ly', xs, ys, rfl, rfl, S8.eX, S8.eY, szl (by omega), fun p hp => ⟨szl (by decide), fun q hq => ⟨_, _, _, _, _, _, _, _, ll2, p, rfl, xs ++ ys, [], none, rfl, rfl, rfl, rfl, rfl, rfl, rfl, rfl, rfl, fin p q hp hq, by rw [List.length_append, List.length_nil]; omega⟩⟩⟩
                | some j =>
                  rw [if_neg (by simp [oi])]
                  refine ⟨j, rfl, ?_⟩
                  rw [if_pos (decide_eq_true c4)]
                  exact ⟨lt', ly', xs, ys, rfl, rfl, S8.eX, S8.eY, szl (by omega), fun p hp => ⟨szl (by decide), fun q hq => ⟨_, _, _, _, _, _, _, _, ll2, p, rfl, xs ++ ys, [], some (j - 1), rfl, rfl, rfl, rfl, rfl, rfl, rfl, rfl, rfl, fin p q hp hq, by rw [List.length_append, List.length_nil]; omega⟩⟩⟩
              · have fin : ∀ p q, H8 p = none → upd H8 p (.lst [un]) q = none → St38 T.C_Disk T.P_law h l x dx t ll2 lt' q (upd (upd H8 p (.lst [un])) q (.lst (ys ++ [un]))) xd (ys ++ [un]) xd (ys ++ [un]) (left.map fun i => i - 1) false := fun p q hp hq => by
                  have sp := same_new (o := .lst [un]) hp
                  have sq := same_new (o := .lst (ys ++ [un])) hq
                  refine S8.law (sp.trans sq) (sq _ _ (sp _ _ S8.eX)) upd_same (.inl rfl) (.inr (sp.free hq)) fun u hu => ?_
                  rw [← List.append_assoc] at hu
                  rcases List.mem_append.mp hu with z | z
                  · exact S8.us u z
                  · rw [List.mem_singleton.mp z]
                    exact tu8
                cases left with
                | none =>
                  rw [if_pos (by simp [oi]), if_neg (by simpa using c4)]
                  exact ⟨szl (by decide), fun p hp => ⟨ly', p, ys, [un], rfl, rfl, by rw [upd_ne (ne_of_none S8.eY hp)]; exact S8.eY, upd_same, szl (by rw [List.length_singleton]; omega), fun q hq => ⟨_, _, _, _, _, _, _, _, ll2, q, rfl, xd, ys ++ [un], none, rfl, rfl, rfl, rfl, rfl, rfl, rfl, rfl, rfl, fin p q hp hq, by rw [List.length_append, List.length_singleton]; omega⟩⟩⟩
                | some j =>
                  rw [if_neg (by simp [oi])]
                  refine ⟨j, rfl, ?_⟩
                  rw [if_neg (by simpa using c4)]
                  exact ⟨szl (by decide), fun p hp => ⟨ly', p, ys, [un], rfl, rfl, by rw [upd_ne (ne_of_none S8.eY hp)]; exact S8.eY, upd_same, szl (by rw [List.length_singleton]; omega), fun q hq => ⟨_, _, _, _, _, _, _, _, ll2, q, rfl, xd, ys ++ [un], some (j - 1), rfl, rfl, rfl, rfl, rfl, rfl, rfl, rfl, rfl, fin p q hp hq, by rw [List.length_append, List.length_singleton]; omega⟩⟩⟩
        · rw [if_neg (by simpa using c7)]
          have idle : ∃ (y6 y7 y8 y9 y10 y11 y12 y14 : Option V) (ll : Addr) (x_1 x_2 : List V) (x_3 : OI), oi left = oi x_3 ∧ some (V.int (0 + (i : Int))) = y6 ∧ some (V.int wv) = y7 ∧ z8 = y8 ∧ z9 = y9 ∧ z10 = y10 ∧ z11 = y11 ∧ z12 = y12 ∧ some un = y14 ∧ St38 T.C_Disk T.P_law h l x dx t ll lt' ly' H6 x_1 x_2 x_1 x_2 x_3 gone ∧ x_1.length + x_2.length ≤ i + 1 :=
            ⟨_, _, _, _, _, _, _, _, ll', xs, ys, left, rfl, rfl, rfl, rfl, rfl, rfl, rfl, rfl, rfl, S6, by omega⟩
          by_cases c : wv = 7
          · rw [if_pos (decide_eq_true c)]
            cases gone with
            | true =>
              rw [if_neg (by simp), if_neg (by simp; omega)]
              exact idle
            | false =>
              rw [if_pos (by simp)]
              refine ⟨h, l, 9, rfl, S6.box, by decide, by decide, fun r H7 r0 r1 B7 k7 => ?_⟩
              have S7 := S6.keepB B7 k7
              simp only [tVar, tC, tOp, rI, rI0, rU, tTest, tB, tAnd, tOr, tNot, tAndV, tOrV, tNotV, tIf, tNil, tCons, tTup, tLst, tCB, tSeq, tAsg, gName, tRet, tRetN, tIfS, tNext, tDrop, tCall, tUn, tPar, CMul, CDiv, V.int.injEq, V.bl.injEq, V.ref.injEq, V.str.injEq, Option.some.injEq, List.cons.injEq, and_true, true_and, and_false, false_and, or_false, false_or, or_true, true_or, exists_eq_left', exists_eq_left, exists_and_left, exists_and_right, exists_eq', exists_eq, exists_false, exists_const, List.getElem?_cons_succ, List.getElem?_cons_zero, List.set_cons_succ, List.set_cons_zero, List.length_cons, List.length_nil, List.cons_append, List.nil_append, List.append_nil, reduceCtorEq, Int.reduceLT, Int.reduceLE, Int.reduceNeg, Int.reducePow, Int.reduceSub, Int.reduceAdd, Nat.reduceAdd, Nat.reduceLeDiff, Bool.not_true, Bool.not_false, decide_true, decide_false, Bool.false_eq_true, ↓reduceIte, upd_same, not_true_eq_false, not_false_eq_true, lsO_l, lsO_f, tpO_t, tpO_f, dkO_d, dkO_f, keyO_i, keyO_s, rIxH, rIxU, cLenL, cLenT, cListL, cListT, cTupL, cIntB, cAll, rEqNilI, rEq, rNe, scal_ii, scal_ss, scal_bb, scal_nn, scal_ni, scal_in, scal_ns, scal_sn, gSub, rSetL, ixs0, ixs1, ixs2, seq0, at0, at1, at2, at3, tBM, tBM0, rAppend, rPopAt, tyV_list, tGet2, tGetI, sPut, tMG, rTIdx, tyTup, tTupF, cx_K, cx_w, ex_map_int, ex_nil_int, ex_cons_int, List.map_cons, List.map_nil, List.isEmpty_nil, List.isEmpty_cons, List.eraseIdx_zero, List.tail_cons, List.eraseIdx_cons_zero, HO.lst.injEq, HO.tup.injEq, HO.dK.injEq, HO.frz.injEq, ne_eq, gTupH, gCons, gNil, wipe, tYes, upd_upd, and_assoc, List.getElem?_map, Option.map_some, isn_non_bool, isn_non_int, isn_non_str, isn_non_tuple, isn_non_list, isn_non_dict, isn_bl_bool, isn_bl_int, isn_bl_str, isn_bl_tuple, isn_bl_list, isn_bl_dict, isn_int_bool, isn_int_int, isn_int_str, isn_int_tuple, isn_int_list, isn_int_dict, isn_str_bool, isn_str_int, isn_str_str, isn_str_tuple, isn_str_list, isn_str_dict, isn_lst_bool, isn_lst_int, isn_lst_str, isn_lst_tuple, isn_lst_list, isn_lst_dict, isn_tup_bool, isn_tup_int, isn_tup_str, isn_tup_tuple, isn_tup_list, isn_tup_dict, isn_dct_bool, isn_dct_int, isn_dct_str, isn_dct_tuple, isn_dct_list, isn_dct_dict, okn_bool, okn_int, okn_str, okn_tuple, okn_list, okn_dict, cIsi, tyT_n, tyT_b, tyT_i, tyT_s, tyT_r, V.ty.injEq, tSl, tPart, tNoPart, rSlF, gName, tFld, sFld, tMeth, tMake, tGetT, tInT, tNinT, sPutT, sAugT, tPopT, rLtH, dtO_d, dtO_f, kysO_n, kysO_i, kysO_s, intsV_n, intsV_i, HO.ins.injEq, HO.dT.injEq, tDNewT, rIxLT, cLenLT, rSub, rAdd, sFldAug, Td.rIsG, Td.rCntT, Td.rIdxT, Td.rExt, Lm.tCallZ, Lm.tLam, lkDisk_there, lkDisk_late, lkDisk_left, lkDisk_is_gone, noDisk_need_power, noDisk_count, noDisk_write, noDisk_settle, noDisk_units, noDisk_arm, noDisk_fall, inDisk_there, inDisk_late, inDisk_left, inDisk_is_gone, puDisk_there, puDisk_late, puDisk_left, puDisk_is_gone, lnDisk, lpDisk1, lpDisk2, lpDisk3, l0Disk, T.cl_Disk, T.na_Disk_there, T.na_Disk_late, T.na_Disk_left, T.na_Disk_is_gone, S7.dk.ob]
              refine ⟨x, dx, t, ll', xs, ys, left, false, r, rfl, S7.dk, fun z => absurd z (by omega), fun H8 _ k8 D => ?_⟩
              obtain ⟨S8, _⟩ := S7.step (by simp) k8 D (.inl rfl)
              exact ⟨_, _, _, _, _, _, _, _, ll', xs, ys, some r, rfl, rfl, rfl, rfl, rfl, rfl, rfl, rfl, rfl, S8, by omega⟩
          · rw [if_neg (by simpa using c), if_pos (by simp; omega)]
            refine take2 rfl S6.box (by decide) (by decide) fun r H7 r0 r1 B7 k7 => ?_
            have S7 := S6.keepB B7 k7
            simp only [tVar, tC, tOp, rI, rI0, rU, tTest, tB, tAnd, tOr, tNot, tAndV, tOrV, tNotV, tIf, tNil, tCons, tTup, tLst, tCB, tSeq, tAsg, gName, tRet, tRetN, tIfS, tNext, tDrop, tCall, tUn, tPar, CMul, CDiv, V.int.injEq, V.bl.injEq, V.ref.injEq, V.str.injEq, Option.some.injEq, List.cons.injEq, and_true, true_and, and_false, false_and, or_false, false_or, or_true, true_or, exists_eq_left', exists_eq_left, exists_and_left, exists_and_right, exists_eq', exists_eq, exists_false, exists_const, List.getElem?_cons_succ, List.getElem?_cons_zero, List.set_cons_succ, List.set_cons_zero, List.length_cons, List.length_nil, List.cons_append, List.nil_append, List.append_nil, reduceCtorEq, Int.reduceLT, Int.reduceLE, Int.reduceNeg, Int.reducePow, Int.reduceSub, Int.reduceAdd, Nat.reduceAdd, Nat.reduceLeDiff, Bool.not_true, Bool.not_false, decide_true, decide_false, Bool.false_eq_true, ↓reduceIte, upd_same, not_true_eq_false, not_false_eq_true, lsO_l, lsO_f, tpO_t, tpO_f, dkO_d, dkO_f, keyO_i, keyO_s, rIxH, rIxU, cLenL, cLenT, cListL, cListT, cTupL, cIntB, cAll, rEqNilI, rEq, rNe, scal_ii, scal_ss, scal_bb, scal_nn, scal_ni, scal_in, scal_ns, scal_sn, gSub, rSetL, ixs0, ixs1, ixs2, seq0, at0, at1, at2, at3, tBM, tBM0, rAppend, rPopAt, tyV_list, tGet2, tGetI, sPut, tMG, rTIdx, tyTup, tTupF, cx_K, cx_w, ex_map_int, ex_nil_int, ex_cons_int, List.map_cons, List.map_nil, List.isEmpty_nil, List.isEmpty_cons, List.eraseIdx_zero, List.tail_cons, List.eraseIdx_cons_zero, HO.lst.injEq, HO.tup.injEq, HO.dK.injEq, HO.frz.injEq, ne_eq, gTupH, gCons, gNil, wipe, tYes, upd_upd, and_assoc, List.getElem?_map, Option.map_some, isn_non_bool, isn_non_int, isn_non_str, isn_non_tuple, isn_non_list, isn_non_dict, isn_bl_bool, isn_bl_int, isn_bl_str, isn_bl_tuple, isn_bl_list, isn_bl_dict, isn_int_bool, isn_int_int, isn_int_str, isn_int_tuple, isn_int_list, isn_int_dict, isn_str_bool, isn_str_int, isn_str_str, isn_str_tuple, isn_str_list, isn_str_dict, isn_lst_bool, isn_lst_int, isn_lst_str, isn_lst_tuple, isn_lst_list, isn_lst_dict, isn_tup_bool, isn_tup_int, isn_tup_str, isn_tup_tuple, isn_tup_list, isn_tup_dict, isn_dct_bool, isn_dct_int, isn_dct_str, isn_dct_tuple, isn_dct_list, isn_dct_dict, okn_bool, okn_int, okn_str, okn_tuple, okn_list, okn_dict, cIsi, tyT_n, tyT_b, tyT_i, tyT_s, tyT_r, V.ty.injEq, tSl, tPart, tNoPart, rSlF, gName, tFld, sFld, tMeth, tMake, tGetT, tInT, tNinT, sPutT, sAugT, tPopT, rLtH, dtO_d, dtO_f, kysO_n, kysO_i, kysO_s, intsV_n, intsV_i, HO.ins.injEq, HO.dT.injEq, tDNewT, rIxLT, cLenLT, rSub, rAdd, sFldAug, Td.rIsG, Td.rCntT, Td.rIdxT, Td.rExt, Lm.tCallZ, Lm.tLam, lkDisk_there, lkDisk_late, lkDisk_left, lkDisk_is_gone, noDisk_need_power, noDisk_count, noDisk_write, noDisk_settle, noDisk_units, noDisk_arm, noDisk_fall, inDisk_there, inDisk_late, inDisk_left, inDisk_is_gone, puDisk_there, puDisk_late, puDisk_left, puDisk_is_gone, lnDisk, lpDisk1, lpDisk2, lpDisk3, l0Disk, T.cl_Disk, T.na_Disk_there, T.na_Disk_late, T.na_Disk_left, T.na_Disk_is_gone, S7.dk.ob]
            refine ⟨x, dx, t, ll', xs, ys, left, gone, r, rfl, S7.dk, by omega, fun z => absurd z (by omega), fun H8 l2 _ hl2 k8 D => ?_⟩
            obtain ⟨S8, _⟩ := S7.step (by simp) k8 D (.inr hl2)
            refine ⟨ly', ys, rfl, .inl (.inl S8.eY), fun p hp => ?_⟩
            rw [cut_to ys r0]
            have lcut : (ys.take r.toNat).length ≤ ys.length := by rw [List.length_take]; omega
            have sp := same_new (o := .lst (ys.take r.toNat)) hp
            refine ⟨lt', p, xs, _, rfl, rfl, sp _ _ S8.eX, upd_same, szl (by omega), fun q hq => ?_⟩
            have sq := same_new (o := .lst (xs ++ ys.take r.toNat)) hq
            refine ⟨szl (by decide), fun p3 hp3 => ?_⟩
            have s3 := same_new (o := .lst []) hp3
            refine ⟨szl (by decide), fun p4 hp4 => ⟨_, _, _, _, _, _, _, _, l2, q, rfl, xs ++ ys.take r.toNat, [], none, rfl, rfl, rfl, rfl, rfl, rfl, rfl, rfl, rfl, ?_, by rw [List.length_append, List.length_nil]; omega⟩⟩
            refine (S8.law ((sp.trans sq).trans s3) (s3 _ _ upd_same) upd_same (.inr (sp.free hq)) (.inr ((sp.trans sq).free hp3)) fun u hu => ?_).same (same_new hp4)
            rw [List.append_nil] at hu
            rcases List.mem_append.mp hu with z | z
            · exact S8.us u (List.mem_append_left _ z)
            · exact S8.us u (List.mem_append_right _ (List.mem_of_mem_take z))
      rintro σ H7 ⟨y6, y7, y8, y9, y10, y11, y12, y14, ll7, lt7, ly7, xs7, ys7, left7, gone7, rfl, S7, hq7⟩
      -- what can not be
      refine ⟨fun σ' H8 => ∃ (b : Int), b < 0 ∧ σ' = [some (.ref a), some (.ref h), some (.ref lt7), some (.ref ly7), some (oi left7), some (.bl gone7), y6, y7, y8, y9, y10, y11, some (.int b), some (.ref x), y14] ∧ St38 T.C_Disk T.P_law h l x dx t ll7 lt7 ly7 H8 xs7 ys7 xs7 ys7 left7 gone7, ?_, ?_⟩
      · simp only [tVar, tC, tOp, rI, rI0, rU, tTest, tB, tAnd, tOr, tNot, tAndV, tOrV, tNotV, tIf, tNil, tCons, tTup, tLst, tCB, tSeq, tAsg, gName, tRet, tRetN, tIfS, tNext, tDrop, tCall, tUn, tPar, CMul, CDiv, V.int.injEq, V.bl.injEq, V.ref.injEq, V.str.injEq, Option.some.injEq, List.cons.injEq, and_true, true_and, and_false, false_and, or_false, false_or, or_true, true_or, exists_eq_left', exists_eq_left, exists_and_left, exists_and_right, exists_eq', exists_eq, exists_false, exists_const, List.getElem?_cons_succ, List.getElem?_cons_zero, List.set_cons_succ, List.set_cons_zero, List.length_cons, List.length_nil, List.cons_append, List.nil_append, List.append_nil, reduceCtorEq, Int.reduceLT, Int.reduceLE, Int.reduceNeg, Int.reducePow, Int.reduceSub, Int.reduceAdd, Nat.reduceAdd, Nat.reduceLeDiff, Bool.not_true, Bool.not_false, decide_true, decide_false, Bool.false_eq_true, ↓reduceIte, upd_same, not_true_eq_false, not_false_eq_true, lsO_l, lsO_f, tpO_t, tpO_f, dkO_d, dkO_f, keyO_i, keyO_s, rIxH, rIxU, cLenL, cLenT, cListL, cListT, cTupL, cIntB, cAll, rEqNilI, rEq, rNe, scal_ii, scal_ss, scal_bb, scal_nn, scal_ni, scal_in, scal_ns, scal_sn, gSub, rSetL, ixs0, ixs1, ixs2, seq0, at0, at1, at2, at3, tBM, tBM0, rAppend, rPopAt, tyV_list, tGet2, tGetI, sPut, tMG, rTIdx, tyTup, tTupF, cx_K, cx_w, ex_map_int, ex_nil_int, ex_cons_int, List.map_cons, List.map_nil, List.isEmpty_nil, List.isEmpty_cons, List.eraseIdx_zero, List.tail_cons, List.eraseIdx_cons_zero, HO.lst.injEq, HO.tup.injEq, HO.dK.injEq, HO.frz.injEq, ne_eq, gTupH, gCons, gNil, wipe, tYes, upd_upd, and_assoc, List.getElem?_map, Option.map_some, isn_non_bool, isn_non_int, isn_non_str, isn_non_tuple, isn_non_list, isn_non_dict, isn_bl_bool, isn_bl_int, isn_bl_str, isn_bl_tuple, isn_bl_list, isn_bl_dict, isn_int_bool, isn_int_int, isn_int_str, isn_int_tuple, isn_int_list, isn_int_dict, isn_str_bool, isn_str_int, isn_str_str, isn_str_tuple, isn_str_list, isn_str_dict, isn_lst_bool, isn_lst_int, isn_lst_str, isn_lst_tuple, isn_lst_list, isn_lst_dict, isn_tup_bool, isn_tup_int, isn_tup_str, isn_tup_tuple, isn_tup_list, isn_tup_dict, isn_dct_bool, isn_dct_int, isn_dct_str, isn_dct_tuple, isn_dct_list, isn_dct_dict, okn_bool, okn_int, okn_str, okn_tuple, okn_list, okn_dict, cIsi, tyT_n, tyT_b, tyT_i, tyT_s, tyT_r, V.ty.injEq, tSl, tPart, tNoPart, rSlF, gName, tFld, sFld, tMeth, tMake, tGetT, tInT, tNinT, sPutT, sAugT, tPopT, rLtH, dtO_d, dtO_f, kysO_n, kysO_i, kysO_s, intsV_n, intsV_i, HO.ins.injEq, HO.dT.injEq, tDNewT, rIxLT, cLenLT, rSub, rAdd, sFldAug, Td.rIsG, Td.rCntT, Td.rIdxT, Td.rExt, Lm.tCallZ, Lm.tLam]
        refine ⟨h, l, 9, rfl, S7.box, by decide, by decide, fun r H8 r0 r1 B8 k8 => ?_⟩
        simp only [tVar, tC, tOp, rI, rI0, rU, tTest, tB, tAnd, tOr, tNot, tAndV, tOrV, tNotV, tIf, tNil, tCons, tTup, tLst, tCB, tSeq, tAsg, gName, tRet, tRetN, tIfS, tNext, tDrop, tCall, tUn, tPar, CMul, CDiv, V.int.injEq, V.bl.injEq, V.ref.injEq, V.str.injEq, Option.some.injEq, List.cons.injEq, and_true, true_and, and_false, false_and, or_false, false_or, or_true, true_or, exists_eq_left', exists_eq_left, exists_and_left, exists_and_right, exists_eq', exists_eq, exists_false, exists_const, List.getElem?_cons_succ, List.getElem?_cons_zero, List.set_cons_succ, List.set_cons_zero, List.length_cons, List.length_nil, List.cons_append, List.nil_append, List.append_nil, reduceCtorEq, Int.reduceLT, Int.reduceLE, Int.reduceNeg, Int.reducePow, Int.reduceSub, Int.reduceAdd, Nat.reduceAdd, Nat.reduceLeDiff, Bool.not_true, Bool.not_false, decide_true, decide_false, Bool.false_eq_true, ↓reduceIte, upd_same, not_true_eq_false, not_false_eq_true, lsO_l, lsO_f, tpO_t, tpO_f, dkO_d, dkO_f, keyO_i, keyO_s, rIxH, rIxU, cLenL, cLenT, cListL, cListT, cTupL, cIntB, cAll, rEqNilI, rEq, rNe, scal_ii, scal_ss, scal_bb, scal_nn, scal_ni, scal_in, scal_ns, scal_sn, gSub, rSetL, ixs0, ixs1, ixs2, seq0, at0, at1, at2, at3, tBM, tBM0, rAppend, rPopAt, tyV_list, tGet2, tGetI, sPut, tMG, rTIdx, tyTup, tTupF, cx_K, cx_w, ex_map_int, ex_nil_int, ex_cons_int, List.map_cons, List.map_nil, List.isEmpty_nil, List.isEmpty_cons, List.eraseIdx_zero, List.tail_cons, List.eraseIdx_cons_zero, HO.lst.injEq, HO.tup.injEq, HO.dK.injEq, HO.frz.injEq, ne_eq, gTupH, gCons, gNil, wipe, tYes, upd_upd, and_assoc, List.getElem?_map, Option.map_some, isn_non_bool, isn_non_int, isn_non_str, isn_non_tuple, isn_non_list, isn_non_dict, isn_bl_bool, isn_bl_int, isn_bl_str, isn_bl_tuple, isn_bl_list, isn_bl_dict, isn_int_bool, isn_int_int, isn_int_str, isn_int_tuple, isn_int_list, isn_int_dict, isn_str_bool, isn_str_int, isn_str_str, isn_str_tuple, isn_str_list, isn_str_dict, isn_lst_bool, isn_lst_int, isn_lst_str, isn_lst_tuple, isn_lst_list, isn_lst_dict, isn_tup_bool, isn_tup_int, isn_tup_str, isn_tup_tuple, isn_tup_list, isn_tup_dict, isn_dct_bool, isn_dct_int, isn_dct_str, isn_dct_tuple, isn_dct_list, isn_dct_dict, okn_bool, okn_int, okn_str, okn_tuple, okn_list, okn_dict, cIsi, tyT_n, tyT_b, tyT_i, tyT_s, tyT_r, V.ty.injEq, tSl, tPart, tNoPart, rSlF, gName, tFld, sFld, tMeth, tMake, tGetT, tInT, tNinT, sPutT, sAugT, tPopT, rLtH, dtO_d, dtO_f, kysO_n, kysO_i, kysO_s, intsV_n, intsV_i, HO.ins.injEq, HO.dT.injEq, tDNewT, rIxLT, cLenLT, rSub, rAdd, sFldAug, Td.rIsG, Td.rCntT, Td.rIdxT, Td.rExt, Lm.tCallZ, Lm.tLam]
        exact ⟨-1 - r, by omega, rfl, S7.keepB B8 k8⟩
      rintro σ H8 ⟨b, hb, rfl, S8⟩
      simp only [tVar, tC, tOp, rI, rI0, rU, tTest, tB, tAnd, tOr, tNot, tAndV, tOrV, tNotV, tIf, tNil, tCons, tTup, tLst, tCB, tSeq, tAsg, gName, tRet, tRetN, tIfS, tNext, tDrop, tCall, tUn, tPar, CMul, CDiv, V.int.injEq, V.bl.injEq, V.ref.injEq, V.str.injEq, Option.some.injEq, List.cons.injEq, and_true, true_and, and_false, false_and, or_false, false_or, or_true, true_or, exists_eq_left', exists_eq_left, exists_and_left, exists_and_right, exists_eq', exists_eq, exists_false, exists_const, List.getElem?_cons_succ, List.getElem?_cons_zero, List.set_cons_succ, List.set_cons_zero, List.length_cons, List.length_nil, List.cons_append, List.nil_append, List.append_nil, reduceCtorEq, Int.reduceLT, Int.reduceLE, Int.reduceNeg, Int.reducePow, Int.reduceSub, Int.reduceAdd, Nat.reduceAdd, Nat.reduceLeDiff, Bool.not_true, Bool.not_false, decide_true, decide_false, Bool.false_eq_true, ↓reduceIte, upd_same, not_true_eq_false, not_false_eq_true, lsO_l, lsO_f, tpO_t, tpO_f, dkO_d, dkO_f, keyO_i, keyO_s, rIxH, rIxU, cLenL, cLenT, cListL, cListT, cTupL, cIntB, cAll, rEqNilI, rEq, rNe, scal_ii, scal_ss, scal_bb, scal_nn, scal_ni, scal_in, scal_ns, scal_sn, gSub, rSetL, ixs0, ixs1, ixs2, seq0, at0, at1, at2, at3, tBM, tBM0, rAppend, rPopAt, tyV_list, tGet2, tGetI, sPut, tMG, rTIdx, tyTup, tTupF, cx_K, cx_w, ex_map_int, ex_nil_int, ex_cons_int, List.map_cons, List.map_nil, List.isEmpty_nil, List.isEmpty_cons, List.eraseIdx_zero, List.tail_cons, List.eraseIdx_cons_zero, HO.lst.injEq, HO.tup.injEq, HO.dK.injEq, HO.frz.injEq, ne_eq, gTupH, gCons, gNil, wipe, tYes, upd_upd, and_assoc, List.getElem?_map, Option.map_some, isn_non_bool, isn_non_int, isn_non_str, isn_non_tuple, isn_non_list, isn_non_dict, isn_bl_bool, isn_bl_int, isn_bl_str, isn_bl_tuple, isn_bl_list, isn_bl_dict, isn_int_bool, isn_int_int, isn_int_str, isn_int_tuple, isn_int_list, isn_int_dict, isn_str_bool, isn_str_int, isn_str_str, isn_str_tuple, isn_str_list, isn_str_dict, isn_lst_bool, isn_lst_int, isn_lst_str, isn_lst_tuple, isn_lst_list, isn_lst_dict, isn_tup_bool, isn_tup_int, isn_tup_str, isn_tup_tuple, isn_tup_list, isn_tup_dict, isn_dct_bool, isn_dct_int, isn_dct_str, isn_dct_tuple, isn_dct_list, isn_dct_dict, okn_bool, okn_int, okn_str, okn_tuple, okn_list, okn_dict, cIsi, tyT_n, tyT_b, tyT_i, tyT_s, tyT_r, V.ty.injEq, tSl, tPart, tNoPart, rSlF, gName, tFld, sFld, tMeth, tMake, tGetT, tInT, tNinT, sPutT, sAugT, tPopT, rLtH, dtO_d, dtO_f, kysO_n, kysO_i, kysO_s, intsV_n, intsV_i, HO.ins.injEq, HO.dT.injEq, tDNewT, rIxLT, cLenLT, rSub, rAdd, sFldAug, Td.rIsG, Td.rCntT, Td.rIdxT, Td.rExt, Lm.tCallZ, Lm.tLam]
      refine ⟨S8.tab, fun f H9 e9 T9 A9 d hd => ?_⟩
      have S9 := S8.extN e9 T9
      have sd := same_new (o := .tup [.int 0]) hd
      refine ⟨(S9.same sd).tab, fun f2 H10 e10 T10 A10 => ⟨szl (by decide), fun p hp => ⟨szl (by decide), fun p1 hp1 B zb => ?_⟩⟩⟩
      have S10 := (S9.same sd).extN e10 T10
      have sp := same_new (o := .lst [.ref f, .ref f2]) hp
      have sp1 := same_new (o := .tup [.str "BadNumber", .int 0]) hp1
      have S12 := (S10.same sp).same sp1
      refine ⟨p, p1, [f, f2], 1, "BadNumber", T.C_BadNumber, rfl, sp1 _ _ upd_same, (show 2 ≤ 100 by decide), upd_same, T.K_BadNumber, rfl, fun g hg => ?_, fun H13 s13 => ?_⟩
      · have kD : ∀ {H' : Hp}, Same (upd (upd H10 p (.lst [.ref f, .ref f2])) p1 (.tup [.str "BadNumber", .int 0])) H' → Dk T.C_Disk H' x dx t ll7 xs7 ys7 left7 gone7 := fun ss => ⟨ss _ _ S12.dk.ob, ss _ _ S12.dk.th, ss _ _ S12.dk.la, S12.dk.ne⟩
        simp only [List.mem_cons, List.mem_nil_iff, or_false] at hg
        rcases hg with rfl | rfl
        · refine ⟨_, A9 _ (((Lm.KeepF.of sd).trans (Lm.KeepF.extN e10)).trans ((Lm.KeepF.of sp).trans (Lm.KeepF.of sp1))) _ B zb, fun H' E Q ss hE => ?_⟩
          have D := kD ss
          simp only [tVar, tC, tOp, rI, rI0, rU, tTest, tB, tAnd, tOr, tNot, tAndV, tOrV, tNotV, tIf, tNil, tCons, tTup, tLst, tCB, tSeq, tAsg, gName, tRet, tRetN, tIfS, tNext, tDrop, tCall, tUn, tPar, CMul, CDiv, V.int.injEq, V.bl.injEq, V.ref.injEq, V.str.injEq, Option.some.injEq, List.cons.injEq, and_true, true_and, and_false, false_and, or_false, false_or, or_true, true_or, exists_eq_left', exists_eq_left, exists_and_left, exists_and_right, exists_eq', exists_eq, exists_false, exists_const, List.getElem?_cons_succ, List.getElem?_cons_zero, List.set_cons_succ, List.set_cons_zero, List.length_cons, List.length_nil, List.cons_append, List.nil_append, List.append_nil, reduceCtorEq, Int.reduceLT, Int.reduceLE, Int.reduceNeg, Int.reducePow, Int.reduceSub, Int.reduceAdd, Nat.reduceAdd, Nat.reduceLeDiff, Bool.not_true, Bool.not_false, decide_true, decide_false, Bool.false_eq_true, ↓reduceIte, upd_same, not_true_eq_false, not_false_eq_true, lsO_l, lsO_f, tpO_t, tpO_f, dkO_d, dkO_f, keyO_i, keyO_s, rIxH, rIxU, cLenL, cLenT, cListL, cListT, cTupL, cIntB, cAll, rEqNilI, rEq, rNe, scal_ii, scal_ss, scal_bb, scal_nn, scal_ni, scal_in, scal_ns, scal_sn, gSub, rSetL, ixs0, ixs1, ixs2, seq0, at0, at1, at2, at3, tBM, tBM0, rAppend, rPopAt, tyV_list, tGet2, tGetI, sPut, tMG, rTIdx, tyTup, tTupF, cx_K, cx_w, ex_map_int, ex_nil_int, ex_cons_int, List.map_cons, List.map_nil, List.isEmpty_nil, List.isEmpty_cons, List.eraseIdx_zero, List.tail_cons, List.eraseIdx_cons_zero, HO.lst.injEq, HO.tup.injEq, HO.dK.injEq, HO.frz.injEq, ne_eq, gTupH, gCons, gNil, wipe, tYes, upd_upd, and_assoc, List.getElem?_map, Option.map_some, isn_non_bool, isn_non_int, isn_non_str, isn_non_tuple, isn_non_list, isn_non_dict, isn_bl_bool, isn_bl_int, isn_bl_str, isn_bl_tuple, isn_bl_list, isn_bl_dict, isn_int_bool, isn_int_int, isn_int_str, isn_int_tuple, isn_int_list, isn_int_dict, isn_str_bool, isn_str_int, isn_str_str, isn_str_tuple, isn_str_list, isn_str_dict, isn_lst_bool, isn_lst_int, isn_lst_str, isn_lst_tuple, isn_lst_list, isn_lst_dict, isn_tup_bool, isn_tup_int, isn_tup_str, isn_tup_tuple, isn_tup_list, isn_tup_dict, isn_dct_bool, isn_dct_int, isn_dct_str, isn_dct_tuple, isn_dct_list, isn_dct_dict, okn_bool, okn_int, okn_str, okn_tuple, okn_list, okn_dict, cIsi, tyT_n, tyT_b, tyT_i, tyT_s, tyT_r, V.ty.injEq, tSl, tPart, tNoPart, rSlF, gName, tFld, sFld, tMeth, tMake, tGetT, tInT, tNinT, sPutT, sAugT, tPopT, rLtH, dtO_d, dtO_f, kysO_n, kysO_i, kysO_s, intsV_n, intsV_i, HO.ins.injEq, HO.dT.injEq, tDNewT, rIxLT, cLenLT, rSub, rAdd, sFldAug, Td.rIsG, Td.rCntT, Td.rIdxT, Td.rExt, Lm.tCallZ, Lm.tLam, lkDisk_there, lkDisk_late, lkDisk_left, lkDisk_is_gone, noDisk_need_power, noDisk_count, noDisk_write, noDisk_settle, noDisk_units, noDisk_arm, noDisk_fall, inDisk_there, inDisk_late, inDisk_left, inDisk_is_gone, puDisk_there, puDisk_late, puDisk_left, puDisk_is_gone, lnDisk, lpDisk1, lpDisk2, lpDisk3, l0Disk, T.cl_Disk, T.na_Disk_there, T.na_Disk_late, T.na_Disk_left, T.na_Disk_is_gone, D.ob]
          exact ⟨x, dx, t, ll7, xs7, ys7, left7, gone7, b, rfl, D, by omega, fun _ => hE H' (Same.refl _), fun _ _ z => absurd z (by omega)⟩
        · refine ⟨_, A10 _ ((Lm.KeepF.of sp).trans (Lm.KeepF.of sp1)) _ B zb, fun H' E Q ss hE => ?_⟩
          have D := kD ss
          simp only [tVar, tC, tOp, rI, rI0, rU, tTest, tB, tAnd, tOr, tNot, tAndV, tOrV, tNotV, tIf, tNil, tCons, tTup, tLst, tCB, tSeq, tAsg, gName, tRet, tRetN, tIfS, tNext, tDrop, tCall, tUn, tPar, CMul, CDiv, V.int.injEq, V.bl.injEq, V.ref.injEq, V.str.injEq, Option.some.injEq, List.cons.injEq, and_true, true_and, and_false, false_and, or_false, false_or, or_true, true_or, exists_eq_left', exists_eq_left, exists_and_left, exists_and_right, exists_eq', exists_eq, exists_false, exists_const, List.getElem?_cons_succ, List.getElem?_cons_zero, List.set_cons_succ, List.set_cons_zero, List.length_cons, List.length_nil, List.cons_append, List.nil_append, List.append_nil, reduceCtorEq, Int.reduceLT, Int.reduceLE, Int.reduceNeg, Int.reducePow, Int.reduceSub, Int.reduceAdd, Nat.reduceAdd, Nat.reduceLeDiff, Bool.not_true, Bool.not_false, decide_true, decide_false, Bool.false_eq_true, ↓reduceIte, upd_same, not_true_eq_false, not_false_eq_true, lsO_l, lsO_f, tpO_t, tpO_f, dkO_d, dkO_f, keyO_i, keyO_s, rIxH, rIxU, cLenL, cLenT, cListL, cListT, cTupL, cIntB, cAll, rEqNilI, rEq, rNe, scal_ii, scal_ss, scal_bb, scal_nn, scal_ni, scal_in, scal_ns, scal_sn, gSub, rSetL, ixs0, ixs1, ixs2, seq0, at0, at1, at2, at3, tBM, tBM0, rAppend, rPopAt, tyV_list, tGet2, tGetI, sPut, tMG, rTIdx, tyTup, tTupF, cx_K, cx_w, ex_map_int, ex_nil_int, ex_cons_int, List.map_cons, List.map_nil, List.isEmpty_nil, List.isEmpty_cons, List.eraseIdx_zero, List.tail_cons, List.eraseIdx_cons_zero, HO.lst.injEq, HO.tup.injEq, HO.dK.injEq, HO.frz.injEq, ne_eq, gTupH, gCons, gNil, wipe, tYes, upd_upd, and_assoc, List.getElem?_map, Option.map_some, isn_non_bool, isn_non_int, isn_non_str, isn_non_tuple, isn_non_list, isn_non_dict, isn_bl_bool, isn_bl_int, isn_bl_str, isn_bl_tuple, isn_bl_list, isn_bl_dict, isn_int_bool, isn_int_int, isn_int_str, isn_int_tuple, isn_int_list, isn_int_dict, isn_str_bool, isn_str_int, isn_str_str, isn_str_tuple, isn_str_list, isn_str_dict, isn_lst_bool, isn_lst_int, isn_lst_str, isn_lst_tuple, isn_lst_list, isn_lst_dict, isn_tup_bool, isn_tup_int, isn_tup_str, isn_tup_tuple, isn_tup_list, isn_tup_dict, isn_dct_bool, isn_dct_int, isn_dct_str, isn_dct_tuple, isn_dct_list, isn_dct_dict, okn_bool, okn_int, okn_str, okn_tuple, okn_list, okn_dict, cIsi, tyT_n, tyT_b, tyT_i, tyT_s, tyT_r, V.ty.injEq, tSl, tPart, tNoPart, rSlF, gName, tFld, sFld, tMeth, tMake, tGetT, tInT, tNinT, sPutT, sAugT, tPopT, rLtH, dtO_d, dtO_f, kysO_n, kysO_i, kysO_s, intsV_n, intsV_i, HO.ins.injEq, HO.dT.injEq, tDNewT, rIxLT, cLenLT, rSub, rAdd, sFldAug, Td.rIsG, Td.rCntT, Td.rIdxT, Td.rExt, Lm.tCallZ, Lm.tLam, lkDisk_there, lkDisk_late, lkDisk_left, lkDisk_is_gone, noDisk_need_power, noDisk_count, noDisk_write, noDisk_settle, noDisk_units, noDisk_arm, noDisk_fall, inDisk_there, inDisk_late, inDisk_left, inDisk_is_gone, puDisk_there, puDisk_late, puDisk_left, puDisk_is_gone, lnDisk, lpDisk1, lpDisk2, lpDisk3, l0Disk, T.cl_Disk, T.na_Disk_there, T.na_Disk_late, T.na_Disk_left, T.na_Disk_is_gone, D.ob]
          exact ⟨x, dx, t, ll7, xs7, ys7, left7, gone7, b, rfl, D, fun _ => hE H' (Same.refl _), fun _ z => absurd z (by omega)⟩
      have S13 := S12.same s13
      refine ⟨true, rfl, ?_⟩
      rw [if_neg (by simp)]
      simp only [tVar, tC, tOp, rI, rI0, rU, tTest, tB, tAnd, tOr, tNot, tAndV, tOrV, tNotV, tIf, tNil, tCons, tTup, tLst, tCB, tSeq, tAsg, gName, tRet, tRetN, tIfS, tNext, tDrop, tCall, tUn, tPar, CMul, CDiv, V.int.injEq, V.bl.injEq, V.ref.injEq, V.str.injEq, Option.some.injEq, List.cons.injEq, and_true, true_and, and_false, false_and, or_false, false_or, or_true, true_or, exists_eq_left', exists_eq_left, exists_and_left, exists_and_right, exists_eq', exists_eq, exists_false, exists_const, List.getElem?_cons_succ, List.getElem?_cons_zero, List.set_cons_succ, List.set_cons_zero, List.length_cons, List.length_nil, List.cons_append, List.nil_append, List.append_nil, reduceCtorEq, Int.reduceLT, Int.reduceLE, Int.reduceNeg, Int.reducePow, Int.reduceSub, Int.reduceAdd, Nat.reduceAdd, Nat.reduceLeDiff, Bool.not_true, Bool.not_false, decide_true, decide_false, Bool.false_eq_true, ↓reduceIte, upd_same, not_true_eq_false, not_false_eq_true, lsO_l, lsO_f, tpO_t, tpO_f, dkO_d, dkO_f, keyO_i, keyO_s, rIxH, rIxU, cLenL, cLenT, cListL, cListT, cTupL, cIntB, cAll, rEqNilI, rEq, rNe, scal_ii, scal_ss, scal_bb, scal_nn, scal_ni, scal_in, scal_ns, scal_sn, gSub, rSetL, ixs0, ixs1, ixs2, seq0, at0, at1, at2, at3, tBM, tBM0, rAppend, rPopAt, tyV_list, tGet2, tGetI, sPut, tMG, rTIdx, tyTup, tTupF, cx_K, cx_w, ex_map_int, ex_nil_int, ex_cons_int, List.map_cons, List.map_nil, List.isEmpty_nil, List.isEmpty_cons, List.eraseIdx_zero, List.tail_cons, List.eraseIdx_cons_zero, HO.lst.injEq, HO.tup.injEq, HO.dK.injEq, HO.frz.injEq, ne_eq, gTupH, gCons, gNil, wipe, tYes, upd_upd, and_assoc, List.getElem?_map, Option.map_some, isn_non_bool, isn_non_int, isn_non_str, isn_non_tuple, isn_non_list, isn_non_dict, isn_bl_bool, isn_bl_int, isn_bl_str, isn_bl_tuple, isn_bl_list, isn_bl_dict, isn_int_bool, isn_int_int, isn_int_str, isn_int_tuple, isn_int_list, isn_int_dict, isn_str_bool, isn_str_int, isn_str_str, isn_str_tuple, isn_str_list, isn_str_dict, isn_lst_bool, isn_lst_int, isn_lst_str, isn_lst_tuple, isn_lst_list, isn_lst_dict, isn_tup_bool, isn_tup_int, isn_tup_str, isn_tup_tuple, isn_tup_list, isn_tup_dict, isn_dct_bool, isn_dct_int, isn_dct_str, isn_dct_tuple, isn_dct_list, isn_dct_dict, okn_bool, okn_int, okn_str, okn_tuple, okn_list, okn_dict, cIsi, tyT_n, tyT_b, tyT_i, tyT_s, tyT_r, V.ty.injEq, tSl, tPart, tNoPart, rSlF, gName, tFld, sFld, tMeth, tMake, tGetT, tInT, tNinT, sPutT, sAugT, tPopT, rLtH, dtO_d, dtO_f, kysO_n, kysO_i, kysO_s, intsV_n, intsV_i, HO.ins.injEq, HO.dT.injEq, tDNewT, rIxLT, cLenLT, rSub, rAdd, sFldAug, Td.rIsG, Td.rCntT, Td.rIdxT, Td.rExt, Lm.tCallZ, Lm.tLam, tFor_eq, iRng1]
      refine forB_it (for_it walk_range (fun j σ H14 => ∃ (w9 w11 : Option V), σ = [some (.ref a), some (.ref h), some (.ref lt7), some (.ref ly7), some (oi left7), some (.bl gone7), y6, y7, y8, w9, y10, w11, some (.int b), some (.ref x), y14] ∧ St38 T.C_Disk T.P_law h l x dx t ll7 lt7 ly7 H14 xs7 ys7 xs7 ys7 left7 gone7)
        ⟨y9, y11, rfl, S13⟩ (fun _ _ _ _ _ => trivial) ?_ ?_)
      · rintro j y σ H14 H14' hj ⟨w9, w11, rfl, S14⟩ ⟨rfl, rfl⟩
        simp only [tVar, tC, tOp, rI, rI0, rU, tTest, tB, tAnd, tOr, tNot, tAndV, tOrV, tNotV, tIf, tNil, tCons, tTup, tLst, tCB, tSeq, tAsg, gName, tRet, tRetN, tIfS, tNext, tDrop, tCall, tUn, tPar, CMul, CDiv, V.int.injEq, V.bl.injEq, V.ref.injEq, V.str.injEq, Option.some.injEq, List.cons.injEq, and_true, true_and, and_false, false_and, or_false, false_or, or_true, true_or, exists_eq_left', exists_eq_left, exists_and_left, exists_and_right, exists_eq', exists_eq, exists_false, exists_const, List.getElem?_cons_succ, List.getElem?_cons_zero, List.set_cons_succ, List.set_cons_zero, List.length_cons, List.length_nil, List.cons_append, List.nil_append, List.append_nil, reduceCtorEq, Int.reduceLT, Int.reduceLE, Int.reduceNeg, Int.reducePow, Int.reduceSub, Int.reduceAdd, Nat.reduceAdd, Nat.reduceLeDiff, Bool.not_true, Bool.not_false, decide_true, decide_false, Bool.false_eq_true, ↓reduceIte, upd_same, not_true_eq_false, not_false_eq_true, lsO_l, lsO_f, tpO_t, tpO_f, dkO_d, dkO_f, keyO_i, keyO_s, rIxH, rIxU, cLenL, cLenT, cListL, cListT, cTupL, cIntB, cAll, rEqNilI, rEq, rNe, scal_ii, scal_ss, scal_bb, scal_nn, scal_ni, scal_in, scal_ns, scal_sn, gSub, rSetL, ixs0, ixs1, ixs2, seq0, at0, at1, at2, at3, tBM, tBM0, rAppend, rPopAt, tyV_list, tGet2, tGetI, sPut, tMG, rTIdx, tyTup, tTupF, cx_K, cx_w, ex_map_int, ex_nil_int, ex_cons_int, List.map_cons, List.map_nil, List.isEmpty_nil, List.isEmpty_cons, List.eraseIdx_zero, List.tail_cons, List.eraseIdx_cons_zero, HO.lst.injEq, HO.tup.injEq, HO.dK.injEq, HO.frz.injEq, ne_eq, gTupH, gCons, gNil, wipe, tYes, upd_upd, and_assoc, List.getElem?_map, Option.map_some, isn_non_bool, isn_non_int, isn_non_str, isn_non_tuple, isn_non_list, isn_non_dict, isn_bl_bool, isn_bl_int, isn_bl_str, isn_bl_tuple, isn_bl_list, isn_bl_dict, isn_int_bool, isn_int_int, isn_int_str, isn_int_tuple, isn_int_list, isn_int_dict, isn_str_bool, isn_str_int, isn_str_str, isn_str_tuple, isn_str_list, isn_str_dict, isn_lst_bool, isn_lst_int, isn_lst_str, isn_lst_tuple, isn_lst_list, isn_lst_dict, isn_tup_bool, isn_tup_int, isn_tup_str, isn_tup_tuple, isn_tup_list, isn_tup_dict, isn_dct_bool, isn_dct_int, isn_dct_str, isn_dct_tuple, isn_dct_list, isn_dct_dict, okn_bool, okn_int, okn_str, okn_tuple, okn_list, okn_dict, cIsi, tyT_n, tyT_b, tyT_i, tyT_s, tyT_r, V.ty.injEq, tSl, tPart, tNoPart, rSlF, gName, tFld, sFld, tMeth, tMake, tGetT, tInT, tNinT, sPutT, sAugT, tPopT, rLtH, dtO_d, dtO_f, kysO_n, kysO_i, kysO_s, intsV_n, intsV_i, HO.ins.injEq, HO.dT.injEq, tDNewT, rIxLT, cLenLT, rSub, rAdd, sFldAug, Td.rIsG, Td.rCntT, Td.rIdxT, Td.rExt, Lm.tCallZ, Lm.tLam, gName]
        refine ⟨fun σ' H15 => ∃ fv : V, σ' = [some (.ref a), some (.ref h), some (.ref lt7), some (.ref ly7), some (oi left7), some (.bl gone7), y6, y7, y8, some fv, y10, some (.int (0 + (j : Int))), some (.int b), some (.ref x), y14] ∧ St38 T.C_Disk T.P_law h l x dx t ll7 lt7 ly7 H15 xs7 ys7 xs7 ys7 left7 gone7 ∧
          ((gone7 = true ∧ ∃ p, fv = .ref p ∧ H15 p = some (.tup [.str "Gone", .int 0])) ∨ (gone7 = false ∧ ∃ p, fv = .ref p ∧ H15 p = some (.lst (xs7 ++ ys7)) ∧ ∀ m ∈ [h, l, x, t, ll7, lt7, ly7], p ≠ m)), ?_, ?_⟩
        · simp only [tVar, tC, tOp, rI, rI0, rU, tTest, tB, tAnd, tOr, tNot, tAndV, tOrV, tNotV, tIf, tNil, tCons, tTup, tLst, tCB, tSeq, tAsg, gName, tRet, tRetN, tIfS, tNext, tDrop, tCall, tUn, tPar, CMul, CDiv, V.int.injEq, V.bl.injEq, V.ref.injEq, V.str.injEq, Option.some.injEq, List.cons.injEq, and_true, true_and, and_false, false_and, or_false, false_or, or_true, true_or, exists_eq_left', exists_eq_left, exists_and_left, exists_and_right, exists_eq', exists_eq, exists_false, exists_const, List.getElem?_cons_succ, List.getElem?_cons_zero, List.set_cons_succ, List.set_cons_zero, List.length_cons, List.length_nil, List.cons_append, List.nil_append, List.append_nil, reduceCtorEq, Int.reduceLT, Int.reduceLE, Int.reduceNeg, Int.reducePow, Int.reduceSub, Int.reduceAdd, Nat.reduceAdd, Nat.reduceLeDiff, Bool.not_true, Bool.not_false, decide_true, decide_false, Bool.false_eq_true, ↓reduceIte, upd_same, not_true_eq_false, not_false_eq_true, lsO_l, lsO_f, tpO_t, tpO_f, dkO_d, dkO_f, keyO_i, keyO_s, rIxH, rIxU, cLenL, cLenT, cListL, cListT, cTupL, cIntB, cAll, rEqNilI, rEq, rNe, scal_ii, scal_ss, scal_bb, scal_nn, scal_ni, scal_in, scal_ns, scal_sn, gSub, rSetL, ixs0, ixs1, ixs2, seq0, at0, at1, at2, at3, tBM, tBM0, rAppend, rPopAt, tyV_list, tGet2, tGetI, sPut, tMG, rTIdx, tyTup, tTupF, cx_K, cx_w, ex_map_int, ex_nil_int, ex_cons_int, List.map_cons, List.map_nil, List.isEmpty_nil, List.isEmpty_cons, List.eraseIdx_zero, List.tail_cons, List.eraseIdx_cons_zero, HO.lst.injEq, HO.tup.injEq, HO.dK.injEq, HO.frz.injEq, ne_eq, gTupH, gCons, gNil, wipe, tYes, upd_upd, and_assoc, List.getElem?_map, Option.map_some, isn_non_bool, isn_non_int, isn_non_str, isn_non_tuple, isn_non_list, isn_non_dict, isn_bl_bool, isn_bl_int, isn_bl_str, isn_bl_tuple, isn_bl_list, isn_bl_dict, isn_int_bool, isn_int_int, isn_int_str, isn_int_tuple, isn_int_list, isn_int_dict, isn_str_bool, isn_str_int, isn_str_str, isn_str_tuple, isn_str_list, isn_str_dict, isn_lst_bool, isn_lst_int, isn_lst_str, isn_lst_tuple, isn_lst_list, isn_lst_dict, isn_tup_bool, isn_tup_int, isn_tup_str, isn_tup_tuple, isn_tup_list, isn_tup_dict, isn_dct_bool, isn_dct_int, isn_dct_str, isn_dct_tuple, isn_dct_list, isn_dct_dict, okn_bool, okn_int, okn_str, okn_tuple, okn_list, okn_dict, cIsi, tyT_n, tyT_b, tyT_i, tyT_s, tyT_r, V.ty.injEq, tSl, tPart, tNoPart, rSlF, gName, tFld, sFld, tMeth, tMake, tGetT, tInT, tNinT, sPutT, sAugT, tPopT, rLtH, dtO_d, dtO_f, kysO_n, kysO_i, kysO_s, intsV_n, intsV_i, HO.ins.injEq, HO.dT.injEq, tDNewT, rIxLT, cLenLT, rSub, rAdd, sFldAug, Td.rIsG, Td.rCntT, Td.rIdxT, Td.rExt, Lm.tCallZ, Lm.tLam]
          refine ⟨S14.tab, fun f H15 e15 T15 A15 B zb => ?_⟩
          have S15 := S14.extN e15 T15
          refine ⟨f, _, rfl, A15 H15 (Lm.KeepF.refl _) _ B zb, fun E hE => ?_⟩
          simp only [tVar, tC, tOp, rI, rI0, rU, tTest, tB, tAnd, tOr, tNot, tAndV, tOrV, tNotV, tIf, tNil, tCons, tTup, tLst, tCB, tSeq, tAsg, gName, tRet, tRetN, tIfS, tNext, tDrop, tCall, tUn, tPar, CMul, CDiv, V.int.injEq, V.bl.injEq, V.ref.injEq, V.str.injEq, Option.some.injEq, List.cons.injEq, and_true, true_and, and_false, false_and, or_false, false_or, or_true, true_or, exists_eq_left', exists_eq_left, exists_and_left, exists_and_right, exists_eq', exists_eq, exists_false, exists_const, List.getElem?_cons_succ, List.getElem?_cons_zero, List.set_cons_succ, List.set_cons_zero, List.length_cons, List.length_nil, List.cons_append, List.nil_append, List.append_nil, reduceCtorEq, Int.reduceLT, Int.reduceLE, Int.reduceNeg, Int.reducePow, Int.reduceSub, Int.reduceAdd, Nat.reduceAdd, Nat.reduceLeDiff, Bool.not_true, Bool.not_false, decide_true, decide_false, Bool.false_eq_true, ↓reduceIte, upd_same, not_true_eq_false, not_false_eq_true, lsO_l, lsO_f, tpO_t, tpO_f, dkO_d, dkO_f, keyO_i, keyO_s, rIxH, rIxU, cLenL, cLenT, cListL, cListT, cTupL, cIntB, cAll, rEqNilI, rEq, rNe, scal_ii, scal_ss, scal_bb, scal_nn, scal_ni, scal_in, scal_ns, scal_sn, gSub, rSetL, ixs0, ixs1, ixs2, seq0, at0, at1, at2, at3, tBM, tBM0, rAppend, rPopAt, tyV_list, tGet2, tGetI, sPut, tMG, rTIdx, tyTup, tTupF, cx_K, cx_w, ex_map_int, ex_nil_int, ex_cons_int, List.map_cons, List.map_nil, List.isEmpty_nil, List.isEmpty_cons, List.eraseIdx_zero, List.tail_cons, List.eraseIdx_cons_zero, HO.lst.injEq, HO.tup.injEq, HO.dK.injEq, HO.frz.injEq, ne_eq, gTupH, gCons, gNil, wipe, tYes, upd_upd, and_assoc, List.getElem?_map, Option.map_some, isn_non_bool, isn_non_int, isn_non_str, isn_non_tuple, isn_non_list, isn_non_dict, isn_bl_bool, isn_bl_int, isn_bl_str, isn_bl_tuple, isn_bl_list, isn_bl_dict, isn_int_bool, isn_int_int, isn_int_str, isn_int_tuple, isn_int_list, isn_int_dict, isn_str_bool, isn_str_int, isn_str_str, isn_str_tuple, isn_str_list, isn_str_dict, isn_lst_bool, isn_lst_int, isn_lst_str, isn_lst_tuple, isn_lst_list, isn_lst_dict, isn_tup_bool, isn_tup_int, isn_tup_str, isn_tup_tuple, isn_tup_list, isn_tup_dict, isn_dct_bool, isn_dct_int, isn_dct_str, isn_dct_tuple, isn_dct_list, isn_dct_dict, okn_bool, okn_int, okn_str, okn_tuple, okn_list, okn_dict, cIsi, tyT_n, tyT_b, tyT_i, tyT_s, tyT_r, V.ty.injEq, tSl, tPart, tNoPart, rSlF, gName, tFld, sFld, tMeth, tMake, tGetT, tInT, tNinT, sPutT, sAugT, tPopT, rLtH, dtO_d, dtO_f, kysO_n, kysO_i, kysO_s, intsV_n, intsV_i, HO.ins.injEq, HO.dT.injEq, tDNewT, rIxLT, cLenLT, rSub, rAdd, sFldAug, Td.rIsG, Td.rCntT, Td.rIdxT, Td.rExt, Lm.tCallZ, Lm.tLam, lkDisk_there, lkDisk_late, lkDisk_left, lkDisk_is_gone, noDisk_need_power, noDisk_count, noDisk_write, noDisk_settle, noDisk_units, noDisk_arm, noDisk_fall, inDisk_there, inDisk_late, inDisk_left, inDisk_is_gone, puDisk_there, puDisk_late, puDisk_left, puDisk_is_gone, lnDisk, lpDisk1, lpDisk2, lpDisk3, l0Disk, T.cl_Disk, T.na_Disk_there, T.na_Disk_late, T.na_Disk_left, T.na_Disk_is_gone, S15.dk.ob]
          refine ⟨x, dx, t, ll7, xs7, ys7, left7, gone7, rfl, S15.dk, by omega, fun g => hE T.C_Gone 5 "Gone" H15 T.K_Gone rfl fun H2 p ss hp e => ⟨S15.same ss, .inl ⟨g, p, rfl, e⟩⟩, fun g p hp => ⟨S15.same (same_new hp), .inr ⟨g, p, rfl, upd_same, fun m hm => ?_⟩⟩⟩
          obtain ⟨o, ho, _⟩ := S15.ns m hm
          exact (ne_of_none ho hp).symm
        rintro σ H15 ⟨fv, rfl, S15, cs⟩
        rcases cs with ⟨g, p, rfl, e⟩ | ⟨g, p, rfl, e, np⟩ <;> subst g
        · simp only [tVar, tC, tOp, rI, rI0, rU, tTest, tB, tAnd, tOr, tNot, tAndV, tOrV, tNotV, tIf, tNil, tCons, tTup, tLst, tCB, tSeq, tAsg, gName, tRet, tRetN, tIfS, tNext, tDrop, tCall, tUn, tPar, CMul, CDiv, V.int.injEq, V.bl.injEq, V.ref.injEq, V.str.injEq, Option.some.injEq, List.cons.injEq, and_true, true_and, and_false, false_and, or_false, false_or, or_true, true_or, exists_eq_left', exists_eq_left, exists_and_left, exists_and_right, exists_eq', exists_eq, exists_false, exists_const, List.getElem?_cons_succ, List.getElem?_cons_zero, List.set_cons_succ, List.set_cons_zero, List.length_cons, List.length_nil, List.cons_append, List.nil_append, List.append_nil, reduceCtorEq, Int.reduceLT, Int.reduceLE, Int.reduceNeg, Int.reducePow, Int.reduceSub, Int.reduceAdd, Nat.reduceAdd, Nat.reduceLeDiff, Bool.not_true, Bool.not_false, decide_true, decide_false, Bool.false_eq_true, ↓reduceIte, upd_same, not_true_eq_false, not_false_eq_true, lsO_l, lsO_f, tpO_t, tpO_f, dkO_d, dkO_f, keyO_i, keyO_s, rIxH, rIxU, cLenL, cLenT, cListL, cListT, cTupL, cIntB, cAll, rEqNilI, rEq, rNe, scal_ii, scal_ss, scal_bb, scal_nn, scal_ni, scal_in, scal_ns, scal_sn, gSub, rSetL, ixs0, ixs1, ixs2, seq0, at0, at1, at2, at3, tBM, tBM0, rAppend, rPopAt, tyV_list, tGet2, tGetI, sPut, tMG, rTIdx, tyTup, tTupF, cx_K, cx_w, ex_map_int, ex_nil_int, ex_cons_int, List.map_cons, List.map_nil, List.isEmpty_nil, List.isEmpty_cons, List.eraseIdx_zero, List.tail_cons, List.eraseIdx_cons_zero, HO.lst.injEq, HO.tup.injEq, HO.dK.injEq, HO.frz.injEq, ne_eq, gTupH, gCons, gNil, wipe, tYes, upd_upd, and_assoc, List.getElem?_map, Option.map_some, isn_non_bool, isn_non_int, isn_non_str, isn_non_tuple, isn_non_list, isn_non_dict, isn_bl_bool, isn_bl_int, isn_bl_str, isn_bl_tuple, isn_bl_list, isn_bl_dict, isn_int_bool, isn_int_int, isn_int_str, isn_int_tuple, isn_int_list, isn_int_dict, isn_str_bool, isn_str_int, isn_str_str, isn_str_tuple, isn_str_list, isn_str_dict, isn_lst_bool, isn_lst_int, isn_lst_str, isn_lst_tuple, isn_lst_list, isn_lst_dict, isn_tup_bool, isn_tup_int, isn_tup_str, isn_tup_tuple, isn_tup_list, isn_tup_dict, isn_dct_bool, isn_dct_int, isn_dct_str, isn_dct_tuple, isn_dct_list, isn_dct_dict, okn_bool, okn_int, okn_str, okn_tuple, okn_list, okn_dict, cIsi, tyT_n, tyT_b, tyT_i, tyT_s, tyT_r, V.ty.injEq, tSl, tPart, tNoPart, rSlF, gName, tFld, sFld, tMeth, tMake, tGetT, tInT, tNinT, sPutT, sAugT, tPopT, rLtH, dtO_d, dtO_f, kysO_n, kysO_i, kysO_s, intsV_n, intsV_i, HO.ins.injEq, HO.dT.injEq, tDNewT, rIxLT, cLenLT, rSub, rAdd, sFldAug, Td.rIsG, Td.rCntT, Td.rIdxT, Td.rExt, Lm.tCallZ, Lm.tLam]
          refine ⟨szl (by decide), fun q hq => ?_⟩
          have sq := same_new (o := .tup [.str "Gone", .int 0]) hq
          refine ⟨_, _, .tup [.str "Gone", .int 0], rfl, pair_rx (sq _ _ e), pair_rx upd_same, by simp [Dx.deep, Dx.deepL], by simp [Dx.fits, Dx.fitsL], true, rfl, ?_⟩
          rw [if_neg (by simp)]
          exact S15.same sq
        · simp only [tVar, tC, tOp, rI, rI0, rU, tTest, tB, tAnd, tOr, tNot, tAndV, tOrV, tNotV, tIf, tNil, tCons, tTup, tLst, tCB, tSeq, tAsg, gName, tRet, tRetN, tIfS, tNext, tDrop, tCall, tUn, tPar, CMul, CDiv, V.int.injEq, V.bl.injEq, V.ref.injEq, V.str.injEq, Option.some.injEq, List.cons.injEq, and_true, true_and, and_false, false_and, or_false, false_or, or_true, true_or, exists_eq_left', exists_eq_left, exists_and_left, exists_and_right, exists_eq', exists_eq, exists_false, exists_const, List.getElem?_cons_succ, List.getElem?_cons_zero, List.set_cons_succ, List.set_cons_zero, List.length_cons, List.length_nil, List.cons_append, List.nil_append, List.append_nil, reduceCtorEq, Int.reduceLT, Int.reduceLE, Int.reduceNeg, Int.reducePow, Int.reduceSub, Int.reduceAdd, Nat.reduceAdd, Nat.reduceLeDiff, Bool.not_true, Bool.not_false, decide_true, decide_false, Bool.false_eq_true, ↓reduceIte, upd_same, not_true_eq_false, not_false_eq_true, lsO_l, lsO_f, tpO_t, tpO_f, dkO_d, dkO_f, keyO_i, keyO_s, rIxH, rIxU, cLenL, cLenT, cListL, cListT, cTupL, cIntB, cAll, rEqNilI, rEq, rNe, scal_ii, scal_ss, scal_bb, scal_nn, scal_ni, scal_in, scal_ns, scal_sn, gSub, rSetL, ixs0, ixs1, ixs2, seq0, at0, at1, at2, at3, tBM, tBM0, rAppend, rPopAt, tyV_list, tGet2, tGetI, sPut, tMG, rTIdx, tyTup, tTupF, cx_K, cx_w, ex_map_int, ex_nil_int, ex_cons_int, List.map_cons, List.map_nil, List.isEmpty_nil, List.isEmpty_cons, List.eraseIdx_zero, List.tail_cons, List.eraseIdx_cons_zero, HO.lst.injEq, HO.tup.injEq, HO.dK.injEq, HO.frz.injEq, ne_eq, gTupH, gCons, gNil, wipe, tYes, upd_upd, and_assoc, List.getElem?_map, Option.map_some, isn_non_bool, isn_non_int, isn_non_str, isn_non_tuple, isn_non_list, isn_non_dict, isn_bl_bool, isn_bl_int, isn_bl_str, isn_bl_tuple, isn_bl_list, isn_bl_dict, isn_int_bool, isn_int_int, isn_int_str, isn_int_tuple, isn_int_list, isn_int_dict, isn_str_bool, isn_str_int, isn_str_str, isn_str_tuple, isn_str_list, isn_str_dict, isn_lst_bool, isn_lst_int, isn_lst_str, isn_lst_tuple, isn_lst_list, isn_lst_dict, isn_tup_bool, isn_tup_int, isn_tup_str, isn_tup_tuple, isn_tup_list, isn_tup_dict, isn_dct_bool, isn_dct_int, isn_dct_str, isn_dct_tuple, isn_dct_list, isn_dct_dict, okn_bool, okn_int, okn_str, okn_tuple, okn_list, okn_dict, cIsi, tyT_n, tyT_b, tyT_i, tyT_s, tyT_r, V.ty.injEq, tSl, tPart, tNoPart, rSlF, gName, tFld, sFld, tMeth, tMake, tGetT, tInT, tNinT, sPutT, sAugT, tPopT, rLtH, dtO_d, dtO_f, kysO_n, kysO_i, kysO_s, intsV_n, intsV_i, HO.ins.injEq, HO.dT.injEq, tDNewT, rIxLT, cLenLT, rSub, rAdd, sFldAug, Td.rIsG, Td.rCntT, Td.rIdxT, Td.rExt, Lm.tCallZ, Lm.tLam]
          refine ⟨lt7, ly7, xs7, ys7, rfl, rfl, S15.eX, S15.eY, szl (by omega), fun q hq => ?_⟩
          have sq := same_new (o := .lst (xs7 ++ ys7)) hq
          have S16 := S15.same sq
          obtain ⟨ds, r, d2, f2⟩ := tps_rx S16.us
          have hds := r.len
          rw [List.length_append] at hds
          refine ⟨_, _, .lst ds, rfl, by simp only [RX]; exact ⟨p, _, rfl, sq _ _ e, r⟩, by simp only [RX]; exact ⟨q, _, rfl, upd_same, r⟩, by simp only [Dx.deep]; omega, by simp only [Dx.fits]; exact ⟨by omega, f2⟩, true, rfl, ?_⟩
          rw [if_neg (by simp)]
          have ep := sq _ _ e
          simp only [tVar, tC, tOp, rI, rI0, rU, tTest, tB, tAnd, tOr, tNot, tAndV, tOrV, tNotV, tIf, tNil, tCons, tTup, tLst, tCB, tSeq, tAsg, gName, tRet, tRetN, tIfS, tNext, tDrop, tCall, tUn, tPar, CMul, CDiv, V.int.injEq, V.bl.injEq, V.ref.injEq, V.str.injEq, Option.some.injEq, List.cons.injEq, and_true, true_and, and_false, false_and, or_false, false_or, or_true, true_or, exists_eq_left', exists_eq_left, exists_and_left, exists_and_right, exists_eq', exists_eq, exists_false, exists_const, List.getElem?_cons_succ, List.getElem?_cons_zero, List.set_cons_succ, List.set_cons_zero, List.length_cons, List.length_nil, List.cons_append, List.nil_append, List.append_nil, reduceCtorEq, Int.reduceLT, Int.reduceLE, Int.reduceNeg, Int.reducePow, Int.reduceSub, Int.reduceAdd, Nat.reduceAdd, Nat.reduceLeDiff, Bool.not_true, Bool.not_false, decide_true, decide_false, Bool.false_eq_true, ↓reduceIte, upd_same, not_true_eq_false, not_false_eq_true, lsO_l, lsO_f, tpO_t, tpO_f, dkO_d, dkO_f, keyO_i, keyO_s, rIxH, rIxU, cLenL, cLenT, cListL, cListT, cTupL, cIntB, cAll, rEqNilI, rEq, rNe, scal_ii, scal_ss, scal_bb, scal_nn, scal_ni, scal_in, scal_ns, scal_sn, gSub, rSetL, ixs0, ixs1, ixs2, seq0, at0, at1, at2, at3, tBM, tBM0, rAppend, rPopAt, tyV_list, tGet2, tGetI, sPut, tMG, rTIdx, tyTup, tTupF, cx_K, cx_w, ex_map_int, ex_nil_int, ex_cons_int, List.map_cons, List.map_nil, List.isEmpty_nil, List.isEmpty_cons, List.eraseIdx_zero, List.tail_cons, List.eraseIdx_cons_zero, HO.lst.injEq, HO.tup.injEq, HO.dK.injEq, HO.frz.injEq, ne_eq, gTupH, gCons, gNil, wipe, tYes, upd_upd, and_assoc, List.getElem?_map, Option.map_some, isn_non_bool, isn_non_int, isn_non_str, isn_non_tuple, isn_non_list, isn_non_dict, isn_bl_bool, isn_bl_int, isn_bl_str, isn_bl_tuple, isn_bl_list, isn_bl_dict, isn_int_bool, isn_int_int, isn_int_str, isn_int_tuple, isn_int_list, isn_int_dict, isn_str_bool, isn_str_int, isn_str_str, isn_str_tuple, isn_str_list, isn_str_dict, isn_lst_bool, isn_lst_int, isn_lst_str, isn_lst_tuple, isn_lst_list, isn_lst_dict, isn_tup_bool, isn_tup_int, isn_tup_str, isn_tup_tuple, isn_tup_list, isn_tup_dict, isn_dct_bool, isn_dct_int, isn_dct_str, isn_dct_tuple, isn_dct_list, isn_dct_dict, okn_bool, okn_int, okn_str, okn_tuple, okn_list, okn_dict, cIsi, tyT_n, tyT_b, tyT_i, tyT_s, tyT_r, V.ty.injEq, tSl, tPart, tNoPart, rSlF, gName, tFld, sFld, tMeth, tMake, tGetT, tInT, tNinT, sPutT, sAugT, tPopT, rLtH, dtO_d, dtO_f, kysO_n, kysO_i, kysO_s, intsV_n, intsV_i, HO.ins.injEq, HO.dT.injEq, tDNewT, rIxLT, cLenLT, rSub, rAdd, sFldAug, Td.rIsG, Td.rCntT, Td.rIdxT, Td.rExt, Lm.tCallZ, Lm.tLam, ep]
          exact ⟨szl' (by rw [List.length_append]; omega), S16.off ep np⟩
      · rintro σ H14 ⟨w9, w11, rfl, S14⟩
        exact ⟨_, _, _, _, _, _, _, _, ll7, lt7, ly7, xs7, ys7, left7, gone7, rfl, S14, hq7⟩
    · rintro σ H5 ⟨z6, z7, z8, z9, z10, z11, z12, z14, ll', lt', ly', xs, ys, left, gone, rfl, S5, hq⟩
      simp only [tVar, tC, tOp, rI, rI0, rU, tTest, tB, tAnd, tOr, tNot, tAndV, tOrV, tNotV, tIf, tNil, tCons, tTup, tLst, tCB, tSeq, tAsg, gName, tRet, tRetN, tIfS, tNext, tDrop, tCall, tUn, tPar, CMul, CDiv, V.int.injEq, V.bl.injEq, V.ref.injEq, V.str.injEq, Option.some.injEq, List.cons.injEq, and_true, true_and, and_false, false_and, or_false, false_or, or_true, true_or, exists_eq_left', exists_eq_left, exists_and_left, exists_and_right, exists_eq', exists_eq, exists_false, exists_const, List.getElem?_cons_succ, List.getElem?_cons_zero, List.set_cons_succ, List.set_cons_zero, List.length_cons, List.length_nil, List.cons_append, List.nil_append, List.append_nil, reduceCtorEq, Int.reduceLT, Int.reduceLE, Int.reduceNeg, Int.reducePow, Int.reduceSub, Int.reduceAdd, Nat.reduceAdd, Nat.reduceLeDiff, Bool.not_true, Bool.not_false, decide_true, decide_false, Bool.false_eq_true, ↓reduceIte, upd_same, not_true_eq_false, not_false_eq_true, lsO_l, lsO_f, tpO_t, tpO_f, dkO_d, dkO_f, keyO_i, keyO_s, rIxH, rIxU, cLenL, cLenT, cListL, cListT, cTupL, cIntB, cAll, rEqNilI, rEq, rNe, scal_ii, scal_ss, scal_bb, scal_nn, scal_ni, scal_in, scal_ns, scal_sn, gSub, rSetL, ixs0, ixs1, ixs2, seq0, at0, at1, at2, at3, tBM, tBM0, rAppend, rPopAt, tyV_list, tGet2, tGetI, sPut, tMG, rTIdx, tyTup, tTupF, cx_K, cx_w, ex_map_int, ex_nil_int, ex_cons_int, List.map_cons, List.map_nil, List.isEmpty_nil, List.isEmpty_cons, List.eraseIdx_zero, List.tail_cons, List.eraseIdx_cons_zero, HO.lst.injEq, HO.tup.injEq, HO.dK.injEq, HO.frz.injEq, ne_eq, gTupH, gCons, gNil, wipe, tYes, upd_upd, and_assoc, List.getElem?_map, Option.map_some, isn_non_bool, isn_non_int, isn_non_str, isn_non_tuple, isn_non_list, isn_non_dict, isn_bl_bool, isn_bl_int, isn_bl_str, isn_bl_tuple, isn_bl_list, isn_bl_dict, isn_int_bool, isn_int_int, isn_int_str, isn_int_tuple, isn_int_list, isn_int_dict, isn_str_bool, isn_str_int, isn_str_str, isn_str_tuple, isn_str_list, isn_str_dict, isn_lst_bool, isn_lst_int, isn_lst_str, isn_lst_tuple, isn_lst_list, isn_lst_dict, isn_tup_bool, isn_tup_int, isn_tup_str, isn_tup_tuple, isn_tup_list, isn_tup_dict, isn_dct_bool, isn_dct_int, isn_dct_str, isn_dct_tuple, isn_dct_list, isn_dct_dict, okn_bool, okn_int, okn_str, okn_tuple, okn_list, okn_dict, cIsi, tyT_n, tyT_b, tyT_i, tyT_s, tyT_r, V.ty.injEq, tSl, tPart, tNoPart, rSlF, gName, tFld, sFld, tMeth, tMake, tGetT, tInT, tNinT, sPutT, sAugT, tPopT, rLtH, dtO_d, dtO_f, kysO_n, kysO_i, kysO_s, intsV_n, intsV_i, HO.ins.injEq, HO.dT.injEq, tDNewT, rIxLT, cLenLT, rSub, rAdd, sFldAug, Td.rIsG, Td.rCntT, Td.rIdxT, Td.rExt, Lm.tCallZ, Lm.tLam]
      exact k _
end

theorem ok_all {P : Program} {w : World} {K : PySem.W.Frag} {mg : Str → Option Value} {base : Heap} (T : Txt K mg) (TB : LamX.TabB base mg T.c_law T.P_law) : FnOk P w K mg base CX0 8 T.f_law T.fd_law ["_law_script"] (spLaw K T.P_law) := ok_law T TB
theorem all_mk {l : PySem.W.OpenLaw} {w : World} {K : PySem.W.Frag} {h : Heap} {mg : Str → Option Value} {cL PL fa f0 f1 f2 f3 f4 f5 f6 f7 f8 f9 f10 f11 f12 f13 CDisk : Addr} (X : K.In h) (G : h.Ns mainGlobals mg) (hfa : mg "law" = some (.ref fa))
    {od0 an0 od1 an1 od2 an2 od3 an3 od4 an4 od5 an5 od6 an6 od7 an7 od8 an8 od9 an9 od10 an10 od11 an11 od12 an12 od13 an13 : Option Addr} {sl0 sl1 sl2 sl3 sl4 sl5 sl6 sl7 sl8 sl9 sl10 sl11 sl12 sl13 : Array (Option Value)} {oc0 kV0 dc0 pm0 cd0 ct0 oc1 kV1 dc1 pm1 cd1 ct1 oc2 kV2 dc2 pm2 cd2 ct2 oc3 kV3 dc3 pm3 cd3 ct3 oc4 kV4 dc4 pm4 cd4 ct4 oc5 kV5 dc5 pm5 cd5 ct5 oc6 kV6 dc6 pm6 cd6 ct6 oc7 kV7 dc7 pm7 cd7 ct7 oc8 kV8 dc8 pm8 cd8 ct8 oc9 kV9 dc9 pm9 cd9 ct9 oc10 kV10 dc10 pm10 cd10 ct10 oc11 kV11 dc11 pm11 cd11 ct11 oc12 kV12 dc12 pm12 cd12 ct12 oc13 kV13 dc13 pm13 ct13 : Value}
    (a0 : PySem.W.findIn K (.ref CDisk) "__init__" = some (some (.ref f0))) (i0 : PySem.W.isFn K (.ref f0) = true)
    (l0 : K.lookup f0 = some ⟨oc0, od0, .func (PySem.W.fnOf "__init__" "Disk.__init__" (defArgs s_Disk_init) (defBody s_Disk_init) (defScope s_Disk_init) .none kV0 dc0 pm0 an0 cd0 ct0), sl0⟩) (c0 : PySem.W.codeIn K cd0 "Disk.__init__" = true) (k0 : PySem.W.keepIn K (.ref f0) = true)
    (a1 : PySem.W.findIn K (.ref CDisk) "need_power" = some (some (.ref f1))) (i1 : PySem.W.isFn K (.ref f1) = true)
    (l1 : K.lookup f1 = some ⟨oc1, od1, .func (PySem.W.fnOf "need_power" "Disk.need_power" (defArgs s_Disk_need_power) (defBody s_Disk_need_power) (defScope s_Disk_need_power) .none kV1 dc1 pm1 an1 cd1 ct1), sl1⟩) (c1 : PySem.W.codeIn K cd1 "Disk.need_power" = true) (k1 : PySem.W.keepIn K (.ref f1) = true)
    (a2 : PySem.W.findIn K (.ref CDisk) "count" = some (some (.ref f2))) (i2 : PySem.W.isFn K (.ref f2) = true)
    (l2 : K.lookup f2 = some ⟨oc2, od2, .func (PySem.W.fnOf "count" "Disk.count" (defArgs s_Disk_count) (defBody s_Disk_count) (defScope s_Disk_count) .none kV2 dc2 pm2 an2 cd2 ct2), sl2⟩) (c2 : PySem.W.codeIn K cd2 "Disk.count" = true) (k2 : PySem.W.keepIn K (.ref f2) = true)
    (a3 : PySem.W.findIn K (.ref CDisk) "write" = some (some (.ref f3))) (i3 : PySem.W.isFn K (.ref f3) = true)
    (l3 : K.lookup f3 = some ⟨oc3, od3, .func (PySem.W.fnOf "write" "Disk.write" (defArgs s_Disk_write) (defBody s_Disk_write) (defScope s_Disk_write) .none kV3 dc3 pm3 an3 cd3 ct3), sl3⟩) (c3 : PySem.W.codeIn K cd3 "Disk.write" = true) (k3 : PySem.W.keepIn K (.ref f3) = true)
    (a4 : PySem.W.findIn K (.ref CDisk) "settle" = some (some (.ref f4))) (i4 : PySem.W.isFn K (.ref f4) = true)
    (l4 : K.lookup f4 = some ⟨oc4, od4, .func (PySem.W.fnOf "settle" "Disk.settle" (defArgs s_Disk_settle) (defBody s_Disk_settle) (defScope s_Disk_settle) .none kV4 dc4 pm4 an4 cd4 ct4), sl4⟩) (c4 : PySem.W.codeIn K cd4 "Disk.settle" = true) (k4 : PySem.W.keepIn K (.ref f4) = true)
    (a5 : PySem.W.findIn K (.ref CDisk) "units" = some (some (.ref f5))) (i5 : PySem.W.isFn K (.ref f5) = true)
    (l5 : K.lookup f5 = some ⟨oc5, od5, .func (PySem.W.fnOf "units" "Disk.units" (defArgs s_Disk_units) (defBody s_Disk_units) (defScope s_Disk_units) .none kV5 dc5 pm5 an5 cd5 ct5), sl5⟩) (c5 : PySem.W.codeIn K cd5 "Disk.units" = true) (k5 : PySem.W.keepIn K (.ref f5) = true)
    (a6 : PySem.W.findIn K (.ref CDisk) "arm" = some (some (.ref f6))) (i6 : PySem.W.isFn K (.ref f6) = true)
    (l6 : K.lookup f6 = some ⟨oc6, od6, .func (PySem.W.fnOf "arm" "Disk.arm" (defArgs s_Disk_arm) (defBody s_Disk_arm) (defScope s_Disk_arm) .none kV6 dc6 pm6 an6 cd6 ct6), sl6⟩) (c6 : PySem.W.codeIn K cd6 "Disk.arm" = true) (k6 : PySem.W.keepIn K (.ref f6) = true)
    (a7 : PySem.W.findIn K (.ref CDisk) "fall" = some (some (.ref f7))) (i7 : PySem.W.isFn K (.ref f7) = true)
    (l7 : K.lookup f7 = some ⟨oc7, od7, .func (PySem.W.fnOf "fall" "Disk.fall" (defArgs s_Disk_fall) (defBody s_Disk_fall) (defScope s_Disk_fall) .none kV7 dc7 pm7 an7 cd7 ct7), sl7⟩) (c7 : PySem.W.codeIn K cd7 "Disk.fall" = true) (k7 : PySem.W.keepIn K (.ref f7) = true)
    (a8 : PySem.W.nsIn K mainGlobals "_law_begun" = some (some (.ref f8)))
    (l8 : K.lookup f8 = some ⟨oc8, od8, .func (PySem.W.fnOf "_law_begun" "_law_begun" (defArgs s_l_begun) (defBody s_l_begun) (defScope s_l_begun) .none kV8 dc8 pm8 an8 cd8 ct8), sl8⟩) (c8 : PySem.W.codeIn K cd8 "_law_begun" = true) (k8 : PySem.W.keepIn K (.ref f8) = true)
    (a9 : PySem.W.nsIn K mainGlobals "_law_take" = some (some (.ref f9)))
    (l9 : K.lookup f9 = some ⟨oc9, od9, .func (PySem.W.fnOf "_law_take" "_law_take" (defArgs s_l_take) (defBody s_l_take) (defScope s_l_take) .none kV9 dc9 pm9 an9 cd9 ct9), sl9⟩) (c9 : PySem.W.codeIn K cd9 "_law_take" = true) (k9 : PySem.W.keepIn K (.ref f9) = true)
    (a10 : PySem.W.nsIn K mainGlobals "_law_alike" = some (some (.ref f10)))
    (l10 : K.lookup f10 = some ⟨oc10, od10, .func (PySem.W.fnOf "_law_alike" "_law_alike" (defArgs s_l_alike) (defBody s_l_alike) (defScope s_l_alike) .none kV10 dc10 pm10 an10 cd10 ct10), sl10⟩) (c10 : PySem.W.codeIn K cd10 "_law_alike" = true) (k10 : PySem.W.keepIn K (.ref f10) = true)
    (a11 : PySem.W.nsIn K mainGlobals "_law_told" = some (some (.ref f11)))
    (l11 : K.lookup f11 = some ⟨oc11, od11, .func (PySem.W.fnOf "_law_told" "_law_told" (defArgs s_l_told) (defBody s_l_told) (defScope s_l_told) .none kV11 dc11 pm11 an11 cd11 ct11), sl11⟩) (c11 : PySem.W.codeIn K cd11 "_law_told" = true) (k11 : PySem.W.keepIn K (.ref f11) = true)
    (a12 : PySem.W.nsIn K mainGlobals "_law_all" = some (some (.ref f12)))
    (l12 : K.lookup f12 = some ⟨oc12, od12, .func (PySem.W.fnOf "_law_all" "_law_all" (defArgs s_l_all) (defBody s_l_all) (defScope s_l_all) .none kV12 dc12 pm12 an12 cd12 ct12), sl12⟩) (c12 : PySem.W.codeIn K cd12 "_law_all" = true) (k12 : PySem.W.keepIn K (.ref f12) = true)
    (a13 : PySem.W.nsIn K mainGlobals "law" = some (some (.ref f13)))
    (l13 : K.lookup f13 = some ⟨oc13, od13, .func (PySem.W.fnOf "law" "law" (defArgs s_law) (defBody s_law) (defScope s_law) .none kV13 dc13 pm13 an13 (.ref cL) ct13), sl13⟩) (c13 : PySem.W.codeIn K (.ref cL) "law" = true) (k13 : PySem.W.keepIn K (.ref f13) = true)
    (aCDisk : PySem.W.nsIn K mainGlobals "Disk" = some (some (.ref CDisk))) (pgDisk : PySem.W.plainGet K CDisk Str.empty = true) (hdDisk : PySem.W.hasDictIn K CDisk = true) (poDisk : PySem.W.plainOver K CDisk = true) (saDisk : PySem.W.findIn K (.ref CDisk) "__setattr__" = some (some (.builtin "object.__setattr__"))) (mkDisk : PySem.W.makesIn K CDisk = true) (kcDisk : PySem.W.keepIn K (.ref CDisk) = true)
    (nDisk_there : PySem.W.findIn K (.ref CDisk) "there" = some none)
    (nDisk_late : PySem.W.findIn K (.ref CDisk) "late" = some none)
    (nDisk_left : PySem.W.findIn K (.ref CDisk) "left" = some none)
    (nDisk_is_gone : PySem.W.findIn K (.ref CDisk) "is_gone" = some none)
    (z_ValueError : PySem.W.nsIn K mainGlobals "ValueError" = some none)
    (z_list : PySem.W.nsIn K mainGlobals "list" = some none)
    (z_int : PySem.W.nsIn K mainGlobals "int" = some none)
    (z_len : PySem.W.nsIn K mainGlobals "len" = some none)
    (z_isinstance : PySem.W.nsIn K mainGlobals "isinstance" = some none)
    (z_bool : PySem.W.nsIn K mainGlobals "bool" = some none)
    (z_str : PySem.W.nsIn K mainGlobals "str" = some none)
    (z_tuple : PySem.W.nsIn K mainGlobals "tuple" = some none)
    (z_range : PySem.W.nsIn K mainGlobals "range" = some none)
    {EStoreError EBadName EBadNumber EBadPlan EBadRow EBadText EGone ETooGreat ETwice EWithin : Addr}
    (aE_StoreError : PySem.W.nsIn K mainGlobals "StoreError" = some (some (.ref EStoreError)))
    (ei_StoreError : PySem.W.isClsIn K EStoreError = true)
    (et_StoreError : PySem.W.typeIn K (.ref EStoreError) = some (.type "type"))
    (aE_BadName : PySem.W.nsIn K mainGlobals "BadName" = some (some (.ref EBadName)))
    (ei_BadName : PySem.W.isClsIn K EBadName = true)
    (et_BadName : PySem.W.typeIn K (.ref EBadName) = some (.type "type"))
    (aE_BadNumber : PySem.W.nsIn K mainGlobals "BadNumber" = some (some (.ref EBadNumber)))
    (ei_BadNumber : PySem.W.isClsIn K EBadNumber = true)
    (et_BadNumber : PySem.W.typeIn K (.ref EBadNumber) = some (.type "type"))
    (aE_BadPlan : PySem.W.nsIn K mainGlobals "BadPlan" = some (some (.ref EBadPlan)))
    (ei_BadPlan : PySem.W.isClsIn K EBadPlan = true)
    (et_BadPlan : PySem.W.typeIn K (.ref EBadPlan) = some (.type "type"))
    (aE_BadRow : PySem.W.nsIn K mainGlobals "BadRow" = some (some (.ref EBadRow)))
    (ei_BadRow : PySem.W.isClsIn K EBadRow = true)
    (et_BadRow : PySem.W.typeIn K (.ref EBadRow) = some (.type "type"))
    (aE_BadText : PySem.W.nsIn K mainGlobals "BadText" = some (some (.ref EBadText)))
    (ei_BadText : PySem.W.isClsIn K EBadText = true)
    (et_BadText : PySem.W.typeIn K (.ref EBadText) = some (.type "type"))
    (aE_Gone : PySem.W.nsIn K mainGlobals "Gone" = some (some (.ref EGone)))
    (ei_Gone : PySem.W.isClsIn K EGone = true)
    (et_Gone : PySem.W.typeIn K (.ref EGone) = some (.type "type"))
    (aE_TooGreat : PySem.W.nsIn K mainGlobals "TooGreat" = some (some (.ref ETooGreat)))
    (ei_TooGreat : PySem.W.isClsIn K ETooGreat = true)
    (et_TooGreat : PySem.W.typeIn K (.ref ETooGreat) = some (.type "type"))
    (aE_Twice : PySem.W.nsIn K mainGlobals "Twice" = some (some (.ref ETwice)))
    (ei_Twice : PySem.W.isClsIn K ETwice = true)
    (et_Twice : PySem.W.typeIn K (.ref ETwice) = some (.type "type"))
    (aE_Within : PySem.W.nsIn K mainGlobals "Within" = some (some (.ref EWithin)))
    (ei_Within : PySem.W.isClsIn K EWithin = true)
    (et_Within : PySem.W.typeIn K (.ref EWithin) = some (.type "type"))
    (es_BadNumber : PySem.W.subIn K (.ref EBadNumber) (.type "BaseException") = some true)
    (es_Gone : PySem.W.subIn K (.ref EGone) (.type "BaseException") = some true)
    (es_StoreError : PySem.W.subIn K (.ref EStoreError) (.type "BaseException") = some true)
    (en : PySem.W.specialIn K (.builtin "object.__class__") "__get__" = some (some (.builtin "getset_descriptor.__get__")))
    (ey : PySem.W.takesIn K (.builtin "object.__class__") = some true)
    (ek_Gone : PySem.W.keepIn K (.ref EGone) = true)
    (ex_Gone : PySem.W.excIn K EGone [.type "ValueError", .type "Exception", .type "BaseException", .type "object"] "ValueError.__new__" = true)
    (eg_Gone : PySem.W.findIn K (.ref EGone) "__getattribute__" = some (some (.builtin "BaseException.__getattribute__")))
    (eh_Gone : PySem.W.findIn K (.ref EGone) "__getattr__" = some none)
    (ed_Gone : PySem.W.hasDictIn K EGone = true)
    (ec_Gone : PySem.W.findIn K (.ref EGone) "__class__" = some (some (.builtin "object.__class__")))
    (em_Gone : PySem.W.mroIn K EGone (.type "object") = some true)
    (eq_Gone : PySem.W.subIn K (.ref EGone) (.ref EStoreError) = some true)
    (ev_Gone : PySem.W.subIn K (.ref EGone) (.type "ValueError") = some true)
    (su_Gone_BadName : PySem.W.subIn K (.ref EGone) (.ref EBadName) = some false)
    (ne_Gone_BadName : EGone ≠ EBadName)
    (su_Gone_BadNumber : PySem.W.subIn K (.ref EGone) (.ref EBadNumber) = some false)
    (ne_Gone_BadNumber : EGone ≠ EBadNumber)
    (su_Gone_BadPlan : PySem.W.subIn K (.ref EGone) (.ref EBadPlan) = some false)
    (ne_Gone_BadPlan : EGone ≠ EBadPlan)
    (su_Gone_BadRow : PySem.W.subIn K (.ref EGone) (.ref EBadRow) = some false)
    (ne_Gone_BadRow : EGone ≠ EBadRow)
    (su_Gone_BadText : PySem.W.subIn K (.ref EGone) (.ref EBadText) = some false)
    (ne_Gone_BadText : EGone ≠ EBadText)
    (su_Gone_TooGreat : PySem.W.subIn K (.ref EGone) (.ref ETooGreat) = some false)
    (ne_Gone_TooGreat : EGone ≠ ETooGreat)
    (su_Gone_Twice : PySem.W.subIn K (.ref EGone) (.ref ETwice) = some false)
    (ne_Gone_Twice : EGone ≠ ETwice)
    (su_Gone_Within : PySem.W.subIn K (.ref EGone) (.ref EWithin) = some false)
    (ne_Gone_Within : EGone ≠ EWithin)
    (ek_BadNumber : PySem.W.keepIn K (.ref EBadNumber) = true)
    (ex_BadNumber : PySem.W.excIn K EBadNumber [.type "ValueError", .type "Exception", .type "BaseException", .type "object"] "ValueError.__new__" = true)
    (eg_BadNumber : PySem.W.findIn K (.ref EBadNumber) "__getattribute__" = some (some (.builtin "BaseException.__getattribute__")))
    (eh_BadNumber : PySem.W.findIn K (.ref EBadNumber) "__getattr__" = some none)
    (ed_BadNumber : PySem.W.hasDictIn K EBadNumber = true)
    (ec_BadNumber : PySem.W.findIn K (.ref EBadNumber) "__class__" = some (some (.builtin "object.__class__")))
    (em_BadNumber : PySem.W.mroIn K EBadNumber (.type "object") = some true)
    (eq_BadNumber : PySem.W.subIn K (.ref EBadNumber) (.ref EStoreError) = some true)
    (ev_BadNumber : PySem.W.subIn K (.ref EBadNumber) (.type "ValueError") = some true)
    (su_BadNumber_BadName : PySem.W.subIn K (.ref EBadNumber) (.ref EBadName) = some false)
    (ne_BadNumber_BadName : EBadNumber ≠ EBadName)
    (su_BadNumber_BadPlan : PySem.W.subIn K (.ref EBadNumber) (.ref EBadPlan) = some false)
    (ne_BadNumber_BadPlan : EBadNumber ≠ EBadPlan)
    (su_BadNumber_BadRow : PySem.W.subIn K (.ref EBadNumber) (.ref EBadRow) = some false)
    (ne_BadNumber_BadRow : EBadNumber ≠ EBadRow)
    (su_BadNumber_BadText : PySem.W.subIn K (.ref EBadNumber) (.ref EBadText) = some false)
    (ne_BadNumber_BadText : EBadNumber ≠ EBadText)
    (su_BadNumber_Gone : PySem.W.subIn K (.ref EBadNumber) (.ref EGone) = some false)
    (ne_BadNumber_Gone : EBadNumber ≠ EGone)
    (su_BadNumber_TooGreat : PySem.W.subIn K (.ref EBadNumber) (.ref ETooGreat) = some false)
    (ne_BadNumber_TooGreat : EBadNumber ≠ ETooGreat)
    (su_BadNumber_Twice : PySem.W.subIn K (.ref EBadNumber) (.ref ETwice) = some false)
    (ne_BadNumber_Twice : EBadNumber ≠ ETwice)
    (su_BadNumber_Within : PySem.W.subIn K (.ref EBadNumber) (.ref EWithin) = some false)
    (ne_BadNumber_Within : EBadNumber ≠ EWithin)
    {eL : Value} {dL : Option Addr} {vL : Array Value} {sL : Array (Option Value)} (own : LamX.OwnTab K fa h) (lc : K.lookup cL = some ⟨eL, dL, .fields vL, sL⟩) (vP : vL[11]? = some (.ref PL)) (nP : K.lookup PL = none) (hC : PySem.W.codeHdIn K cL PL = true)
    : LamX.LawAtS l w K CX0 8 63 "_law_script" mg fa h := by
  have e := hfa.symm.trans (PySem.W.mg_of X G a13)
  cases e
  have F0 := fun_mk (st := s_Disk_init) l0 c0 k0
  have F1 := fun_mk (st := s_Disk_need_power) l1 c1 k1
  have F2 := fun_mk (st := s_Disk_count) l2 c2 k2
  have F3 := fun_mk (st := s_Disk_write) l3 c3 k3
  have F4 := fun_mk (st := s_Disk_settle) l4 c4 k4
  have F5 := fun_mk (st := s_Disk_units) l5 c5 k5
  have F6 := fun_mk (st := s_Disk_arm) l6 c6 k6
  have F7 := fun_mk (st := s_Disk_fall) l7 c7 k7
  have F8 := fun_mk (st := s_l_begun) l8 c8 k8
  have F9 := fun_mk (st := s_l_take) l9 c9 k9
  have F10 := fun_mk (st := s_l_alike) l10 c10 k10
  have F11 := fun_mk (st := s_l_told) l11 c11 k11
  have F12 := fun_mk (st := s_l_all) l12 c12 k12
  have F13 := fun_mk (st := s_law) l13 c13 k13
  have hP := own cL PL _ _ _ _ _ _ l13 rfl rfl lc vP
  have T : ∃ T : Txt K mg, T.f_law = fa ∧ T.fd_law = PySem.W.fnOf "law" "law" (defArgs s_law) (defBody s_law) (defScope s_law) .none kV13 dc13 pm13 an13 (.ref cL) ct13 ∧ T.c_law = cL ∧ T.P_law = PL := ⟨{ f_Disk_init := f0, fd_Disk_init := _, F_Disk_init := F0, b_Disk_init := (F0.binds (ps := ["self"]) fun _ _ _ _ _ _ us hl => match us, hl with | [_], _ => rfl), f_Disk_need_power := f1, fd_Disk_need_power := _, F_Disk_need_power := F1, b_Disk_need_power := (F1.binds (ps := ["self"]) fun _ _ _ _ _ _ us hl => match us, hl with | [_], _ => rfl), f_Disk_count := f2, fd_Disk_count := _, F_Disk_count := F2, b_Disk_count := (F2.binds (ps := ["self"]) fun _ _ _ _ _ _ us hl => match us, hl with | [_], _ => rfl), f_Disk_write := f3, fd_Disk_write := _, F_Disk_write := F3, b_Disk_write := (F3.binds (ps := ["self", "unit"]) fun _ _ _ _ _ _ us hl => match us, hl with | [_, _], _ => rfl), f_Disk_settle := f4, fd_Disk_settle := _, F_Disk_settle := F4, b_Disk_settle := (F4.binds (ps := ["self"]) fun _ _ _ _ _ _ us hl => match us, hl with | [_], _ => rfl), f_Disk_units := f5, fd_Disk_units := _, F_Disk_units := F5, b_Disk_units := (F5.binds (ps := ["self"]) fun _ _ _ _ _ _ us hl => match us, hl with | [_], _ => rfl), f_Disk_arm := f6, fd_Disk_arm := _, F_Disk_arm := F6, b_Disk_arm := (F6.binds (ps := ["self", "many"]) fun _ _ _ _ _ _ us hl => match us, hl with | [_, _], _ => rfl), f_Disk_fall := f7, fd_Disk_fall := _, F_Disk_fall := F7, b_Disk_fall := (F7.binds (ps := ["self", "cut"]) fun _ _ _ _ _ _ us hl => match us, hl with | [_, _], _ => rfl), f_l_begun := f8, fd_l_begun := _, F_l_begun := F8, b_l_begun := (F8.binds (ps := ["_law_script"]) fun _ _ _ _ _ _ us hl => match us, hl with | [_], _ => rfl), mg_l_begun := PySem.W.mg_of X G a8, f_l_take := f9, fd_l_take := _, F_l_take := F9, b_l_take := (F9.binds (ps := ["_law_box", "_law_many"]) fun _ _ _ _ _ _ us hl => match us, hl with | [_, _], _ => rfl), mg_l_take := PySem.W.mg_of X G a9, f_l_alike := f10, fd_l_alike := _, F_l_alike := F10, b_l_alike := (F10.binds (ps := ["_law_found", "_law_due"]) fun _ _ _ _ _ _ us hl => match us, hl with | [_, _], _ => rfl), mg_l_alike := PySem.W.mg_of X G a10, f_l_told := f11, fd_l_told := _, F_l_told := F11, b_l_told := (F11.binds (ps := ["_law_work"]) fun _ _ _ _ _ _ us hl => match us, hl with | [_], _ => rfl), mg_l_told := PySem.W.mg_of X G a11, f_l_all := f12, fd_l_all := _, F_l_all := F12, b_l_all := (F12.binds (ps := ["_law_works", "_law_due"]) fun _ _ _ _ _ _ us hl => match us, hl with | [_, _], _ => rfl), mg_l_all := PySem.W.mg_of X G a12, f_law := fa, fd_law := _, F_law := F13, b_law := (F13.binds (ps := ["_law_script"]) fun _ _ _ _ _ _ us hl => match us, hl with | [_], _ => rfl), mg_law := PySem.W.mg_of X G a13, C_Disk := CDisk, cl_Disk := ⟨pgDisk, hdDisk, poDisk, saDisk⟩, mg_Disk := PySem.W.mg_of X G aCDisk, mk_Disk := ⟨mkDisk, a0, i0, kcDisk⟩, na_Disk_there := nDisk_there, na_Disk_late := nDisk_late, na_Disk_left := nDisk_left, na_Disk_is_gone := nDisk_is_gone, me_Disk_need_power := ⟨a1, i1, k1⟩, me_Disk_count := ⟨a2, i2, k2⟩, me_Disk_write := ⟨a3, i3, k3⟩, me_Disk_settle := ⟨a4, i4, k4⟩, me_Disk_units := ⟨a5, i5, k5⟩, me_Disk_arm := ⟨a6, i6, k6⟩, me_Disk_fall := ⟨a7, i7, k7⟩, n_ValueError := PySem.W.mg_none_of X G z_ValueError, n_list := PySem.W.mg_none_of X G z_list, n_int := PySem.W.mg_none_of X G z_int, n_len := PySem.W.mg_none_of X G z_len, n_isinstance := PySem.W.mg_none_of X G z_isinstance, n_bool := PySem.W.mg_none_of X G z_bool, n_str := PySem.W.mg_none_of X G z_str, n_tuple := PySem.W.mg_none_of X G z_tuple, n_range := PySem.W.mg_none_of X G z_range, C_StoreError := EStoreError, mg_StoreError := PySem.W.mg_of X G aE_StoreError, C_BadName := EBadName, mg_BadName := PySem.W.mg_of X G aE_BadName, C_BadNumber := EBadNumber, mg_BadNumber := PySem.W.mg_of X G aE_BadNumber, C_BadPlan := EBadPlan, mg_BadPlan := PySem.W.mg_of X G aE_BadPlan, C_BadRow := EBadRow, mg_BadRow := PySem.W.mg_of X G aE_BadRow, C_BadText := EBadText, mg_BadText := PySem.W.mg_of X G aE_BadText, C_Gone := EGone, mg_Gone := PySem.W.mg_of X G aE_Gone, C_TooGreat := ETooGreat, mg_TooGreat := PySem.W.mg_of X G aE_TooGreat, C_Twice := ETwice, mg_Twice := PySem.W.mg_of X G aE_Twice, C_Within := EWithin, mg_Within := PySem.W.mg_of X G aE_Within, X_Gone := ⟨PySem.W.mg_of X G aE_Gone, ek_Gone, ex_Gone, es_Gone, et_Gone⟩, K_Gone := ⟨⟨eg_Gone, eh_Gone, es_Gone, ed_Gone, ec_Gone, en, ey, em_Gone⟩, Td.exm_of es_StoreError ei_StoreError et_StoreError eq_Gone, Td.kit_ve ev_Gone, Td.kind_at (Td.kit_no ei_BadName et_BadName su_Gone_BadName ne_Gone_BadName) (Td.kit_no ei_BadNumber et_BadNumber su_Gone_BadNumber ne_Gone_BadNumber) (Td.kit_no ei_BadPlan et_BadPlan su_Gone_BadPlan ne_Gone_BadPlan) (Td.kit_no ei_BadRow et_BadRow su_Gone_BadRow ne_Gone_BadRow) (Td.kit_no ei_BadText et_BadText su_Gone_BadText ne_Gone_BadText) Td.kit_self (Td.kit_no ei_TooGreat et_TooGreat su_Gone_TooGreat ne_Gone_TooGreat) (Td.kit_no ei_Twice et_Twice su_Gone_Twice ne_Gone_Twice) (Td.kit_no ei_Within et_Within su_Gone_Within ne_Gone_Within)⟩, X_BadNumber := ⟨PySem.W.mg_of X G aE_BadNumber, ek_BadNumber, ex_BadNumber, es_BadNumber, et_BadNumber⟩, K_BadNumber := ⟨⟨eg_BadNumber, eh_BadNumber, es_BadNumber, ed_BadNumber, ec_BadNumber, en, ey, em_BadNumber⟩, Td.exm_of es_StoreError ei_StoreError et_StoreError eq_BadNumber, Td.kit_ve ev_BadNumber, Td.kind_at (Td.kit_no ei_BadName et_BadName su_BadNumber_BadName ne_BadNumber_BadName) Td.kit_self (Td.kit_no ei_BadPlan et_BadPlan su_BadNumber_BadPlan ne_BadNumber_BadPlan) (Td.kit_no ei_BadRow et_BadRow su_BadNumber_BadRow ne_BadNumber_BadRow) (Td.kit_no ei_BadText et_BadText su_BadNumber_BadText ne_BadNumber_BadText) (Td.kit_no ei_Gone et_Gone su_BadNumber_Gone ne_BadNumber_Gone) (Td.kit_no ei_TooGreat et_TooGreat su_BadNumber_TooGreat ne_BadNumber_TooGreat) (Td.kit_no ei_Twice et_Twice su_BadNumber_Twice ne_BadNumber_Twice) (Td.kit_no ei_Within et_Within su_BadNumber_Within ne_BadNumber_Within)⟩, c_law := cL, P_law := PL, hc_law := rfl }, rfl, rfl, rfl, rfl⟩
  obtain ⟨T, t1, t2, t3, t4⟩ := T
  refine ⟨PySem.W.fnOf "law" "law" (defArgs s_law) (defBody s_law) (defScope s_law) .none kV13 dc13 pm13 an13 (.ref cL) ct13, [(cL, PL)], spLaw K PL, fun p hp => ?_, fun p hp => ?_, fun p hp => ?_, fun s v => .of_eq rfl, fun H a ns hl _ hH hS => ⟨a, ns, rfl, hS, hl, hH (cL, PL) (List.mem_singleton.mpr rfl), fun _ => rfl⟩, fun base _ _ hTB => ?_⟩
  · rw [List.mem_singleton.mp hp]; exact hP
  · rw [List.mem_singleton.mp hp]; exact nP
  · rw [List.mem_singleton.mp hp]; exact PySem.W.codeHd_of_K X hC
  have TB := hTB (cL, PL) (List.mem_singleton.mpr rfl)
  rw [← t1, ← t2, ← t4]
  rw [← t3, ← t4] at TB
  exact ok_all T TB
theorem walk {l : PySem.W.OpenLaw} {q : Program} {loose : List Str} {XP : (Str → Option Value) → Heap → Prop} {YP : World → Heap → Prop} {d : DefRec} {K : Params → PySem.W.Frag} (hn : l.most = some 63) (hdf : d.params.defaults = []) (hrec : ((recsOf q).any fun e => e.name == d.name) = true)
    (hY : ∀ (w : World) (h : Heap), YP w h → (K w.params).In h)
    (F : ∀ (w : World) (mg : Str → Option Value) (fa : Addr) (h : Heap), YP w h → (K w.params).In h → h.Ns mainGlobals mg → mg d.name = some (.ref fa) → LamX.OwnTab (K w.params) fa h → LamX.LawAtS l w (K w.params) CX0 8 63 "_law_script" mg fa h) :
    PySem.W.WalkO q loose XP YP l.row.toRowW d [] (fun f vs => PySem.call f vs) :=
  LamX.walk_ofOwn (n := 63) (k := 8) (x := "_law_script") (CX := fun _ => CX0) hn (by decide) hdf ⟨rfl, by decide, by decide⟩ hrec hY F fun _ _ _ _ _ z => z
end K38
open PySem PySem.W PyProof.Rows
set_option maxRecDepth 100000 in
set_option maxHeartbeats 0 in
theorem PySem.Challenge.cw_granary_k38_disks_step_by_step_holds : PySem.Challenge.rw_granary_k38_disks_step_by_step.Holds := by
  w_on; o_law; k_head; (case hw => w_witness2)
  k_fill
  refine K38.walk (l := PySem.Challenge.rw_granary_k38_disks_step_by_step) rfl rfl ?R (fun w h Y => PySem.W.km_in_of Y) ?F
  case R => first | rfl | decide +kernel
  case F =>
    intro w mg fa h _ KX G hmg own
    refine' K38.all_mk KX G hmg ?i0 ?a0 ?l0 ?c0 ?k0 ?i1 ?a1 ?l1 ?c1 ?k1 ?i2 ?a2 ?l2 ?c2 ?k2 ?i3 ?a3 ?l3 ?c3 ?k3 ?i4 ?a4 ?l4 ?c4 ?k4 ?i5 ?a5 ?l5 ?c5 ?k5 ?i6 ?a6 ?l6 ?c6 ?k6 ?i7 ?a7 ?l7 ?c7 ?k7 ?a8 ?l8 ?c8 ?k8 ?a9 ?l9 ?c9 ?k9 ?a10 ?l10 ?c10 ?k10 ?a11 ?l11 ?c11 ?k11 ?a12 ?l12 ?c12 ?k12 ?a13 ?l13 ?c13 ?k13 ?aCDisk ?pgDisk ?hdDisk ?poDisk ?saDisk ?mkDisk ?kcDisk ?nDisk_there ?nDisk_late ?nDisk_left ?nDisk_is_gone ?z_ValueError ?z_list ?z_int ?z_len ?z_isinstance ?z_bool ?z_str ?z_tuple ?z_range ?aE_StoreError ?ei_StoreError ?et_StoreError ?aE_BadName ?ei_BadName ?et_BadName ?aE_BadNumber ?ei_BadNumber ?et_BadNumber ?aE_BadPlan ?ei_BadPlan ?et_BadPlan ?aE_BadRow ?ei_BadRow ?et_BadRow ?aE_BadText ?ei_BadText ?et_BadText ?aE_Gone ?ei_Gone ?et_Gone ?aE_TooGreat ?ei_TooGreat ?et_TooGreat ?aE_Twice ?ei_Twice ?et_Twice ?aE_Within ?ei_Within ?et_Within ?es_BadNumber ?es_Gone ?es_StoreError ?en ?ey ?ek_Gone ?ex_Gone ?eg_Gone ?eh_Gone ?ed_Gone ?ec_Gone ?em_Gone ?eq_Gone ?ev_Gone ?su_Gone_BadName ?ne_Gone_BadName ?su_Gone_BadNumber ?ne_Gone_BadNumber ?su_Gone_BadPlan ?ne_Gone_BadPlan ?su_Gone_BadRow ?ne_Gone_BadRow ?su_Gone_BadText ?ne_Gone_BadText ?su_Gone_TooGreat ?ne_Gone_TooGreat ?su_Gone_Twice ?ne_Gone_Twice ?su_Gone_Within ?ne_Gone_Within ?ek_BadNumber ?ex_BadNumber ?eg_BadNumber ?eh_BadNumber ?ed_BadNumber ?ec_BadNumber ?em_BadNumber ?eq_BadNumber ?ev_BadNumber ?su_BadNumber_BadName ?ne_BadNumber_BadName ?su_BadNumber_BadPlan ?ne_BadNumber_BadPlan ?su_BadNumber_BadRow ?ne_BadNumber_BadRow ?su_BadNumber_BadText ?ne_BadNumber_BadText ?su_BadNumber_Gone ?ne_BadNumber_Gone ?su_BadNumber_TooGreat ?ne_BadNumber_TooGreat ?su_BadNumber_Twice ?ne_BadNumber_Twice ?su_BadNumber_Within ?ne_BadNumber_Within own ?lc ?vP ?nP ?hC
    (case aCDisk => k_is)
    (case aE_StoreError => k_is)
    (case aE_BadName => k_is)
    (case aE_BadNumber => k_is)
    (case aE_BadPlan => k_is)
    (case aE_BadRow => k_is)
    (case aE_BadText => k_is)
    (case aE_Gone => k_is)
    (case aE_TooGreat => k_is)
    (case aE_Twice => k_is)
    (case aE_Within => k_is)
    (case i0 => k_is)
    (case a0 => k_is)
    (case l0 => k_is)
    (case c0 => k_is)
    (case k0 => k_is)
    (case i1 => k_is)
    (case a1 => k_is)
    (case l1 => k_is)
    (case c1 => k_is)
    (case k1 => k_is)
    (case i2 => k_is)
    (case a2 => k_is)
    (case l2 => k_is)
    (case c2 => k_is)
    (case k2 => k_is)
    (case i3 => k_is)
    (case a3 => k_is)
    (case l3 => k_is)
    (case c3 => k_is)
    (case k3 => k_is)
    (case i4 => k_is)
    (case a4 => k_is)
    (case l4 => k_is)
    (case c4 => k_is)
    (case k4 => k_is)
    (case i5 => k_is)
    (case a5 => k_is)
    (case l5 => k_is)
    (case c5 => k_is)
    (case k5 => k_is)
    (case i6 => k_is)
    (case a6 => k_is)
    (case l6 => k_is)
    (case c6 => k_is)
    (case k6 => k_is)
    (case i7 => k_is)
    (case a7 => k_is)
    (case l7 => k_is)
    (case c7 => k_is)
    (case k7 => k_is)
    (case a8 => k_is)
    (case l8 => k_is)
    (case c8 => k_is)
    (case k8 => k_is)
    (case a9 => k_is)
    (case l9 => k_is)
    (case c9 => k_is)
    (case k9 => k_is)
    (case a10 => k_is)
    (case l10 => k_is)
    (case c10 => k_is)
    (case k10 => k_is)
    (case a11 => k_is)
    (case l11 => k_is)
    (case c11 => k_is)
    (case k11 => k_is)
    (case a12 => k_is)
    (case l12 => k_is)
    (case c12 => k_is)
    (case k12 => k_is)
    (case a13 => k_is)
    (case l13 => k_is)
    (case c13 => k_is)
    (case k13 => k_is)
    (case pgDisk => k_is)
    (case hdDisk => k_is)
    (case poDisk => k_is)
    (case saDisk => k_is)
    (case mkDisk => k_is)
    (case kcDisk => k_is)
    (case nDisk_there => k_is)
    (case nDisk_late => k_is)
    (case nDisk_left => k_is)
    (case nDisk_is_gone => k_is)
    (case z_ValueError => k_is)
    (case z_list => k_is)
    (case z_int => k_is)
    (case z_len => k_is)
    (case z_isinstance => k_is)
    (case z_bool => k_is)
    (case z_str => k_is)
    (case z_tuple => k_is)
    (case z_range => k_is)
    (case ei_StoreError => k_is)
    (case et_StoreError => k_is)
    (case ei_BadName => k_is)
    (case et_BadName => k_is)
    (case ei_BadNumber => k_is)
    (case et_BadNumber => k_is)
    (case ei_BadPlan => k_is)
    (case et_BadPlan => k_is)
    (case ei_BadRow => k_is)
    (case et_BadRow => k_is)
    (case ei_BadText => k_is)
    (case et_BadText => k_is)
    (case ei_Gone => k_is)
    (case et_Gone => k_is)
    (case ei_TooGreat => k_is)
    (case et_TooGreat => k_is)
    (case ei_Twice => k_is)
    (case et_Twice => k_is)
    (case ei_Within => k_is)
    (case et_Within => k_is)
    (case es_BadNumber => k_is)
    (case es_Gone => k_is)
    (case es_StoreError => k_is)
    (case en => k_is)
    (case ey => k_is)
    (case ek_Gone => k_is)
    (case ex_Gone => k_exc)
    (case eg_Gone => k_is)
    (case eh_Gone => k_is)
    (case ed_Gone => k_is)
    (case ec_Gone => k_is)
    (case em_Gone => k_is)
    (case eq_Gone => k_is)
    (case ev_Gone => k_is)
    (case su_Gone_BadName => k_is)
    (case ne_Gone_BadName => decide)
    (case su_Gone_BadNumber => k_is)
    (case ne_Gone_BadNumber => decide)
    (case su_Gone_BadPlan => k_is)
    (case ne_Gone_BadPlan => decide)
    (case su_Gone_BadRow => k_is)
    (case ne_Gone_BadRow => decide)
    (case su_Gone_BadText => k_is)
    (case ne_Gone_BadText => decide)
    (case su_Gone_TooGreat => k_is)
    (case ne_Gone_TooGreat => decide)
    (case su_Gone_Twice => k_is)
    (case ne_Gone_Twice => decide)
    (case su_Gone_Within => k_is)
    (case ne_Gone_Within => decide)
    (case ek_BadNumber => k_is)
    (case ex_BadNumber => k_exc)
    (case eg_BadNumber => k_is)
    (case eh_BadNumber => k_is)
    (case ed_BadNumber => k_is)
    (case ec_BadNumber => k_is)
    (case em_BadNumber => k_is)
    (case eq_BadNumber => k_is)
    (case ev_BadNumber => k_is)
    (case su_BadNumber_BadName => k_is)
    (case ne_BadNumber_BadName => decide)
    (case su_BadNumber_BadPlan => k_is)
    (case ne_BadNumber_BadPlan => decide)
    (case su_BadNumber_BadRow => k_is)
    (case ne_BadNumber_BadRow => decide)
    (case su_BadNumber_BadText => k_is)
    (case ne_BadNumber_BadText => decide)
    (case su_BadNumber_Gone => k_is)
    (case ne_BadNumber_Gone => decide)
    (case su_BadNumber_TooGreat => k_is)
    (case ne_BadNumber_TooGreat => decide)
    (case su_BadNumber_Twice => k_is)
    (case ne_BadNumber_Twice => decide)
    (case su_BadNumber_Within => k_is)
    (case ne_BadNumber_Within => decide)
    (case lc => k_is)
    (case vP => rfl)
    (case nP => first | rfl | decide +kernel)
    (case hC => first | rfl | decide +kernel)

