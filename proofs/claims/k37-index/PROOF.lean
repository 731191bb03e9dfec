import PyProof.Rows.All
import Wide.All
import OpenK.AllK
import Wide.FinOn
import HandS.ForMost
import HandS.Strs
import HandS.TupAny
import HandS.IsInst
import HandS.More
import HandS.Walk
import HandS.ReCall
import HandS.Evl
import HandS.Style
import KE.GoesMore
import HandS.TupSets
import KE.SortData
import HandS.DeepEq
import HandS.DictTup
import PyProof.DictMoreH
import PySem.Challenge.RW_granary_k37_an_index_alone
set_option Elab.async false
set_option linter.all false
set_option maxRecDepth 100000
set_option maxHeartbeats 4000000
namespace G7
open PySem PySem.Spec PyProof.Rows L2

/-! ### heaps: all that was tracked stands, but at some addresses -/
def Keep (ms : List Addr) (H H' : Hp) : Prop := ∀ b o, b ∉ ms → H b = some o → H' b = some o
theorem Keep.refl {ms : List Addr} {H : Hp} : Keep ms H H := fun _ _ _ h => h
theorem Keep.trans {ms : List Addr} {H H1 H2 : Hp} (a : Keep ms H H1) (b : Keep ms H1 H2) : Keep ms H H2 := fun c o n h => b c o n (a c o n h)
theorem Keep.mono {ms ms' : List Addr} {H H1 : Hp} (a : Keep ms H H1) (s : ∀ b, b ∈ ms → b ∈ ms') : Keep ms' H H1 := fun c o n h => a c o (fun m => n (s c m)) h
theorem Keep.same {H H1 : Hp} (a : Keep [] H H1) : Same H H1 := fun c o h => a c o (by simp) h
theorem Keep.ofSame {ms : List Addr} {H H1 : Hp} (a : Same H H1) : Keep ms H H1 := fun c o _ h => a c o h
theorem Keep.new {ms : List Addr} {H : Hp} {p : Addr} {o : HO} (h : H p = none) : Keep ms H (upd H p o) := fun a u _ e => by
  rw [upd_ne (ne_of_none e h)]
  exact e
theorem Keep.thenNew {ms : List Addr} {H H1 : Hp} {p : Addr} {o : HO} (k : Keep ms H H1) (h : H1 p = none) : Keep ms H (upd H1 p o) := k.trans (Keep.new h)
theorem Keep.upd {ms : List Addr} {H H1 : Hp} {p : Addr} {o : HO} (k : Keep ms H H1) (h : p ∈ ms) : Keep ms H (L2.upd H1 p o) := fun a u n e => by
  rw [upd_ne (fun z => n (by rw [z]; exact h))]
  exact k a u n e
/-- an address that H does not know may change -/
theorem Keep.updFree {ms : List Addr} {H H1 : Hp} {p : Addr} {o : HO} (k : Keep ms H H1) (h : H p = none) : Keep ms H (L2.upd H1 p o) := fun a u n e => by
  rw [upd_ne (ne_of_none e h)]
  exact k a u n e
theorem Keep.free {H H1 : Hp} {p : Addr} (k : Keep [] H H1) (h : H1 p = none) : H p = none := k.same.free h
theorem same_new {H : Hp} {p : Addr} {o : HO} (h : H p = none) : Same H (upd H p o) := fun a u e => by
  rw [upd_ne (ne_of_none e h)]
  exact e
theorem Same.updFree {H H1 : Hp} {p : Addr} {o : HO} (k : Same H H1) (h : H p = none) : Same H (L2.upd H1 p o) := fun a u e => by
  rw [upd_ne (ne_of_none e h)]
  exact k a u e
theorem free_keep {ms : List Addr} {H H1 : Hp} {p : Addr} (k : Keep ms H H1) (n : p ∉ ms) (h : H1 p = none) : H p = none := by
  cases q : H p with
  | none => rfl
  | some o =>
    rw [k p o n q] at h
    cases h
theorem Keep.rd {ms : List Addr} {H H1 : Hp} {a : Addr} {u : HO} (k : Keep ms H H1) (n : a ∉ ms) (h : Rd H a u) : Rd H1 a u := by
  rcases h with h | ⟨o, h⟩
  · exact .inl (k _ _ n h)
  · exact .inr ⟨o, k _ _ n h⟩
theorem Keep.sqL {K : PySem.W.Frag} {ms : List Addr} {H H1 : Hp} {a : Addr} {xs : List V} (k : Keep ms H H1) (n : a ∉ ms) (h : SqL K H a xs) : SqL K H1 a xs := by
  rcases h with h | h
  · exact .inl (k.rd n h)
  · exact .inr h
theorem Keep.sqT {K : PySem.W.Frag} {ms : List Addr} {H H1 : Hp} {a : Addr} {xs : List V} (k : Keep ms H H1) (n : ∀ m, m ∈ ms → ∃ o, H m = some o ∧ Mut (some o)) (h : SqT K H a xs) : SqT K H1 a xs := by
  rcases h with (h | ⟨o, h⟩) | h
  · exact .inl (.inl (k _ _ (fun m => by obtain ⟨u, e, mu⟩ := n _ m; rw [h] at e; cases e; exact mu) h))
  · exact .inl (.inr ⟨o, k _ _ (fun m => by obtain ⟨u, e, mu⟩ := n _ m; rw [h] at e; cases e; exact mu) h⟩)
  · exact .inr h
theorem same_sqT {K : PySem.W.Frag} {H H1 : Hp} {a : Addr} {xs : List V} (k : Same H H1) (h : SqT K H a xs) : SqT K H1 a xs :=
  (Keep.ofSame (ms := []) k).sqT (fun m hm => absurd hm (by simp)) h
theorem int_at {ns : List Int} {i : Nat} {y : V} (h : (ns.map V.int)[i]? = some y) : ∃ z, ns[i]? = some z ∧ y = V.int z := by
  rw [List.getElem?_map] at h
  cases e : ns[i]? with
  | none => rw [e] at h; cases h
  | some z => rw [e] at h; exact ⟨z, rfl, (Option.some.inj h).symm⟩
theorem str_at {ns : List Str} {i : Nat} {y : V} (h : (ns.map V.str)[i]? = some y) : ∃ z, ns[i]? = some z ∧ y = V.str z := by
  rw [List.getElem?_map] at h
  cases e : ns[i]? with
  | none => rw [e] at h; cases h
  | some z => rw [e] at h; exact ⟨z, rfl, (Option.some.inj h).symm⟩
theorem szl {n : Nat} (h : n ≤ 100000) : n ≤ sizeLine := Nat.le_trans h (by decide)
theorem szl' {n : Nat} (h : n < 100000) : n < sizeLine := Nat.lt_of_lt_of_le h (by decide)
theorem hu64_of {A : Around} {k : Nat} (hr : Room k A) : A.units + 64 < cLine := by have := hr.un; omega
theorem map_int_inj {a b : List Int} (h : a.map V.int = b.map V.int) : a = b := by
  induction a generalizing b with
  | nil => cases b with
    | nil => rfl
    | cons _ _ => cases h
  | cons x r ih => cases b with
    | nil => cases h
    | cons y s =>
      injection h with h1 h2
      injection h1 with h1
      rw [h1, ih h2]

/-! ### data -/
theorem dpAll_ints (K : PySem.W.Frag) (H : Hp) : ∀ ns : List Int, DpAll K H (ns.map V.int) (ns.map PyData.int)
  | [] => .nil
  | n :: r => .cons (.int n) (dpAll_ints K H r)

/-! ### the draw box of the laws: [cells, stirred] -/
def BoxA (H : Hp) (h l : Addr) : Prop := ∃ (ns : List Int) (st : Int), H h = some (.lst [.ref l, .int st]) ∧ H l = some (.lst (ns.map V.int)) ∧ ns.length ≤ 100000
theorem BoxA.ne {H : Hp} {h l : Addr} (b : BoxA H h l) : h ≠ l := by
  obtain ⟨ns, st, e1, e2, _⟩ := b
  rintro rfl
  rw [e1] at e2
  injection e2 with e2
  injection e2 with e2
  cases ns with
  | nil => cases e2
  | cons n r => injection e2 with e3 _; cases e3
theorem BoxA.muts {H : Hp} {h l : Addr} (b : BoxA H h l) : ∀ m, m ∈ [h, l] → ∃ o, H m = some o ∧ Mut (some o) := by
  obtain ⟨ns, st, e1, e2, _⟩ := b
  intro m hm
  simp only [List.mem_cons, List.mem_nil_iff, or_false] at hm
  rcases hm with rfl | rfl
  · exact ⟨_, e1, trivial⟩
  · exact ⟨_, e2, trivial⟩
theorem BoxA.keep {ms : List Addr} {H H' : Hp} {h l : Addr} (b : BoxA H h l) (k : Keep ms H H') (n1 : h ∉ ms) (n2 : l ∉ ms) : BoxA H' h l := by
  obtain ⟨ns, st, e1, e2, e3⟩ := b
  exact ⟨ns, st, k _ _ n1 e1, k _ _ n2 e2, e3⟩
theorem BoxA.same {H H' : Hp} {h l : Addr} (b : BoxA H h l) (k : Same H H') : BoxA H' h l := b.keep (ms := []) (Keep.ofSame k) (by simp) (by simp)
end G7

set_option linter.all false
set_option Elab.async false
set_option maxRecDepth 100000
set_option maxHeartbeats 4000000
namespace G7
open PySem PySem.Spec PyProof.Rows L2
/-! ### rules of our own, by what stands in the abstract heap -/
/-- what may be read as a list, a tuple, a dict -/
def lsO : Option HO → Option (List V)
  | some (.lst xs) => some xs
  | some (.frz _ (.lst xs)) => some xs
  | _ => none
def tpO : Option HO → Option (List V)
  | some (.tup xs) => some xs
  | some (.frz _ (.tup xs)) => some xs
  | _ => none
def dkO : Option HO → Option (List (Key × V))
  | some (.dK xs) => some xs
  | some (.frz _ (.dK xs)) => some xs
  | _ => none
theorem rd_lsO {H : Hp} {a : Addr} {xs : List V} (h : lsO (H a) = some xs) : Rd H a (.lst xs) := by
  unfold lsO at h
  split at h
  · rename_i e; cases h; exact .inl e
  · rename_i o _ e; cases h; exact .inr ⟨o, e⟩
  · cases h
theorem rd_tpO {H : Hp} {a : Addr} {xs : List V} (h : tpO (H a) = some xs) : Rd H a (.tup xs) := by
  unfold tpO at h
  split at h
  · rename_i e; cases h; exact .inl e
  · rename_i o _ e; cases h; exact .inr ⟨o, e⟩
  · cases h
theorem rd_dkO {H : Hp} {a : Addr} {xs : List (Key × V)} (h : dkO (H a) = some xs) : Rd H a (.dK xs) := by
  unfold dkO at h
  split at h
  · rename_i e; cases h; exact .inl e
  · rename_i o _ e; cases h; exact .inr ⟨o, e⟩
  · cases h
theorem lsO_l {xs : List V} : lsO (some (.lst xs)) = some xs := rfl
theorem lsO_f {o : Obj} {xs : List V} : lsO (some (.frz o (.lst xs))) = some xs := rfl
theorem tpO_t {xs : List V} : tpO (some (.tup xs)) = some xs := rfl
theorem tpO_f {o : Obj} {xs : List V} : tpO (some (.frz o (.tup xs))) = some xs := rfl
theorem dkO_d {xs : List (Key × V)} : dkO (some (.dK xs)) = some xs := rfl
theorem dkO_f {o : Obj} {xs : List (Key × V)} : dkO (some (.frz o (.dK xs))) = some xs := rfl
theorem lay_ints : ∀ ns : List Int, PyData.canLayAll0 (ns.map PyData.int) = true
  | [] => by simp [PyData.canLayAll0]
  | n :: r => by simp [PyData.canLayAll0, PyData.canLay0, lay_ints r]
theorem depth_ints : ∀ ns : List Int, PyData.depthAll (ns.map PyData.int) ≤ 1
  | [] => by simp [PyData.depthAll]
  | n :: r => by
    have h := depth_ints r
    simp only [List.map_cons, PyData.depthAll, PyData.depth]
    omega
theorem shaped_ints (ns : List Int) : SeqAt.shaped (.list (ns.map PyData.int)) = true := by
  have h1 := depth_ints ns
  have h2 : PyData.depth (.list (ns.map PyData.int)) ≤ 64 := by
    simp only [PyData.depth]
    omega
  unfold SeqAt.shaped
  rw [Bool.and_eq_true]
  exact ⟨by simp only [PyData.canLay0]; exact lay_ints ns, decide_eq_true h2⟩
section
variable {X : Cx}
theorem ixImp {r r' : R2} (h : IxR X r) (i : ∀ x y H Q, r' x y H Q → r x y H Q) : IxR X r' := fun a b p s σ H x y v u Q I rx ry q e => h a b p s σ H x y v u Q I rx ry (i _ _ _ _ q) e
theorem opImp {f : Value → Value → Sem Value} {r r' : R2} (h : OpR X f r) (i : ∀ x y H Q, r' x y H Q → r x y H Q) : OpR X f r' := fun p s σ H x y v u Q I rx ry q => h p s σ H x y v u Q I rx ry (i _ _ _ _ q)
theorem callImp {f : Value} {r r' : List V → Hp → VK → Prop} (h : CallR X f r) (i : ∀ x H Q, r' x H Q → r x H Q) : CallR X f r' := fun p s σ H x u Q I rx q => h p s σ H x u Q I rx (i _ _ _ q)
theorem mtImp {id : String} {r r' : V → List V → Hp → VK → Prop} (h : MtR X id r) (i : ∀ x y H Q, r' x y H Q → r x y H Q) : MtR X id r' := fun p s σ H x xs v us Q I rx rs q => h p s σ H x xs v us Q I rx rs (i _ _ _ _ q)
def rIxH : R2 := fun x y H Q => ∃ p xs i v, x = .ref p ∧ y = .int i ∧ lsO (H p) = some xs ∧ atI xs i = some v ∧ Q v H
def rIxU : R2 := fun x y H Q => ∃ p xs i v, x = .ref p ∧ y = .int i ∧ tpO (H p) = some xs ∧ atI xs i = some v ∧ Q v H
theorem ix_lst : IxR X rIxH := ixImp ix_list fun x y H Q ⟨p, xs, i, v, e1, e2, h, a, q⟩ => ⟨p, xs, i, v, e1, e2, .inl (rd_lsO h), a, q⟩
theorem ix_tp : IxR X rIxU := ixImp ix_tup fun x y H Q ⟨p, xs, i, v, e1, e2, h, a, q⟩ => ⟨p, xs, i, v, e1, e2, .inl (rd_tpO h), a, q⟩
def cLenL : List V → Hp → VK → Prop := fun vs H Q => ∃ p xs, vs = [.ref p] ∧ lsO (H p) = some xs ∧ Q (.int (xs.length : Int)) H
def cLenT : List V → Hp → VK → Prop := fun vs H Q => ∃ p xs, vs = [.ref p] ∧ tpO (H p) = some xs ∧ Q (.int (xs.length : Int)) H
theorem len_lst : CallR X (.builtin "len") cLenL := callImp call_len_seq fun vs H Q ⟨p, xs, e, h, q⟩ => ⟨p, xs, e, .inl (.inl (rd_lsO h)), q⟩
theorem len_tp : CallR X (.builtin "len") cLenT := callImp call_len_seq fun vs H Q ⟨p, xs, e, h, q⟩ => ⟨p, xs, e, .inr (.inl (rd_tpO h)), q⟩
def cListL : List V → Hp → VK → Prop := fun vs H Q => ∃ p xs, vs = [.ref p] ∧ lsO (H p) = some xs ∧ ∀ l, H l = none → Q (.ref l) (upd H l (.lst xs))
def cListT : List V → Hp → VK → Prop := fun vs H Q => ∃ p xs, vs = [.ref p] ∧ tpO (H p) = some xs ∧ ∀ l, H l = none → Q (.ref l) (upd H l (.lst xs))
theorem list_lst : CallR X (.type "list") cListL := callImp call_list_of fun vs H Q ⟨p, xs, e, h, q⟩ => ⟨p, xs, e, .inl (.inl (rd_lsO h)), q⟩
theorem list_tp : CallR X (.type "list") cListT := callImp call_list_of fun vs H Q ⟨p, xs, e, h, q⟩ => ⟨p, xs, e, .inr (.inl (rd_tpO h)), q⟩
def cTupL : List V → Hp → VK → Prop := fun vs H Q => ∃ p xs, vs = [.ref p] ∧ lsO (H p) = some xs ∧ ∀ l, H l = none → Q (.ref l) (upd H l (.tup xs))
theorem tuple_lst : CallR X (.type "tuple") cTupL := callImp call_tuple_of fun vs H Q ⟨p, xs, e, h, q⟩ => ⟨p, xs, e, .inl ⟨.inl (rd_lsO h), q⟩⟩
/-- int of a bool, of an int -/
def cIntB : List V → Hp → VK → Prop := fun vs H Q => ∃ b, vs = [.bl b] ∧ Q (.int (if b then 1 else 0)) H
theorem int_bl : CallR X (.type "int") cIntB := callImp call_int1 fun vs H Q ⟨b, e, q⟩ => .inr ⟨b, e, q⟩
/-- all(..) of a list of bools -/
def cAll : List V → Hp → VK → Prop := fun vs H Q => ∃ (p : Addr) (bs : List Bool), vs = [.ref p] ∧ lsO (H p) = some (bs.map V.bl) ∧ Q (.bl (bs.all id)) H
theorem all_lst (hc : X.calm = true) : CallR X (.builtin "all") cAll := callImp (cr_all hc) fun vs H Q ⟨p, bs, e, h, q⟩ => ⟨p, bs, e, .inl (rd_lsO h), q⟩
/-- a list of ints against [] -/
def rEqNilI : R2 := fun x y H Q => ∃ (p q : Addr) (ns : List Int), x = .ref p ∧ y = .ref q ∧ lsO (H p) = some (ns.map V.int) ∧ lsO (H q) = some [] ∧ Q (.bl ns.isEmpty) H
theorem op_eqNilI (hu : X.A.units + 64 < cLine) : OpR X (compareOp .Eq) rEqNilI := opImp (op_eqD hu) fun x y H Q ⟨p, q, ns, e1, e2, h1, h2, k⟩ => by
  refine ⟨.list (ns.map PyData.int), .list [], e1 ▸ .lst (.inl (rd_lsO h1)) (dpAll_ints X.K H ns), e2 ▸ .lst (.inl (rd_lsO h2)) .nil, ?_, rfl, ?_⟩
  · exact shaped_ints ns
  · cases ns with
    | nil => exact k
    | cons n r => exact k
/-! a reading that lets what follows be weaker -/
def tM (t : TE) : TE := fun σ H Q => ∃ Q0 : VK, t σ H Q0 ∧ ∀ x H1, Q0 x H1 → Q x H1
theorem pe_m {e : Expr} {t : TE} (h : PE X e t) : PE X e (tM t) := ⟨fun pins s σ H Q I ⟨Q0, h0, q⟩ => thn (h.run pins s σ H Q0 I h0) fun u s' ⟨v, H', I', r, k⟩ => ⟨v, H', I', r, q v H' k⟩⟩
theorem tM_of {t : TE} {σ : L2.St} {H : Hp} {Q Q' : VK} (h : t σ H Q) (i : ∀ x H1, Q x H1 → Q' x H1) : tM t σ H Q' := ⟨Q, h, i⟩
theorem PE.imp' {e : Expr} {t t' : TE} (h : PE X e t) (i : ∀ σ H Q, t' σ H Q → t σ H Q) : PE X e t' := ⟨fun pins s σ H Q I q => h.run pins s σ H Q I (i σ H Q q)⟩
theorem PS.imp' {e : Stmt} {t t' : TS} (h : PS X e t) (i : ∀ D σ H, t' D σ H → t D σ H) : PS X e t' := ⟨fun pins s σ H D I q => h.run pins s σ H D I (i D σ H q)⟩
def keyO : V → Option Key
  | .int i => some (.inl i)
  | .str s => some (.inr s)
  | _ => none
theorem keyO_eq {y : V} {k : Key} (h : keyO y = some k) : y = kV k := by
  cases y <;> cases h <;> rfl
theorem keyO_i {i : Int} : keyO (.int i) = some (.inl i) := rfl
theorem keyO_s {s : Str} : keyO (.str s) = some (.inr s) := rfl
theorem dget_of {H : Hp} {a : Addr} {y : V} {kvs : List (Key × V)} {k : Key} (h : dkO (H a) = some kvs) (e : keyO y = some k) : DGet H a y (valV kvs k) := .inl ⟨kvs, k, rd_dkO h, keyO_eq e, rfl⟩
/-- d.get(k, x) -/
def tGet2 (td ty tx : TE) : TE := fun σ H Q => td σ H fun x H1 => ∃ a kvs, x = .ref a ∧ dkO (H1 a) = some kvs ∧ ty σ H1 fun y H2 => tx σ H2 fun z H3 => ∃ kvs k, dkO (H3 a) = some kvs ∧ keyO y = some k ∧ Q ((valV kvs k).getD z) H3
theorem pe_get2 {o e f : Expr} {td ty tx : TE} {apos cpos : Pos} (hu : X.A.units + 1 < cLine) (ho : PE X o td) (he : PE X e ty) (hf : PE X f tx)
    (h1 : attributeBase o "get" X.env (eval o X.env) = eval o X.env := by rfl)
    (h2 : ((backTo cpos (starEach [e, f] X.env)).all (fun x => !x.1) && (backToKw cpos (keywordEach [] X.env)).all (fun x => x.1.isSome) && decide (([e, f] : List Expr).length + ([] : List Keyword).length + (if ([] : List Keyword).isEmpty then 0 else 1) < 30)) = true := by rfl)
    (h3 : (apos.endLine == cpos.line) = true := by rfl) (h4 : backTo cpos (starEach [e, f] X.env) = [(false, eval e X.env), (false, eval f X.env)] := by rfl) :
    PE X (.Call (.Attribute o "get" apos) [e, f] [] cpos) (tGet2 td ty tx) :=
  PE.imp' (pe_dget2 hu (pe_m ho) (pe_m he) (pe_m hf) ⟨h1, h2, h3, h4⟩) fun σ H Q h => by
    refine tM_of h fun x H1 h => ?_
    obtain ⟨a, kvs, e1, e2, q⟩ := h
    refine ⟨a, e1, .inl ⟨kvs, rd_dkO e2⟩, tM_of q fun y H2 q => tM_of q fun z H3 q => ?_⟩
    obtain ⟨kvs, k, e3, e4, q⟩ := q
    exact ⟨_, dget_of e3 e4, q⟩
/-- d[k] -/
def tGetI (td ty : TE) : TE := fun σ H Q => td σ H fun x H1 => ty σ H1 fun y H2 => ∃ a kvs k v, x = .ref a ∧ dkO (H2 a) = some kvs ∧ keyO y = some k ∧ valV kvs k = some v ∧ Q v H2
theorem pe_getI {o i : Expr} {td ty : TE} {pos : Pos} (hu : X.A.units + 1 < cLine) (ho : PE X o td) (hi : PE X i ty) (hs : NoSl i) : PE X (.Subscript o i pos) (tGetI td ty) :=
  PE.imp' (pe_dget hu (pe_m ho) (pe_m hi) hs) fun σ H Q h => by
    refine tM_of h fun x H1 q => tM_of q fun y H2 q => ?_
    obtain ⟨a, kvs, k, v, e1, e2, e3, e4, q⟩ := q
    exact ⟨a, v, e1, by rw [← e4]; exact dget_of e2 e3, q⟩
/-- d[k] = v -/
def sPut (td ty tv : TE) : TS := fun D σ H => tv σ H fun v H1 => td σ H1 fun x H2 => ty σ H2 fun y H3 => ∃ a kvs k, x = .ref a ∧ H3 a = some (.dK kvs) ∧ keyO y = some k ∧ kvs.length < sizeLine ∧ D.nx σ (upd H3 a (.dK (putK kvs k v)))
theorem ps_put {o i value : Expr} {td ty tv : TE} {pos pos' : Pos} (hu : X.A.units + 1 < cLine) (ho : PE X o td) (hi : PE X i ty) (hv : PE X value tv) (hs : swapsWith value (some (.Subscript o i pos')) pos.line X.env = pure false) :
    PS X (.Assign [.Subscript o i pos'] value pos) (sPut td ty tv) :=
  PS.imp' (ps_dput hu (pe_m ho) (pe_m hi) (pe_m hv) hs) fun D σ H h => by
    refine tM_of h fun v H1 q => tM_of q fun x H2 q => tM_of q fun y H3 q => ?_
    obtain ⟨a, kvs, k, e1, e2, e3, e4, q⟩ := q
    exact ⟨a, _, e1, .inl ⟨kvs, k, e2, keyO_eq e3, e4, rfl⟩, q⟩
/-! tuples whose object is known: their methods may be called -/
def TupF (H : Hp) (p : Addr) (xs : List V) : Prop := ∃ o : Obj, H p = some (.frz o (.tup xs)) ∧ o.cls = .type "tuple" ∧ o.dict = none
def tTupF (t : TA) : TE := fun σ H Q => t σ H fun xs H1 => xs.length ≤ sizeLine ∧ ∀ p o, H1 p = none → o.cls = .type "tuple" → o.dict = none → Q (.ref p) (upd H1 p (.frz o (.tup xs)))
theorem pe_tupF {es : List Expr} {t : TA} {x1 : Nat} {pos : Pos} (h : PA X es t) : PE X (.Tuple es x1 pos) (tTupF t) := by
  refine ⟨fun pins s σ H Q I hq => ?_⟩
  refine wpAny_Tuple_spliced (thn (h.run pos pins s σ H _ I hq) fun us s1 ⟨xs, H1, I1, r, z, q⟩ => ⟨by rw [← r.length]; exact z, ?_⟩)
  have hf : H1 s1.heap.objs.size = none := I1.hok.fresh (Nat.le_refl _)
  refine ⟨.ref s1.heap.objs.size, _, I1.laid (o := .frz { cls := .type "tuple", data := .seq us.toArray } (.tup xs)) (t' := s1.toks) (fun b u e => Heap.get?_push_of_some _ e) (Nat.le_refl _) ?_, rfl, q _ _ hf rfl rfl⟩
  exact ⟨Heap.get?_push_size _ rfl, z, us, r, ⟨_, Heap.get?_push_size _ rfl, rfl, _, rfl⟩⟩
/-- a slice of a tuple; the whole of it is the tuple itself -/
def rSlF : V → Option Int → Option Int → Hp → VK → Prop := fun x lo hi H Q => ∃ a xs, x = .ref a ∧ tpO (H a) = some xs ∧
  (HT.sIx xs.length 0 lo = 0 ∧ HT.sIx xs.length xs.length hi = xs.length → Q (.ref a) H) ∧
  (¬ (HT.sIx xs.length 0 lo = 0 ∧ HT.sIx xs.length xs.length hi = xs.length) → ∀ p o, H p = none → o.cls = .type "tuple" → o.dict = none → Q (.ref p) (upd H p (.frz o (.tup (cutV xs lo hi)))))
theorem sl_tupF : SlR X rSlF := by
  intro pins s σ H x v vl vu lo hi sl Q I rx hs pl pu h
  obtain ⟨a, xs, rfl, hx, q1, q2⟩ := h
  by_cases hw : HT.sIx xs.length 0 lo = 0 ∧ HT.sIx xs.length xs.length hi = xs.length
  · exact sl_tupA pins s σ H _ v vl vu lo hi sl Q I rx hs pl pu ⟨a, xs, rfl, .inl (rd_tpO hx), q1, fun n => absurd hw n⟩
  · cases rx
    obtain ⟨its, r, ht, hz⟩ := I.tuple (show SqT X.K H a xs from .inl (rd_tpO hx))
    have hlen : its.toArray.size = xs.length := by rw [List.size_toArray]; exact r.length.symm
    refine ⟨"tuple", _, PyProof.Rows.slot_tuple_getitem.lookup, ht.typeIs, ?_⟩
    refine HT.getItem_tuple_cut ht hs pl pu (by rw [hlen]; exact hw) ?_ (by rw [hlen]; exact hz)
    rw [hlen]
    refine ⟨.ref s.heap.objs.size, _, I.laid (t' := s.toks) (o := .frz { cls := .type "tuple", data := .seq ((its.toArray.toList.drop (HT.sIx xs.length 0 lo)).take (HT.sIx xs.length xs.length hi - HT.sIx xs.length 0 lo)).toArray } (.tup (cutV xs lo hi))) (fun b ob q => Heap.get?_push_of_some _ q) (Nat.le_refl _) ?_, rfl, q2 hw _ _ (I.hok.fresh (Nat.le_refl _)) rfl rfl⟩
    · exact ⟨Heap.get?_push_size _ rfl, Nat.le_trans (cutV_length xs lo hi) hz, _, (r.drop (HT.sIx xs.length 0 lo)).take (HT.sIx xs.length xs.length hi - HT.sIx xs.length 0 lo), IsTup.new _ _⟩
/-- fields.index(word): fields a tuple of texts, its object known -/
def tyTup : V → Hp → Prop := fun x H => ∃ p o ys, x = .ref p ∧ H p = some (.frz o (.tup ys)) ∧ o.cls = .type "tuple" ∧ o.dict = none
theorem ty_tup : TyOk X "tuple" tyTup := by
  intro pins σ H s x v I r h
  obtain ⟨p, o, ys, rfl, h, hc, hd⟩ := h
  cases r
  obtain ⟨g1, _⟩ := I.hok p _ h
  exact ⟨⟨o, g1, hc⟩, fun a e => by cases e; exact ⟨o, g1, hd⟩⟩
def rTIdx : V → List V → Hp → VK → Prop := fun x xs H Q => ∃ (p : Addr) (fs : List Str) (z : Str) (j : Nat), x = .ref p ∧ xs = [.str z] ∧ tpO (H p) = some (fs.map V.str) ∧ fs[j]? = some z ∧ (∀ m, m < j → fs[m]? ≠ some z) ∧ Q (.int (j : Nat)) H
theorem mt_tidx : MtR X "tuple.index" rTIdx := mtImp mt_tup_index fun x xs H Q ⟨p, fs, z, j, e1, e2, h1, h2, h3, q⟩ => ⟨p, fs, z, j, e1, e2, .inl (rd_tpO h1), h2, h3, q⟩
/-- a, b = t -/
def gTupH (n : Nat) (t : TGs) : TG := fun v σ H Q => ∃ a xs, v = .ref a ∧ tpO (H a) = some xs ∧ xs.length = n ∧ t xs σ H Q
theorem pg_tupH {es : List Expr} {k : Nat} {t : TGs} {n : Nat} {pos : Pos} (hc : X.calm = true) (h : PGs X es t)
    (hn : (assignEach es X.env).length = n := by rfl) (hst : (assignEach es X.env).findIdx? (·.1) = none := by rfl) : PG X (.Tuple es k pos) (gTupH n t) :=
  ⟨fun pins s σ H v u Q I r ⟨a, xs, e1, e2, e3, e4⟩ => (pg_tup hc h hn hst).run pins s σ H v u Q I r ⟨a, xs, e1, .inl (rd_tpO e2), e3, e4⟩⟩
/-! the same with the written part by name (under a comprehension's block) -/
theorem pi_tupK (K : PySem.W.Frag) (hK : X.K = K) {tg l : Expr} {tl : TE} (h : PE X l tl) : PI X tg l (iTup K tl) := hK ▸ pi_tup h
theorem pi_listK (K : PySem.W.Frag) (hK : X.K = K) {tg l : Expr} {tl : TE} (h : PE X l tl) : PI X tg l (iList K tl) := hK ▸ pi_list h
theorem op_eqDK (K : PySem.W.Frag) (hK : X.K = K) (hu : X.A.units + 64 < cLine) : OpR X (compareOp .Eq) (rEqD K) := hK ▸ op_eqD hu
theorem op_neDK (K : PySem.W.Frag) (hK : X.K = K) (hu : X.A.units + 64 < cLine) : OpR X (compareOp .NotEq) (rNeD K) := hK ▸ op_neD hu
theorem op_in_seqK (K : PySem.W.Frag) (hK : X.K = K) : OpR X (compareOp .In) (rIn K false) := hK ▸ op_in_seq
theorem op_notIn_seqK (K : PySem.W.Frag) (hK : X.K = K) : OpR X (compareOp .NotIn) (rIn K true) := hK ▸ op_notIn_seq
theorem cx_K {CX : CXT} {P : Program} {w : World} {K : PySem.W.Frag} {mg : Str → Option Value} {base : Heap} {N : List Str} {q : Str} {sc : Scope} {f : Addr} {cd : Value} {A : Around} {outer : List Env} {s : Shared} {H : Hp} {E : XK} :
    (cxOf CX P w K mg base N q sc f cd A outer s H E).K = K := rfl
theorem cx_w {CX : CXT} {P : Program} {w : World} {K : PySem.W.Frag} {mg : Str → Option Value} {base : Heap} {N : List Str} {q : Str} {sc : Scope} {f : Addr} {cd : Value} {A : Around} {outer : List Env} {s : Shared} {H : Hp} {E : XK} :
    (cxOf CX P w K mg base N q sc f cd A outer s H E).w = w := rfl
theorem at0 {α : Type} {a : α} {r : List α} : atI (a :: r) 0 = some a := by
  unfold atI ixN
  rw [if_pos (by decide), if_pos (by rw [List.length_cons]; omega)]
  rfl
theorem at1 {α : Type} {a b : α} {r : List α} : atI (a :: b :: r) 1 = some b := by
  unfold atI ixN
  rw [if_pos (by decide), if_pos (by rw [List.length_cons, List.length_cons]; omega)]
  rfl
theorem at2 {α : Type} {a b c : α} {r : List α} : atI (a :: b :: c :: r) 2 = some c := by
  unfold atI ixN
  rw [if_pos (by decide), if_pos (by rw [List.length_cons, List.length_cons, List.length_cons]; omega)]
  rfl
theorem at3 {α : Type} {a b c d : α} {r : List α} : atI (a :: b :: c :: d :: r) 3 = some d := by
  unfold atI ixN
  rw [if_pos (by decide), if_pos (by rw [List.length_cons, List.length_cons, List.length_cons, List.length_cons]; omega)]
  rfl
theorem atN {α : Type} {xs : List α} {i : Int} (h0 : 0 ≤ i) : atI xs i = xs[i.toNat]? := by
  unfold atI ixN
  rw [if_pos h0]
  by_cases h : i < xs.length
  · rw [if_pos h]
    rfl
  · rw [if_neg h, List.getElem?_eq_none (by omega)]
    rfl
theorem ixs0 {n : Nat} : ixN (n + 1) 0 = some 0 := by
  unfold ixN
  rw [if_pos (by decide), if_pos (by omega)]
  rfl
theorem ixs1 {n : Nat} : ixN (n + 2) 1 = some 1 := by
  unfold ixN
  rw [if_pos (by decide), if_pos (by omega)]
  rfl
theorem ixs2 {n : Nat} : ixN (n + 3) 2 = some 2 := by
  unfold ixN
  rw [if_pos (by decide), if_pos (by omega)]
  rfl
theorem seq0 {n : Nat} : seqIndex? 0 (n + 1) = some 0 := by
  simp [seqIndex?]
theorem scal_ii {a b : Int} : scal (.int a) (.int b) = true := rfl
theorem scal_ss {a b : Str} : scal (.str a) (.str b) = true := rfl
theorem scal_bb {a b : Bool} : scal (.bl a) (.bl b) = true := rfl
theorem scal_nn : scal .non .non = true := rfl
theorem scal_ni {a : Int} : scal .non (.int a) = true := rfl
theorem scal_in {a : Int} : scal (.int a) .non = true := rfl
theorem scal_ns {a : Str} : scal .non (.str a) = true := rfl
theorem scal_sn {a : Str} : scal (.str a) .non = true := rfl
theorem tyV_list {K : PySem.W.Frag} {l : Addr} {H : Hp} (h : lsO (H l) ≠ none) : tyV K "list" (.ref l) H = True := by
  refine eq_true (.inl ⟨rfl, ?_⟩)
  cases e : lsO (H l) with
  | none => exact absurd e h
  | some xs => exact ⟨xs, .inl (rd_lsO e)⟩
theorem ex_map_int {ns : List Int} {P : List Int → Prop} : (∃ ms : List Int, ns.map V.int = ms.map V.int ∧ P ms) ↔ P ns :=
  ⟨fun ⟨ms, e, p⟩ => by rw [map_int_inj e]; exact p, fun p => ⟨ns, rfl, p⟩⟩
theorem ex_nil_int {P : List Int → Prop} : (∃ ms : List Int, [] = ms.map V.int ∧ P ms) ↔ P [] :=
  ⟨fun ⟨ms, e, p⟩ => (by
    cases ms with
    | nil => exact p
    | cons _ _ => cases e), fun p => ⟨[], rfl, p⟩⟩
theorem ex_cons_int {n : Int} {ns : List Int} {P : List Int → Prop} : (∃ ms : List Int, V.int n :: ns.map V.int = ms.map V.int ∧ P ms) ↔ P (n :: ns) := ex_map_int (ns := n :: ns)
end
/-! ### isinstance of a built-in class, by what stands in the heap -/
inductive TN where
  | non | bl | int | str | lst | tup | dct
def TN.nm : TN → String
  | .non => "NoneType"
  | .bl => "bool"
  | .int => "int"
  | .str => "str"
  | .lst => "list"
  | .tup => "tuple"
  | .dct => "dict"
def tyT : V → Hp → Option TN
  | .non, _ => some .non
  | .bl _, _ => some .bl
  | .int _, _ => some .int
  | .str _, _ => some .str
  | .ref p, H => match H p with
    | some (.lst _) => some .lst
    | some (.tup _) => some .tup
    | some (.dK _) => some .dct
    | some (.dT _) => some .dct
    | _ => none
  | _, _ => none
theorem tyT_ok {K : PySem.W.Frag} {x : V} {H : Hp} {a : TN} (h : tyT x H = some a) : TyX K H x (.type a.nm) := by
  cases x with
  | non => cases h; exact .base .non
  | bl b => cases h; exact .base (.bl b)
  | int b => cases h; exact .base (.int b)
  | str b => cases h; exact .base (.str b)
  | ref p =>
    unfold tyT at h
    dsimp only at h
    split at h
    · rename_i e; cases h; exact .base (.lst e)
    · rename_i e; cases h; exact .base (.tup e)
    · rename_i e; cases h; exact .base (.dK e)
    · rename_i e; cases h; exact .base (.dT e)
    · cases h
  | _ => cases h
theorem tyT_n {H : Hp} : tyT .non H = some .non := rfl
theorem tyT_b {b : Bool} {H : Hp} : tyT (.bl b) H = some .bl := rfl
theorem tyT_i {b : Int} {H : Hp} : tyT (.int b) H = some .int := rfl
theorem tyT_s {b : Str} {H : Hp} : tyT (.str b) H = some .str := rfl
theorem tyT_r {p : Addr} {H : Hp} : tyT (.ref p) H = match H p with
    | some (.lst _) => some .lst
    | some (.tup _) => some .tup
    | some (.dK _) => some .dct
    | some (.dT _) => some .dct
    | _ => none := rfl
def isN (a : TN) (n : String) : Bool := (kitB a.nm n).getD false
theorem isn_non_bool : isN .non "bool" = false := by decide +kernel
theorem isn_non_int : isN .non "int" = false := by decide +kernel
theorem isn_non_str : isN .non "str" = false := by decide +kernel
theorem isn_non_tuple : isN .non "tuple" = false := by decide +kernel
theorem isn_non_list : isN .non "list" = false := by decide +kernel
theorem isn_non_dict : isN .non "dict" = false := by decide +kernel
theorem isn_bl_bool : isN .bl "bool" = true := by decide +kernel
theorem isn_bl_int : isN .bl "int" = true := by decide +kernel
theorem isn_bl_str : isN .bl "str" = false := by decide +kernel
theorem isn_bl_tuple : isN .bl "tuple" = false := by decide +kernel
theorem isn_bl_list : isN .bl "list" = false := by decide +kernel
theorem isn_bl_dict : isN .bl "dict" = false := by decide +kernel
theorem isn_int_bool : isN .int "bool" = false := by decide +kernel
theorem isn_int_int : isN .int "int" = true := by decide +kernel
theorem isn_int_str : isN .int "str" = false := by decide +kernel
theorem isn_int_tuple : isN .int "tuple" = false := by decide +kernel
theorem isn_int_list : isN .int "list" = false := by decide +kernel
theorem isn_int_dict : isN .int "dict" = false := by decide +kernel
theorem isn_str_bool : isN .str "bool" = false := by decide +kernel
theorem isn_str_int : isN .str "int" = false := by decide +kernel
theorem isn_str_str : isN .str "str" = true := by decide +kernel
theorem isn_str_tuple : isN .str "tuple" = false := by decide +kernel
theorem isn_str_list : isN .str "list" = false := by decide +kernel
theorem isn_str_dict : isN .str "dict" = false := by decide +kernel
theorem isn_lst_bool : isN .lst "bool" = false := by decide +kernel
theorem isn_lst_int : isN .lst "int" = false := by decide +kernel
theorem isn_lst_str : isN .lst "str" = false := by decide +kernel
theorem isn_lst_tuple : isN .lst "tuple" = false := by decide +kernel
theorem isn_lst_list : isN .lst "list" = true := by decide +kernel
theorem isn_lst_dict : isN .lst "dict" = false := by decide +kernel
theorem isn_tup_bool : isN .tup "bool" = false := by decide +kernel
theorem isn_tup_int : isN .tup "int" = false := by decide +kernel
theorem isn_tup_str : isN .tup "str" = false := by decide +kernel
theorem isn_tup_tuple : isN .tup "tuple" = true := by decide +kernel
theorem isn_tup_list : isN .tup "list" = false := by decide +kernel
theorem isn_tup_dict : isN .tup "dict" = false := by decide +kernel
theorem isn_dct_bool : isN .dct "bool" = false := by decide +kernel
theorem isn_dct_int : isN .dct "int" = false := by decide +kernel
theorem isn_dct_str : isN .dct "str" = false := by decide +kernel
theorem isn_dct_tuple : isN .dct "tuple" = false := by decide +kernel
theorem isn_dct_list : isN .dct "list" = false := by decide +kernel
theorem isn_dct_dict : isN .dct "dict" = true := by decide +kernel
def okN (n : String) : Prop := n = "bool" ∨ n = "int" ∨ n = "str" ∨ n = "tuple" ∨ n = "list" ∨ n = "dict"
theorem okn_bool : okN "bool" = True := eq_true (by unfold okN; simp)
theorem okn_int : okN "int" = True := eq_true (by unfold okN; simp)
theorem okn_str : okN "str" = True := eq_true (by unfold okN; simp)
theorem okn_tuple : okN "tuple" = True := eq_true (by unfold okN; simp)
theorem okn_list : okN "list" = True := eq_true (by unfold okN; simp)
theorem okn_dict : okN "dict" = True := eq_true (by unfold okN; simp)
theorem kit_isN {a : TN} {n : String} (h : okN n) : kitB a.nm n = some (isN a n) := by
  rcases h with rfl | rfl | rfl | rfl | rfl | rfl <;> cases a <;> decide +kernel
def cIsi : List V → Hp → VK → Prop := fun xs H Q => ∃ x n a, xs = [x, .ty n] ∧ okN n ∧ tyT x H = some a ∧ Q (.bl (isN a n)) H
theorem isi_h {X : Cx} : CallR X (.builtin "isinstance") cIsi := callImp call_isi fun xs H Q ⟨x, n, a, e, ok, t, q⟩ => ⟨x, .ty n, _, _, _, e, .ty n, tyT_ok t, kit_ty (kit_isN ok), q⟩
end G7

namespace G7
open PySem PySem.Spec PyProof.Rows L2
/-! ### promises of the draws -/
def spBegun (K : PySem.W.Frag) : Sp := fun vs H Q _ => ∃ (a : Addr) (ns : List Int), vs = [.ref a] ∧ SqL K H a (ns.map V.int) ∧ ns.length ≤ 63 ∧ ∀ H' h l, H h = none → H l = none → Same H H' → BoxA H' h l → Q (.ref h) H'
def spTake : Sp := fun vs H Q _ => ∃ (h l : Addr) (n : Int), vs = [.ref h, .int n] ∧ BoxA H h l ∧ 0 < n ∧ n < 1073741824 ∧ ∀ r H', 0 ≤ r → r < n → BoxA H' h l → Keep [h, l] H H' → Q (.int r) H'
theorem cut_ne {α : Type} {a b : α} {P : Prop} (h : a = b → False) : a ≠ b := h
end G7

set_option linter.all false
set_option Elab.async false
set_option maxRecDepth 100000
set_option maxHeartbeats 4000000
namespace G7
open PySem PySem.Spec PyProof.Rows L2
theorem cpow18 : CPow 10 18 = True := eq_true ⟨by decide, by decide, by decide⟩
/-! ### words of the statements' trees -/
inductive Wd where
  | num | field | add | sub | mul | eq | lt | gt | le | ge | and | or | not
  deriving DecidableEq
def Wd.s : Wd → Str
  | .num => "num"
  | .field => "field"
  | .add => "+"
  | .sub => "-"
  | .mul => "*"
  | .eq => "="
  | .lt => "<"
  | .gt => ">"
  | .le => "<="
  | .ge => ">="
  | .and => "and"
  | .or => "or"
  | .not => "not"
def Wd.all : List Wd := [.num, .field, .add, .sub, .mul, .eq, .lt, .gt, .le, .ge, .and, .or, .not]
theorem Wd.s_inj : ∀ a b : Wd, (a.s = b.s) = (a = b) := by
  intro a b
  cases a <;> cases b <;> first | rfl | (apply propext; constructor <;> intro h <;> first | (revert h; decide +kernel) | cases h)
theorem ws_num : (Str.ofString "num" : Str) = Wd.s .num := rfl
theorem ws_field : (Str.ofString "field" : Str) = Wd.s .field := rfl
theorem ws_add : (Str.ofString "+" : Str) = Wd.s .add := rfl
theorem ws_sub : (Str.ofString "-" : Str) = Wd.s .sub := rfl
theorem ws_mul : (Str.ofString "*" : Str) = Wd.s .mul := rfl
theorem ws_eq : (Str.ofString "=" : Str) = Wd.s .eq := rfl
theorem ws_lt : (Str.ofString "<" : Str) = Wd.s .lt := rfl
theorem ws_gt : (Str.ofString ">" : Str) = Wd.s .gt := rfl
theorem ws_le : (Str.ofString "<=" : Str) = Wd.s .le := rfl
theorem ws_ge : (Str.ofString ">=" : Str) = Wd.s .ge := rfl
theorem ws_and : (Str.ofString "and" : Str) = Wd.s .and := rfl
theorem ws_or : (Str.ofString "or" : Str) = Wd.s .or := rfl
theorem ws_not : (Str.ofString "not" : Str) = Wd.s .not := rfl
theorem ex_wd {a : Wd} {P : Wd → Prop} : (∃ b, a = b ∧ P b) ↔ P a := ⟨fun ⟨b, e, p⟩ => by rw [e]; exact p, fun p => ⟨a, rfl, p⟩⟩
/-! ### terms and conditions -/
inductive Tm where
  | num (n : Int)
  | fld (t f : Str)
  | op (o : Wd) (a b : Tm)
inductive Cd where
  | cmp (c : Wd) (a b : Tm)
  | neg (c : Cd)
  | con (o : Wd) (a b : Cd)
/-- the words stand where they may -/
def Wd.isOp : Wd → Bool
  | .add => true
  | .sub => true
  | .mul => true
  | _ => false
def Wd.isCmp : Wd → Bool
  | .eq => true
  | .lt => true
  | .gt => true
  | .le => true
  | .ge => true
  | _ => false
def Wd.isCon : Wd → Bool
  | .and => true
  | .or => true
  | _ => false
def Tm.ok : Tm → Bool
  | .num _ => true
  | .fld t f => PyData.strOk t && PyData.strOk f
  | .op o a b => o.isOp && a.ok && b.ok
def Cd.ok : Cd → Bool
  | .cmp c a b => c.isCmp && a.ok && b.ok
  | .neg c => c.ok
  | .con o a b => o.isCon && a.ok && b.ok
def Tm.deep : Tm → Nat
  | .op _ a b => max a.deep b.deep + 1
  | _ => 1
def Cd.deep : Cd → Nat
  | .cmp _ a b => max a.deep b.deep + 1
  | .neg c => c.deep + 1
  | .con _ a b => max a.deep b.deep + 1
def Tm.enc : Tm → PyData
  | .num n => .tuple [.str (Wd.s .num), .int n]
  | .fld t f => .tuple [.str (Wd.s .field), .str t, .str f]
  | .op o a b => .tuple [.str o.s, a.enc, b.enc]
def Cd.enc : Cd → PyData
  | .cmp c a b => .tuple [.str c.s, a.enc, b.enc]
  | .neg c => .tuple [.str (Wd.s .not), c.enc]
  | .con o a b => .tuple [.str o.s, a.enc, b.enc]
/-- v is the term in H -/
def RT (H : Hp) : V → Tm → Prop
  | v, .num n => ∃ a, v = .ref a ∧ H a = some (.tup [.str (Wd.s .num), .int n])
  | v, .fld t f => ∃ a, v = .ref a ∧ H a = some (.tup [.str (Wd.s .field), .str t, .str f])
  | v, .op o x y => ∃ a u w, v = .ref a ∧ H a = some (.tup [.str o.s, u, w]) ∧ RT H u x ∧ RT H w y
def RC (H : Hp) : V → Cd → Prop
  | v, .cmp c x y => ∃ a u w, v = .ref a ∧ H a = some (.tup [.str c.s, u, w]) ∧ RT H u x ∧ RT H w y
  | v, .neg c => ∃ a u, v = .ref a ∧ H a = some (.tup [.str (Wd.s .not), u]) ∧ RC H u c
  | v, .con o x y => ∃ a u w, v = .ref a ∧ H a = some (.tup [.str o.s, u, w]) ∧ RC H u x ∧ RC H w y
/-- None or a condition -/
def RCo (H : Hp) (v : V) : Option Cd → Prop
  | none => v = .non
  | some c => RC H v c
/-- tuples stand -/
def TupS (H H' : Hp) : Prop := ∀ a xs, H a = some (.tup xs) → H' a = some (.tup xs)
theorem TupS.refl {H : Hp} : TupS H H := fun _ _ h => h
theorem TupS.trans {H H1 H2 : Hp} (a : TupS H H1) (b : TupS H1 H2) : TupS H H2 := fun c o h => b c o (a c o h)
theorem TupS.ofSame {H H1 : Hp} (a : Same H H1) : TupS H H1 := fun c o h => a c _ h
theorem TupS.ofKeep {H H1 : Hp} {ms : List Addr} (n : ∀ m, m ∈ ms → ∃ o, H m = some o ∧ Mut (some o)) (a : Keep ms H H1) : TupS H H1 := fun c o h =>
  a c _ (fun m => by obtain ⟨u, e, mu⟩ := n c m; rw [h] at e; cases e; exact mu) h
theorem TupS.upd {H H1 : Hp} {p : Addr} {o u : HO} (a : TupS H H1) (h : H1 p = some u) (hu : ∀ xs, u ≠ .tup xs) : TupS H (L2.upd H1 p o) := fun c xs e => by
  have e1 := a c xs e
  rw [upd_ne (fun z => by rw [z, h] at e1; cases e1; exact hu _ rfl)]
  exact e1
theorem RT.tups {H H' : Hp} (s : TupS H H') : ∀ {t : Tm} {v : V}, RT H v t → RT H' v t
  | .num n, v, ⟨a, e, h⟩ => ⟨a, e, s _ _ h⟩
  | .fld t f, v, ⟨a, e, h⟩ => ⟨a, e, s _ _ h⟩
  | .op o x y, v, ⟨a, u, w, e, h, h1, h2⟩ => ⟨a, u, w, e, s _ _ h, RT.tups s h1, RT.tups s h2⟩
theorem RC.tups {H H' : Hp} (s : TupS H H') : ∀ {t : Cd} {v : V}, RC H v t → RC H' v t
  | .cmp o x y, v, ⟨a, u, w, e, h, h1, h2⟩ => ⟨a, u, w, e, s _ _ h, RT.tups s h1, RT.tups s h2⟩
  | .neg c, v, ⟨a, u, e, h, h1⟩ => ⟨a, u, e, s _ _ h, RC.tups s h1⟩
  | .con o x y, v, ⟨a, u, w, e, h, h1, h2⟩ => ⟨a, u, w, e, s _ _ h, RC.tups s h1, RC.tups s h2⟩
theorem RCo.tups {H H' : Hp} (s : TupS H H') {v : V} : ∀ {o : Option Cd}, RCo H v o → RCo H' v o
  | none, h => h
  | some c, h => RC.tups s h
theorem RT.dp {K : PySem.W.Frag} {H : Hp} : ∀ {t : Tm} {v : V}, RT H v t → Dp K H v t.enc
  | .num n, v, ⟨a, e, h⟩ => by rw [e]; exact .tup (.inl (.inl h)) (.cons (.str _) (.cons (.int _) .nil))
  | .fld t f, v, ⟨a, e, h⟩ => by rw [e]; exact .tup (.inl (.inl h)) (.cons (.str _) (.cons (.str _) (.cons (.str _) .nil)))
  | .op o x y, v, ⟨a, u, w, e, h, h1, h2⟩ => by rw [e]; exact .tup (.inl (.inl h)) (.cons (.str _) (.cons (RT.dp h1) (.cons (RT.dp h2) .nil)))
theorem RC.dp {K : PySem.W.Frag} {H : Hp} : ∀ {t : Cd} {v : V}, RC H v t → Dp K H v t.enc
  | .cmp o x y, v, ⟨a, u, w, e, h, h1, h2⟩ => by rw [e]; exact .tup (.inl (.inl h)) (.cons (.str _) (.cons (RT.dp h1) (.cons (RT.dp h2) .nil)))
  | .neg c, v, ⟨a, u, e, h, h1⟩ => by rw [e]; exact .tup (.inl (.inl h)) (.cons (.str _) (.cons (RC.dp h1) .nil))
  | .con o x y, v, ⟨a, u, w, e, h, h1, h2⟩ => by rw [e]; exact .tup (.inl (.inl h)) (.cons (.str _) (.cons (RC.dp h1) (.cons (RC.dp h2) .nil)))
theorem Wd.strOk (o : Wd) : PyData.strOk o.s = true := by cases o <;> decide +kernel
theorem Tm.lay : ∀ t : Tm, t.ok = true → t.enc.canLay0 = true
  | .num n, _ => by simp [Tm.enc, PyData.canLay0, PyData.canLayAll0, Wd.strOk]
  | .fld t f, h => by
    simp only [Tm.ok, Bool.and_eq_true] at h
    simp [Tm.enc, PyData.canLay0, PyData.canLayAll0, Wd.strOk, h]
  | .op o a b, h => by
    simp only [Tm.ok, Bool.and_eq_true] at h
    simp [Tm.enc, PyData.canLay0, PyData.canLayAll0, Tm.lay a h.1.2, Tm.lay b h.2, Wd.strOk]
theorem Tm.depth : ∀ t : Tm, t.enc.depth ≤ t.deep
  | .num n => by simp [Tm.enc, PyData.depth, PyData.depthAll, Tm.deep]
  | .fld t f => by simp [Tm.enc, PyData.depth, PyData.depthAll, Tm.deep]
  | .op o a b => by
    have h1 := Tm.depth a
    have h2 := Tm.depth b
    simp only [Tm.enc, PyData.depth, PyData.depthAll, Tm.deep]
    omega
end G7

set_option linter.all false
set_option Elab.async false
set_option maxRecDepth 100000
set_option maxHeartbeats 4000000
namespace G7
open PySem PySem.Spec PyProof.Rows L2
/-! ### the second draw box: [mixed, cells, place] -/
def BoxB (H : Hp) (h l : Addr) : Prop := ∃ (m : Int) (ns : List Int) (p : Int), H h = some (.lst [.int m, .ref l, .int p]) ∧ H l = some (.lst (ns.map V.int)) ∧ ns.length ≤ 63
theorem BoxB.muts {H : Hp} {h l : Addr} (b : BoxB H h l) : ∀ m, m ∈ [h, l] → ∃ o, H m = some o ∧ Mut (some o) := by
  obtain ⟨m0, ns, st, e1, e2, _⟩ := b
  intro m hm
  simp only [List.mem_cons, List.mem_nil_iff, or_false] at hm
  rcases hm with rfl | rfl
  · exact ⟨_, e1, trivial⟩
  · exact ⟨_, e2, trivial⟩
theorem BoxB.keep {ms : List Addr} {H H' : Hp} {h l : Addr} (b : BoxB H h l) (k : Keep ms H H') (n1 : h ∉ ms) (n2 : l ∉ ms) : BoxB H' h l := by
  obtain ⟨m, ns, st, e1, e2, e3⟩ := b
  exact ⟨m, ns, st, k _ _ n1 e1, k _ _ n2 e2, e3⟩
theorem BoxB.same {H H' : Hp} {h l : Addr} (b : BoxB H h l) (k : Same H H') : BoxB H' h l := b.keep (ms := []) (Keep.ofSame k) (by simp) (by simp)
theorem BoxB.ne {H : Hp} {h l : Addr} (b : BoxB H h l) : h ≠ l := by
  obtain ⟨m, ns, st, e1, e2, _⟩ := b
  rintro rfl
  rw [e1] at e2
  injection e2 with e2
  injection e2 with e2
  rcases ns with _ | ⟨n, _ | ⟨n2, r⟩⟩
  · cases e2
  · injection e2 with _ e3; cases e3
  · injection e2 with _ e3
    injection e3 with e4 _
    cases e4
theorem BoxB.tups {H H' : Hp} {h l : Addr} (b : BoxB H h l) (k : Keep [h, l] H H') : TupS H H' := TupS.ofKeep b.muts k
/-- what is no list is not the box -/
theorem BoxB.notin {H : Hp} {h l q : Addr} {o : HO} (B : BoxB H h l) (e : H q = some o) (n : ∀ xs, o ≠ .lst xs) : q ∉ [h, l] := fun m => by
  obtain ⟨m0, ns, st, b1, b2, _⟩ := B
  simp only [List.mem_cons, List.mem_nil_iff, or_false] at m
  rcases m with rfl | rfl
  · rw [b1] at e; cases e; exact n _ rfl
  · rw [b2] at e; cases e; exact n _ rfl
/-- an address that is free now is not the box -/
theorem BoxB.free {H : Hp} {h l q : Addr} (B : BoxB H h l) (e : H q = none) : q ∉ [h, l] := fun m => by
  obtain ⟨m0, ns, st, b1, b2, _⟩ := B
  simp only [List.mem_cons, List.mem_nil_iff, or_false] at m
  rcases m with rfl | rfl
  · rw [b1] at e; cases e
  · rw [b2] at e; cases e
theorem BoxB.updNot {H : Hp} {h l q : Addr} {o : HO} (B : BoxB H h l) (n : q ∉ [h, l]) : BoxB (L2.upd H q o) h l :=
  B.keep (ms := [q]) (Keep.upd Keep.refl (by simp)) (fun z => n (by simp at z; simp [z])) (fun z => n (by simp at z; simp [z]))
/-- the cell that is drawn from -/
theorem cell_at (ns : List Int) (pl : Int) : ∃ c : Int, atI (ns.map V.int ++ [V.int 0]) (pl % (if (ns.length : Int) > 1 then (ns.length : Int) else 1)) = some (.int c) ∧
    (c ≠ 0 → 0 < (ns.length : Int) ∧ ∃ j : Nat, j < ns.length ∧ pl % (ns.length : Int) = j ∧ (if (ns.length : Int) > 1 then (ns.length : Int) else 1) = ns.length) := by
  have hd : 0 < (if (ns.length : Int) > 1 then (ns.length : Int) else 1) := by split <;> omega
  have h0 := Int.emod_nonneg pl (show (if (ns.length : Int) > 1 then (ns.length : Int) else 1) ≠ 0 by omega)
  have h1 := Int.emod_lt_of_pos pl hd
  rw [atN h0]
  by_cases hl : 0 < ns.length
  · have e : (if (ns.length : Int) > 1 then (ns.length : Int) else 1) = ns.length := by split <;> omega
    rw [e] at h0 h1 ⊢
    have hj : (pl % (ns.length : Int)).toNat < ns.length := by omega
    refine ⟨ns[(pl % (ns.length : Int)).toNat], ?_, fun _ => ⟨by omega, (pl % (ns.length : Int)).toNat, hj, by omega, rfl⟩⟩
    rw [List.getElem?_append_left (by rw [List.length_map]; exact hj), List.getElem?_map, List.getElem?_eq_getElem hj]
    rfl
  · have e0 : ns = [] := List.eq_nil_of_length_eq_zero (by omega)
    subst e0
    refine ⟨0, ?_, fun n => absurd rfl n⟩
    have : (pl % (if ((([] : List Int).length : Nat) : Int) > 1 then ((([] : List Int).length : Nat) : Int) else 1)).toNat = 0 := by
      have h2 : (if ((([] : List Int).length : Nat) : Int) > 1 then ((([] : List Int).length : Nat) : Int) else 1) = 1 := rfl
      rw [h2] at h1 ⊢
      omega
    rw [this]
    rfl
theorem ixN_j {n j : Nat} {i : Int} (h : i = j) (hj : j < n) : ixN n i = some j := by
  subst h
  unfold ixN
  rw [if_pos (by omega), if_pos (by omega)]
  simp
def spMix (K : PySem.W.Frag) : Sp := fun vs H Q _ => ∃ (a : Addr) (ns : List Int) (z : Int), vs = [.ref a, .int z] ∧ SqL K H a (ns.map V.int) ∧ ns.length ≤ 63 ∧ ∀ H' h l, H h = none → H l = none → Same H H' → BoxB H' h l → Q (.ref h) H'
def spNext : Sp := fun vs H Q _ => ∃ (h l : Addr) (n : Int), vs = [.ref h, .int n] ∧ BoxB H h l ∧ 0 < n ∧ n < 1073741824 ∧ ∀ r H', 0 ≤ r → r < n → BoxB H' h l → Keep [h, l] H H' → Q (.int r) H'
end G7

set_option linter.all false
set_option Elab.async false
set_option maxRecDepth 100000
set_option maxHeartbeats 4000000
namespace G7
open PySem PySem.Spec PyProof.Rows L2 HT
/-! ### t[::-1] of a tuple -/
theorem places_rev (n : Nat) : Builtin.Slice.sliceAdjust none none (-1) (n : Int) = ((n : Int) - 1, -1) ∧ Builtin.Slice.slicePlaces ((n : Int) - 1) (-1) (-1) = n := by
  refine ⟨rfl, ?_⟩
  unfold Builtin.Slice.slicePlaces
  rw [if_neg (by decide)]
  by_cases h : (n : Int) - 1 > -1
  · rw [if_pos h]
    have : ((n : Int) - 1 - -1 - 1) / (-(-1)) + 1 = n := by
      show ((n : Int) - 1 - -1 - 1) / 1 + 1 = n
      omega
    rw [this]
    simp
  · rw [if_neg h]
    omega
theorem range_rev (n : Nat) : (List.range n).map (fun k => n - 1 - k) = (List.range n).reverse := by
  refine List.ext_getElem (by simp) fun i h1 h2 => ?_
  simp at h1 h2
  simp [List.getElem_reverse]
theorem pick_all {α : Type} (xs : Array α) : (List.range xs.size).filterMap (xs[·]?) = xs.toList := by
  have e : (List.range xs.size).filterMap (xs[·]?) = (List.range xs.toList.length).filterMap (xs.toList[·]?) := by simp
  rw [e]
  generalize xs.toList = l
  induction l with
  | nil => rfl
  | cons a r ih =>
    rw [List.length_cons, List.range_succ_eq_map, List.filterMap_cons]
    show a :: _ = _
    rw [List.filterMap_map]
    exact congrArg (a :: ·) ih
theorem fm_congr {α β : Type} {f g : α → Option β} : ∀ {l : List α}, (∀ a ∈ l, f a = g a) → l.filterMap f = l.filterMap g
  | [], _ => rfl
  | a :: r, h => by
    rw [List.filterMap_cons, List.filterMap_cons, h a (List.mem_cons_self), fm_congr fun b hb => h b (List.mem_cons_of_mem _ hb)]
theorem pick_rev (xs : Array Value) : ((List.range xs.size).filterMap fun (m : Nat) => xs[(((xs.size : Int) - 1) + (m : Int) * -1).toNat]?).toArray = xs.toList.reverse.toArray := by
  congr 1
  have e : (List.range xs.size).filterMap (fun (m : Nat) => xs[(((xs.size : Int) - 1) + (m : Int) * -1).toNat]?) = ((List.range xs.size).map fun k => xs.size - 1 - k).filterMap (xs[·]?) := by
    rw [List.filterMap_map]
    refine fm_congr fun m hm => ?_
    have hm := List.mem_range.mp hm
    have : (((xs.size : Int) - 1) + (m : Int) * -1).toNat = xs.size - 1 - m := by omega
    show xs[(((xs.size : Int) - 1) + (m : Int) * -1).toNat]? = xs[xs.size - 1 - m]?
    rw [this]
  rw [e, range_rev, List.filterMap_reverse, pick_all]
section
variable {prog : Program} {w : World} {A : Around} {E : Value → Shared → Prop} {s : Shared}
theorem getItem_tuple_rev {t sl : Addr} {items : Array Value} {st : Value} {Q : Value → Shared → Prop} (ht : IsTup s.heap t items) (hs : s.heap.IsSliceOf sl .none .none st) (ps : IsPart st (some (-1)))
    (h : Q (.ref s.heap.objs.size) { s with heap := s.heap.push { cls := .type "tuple", data := .seq items.toList.reverse.toArray } })
    (hsz : items.size ≤ sizeLine) : wpAny (model prog w) A (getItem (.ref t) (.ref sl)) Q E s := by
  have hok : sizeOk (.seq items.toList.reverse.toArray) := by
    show items.toList.reverse.toArray.size ≤ sizeLine
    simpa using hsz
  obtain ⟨os, hos, hcs, hds⟩ := id hs
  have tys : s.TypeIs (.ref sl) "slice" := ⟨os, hos, hcs⟩
  unfold getItem
  refine wpAny_holding ?_
  refine wpAny_bind (wpAny_sequenceKey ht.typeIs (by decide) ?_)
  refine wpAny_bind (wpAny_callSpecial?_slot (name := Str.ofString "__getitem__") ht.typeIs slot_tuple_getitem (wpAny_call_entry slot_tuple_getitem ht.typeIs entry_tuple_getitem ?_ (args_tuple_getitem _ _)))
  show wpAny _ _ (Builtin.Tuple.tupleItemsOf (.ref t) >>= _) _ _ s
  refine wpAny_bind (tupleItemsOf_ ht (wpAny_bind (wpAny_typeOf tys ?_)))
  rw [if_pos (by decide)]
  have hap : ∀ {A' : Around} {E' : Value → Shared → Prop} {Q' : Int × Int × Nat → Shared → Prop}, Q' ((items.size : Int) - 1, -1, items.size) s → wpAny (model prog w) A' (Builtin.Slice.sliceApplied (.ref sl) (pure (items.size : Int))) Q' E' s := fun {A' E' Q'} hq => by
    unfold Builtin.Slice.sliceApplied Builtin.Slice.sliceFields
    refine wpAny_bind (wpAny_bind (wpAny_field hos hds (x := .none) rfl (wpAny_bind (wpAny_field hos hds (x := .none) rfl (wpAny_bind (wpAny_field hos hds (x := st) rfl (wpAny_pure ?_)))))))
    refine wpAny_bind (slicePart_ ps ?_)
    show wpAny _ _ (if ((-1 : Int) == 0) = true then _ else _) _ _ s
    rw [if_neg (by decide)]
    refine wpAny_bind (slicePart_none (wpAny_bind (slicePart_none (wpAny_bind (wpAny_pure ?_)))))
    show wpAny _ _ (match Builtin.Slice.sliceAdjust none none (-1) (items.size : Int) with | (lo, hi) => pure (lo, (-1 : Int), Builtin.Slice.slicePlaces lo hi (-1))) _ _ s
    rw [(places_rev items.size).1]
    show wpAny _ _ (pure ((items.size : Int) - 1, (-1 : Int), Builtin.Slice.slicePlaces ((items.size : Int) - 1) (-1) (-1))) _ _ s
    rw [(places_rev items.size).2]
    exact wpAny_pure hq
  refine wpAny_bind (hap ?_)
  show wpAny _ _ (if (((items.size : Int) - 1) == 0 && (-1 : Int) == 1 && items.size == items.size) = true then _ else _) _ _ s
  rw [if_neg (by simp), pick_rev]
  first
    | exact wpAny_bind (m := Builtin.Tuple.tupleExact _) (wpAny_newObj_type (wpAny_pure ⟨_, rfl, wpAny_pure h⟩) hok)
    | exact wpAny_bind (m := Builtin.Tuple.tupleExact _) (wpAny_newObj_type (wpAny_bind (wpAny_pure (wpAny_pure ⟨_, rfl, wpAny_pure h⟩))) hok)
    | exact wpAny_bind (wpAny_bind (m := Builtin.Tuple.tupleExact _) (wpAny_newObj_type (wpAny_pure (wpAny_pure ⟨_, rfl, wpAny_pure h⟩)) hok))
    | exact wpAny_bind (wpAny_bind (m := Builtin.Tuple.tupleExact _) (wpAny_newObj_type (wpAny_pure ⟨_, rfl, wpAny_pure h⟩) hok))
end
section
variable {X : Cx} {e st : Expr} {te : TE} {ts : TO} {p2 pos : Pos}
def tRevT (te : TE) (ts : TO) : TE := fun σ H Q => te σ H fun x H1 => ts σ H1 fun o H2 => o = some (-1) ∧ ∃ a xs, x = .ref a ∧ tpO (H2 a) = some xs ∧ ∀ p, H2 p = none → Q (.ref p) (upd H2 p (.tup xs.reverse))
theorem vals_rev : ∀ {xs : List V} {us : List Value}, Vals xs us → Vals xs.reverse us.reverse
  | _, _, .nil => .nil
  | _, _, .cons r t => by
    rw [List.reverse_cons, List.reverse_cons]
    exact (vals_rev t).append (.cons r .nil)
theorem pe_revT (he : PE X e te) (hs : PO X (some st) ts) (hsb : ∀ v u, subscripted (.Slice none none (some st) p2) false v u = operate [v, u] (getItem v u) := by intro _ _; with_unfolding_all rfl) : PE X (.Subscript e (.Slice none none (some st) p2) pos) (tRevT te ts) := by
  refine ⟨fun pins s σ H Q I h => ?_⟩
  refine Subscript_ (thn (he.run pins s σ H _ I h) fun v s1 ⟨x, H1, I1, r1, q1⟩ => ?_)
  refine wpAny_Slice ?_
  rw [evalPart_none]
  refine wpAny_pure (wpAny_pure ?_)
  refine thn (hs.run pins s1 σ H1 _ I1 q1) fun vs s3 ⟨o, H3, I3, po, eo, a, xs, ex, hx, q3⟩ => ?_
  subst eo
  subst ex
  cases r1
  have I4 : Inv X pins σ H3 { s3 with heap := s3.heap.push { cls := .type "slice", data := .fields #[.none, .none, vs] } } := I3.kept (t' := s3.toks) fun b ob q => Heap.get?_push_of_some _ q
  obtain ⟨its, r, ht, hz⟩ := I4.tuple (show SqT X.K H3 a xs from .inl (rd_tpO hx))
  have hl : its.toArray.size = xs.length := by rw [List.size_toArray]; exact r.length.symm
  refine tail_any (ops := [.ref a, .ref s3.heap.objs.size]) ht.typeIs slot_tuple_getitem.lookup (getItem_tuple_rev (sl := s3.heap.objs.size) ht (Heap.IsSliceOf.new ..) po ?_ (by rw [hl]; exact hz)) (hsb _ _)
  have I5 := I4.laid (t' := s3.toks) (h' := (s3.heap.push { cls := .type "slice", data := .fields #[.none, .none, vs] }).push { cls := .type "tuple", data := .seq its.toArray.toList.reverse.toArray }) (o := .tup xs.reverse) (fun b ob q => Heap.get?_push_of_some _ q) (Nat.le_refl _)
    ⟨by rw [List.length_reverse]; exact hz, its.reverse, vals_rev r, ⟨_, by rw [Heap.get?_push_size _ rfl], rfl, 0, by simp⟩⟩
  exact ⟨.ref _, _, I5, rfl, q3 _ (I4.hok.fresh (Nat.le_refl _))⟩
end
end G7

set_option linter.all false
set_option Elab.async false
set_option maxRecDepth 100000
set_option maxHeartbeats 4000000
namespace G7
open PySem PySem.Spec PyProof.Rows L2
section
variable {X : Cx}
/-- t + u, neither empty -/
def rCatH : R2 := fun x y H Q => ∃ a b xs ys, x = .ref a ∧ y = .ref b ∧ tpO (H a) = some xs ∧ tpO (H b) = some ys ∧ xs.length + ys.length ≤ sizeLine ∧ xs ≠ [] ∧ ys ≠ [] ∧ ∀ p, H p = none → Q (.ref p) (upd H p (.tup (xs ++ ys)))
theorem op_catH : OpR X (binaryOp .Add) rCatH := opImp op_catA fun x y H Q ⟨a, b, xs, ys, e1, e2, h1, h2, hz, n1, n2, q⟩ =>
  ⟨a, b, xs, ys, e1, e2, .inl (rd_tpO h1), .inl (rd_tpO h2), hz, fun n => absurd n n1, fun _ n => absurd n n2, fun _ _ => q⟩
/-- l + m of lists -/
def rCatL : R2 := fun x y H Q => ∃ l b xs zs, x = .ref l ∧ y = .ref b ∧ H l = some (.lst xs) ∧ H b = some (.lst zs) ∧ xs.length + zs.length ≤ sizeLine ∧ ∀ p, H p = none → Q (.ref p) (upd H p (.lst (xs ++ zs)))
/-- x in a tuple of flat items -/
def rInT : R2 := fun x y H Q => ∃ p xs, y = .ref p ∧ tpO (H p) = some xs ∧ flatV x = true ∧ xs.all flatV = true ∧ Q (.bl (inV x xs)) H
theorem op_inT : OpR X (compareOp .In) rInT := opImp op_in_seq fun x y H Q ⟨p, xs, e, h, f1, f2, q⟩ => ⟨p, xs, e, .inr (.inl (rd_tpO h)), f1, f2, q⟩
/-- d != e of dicts: unlike lengths, or the same data at each key -/
def rNeDic (K : PySem.W.Frag) : R2 := fun x y H Q => ∃ a b ks ls, x = .ref a ∧ y = .ref b ∧ H a = some (.dK ks) ∧ H b = some (.dK ls) ∧ ks.length = ls.length ∧
  (∀ p ∈ ks, ∃ v d, valV ls p.1 = some v ∧ Dp K H p.2 d ∧ Dp K H v d ∧ SeqAt.shaped d = true) ∧ Q (.bl false) H
theorem hits_dp {A : Around} {pins : List (Addr × Obj)} {σ : L2.St} {H : Hp} {s : Shared} (I : Inv X pins σ H s) (hu : A.in1.units + 64 < cLine) {kvs : List (Key × V)} {vb : List (Key × Value)} (rb : KV kvs vb) {ks : List (Key × V)} {va : List (Key × Value)} (ra : KV ks va) :
    (∀ p ∈ ks, ∃ v d, valV kvs p.1 = some v ∧ Dp X.K H p.2 d ∧ Dp X.K H v d ∧ SeqAt.shaped d = true) → PySem.W.KeqHits A.in1 s vb va true := by
  unfold KV at ra
  induction ra with
  | nil => intro _; exact .nil
  | @cons p q ps qs h t ih =>
    intro hp
    obtain ⟨h1, h2⟩ := h
    obtain ⟨v0, d, e, d1, d2, sh⟩ := hp p List.mem_cons_self
    have rr : RelO (some v0) (valueAt vb p.1) := by rw [← e]; exact rb.val p.1
    obtain ⟨y, hy, ry⟩ := rr.some_of
    obtain ⟨k, v⟩ := q
    have h1' : p.1 = k := h1
    rw [h1'] at hy
    obtain ⟨as, r1⟩ := Dp.reads I d _ v d1 h2
    obtain ⟨bs, r2⟩ := Dp.reads I d _ y d2 ry
    have q := PySem.W.keq_at (A := A) r1 r2 sh sh hu
    rw [SeqAt.eqv_refl d (SeqAt.canLay_of_shaped sh)] at q
    show PySem.W.KeqHits A.in1 s vb ((k, v) :: qs) (true && true)
    exact .hit hy q (ih fun p' hm => hp p' (List.mem_cons_of_mem _ hm))
theorem op_ne_dicD (hu : X.A.in1.units + 64 < cLine) (hu0 : X.A.units < cLine) : OpR X (compareOp .NotEq) (rNeDic X.K) := by
  intro pins s σ H x y v u Q I rx ry h
  obtain ⟨a, b, ks, ls, rfl, rfl, ea, eb, hlen, hp, q⟩ := h
  obtain rfl : v = Value.ref a := rx
  obtain rfl : u = Value.ref b := ry
  obtain ⟨_, ya, va, ra, da⟩ := (show ObjOk X.prog X.w H s.heap a (.dK ks) from I.hok a _ ea)
  obtain ⟨_, yb, vb, rb, db⟩ := (show ObjOk X.prog X.w H s.heap b (.dK ls) from I.hok b _ eb)
  have hl : va.length = vb.length := by rw [← ra.length, ← rb.length]; exact hlen
  exact PySem.W.keq_ne (knd := mixKind X.prog X.w) (r := true) ya yb da db hu0 (fun _ => hits_dp I hu rb ra hp) (fin_bl I q (by simp [hl]))
/-- .. or None against a flat value -/
def rNeDicO (K : PySem.W.Frag) : R2 := fun x y H Q => (x = .non ∧ y = .non ∧ Q (.bl false) H) ∨ rNeDic K x y H Q
theorem op_ne_dicO (hu : X.A.in1.units + 64 < cLine) (hu0 : X.A.units < cLine) : OpR X (compareOp .NotEq) (rNeDicO X.K) := OpR.or (opImp op_ne fun x y H Q ⟨e1, e2, q⟩ => by
    subst e1 e2
    exact ⟨rfl, q⟩) (op_ne_dicD hu hu0)
/-- sorted(d): keys all texts -/
def cSortD : List V → Hp → VK → Prop := fun xs H Q => ∃ (a : Addr) (kvs : List (Key × V)) (ks : List Str), xs = [.ref a] ∧ dkO (H a) = some kvs ∧ kvs.map (·.1) = ks.map Sum.inr ∧ ks.length < 64 ∧
    ∀ (ys : List Str) (p : Addr), ys.Perm ks → H p = none → Q (.ref p) (upd H p (.lst (ys.map V.str)))
theorem sorted_dic (hc : X.calm = true) : CallR X (.builtin "sorted") cSortD := callImp (call_sortedD hc) fun xs H Q ⟨a, kvs, ks, e, h, h2, h3, q⟩ => ⟨a, kvs, ks, e, rd_dkO h, h2, h3, fun ys p h1 _ => q ys p h1⟩
/-- max(xs), min(xs) of a list of ints -/
def cMaxL : List V → Hp → VK → Prop := fun vs H Q => ∃ (a : Addr) (ns : List Int), vs = [V.ref a] ∧ lsO (H a) = some (ns.map V.int) ∧ 0 < ns.length ∧ ∀ m, m ∈ ns → (∀ y, y ∈ ns → y ≤ m) → Q (.int m) H
def cMinL : List V → Hp → VK → Prop := fun vs H Q => ∃ (a : Addr) (ns : List Int), vs = [V.ref a] ∧ lsO (H a) = some (ns.map V.int) ∧ 0 < ns.length ∧ ∀ m, m ∈ ns → (∀ y, y ∈ ns → m ≤ y) → Q (.int m) H
theorem max_lst (hc : X.calm = true) : CallR X (.builtin "max") cMaxL := callImp (cr_max hc) fun vs H Q ⟨a, ns, e, h, q⟩ => ⟨a, ns, e, .inl (rd_lsO h), q⟩
theorem min_lst (hc : X.calm = true) : CallR X (.builtin "min") cMinL := callImp (cr_min hc) fun vs H Q ⟨a, ns, e, h, q⟩ => ⟨a, ns, e, .inl (rd_lsO h), q⟩
/-- a list of ints != [] -/
def rNeNilI : R2 := fun x y H Q => ∃ (p q : Addr) (ns : List Int), x = .ref p ∧ y = .ref q ∧ lsO (H p) = some (ns.map V.int) ∧ lsO (H q) = some [] ∧ Q (.bl (!ns.isEmpty)) H
theorem op_neNilI (hu : X.A.units + 64 < cLine) : OpR X (compareOp .NotEq) rNeNilI := opImp (op_neD hu) fun x y H Q ⟨p, q, ns, e1, e2, h1, h2, k⟩ => by
  refine ⟨.list (ns.map PyData.int), .list [], e1 ▸ .lst (.inl (rd_lsO h1)) (dpAll_ints X.K H ns), e2 ▸ .lst (.inl (rd_lsO h2)) .nil, ?_, rfl, ?_⟩
  · exact shaped_ints ns
  · cases ns with
    | nil => exact k
    | cons n r => exact k
end
/-! a list of texts, or of pairs of texts, against [] -/
theorem lay_strs : ∀ ns : List Str, (∀ s ∈ ns, PyData.strOk s = true) → PyData.canLayAll0 (ns.map PyData.str) = true
  | [], _ => by simp [PyData.canLayAll0]
  | n :: r, h => by
    have h1 := h n List.mem_cons_self
    simp [PyData.canLayAll0, PyData.canLay0, h1, lay_strs r fun s hs => h s (List.mem_cons_of_mem _ hs)]
theorem depth_strs : ∀ ns : List Str, PyData.depthAll (ns.map PyData.str) ≤ 1
  | [] => by simp [PyData.depthAll]
  | n :: r => by
    have h := depth_strs r
    simp only [List.map_cons, PyData.depthAll, PyData.depth]
    omega
theorem shaped_strs (ns : List Str) (h : ∀ s ∈ ns, PyData.strOk s = true) : SeqAt.shaped (.list (ns.map PyData.str)) = true := by
  have h1 := depth_strs ns
  have h2 : PyData.depth (.list (ns.map PyData.str)) ≤ 64 := by
    simp only [PyData.depth]
    omega
  unfold SeqAt.shaped
  rw [Bool.and_eq_true]
  exact ⟨by simp only [PyData.canLay0]; exact lay_strs ns h, decide_eq_true h2⟩
theorem dpAll_strs (K : PySem.W.Frag) (H : Hp) : ∀ ns : List Str, DpAll K H (ns.map V.str) (ns.map PyData.str)
  | [] => .nil
  | n :: r => .cons (.str n) (dpAll_strs K H r)
/-- (table, field) of some -/
abbrev Fd := Addr × Str × Str
structure RF (H : Hp) (a : Addr) (ps : List Fd) : Prop where
  at_ : H a = some (.lst (ps.map fun e => V.ref e.1))
  tups : ∀ e ∈ ps, H e.1 = some (.tup [.str e.2.1, .str e.2.2])
  oks : ∀ e ∈ ps, PyData.strOk e.2.1 = true ∧ PyData.strOk e.2.2 = true
def Fd.dat (e : Fd) : PyData := .tuple [.str e.2.1, .str e.2.2]
theorem RF.same {H H' : Hp} {a : Addr} {ps : List Fd} (R : RF H a ps) (k : Same H H') : RF H' a ps := ⟨k _ _ R.at_, fun e he => k _ _ (R.tups e he), R.oks⟩
theorem RF.keepB {H H' : Hp} {h l a : Addr} {ps : List Fd} (R : RF H a ps) (k : Keep [h, l] H H') (B : BoxB H h l) (n : a ∉ [h, l]) : RF H' a ps :=
  ⟨k _ _ n R.at_, fun e he => k _ _ (B.notin (R.tups e he) (by intro xs q; cases q)) (R.tups e he), R.oks⟩
theorem dpAll_fds {K : PySem.W.Frag} {H : Hp} : ∀ {ps : List Fd}, (∀ e ∈ ps, H e.1 = some (.tup [.str e.2.1, .str e.2.2])) → DpAll K H (ps.map fun e => V.ref e.1) (ps.map Fd.dat)
  | [], _ => .nil
  | e :: r, h => .cons (.tup (.inl (.inl (h e List.mem_cons_self))) (.cons (.str _) (.cons (.str _) .nil))) (dpAll_fds fun e he => h e (List.mem_cons_of_mem _ he))
theorem lay_fds : ∀ {ps : List Fd}, (∀ e ∈ ps, PyData.strOk e.2.1 = true ∧ PyData.strOk e.2.2 = true) → PyData.canLayAll0 (ps.map Fd.dat) = true
  | [], _ => by simp [PyData.canLayAll0]
  | e :: r, h => by
    have h1 := h e List.mem_cons_self
    simp [PyData.canLayAll0, PyData.canLay0, Fd.dat, h1, lay_fds fun e he => h e (List.mem_cons_of_mem _ he)]
theorem depth_fds : ∀ (ps : List Fd), PyData.depthAll (ps.map Fd.dat) ≤ 2
  | [] => by simp [PyData.depthAll]
  | e :: r => by
    have h := depth_fds r
    simp only [List.map_cons, PyData.depthAll, PyData.depth, Fd.dat]
    omega
theorem shaped_fds {ps : List Fd} (h : ∀ e ∈ ps, PyData.strOk e.2.1 = true ∧ PyData.strOk e.2.2 = true) : SeqAt.shaped (.list (ps.map Fd.dat)) = true := by
  have h1 := depth_fds ps
  have h2 : PyData.depth (.list (ps.map Fd.dat)) ≤ 64 := by
    simp only [PyData.depth]
    omega
  unfold SeqAt.shaped
  rw [Bool.and_eq_true]
  exact ⟨by simp only [PyData.canLay0]; exact lay_fds h, decide_eq_true h2⟩
theorem RF.eqNil {K : PySem.W.Frag} {H : Hp} {a q : Addr} {ps : List Fd} {Q : VK} (R : RF H a ps) (hq : H q = some (.lst [])) (k : Q (.bl ps.isEmpty) H) : rEqD K (.ref a) (.ref q) H Q := by
  refine ⟨.list (ps.map Fd.dat), .list [], .lst (.inl (.inl R.at_)) (dpAll_fds R.tups), .lst (.inl (.inl hq)) .nil, shaped_fds R.oks, rfl, ?_⟩
  cases ps with
  | nil => exact k
  | cons n r => exact k
theorem RF.neNil {K : PySem.W.Frag} {H : Hp} {a q : Addr} {ps : List Fd} {Q : VK} (R : RF H a ps) (hq : H q = some (.lst [])) (k : Q (.bl (!ps.isEmpty)) H) : rNeD K (.ref a) (.ref q) H Q := by
  refine ⟨.list (ps.map Fd.dat), .list [], .lst (.inl (.inl R.at_)) (dpAll_fds R.tups), .lst (.inl (.inl hq)) .nil, shaped_fds R.oks, rfl, ?_⟩
  cases ps with
  | nil => exact k
  | cons n r => exact k
end G7

set_option linter.all false
set_option Elab.async false
set_option maxRecDepth 100000
set_option maxHeartbeats 4000000
namespace G7
open PySem PySem.Spec PyProof.Rows L2
/-! ### TURNED, a dict of the module -/
def Wd.turn : Wd → Wd
  | .lt => .gt
  | .gt => .lt
  | .le => .ge
  | .ge => .le
  | c => c
def Wd.isLog : Wd → Bool
  | .and => true
  | .or => true
  | .not => true
  | _ => false
structure TabAt (K : PySem.W.Frag) (w : World) (d : Addr) : Prop where
  kd : ∃ es n, KDict K w d es n
  hit : ∀ c : Wd, c.isCmp = true → ∃ t, PySem.W.nsIn K d c.s = some (some (.str c.turn.s t))
  miss : ∀ c : Wd, c.isLog = true → PySem.W.nsIn K d c.s = some none
def rInTab (d : Addr) : R2 := fun x y H Q => ∃ c : Wd, x = .str c.s ∧ y = .ref d ∧ (c.isCmp || c.isLog) = true ∧ Q (.bl c.isCmp) H
def rIxTab (d : Addr) : R2 := fun x y H Q => ∃ c : Wd, x = .ref d ∧ y = .str c.s ∧ c.isCmp = true ∧ Q (.str c.turn.s) H
section
variable {X : Cx} {d : Addr}
theorem op_inTab (D : TabAt X.K X.w d) : OpR X (compareOp .In) (rInTab d) := by
  obtain ⟨es, n, kd⟩ := D.kd
  refine opImp (op_in_kd kd) fun x y H Q ⟨c, e1, e2, e3, q⟩ => ?_
  cases hc : c.isCmp with
  | true =>
    obtain ⟨t, ht⟩ := D.hit c hc
    exact ⟨_, _, e1, e2, ht, by rw [hc] at q; exact q⟩
  | false =>
    rw [hc, Bool.false_or] at e3
    exact ⟨_, _, e1, e2, D.miss c e3, by rw [hc] at q; exact q⟩
theorem ix_tab (D : TabAt X.K X.w d) : IxR X (rIxTab d) := by
  obtain ⟨es, n, kd⟩ := D.kd
  refine ixImp ix_kdict fun x y H Q ⟨c, e1, e2, e3, q⟩ => ?_
  obtain ⟨t, ht⟩ := D.hit c e3
  exact ⟨_, _, .str c.turn.s, e1, e2, ⟨es, n, _, kd.at_, kd.lit, ht, ⟨t, rfl⟩⟩, q⟩
end
theorem tab_mk {K : PySem.W.Frag} {w : World} {d : Addr} {es : Array DictEntry} {n : Nat} (h1 : K.lookup d = some ⟨.type "dict", none, .dict es n, #[]⟩) (h2 : PySem.W.KeysLit w.params es.toList) (h3 : (d == sysModules) = false)
    {t1 t2 t3 t4 t5 : Tok} (k1 : PySem.W.nsIn K d "=" = some (some (.str "=" t1))) (k2 : PySem.W.nsIn K d "<" = some (some (.str ">" t2))) (k3 : PySem.W.nsIn K d ">" = some (some (.str "<" t3)))
    (k4 : PySem.W.nsIn K d "<=" = some (some (.str ">=" t4))) (k5 : PySem.W.nsIn K d ">=" = some (some (.str "<=" t5)))
    (m1 : PySem.W.nsIn K d "and" = some none) (m2 : PySem.W.nsIn K d "or" = some none) (m3 : PySem.W.nsIn K d "not" = some none) : TabAt K w d :=
  ⟨⟨es, n, h1, h2, h3⟩, fun c hc => by cases c <;> first | exact ⟨_, k1⟩ | exact ⟨_, k2⟩ | exact ⟨_, k3⟩ | exact ⟨_, k4⟩ | exact ⟨_, k5⟩ | (cases hc),
    fun c hc => by cases c <;> first | exact m1 | exact m2 | exact m3 | (cases hc)⟩
/-! ### trees: the first word, how great -/
def Tm.head : Tm → Wd
  | .num _ => .num
  | .fld _ _ => .field
  | .op o _ _ => o
def Tm.lim : Tm → Prop
  | .num n => -1000 ≤ n ∧ n ≤ 1000
  | .fld _ _ => True
  | .op _ a b => a.lim ∧ b.lim
def Cd.lim : Cd → Prop
  | .cmp _ a b => a.lim ∧ b.lim ∧ a.deep ≤ 8 ∧ b.deep ≤ 8
  | .neg c => c.lim
  | .con _ a b => a.lim ∧ b.lim
/-- how many comparisons -/
def Cd.leaves : Cd → Nat
  | .cmp _ _ _ => 1
  | .neg c => c.leaves
  | .con _ a b => a.leaves + b.leaves
/-- how deep and, or, not stand -/
def Cd.high : Cd → Nat
  | .cmp _ _ _ => 0
  | .neg c => c.high + 1
  | .con _ a b => max a.high b.high + 1
def Cd.head : Cd → Wd
  | .cmp c _ _ => c
  | .neg _ => .not
  | .con o _ _ => o
structure Cd.Good (c : Cd) (d m : Nat) : Prop where
  ok : c.ok = true
  lim : c.lim
  high : c.high ≤ d
  few : c.leaves ≤ m
def CoGood : Option Cd → Nat → Nat → Prop
  | none, _, _ => True
  | some c, d, m => c.Good d m
def partsC : Cd → List Cd
  | .con .and a b => partsC a ++ partsC b
  | c => [c]
def partsO : Option Cd → List Cd
  | none => []
  | some c => partsC c
def Cd.isCmpC : Cd → Bool
  | .cmp _ _ _ => true
  | _ => false
theorem partsC_len : ∀ c : Cd, (partsC c).length ≤ c.leaves
  | .cmp _ _ _ => by simp [partsC, Cd.leaves]
  | .neg c => by
    have : ∀ c : Cd, 1 ≤ c.leaves := by
      intro c
      induction c with
      | cmp => simp [Cd.leaves]
      | neg c ih => simpa [Cd.leaves] using ih
      | con o a b i1 i2 => simp [Cd.leaves]; omega
    simp [partsC, Cd.leaves, this c]
  | .con o a b => by
    have h1 := partsC_len a
    have h2 := partsC_len b
    have : ∀ c : Cd, 1 ≤ c.leaves := by
      intro c
      induction c with
      | cmp => simp [Cd.leaves]
      | neg c ih => simpa [Cd.leaves] using ih
      | con o a b i1 i2 => simp [Cd.leaves]; omega
    have l1 := this a
    cases o <;> simp [partsC, Cd.leaves] <;> omega
/-- each part is a comparison, an or, a not -/
def Cd.part : Cd → Prop
  | .cmp c a b => c.isCmp = true ∧ a.ok = true ∧ b.ok = true ∧ a.lim ∧ b.lim ∧ a.deep ≤ 8 ∧ b.deep ≤ 8
  | .neg _ => True
  | .con o _ _ => o = .or
theorem partsC_part : ∀ c : Cd, c.ok = true → c.lim → ∀ p ∈ partsC c, p.part
  | .cmp c a b, h, l => by
    intro p hp
    cases List.mem_singleton.mp hp
    simp only [Cd.ok, Bool.and_eq_true] at h
    exact ⟨h.1.1, h.1.2, h.2, l⟩
  | .neg c, h, l => by
    intro p hp
    cases List.mem_singleton.mp hp
    trivial
  | .con o a b, h, l => by
    simp only [Cd.ok, Bool.and_eq_true] at h
    intro p hp
    cases o with
    | and =>
      rcases List.mem_append.mp hp with hp | hp
      · exact partsC_part a h.1.2 l.1 p hp
      · exact partsC_part b h.2 l.2 p hp
    | or =>
      cases List.mem_singleton.mp hp
      rfl
    | _ => exact absurd h.1.1 (by simp [Wd.isCon])
theorem partsO_part : ∀ {c : Option Cd} {d m : Nat}, CoGood c d m → ∀ p ∈ partsO c, p.part
  | none, _, _, _, p, hp => absurd hp (by simp [partsO])
  | some c, _, _, g, p, hp => partsC_part c g.ok g.lim p hp
theorem partsO_len : ∀ {c : Option Cd} {d m : Nat}, CoGood c d m → (partsO c).length ≤ m
  | none, _, _, _ => Nat.zero_le _
  | some c, _, _, g => Nat.le_trans (partsC_len c) g.few
/-- a list of conditions at a -/
structure RL (H : Hp) (a : Addr) (es : List (V × Cd)) : Prop where
  at_ : H a = some (.lst (es.map (·.1)))
  each : ∀ e ∈ es, RC H e.1 e.2
/-! ### spans -/
abbrev OI := Option Int
def tru (c : Wd) (a b : Int) : Bool := match c with
  | .eq => decide (a = b)
  | .lt => decide (a < b)
  | .gt => decide (b < a)
  | .le => decide (a ≤ b)
  | .ge => decide (b ≤ a)
  | _ => false
def spanOf (c : Wd) (n : Int) : OI × OI := match c with
  | .eq => (some n, some n)
  | .lt => (none, some (n - 1))
  | .le => (none, some n)
  | .gt => (some (n + 1), none)
  | .ge => (some n, none)
  | _ => (none, none)
def maxO : OI → OI → OI
  | none, o => o
  | some a, none => some a
  | some a, some b => some (max a b)
def minO : OI → OI → OI
  | none, o => o
  | some a, none => some a
  | some a, some b => some (min a b)
def narrow (s t : OI × OI) : OI × OI := (maxO s.1 t.1, minO s.2 t.2)
def emptyS (s : OI × OI) : Bool := match s with
  | (some a, some b) => decide (b < a)
  | _ => false
abbrev Sp3 := Str × OI × OI
def lookS (es : List Sp3) (f : Str) : OI × OI := ((es.find? fun e => decide (e.1 = f)).map (·.2)).getD (none, none)
def putS (es : List Sp3) (f : Str) (s : OI × OI) : List Sp3 := if (es.any fun e => decide (e.1 = f)) = true then es.map (fun e => if e.1 = f then (e.1, s) else e) else es ++ [(f, s)]
/-- one comparison, its field on the left -/
def step2 (t : Str) (es : List Sp3) (c : Wd) (x y : Tm) : List Sp3 := match x, y with
  | .fld t' f, .num a => if t' = t then putS es f (narrow (lookS es f) (spanOf c a)) else es
  | _, _ => es
def truT (c : Wd) (x y : Tm) : Bool := match x, y with
  | .num a, .num b => tru c a b
  | _, _ => true
/-- none where numbers compare falsely -/
def stepC (t : Str) (es : List Sp3) : Cd → Option (List Sp3)
  | .cmp c x y => if truT c x y = true then some (if x.head = .num then step2 t es c.turn y x else step2 t es c x y) else none
  | _ => some es
def foldC (t : Str) : List Sp3 → List Cd → Option (List Sp3)
  | es, [] => some es
  | es, c :: r => match stepC t es c with
    | none => none
    | some es' => foldC t es' r
def boundsM (t : Str) (co : Option Cd) : Option (List Sp3) := match foldC t [] (partsO co) with
  | none => none
  | some es => if es.any fun e => emptyS e.2 then none else some es
end G7
namespace G7
open PySem PySem.Spec PyProof.Rows L2
def oi : OI → V
  | none => .non
  | some i => .int i
theorem oi_n : oi none = .non := rfl
theorem oi_s {i : Int} : oi (some i) = .int i := rfl
def knownC : Cd → Bool
  | .cmp _ a b => decide (a.head = .num) && decide (b.head = .num)
  | _ => false
theorem RT.headed {H : Hp} : ∀ {t : Tm} {v : V}, RT H v t → ∃ a r, v = .ref a ∧ H a = some (.tup (.str t.head.s :: r))
  | .num n, _, ⟨a, e, h⟩ => ⟨a, _, e, h⟩
  | .fld t f, _, ⟨a, e, h⟩ => ⟨a, _, e, h⟩
  | .op o x y, _, ⟨a, u, w, e, h, _, _⟩ => ⟨a, _, e, h⟩
theorem RC.headed {H : Hp} : ∀ {t : Cd} {v : V}, RC H v t → ∃ a r, v = .ref a ∧ H a = some (.tup (.str t.head.s :: r))
  | .cmp c x y, _, ⟨a, u, w, e, h, _, _⟩ => ⟨a, _, e, h⟩
  | .neg c, _, ⟨a, u, e, h, _⟩ => ⟨a, _, e, h⟩
  | .con o x y, _, ⟨a, u, w, e, h, _, _⟩ => ⟨a, _, e, h⟩
end G7
namespace G7
open PySem PySem.Spec PyProof.Rows L2
theorem Wd.beq_s (a b : Wd) : (a.s == b.s) = decide (a = b) := by
  have h := Wd.s_inj a b
  by_cases e : a = b
  · rw [decide_eq_true e, e]
    exact beq_self_eq_true _
  · rw [decide_eq_false e]
    exact beq_false_of_ne fun q => e (h.mp q)
theorem sz0 : (0 ≤ sizeLine) = True := eq_true (Nat.zero_le _)
theorem sz1 : (1 ≤ sizeLine) = True := eq_true (szl (by decide))
theorem sz2 : (2 ≤ sizeLine) = True := eq_true (szl (by decide))
theorem sz3 : (3 ≤ sizeLine) = True := eq_true (szl (by decide))
theorem sz4 : (4 ≤ sizeLine) = True := eq_true (szl (by decide))
theorem sz5 : (5 ≤ sizeLine) = True := eq_true (szl (by decide))
theorem sz6 : (6 ≤ sizeLine) = True := eq_true (szl (by decide))
theorem isc_num : Wd.num.isCmp = false := rfl
theorem isc_field : Wd.field.isCmp = false := rfl
theorem isc_eq : Wd.eq.isCmp = true := rfl
theorem isc_lt : Wd.lt.isCmp = true := rfl
theorem isc_gt : Wd.gt.isCmp = true := rfl
theorem isc_le : Wd.le.isCmp = true := rfl
theorem isc_ge : Wd.ge.isCmp = true := rfl
theorem isc_and : Wd.and.isCmp = false := rfl
theorem isc_or : Wd.or.isCmp = false := rfl
theorem isc_not : Wd.not.isCmp = false := rfl
theorem isl_and : Wd.and.isLog = true := rfl
theorem isl_or : Wd.or.isLog = true := rfl
theorem isl_not : Wd.not.isLog = true := rfl
end G7
namespace G7
open PySem PySem.Spec PyProof.Rows L2
def lcB (J : It) (g : TG) (tt : TT) (te : TE) (vs : List Nat) (σ : L2.St) (H1 : Hp) (Q : VK) : Prop := tLc (fun _ H R => R J H) g tt te vs σ H1 Q
def forB (J : It) (g : TG) (tb : TS) (D : Ends) (σ : L2.St) (H1 : Hp) : Prop := tFor (fun _ H R => R J H) g tb D σ H1
theorem tLc_eq {wi : TI} {g : TG} {tt : TT} {te : TE} {vs : List Nat} {σ : L2.St} {H : Hp} {Q : VK} : tLc wi g tt te vs σ H Q = wi σ H fun J H1 => lcB J g tt te vs σ H1 Q := rfl
theorem tFor_eq {wi : TI} {g : TG} {tb : TS} {D : Ends} {σ : L2.St} {H : Hp} : tFor wi g tb D σ H = wi σ H fun J H1 => forB J g tb D σ H1 := rfl
theorem lcB_it {J : It} {g : TG} {tt : TT} {te : TE} {vs : List Nat} {σ : L2.St} {H1 : Hp} {Q : VK}
    (h : ∀ D, H1 D = none → ∃ W : Nat → Nat → Hp → Prop, (∃ m, W 0 m (upd H1 D (.lst []))) ∧ ∀ i m H, W i m H →
  (J.stop i H ∧ Q (.ref D) H) ∨ (J.go i H ∧ ∃ Nx : Hp → Prop, (∀ H', Nx H' → ∃ m', m' < m ∧ W (i + 1) m' H') ∧ ∀ x H', J.yld i H x H' → g x (wipe σ vs) H' fun σ2 H2 => wipe σ2 vs = wipe σ vs ∧ tt σ2 H2 fun b H3 =>
    if b = true then te σ2 H3 fun y H4 => ∃ acc, H4 D = some (.lst acc) ∧ acc.length < sizeLine ∧ Nx (upd H4 D (.lst (acc ++ [y]))) else Nx H3)) : lcB J g tt te vs σ H1 Q := h
theorem forB_it {J : It} {g : TG} {tb : TS} {D : Ends} {σ : L2.St} {H : Hp} (h : ∃ W : Nat → Nat → L2.St → Hp → Prop, (∃ m, W 0 m σ H) ∧ ∀ i m σ H, W i m σ H →
  (J.stop i H ∧ D.nx σ H) ∨ (J.go i H ∧ ∃ N : L2.St → Hp → Prop, (∀ σ' H', N σ' H' → ∃ m', m' < m ∧ W (i + 1) m' σ' H') ∧ ∀ x H', J.yld i H x H' → g x σ H' fun σ2 H2 => tb { D with nx := N, ct := N, bk := D.nx } σ2 H2)) : forB J g tb D σ H := h
/-- what stands in both lists of ends -/
def somes : List OI → List Int
  | [] => []
  | none :: r => somes r
  | some a :: r => a :: somes r
theorem somes_append : ∀ a b : List OI, somes (a ++ b) = somes a ++ somes b
  | [], b => rfl
  | none :: r, b => somes_append r b
  | some a :: r, b => by
    show a :: somes (r ++ b) = a :: (somes r ++ somes b)
    rw [somes_append r b]
end G7

set_option linter.all false
set_option Elab.async false
set_option maxRecDepth 100000
set_option maxHeartbeats 4000000
namespace G7
open PySem PySem.Spec PyProof.Rows L2
/-! ### dicts of spans -/
abbrev En := Str × Addr × OI × OI
def ent (e : En) : Key × V := (.inr e.1, .ref e.2.1)
def dr (e : En) : Sp3 := (e.1, e.2.2)
abbrev RowG := OI × OI → List V
def gO : RowG := fun s => [oi s.1, oi s.2]
def loI : OI → Int
  | none => -1000000000
  | some a => a
def hiI : OI → Int
  | none => 1000000000
  | some a => a
def gI : RowG := fun s => [.int (loI s.1), .int (hiI s.2)]
structure DBg (g : RowG) (H : Hp) (d : Addr) (es : List En) : Prop where
  at_ : H d = some (.dK (es.map ent))
  tups : ∀ e ∈ es, H e.2.1 = some (.tup (g e.2.2))
  oks : ∀ e ∈ es, PyData.strOk e.1 = true
  nd : (es.map (·.1)).Nodup
theorem DBg.same {g : RowG} {H H' : Hp} {d : Addr} {es : List En} (b : DBg g H d es) (k : Same H H') : DBg g H' d es := ⟨k _ _ b.at_, fun e he => k _ _ (b.tups e he), b.oks, b.nd⟩
theorem look_ent : ∀ (es : List En) (f : Str), (valV (es.map ent) (Sum.inr f : Key) = none ∧ lookS (es.map dr) f = (none, none)) ∨ ∃ e ∈ es, valV (es.map ent) (Sum.inr f : Key) = some (.ref e.2.1) ∧ lookS (es.map dr) f = e.2.2 ∧ e.1 = f
  | [], f => .inl ⟨rfl, rfl⟩
  | e :: r, f => by
    by_cases h : e.1 = f
    · refine .inr ⟨e, List.mem_cons_self, valV_pos (congrArg Sum.inr h), ?_, h⟩
      unfold lookS
      rw [List.map_cons, List.find?_cons, show decide ((dr e).1 = f) = true from decide_eq_true h]
      rfl
    · have e1 : valV ((e :: r).map ent) (Sum.inr f : Key) = valV (r.map ent) (Sum.inr f : Key) := valV_neg fun q => h (Sum.inr.inj q)
      have e2 : lookS ((e :: r).map dr) f = lookS (r.map dr) f := by
        unfold lookS
        rw [List.map_cons, List.find?_cons, show decide ((dr e).1 = f) = false from decide_eq_false h]
      rw [e1, e2]
      rcases look_ent r f with q | ⟨e', h1, h2⟩
      · exact .inl q
      · exact .inr ⟨e', List.mem_cons_of_mem _ h1, h2⟩
def putE (es : List En) (f : Str) (p : Addr) (s : OI × OI) : List En := if (es.any fun e => decide (e.1 = f)) = true then es.map (fun e => if e.1 = f then (e.1, p, s) else e) else es ++ [(f, p, s)]
theorem any_ent (es : List En) (f : Str) : ((es.map ent).any fun kv => decide (kv.1 = (Sum.inr f : Key))) = es.any fun e => decide (e.1 = f) := by
  rw [List.any_map]
  congr 1
  funext e
  show decide ((Sum.inr e.1 : Key) = Sum.inr f) = decide (e.1 = f)
  exact decide_eq_decide.mpr ⟨Sum.inr.inj, congrArg _⟩
theorem any_dr (es : List En) (f : Str) : ((es.map dr).any fun e => decide (e.1 = f)) = es.any fun e => decide (e.1 = f) := by
  rw [List.any_map]
  rfl
theorem putE_ent (es : List En) (f : Str) (p : Addr) (s : OI × OI) : putK (es.map ent) (Sum.inr f : Key) (.ref p) = (putE es f p s).map ent := by
  unfold putK putE
  rw [any_ent]
  by_cases h : (es.any fun e => decide (e.1 = f)) = true
  · rw [if_pos h, if_pos h, List.map_map, List.map_map]
    congr 1
    funext e
    show (if (Sum.inr e.1 : Key) = Sum.inr f then ((Sum.inr e.1 : Key), V.ref p) else ent e) = ent (if e.1 = f then (e.1, p, s) else e)
    by_cases q : e.1 = f
    · rw [if_pos q, if_pos (congrArg _ q)]
      rfl
    · rw [if_neg q, if_neg fun z => q (Sum.inr.inj z)]
  · rw [if_neg h, if_neg h, List.map_append]
    rfl
theorem putE_dr (es : List En) (f : Str) (p : Addr) (s : OI × OI) : (putE es f p s).map dr = putS (es.map dr) f s := by
  unfold putS putE
  rw [any_dr]
  by_cases h : (es.any fun e => decide (e.1 = f)) = true
  · rw [if_pos h, if_pos h, List.map_map, List.map_map]
    congr 1
    funext e
    show dr (if e.1 = f then (e.1, p, s) else e) = (if e.1 = f then (e.1, s) else dr e)
    by_cases q : e.1 = f
    · rw [if_pos q, if_pos q]
      rfl
    · rw [if_neg q, if_neg q]
  · rw [if_neg h, if_neg h, List.map_append]
    rfl
theorem putE_len (es : List En) (f : Str) (p : Addr) (s : OI × OI) : (putE es f p s).length ≤ es.length + 1 := by
  unfold putE
  split
  · rw [List.length_map]; omega
  · rw [List.length_append]; exact Nat.le_refl _
theorem putE_mem {es : List En} {f : Str} {p : Addr} {s : OI × OI} {e : En} (h : e ∈ putE es f p s) : e ∈ es ∨ (e.1 = f ∧ e.2.1 = p ∧ e.2.2 = s) := by
  unfold putE at h
  split at h
  · obtain ⟨e', h1, rfl⟩ := List.mem_map.mp h
    by_cases q : e'.1 = f
    · rw [if_pos q]
      exact .inr ⟨q, rfl, rfl⟩
    · rw [if_neg q]
      exact .inl h1
  · rcases List.mem_append.mp h with h | h
    · exact .inl h
    · cases List.mem_singleton.mp h
      exact .inr ⟨rfl, rfl, rfl⟩
theorem putE_nd {es : List En} {f : Str} {p : Addr} {s : OI × OI} (h : (es.map (·.1)).Nodup) : ((putE es f p s).map (·.1)).Nodup := by
  unfold putE
  split
  · have e : (es.map fun e => if e.1 = f then (e.1, p, s) else e).map (·.1) = es.map (·.1) := by
      rw [List.map_map]
      congr 1
      funext e
      show (if e.1 = f then ((e.1, p, s) : En) else e).1 = e.1
      split <;> rfl
    rw [e]
    exact h
  · rename_i q
    rw [List.map_append, List.nodup_append]
    refine ⟨h, by simp, fun a ha b hb => ?_⟩
    cases List.mem_singleton.mp hb
    rintro rfl
    obtain ⟨e, he, h2⟩ := List.mem_map.mp ha
    exact q (List.any_eq_true.mpr ⟨e, he, decide_eq_true h2⟩)
theorem DBg.put {g : RowG} {H H' : Hp} {d p : Addr} {es : List En} {f : Str} {s : OI × OI} (D : DBg g H d es) (k : Same H H') (hp : H' p = some (.tup (g s))) (hf : PyData.strOk f = true) :
    DBg g (upd H' d (.dK (putK (es.map ent) (Sum.inr f : Key) (.ref p)))) d (putE es f p s) := by
  have D' := D.same k
  have npd : p ≠ d := ne_of hp D'.at_ (by intro z; cases z)
  refine ⟨by rw [upd_same, putE_ent es f p s], fun e he => ?_, fun e he => ?_, putE_nd D.nd⟩
  · rcases putE_mem he with h | ⟨h1, h2, h3⟩
    · have t := D'.tups e h
      rw [upd_ne (ne_of t D'.at_ (by intro z; cases z))]
      exact t
    · rw [h2, upd_ne npd, h3]
      exact hp
  · rcases putE_mem he with h | ⟨h1, h2, h3⟩
    · exact D.oks e h
    · rw [h1]; exact hf
/-! ### numbers within the law's stand-ins -/
def okS (s : OI × OI) : Prop := (∀ a, s.1 = some a → -1001 ≤ a ∧ a ≤ 1001) ∧ ∀ a, s.2 = some a → -1001 ≤ a ∧ a ≤ 1001
theorem okS_span {c : Wd} {n : Int} (h : -1000 ≤ n ∧ n ≤ 1000) : okS (spanOf c n) := by
  cases c <;> (refine ⟨fun a e => ?_, fun a e => ?_⟩ <;> simp only [spanOf, Option.some.injEq, reduceCtorEq] at e <;> omega)
theorem okS_narrow {s t : OI × OI} (h1 : okS s) (h2 : okS t) : okS (narrow s t) := by
  obtain ⟨s1, s2⟩ := s
  obtain ⟨t1, t2⟩ := t
  refine ⟨fun a e => ?_, fun a e => ?_⟩
  · cases s1 with
    | none => exact h2.1 a e
    | some x =>
      cases t1 with
      | none => exact h1.1 a e
      | some y =>
        have hx := h1.1 x rfl
        have hy := h2.1 y rfl
        have e := Option.some.inj e
        omega
  · cases s2 with
    | none => exact h2.2 a e
    | some x =>
      cases t2 with
      | none => exact h1.2 a e
      | some y =>
        have hx := h1.2 x rfl
        have hy := h2.2 y rfl
        have e := Option.some.inj e
        omega
def pick5 (c : Wd) (a1 a2 a3 a4 a5 : V) : V := match c with
  | .eq => a1
  | .lt => a2
  | .gt => a3
  | .le => a4
  | .ge => a5
  | _ => .non
theorem val5 (c : Wd) (h : c.isCmp = true) (a1 a2 a3 a4 a5 : V) : valV (mergeK [] [((Sum.inr Wd.eq.s : Key), a1), (Sum.inr Wd.lt.s, a2), (Sum.inr Wd.gt.s, a3), (Sum.inr Wd.le.s, a4), (Sum.inr Wd.ge.s, a5)]) (Sum.inr c.s : Key) = some (pick5 c a1 a2 a3 a4 a5) := by
  cases c <;> first | (cases h; done) | (with_unfolding_all rfl)
/-! ### the first two of a term -/
def isF (t : Str) : Tm → Bool
  | .fld t' _ => decide (t' = t)
  | _ => false
theorem sh2 {a b : PyData} (h1 : a.canLay0 = true) (h2 : b.canLay0 = true) (d1 : a.depth ≤ 8) (d2 : b.depth ≤ 8) : SeqAt.shaped (.tuple [a, b]) = true := by
  unfold SeqAt.shaped
  rw [Bool.and_eq_true]
  refine ⟨by simp [PyData.canLay0, PyData.canLayAll0, h1, h2], decide_eq_true ?_⟩
  simp only [PyData.depth, PyData.depthAll]
  omega
theorem shS {s : Str} (h : PyData.strOk s = true) : (PyData.str s).canLay0 = true := by simp [PyData.canLay0, h]
theorem dS (s : Str) : (PyData.str s).depth ≤ 8 := by simp [PyData.depth]
def rSlX : V → Option Int → Option Int → Hp → VK → Prop := rSlF
theorem sl_tupX {X : Cx} : SlR X rSlX := sl_tupF
theorem sl_eqF {K : PySem.W.Frag} {H : Hp} {v : V} {x : Tm} {t : Str} {Q : VK} (R : RT H v x) (ok : x.ok = true) (dp : x.deep ≤ 8) (ht : PyData.strOk t = true) (k : ∀ H', Same H H' → Q (.bl (isF t x)) H') :
    rSlX v none (some 2) H fun y H1 => ∀ q, H1 q = none → rEqD K y (.ref q) (upd H1 q (.tup [.str Wd.field.s, .str t])) Q := by
  have two : HT.sIx 2 2 (some 2) = 2 := HT.sIx_nat 2 2 2
  have thr : HT.sIx 3 3 (some 2) = 2 := HT.sIx_nat 3 3 2
  have shq : SeqAt.shaped (.tuple [.str Wd.field.s, .str t]) = true := sh2 (shS (Wd.strOk _)) (shS ht) (dS _) (dS _)
  have nofield : ∀ (c : Wd) (X : PyData), c ≠ .field → PyData.eqv (.tuple [.str c.s, X]) (.tuple [.str Wd.field.s, .str t]) = false := fun c X hc => by
    simp only [PyData.eqv, PyData.eqvAll, Wd.beq_s, decide_eq_false hc, Bool.false_and]
  cases x with
  | num n =>
    obtain ⟨a, rfl, h⟩ := R
    refine ⟨a, [.str Wd.num.s, .int n], rfl, by rw [h]; rfl, fun _ q hq => ?_, fun nw => absurd (show HT.sIx 2 0 none = 0 ∧ HT.sIx 2 2 (some 2) = 2 from ⟨HT.sIx_none _ _, two⟩) nw⟩
    refine ⟨.tuple [.str Wd.num.s, .int n], .tuple [.str Wd.field.s, .str t], .tup (.inl (.inl (same_new hq _ _ h))) (.cons (.str _) (.cons (.int _) .nil)), .tup (.inl (.inl upd_same)) (.cons (.str _) (.cons (.str _) .nil)),
      sh2 (shS (Wd.strOk _)) (by simp [PyData.canLay0]) (dS _) (by simp [PyData.depth]), shq, ?_⟩
    rw [nofield _ _ (by decide)]
    exact k _ (same_new hq)
  | fld t' f =>
    simp only [Tm.ok, Bool.and_eq_true] at ok
    obtain ⟨a, rfl, h⟩ := R
    refine ⟨a, _, rfl, by rw [h]; rfl, fun hw => absurd hw.2 (by show ¬ HT.sIx 3 3 (some 2) = 3; rw [thr]; decide), fun _ p o hp _ _ q hq => ?_⟩
    have ec : cutV [V.str Wd.field.s, V.str t', V.str f] none (some 2) = [V.str Wd.field.s, V.str t'] := by
      unfold cutV
      rw [HT.sIx_none]
      show List.take (HT.sIx 3 3 (some 2) - 0) [V.str Wd.field.s, V.str t', V.str f] = _
      rw [thr]
      rfl
    refine ⟨.tuple [.str Wd.field.s, .str t'], .tuple [.str Wd.field.s, .str t], .tup (.inl (.inr ⟨o, same_new hq _ _ (by rw [upd_same, ec])⟩)) (.cons (.str _) (.cons (.str _) .nil)), .tup (.inl (.inl upd_same)) (.cons (.str _) (.cons (.str _) .nil)),
      sh2 (shS (Wd.strOk _)) (shS ok.1) (dS _) (dS _), shq, ?_⟩
    have e : PyData.eqv (.tuple [.str Wd.field.s, .str t']) (.tuple [.str Wd.field.s, .str t]) = decide (t' = t) := by
      simp only [PyData.eqv, PyData.eqvAll, Bool.and_true, beq_self_eq_true, Bool.true_and]
      by_cases z : t' = t
      · rw [z, decide_eq_true rfl]; exact beq_self_eq_true _
      · rw [decide_eq_false z]; exact beq_false_of_ne z
    rw [e]
    exact k _ ((same_new hp).trans (same_new hq))
  | op c x y =>
    have okk := ok
    simp only [Tm.ok, Bool.and_eq_true] at ok
    obtain ⟨a, u, w, rfl, h, hx, hy⟩ := R
    refine ⟨a, _, rfl, by rw [h]; rfl, fun hw => absurd hw.2 (by show ¬ HT.sIx 3 3 (some 2) = 3; rw [thr]; decide), fun _ p o hp _ _ q hq => ?_⟩
    have ec : cutV [V.str c.s, u, w] none (some 2) = [V.str c.s, u] := by
      unfold cutV
      rw [HT.sIx_none]
      show List.take (HT.sIx 3 3 (some 2) - 0) [V.str c.s, u, w] = _
      rw [thr]
      rfl
    have dx := Tm.depth x
    have dd : x.deep ≤ 8 := by simp only [Tm.deep] at dp; omega
    refine ⟨.tuple [.str c.s, x.enc], .tuple [.str Wd.field.s, .str t], .tup (.inl (.inr ⟨o, same_new hq _ _ (by rw [upd_same, ec])⟩)) (.cons (.str _) (.cons ((hx.tups (TupS.ofSame ((same_new hp).trans (same_new hq)))).dp) .nil)), .tup (.inl (.inl upd_same)) (.cons (.str _) (.cons (.str _) .nil)),
      sh2 (shS (Wd.strOk _)) (Tm.lay x ok.1.2) (dS _) (by omega), shq, ?_⟩
    rw [nofield _ _ (by rintro rfl; exact absurd ok.1.1 (by decide))]
    exact k _ ((same_new hp).trans (same_new hq))
theorem foldC_append (t : Str) : ∀ (es : List Sp3) (a b : List Cd), foldC t es (a ++ b) = match foldC t es a with
    | none => none
    | some e => foldC t e b
  | es, [], b => rfl
  | es, c :: r, b => by
    show (match stepC t es c with | none => none | some es' => foldC t es' (r ++ b)) = match (match stepC t es c with | none => none | some es' => foldC t es' r) with | none => none | some e => foldC t e b
    cases stepC t es c with
    | none => rfl
    | some e => exact foldC_append t e r b
theorem foldC_one {t : Str} {es : List Sp3} {c : Cd} : foldC t es [c] = stepC t es c := by
  show (match stepC t es c with | none => none | some es' => foldC t es' []) = stepC t es c
  cases stepC t es c <;> rfl
theorem foldC_take {t : Str} {l : List Cd} {i : Nat} {c : Cd} {es : List Sp3} (h : l[i]? = some c) (f : foldC t [] (l.take i) = some es) : foldC t [] (l.take (i + 1)) = stepC t es c := by
  rw [List.take_add_one, h, foldC_append, f]
  exact foldC_one
theorem foldC_none {t : Str} {l : List Cd} {i : Nat} (f : foldC t [] (l.take i) = none) : foldC t [] l = none := by
  have e := foldC_append t [] (l.take i) (l.drop i)
  rw [List.take_append_drop, f] at e
  exact e
theorem boundsM_none {t : Str} {co : Option Cd} {i : Nat} (f : foldC t [] ((partsO co).take i) = none) : boundsM t co = none := by
  unfold boundsM
  rw [foldC_none f]
theorem boundsM_some {t : Str} {co : Option Cd} {es : List En} (f : foldC t [] (partsO co) = some (es.map dr)) : boundsM t co = if (es.any fun e => emptyS e.2.2) = true then none else some (es.map dr) := by
  unfold boundsM
  rw [f]
  show (if ((es.map dr).any fun e => emptyS e.2) = true then none else some (es.map dr)) = _
  rw [List.any_map]
  rfl
theorem head_num {x : Tm} (ok : x.ok = true) (h : x.head = .num) : ∃ n, x = .num n := by
  cases x with
  | num n => exact ⟨n, rfl⟩
  | fld a b => cases h
  | op o a b =>
    simp only [Tm.ok, Bool.and_eq_true] at ok
    obtain rfl : o = .num := h
    cases ok.1.1
theorem isF_fld {t : Str} {x : Tm} (h : isF t x = true) : ∃ f, x = .fld t f := by
  cases x with
  | fld a b => exact ⟨b, by rw [of_decide_eq_true h]⟩
  | _ => cases h
theorem step2_no1 {t : Str} {es : List Sp3} {c : Wd} {x y : Tm} (h : isF t x = false) : step2 t es c x y = es := by
  cases x with
  | fld a b =>
    cases y with
    | num n => exact if_neg (of_decide_eq_false h)
    | _ => rfl
  | _ => rfl
theorem step2_no2 {t : Str} {es : List Sp3} {c : Wd} {x y : Tm} (h : ¬ y.head = .num) : step2 t es c x y = es := by
  cases y with
  | num n => exact absurd rfl h
  | _ => cases x <;> rfl
theorem step2_yes {t f : Str} {es : List Sp3} {c : Wd} {n : Int} : step2 t es c (.fld t f) (.num n) = putS es f (narrow (lookS es f) (spanOf c n)) := if_pos rfl
theorem nd_ent {es : List En} (h : (es.map (·.1)).Nodup) : ((es.map ent).map (·.1)).Nodup := by
  have e : (es.map ent).map (·.1) = (es.map (·.1)).map (Sum.inr : Str → Key) := by
    rw [List.map_map, List.map_map]
    rfl
  rw [e]
  generalize es.map (·.1) = l at h
  induction l with
  | nil => exact List.nodup_nil
  | cons a r ih =>
    rw [List.nodup_cons] at h
    rw [List.map_cons, List.nodup_cons]
    refine ⟨fun m => ?_, ih h.2⟩
    obtain ⟨b, hb, q⟩ := List.mem_map.mp m
    exact h.1 (Sum.inr.inj q ▸ hb)
theorem val_ent {es : List En} (h : (es.map (·.1)).Nodup) {e : En} (he : e ∈ es) : valV (es.map ent) (Sum.inr e.1 : Key) = some (.ref e.2.1) :=
  val_nodup (nd_ent h) (ent e) (List.mem_map.mpr ⟨e, he, rfl⟩)
theorem strs_neNil {K : PySem.W.Frag} {H : Hp} {a q : Addr} {ss : List Str} {Q : VK} (h : H a = some (.lst (ss.map V.str))) (ho : ∀ s ∈ ss, PyData.strOk s = true) (hq : H q = some (.lst [])) (k : Q (.bl (!ss.isEmpty)) H) : rNeD K (.ref a) (.ref q) H Q := by
  refine ⟨.list (ss.map PyData.str), .list [], .lst (.inl (.inl h)) (dpAll_strs K H ss), .lst (.inl (.inl hq)) .nil, shaped_strs ss ho, rfl, ?_⟩
  cases ss with
  | nil => exact k
  | cons n r => exact k
theorem filter_map_empty {es : List En} {p : En → Bool} {α : Type} {f : En → α} : ((es.filter p).map f).isEmpty = !es.any p := by
  induction es with
  | nil => rfl
  | cons a r ih =>
    rw [List.filter_cons, List.any_cons]
    cases h : p a with
    | true => rfl
    | false => rw [if_neg (by simp), Bool.false_or]; exact ih
theorem cpow9 : CPow 10 9 = True := eq_true ⟨by decide, by decide, by decide⟩
theorem foldC_filter (t : Str) : ∀ (l : List Cd) (es : List Sp3), foldC t es (l.filter Cd.isCmpC) = foldC t es l
  | [], _ => rfl
  | .cmp c x y :: r, es => by
    show foldC t es (.cmp c x y :: r.filter Cd.isCmpC) = _
    show (match stepC t es (.cmp c x y) with | none => none | some es' => foldC t es' (r.filter Cd.isCmpC)) = (match stepC t es (.cmp c x y) with | none => none | some es' => foldC t es' r)
    cases stepC t es (.cmp c x y) with
    | none => rfl
    | some e => exact foldC_filter t r e
  | .neg c :: r, es => foldC_filter t r es
  | .con o a b :: r, es => foldC_filter t r es
theorem putS_new {es : List Sp3} {f : Str} {s : OI × OI} (h : f ∉ es.map (·.1)) : putS es f s = es ++ [(f, s)] := by
  unfold putS
  rw [if_neg]
  intro q
  obtain ⟨e, he, h2⟩ := List.any_eq_true.mp q
  exact h (List.mem_map.mpr ⟨e, he, of_decide_eq_true h2⟩)
def turnL : List (Key × V) := mergeK [] [((Sum.inr Wd.eq.s : Key), V.str Wd.eq.s), (Sum.inr Wd.lt.s, .str Wd.gt.s), (Sum.inr Wd.gt.s, .str Wd.lt.s), (Sum.inr Wd.le.s, .str Wd.ge.s), (Sum.inr Wd.ge.s, .str Wd.le.s)]
theorem valV_turn {c : Wd} (h : c.isCmp = true) : valV turnL (Sum.inr c.s : Key) = some (.str c.turn.s) := by
  unfold turnL
  rw [val5 c h]
  cases c <;> first | (cases h; done) | rfl
theorem lowMax {lo : OI} {m : Int} (h : ∀ a, lo = some a → -1001 ≤ a ∧ a ≤ 1001) (h1 : -1001 ≤ m) : (if m > loI lo then m else loI lo) = loI (maxO lo (some m)) := by
  cases lo with
  | none => exact if_pos (by show (-1000000000 : Int) < m; omega)
  | some a =>
    show (if m > a then m else a) = max a m
    by_cases q : m > a
    · rw [if_pos q]; omega
    · rw [if_neg q]; omega
theorem lowNo {lo : OI} : loI lo = loI (maxO lo none) := by cases lo <;> rfl
theorem hiMin {lo : OI} {m : Int} (h : ∀ a, lo = some a → -1001 ≤ a ∧ a ≤ 1001) (h1 : m ≤ 1001) : (if m < hiI lo then m else hiI lo) = hiI (minO lo (some m)) := by
  cases lo with
  | none => exact if_pos (by show m < (1000000000 : Int); omega)
  | some a =>
    show (if m < a then m else a) = min a m
    by_cases q : m < a
    · rw [if_pos q]; omega
    · rw [if_neg q]; omega
theorem hiNo {lo : OI} : hiI lo = hiI (minO lo none) := by cases lo <;> rfl
theorem emI {s : OI × OI} (h : okS s) : decide (hiI s.2 < loI s.1) = emptyS s := by
  obtain ⟨s1, s2⟩ := s
  cases s1 with
  | none =>
    cases s2 with
    | none => exact decide_eq_false (by show ¬ (1000000000 : Int) < -1000000000; decide)
    | some b =>
      have q := h.2 b rfl
      exact decide_eq_false (by show ¬ b < -1000000000; omega)
  | some a =>
    cases s2 with
    | none =>
      have q := h.1 a rfl
      exact decide_eq_false (by show ¬ (1000000000 : Int) < a; omega)
    | some b => rfl
end G7

set_option linter.all false
set_option Elab.async false
set_option maxRecDepth 100000
set_option maxHeartbeats 4000000
/-! instances' fields; dicts whose keys are tuples; tuples of ints compared -/
namespace G7
open PySem PySem.Spec PyProof.Rows L2
/-- what may be read as a dict with tuple keys -/
def dtO : Option HO → Option (List (List Key × V))
  | some (.dT xs) => some xs
  | some (.frz _ (.dT xs)) => some xs
  | _ => none
theorem rd_dtO {H : Hp} {a : Addr} {xs : List (List Key × V)} (h : dtO (H a) = some xs) : Rd H a (.dT xs) := by
  unfold dtO at h
  split at h
  · rename_i e; cases h; exact .inl e
  · rename_i o _ e; cases h; exact .inr ⟨o, e⟩
  · cases h
theorem dtO_d {xs : List (List Key × V)} : dtO (some (.dT xs)) = some xs := rfl
theorem dtO_f {o : Obj} {xs : List (List Key × V)} : dtO (some (.frz o (.dT xs))) = some xs := rfl
/-- the words of a tuple that is a key -/
def kysO : List V → Option (List Key)
  | [] => some []
  | x :: r => match keyO x with
    | some k => (kysO r).map (k :: ·)
    | none => none
theorem kysO_eq : ∀ {xs : List V} {ks : List Key}, kysO xs = some ks → xs = ks.map kV
  | [], ks, h => by cases h; rfl
  | x :: r, ks, h => by
    unfold kysO at h
    cases e : keyO x with
    | none => rw [e] at h; cases h
    | some k =>
      rw [e] at h
      cases e2 : kysO r with
      | none => rw [e2] at h; cases h
      | some l =>
        rw [e2] at h
        cases h
        rw [List.map_cons, ← kysO_eq e2, ← keyO_eq e]
theorem kysO_n : kysO [] = some [] := rfl
theorem kysO_i {i : Int} {r : List V} : kysO (.int i :: r) = (kysO r).map (Sum.inl i :: ·) := rfl
theorem kysO_s {i : Str} {r : List V} : kysO (.str i :: r) = (kysO r).map (Sum.inr i :: ·) := rfl
/-- the ints of a tuple -/
def intsV : List V → Option (List Int)
  | [] => some []
  | .int i :: r => (intsV r).map (i :: ·)
  | _ :: _ => none
theorem intsV_eq : ∀ {xs : List V} {ns : List Int}, intsV xs = some ns → xs = ns.map V.int
  | [], ns, h => by cases h; rfl
  | x :: r, ns, h => by
    cases x with
    | int i =>
      have h : (intsV r).map (i :: ·) = some ns := h
      cases e2 : intsV r with
      | none => rw [e2] at h; cases h
      | some l =>
        rw [e2] at h
        cases h
        rw [List.map_cons, ← intsV_eq e2]
    | _ => cases h
theorem intsV_n : intsV [] = some [] := rfl
theorem intsV_i {i : Int} {r : List V} : intsV (.int i :: r) = (intsV r).map (i :: ·) := rfl
section
variable {X : Cx}
theorem pe_fldK (K : PySem.W.Frag) (hK : X.K = K) {e : Expr} {f : Str} {pos : Pos} {ta : TE} (he : PE X e ta) (hb : attributeBase e f X.env (eval e X.env) = eval e X.env) : PE X (.Attribute e f pos) (tFld K ta f) := hK ▸ pe_fld he hb
/-- t < u, tuples of ints -/
def rLtH : R2 := fun x y H Q => ∃ a b xs ys ns ms, x = .ref a ∧ y = .ref b ∧ tpO (H a) = some xs ∧ tpO (H b) = some ys ∧ intsV xs = some ns ∧ intsV ys = some ms ∧ Q (.bl (HT.lexLt ns ms)) H
theorem op_ltTH (hu : X.A.units < cLine) : OpR X (compareOp .Lt) rLtH := opImp (op_ltT hu) fun x y H Q ⟨a, b, xs, ys, ns, ms, e1, e2, h1, h2, i1, i2, q⟩ =>
  ⟨a, b, ns, ms, e1, e2, .inl (by rw [← intsV_eq i1]; exact rd_tpO h1), .inl (by rw [← intsV_eq i2]; exact rd_tpO h2), q⟩
/-! dicts with tuple keys -/
theorem dgetT_of {H : Hp} {a b : Addr} {kvs : List (List Key × V)} {xs : List V} {ks : List Key} (h : dtO (H a) = some kvs) (hb : H b = some (.tup xs)) (hk : kysO xs = some ks) : DGet H a (.ref b) (valV kvs ks) :=
  .inr ⟨kvs, ks, b, rd_dtO h, rfl, by rw [← kysO_eq hk]; exact hb, rfl⟩
def tGetT (td ty : TE) : TE := fun σ H Q => td σ H fun x H1 => ty σ H1 fun y H2 => ∃ a kvs b xs ks v, x = .ref a ∧ dtO (H2 a) = some kvs ∧ y = .ref b ∧ H2 b = some (.tup xs) ∧ kysO xs = some ks ∧ valV kvs ks = some v ∧ Q v H2
def tInT (ty td : TE) : TE := fun σ H Q => ty σ H fun y H1 => td σ H1 fun x H2 => ∃ a kvs b xs ks, x = .ref a ∧ dtO (H2 a) = some kvs ∧ y = .ref b ∧ H2 b = some (.tup xs) ∧ kysO xs = some ks ∧ Q (.bl (valV kvs ks).isSome) H2
def tNinT (ty td : TE) : TE := fun σ H Q => ty σ H fun y H1 => td σ H1 fun x H2 => ∃ a kvs b xs ks, x = .ref a ∧ dtO (H2 a) = some kvs ∧ y = .ref b ∧ H2 b = some (.tup xs) ∧ kysO xs = some ks ∧ Q (.bl (!(valV kvs ks).isSome)) H2
def sPutT (td ty tv : TE) : TS := fun D σ H => tv σ H fun v H1 => td σ H1 fun x H2 => ty σ H2 fun y H3 => ∃ a kvs b xs ks, x = .ref a ∧ H3 a = some (.dT kvs) ∧ y = .ref b ∧ H3 b = some (.tup xs) ∧ kysO xs = some ks ∧ kvs.length < sizeLine ∧ D.nx σ (upd H3 a (.dT (putK kvs ks v)))
def sAugT (f : Int → Int → Int) (td ty tv : TE) : TS := fun D σ H => td σ H fun x H1 => ty σ H1 fun y H2 => ∃ a kvs b xs ks i, x = .ref a ∧ dtO (H2 a) = some kvs ∧ y = .ref b ∧ H2 b = some (.tup xs) ∧ kysO xs = some ks ∧ valV kvs ks = some (.int i) ∧
  tv σ H2 fun z H3 => ∃ j kvs2, z = .int j ∧ H3 a = some (.dT kvs2) ∧ H3 b = some (.tup xs) ∧ kvs2.length < sizeLine ∧ D.nx σ (upd H3 a (.dT (putK kvs2 ks (.int (f i j)))))
def tPopT (td ty : TE) : TE := fun σ H Q => td σ H fun x H1 => ∃ a kvs, x = .ref a ∧ H1 a = some (.dT kvs) ∧ ty σ H1 fun y H2 => ∃ kvs2 b xs ks v, y = .ref b ∧ H2 a = some (.dT kvs2) ∧ H2 b = some (.tup xs) ∧ kysO xs = some ks ∧ valV kvs2 ks = some v ∧ Q v (upd H2 a (.dT (dropK kvs2 ks)))
variable {o e value : Expr} {td ty tv : TE} {pos pos' : Pos}
theorem pe_getT (hu : X.A.units + 1 < cLine) (ho : PE X o td) (hi : PE X e ty) (hs : NoSl e) : PE X (.Subscript o e pos) (tGetT td ty) :=
  PE.imp' (pe_dget hu (pe_m ho) (pe_m hi) hs) fun σ H Q h => tM_of h fun x H1 q => tM_of q fun y H2 q => by
    obtain ⟨a, kvs, b, xs, ks, v, e1, h1, e2, h2, h3, h4, k⟩ := q
    subst e1 e2
    exact ⟨a, v, rfl, by rw [← h4]; exact dgetT_of h1 h2 h3, k⟩
theorem pc_inT (hu : X.A.units + 1 < cLine) (hi : PE X e ty) (ho : PE X o td) : PC X .In e o (tInT ty td) := by
  have h0 := pc_din hu (pe_m hi) (pe_m ho)
  exact ⟨fun pins s σ H Q I h => h0.run pins s σ H Q I (tM_of h fun y H1 q => tM_of q fun x H2 q => by
    obtain ⟨a, kvs, b, xs, ks, e1, h1, e2, h2, h3, k⟩ := q
    subst e1 e2
    exact ⟨a, _, rfl, dgetT_of h1 h2 h3, k⟩)⟩
theorem pc_ninT (hu : X.A.units + 1 < cLine) (hi : PE X e ty) (ho : PE X o td) : PC X .NotIn e o (tNinT ty td) := by
  have h0 := pc_dnotin hu (pe_m hi) (pe_m ho)
  exact ⟨fun pins s σ H Q I h => h0.run pins s σ H Q I (tM_of h fun y H1 q => tM_of q fun x H2 q => by
    obtain ⟨a, kvs, b, xs, ks, e1, h1, e2, h2, h3, k⟩ := q
    subst e1 e2
    exact ⟨a, _, rfl, dgetT_of h1 h2 h3, k⟩)⟩
theorem ps_putT (hu : X.A.units + 1 < cLine) (ho : PE X o td) (hi : PE X e ty) (hv : PE X value tv) (hs : swapsWith value (some (.Subscript o e pos')) pos.line X.env = pure false) : PS X (.Assign [.Subscript o e pos'] value pos) (sPutT td ty tv) :=
  PS.imp' (ps_dput hu (pe_m ho) (pe_m hi) (pe_m hv) hs) fun D σ H h => by
    refine tM_of h fun v H1 q => tM_of q fun x H2 q => tM_of q fun y H3 q => ?_
    obtain ⟨a, kvs, b, xs, ks, e1, h1, e2, h2, h3, h4, k⟩ := q
    subst e1 e2
    exact ⟨a, _, rfl, DPut.t h1 (by rw [← kysO_eq h3]; exact h2) h4, k⟩
theorem ps_augT {op : Operator} {f : Int → Int → Int} {rd : V → V → Hp → VK → Prop} (hu : X.A.units + 1 < cLine) (ho : PE X o td) (hi : PE X e ty) (hv : PE X value tv) (hop : InOp X op rd) (hf : ∀ i j H Q, Q (V.int (f i j)) H → rd (.int i) (.int j) H Q)
    (hs : ∀ (ov iv new : Value), augStore e ov iv new = (do
      holding [new, ov, iv] (setItem ov iv new)
      release [new, ov, iv] []
      pure Flow.next)) :
    PS X (.AugAssign (.Subscript o e pos') op value pos) (sAugT f td ty tv) :=
  PS.imp' (ps_daug hu (pe_m ho) (pe_m hi) (pe_m hv) hop hs) fun D σ H h => by
    refine tM_of h fun x H1 q => tM_of q fun y H2 q => ?_
    obtain ⟨a, kvs, b, xs, ks, i, e1, h1, e2, h2, h3, h4, k⟩ := q
    subst e1 e2
    refine ⟨a, .int i, rfl, by rw [← h4]; exact dgetT_of h1 h2 h3, tM_of k fun z H3 q => ?_⟩
    obtain ⟨j, kvs2, rfl, g1, g2, g3, k⟩ := q
    exact hf i j H3 _ ⟨_, DPut.t g1 (by rw [← kysO_eq h3]; exact g2) g3, k⟩
theorem d_popT {pins : List (Addr × Obj)} {σ : L2.St} {H : Hp} {s : Shared} {a b : Addr} {kvs : List (List Key × V)} {k : List Key} {v : V} {A : Around} {E : Value → Shared → Prop} {Q : Value → Shared → Prop} (hu : A.units + 1 < cLine) (I : Inv X pins σ H s) (ha : H a = some (.dT kvs)) (hb : H b = some (.tup (k.map kV))) (hv : valV kvs k = some v)
    (h : ∀ w' s', Inv X pins σ (upd H a (.dT (dropK kvs k))) s' → RelV v w' → Q w' s') : wpAny (model X.prog X.w) A (call (.builtin "dict.pop") [.ref a, .ref b]) Q E s := by
  obtain ⟨z, hd, xs', rel, dd⟩ := dt_of I.hok ha
  have hz : xs'.length ≤ sizeLine := by rw [← Paired.length rel]; exact z
  obtain ⟨p, hp, rv⟩ : ∃ p, atKey xs' k = some p ∧ RelV v p.2 := by
    have r := rel.val k
    rw [hv] at r
    cases e : atKey xs' k with
    | none => rw [e] at r; exact (show False from r).elim
    | some p => rw [e] at r; exact ⟨p, rfl, r⟩
  refine PySem.call_pop_heap (knd := tupleKind (mixKind X.prog X.w)) (k := k) (.inl rfl) (PySem.F.args_dict_pop_2 _ _) (tupleKind_room_in1 hu) (key_of I.hok hb) hd dd hp (fun h' dd' hs => ?_) hz
  obtain ⟨o, es, ep, hq, h2, h3, h4, _, h5⟩ := dd'
  exact h _ _ (d_write I (by rw [ha]; exact True.intro) hs ⟨o, hq⟩ ⟨Nat.le_trans (dropK_le kvs k) z, hd, _, (L2.DX.KT_drop k rel).keeps (fun c ys ec => (by rw [upd_ne (ne_of ec ha (fun z => nomatch z))]; exact ec)), o, es, ep, hq, h2, h3, h4, h5⟩) rv
theorem pe_popT {apos cpos : Pos} (hu : X.A.units + 1 < cLine) (ho : PE X o td) (he : PE X e ty) (m : M1 X o "pop" apos e cpos) : PE X (.Call (.Attribute o "pop" apos) [e] [] cpos) (tPopT td ty) := by
  refine ⟨fun pins s σ H Q I h => ?_⟩
  refine wpAny_Call_method m.base m.few m.line PySem.F.plainAttrs_dict PySem.F.slot_dict_pop PySem.F.type_dict_pop (thn (ho.run pins s σ H _ I h) fun u s1 ⟨x, H1, I1, rx, a, kvs, ex, d, q1⟩ => ?_)
  subst ex
  obtain rfl : u = Value.ref a := rx
  obtain ⟨t1, t2, _⟩ := isD_at I1 (.inr ⟨kvs, .inl d⟩)
  refine ⟨t1, t2, ?_⟩
  rw [m.trees]
  refine Calls.callWith_builtin rfl (Calls.evalArgs_plain (Calls.spliced_cons (thn (he.run pins s1 σ H1 _ I1 q1) fun iv s2 ⟨y, H2, I2, ry, kvs2, b, xs, ks, v, ey, ea, eb, ek, l, q2⟩ => Calls.spliced_nil ?_)))
  subst ey
  obtain rfl : iv = Value.ref b := ry
  exact d_popT hu I2 ea (by rw [← kysO_eq ek]; exact eb) l fun w' s3 I3 rw' => ⟨v, _, I3, rw', q2⟩
end
theorem valV_drop {κ : Type} [DecidableEq κ] (k j : κ) : ∀ kvs : List (κ × V), valV (dropK kvs k) j = if j = k then none else valV kvs j
  | [] => by simp [dropK, valV]
  | p :: r => by
    have ih := valV_drop k j r
    by_cases e : p.1 = k
    · rw [dropK_pos e, ih]
      by_cases e2 : j = k
      · rw [if_pos e2, if_pos e2]
      · rw [if_neg e2, if_neg e2, valV_neg (fun z => e2 (z.symm.trans e))]
    · rw [dropK_neg e]
      by_cases e3 : p.1 = j
      · rw [valV_pos e3, valV_pos e3, if_neg (fun z => e (e3.trans z))]
      · rw [valV_neg e3, valV_neg e3, ih]
theorem nodup_few {α : Type} [DecidableEq α] : ∀ (l D : List α), l.Nodup → (∀ x ∈ l, x ∈ D) → l.length ≤ D.length
  | [], _, _, _ => Nat.zero_le _
  | x :: l, D, hn, hs => by
    obtain ⟨h1, h2⟩ := List.nodup_cons.mp hn
    have hx : x ∈ D := hs x List.mem_cons_self
    have ih := nodup_few l (D.erase x) h2 fun y hy => (List.mem_erase_of_ne fun e => h1 (by rw [← e]; exact hy)).2 (hs y (List.mem_cons_of_mem _ hy))
    have e := List.length_erase_of_mem hx
    have hp : 0 < D.length := List.length_pos_of_mem hx
    rw [List.length_cons]
    omega
end G7

set_option linter.all false
set_option Elab.async false
set_option maxRecDepth 100000
set_option maxHeartbeats 4000000
/-! pairs of ints, rising: the plain law of an index -/
namespace G7
open PySem PySem.Spec PyProof.Rows L2
/-- k parts a list: those ahead are so, those from there on are not -/
structure Cut {α : Type} (l : List α) (p : α → Bool) (k : Nat) : Prop where
  le : k ≤ l.length
  lo : ∀ i x, i < k → l[i]? = some x → p x = true
  hi : ∀ i x, k ≤ i → l[i]? = some x → p x = false
theorem Cut.take {α : Type} {l : List α} {p : α → Bool} {k : Nat} (c : Cut l p k) {x : α} : x ∈ l.take k ↔ x ∈ l ∧ p x = true := by
  constructor
  · intro h
    obtain ⟨i, hi⟩ := List.mem_iff_getElem?.mp h
    rw [List.getElem?_take] at hi
    split at hi
    · rename_i hk
      exact ⟨List.mem_of_getElem? hi, c.lo i x hk hi⟩
    · cases hi
  · rintro ⟨h, hp⟩
    obtain ⟨i, hi⟩ := List.mem_iff_getElem?.mp h
    refine List.mem_iff_getElem?.mpr ⟨i, ?_⟩
    rw [List.getElem?_take, if_pos, hi]
    by_cases hk : i < k
    · exact hk
    · rw [c.hi i x (by omega) hi] at hp
      cases hp
theorem Cut.drop {α : Type} {l : List α} {p : α → Bool} {k : Nat} (c : Cut l p k) {x : α} : x ∈ l.drop k ↔ x ∈ l ∧ p x = false := by
  constructor
  · intro h
    obtain ⟨i, hi⟩ := List.mem_iff_getElem?.mp h
    rw [List.getElem?_drop] at hi
    exact ⟨List.mem_of_getElem? hi, c.hi _ x (by omega) hi⟩
  · rintro ⟨h, hp⟩
    obtain ⟨i, hi⟩ := List.mem_iff_getElem?.mp h
    by_cases hk : i < k
    · rw [c.lo i x hk hi] at hp
      cases hp
    · exact List.mem_iff_getElem?.mpr ⟨i - k, by rw [List.getElem?_drop, show k + (i - k) = i by omega]; exact hi⟩
theorem Cut.slice {α : Type} {l : List α} {p q : α → Bool} {a b : Nat} (c : Cut l p a) (d : Cut l q b) {x : α} : x ∈ (l.drop a).take (b - a) ↔ x ∈ l ∧ p x = false ∧ q x = true := by
  constructor
  · intro h
    obtain ⟨i, hi⟩ := List.mem_iff_getElem?.mp h
    rw [List.getElem?_take] at hi
    split at hi
    · rename_i hk
      rw [List.getElem?_drop] at hi
      exact ⟨List.mem_of_getElem? hi, c.hi _ x (by omega) hi, d.lo _ x (by omega) hi⟩
    · cases hi
  · rintro ⟨h, hp, hq⟩
    obtain ⟨i, hi⟩ := List.mem_iff_getElem?.mp h
    have h1 : a ≤ i := by
      by_cases hk : i < a
      · rw [c.lo i x hk hi] at hp
        cases hp
      · omega
    have h2 : i < b := by
      by_cases hk : i < b
      · exact hk
      · rw [d.hi i x (by omega) hi] at hq
        cases hq
    exact List.mem_iff_getElem?.mpr ⟨i - a, by rw [List.getElem?_take, if_pos (by omega), List.getElem?_drop, show a + (i - a) = i by omega]; exact hi⟩
/-! room -/
theorem hu65_of {A : Around} {k : Nat} (hr : Room k A) : A.in1.units + 64 < cLine := by have := hr.un; show A.units + 1 + 64 < cLine; omega
theorem hu00_of {A : Around} {k : Nat} (hr : Room k A) : A.units < cLine := by have := hr.un; omega
theorem seqIx {i : Int} {n : Nat} (h0 : 0 ≤ i) (h1 : i < (n : Int)) : seqIndex? i n = some i.toNat := by
  unfold seqIndex?
  simp only [show ¬ i < 0 by omega, if_false, h0, h1, decide_true, Bool.and_self, if_true]
/-! bounds -/
def geLo (w : Int) : OI → Bool
  | none => true
  | some l => decide (l ≤ w)
def leHi (w : Int) : OI → Bool
  | none => true
  | some h => decide (w ≤ h)
def btw (w : Int) (lo hi : OI) : Bool := geLo w lo && leHi w hi
/-! pairs -/
def lt2 (p q : Int × Int) : Prop := p.1 < q.1 ∨ p.1 = q.1 ∧ p.2 < q.2
instance (p q : Int × Int) : Decidable (lt2 p q) := by unfold lt2; infer_instance
theorem lt2_trans {p q r : Int × Int} (h : lt2 p q) (k : lt2 q r) : lt2 p r := by
  unfold lt2 at *
  omega
theorem lt2_irrefl {p : Int × Int} (h : lt2 p p) : False := by
  unfold lt2 at h
  omega
theorem lt2_tri (p q : Int × Int) : lt2 p q ∨ p = q ∨ lt2 q p := by
  obtain ⟨a, b⟩ := p
  obtain ⟨c, d⟩ := q
  unfold lt2
  simp only [Prod.mk.injEq]
  omega
theorem lex2 {a b c d : Int} : (HT.lexLt [a, b] [c, d] = true) ↔ lt2 (a, b) (c, d) := by
  rw [HT.lexLt_cons, HT.lexLt_cons, HT.lexLt_nil_nil]
  unfold lt2
  dsimp only
  split <;> rename_i h
  · split <;> rename_i h2
    · constructor
      · intro z; cases z
      · omega
    · rw [decide_eq_true_iff]
      omega
  · rw [decide_eq_true_iff]
    omega
theorem lex1 {a b c : Int} : (HT.lexLt [a, b] [c] = true) ↔ a < c := by
  rw [HT.lexLt_cons, HT.lexLt_cons_nil]
  split <;> rename_i h
  · constructor
    · intro z; cases z
    · omega
  · rw [decide_eq_true_iff]
/-- a pair as a tuple at an address -/
abbrev Pr := Addr × Int × Int
abbrev Ris2 (l : List Pr) : Prop := l.Pairwise fun p q => lt2 p.2 q.2
theorem Ris2.nd {l : List Pr} (r : Ris2 l) : (l.map (·.2)).Nodup := by
  unfold List.Nodup
  rw [List.pairwise_map]
  exact r.imp fun {p q} h e => by rw [e] at h; exact lt2_irrefl h
theorem ris_at {l : List Pr} (r : Ris2 l) {i j : Nat} {p q : Pr} (hi : l[i]? = some p) (hj : l[j]? = some q) (h : i < j) : lt2 p.2 q.2 := by
  obtain ⟨h1, e1⟩ := List.getElem?_eq_some_iff.mp hi
  obtain ⟨h2, e2⟩ := List.getElem?_eq_some_iff.mp hj
  have z := (List.pairwise_iff_getElem.mp r) i j h1 h2 h
  rw [e1, e2] at z
  exact z
/-- one laid in at its place -/
theorem ris_ins {l : List Pr} (r : Ris2 l) {q : Pr} {k : Nat} (c : Cut l (fun p => decide (lt2 p.2 q.2)) k) (hn : q.2 ∉ l.map (·.2)) : Ris2 (l.take k ++ [q] ++ l.drop k) := by
  unfold Ris2
  rw [List.pairwise_append, List.pairwise_append]
  refine ⟨⟨r.sublist (List.take_sublist _ _), by simp, fun a ha b hb => ?_⟩, r.sublist (List.drop_sublist _ _), fun a ha b hb => ?_⟩
  · obtain ⟨_, h⟩ := c.take.mp ha
    rw [List.mem_singleton.mp hb]
    exact of_decide_eq_true h
  · obtain ⟨hb1, h⟩ := c.drop.mp hb
    have hb2 : ¬ lt2 b.2 q.2 := of_decide_eq_false h
    have qb : lt2 q.2 b.2 := by
      rcases lt2_tri b.2 q.2 with z | z | z
      · exact absurd z hb2
      · exact absurd (List.mem_map.mpr ⟨b, hb1, z⟩) hn
      · exact z
    rcases List.mem_append.mp ha with h1 | h1
    · obtain ⟨_, z⟩ := c.take.mp h1
      exact lt2_trans (of_decide_eq_true z) qb
    · rw [List.mem_singleton.mp h1]
      exact qb
theorem mem_ins3 {α : Type} {l : List α} {k : Nat} {q x : α} : x ∈ l.take k ++ [q] ++ l.drop k ↔ x = q ∨ x ∈ l := by
  have e : x ∈ l ↔ x ∈ l.take k ∨ x ∈ l.drop k := by
    rw [← List.mem_append, List.take_append_drop]
  rw [List.mem_append, List.mem_append, List.mem_singleton, e]
  constructor
  · rintro ((h | h) | h)
    · exact .inr (.inl h)
    · exact .inl h
    · exact .inr (.inr h)
  · rintro (h | h | h)
    · exact .inl (.inr h)
    · exact .inl (.inl h)
    · exact .inr h
/-- one that is there stands at its place -/
theorem ris_place {l : List Pr} (r : Ris2 l) {q : Int × Int} {k : Nat} (c : Cut l (fun p => decide (lt2 p.2 q)) k) (hm : q ∈ l.map (·.2)) : ∃ p, l[k]? = some p ∧ p.2 = q := by
  obtain ⟨p, hp, rfl⟩ := List.mem_map.mp hm
  obtain ⟨j, hj⟩ := List.mem_iff_getElem?.mp hp
  have h1 : k ≤ j := by
    by_cases hk : j < k
    · have z := of_decide_eq_true (c.lo j p hk hj)
      exact (lt2_irrefl z).elim
    · omega
  by_cases h2 : k = j
  · exact ⟨p, by rw [h2]; exact hj, rfl⟩
  · have hl : k < l.length := by
      have := (List.getElem?_eq_some_iff.mp hj).1
      omega
    have hk : l[k]? = some l[k] := List.getElem?_eq_getElem hl
    have z := of_decide_eq_false (c.hi k _ (Nat.le_refl _) hk)
    exact absurd (ris_at r hk hj (by omega)) z
theorem mem_erase2 {l : List Pr} (r : Ris2 l) {k : Nat} {p : Pr} (hk : l[k]? = some p) {x : Int × Int} : x ∈ (l.eraseIdx k).map (·.2) ↔ x ∈ l.map (·.2) ∧ x ≠ p.2 := by
  constructor
  · intro h
    obtain ⟨y, hy, rfl⟩ := List.mem_map.mp h
    obtain ⟨i, hi⟩ := List.mem_iff_getElem?.mp hy
    rw [List.getElem?_eraseIdx] at hi
    split at hi <;> rename_i hc
    · exact ⟨List.mem_map.mpr ⟨y, List.mem_of_getElem? hi, rfl⟩, fun e => by have z := ris_at r hi hk hc; rw [e] at z; exact lt2_irrefl z⟩
    · exact ⟨List.mem_map.mpr ⟨y, List.mem_of_getElem? hi, rfl⟩, fun e => by have z := ris_at r hk hi (by omega); rw [e] at z; exact lt2_irrefl z⟩
  · rintro ⟨h, hne⟩
    obtain ⟨y, hy, rfl⟩ := List.mem_map.mp h
    obtain ⟨i, hi⟩ := List.mem_iff_getElem?.mp hy
    refine List.mem_map.mpr ⟨y, ?_, rfl⟩
    by_cases c : i < k
    · exact List.mem_iff_getElem?.mpr ⟨i, by rw [List.getElem?_eraseIdx, if_pos c]; exact hi⟩
    · have hik : i ≠ k := fun e => by rw [e, hk] at hi; cases hi; exact hne rfl
      exact List.mem_iff_getElem?.mpr ⟨i - 1, by rw [List.getElem?_eraseIdx, if_neg (by omega), show i - 1 + 1 = i by omega]; exact hi⟩
theorem ris_erase {l : List Pr} (r : Ris2 l) (k : Nat) : Ris2 (l.eraseIdx k) := r.sublist (List.eraseIdx_sublist ..)
/-- two rising lists of the same pairs tell the same -/
theorem ris_same : ∀ {l m : List (Int × Int)}, l.Pairwise lt2 → m.Pairwise lt2 → (∀ x, x ∈ l ↔ x ∈ m) → l = m
  | [], [], _, _, _ => rfl
  | [], y :: m, _, _, h => absurd ((h y).mpr List.mem_cons_self) (by simp)
  | x :: l, [], _, _, h => absurd ((h x).mp List.mem_cons_self) (by simp)
  | x :: l, y :: m, h1, h2, h => by
    obtain ⟨a1, a2⟩ := List.pairwise_cons.mp h1
    obtain ⟨b1, b2⟩ := List.pairwise_cons.mp h2
    have e : x = y := by
      rcases List.mem_cons.mp ((h x).mp List.mem_cons_self) with z | z
      · exact z
      · rcases List.mem_cons.mp ((h y).mpr List.mem_cons_self) with w | w
        · exact w.symm
        · exact (lt2_irrefl (lt2_trans (a1 y w) (b1 x z))).elim
    subst e
    congr 1
    refine ris_same a2 b2 fun z => ⟨fun hz => ?_, fun hz => ?_⟩
    · rcases List.mem_cons.mp ((h z).mp (List.mem_cons_of_mem _ hz)) with w | w
      · subst w
        exact (lt2_irrefl (a1 z hz)).elim
      · exact w
    · rcases List.mem_cons.mp ((h z).mpr (List.mem_cons_of_mem _ hz)) with w | w
      · subst w
        exact (lt2_irrefl (b1 z hz)).elim
      · exact w
theorem ris_map {l : List Pr} (r : Ris2 l) : (l.map (·.2)).Pairwise lt2 := by
  rw [List.pairwise_map]
  exact r
abbrev ky2 (q : Int × Int) : List Key := [Sum.inl q.1, Sum.inl q.2]
theorem lkey2 {q : Int × Int} {r : Int × Int} : ([(Sum.inl q.1 : Key), Sum.inl q.2] = [Sum.inl r.1, Sum.inl r.2]) ↔ q = r := by
  obtain ⟨a, b⟩ := q
  obtain ⟨c, d⟩ := r
  simp
theorem keys_putK {κ : Type} [DecidableEq κ] (kvs : List (κ × V)) (k : κ) (v : V) : (putK kvs k v).map (·.1) = if (valV kvs k).isSome = true then kvs.map (·.1) else kvs.map (·.1) ++ [k] := by
  unfold putK
  rw [valV_any]
  split
  · rw [List.map_map]
    apply List.map_congr_left
    intro p _
    show (if p.1 = k then (p.1, v) else p).1 = p.1
    split <;> rfl
  · rw [List.map_append]
    rfl
theorem ky2_eq {q r : Int × Int} : (ky2 q = ky2 r) ↔ q = r := lkey2
/-- one more is counted -/
theorem cnt_add {kvs kvs' : List (List Key × V)} {M : List (Int × Int)} {q : Int × Int} (h : ∀ r : Int × Int, valV kvs (ky2 r) = if r ∈ M then some (.int (M.count r)) else none) (h' : ∀ r, valV kvs' (ky2 r) = if ky2 r = ky2 q then some (.int (M.count q + 1)) else valV kvs (ky2 r)) (r : Int × Int) :
    valV kvs' (ky2 r) = if r ∈ q :: M then some (.int ((q :: M).count r)) else none := by
  rw [h' r]
  by_cases e : r = q
  · subst e
    rw [if_pos rfl, if_pos List.mem_cons_self, List.count_cons_self]
    rfl
  · rw [if_neg (fun z => e (ky2_eq.mp z)), h r]
    have e1 : (r ∈ q :: M) ↔ r ∈ M := by simp [e]
    by_cases m : r ∈ M
    · rw [if_pos m, if_pos (e1.mpr m), List.count_cons_of_ne (fun z => e z.symm)]
    · rw [if_neg m, if_neg (fun z => m (e1.mp z))]
theorem ks_add {kvs : List (List Key × V)} {M : List (Int × Int)} {q : Int × Int} {v : V} (h : ∀ k ∈ kvs.map (·.1), k ∈ M.map ky2) : ∀ k ∈ (putK kvs (ky2 q) v).map (·.1), k ∈ (q :: M).map ky2 := by
  intro k hk
  rw [keys_putK] at hk
  rw [List.map_cons]
  split at hk
  · exact List.mem_cons_of_mem _ (h k hk)
  · rcases List.mem_append.mp hk with z | z
    · exact List.mem_cons_of_mem _ (h k z)
    · rw [List.mem_singleton.mp z]
      exact List.mem_cons_self
theorem nd_put {κ : Type} [DecidableEq κ] {kvs : List (κ × V)} {k : κ} {v : V} (h : (kvs.map (·.1)).Nodup) : ((putK kvs k v).map (·.1)).Nodup := by
  rw [keys_putK]
  split
  · exact h
  · rename_i c
    refine nd_snoc h (valV_not ?_)
    cases e : valV kvs k with
    | none => rfl
    | some z => rw [e] at c; exact absurd rfl c
/-- one less is counted -/
theorem cnt_lose {kvs kvs' : List (List Key × V)} {M : List (Int × Int)} {q : Int × Int} (hq : q ∈ M) (h : ∀ r : Int × Int, valV kvs (ky2 r) = if r ∈ M then some (.int (M.count r)) else none) (h' : ∀ r, valV kvs' (ky2 r) = if r = q then (if M.count q = 1 then none else some (.int ((M.count q : Int) - 1))) else valV kvs (ky2 r)) (r : Int × Int) :
    valV kvs' (ky2 r) = if r ∈ M.erase q then some (.int ((M.erase q).count r)) else none := by
  rw [h' r]
  have h1 := List.one_le_count_iff.mpr hq
  by_cases e : r = q
  · subst e
    rw [if_pos rfl, List.count_erase_self]
    by_cases c : M.count r = 1
    · rw [if_pos c, if_neg]
      intro z
      have := List.one_le_count_iff.mpr z
      rw [List.count_erase_self] at this
      omega
    · rw [if_neg c, if_pos]
      · congr 2
        omega
      · rw [← List.one_le_count_iff, List.count_erase_self]
        omega
  · rw [if_neg e, h r, List.count_erase_of_ne e]
    have e1 : (r ∈ M.erase q) ↔ r ∈ M := List.mem_erase_of_ne e
    by_cases m : r ∈ M
    · rw [if_pos m, if_pos (e1.mpr m)]
    · rw [if_neg m, if_neg (fun z => m (e1.mp z))]
theorem mem_lose {M : List (Int × Int)} {q r : Int × Int} (hq : q ∈ M) : r ∈ M.erase q ↔ r ∈ M ∧ (M.count q = 1 → r ≠ q) := by
  have h1 := List.one_le_count_iff.mpr hq
  by_cases e : r = q
  · subst e
    rw [← List.one_le_count_iff, List.count_erase_self]
    constructor
    · intro z
      exact ⟨hq, fun c => by omega⟩
    · rintro ⟨_, z⟩
      have : M.count r ≠ 1 := fun c => z c rfl
      omega
  · rw [List.mem_erase_of_ne e]
    exact ⟨fun z => ⟨z, fun _ => e⟩, fun z => z.1⟩
/-! a list of pairs against [] -/
def Pr.dat (e : Pr) : PyData := .tuple [.int e.2.1, .int e.2.2]
theorem dpAll_prs {K : PySem.W.Frag} {H : Hp} : ∀ {ps : List Pr}, (∀ e ∈ ps, H e.1 = some (.tup [.int e.2.1, .int e.2.2])) → DpAll K H (ps.map fun e => V.ref e.1) (ps.map Pr.dat)
  | [], _ => .nil
  | e :: r, h => .cons (.tup (.inl (.inl (h e List.mem_cons_self))) (.cons (.int _) (.cons (.int _) .nil))) (dpAll_prs fun e he => h e (List.mem_cons_of_mem _ he))
theorem lay_prs : ∀ (ps : List Pr), PyData.canLayAll0 (ps.map Pr.dat) = true
  | [] => by simp [PyData.canLayAll0]
  | e :: r => by simp [PyData.canLayAll0, PyData.canLay0, Pr.dat, lay_prs r]
theorem depth_prs : ∀ (ps : List Pr), PyData.depthAll (ps.map Pr.dat) ≤ 2
  | [] => by simp [PyData.depthAll]
  | e :: r => by
    have h := depth_prs r
    simp only [List.map_cons, PyData.depthAll, PyData.depth, Pr.dat]
    omega
theorem shaped_prs (ps : List Pr) : SeqAt.shaped (.list (ps.map Pr.dat)) = true := by
  have h1 := depth_prs ps
  have h2 : PyData.depth (.list (ps.map Pr.dat)) ≤ 64 := by
    simp only [PyData.depth]
    omega
  unfold SeqAt.shaped
  rw [Bool.and_eq_true]
  exact ⟨by simp only [PyData.canLay0]; exact lay_prs ps, decide_eq_true h2⟩
theorem neNil_prs {K : PySem.W.Frag} {H : Hp} {a q : Addr} {ps : List Pr} {Q : VK} (ha : H a = some (.lst (ps.map fun e => V.ref e.1))) (ht : ∀ e ∈ ps, H e.1 = some (.tup [.int e.2.1, .int e.2.2])) (hq : H q = some (.lst [])) (k : Q (.bl (!ps.isEmpty)) H) : rNeD K (.ref a) (.ref q) H Q := by
  refine ⟨.list (ps.map Pr.dat), .list [], .lst (.inl (.inl ha)) (dpAll_prs ht), .lst (.inl (.inl hq)) .nil, shaped_prs ps, rfl, ?_⟩
  cases ps with
  | nil => exact k
  | cons n r => exact k
end G7

set_option linter.all false
set_option Elab.async false
set_option maxRecDepth 100000
set_option maxHeartbeats 4000000
namespace G7
open PySem PySem.Spec PyProof.Rows L2
/-! ### data of any depth, in tuples and lists, truth values too -/
inductive Dx where
  | non
  | bl (b : Bool)
  | int (i : Int)
  | str (s : Str)
  | tup (l : List Dx)
  | lst (l : List Dx)
mutual
def RX (H : Hp) : V → Dx → Prop
  | v, .non => v = .non
  | v, .bl b => v = .bl b
  | v, .int i => v = .int i
  | v, .str s => v = .str s
  | v, .tup ds => ∃ a us, v = .ref a ∧ H a = some (.tup us) ∧ RXs H us ds
  | v, .lst ds => ∃ a us, v = .ref a ∧ H a = some (.lst us) ∧ RXs H us ds
def RXs (H : Hp) : List V → List Dx → Prop
  | [], [] => True
  | u :: us, d :: ds => RX H u d ∧ RXs H us ds
  | _, _ => False
end
mutual
def Dx.fits (m : Nat) : Dx → Prop
  | .tup ds => ds.length ≤ m ∧ Dx.fitsL m ds
  | .lst ds => ds.length ≤ m ∧ Dx.fitsL m ds
  | _ => True
def Dx.fitsL (m : Nat) : List Dx → Prop
  | [] => True
  | d :: r => Dx.fits m d ∧ Dx.fitsL m r
end
mutual
def Dx.deep : Dx → Nat
  | .tup ds => Dx.deepL ds + 1
  | .lst ds => Dx.deepL ds + 1
  | _ => 0
def Dx.deepL : List Dx → Nat
  | [] => 0
  | d :: r => max (Dx.deep d) (Dx.deepL r)
end
theorem RXs.len {H : Hp} : ∀ {us : List V} {ds : List Dx}, RXs H us ds → us.length = ds.length
  | [], [], _ => rfl
  | u :: us, d :: ds, h => by
    have h : RX H u d ∧ RXs H us ds := by simpa only [RXs] using h
    rw [List.length_cons, List.length_cons, RXs.len h.2]
  | [], d :: ds, h => by simp only [RXs] at h
  | u :: us, [], h => by simp only [RXs] at h
theorem RXs.at {H : Hp} : ∀ {us : List V} {ds : List Dx} {i : Nat} {d : Dx}, RXs H us ds → ds[i]? = some d → ∃ u, us[i]? = some u ∧ RX H u d
  | [], [], _, _, _, e => by cases e
  | u :: us, d :: ds, 0, d', h, e => by
    have h : RX H u d ∧ RXs H us ds := by simpa only [RXs] using h
    cases e
    exact ⟨u, rfl, h.1⟩
  | u :: us, d :: ds, i + 1, d', h, e => by
    have h : RX H u d ∧ RXs H us ds := by simpa only [RXs] using h
    exact RXs.at (us := us) (ds := ds) (i := i) h.2 (by simpa using e)
  | [], d :: ds, _, _, h, _ => by simp only [RXs] at h
  | u :: us, [], _, _, h, _ => by simp only [RXs] at h
theorem Dx.fitsL_at {m : Nat} : ∀ {ds : List Dx} {i : Nat} {d : Dx}, Dx.fitsL m ds → ds[i]? = some d → Dx.fits m d
  | [], _, _, _, e => by cases e
  | d :: ds, 0, d', h, e => by
    cases e
    exact h.1
  | d :: ds, i + 1, d', h, e => Dx.fitsL_at h.2 e
theorem Dx.deepL_at : ∀ {ds : List Dx} {i : Nat} {d : Dx}, ds[i]? = some d → Dx.deep d ≤ Dx.deepL ds
  | [], _, _, e => by cases e
  | d :: ds, 0, d', e => by
    cases e
    exact Nat.le_max_left _ _
  | d :: ds, i + 1, d', e => Nat.le_trans (Dx.deepL_at (ds := ds) e) (Nat.le_max_right _ _)
mutual
theorem RX.same {H H' : Hp} (k : Same H H') : ∀ {d : Dx} {v : V}, RX H v d → RX H' v d
  | .non, _, h => by simpa only [RX] using h
  | .bl _, _, h => by simpa only [RX] using h
  | .int _, _, h => by simpa only [RX] using h
  | .str _, _, h => by simpa only [RX] using h
  | .tup ds, v, h => by
    simp only [RX] at h ⊢
    obtain ⟨a, us, e, h1, h2⟩ := h
    exact ⟨a, us, e, k _ _ h1, RXs.same k h2⟩
  | .lst ds, v, h => by
    simp only [RX] at h ⊢
    obtain ⟨a, us, e, h1, h2⟩ := h
    exact ⟨a, us, e, k _ _ h1, RXs.same k h2⟩
theorem RXs.same {H H' : Hp} (k : Same H H') : ∀ {ds : List Dx} {us : List V}, RXs H us ds → RXs H' us ds
  | [], [], h => by simp only [RXs]
  | d :: ds, u :: us, h => by
    simp only [RXs] at h ⊢
    exact ⟨RX.same k h.1, RXs.same k h.2⟩
  | d :: ds, [], h => by simp only [RXs] at h
  | [], u :: us, h => by simp only [RXs] at h
end
theorem rx_str {H : Hp} (s : Str) : RX H (.str s) (.str s) := by simp only [RX]
theorem rx_int {H : Hp} (s : Int) : RX H (.int s) (.int s) := by simp only [RX]
theorem rx_non {H : Hp} : RX H .non .non := by simp only [RX]
theorem rx_bl {H : Hp} (b : Bool) : RX H (.bl b) (.bl b) := by simp only [RX]
theorem rx_tup {H : Hp} {a : Addr} {us : List V} {ds : List Dx} (h : H a = some (.tup us)) (r : RXs H us ds) : RX H (.ref a) (.tup ds) := by
  simp only [RX]
  exact ⟨a, us, rfl, h, r⟩
theorem rx_lst {H : Hp} {a : Addr} {us : List V} {ds : List Dx} (h : H a = some (.lst us)) (r : RXs H us ds) : RX H (.ref a) (.lst ds) := by
  simp only [RX]
  exact ⟨a, us, rfl, h, r⟩
theorem rxs_nil {H : Hp} : RXs H [] [] := by simp only [RXs]
theorem rxs_cons {H : Hp} {u : V} {us : List V} {d : Dx} {ds : List Dx} (h : RX H u d) (r : RXs H us ds) : RXs H (u :: us) (d :: ds) := by
  simp only [RXs]
  exact ⟨h, r⟩
theorem rxs_map {α : Type} {H : Hp} {f : α → V} {g : α → Dx} : ∀ {l : List α}, (∀ x ∈ l, RX H (f x) (g x)) → RXs H (l.map f) (l.map g)
  | [], _ => rxs_nil
  | x :: r, h => rxs_cons (h x List.mem_cons_self) (rxs_map fun y hy => h y (List.mem_cons_of_mem _ hy))
theorem dxs_ok {α : Type} {g : α → Dx} {n m : Nat} : ∀ {l : List α}, (∀ x ∈ l, (g x).deep ≤ n ∧ (g x).fits m) → Dx.deepL (l.map g) ≤ n ∧ Dx.fitsL m (l.map g)
  | [], _ => by simp [Dx.deepL, Dx.fitsL]
  | x :: r, h => by
    have h1 := h x List.mem_cons_self
    have h2 := dxs_ok (g := g) (l := r) fun y hy => h y (List.mem_cons_of_mem _ hy)
    simp only [List.map_cons, Dx.deepL, Dx.fitsL]
    exact ⟨by omega, h1.2, h2.2⟩
/-- a pair of ints -/
def dx2 (q : Int × Int) : Dx := .tup [.int q.1, .int q.2]
theorem rx2 {H : Hp} {a : Addr} {q : Int × Int} (h : H a = some (.tup [.int q.1, .int q.2])) : RX H (.ref a) (dx2 q) := rx_tup h (rxs_cons (rx_int _) (rxs_cons (rx_int _) rxs_nil))
/-- an item of a list or of a tuple -/
def rIxLT : R2 := fun x y H Q => ∃ p xs i v, x = .ref p ∧ y = .int i ∧ (lsO (H p) = some xs ∨ tpO (H p) = some xs) ∧ atI xs i = some v ∧ Q v H
theorem ix_lt {X : Cx} : IxR X rIxLT := fun a b p s σ H x y v u Q I rx ry ⟨q, xs, i, w, e1, e2, h, e, k⟩ => by
  rcases h with h | h
  · exact ix_lst a b p s σ H x y v u Q I rx ry ⟨q, xs, i, w, e1, e2, h, e, k⟩
  · exact ix_tp a b p s σ H x y v u Q I rx ry ⟨q, xs, i, w, e1, e2, h, e, k⟩
def cLenLT : List V → Hp → VK → Prop := fun vs H Q => ∃ p xs, vs = [.ref p] ∧ (lsO (H p) = some xs ∨ tpO (H p) = some xs) ∧ Q (.int (xs.length : Int)) H
theorem len_lt {X : Cx} : CallR X (.builtin "len") cLenLT := callImp call_len_seq fun vs H Q ⟨p, xs, e, h, q⟩ => ⟨p, xs, e, h.elim (fun h => .inl (.inl (rd_lsO h))) (fun h => .inr (.inl (rd_tpO h))), q⟩
end G7

set_option linter.all false
set_option Elab.async false
set_option maxRecDepth 100000
set_option maxHeartbeats 4000000
namespace G7
open PySem PySem.Spec PyProof.Rows L2
/-- take(box, [x, y][take(box, 2)]), the box in slot i -/
def tTake2 (i : Nat) (x y : Int) : TE := tCall spTake [] E0 (tCons (tVar i) (tCons (tOp rIxH (tLst (tCons (tC (V.int x)) (tCons (tC (V.int y)) tNil))) (tCall spTake [] E0 (tCons (tVar i) (tCons (tC (V.int 2)) tNil)))) tNil))
theorem take2 {i : Nat} {x y : Int} {σ : L2.St} {H : Hp} {Q : VK} {h l : Addr} (hv : σ[i]? = some (some (V.ref h))) (B : BoxA H h l) (hx : 0 < x ∧ x < 1073741824) (hy : 0 < y ∧ y < 1073741824)
    (k : ∀ r H', 0 ≤ r → (r < x ∨ r < y) → BoxA H' h l → Keep [h, l] H H' → Q (.int r) H') : tTake2 i x y σ H Q := by
  refine ⟨_, hv, ⟨szl (by show 2 ≤ 100000; decide), fun p hp => ⟨_, hv, h, l, 2, rfl, B.same (same_new hp), by decide, by decide, fun r H1 r0 r1 B1 k1 => ?_⟩⟩⟩
  have np : p ∉ [h, l] := fun m => by
    obtain ⟨ns, st, b1, b2, _⟩ := B
    simp only [List.mem_cons, List.mem_nil_iff, or_false] at m
    rcases m with rfl | rfl
    · rw [hp] at b1; cases b1
    · rw [hp] at b2; cases b2
  have e1 := k1 _ _ np upd_same
  have kk : Keep [h, l] H H1 := (Keep.new hp).trans k1
  by_cases c : r = 0
  · subst c
    exact ⟨p, _, 0, V.int x, rfl, rfl, by rw [e1]; rfl, at0, h, l, x, rfl, B1, hx.1, hx.2, fun r' H2 a1 a2 B2 k2 => k r' H2 a1 (.inl a2) B2 (kk.trans k2)⟩
  · have c : r = 1 := by omega
    subst c
    exact ⟨p, _, 1, V.int y, rfl, rfl, by rw [e1]; rfl, at1, h, l, y, rfl, B1, hy.1, hy.2, fun r' H2 a1 a2 B2 k2 => k r' H2 a1 (.inr a2) B2 (kk.trans k2)⟩
end G7

set_option linter.all false
set_option Elab.async false
set_option maxRecDepth 100000
set_option maxHeartbeats 4000000
/-! tables of sets of any mask on whose round all slots lie: laying all anew does not fail -/
namespace SM
open PySem PySem.Spec PyProof.Rows L2
/-- the round from 0 meets all slots, and ends at 0 -/
structure Full (m : Nat) : Prop where
  hit : ∀ j, j ≤ m → ∃ b, b ≤ m ∧ lcgN m b = j
  end_ : lcgN m (m + 1) = 0
theorem full_of {m : Nat} (h1 : ((List.range (m + 1)).all fun j => (List.range (m + 1)).any fun b => lcgN m b == j) = true) (h2 : lcgN m (m + 1) = 0) : Full m := ⟨fun j hj => by
  obtain ⟨b, hb, eb⟩ := List.any_eq_true.mp (List.all_eq_true.mp h1 j (List.mem_range.mpr (Nat.lt_succ_of_le hj)))
  exact ⟨b, Nat.le_of_lt_succ (List.mem_range.mp hb), beq_iff_eq.mp eb⟩, h2⟩
theorem full_7 : Full 7 := full_of (by decide +kernel) (by decide +kernel)
theorem full_15 : Full 15 := full_of (by decide +kernel) (by decide +kernel)
theorem full_31 : Full 31 := full_of (by decide +kernel) (by decide +kernel)
theorem full_63 : Full 63 := full_of (by decide +kernel) (by decide +kernel)
theorem Full.again {m : Nat} (F : Full m) : ∀ k, lcgN m (m + 1 + k) = lcgN m k
  | 0 => F.end_
  | k + 1 => by
    show (lcgN m (m + 1 + k) * 5 + 1) % (m + 1) = (lcgN m k * 5 + 1) % (m + 1)
    rw [F.again k]
theorem Full.soon {m : Nat} (F : Full m) {i j : Nat} (hi : i ≤ m) (hj : j ≤ m) : ∃ k, k ≤ m ∧ lcgI m i k = j := by
  obtain ⟨a, ha, rfl⟩ := F.hit i hi
  obtain ⟨b, hb, rfl⟩ := F.hit j hj
  by_cases c : a ≤ b
  · exact ⟨b - a, by omega, by rw [lcgN_add]; congr 1; omega⟩
  · refine ⟨b + (m + 1) - a, by omega, ?_⟩
    rw [lcgN_add, show a + (b + (m + 1) - a) = m + 1 + b by omega, F.again]
/-- a free slot is found -/
theorem Full.free {m : Nat} (F : Full m) (owner : Array (Option Nat)) (h : Int) {j : Nat} (hj : j ≤ m) (hf : oAt owner j = none) :
    ∃ y, SetTable.layClean.free m owner (SetTable.turns m) (SetTable.bits h % (m + 1)) (SetTable.bits h) = some y ∧ y ≤ m ∧ oAt owner y = none := by
  obtain ⟨k, hk, e⟩ := F.soon (runI_le m (SetTable.bits h) 12) hj
  have e2 : runI m (SetTable.bits h) (12 + k) = j := by rw [runI_tail (bits_lt h)]; exact e
  have hw : (nth m (runAt m (SetTable.bits h % (m + 1)) (SetTable.bits h)) (off m (SetTable.bits h % (m + 1)) (SetTable.bits h) (12 + k))).j = j := by
    rw [nth_off, itL_run]
    exact e2
  obtain ⟨K, k1, k2, k3⟩ := st_least (p := fun k => oAt owner (nth m (runAt m (SetTable.bits h % (m + 1)) (SetTable.bits h)) k).j = none) _ (by show oAt owner _ = none; rw [hw]; exact hf)
  refine ⟨_, free_spec m owner (SetTable.turns m) (12 + k) _ _ K (by unfold SetTable.turns; omega) k1 (fun q hq => ?_) ?_, ?_, k2⟩
  · have z := k3 q hq
    cases y : oAt owner (nth m (runAt m (SetTable.bits h % (m + 1)) (SetTable.bits h)) q).j with
    | none => exact absurd y z
    | some _ => rfl
  · rw [show oAt owner (nth m (runAt m (SetTable.bits h % (m + 1)) (SetTable.bits h)) K).j = none from k2]
    rfl
  · have hi : SetTable.bits h % (m + 1) ≤ m := Nat.le_of_lt_succ (Nat.mod_lt _ (Nat.succ_pos _))
    have r := runEnd_bd hi
    have q := nth_in (m := m) K (runAt m (SetTable.bits h % (m + 1)) (SetTable.bits h)) (by
      show SetTable.bits h % (m + 1) + (SetTable.runEnd m (SetTable.bits h % (m + 1)) - SetTable.bits h % (m + 1)) ≤ m
      omega)
    omega
/-- who sits where when n are laid -/
structure Sits (m n : Nat) (owner : Array (Option Nat)) : Prop where
  sz : owner.size = m + 1
  lt : ∀ j k, j ≤ m → oAt owner j = some k → k < n
  all : ∀ k, k < n → ∃ j, j ≤ m ∧ oAt owner j = some k
  ps : ∃ ps : List Nat, ps.length = n ∧ ∀ j, j ≤ m → oAt owner j ≠ none → j ∈ ps
theorem Sits.zero (m : Nat) : Sits m 0 (Array.replicate (m + 1) none) :=
  ⟨by simp, fun j k hj e => (by rw [oAt_init hj] at e; cases e), fun k hk => absurd hk (Nat.not_lt_zero _), ⟨[], rfl, fun j hj e => absurd (oAt_init hj) e⟩⟩
theorem Sits.put {m n y : Nat} {owner : Array (Option Nat)} (S : Sits m n owner) (hy : y ≤ m) (hf : oAt owner y = none) : Sits m (n + 1) (owner.setIfInBounds y (some n)) := by
  have hys : y < owner.size := by rw [S.sz]; exact Nat.lt_succ_of_le hy
  have self := oAt_set_self (some n) hys
  obtain ⟨ps, p1, p2⟩ := S.ps
  refine ⟨by rw [Array.size_setIfInBounds]; exact S.sz, fun j k hj e => ?_, fun k hk => ?_, ⟨y :: ps, by rw [List.length_cons, p1], fun j hj e => ?_⟩⟩
  · by_cases c : j = y
    · rw [c, self] at e
      cases e
      exact Nat.lt_succ_self _
    · rw [oAt_set_ne _ c] at e
      exact Nat.lt_succ_of_lt (S.lt j k hj e)
  · by_cases c : k < n
    · obtain ⟨j, hj, e⟩ := S.all k c
      exact ⟨j, hj, by rw [oAt_set_ne _ (fun z => by rw [z, hf] at e; cases e)]; exact e⟩
    · obtain rfl : k = n := by omega
      exact ⟨y, hy, self⟩
  · by_cases c : j = y
    · rw [c]; exact List.mem_cons_self
    · rw [oAt_set_ne _ c] at e
      exact List.mem_cons_of_mem _ (p2 j hj e)
theorem Full.lay {m : Nat} (F : Full m) {hs : Array Int} (hn : hs.size ≤ m) : ∃ owner, SetTable.layClean m hs = some owner ∧ Sits m hs.size owner := by
  have go : ∀ (rest : List Int) (n : Nat) (owner : Array (Option Nat)), Sits m n owner → n + rest.length ≤ m → ∃ o', rest.foldl (stepF m) (some (owner, n)) = some (o', n + rest.length) ∧ Sits m (n + rest.length) o' := by
    intro rest
    induction rest with
    | nil => intro n owner S _; exact ⟨owner, rfl, S⟩
    | cons h rest ih =>
      intro n owner S hl
      rw [List.length_cons] at hl
      obtain ⟨ps, p1, p2⟩ := S.ps
      obtain ⟨j0, h0, n0⟩ := st_missing ps (m + 1) (by omega)
      have f0 : oAt owner j0 = none := by
        cases z : oAt owner j0 with
        | none => rfl
        | some k => exact absurd (p2 j0 (by omega) (by rw [z]; exact fun e => nomatch e)) n0
      obtain ⟨y, e1, e2, e3⟩ := F.free owner h (by omega) f0
      obtain ⟨o', g1, g2⟩ := ih (n + 1) _ (S.put e2 e3) (by omega)
      refine ⟨o', ?_, ?_⟩
      · rw [List.foldl_cons, stepF_some e1, g1, List.length_cons]
        congr 2
        omega
      · rw [List.length_cons, show n + (rest.length + 1) = n + 1 + rest.length by omega]
        exact g2
  obtain ⟨o', g1, g2⟩ := go hs.toList 0 _ (Sits.zero m) (by rw [Array.length_toList]; omega)
  rw [Nat.zero_add, Array.length_toList] at g1 g2
  refine ⟨o', ?_, g2⟩
  rw [layClean_eq, g1]
  rfl
/-- a table laid from nothing: rising, all there -/
theorem Full.laid {m : Nat} (F : Full m) {hs : Array Int} (hn : hs.size ≤ m) (finger moves : Nat) (led plain : Bool) :
    ∃ t order, SetTable.laid m finger moves led plain hs = some (t, order) ∧ order.toList.Perm (List.range hs.size) ∧ Ris t.place.toList ∧ t.place.size = hs.size ∧ t.dummies = #[] ∧ t.mask = m ∧ t.led = led := by
  obtain ⟨owner, e, S⟩ := F.lay hn
  have ris := ris_live (fun j => owner.getD j none) (List.range (m + 1)) (by
    unfold Ris
    first | exact List.pairwise_lt_range | exact List.pairwise_lt_range _)
  have r1 : Ris ((liveOf m owner).map (·.1)) := ris.1
  have nd : ((liveOf m owner).map (·.1)).Nodup := List.Pairwise.imp (fun h => Nat.ne_of_lt h) r1
  have hlen : (liveOf m owner).length = hs.size := by
    obtain ⟨ps, p1, p2⟩ := S.ps
    have a := nat_nodup_len ((liveOf m owner).map (·.1)) ps nd fun x hx => by
      obtain ⟨⟨y, k⟩, hq, rfl⟩ := List.mem_map.mp hx
      obtain ⟨b1, b2⟩ := (mem_live S.sz).1 hq
      exact p2 y b1 (by rw [b2]; exact fun z => nomatch z)
    have b := nat_nodup_len (List.range hs.size) ((liveOf m owner).map (·.2)) List.nodup_range fun k hk => by
      obtain ⟨j, b1, b2⟩ := S.all k (List.mem_range.mp hk)
      exact List.mem_map.mpr ⟨(j, k), (mem_live S.sz).2 ⟨b1, b2⟩, rfl⟩
    rw [List.length_map, p1] at a
    rw [List.length_map, List.length_range] at b
    omega
  refine ⟨{ mask := m, place := ((liveOf m owner).map (·.1)).toArray, dummies := #[], finger, led, moves, plain }, ((liveOf m owner).map (·.2)).toArray, ?_, ?_, r1, ?_, rfl, rfl, rfl⟩
  · unfold SetTable.laid
    rw [e]
    rfl
  · refine perm_range hs.size _ (by show ((liveOf m owner).map (·.2)).length = _; rw [List.length_map]; exact hlen) fun k hk => ?_
    obtain ⟨j, b1, b2⟩ := S.all k hk
    exact List.mem_map.mpr ⟨(j, k), (mem_live S.sz).2 ⟨b1, b2⟩, rfl⟩
  · show ((liveOf m owner).map (·.1)).toArray.size = _
    rw [List.size_toArray, List.length_map]
    exact hlen
end SM

set_option linter.all false
set_option Elab.async false
set_option maxRecDepth 100000
set_option maxHeartbeats 4000000
/-! sets of tuples of ints and texts, each once, of some hundreds -/
namespace SM
open PySem PySem.Spec PyProof.Rows L2
/-- the round's slots as a number's bits -/
def rnd (m : Nat) : Nat → Nat → Nat → Nat
  | 0, _, s => s
  | f + 1, x, s => rnd m f ((x * 5 + 1) % (m + 1)) (s ||| (1 <<< x))
theorem rnd_bit (m j : Nat) : ∀ f n s, (rnd m f (lcgN m n) s).testBit j = true → s.testBit j = true ∨ ∃ b, b < n + f ∧ lcgN m b = j
  | 0, n, s, h => .inl h
  | f + 1, n, s, h => by
    rcases rnd_bit m j f (n + 1) _ h with z | ⟨b, h1, h2⟩
    · rw [Nat.testBit_or, Bool.or_eq_true] at z
      rcases z with z | z
      · exact .inl z
      · rw [Nat.one_shiftLeft, Nat.testBit_two_pow] at z
        exact .inr ⟨n, by omega, by simpa using z⟩
    · exact .inr ⟨b, by omega, h2⟩
theorem full_rnd {m : Nat} (h1 : rnd m (m + 1) 0 0 = 2 ^ (m + 1) - 1) (h2 : lcgN m (m + 1) = 0) : Full m := ⟨fun j hj => by
  have z : (rnd m (m + 1) (lcgN m 0) 0).testBit j = true := by
    show (rnd m (m + 1) 0 0).testBit j = true
    rw [h1, Nat.testBit_two_pow_sub_one]
    exact decide_eq_true (by omega)
  rcases rnd_bit m j _ _ _ z with e | ⟨b, e1, e2⟩
  · simp at e
  · exact ⟨b, by omega, e2⟩, h2⟩
theorem full_127 : Full 127 := full_rnd (by decide +kernel) (by decide +kernel)
theorem full_511 : Full 511 := full_rnd (by decide +kernel) (by decide +kernel)
end SM
namespace KT
open PySem PySem.Spec PyProof.Rows L2
/-- the masks that come -/
def MaskG (m : Nat) : Prop := m = 7 ∨ m = 31 ∨ m = 127 ∨ m = 511
theorem MaskG.full {m : Nat} (h : MaskG m) : SM.Full m := by
  rcases h with e | e | e | e <;> subst e
  · exact SM.full_7
  · exact SM.full_31
  · exact SM.full_127
  · exact SM.full_511
theorem way_in (m : Nat) (h : Int) (k : Nat) : way m h k ≤ m := by
  have hi : SetTable.bits h % (m + 1) ≤ m := Nat.le_of_lt_succ (Nat.mod_lt _ (Nat.succ_pos _))
  have r := runEnd_bd hi
  have q := nth_in (m := m) k (runAt m (SetTable.bits h % (m + 1)) (SetTable.bits h)) (by
    show SetTable.bits h % (m + 1) + (SetTable.runEnd m (SetTable.bits h % (m + 1)) - SetTable.bits h % (m + 1)) ≤ m
    omega)
  unfold way
  omega
/-- each slot is met within the search's bound -/
theorem meets {m : Nat} (F : SM.Full m) (h : Int) {j : Nat} (hj : j ≤ m) : ∃ k, k < 10 * SetTable.turns m ∧ way m h k = j := by
  obtain ⟨k, hk, e⟩ := F.soon (runI_le m (SetTable.bits h) 12) hj
  have e2 : runI m (SetTable.bits h) (12 + k) = j := by rw [runI_tail (bits_lt h)]; exact e
  obtain ⟨k2, h2, e3⟩ := run_nth m (SetTable.bits h) (12 + k)
  refine ⟨k2, by unfold SetTable.turns; omega, ?_⟩
  unfold way
  rw [e3]
  exact e2
/-- the table: rising, all on their ways -/
structure TabF (t : SetTable) (hs : List Int) : Prop where
  ris : Ris t.place.toList
  dm : t.dummies = #[]
  sz : t.place.size = hs.length
  mok : MaskG t.mask
  bd : ∀ x ∈ t.place.toList, x ≤ t.mask
  reach : ∀ (i : Nat) (h : Int) (j : Nat), hs[i]? = some h → t.place.toList[i]? = some j → ∃ k, way t.mask h k = j ∧ ∀ k', k' < k → way t.mask h k' ∈ t.place.toList
theorem odd {m : Nat} (h : MaskG m) : m % 2 = 1 := by
  rcases h with e | e | e | e <;> subst e <;> rfl
theorem TabF.first {t : SetTable} {hs : List Int} (T : TabF t hs) (hl : hs.length ≤ t.mask) (h : Int) : ∃ K, K < 10 * SetTable.turns t.mask ∧ way t.mask h K ∉ t.place.toList ∧ ∀ k, k < K → way t.mask h k ∈ t.place.toList := by
  obtain ⟨j, hj, hn⟩ := st_missing t.place.toList (t.mask + 1) (by rw [Array.length_toList, T.sz]; omega)
  obtain ⟨k, hk, e⟩ := meets T.mok.full h (Nat.le_of_lt_succ hj)
  obtain ⟨K, h1, h2, h3⟩ := st_least (p := fun k => way t.mask h k ∉ t.place.toList) k (by rw [e]; exact hn)
  exact ⟨K, Nat.lt_of_le_of_lt h1 hk, h2, fun k' hk' => Classical.byContradiction fun c => h3 k' hk' c⟩
/-- what is there is met ahead of the first free slot -/
theorem TabF.ahead {t : SetTable} {hs : List Int} (T : TabF t hs) {h : Int} {K i j : Nat} (hK : way t.mask h K ∉ t.place.toList) (hi : hs[i]? = some h) (hj : t.place.toList[i]? = some j) : ∃ k, k < K ∧ way t.mask h k = j := by
  obtain ⟨k, e, hb⟩ := T.reach i h j hi hj
  refine ⟨k, ?_, e⟩
  rcases Nat.lt_trichotomy k K with c | c | c
  · exact c
  · exact absurd (List.mem_of_getElem? hj) (by rw [← e, c]; exact hK)
  · exact absurd (hb K c) hK
/-- one put in at the first free slot of its way -/
theorem TabF.lay1 {t : SetTable} {hs : List Int} (T : TabF t hs) {h : Int} {K j p : Nat} (ej : way t.mask h K = j) (ep : SetTable.below t.place j = p) (hK : j ∉ t.place.toList) (hb : ∀ k, k < K → way t.mask h k ∈ t.place.toList) :
    (t.put j).2 = p ∧ p ≤ hs.length ∧ TabF (t.put j).1 (hs.take p ++ h :: hs.drop p) ∧ (t.put j).1.mask = t.mask ∧ (t.put j).1.led = t.led ∧ (t.put j).1.fill = hs.length + 1 := by
  have c1 := (below_cut T.ris j).1
  rw [ep] at c1
  have hsz : t.place.toList.length = hs.length := by rw [Array.length_toList]; exact T.sz
  have hpl : p ≤ t.place.toList.length := by rw [Array.length_toList]; exact c1
  have hph : p ≤ hs.length := by omega
  have hpp := put_place t j
  rw [ep] at hpp
  have hsize : (t.put j).1.place.size = hs.length + 1 := by rw [← Array.length_toList, hpp, len_ins _ hpl, hsz]
  have hnp : t.place[SetTable.below t.place j]? ≠ some j := fun e => hK (List.mem_of_getElem? (by rw [Array.getElem?_toList]; exact e))
  have up : ∀ {x : Nat}, x ∈ t.place.toList → x ∈ (t.put j).1.place.toList := fun hx => by rw [hpp]; exact mem_ins.2 (.inr hx)
  refine ⟨ep, hph, ⟨ris_insert T.ris hnp, put_dm T.dm j, by rw [len_ins _ hph]; exact hsize, T.mok, fun x hx => ?_, fun i h' j' h1 h2 => ?_⟩, rfl, rfl, ?_⟩
  · rw [hpp] at hx
    rcases mem_ins.1 hx with z | z
    · rw [z, ← ej]; exact way_in _ _ _
    · exact T.bd x z
  · rw [tins_get hs hph] at h1
    rw [hpp, tins_get _ hpl] at h2
    show ∃ k, way t.mask h' k = j' ∧ ∀ k', k' < k → way t.mask h' k' ∈ (t.put j).1.place.toList
    rcases Nat.lt_trichotomy i p with c | c | c
    · rw [if_pos c] at h1 h2
      obtain ⟨k, e, z⟩ := T.reach i h' j' h1 h2
      exact ⟨k, e, fun k' hk' => up (z k' hk')⟩
    · rw [if_neg (by omega), if_pos c] at h1 h2
      cases h1
      cases h2
      exact ⟨K, ej, fun k' hk' => up (hb k' hk')⟩
    · rw [if_neg (by omega), if_neg (by omega)] at h1 h2
      obtain ⟨k, e, z⟩ := T.reach (i - 1) h' j' h1 h2
      exact ⟨k, e, fun k' hk' => up (z k' hk')⟩
  · show (t.put j).1.place.size + (t.put j).1.dummies.size = hs.length + 1
    rw [hsize, put_dm T.dm j]
    rfl
/-- who sits where, each on its way -/
structure Sat (m : Nat) (done : List Int) (owner : Array (Option Nat)) : Prop where
  sits : SM.Sits m done.length owner
  at_ : ∀ j k, j ≤ m → oAt owner j = some k → ∃ h K, done[k]? = some h ∧ way m h K = j ∧ ∀ k', k' < K → oAt owner (way m h k') ≠ none
/-- the first free slot of a way is found -/
theorem free1 {m : Nat} (F : SM.Full m) (owner : Array (Option Nat)) (h : Int) {j : Nat} (hj : j ≤ m) (hf : oAt owner j = none) :
    ∃ K, SetTable.layClean.free m owner (SetTable.turns m) (SetTable.bits h % (m + 1)) (SetTable.bits h) = some (way m h K) ∧ oAt owner (way m h K) = none ∧ ∀ k, k < K → oAt owner (way m h k) ≠ none := by
  obtain ⟨k, hk, e⟩ := F.soon (runI_le m (SetTable.bits h) 12) hj
  have e2 : runI m (SetTable.bits h) (12 + k) = j := by rw [runI_tail (bits_lt h)]; exact e
  have hw : way m h (off m (SetTable.bits h % (m + 1)) (SetTable.bits h) (12 + k)) = j := by
    unfold way
    rw [nth_off, itL_run]
    exact e2
  obtain ⟨K, k1, k2, k3⟩ := st_least (p := fun k => oAt owner (way m h k) = none) _ (by rw [hw]; exact hf)
  refine ⟨K, free_spec m owner (SetTable.turns m) (12 + k) _ _ K (by unfold SetTable.turns; omega) k1 (fun q hq => ?_) ?_, k2, fun q hq => k3 q hq⟩
  · have z := k3 q hq
    show (oAt owner (way m h q)).isNone = false
    cases y : oAt owner (way m h q) with
    | none => exact absurd y z
    | some _ => rfl
  · show (oAt owner (way m h K)).isNone = true
    rw [k2]
    rfl
theorem Sat.more {m : Nat} (F : SM.Full m) {done : List Int} {owner : Array (Option Nat)} (W : Sat m done owner) (hl : done.length ≤ m) (h : Int) :
    ∃ y, SetTable.layClean.free m owner (SetTable.turns m) (SetTable.bits h % (m + 1)) (SetTable.bits h) = some y ∧ Sat m (done ++ [h]) (owner.setIfInBounds y (some done.length)) := by
  obtain ⟨ps, p1, p2⟩ := W.sits.ps
  obtain ⟨j0, h0, n0⟩ := st_missing ps (m + 1) (by omega)
  have f0 : oAt owner j0 = none := by
    cases z : oAt owner j0 with
    | none => rfl
    | some k => exact absurd (p2 j0 (by omega) (by rw [z]; exact fun e => nomatch e)) n0
  obtain ⟨K, e1, e2, e3⟩ := free1 F owner h (by omega) f0
  have hy := way_in m h K
  have hys : way m h K < owner.size := by rw [W.sits.sz]; omega
  have self := oAt_set_self (some done.length) hys
  refine ⟨_, e1, by have z := W.sits.put hy e2; rw [List.length_append]; exact z, fun j k hj e => ?_⟩
  have mono : ∀ {i : Nat}, oAt owner i ≠ none → oAt (owner.setIfInBounds (way m h K) (some done.length)) i ≠ none := fun {i} hi => by
    by_cases c : i = way m h K
    · rw [c, self]; exact fun e => nomatch e
    · rw [oAt_set_ne _ c]; exact hi
  by_cases c : j = way m h K
  · rw [c, self] at e
    cases e
    exact ⟨h, K, by rw [List.getElem?_append_right (Nat.le_refl _), Nat.sub_self]; rfl, c.symm, fun k' hk' => mono (e3 k' hk')⟩
  · rw [oAt_set_ne _ c] at e
    obtain ⟨h', K', a1, a2, a3⟩ := W.at_ j k hj e
    exact ⟨h', K', by rw [List.getElem?_append_left (List.getElem?_eq_some_iff.mp a1).1]; exact a1, a2, fun k' hk' => mono (a3 k' hk')⟩
theorem lay_all {m : Nat} (F : SM.Full m) {hs : Array Int} (hn : hs.size ≤ m) : ∃ owner, SetTable.layClean m hs = some owner ∧ Sat m hs.toList owner := by
  have go : ∀ (rest done : List Int) (owner : Array (Option Nat)), Sat m done owner → done.length + rest.length ≤ m → ∃ o', rest.foldl (stepF m) (some (owner, done.length)) = some (o', (done ++ rest).length) ∧ Sat m (done ++ rest) o' := by
    intro rest
    induction rest with
    | nil => intro done owner S _; rw [List.append_nil]; exact ⟨owner, rfl, S⟩
    | cons h rest ih =>
      intro done owner S hl
      rw [List.length_cons] at hl
      obtain ⟨y, e1, S2⟩ := S.more F (by omega) h
      have el : (done ++ [h]).length = done.length + 1 := by rw [List.length_append]; rfl
      obtain ⟨o', g1, g2⟩ := ih (done ++ [h]) _ S2 (by omega)
      rw [List.append_assoc, List.singleton_append] at g1 g2
      rw [el] at g1
      exact ⟨o', by rw [List.foldl_cons, stepF_some e1]; exact g1, g2⟩
  obtain ⟨o', g1, g2⟩ := go hs.toList [] _ ⟨SM.Sits.zero m, fun j k hj e => by rw [oAt_init hj] at e; cases e⟩ (by rw [Array.length_toList]; simpa using hn)
  refine ⟨o', ?_, g2⟩
  rw [layClean_eq]
  have g1' : hs.toList.foldl (stepF m) (some (Array.replicate (m + 1) none, 0)) = some (o', ([] ++ hs.toList).length) := g1
  rw [g1']
  rfl
theorem anew (t : SetTable) {hs : Array Int} {wanted M : Nat} (hw : SetTable.sizeAbove wanted - 1 = M) (hM : MaskG M) (hn : hs.size ≤ M) :
    ∃ t' order, t.relaid hs wanted = some (t', order) ∧ order.toList.Perm (List.range hs.size) ∧ TabF t' (order.toList.map fun i => hs.getD i 0) ∧ t'.mask = M ∧ t'.led = t.led := by
  obtain ⟨owner, e, W⟩ := lay_all hM.full hn
  have hr : t.relaid hs wanted = some (tabOf t M owner, ((liveOf M owner).map (·.2)).toArray) := by
    rw [relaid_eq, hw, e]
    rfl
  have ris := ris_live (fun j => owner.getD j none) (List.range (M + 1)) (by
    unfold Ris
    first | exact List.pairwise_lt_range | exact List.pairwise_lt_range _)
  have r1 : Ris ((liveOf M owner).map (·.1)) := ris.1
  have nd : ((liveOf M owner).map (·.1)).Nodup := List.Pairwise.imp (fun h => Nat.ne_of_lt h) r1
  have S := W.sits
  rw [Array.length_toList] at S
  have hlen : (liveOf M owner).length = hs.size := by
    obtain ⟨ps, p1, p2⟩ := S.ps
    have a := nat_nodup_len ((liveOf M owner).map (·.1)) ps nd fun x hx => by
      obtain ⟨⟨y, k⟩, hq, rfl⟩ := List.mem_map.mp hx
      obtain ⟨b1, b2⟩ := (mem_live S.sz).1 hq
      exact p2 y b1 (by rw [b2]; exact fun z => nomatch z)
    have b := nat_nodup_len (List.range hs.size) ((liveOf M owner).map (·.2)) List.nodup_range fun k hk => by
      obtain ⟨j, b1, b2⟩ := S.all k (List.mem_range.mp hk)
      exact List.mem_map.mpr ⟨(j, k), (mem_live S.sz).2 ⟨b1, b2⟩, rfl⟩
    rw [List.length_map, p1] at a
    rw [List.length_map, List.length_range] at b
    omega
  refine ⟨_, _, hr, ?_, ⟨r1, rfl, ?_, hM, fun x hx => ?_, fun i h j h1 h2 => ?_⟩, rfl, rfl⟩
  · refine perm_range hs.size _ (by show ((liveOf M owner).map (·.2)).length = _; rw [List.length_map]; exact hlen) fun k hk => ?_
    obtain ⟨j, b1, b2⟩ := S.all k hk
    exact List.mem_map.mpr ⟨(j, k), (mem_live S.sz).2 ⟨b1, b2⟩, rfl⟩
  · show ((liveOf M owner).map (·.1)).toArray.size = (((liveOf M owner).map (·.2)).map fun i => hs.getD i 0).length
    rw [List.size_toArray, List.length_map, List.length_map, List.length_map]
  · exact Nat.le_of_lt_succ (List.mem_range.mp (ris.2 x hx))
  · have h1' : (((liveOf M owner).map (·.2)).map fun i => hs.getD i 0)[i]? = some h := h1
    have h2' : ((liveOf M owner).map (·.1))[i]? = some j := h2
    rw [List.getElem?_map, List.getElem?_map] at h1'
    rw [List.getElem?_map] at h2'
    cases hq : (liveOf M owner)[i]? with
    | none => rw [hq] at h2'; cases h2'
    | some q =>
      obtain ⟨y, k⟩ := q
      rw [hq] at h1' h2'
      obtain rfl : y = j := Option.some.inj h2'
      have eh : hs.getD k 0 = h := Option.some.inj h1'
      obtain ⟨b1, b2⟩ := (mem_live S.sz).1 (List.mem_of_getElem? hq)
      obtain ⟨h0, K, a1, a2, a3⟩ := W.at_ y k b1 b2
      have e0 : hs.getD k 0 = h0 := by
        rw [Array.getD_eq_getD_getElem?, ← Array.getElem?_toList, a1]
        rfl
      rw [e0] at eh
      subst eh
      refine ⟨K, a2, fun k' hk' => ?_⟩
      show way M h0 k' ∈ (liveOf M owner).map (·.1)
      cases z : oAt owner (way M h0 k') with
      | none => exact absurd z (a3 k' hk')
      | some k2 => exact List.mem_map.mpr ⟨(way M h0 k', k2), (mem_live S.sz).2 ⟨way_in _ _ _, z⟩, rfl⟩
end KT

set_option linter.all false
set_option Elab.async false
set_option maxRecDepth 100000
set_option maxHeartbeats 4000000
namespace KT
open PySem PySem.Spec PyProof.Rows L2
abbrev Row := Addr × List Key
abbrev IsX (P : Program) (w : World) (h : Heap) (p : Row) : Prop := IsTupleKey (mixKind P w) h p.2 p.1
abbrev xh (P : Program) (w : World) (p : Row) : Int := tupleKeyHash (mixKind P w) p.2
abbrev ent (P : Program) (w : World) (p : Row) : Int × Value := (xh P w p, .ref p.1)
section
variable {P : Program} {w : World} {A : Around} {E : Value → Shared → Prop} {s : Shared}
def Plain1 (v : Value) : Prop := (∃ x t, v = Value.str x t) ∨ ∃ i t, v = Value.int i t
theorem texts {k : List Key} {vs : List Value} (h : ItemsAre (mixKind P w) k vs) : ∀ v ∈ vs, Plain1 v := by
  induction h with
  | nil => intro v hv; cases hv
  | @cons x v ks vs h1 _ ih =>
    intro u hu
    cases hu with
    | head =>
      rcases keyIs_shape h1 with ⟨i, t, _, e⟩ | ⟨y, t, _, e⟩
      · exact .inr ⟨i, t, e⟩
      · exact .inl ⟨y, t, e⟩
    | tail _ hu => exact ih u hu
theorem cls_txt (n : Nat) {v : Value} (h : Plain1 v) : ofAClassStatement n v = pure false := by
  rcases h with ⟨x, t, rfl⟩ | ⟨x, t, rfl⟩ <;> cases n <;> rfl
theorem val_txt (n : Nat) {v : Value} (h : Plain1 v) : hashByValue n v = pure false ∨ hashByValue n v = pure true := by
  rcases h with ⟨x, t, rfl⟩ | ⟨x, t, rfl⟩
  · left; cases n <;> rfl
  · right; cases n <;> rfl
theorem cls_tup {p : Row} {Q : Bool → Shared → Prop} (hp : IsX P w s.heap p) (h : Q false s) : wpAny (model P w) A (ofAClassStatement 8 (.ref p.1)) Q E s := by
  have hT := hp.typeIs
  obtain ⟨o, items, n, ho, _, hd, hi⟩ := hp
  have hall := texts hi
  unfold ofAClassStatement
  refine wpAny_bind (wpAny_typeOf hT ?_)
  dsimp only
  simp only [show (("tuple" : String) == "tuple") = true by decide, if_true, Bool.not_true, Bool.false_eq_true, if_false]
  try refine wpAny_bind (wpAny_pure ?_)
  try simp only [Bool.not_true, Bool.false_eq_true, if_false]
  show wpAny _ _ (seqItems? (.ref p.1) >>= _) _ _ s
  refine wpAny_bind (wpAny_seqItems ho hd ?_)
  dsimp only
  refine wpAny_bind ?_
  show wpAny _ _ (forIn items _ _) _ _ s
  rw [← Array.forIn_toList]
  refine wpAny_forIn_list _ (fun rest r s' => (r.1 = none ∧ s' = s) ∧ ∀ v ∈ rest, Plain1 v) _ ?_ ?_ _ _ ⟨⟨rfl, rfl⟩, hall⟩
  · rintro v rest r s' ⟨⟨hr, rfl⟩, ha⟩
    rw [cls_txt _ (ha v List.mem_cons_self)]
    refine wpAny_bind (wpAny_pure ?_)
    simp only [Bool.false_eq_true, if_false]
    exact wpAny_pure ⟨⟨rfl, rfl⟩, fun u hu => ha u (List.mem_cons_of_mem _ hu)⟩
  · rintro ⟨r1, r2⟩ s' ⟨⟨hr, rfl⟩, _⟩
    simp only at hr
    subst hr
    exact wpAny_pure h
theorem val_tup {p : Row} {Q : Bool → Shared → Prop} (hp : IsX P w s.heap p) (h : ∀ b, Q b s) : wpAny (model P w) A (hashByValue 8 (.ref p.1)) Q E s := by
  have hT := hp.typeIs
  obtain ⟨o, items, n, ho, _, hd, hi⟩ := hp
  have hall := texts hi
  unfold hashByValue
  refine wpAny_bind (wpAny_specialOf hT F.slot_tuple_hash.lookup ?_)
  show wpAny _ _ (seqItems? (.ref p.1) >>= _) _ _ s
  refine wpAny_bind (wpAny_seqItems ho hd ?_)
  refine wpAny_bind ?_
  show wpAny _ _ (forIn items _ _) _ _ s
  rw [← Array.forIn_toList]
  refine wpAny_forIn_list _ (fun rest r s' => s' = s ∧ (∀ v ∈ rest, Plain1 v)) _ ?_ ?_ _ _ ⟨rfl, hall⟩
  · rintro v rest r s' ⟨rfl, ha⟩
    rcases val_txt 7 (ha v List.mem_cons_self) with e | e
    · rw [e]
      refine wpAny_bind (wpAny_pure ?_)
      simp only [Bool.not_false, if_true]
      refine wpAny_pure ?_
      exact wpAny_pure (h _)
    · rw [e]
      refine wpAny_bind (wpAny_pure ?_)
      simp only [Bool.not_true, Bool.false_eq_true, if_false]
      exact wpAny_pure ⟨rfl, fun u hu => ha u (List.mem_cons_of_mem _ hu)⟩
  · rintro ⟨r1, r2⟩ s' ⟨rfl, _⟩
    cases r1 with
    | none => exact wpAny_pure (h _)
    | some b => exact wpAny_pure (h _)
theorem unseen {p : Row} {Q : Bool → Shared → Prop} (hp : IsX P w s.heap p) {ys : List Value} (hy : ∀ y ∈ ys, ∃ q : Row, y = Value.ref q.1 ∧ IsX P w s.heap q) (h : Q false s) :
    wpAny (model P w) A (searchCouldBeSeen (.ref p.1) ys) Q E s := by
  unfold searchCouldBeSeen
  refine wpAny_bind (wpAny_forIn_list _ (fun rest r s' => (r.1 = none ∧ s' = s) ∧ ∀ y ∈ rest, ∃ q : Row, y = Value.ref q.1 ∧ IsX P w s.heap q) _ ?_ ?_ _ _ ⟨⟨rfl, rfl⟩, hy⟩)
  · rintro v rest r s' ⟨⟨hr, rfl⟩, ha⟩
    obtain ⟨q, rfl, hq⟩ := ha v List.mem_cons_self
    have on : ∀ y ∈ rest, ∃ q : Row, y = Value.ref q.1 ∧ IsX P w s'.heap q := fun u hu => ha u (List.mem_cons_of_mem _ hu)
    dsimp only
    by_cases hv : (p.1 == q.1 || (carriedByValue (.ref p.1) && carriedByValue (.ref q.1))) = true
    · exact wp_if_pos hv (wpAny_pure ⟨⟨rfl, rfl⟩, on⟩)
    · refine wp_if_neg hv (wpAny_bind (wpAny_eqIsQuiet_tuple hp ?_))
      simp only [Bool.not_true, Bool.false_eq_true, if_false]
      refine wpAny_bind (wpAny_eqIsQuiet_tuple hq ?_)
      simp only [Bool.not_true, Bool.false_eq_true, if_false]
      refine wpAny_bind (cls_tup hp ?_)
      simp only [Bool.false_eq_true, if_false]
      refine wpAny_bind (cls_tup hq ?_)
      simp only [Bool.false_eq_true, if_false]
      exact wpAny_pure ⟨⟨rfl, rfl⟩, on⟩
  · rintro ⟨r1, r2⟩ s' ⟨⟨hr, rfl⟩, _⟩
    simp only at hr
    subst hr
    exact wpAny_pure h
/-- a set of tuples of texts -/
structure Tab (P : Program) (w : World) (h : Heap) (a : Addr) (L : List Row) (es : Array (Int × Value)) (ep : Nat) (t : SetTable) : Prop where
  here : ∃ o, h.get? a = some o ∧ o.ExactSet ∧ o.data = .set es ep t
  rows : es.toList = L.map (ent P w)
  tab : TabF t (L.map (xh P w))
  keys : ∀ p ∈ L, IsX P w h p
  led : w.params.followText "set-order" = true ∨ t.led = true
  room : L.length * 5 < t.mask * 3
  nd : (L.map (·.2)).Nodup
variable {a : Addr} {L : List Row} {es : Array (Int × Value)} {ep : Nat} {t : SetTable}
theorem len_rows (h : es.toList = L.map (ent P w)) : es.size = L.length := by
  have e := congrArg List.length h
  rw [Array.length_toList, List.length_map] at e
  exact e
theorem Tab.size {h : Heap} (R : Tab P w h a L es ep t) : es.size = L.length := len_rows R.rows
theorem Tab.place {h : Heap} (R : Tab P w h a L es ep t) : t.place.size = L.length := by
  have e := R.tab.sz
  rw [List.length_map] at e
  exact e
theorem Tab.fits {h : Heap} (R : Tab P w h a L es ep t) : t.fits es.size = true := by
  have h1 := R.place
  have h2 := R.size
  have h3 := R.room
  unfold SetTable.fits SetTable.fill
  rw [R.tab.dm, Bool.and_eq_true, beq_iff_eq, decide_eq_true_eq, show (#[] : Array Nat).size = 0 from rfl]
  omega
theorem Tab.whole {h : Heap} (R : Tab P w h a L es ep t) : ¬ t.gaveWay = true := by
  unfold SetTable.gaveWay
  rw [odd R.tab.mok]
  decide
theorem Tab.at_ {h : Heap} (R : Tab P w h a L es ep t) {i : Nat} {p : Row} (e : L[i]? = some p) : es[i]? = some (ent P w p) := by
  rw [← Array.getElem?_toList, R.rows, List.getElem?_map, e]
  rfl
theorem nodummy (m : Nat) : ∀ (n : Nat) (p : SetTable.Probe), p.dummy = none → (nth m p n).dummy = none
  | 0, _, h => h
  | n + 1, p, h => nodummy m n (adv m p) (by unfold adv; split <;> exact h)
theorem ris_inj {l : List Nat} (r : Ris l) {i j x : Nat} (hi : l[i]? = some x) (hj : l[j]? = some x) : i = j := by
  obtain ⟨h1, e1⟩ := List.getElem?_eq_some_iff.mp hi
  obtain ⟨h2, e2⟩ := List.getElem?_eq_some_iff.mp hj
  rcases Nat.lt_trichotomy i j with c | c | c
  · have z := (List.pairwise_iff_getElem.mp r) i j h1 h2 c
    omega
  · exact c
  · have z := (List.pairwise_iff_getElem.mp r) j i h2 h1 c
    omega
/-- the search: it tells that the key is there, or the first free place -/
theorem seek (R : Tab P w s.heap a L es ep t) {p : Row} (hp : IsX P w s.heap p) (hu : A.units < cLine) {H : Int} {S : SetTable.Probe} (eS : runAt t.mask (SetTable.bits H % (t.mask + 1)) (SetTable.bits H) = S) {K : Nat} (hKf : K < 10 * SetTable.turns t.mask)
    (hK : way t.mask H K ∉ t.place.toList) (hKb : ∀ c, c < K → way t.mask H c ∈ t.place.toList) {Q : SetFound → Shared → Prop}
    (hH : H = xh P w p) (hin : (∃ q ∈ L, q.2 = p.2) → Q (.there none) s) (hout : (∀ q ∈ L, q.2 ≠ p.2) → Q (.free (way t.mask H K) false) s) :
    ∀ (f c : Nat) (stand : Option SetTable.Probe), stand.getD (t.probeStart H) = nth t.mask S c → c ≤ K → K - c < f → (∀ (c' i : Nat) (q : Row), c' < c → t.place.toList[i]? = some (way t.mask H c') → L[i]? = some q → q.2 ≠ p.2) → wpAny (model P w) A (setSearchFrom a (.ref p.1) H true f stand) Q E s
  | 0, _, _, _, _, hf, _ => absurd hf (Nat.not_lt_zero _)
  | f + 1, c, stand, hst, hc, hf, hmet => by
    obtain ⟨o, ho, hex, hd⟩ := R.here
    rw [setSearchFrom_succ]
    refine wpAny_bind (wpAny_setState_of ho hd R.fits ?_)
    dsimp only
    refine wp_if_neg R.whole ?_
    try refine wpAny_bind (wpAny_pure ?_)
    have sh : ∀ q, nth t.mask (nth t.mask S c) q = nth t.mask S (c + q) := fun q => (nth_add t.mask c _ q).symm
    have wj : ∀ q, (nth t.mask (nth t.mask S c) q).j = way t.mask H (c + q) := fun q => by rw [sh q, ← eS]
    have spec := go_spec t R.tab.ris R.tab.dm (fun i => (es[i]?.map (·.1)).getD 0) H (10 * SetTable.turns t.mask) (K - c) (nth t.mask S c) (nodummy _ c S (by rw [← eS]; rfl)) (by omega)
      (fun q hq => by rw [wj]; exact hKb (c + q) (by omega)) (by rw [wj, show c + (K - c) = K by omega]; exact hK)
    have pr : t.probe (fun i => (es[i]?.map (·.1)).getD 0) H (stand.getD (t.probeStart H)) = SetTable.probe.go t (fun i => (es[i]?.map (·.1)).getD 0) H (10 * SetTable.turns t.mask) (nth t.mask S c) := by rw [hst]; rfl
    rw [pr]
    have eh : ∀ (i : Nat) (q : Row), L[i]? = some q → (es[i]?.map (·.1)).getD 0 = xh P w q := fun i q e => by rw [R.at_ e]; rfl
    have hof : ∀ (i : Nat) (q : Row), L[i]? = some q → q.2 = p.2 → (es[i]?.map (·.1)).getD 0 = H := fun i q e e2 => by rw [eh i q e, hH]; show tupleKeyHash _ q.2 = tupleKeyHash _ p.2; rw [e2]
    rcases spec with ⟨q, i, hq, hi, hh, hlow, hpr⟩ | ⟨hlow, hpr⟩
    · rw [hpr]
      dsimp only
      rw [wj] at hi ⊢
      rw [sh]
      have hil : i < L.length := by
        have h1 : i < t.place.toList.length := (List.getElem?_eq_some_iff.mp hi).1
        rw [Array.length_toList, R.place] at h1
        exact h1
      have he : L[i]? = some L[i] := List.getElem?_eq_getElem hil
      have hm : L[i] ∈ L := List.getElem_mem hil
      generalize L[i] = r at he hm
      have rest : wpAny (model P w) A (searchRest a (.ref p.1) H true f es t (way t.mask H (c + q)) i (nth t.mask S (c + (q + 1)))) Q E s := by
        unfold searchRest
        rw [R.at_ he]
        dsimp only
        refine wpAny_bind (wpAny_holding (wpAny_eqBool_tuple hu (R.keys r hm) hp ?_))
        refine wpAny_bind (wpAny_setState_of ho hd R.fits ?_)
        dsimp only
        by_cases hkk : r.2 = p.2
        · exact wp_if_pos (by simp [hkk]) (wpAny_pure (hin ⟨r, hm, hkk⟩))
        · refine wp_if_neg (by simp [hkk]) ?_
          try refine wpAny_bind (wpAny_pure ?_)
          rw [sameMem]
          dsimp only
          have hsl : t.slot (way t.mask H (c + q)) = .live i := slot_live R.tab.ris hi
          simp only [if_true, hsl, R.at_ he]
          refine wpAny_bind (wpAny_isSame_ref_self (wpAny_bind (wpAny_pure ?_)))
          simp only [if_true]
          refine wp_if_neg (by simp [hkk]) ?_
          refine seek R hp hu eS hKf hK hKb hH hin hout f (c + (q + 1)) (some (nth t.mask S (c + (q + 1)))) rfl (by omega) (by omega) fun c' i' q' hc' hi' hq' e' => ?_
          by_cases h1 : c' < c
          · exact hmet c' i' q' h1 hi' hq' e'
          · by_cases h2 : c' = c + q
            · rw [h2] at hi'
              have ei : i' = i := ris_inj R.tab.ris hi' hi
              rw [ei, he] at hq'
              cases hq'
              exact hkk e'
            · exact hlow (c' - c) i' (by omega) (by rw [wj, show c + (c' - c) = c' by omega]; exact hi') (hof i' q' hq' e')
      by_cases hl : t.led = true
      · refine wp_if_neg (by simp [hl]) ?_
        try refine wpAny_bind (wpAny_pure ?_)
        exact rest
      · refine wp_if_pos (by simp [hl]) ?_
        refine wpAny_bind (unseen hp (fun y hy => ?_) ?_)
        · obtain ⟨e, he1, rfl⟩ := List.mem_map.mp hy
          have he2 : e ∈ es.toList := by
            have z : e ∈ es ∧ e.1 = H := by simpa using he1
            simpa using z.1
          rw [R.rows] at he2
          obtain ⟨r2, hr2, rfl⟩ := List.mem_map.mp he2
          exact ⟨r2, rfl, R.keys r2 hr2⟩
        · refine wp_if_neg (by decide) ?_
          try refine wpAny_bind (wpAny_pure ?_)
          exact rest
    · rw [hpr]
      dsimp only
      rw [wj, show c + (K - c) = K by omega]
      refine wpAny_pure (hout fun q hq e => ?_)
      obtain ⟨i, hi⟩ := List.getElem?_of_mem hq
      have hil : i < t.place.toList.length := by
        rw [Array.length_toList, R.place]
        exact (List.getElem?_eq_some_iff.mp hi).1
      obtain ⟨k', hk', ew⟩ := R.tab.ahead (h := H) (by exact hK) (by rw [List.getElem?_map, hi, hH]; show some (tupleKeyHash _ q.2) = some (tupleKeyHash _ p.2); rw [e]) (List.getElem?_eq_getElem hil)
      by_cases h1 : k' < c
      · exact hmet k' i q h1 (by rw [ew]; exact List.getElem?_eq_getElem hil) hi e
      · exact hlow (k' - c) i (by omega) (by rw [wj, show c + (k' - c) = k' by omega, ew]; exact List.getElem?_eq_getElem hil) (hof i q hi e)
/-- the search of an adding -/
theorem seek_all (R : Tab P w s.heap a L es ep t) {p : Row} (hp : IsX P w s.heap p) (hu : A.units < cLine) {Q : SetFound → Shared → Prop} (hin : (∃ q ∈ L, q.2 = p.2) → Q (.there none) s)
    (hout : (∀ q ∈ L, q.2 ≠ p.2) → ∀ K, way t.mask (xh P w p) K ∉ t.place.toList → (∀ c, c < K → way t.mask (xh P w p) c ∈ t.place.toList) → Q (.free (way t.mask (xh P w p) K) false) s) :
    wpAny (model P w) A (setSearch a (.ref p.1) (xh P w p) true) Q E s := by
  have hroom := R.room
  obtain ⟨K, hKf, hK, hKb⟩ := R.tab.first (by rw [List.length_map]; omega) (xh P w p)
  have hbig : 10 * SetTable.turns t.mask < 100000 := by
    unfold SetTable.turns
    rcases R.tab.mok with e | e | e | e <;> omega
  exact seek R hp hu rfl hKf hK hKb rfl hin (fun n => hout n K hK hKb) 100000 0 none rfl (Nat.zero_le _) (by omega) fun c' i q h => absurd h (Nat.not_lt_zero _)
theorem key_same {h h' : Heap} {p : Row} {o : Obj} (hp : IsX P w h p) (ho : h.get? a = some o) (hd : o.data = .set es ep t) (hs : Heap.SameBut a h h') : IsX P w h' p := by
  obtain ⟨o', items, n, ho', hc, hd', hi⟩ := hp
  have hne : p.1 ≠ a := fun e => by
    rw [e, ho] at ho'
    rw [← Option.some.inj ho', hd] at hd'
    exact nomatch hd'
  exact ⟨o', items, n, (hs.2 _ hne).trans ho', hc, hd', hi⟩
theorem key_keep {h h' : Heap} {p : Row} (x : IsX P w h p) (hk : ∀ c o, h.get? c = some o → h'.get? c = some o) : IsX P w h' p := by
  obtain ⟨o, items, n, ho, r⟩ := x
  exact ⟨o, items, n, hk _ o ho, r⟩
theorem range_fm {α : Type} : ∀ L : List α, (List.range L.length).filterMap (fun i => L[i]?) = L
  | [] => rfl
  | a :: r => by
    have e := range_fm r
    have z : ((List.range r.length).map Nat.succ).filterMap (fun i => (a :: r)[i]?) = r := by
      rw [List.filterMap_map]
      exact e
    rw [List.length_cons, List.range_succ_eq_map]
    show a :: ((List.range r.length).map Nat.succ).filterMap (fun i => (a :: r)[i]?) = a :: r
    rw [z]
/-- rows in a new order -/
theorem turn_rows {L : List Row} {es : Array (Int × Value)} {order : Array Nat} (hr : es.toList = L.map (ent P w)) (hp : order.toList.Perm (List.range L.length)) :
    ∃ L2 : List Row, (order.filterMap (es[·]?)).toList = L2.map (ent P w) ∧ L2.Perm L ∧ L2.length = L.length ∧ L2.map (xh P w) = order.toList.map fun i => (es.map (·.1)).getD i 0 := by
  have at_ : ∀ i, es[i]? = (L[i]?).map (ent P w) := fun i => by rw [← Array.getElem?_toList, hr, List.getElem?_map]
  have lt : ∀ i ∈ order.toList, i < L.length := fun i hi => List.mem_range.mp (hp.mem_iff.mp hi)
  refine ⟨order.toList.filterMap fun i => L[i]?, ?_, ?_, ?_, ?_⟩
  · rw [Array.toList_filterMap, List.map_filterMap]
    congr 1
    funext i
    exact at_ i
  · have z := hp.filterMap fun i => L[i]?
    rw [range_fm] at z
    exact z
  · have z : ∀ l : List Nat, (∀ i ∈ l, i < L.length) → (l.filterMap fun i => L[i]?).length = l.length := by
      intro l
      induction l with
      | nil => intro _; rfl
      | cons i l ih =>
        intro h
        rw [List.filterMap_cons_some (List.getElem?_eq_getElem (h i List.mem_cons_self)), List.length_cons, ih fun j hj => h j (List.mem_cons_of_mem _ hj), List.length_cons]
    rw [z _ lt, hp.length_eq, List.length_range]
  · have z : ∀ l : List Nat, (∀ i ∈ l, i < L.length) → (l.filterMap fun i => L[i]?).map (xh P w) = l.map fun i => (es.map (·.1)).getD i 0 := by
      intro l
      induction l with
      | nil => intro _; rfl
      | cons i l ih =>
        intro h
        have hi := h i List.mem_cons_self
        rw [List.filterMap_cons_some (List.getElem?_eq_getElem hi), List.map_cons, List.map_cons, ih fun j hj => h j (List.mem_cons_of_mem _ hj)]
        congr 1
        rw [Array.getD_eq_getD_getElem?, Array.getElem?_map, at_ i, List.getElem?_eq_getElem hi]
        rfl
    exact z _ lt
/-- the table laid anew -/
theorem relay {o : Obj} (ho : s.heap.get? a = some o) (hex : o.ExactSet) (hd : o.data = .set es ep t) (hrows : es.toList = L.map (ent P w)) (hsz : t.place.size = es.size) (hdm : t.dummies = #[]) (hfl : es.size ≤ t.mask)
    (keys : ∀ p ∈ L, IsX P w s.heap p) (ld : w.params.followText "set-order" = true ∨ t.led = true) {wanted M : Nat} (hw : SetTable.sizeAbove wanted - 1 = M) (hM : MaskG M) (hw2 : SetTable.sizeAbove wanted ≤ 512) (hnd : (L.map (·.2)).Nodup) (hn : L.length * 5 < M * 3)
    {Q : Unit → Shared → Prop} (hQ : ∀ h' L' es' ep' t', Heap.SameBut a s.heap h' → Tab P w h' a L' es' ep' t' → L'.Perm L → L'.length = L.length → Q () { s with heap := h' }) : wpAny (model P w) A (setRelay a wanted) Q E s := by
  have hsl := len_rows hrows
  have hfits : t.fits es.size = true := by
    unfold SetTable.fits SetTable.fill
    rw [hdm, Bool.and_eq_true, beq_iff_eq, decide_eq_true_eq, show (#[] : Array Nat).size = 0 from rfl]
    omega
  obtain ⟨t', order, e, hp, T, em, el⟩ := anew t (hs := es.map (·.1)) (wanted := wanted) hw hM (by rw [Array.size_map, hsl]; omega)
  rw [Array.size_map, hsl] at hp
  obtain ⟨L2, r1, r2, r3, r4⟩ := turn_rows hrows hp
  rw [← r4] at T
  have hs2 : (order.filterMap (es[·]?)).size = es.size := by rw [len_rows r1, r3, hsl]
  rw [setRelay_eq]
  refine wpAny_bind (wpAny_setState_of ho hd hfits ?_)
  dsimp only
  refine wp_if_neg (by rw [sizeLine_eq]; omega) ?_
  try refine wpAny_bind (wpAny_pure ?_)
  rw [e]
  dsimp only
  refine wpAny_bind ?_
  refine wp_if_neg (by rw [hs2]; simp) ?_
  try refine wpAny_bind (wpAny_pure ?_)
  refine wpAny_pure ?_
  dsimp only
  have hMle : M ≤ 511 := by rcases hM with e | e | e | e <;> omega
  refine wpAny_storeSet_of ho hd ?_ (by rw [hs2, hsl, sizeLine_eq]; omega)
  have sb : Heap.SameBut a s.heap (s.heap.update a (Obj.putSet (order.filterMap (es[·]?)) t')) := Heap.SameBut.update ..
  refine hQ _ L2 _ (ep + 1) t' sb ⟨⟨_, store_at ho hd, ⟨hex.1, hex.2.1, hex.2.2⟩, rfl⟩, r1, T, fun p hpm => key_same (keys p (r2.mem_iff.mp hpm)) ho hd sb, by rw [el]; exact ld, by rw [r3, em]; exact hn, (r2.map (·.2)).nodup_iff.mpr hnd⟩ r2 r3
theorem size_308 : SetTable.sizeAbove (SetTable.grown 77) = 512 := by decide +kernel
/-- adding -/
theorem add (R : Tab P w s.heap a L es ep t) {p : Row} (hp : IsX P w s.heap p) (hu : A.units < cLine) (hfew : L.length + 1 < 300) {Q : Bool → Shared → Prop}
    (hQ : ∀ b h' L' es' ep' t', Heap.SameBut a s.heap h' → Tab P w h' a L' es' ep' t' → ((L' = L ∧ ∃ q ∈ L, q.2 = p.2) ∨ (L'.Perm (p :: L) ∧ ∀ q ∈ L, q.2 ≠ p.2)) → Q b { s with heap := h' }) :
    wpAny (model P w) A (setAddHashed a (.ref p.1) (xh P w p)) Q E s := by
  obtain ⟨o, ho, hex, hd⟩ := R.here
  have hsl := R.size
  have hroom := R.room
  unfold setAddHashed
  refine wpAny_holding ?_
  rw [show (100000 : Nat) = 99999 + 1 from rfl, setAddHashedIn_succ]
  refine wpAny_bind (wpAny_setState_of ho hd R.fits ?_)
  dsimp only
  refine wp_if_neg (by simp [byScan, Value.scannable]) ?_
  try refine wpAny_bind (wpAny_pure ?_)
  refine wpAny_bind (seek_all R hp hu (fun hm => ?_) fun hno K hK hb => ?_)
  · exact wpAny_pure (hQ false s.heap L es ep t (Heap.SameBut.refl a s.heap) R (.inl ⟨rfl, hm⟩))
  · dsimp only
    refine wpAny_bind (wpAny_setState_of ho hd R.fits ?_)
    dsimp only
    obtain ⟨q1, q2, q3, q4, q5, q9⟩ := R.tab.lay1 rfl rfl hK hb
    generalize t.put (way t.mask (xh P w p) K) = pt at q1 q3 q4 q5 q9 ⊢
    obtain ⟨t1, at1⟩ := pt
    dsimp only at q1 q3 q4 q5 q9 ⊢
    subst q1
    have hin : (SetTable.insertAt es (SetTable.below t.place (way t.mask (xh P w p) K)) (xh P w p, Value.ref p.1)).toList = (L.take (SetTable.below t.place (way t.mask (xh P w p) K)) ++ p :: L.drop (SetTable.below t.place (way t.mask (xh P w p) K))).map (ent P w) := by
      rw [SetTable.toList_insertAt, R.rows, List.map_append, List.map_cons, List.map_take, List.map_drop]
    generalize SetTable.below t.place (way t.mask (xh P w p) K) = at1 at q2 q3 hin ⊢
    have pm : (L.take at1 ++ p :: L.drop at1).Perm (p :: L) := L2.put_perm L at1 p
    have hlen := pm.length_eq
    rw [List.length_cons] at hlen
    have hhs : (L.take at1 ++ p :: L.drop at1).map (xh P w) = (L.map (xh P w)).take at1 ++ xh P w p :: (L.map (xh P w)).drop at1 := by
      rw [List.map_append, List.map_cons, List.map_take, List.map_drop]
    rw [← hhs] at q3
    have hes := len_rows hin
    rw [hlen] at hes
    generalize SetTable.insertAt es at1 (xh P w p, Value.ref p.1) = es1 at hin hes ⊢
    generalize L.take at1 ++ p :: L.drop at1 = L1 at pm hlen q3 hin
    have sub1 : ∀ q ∈ L1, q = p ∨ q ∈ L := fun q hq => List.mem_cons.mp (pm.mem_iff.mp hq)
    have sub2 : ∀ q ∈ L, q ∈ L1 := fun q hq => pm.mem_iff.mpr (List.mem_cons_of_mem _ hq)
    have sub3 : p ∈ L1 := pm.mem_iff.mpr List.mem_cons_self
    have hnd1 : (L1.map (·.2)).Nodup := (pm.map (·.2)).nodup_iff.mpr (List.nodup_cons.mpr ⟨fun z => by
      obtain ⟨q, hq, e⟩ := List.mem_map.mp z
      exact hno q hq e, R.nd⟩)
    -- whatever the word on the order
    have go : ∀ b : Bool, wpAny (model P w) A (do
        storeSet a es1 (if b then t1 else { t1 with plain := false })
        if !false && (if b then t1 else { t1 with plain := false } : SetTable).tooFull then setRelay a (SetTable.grown (es.size + 1))
        return true) Q E s := by
      intro b
      generalize ht2 : (if b then t1 else { t1 with plain := false } : SetTable) = t2
      have e1 : t2.place = t1.place ∧ t2.mask = t1.mask ∧ t2.dummies = t1.dummies ∧ t2.led = t1.led := by
        rw [← ht2]
        cases b <;> exact ⟨rfl, rfl, rfl, rfl⟩
      obtain ⟨ep1, em1, ed1, el1⟩ := e1
      have T2 : TabF t2 (L1.map (xh P w)) := by
        refine ⟨by rw [ep1]; exact q3.ris, by rw [ed1]; exact q3.dm, by rw [ep1]; exact q3.sz, by rw [em1]; exact q3.mok, by rw [ep1, em1]; exact q3.bd, fun i h j h1 h2 => ?_⟩
        rw [ep1] at h2
        rw [ep1, em1]
        exact q3.reach i h j h1 h2
      have fill : t2.fill = L.length + 1 := by
        have z : t2.fill = t1.fill := by unfold SetTable.fill; rw [ep1, ed1]
        rw [z, q9, List.length_map]
      refine wpAny_bind (wpAny_storeSet_of ho hd ?_ (by rw [hes, sizeLine_eq]; omega))
      have sb : Heap.SameBut a s.heap (s.heap.update a (Obj.putSet es1 t2)) := Heap.SameBut.update ..
      have ho1 := store_at (es' := es1) (t' := t2) ho hd
      generalize s.heap.update a (Obj.putSet es1 t2) = h1 at sb ho1 ⊢
      have keys1 : ∀ q ∈ L1, IsX P w h1 q := fun q hq => by
        rcases sub1 q hq with e | e
        · rw [e]; exact key_same hp ho hd sb
        · exact key_same (R.keys q e) ho hd sb
      have ld1 : w.params.followText "set-order" = true ∨ t2.led = true := by rw [el1, q5]; exact R.led
      by_cases hf : t2.tooFull = true
      · have hfull : (L.length + 1) * 5 ≥ t2.mask * 3 := by
          have z := hf
          unfold SetTable.tooFull at z
          rw [decide_eq_true_eq, fill] at z
          exact z
        have hsz1 : t2.place.size = es1.size := by
          have z := T2.sz
          rw [List.length_map, hlen] at z
          rw [z, hes]
        have two : (t.mask = 7 ∧ L.length = 4) ∨ (t.mask = 31 ∧ L.length = 18) ∨ (t.mask = 127 ∧ L.length = 76) := by
          rw [em1, q4] at hfull
          rcases R.tab.mok with e | e | e | e <;> rw [e] at hfull hroom
          · exact .inl ⟨e, by omega⟩
          · exact .inr (.inl ⟨e, by omega⟩)
          · exact .inr (.inr ⟨e, by omega⟩)
          · exfalso; omega
        have lay : ∀ M, SetTable.sizeAbove (SetTable.grown (L.length + 1)) - 1 = M → MaskG M → SetTable.sizeAbove (SetTable.grown (L.length + 1)) ≤ 512 → (L.length + 1) * 5 < M * 3 →
            wpAny (model P w) A (setRelay a (SetTable.grown (L.length + 1))) (fun _ s' => wpAny (model P w) A (pure true) Q E s') E { s with heap := h1 } := fun M h1' h2' h3' h4' => by
          refine relay (s := { s with heap := h1 }) ho1 ⟨hex.1, hex.2.1, hex.2.2⟩ rfl hin hsz1 T2.dm (by rw [hes, em1, q4]; rcases two with ⟨e, e2⟩ | ⟨e, e2⟩ | ⟨e, e2⟩ <;> omega) keys1 ld1 h1' h2' h3' hnd1 (by rw [hlen]; exact h4') ?_
          intro h2 L2 es2 ep2 t3 sb2 R2 m2 l2
          exact wpAny_pure (hQ true h2 L2 es2 ep2 t3 (sb.trans sb2) R2 (.inr ⟨m2.trans pm, hno⟩))
        rw [hsl]
        first
          | (refine wpAny_bind ?_; refine wp_if_pos (by simp [hf]) ?_)
          | (refine wp_if_pos (by simp [hf]) ?_; refine wpAny_bind ?_)
        rcases two with ⟨_, e2⟩ | ⟨_, e2⟩ | ⟨_, e2⟩
        · exact lay 31 (by rw [e2, size_20]) (.inr (.inl rfl)) (by rw [e2, size_20]; decide) (by omega)
        · exact lay 127 (by rw [e2, size_76]) (.inr (.inr (.inl rfl))) (by rw [e2, size_76]; decide) (by omega)
        · exact lay 511 (by rw [e2, size_308]) (.inr (.inr (.inr rfl))) (by rw [e2, size_308]; decide) (by omega)
      · first
          | refine wp_if_neg (by simp [hf]) ?_
          | (refine wpAny_bind ?_; refine wp_if_neg (by simp [hf]) ?_; refine wpAny_pure ?_)
        refine wpAny_pure (hQ true h1 L1 es1 (ep + 1) t2 sb ⟨⟨_, ho1, ⟨hex.1, hex.2.1, hex.2.2⟩, rfl⟩, hin, T2, keys1, ld1, ?_, hnd1⟩ (.inr ⟨pm, hno⟩))
        have z := hf
        unfold SetTable.tooFull at z
        rw [decide_eq_true_eq, fill] at z
        rw [hlen]
        omega
    by_cases hpl : t1.plain = true
    · first
        | (refine wpAny_bind ?_; refine wp_if_pos hpl ?_; refine val_tup hp fun b => ?_)
        | refine wp_if_pos hpl (wpAny_bind (val_tup hp fun b => ?_))
      exact go b
    · first
        | (refine wpAny_bind ?_; refine wp_if_neg hpl ?_; refine wpAny_pure ?_)
        | refine wp_if_neg hpl (wpAny_bind (wpAny_pure ?_))
        | refine wp_if_neg hpl ?_
      exact go true
/-- what the set has of the first i of a list's items -/
structure Has (ks : List Row) (i : Nat) (L : List Row) : Prop where
  sub : ∀ q ∈ L, q ∈ ks.take i
  all : ∀ q ∈ ks.take i, ∃ r ∈ L, r.2 = q.2
  few : L.length ≤ i
theorem Has.next {ks L L' : List Row} {i : Nat} {p : Row} (g : Has ks i L) (h : ks[i]? = some p) (c : (L' = L ∧ ∃ q ∈ L, q.2 = p.2) ∨ (L'.Perm (p :: L) ∧ ∀ q ∈ L, q.2 ≠ p.2)) : Has ks (i + 1) L' := by
  have e : ks.take (i + 1) = ks.take i ++ [p] := L2.take_next h
  have s1 : ∀ q ∈ L', q = p ∨ q ∈ L := fun q hq => by
    rcases c with ⟨e1, _⟩ | ⟨pm, _⟩
    · rw [e1] at hq; exact .inr hq
    · exact List.mem_cons.mp (pm.mem_iff.mp hq)
  have s2 : ∀ q ∈ L, q ∈ L' := fun q hq => by
    rcases c with ⟨e1, _⟩ | ⟨pm, _⟩
    · rw [e1]; exact hq
    · exact pm.mem_iff.mpr (List.mem_cons_of_mem _ hq)
  have s3 : ∃ q ∈ L', q.2 = p.2 := by
    rcases c with ⟨e1, q, hq, e2⟩ | ⟨pm, _⟩
    · rw [e1]; exact ⟨q, hq, e2⟩
    · exact ⟨p, pm.mem_iff.mpr List.mem_cons_self, rfl⟩
  have sl : L'.length ≤ L.length + 1 := by
    rcases c with ⟨e1, _⟩ | ⟨pm, _⟩
    · rw [e1]; omega
    · rw [pm.length_eq, List.length_cons]; exact Nat.le_refl _
  refine ⟨fun q hq => ?_, fun q hq => ?_, Nat.le_trans sl (Nat.succ_le_succ g.few)⟩
  · rw [e]
    rcases s1 q hq with z | z
    · rw [z]; exact List.mem_append_right _ (List.mem_singleton.mpr rfl)
    · exact List.mem_append_left _ (g.sub q z)
  · rw [e] at hq
    rcases List.mem_append.mp hq with z | z
    · obtain ⟨r, hr, er⟩ := g.all q z
      exact ⟨r, s2 r hr, er⟩
    · rw [List.mem_singleton.mp z]; exact s3
theorem Tab.keep {h h' : Heap} (R : Tab P w h a L es ep t) (ha : ∀ o, h.get? a = some o → h'.get? a = some o) (hk : ∀ p ∈ L, IsX P w h' p) : Tab P w h' a L es ep t := by
  obtain ⟨o, ho, r⟩ := R.here
  exact ⟨⟨o, ha o ho, r⟩, R.rows, R.tab, hk, R.led, R.room, R.nd⟩
abbrev noSet (w : World) : Obj := { cls := .type "set", dict := none, data := .set #[] 0 (.fresh 0 0 (!w.params.followText "set-order")) }
theorem tab_new {h : Heap} (ho : h.get? a = some (noSet w)) : Tab P w h a [] #[] 0 (.fresh 0 0 (!w.params.followText "set-order")) where
  here := ⟨_, ho, ⟨rfl, rfl, rfl⟩, rfl⟩
  rows := rfl
  tab := ⟨List.Pairwise.nil, rfl, rfl, .inl rfl, fun x hx => (by cases hx), fun i h j hi => (by simp at hi)⟩
  keys := fun p hp => (by cases hp)
  led := by
    show _ ∨ (!w.params.followText "set-order") = true
    cases w.params.followText "set-order"
    · exact .inr rfl
    · exact .inl rfl
  room := by
    show 0 * 5 < 7 * 3
    decide
  nd := List.nodup_nil
/-- a list's items, put in one by one -/
theorem into {I : Addr} {fp wr : List Addr} {G : Array GenState → Array GenState → Prop} {n : Nat} {Pv : Nat → Value → Prop} {St : Nat → Shared → Prop} {R : Result → Shared → Prop}
    (W : WalksS P w A.in1 I fp wr G n Pv St) (S : Addr) (hSf : S ∉ fp) (ks : List Row) (hn : n = ks.length) (hfew : ks.length < 300) (hval : ∀ i v, Pv i v → ∃ p, ks[i]? = some p ∧ v = .ref p.1)
    (h0 : Heap) (hk : ∀ p ∈ ks, IsX P w h0 p) (hS0 : h0.get? S = none) (hw0 : ∀ b ∈ wr, h0.get? b = none) (hu : A.in1.units < cLine) :
    ∀ (k i : Nat) (s : Shared), n - i = k → i ≤ n → St i s → (∀ b o, h0.get? b = some o → s.heap.get? b = some o) → (∃ L es ep t, Tab P w s.heap S L es ep t ∧ Has ks i L) →
      (∀ s' L es ep t, Moved (S :: wr) G s s' → Tab P w s'.heap S L es ep t → Has ks n L → (∀ b o, h0.get? b = some o → s'.heap.get? b = some o) → R (.ok (.ret .none)) s') →
      codeAny (model P w) A (.builtin "set.update.loop" ⟨[.ref S, .ref I], []⟩) R s := by
  have hSw : S ∉ wr := fun h => hSf (W.sub _ h)
  have hsub : ∀ b ∈ wr, b ∈ S :: wr := fun b hb => List.mem_cons_of_mem _ hb
  have olds : ∀ {s s' : Shared}, Moved wr G s s' → (∀ b o, h0.get? b = some o → s.heap.get? b = some o) → ∀ b o, h0.get? b = some o → s'.heap.get? b = some o := fun hm hkp b o e =>
    hm.heap b o (fun hb => by rw [hw0 b hb] at e; cases e) (hkp b o e)
  have kin : ∀ {L : List Row} {i : Nat}, Has ks i L → ∀ p ∈ L, p ∈ ks := fun g p hp => List.mem_of_mem_take (g.sub p hp)
  intro k
  induction k with
  | zero =>
    intro i s hk' hi hst hkp ⟨L, es, ep, t, hS, g⟩ hR
    obtain rfl : i = n := by omega
    refine codeAny_builtin F.entry_set_update_loop ?_
    rw [Around.under_plainId F.plain_set_update_loop _]
    show wpAny _ A.in1 (pyNext (.ref I) >>= _) _ _ s
    refine wpAny_bind (W.done s _ _ hst fun s' hm => ?_)
    show wpAny _ A.in1 (ret Value.none) _ _ s'
    have hkp' := olds hm hkp
    exact wpAny_pure (hR s' L es ep t (hm.mono hsub) (hS.keep (fun o e => hm.heap S o hSw e) fun p hp => key_keep (hk p (kin g p hp)) hkp') g hkp')
  | succ k ih =>
    intro i s hk' hi hst hkp ⟨L, es, ep, t, hS, g⟩ hR
    have hlt : i < n := by omega
    refine codeAny_builtin F.entry_set_update_loop ?_
    rw [Around.under_plainId F.plain_set_update_loop _]
    show wpAny _ A.in1 (pyNext (.ref I) >>= _) _ _ s
    refine wpAny_bind (W.item i s _ _ hlt hst fun v s' hP hst' hm => ?_)
    obtain ⟨p, hp, rfl⟩ := hval i v hP
    have hkp' := olds hm hkp
    have hS' : Tab P w s'.heap S L es ep t := hS.keep (fun o e => hm.heap S o hSw e) fun q hq => key_keep (hk q (kin g q hq)) hkp'
    have hx : IsX P w s'.heap p := key_keep (hk p (List.mem_of_getElem? hp)) hkp'
    show wpAny _ A.in1 (holding [Value.ref p.1] (setAdd S (.ref p.1)) >>= _) _ _ s'
    refine wpAny_bind (wpAny_holding ?_)
    unfold setAdd
    refine wpAny_holding (wpAny_bind (wpAny_pyHash_tuple hu hx ?_))
    refine add (s := { s' with toks := s'.toks + (p.2.length + 1) }) hS' hx hu (by have := g.few; omega) fun b h' L' es' ep' t' hsb hS2 c1 => ?_
    have hkp2 : ∀ b o, h0.get? b = some o → h'.get? b = some o := fun b o e => (hsb.2 b (fun z => by rw [z, hS0] at e; cases e)).trans (hkp' b o e)
    refine wpAny_pure ⟨plainId_quiet F.plain_set_update_loop _, ih (i + 1) _ (by omega) hlt (W.frame _ s' _ _ hst' (Nat.le_add_right _ _) fun b hb o e => ?_) hkp2 ⟨L', es', ep', t', hS2, g.next hp c1⟩ fun s'' L2 es2 ep2 t2 hm'' hS'' g'' hkp'' => ?_⟩
    · rw [hsb.2 b (fun h : b = S => hSf (by rw [← h]; exact hb))]; exact e
    · refine hR s'' L2 es2 ep2 t2 (Moved.trans W.gtrans ((hm.mono hsub).then_heap (Nat.le_add_right _ _) fun b o hb e => ?_) hm'') hS'' g'' hkp''
      rw [hsb.2 b (fun h : b = S => hb (by rw [h]; exact List.mem_cons_self))]; exact e
/-- set(xs), xs a list of tuples of texts -/
theorem call_set {l : Addr} {items : Array Value} (ks : List Row) {Q : Value → Shared → Prop} (hh : A.handled = none) (hl : s.heap.IsList l items) (hit : items.toList = ks.map fun p => Value.ref p.1)
    (hk : ∀ p ∈ ks, IsX P w s.heap p) (hfew : ks.length < 300) (hu : A.units + 3 < cLine)
    (h : ∀ (h' : Heap) (tk : Nat) L es ep t, Tab P w h' s.heap.objs.size L es ep t → Has ks ks.length L → (∀ b o, s.heap.get? b = some o → h'.get? b = some o) → Q (.ref s.heap.objs.size) { s with heap := h', toks := tk }) :
    wpAny (model P w) A (call (.type "set") [.ref l]) Q E s := by
  have hisz : items.size = ks.length := by
    have q := congrArg List.length hit
    rw [Array.length_toList, List.length_map] at q
    exact q
  obtain ⟨c, tl, hmro⟩ := F.called_set.mro
  have hmade := F.called_set.made
  have hsub := F.called_set.sub
  refine wpAny_call (codeAny_of_tree ?_)
  show wpAny _ _ (callAny (.type "set") _) _ _ _
  refine wpAny_pure ⟨Code.quiet_builtin _ (by decide +kernel), codeAny_builtin F.entry_type_call ?_⟩
  rw [Around.under_plain (weight_type_call_type "set" [.ref l] []) rfl]
  have h1 := F.called_set.notType
  have h2 := F.called_set.canCreate
  have hct := F.typeCall_set_1 (.ref l)
  repeat (any_goals (first | assumption | wp_step))
  refine codeAny_mono (code_set_led1 (.ref l) (E := E) (Q₁ := fun obj s₁ => obj = .ref s.heap.objs.size ∧ s₁ = { s with heap := s.heap.push (noSet w) }) ⟨rfl, rfl⟩) fun r s₁ hr => ?_
  cases r with
  | error e => exact hr
  | ok fl =>
    cases fl with
    | ret obj =>
      obtain ⟨rfl, rfl⟩ := hr
      have hS : (s.heap.push (noSet w)).get? s.heap.objs.size = some (noSet w) := Heap.get?_push_size _ rfl
      have hT : Shared.TypeIs { s with heap := s.heap.push (noSet w) } (.ref s.heap.objs.size) "set" := ⟨_, hS, rfl⟩
      have hli := F.called_set.init.lookup
      have hbi := F.called_set.init.bind (.ref s.heap.objs.size)
      repeat (any_goals (first | assumption | wp_step))
      refine codeAny_mono (codeAny_call_builtin (R := wants (fun r s₂ => r = .none ∧ ∃ h' tk L es ep t, s₂ = { s with heap := h', toks := tk } ∧ Tab P w h' s.heap.objs.size L es ep t ∧ Has ks ks.length L ∧
          (∀ b o, s.heap.get? b = some o → h'.get? b = some o)) E) F.called_set.init.plain F.entry_set_init (check_set_init_1 hT ?_)) fun r₂ s₂ hr₂ => ?_
      · obtain ⟨ol, hol, hcl, nl, hdl⟩ := hl
        obtain ⟨ocls, odict, odata, oslots⟩ := ol
        simp only at hcl hdl
        subst hcl; subst hdl
        have hol' : (s.heap.push (noSet w)).get? l = some { cls := .type "list", dict := odict, data := .seq items nl, slots := oslots } := Heap.get?_push_of_some _ hol
        have hsls := F.sub_list_set
        have hslf := F.sub_list_frozenset
        have hne : (Value.type "list" == Value.type "dict") = false := by decide
        have hl1 : (s.heap.push (noSet w)).IsList l items := ⟨_, hol', rfl, nl, rfl⟩
        unfold Builtin.«set.__init__» noKeywords Builtin.Frozenset.updateFrom
        generalize hPI : pyIter = PI
        wp_walk
        subst hPI
        refine wpAny_pyIter_list hl1 ?_
        refine wpAny_bind (wpAny_runValue ?_)
        have hlS : l < s.heap.objs.size := Heap.lt_size hol
        have hh3 : A.in1.in1.in1.handled = none := by simp [hh]
        have hsz : (s.heap.push (noSet w)).objs.size = s.heap.objs.size + 1 := Heap.size_push ..
        have hneI : l ≠ (s.heap.push (noSet w)).objs.size := by
          rw [hsz]
          exact Nat.ne_of_lt (Nat.lt_succ_of_lt hlS)
        have hSf : s.heap.objs.size ∉ [(s.heap.push (noSet w)).objs.size, l] := by
          rw [hsz]
          simp only [List.mem_cons, List.not_mem_nil, or_false, not_or]
          exact ⟨Nat.ne_of_lt (Nat.lt_succ_self _), Nat.ne_of_gt hlS⟩
        have hval : ∀ (i : Nat) (v : Value), items[i]? = some v → ∃ p, ks[i]? = some p ∧ v = .ref p.1 := fun i v hv => by
          rw [← Array.getElem?_toList, hit, List.getElem?_map] at hv
          cases hq : ks[i]? with
          | none => rw [hq] at hv; cases hv
          | some p => rw [hq] at hv; exact ⟨p, rfl, (Option.some.inj hv).symm⟩
        have none_of : ∀ b, s.heap.objs.size ≤ b → s.heap.get? b = none := fun b hb => by
          cases q : s.heap.get? b with
          | none => rfl
          | some o => exact absurd (Nat.lt_of_lt_of_le (Heap.lt_size q) hb) (Nat.lt_irrefl _)
        refine into ((Walks.list hh3 _ l hneI items).toS) s.heap.objs.size hSf ks hisz hfew hval s.heap hk (none_of _ (Nat.le_refl _))
          (fun b hb => none_of b (by rw [List.mem_singleton.mp hb, hsz]; exact Nat.le_succ _)) hu (items.size - 0) 0 _ (by omega) (Nat.zero_le _)
          ⟨⟨_, Heap.get?_push_size _ rfl, rfl, rfl⟩, (hl1.push _)⟩ (fun b o e => Heap.get?_push_of_some _ (Heap.get?_push_of_some _ e)) ⟨[], #[], 0, _, tab_new (Heap.get?_push_of_some _ hS), ⟨fun q hq => (by cases hq), fun q hq => (by simp at hq), Nat.le_refl _⟩⟩ ?hR
        case hR =>
          intro s' L es ep t hm hS' g' hkp
          obtain ⟨h', g2, d', tk', os'⟩ := s'
          obtain rfl : g2 = s.gens := hm.gens
          obtain rfl : d' = s.drawn := hm.drawn
          obtain rfl : os' = s.os := hm.os
          show wpAny _ _ _ _ _ _
          refine wpAny_pure ?_
          show wpAny _ _ (ret Value.none) _ _ _
          rw [hisz] at g'
          exact wpAny_pure ⟨rfl, h', tk', L, es, ep, t, rfl, hS', g', hkp⟩
      · cases r₂ with
        | error e => exact hr₂
        | ok fl₂ =>
          cases fl₂ with
          | ret r =>
            obtain ⟨rfl, h', tk, L, es, ep, t, rfl, hS', g', hk'⟩ := hr₂
            repeat (any_goals (first | assumption | wp_step))
            exact h _ _ _ _ _ _ hS' g' hk'
          | _ => exact hr₂.elim
    | _ => exact hr.elim
end
end KT

set_option linter.all false
set_option Elab.async false
set_option maxRecDepth 100000
set_option maxHeartbeats 4000000
namespace KT
open PySem PySem.Spec PyProof.Rows L2
/-! sorted of such a set -/
def kd : Key → PyData
  | .inl i => .int i
  | .inr s => .str s
abbrev rdat (p : Row) : PyData := .tuple (p.2.map kd)
theorem perm_of_map {α β : Type} [DecidableEq α] (f : α → β) : ∀ (l m : List α), (∀ x ∈ l, ∀ y ∈ m, f x = f y → x = y) → (l.map f).Perm (m.map f) → l.Perm m
  | [], m, _, p => by
    have : m = [] := List.map_eq_nil_iff.mp (List.nil_perm.mp p)
    rw [this]
  | x :: l, m, inj, p => by
    obtain ⟨y, hy, e⟩ := List.mem_map.mp (p.mem_iff.mp List.mem_cons_self)
    obtain rfl := inj x List.mem_cons_self y hy e.symm
    have p2 := List.perm_cons_erase hy
    have p4 := p.trans (p2.map f)
    rw [List.map_cons, List.map_cons] at p4
    exact ((perm_of_map f l (m.erase x) (fun a ha b hb => inj a (List.mem_cons_of_mem _ ha) b (List.mem_of_mem_erase hb)) (List.Perm.cons_inv p4)).cons x).trans p2.symm
section
variable {P : Program} {w : World} {A : Around} {E : Value → Shared → Prop} {s : Shared} {a : Addr} {L : List Row} {es : Array (Int × Value)} {ep : Nat} {t : SetTable}
theorem reads_keys {h : Heap} {k : List Key} {vs : List Value} (x : ItemsAre (mixKind P w) k vs) : ReadsAll h vs (k.map kd) [] := by
  induction x with
  | nil => exact .nil
  | @cons x v ks vs h1 _ ih =>
    rcases keyIs_shape h1 with ⟨i, t, rfl, rfl⟩ | ⟨y, t, rfl, rfl⟩
    · exact .cons (as := []) (bs := []) (.int i t) ih
    · exact .cons (as := []) (bs := []) (.str y t) ih
theorem key_reads {h : Heap} {p : Row} (x : IsX P w h p) : Reads h (.ref p.1) (rdat p) [] := by
  obtain ⟨o, items, n, ho, hc, hd, hi⟩ := x
  exact .tuple ho hc hd (reads_keys hi)
theorem depth_keys : ∀ xs : List Key, PyData.depthAll (xs.map kd) = 0
  | [] => by simp [PyData.depthAll]
  | .inl x :: xs => by simp [PyData.depthAll, PyData.depth, kd, depth_keys xs]
  | .inr x :: xs => by simp [PyData.depthAll, PyData.depth, kd, depth_keys xs]
theorem depth_row (p : Row) : (rdat p).depth = 1 := by
  show PyData.depth (.tuple (p.2.map kd)) = 1
  unfold PyData.depth
  rw [depth_keys]
theorem each_refs {R : Value → Row → Prop} : ∀ (L : List Row), (∀ p ∈ L, R (.ref p.1) p) → PySem.W.EachIs R (L.map fun p => Value.ref p.1) L
  | [], _ => .nil
  | p :: L, h => .cons (h p List.mem_cons_self) (each_refs L fun q hq => h q (List.mem_cons_of_mem _ hq))
theorem refs_each : ∀ {vs : List Value} {L : List Row}, PySem.W.EachIs (fun v (p : Row) => v = .ref p.1) vs L → vs = L.map fun p => Value.ref p.1
  | _, _, .nil => rfl
  | _, _, .cons h t => by rw [h, refs_each t]; rfl
theorem call_sorted (R : Tab P w s.heap a L es ep t) (hh : A.handled = none) (ne : ∀ p ∈ L, p.2 ≠ []) (hal : ∀ p ∈ L, ∀ q ∈ L, PySem.W.alike (rdat p) (rdat q) = true) (hfew : L.length < 300) (hu : A.units + 10 < cLine) {Q : Value → Shared → Prop}
    (hQ : ∀ s' p (out : Array Value) (c : Nat) (L1 : List Row), (∀ b o, s.heap.get? b = some o → s'.heap.get? b = some o) → s'.gens = s.gens → s'.os = s.os → s.heap.objs.size ≤ p → s'.heap.get? p = some (seqObj "list" out c) →
      out.toList = (L1.mergeSort (PySem.W.dataLe false rdat)).map (fun q => Value.ref q.1) → L1.Perm L → Q (.ref p) s') :
    wpAny (model P w) A (call (.builtin "sorted") [.ref a]) Q E s := by
  obtain ⟨o, ho, hex, hd⟩ := R.here
  have hsz := R.size
  refine Calls.call_function_entry kind_sorted plain_sorted entry_sorted (args_sorted1 _) ?_
  unfold Builtin.«sorted»
  refine wpAny_bind (m := checkCount "sorted" 1 1 _) (wpAny_pure ?_)
  refine wpAny_bind (collect_set (A := A.in1) hh ⟨o, ho, hex.1, hd⟩ R.fits (by unfold scanBound; omega) R.tab.ris R.led fun s1 vs k1 hz g1 o1 pm => ?_)
  have hes : es.toList.map (·.2) = L.map fun q => Value.ref q.1 := by
    rw [R.rows, List.map_map]
    rfl
  rw [hes] at pm
  have ord : ∀ us : List Value, (∀ v ∈ us, ∃ q ∈ L, v = Value.ref q.1) → ∃ L1 : List Row, us = L1.map (fun q => Value.ref q.1) ∧ ∀ q ∈ L1, q ∈ L := by
    intro us
    induction us with
    | nil => intro _; exact ⟨[], rfl, fun q hq => (by cases hq)⟩
    | cons v us ih =>
      intro hv
      obtain ⟨q, hq, e⟩ := hv v List.mem_cons_self
      obtain ⟨L1, e1, hs⟩ := ih fun u hu => hv u (List.mem_cons_of_mem _ hu)
      exact ⟨q :: L1, by rw [List.map_cons, e, e1], fun r hr => (List.mem_cons.mp hr).elim (fun z => z ▸ hq) (hs r)⟩
  obtain ⟨L1, e1, sub1⟩ := ord vs fun v hv => by
    obtain ⟨q, hq, e⟩ := List.mem_map.mp (pm.mem_iff.mp hv)
    exact ⟨q, hq, e.symm⟩
  have pL : L1.Perm L := by
    rw [e1] at pm
    refine perm_of_map (fun q : Row => Value.ref q.1) L1 L (fun x hx y hy e => ?_) pm
    injection e with e
    have a1 := R.keys x (sub1 x hx)
    have a2 := R.keys y hy
    unfold IsX at a1 a2
    rw [e] at a1
    exact Prod.ext e (a1.inj a2)
  have len1 := pL.length_eq
  have hvl : vs.length = L.length := by rw [e1, List.length_map, len1]
  have w1 : PySem.W.EachIs (fun v (p : Row) => v = Value.ref p.1) vs L1 := by
    rw [e1]
    exact each_refs L1 fun p _ => rfl
  have w2 : ∀ (h : Heap) (b : Addr), (∀ q ∈ L1, IsX P w h q) → PySem.W.EachIs (fun v (p : Row) => ∃ as, Reads h v (rdat p) as ∧ b ∉ as) vs L1 := fun h b k => by
    rw [e1]
    exact each_refs L1 fun p hp => ⟨[], key_reads (k p hp), by simp⟩
  refine wpAny_bind (wpAny_newList ?_ (by rw [sizeLine_eq]; omega))
  have hoL : (s1.heap.push (seqObj "list" vs.toArray 0)).get? s1.heap.objs.size = some (seqObj "list" vs.toArray 0) := Heap.get?_push_size _ rfl
  have tk : ∀ q ∈ L1, IsX P w (s1.heap.push (seqObj "list" vs.toArray 0)) q := fun q hq => key_keep (R.keys q (sub1 q hq)) fun b u e => Heap.get?_push_of_some _ (k1 b u e)
  refine wpAny_bind (wpAny_holding (PySem.W.list_sort_data (β := Row) (bs := L1) (enc := rdat) (R := fun v (p : Row) => v = .ref p.1) (s := { s1 with heap := s1.heap.push (seqObj "list" vs.toArray 0) }) hoL
    w1 (w2 _ _ tk) (fun d hd d' hd' => ?_) (.inl fun d hd => ?_) (by rw [sizeLine_eq]; omega) (fun b _ => ?_) fun out hlen ho => ?_))
  · obtain ⟨p, hp, rfl⟩ := List.mem_map.mp hd
    obtain ⟨q, hq, rfl⟩ := List.mem_map.mp hd'
    exact hal p (sub1 p hp) q (sub1 q hq)
  · obtain ⟨p, hp, rfl⟩ := List.mem_map.mp hd
    have n := ne p (sub1 p hp)
    obtain ⟨a0, k0⟩ := p
    cases k0 with
    | nil => exact absurd rfl n
    | cons x r => exact ⟨_, _, rfl⟩
  · rw [depth_row]
    show A.units + 1 + 1 + 1 < cLine
    omega
  · have eo := refs_each ho
    obtain ⟨c, hc⟩ := sortedHeap_at (vs := vs) (out := List.toArray out) hoL
    refine wpAny_pure ⟨_, rfl, hQ _ s1.heap.objs.size (List.toArray out) c L1 (fun b u e => ?_) g1 o1 hz hc (by simpa using eo) pL⟩
    have q := k1 b u e
    have hlt := Heap.lt_size q
    show (sortedHeap (s1.heap.push (seqObj "list" vs.toArray 0)) s1.heap.objs.size vs _).get? b = some u
    rw [sortedHeap_old (Nat.ne_of_lt hlt) (by rw [size_push']; exact Nat.lt_succ_of_lt hlt)]
    exact Heap.get?_push_of_some _ q
end
end KT
namespace G7
open PySem PySem.Spec PyProof.Rows L2
/-- sorted(set(xs)), xs a list of pairs of ints: each once, rising -/
def tSortP (te : TE) : TE := fun σ H Q => te σ H fun x H1 => ∃ (l : Addr) (ps : List Pr), x = .ref l ∧ lsO (H1 l) = some (ps.map fun p => V.ref p.1) ∧ (∀ p ∈ ps, H1 p.1 = some (.tup [.int p.2.1, .int p.2.2])) ∧ ps.length < 300 ∧
  ∀ (p : Addr) (qs : List Pr), H1 p = none → Ris2 qs → (∀ e ∈ qs, e ∈ ps) → (∀ x, x ∈ qs.map (·.2) ↔ x ∈ ps.map (·.2)) → Q (.ref p) (upd H1 p (.lst (qs.map fun e => V.ref e.1)))
abbrev prRow (e : Pr) : KT.Row := (e.1, ky2 e.2)
theorem rows_pr {ps : List Pr} : ∀ L : List KT.Row, (∀ q ∈ L, ∃ e ∈ ps, prRow e = q) → ∃ ps' : List Pr, L = ps'.map prRow ∧ ∀ e ∈ ps', e ∈ ps
  | [], _ => ⟨[], rfl, fun e he => absurd he (by simp)⟩
  | q :: L, h => by
    obtain ⟨e, he, rfl⟩ := h q List.mem_cons_self
    obtain ⟨ps', e1, e2⟩ := rows_pr (ps := ps) L fun r hr => h r (List.mem_cons_of_mem _ hr)
    exact ⟨e :: ps', by rw [e1]; rfl, fun x hx => (List.mem_cons.mp hx).elim (fun z => z ▸ he) (e2 x)⟩
theorem refs_pr : ∀ {ps : List Pr} {us : List Value}, Vals (ps.map fun e => V.ref e.1) us → us = (ps.map prRow).map fun p => Value.ref p.1
  | [], _, .nil => rfl
  | e :: r, _, .cons h t => by rw [refs_pr t]; cases h; rfl
theorem pr_refs : ∀ (ps : List Pr), Vals (ps.map fun e => V.ref e.1) ((ps.map prRow).map fun p => Value.ref p.1)
  | [] => .nil
  | e :: r => .cons rfl (pr_refs r)
theorem sort_pr (l : List Pr) (nd : (l.map (·.2)).Nodup) : ∃ qs : List Pr, (l.map prRow).mergeSort (PySem.W.dataLe false KT.rdat) = qs.map prRow ∧ qs.Perm l ∧ Ris2 qs := by
  have pm := List.mergeSort_perm (l.map prRow) (PySem.W.dataLe false KT.rdat)
  obtain ⟨qs, e, _⟩ := rows_pr (ps := l) _ fun q hq => by
    obtain ⟨x, hx, rfl⟩ := List.mem_map.mp (pm.mem_iff.mp hq)
    exact ⟨x, hx, rfl⟩
  have pq : qs.Perm l := by
    rw [e] at pm
    refine KT.perm_of_map prRow qs l (fun x _ y _ h => ?_) pm
    injection h with h1 h2
    exact Prod.ext h1 (ky2_eq.mp h2)
  refine ⟨qs, e, pq, ?_⟩
  have tot := PySem.W.sortLe_total (PyProof.Rows.listOrd PyProof.Rows.itemOrd) false fun b : KT.Row => PySem.W.keyToks (KT.rdat b)
  have srt : (qs.map prRow).Pairwise fun a b => PySem.W.dataLe false KT.rdat a b = true := by
    rw [← e]
    exact List.pairwise_mergeSort (fun a b c h1 h2 => tot.trans a b c h1 h2) (fun a b => by rw [Bool.or_eq_true]; exact tot.total a b) _
  rw [List.pairwise_map] at srt
  have ii := PySem.W.dataLe_ii (β := Pr) (fun p => p.2.1) (fun p => p.2.2)
  have hs : qs.Pairwise fun p q => p.2.1 < q.2.1 ∨ (p.2.1 = q.2.1 ∧ p.2.2 ≤ q.2.2) := srt.imp fun {p q} h => by
    have z : PySem.W.dataLe false (fun b : Pr => PyData.tuple [.int b.2.1, .int b.2.2]) p q = true := h
    rw [ii] at z
    exact of_decide_eq_true z
  have nd2 : qs.Pairwise fun p q => p.2 ≠ q.2 := by
    have z := (pq.map (·.2)).nodup_iff.mpr nd
    unfold List.Nodup at z
    rw [List.pairwise_map] at z
    exact z
  exact (hs.and nd2).imp fun {p q} h => by
    obtain ⟨h1, h2⟩ := h
    unfold lt2
    rcases h1 with h1 | ⟨h1, h3⟩
    · exact .inl h1
    · refine .inr ⟨h1, ?_⟩
      have : p.2.2 ≠ q.2.2 := fun z => h2 (Prod.ext h1 z)
      omega
section
variable {X : Cx}
theorem pr_key {pins : List (Addr × Obj)} {σ : L2.St} {H : Hp} {s : Shared} (I : Inv X pins σ H s) {e : Pr} (h : H e.1 = some (.tup [.int e.2.1, .int e.2.2])) : KT.IsX X.prog X.w s.heap (prRow e) :=
  key_of I.hok h
theorem pe_sortP {a : Expr} {te : TE} {p p2 q pos : Pos} (hc : X.calm = true) (hu : X.A.units + 64 < cLine) (hg : Gl X "sorted") (hm : X.mg "sorted" = none) (hg2 : Gl X "set") (hm2 : X.mg "set" = none) (ha : PE X a te)
    (na : starEach [a] X.env = (false, eval a X.env) :: starEach [] X.env := by rfl) : PE X (.Call (.Name "sorted" p) [.Call (.Name "set" p2) [a] [] q] [] pos) (tSortP te) := by
  refine ⟨fun pins s σ H Q I h => ?_⟩
  refine Call_ (ld_blt I hg hm PyProof.Rows.boot_sorted ?_)
  refine PyProof.Rows.callWith_builtin1 (PyProof.Rows.args_cons ?_ rfl) rfl rfl
  refine Call_ (ld_blt I hg2 hm2 PyProof.Rows.boot_set ?_)
  refine PyProof.Rows.callWith_type1 (PyProof.Rows.args_cons (thn (ha.run pins s σ H _ I h) fun v s1 ⟨x, H1, I1, r1, q1⟩ => PyProof.Rows.args_nil ?_) na) na rfl
  obtain ⟨l, ps, rfl, hl, ht, hfew, k⟩ := q1
  cases r1
  obtain ⟨its, rv, pl, hz⟩ := I1.list (show SqL X.K H1 l _ from .inl (rd_lsO hl))
  refine KT.call_set (P := X.prog) (w := X.w) (ps.map prRow) (I1.ok.hd hc) pl.isList (by simpa using refs_pr rv) (fun r hr => ?_) (by rw [List.length_map]; exact hfew) (by omega) fun h' tk L es ep t T g kp => ?_
  · obtain ⟨e, he, rfl⟩ := List.mem_map.mp hr
    exact pr_key I1 (ht e he)
  · refine PyProof.Rows.args_nil ?_
    have I2 : Inv X pins σ H1 { s1 with heap := h', toks := tk } := I1.kept kp
    obtain ⟨ls, rfl, sub⟩ := rows_pr (ps := ps) L fun r hr => by
      obtain ⟨e, he, er⟩ := List.mem_map.mp (List.mem_of_mem_take (g.sub r hr))
      exact ⟨e, he, er⟩
    have lfew : ls.length ≤ ps.length := by
      have z := g.few
      rw [List.length_map, List.length_map] at z
      exact z
    have lnd : (ls.map (·.2)).Nodup := by
      have z := T.nd
      rw [List.map_map] at z
      have z2 : ((ls.map (·.2)).map ky2).Nodup := by rw [List.map_map]; exact z
      exact List.Pairwise.of_map ky2 (fun a b h e => h (by rw [e])) z2
    refine KT.call_sorted (s := { s1 with heap := h', toks := tk }) T (I1.ok.hd hc) (fun r hr => ?_) (fun r hr r' hr' => ?_) (by rw [List.length_map]; omega) (by omega) fun s' p out c L1 k1 g1 o1 hp hg' hout pm => ?_
    · obtain ⟨e, _, rfl⟩ := List.mem_map.mp hr
      exact List.cons_ne_nil _ _
    · obtain ⟨e, _, rfl⟩ := List.mem_map.mp hr
      obtain ⟨e', _, rfl⟩ := List.mem_map.mp hr'
      rfl
    · obtain ⟨l1, rfl, sub1⟩ := rows_pr (ps := ls) L1 fun r hr => by
        obtain ⟨e, he, er⟩ := List.mem_map.mp (pm.mem_iff.mp hr)
        exact ⟨e, he, er⟩
      have pm1 : l1.Perm ls := KT.perm_of_map prRow l1 ls (fun x _ y _ h => by
        injection h with h1 h2
        exact Prod.ext h1 (ky2_eq.mp h2)) pm
      obtain ⟨qs, e1, pq, rq⟩ := sort_pr l1 ((pm1.map (·.2)).nodup_iff.mpr lnd)
      rw [e1] at hout
      have hn : H1 p = none := I2.hok.fresh hp
      have hv : Vals (qs.map fun e => V.ref e.1) out.toList := by rw [hout]; exact pr_refs qs
      have ql : qs.length ≤ ps.length := by rw [pq.length_eq, pm1.length_eq]; exact lfew
      have J : Inv X pins σ (upd H1 p (.lst (qs.map fun e => V.ref e.1))) { ({ s1 with heap := h', toks := tk } : Shared) with heap := s'.heap, gens := s'.gens, drawn := s'.drawn, toks := s'.toks } :=
        I2.call (ch := []) (Un.laid k1 hp hn) (I2.hok.laid k1 hp ⟨by rw [List.length_map, sizeLine_eq]; omega, out.toList, c, hv, hg'⟩) (by rw [g1]; exact I2.bare) (fun _ z => nomatch z)
      have e : s' = { ({ s1 with heap := h', toks := tk } : Shared) with heap := s'.heap, gens := s'.gens, drawn := s'.drawn, toks := s'.toks } := by
        cases s'
        cases s1
        cases o1
        rfl
      rw [e]
      refine ⟨.ref p, _, J, rfl, k p qs hn rq (fun x hx => sub x (pm1.mem_iff.mp (pq.mem_iff.mp hx))) fun x => ⟨fun hx => ?_, fun hx => ?_⟩⟩
      · obtain ⟨y, hy, rfl⟩ := List.mem_map.mp hx
        exact List.mem_map.mpr ⟨y, sub y (pm1.mem_iff.mp (pq.mem_iff.mp hy)), rfl⟩
      · obtain ⟨y, hy, rfl⟩ := List.mem_map.mp hx
        obtain ⟨r, hr, er⟩ := g.all (prRow y) (by rw [List.take_length]; exact List.mem_map.mpr ⟨y, hy, rfl⟩)
        obtain ⟨z, hz', rfl⟩ := List.mem_map.mp hr
        exact List.mem_map.mpr ⟨z, pq.mem_iff.mpr (pm1.mem_iff.mpr hz'), ky2_eq.mp er⟩
end
end G7

namespace K37
open PySem PySem.Spec PyProof.Rows L2 G7
def top (i : Nat) : Stmt := PySem.Challenge.pw_granary_k37_an_index_alone.main.body.getD i (.Pass ⟨0, 0, 0, 0⟩)
abbrev s_place_in : Stmt := top 1
abbrev N_place_in : List Str := ["pairs", "pair", "low", "high", "middle"]
theorem sc_place_in : FnScope N_place_in ["pairs", "pair"] (defScope s_place_in) := ⟨rfl, rfl, rfl, by decide +kernel, rfl, by decide +kernel, by decide +kernel⟩
abbrev s_Index_init : Stmt := inClass (top 2) 0
abbrev N_Index_init : List Str := ["self"]
theorem sc_Index_init : FnScope N_Index_init ["self"] (defScope s_Index_init) := ⟨rfl, rfl, rfl, by decide +kernel, rfl, by decide +kernel, by decide +kernel⟩
abbrev s_Index_add : Stmt := inClass (top 2) 1
abbrev N_Index_add : List Str := ["self", "worth", "key", "pair"]
theorem sc_Index_add : FnScope N_Index_add ["self", "worth", "key"] (defScope s_Index_add) := ⟨rfl, rfl, rfl, by decide +kernel, rfl, by decide +kernel, by decide +kernel⟩
abbrev s_Index_lose : Stmt := inClass (top 2) 2
abbrev N_Index_lose : List Str := ["self", "worth", "key", "pair"]
theorem sc_Index_lose : FnScope N_Index_lose ["self", "worth", "key"] (defScope s_Index_lose) := ⟨rfl, rfl, rfl, by decide +kernel, rfl, by decide +kernel, by decide +kernel⟩
abbrev s_Index_between : Stmt := inClass (top 2) 3
abbrev N_Index_between : List Str := ["self", "low", "high", "first", "last"]
theorem sc_Index_between : FnScope N_Index_between ["self", "low", "high"] (defScope s_Index_between) := ⟨rfl, rfl, rfl, by decide +kernel, rfl, by decide +kernel, by decide +kernel⟩
abbrev s_l_begun : Stmt := top 4
abbrev N_l_begun : List Str := ["_law_script", "_law_stirred", "_law_cell"]
theorem sc_l_begun : FnScope N_l_begun ["_law_script"] (defScope s_l_begun) := ⟨rfl, rfl, rfl, by decide +kernel, rfl, by decide +kernel, by decide +kernel⟩
abbrev s_l_take : Stmt := top 5
abbrev N_l_take : List Str := ["_law_box", "_law_many", "_law_drawn"]
theorem sc_l_take : FnScope N_l_take ["_law_box", "_law_many"] (defScope s_l_take) := ⟨rfl, rfl, rfl, by decide +kernel, rfl, by decide +kernel, by decide +kernel⟩
abbrev s_l_alike : Stmt := top 6
abbrev N_l_alike : List Str := ["_law_found", "_law_due", "_law_k"]
theorem sc_l_alike : FnScope N_l_alike ["_law_found", "_law_due"] (defScope s_l_alike) := ⟨rfl, rfl, rfl, by decide +kernel, rfl, by decide +kernel, by decide +kernel⟩
abbrev s_law : Stmt := top 7
abbrev N_law : List Str := ["_law_script", "_law_box", "_law_index", "_law_pairs", "_law_turn", "_law_worth", "_law_mark", "_law_low", "_law_high", "_law_one", "_law_other", "_law_some", "_law_found", "_law_pair"]
theorem sc_law : FnScope N_law ["_law_script"] (defScope s_law) := ⟨rfl, rfl, rfl, by decide +kernel, rfl, by decide +kernel, by decide +kernel⟩
def fsIndex (v0 v1 : V) : List (Str × V) := [("pairs", v0), ("many", v1)]
def fpIndex1 (v0 : V) : List (Str × V) := [("pairs", v0)]
theorem lkIndex_pairs {v0 v1 : V} : (fsIndex v0 v1).lookup ("pairs" : Str) = some v0 := by unfold fsIndex; rw [List.lookup_cons, show (("pairs" : Str) == "pairs") = true from by decide +kernel]
theorem lkIndex_many {v0 v1 : V} : (fsIndex v0 v1).lookup ("many" : Str) = some v1 := by unfold fsIndex; rw [List.lookup_cons, show (("many" : Str) == "pairs") = false from by decide +kernel]; dsimp only; rw [List.lookup_cons, show (("many" : Str) == "many") = true from by decide +kernel]
theorem noIndex_add {v0 v1 : V} : (fsIndex v0 v1).lookup ("add" : Str) = none := by unfold fsIndex; rw [List.lookup_cons, show (("add" : Str) == "pairs") = false from by decide +kernel]; dsimp only; rw [List.lookup_cons, show (("add" : Str) == "many") = false from by decide +kernel]; dsimp only; rfl
theorem noIndex_lose {v0 v1 : V} : (fsIndex v0 v1).lookup ("lose" : Str) = none := by unfold fsIndex; rw [List.lookup_cons, show (("lose" : Str) == "pairs") = false from by decide +kernel]; dsimp only; rw [List.lookup_cons, show (("lose" : Str) == "many") = false from by decide +kernel]; dsimp only; rfl
theorem noIndex_between {v0 v1 : V} : (fsIndex v0 v1).lookup ("between" : Str) = none := by unfold fsIndex; rw [List.lookup_cons, show (("between" : Str) == "pairs") = false from by decide +kernel]; dsimp only; rw [List.lookup_cons, show (("between" : Str) == "many") = false from by decide +kernel]; dsimp only; rfl
theorem inIndex_pairs {v0 : V} : putF ("pairs" : Str) v0 [] = (fpIndex1 v0) := by unfold fpIndex1; rfl
theorem inIndex_many {v0 v1 : V} : putF ("many" : Str) v1 (fpIndex1 v0) = fsIndex v0 v1 := by unfold fpIndex1; unfold fsIndex; rw [putF, if_neg (show ¬ (("pairs" : Str) = "many") from by decide +kernel)]; rfl
theorem puIndex_pairs {v0 v1 y : V} : putF ("pairs" : Str) y (fsIndex v0 v1) = fsIndex y v1 := by unfold fsIndex; rw [putF, if_pos rfl]
theorem puIndex_many {v0 v1 y : V} : putF ("many" : Str) y (fsIndex v0 v1) = fsIndex v0 y := by unfold fsIndex; rw [putF, if_neg (show ¬ (("pairs" : Str) = "many") from by decide +kernel)]; rw [putF, if_pos rfl]
theorem lnIndex {v0 v1 : V} : (fsIndex v0 v1).length < 1000 := by unfold fsIndex; simp
theorem lpIndex1 {v0 : V} : (fpIndex1 v0).length < 1000 := by unfold fpIndex1; simp
theorem l0Index : (0 : Nat) < 1000 := by decide

structure Txt (K : PySem.W.Frag) (mg : Str → Option Value) where
  f_place_in : Addr
  fd_place_in : FuncData
  F_place_in : Fun K "place_in" "place_in" s_place_in f_place_in fd_place_in
  b_place_in : Binds K fd_place_in ["pairs", "pair"] []
  mg_place_in : mg "place_in" = some (.ref f_place_in)
  f_Index_init : Addr
  fd_Index_init : FuncData
  F_Index_init : Fun K "__init__" "Index.__init__" s_Index_init f_Index_init fd_Index_init
  b_Index_init : Binds K fd_Index_init ["self"] []
  f_Index_add : Addr
  fd_Index_add : FuncData
  F_Index_add : Fun K "add" "Index.add" s_Index_add f_Index_add fd_Index_add
  b_Index_add : Binds K fd_Index_add ["self", "worth", "key"] []
  f_Index_lose : Addr
  fd_Index_lose : FuncData
  F_Index_lose : Fun K "lose" "Index.lose" s_Index_lose f_Index_lose fd_Index_lose
  b_Index_lose : Binds K fd_Index_lose ["self", "worth", "key"] []
  f_Index_between : Addr
  fd_Index_between : FuncData
  F_Index_between : Fun K "between" "Index.between" s_Index_between f_Index_between fd_Index_between
  b_Index_between : Binds K fd_Index_between ["self", "low", "high"] []
  f_l_begun : Addr
  fd_l_begun : FuncData
  F_l_begun : Fun K "_law_begun" "_law_begun" s_l_begun f_l_begun fd_l_begun
  b_l_begun : Binds K fd_l_begun ["_law_script"] []
  mg_l_begun : mg "_law_begun" = some (.ref f_l_begun)
  f_l_take : Addr
  fd_l_take : FuncData
  F_l_take : Fun K "_law_take" "_law_take" s_l_take f_l_take fd_l_take
  b_l_take : Binds K fd_l_take ["_law_box", "_law_many"] []
  mg_l_take : mg "_law_take" = some (.ref f_l_take)
  f_l_alike : Addr
  fd_l_alike : FuncData
  F_l_alike : Fun K "_law_alike" "_law_alike" s_l_alike f_l_alike fd_l_alike
  b_l_alike : Binds K fd_l_alike ["_law_found", "_law_due"] []
  mg_l_alike : mg "_law_alike" = some (.ref f_l_alike)
  f_law : Addr
  fd_law : FuncData
  F_law : Fun K "law" "law" s_law f_law fd_law
  b_law : Binds K fd_law ["_law_script"] []
  mg_law : mg "law" = some (.ref f_law)
  C_Index : Addr
  cl_Index : Cls K C_Index
  mg_Index : mg "Index" = some (.ref C_Index)
  mk_Index : Mk K C_Index f_Index_init
  na_Index_pairs : NoAttr K C_Index "pairs"
  na_Index_many : NoAttr K C_Index "many"
  me_Index_add : Meth K C_Index "add" f_Index_add
  me_Index_lose : Meth K C_Index "lose" f_Index_lose
  me_Index_between : Meth K C_Index "between" f_Index_between
  n_len : mg "len" = none
  n_list : mg "list" = none
  n_int : mg "int" = none
  n_isinstance : mg "isinstance" = none
  n_bool : mg "bool" = none
  n_str : mg "str" = none
  n_tuple : mg "tuple" = none
  n_range : mg "range" = none
  n_sorted : mg "sorted" = none
  n_set : mg "set" = none

section
variable {P : Program} {w : World} {K : PySem.W.Frag} {mg : Str → Option Value} {base : Heap}
theorem ok_l_begun (T : Txt K mg) : FnOk P w K mg base CX0 1 T.f_l_begun T.fd_l_begun ["_law_script"] (spBegun K) := by
  refine T.F_l_begun.ok sc_l_begun (fun vs H Q E h => ?_) (fun cdv A outer s H vs Q E hr h => ?_)
  · obtain ⟨a, ns, rfl, _⟩ := h
    rfl
  · obtain ⟨a, ns, rfl, hS, hlen, k⟩ := h
    refine ⟨_, (pss_cons (ps_set (i := 1) sc_l_begun.nd rfl (Or.inl rfl) pe_int)
      (pss_cons (ps_for PassesOwn.never rfl (pi_listK K rfl (pv 0)) (pg_name (i := 2) sc_l_begun.nd rfl (Or.inl rfl)) (pss_one (ps_set (i := 1) sc_l_begun.nd rfl (Or.inl rfl) (pe_op op_mod (pe_op op_add (pe_op op_add (pe_op op_mul (pv 1) pe_int) (pe_op op_mul (pv 2) pe_int)) pe_int) pe_int))))
      (pss_one (ps_ret (pe_lst (pa_cons (pe_callTy call_list_of (by rfl) T.n_list (by decide +kernel) (pa_cons (pv 0) pa_nil)) (pa_cons (pe_op op_mul (pv 1) (pe_callTy int_bl (by rfl) T.n_int (by decide +kernel) (pa_cons (pe_cmpR op_gt (pe_callB call_len_seq (by rfl) T.n_len PySem.boot_len (pa_cons (pv 0) pa_nil)) pe_int (nomark _)) pa_nil))) pa_nil))))))), ?_⟩
    refine ⟨_, rfl, a, rfl, ⟨_, hS⟩, for_list (K := K) (a := a) (xs := ns.map V.int) (fun i σ H2 => ∃ (z : Int) (v : Option V), σ = [some (.ref a), some (.int z), v] ∧ H2 = H) ⟨0, none, rfl, rfl⟩ (fun i σ H2 _ ⟨_, _, _, e⟩ => by rw [e]; exact hS) ?_ ?_⟩
    · rintro i y σ H2 hi ⟨z, v, rfl, rfl⟩
      obtain ⟨c, _, rfl⟩ := int_at hi
      simp only [tVar, tC, tOp, rI, rI0, rU, tTest, tB, tAnd, tOr, tNot, tAndV, tOrV, tNotV, tIf, tNil, tCons, tTup, tLst, tCB, tSeq, tAsg, gName, tRet, tRetN, tIfS, tNext, tDrop, tCall, tUn, tPar, CMul, CDiv, V.int.injEq, V.bl.injEq, V.ref.injEq, V.str.injEq, Option.some.injEq, List.cons.injEq, and_true, true_and, and_false, false_and, or_false, false_or, or_true, true_or, exists_eq_left', exists_eq_left, exists_and_left, exists_and_right, exists_eq', exists_eq, exists_false, exists_const, List.getElem?_cons_succ, List.getElem?_cons_zero, List.set_cons_succ, List.set_cons_zero, List.length_cons, List.length_nil, List.cons_append, List.nil_append, List.append_nil, reduceCtorEq, Int.reduceLT, Int.reduceLE, Int.reduceNeg, Int.reducePow, Int.reduceSub, Int.reduceAdd, Nat.reduceAdd, Nat.reduceLeDiff, Bool.not_true, Bool.not_false, decide_true, decide_false, Bool.false_eq_true, ↓reduceIte, upd_same, not_true_eq_false, not_false_eq_true, lsO_l, lsO_f, tpO_t, tpO_f, dkO_d, dkO_f, keyO_i, keyO_s, rIxH, rIxU, cLenL, cLenT, cListL, cListT, cTupL, cIntB, cAll, rEqNilI, rEq, rNe, scal_ii, scal_ss, scal_bb, scal_nn, scal_ni, scal_in, scal_ns, scal_sn, gSub, rSetL, ixs0, ixs1, ixs2, seq0, at0, at1, at2, at3, tBM, tBM0, rAppend, rPopAt, tyV_list, tGet2, tGetI, sPut, tMG, rTIdx, tyTup, tTupF, cx_K, cx_w, ex_map_int, ex_nil_int, ex_cons_int, List.map_cons, List.map_nil, List.isEmpty_nil, List.isEmpty_cons, List.eraseIdx_zero, List.tail_cons, List.eraseIdx_cons_zero, HO.lst.injEq, HO.tup.injEq, HO.dK.injEq, HO.frz.injEq, ne_eq, gTupH, gCons, gNil, wipe, tYes, upd_upd, and_assoc, List.getElem?_map, Option.map_some, isn_non_bool, isn_non_int, isn_non_str, isn_non_tuple, isn_non_list, isn_non_dict, isn_bl_bool, isn_bl_int, isn_bl_str, isn_bl_tuple, isn_bl_list, isn_bl_dict, isn_int_bool, isn_int_int, isn_int_str, isn_int_tuple, isn_int_list, isn_int_dict, isn_str_bool, isn_str_int, isn_str_str, isn_str_tuple, isn_str_list, isn_str_dict, isn_lst_bool, isn_lst_int, isn_lst_str, isn_lst_tuple, isn_lst_list, isn_lst_dict, isn_tup_bool, isn_tup_int, isn_tup_str, isn_tup_tuple, isn_tup_list, isn_tup_dict, isn_dct_bool, isn_dct_int, isn_dct_str, isn_dct_tuple, isn_dct_list, isn_dct_dict, okn_bool, okn_int, okn_str, okn_tuple, okn_list, okn_dict, cIsi, tyT_n, tyT_b, tyT_i, tyT_s, tyT_r, V.ty.injEq, tSl, tPart, tNoPart, rSlF, gName, tFld, sFld, tMeth, tMake, tGetT, tInT, tNinT, sPutT, sAugT, tPopT, rLtH, dtO_d, dtO_f, kysO_n, kysO_i, kysO_s, intsV_n, intsV_i, HO.ins.injEq, HO.dT.injEq, tDNewT, rIxLT, cLenLT, tSortP]
    · rintro σ H2 ⟨z, v, rfl, rfl⟩
      simp only [tVar, tC, tOp, rI, rI0, rU, tTest, tB, tAnd, tOr, tNot, tAndV, tOrV, tNotV, tIf, tNil, tCons, tTup, tLst, tCB, tSeq, tAsg, gName, tRet, tRetN, tIfS, tNext, tDrop, tCall, tUn, tPar, CMul, CDiv, V.int.injEq, V.bl.injEq, V.ref.injEq, V.str.injEq, Option.some.injEq, List.cons.injEq, and_true, true_and, and_false, false_and, or_false, false_or, or_true, true_or, exists_eq_left', exists_eq_left, exists_and_left, exists_and_right, exists_eq', exists_eq, exists_false, exists_const, List.getElem?_cons_succ, List.getElem?_cons_zero, List.set_cons_succ, List.set_cons_zero, List.length_cons, List.length_nil, List.cons_append, List.nil_append, List.append_nil, reduceCtorEq, Int.reduceLT, Int.reduceLE, Int.reduceNeg, Int.reducePow, Int.reduceSub, Int.reduceAdd, Nat.reduceAdd, Nat.reduceLeDiff, Bool.not_true, Bool.not_false, decide_true, decide_false, Bool.false_eq_true, ↓reduceIte, upd_same, not_true_eq_false, not_false_eq_true, lsO_l, lsO_f, tpO_t, tpO_f, dkO_d, dkO_f, keyO_i, keyO_s, rIxH, rIxU, cLenL, cLenT, cListL, cListT, cTupL, cIntB, cAll, rEqNilI, rEq, rNe, scal_ii, scal_ss, scal_bb, scal_nn, scal_ni, scal_in, scal_ns, scal_sn, gSub, rSetL, ixs0, ixs1, ixs2, seq0, at0, at1, at2, at3, tBM, tBM0, rAppend, rPopAt, tyV_list, tGet2, tGetI, sPut, tMG, rTIdx, tyTup, tTupF, cx_K, cx_w, ex_map_int, ex_nil_int, ex_cons_int, List.map_cons, List.map_nil, List.isEmpty_nil, List.isEmpty_cons, List.eraseIdx_zero, List.tail_cons, List.eraseIdx_cons_zero, HO.lst.injEq, HO.tup.injEq, HO.dK.injEq, HO.frz.injEq, ne_eq, gTupH, gCons, gNil, wipe, tYes, upd_upd, and_assoc, List.getElem?_map, Option.map_some, isn_non_bool, isn_non_int, isn_non_str, isn_non_tuple, isn_non_list, isn_non_dict, isn_bl_bool, isn_bl_int, isn_bl_str, isn_bl_tuple, isn_bl_list, isn_bl_dict, isn_int_bool, isn_int_int, isn_int_str, isn_int_tuple, isn_int_list, isn_int_dict, isn_str_bool, isn_str_int, isn_str_str, isn_str_tuple, isn_str_list, isn_str_dict, isn_lst_bool, isn_lst_int, isn_lst_str, isn_lst_tuple, isn_lst_list, isn_lst_dict, isn_tup_bool, isn_tup_int, isn_tup_str, isn_tup_tuple, isn_tup_list, isn_tup_dict, isn_dct_bool, isn_dct_int, isn_dct_str, isn_dct_tuple, isn_dct_list, isn_dct_dict, okn_bool, okn_int, okn_str, okn_tuple, okn_list, okn_dict, cIsi, tyT_n, tyT_b, tyT_i, tyT_s, tyT_r, V.ty.injEq, tSl, tPart, tNoPart, rSlF, gName, tFld, sFld, tMeth, tMake, tGetT, tInT, tNinT, sPutT, sAugT, tPopT, rLtH, dtO_d, dtO_f, kysO_n, kysO_i, kysO_s, intsV_n, intsV_i, HO.ins.injEq, HO.dT.injEq, tDNewT, rIxLT, cLenLT, tSortP]
      refine ⟨_, .inl hS, fun l hl => ⟨_, .inl ((same_new hl).seq hS), ?_⟩⟩
      refine ⟨by split <;> simp, szl (by decide), fun p hp => ?_⟩
      have nlp : l ≠ p := ne_of_none (H := upd H2 l (.lst (ns.map V.int))) upd_same hp
      refine k _ _ l ((same_new hl).free hp) hl ((same_new hl).trans (same_new hp)) ⟨ns, _, upd_same, ?_, by omega⟩
      rw [upd_ne nlp, upd_same]
theorem ok_l_take (T : Txt K mg) : FnOk P w K mg base CX0 1 T.f_l_take T.fd_l_take ["_law_box", "_law_many"] spTake := by
  refine T.F_l_take.ok sc_l_take (fun vs H Q E h => ?_) (fun cdv A outer s H vs Q E hr h => ?_)
  · obtain ⟨h, l, n, rfl, _⟩ := h
    rfl
  · obtain ⟨h, l, n, rfl, B, n0, n1, k⟩ := h
    have hu64 := hu64_of hr
    have nhl := B.ne
    obtain ⟨ns, st, e1, e2, hlen⟩ := id B
    refine ⟨_, (pss_cons (ps_if (pt_cmpR (op_eqNilI hu64) (pe_ix ix_lst (pv 0) pe_int (fun _ _ => rfl)) (pe_lst pa_nil) (nomark _)) (pss_cons (ps_asg (pe_op op_mod (pe_op op_mul (pe_ix ix_lst (pv 0) pe_int (fun _ _ => rfl)) pe_int) pe_int) (pg_sub (pv 0) pe_int set_list))
        (pss_one (ps_ret (pe_op op_mod (pe_op op_fdiv (pe_ix ix_lst (pv 0) pe_int (fun _ _ => rfl)) pe_int) (pv 1))))) pss_nil)
      (pss_cons (ps_set (i := 2) sc_l_take.nd rfl (Or.inl rfl) (pe_ix ix_lst (pe_ix ix_lst (pv 0) pe_int (fun _ _ => rfl)) pe_int (fun _ _ => rfl)))
      (pss_cons (ps_asg (pe_op op_fdiv (pv 2) (pv 1)) (pg_sub (pe_ix ix_lst (pv 0) pe_int (fun _ _ => rfl)) pe_int set_list))
      (pss_cons (ps_if (PW.pt (pw_or (pt_cmpR op_eq (pe_ix ix_lst (pe_ix ix_lst (pv 0) pe_int (fun _ _ => rfl)) pe_int (fun _ _ => rfl)) pe_int (nomark _)) (pw_or1 (pt_cmpR op_eq (pe_ix ix_lst (pe_ix ix_lst (pv 0) pe_int (fun _ _ => rfl)) pe_int (fun _ _ => rfl)) (pe_un un_neg pe_int) (nomark _))))) (pss_one (ps_expr (pe_bm PySem.F.plainAttrs_list PySem.F.slot_list_pop PySem.F.type_list_pop mt_popAt (pe_ix ix_lst (pv 0) pe_int (fun _ _ => rfl)) (pa_cons pe_int pa_nil)))) pss_nil)
      (pss_one (ps_ret (pe_op op_mod (pv 2) (pv 1)))))))), ?_⟩
    rw [show L2.start N_l_take [V.ref h, V.int n] = [some (V.ref h), some (V.int n), none] from rfl]
    simp only [tVar, tC, tOp, rI, rI0, rU, tTest, tB, tAnd, tOr, tNot, tAndV, tOrV, tNotV, tIf, tNil, tCons, tTup, tLst, tCB, tSeq, tAsg, gName, tRet, tRetN, tIfS, tNext, tDrop, tCall, tUn, tPar, CMul, CDiv, V.int.injEq, V.bl.injEq, V.ref.injEq, V.str.injEq, Option.some.injEq, List.cons.injEq, and_true, true_and, and_false, false_and, or_false, false_or, or_true, true_or, exists_eq_left', exists_eq_left, exists_and_left, exists_and_right, exists_eq', exists_eq, exists_false, exists_const, List.getElem?_cons_succ, List.getElem?_cons_zero, List.set_cons_succ, List.set_cons_zero, List.length_cons, List.length_nil, List.cons_append, List.nil_append, List.append_nil, reduceCtorEq, Int.reduceLT, Int.reduceLE, Int.reduceNeg, Int.reducePow, Int.reduceSub, Int.reduceAdd, Nat.reduceAdd, Nat.reduceLeDiff, Bool.not_true, Bool.not_false, decide_true, decide_false, Bool.false_eq_true, ↓reduceIte, upd_same, not_true_eq_false, not_false_eq_true, lsO_l, lsO_f, tpO_t, tpO_f, dkO_d, dkO_f, keyO_i, keyO_s, rIxH, rIxU, cLenL, cLenT, cListL, cListT, cTupL, cIntB, cAll, rEqNilI, rEq, rNe, scal_ii, scal_ss, scal_bb, scal_nn, scal_ni, scal_in, scal_ns, scal_sn, gSub, rSetL, ixs0, ixs1, ixs2, seq0, at0, at1, at2, at3, tBM, tBM0, rAppend, rPopAt, tyV_list, tGet2, tGetI, sPut, tMG, rTIdx, tyTup, tTupF, cx_K, cx_w, ex_map_int, ex_nil_int, ex_cons_int, List.map_cons, List.map_nil, List.isEmpty_nil, List.isEmpty_cons, List.eraseIdx_zero, List.tail_cons, List.eraseIdx_cons_zero, HO.lst.injEq, HO.tup.injEq, HO.dK.injEq, HO.frz.injEq, ne_eq, gTupH, gCons, gNil, wipe, tYes, upd_upd, and_assoc, List.getElem?_map, Option.map_some, isn_non_bool, isn_non_int, isn_non_str, isn_non_tuple, isn_non_list, isn_non_dict, isn_bl_bool, isn_bl_int, isn_bl_str, isn_bl_tuple, isn_bl_list, isn_bl_dict, isn_int_bool, isn_int_int, isn_int_str, isn_int_tuple, isn_int_list, isn_int_dict, isn_str_bool, isn_str_int, isn_str_str, isn_str_tuple, isn_str_list, isn_str_dict, isn_lst_bool, isn_lst_int, isn_lst_str, isn_lst_tuple, isn_lst_list, isn_lst_dict, isn_tup_bool, isn_tup_int, isn_tup_str, isn_tup_tuple, isn_tup_list, isn_tup_dict, isn_dct_bool, isn_dct_int, isn_dct_str, isn_dct_tuple, isn_dct_list, isn_dct_dict, okn_bool, okn_int, okn_str, okn_tuple, okn_list, okn_dict, cIsi, tyT_n, tyT_b, tyT_i, tyT_s, tyT_r, V.ty.injEq, tSl, tPart, tNoPart, rSlF, gName, tFld, sFld, tMeth, tMake, tGetT, tInT, tNinT, sPutT, sAugT, tPopT, rLtH, dtO_d, dtO_f, kysO_n, kysO_i, kysO_s, intsV_n, intsV_i, HO.ins.injEq, HO.dT.injEq, tDNewT, rIxLT, cLenLT, tSortP, e1]
    refine ⟨szl (by decide), fun p hp => ?_⟩
    have nh : h ≠ p := ne_of_none e1 hp
    have nl : l ≠ p := ne_of_none e2 hp
    simp only [tVar, tC, tOp, rI, rI0, rU, tTest, tB, tAnd, tOr, tNot, tAndV, tOrV, tNotV, tIf, tNil, tCons, tTup, tLst, tCB, tSeq, tAsg, gName, tRet, tRetN, tIfS, tNext, tDrop, tCall, tUn, tPar, CMul, CDiv, V.int.injEq, V.bl.injEq, V.ref.injEq, V.str.injEq, Option.some.injEq, List.cons.injEq, and_true, true_and, and_false, false_and, or_false, false_or, or_true, true_or, exists_eq_left', exists_eq_left, exists_and_left, exists_and_right, exists_eq', exists_eq, exists_false, exists_const, List.getElem?_cons_succ, List.getElem?_cons_zero, List.set_cons_succ, List.set_cons_zero, List.length_cons, List.length_nil, List.cons_append, List.nil_append, List.append_nil, reduceCtorEq, Int.reduceLT, Int.reduceLE, Int.reduceNeg, Int.reducePow, Int.reduceSub, Int.reduceAdd, Nat.reduceAdd, Nat.reduceLeDiff, Bool.not_true, Bool.not_false, decide_true, decide_false, Bool.false_eq_true, ↓reduceIte, upd_same, not_true_eq_false, not_false_eq_true, lsO_l, lsO_f, tpO_t, tpO_f, dkO_d, dkO_f, keyO_i, keyO_s, rIxH, rIxU, cLenL, cLenT, cListL, cListT, cTupL, cIntB, cAll, rEqNilI, rEq, rNe, scal_ii, scal_ss, scal_bb, scal_nn, scal_ni, scal_in, scal_ns, scal_sn, gSub, rSetL, ixs0, ixs1, ixs2, seq0, at0, at1, at2, at3, tBM, tBM0, rAppend, rPopAt, tyV_list, tGet2, tGetI, sPut, tMG, rTIdx, tyTup, tTupF, cx_K, cx_w, ex_map_int, ex_nil_int, ex_cons_int, List.map_cons, List.map_nil, List.isEmpty_nil, List.isEmpty_cons, List.eraseIdx_zero, List.tail_cons, List.eraseIdx_cons_zero, HO.lst.injEq, HO.tup.injEq, HO.dK.injEq, HO.frz.injEq, ne_eq, gTupH, gCons, gNil, wipe, tYes, upd_upd, and_assoc, List.getElem?_map, Option.map_some, isn_non_bool, isn_non_int, isn_non_str, isn_non_tuple, isn_non_list, isn_non_dict, isn_bl_bool, isn_bl_int, isn_bl_str, isn_bl_tuple, isn_bl_list, isn_bl_dict, isn_int_bool, isn_int_int, isn_int_str, isn_int_tuple, isn_int_list, isn_int_dict, isn_str_bool, isn_str_int, isn_str_str, isn_str_tuple, isn_str_list, isn_str_dict, isn_lst_bool, isn_lst_int, isn_lst_str, isn_lst_tuple, isn_lst_list, isn_lst_dict, isn_tup_bool, isn_tup_int, isn_tup_str, isn_tup_tuple, isn_tup_list, isn_tup_dict, isn_dct_bool, isn_dct_int, isn_dct_str, isn_dct_tuple, isn_dct_list, isn_dct_dict, okn_bool, okn_int, okn_str, okn_tuple, okn_list, okn_dict, cIsi, tyT_n, tyT_b, tyT_i, tyT_s, tyT_r, V.ty.injEq, tSl, tPart, tNoPart, rSlF, gName, tFld, sFld, tMeth, tMake, tGetT, tInT, tNinT, sPutT, sAugT, tPopT, rLtH, dtO_d, dtO_f, kysO_n, kysO_i, kysO_s, intsV_n, intsV_i, HO.ins.injEq, HO.dT.injEq, tDNewT, rIxLT, cLenLT, tSortP, upd_ne nl, upd_ne nh, e1, e2]
    have kp : Keep [h, l] H (upd H p (.lst [])) := Keep.new hp
    cases ns with
    | nil =>
      simp only [tVar, tC, tOp, rI, rI0, rU, tTest, tB, tAnd, tOr, tNot, tAndV, tOrV, tNotV, tIf, tNil, tCons, tTup, tLst, tCB, tSeq, tAsg, gName, tRet, tRetN, tIfS, tNext, tDrop, tCall, tUn, tPar, CMul, CDiv, V.int.injEq, V.bl.injEq, V.ref.injEq, V.str.injEq, Option.some.injEq, List.cons.injEq, and_true, true_and, and_false, false_and, or_false, false_or, or_true, true_or, exists_eq_left', exists_eq_left, exists_and_left, exists_and_right, exists_eq', exists_eq, exists_false, exists_const, List.getElem?_cons_succ, List.getElem?_cons_zero, List.set_cons_succ, List.set_cons_zero, List.length_cons, List.length_nil, List.cons_append, List.nil_append, List.append_nil, reduceCtorEq, Int.reduceLT, Int.reduceLE, Int.reduceNeg, Int.reducePow, Int.reduceSub, Int.reduceAdd, Nat.reduceAdd, Nat.reduceLeDiff, Bool.not_true, Bool.not_false, decide_true, decide_false, Bool.false_eq_true, ↓reduceIte, upd_same, not_true_eq_false, not_false_eq_true, lsO_l, lsO_f, tpO_t, tpO_f, dkO_d, dkO_f, keyO_i, keyO_s, rIxH, rIxU, cLenL, cLenT, cListL, cListT, cTupL, cIntB, cAll, rEqNilI, rEq, rNe, scal_ii, scal_ss, scal_bb, scal_nn, scal_ni, scal_in, scal_ns, scal_sn, gSub, rSetL, ixs0, ixs1, ixs2, seq0, at0, at1, at2, at3, tBM, tBM0, rAppend, rPopAt, tyV_list, tGet2, tGetI, sPut, tMG, rTIdx, tyTup, tTupF, cx_K, cx_w, ex_map_int, ex_nil_int, ex_cons_int, List.map_cons, List.map_nil, List.isEmpty_nil, List.isEmpty_cons, List.eraseIdx_zero, List.tail_cons, List.eraseIdx_cons_zero, HO.lst.injEq, HO.tup.injEq, HO.dK.injEq, HO.frz.injEq, ne_eq, gTupH, gCons, gNil, wipe, tYes, upd_upd, and_assoc, List.getElem?_map, Option.map_some, isn_non_bool, isn_non_int, isn_non_str, isn_non_tuple, isn_non_list, isn_non_dict, isn_bl_bool, isn_bl_int, isn_bl_str, isn_bl_tuple, isn_bl_list, isn_bl_dict, isn_int_bool, isn_int_int, isn_int_str, isn_int_tuple, isn_int_list, isn_int_dict, isn_str_bool, isn_str_int, isn_str_str, isn_str_tuple, isn_str_list, isn_str_dict, isn_lst_bool, isn_lst_int, isn_lst_str, isn_lst_tuple, isn_lst_list, isn_lst_dict, isn_tup_bool, isn_tup_int, isn_tup_str, isn_tup_tuple, isn_tup_list, isn_tup_dict, isn_dct_bool, isn_dct_int, isn_dct_str, isn_dct_tuple, isn_dct_list, isn_dct_dict, okn_bool, okn_int, okn_str, okn_tuple, okn_list, okn_dict, cIsi, tyT_n, tyT_b, tyT_i, tyT_s, tyT_r, V.ty.injEq, tSl, tPart, tNoPart, rSlF, gName, tFld, sFld, tMeth, tMake, tGetT, tInT, tNinT, sPutT, sAugT, tPopT, rLtH, dtO_d, dtO_f, kysO_n, kysO_i, kysO_s, intsV_n, intsV_i, HO.ins.injEq, HO.dT.injEq, tDNewT, rIxLT, cLenLT, tSortP]
      refine ⟨n0, k _ _ (Int.emod_nonneg _ (by omega)) (Int.emod_lt_of_pos _ n0) ⟨[], _, upd_same, ?_, hlen⟩ (kp.upd (by simp))⟩
      rw [upd_ne nhl.symm, upd_ne nl]
      exact e2
    | cons c r =>
      simp only [tVar, tC, tOp, rI, rI0, rU, tTest, tB, tAnd, tOr, tNot, tAndV, tOrV, tNotV, tIf, tNil, tCons, tTup, tLst, tCB, tSeq, tAsg, gName, tRet, tRetN, tIfS, tNext, tDrop, tCall, tUn, tPar, CMul, CDiv, V.int.injEq, V.bl.injEq, V.ref.injEq, V.str.injEq, Option.some.injEq, List.cons.injEq, and_true, true_and, and_false, false_and, or_false, false_or, or_true, true_or, exists_eq_left', exists_eq_left, exists_and_left, exists_and_right, exists_eq', exists_eq, exists_false, exists_const, List.getElem?_cons_succ, List.getElem?_cons_zero, List.set_cons_succ, List.set_cons_zero, List.length_cons, List.length_nil, List.cons_append, List.nil_append, List.append_nil, reduceCtorEq, Int.reduceLT, Int.reduceLE, Int.reduceNeg, Int.reducePow, Int.reduceSub, Int.reduceAdd, Nat.reduceAdd, Nat.reduceLeDiff, Bool.not_true, Bool.not_false, decide_true, decide_false, Bool.false_eq_true, ↓reduceIte, upd_same, not_true_eq_false, not_false_eq_true, lsO_l, lsO_f, tpO_t, tpO_f, dkO_d, dkO_f, keyO_i, keyO_s, rIxH, rIxU, cLenL, cLenT, cListL, cListT, cTupL, cIntB, cAll, rEqNilI, rEq, rNe, scal_ii, scal_ss, scal_bb, scal_nn, scal_ni, scal_in, scal_ns, scal_sn, gSub, rSetL, ixs0, ixs1, ixs2, seq0, at0, at1, at2, at3, tBM, tBM0, rAppend, rPopAt, tyV_list, tGet2, tGetI, sPut, tMG, rTIdx, tyTup, tTupF, cx_K, cx_w, ex_map_int, ex_nil_int, ex_cons_int, List.map_cons, List.map_nil, List.isEmpty_nil, List.isEmpty_cons, List.eraseIdx_zero, List.tail_cons, List.eraseIdx_cons_zero, HO.lst.injEq, HO.tup.injEq, HO.dK.injEq, HO.frz.injEq, ne_eq, gTupH, gCons, gNil, wipe, tYes, upd_upd, and_assoc, List.getElem?_map, Option.map_some, isn_non_bool, isn_non_int, isn_non_str, isn_non_tuple, isn_non_list, isn_non_dict, isn_bl_bool, isn_bl_int, isn_bl_str, isn_bl_tuple, isn_bl_list, isn_bl_dict, isn_int_bool, isn_int_int, isn_int_str, isn_int_tuple, isn_int_list, isn_int_dict, isn_str_bool, isn_str_int, isn_str_str, isn_str_tuple, isn_str_list, isn_str_dict, isn_lst_bool, isn_lst_int, isn_lst_str, isn_lst_tuple, isn_lst_list, isn_lst_dict, isn_tup_bool, isn_tup_int, isn_tup_str, isn_tup_tuple, isn_tup_list, isn_tup_dict, isn_dct_bool, isn_dct_int, isn_dct_str, isn_dct_tuple, isn_dct_list, isn_dct_dict, okn_bool, okn_int, okn_str, okn_tuple, okn_list, okn_dict, cIsi, tyT_n, tyT_b, tyT_i, tyT_s, tyT_r, V.ty.injEq, tSl, tPart, tNoPart, rSlF, gName, tFld, sFld, tMeth, tMake, tGetT, tInT, tNinT, sPutT, sAugT, tPopT, rLtH, dtO_d, dtO_f, kysO_n, kysO_i, kysO_s, intsV_n, intsV_i, HO.ins.injEq, HO.dT.injEq, tDNewT, rIxLT, cLenLT, tSortP, upd_ne nhl, upd_ne nh, e1]
      refine ⟨n0, n1, ?_⟩
      have fin : ∀ rs : List Int, rs.length ≤ 100000 → Q (.int (c % n)) (upd (upd H p (.lst [])) l (.lst (rs.map V.int))) := fun rs hl =>
        k _ _ (Int.emod_nonneg _ (by omega)) (Int.emod_lt_of_pos _ n0) ⟨rs, st, by rw [upd_ne nhl, upd_ne nh]; exact e1, upd_same, hl⟩ (kp.upd (by simp))
      have hr2 : r.length ≤ 100000 := by
        rw [List.length_cons] at hlen
        omega
      split
      · exact ⟨n0, fin r hr2⟩
      · split
        · exact ⟨n0, fin r hr2⟩
        · exact ⟨n0, fin (c / n :: r) hlen⟩
end

/-! the index: its pairs' list at l, how often each is at d -/
structure IdxP (H : Hp) (l d : Addr) (ps : List Pr) (kvs : List (List Key × V)) (M : List (Int × Int)) : Prop where
  ls : H l = some (.lst (ps.map fun p => V.ref p.1))
  tu : ∀ p ∈ ps, H p.1 = some (.tup [.int p.2.1, .int p.2.2])
  dc : H d = some (.dT kvs)
  ris : Ris2 ps
  mem : ∀ q, q ∈ ps.map (·.2) ↔ q ∈ M
  cnt : ∀ q : Int × Int, valV kvs (ky2 q) = if q ∈ M then some (.int (M.count q)) else none
  nd : (kvs.map (·.1)).Nodup
  ks : ∀ k ∈ kvs.map (·.1), k ∈ M.map ky2
structure Idx (C : Addr) (H : Hp) (a dx l d : Addr) (M : List (Int × Int)) : Prop where
  ob : H a = some (.ins C dx (fsIndex (.ref l) (.ref d)))
  ex : ∃ ps kvs, IdxP H l d ps kvs M
theorem IdxP.keep {H H' : Hp} {l d : Addr} {ps : List Pr} {kvs : List (List Key × V)} {M : List (Int × Int)} (I : IdxP H l d ps kvs M) (k : ∀ b o, (b = l ∨ b = d ∨ ∃ xs, o = .tup xs) → H b = some o → H' b = some o) : IdxP H' l d ps kvs M :=
  ⟨k _ _ (.inl rfl) I.ls, fun p hp => k _ _ (.inr (.inr ⟨_, rfl⟩)) (I.tu p hp), k _ _ (.inr (.inl rfl)) I.dc, I.ris, I.mem, I.cnt, I.nd, I.ks⟩
theorem Idx.keep {C : Addr} {H H' : Hp} {a dx l d : Addr} {M : List (Int × Int)} (I : Idx C H a dx l d M) (k : ∀ b o, (b = a ∨ b = l ∨ b = d ∨ ∃ xs, o = .tup xs) → H b = some o → H' b = some o) : Idx C H' a dx l d M := by
  obtain ⟨ps, kvs, P⟩ := I.ex
  exact ⟨k _ _ (.inl rfl) I.ob, ps, kvs, P.keep fun b o h e => k b o (.inr h) e⟩
theorem Idx.same {C : Addr} {H H' : Hp} {a dx l d : Addr} {M : List (Int × Int)} (I : Idx C H a dx l d M) (k : Same H H') : Idx C H' a dx l d M := I.keep fun b o _ e => k b o e
theorem IdxP.few {H : Hp} {l d : Addr} {ps : List Pr} {kvs : List (List Key × V)} {M : List (Int × Int)} (I : IdxP H l d ps kvs M) : ps.length ≤ M.length ∧ kvs.length ≤ M.length := by
  constructor
  · have h := nodup_few (ps.map (·.2)) M I.ris.nd fun x hx => (I.mem x).mp hx
    rw [List.length_map] at h
    exact h
  · have h := nodup_few (kvs.map (·.1)) _ I.nd I.ks
    rw [List.length_map, List.length_map] at h
    exact h
/-- how many of a rising list are less than a pair -/
def spPlace : Sp := fun vs H Q _ => ∃ (l b : Addr) (ps : List Pr) (xs : List V) (ms : List Int), vs = [.ref l, .ref b] ∧ H l = some (.lst (ps.map fun p => V.ref p.1)) ∧ (∀ p ∈ ps, H p.1 = some (.tup [.int p.2.1, .int p.2.2])) ∧ H b = some (.tup xs) ∧ intsV xs = some ms ∧
  ps.length ≤ 1000000 ∧ (∀ (i j : Nat) (p q : Pr), i < j → ps[i]? = some p → ps[j]? = some q → HT.lexLt [q.2.1, q.2.2] ms = true → HT.lexLt [p.2.1, p.2.2] ms = true) ∧ ∀ k : Nat, Cut ps (fun p => HT.lexLt [p.2.1, p.2.2] ms) k → Q (.int k) H
def spIdxInit (C : Addr) : Sp := fun vs H Q _ => ∃ (p dx : Addr), vs = [.ref p] ∧ H p = some (.ins C dx []) ∧ ∀ (l d : Addr) (H' : Hp), H l = none → H d = none → l ≠ d → Idx C H' p dx l d [] → (∀ b o, H b = some o → b ≠ p → H' b = some o) → Q .non H'
def spIdxAdd (C : Addr) : Sp := fun vs H Q _ => ∃ (a dx l d : Addr) (w k : Int) (M : List (Int × Int)), vs = [.ref a, .int w, .int k] ∧ Idx C H a dx l d M ∧ M.length ≤ 90000 ∧ ∀ H', Idx C H' a dx l d ((w, k) :: M) → Keep [l, d] H H' → Q .non H'
def spIdxLose (C : Addr) : Sp := fun vs H Q _ => ∃ (a dx l d : Addr) (w k : Int) (M : List (Int × Int)), vs = [.ref a, .int w, .int k] ∧ Idx C H a dx l d M ∧ M.length ≤ 90000 ∧ (w, k) ∈ M ∧ ∀ H', Idx C H' a dx l d (M.erase (w, k)) → Keep [l, d] H H' → Q .non H'
def spIdxBtw (C : Addr) : Sp := fun vs H Q _ => ∃ (a dx l d : Addr) (lo hi : OI) (M : List (Int × Int)), vs = [.ref a, oi lo, oi hi] ∧ Idx C H a dx l d M ∧ M.length ≤ 90000 ∧
  ∀ H' r (rs : List Pr), H r = none → Same H H' → H' r = some (.lst (rs.map fun p => V.ref p.1)) → (∀ p ∈ rs, H p.1 = some (.tup [.int p.2.1, .int p.2.2])) → Ris2 rs → rs.length ≤ M.length → (∀ q, q ∈ rs.map (·.2) ↔ q ∈ M ∧ btw q.1 lo hi = true) → Q (.ref r) H'
section
variable {P : Program} {w : World} {K : PySem.W.Frag} {mg : Str → Option Value} {base : Heap}
theorem ok_place_in (T : Txt K mg) : FnOk P w K mg base CX0 1 T.f_place_in T.fd_place_in ["pairs", "pair"] spPlace := by
  refine T.F_place_in.ok sc_place_in (fun vs H Q E h => ?_) (fun cdv A outer s H vs Q E hr h => ?_)
  · obtain ⟨l, b, ps, xs, ms, rfl, _⟩ := h
    rfl
  · have hu := hu_of hr
    have hu00 := hu00_of hr
    obtain ⟨l, b, ps, xs, ms, rfl, hl, ht, hb, hm, hz, hmono, k⟩ := h
    refine ⟨_, (pss_cons (ps_par (i := 2) (j := 3) rfl sc_place_in.nd rfl rfl (by decide) rfl rfl (pa_cons pe_int (pa_cons (pe_callB len_lst (by rfl) T.n_len PySem.boot_len (pa_cons (pv 0) pa_nil)) pa_nil)) (by rfl))
      (pss_cons (ps_while PassesOwn.never (pt_cmpR op_lt (pv 2) (pv 3) (nomark _)) (pss_cons (ps_set (i := 4) sc_place_in.nd rfl (Or.inl rfl) (pe_op op_fdiv (pe_op op_add (pv 2) (pv 3)) pe_int))
        (pss_one (ps_if (pt_cmpR (op_ltTH hu00) (pe_ix ix_lst (pv 0) (pv 4) (fun _ _ => rfl)) (pv 1) (nomark _)) (pss_one (ps_set (i := 2) sc_place_in.nd rfl (Or.inl rfl) (pe_op op_add (pv 4) pe_int))) (pss_one (ps_set (i := 3) sc_place_in.nd rfl (Or.inl rfl) (pv 4)))))))
      (pss_one (ps_ret (pv 2))))), ?_⟩
    rw [show L2.start N_place_in [V.ref l, V.ref b] = [some (V.ref l), some (V.ref b), none, none, none] from rfl]
    simp only [tVar, tC, tOp, rI, rI0, rU, tTest, tB, tAnd, tOr, tNot, tAndV, tOrV, tNotV, tIf, tNil, tCons, tTup, tLst, tCB, tSeq, tAsg, gName, tRet, tRetN, tIfS, tNext, tDrop, tCall, tUn, tPar, CMul, CDiv, V.int.injEq, V.bl.injEq, V.ref.injEq, V.str.injEq, Option.some.injEq, List.cons.injEq, and_true, true_and, and_false, false_and, or_false, false_or, or_true, true_or, exists_eq_left', exists_eq_left, exists_and_left, exists_and_right, exists_eq', exists_eq, exists_false, exists_const, List.getElem?_cons_succ, List.getElem?_cons_zero, List.set_cons_succ, List.set_cons_zero, List.length_cons, List.length_nil, List.cons_append, List.nil_append, List.append_nil, reduceCtorEq, Int.reduceLT, Int.reduceLE, Int.reduceNeg, Int.reducePow, Int.reduceSub, Int.reduceAdd, Nat.reduceAdd, Nat.reduceLeDiff, Bool.not_true, Bool.not_false, decide_true, decide_false, Bool.false_eq_true, ↓reduceIte, upd_same, not_true_eq_false, not_false_eq_true, lsO_l, lsO_f, tpO_t, tpO_f, dkO_d, dkO_f, keyO_i, keyO_s, rIxH, rIxU, cLenL, cLenT, cListL, cListT, cTupL, cIntB, cAll, rEqNilI, rEq, rNe, scal_ii, scal_ss, scal_bb, scal_nn, scal_ni, scal_in, scal_ns, scal_sn, gSub, rSetL, ixs0, ixs1, ixs2, seq0, at0, at1, at2, at3, tBM, tBM0, rAppend, rPopAt, tyV_list, tGet2, tGetI, sPut, tMG, rTIdx, tyTup, tTupF, cx_K, cx_w, ex_map_int, ex_nil_int, ex_cons_int, List.map_cons, List.map_nil, List.isEmpty_nil, List.isEmpty_cons, List.eraseIdx_zero, List.tail_cons, List.eraseIdx_cons_zero, HO.lst.injEq, HO.tup.injEq, HO.dK.injEq, HO.frz.injEq, ne_eq, gTupH, gCons, gNil, wipe, tYes, upd_upd, and_assoc, List.getElem?_map, Option.map_some, isn_non_bool, isn_non_int, isn_non_str, isn_non_tuple, isn_non_list, isn_non_dict, isn_bl_bool, isn_bl_int, isn_bl_str, isn_bl_tuple, isn_bl_list, isn_bl_dict, isn_int_bool, isn_int_int, isn_int_str, isn_int_tuple, isn_int_list, isn_int_dict, isn_str_bool, isn_str_int, isn_str_str, isn_str_tuple, isn_str_list, isn_str_dict, isn_lst_bool, isn_lst_int, isn_lst_str, isn_lst_tuple, isn_lst_list, isn_lst_dict, isn_tup_bool, isn_tup_int, isn_tup_str, isn_tup_tuple, isn_tup_list, isn_tup_dict, isn_dct_bool, isn_dct_int, isn_dct_str, isn_dct_tuple, isn_dct_list, isn_dct_dict, okn_bool, okn_int, okn_str, okn_tuple, okn_list, okn_dict, cIsi, tyT_n, tyT_b, tyT_i, tyT_s, tyT_r, V.ty.injEq, tSl, tPart, tNoPart, rSlF, gName, tFld, sFld, tMeth, tMake, tGetT, tInT, tNinT, sPutT, sAugT, tPopT, rLtH, dtO_d, dtO_f, kysO_n, kysO_i, kysO_s, intsV_n, intsV_i, HO.ins.injEq, HO.dT.injEq, tDNewT, rIxLT, cLenLT, tSortP, hl]
    refine while_by (fun σ H2 => ∃ (lo hi : Nat) (v : Option V), σ = [some (.ref l), some (.ref b), some (.int lo), some (.int hi), v] ∧ H2 = H ∧ lo ≤ hi ∧ hi ≤ ps.length ∧ (∀ i x, i < lo → ps[i]? = some x → HT.lexLt [x.2.1, x.2.2] ms = true) ∧ (∀ i x, hi ≤ i → ps[i]? = some x → HT.lexLt [x.2.1, x.2.2] ms = false))
      (fun σ _ => match σ with | [_, _, some (.int lo), some (.int hi), _] => (hi - lo).toNat | _ => 0)
      ⟨0, ps.length, none, by simp, rfl, Nat.zero_le _, Nat.le_refl _, fun i x h => absurd h (Nat.not_lt_zero _), fun i x h e => by rw [List.getElem?_eq_none h] at e; cases e⟩ ?_ ?_
    · rintro σ H2 ⟨lo, hi, v, rfl, rfl, h1, h2, h3, h4⟩
      simp only [tVar, tC, tOp, rI, rI0, rU, tTest, tB, tAnd, tOr, tNot, tAndV, tOrV, tNotV, tIf, tNil, tCons, tTup, tLst, tCB, tSeq, tAsg, gName, tRet, tRetN, tIfS, tNext, tDrop, tCall, tUn, tPar, CMul, CDiv, V.int.injEq, V.bl.injEq, V.ref.injEq, V.str.injEq, Option.some.injEq, List.cons.injEq, and_true, true_and, and_false, false_and, or_false, false_or, or_true, true_or, exists_eq_left', exists_eq_left, exists_and_left, exists_and_right, exists_eq', exists_eq, exists_false, exists_const, List.getElem?_cons_succ, List.getElem?_cons_zero, List.set_cons_succ, List.set_cons_zero, List.length_cons, List.length_nil, List.cons_append, List.nil_append, List.append_nil, reduceCtorEq, Int.reduceLT, Int.reduceLE, Int.reduceNeg, Int.reducePow, Int.reduceSub, Int.reduceAdd, Nat.reduceAdd, Nat.reduceLeDiff, Bool.not_true, Bool.not_false, decide_true, decide_false, Bool.false_eq_true, ↓reduceIte, upd_same, not_true_eq_false, not_false_eq_true, lsO_l, lsO_f, tpO_t, tpO_f, dkO_d, dkO_f, keyO_i, keyO_s, rIxH, rIxU, cLenL, cLenT, cListL, cListT, cTupL, cIntB, cAll, rEqNilI, rEq, rNe, scal_ii, scal_ss, scal_bb, scal_nn, scal_ni, scal_in, scal_ns, scal_sn, gSub, rSetL, ixs0, ixs1, ixs2, seq0, at0, at1, at2, at3, tBM, tBM0, rAppend, rPopAt, tyV_list, tGet2, tGetI, sPut, tMG, rTIdx, tyTup, tTupF, cx_K, cx_w, ex_map_int, ex_nil_int, ex_cons_int, List.map_cons, List.map_nil, List.isEmpty_nil, List.isEmpty_cons, List.eraseIdx_zero, List.tail_cons, List.eraseIdx_cons_zero, HO.lst.injEq, HO.tup.injEq, HO.dK.injEq, HO.frz.injEq, ne_eq, gTupH, gCons, gNil, wipe, tYes, upd_upd, and_assoc, List.getElem?_map, Option.map_some, isn_non_bool, isn_non_int, isn_non_str, isn_non_tuple, isn_non_list, isn_non_dict, isn_bl_bool, isn_bl_int, isn_bl_str, isn_bl_tuple, isn_bl_list, isn_bl_dict, isn_int_bool, isn_int_int, isn_int_str, isn_int_tuple, isn_int_list, isn_int_dict, isn_str_bool, isn_str_int, isn_str_str, isn_str_tuple, isn_str_list, isn_str_dict, isn_lst_bool, isn_lst_int, isn_lst_str, isn_lst_tuple, isn_lst_list, isn_lst_dict, isn_tup_bool, isn_tup_int, isn_tup_str, isn_tup_tuple, isn_tup_list, isn_tup_dict, isn_dct_bool, isn_dct_int, isn_dct_str, isn_dct_tuple, isn_dct_list, isn_dct_dict, okn_bool, okn_int, okn_str, okn_tuple, okn_list, okn_dict, cIsi, tyT_n, tyT_b, tyT_i, tyT_s, tyT_r, V.ty.injEq, tSl, tPart, tNoPart, rSlF, gName, tFld, sFld, tMeth, tMake, tGetT, tInT, tNinT, sPutT, sAugT, tPopT, rLtH, dtO_d, dtO_f, kysO_n, kysO_i, kysO_s, intsV_n, intsV_i, HO.ins.injEq, HO.dT.injEq, tDNewT, rIxLT, cLenLT, tSortP]
      by_cases hc : lo < hi
      · have hc' : (lo : Int) < hi := by omega
        rw [if_pos (decide_eq_true hc')]
        have hm1 : lo ≤ (lo + hi) / 2 := by omega
        have hm2 : (lo + hi) / 2 < hi := by omega
        have hme : ((lo : Int) + hi) / 2 = (((lo + hi) / 2 : Nat) : Int) := by omega
        generalize (lo + hi) / 2 = m at hm1 hm2 hme
        have hml : m < ps.length := by omega
        have hp : ps[m]? = some ps[m] := List.getElem?_eq_getElem hml
        have htp := ht _ (List.getElem_mem hml)
        generalize ps[m] = p at hp htp
        have hat : atI (ps.map fun p => V.ref p.1) ((m : Nat) : Int) = some (V.ref p.1) := atI_nat (by rw [List.getElem?_map, hp]; rfl)
        simp only [tVar, tC, tOp, rI, rI0, rU, tTest, tB, tAnd, tOr, tNot, tAndV, tOrV, tNotV, tIf, tNil, tCons, tTup, tLst, tCB, tSeq, tAsg, gName, tRet, tRetN, tIfS, tNext, tDrop, tCall, tUn, tPar, CMul, CDiv, V.int.injEq, V.bl.injEq, V.ref.injEq, V.str.injEq, Option.some.injEq, List.cons.injEq, and_true, true_and, and_false, false_and, or_false, false_or, or_true, true_or, exists_eq_left', exists_eq_left, exists_and_left, exists_and_right, exists_eq', exists_eq, exists_false, exists_const, List.getElem?_cons_succ, List.getElem?_cons_zero, List.set_cons_succ, List.set_cons_zero, List.length_cons, List.length_nil, List.cons_append, List.nil_append, List.append_nil, reduceCtorEq, Int.reduceLT, Int.reduceLE, Int.reduceNeg, Int.reducePow, Int.reduceSub, Int.reduceAdd, Nat.reduceAdd, Nat.reduceLeDiff, Bool.not_true, Bool.not_false, decide_true, decide_false, Bool.false_eq_true, ↓reduceIte, upd_same, not_true_eq_false, not_false_eq_true, lsO_l, lsO_f, tpO_t, tpO_f, dkO_d, dkO_f, keyO_i, keyO_s, rIxH, rIxU, cLenL, cLenT, cListL, cListT, cTupL, cIntB, cAll, rEqNilI, rEq, rNe, scal_ii, scal_ss, scal_bb, scal_nn, scal_ni, scal_in, scal_ns, scal_sn, gSub, rSetL, ixs0, ixs1, ixs2, seq0, at0, at1, at2, at3, tBM, tBM0, rAppend, rPopAt, tyV_list, tGet2, tGetI, sPut, tMG, rTIdx, tyTup, tTupF, cx_K, cx_w, ex_map_int, ex_nil_int, ex_cons_int, List.map_cons, List.map_nil, List.isEmpty_nil, List.isEmpty_cons, List.eraseIdx_zero, List.tail_cons, List.eraseIdx_cons_zero, HO.lst.injEq, HO.tup.injEq, HO.dK.injEq, HO.frz.injEq, ne_eq, gTupH, gCons, gNil, wipe, tYes, upd_upd, and_assoc, List.getElem?_map, Option.map_some, isn_non_bool, isn_non_int, isn_non_str, isn_non_tuple, isn_non_list, isn_non_dict, isn_bl_bool, isn_bl_int, isn_bl_str, isn_bl_tuple, isn_bl_list, isn_bl_dict, isn_int_bool, isn_int_int, isn_int_str, isn_int_tuple, isn_int_list, isn_int_dict, isn_str_bool, isn_str_int, isn_str_str, isn_str_tuple, isn_str_list, isn_str_dict, isn_lst_bool, isn_lst_int, isn_lst_str, isn_lst_tuple, isn_lst_list, isn_lst_dict, isn_tup_bool, isn_tup_int, isn_tup_str, isn_tup_tuple, isn_tup_list, isn_tup_dict, isn_dct_bool, isn_dct_int, isn_dct_str, isn_dct_tuple, isn_dct_list, isn_dct_dict, okn_bool, okn_int, okn_str, okn_tuple, okn_list, okn_dict, cIsi, tyT_n, tyT_b, tyT_i, tyT_s, tyT_r, V.ty.injEq, tSl, tPart, tNoPart, rSlF, gName, tFld, sFld, tMeth, tMake, tGetT, tInT, tNinT, sPutT, sAugT, tPopT, rLtH, dtO_d, dtO_f, kysO_n, kysO_i, kysO_s, intsV_n, intsV_i, HO.ins.injEq, HO.dT.injEq, tDNewT, rIxLT, cLenLT, tSortP, hl, hme, hat, htp, hb, hm, intsV_n]
        by_cases hx : HT.lexLt [p.2.1, p.2.2] ms = true
        · rw [if_pos hx]
          refine ⟨⟨m + 1, by omega, hi, rfl, by omega, h2, fun i x hi' e => ?_, h4⟩, by omega⟩
          by_cases hi2 : i = m
          · rw [hi2, hp] at e
            cases e
            exact hx
          · exact hmono i m x p (by omega) e hp hx
        · rw [if_neg hx]
          have hx := Bool.eq_false_iff.mpr hx
          refine ⟨⟨lo, rfl, m, rfl, hm1, by omega, h3, fun i x hi' e => ?_⟩, by omega⟩
          by_cases hi2 : i = m
          · rw [hi2, hp] at e
            cases e
            exact hx
          · cases hy : HT.lexLt [x.2.1, x.2.2] ms with
            | false => rfl
            | true => rw [hmono m i p x (by omega) hp e hy] at hx; cases hx
      · have hc' : ¬ (lo : Int) < hi := by omega
        rw [if_neg (by simp [hc'])]
        have e : lo = hi := by omega
        subst e
        exact k lo ⟨h2, h3, h4⟩
    · intro σ H2 Q1 Q2 hq h
      simp only [tTest, tOp, tVar, rI0, op_lt] at h ⊢
      obtain ⟨x, h1, y, h2, h3⟩ := h
      refine ⟨x, h1, y, h2, ?_⟩
      obtain ⟨i, j, e1, e2, c, e3, h4⟩ := h3
      exact ⟨i, j, e1, e2, c, e3, hq _ _ h4⟩
end

section
variable {P : Program} {w : World} {K : PySem.W.Frag} {mg : Str → Option Value} {base : Heap}
theorem ok_Index_init (T : Txt K mg) : FnOk P w K mg base CX0 1 T.f_Index_init T.fd_Index_init ["self"] (spIdxInit T.C_Index) := by
  refine T.F_Index_init.ok sc_Index_init (fun vs H Q E h => ?_) (fun cdv A outer s H vs Q E hr h => ?_)
  · obtain ⟨p, dx, rfl, _⟩ := h
    rfl
  · obtain ⟨p, dx, rfl, hp, k⟩ := h
    refine ⟨_, (pss_cons (ps_fld (pv 0) (pe_lst pa_nil) rfl)
      (pss_one (ps_fld (pv 0) pe_dnewT rfl))), ?_⟩
    rw [show L2.start N_Index_init [V.ref p] = [some (V.ref p)] from rfl]
    simp only [tVar, tC, tOp, rI, rI0, rU, tTest, tB, tAnd, tOr, tNot, tAndV, tOrV, tNotV, tIf, tNil, tCons, tTup, tLst, tCB, tSeq, tAsg, gName, tRet, tRetN, tIfS, tNext, tDrop, tCall, tUn, tPar, CMul, CDiv, V.int.injEq, V.bl.injEq, V.ref.injEq, V.str.injEq, Option.some.injEq, List.cons.injEq, and_true, true_and, and_false, false_and, or_false, false_or, or_true, true_or, exists_eq_left', exists_eq_left, exists_and_left, exists_and_right, exists_eq', exists_eq, exists_false, exists_const, List.getElem?_cons_succ, List.getElem?_cons_zero, List.set_cons_succ, List.set_cons_zero, List.length_cons, List.length_nil, List.cons_append, List.nil_append, List.append_nil, reduceCtorEq, Int.reduceLT, Int.reduceLE, Int.reduceNeg, Int.reducePow, Int.reduceSub, Int.reduceAdd, Nat.reduceAdd, Nat.reduceLeDiff, Bool.not_true, Bool.not_false, decide_true, decide_false, Bool.false_eq_true, ↓reduceIte, upd_same, not_true_eq_false, not_false_eq_true, lsO_l, lsO_f, tpO_t, tpO_f, dkO_d, dkO_f, keyO_i, keyO_s, rIxH, rIxU, cLenL, cLenT, cListL, cListT, cTupL, cIntB, cAll, rEqNilI, rEq, rNe, scal_ii, scal_ss, scal_bb, scal_nn, scal_ni, scal_in, scal_ns, scal_sn, gSub, rSetL, ixs0, ixs1, ixs2, seq0, at0, at1, at2, at3, tBM, tBM0, rAppend, rPopAt, tyV_list, tGet2, tGetI, sPut, tMG, rTIdx, tyTup, tTupF, cx_K, cx_w, ex_map_int, ex_nil_int, ex_cons_int, List.map_cons, List.map_nil, List.isEmpty_nil, List.isEmpty_cons, List.eraseIdx_zero, List.tail_cons, List.eraseIdx_cons_zero, HO.lst.injEq, HO.tup.injEq, HO.dK.injEq, HO.frz.injEq, ne_eq, gTupH, gCons, gNil, wipe, tYes, upd_upd, and_assoc, List.getElem?_map, Option.map_some, isn_non_bool, isn_non_int, isn_non_str, isn_non_tuple, isn_non_list, isn_non_dict, isn_bl_bool, isn_bl_int, isn_bl_str, isn_bl_tuple, isn_bl_list, isn_bl_dict, isn_int_bool, isn_int_int, isn_int_str, isn_int_tuple, isn_int_list, isn_int_dict, isn_str_bool, isn_str_int, isn_str_str, isn_str_tuple, isn_str_list, isn_str_dict, isn_lst_bool, isn_lst_int, isn_lst_str, isn_lst_tuple, isn_lst_list, isn_lst_dict, isn_tup_bool, isn_tup_int, isn_tup_str, isn_tup_tuple, isn_tup_list, isn_tup_dict, isn_dct_bool, isn_dct_int, isn_dct_str, isn_dct_tuple, isn_dct_list, isn_dct_dict, okn_bool, okn_int, okn_str, okn_tuple, okn_list, okn_dict, cIsi, tyT_n, tyT_b, tyT_i, tyT_s, tyT_r, V.ty.injEq, tSl, tPart, tNoPart, rSlF, gName, tFld, sFld, tMeth, tMake, tGetT, tInT, tNinT, sPutT, sAugT, tPopT, rLtH, dtO_d, dtO_f, kysO_n, kysO_i, kysO_s, intsV_n, intsV_i, HO.ins.injEq, HO.dT.injEq, tDNewT, rIxLT, cLenLT, tSortP]
    refine ⟨szl (by decide), fun l hl => ?_⟩
    have npl : p ≠ l := ne_of_none hp hl
    simp only [tVar, tC, tOp, rI, rI0, rU, tTest, tB, tAnd, tOr, tNot, tAndV, tOrV, tNotV, tIf, tNil, tCons, tTup, tLst, tCB, tSeq, tAsg, gName, tRet, tRetN, tIfS, tNext, tDrop, tCall, tUn, tPar, CMul, CDiv, V.int.injEq, V.bl.injEq, V.ref.injEq, V.str.injEq, Option.some.injEq, List.cons.injEq, and_true, true_and, and_false, false_and, or_false, false_or, or_true, true_or, exists_eq_left', exists_eq_left, exists_and_left, exists_and_right, exists_eq', exists_eq, exists_false, exists_const, List.getElem?_cons_succ, List.getElem?_cons_zero, List.set_cons_succ, List.set_cons_zero, List.length_cons, List.length_nil, List.cons_append, List.nil_append, List.append_nil, reduceCtorEq, Int.reduceLT, Int.reduceLE, Int.reduceNeg, Int.reducePow, Int.reduceSub, Int.reduceAdd, Nat.reduceAdd, Nat.reduceLeDiff, Bool.not_true, Bool.not_false, decide_true, decide_false, Bool.false_eq_true, ↓reduceIte, upd_same, not_true_eq_false, not_false_eq_true, lsO_l, lsO_f, tpO_t, tpO_f, dkO_d, dkO_f, keyO_i, keyO_s, rIxH, rIxU, cLenL, cLenT, cListL, cListT, cTupL, cIntB, cAll, rEqNilI, rEq, rNe, scal_ii, scal_ss, scal_bb, scal_nn, scal_ni, scal_in, scal_ns, scal_sn, gSub, rSetL, ixs0, ixs1, ixs2, seq0, at0, at1, at2, at3, tBM, tBM0, rAppend, rPopAt, tyV_list, tGet2, tGetI, sPut, tMG, rTIdx, tyTup, tTupF, cx_K, cx_w, ex_map_int, ex_nil_int, ex_cons_int, List.map_cons, List.map_nil, List.isEmpty_nil, List.isEmpty_cons, List.eraseIdx_zero, List.tail_cons, List.eraseIdx_cons_zero, HO.lst.injEq, HO.tup.injEq, HO.dK.injEq, HO.frz.injEq, ne_eq, gTupH, gCons, gNil, wipe, tYes, upd_upd, and_assoc, List.getElem?_map, Option.map_some, isn_non_bool, isn_non_int, isn_non_str, isn_non_tuple, isn_non_list, isn_non_dict, isn_bl_bool, isn_bl_int, isn_bl_str, isn_bl_tuple, isn_bl_list, isn_bl_dict, isn_int_bool, isn_int_int, isn_int_str, isn_int_tuple, isn_int_list, isn_int_dict, isn_str_bool, isn_str_int, isn_str_str, isn_str_tuple, isn_str_list, isn_str_dict, isn_lst_bool, isn_lst_int, isn_lst_str, isn_lst_tuple, isn_lst_list, isn_lst_dict, isn_tup_bool, isn_tup_int, isn_tup_str, isn_tup_tuple, isn_tup_list, isn_tup_dict, isn_dct_bool, isn_dct_int, isn_dct_str, isn_dct_tuple, isn_dct_list, isn_dct_dict, okn_bool, okn_int, okn_str, okn_tuple, okn_list, okn_dict, cIsi, tyT_n, tyT_b, tyT_i, tyT_s, tyT_r, V.ty.injEq, tSl, tPart, tNoPart, rSlF, gName, tFld, sFld, tMeth, tMake, tGetT, tInT, tNinT, sPutT, sAugT, tPopT, rLtH, dtO_d, dtO_f, kysO_n, kysO_i, kysO_s, intsV_n, intsV_i, HO.ins.injEq, HO.dT.injEq, tDNewT, rIxLT, cLenLT, tSortP, lkIndex_pairs, lkIndex_many, noIndex_add, noIndex_lose, noIndex_between, inIndex_pairs, inIndex_many, puIndex_pairs, puIndex_many, lnIndex, lpIndex1, l0Index, T.cl_Index, T.na_Index_pairs, T.na_Index_many, upd_ne npl, hp]
    intro d hd
    have npd : p ≠ d := fun e => by rw [e, upd_same] at hd; cases hd
    have nld : l ≠ d := ne_of_none (upd_ne npl.symm ▸ upd_same : upd (upd H l (.lst [])) p (.ins T.C_Index dx (fpIndex1 (.ref l))) l = some (.lst [])) hd
    have hd0 : H d = none := by rw [upd_ne npd.symm, upd_ne nld.symm] at hd; exact hd
    simp only [tVar, tC, tOp, rI, rI0, rU, tTest, tB, tAnd, tOr, tNot, tAndV, tOrV, tNotV, tIf, tNil, tCons, tTup, tLst, tCB, tSeq, tAsg, gName, tRet, tRetN, tIfS, tNext, tDrop, tCall, tUn, tPar, CMul, CDiv, V.int.injEq, V.bl.injEq, V.ref.injEq, V.str.injEq, Option.some.injEq, List.cons.injEq, and_true, true_and, and_false, false_and, or_false, false_or, or_true, true_or, exists_eq_left', exists_eq_left, exists_and_left, exists_and_right, exists_eq', exists_eq, exists_false, exists_const, List.getElem?_cons_succ, List.getElem?_cons_zero, List.set_cons_succ, List.set_cons_zero, List.length_cons, List.length_nil, List.cons_append, List.nil_append, List.append_nil, reduceCtorEq, Int.reduceLT, Int.reduceLE, Int.reduceNeg, Int.reducePow, Int.reduceSub, Int.reduceAdd, Nat.reduceAdd, Nat.reduceLeDiff, Bool.not_true, Bool.not_false, decide_true, decide_false, Bool.false_eq_true, ↓reduceIte, upd_same, not_true_eq_false, not_false_eq_true, lsO_l, lsO_f, tpO_t, tpO_f, dkO_d, dkO_f, keyO_i, keyO_s, rIxH, rIxU, cLenL, cLenT, cListL, cListT, cTupL, cIntB, cAll, rEqNilI, rEq, rNe, scal_ii, scal_ss, scal_bb, scal_nn, scal_ni, scal_in, scal_ns, scal_sn, gSub, rSetL, ixs0, ixs1, ixs2, seq0, at0, at1, at2, at3, tBM, tBM0, rAppend, rPopAt, tyV_list, tGet2, tGetI, sPut, tMG, rTIdx, tyTup, tTupF, cx_K, cx_w, ex_map_int, ex_nil_int, ex_cons_int, List.map_cons, List.map_nil, List.isEmpty_nil, List.isEmpty_cons, List.eraseIdx_zero, List.tail_cons, List.eraseIdx_cons_zero, HO.lst.injEq, HO.tup.injEq, HO.dK.injEq, HO.frz.injEq, ne_eq, gTupH, gCons, gNil, wipe, tYes, upd_upd, and_assoc, List.getElem?_map, Option.map_some, isn_non_bool, isn_non_int, isn_non_str, isn_non_tuple, isn_non_list, isn_non_dict, isn_bl_bool, isn_bl_int, isn_bl_str, isn_bl_tuple, isn_bl_list, isn_bl_dict, isn_int_bool, isn_int_int, isn_int_str, isn_int_tuple, isn_int_list, isn_int_dict, isn_str_bool, isn_str_int, isn_str_str, isn_str_tuple, isn_str_list, isn_str_dict, isn_lst_bool, isn_lst_int, isn_lst_str, isn_lst_tuple, isn_lst_list, isn_lst_dict, isn_tup_bool, isn_tup_int, isn_tup_str, isn_tup_tuple, isn_tup_list, isn_tup_dict, isn_dct_bool, isn_dct_int, isn_dct_str, isn_dct_tuple, isn_dct_list, isn_dct_dict, okn_bool, okn_int, okn_str, okn_tuple, okn_list, okn_dict, cIsi, tyT_n, tyT_b, tyT_i, tyT_s, tyT_r, V.ty.injEq, tSl, tPart, tNoPart, rSlF, gName, tFld, sFld, tMeth, tMake, tGetT, tInT, tNinT, sPutT, sAugT, tPopT, rLtH, dtO_d, dtO_f, kysO_n, kysO_i, kysO_s, intsV_n, intsV_i, HO.ins.injEq, HO.dT.injEq, tDNewT, rIxLT, cLenLT, tSortP, lkIndex_pairs, lkIndex_many, noIndex_add, noIndex_lose, noIndex_between, inIndex_pairs, inIndex_many, puIndex_pairs, puIndex_many, lnIndex, lpIndex1, l0Index, T.cl_Index, T.na_Index_pairs, T.na_Index_many, upd_ne npd]
    refine k l d _ hl hd0 nld ⟨upd_same, [], [], ⟨?_, fun p hp => absurd hp (by simp), ?_, List.Pairwise.nil, fun q => by simp, fun q => by simp [valV], by simp, fun k hk => by simp at hk⟩⟩ fun b o hb nb => ?_
    · rw [upd_ne npl.symm, upd_ne nld, upd_ne npl.symm, upd_same]
      rfl
    · rw [upd_ne npd.symm, upd_same]
    · rw [upd_ne nb, upd_ne (ne_of_none hb hd0), upd_ne nb, upd_ne (ne_of_none hb hl)]
      exact hb
theorem ok_Index_add (T : Txt K mg) : FnOk P w K mg base CX0 2 T.f_Index_add T.fd_Index_add ["self", "worth", "key"] (spIdxAdd T.C_Index) := by
  have G_place_in : FnOk P w K mg base CX0 1 T.f_place_in T.fd_place_in ["pairs", "pair"] spPlace := ok_place_in T
  refine T.F_Index_add.ok sc_Index_add (fun vs H Q E h => ?_) (fun cdv A outer s H vs Q E hr h => ?_)
  · obtain ⟨a, dx, l, d, wo, ke, M, rfl, _⟩ := h
    rfl
  · obtain ⟨a, dx, l, d, wo, ke, M, rfl, I, hM, k⟩ := h
    have hu := hu_of hr
    obtain ⟨hob, ps, kvs, J⟩ := id I
    have hl := J.ls
    have hd := J.dc
    have nld : l ≠ d := ne_of hl hd (by intro z; cases z)
    have nal : a ≠ l := ne_of hob hl (by intro z; cases z)
    have nad : a ≠ d := ne_of hob hd (by intro z; cases z)
    refine ⟨_, (pss_cons (ps_set (i := 3) sc_Index_add.nd rfl (Or.inl rfl) (pe_tup (pa_cons (pv 1) (pa_cons (pv 2) pa_nil))))
      (pss_cons (ps_if (pt_cmp (pc_ninT hu (pv 3) (pe_fldK K rfl (pv 0) rfl)) (by rfl)) (pss_cons (ps_putT hu (pe_fldK K rfl (pv 0) rfl) (pv 3) pe_int rfl)
        (pss_one (ps_expr (pe_bm PySem.F.plainAttrs_list PySem.F.slot_list_insert PySem.F.type_list_insert mt_insert (pe_fldK K rfl (pv 0) rfl) (pa_cons (pe_call G_place_in (hr.mono (by decide)) rfl T.mg_place_in T.F_place_in.kp T.b_place_in .nil pass0 (pa_cons (pe_fldK K rfl (pv 0) rfl) (pa_cons (pv 3) pa_nil))) (pa_cons (pv 3) pa_nil)))))) pss_nil)
      (pss_one (ps_augT (f := fun i j => i + j) hu (pe_fldK K rfl (pv 0) rfl) (pv 3) pe_int in_add (fun i j H Q q => ⟨i, j, rfl, rfl, q⟩) (fun _ _ _ => rfl))))), ?_⟩
    rw [show L2.start N_Index_add [V.ref a, V.int wo, V.int ke] = [some (V.ref a), some (V.int wo), some (V.int ke), none] from rfl]
    simp only [tVar, tC, tOp, rI, rI0, rU, tTest, tB, tAnd, tOr, tNot, tAndV, tOrV, tNotV, tIf, tNil, tCons, tTup, tLst, tCB, tSeq, tAsg, gName, tRet, tRetN, tIfS, tNext, tDrop, tCall, tUn, tPar, CMul, CDiv, V.int.injEq, V.bl.injEq, V.ref.injEq, V.str.injEq, Option.some.injEq, List.cons.injEq, and_true, true_and, and_false, false_and, or_false, false_or, or_true, true_or, exists_eq_left', exists_eq_left, exists_and_left, exists_and_right, exists_eq', exists_eq, exists_false, exists_const, List.getElem?_cons_succ, List.getElem?_cons_zero, List.set_cons_succ, List.set_cons_zero, List.length_cons, List.length_nil, List.cons_append, List.nil_append, List.append_nil, reduceCtorEq, Int.reduceLT, Int.reduceLE, Int.reduceNeg, Int.reducePow, Int.reduceSub, Int.reduceAdd, Nat.reduceAdd, Nat.reduceLeDiff, Bool.not_true, Bool.not_false, decide_true, decide_false, Bool.false_eq_true, ↓reduceIte, upd_same, not_true_eq_false, not_false_eq_true, lsO_l, lsO_f, tpO_t, tpO_f, dkO_d, dkO_f, keyO_i, keyO_s, rIxH, rIxU, cLenL, cLenT, cListL, cListT, cTupL, cIntB, cAll, rEqNilI, rEq, rNe, scal_ii, scal_ss, scal_bb, scal_nn, scal_ni, scal_in, scal_ns, scal_sn, gSub, rSetL, ixs0, ixs1, ixs2, seq0, at0, at1, at2, at3, tBM, tBM0, rAppend, rPopAt, tyV_list, tGet2, tGetI, sPut, tMG, rTIdx, tyTup, tTupF, cx_K, cx_w, ex_map_int, ex_nil_int, ex_cons_int, List.map_cons, List.map_nil, List.isEmpty_nil, List.isEmpty_cons, List.eraseIdx_zero, List.tail_cons, List.eraseIdx_cons_zero, HO.lst.injEq, HO.tup.injEq, HO.dK.injEq, HO.frz.injEq, ne_eq, gTupH, gCons, gNil, wipe, tYes, upd_upd, and_assoc, List.getElem?_map, Option.map_some, isn_non_bool, isn_non_int, isn_non_str, isn_non_tuple, isn_non_list, isn_non_dict, isn_bl_bool, isn_bl_int, isn_bl_str, isn_bl_tuple, isn_bl_list, isn_bl_dict, isn_int_bool, isn_int_int, isn_int_str, isn_int_tuple, isn_int_list, isn_int_dict, isn_str_bool, isn_str_int, isn_str_str, isn_str_tuple, isn_str_list, isn_str_dict, isn_lst_bool, isn_lst_int, isn_lst_str, isn_lst_tuple, isn_lst_list, isn_lst_dict, isn_tup_bool, isn_tup_int, isn_tup_str, isn_tup_tuple, isn_tup_list, isn_tup_dict, isn_dct_bool, isn_dct_int, isn_dct_str, isn_dct_tuple, isn_dct_list, isn_dct_dict, okn_bool, okn_int, okn_str, okn_tuple, okn_list, okn_dict, cIsi, tyT_n, tyT_b, tyT_i, tyT_s, tyT_r, V.ty.injEq, tSl, tPart, tNoPart, rSlF, gName, tFld, sFld, tMeth, tMake, tGetT, tInT, tNinT, sPutT, sAugT, tPopT, rLtH, dtO_d, dtO_f, kysO_n, kysO_i, kysO_s, intsV_n, intsV_i, HO.ins.injEq, HO.dT.injEq, tDNewT, rIxLT, cLenLT, tSortP]
    refine ⟨szl (by decide), fun t ht => ?_⟩
    have nat : a ≠ t := ne_of_none hob ht
    have nlt : l ≠ t := ne_of_none hl ht
    have ndt : d ≠ t := ne_of_none hd ht
    simp only [tVar, tC, tOp, rI, rI0, rU, tTest, tB, tAnd, tOr, tNot, tAndV, tOrV, tNotV, tIf, tNil, tCons, tTup, tLst, tCB, tSeq, tAsg, gName, tRet, tRetN, tIfS, tNext, tDrop, tCall, tUn, tPar, CMul, CDiv, V.int.injEq, V.bl.injEq, V.ref.injEq, V.str.injEq, Option.some.injEq, List.cons.injEq, and_true, true_and, and_false, false_and, or_false, false_or, or_true, true_or, exists_eq_left', exists_eq_left, exists_and_left, exists_and_right, exists_eq', exists_eq, exists_false, exists_const, List.getElem?_cons_succ, List.getElem?_cons_zero, List.set_cons_succ, List.set_cons_zero, List.length_cons, List.length_nil, List.cons_append, List.nil_append, List.append_nil, reduceCtorEq, Int.reduceLT, Int.reduceLE, Int.reduceNeg, Int.reducePow, Int.reduceSub, Int.reduceAdd, Nat.reduceAdd, Nat.reduceLeDiff, Bool.not_true, Bool.not_false, decide_true, decide_false, Bool.false_eq_true, ↓reduceIte, upd_same, not_true_eq_false, not_false_eq_true, lsO_l, lsO_f, tpO_t, tpO_f, dkO_d, dkO_f, keyO_i, keyO_s, rIxH, rIxU, cLenL, cLenT, cListL, cListT, cTupL, cIntB, cAll, rEqNilI, rEq, rNe, scal_ii, scal_ss, scal_bb, scal_nn, scal_ni, scal_in, scal_ns, scal_sn, gSub, rSetL, ixs0, ixs1, ixs2, seq0, at0, at1, at2, at3, tBM, tBM0, rAppend, rPopAt, tyV_list, tGet2, tGetI, sPut, tMG, rTIdx, tyTup, tTupF, cx_K, cx_w, ex_map_int, ex_nil_int, ex_cons_int, List.map_cons, List.map_nil, List.isEmpty_nil, List.isEmpty_cons, List.eraseIdx_zero, List.tail_cons, List.eraseIdx_cons_zero, HO.lst.injEq, HO.tup.injEq, HO.dK.injEq, HO.frz.injEq, ne_eq, gTupH, gCons, gNil, wipe, tYes, upd_upd, and_assoc, List.getElem?_map, Option.map_some, isn_non_bool, isn_non_int, isn_non_str, isn_non_tuple, isn_non_list, isn_non_dict, isn_bl_bool, isn_bl_int, isn_bl_str, isn_bl_tuple, isn_bl_list, isn_bl_dict, isn_int_bool, isn_int_int, isn_int_str, isn_int_tuple, isn_int_list, isn_int_dict, isn_str_bool, isn_str_int, isn_str_str, isn_str_tuple, isn_str_list, isn_str_dict, isn_lst_bool, isn_lst_int, isn_lst_str, isn_lst_tuple, isn_lst_list, isn_lst_dict, isn_tup_bool, isn_tup_int, isn_tup_str, isn_tup_tuple, isn_tup_list, isn_tup_dict, isn_dct_bool, isn_dct_int, isn_dct_str, isn_dct_tuple, isn_dct_list, isn_dct_dict, okn_bool, okn_int, okn_str, okn_tuple, okn_list, okn_dict, cIsi, tyT_n, tyT_b, tyT_i, tyT_s, tyT_r, V.ty.injEq, tSl, tPart, tNoPart, rSlF, gName, tFld, sFld, tMeth, tMake, tGetT, tInT, tNinT, sPutT, sAugT, tPopT, rLtH, dtO_d, dtO_f, kysO_n, kysO_i, kysO_s, intsV_n, intsV_i, HO.ins.injEq, HO.dT.injEq, tDNewT, rIxLT, cLenLT, tSortP, lkIndex_pairs, lkIndex_many, noIndex_add, noIndex_lose, noIndex_between, inIndex_pairs, inIndex_many, puIndex_pairs, puIndex_many, lnIndex, lpIndex1, l0Index, T.cl_Index, T.na_Index_pairs, T.na_Index_many, upd_ne nat, upd_ne ndt, hob, hd]
    by_cases hin : (wo, ke) ∈ M
    · have hv := J.cnt (wo, ke)
      rw [if_pos hin] at hv
      rw [hv]
      simp only [tVar, tC, tOp, rI, rI0, rU, tTest, tB, tAnd, tOr, tNot, tAndV, tOrV, tNotV, tIf, tNil, tCons, tTup, tLst, tCB, tSeq, tAsg, gName, tRet, tRetN, tIfS, tNext, tDrop, tCall, tUn, tPar, CMul, CDiv, V.int.injEq, V.bl.injEq, V.ref.injEq, V.str.injEq, Option.some.injEq, List.cons.injEq, and_true, true_and, and_false, false_and, or_false, false_or, or_true, true_or, exists_eq_left', exists_eq_left, exists_and_left, exists_and_right, exists_eq', exists_eq, exists_false, exists_const, List.getElem?_cons_succ, List.getElem?_cons_zero, List.set_cons_succ, List.set_cons_zero, List.length_cons, List.length_nil, List.cons_append, List.nil_append, List.append_nil, reduceCtorEq, Int.reduceLT, Int.reduceLE, Int.reduceNeg, Int.reducePow, Int.reduceSub, Int.reduceAdd, Nat.reduceAdd, Nat.reduceLeDiff, Bool.not_true, Bool.not_false, decide_true, decide_false, Bool.false_eq_true, ↓reduceIte, upd_same, not_true_eq_false, not_false_eq_true, lsO_l, lsO_f, tpO_t, tpO_f, dkO_d, dkO_f, keyO_i, keyO_s, rIxH, rIxU, cLenL, cLenT, cListL, cListT, cTupL, cIntB, cAll, rEqNilI, rEq, rNe, scal_ii, scal_ss, scal_bb, scal_nn, scal_ni, scal_in, scal_ns, scal_sn, gSub, rSetL, ixs0, ixs1, ixs2, seq0, at0, at1, at2, at3, tBM, tBM0, rAppend, rPopAt, tyV_list, tGet2, tGetI, sPut, tMG, rTIdx, tyTup, tTupF, cx_K, cx_w, ex_map_int, ex_nil_int, ex_cons_int, List.map_cons, List.map_nil, List.isEmpty_nil, List.isEmpty_cons, List.eraseIdx_zero, List.tail_cons, List.eraseIdx_cons_zero, HO.lst.injEq, HO.tup.injEq, HO.dK.injEq, HO.frz.injEq, ne_eq, gTupH, gCons, gNil, wipe, tYes, upd_upd, and_assoc, List.getElem?_map, Option.map_some, isn_non_bool, isn_non_int, isn_non_str, isn_non_tuple, isn_non_list, isn_non_dict, isn_bl_bool, isn_bl_int, isn_bl_str, isn_bl_tuple, isn_bl_list, isn_bl_dict, isn_int_bool, isn_int_int, isn_int_str, isn_int_tuple, isn_int_list, isn_int_dict, isn_str_bool, isn_str_int, isn_str_str, isn_str_tuple, isn_str_list, isn_str_dict, isn_lst_bool, isn_lst_int, isn_lst_str, isn_lst_tuple, isn_lst_list, isn_lst_dict, isn_tup_bool, isn_tup_int, isn_tup_str, isn_tup_tuple, isn_tup_list, isn_tup_dict, isn_dct_bool, isn_dct_int, isn_dct_str, isn_dct_tuple, isn_dct_list, isn_dct_dict, okn_bool, okn_int, okn_str, okn_tuple, okn_list, okn_dict, cIsi, tyT_n, tyT_b, tyT_i, tyT_s, tyT_r, V.ty.injEq, tSl, tPart, tNoPart, rSlF, gName, tFld, sFld, tMeth, tMake, tGetT, tInT, tNinT, sPutT, sAugT, tPopT, rLtH, dtO_d, dtO_f, kysO_n, kysO_i, kysO_s, intsV_n, intsV_i, HO.ins.injEq, HO.dT.injEq, tDNewT, rIxLT, cLenLT, tSortP, Option.isSome_some]
      refine ⟨szl' (by have := J.few; omega), k _ ⟨by rw [upd_ne nad, upd_ne nat]; exact hob, ps, _, ⟨by rw [upd_ne nld, upd_ne nlt]; exact hl, fun p hp => ?_, upd_same, J.ris, fun q => ?_, cnt_add (q := (wo, ke)) J.cnt fun r => valV_put _ _ _ _, nd_put J.nd, ks_add (q := (wo, ke)) J.ks⟩⟩ ((Keep.new ht).upd (by simp))⟩
      · have h1 := J.tu p hp
        rw [upd_ne (ne_of h1 hd (by intro z; cases z)), upd_ne (ne_of_none h1 ht)]
        exact h1
      · rw [J.mem q]
        constructor
        · exact List.mem_cons_of_mem _
        · intro h
          rcases List.mem_cons.mp h with z | z
          · rw [z]; exact hin
          · exact z
    · have hv := J.cnt (wo, ke)
      rw [if_neg hin] at hv
      rw [hv]
      simp only [tVar, tC, tOp, rI, rI0, rU, tTest, tB, tAnd, tOr, tNot, tAndV, tOrV, tNotV, tIf, tNil, tCons, tTup, tLst, tCB, tSeq, tAsg, gName, tRet, tRetN, tIfS, tNext, tDrop, tCall, tUn, tPar, CMul, CDiv, V.int.injEq, V.bl.injEq, V.ref.injEq, V.str.injEq, Option.some.injEq, List.cons.injEq, and_true, true_and, and_false, false_and, or_false, false_or, or_true, true_or, exists_eq_left', exists_eq_left, exists_and_left, exists_and_right, exists_eq', exists_eq, exists_false, exists_const, List.getElem?_cons_succ, List.getElem?_cons_zero, List.set_cons_succ, List.set_cons_zero, List.length_cons, List.length_nil, List.cons_append, List.nil_append, List.append_nil, reduceCtorEq, Int.reduceLT, Int.reduceLE, Int.reduceNeg, Int.reducePow, Int.reduceSub, Int.reduceAdd, Nat.reduceAdd, Nat.reduceLeDiff, Bool.not_true, Bool.not_false, decide_true, decide_false, Bool.false_eq_true, ↓reduceIte, upd_same, not_true_eq_false, not_false_eq_true, lsO_l, lsO_f, tpO_t, tpO_f, dkO_d, dkO_f, keyO_i, keyO_s, rIxH, rIxU, cLenL, cLenT, cListL, cListT, cTupL, cIntB, cAll, rEqNilI, rEq, rNe, scal_ii, scal_ss, scal_bb, scal_nn, scal_ni, scal_in, scal_ns, scal_sn, gSub, rSetL, ixs0, ixs1, ixs2, seq0, at0, at1, at2, at3, tBM, tBM0, rAppend, rPopAt, tyV_list, tGet2, tGetI, sPut, tMG, rTIdx, tyTup, tTupF, cx_K, cx_w, ex_map_int, ex_nil_int, ex_cons_int, List.map_cons, List.map_nil, List.isEmpty_nil, List.isEmpty_cons, List.eraseIdx_zero, List.tail_cons, List.eraseIdx_cons_zero, HO.lst.injEq, HO.tup.injEq, HO.dK.injEq, HO.frz.injEq, ne_eq, gTupH, gCons, gNil, wipe, tYes, upd_upd, and_assoc, List.getElem?_map, Option.map_some, isn_non_bool, isn_non_int, isn_non_str, isn_non_tuple, isn_non_list, isn_non_dict, isn_bl_bool, isn_bl_int, isn_bl_str, isn_bl_tuple, isn_bl_list, isn_bl_dict, isn_int_bool, isn_int_int, isn_int_str, isn_int_tuple, isn_int_list, isn_int_dict, isn_str_bool, isn_str_int, isn_str_str, isn_str_tuple, isn_str_list, isn_str_dict, isn_lst_bool, isn_lst_int, isn_lst_str, isn_lst_tuple, isn_lst_list, isn_lst_dict, isn_tup_bool, isn_tup_int, isn_tup_str, isn_tup_tuple, isn_tup_list, isn_tup_dict, isn_dct_bool, isn_dct_int, isn_dct_str, isn_dct_tuple, isn_dct_list, isn_dct_dict, okn_bool, okn_int, okn_str, okn_tuple, okn_list, okn_dict, cIsi, tyT_n, tyT_b, tyT_i, tyT_s, tyT_r, V.ty.injEq, tSl, tPart, tNoPart, rSlF, gName, tFld, sFld, tMeth, tMake, tGetT, tInT, tNinT, sPutT, sAugT, tPopT, rLtH, dtO_d, dtO_f, kysO_n, kysO_i, kysO_s, intsV_n, intsV_i, HO.ins.injEq, HO.dT.injEq, tDNewT, rIxLT, cLenLT, tSortP, lkIndex_pairs, lkIndex_many, noIndex_add, noIndex_lose, noIndex_between, inIndex_pairs, inIndex_many, puIndex_pairs, puIndex_many, lnIndex, lpIndex1, l0Index, T.cl_Index, T.na_Index_pairs, T.na_Index_many, Option.isSome_none, upd_ne nad, upd_ne nat, hob]
      refine ⟨szl' (by have := J.few; omega), ?_⟩
      have hl1 : upd (upd H t (.tup [.int wo, .int ke])) d (.dT (putK kvs [Sum.inl wo, Sum.inl ke] (.int 0))) l = some (.lst (ps.map fun p => V.ref p.1)) := by
        rw [upd_ne nld, upd_ne nlt]
        exact hl
      have ht1 : upd (upd H t (.tup [.int wo, .int ke])) d (.dT (putK kvs [Sum.inl wo, Sum.inl ke] (.int 0))) t = some (.tup [.int wo, .int ke]) := by
        rw [upd_ne ndt.symm, upd_same]
      refine ⟨.inl ⟨rfl, _, .inl (.inl hl1)⟩, l, t, ps, _, [wo, ke], rfl, hl1, fun p hp => ?_, ht1, rfl, by have := J.few; omega, fun i j p q hij hp hq h => ?_, fun c hc => ?_⟩
      · have h1 := J.tu p hp
        rw [upd_ne (ne_of h1 hd (by intro z; cases z)), upd_ne (ne_of_none h1 ht)]
        exact h1
      · exact lex2.mpr (lt2_trans (ris_at J.ris hp hq hij) (lex2.mp h))
      · have hc' : G7.Cut ps (fun p => decide (lt2 p.2 (wo, ke))) c := ⟨hc.le, fun i x hi e => decide_eq_true (lex2.mp (hc.lo i x hi e)), fun i x hi e => decide_eq_false fun z => by
          have w := hc.hi i x hi e
          rw [show HT.lexLt [x.2.1, x.2.2] [wo, ke] = true from lex2.mpr z] at w
          cases w⟩
        have hnew : (wo, ke) ∉ ps.map (·.2) := fun z => hin ((J.mem _).mp z)
        have hr2 := ris_ins (q := (t, wo, ke)) J.ris hc' hnew
        have hcl := hc.le
        have e0 : (V.int 0 : V) = V.int ((M.count (wo, ke) : Nat) : Int) := by rw [List.count_eq_zero.mpr hin]; rfl
        have et : ∀ xs : List V, List.take c (ps.map fun p => V.ref p.1) ++ [V.ref t] ++ List.drop c (ps.map fun p => V.ref p.1) = (ps.take c ++ [(t, wo, ke)] ++ ps.drop c).map fun p => V.ref p.1 := fun _ => by
          rw [List.map_append, List.map_append, List.map_take, List.map_drop]
          rfl
        have kfew := J.few
        simp only [tVar, tC, tOp, rI, rI0, rU, tTest, tB, tAnd, tOr, tNot, tAndV, tOrV, tNotV, tIf, tNil, tCons, tTup, tLst, tCB, tSeq, tAsg, gName, tRet, tRetN, tIfS, tNext, tDrop, tCall, tUn, tPar, CMul, CDiv, V.int.injEq, V.bl.injEq, V.ref.injEq, V.str.injEq, Option.some.injEq, List.cons.injEq, and_true, true_and, and_false, false_and, or_false, false_or, or_true, true_or, exists_eq_left', exists_eq_left, exists_and_left, exists_and_right, exists_eq', exists_eq, exists_false, exists_const, List.getElem?_cons_succ, List.getElem?_cons_zero, List.set_cons_succ, List.set_cons_zero, List.length_cons, List.length_nil, List.cons_append, List.nil_append, List.append_nil, reduceCtorEq, Int.reduceLT, Int.reduceLE, Int.reduceNeg, Int.reducePow, Int.reduceSub, Int.reduceAdd, Nat.reduceAdd, Nat.reduceLeDiff, Bool.not_true, Bool.not_false, decide_true, decide_false, Bool.false_eq_true, ↓reduceIte, upd_same, not_true_eq_false, not_false_eq_true, lsO_l, lsO_f, tpO_t, tpO_f, dkO_d, dkO_f, keyO_i, keyO_s, rIxH, rIxU, cLenL, cLenT, cListL, cListT, cTupL, cIntB, cAll, rEqNilI, rEq, rNe, scal_ii, scal_ss, scal_bb, scal_nn, scal_ni, scal_in, scal_ns, scal_sn, gSub, rSetL, ixs0, ixs1, ixs2, seq0, at0, at1, at2, at3, tBM, tBM0, rAppend, rPopAt, tyV_list, tGet2, tGetI, sPut, tMG, rTIdx, tyTup, tTupF, cx_K, cx_w, ex_map_int, ex_nil_int, ex_cons_int, List.map_cons, List.map_nil, List.isEmpty_nil, List.isEmpty_cons, List.eraseIdx_zero, List.tail_cons, List.eraseIdx_cons_zero, HO.lst.injEq, HO.tup.injEq, HO.dK.injEq, HO.frz.injEq, ne_eq, gTupH, gCons, gNil, wipe, tYes, upd_upd, and_assoc, List.getElem?_map, Option.map_some, isn_non_bool, isn_non_int, isn_non_str, isn_non_tuple, isn_non_list, isn_non_dict, isn_bl_bool, isn_bl_int, isn_bl_str, isn_bl_tuple, isn_bl_list, isn_bl_dict, isn_int_bool, isn_int_int, isn_int_str, isn_int_tuple, isn_int_list, isn_int_dict, isn_str_bool, isn_str_int, isn_str_str, isn_str_tuple, isn_str_list, isn_str_dict, isn_lst_bool, isn_lst_int, isn_lst_str, isn_lst_tuple, isn_lst_list, isn_lst_dict, isn_tup_bool, isn_tup_int, isn_tup_str, isn_tup_tuple, isn_tup_list, isn_tup_dict, isn_dct_bool, isn_dct_int, isn_dct_str, isn_dct_tuple, isn_dct_list, isn_dct_dict, okn_bool, okn_int, okn_str, okn_tuple, okn_list, okn_dict, cIsi, tyT_n, tyT_b, tyT_i, tyT_s, tyT_r, V.ty.injEq, tSl, tPart, tNoPart, rSlF, gName, tFld, sFld, tMeth, tMake, tGetT, tInT, tNinT, sPutT, sAugT, tPopT, rLtH, dtO_d, dtO_f, kysO_n, kysO_i, kysO_s, intsV_n, intsV_i, HO.ins.injEq, HO.dT.injEq, tDNewT, rIxLT, cLenLT, tSortP, lkIndex_pairs, lkIndex_many, noIndex_add, noIndex_lose, noIndex_between, inIndex_pairs, inIndex_many, puIndex_pairs, puIndex_many, lnIndex, lpIndex1, l0Index, T.cl_Index, T.na_Index_pairs, T.na_Index_many, hl1]
        refine ⟨by rw [List.length_map]; exact szl' (by omega), by omega, by omega, ?_⟩
        simp only [tVar, tC, tOp, rI, rI0, rU, tTest, tB, tAnd, tOr, tNot, tAndV, tOrV, tNotV, tIf, tNil, tCons, tTup, tLst, tCB, tSeq, tAsg, gName, tRet, tRetN, tIfS, tNext, tDrop, tCall, tUn, tPar, CMul, CDiv, V.int.injEq, V.bl.injEq, V.ref.injEq, V.str.injEq, Option.some.injEq, List.cons.injEq, and_true, true_and, and_false, false_and, or_false, false_or, or_true, true_or, exists_eq_left', exists_eq_left, exists_and_left, exists_and_right, exists_eq', exists_eq, exists_false, exists_const, List.getElem?_cons_succ, List.getElem?_cons_zero, List.set_cons_succ, List.set_cons_zero, List.length_cons, List.length_nil, List.cons_append, List.nil_append, List.append_nil, reduceCtorEq, Int.reduceLT, Int.reduceLE, Int.reduceNeg, Int.reducePow, Int.reduceSub, Int.reduceAdd, Nat.reduceAdd, Nat.reduceLeDiff, Bool.not_true, Bool.not_false, decide_true, decide_false, Bool.false_eq_true, ↓reduceIte, upd_same, not_true_eq_false, not_false_eq_true, lsO_l, lsO_f, tpO_t, tpO_f, dkO_d, dkO_f, keyO_i, keyO_s, rIxH, rIxU, cLenL, cLenT, cListL, cListT, cTupL, cIntB, cAll, rEqNilI, rEq, rNe, scal_ii, scal_ss, scal_bb, scal_nn, scal_ni, scal_in, scal_ns, scal_sn, gSub, rSetL, ixs0, ixs1, ixs2, seq0, at0, at1, at2, at3, tBM, tBM0, rAppend, rPopAt, tyV_list, tGet2, tGetI, sPut, tMG, rTIdx, tyTup, tTupF, cx_K, cx_w, ex_map_int, ex_nil_int, ex_cons_int, List.map_cons, List.map_nil, List.isEmpty_nil, List.isEmpty_cons, List.eraseIdx_zero, List.tail_cons, List.eraseIdx_cons_zero, HO.lst.injEq, HO.tup.injEq, HO.dK.injEq, HO.frz.injEq, ne_eq, gTupH, gCons, gNil, wipe, tYes, upd_upd, and_assoc, List.getElem?_map, Option.map_some, isn_non_bool, isn_non_int, isn_non_str, isn_non_tuple, isn_non_list, isn_non_dict, isn_bl_bool, isn_bl_int, isn_bl_str, isn_bl_tuple, isn_bl_list, isn_bl_dict, isn_int_bool, isn_int_int, isn_int_str, isn_int_tuple, isn_int_list, isn_int_dict, isn_str_bool, isn_str_int, isn_str_str, isn_str_tuple, isn_str_list, isn_str_dict, isn_lst_bool, isn_lst_int, isn_lst_str, isn_lst_tuple, isn_lst_list, isn_lst_dict, isn_tup_bool, isn_tup_int, isn_tup_str, isn_tup_tuple, isn_tup_list, isn_tup_dict, isn_dct_bool, isn_dct_int, isn_dct_str, isn_dct_tuple, isn_dct_list, isn_dct_dict, okn_bool, okn_int, okn_str, okn_tuple, okn_list, okn_dict, cIsi, tyT_n, tyT_b, tyT_i, tyT_s, tyT_r, V.ty.injEq, tSl, tPart, tNoPart, rSlF, gName, tFld, sFld, tMeth, tMake, tGetT, tInT, tNinT, sPutT, sAugT, tPopT, rLtH, dtO_d, dtO_f, kysO_n, kysO_i, kysO_s, intsV_n, intsV_i, HO.ins.injEq, HO.dT.injEq, tDNewT, rIxLT, cLenLT, tSortP, lkIndex_pairs, lkIndex_many, noIndex_add, noIndex_lose, noIndex_between, inIndex_pairs, inIndex_many, puIndex_pairs, puIndex_many, lnIndex, lpIndex1, l0Index, T.cl_Index, T.na_Index_pairs, T.na_Index_many, upd_ne nal, upd_ne nad, upd_ne nat, upd_ne nld.symm, hob]
        have ht2 := ht1
        rw [← upd_ne (H := upd (upd H t (.tup [.int wo, .int ke])) d (.dT (putK kvs [Sum.inl wo, Sum.inl ke] (.int 0)))) (o := .lst (List.take (c : Int).toNat (ps.map fun p => V.ref p.1) ++ [V.ref t] ++ List.drop (c : Int).toNat (ps.map fun p => V.ref p.1))) nlt.symm] at ht2
        refine ⟨_, ht2, _, rfl, 0, by rw [valV_put, if_pos rfl], ht2, Nat.lt_of_le_of_lt (length_putK _ _ _) (szl' (by omega)), ?_⟩
        rw [Int.toNat_natCast, et []]
        refine k _ ⟨by rw [upd_ne nad, upd_ne nal, upd_ne nad, upd_ne nat]; exact hob, _, _, ⟨by rw [upd_ne nld, upd_same], fun p hp => ?_, upd_same, hr2, fun q => ?_, cnt_add (q := (wo, ke)) J.cnt fun r => ?_, nd_put (nd_put J.nd), ?_⟩⟩ ((((Keep.new ht).upd (by simp)).upd (by simp)).upd (by simp))
        · have h1 : upd (upd (upd H t (.tup [.int wo, .int ke])) d (.dT (putK kvs [Sum.inl wo, Sum.inl ke] (.int 0)))) l (.lst ((ps.take c ++ [(t, wo, ke)] ++ ps.drop c).map fun p => V.ref p.1)) p.1 = some (.tup [.int p.2.1, .int p.2.2]) := by
            rcases mem_ins3.mp hp with z | z
            · rw [z, upd_ne nlt.symm]
              exact ht1
            · have h1 := J.tu p z
              rw [upd_ne (ne_of h1 hl (by intro z; cases z)), upd_ne (ne_of h1 hd (by intro z; cases z)), upd_ne (ne_of_none h1 ht)]
              exact h1
          rw [upd_ne (ne_of h1 (show upd _ l _ d = some _ by rw [upd_ne nld.symm, upd_same]) (by intro z; cases z))]
          exact h1
        · rw [List.mem_map]
          constructor
          · rintro ⟨x, hx, rfl⟩
            rcases mem_ins3.mp hx with z | z
            · rw [z]; exact List.mem_cons_self
            · exact List.mem_cons_of_mem _ ((J.mem _).mp (List.mem_map.mpr ⟨x, z, rfl⟩))
          · intro h
            rcases List.mem_cons.mp h with z | z
            · exact ⟨(t, wo, ke), mem_ins3.mpr (.inl rfl), z.symm⟩
            · obtain ⟨x, hx, e⟩ := List.mem_map.mp ((J.mem q).mpr z)
              exact ⟨x, mem_ins3.mpr (.inr hx), e⟩
        · rw [valV_put, valV_put, List.count_eq_zero.mpr hin]
          show (if ky2 r = ky2 (wo, ke) then _ else if ky2 r = ky2 (wo, ke) then _ else _) = _
          split <;> rfl
        · intro x hx
          rw [keys_putK, valV_put, if_pos rfl] at hx
          exact ks_add (q := (wo, ke)) J.ks x hx
theorem ok_Index_lose (T : Txt K mg) : FnOk P w K mg base CX0 2 T.f_Index_lose T.fd_Index_lose ["self", "worth", "key"] (spIdxLose T.C_Index) := by
  have G_place_in : FnOk P w K mg base CX0 1 T.f_place_in T.fd_place_in ["pairs", "pair"] spPlace := ok_place_in T
  refine T.F_Index_lose.ok sc_Index_lose (fun vs H Q E h => ?_) (fun cdv A outer s H vs Q E hr h => ?_)
  · obtain ⟨a, dx, l, d, wo, ke, M, rfl, _⟩ := h
    rfl
  · obtain ⟨a, dx, l, d, wo, ke, M, rfl, I, hM, hin, k⟩ := h
    have hu := hu_of hr
    obtain ⟨hob, ps, kvs, J⟩ := id I
    have hl := J.ls
    have hd := J.dc
    have nld : l ≠ d := ne_of hl hd (by intro z; cases z)
    have nal : a ≠ l := ne_of hob hl (by intro z; cases z)
    have nad : a ≠ d := ne_of hob hd (by intro z; cases z)
    have kfew := J.few
    refine ⟨_, (pss_cons (ps_set (i := 3) sc_Index_lose.nd rfl (Or.inl rfl) (pe_tup (pa_cons (pv 1) (pa_cons (pv 2) pa_nil))))
      (pss_cons (ps_augT (f := fun i j => i - j) hu (pe_fldK K rfl (pv 0) rfl) (pv 3) pe_int in_sub (fun i j H Q q => ⟨i, j, rfl, rfl, q⟩) (fun _ _ _ => rfl))
      (pss_one (ps_if (pt_cmpR op_eq (pe_getT hu (pe_fldK K rfl (pv 0) rfl) (pv 3) (fun _ _ => rfl)) pe_int (nomark _)) (pss_cons (ps_expr (pe_popT hu (pe_fldK K rfl (pv 0) rfl) (pv 3) ⟨rfl, rfl, rfl, rfl⟩))
        (pss_one (ps_expr (pe_bm PySem.F.plainAttrs_list PySem.F.slot_list_pop PySem.F.type_list_pop mt_popAt (pe_fldK K rfl (pv 0) rfl) (pa_cons (pe_call G_place_in (hr.mono (by decide)) rfl T.mg_place_in T.F_place_in.kp T.b_place_in .nil pass0 (pa_cons (pe_fldK K rfl (pv 0) rfl) (pa_cons (pv 3) pa_nil))) pa_nil))))) pss_nil)))), ?_⟩
    rw [show L2.start N_Index_lose [V.ref a, V.int wo, V.int ke] = [some (V.ref a), some (V.int wo), some (V.int ke), none] from rfl]
    simp only [tVar, tC, tOp, rI, rI0, rU, tTest, tB, tAnd, tOr, tNot, tAndV, tOrV, tNotV, tIf, tNil, tCons, tTup, tLst, tCB, tSeq, tAsg, gName, tRet, tRetN, tIfS, tNext, tDrop, tCall, tUn, tPar, CMul, CDiv, V.int.injEq, V.bl.injEq, V.ref.injEq, V.str.injEq, Option.some.injEq, List.cons.injEq, and_true, true_and, and_false, false_and, or_false, false_or, or_true, true_or, exists_eq_left', exists_eq_left, exists_and_left, exists_and_right, exists_eq', exists_eq, exists_false, exists_const, List.getElem?_cons_succ, List.getElem?_cons_zero, List.set_cons_succ, List.set_cons_zero, List.length_cons, List.length_nil, List.cons_append, List.nil_append, List.append_nil, reduceCtorEq, Int.reduceLT, Int.reduceLE, Int.reduceNeg, Int.reducePow, Int.reduceSub, Int.reduceAdd, Nat.reduceAdd, Nat.reduceLeDiff, Bool.not_true, Bool.not_false, decide_true, decide_false, Bool.false_eq_true, ↓reduceIte, upd_same, not_true_eq_false, not_false_eq_true, lsO_l, lsO_f, tpO_t, tpO_f, dkO_d, dkO_f, keyO_i, keyO_s, rIxH, rIxU, cLenL, cLenT, cListL, cListT, cTupL, cIntB, cAll, rEqNilI, rEq, rNe, scal_ii, scal_ss, scal_bb, scal_nn, scal_ni, scal_in, scal_ns, scal_sn, gSub, rSetL, ixs0, ixs1, ixs2, seq0, at0, at1, at2, at3, tBM, tBM0, rAppend, rPopAt, tyV_list, tGet2, tGetI, sPut, tMG, rTIdx, tyTup, tTupF, cx_K, cx_w, ex_map_int, ex_nil_int, ex_cons_int, List.map_cons, List.map_nil, List.isEmpty_nil, List.isEmpty_cons, List.eraseIdx_zero, List.tail_cons, List.eraseIdx_cons_zero, HO.lst.injEq, HO.tup.injEq, HO.dK.injEq, HO.frz.injEq, ne_eq, gTupH, gCons, gNil, wipe, tYes, upd_upd, and_assoc, List.getElem?_map, Option.map_some, isn_non_bool, isn_non_int, isn_non_str, isn_non_tuple, isn_non_list, isn_non_dict, isn_bl_bool, isn_bl_int, isn_bl_str, isn_bl_tuple, isn_bl_list, isn_bl_dict, isn_int_bool, isn_int_int, isn_int_str, isn_int_tuple, isn_int_list, isn_int_dict, isn_str_bool, isn_str_int, isn_str_str, isn_str_tuple, isn_str_list, isn_str_dict, isn_lst_bool, isn_lst_int, isn_lst_str, isn_lst_tuple, isn_lst_list, isn_lst_dict, isn_tup_bool, isn_tup_int, isn_tup_str, isn_tup_tuple, isn_tup_list, isn_tup_dict, isn_dct_bool, isn_dct_int, isn_dct_str, isn_dct_tuple, isn_dct_list, isn_dct_dict, okn_bool, okn_int, okn_str, okn_tuple, okn_list, okn_dict, cIsi, tyT_n, tyT_b, tyT_i, tyT_s, tyT_r, V.ty.injEq, tSl, tPart, tNoPart, rSlF, gName, tFld, sFld, tMeth, tMake, tGetT, tInT, tNinT, sPutT, sAugT, tPopT, rLtH, dtO_d, dtO_f, kysO_n, kysO_i, kysO_s, intsV_n, intsV_i, HO.ins.injEq, HO.dT.injEq, tDNewT, rIxLT, cLenLT, tSortP]
    refine ⟨szl (by decide), fun t ht => ?_⟩
    have nat : a ≠ t := ne_of_none hob ht
    have nlt : l ≠ t := ne_of_none hl ht
    have ndt : d ≠ t := ne_of_none hd ht
    have hv := J.cnt (wo, ke)
    rw [if_pos hin] at hv
    have hc1 : 1 ≤ M.count (wo, ke) := List.one_le_count_iff.mpr hin
    have hv1 : valV kvs [Sum.inl wo, Sum.inl ke] = some (.int (M.count (wo, ke))) := hv
    have hv2 : valV (putK kvs [Sum.inl wo, Sum.inl ke] (.int ((M.count (wo, ke) : Int) - 1))) [Sum.inl wo, Sum.inl ke] = some (.int ((M.count (wo, ke) : Int) - 1)) := by rw [valV_put, if_pos rfl]
    simp only [tVar, tC, tOp, rI, rI0, rU, tTest, tB, tAnd, tOr, tNot, tAndV, tOrV, tNotV, tIf, tNil, tCons, tTup, tLst, tCB, tSeq, tAsg, gName, tRet, tRetN, tIfS, tNext, tDrop, tCall, tUn, tPar, CMul, CDiv, V.int.injEq, V.bl.injEq, V.ref.injEq, V.str.injEq, Option.some.injEq, List.cons.injEq, and_true, true_and, and_false, false_and, or_false, false_or, or_true, true_or, exists_eq_left', exists_eq_left, exists_and_left, exists_and_right, exists_eq', exists_eq, exists_false, exists_const, List.getElem?_cons_succ, List.getElem?_cons_zero, List.set_cons_succ, List.set_cons_zero, List.length_cons, List.length_nil, List.cons_append, List.nil_append, List.append_nil, reduceCtorEq, Int.reduceLT, Int.reduceLE, Int.reduceNeg, Int.reducePow, Int.reduceSub, Int.reduceAdd, Nat.reduceAdd, Nat.reduceLeDiff, Bool.not_true, Bool.not_false, decide_true, decide_false, Bool.false_eq_true, ↓reduceIte, upd_same, not_true_eq_false, not_false_eq_true, lsO_l, lsO_f, tpO_t, tpO_f, dkO_d, dkO_f, keyO_i, keyO_s, rIxH, rIxU, cLenL, cLenT, cListL, cListT, cTupL, cIntB, cAll, rEqNilI, rEq, rNe, scal_ii, scal_ss, scal_bb, scal_nn, scal_ni, scal_in, scal_ns, scal_sn, gSub, rSetL, ixs0, ixs1, ixs2, seq0, at0, at1, at2, at3, tBM, tBM0, rAppend, rPopAt, tyV_list, tGet2, tGetI, sPut, tMG, rTIdx, tyTup, tTupF, cx_K, cx_w, ex_map_int, ex_nil_int, ex_cons_int, List.map_cons, List.map_nil, List.isEmpty_nil, List.isEmpty_cons, List.eraseIdx_zero, List.tail_cons, List.eraseIdx_cons_zero, HO.lst.injEq, HO.tup.injEq, HO.dK.injEq, HO.frz.injEq, ne_eq, gTupH, gCons, gNil, wipe, tYes, upd_upd, and_assoc, List.getElem?_map, Option.map_some, isn_non_bool, isn_non_int, isn_non_str, isn_non_tuple, isn_non_list, isn_non_dict, isn_bl_bool, isn_bl_int, isn_bl_str, isn_bl_tuple, isn_bl_list, isn_bl_dict, isn_int_bool, isn_int_int, isn_int_str, isn_int_tuple, isn_int_list, isn_int_dict, isn_str_bool, isn_str_int, isn_str_str, isn_str_tuple, isn_str_list, isn_str_dict, isn_lst_bool, isn_lst_int, isn_lst_str, isn_lst_tuple, isn_lst_list, isn_lst_dict, isn_tup_bool, isn_tup_int, isn_tup_str, isn_tup_tuple, isn_tup_list, isn_tup_dict, isn_dct_bool, isn_dct_int, isn_dct_str, isn_dct_tuple, isn_dct_list, isn_dct_dict, okn_bool, okn_int, okn_str, okn_tuple, okn_list, okn_dict, cIsi, tyT_n, tyT_b, tyT_i, tyT_s, tyT_r, V.ty.injEq, tSl, tPart, tNoPart, rSlF, gName, tFld, sFld, tMeth, tMake, tGetT, tInT, tNinT, sPutT, sAugT, tPopT, rLtH, dtO_d, dtO_f, kysO_n, kysO_i, kysO_s, intsV_n, intsV_i, HO.ins.injEq, HO.dT.injEq, tDNewT, rIxLT, cLenLT, tSortP, lkIndex_pairs, lkIndex_many, noIndex_add, noIndex_lose, noIndex_between, inIndex_pairs, inIndex_many, puIndex_pairs, puIndex_many, lnIndex, lpIndex1, l0Index, T.cl_Index, T.na_Index_pairs, T.na_Index_many, upd_ne nat, upd_ne ndt, hob, hd, hv1]
    refine ⟨szl' (by omega), ?_⟩
    have a1 : upd (upd H t (.tup [.int wo, .int ke])) d (.dT (putK kvs [Sum.inl wo, Sum.inl ke] (.int ((M.count (wo, ke) : Int) - 1)))) a = some (.ins T.C_Index dx (fsIndex (.ref l) (.ref d))) := by rw [upd_ne nad, upd_ne nat]; exact hob
    have l1 : upd (upd H t (.tup [.int wo, .int ke])) d (.dT (putK kvs [Sum.inl wo, Sum.inl ke] (.int ((M.count (wo, ke) : Int) - 1)))) l = some (.lst (ps.map fun p => V.ref p.1)) := by rw [upd_ne nld, upd_ne nlt]; exact hl
    have d1 : upd (upd H t (.tup [.int wo, .int ke])) d (.dT (putK kvs [Sum.inl wo, Sum.inl ke] (.int ((M.count (wo, ke) : Int) - 1)))) d = some (.dT (putK kvs [Sum.inl wo, Sum.inl ke] (.int ((M.count (wo, ke) : Int) - 1)))) := upd_same
    have t1 : upd (upd H t (.tup [.int wo, .int ke])) d (.dT (putK kvs [Sum.inl wo, Sum.inl ke] (.int ((M.count (wo, ke) : Int) - 1)))) t = some (.tup [.int wo, .int ke]) := by rw [upd_ne ndt.symm, upd_same]
    have k1 : Keep [l, d] H (upd (upd H t (.tup [.int wo, .int ke])) d (.dT (putK kvs [Sum.inl wo, Sum.inl ke] (.int ((M.count (wo, ke) : Int) - 1))))) := (Keep.new ht).upd (by simp)
    generalize upd (upd H t (.tup [.int wo, .int ke])) d (.dT (putK kvs [Sum.inl wo, Sum.inl ke] (.int ((M.count (wo, ke) : Int) - 1)))) = H1 at a1 l1 d1 t1 k1 ⊢
    have tu1 : ∀ p ∈ ps, H1 p.1 = some (.tup [.int p.2.1, .int p.2.2]) := fun p hp => by
      have h1 := J.tu p hp
      refine k1 _ _ (fun z => ?_) h1
      rcases List.mem_cons.mp z with z | z
      · exact ne_of h1 hl (by intro z; cases z) z
      · exact ne_of h1 hd (by intro z; cases z) (List.mem_singleton.mp z)
    have hnd := nd_put (k := [(Sum.inl wo : Key), Sum.inl ke]) (v := .int ((M.count (wo, ke) : Int) - 1)) J.nd
    have hks : ∀ x ∈ (putK kvs [(Sum.inl wo : Key), Sum.inl ke] (.int ((M.count (wo, ke) : Int) - 1))).map (·.1), x ∈ M.map ky2 := fun x hx => by
      rw [keys_putK, hv1] at hx
      exact J.ks x hx
    simp only [tVar, tC, tOp, rI, rI0, rU, tTest, tB, tAnd, tOr, tNot, tAndV, tOrV, tNotV, tIf, tNil, tCons, tTup, tLst, tCB, tSeq, tAsg, gName, tRet, tRetN, tIfS, tNext, tDrop, tCall, tUn, tPar, CMul, CDiv, V.int.injEq, V.bl.injEq, V.ref.injEq, V.str.injEq, Option.some.injEq, List.cons.injEq, and_true, true_and, and_false, false_and, or_false, false_or, or_true, true_or, exists_eq_left', exists_eq_left, exists_and_left, exists_and_right, exists_eq', exists_eq, exists_false, exists_const, List.getElem?_cons_succ, List.getElem?_cons_zero, List.set_cons_succ, List.set_cons_zero, List.length_cons, List.length_nil, List.cons_append, List.nil_append, List.append_nil, reduceCtorEq, Int.reduceLT, Int.reduceLE, Int.reduceNeg, Int.reducePow, Int.reduceSub, Int.reduceAdd, Nat.reduceAdd, Nat.reduceLeDiff, Bool.not_true, Bool.not_false, decide_true, decide_false, Bool.false_eq_true, ↓reduceIte, upd_same, not_true_eq_false, not_false_eq_true, lsO_l, lsO_f, tpO_t, tpO_f, dkO_d, dkO_f, keyO_i, keyO_s, rIxH, rIxU, cLenL, cLenT, cListL, cListT, cTupL, cIntB, cAll, rEqNilI, rEq, rNe, scal_ii, scal_ss, scal_bb, scal_nn, scal_ni, scal_in, scal_ns, scal_sn, gSub, rSetL, ixs0, ixs1, ixs2, seq0, at0, at1, at2, at3, tBM, tBM0, rAppend, rPopAt, tyV_list, tGet2, tGetI, sPut, tMG, rTIdx, tyTup, tTupF, cx_K, cx_w, ex_map_int, ex_nil_int, ex_cons_int, List.map_cons, List.map_nil, List.isEmpty_nil, List.isEmpty_cons, List.eraseIdx_zero, List.tail_cons, List.eraseIdx_cons_zero, HO.lst.injEq, HO.tup.injEq, HO.dK.injEq, HO.frz.injEq, ne_eq, gTupH, gCons, gNil, wipe, tYes, upd_upd, and_assoc, List.getElem?_map, Option.map_some, isn_non_bool, isn_non_int, isn_non_str, isn_non_tuple, isn_non_list, isn_non_dict, isn_bl_bool, isn_bl_int, isn_bl_str, isn_bl_tuple, isn_bl_list, isn_bl_dict, isn_int_bool, isn_int_int, isn_int_str, isn_int_tuple, isn_int_list, isn_int_dict, isn_str_bool, isn_str_int, isn_str_str, isn_str_tuple, isn_str_list, isn_str_dict, isn_lst_bool, isn_lst_int, isn_lst_str, isn_lst_tuple, isn_lst_list, isn_lst_dict, isn_tup_bool, isn_tup_int, isn_tup_str, isn_tup_tuple, isn_tup_list, isn_tup_dict, isn_dct_bool, isn_dct_int, isn_dct_str, isn_dct_tuple, isn_dct_list, isn_dct_dict, okn_bool, okn_int, okn_str, okn_tuple, okn_list, okn_dict, cIsi, tyT_n, tyT_b, tyT_i, tyT_s, tyT_r, V.ty.injEq, tSl, tPart, tNoPart, rSlF, gName, tFld, sFld, tMeth, tMake, tGetT, tInT, tNinT, sPutT, sAugT, tPopT, rLtH, dtO_d, dtO_f, kysO_n, kysO_i, kysO_s, intsV_n, intsV_i, HO.ins.injEq, HO.dT.injEq, tDNewT, rIxLT, cLenLT, tSortP, lkIndex_pairs, lkIndex_many, noIndex_add, noIndex_lose, noIndex_between, inIndex_pairs, inIndex_many, puIndex_pairs, puIndex_many, lnIndex, lpIndex1, l0Index, T.cl_Index, T.na_Index_pairs, T.na_Index_many, a1, d1, t1, hv2]
    by_cases hc : M.count (wo, ke) = 1
    · rw [if_pos (decide_eq_true (by omega))]
      generalize hk2 : dropK (putK kvs [(Sum.inl wo : Key), Sum.inl ke] (.int ((M.count (wo, ke) : Int) - 1))) [(Sum.inl wo : Key), Sum.inl ke] = kvs2
      have a2 : upd H1 d (.dT kvs2) a = some (.ins T.C_Index dx (fsIndex (.ref l) (.ref d))) := by rw [upd_ne nad]; exact a1
      have l2 : upd H1 d (.dT kvs2) l = some (.lst (ps.map fun p => V.ref p.1)) := by rw [upd_ne nld]; exact l1
      have t2 : upd H1 d (.dT kvs2) t = some (.tup [.int wo, .int ke]) := by rw [upd_ne (ne_of t1 d1 (by intro z; cases z))]; exact t1
      have tu2 : ∀ p ∈ ps, upd H1 d (.dT kvs2) p.1 = some (.tup [.int p.2.1, .int p.2.2]) := fun p hp => by
        have h1 := tu1 p hp
        rw [upd_ne (ne_of h1 d1 (by intro z; cases z))]
        exact h1
      have d2 : upd H1 d (.dT kvs2) d = some (.dT kvs2) := upd_same
      have k2 : Keep [l, d] H (upd H1 d (.dT kvs2)) := k1.upd (by simp)
      generalize upd H1 d (.dT kvs2) = H2 at a2 l2 t2 tu2 d2 k2 ⊢
      simp only [tVar, tC, tOp, rI, rI0, rU, tTest, tB, tAnd, tOr, tNot, tAndV, tOrV, tNotV, tIf, tNil, tCons, tTup, tLst, tCB, tSeq, tAsg, gName, tRet, tRetN, tIfS, tNext, tDrop, tCall, tUn, tPar, CMul, CDiv, V.int.injEq, V.bl.injEq, V.ref.injEq, V.str.injEq, Option.some.injEq, List.cons.injEq, and_true, true_and, and_false, false_and, or_false, false_or, or_true, true_or, exists_eq_left', exists_eq_left, exists_and_left, exists_and_right, exists_eq', exists_eq, exists_false, exists_const, List.getElem?_cons_succ, List.getElem?_cons_zero, List.set_cons_succ, List.set_cons_zero, List.length_cons, List.length_nil, List.cons_append, List.nil_append, List.append_nil, reduceCtorEq, Int.reduceLT, Int.reduceLE, Int.reduceNeg, Int.reducePow, Int.reduceSub, Int.reduceAdd, Nat.reduceAdd, Nat.reduceLeDiff, Bool.not_true, Bool.not_false, decide_true, decide_false, Bool.false_eq_true, ↓reduceIte, upd_same, not_true_eq_false, not_false_eq_true, lsO_l, lsO_f, tpO_t, tpO_f, dkO_d, dkO_f, keyO_i, keyO_s, rIxH, rIxU, cLenL, cLenT, cListL, cListT, cTupL, cIntB, cAll, rEqNilI, rEq, rNe, scal_ii, scal_ss, scal_bb, scal_nn, scal_ni, scal_in, scal_ns, scal_sn, gSub, rSetL, ixs0, ixs1, ixs2, seq0, at0, at1, at2, at3, tBM, tBM0, rAppend, rPopAt, tyV_list, tGet2, tGetI, sPut, tMG, rTIdx, tyTup, tTupF, cx_K, cx_w, ex_map_int, ex_nil_int, ex_cons_int, List.map_cons, List.map_nil, List.isEmpty_nil, List.isEmpty_cons, List.eraseIdx_zero, List.tail_cons, List.eraseIdx_cons_zero, HO.lst.injEq, HO.tup.injEq, HO.dK.injEq, HO.frz.injEq, ne_eq, gTupH, gCons, gNil, wipe, tYes, upd_upd, and_assoc, List.getElem?_map, Option.map_some, isn_non_bool, isn_non_int, isn_non_str, isn_non_tuple, isn_non_list, isn_non_dict, isn_bl_bool, isn_bl_int, isn_bl_str, isn_bl_tuple, isn_bl_list, isn_bl_dict, isn_int_bool, isn_int_int, isn_int_str, isn_int_tuple, isn_int_list, isn_int_dict, isn_str_bool, isn_str_int, isn_str_str, isn_str_tuple, isn_str_list, isn_str_dict, isn_lst_bool, isn_lst_int, isn_lst_str, isn_lst_tuple, isn_lst_list, isn_lst_dict, isn_tup_bool, isn_tup_int, isn_tup_str, isn_tup_tuple, isn_tup_list, isn_tup_dict, isn_dct_bool, isn_dct_int, isn_dct_str, isn_dct_tuple, isn_dct_list, isn_dct_dict, okn_bool, okn_int, okn_str, okn_tuple, okn_list, okn_dict, cIsi, tyT_n, tyT_b, tyT_i, tyT_s, tyT_r, V.ty.injEq, tSl, tPart, tNoPart, rSlF, gName, tFld, sFld, tMeth, tMake, tGetT, tInT, tNinT, sPutT, sAugT, tPopT, rLtH, dtO_d, dtO_f, kysO_n, kysO_i, kysO_s, intsV_n, intsV_i, HO.ins.injEq, HO.dT.injEq, tDNewT, rIxLT, cLenLT, tSortP, lkIndex_pairs, lkIndex_many, noIndex_add, noIndex_lose, noIndex_between, inIndex_pairs, inIndex_many, puIndex_pairs, puIndex_many, lnIndex, lpIndex1, l0Index, T.cl_Index, T.na_Index_pairs, T.na_Index_many, a2]
      refine ⟨.inl ⟨rfl, _, .inl (.inl l2)⟩, l, t, ps, _, [wo, ke], rfl, l2, tu2, t2, rfl, by omega, fun i j p q hij hp hq h => lex2.mpr (lt2_trans (ris_at J.ris hp hq hij) (lex2.mp h)), fun c hcu => ?_⟩
      have hc' : G7.Cut ps (fun p => decide (lt2 p.2 (wo, ke))) c := ⟨hcu.le, fun i x hi e => decide_eq_true (lex2.mp (hcu.lo i x hi e)), fun i x hi e => decide_eq_false fun z => by
        have w := hcu.hi i x hi e
        rw [show HT.lexLt [x.2.1, x.2.2] [wo, ke] = true from lex2.mpr z] at w
        cases w⟩
      obtain ⟨p, hp, ep⟩ := ris_place J.ris hc' ((J.mem _).mpr hin)
      have hcl : c < ps.length := (List.getElem?_eq_some_iff.mp hp).1
      simp only [tVar, tC, tOp, rI, rI0, rU, tTest, tB, tAnd, tOr, tNot, tAndV, tOrV, tNotV, tIf, tNil, tCons, tTup, tLst, tCB, tSeq, tAsg, gName, tRet, tRetN, tIfS, tNext, tDrop, tCall, tUn, tPar, CMul, CDiv, V.int.injEq, V.bl.injEq, V.ref.injEq, V.str.injEq, Option.some.injEq, List.cons.injEq, and_true, true_and, and_false, false_and, or_false, false_or, or_true, true_or, exists_eq_left', exists_eq_left, exists_and_left, exists_and_right, exists_eq', exists_eq, exists_false, exists_const, List.getElem?_cons_succ, List.getElem?_cons_zero, List.set_cons_succ, List.set_cons_zero, List.length_cons, List.length_nil, List.cons_append, List.nil_append, List.append_nil, reduceCtorEq, Int.reduceLT, Int.reduceLE, Int.reduceNeg, Int.reducePow, Int.reduceSub, Int.reduceAdd, Nat.reduceAdd, Nat.reduceLeDiff, Bool.not_true, Bool.not_false, decide_true, decide_false, Bool.false_eq_true, ↓reduceIte, upd_same, not_true_eq_false, not_false_eq_true, lsO_l, lsO_f, tpO_t, tpO_f, dkO_d, dkO_f, keyO_i, keyO_s, rIxH, rIxU, cLenL, cLenT, cListL, cListT, cTupL, cIntB, cAll, rEqNilI, rEq, rNe, scal_ii, scal_ss, scal_bb, scal_nn, scal_ni, scal_in, scal_ns, scal_sn, gSub, rSetL, ixs0, ixs1, ixs2, seq0, at0, at1, at2, at3, tBM, tBM0, rAppend, rPopAt, tyV_list, tGet2, tGetI, sPut, tMG, rTIdx, tyTup, tTupF, cx_K, cx_w, ex_map_int, ex_nil_int, ex_cons_int, List.map_cons, List.map_nil, List.isEmpty_nil, List.isEmpty_cons, List.eraseIdx_zero, List.tail_cons, List.eraseIdx_cons_zero, HO.lst.injEq, HO.tup.injEq, HO.dK.injEq, HO.frz.injEq, ne_eq, gTupH, gCons, gNil, wipe, tYes, upd_upd, and_assoc, List.getElem?_map, Option.map_some, isn_non_bool, isn_non_int, isn_non_str, isn_non_tuple, isn_non_list, isn_non_dict, isn_bl_bool, isn_bl_int, isn_bl_str, isn_bl_tuple, isn_bl_list, isn_bl_dict, isn_int_bool, isn_int_int, isn_int_str, isn_int_tuple, isn_int_list, isn_int_dict, isn_str_bool, isn_str_int, isn_str_str, isn_str_tuple, isn_str_list, isn_str_dict, isn_lst_bool, isn_lst_int, isn_lst_str, isn_lst_tuple, isn_lst_list, isn_lst_dict, isn_tup_bool, isn_tup_int, isn_tup_str, isn_tup_tuple, isn_tup_list, isn_tup_dict, isn_dct_bool, isn_dct_int, isn_dct_str, isn_dct_tuple, isn_dct_list, isn_dct_dict, okn_bool, okn_int, okn_str, okn_tuple, okn_list, okn_dict, cIsi, tyT_n, tyT_b, tyT_i, tyT_s, tyT_r, V.ty.injEq, tSl, tPart, tNoPart, rSlF, gName, tFld, sFld, tMeth, tMake, tGetT, tInT, tNinT, sPutT, sAugT, tPopT, rLtH, dtO_d, dtO_f, kysO_n, kysO_i, kysO_s, intsV_n, intsV_i, HO.ins.injEq, HO.dT.injEq, tDNewT, rIxLT, cLenLT, tSortP, l2]
      refine ⟨by omega, by omega, c, by rw [List.length_map, seqIx (by omega) (by omega), Int.toNat_natCast], ⟨_, by rw [hp]; rfl⟩, ?_⟩
      have el : ((ps.map fun p => V.ref p.1).eraseIdx c) = (ps.eraseIdx c).map fun p => V.ref p.1 := (DT.map_erase _ _ _).symm
      rw [el]
      have hmem : ∀ q, q ∈ (ps.eraseIdx c).map (·.2) ↔ q ∈ M.erase (wo, ke) := fun q => by
        rw [mem_erase2 J.ris hp, J.mem q, mem_lose hin, ep]
        exact ⟨fun z => ⟨z.1, fun _ => z.2⟩, fun z => ⟨z.1, z.2 hc⟩⟩
      refine k _ ⟨by rw [upd_ne nal]; exact a2, _, kvs2, ⟨upd_same, fun p hp => ?_, by rw [upd_ne nld.symm]; exact d2, ris_erase J.ris c, hmem, cnt_lose hin J.cnt fun r => ?_, by rw [← hk2]; exact nd_dropK hnd, fun x hx => ?_⟩⟩ (k2.upd (by simp))
      · have h1 := tu2 p ((List.eraseIdx_sublist ps c).subset hp)
        rw [upd_ne (ne_of h1 l2 (by intro z; cases z))]
        exact h1
      · rw [← hk2, valV_drop, valV_put, if_pos hc]
        show (if ky2 r = ky2 (wo, ke) then _ else if ky2 r = ky2 (wo, ke) then _ else _) = _
        by_cases e : r = (wo, ke)
        · rw [if_pos e, if_pos (ky2_eq.mpr e)]
        · rw [if_neg e, if_neg (fun z => e (ky2_eq.mp z)), if_neg (fun z => e (ky2_eq.mp z))]
      · rw [← hk2] at hx
        obtain ⟨y, hy, rfl⟩ := List.mem_map.mp hx
        obtain ⟨hy1, hy2⟩ := List.mem_filter.mp hy
        obtain ⟨q, hq, e⟩ := List.mem_map.mp (hks y.1 (List.mem_map.mpr ⟨y, hy1, rfl⟩))
        refine List.mem_map.mpr ⟨q, (mem_lose hin).mpr ⟨hq, fun _ z => ?_⟩, e⟩
        rw [← e, z] at hy2
        simp at hy2
    · rw [if_neg (by simp; omega)]
      refine k H1 ⟨a1, ps, _, ⟨l1, tu1, d1, J.ris, fun q => ?_, cnt_lose hin J.cnt fun r => ?_, hnd, fun x hx => ?_⟩⟩ k1
      · rw [J.mem q, mem_lose hin]
        exact ⟨fun z => ⟨z, fun c => absurd c hc⟩, fun z => z.1⟩
      · rw [valV_put, if_neg hc]
        show (if ky2 r = ky2 (wo, ke) then _ else _) = _
        by_cases e : r = (wo, ke)
        · rw [if_pos e, if_pos (ky2_eq.mpr e)]
        · rw [if_neg e, if_neg (fun z => e (ky2_eq.mp z))]
      · obtain ⟨q, hq, rfl⟩ := List.mem_map.mp (hks x hx)
        exact List.mem_map.mpr ⟨q, (mem_lose hin).mpr ⟨hq, fun c => absurd c hc⟩, rfl⟩
theorem ok_Index_between (T : Txt K mg) : FnOk P w K mg base CX0 2 T.f_Index_between T.fd_Index_between ["self", "low", "high"] (spIdxBtw T.C_Index) := by
  have G_place_in : FnOk P w K mg base CX0 1 T.f_place_in T.fd_place_in ["pairs", "pair"] spPlace := ok_place_in T
  refine T.F_Index_between.ok sc_Index_between (fun vs H Q E h => ?_) (fun cdv A outer s H vs Q E hr h => ?_)
  · obtain ⟨a, dx, l, d, lo, hi, M, rfl, _⟩ := h
    rfl
  · obtain ⟨a, dx, l, d, lo, hi, M, rfl, I, hM, k⟩ := h
    obtain ⟨hob, ps, kvs, J⟩ := id I
    have hl := J.ls
    have hd := J.dc
    have kfew := J.few
    refine ⟨_, (Evl.pss_cut (ps_set (i := 3) sc_Index_between.nd rfl (Or.inl rfl) (pe_ifExp (pt_cmpR op_isN (pv 1) pe_non (nomark _)) pe_int (pe_call G_place_in (hr.mono (by decide)) rfl T.mg_place_in T.F_place_in.kp T.b_place_in .nil pass0 (pa_cons (pe_fldK K rfl (pv 0) rfl) (pa_cons (pe_tup (pa_cons (pv 1) pa_nil)) pa_nil)))))
      (Evl.pss_cut (ps_set (i := 4) sc_Index_between.nd rfl (Or.inl rfl) (pe_ifExp (pt_cmpR op_isN (pv 2) pe_non (nomark _)) (pe_callB len_lst (by rfl) T.n_len PySem.boot_len (pa_cons (pe_fldK K rfl (pv 0) rfl) pa_nil)) (pe_call G_place_in (hr.mono (by decide)) rfl T.mg_place_in T.F_place_in.kp T.b_place_in .nil pass0 (pa_cons (pe_fldK K rfl (pv 0) rfl) (pa_cons (pe_tup (pa_cons (pe_op op_add (pv 2) pe_int) pa_nil)) pa_nil)))))
      (pss_one (ps_ret (pe_slice sl_list (pe_fldK K rfl (pv 0) rfl) (po_some (pv 3)) (po_some (pv 4))))))), ?_⟩
    rw [show L2.start N_Index_between [V.ref a, oi lo, oi hi] = [some (V.ref a), some (oi lo), some (oi hi), none, none] from rfl]
    -- first
    refine ⟨fun σ' H1 => ∃ c : Nat, σ' = [some (.ref a), some (oi lo), some (oi hi), some (.int c), none] ∧ Same H H1 ∧ G7.Cut ps (fun p => !geLo p.2.1 lo) c, ?_, ?_⟩
    · cases lo with
      | none =>
        simp only [tVar, tC, tOp, rI, rI0, rU, tTest, tB, tAnd, tOr, tNot, tAndV, tOrV, tNotV, tIf, tNil, tCons, tTup, tLst, tCB, tSeq, tAsg, gName, tRet, tRetN, tIfS, tNext, tDrop, tCall, tUn, tPar, CMul, CDiv, V.int.injEq, V.bl.injEq, V.ref.injEq, V.str.injEq, Option.some.injEq, List.cons.injEq, and_true, true_and, and_false, false_and, or_false, false_or, or_true, true_or, exists_eq_left', exists_eq_left, exists_and_left, exists_and_right, exists_eq', exists_eq, exists_false, exists_const, List.getElem?_cons_succ, List.getElem?_cons_zero, List.set_cons_succ, List.set_cons_zero, List.length_cons, List.length_nil, List.cons_append, List.nil_append, List.append_nil, reduceCtorEq, Int.reduceLT, Int.reduceLE, Int.reduceNeg, Int.reducePow, Int.reduceSub, Int.reduceAdd, Nat.reduceAdd, Nat.reduceLeDiff, Bool.not_true, Bool.not_false, decide_true, decide_false, Bool.false_eq_true, ↓reduceIte, upd_same, not_true_eq_false, not_false_eq_true, lsO_l, lsO_f, tpO_t, tpO_f, dkO_d, dkO_f, keyO_i, keyO_s, rIxH, rIxU, cLenL, cLenT, cListL, cListT, cTupL, cIntB, cAll, rEqNilI, rEq, rNe, scal_ii, scal_ss, scal_bb, scal_nn, scal_ni, scal_in, scal_ns, scal_sn, gSub, rSetL, ixs0, ixs1, ixs2, seq0, at0, at1, at2, at3, tBM, tBM0, rAppend, rPopAt, tyV_list, tGet2, tGetI, sPut, tMG, rTIdx, tyTup, tTupF, cx_K, cx_w, ex_map_int, ex_nil_int, ex_cons_int, List.map_cons, List.map_nil, List.isEmpty_nil, List.isEmpty_cons, List.eraseIdx_zero, List.tail_cons, List.eraseIdx_cons_zero, HO.lst.injEq, HO.tup.injEq, HO.dK.injEq, HO.frz.injEq, ne_eq, gTupH, gCons, gNil, wipe, tYes, upd_upd, and_assoc, List.getElem?_map, Option.map_some, isn_non_bool, isn_non_int, isn_non_str, isn_non_tuple, isn_non_list, isn_non_dict, isn_bl_bool, isn_bl_int, isn_bl_str, isn_bl_tuple, isn_bl_list, isn_bl_dict, isn_int_bool, isn_int_int, isn_int_str, isn_int_tuple, isn_int_list, isn_int_dict, isn_str_bool, isn_str_int, isn_str_str, isn_str_tuple, isn_str_list, isn_str_dict, isn_lst_bool, isn_lst_int, isn_lst_str, isn_lst_tuple, isn_lst_list, isn_lst_dict, isn_tup_bool, isn_tup_int, isn_tup_str, isn_tup_tuple, isn_tup_list, isn_tup_dict, isn_dct_bool, isn_dct_int, isn_dct_str, isn_dct_tuple, isn_dct_list, isn_dct_dict, okn_bool, okn_int, okn_str, okn_tuple, okn_list, okn_dict, cIsi, tyT_n, tyT_b, tyT_i, tyT_s, tyT_r, V.ty.injEq, tSl, tPart, tNoPart, rSlF, gName, tFld, sFld, tMeth, tMake, tGetT, tInT, tNinT, sPutT, sAugT, tPopT, rLtH, dtO_d, dtO_f, kysO_n, kysO_i, kysO_s, intsV_n, intsV_i, HO.ins.injEq, HO.dT.injEq, tDNewT, rIxLT, cLenLT, tSortP, oi_n]
        exact ⟨0, rfl, Same.refl _, ⟨Nat.zero_le _, fun i x h => absurd h (Nat.not_lt_zero _), fun i x _ _ => rfl⟩⟩
      | some lo =>
        simp only [tVar, tC, tOp, rI, rI0, rU, tTest, tB, tAnd, tOr, tNot, tAndV, tOrV, tNotV, tIf, tNil, tCons, tTup, tLst, tCB, tSeq, tAsg, gName, tRet, tRetN, tIfS, tNext, tDrop, tCall, tUn, tPar, CMul, CDiv, V.int.injEq, V.bl.injEq, V.ref.injEq, V.str.injEq, Option.some.injEq, List.cons.injEq, and_true, true_and, and_false, false_and, or_false, false_or, or_true, true_or, exists_eq_left', exists_eq_left, exists_and_left, exists_and_right, exists_eq', exists_eq, exists_false, exists_const, List.getElem?_cons_succ, List.getElem?_cons_zero, List.set_cons_succ, List.set_cons_zero, List.length_cons, List.length_nil, List.cons_append, List.nil_append, List.append_nil, reduceCtorEq, Int.reduceLT, Int.reduceLE, Int.reduceNeg, Int.reducePow, Int.reduceSub, Int.reduceAdd, Nat.reduceAdd, Nat.reduceLeDiff, Bool.not_true, Bool.not_false, decide_true, decide_false, Bool.false_eq_true, ↓reduceIte, upd_same, not_true_eq_false, not_false_eq_true, lsO_l, lsO_f, tpO_t, tpO_f, dkO_d, dkO_f, keyO_i, keyO_s, rIxH, rIxU, cLenL, cLenT, cListL, cListT, cTupL, cIntB, cAll, rEqNilI, rEq, rNe, scal_ii, scal_ss, scal_bb, scal_nn, scal_ni, scal_in, scal_ns, scal_sn, gSub, rSetL, ixs0, ixs1, ixs2, seq0, at0, at1, at2, at3, tBM, tBM0, rAppend, rPopAt, tyV_list, tGet2, tGetI, sPut, tMG, rTIdx, tyTup, tTupF, cx_K, cx_w, ex_map_int, ex_nil_int, ex_cons_int, List.map_cons, List.map_nil, List.isEmpty_nil, List.isEmpty_cons, List.eraseIdx_zero, List.tail_cons, List.eraseIdx_cons_zero, HO.lst.injEq, HO.tup.injEq, HO.dK.injEq, HO.frz.injEq, ne_eq, gTupH, gCons, gNil, wipe, tYes, upd_upd, and_assoc, List.getElem?_map, Option.map_some, isn_non_bool, isn_non_int, isn_non_str, isn_non_tuple, isn_non_list, isn_non_dict, isn_bl_bool, isn_bl_int, isn_bl_str, isn_bl_tuple, isn_bl_list, isn_bl_dict, isn_int_bool, isn_int_int, isn_int_str, isn_int_tuple, isn_int_list, isn_int_dict, isn_str_bool, isn_str_int, isn_str_str, isn_str_tuple, isn_str_list, isn_str_dict, isn_lst_bool, isn_lst_int, isn_lst_str, isn_lst_tuple, isn_lst_list, isn_lst_dict, isn_tup_bool, isn_tup_int, isn_tup_str, isn_tup_tuple, isn_tup_list, isn_tup_dict, isn_dct_bool, isn_dct_int, isn_dct_str, isn_dct_tuple, isn_dct_list, isn_dct_dict, okn_bool, okn_int, okn_str, okn_tuple, okn_list, okn_dict, cIsi, tyT_n, tyT_b, tyT_i, tyT_s, tyT_r, V.ty.injEq, tSl, tPart, tNoPart, rSlF, gName, tFld, sFld, tMeth, tMake, tGetT, tInT, tNinT, sPutT, sAugT, tPopT, rLtH, dtO_d, dtO_f, kysO_n, kysO_i, kysO_s, intsV_n, intsV_i, HO.ins.injEq, HO.dT.injEq, tDNewT, rIxLT, cLenLT, tSortP, lkIndex_pairs, lkIndex_many, noIndex_add, noIndex_lose, noIndex_between, inIndex_pairs, inIndex_many, puIndex_pairs, puIndex_many, lnIndex, lpIndex1, l0Index, T.cl_Index, T.na_Index_pairs, T.na_Index_many, oi_s, hob]
        refine ⟨szl (by decide), fun t ht => ?_⟩
        have s1 := same_new (o := .tup [.int lo]) ht
        refine ⟨l, t, ps, _, [lo], rfl, s1 _ _ hl, fun p hp => s1 _ _ (J.tu p hp), upd_same, rfl, by omega, fun i j p q hij hp hq h => ?_, fun c hc => ⟨c, rfl, s1, hc.le, fun i x hi e => ?_, fun i x hi e => ?_⟩⟩
        · have h1 := ris_at J.ris hp hq hij
          have h2 := lex1.mp h
          refine lex1.mpr ?_
          unfold lt2 at h1
          omega
        · have := lex1.mp (hc.lo i x hi e)
          simp [geLo, this]
        · have h1 := hc.hi i x hi e
          have : ¬ x.2.1 < lo := fun z => by rw [lex1.mpr z] at h1; cases h1
          simp [geLo]
          omega
    rintro σ' H1 ⟨c1, rfl, s1, hc1⟩
    have hob1 := s1 _ _ hob
    have hl1 := s1 _ _ hl
    refine ⟨fun σ' H2 => ∃ c : Nat, σ' = [some (.ref a), some (oi lo), some (oi hi), some (.int c1), some (.int c)] ∧ Same H H2 ∧ G7.Cut ps (fun p => leHi p.2.1 hi) c, ?_, ?_⟩
    · cases hi with
      | none =>
        simp only [tVar, tC, tOp, rI, rI0, rU, tTest, tB, tAnd, tOr, tNot, tAndV, tOrV, tNotV, tIf, tNil, tCons, tTup, tLst, tCB, tSeq, tAsg, gName, tRet, tRetN, tIfS, tNext, tDrop, tCall, tUn, tPar, CMul, CDiv, V.int.injEq, V.bl.injEq, V.ref.injEq, V.str.injEq, Option.some.injEq, List.cons.injEq, and_true, true_and, and_false, false_and, or_false, false_or, or_true, true_or, exists_eq_left', exists_eq_left, exists_and_left, exists_and_right, exists_eq', exists_eq, exists_false, exists_const, List.getElem?_cons_succ, List.getElem?_cons_zero, List.set_cons_succ, List.set_cons_zero, List.length_cons, List.length_nil, List.cons_append, List.nil_append, List.append_nil, reduceCtorEq, Int.reduceLT, Int.reduceLE, Int.reduceNeg, Int.reducePow, Int.reduceSub, Int.reduceAdd, Nat.reduceAdd, Nat.reduceLeDiff, Bool.not_true, Bool.not_false, decide_true, decide_false, Bool.false_eq_true, ↓reduceIte, upd_same, not_true_eq_false, not_false_eq_true, lsO_l, lsO_f, tpO_t, tpO_f, dkO_d, dkO_f, keyO_i, keyO_s, rIxH, rIxU, cLenL, cLenT, cListL, cListT, cTupL, cIntB, cAll, rEqNilI, rEq, rNe, scal_ii, scal_ss, scal_bb, scal_nn, scal_ni, scal_in, scal_ns, scal_sn, gSub, rSetL, ixs0, ixs1, ixs2, seq0, at0, at1, at2, at3, tBM, tBM0, rAppend, rPopAt, tyV_list, tGet2, tGetI, sPut, tMG, rTIdx, tyTup, tTupF, cx_K, cx_w, ex_map_int, ex_nil_int, ex_cons_int, List.map_cons, List.map_nil, List.isEmpty_nil, List.isEmpty_cons, List.eraseIdx_zero, List.tail_cons, List.eraseIdx_cons_zero, HO.lst.injEq, HO.tup.injEq, HO.dK.injEq, HO.frz.injEq, ne_eq, gTupH, gCons, gNil, wipe, tYes, upd_upd, and_assoc, List.getElem?_map, Option.map_some, isn_non_bool, isn_non_int, isn_non_str, isn_non_tuple, isn_non_list, isn_non_dict, isn_bl_bool, isn_bl_int, isn_bl_str, isn_bl_tuple, isn_bl_list, isn_bl_dict, isn_int_bool, isn_int_int, isn_int_str, isn_int_tuple, isn_int_list, isn_int_dict, isn_str_bool, isn_str_int, isn_str_str, isn_str_tuple, isn_str_list, isn_str_dict, isn_lst_bool, isn_lst_int, isn_lst_str, isn_lst_tuple, isn_lst_list, isn_lst_dict, isn_tup_bool, isn_tup_int, isn_tup_str, isn_tup_tuple, isn_tup_list, isn_tup_dict, isn_dct_bool, isn_dct_int, isn_dct_str, isn_dct_tuple, isn_dct_list, isn_dct_dict, okn_bool, okn_int, okn_str, okn_tuple, okn_list, okn_dict, cIsi, tyT_n, tyT_b, tyT_i, tyT_s, tyT_r, V.ty.injEq, tSl, tPart, tNoPart, rSlF, gName, tFld, sFld, tMeth, tMake, tGetT, tInT, tNinT, sPutT, sAugT, tPopT, rLtH, dtO_d, dtO_f, kysO_n, kysO_i, kysO_s, intsV_n, intsV_i, HO.ins.injEq, HO.dT.injEq, tDNewT, rIxLT, cLenLT, tSortP, lkIndex_pairs, lkIndex_many, noIndex_add, noIndex_lose, noIndex_between, inIndex_pairs, inIndex_many, puIndex_pairs, puIndex_many, lnIndex, lpIndex1, l0Index, T.cl_Index, T.na_Index_pairs, T.na_Index_many, oi_n, hob1, hl1]
        refine ⟨ps.length, by rw [List.length_map], s1, ⟨Nat.le_refl _, fun i x _ _ => rfl, fun i x h e => by rw [List.getElem?_eq_none h] at e; cases e⟩⟩
      | some hi =>
        simp only [tVar, tC, tOp, rI, rI0, rU, tTest, tB, tAnd, tOr, tNot, tAndV, tOrV, tNotV, tIf, tNil, tCons, tTup, tLst, tCB, tSeq, tAsg, gName, tRet, tRetN, tIfS, tNext, tDrop, tCall, tUn, tPar, CMul, CDiv, V.int.injEq, V.bl.injEq, V.ref.injEq, V.str.injEq, Option.some.injEq, List.cons.injEq, and_true, true_and, and_false, false_and, or_false, false_or, or_true, true_or, exists_eq_left', exists_eq_left, exists_and_left, exists_and_right, exists_eq', exists_eq, exists_false, exists_const, List.getElem?_cons_succ, List.getElem?_cons_zero, List.set_cons_succ, List.set_cons_zero, List.length_cons, List.length_nil, List.cons_append, List.nil_append, List.append_nil, reduceCtorEq, Int.reduceLT, Int.reduceLE, Int.reduceNeg, Int.reducePow, Int.reduceSub, Int.reduceAdd, Nat.reduceAdd, Nat.reduceLeDiff, Bool.not_true, Bool.not_false, decide_true, decide_false, Bool.false_eq_true, ↓reduceIte, upd_same, not_true_eq_false, not_false_eq_true, lsO_l, lsO_f, tpO_t, tpO_f, dkO_d, dkO_f, keyO_i, keyO_s, rIxH, rIxU, cLenL, cLenT, cListL, cListT, cTupL, cIntB, cAll, rEqNilI, rEq, rNe, scal_ii, scal_ss, scal_bb, scal_nn, scal_ni, scal_in, scal_ns, scal_sn, gSub, rSetL, ixs0, ixs1, ixs2, seq0, at0, at1, at2, at3, tBM, tBM0, rAppend, rPopAt, tyV_list, tGet2, tGetI, sPut, tMG, rTIdx, tyTup, tTupF, cx_K, cx_w, ex_map_int, ex_nil_int, ex_cons_int, List.map_cons, List.map_nil, List.isEmpty_nil, List.isEmpty_cons, List.eraseIdx_zero, List.tail_cons, List.eraseIdx_cons_zero, HO.lst.injEq, HO.tup.injEq, HO.dK.injEq, HO.frz.injEq, ne_eq, gTupH, gCons, gNil, wipe, tYes, upd_upd, and_assoc, List.getElem?_map, Option.map_some, isn_non_bool, isn_non_int, isn_non_str, isn_non_tuple, isn_non_list, isn_non_dict, isn_bl_bool, isn_bl_int, isn_bl_str, isn_bl_tuple, isn_bl_list, isn_bl_dict, isn_int_bool, isn_int_int, isn_int_str, isn_int_tuple, isn_int_list, isn_int_dict, isn_str_bool, isn_str_int, isn_str_str, isn_str_tuple, isn_str_list, isn_str_dict, isn_lst_bool, isn_lst_int, isn_lst_str, isn_lst_tuple, isn_lst_list, isn_lst_dict, isn_tup_bool, isn_tup_int, isn_tup_str, isn_tup_tuple, isn_tup_list, isn_tup_dict, isn_dct_bool, isn_dct_int, isn_dct_str, isn_dct_tuple, isn_dct_list, isn_dct_dict, okn_bool, okn_int, okn_str, okn_tuple, okn_list, okn_dict, cIsi, tyT_n, tyT_b, tyT_i, tyT_s, tyT_r, V.ty.injEq, tSl, tPart, tNoPart, rSlF, gName, tFld, sFld, tMeth, tMake, tGetT, tInT, tNinT, sPutT, sAugT, tPopT, rLtH, dtO_d, dtO_f, kysO_n, kysO_i, kysO_s, intsV_n, intsV_i, HO.ins.injEq, HO.dT.injEq, tDNewT, rIxLT, cLenLT, tSortP, lkIndex_pairs, lkIndex_many, noIndex_add, noIndex_lose, noIndex_between, inIndex_pairs, inIndex_many, puIndex_pairs, puIndex_many, lnIndex, lpIndex1, l0Index, T.cl_Index, T.na_Index_pairs, T.na_Index_many, oi_s, hob1]
        refine ⟨szl (by decide), fun t ht => ?_⟩
        have s2 := same_new (o := .tup [.int (hi + 1)]) ht
        refine ⟨l, t, ps, _, [hi + 1], rfl, s2 _ _ hl1, fun p hp => s2 _ _ (s1 _ _ (J.tu p hp)), upd_same, rfl, by omega, fun i j p q hij hp hq h => ?_, fun c hc => ⟨c, rfl, s1.trans s2, hc.le, fun i x hi' e => ?_, fun i x hi' e => ?_⟩⟩
        · have h1 := ris_at J.ris hp hq hij
          have h2 := lex1.mp h
          refine lex1.mpr ?_
          unfold lt2 at h1
          omega
        · have := lex1.mp (hc.lo i x hi' e)
          simp [leHi]
          omega
        · have h1 := hc.hi i x hi' e
          have : ¬ x.2.1 < hi + 1 := fun z => by rw [lex1.mpr z] at h1; cases h1
          simp [leHi]
          omega
    rintro σ' H2 ⟨c2, rfl, s2, hc2⟩
    have hob2 := s2 _ _ hob
    have hl2 := s2 _ _ hl
    simp only [tVar, tC, tOp, rI, rI0, rU, tTest, tB, tAnd, tOr, tNot, tAndV, tOrV, tNotV, tIf, tNil, tCons, tTup, tLst, tCB, tSeq, tAsg, gName, tRet, tRetN, tIfS, tNext, tDrop, tCall, tUn, tPar, CMul, CDiv, V.int.injEq, V.bl.injEq, V.ref.injEq, V.str.injEq, Option.some.injEq, List.cons.injEq, and_true, true_and, and_false, false_and, or_false, false_or, or_true, true_or, exists_eq_left', exists_eq_left, exists_and_left, exists_and_right, exists_eq', exists_eq, exists_false, exists_const, List.getElem?_cons_succ, List.getElem?_cons_zero, List.set_cons_succ, List.set_cons_zero, List.length_cons, List.length_nil, List.cons_append, List.nil_append, List.append_nil, reduceCtorEq, Int.reduceLT, Int.reduceLE, Int.reduceNeg, Int.reducePow, Int.reduceSub, Int.reduceAdd, Nat.reduceAdd, Nat.reduceLeDiff, Bool.not_true, Bool.not_false, decide_true, decide_false, Bool.false_eq_true, ↓reduceIte, upd_same, not_true_eq_false, not_false_eq_true, lsO_l, lsO_f, tpO_t, tpO_f, dkO_d, dkO_f, keyO_i, keyO_s, rIxH, rIxU, cLenL, cLenT, cListL, cListT, cTupL, cIntB, cAll, rEqNilI, rEq, rNe, scal_ii, scal_ss, scal_bb, scal_nn, scal_ni, scal_in, scal_ns, scal_sn, gSub, rSetL, ixs0, ixs1, ixs2, seq0, at0, at1, at2, at3, tBM, tBM0, rAppend, rPopAt, tyV_list, tGet2, tGetI, sPut, tMG, rTIdx, tyTup, tTupF, cx_K, cx_w, ex_map_int, ex_nil_int, ex_cons_int, List.map_cons, List.map_nil, List.isEmpty_nil, List.isEmpty_cons, List.eraseIdx_zero, List.tail_cons, List.eraseIdx_cons_zero, HO.lst.injEq, HO.tup.injEq, HO.dK.injEq, HO.frz.injEq, ne_eq, gTupH, gCons, gNil, wipe, tYes, upd_upd, and_assoc, List.getElem?_map, Option.map_some, isn_non_bool, isn_non_int, isn_non_str, isn_non_tuple, isn_non_list, isn_non_dict, isn_bl_bool, isn_bl_int, isn_bl_str, isn_bl_tuple, isn_bl_list, isn_bl_dict, isn_int_bool, isn_int_int, isn_int_str, isn_int_tuple, isn_int_list, isn_int_dict, isn_str_bool, isn_str_int, isn_str_str, isn_str_tuple, isn_str_list, isn_str_dict, isn_lst_bool, isn_lst_int, isn_lst_str, isn_lst_tuple, isn_lst_list, isn_lst_dict, isn_tup_bool, isn_tup_int, isn_tup_str, isn_tup_tuple, isn_tup_list, isn_tup_dict, isn_dct_bool, isn_dct_int, isn_dct_str, isn_dct_tuple, isn_dct_list, isn_dct_dict, okn_bool, okn_int, okn_str, okn_tuple, okn_list, okn_dict, cIsi, tyT_n, tyT_b, tyT_i, tyT_s, tyT_r, V.ty.injEq, tSl, tPart, tNoPart, rSlF, gName, tFld, sFld, tMeth, tMake, tGetT, tInT, tNinT, sPutT, sAugT, tPopT, rLtH, dtO_d, dtO_f, kysO_n, kysO_i, kysO_s, intsV_n, intsV_i, HO.ins.injEq, HO.dT.injEq, tDNewT, rIxLT, cLenLT, tSortP, lkIndex_pairs, lkIndex_many, noIndex_add, noIndex_lose, noIndex_between, inIndex_pairs, inIndex_many, puIndex_pairs, puIndex_many, lnIndex, lpIndex1, l0Index, T.cl_Index, T.na_Index_pairs, T.na_Index_many, hob2]
    refine ⟨l, _, rfl, .inl (.inl hl2), fun r hr' => ?_⟩
    have e1 : cutV (ps.map fun p => V.ref p.1) (some (c1 : Int)) (some (c2 : Int)) = ((ps.drop c1).take (c2 - c1)).map fun p => V.ref p.1 := by
      unfold cutV
      rw [HT.sIx_nat, HT.sIx_nat, List.length_map, Nat.min_eq_left hc1.le, Nat.min_eq_left hc2.le, List.map_take, List.map_drop]
    rw [e1]
    have sub : ∀ p ∈ (ps.drop c1).take (c2 - c1), p ∈ ps := fun p hp => (List.drop_sublist _ _).subset ((List.take_sublist _ _).subset hp)
    refine k _ r _ (s2.free hr') (s2.trans (same_new hr')) upd_same (fun p hp => J.tu p (sub p hp)) (J.ris.sublist ((List.take_sublist _ _).trans (List.drop_sublist _ _))) (by rw [List.length_take, List.length_drop]; omega) fun q => ?_
    rw [List.mem_map]
    constructor
    · rintro ⟨p, hp, rfl⟩
      obtain ⟨h1, h2, h3⟩ := (hc1.slice hc2).mp hp
      refine ⟨(J.mem _).mp (List.mem_map.mpr ⟨p, h1, rfl⟩), ?_⟩
      unfold btw
      rw [Bool.and_eq_true]
      exact ⟨by simpa using h2, h3⟩
    · rintro ⟨h1, h2⟩
      unfold btw at h2
      rw [Bool.and_eq_true] at h2
      obtain ⟨p, hp, rfl⟩ := List.mem_map.mp ((J.mem _).mpr h1)
      exact ⟨p, (hc1.slice hc2).mpr ⟨hp, by rw [h2.1]; rfl, h2.2⟩, rfl⟩
end

/-! alike: data that are the same tell True -/
def spAlikeD (d : Nat) : Sp := fun vs H Q _ => ∃ (u v : V) (t : Dx), vs = [u, v] ∧ RX H u t ∧ RX H v t ∧ t.deep ≤ d ∧ t.fits 100000 ∧ Q (.bl true) H
section
variable {P : Program} {w : World} {K : PySem.W.Frag} {mg : Str → Option Value} {base : Heap}
theorem alike_step (T : Txt K mg) (d : Nat) (sp0 : Sp) (G_l_alike : FnOk P w K mg base CX0 (d + 1) T.f_l_alike T.fd_l_alike ["_law_found", "_law_due"] sp0)
    (h0 : ∀ (u v : V) (t : Dx) (H : Hp) (Q : VK), 1 ≤ d → RX H u t → RX H v t → t.deep + 1 ≤ d → t.fits 100000 → Q (.bl true) H → sp0 [u, v] H Q E0) :
    FnOk P w K mg base CX0 (d + 2) T.f_l_alike T.fd_l_alike ["_law_found", "_law_due"] (spAlikeD d) := by
  refine T.F_l_alike.ok sc_l_alike (fun vs H Q E h => ?_) (fun cdv A outer s H vs Q E hr h => ?_)
  · obtain ⟨u, v, t, rfl, _⟩ := h
    rfl
  · have hu64 := hu64_of hr
    obtain ⟨u, v, t, rfl, R1, R2, hd, hf, k⟩ := h
    refine ⟨_, (pss_cons (ps_if (pt_cmpR op_isN (pv 1) pe_non (nomark _)) (pss_one (ps_ret (pe_cmpR op_isN (pv 0) pe_non (nomark _)))) pss_nil)
      (pss_cons (ps_if (pt_val (pe_callB isi_h (by rfl) T.n_isinstance (by decide +kernel) (pa_cons (pv 1) (pa_cons (pe_bltn (by rfl) T.n_bool (by decide +kernel) (v := .ty "bool") rfl) pa_nil)))) (pss_one (ps_ret (pe_and (pe_callB isi_h (by rfl) T.n_isinstance (by decide +kernel) (pa_cons (pv 0) (pa_cons (pe_bltn (by rfl) T.n_bool (by decide +kernel) (v := .ty "bool") rfl) pa_nil))) (pe_one (pe_cmpR op_eq (pv 0) (pv 1) (nomark _)))))) pss_nil)
      (pss_cons (ps_if (pt_val (pe_callB isi_h (by rfl) T.n_isinstance (by decide +kernel) (pa_cons (pv 1) (pa_cons (pe_bltn (by rfl) T.n_int (by decide +kernel) (v := .ty "int") rfl) pa_nil)))) (pss_one (ps_ret (pe_and (pe_callB isi_h (by rfl) T.n_isinstance (by decide +kernel) (pa_cons (pv 0) (pa_cons (pe_bltn (by rfl) T.n_int (by decide +kernel) (v := .ty "int") rfl) pa_nil))) (pe_and (pe_not (pe_callB isi_h (by rfl) T.n_isinstance (by decide +kernel) (pa_cons (pv 0) (pa_cons (pe_bltn (by rfl) T.n_bool (by decide +kernel) (v := .ty "bool") rfl) pa_nil)))) (pe_one (pe_cmpR op_eq (pv 0) (pv 1) (nomark _))))))) pss_nil)
      (pss_cons (ps_if (pt_val (pe_callB isi_h (by rfl) T.n_isinstance (by decide +kernel) (pa_cons (pv 1) (pa_cons (pe_bltn (by rfl) T.n_str (by decide +kernel) (v := .ty "str") rfl) pa_nil)))) (pss_one (ps_ret (pe_and (pe_callB isi_h (by rfl) T.n_isinstance (by decide +kernel) (pa_cons (pv 0) (pa_cons (pe_bltn (by rfl) T.n_str (by decide +kernel) (v := .ty "str") rfl) pa_nil))) (pe_one (pe_cmpR op_eq (pv 0) (pv 1) (nomark _)))))) pss_nil)
      (pss_cons (ps_if (PW.pt (pw_or (pt_cmpR op_ne (pe_callB isi_h (by rfl) T.n_isinstance (by decide +kernel) (pa_cons (pv 1) (pa_cons (pe_bltn (by rfl) T.n_tuple (by decide +kernel) (v := .ty "tuple") rfl) pa_nil))) (pe_callB isi_h (by rfl) T.n_isinstance (by decide +kernel) (pa_cons (pv 0) (pa_cons (pe_bltn (by rfl) T.n_tuple (by decide +kernel) (v := .ty "tuple") rfl) pa_nil))) (nomark _)) (pw_or1 (pt_cmpR op_ne (pe_callB isi_h (by rfl) T.n_isinstance (by decide +kernel) (pa_cons (pv 1) (pa_cons (pe_bltn (by rfl) T.n_list (by decide +kernel) (v := .ty "list") rfl) pa_nil))) (pe_callB isi_h (by rfl) T.n_isinstance (by decide +kernel) (pa_cons (pv 0) (pa_cons (pe_bltn (by rfl) T.n_list (by decide +kernel) (v := .ty "list") rfl) pa_nil))) (nomark _))))) (pss_one (ps_ret pe_bl)) pss_nil)
      (pss_cons (ps_if (pt_cmpR op_ne (pe_callB len_lt (by rfl) T.n_len PySem.boot_len (pa_cons (pv 0) pa_nil)) (pe_callB len_lt (by rfl) T.n_len PySem.boot_len (pa_cons (pv 1) pa_nil)) (nomark _)) (pss_one (ps_ret pe_bl)) pss_nil)
      (pss_cons (ps_for PassesOwn.never rfl (pi_range1 rfl T.n_range (pa_cons (pe_callB len_lt (by rfl) T.n_len PySem.boot_len (pa_cons (pv 1) pa_nil)) pa_nil)) (pg_name (i := 2) sc_l_alike.nd rfl (Or.inl rfl)) (pss_one (ps_if (pt_not (pt_val (pe_call G_l_alike (hr.mono (by show _ ≤ d + 1; omega)) rfl T.mg_l_alike T.F_l_alike.kp T.b_l_alike .nil pass0 (pa_cons (pe_ix ix_lt (pv 0) (pv 2) (fun _ _ => rfl)) (pa_cons (pe_ix ix_lt (pv 1) (pv 2) (fun _ _ => rfl)) pa_nil))))) (pss_one (ps_ret pe_bl)) pss_nil)))
      (pss_one (ps_ret pe_bl))))))))), ?_⟩
    rw [show L2.start N_l_alike [u, v] = [some (u), some (v), none] from rfl]
    cases t with
    | non =>
      simp only [RX] at R1 R2
      subst R1 R2
      simp only [tVar, tC, tOp, rI, rI0, rU, tTest, tB, tAnd, tOr, tNot, tAndV, tOrV, tNotV, tIf, tNil, tCons, tTup, tLst, tCB, tSeq, tAsg, gName, tRet, tRetN, tIfS, tNext, tDrop, tCall, tUn, tPar, CMul, CDiv, V.int.injEq, V.bl.injEq, V.ref.injEq, V.str.injEq, Option.some.injEq, List.cons.injEq, and_true, true_and, and_false, false_and, or_false, false_or, or_true, true_or, exists_eq_left', exists_eq_left, exists_and_left, exists_and_right, exists_eq', exists_eq, exists_false, exists_const, List.getElem?_cons_succ, List.getElem?_cons_zero, List.set_cons_succ, List.set_cons_zero, List.length_cons, List.length_nil, List.cons_append, List.nil_append, List.append_nil, reduceCtorEq, Int.reduceLT, Int.reduceLE, Int.reduceNeg, Int.reducePow, Int.reduceSub, Int.reduceAdd, Nat.reduceAdd, Nat.reduceLeDiff, Bool.not_true, Bool.not_false, decide_true, decide_false, Bool.false_eq_true, ↓reduceIte, upd_same, not_true_eq_false, not_false_eq_true, lsO_l, lsO_f, tpO_t, tpO_f, dkO_d, dkO_f, keyO_i, keyO_s, rIxH, rIxU, cLenL, cLenT, cListL, cListT, cTupL, cIntB, cAll, rEqNilI, rEq, rNe, scal_ii, scal_ss, scal_bb, scal_nn, scal_ni, scal_in, scal_ns, scal_sn, gSub, rSetL, ixs0, ixs1, ixs2, seq0, at0, at1, at2, at3, tBM, tBM0, rAppend, rPopAt, tyV_list, tGet2, tGetI, sPut, tMG, rTIdx, tyTup, tTupF, cx_K, cx_w, ex_map_int, ex_nil_int, ex_cons_int, List.map_cons, List.map_nil, List.isEmpty_nil, List.isEmpty_cons, List.eraseIdx_zero, List.tail_cons, List.eraseIdx_cons_zero, HO.lst.injEq, HO.tup.injEq, HO.dK.injEq, HO.frz.injEq, ne_eq, gTupH, gCons, gNil, wipe, tYes, upd_upd, and_assoc, List.getElem?_map, Option.map_some, isn_non_bool, isn_non_int, isn_non_str, isn_non_tuple, isn_non_list, isn_non_dict, isn_bl_bool, isn_bl_int, isn_bl_str, isn_bl_tuple, isn_bl_list, isn_bl_dict, isn_int_bool, isn_int_int, isn_int_str, isn_int_tuple, isn_int_list, isn_int_dict, isn_str_bool, isn_str_int, isn_str_str, isn_str_tuple, isn_str_list, isn_str_dict, isn_lst_bool, isn_lst_int, isn_lst_str, isn_lst_tuple, isn_lst_list, isn_lst_dict, isn_tup_bool, isn_tup_int, isn_tup_str, isn_tup_tuple, isn_tup_list, isn_tup_dict, isn_dct_bool, isn_dct_int, isn_dct_str, isn_dct_tuple, isn_dct_list, isn_dct_dict, okn_bool, okn_int, okn_str, okn_tuple, okn_list, okn_dict, cIsi, tyT_n, tyT_b, tyT_i, tyT_s, tyT_r, V.ty.injEq, tSl, tPart, tNoPart, rSlF, gName, tFld, sFld, tMeth, tMake, tGetT, tInT, tNinT, sPutT, sAugT, tPopT, rLtH, dtO_d, dtO_f, kysO_n, kysO_i, kysO_s, intsV_n, intsV_i, HO.ins.injEq, HO.dT.injEq, tDNewT, rIxLT, cLenLT, tSortP]
      exact k
    | bl b =>
      simp only [RX] at R1 R2
      subst R1 R2
      simp only [tVar, tC, tOp, rI, rI0, rU, tTest, tB, tAnd, tOr, tNot, tAndV, tOrV, tNotV, tIf, tNil, tCons, tTup, tLst, tCB, tSeq, tAsg, gName, tRet, tRetN, tIfS, tNext, tDrop, tCall, tUn, tPar, CMul, CDiv, V.int.injEq, V.bl.injEq, V.ref.injEq, V.str.injEq, Option.some.injEq, List.cons.injEq, and_true, true_and, and_false, false_and, or_false, false_or, or_true, true_or, exists_eq_left', exists_eq_left, exists_and_left, exists_and_right, exists_eq', exists_eq, exists_false, exists_const, List.getElem?_cons_succ, List.getElem?_cons_zero, List.set_cons_succ, List.set_cons_zero, List.length_cons, List.length_nil, List.cons_append, List.nil_append, List.append_nil, reduceCtorEq, Int.reduceLT, Int.reduceLE, Int.reduceNeg, Int.reducePow, Int.reduceSub, Int.reduceAdd, Nat.reduceAdd, Nat.reduceLeDiff, Bool.not_true, Bool.not_false, decide_true, decide_false, Bool.false_eq_true, ↓reduceIte, upd_same, not_true_eq_false, not_false_eq_true, lsO_l, lsO_f, tpO_t, tpO_f, dkO_d, dkO_f, keyO_i, keyO_s, rIxH, rIxU, cLenL, cLenT, cListL, cListT, cTupL, cIntB, cAll, rEqNilI, rEq, rNe, scal_ii, scal_ss, scal_bb, scal_nn, scal_ni, scal_in, scal_ns, scal_sn, gSub, rSetL, ixs0, ixs1, ixs2, seq0, at0, at1, at2, at3, tBM, tBM0, rAppend, rPopAt, tyV_list, tGet2, tGetI, sPut, tMG, rTIdx, tyTup, tTupF, cx_K, cx_w, ex_map_int, ex_nil_int, ex_cons_int, List.map_cons, List.map_nil, List.isEmpty_nil, List.isEmpty_cons, List.eraseIdx_zero, List.tail_cons, List.eraseIdx_cons_zero, HO.lst.injEq, HO.tup.injEq, HO.dK.injEq, HO.frz.injEq, ne_eq, gTupH, gCons, gNil, wipe, tYes, upd_upd, and_assoc, List.getElem?_map, Option.map_some, isn_non_bool, isn_non_int, isn_non_str, isn_non_tuple, isn_non_list, isn_non_dict, isn_bl_bool, isn_bl_int, isn_bl_str, isn_bl_tuple, isn_bl_list, isn_bl_dict, isn_int_bool, isn_int_int, isn_int_str, isn_int_tuple, isn_int_list, isn_int_dict, isn_str_bool, isn_str_int, isn_str_str, isn_str_tuple, isn_str_list, isn_str_dict, isn_lst_bool, isn_lst_int, isn_lst_str, isn_lst_tuple, isn_lst_list, isn_lst_dict, isn_tup_bool, isn_tup_int, isn_tup_str, isn_tup_tuple, isn_tup_list, isn_tup_dict, isn_dct_bool, isn_dct_int, isn_dct_str, isn_dct_tuple, isn_dct_list, isn_dct_dict, okn_bool, okn_int, okn_str, okn_tuple, okn_list, okn_dict, cIsi, tyT_n, tyT_b, tyT_i, tyT_s, tyT_r, V.ty.injEq, tSl, tPart, tNoPart, rSlF, gName, tFld, sFld, tMeth, tMake, tGetT, tInT, tNinT, sPutT, sAugT, tPopT, rLtH, dtO_d, dtO_f, kysO_n, kysO_i, kysO_s, intsV_n, intsV_i, HO.ins.injEq, HO.dT.injEq, tDNewT, rIxLT, cLenLT, tSortP]
      exact k
    | int b =>
      simp only [RX] at R1 R2
      subst R1 R2
      simp only [tVar, tC, tOp, rI, rI0, rU, tTest, tB, tAnd, tOr, tNot, tAndV, tOrV, tNotV, tIf, tNil, tCons, tTup, tLst, tCB, tSeq, tAsg, gName, tRet, tRetN, tIfS, tNext, tDrop, tCall, tUn, tPar, CMul, CDiv, V.int.injEq, V.bl.injEq, V.ref.injEq, V.str.injEq, Option.some.injEq, List.cons.injEq, and_true, true_and, and_false, false_and, or_false, false_or, or_true, true_or, exists_eq_left', exists_eq_left, exists_and_left, exists_and_right, exists_eq', exists_eq, exists_false, exists_const, List.getElem?_cons_succ, List.getElem?_cons_zero, List.set_cons_succ, List.set_cons_zero, List.length_cons, List.length_nil, List.cons_append, List.nil_append, List.append_nil, reduceCtorEq, Int.reduceLT, Int.reduceLE, Int.reduceNeg, Int.reducePow, Int.reduceSub, Int.reduceAdd, Nat.reduceAdd, Nat.reduceLeDiff, Bool.not_true, Bool.not_false, decide_true, decide_false, Bool.false_eq_true, ↓reduceIte, upd_same, not_true_eq_false, not_false_eq_true, lsO_l, lsO_f, tpO_t, tpO_f, dkO_d, dkO_f, keyO_i, keyO_s, rIxH, rIxU, cLenL, cLenT, cListL, cListT, cTupL, cIntB, cAll, rEqNilI, rEq, rNe, scal_ii, scal_ss, scal_bb, scal_nn, scal_ni, scal_in, scal_ns, scal_sn, gSub, rSetL, ixs0, ixs1, ixs2, seq0, at0, at1, at2, at3, tBM, tBM0, rAppend, rPopAt, tyV_list, tGet2, tGetI, sPut, tMG, rTIdx, tyTup, tTupF, cx_K, cx_w, ex_map_int, ex_nil_int, ex_cons_int, List.map_cons, List.map_nil, List.isEmpty_nil, List.isEmpty_cons, List.eraseIdx_zero, List.tail_cons, List.eraseIdx_cons_zero, HO.lst.injEq, HO.tup.injEq, HO.dK.injEq, HO.frz.injEq, ne_eq, gTupH, gCons, gNil, wipe, tYes, upd_upd, and_assoc, List.getElem?_map, Option.map_some, isn_non_bool, isn_non_int, isn_non_str, isn_non_tuple, isn_non_list, isn_non_dict, isn_bl_bool, isn_bl_int, isn_bl_str, isn_bl_tuple, isn_bl_list, isn_bl_dict, isn_int_bool, isn_int_int, isn_int_str, isn_int_tuple, isn_int_list, isn_int_dict, isn_str_bool, isn_str_int, isn_str_str, isn_str_tuple, isn_str_list, isn_str_dict, isn_lst_bool, isn_lst_int, isn_lst_str, isn_lst_tuple, isn_lst_list, isn_lst_dict, isn_tup_bool, isn_tup_int, isn_tup_str, isn_tup_tuple, isn_tup_list, isn_tup_dict, isn_dct_bool, isn_dct_int, isn_dct_str, isn_dct_tuple, isn_dct_list, isn_dct_dict, okn_bool, okn_int, okn_str, okn_tuple, okn_list, okn_dict, cIsi, tyT_n, tyT_b, tyT_i, tyT_s, tyT_r, V.ty.injEq, tSl, tPart, tNoPart, rSlF, gName, tFld, sFld, tMeth, tMake, tGetT, tInT, tNinT, sPutT, sAugT, tPopT, rLtH, dtO_d, dtO_f, kysO_n, kysO_i, kysO_s, intsV_n, intsV_i, HO.ins.injEq, HO.dT.injEq, tDNewT, rIxLT, cLenLT, tSortP]
      exact k
    | str b =>
      simp only [RX] at R1 R2
      subst R1 R2
      simp only [tVar, tC, tOp, rI, rI0, rU, tTest, tB, tAnd, tOr, tNot, tAndV, tOrV, tNotV, tIf, tNil, tCons, tTup, tLst, tCB, tSeq, tAsg, gName, tRet, tRetN, tIfS, tNext, tDrop, tCall, tUn, tPar, CMul, CDiv, V.int.injEq, V.bl.injEq, V.ref.injEq, V.str.injEq, Option.some.injEq, List.cons.injEq, and_true, true_and, and_false, false_and, or_false, false_or, or_true, true_or, exists_eq_left', exists_eq_left, exists_and_left, exists_and_right, exists_eq', exists_eq, exists_false, exists_const, List.getElem?_cons_succ, List.getElem?_cons_zero, List.set_cons_succ, List.set_cons_zero, List.length_cons, List.length_nil, List.cons_append, List.nil_append, List.append_nil, reduceCtorEq, Int.reduceLT, Int.reduceLE, Int.reduceNeg, Int.reducePow, Int.reduceSub, Int.reduceAdd, Nat.reduceAdd, Nat.reduceLeDiff, Bool.not_true, Bool.not_false, decide_true, decide_false, Bool.false_eq_true, ↓reduceIte, upd_same, not_true_eq_false, not_false_eq_true, lsO_l, lsO_f, tpO_t, tpO_f, dkO_d, dkO_f, keyO_i, keyO_s, rIxH, rIxU, cLenL, cLenT, cListL, cListT, cTupL, cIntB, cAll, rEqNilI, rEq, rNe, scal_ii, scal_ss, scal_bb, scal_nn, scal_ni, scal_in, scal_ns, scal_sn, gSub, rSetL, ixs0, ixs1, ixs2, seq0, at0, at1, at2, at3, tBM, tBM0, rAppend, rPopAt, tyV_list, tGet2, tGetI, sPut, tMG, rTIdx, tyTup, tTupF, cx_K, cx_w, ex_map_int, ex_nil_int, ex_cons_int, List.map_cons, List.map_nil, List.isEmpty_nil, List.isEmpty_cons, List.eraseIdx_zero, List.tail_cons, List.eraseIdx_cons_zero, HO.lst.injEq, HO.tup.injEq, HO.dK.injEq, HO.frz.injEq, ne_eq, gTupH, gCons, gNil, wipe, tYes, upd_upd, and_assoc, List.getElem?_map, Option.map_some, isn_non_bool, isn_non_int, isn_non_str, isn_non_tuple, isn_non_list, isn_non_dict, isn_bl_bool, isn_bl_int, isn_bl_str, isn_bl_tuple, isn_bl_list, isn_bl_dict, isn_int_bool, isn_int_int, isn_int_str, isn_int_tuple, isn_int_list, isn_int_dict, isn_str_bool, isn_str_int, isn_str_str, isn_str_tuple, isn_str_list, isn_str_dict, isn_lst_bool, isn_lst_int, isn_lst_str, isn_lst_tuple, isn_lst_list, isn_lst_dict, isn_tup_bool, isn_tup_int, isn_tup_str, isn_tup_tuple, isn_tup_list, isn_tup_dict, isn_dct_bool, isn_dct_int, isn_dct_str, isn_dct_tuple, isn_dct_list, isn_dct_dict, okn_bool, okn_int, okn_str, okn_tuple, okn_list, okn_dict, cIsi, tyT_n, tyT_b, tyT_i, tyT_s, tyT_r, V.ty.injEq, tSl, tPart, tNoPart, rSlF, gName, tFld, sFld, tMeth, tMake, tGetT, tInT, tNinT, sPutT, sAugT, tPopT, rLtH, dtO_d, dtO_f, kysO_n, kysO_i, kysO_s, intsV_n, intsV_i, HO.ins.injEq, HO.dT.injEq, tDNewT, rIxLT, cLenLT, tSortP]
      exact k
    | tup ds =>
      simp only [RX] at R1 R2
      obtain ⟨a, us, rfl, ha, R1⟩ := R1
      obtain ⟨b, vs, rfl, hb, R2⟩ := R2
      have l1 := R1.len
      have l2 := R2.len
      simp only [Dx.deep, Dx.fits] at hd hf
      simp only [tVar, tC, tOp, rI, rI0, rU, tTest, tB, tAnd, tOr, tNot, tAndV, tOrV, tNotV, tIf, tNil, tCons, tTup, tLst, tCB, tSeq, tAsg, gName, tRet, tRetN, tIfS, tNext, tDrop, tCall, tUn, tPar, CMul, CDiv, V.int.injEq, V.bl.injEq, V.ref.injEq, V.str.injEq, Option.some.injEq, List.cons.injEq, and_true, true_and, and_false, false_and, or_false, false_or, or_true, true_or, exists_eq_left', exists_eq_left, exists_and_left, exists_and_right, exists_eq', exists_eq, exists_false, exists_const, List.getElem?_cons_succ, List.getElem?_cons_zero, List.set_cons_succ, List.set_cons_zero, List.length_cons, List.length_nil, List.cons_append, List.nil_append, List.append_nil, reduceCtorEq, Int.reduceLT, Int.reduceLE, Int.reduceNeg, Int.reducePow, Int.reduceSub, Int.reduceAdd, Nat.reduceAdd, Nat.reduceLeDiff, Bool.not_true, Bool.not_false, decide_true, decide_false, Bool.false_eq_true, ↓reduceIte, upd_same, not_true_eq_false, not_false_eq_true, lsO_l, lsO_f, tpO_t, tpO_f, dkO_d, dkO_f, keyO_i, keyO_s, rIxH, rIxU, cLenL, cLenT, cListL, cListT, cTupL, cIntB, cAll, rEqNilI, rEq, rNe, scal_ii, scal_ss, scal_bb, scal_nn, scal_ni, scal_in, scal_ns, scal_sn, gSub, rSetL, ixs0, ixs1, ixs2, seq0, at0, at1, at2, at3, tBM, tBM0, rAppend, rPopAt, tyV_list, tGet2, tGetI, sPut, tMG, rTIdx, tyTup, tTupF, cx_K, cx_w, ex_map_int, ex_nil_int, ex_cons_int, List.map_cons, List.map_nil, List.isEmpty_nil, List.isEmpty_cons, List.eraseIdx_zero, List.tail_cons, List.eraseIdx_cons_zero, HO.lst.injEq, HO.tup.injEq, HO.dK.injEq, HO.frz.injEq, ne_eq, gTupH, gCons, gNil, wipe, tYes, upd_upd, and_assoc, List.getElem?_map, Option.map_some, isn_non_bool, isn_non_int, isn_non_str, isn_non_tuple, isn_non_list, isn_non_dict, isn_bl_bool, isn_bl_int, isn_bl_str, isn_bl_tuple, isn_bl_list, isn_bl_dict, isn_int_bool, isn_int_int, isn_int_str, isn_int_tuple, isn_int_list, isn_int_dict, isn_str_bool, isn_str_int, isn_str_str, isn_str_tuple, isn_str_list, isn_str_dict, isn_lst_bool, isn_lst_int, isn_lst_str, isn_lst_tuple, isn_lst_list, isn_lst_dict, isn_tup_bool, isn_tup_int, isn_tup_str, isn_tup_tuple, isn_tup_list, isn_tup_dict, isn_dct_bool, isn_dct_int, isn_dct_str, isn_dct_tuple, isn_dct_list, isn_dct_dict, okn_bool, okn_int, okn_str, okn_tuple, okn_list, okn_dict, cIsi, tyT_n, tyT_b, tyT_i, tyT_s, tyT_r, V.ty.injEq, tSl, tPart, tNoPart, rSlF, gName, tFld, sFld, tMeth, tMake, tGetT, tInT, tNinT, sPutT, sAugT, tPopT, rLtH, dtO_d, dtO_f, kysO_n, kysO_i, kysO_s, intsV_n, intsV_i, HO.ins.injEq, HO.dT.injEq, tDNewT, rIxLT, cLenLT, tSortP, ha, hb]
      refine ⟨us, .inr rfl, vs, .inr rfl, ?_⟩
      rw [if_neg (by simp [l1, l2])]
      simp only [tVar, tC, tOp, rI, rI0, rU, tTest, tB, tAnd, tOr, tNot, tAndV, tOrV, tNotV, tIf, tNil, tCons, tTup, tLst, tCB, tSeq, tAsg, gName, tRet, tRetN, tIfS, tNext, tDrop, tCall, tUn, tPar, CMul, CDiv, V.int.injEq, V.bl.injEq, V.ref.injEq, V.str.injEq, Option.some.injEq, List.cons.injEq, and_true, true_and, and_false, false_and, or_false, false_or, or_true, true_or, exists_eq_left', exists_eq_left, exists_and_left, exists_and_right, exists_eq', exists_eq, exists_false, exists_const, List.getElem?_cons_succ, List.getElem?_cons_zero, List.set_cons_succ, List.set_cons_zero, List.length_cons, List.length_nil, List.cons_append, List.nil_append, List.append_nil, reduceCtorEq, Int.reduceLT, Int.reduceLE, Int.reduceNeg, Int.reducePow, Int.reduceSub, Int.reduceAdd, Nat.reduceAdd, Nat.reduceLeDiff, Bool.not_true, Bool.not_false, decide_true, decide_false, Bool.false_eq_true, ↓reduceIte, upd_same, not_true_eq_false, not_false_eq_true, lsO_l, lsO_f, tpO_t, tpO_f, dkO_d, dkO_f, keyO_i, keyO_s, rIxH, rIxU, cLenL, cLenT, cListL, cListT, cTupL, cIntB, cAll, rEqNilI, rEq, rNe, scal_ii, scal_ss, scal_bb, scal_nn, scal_ni, scal_in, scal_ns, scal_sn, gSub, rSetL, ixs0, ixs1, ixs2, seq0, at0, at1, at2, at3, tBM, tBM0, rAppend, rPopAt, tyV_list, tGet2, tGetI, sPut, tMG, rTIdx, tyTup, tTupF, cx_K, cx_w, ex_map_int, ex_nil_int, ex_cons_int, List.map_cons, List.map_nil, List.isEmpty_nil, List.isEmpty_cons, List.eraseIdx_zero, List.tail_cons, List.eraseIdx_cons_zero, HO.lst.injEq, HO.tup.injEq, HO.dK.injEq, HO.frz.injEq, ne_eq, gTupH, gCons, gNil, wipe, tYes, upd_upd, and_assoc, List.getElem?_map, Option.map_some, isn_non_bool, isn_non_int, isn_non_str, isn_non_tuple, isn_non_list, isn_non_dict, isn_bl_bool, isn_bl_int, isn_bl_str, isn_bl_tuple, isn_bl_list, isn_bl_dict, isn_int_bool, isn_int_int, isn_int_str, isn_int_tuple, isn_int_list, isn_int_dict, isn_str_bool, isn_str_int, isn_str_str, isn_str_tuple, isn_str_list, isn_str_dict, isn_lst_bool, isn_lst_int, isn_lst_str, isn_lst_tuple, isn_lst_list, isn_lst_dict, isn_tup_bool, isn_tup_int, isn_tup_str, isn_tup_tuple, isn_tup_list, isn_tup_dict, isn_dct_bool, isn_dct_int, isn_dct_str, isn_dct_tuple, isn_dct_list, isn_dct_dict, okn_bool, okn_int, okn_str, okn_tuple, okn_list, okn_dict, cIsi, tyT_n, tyT_b, tyT_i, tyT_s, tyT_r, V.ty.injEq, tSl, tPart, tNoPart, rSlF, gName, tFld, sFld, tMeth, tMake, tGetT, tInT, tNinT, sPutT, sAugT, tPopT, rLtH, dtO_d, dtO_f, kysO_n, kysO_i, kysO_s, intsV_n, intsV_i, HO.ins.injEq, HO.dT.injEq, tDNewT, rIxLT, cLenLT, tSortP, tFor_eq, iRng1, hb]
      refine ⟨vs, .inr rfl, by omega, by omega, forB_it (for_it walk_range (fun i σ H2 => ∃ y : Option V, σ = [some (.ref a), some (.ref b), y] ∧ H2 = H) ⟨none, rfl, rfl⟩ (fun _ _ _ _ _ => trivial) ?_ ?_)⟩
      · rintro i x σ H2 H3 hi ⟨y, rfl, rfl⟩ ⟨rfl, rfl⟩
        have hil : i < ds.length := by omega
        obtain ⟨u, hu1, ru⟩ := R1.at (List.getElem?_eq_getElem hil)
        obtain ⟨v, hv1, rv⟩ := R2.at (List.getElem?_eq_getElem hil)
        have dd := Dx.deepL_at (List.getElem?_eq_getElem hil)
        have ff := Dx.fitsL_at hf.2 (List.getElem?_eq_getElem hil)
        have a1 : atI us (0 + (i : Int)) = some u := by rw [Int.zero_add]; exact atI_nat hu1
        have a2 : atI vs (0 + (i : Int)) = some v := by rw [Int.zero_add]; exact atI_nat hv1
        simp only [tVar, tC, tOp, rI, rI0, rU, tTest, tB, tAnd, tOr, tNot, tAndV, tOrV, tNotV, tIf, tNil, tCons, tTup, tLst, tCB, tSeq, tAsg, gName, tRet, tRetN, tIfS, tNext, tDrop, tCall, tUn, tPar, CMul, CDiv, V.int.injEq, V.bl.injEq, V.ref.injEq, V.str.injEq, Option.some.injEq, List.cons.injEq, and_true, true_and, and_false, false_and, or_false, false_or, or_true, true_or, exists_eq_left', exists_eq_left, exists_and_left, exists_and_right, exists_eq', exists_eq, exists_false, exists_const, List.getElem?_cons_succ, List.getElem?_cons_zero, List.set_cons_succ, List.set_cons_zero, List.length_cons, List.length_nil, List.cons_append, List.nil_append, List.append_nil, reduceCtorEq, Int.reduceLT, Int.reduceLE, Int.reduceNeg, Int.reducePow, Int.reduceSub, Int.reduceAdd, Nat.reduceAdd, Nat.reduceLeDiff, Bool.not_true, Bool.not_false, decide_true, decide_false, Bool.false_eq_true, ↓reduceIte, upd_same, not_true_eq_false, not_false_eq_true, lsO_l, lsO_f, tpO_t, tpO_f, dkO_d, dkO_f, keyO_i, keyO_s, rIxH, rIxU, cLenL, cLenT, cListL, cListT, cTupL, cIntB, cAll, rEqNilI, rEq, rNe, scal_ii, scal_ss, scal_bb, scal_nn, scal_ni, scal_in, scal_ns, scal_sn, gSub, rSetL, ixs0, ixs1, ixs2, seq0, at0, at1, at2, at3, tBM, tBM0, rAppend, rPopAt, tyV_list, tGet2, tGetI, sPut, tMG, rTIdx, tyTup, tTupF, cx_K, cx_w, ex_map_int, ex_nil_int, ex_cons_int, List.map_cons, List.map_nil, List.isEmpty_nil, List.isEmpty_cons, List.eraseIdx_zero, List.tail_cons, List.eraseIdx_cons_zero, HO.lst.injEq, HO.tup.injEq, HO.dK.injEq, HO.frz.injEq, ne_eq, gTupH, gCons, gNil, wipe, tYes, upd_upd, and_assoc, List.getElem?_map, Option.map_some, isn_non_bool, isn_non_int, isn_non_str, isn_non_tuple, isn_non_list, isn_non_dict, isn_bl_bool, isn_bl_int, isn_bl_str, isn_bl_tuple, isn_bl_list, isn_bl_dict, isn_int_bool, isn_int_int, isn_int_str, isn_int_tuple, isn_int_list, isn_int_dict, isn_str_bool, isn_str_int, isn_str_str, isn_str_tuple, isn_str_list, isn_str_dict, isn_lst_bool, isn_lst_int, isn_lst_str, isn_lst_tuple, isn_lst_list, isn_lst_dict, isn_tup_bool, isn_tup_int, isn_tup_str, isn_tup_tuple, isn_tup_list, isn_tup_dict, isn_dct_bool, isn_dct_int, isn_dct_str, isn_dct_tuple, isn_dct_list, isn_dct_dict, okn_bool, okn_int, okn_str, okn_tuple, okn_list, okn_dict, cIsi, tyT_n, tyT_b, tyT_i, tyT_s, tyT_r, V.ty.injEq, tSl, tPart, tNoPart, rSlF, gName, tFld, sFld, tMeth, tMake, tGetT, tInT, tNinT, sPutT, sAugT, tPopT, rLtH, dtO_d, dtO_f, kysO_n, kysO_i, kysO_s, intsV_n, intsV_i, HO.ins.injEq, HO.dT.injEq, tDNewT, rIxLT, cLenLT, tSortP, gName, ha, hb]
        refine ⟨us, .inr rfl, _, a1, vs, .inr rfl, _, a2, h0 u v _ _ _ (by omega) ru rv (by omega) ff ?_⟩
        simp only [tVar, tC, tOp, rI, rI0, rU, tTest, tB, tAnd, tOr, tNot, tAndV, tOrV, tNotV, tIf, tNil, tCons, tTup, tLst, tCB, tSeq, tAsg, gName, tRet, tRetN, tIfS, tNext, tDrop, tCall, tUn, tPar, CMul, CDiv, V.int.injEq, V.bl.injEq, V.ref.injEq, V.str.injEq, Option.some.injEq, List.cons.injEq, and_true, true_and, and_false, false_and, or_false, false_or, or_true, true_or, exists_eq_left', exists_eq_left, exists_and_left, exists_and_right, exists_eq', exists_eq, exists_false, exists_const, List.getElem?_cons_succ, List.getElem?_cons_zero, List.set_cons_succ, List.set_cons_zero, List.length_cons, List.length_nil, List.cons_append, List.nil_append, List.append_nil, reduceCtorEq, Int.reduceLT, Int.reduceLE, Int.reduceNeg, Int.reducePow, Int.reduceSub, Int.reduceAdd, Nat.reduceAdd, Nat.reduceLeDiff, Bool.not_true, Bool.not_false, decide_true, decide_false, Bool.false_eq_true, ↓reduceIte, upd_same, not_true_eq_false, not_false_eq_true, lsO_l, lsO_f, tpO_t, tpO_f, dkO_d, dkO_f, keyO_i, keyO_s, rIxH, rIxU, cLenL, cLenT, cListL, cListT, cTupL, cIntB, cAll, rEqNilI, rEq, rNe, scal_ii, scal_ss, scal_bb, scal_nn, scal_ni, scal_in, scal_ns, scal_sn, gSub, rSetL, ixs0, ixs1, ixs2, seq0, at0, at1, at2, at3, tBM, tBM0, rAppend, rPopAt, tyV_list, tGet2, tGetI, sPut, tMG, rTIdx, tyTup, tTupF, cx_K, cx_w, ex_map_int, ex_nil_int, ex_cons_int, List.map_cons, List.map_nil, List.isEmpty_nil, List.isEmpty_cons, List.eraseIdx_zero, List.tail_cons, List.eraseIdx_cons_zero, HO.lst.injEq, HO.tup.injEq, HO.dK.injEq, HO.frz.injEq, ne_eq, gTupH, gCons, gNil, wipe, tYes, upd_upd, and_assoc, List.getElem?_map, Option.map_some, isn_non_bool, isn_non_int, isn_non_str, isn_non_tuple, isn_non_list, isn_non_dict, isn_bl_bool, isn_bl_int, isn_bl_str, isn_bl_tuple, isn_bl_list, isn_bl_dict, isn_int_bool, isn_int_int, isn_int_str, isn_int_tuple, isn_int_list, isn_int_dict, isn_str_bool, isn_str_int, isn_str_str, isn_str_tuple, isn_str_list, isn_str_dict, isn_lst_bool, isn_lst_int, isn_lst_str, isn_lst_tuple, isn_lst_list, isn_lst_dict, isn_tup_bool, isn_tup_int, isn_tup_str, isn_tup_tuple, isn_tup_list, isn_tup_dict, isn_dct_bool, isn_dct_int, isn_dct_str, isn_dct_tuple, isn_dct_list, isn_dct_dict, okn_bool, okn_int, okn_str, okn_tuple, okn_list, okn_dict, cIsi, tyT_n, tyT_b, tyT_i, tyT_s, tyT_r, V.ty.injEq, tSl, tPart, tNoPart, rSlF, gName, tFld, sFld, tMeth, tMake, tGetT, tInT, tNinT, sPutT, sAugT, tPopT, rLtH, dtO_d, dtO_f, kysO_n, kysO_i, kysO_s, intsV_n, intsV_i, HO.ins.injEq, HO.dT.injEq, tDNewT, rIxLT, cLenLT, tSortP]
      · rintro σ H2 ⟨y, rfl, rfl⟩
        simp only [tVar, tC, tOp, rI, rI0, rU, tTest, tB, tAnd, tOr, tNot, tAndV, tOrV, tNotV, tIf, tNil, tCons, tTup, tLst, tCB, tSeq, tAsg, gName, tRet, tRetN, tIfS, tNext, tDrop, tCall, tUn, tPar, CMul, CDiv, V.int.injEq, V.bl.injEq, V.ref.injEq, V.str.injEq, Option.some.injEq, List.cons.injEq, and_true, true_and, and_false, false_and, or_false, false_or, or_true, true_or, exists_eq_left', exists_eq_left, exists_and_left, exists_and_right, exists_eq', exists_eq, exists_false, exists_const, List.getElem?_cons_succ, List.getElem?_cons_zero, List.set_cons_succ, List.set_cons_zero, List.length_cons, List.length_nil, List.cons_append, List.nil_append, List.append_nil, reduceCtorEq, Int.reduceLT, Int.reduceLE, Int.reduceNeg, Int.reducePow, Int.reduceSub, Int.reduceAdd, Nat.reduceAdd, Nat.reduceLeDiff, Bool.not_true, Bool.not_false, decide_true, decide_false, Bool.false_eq_true, ↓reduceIte, upd_same, not_true_eq_false, not_false_eq_true, lsO_l, lsO_f, tpO_t, tpO_f, dkO_d, dkO_f, keyO_i, keyO_s, rIxH, rIxU, cLenL, cLenT, cListL, cListT, cTupL, cIntB, cAll, rEqNilI, rEq, rNe, scal_ii, scal_ss, scal_bb, scal_nn, scal_ni, scal_in, scal_ns, scal_sn, gSub, rSetL, ixs0, ixs1, ixs2, seq0, at0, at1, at2, at3, tBM, tBM0, rAppend, rPopAt, tyV_list, tGet2, tGetI, sPut, tMG, rTIdx, tyTup, tTupF, cx_K, cx_w, ex_map_int, ex_nil_int, ex_cons_int, List.map_cons, List.map_nil, List.isEmpty_nil, List.isEmpty_cons, List.eraseIdx_zero, List.tail_cons, List.eraseIdx_cons_zero, HO.lst.injEq, HO.tup.injEq, HO.dK.injEq, HO.frz.injEq, ne_eq, gTupH, gCons, gNil, wipe, tYes, upd_upd, and_assoc, List.getElem?_map, Option.map_some, isn_non_bool, isn_non_int, isn_non_str, isn_non_tuple, isn_non_list, isn_non_dict, isn_bl_bool, isn_bl_int, isn_bl_str, isn_bl_tuple, isn_bl_list, isn_bl_dict, isn_int_bool, isn_int_int, isn_int_str, isn_int_tuple, isn_int_list, isn_int_dict, isn_str_bool, isn_str_int, isn_str_str, isn_str_tuple, isn_str_list, isn_str_dict, isn_lst_bool, isn_lst_int, isn_lst_str, isn_lst_tuple, isn_lst_list, isn_lst_dict, isn_tup_bool, isn_tup_int, isn_tup_str, isn_tup_tuple, isn_tup_list, isn_tup_dict, isn_dct_bool, isn_dct_int, isn_dct_str, isn_dct_tuple, isn_dct_list, isn_dct_dict, okn_bool, okn_int, okn_str, okn_tuple, okn_list, okn_dict, cIsi, tyT_n, tyT_b, tyT_i, tyT_s, tyT_r, V.ty.injEq, tSl, tPart, tNoPart, rSlF, gName, tFld, sFld, tMeth, tMake, tGetT, tInT, tNinT, sPutT, sAugT, tPopT, rLtH, dtO_d, dtO_f, kysO_n, kysO_i, kysO_s, intsV_n, intsV_i, HO.ins.injEq, HO.dT.injEq, tDNewT, rIxLT, cLenLT, tSortP]
        exact k
    | lst ds =>
      simp only [RX] at R1 R2
      obtain ⟨a, us, rfl, ha, R1⟩ := R1
      obtain ⟨b, vs, rfl, hb, R2⟩ := R2
      have l1 := R1.len
      have l2 := R2.len
      simp only [Dx.deep, Dx.fits] at hd hf
      simp only [tVar, tC, tOp, rI, rI0, rU, tTest, tB, tAnd, tOr, tNot, tAndV, tOrV, tNotV, tIf, tNil, tCons, tTup, tLst, tCB, tSeq, tAsg, gName, tRet, tRetN, tIfS, tNext, tDrop, tCall, tUn, tPar, CMul, CDiv, V.int.injEq, V.bl.injEq, V.ref.injEq, V.str.injEq, Option.some.injEq, List.cons.injEq, and_true, true_and, and_false, false_and, or_false, false_or, or_true, true_or, exists_eq_left', exists_eq_left, exists_and_left, exists_and_right, exists_eq', exists_eq, exists_false, exists_const, List.getElem?_cons_succ, List.getElem?_cons_zero, List.set_cons_succ, List.set_cons_zero, List.length_cons, List.length_nil, List.cons_append, List.nil_append, List.append_nil, reduceCtorEq, Int.reduceLT, Int.reduceLE, Int.reduceNeg, Int.reducePow, Int.reduceSub, Int.reduceAdd, Nat.reduceAdd, Nat.reduceLeDiff, Bool.not_true, Bool.not_false, decide_true, decide_false, Bool.false_eq_true, ↓reduceIte, upd_same, not_true_eq_false, not_false_eq_true, lsO_l, lsO_f, tpO_t, tpO_f, dkO_d, dkO_f, keyO_i, keyO_s, rIxH, rIxU, cLenL, cLenT, cListL, cListT, cTupL, cIntB, cAll, rEqNilI, rEq, rNe, scal_ii, scal_ss, scal_bb, scal_nn, scal_ni, scal_in, scal_ns, scal_sn, gSub, rSetL, ixs0, ixs1, ixs2, seq0, at0, at1, at2, at3, tBM, tBM0, rAppend, rPopAt, tyV_list, tGet2, tGetI, sPut, tMG, rTIdx, tyTup, tTupF, cx_K, cx_w, ex_map_int, ex_nil_int, ex_cons_int, List.map_cons, List.map_nil, List.isEmpty_nil, List.isEmpty_cons, List.eraseIdx_zero, List.tail_cons, List.eraseIdx_cons_zero, HO.lst.injEq, HO.tup.injEq, HO.dK.injEq, HO.frz.injEq, ne_eq, gTupH, gCons, gNil, wipe, tYes, upd_upd, and_assoc, List.getElem?_map, Option.map_some, isn_non_bool, isn_non_int, isn_non_str, isn_non_tuple, isn_non_list, isn_non_dict, isn_bl_bool, isn_bl_int, isn_bl_str, isn_bl_tuple, isn_bl_list, isn_bl_dict, isn_int_bool, isn_int_int, isn_int_str, isn_int_tuple, isn_int_list, isn_int_dict, isn_str_bool, isn_str_int, isn_str_str, isn_str_tuple, isn_str_list, isn_str_dict, isn_lst_bool, isn_lst_int, isn_lst_str, isn_lst_tuple, isn_lst_list, isn_lst_dict, isn_tup_bool, isn_tup_int, isn_tup_str, isn_tup_tuple, isn_tup_list, isn_tup_dict, isn_dct_bool, isn_dct_int, isn_dct_str, isn_dct_tuple, isn_dct_list, isn_dct_dict, okn_bool, okn_int, okn_str, okn_tuple, okn_list, okn_dict, cIsi, tyT_n, tyT_b, tyT_i, tyT_s, tyT_r, V.ty.injEq, tSl, tPart, tNoPart, rSlF, gName, tFld, sFld, tMeth, tMake, tGetT, tInT, tNinT, sPutT, sAugT, tPopT, rLtH, dtO_d, dtO_f, kysO_n, kysO_i, kysO_s, intsV_n, intsV_i, HO.ins.injEq, HO.dT.injEq, tDNewT, rIxLT, cLenLT, tSortP, ha, hb]
      refine ⟨us, .inl rfl, vs, .inl rfl, ?_⟩
      rw [if_neg (by simp [l1, l2])]
      simp only [tVar, tC, tOp, rI, rI0, rU, tTest, tB, tAnd, tOr, tNot, tAndV, tOrV, tNotV, tIf, tNil, tCons, tTup, tLst, tCB, tSeq, tAsg, gName, tRet, tRetN, tIfS, tNext, tDrop, tCall, tUn, tPar, CMul, CDiv, V.int.injEq, V.bl.injEq, V.ref.injEq, V.str.injEq, Option.some.injEq, List.cons.injEq, and_true, true_and, and_false, false_and, or_false, false_or, or_true, true_or, exists_eq_left', exists_eq_left, exists_and_left, exists_and_right, exists_eq', exists_eq, exists_false, exists_const, List.getElem?_cons_succ, List.getElem?_cons_zero, List.set_cons_succ, List.set_cons_zero, List.length_cons, List.length_nil, List.cons_append, List.nil_append, List.append_nil, reduceCtorEq, Int.reduceLT, Int.reduceLE, Int.reduceNeg, Int.reducePow, Int.reduceSub, Int.reduceAdd, Nat.reduceAdd, Nat.reduceLeDiff, Bool.not_true, Bool.not_false, decide_true, decide_false, Bool.false_eq_true, ↓reduceIte, upd_same, not_true_eq_false, not_false_eq_true, lsO_l, lsO_f, tpO_t, tpO_f, dkO_d, dkO_f, keyO_i, keyO_s, rIxH, rIxU, cLenL, cLenT, cListL, cListT, cTupL, cIntB, cAll, rEqNilI, rEq, rNe, scal_ii, scal_ss, scal_bb, scal_nn, scal_ni, scal_in, scal_ns, scal_sn, gSub, rSetL, ixs0, ixs1, ixs2, seq0, at0, at1, at2, at3, tBM, tBM0, rAppend, rPopAt, tyV_list, tGet2, tGetI, sPut, tMG, rTIdx, tyTup, tTupF, cx_K, cx_w, ex_map_int, ex_nil_int, ex_cons_int, List.map_cons, List.map_nil, List.isEmpty_nil, List.isEmpty_cons, List.eraseIdx_zero, List.tail_cons, List.eraseIdx_cons_zero, HO.lst.injEq, HO.tup.injEq, HO.dK.injEq, HO.frz.injEq, ne_eq, gTupH, gCons, gNil, wipe, tYes, upd_upd, and_assoc, List.getElem?_map, Option.map_some, isn_non_bool, isn_non_int, isn_non_str, isn_non_tuple, isn_non_list, isn_non_dict, isn_bl_bool, isn_bl_int, isn_bl_str, isn_bl_tuple, isn_bl_list, isn_bl_dict, isn_int_bool, isn_int_int, isn_int_str, isn_int_tuple, isn_int_list, isn_int_dict, isn_str_bool, isn_str_int, isn_str_str, isn_str_tuple, isn_str_list, isn_str_dict, isn_lst_bool, isn_lst_int, isn_lst_str, isn_lst_tuple, isn_lst_list, isn_lst_dict, isn_tup_bool, isn_tup_int, isn_tup_str, isn_tup_tuple, isn_tup_list, isn_tup_dict, isn_dct_bool, isn_dct_int, isn_dct_str, isn_dct_tuple, isn_dct_list, isn_dct_dict, okn_bool, okn_int, okn_str, okn_tuple, okn_list, okn_dict, cIsi, tyT_n, tyT_b, tyT_i, tyT_s, tyT_r, V.ty.injEq, tSl, tPart, tNoPart, rSlF, gName, tFld, sFld, tMeth, tMake, tGetT, tInT, tNinT, sPutT, sAugT, tPopT, rLtH, dtO_d, dtO_f, kysO_n, kysO_i, kysO_s, intsV_n, intsV_i, HO.ins.injEq, HO.dT.injEq, tDNewT, rIxLT, cLenLT, tSortP, tFor_eq, iRng1, hb]
      refine ⟨vs, .inl rfl, by omega, by omega, forB_it (for_it walk_range (fun i σ H2 => ∃ y : Option V, σ = [some (.ref a), some (.ref b), y] ∧ H2 = H) ⟨none, rfl, rfl⟩ (fun _ _ _ _ _ => trivial) ?_ ?_)⟩
      · rintro i x σ H2 H3 hi ⟨y, rfl, rfl⟩ ⟨rfl, rfl⟩
        have hil : i < ds.length := by omega
        obtain ⟨u, hu1, ru⟩ := R1.at (List.getElem?_eq_getElem hil)
        obtain ⟨v, hv1, rv⟩ := R2.at (List.getElem?_eq_getElem hil)
        have dd := Dx.deepL_at (List.getElem?_eq_getElem hil)
        have ff := Dx.fitsL_at hf.2 (List.getElem?_eq_getElem hil)
        have a1 : atI us (0 + (i : Int)) = some u := by rw [Int.zero_add]; exact atI_nat hu1
        have a2 : atI vs (0 + (i : Int)) = some v := by rw [Int.zero_add]; exact atI_nat hv1
        simp only [tVar, tC, tOp, rI, rI0, rU, tTest, tB, tAnd, tOr, tNot, tAndV, tOrV, tNotV, tIf, tNil, tCons, tTup, tLst, tCB, tSeq, tAsg, gName, tRet, tRetN, tIfS, tNext, tDrop, tCall, tUn, tPar, CMul, CDiv, V.int.injEq, V.bl.injEq, V.ref.injEq, V.str.injEq, Option.some.injEq, List.cons.injEq, and_true, true_and, and_false, false_and, or_false, false_or, or_true, true_or, exists_eq_left', exists_eq_left, exists_and_left, exists_and_right, exists_eq', exists_eq, exists_false, exists_const, List.getElem?_cons_succ, List.getElem?_cons_zero, List.set_cons_succ, List.set_cons_zero, List.length_cons, List.length_nil, List.cons_append, List.nil_append, List.append_nil, reduceCtorEq, Int.reduceLT, Int.reduceLE, Int.reduceNeg, Int.reducePow, Int.reduceSub, Int.reduceAdd, Nat.reduceAdd, Nat.reduceLeDiff, Bool.not_true, Bool.not_false, decide_true, decide_false, Bool.false_eq_true, ↓reduceIte, upd_same, not_true_eq_false, not_false_eq_true, lsO_l, lsO_f, tpO_t, tpO_f, dkO_d, dkO_f, keyO_i, keyO_s, rIxH, rIxU, cLenL, cLenT, cListL, cListT, cTupL, cIntB, cAll, rEqNilI, rEq, rNe, scal_ii, scal_ss, scal_bb, scal_nn, scal_ni, scal_in, scal_ns, scal_sn, gSub, rSetL, ixs0, ixs1, ixs2, seq0, at0, at1, at2, at3, tBM, tBM0, rAppend, rPopAt, tyV_list, tGet2, tGetI, sPut, tMG, rTIdx, tyTup, tTupF, cx_K, cx_w, ex_map_int, ex_nil_int, ex_cons_int, List.map_cons, List.map_nil, List.isEmpty_nil, List.isEmpty_cons, List.eraseIdx_zero, List.tail_cons, List.eraseIdx_cons_zero, HO.lst.injEq, HO.tup.injEq, HO.dK.injEq, HO.frz.injEq, ne_eq, gTupH, gCons, gNil, wipe, tYes, upd_upd, and_assoc, List.getElem?_map, Option.map_some, isn_non_bool, isn_non_int, isn_non_str, isn_non_tuple, isn_non_list, isn_non_dict, isn_bl_bool, isn_bl_int, isn_bl_str, isn_bl_tuple, isn_bl_list, isn_bl_dict, isn_int_bool, isn_int_int, isn_int_str, isn_int_tuple, isn_int_list, isn_int_dict, isn_str_bool, isn_str_int, isn_str_str, isn_str_tuple, isn_str_list, isn_str_dict, isn_lst_bool, isn_lst_int, isn_lst_str, isn_lst_tuple, isn_lst_list, isn_lst_dict, isn_tup_bool, isn_tup_int, isn_tup_str, isn_tup_tuple, isn_tup_list, isn_tup_dict, isn_dct_bool, isn_dct_int, isn_dct_str, isn_dct_tuple, isn_dct_list, isn_dct_dict, okn_bool, okn_int, okn_str, okn_tuple, okn_list, okn_dict, cIsi, tyT_n, tyT_b, tyT_i, tyT_s, tyT_r, V.ty.injEq, tSl, tPart, tNoPart, rSlF, gName, tFld, sFld, tMeth, tMake, tGetT, tInT, tNinT, sPutT, sAugT, tPopT, rLtH, dtO_d, dtO_f, kysO_n, kysO_i, kysO_s, intsV_n, intsV_i, HO.ins.injEq, HO.dT.injEq, tDNewT, rIxLT, cLenLT, tSortP, gName, ha, hb]
        refine ⟨us, .inl rfl, _, a1, vs, .inl rfl, _, a2, h0 u v _ _ _ (by omega) ru rv (by omega) ff ?_⟩
        simp only [tVar, tC, tOp, rI, rI0, rU, tTest, tB, tAnd, tOr, tNot, tAndV, tOrV, tNotV, tIf, tNil, tCons, tTup, tLst, tCB, tSeq, tAsg, gName, tRet, tRetN, tIfS, tNext, tDrop, tCall, tUn, tPar, CMul, CDiv, V.int.injEq, V.bl.injEq, V.ref.injEq, V.str.injEq, Option.some.injEq, List.cons.injEq, and_true, true_and, and_false, false_and, or_false, false_or, or_true, true_or, exists_eq_left', exists_eq_left, exists_and_left, exists_and_right, exists_eq', exists_eq, exists_false, exists_const, List.getElem?_cons_succ, List.getElem?_cons_zero, List.set_cons_succ, List.set_cons_zero, List.length_cons, List.length_nil, List.cons_append, List.nil_append, List.append_nil, reduceCtorEq, Int.reduceLT, Int.reduceLE, Int.reduceNeg, Int.reducePow, Int.reduceSub, Int.reduceAdd, Nat.reduceAdd, Nat.reduceLeDiff, Bool.not_true, Bool.not_false, decide_true, decide_false, Bool.false_eq_true, ↓reduceIte, upd_same, not_true_eq_false, not_false_eq_true, lsO_l, lsO_f, tpO_t, tpO_f, dkO_d, dkO_f, keyO_i, keyO_s, rIxH, rIxU, cLenL, cLenT, cListL, cListT, cTupL, cIntB, cAll, rEqNilI, rEq, rNe, scal_ii, scal_ss, scal_bb, scal_nn, scal_ni, scal_in, scal_ns, scal_sn, gSub, rSetL, ixs0, ixs1, ixs2, seq0, at0, at1, at2, at3, tBM, tBM0, rAppend, rPopAt, tyV_list, tGet2, tGetI, sPut, tMG, rTIdx, tyTup, tTupF, cx_K, cx_w, ex_map_int, ex_nil_int, ex_cons_int, List.map_cons, List.map_nil, List.isEmpty_nil, List.isEmpty_cons, List.eraseIdx_zero, List.tail_cons, List.eraseIdx_cons_zero, HO.lst.injEq, HO.tup.injEq, HO.dK.injEq, HO.frz.injEq, ne_eq, gTupH, gCons, gNil, wipe, tYes, upd_upd, and_assoc, List.getElem?_map, Option.map_some, isn_non_bool, isn_non_int, isn_non_str, isn_non_tuple, isn_non_list, isn_non_dict, isn_bl_bool, isn_bl_int, isn_bl_str, isn_bl_tuple, isn_bl_list, isn_bl_dict, isn_int_bool, isn_int_int, isn_int_str, isn_int_tuple, isn_int_list, isn_int_dict, isn_str_bool, isn_str_int, isn_str_str, isn_str_tuple, isn_str_list, isn_str_dict, isn_lst_bool, isn_lst_int, isn_lst_str, isn_lst_tuple, isn_lst_list, isn_lst_dict, isn_tup_bool, isn_tup_int, isn_tup_str, isn_tup_tuple, isn_tup_list, isn_tup_dict, isn_dct_bool, isn_dct_int, isn_dct_str, isn_dct_tuple, isn_dct_list, isn_dct_dict, okn_bool, okn_int, okn_str, okn_tuple, okn_list, okn_dict, cIsi, tyT_n, tyT_b, tyT_i, tyT_s, tyT_r, V.ty.injEq, tSl, tPart, tNoPart, rSlF, gName, tFld, sFld, tMeth, tMake, tGetT, tInT, tNinT, sPutT, sAugT, tPopT, rLtH, dtO_d, dtO_f, kysO_n, kysO_i, kysO_s, intsV_n, intsV_i, HO.ins.injEq, HO.dT.injEq, tDNewT, rIxLT, cLenLT, tSortP]
      · rintro σ H2 ⟨y, rfl, rfl⟩
        simp only [tVar, tC, tOp, rI, rI0, rU, tTest, tB, tAnd, tOr, tNot, tAndV, tOrV, tNotV, tIf, tNil, tCons, tTup, tLst, tCB, tSeq, tAsg, gName, tRet, tRetN, tIfS, tNext, tDrop, tCall, tUn, tPar, CMul, CDiv, V.int.injEq, V.bl.injEq, V.ref.injEq, V.str.injEq, Option.some.injEq, List.cons.injEq, and_true, true_and, and_false, false_and, or_false, false_or, or_true, true_or, exists_eq_left', exists_eq_left, exists_and_left, exists_and_right, exists_eq', exists_eq, exists_false, exists_const, List.getElem?_cons_succ, List.getElem?_cons_zero, List.set_cons_succ, List.set_cons_zero, List.length_cons, List.length_nil, List.cons_append, List.nil_append, List.append_nil, reduceCtorEq, Int.reduceLT, Int.reduceLE, Int.reduceNeg, Int.reducePow, Int.reduceSub, Int.reduceAdd, Nat.reduceAdd, Nat.reduceLeDiff, Bool.not_true, Bool.not_false, decide_true, decide_false, Bool.false_eq_true, ↓reduceIte, upd_same, not_true_eq_false, not_false_eq_true, lsO_l, lsO_f, tpO_t, tpO_f, dkO_d, dkO_f, keyO_i, keyO_s, rIxH, rIxU, cLenL, cLenT, cListL, cListT, cTupL, cIntB, cAll, rEqNilI, rEq, rNe, scal_ii, scal_ss, scal_bb, scal_nn, scal_ni, scal_in, scal_ns, scal_sn, gSub, rSetL, ixs0, ixs1, ixs2, seq0, at0, at1, at2, at3, tBM, tBM0, rAppend, rPopAt, tyV_list, tGet2, tGetI, sPut, tMG, rTIdx, tyTup, tTupF, cx_K, cx_w, ex_map_int, ex_nil_int, ex_cons_int, List.map_cons, List.map_nil, List.isEmpty_nil, List.isEmpty_cons, List.eraseIdx_zero, List.tail_cons, List.eraseIdx_cons_zero, HO.lst.injEq, HO.tup.injEq, HO.dK.injEq, HO.frz.injEq, ne_eq, gTupH, gCons, gNil, wipe, tYes, upd_upd, and_assoc, List.getElem?_map, Option.map_some, isn_non_bool, isn_non_int, isn_non_str, isn_non_tuple, isn_non_list, isn_non_dict, isn_bl_bool, isn_bl_int, isn_bl_str, isn_bl_tuple, isn_bl_list, isn_bl_dict, isn_int_bool, isn_int_int, isn_int_str, isn_int_tuple, isn_int_list, isn_int_dict, isn_str_bool, isn_str_int, isn_str_str, isn_str_tuple, isn_str_list, isn_str_dict, isn_lst_bool, isn_lst_int, isn_lst_str, isn_lst_tuple, isn_lst_list, isn_lst_dict, isn_tup_bool, isn_tup_int, isn_tup_str, isn_tup_tuple, isn_tup_list, isn_tup_dict, isn_dct_bool, isn_dct_int, isn_dct_str, isn_dct_tuple, isn_dct_list, isn_dct_dict, okn_bool, okn_int, okn_str, okn_tuple, okn_list, okn_dict, cIsi, tyT_n, tyT_b, tyT_i, tyT_s, tyT_r, V.ty.injEq, tSl, tPart, tNoPart, rSlF, gName, tFld, sFld, tMeth, tMake, tGetT, tInT, tNinT, sPutT, sAugT, tPopT, rLtH, dtO_d, dtO_f, kysO_n, kysO_i, kysO_s, intsV_n, intsV_i, HO.ins.injEq, HO.dT.injEq, tDNewT, rIxLT, cLenLT, tSortP]
        exact k
theorem ok_l_alike (T : Txt K mg) : ∀ d, FnOk P w K mg base CX0 (d + 2) T.f_l_alike T.fd_l_alike ["_law_found", "_law_due"] (spAlikeD d)
  | 0 => alike_step T 0 (fun _ _ _ _ => False) (T.F_l_alike.ok sc_l_alike (fun vs H Q E h => h.elim) (fun cdv A outer s H vs Q E hr h => h.elim)) fun u v t H Q h => absurd h (by omega)
  | d + 1 => alike_step T (d + 1) (spAlikeD d) (ok_l_alike T d) fun u v t H Q _ R1 R2 hd hf k => ⟨u, v, t, rfl, R1, R2, by omega, hf, k⟩
end

def spLaw (K : PySem.W.Frag) : Sp := fun vs H Q _ => ∃ (a : Addr) (ns : List Int), vs = [.ref a] ∧ SqL K H a (ns.map V.int) ∧ ns.length ≤ 63 ∧ ∀ H', Q (.bl true) H'
/-- what stands between two turns -/
structure St37 (C : Addr) (h l ia dx il dd pl : Addr) (H : Hp) (qs : List Pr) : Prop where
  box : BoxA H h l
  ix : Idx C H ia dx il dd (qs.map (·.2))
  at_ : H pl = some (.lst (qs.map fun p => V.ref p.1))
  tu : ∀ p ∈ qs, H p.1 = some (.tup [.int p.2.1, .int p.2.2])
theorem Idx.perm {C : Addr} {H : Hp} {a dx l d : Addr} {M N : List (Int × Int)} (I : Idx C H a dx l d M) (p : M.Perm N) : Idx C H a dx l d N := by
  obtain ⟨ps, kvs, J⟩ := I.ex
  refine ⟨I.ob, ps, kvs, ⟨J.ls, J.tu, J.dc, J.ris, fun q => by rw [J.mem q, p.mem_iff], fun q => ?_, J.nd, fun k hk => (p.map ky2).mem_iff.mp (J.ks k hk)⟩⟩
  rw [J.cnt q, p.count_eq]
  by_cases h : q ∈ M
  · rw [if_pos h, if_pos (p.mem_iff.mp h)]
  · rw [if_neg h, if_neg (fun z => h (p.mem_iff.mpr z))]
theorem St37.keepB {C h l ia dx il dd pl : Addr} {H H' : Hp} {qs : List Pr} (S : St37 C h l ia dx il dd pl H qs) (nd : [h, l, il, dd, pl].Nodup) (B : BoxA H' h l) (k : Keep [h, l] H H') : St37 C h l ia dx il dd pl H' qs := by
  have B0 := S.box
  obtain ⟨ns, st, b1, b2, _⟩ := id B0
  simp only [List.nodup_cons, List.mem_cons, List.mem_nil_iff, or_false, not_or] at nd
  have nb : ∀ b o, H b = some o → (∀ xs, o ≠ .lst xs) → b ∉ [h, l] := fun b o e n m => by
    simp only [List.mem_cons, List.mem_nil_iff, or_false] at m
    rcases m with rfl | rfl
    · rw [b1] at e; cases e; exact n _ rfl
    · rw [b2] at e; cases e; exact n _ rfl
  refine ⟨B, S.ix.keep fun b o hb e => ?_, k _ _ (by simp only [List.mem_cons, List.mem_nil_iff, or_false, not_or]; exact ⟨fun z => nd.1.2.2.2 z.symm, fun z => nd.2.1.2.2 z.symm⟩) S.at_, fun p hp => k _ _ (nb _ _ (S.tu p hp) (by intro xs z; cases z)) (S.tu p hp)⟩
  refine k _ _ ?_ e
  rcases hb with rfl | rfl | rfl | ⟨xs, rfl⟩
  · rw [S.ix.ob] at e; cases e
    exact nb _ _ S.ix.ob (by intro xs z; cases z)
  · simp only [List.mem_cons, List.mem_nil_iff, or_false, not_or]
    exact ⟨fun z => nd.1.2.1 z.symm, fun z => nd.2.1.1 z.symm⟩
  · simp only [List.mem_cons, List.mem_nil_iff, or_false, not_or]
    exact ⟨fun z => nd.1.2.2.1 z.symm, fun z => nd.2.1.2.1 z.symm⟩
  · exact nb _ _ e (by intro xs z; cases z)
theorem tup_ne {H : Hp} {b p : Addr} {xs us : List V} (h : H b = some (.tup us)) (hp : H p = some (.lst xs)) : b ≠ p := ne_of h hp (by intro z; cases z)
theorem St37.updP {C h l ia dx il dd pl : Addr} {H H' : Hp} {qs : List Pr} (S : St37 C h l ia dx il dd pl H qs) (nd : [h, l, il, dd, pl].Nodup) (k : Keep [pl] H H') : BoxA H' h l ∧ Idx C H' ia dx il dd (qs.map (·.2)) ∧ (∀ p ∈ qs, H' p.1 = some (.tup [.int p.2.1, .int p.2.2])) := by
  simp only [List.nodup_cons, List.mem_cons, List.mem_nil_iff, or_false, not_or] at nd
  refine ⟨S.box.keep k (by simp only [List.mem_singleton]; exact nd.1.2.2.2) (by simp only [List.mem_singleton]; exact nd.2.1.2.2), S.ix.keep fun b o hb e => k b o ?_ e, fun p hp => k _ _ (by simp only [List.mem_singleton]; exact tup_ne (S.tu p hp) S.at_) (S.tu p hp)⟩
  simp only [List.mem_singleton]
  rcases hb with rfl | rfl | rfl | ⟨xs, rfl⟩
  · exact ne_of S.ix.ob S.at_ (by intro z; cases z)
  · exact nd.2.2.1.2
  · exact nd.2.2.2.1
  · exact tup_ne e S.at_
theorem box_ix {C h l ia dx il dd pl : Addr} {H H' : Hp} {M : List (Int × Int)} {qs : List Pr} (B : BoxA H h l) (I : Idx C H ia dx il dd M) (hpl : H pl = some (.lst (qs.map fun p => V.ref p.1))) (ht : ∀ p ∈ qs, H p.1 = some (.tup [.int p.2.1, .int p.2.2])) (nd : [h, l, il, dd, pl].Nodup) (k : Keep [il, dd] H H') :
    BoxA H' h l ∧ H' pl = some (.lst (qs.map fun p => V.ref p.1)) ∧ (∀ p ∈ qs, H' p.1 = some (.tup [.int p.2.1, .int p.2.2])) := by
  simp only [List.nodup_cons, List.mem_cons, List.mem_nil_iff, or_false, not_or] at nd
  obtain ⟨ps, kvs, J⟩ := I.ex
  refine ⟨B.keep k ?_ ?_, k _ _ ?_ hpl, fun p hp => k _ _ ?_ (ht p hp)⟩
  all_goals simp only [List.mem_cons, List.mem_nil_iff, or_false, not_or]
  · exact ⟨nd.1.2.1, nd.1.2.2.1⟩
  · exact ⟨nd.2.1.1, nd.2.1.2.1⟩
  · exact ⟨fun z => nd.2.2.1.2 z.symm, fun z => nd.2.2.2.1 z.symm⟩
  · exact ⟨tup_ne (ht p hp) J.ls, ne_of (ht p hp) J.dc (by intro z; cases z)⟩
theorem erase_perm {α : Type} : ∀ (l : List α) (r : Nat) (h : r < l.length), l.Perm (l[r] :: l.eraseIdx r)
  | a :: l, 0, h => List.Perm.refl _
  | a :: l, r + 1, h => by
    have ih := erase_perm l r (by rw [List.length_cons] at h; omega)
    exact (ih.cons a).trans (List.Perm.swap _ _ _)
theorem map_erase_perm {qs : List Pr} {r : Nat} {q : Pr} (h : qs[r]? = some q) : ((qs.map (·.2)).erase q.2).Perm ((qs.eraseIdx r).map (·.2)) := by
  obtain ⟨hr, e⟩ := List.getElem?_eq_some_iff.mp h
  have p1 : (qs.map (·.2)).Perm (q.2 :: (qs.eraseIdx r).map (·.2)) := by
    have z : qs.Perm (q :: qs.eraseIdx r) := by
      have z := erase_perm qs r hr
      rw [e] at z
      exact z
    exact z.map (·.2)
  have p2 := p1.erase q.2
  rw [List.erase_cons_head] at p2
  exact p2
theorem St37.same {C h l ia dx il dd pl : Addr} {H H' : Hp} {qs : List Pr} (S : St37 C h l ia dx il dd pl H qs) (k : Same H H') : St37 C h l ia dx il dd pl H' qs :=
  ⟨S.box.same k, S.ix.same k, k _ _ S.at_, fun p hp => k _ _ (S.tu p hp)⟩
section
variable {P : Program} {w : World} {K : PySem.W.Frag} {mg : Str → Option Value} {base : Heap}
theorem ok_law (T : Txt K mg) : FnOk P w K mg base CX0 6 T.f_law T.fd_law ["_law_script"] (spLaw K) := by
  have G_l_begun : FnOk P w K mg base CX0 1 T.f_l_begun T.fd_l_begun ["_law_script"] (spBegun K) := ok_l_begun T
  have G_l_take : FnOk P w K mg base CX0 1 T.f_l_take T.fd_l_take ["_law_box", "_law_many"] spTake := ok_l_take T
  have G_l_alike : FnOk P w K mg base CX0 4 T.f_l_alike T.fd_l_alike ["_law_found", "_law_due"] (spAlikeD 2) := ok_l_alike T 2
  have G_Index_init : FnOk P w K mg base CX0 1 T.f_Index_init T.fd_Index_init ["self"] (spIdxInit T.C_Index) := ok_Index_init T
  have G_Index_add : FnOk P w K mg base CX0 2 T.f_Index_add T.fd_Index_add ["self", "worth", "key"] (spIdxAdd T.C_Index) := ok_Index_add T
  have G_Index_lose : FnOk P w K mg base CX0 2 T.f_Index_lose T.fd_Index_lose ["self", "worth", "key"] (spIdxLose T.C_Index) := ok_Index_lose T
  have G_Index_between : FnOk P w K mg base CX0 2 T.f_Index_between T.fd_Index_between ["self", "low", "high"] (spIdxBtw T.C_Index) := ok_Index_between T
  refine T.F_law.ok sc_law (fun vs H Q E h => ?_) (fun cdv A outer s H vs Q E hr h => ?_)
  · obtain ⟨a, ns, rfl, _⟩ := h
    rfl
  · obtain ⟨a, ns, rfl, hS, hlen, k⟩ := h
    have hu64 := hu64_of hr
    refine ⟨_, (pss_cons (ps_set (i := 1) sc_law.nd rfl (Or.inl rfl) (pe_call G_l_begun (hr.mono (by decide)) rfl T.mg_l_begun T.F_l_begun.kp T.b_l_begun .nil pass0 (pa_cons (pv 0) pa_nil)))
      (pss_cons (ps_par (i := 2) (j := 3) rfl sc_law.nd rfl rfl (by decide) rfl rfl (pa_cons (pe_make0 T.mk_Index G_Index_init (hr.mono (by decide)) rfl T.mg_Index T.b_Index_init .nil pass0) (pa_cons (pe_lst pa_nil) pa_nil)) (by rfl))
      (pss_cons (ps_for PassesOwn.never rfl (pi_range1 rfl T.n_range (pa_cons (PE.imp' (t' := tTake2 1 (20) (81)) (pe_call G_l_take (hr.mono (by decide)) rfl T.mg_l_take T.F_l_take.kp T.b_l_take .nil pass0 (pa_cons (pv 1) (pa_cons (pe_ix ix_lst (pe_lst (pa_cons pe_int (pa_cons pe_int pa_nil))) (pe_call G_l_take (hr.mono (by decide)) rfl T.mg_l_take T.F_l_take.kp T.b_l_take .nil pass0 (pa_cons (pv 1) (pa_cons pe_int pa_nil))) (fun _ _ => rfl)) pa_nil))) (fun _ _ _ h => h)) pa_nil)) (pg_name (i := 4) sc_law.nd rfl (Or.inl rfl)) (Evl.pss_cut (ps_if (PW.pt (pw_and (pt_cmpR (op_neDK K rfl hu64) (pv 3) (pe_lst pa_nil) (nomark _)) (pw_and1 (pt_cmpR op_eq (pe_call G_l_take (hr.mono (by decide)) rfl T.mg_l_take T.F_l_take.kp T.b_l_take .nil pass0 (pa_cons (pv 1) (pa_cons pe_int pa_nil))) pe_int (nomark _))))) (Evl.pss_cut (ps_asg (pe_bm PySem.F.plainAttrs_list PySem.F.slot_list_pop PySem.F.type_list_pop mt_popAt (pv 3) (pa_cons (pe_call G_l_take (hr.mono (by decide)) rfl T.mg_l_take T.F_l_take.kp T.b_l_take .nil pass0 (pa_cons (pv 1) (pa_cons (pe_callB len_lst (by rfl) T.n_len PySem.boot_len (pa_cons (pv 3) pa_nil)) pa_nil))) pa_nil)) (pg_tupH (n := 2) rfl (pgs_cons (pg_name (i := 5) sc_law.nd rfl (Or.inl rfl)) (pgs_cons (pg_name (i := 6) sc_law.nd rfl (Or.inl rfl)) pgs_nil))))
          (pss_one (ps_if (pt_cmpR op_notN (pe_meth (pv 2) T.cl_Index T.me_Index_lose G_Index_lose (hr.mono (by decide)) T.b_Index_lose .nil pass0 (pa_cons (pv 5) (pa_cons (pv 6) pa_nil))) pe_non (nomark _)) (pss_one (ps_ret pe_bl)) pss_nil))) (Evl.pss_cut (ps_set (i := 5) sc_law.nd rfl (Or.inl rfl) (pe_op op_sub (PE.imp' (t' := tTake2 1 (5) (1999)) (pe_call G_l_take (hr.mono (by decide)) rfl T.mg_l_take T.F_l_take.kp T.b_l_take .nil pass0 (pa_cons (pv 1) (pa_cons (pe_ix ix_lst (pe_lst (pa_cons pe_int (pa_cons pe_int pa_nil))) (pe_call G_l_take (hr.mono (by decide)) rfl T.mg_l_take T.F_l_take.kp T.b_l_take .nil pass0 (pa_cons (pv 1) (pa_cons pe_int pa_nil))) (fun _ _ => rfl)) pa_nil))) (fun _ _ _ h => h)) pe_int))
          (Evl.pss_cut (ps_set (i := 6) sc_law.nd rfl (Or.inl rfl) (pe_op op_sub (PE.imp' (t' := tTake2 1 (4) (999999)) (pe_call G_l_take (hr.mono (by decide)) rfl T.mg_l_take T.F_l_take.kp T.b_l_take .nil pass0 (pa_cons (pv 1) (pa_cons (pe_ix ix_lst (pe_lst (pa_cons pe_int (pa_cons pe_int pa_nil))) (pe_call G_l_take (hr.mono (by decide)) rfl T.mg_l_take T.F_l_take.kp T.b_l_take .nil pass0 (pa_cons (pv 1) (pa_cons pe_int pa_nil))) (fun _ _ => rfl)) pa_nil))) (fun _ _ _ h => h)) pe_int))
          (pss_cons (ps_expr (pe_bm PySem.F.plainAttrs_list PySem.F.slot_list_append PySem.F.type_list_append mt_append (pv 3) (pa_cons (pe_tup (pa_cons (pv 5) (pa_cons (pv 6) pa_nil))) pa_nil)))
          (pss_one (ps_if (pt_cmpR op_notN (pe_meth (pv 2) T.cl_Index T.me_Index_add G_Index_add (hr.mono (by decide)) T.b_Index_add .nil pass0 (pa_cons (pv 5) (pa_cons (pv 6) pa_nil))) pe_non (nomark _)) (pss_one (ps_ret pe_bl)) pss_nil))))))
        (Evl.pss_cut (ps_par (i := 7) (j := 8) rfl sc_law.nd rfl rfl (by decide) rfl rfl (pa_cons (pe_op op_sub (pe_call G_l_take (hr.mono (by decide)) rfl T.mg_l_take T.F_l_take.kp T.b_l_take .nil pass0 (pa_cons (pv 1) (pa_cons pe_int pa_nil))) pe_int) (pa_cons (pe_op op_sub (pe_call G_l_take (hr.mono (by decide)) rfl T.mg_l_take T.F_l_take.kp T.b_l_take .nil pass0 (pa_cons (pv 1) (pa_cons pe_int pa_nil))) pe_int) pa_nil)) (by rfl))
        (pss_one (ps_for PassesOwn.never rfl (pi_tupK K rfl (pe_tup (pa_cons (pe_tup (pa_cons (pv 7) (pa_cons (pv 8) pa_nil))) (pa_cons (pe_tup (pa_cons pe_non (pa_cons (pv 8) pa_nil))) (pa_cons (pe_tup (pa_cons (pv 7) (pa_cons pe_non pa_nil))) (pa_cons (pe_tup (pa_cons pe_non (pa_cons pe_non pa_nil))) pa_nil)))))) (pg_tupH (n := 2) rfl (pgs_cons (pg_name (i := 9) sc_law.nd rfl (Or.inr rfl)) (pgs_cons (pg_name (i := 10) sc_law.nd rfl (Or.inr rfl)) pgs_nil))) (Evl.pss_cut (ps_setLc (i := 11) (own := [("_law_pair", 13)]) (g := gName 13) rfl sc_law.nd rfl rfl (sw_true rfl rfl rfl (by decide +kernel)) (pi_listK K rfl (pv 3)) (blkOk_by (N := N_law) (sc := defScope s_law) (by decide +kernel)) (fun _ _ _ _ _ => (pg_name (i := 13) sc_law.nd rfl (Or.inl rfl))) (fun _ _ _ _ _ => pts_one (PW.pt (pw_and (PW.pt (pw_or (pt_cmpR op_isN (pv 9) pe_non (nomark _)) (pw_or1 (pt_cmpR op_le (pv 9) (pe_ix ix_tp (pv 13) pe_int (fun _ _ => rfl)) (nomark _))))) (pw_and1 (PW.pt (pw_or (pt_cmpR op_isN (pv 10) pe_non (nomark _)) (pw_or1 (pt_cmpR op_le (pe_ix ix_tp (pv 13) pe_int (fun _ _ => rfl)) (pv 10) (nomark _))))))))) (fun _ _ _ _ _ => (pv 13)))
          (Evl.pss_cut (ps_set (i := 12) sc_law.nd rfl (Or.inl rfl) (pe_meth (pv 2) T.cl_Index T.me_Index_between G_Index_between (hr.mono (by decide)) T.b_Index_between .nil pass0 (pa_cons (pv 9) (pa_cons (pv 10) pa_nil))))
          (Evl.pss_cut (ps_if (pt_not (pt_val (pe_call G_l_alike (hr.mono (by decide)) rfl T.mg_l_alike T.F_l_alike.kp T.b_l_alike .nil pass0 (pa_cons (pv 12) (pa_cons (pe_sortP rfl hu64 (by rfl) T.n_sorted (by rfl) T.n_set (pv 11)) pa_nil))))) (pss_one (ps_ret pe_bl)) pss_nil)
          (pss_one (ps_expr (pe_bm PySem.F.plainAttrs_list PySem.F.slot_list_append PySem.F.type_list_append mt_append (pv 12) (pa_cons pe_int pa_nil))))))))))))
      (pss_one (ps_ret pe_bl))))), ?_⟩
    rw [show L2.start N_law [V.ref a] = [some (V.ref a), none, none, none, none, none, none, none, none, none, none, none, none, none] from rfl]
    simp only [tVar, tC, tOp, rI, rI0, rU, tTest, tB, tAnd, tOr, tNot, tAndV, tOrV, tNotV, tIf, tNil, tCons, tTup, tLst, tCB, tSeq, tAsg, gName, tRet, tRetN, tIfS, tNext, tDrop, tCall, tUn, tPar, CMul, CDiv, V.int.injEq, V.bl.injEq, V.ref.injEq, V.str.injEq, Option.some.injEq, List.cons.injEq, and_true, true_and, and_false, false_and, or_false, false_or, or_true, true_or, exists_eq_left', exists_eq_left, exists_and_left, exists_and_right, exists_eq', exists_eq, exists_false, exists_const, List.getElem?_cons_succ, List.getElem?_cons_zero, List.set_cons_succ, List.set_cons_zero, List.length_cons, List.length_nil, List.cons_append, List.nil_append, List.append_nil, reduceCtorEq, Int.reduceLT, Int.reduceLE, Int.reduceNeg, Int.reducePow, Int.reduceSub, Int.reduceAdd, Nat.reduceAdd, Nat.reduceLeDiff, Bool.not_true, Bool.not_false, decide_true, decide_false, Bool.false_eq_true, ↓reduceIte, upd_same, not_true_eq_false, not_false_eq_true, lsO_l, lsO_f, tpO_t, tpO_f, dkO_d, dkO_f, keyO_i, keyO_s, rIxH, rIxU, cLenL, cLenT, cListL, cListT, cTupL, cIntB, cAll, rEqNilI, rEq, rNe, scal_ii, scal_ss, scal_bb, scal_nn, scal_ni, scal_in, scal_ns, scal_sn, gSub, rSetL, ixs0, ixs1, ixs2, seq0, at0, at1, at2, at3, tBM, tBM0, rAppend, rPopAt, tyV_list, tGet2, tGetI, sPut, tMG, rTIdx, tyTup, tTupF, cx_K, cx_w, ex_map_int, ex_nil_int, ex_cons_int, List.map_cons, List.map_nil, List.isEmpty_nil, List.isEmpty_cons, List.eraseIdx_zero, List.tail_cons, List.eraseIdx_cons_zero, HO.lst.injEq, HO.tup.injEq, HO.dK.injEq, HO.frz.injEq, ne_eq, gTupH, gCons, gNil, wipe, tYes, upd_upd, and_assoc, List.getElem?_map, Option.map_some, isn_non_bool, isn_non_int, isn_non_str, isn_non_tuple, isn_non_list, isn_non_dict, isn_bl_bool, isn_bl_int, isn_bl_str, isn_bl_tuple, isn_bl_list, isn_bl_dict, isn_int_bool, isn_int_int, isn_int_str, isn_int_tuple, isn_int_list, isn_int_dict, isn_str_bool, isn_str_int, isn_str_str, isn_str_tuple, isn_str_list, isn_str_dict, isn_lst_bool, isn_lst_int, isn_lst_str, isn_lst_tuple, isn_lst_list, isn_lst_dict, isn_tup_bool, isn_tup_int, isn_tup_str, isn_tup_tuple, isn_tup_list, isn_tup_dict, isn_dct_bool, isn_dct_int, isn_dct_str, isn_dct_tuple, isn_dct_list, isn_dct_dict, okn_bool, okn_int, okn_str, okn_tuple, okn_list, okn_dict, cIsi, tyT_n, tyT_b, tyT_i, tyT_s, tyT_r, V.ty.injEq, tSl, tPart, tNoPart, rSlF, gName, tFld, sFld, tMeth, tMake, tGetT, tInT, tNinT, sPutT, sAugT, tPopT, rLtH, dtO_d, dtO_f, kysO_n, kysO_i, kysO_s, intsV_n, intsV_i, HO.ins.injEq, HO.dT.injEq, tDNewT, rIxLT, cLenLT, tSortP]
    refine ⟨a, ns, rfl, hS, hlen, fun H1 h l _ _ s1 B1 => ?_⟩
    simp only [tVar, tC, tOp, rI, rI0, rU, tTest, tB, tAnd, tOr, tNot, tAndV, tOrV, tNotV, tIf, tNil, tCons, tTup, tLst, tCB, tSeq, tAsg, gName, tRet, tRetN, tIfS, tNext, tDrop, tCall, tUn, tPar, CMul, CDiv, V.int.injEq, V.bl.injEq, V.ref.injEq, V.str.injEq, Option.some.injEq, List.cons.injEq, and_true, true_and, and_false, false_and, or_false, false_or, or_true, true_or, exists_eq_left', exists_eq_left, exists_and_left, exists_and_right, exists_eq', exists_eq, exists_false, exists_const, List.getElem?_cons_succ, List.getElem?_cons_zero, List.set_cons_succ, List.set_cons_zero, List.length_cons, List.length_nil, List.cons_append, List.nil_append, List.append_nil, reduceCtorEq, Int.reduceLT, Int.reduceLE, Int.reduceNeg, Int.reducePow, Int.reduceSub, Int.reduceAdd, Nat.reduceAdd, Nat.reduceLeDiff, Bool.not_true, Bool.not_false, decide_true, decide_false, Bool.false_eq_true, ↓reduceIte, upd_same, not_true_eq_false, not_false_eq_true, lsO_l, lsO_f, tpO_t, tpO_f, dkO_d, dkO_f, keyO_i, keyO_s, rIxH, rIxU, cLenL, cLenT, cListL, cListT, cTupL, cIntB, cAll, rEqNilI, rEq, rNe, scal_ii, scal_ss, scal_bb, scal_nn, scal_ni, scal_in, scal_ns, scal_sn, gSub, rSetL, ixs0, ixs1, ixs2, seq0, at0, at1, at2, at3, tBM, tBM0, rAppend, rPopAt, tyV_list, tGet2, tGetI, sPut, tMG, rTIdx, tyTup, tTupF, cx_K, cx_w, ex_map_int, ex_nil_int, ex_cons_int, List.map_cons, List.map_nil, List.isEmpty_nil, List.isEmpty_cons, List.eraseIdx_zero, List.tail_cons, List.eraseIdx_cons_zero, HO.lst.injEq, HO.tup.injEq, HO.dK.injEq, HO.frz.injEq, ne_eq, gTupH, gCons, gNil, wipe, tYes, upd_upd, and_assoc, List.getElem?_map, Option.map_some, isn_non_bool, isn_non_int, isn_non_str, isn_non_tuple, isn_non_list, isn_non_dict, isn_bl_bool, isn_bl_int, isn_bl_str, isn_bl_tuple, isn_bl_list, isn_bl_dict, isn_int_bool, isn_int_int, isn_int_str, isn_int_tuple, isn_int_list, isn_int_dict, isn_str_bool, isn_str_int, isn_str_str, isn_str_tuple, isn_str_list, isn_str_dict, isn_lst_bool, isn_lst_int, isn_lst_str, isn_lst_tuple, isn_lst_list, isn_lst_dict, isn_tup_bool, isn_tup_int, isn_tup_str, isn_tup_tuple, isn_tup_list, isn_tup_dict, isn_dct_bool, isn_dct_int, isn_dct_str, isn_dct_tuple, isn_dct_list, isn_dct_dict, okn_bool, okn_int, okn_str, okn_tuple, okn_list, okn_dict, cIsi, tyT_n, tyT_b, tyT_i, tyT_s, tyT_r, V.ty.injEq, tSl, tPart, tNoPart, rSlF, gName, tFld, sFld, tMeth, tMake, tGetT, tInT, tNinT, sPutT, sAugT, tPopT, rLtH, dtO_d, dtO_f, kysO_n, kysO_i, kysO_s, intsV_n, intsV_i, HO.ins.injEq, HO.dT.injEq, tDNewT, rIxLT, cLenLT, tSortP]
    intro x dx hx hdx ndx
    refine ⟨x, dx, rfl, upd_same, fun il dd H2 hil hdd nid I2 kp => ⟨rfl, szl (by decide), fun pl hpl => ?_⟩⟩
    have B2 : BoxA H2 h l := by
      obtain ⟨ns', st, b1, b2, b3⟩ := B1
      have e1 : ∀ b o, H1 b = some o → H2 b = some o := fun b o e => kp b o (by rw [upd_ne (ne_of_none e hx), upd_ne (ne_of_none e hdx)]; exact e) (ne_of_none e hx)
      exact ⟨ns', st, e1 _ _ b1, e1 _ _ b2, b3⟩
    have nd : [h, l, il, dd, pl].Nodup := by
      have n1 := B1.ne
      obtain ⟨ns', st, b1, b2, b3⟩ := id B1
      obtain ⟨ns2, st2, c1, c2, c3⟩ := id B2
      obtain ⟨ps, kvs, J⟩ := I2.ex
      have f1 : ∀ b o, H1 b = some o → b ≠ il ∧ b ≠ dd := fun b o e => by
        have e' : upd (upd H1 dx (.own x)) x (.ins T.C_Index dx []) b = some o := by rw [upd_ne (ne_of_none e hx), upd_ne (ne_of_none e hdx)]; exact e
        exact ⟨ne_of_none e' hil, ne_of_none e' hdd⟩
      have g1 := f1 _ _ b1
      have g2 := f1 _ _ b2
      simp only [List.nodup_cons, List.mem_cons, List.mem_nil_iff, or_false, not_or, List.nodup_nil, and_true, not_false_eq_true]
      exact ⟨⟨n1, g1.1, g1.2, ne_of_none c1 hpl⟩, ⟨g2.1, g2.2, ne_of_none c2 hpl⟩, ⟨nid, ne_of_none J.ls hpl⟩, ne_of_none J.dc hpl⟩
    have S2 : St37 T.C_Index h l x dx il dd pl (upd H2 pl (.lst [])) [] := ⟨B2.same (same_new hpl), I2.same (same_new hpl), upd_same, fun p hp => absurd hp (by simp)⟩
    generalize upd H2 pl (.lst []) = H3 at S2
    simp only [tVar, tC, tOp, rI, rI0, rU, tTest, tB, tAnd, tOr, tNot, tAndV, tOrV, tNotV, tIf, tNil, tCons, tTup, tLst, tCB, tSeq, tAsg, gName, tRet, tRetN, tIfS, tNext, tDrop, tCall, tUn, tPar, CMul, CDiv, V.int.injEq, V.bl.injEq, V.ref.injEq, V.str.injEq, Option.some.injEq, List.cons.injEq, and_true, true_and, and_false, false_and, or_false, false_or, or_true, true_or, exists_eq_left', exists_eq_left, exists_and_left, exists_and_right, exists_eq', exists_eq, exists_false, exists_const, List.getElem?_cons_succ, List.getElem?_cons_zero, List.set_cons_succ, List.set_cons_zero, List.length_cons, List.length_nil, List.cons_append, List.nil_append, List.append_nil, reduceCtorEq, Int.reduceLT, Int.reduceLE, Int.reduceNeg, Int.reducePow, Int.reduceSub, Int.reduceAdd, Nat.reduceAdd, Nat.reduceLeDiff, Bool.not_true, Bool.not_false, decide_true, decide_false, Bool.false_eq_true, ↓reduceIte, upd_same, not_true_eq_false, not_false_eq_true, lsO_l, lsO_f, tpO_t, tpO_f, dkO_d, dkO_f, keyO_i, keyO_s, rIxH, rIxU, cLenL, cLenT, cListL, cListT, cTupL, cIntB, cAll, rEqNilI, rEq, rNe, scal_ii, scal_ss, scal_bb, scal_nn, scal_ni, scal_in, scal_ns, scal_sn, gSub, rSetL, ixs0, ixs1, ixs2, seq0, at0, at1, at2, at3, tBM, tBM0, rAppend, rPopAt, tyV_list, tGet2, tGetI, sPut, tMG, rTIdx, tyTup, tTupF, cx_K, cx_w, ex_map_int, ex_nil_int, ex_cons_int, List.map_cons, List.map_nil, List.isEmpty_nil, List.isEmpty_cons, List.eraseIdx_zero, List.tail_cons, List.eraseIdx_cons_zero, HO.lst.injEq, HO.tup.injEq, HO.dK.injEq, HO.frz.injEq, ne_eq, gTupH, gCons, gNil, wipe, tYes, upd_upd, and_assoc, List.getElem?_map, Option.map_some, isn_non_bool, isn_non_int, isn_non_str, isn_non_tuple, isn_non_list, isn_non_dict, isn_bl_bool, isn_bl_int, isn_bl_str, isn_bl_tuple, isn_bl_list, isn_bl_dict, isn_int_bool, isn_int_int, isn_int_str, isn_int_tuple, isn_int_list, isn_int_dict, isn_str_bool, isn_str_int, isn_str_str, isn_str_tuple, isn_str_list, isn_str_dict, isn_lst_bool, isn_lst_int, isn_lst_str, isn_lst_tuple, isn_lst_list, isn_lst_dict, isn_tup_bool, isn_tup_int, isn_tup_str, isn_tup_tuple, isn_tup_list, isn_tup_dict, isn_dct_bool, isn_dct_int, isn_dct_str, isn_dct_tuple, isn_dct_list, isn_dct_dict, okn_bool, okn_int, okn_str, okn_tuple, okn_list, okn_dict, cIsi, tyT_n, tyT_b, tyT_i, tyT_s, tyT_r, V.ty.injEq, tSl, tPart, tNoPart, rSlF, gName, tFld, sFld, tMeth, tMake, tGetT, tInT, tNinT, sPutT, sAugT, tPopT, rLtH, dtO_d, dtO_f, kysO_n, kysO_i, kysO_s, intsV_n, intsV_i, HO.ins.injEq, HO.dT.injEq, tDNewT, rIxLT, cLenLT, tSortP, tFor_eq, iRng1]
    refine take2 rfl S2.box (by decide) (by decide) fun n H4 n0 n1 B4 k4 => ?_
    have S4 := S2.keepB nd B4 k4
    simp only [tVar, tC, tOp, rI, rI0, rU, tTest, tB, tAnd, tOr, tNot, tAndV, tOrV, tNotV, tIf, tNil, tCons, tTup, tLst, tCB, tSeq, tAsg, gName, tRet, tRetN, tIfS, tNext, tDrop, tCall, tUn, tPar, CMul, CDiv, V.int.injEq, V.bl.injEq, V.ref.injEq, V.str.injEq, Option.some.injEq, List.cons.injEq, and_true, true_and, and_false, false_and, or_false, false_or, or_true, true_or, exists_eq_left', exists_eq_left, exists_and_left, exists_and_right, exists_eq', exists_eq, exists_false, exists_const, List.getElem?_cons_succ, List.getElem?_cons_zero, List.set_cons_succ, List.set_cons_zero, List.length_cons, List.length_nil, List.cons_append, List.nil_append, List.append_nil, reduceCtorEq, Int.reduceLT, Int.reduceLE, Int.reduceNeg, Int.reducePow, Int.reduceSub, Int.reduceAdd, Nat.reduceAdd, Nat.reduceLeDiff, Bool.not_true, Bool.not_false, decide_true, decide_false, Bool.false_eq_true, ↓reduceIte, upd_same, not_true_eq_false, not_false_eq_true, lsO_l, lsO_f, tpO_t, tpO_f, dkO_d, dkO_f, keyO_i, keyO_s, rIxH, rIxU, cLenL, cLenT, cListL, cListT, cTupL, cIntB, cAll, rEqNilI, rEq, rNe, scal_ii, scal_ss, scal_bb, scal_nn, scal_ni, scal_in, scal_ns, scal_sn, gSub, rSetL, ixs0, ixs1, ixs2, seq0, at0, at1, at2, at3, tBM, tBM0, rAppend, rPopAt, tyV_list, tGet2, tGetI, sPut, tMG, rTIdx, tyTup, tTupF, cx_K, cx_w, ex_map_int, ex_nil_int, ex_cons_int, List.map_cons, List.map_nil, List.isEmpty_nil, List.isEmpty_cons, List.eraseIdx_zero, List.tail_cons, List.eraseIdx_cons_zero, HO.lst.injEq, HO.tup.injEq, HO.dK.injEq, HO.frz.injEq, ne_eq, gTupH, gCons, gNil, wipe, tYes, upd_upd, and_assoc, List.getElem?_map, Option.map_some, isn_non_bool, isn_non_int, isn_non_str, isn_non_tuple, isn_non_list, isn_non_dict, isn_bl_bool, isn_bl_int, isn_bl_str, isn_bl_tuple, isn_bl_list, isn_bl_dict, isn_int_bool, isn_int_int, isn_int_str, isn_int_tuple, isn_int_list, isn_int_dict, isn_str_bool, isn_str_int, isn_str_str, isn_str_tuple, isn_str_list, isn_str_dict, isn_lst_bool, isn_lst_int, isn_lst_str, isn_lst_tuple, isn_lst_list, isn_lst_dict, isn_tup_bool, isn_tup_int, isn_tup_str, isn_tup_tuple, isn_tup_list, isn_tup_dict, isn_dct_bool, isn_dct_int, isn_dct_str, isn_dct_tuple, isn_dct_list, isn_dct_dict, okn_bool, okn_int, okn_str, okn_tuple, okn_list, okn_dict, cIsi, tyT_n, tyT_b, tyT_i, tyT_s, tyT_r, V.ty.injEq, tSl, tPart, tNoPart, rSlF, gName, tFld, sFld, tMeth, tMake, tGetT, tInT, tNinT, sPutT, sAugT, tPopT, rLtH, dtO_d, dtO_f, kysO_n, kysO_i, kysO_s, intsV_n, intsV_i, HO.ins.injEq, HO.dT.injEq, tDNewT, rIxLT, cLenLT, tSortP]
    refine ⟨by omega, by omega, forB_it (for_it walk_range (fun i σ H5 => ∃ (x4 x5 x6 x7 x8 x9 x10 x11 x12 x13 : Option V) (qs : List Pr), σ = [some (.ref a), some (.ref h), some (.ref x), some (.ref pl), x4, x5, x6, x7, x8, x9, x10, x11, x12, x13] ∧ St37 T.C_Index h l x dx il dd pl H5 qs ∧ qs.length ≤ i)
      ⟨none, none, none, none, none, none, none, none, none, none, [], rfl, S4, Nat.le_refl _⟩ (fun _ _ _ _ _ => trivial) ?_ ?_)⟩
    · rintro i y σ H5 H5' hi ⟨x4, x5, x6, x7, x8, x9, x10, x11, x12, x13, qs, rfl, S5, hq⟩ ⟨rfl, rfl⟩
      have hi81 : i < 81 := by omega
      simp only [tVar, tC, tOp, rI, rI0, rU, tTest, tB, tAnd, tOr, tNot, tAndV, tOrV, tNotV, tIf, tNil, tCons, tTup, tLst, tCB, tSeq, tAsg, gName, tRet, tRetN, tIfS, tNext, tDrop, tCall, tUn, tPar, CMul, CDiv, V.int.injEq, V.bl.injEq, V.ref.injEq, V.str.injEq, Option.some.injEq, List.cons.injEq, and_true, true_and, and_false, false_and, or_false, false_or, or_true, true_or, exists_eq_left', exists_eq_left, exists_and_left, exists_and_right, exists_eq', exists_eq, exists_false, exists_const, List.getElem?_cons_succ, List.getElem?_cons_zero, List.set_cons_succ, List.set_cons_zero, List.length_cons, List.length_nil, List.cons_append, List.nil_append, List.append_nil, reduceCtorEq, Int.reduceLT, Int.reduceLE, Int.reduceNeg, Int.reducePow, Int.reduceSub, Int.reduceAdd, Nat.reduceAdd, Nat.reduceLeDiff, Bool.not_true, Bool.not_false, decide_true, decide_false, Bool.false_eq_true, ↓reduceIte, upd_same, not_true_eq_false, not_false_eq_true, lsO_l, lsO_f, tpO_t, tpO_f, dkO_d, dkO_f, keyO_i, keyO_s, rIxH, rIxU, cLenL, cLenT, cListL, cListT, cTupL, cIntB, cAll, rEqNilI, rEq, rNe, scal_ii, scal_ss, scal_bb, scal_nn, scal_ni, scal_in, scal_ns, scal_sn, gSub, rSetL, ixs0, ixs1, ixs2, seq0, at0, at1, at2, at3, tBM, tBM0, rAppend, rPopAt, tyV_list, tGet2, tGetI, sPut, tMG, rTIdx, tyTup, tTupF, cx_K, cx_w, ex_map_int, ex_nil_int, ex_cons_int, List.map_cons, List.map_nil, List.isEmpty_nil, List.isEmpty_cons, List.eraseIdx_zero, List.tail_cons, List.eraseIdx_cons_zero, HO.lst.injEq, HO.tup.injEq, HO.dK.injEq, HO.frz.injEq, ne_eq, gTupH, gCons, gNil, wipe, tYes, upd_upd, and_assoc, List.getElem?_map, Option.map_some, isn_non_bool, isn_non_int, isn_non_str, isn_non_tuple, isn_non_list, isn_non_dict, isn_bl_bool, isn_bl_int, isn_bl_str, isn_bl_tuple, isn_bl_list, isn_bl_dict, isn_int_bool, isn_int_int, isn_int_str, isn_int_tuple, isn_int_list, isn_int_dict, isn_str_bool, isn_str_int, isn_str_str, isn_str_tuple, isn_str_list, isn_str_dict, isn_lst_bool, isn_lst_int, isn_lst_str, isn_lst_tuple, isn_lst_list, isn_lst_dict, isn_tup_bool, isn_tup_int, isn_tup_str, isn_tup_tuple, isn_tup_list, isn_tup_dict, isn_dct_bool, isn_dct_int, isn_dct_str, isn_dct_tuple, isn_dct_list, isn_dct_dict, okn_bool, okn_int, okn_str, okn_tuple, okn_list, okn_dict, cIsi, tyT_n, tyT_b, tyT_i, tyT_s, tyT_r, V.ty.injEq, tSl, tPart, tNoPart, rSlF, gName, tFld, sFld, tMeth, tMake, tGetT, tInT, tNinT, sPutT, sAugT, tPopT, rLtH, dtO_d, dtO_f, kysO_n, kysO_i, kysO_s, intsV_n, intsV_i, HO.ins.injEq, HO.dT.injEq, tDNewT, rIxLT, cLenLT, tSortP, gName]
      have hfr : ∀ p, H5' p = none → p ∉ [h, l, il, dd, pl] := fun p hp m => by
        obtain ⟨ns', st, b1, b2, b3⟩ := S5.box
        obtain ⟨ps, kvs, J⟩ := S5.ix.ex
        simp only [List.mem_cons, List.mem_nil_iff, or_false] at m
        rcases m with rfl | rfl | rfl | rfl | rfl
        · rw [hp] at b1; cases b1
        · rw [hp] at b2; cases b2
        · have := J.ls; rw [hp] at this; cases this
        · have := J.dc; rw [hp] at this; cases this
        · have := S5.at_; rw [hp] at this; cases this
      refine ⟨fun σ' H6 => ∃ (x5 x6 : Option V) (qs' : List Pr), σ' = [some (.ref a), some (.ref h), some (.ref x), some (.ref pl), some (.int (0 + (i : Int))), x5, x6, x7, x8, x9, x10, x11, x12, x13] ∧ St37 T.C_Index h l x dx il dd pl H6 qs' ∧ qs'.length ≤ i + 1, ?_, ?_⟩
      · simp only [tVar, tC, tOp, rI, rI0, rU, tTest, tB, tAnd, tOr, tNot, tAndV, tOrV, tNotV, tIf, tNil, tCons, tTup, tLst, tCB, tSeq, tAsg, gName, tRet, tRetN, tIfS, tNext, tDrop, tCall, tUn, tPar, CMul, CDiv, V.int.injEq, V.bl.injEq, V.ref.injEq, V.str.injEq, Option.some.injEq, List.cons.injEq, and_true, true_and, and_false, false_and, or_false, false_or, or_true, true_or, exists_eq_left', exists_eq_left, exists_and_left, exists_and_right, exists_eq', exists_eq, exists_false, exists_const, List.getElem?_cons_succ, List.getElem?_cons_zero, List.set_cons_succ, List.set_cons_zero, List.length_cons, List.length_nil, List.cons_append, List.nil_append, List.append_nil, reduceCtorEq, Int.reduceLT, Int.reduceLE, Int.reduceNeg, Int.reducePow, Int.reduceSub, Int.reduceAdd, Nat.reduceAdd, Nat.reduceLeDiff, Bool.not_true, Bool.not_false, decide_true, decide_false, Bool.false_eq_true, ↓reduceIte, upd_same, not_true_eq_false, not_false_eq_true, lsO_l, lsO_f, tpO_t, tpO_f, dkO_d, dkO_f, keyO_i, keyO_s, rIxH, rIxU, cLenL, cLenT, cListL, cListT, cTupL, cIntB, cAll, rEqNilI, rEq, rNe, scal_ii, scal_ss, scal_bb, scal_nn, scal_ni, scal_in, scal_ns, scal_sn, gSub, rSetL, ixs0, ixs1, ixs2, seq0, at0, at1, at2, at3, tBM, tBM0, rAppend, rPopAt, tyV_list, tGet2, tGetI, sPut, tMG, rTIdx, tyTup, tTupF, cx_K, cx_w, ex_map_int, ex_nil_int, ex_cons_int, List.map_cons, List.map_nil, List.isEmpty_nil, List.isEmpty_cons, List.eraseIdx_zero, List.tail_cons, List.eraseIdx_cons_zero, HO.lst.injEq, HO.tup.injEq, HO.dK.injEq, HO.frz.injEq, ne_eq, gTupH, gCons, gNil, wipe, tYes, upd_upd, and_assoc, List.getElem?_map, Option.map_some, isn_non_bool, isn_non_int, isn_non_str, isn_non_tuple, isn_non_list, isn_non_dict, isn_bl_bool, isn_bl_int, isn_bl_str, isn_bl_tuple, isn_bl_list, isn_bl_dict, isn_int_bool, isn_int_int, isn_int_str, isn_int_tuple, isn_int_list, isn_int_dict, isn_str_bool, isn_str_int, isn_str_str, isn_str_tuple, isn_str_list, isn_str_dict, isn_lst_bool, isn_lst_int, isn_lst_str, isn_lst_tuple, isn_lst_list, isn_lst_dict, isn_tup_bool, isn_tup_int, isn_tup_str, isn_tup_tuple, isn_tup_list, isn_tup_dict, isn_dct_bool, isn_dct_int, isn_dct_str, isn_dct_tuple, isn_dct_list, isn_dct_dict, okn_bool, okn_int, okn_str, okn_tuple, okn_list, okn_dict, cIsi, tyT_n, tyT_b, tyT_i, tyT_s, tyT_r, V.ty.injEq, tSl, tPart, tNoPart, rSlF, gName, tFld, sFld, tMeth, tMake, tGetT, tInT, tNinT, sPutT, sAugT, tPopT, rLtH, dtO_d, dtO_f, kysO_n, kysO_i, kysO_s, intsV_n, intsV_i, HO.ins.injEq, HO.dT.injEq, tDNewT, rIxLT, cLenLT, tSortP]
        refine ⟨szl (by decide), fun q hq => ?_⟩
        have S6 := S5.same (same_new (o := .lst []) hq)
        have hq6 : upd H5' q (.lst []) q = some (.lst []) := upd_same
        generalize upd H5' q (.lst []) = H6 at S6 hq6
        refine neNil_prs S6.at_ S6.tu hq6 ?_
        simp only [tVar, tC, tOp, rI, rI0, rU, tTest, tB, tAnd, tOr, tNot, tAndV, tOrV, tNotV, tIf, tNil, tCons, tTup, tLst, tCB, tSeq, tAsg, gName, tRet, tRetN, tIfS, tNext, tDrop, tCall, tUn, tPar, CMul, CDiv, V.int.injEq, V.bl.injEq, V.ref.injEq, V.str.injEq, Option.some.injEq, List.cons.injEq, and_true, true_and, and_false, false_and, or_false, false_or, or_true, true_or, exists_eq_left', exists_eq_left, exists_and_left, exists_and_right, exists_eq', exists_eq, exists_false, exists_const, List.getElem?_cons_succ, List.getElem?_cons_zero, List.set_cons_succ, List.set_cons_zero, List.length_cons, List.length_nil, List.cons_append, List.nil_append, List.append_nil, reduceCtorEq, Int.reduceLT, Int.reduceLE, Int.reduceNeg, Int.reducePow, Int.reduceSub, Int.reduceAdd, Nat.reduceAdd, Nat.reduceLeDiff, Bool.not_true, Bool.not_false, decide_true, decide_false, Bool.false_eq_true, ↓reduceIte, upd_same, not_true_eq_false, not_false_eq_true, lsO_l, lsO_f, tpO_t, tpO_f, dkO_d, dkO_f, keyO_i, keyO_s, rIxH, rIxU, cLenL, cLenT, cListL, cListT, cTupL, cIntB, cAll, rEqNilI, rEq, rNe, scal_ii, scal_ss, scal_bb, scal_nn, scal_ni, scal_in, scal_ns, scal_sn, gSub, rSetL, ixs0, ixs1, ixs2, seq0, at0, at1, at2, at3, tBM, tBM0, rAppend, rPopAt, tyV_list, tGet2, tGetI, sPut, tMG, rTIdx, tyTup, tTupF, cx_K, cx_w, ex_map_int, ex_nil_int, ex_cons_int, List.map_cons, List.map_nil, List.isEmpty_nil, List.isEmpty_cons, List.eraseIdx_zero, List.tail_cons, List.eraseIdx_cons_zero, HO.lst.injEq, HO.tup.injEq, HO.dK.injEq, HO.frz.injEq, ne_eq, gTupH, gCons, gNil, wipe, tYes, upd_upd, and_assoc, List.getElem?_map, Option.map_some, isn_non_bool, isn_non_int, isn_non_str, isn_non_tuple, isn_non_list, isn_non_dict, isn_bl_bool, isn_bl_int, isn_bl_str, isn_bl_tuple, isn_bl_list, isn_bl_dict, isn_int_bool, isn_int_int, isn_int_str, isn_int_tuple, isn_int_list, isn_int_dict, isn_str_bool, isn_str_int, isn_str_str, isn_str_tuple, isn_str_list, isn_str_dict, isn_lst_bool, isn_lst_int, isn_lst_str, isn_lst_tuple, isn_lst_list, isn_lst_dict, isn_tup_bool, isn_tup_int, isn_tup_str, isn_tup_tuple, isn_tup_list, isn_tup_dict, isn_dct_bool, isn_dct_int, isn_dct_str, isn_dct_tuple, isn_dct_list, isn_dct_dict, okn_bool, okn_int, okn_str, okn_tuple, okn_list, okn_dict, cIsi, tyT_n, tyT_b, tyT_i, tyT_s, tyT_r, V.ty.injEq, tSl, tPart, tNoPart, rSlF, gName, tFld, sFld, tMeth, tMake, tGetT, tInT, tNinT, sPutT, sAugT, tPopT, rLtH, dtO_d, dtO_f, kysO_n, kysO_i, kysO_s, intsV_n, intsV_i, HO.ins.injEq, HO.dT.injEq, tDNewT, rIxLT, cLenLT, tSortP]
        have key : ∀ (A B : Hp → Prop), (∀ H7, St37 T.C_Index h l x dx il dd pl H7 qs → qs ≠ [] → A H7) → (∀ H7, St37 T.C_Index h l x dx il dd pl H7 qs → B H7) →
            (if (!qs.isEmpty) = true then spTake [.ref h, .int 3] H6 (fun v H1 => scal v (.int 0) = true ∧ if decide (v = .int 0) = true then A H1 else B H1) E0 else B H6) := fun A B hA hB => by
          by_cases c : qs = []
          · rw [if_neg (by rw [c]; simp)]
            exact hB _ S6
          · rw [if_pos (by cases qs with | nil => exact absurd rfl c | cons _ _ => rfl)]
            refine ⟨h, l, 3, rfl, S6.box, by decide, by decide, fun r H7 r0 r1 B7 k7 => ⟨rfl, ?_⟩⟩
            have S7 := S6.keepB nd B7 k7
            split
            · exact hA _ S7 c
            · exact hB _ S7
        refine key _ _ (fun H7 S7 hne => ?_) (fun H7 S7 => ?_)
        · -- one is lost again
          refine ⟨fun σ' H8 => ∃ (q : Pr) (r : Nat), qs[r]? = some q ∧ σ' = [some (.ref a), some (.ref h), some (.ref x), some (.ref pl), some (.int (0 + (i : Int))), some (.int q.2.1), some (.int q.2.2), x7, x8, x9, x10, x11, x12, x13] ∧ BoxA H8 h l ∧ Idx T.C_Index H8 x dx il dd (qs.map (·.2)) ∧ H8 pl = some (.lst ((qs.eraseIdx r).map fun p => V.ref p.1)) ∧ ∀ p ∈ qs, H8 p.1 = some (.tup [.int p.2.1, .int p.2.2]), ?_, ?_⟩
          · have e7 := S7.at_
            have hql : 0 < qs.length := List.length_pos_iff.mpr hne
            simp only [tVar, tC, tOp, rI, rI0, rU, tTest, tB, tAnd, tOr, tNot, tAndV, tOrV, tNotV, tIf, tNil, tCons, tTup, tLst, tCB, tSeq, tAsg, gName, tRet, tRetN, tIfS, tNext, tDrop, tCall, tUn, tPar, CMul, CDiv, V.int.injEq, V.bl.injEq, V.ref.injEq, V.str.injEq, Option.some.injEq, List.cons.injEq, and_true, true_and, and_false, false_and, or_false, false_or, or_true, true_or, exists_eq_left', exists_eq_left, exists_and_left, exists_and_right, exists_eq', exists_eq, exists_false, exists_const, List.getElem?_cons_succ, List.getElem?_cons_zero, List.set_cons_succ, List.set_cons_zero, List.length_cons, List.length_nil, List.cons_append, List.nil_append, List.append_nil, reduceCtorEq, Int.reduceLT, Int.reduceLE, Int.reduceNeg, Int.reducePow, Int.reduceSub, Int.reduceAdd, Nat.reduceAdd, Nat.reduceLeDiff, Bool.not_true, Bool.not_false, decide_true, decide_false, Bool.false_eq_true, ↓reduceIte, upd_same, not_true_eq_false, not_false_eq_true, lsO_l, lsO_f, tpO_t, tpO_f, dkO_d, dkO_f, keyO_i, keyO_s, rIxH, rIxU, cLenL, cLenT, cListL, cListT, cTupL, cIntB, cAll, rEqNilI, rEq, rNe, scal_ii, scal_ss, scal_bb, scal_nn, scal_ni, scal_in, scal_ns, scal_sn, gSub, rSetL, ixs0, ixs1, ixs2, seq0, at0, at1, at2, at3, tBM, tBM0, rAppend, rPopAt, tyV_list, tGet2, tGetI, sPut, tMG, rTIdx, tyTup, tTupF, cx_K, cx_w, ex_map_int, ex_nil_int, ex_cons_int, List.map_cons, List.map_nil, List.isEmpty_nil, List.isEmpty_cons, List.eraseIdx_zero, List.tail_cons, List.eraseIdx_cons_zero, HO.lst.injEq, HO.tup.injEq, HO.dK.injEq, HO.frz.injEq, ne_eq, gTupH, gCons, gNil, wipe, tYes, upd_upd, and_assoc, List.getElem?_map, Option.map_some, isn_non_bool, isn_non_int, isn_non_str, isn_non_tuple, isn_non_list, isn_non_dict, isn_bl_bool, isn_bl_int, isn_bl_str, isn_bl_tuple, isn_bl_list, isn_bl_dict, isn_int_bool, isn_int_int, isn_int_str, isn_int_tuple, isn_int_list, isn_int_dict, isn_str_bool, isn_str_int, isn_str_str, isn_str_tuple, isn_str_list, isn_str_dict, isn_lst_bool, isn_lst_int, isn_lst_str, isn_lst_tuple, isn_lst_list, isn_lst_dict, isn_tup_bool, isn_tup_int, isn_tup_str, isn_tup_tuple, isn_tup_list, isn_tup_dict, isn_dct_bool, isn_dct_int, isn_dct_str, isn_dct_tuple, isn_dct_list, isn_dct_dict, okn_bool, okn_int, okn_str, okn_tuple, okn_list, okn_dict, cIsi, tyT_n, tyT_b, tyT_i, tyT_s, tyT_r, V.ty.injEq, tSl, tPart, tNoPart, rSlF, gName, tFld, sFld, tMeth, tMake, tGetT, tInT, tNinT, sPutT, sAugT, tPopT, rLtH, dtO_d, dtO_f, kysO_n, kysO_i, kysO_s, intsV_n, intsV_i, HO.ins.injEq, HO.dT.injEq, tDNewT, rIxLT, cLenLT, tSortP, e7]
            refine ⟨h, l, _, rfl, S7.box, by rw [List.length_map]; omega, by rw [List.length_map]; omega, fun r H8 r0 r1 B8 k8 => ?_⟩
            have S8 := S7.keepB nd B8 k8
            have e8 := S8.at_
            rw [List.length_map] at r1
            obtain ⟨q, hq8⟩ : ∃ q, qs[r.toNat]? = some q := ⟨_, List.getElem?_eq_getElem (by omega : r.toNat < qs.length)⟩
            simp only [tVar, tC, tOp, rI, rI0, rU, tTest, tB, tAnd, tOr, tNot, tAndV, tOrV, tNotV, tIf, tNil, tCons, tTup, tLst, tCB, tSeq, tAsg, gName, tRet, tRetN, tIfS, tNext, tDrop, tCall, tUn, tPar, CMul, CDiv, V.int.injEq, V.bl.injEq, V.ref.injEq, V.str.injEq, Option.some.injEq, List.cons.injEq, and_true, true_and, and_false, false_and, or_false, false_or, or_true, true_or, exists_eq_left', exists_eq_left, exists_and_left, exists_and_right, exists_eq', exists_eq, exists_false, exists_const, List.getElem?_cons_succ, List.getElem?_cons_zero, List.set_cons_succ, List.set_cons_zero, List.length_cons, List.length_nil, List.cons_append, List.nil_append, List.append_nil, reduceCtorEq, Int.reduceLT, Int.reduceLE, Int.reduceNeg, Int.reducePow, Int.reduceSub, Int.reduceAdd, Nat.reduceAdd, Nat.reduceLeDiff, Bool.not_true, Bool.not_false, decide_true, decide_false, Bool.false_eq_true, ↓reduceIte, upd_same, not_true_eq_false, not_false_eq_true, lsO_l, lsO_f, tpO_t, tpO_f, dkO_d, dkO_f, keyO_i, keyO_s, rIxH, rIxU, cLenL, cLenT, cListL, cListT, cTupL, cIntB, cAll, rEqNilI, rEq, rNe, scal_ii, scal_ss, scal_bb, scal_nn, scal_ni, scal_in, scal_ns, scal_sn, gSub, rSetL, ixs0, ixs1, ixs2, seq0, at0, at1, at2, at3, tBM, tBM0, rAppend, rPopAt, tyV_list, tGet2, tGetI, sPut, tMG, rTIdx, tyTup, tTupF, cx_K, cx_w, ex_map_int, ex_nil_int, ex_cons_int, List.map_cons, List.map_nil, List.isEmpty_nil, List.isEmpty_cons, List.eraseIdx_zero, List.tail_cons, List.eraseIdx_cons_zero, HO.lst.injEq, HO.tup.injEq, HO.dK.injEq, HO.frz.injEq, ne_eq, gTupH, gCons, gNil, wipe, tYes, upd_upd, and_assoc, List.getElem?_map, Option.map_some, isn_non_bool, isn_non_int, isn_non_str, isn_non_tuple, isn_non_list, isn_non_dict, isn_bl_bool, isn_bl_int, isn_bl_str, isn_bl_tuple, isn_bl_list, isn_bl_dict, isn_int_bool, isn_int_int, isn_int_str, isn_int_tuple, isn_int_list, isn_int_dict, isn_str_bool, isn_str_int, isn_str_str, isn_str_tuple, isn_str_list, isn_str_dict, isn_lst_bool, isn_lst_int, isn_lst_str, isn_lst_tuple, isn_lst_list, isn_lst_dict, isn_tup_bool, isn_tup_int, isn_tup_str, isn_tup_tuple, isn_tup_list, isn_tup_dict, isn_dct_bool, isn_dct_int, isn_dct_str, isn_dct_tuple, isn_dct_list, isn_dct_dict, okn_bool, okn_int, okn_str, okn_tuple, okn_list, okn_dict, cIsi, tyT_n, tyT_b, tyT_i, tyT_s, tyT_r, V.ty.injEq, tSl, tPart, tNoPart, rSlF, gName, tFld, sFld, tMeth, tMake, tGetT, tInT, tNinT, sPutT, sAugT, tPopT, rLtH, dtO_d, dtO_f, kysO_n, kysO_i, kysO_s, intsV_n, intsV_i, HO.ins.injEq, HO.dT.injEq, tDNewT, rIxLT, cLenLT, tSortP, e8]
            have hpq := (List.getElem?_eq_some_iff.mp hq8).1
            have ht8 := S8.tu q (List.mem_of_getElem? hq8)
            obtain ⟨B9, I9, T9⟩ := S8.updP nd ((Keep.refl (ms := [pl])).upd (p := pl) (o := .lst ((qs.eraseIdx r.toNat).map fun p => V.ref p.1)) (by simp))
            have t9 := T9 q (List.mem_of_getElem? hq8)
            have em : (qs.map fun p => V.ref p.1).eraseIdx r.toNat = (qs.eraseIdx r.toNat).map fun p => V.ref p.1 := (DT.map_erase _ _ _).symm
            refine ⟨by omega, by omega, r.toNat, by rw [List.length_map, seqIx (by omega) (by omega)], _, by rw [hq8]; rfl, q.1, rfl, ?_⟩
            rw [em, t9]
            refine ⟨_, rfl, rfl, _, _, rfl, _, _, rfl, rfl, q, r.toNat, hq8, rfl, rfl, B9, I9, rfl, T9⟩
          · rintro σ' H8 ⟨q, r, hqr, rfl, B8, I8, e8, T8⟩
            have hin : q.2 ∈ qs.map (·.2) := List.mem_map.mpr ⟨q, List.mem_of_getElem? hqr, rfl⟩
            simp only [tVar, tC, tOp, rI, rI0, rU, tTest, tB, tAnd, tOr, tNot, tAndV, tOrV, tNotV, tIf, tNil, tCons, tTup, tLst, tCB, tSeq, tAsg, gName, tRet, tRetN, tIfS, tNext, tDrop, tCall, tUn, tPar, CMul, CDiv, V.int.injEq, V.bl.injEq, V.ref.injEq, V.str.injEq, Option.some.injEq, List.cons.injEq, and_true, true_and, and_false, false_and, or_false, false_or, or_true, true_or, exists_eq_left', exists_eq_left, exists_and_left, exists_and_right, exists_eq', exists_eq, exists_false, exists_const, List.getElem?_cons_succ, List.getElem?_cons_zero, List.set_cons_succ, List.set_cons_zero, List.length_cons, List.length_nil, List.cons_append, List.nil_append, List.append_nil, reduceCtorEq, Int.reduceLT, Int.reduceLE, Int.reduceNeg, Int.reducePow, Int.reduceSub, Int.reduceAdd, Nat.reduceAdd, Nat.reduceLeDiff, Bool.not_true, Bool.not_false, decide_true, decide_false, Bool.false_eq_true, ↓reduceIte, upd_same, not_true_eq_false, not_false_eq_true, lsO_l, lsO_f, tpO_t, tpO_f, dkO_d, dkO_f, keyO_i, keyO_s, rIxH, rIxU, cLenL, cLenT, cListL, cListT, cTupL, cIntB, cAll, rEqNilI, rEq, rNe, scal_ii, scal_ss, scal_bb, scal_nn, scal_ni, scal_in, scal_ns, scal_sn, gSub, rSetL, ixs0, ixs1, ixs2, seq0, at0, at1, at2, at3, tBM, tBM0, rAppend, rPopAt, tyV_list, tGet2, tGetI, sPut, tMG, rTIdx, tyTup, tTupF, cx_K, cx_w, ex_map_int, ex_nil_int, ex_cons_int, List.map_cons, List.map_nil, List.isEmpty_nil, List.isEmpty_cons, List.eraseIdx_zero, List.tail_cons, List.eraseIdx_cons_zero, HO.lst.injEq, HO.tup.injEq, HO.dK.injEq, HO.frz.injEq, ne_eq, gTupH, gCons, gNil, wipe, tYes, upd_upd, and_assoc, List.getElem?_map, Option.map_some, isn_non_bool, isn_non_int, isn_non_str, isn_non_tuple, isn_non_list, isn_non_dict, isn_bl_bool, isn_bl_int, isn_bl_str, isn_bl_tuple, isn_bl_list, isn_bl_dict, isn_int_bool, isn_int_int, isn_int_str, isn_int_tuple, isn_int_list, isn_int_dict, isn_str_bool, isn_str_int, isn_str_str, isn_str_tuple, isn_str_list, isn_str_dict, isn_lst_bool, isn_lst_int, isn_lst_str, isn_lst_tuple, isn_lst_list, isn_lst_dict, isn_tup_bool, isn_tup_int, isn_tup_str, isn_tup_tuple, isn_tup_list, isn_tup_dict, isn_dct_bool, isn_dct_int, isn_dct_str, isn_dct_tuple, isn_dct_list, isn_dct_dict, okn_bool, okn_int, okn_str, okn_tuple, okn_list, okn_dict, cIsi, tyT_n, tyT_b, tyT_i, tyT_s, tyT_r, V.ty.injEq, tSl, tPart, tNoPart, rSlF, gName, tFld, sFld, tMeth, tMake, tGetT, tInT, tNinT, sPutT, sAugT, tPopT, rLtH, dtO_d, dtO_f, kysO_n, kysO_i, kysO_s, intsV_n, intsV_i, HO.ins.injEq, HO.dT.injEq, tDNewT, rIxLT, cLenLT, tSortP, lkIndex_pairs, lkIndex_many, noIndex_add, noIndex_lose, noIndex_between, inIndex_pairs, inIndex_many, puIndex_pairs, puIndex_many, lnIndex, lpIndex1, l0Index, T.cl_Index, T.na_Index_pairs, T.na_Index_many, I8.ob]
            refine ⟨x, dx, il, dd, q.2.1, q.2.2, _, rfl, I8, by rw [List.length_map]; omega, hin, fun H9 I9 k9 => ?_⟩
            have Ts : ∀ p ∈ qs.eraseIdx r, H8 p.1 = some (.tup [.int p.2.1, .int p.2.2]) := fun p hp => T8 p ((List.eraseIdx_sublist qs r).subset hp)
            obtain ⟨B9, e9, T9⟩ := box_ix B8 I8 e8 Ts nd k9
            simp only [tVar, tC, tOp, rI, rI0, rU, tTest, tB, tAnd, tOr, tNot, tAndV, tOrV, tNotV, tIf, tNil, tCons, tTup, tLst, tCB, tSeq, tAsg, gName, tRet, tRetN, tIfS, tNext, tDrop, tCall, tUn, tPar, CMul, CDiv, V.int.injEq, V.bl.injEq, V.ref.injEq, V.str.injEq, Option.some.injEq, List.cons.injEq, and_true, true_and, and_false, false_and, or_false, false_or, or_true, true_or, exists_eq_left', exists_eq_left, exists_and_left, exists_and_right, exists_eq', exists_eq, exists_false, exists_const, List.getElem?_cons_succ, List.getElem?_cons_zero, List.set_cons_succ, List.set_cons_zero, List.length_cons, List.length_nil, List.cons_append, List.nil_append, List.append_nil, reduceCtorEq, Int.reduceLT, Int.reduceLE, Int.reduceNeg, Int.reducePow, Int.reduceSub, Int.reduceAdd, Nat.reduceAdd, Nat.reduceLeDiff, Bool.not_true, Bool.not_false, decide_true, decide_false, Bool.false_eq_true, ↓reduceIte, upd_same, not_true_eq_false, not_false_eq_true, lsO_l, lsO_f, tpO_t, tpO_f, dkO_d, dkO_f, keyO_i, keyO_s, rIxH, rIxU, cLenL, cLenT, cListL, cListT, cTupL, cIntB, cAll, rEqNilI, rEq, rNe, scal_ii, scal_ss, scal_bb, scal_nn, scal_ni, scal_in, scal_ns, scal_sn, gSub, rSetL, ixs0, ixs1, ixs2, seq0, at0, at1, at2, at3, tBM, tBM0, rAppend, rPopAt, tyV_list, tGet2, tGetI, sPut, tMG, rTIdx, tyTup, tTupF, cx_K, cx_w, ex_map_int, ex_nil_int, ex_cons_int, List.map_cons, List.map_nil, List.isEmpty_nil, List.isEmpty_cons, List.eraseIdx_zero, List.tail_cons, List.eraseIdx_cons_zero, HO.lst.injEq, HO.tup.injEq, HO.dK.injEq, HO.frz.injEq, ne_eq, gTupH, gCons, gNil, wipe, tYes, upd_upd, and_assoc, List.getElem?_map, Option.map_some, isn_non_bool, isn_non_int, isn_non_str, isn_non_tuple, isn_non_list, isn_non_dict, isn_bl_bool, isn_bl_int, isn_bl_str, isn_bl_tuple, isn_bl_list, isn_bl_dict, isn_int_bool, isn_int_int, isn_int_str, isn_int_tuple, isn_int_list, isn_int_dict, isn_str_bool, isn_str_int, isn_str_str, isn_str_tuple, isn_str_list, isn_str_dict, isn_lst_bool, isn_lst_int, isn_lst_str, isn_lst_tuple, isn_lst_list, isn_lst_dict, isn_tup_bool, isn_tup_int, isn_tup_str, isn_tup_tuple, isn_tup_list, isn_tup_dict, isn_dct_bool, isn_dct_int, isn_dct_str, isn_dct_tuple, isn_dct_list, isn_dct_dict, okn_bool, okn_int, okn_str, okn_tuple, okn_list, okn_dict, cIsi, tyT_n, tyT_b, tyT_i, tyT_s, tyT_r, V.ty.injEq, tSl, tPart, tNoPart, rSlF, gName, tFld, sFld, tMeth, tMake, tGetT, tInT, tNinT, sPutT, sAugT, tPopT, rLtH, dtO_d, dtO_f, kysO_n, kysO_i, kysO_s, intsV_n, intsV_i, HO.ins.injEq, HO.dT.injEq, tDNewT, rIxLT, cLenLT, tSortP]
            exact ⟨qs.eraseIdx r, ⟨B9, I9.perm (map_erase_perm hqr), e9, T9⟩, Nat.le_trans (List.length_eraseIdx_le _ _) (by omega)⟩
        · -- one more
          refine ⟨fun σ' H8 => ∃ wo : Int, σ' = [some (.ref a), some (.ref h), some (.ref x), some (.ref pl), some (.int (0 + (i : Int))), some (.int wo), x6, x7, x8, x9, x10, x11, x12, x13] ∧ St37 T.C_Index h l x dx il dd pl H8 qs, ?_, ?_⟩
          · simp only [tVar, tC, tOp, rI, rI0, rU, tTest, tB, tAnd, tOr, tNot, tAndV, tOrV, tNotV, tIf, tNil, tCons, tTup, tLst, tCB, tSeq, tAsg, gName, tRet, tRetN, tIfS, tNext, tDrop, tCall, tUn, tPar, CMul, CDiv, V.int.injEq, V.bl.injEq, V.ref.injEq, V.str.injEq, Option.some.injEq, List.cons.injEq, and_true, true_and, and_false, false_and, or_false, false_or, or_true, true_or, exists_eq_left', exists_eq_left, exists_and_left, exists_and_right, exists_eq', exists_eq, exists_false, exists_const, List.getElem?_cons_succ, List.getElem?_cons_zero, List.set_cons_succ, List.set_cons_zero, List.length_cons, List.length_nil, List.cons_append, List.nil_append, List.append_nil, reduceCtorEq, Int.reduceLT, Int.reduceLE, Int.reduceNeg, Int.reducePow, Int.reduceSub, Int.reduceAdd, Nat.reduceAdd, Nat.reduceLeDiff, Bool.not_true, Bool.not_false, decide_true, decide_false, Bool.false_eq_true, ↓reduceIte, upd_same, not_true_eq_false, not_false_eq_true, lsO_l, lsO_f, tpO_t, tpO_f, dkO_d, dkO_f, keyO_i, keyO_s, rIxH, rIxU, cLenL, cLenT, cListL, cListT, cTupL, cIntB, cAll, rEqNilI, rEq, rNe, scal_ii, scal_ss, scal_bb, scal_nn, scal_ni, scal_in, scal_ns, scal_sn, gSub, rSetL, ixs0, ixs1, ixs2, seq0, at0, at1, at2, at3, tBM, tBM0, rAppend, rPopAt, tyV_list, tGet2, tGetI, sPut, tMG, rTIdx, tyTup, tTupF, cx_K, cx_w, ex_map_int, ex_nil_int, ex_cons_int, List.map_cons, List.map_nil, List.isEmpty_nil, List.isEmpty_cons, List.eraseIdx_zero, List.tail_cons, List.eraseIdx_cons_zero, HO.lst.injEq, HO.tup.injEq, HO.dK.injEq, HO.frz.injEq, ne_eq, gTupH, gCons, gNil, wipe, tYes, upd_upd, and_assoc, List.getElem?_map, Option.map_some, isn_non_bool, isn_non_int, isn_non_str, isn_non_tuple, isn_non_list, isn_non_dict, isn_bl_bool, isn_bl_int, isn_bl_str, isn_bl_tuple, isn_bl_list, isn_bl_dict, isn_int_bool, isn_int_int, isn_int_str, isn_int_tuple, isn_int_list, isn_int_dict, isn_str_bool, isn_str_int, isn_str_str, isn_str_tuple, isn_str_list, isn_str_dict, isn_lst_bool, isn_lst_int, isn_lst_str, isn_lst_tuple, isn_lst_list, isn_lst_dict, isn_tup_bool, isn_tup_int, isn_tup_str, isn_tup_tuple, isn_tup_list, isn_tup_dict, isn_dct_bool, isn_dct_int, isn_dct_str, isn_dct_tuple, isn_dct_list, isn_dct_dict, okn_bool, okn_int, okn_str, okn_tuple, okn_list, okn_dict, cIsi, tyT_n, tyT_b, tyT_i, tyT_s, tyT_r, V.ty.injEq, tSl, tPart, tNoPart, rSlF, gName, tFld, sFld, tMeth, tMake, tGetT, tInT, tNinT, sPutT, sAugT, tPopT, rLtH, dtO_d, dtO_f, kysO_n, kysO_i, kysO_s, intsV_n, intsV_i, HO.ins.injEq, HO.dT.injEq, tDNewT, rIxLT, cLenLT, tSortP]
            exact take2 rfl S7.box (by decide) (by decide) fun r H8 r0 r1 B8 k8 => ⟨⟨r, rfl⟩, S7.keepB nd B8 k8⟩
          rintro σ' H8 ⟨wo, rfl, S8⟩
          refine ⟨fun σ' H9 => ∃ ke : Int, σ' = [some (.ref a), some (.ref h), some (.ref x), some (.ref pl), some (.int (0 + (i : Int))), some (.int wo), some (.int ke), x7, x8, x9, x10, x11, x12, x13] ∧ St37 T.C_Index h l x dx il dd pl H9 qs, ?_, ?_⟩
          · simp only [tVar, tC, tOp, rI, rI0, rU, tTest, tB, tAnd, tOr, tNot, tAndV, tOrV, tNotV, tIf, tNil, tCons, tTup, tLst, tCB, tSeq, tAsg, gName, tRet, tRetN, tIfS, tNext, tDrop, tCall, tUn, tPar, CMul, CDiv, V.int.injEq, V.bl.injEq, V.ref.injEq, V.str.injEq, Option.some.injEq, List.cons.injEq, and_true, true_and, and_false, false_and, or_false, false_or, or_true, true_or, exists_eq_left', exists_eq_left, exists_and_left, exists_and_right, exists_eq', exists_eq, exists_false, exists_const, List.getElem?_cons_succ, List.getElem?_cons_zero, List.set_cons_succ, List.set_cons_zero, List.length_cons, List.length_nil, List.cons_append, List.nil_append, List.append_nil, reduceCtorEq, Int.reduceLT, Int.reduceLE, Int.reduceNeg, Int.reducePow, Int.reduceSub, Int.reduceAdd, Nat.reduceAdd, Nat.reduceLeDiff, Bool.not_true, Bool.not_false, decide_true, decide_false, Bool.false_eq_true, ↓reduceIte, upd_same, not_true_eq_false, not_false_eq_true, lsO_l, lsO_f, tpO_t, tpO_f, dkO_d, dkO_f, keyO_i, keyO_s, rIxH, rIxU, cLenL, cLenT, cListL, cListT, cTupL, cIntB, cAll, rEqNilI, rEq, rNe, scal_ii, scal_ss, scal_bb, scal_nn, scal_ni, scal_in, scal_ns, scal_sn, gSub, rSetL, ixs0, ixs1, ixs2, seq0, at0, at1, at2, at3, tBM, tBM0, rAppend, rPopAt, tyV_list, tGet2, tGetI, sPut, tMG, rTIdx, tyTup, tTupF, cx_K, cx_w, ex_map_int, ex_nil_int, ex_cons_int, List.map_cons, List.map_nil, List.isEmpty_nil, List.isEmpty_cons, List.eraseIdx_zero, List.tail_cons, List.eraseIdx_cons_zero, HO.lst.injEq, HO.tup.injEq, HO.dK.injEq, HO.frz.injEq, ne_eq, gTupH, gCons, gNil, wipe, tYes, upd_upd, and_assoc, List.getElem?_map, Option.map_some, isn_non_bool, isn_non_int, isn_non_str, isn_non_tuple, isn_non_list, isn_non_dict, isn_bl_bool, isn_bl_int, isn_bl_str, isn_bl_tuple, isn_bl_list, isn_bl_dict, isn_int_bool, isn_int_int, isn_int_str, isn_int_tuple, isn_int_list, isn_int_dict, isn_str_bool, isn_str_int, isn_str_str, isn_str_tuple, isn_str_list, isn_str_dict, isn_lst_bool, isn_lst_int, isn_lst_str, isn_lst_tuple, isn_lst_list, isn_lst_dict, isn_tup_bool, isn_tup_int, isn_tup_str, isn_tup_tuple, isn_tup_list, isn_tup_dict, isn_dct_bool, isn_dct_int, isn_dct_str, isn_dct_tuple, isn_dct_list, isn_dct_dict, okn_bool, okn_int, okn_str, okn_tuple, okn_list, okn_dict, cIsi, tyT_n, tyT_b, tyT_i, tyT_s, tyT_r, V.ty.injEq, tSl, tPart, tNoPart, rSlF, gName, tFld, sFld, tMeth, tMake, tGetT, tInT, tNinT, sPutT, sAugT, tPopT, rLtH, dtO_d, dtO_f, kysO_n, kysO_i, kysO_s, intsV_n, intsV_i, HO.ins.injEq, HO.dT.injEq, tDNewT, rIxLT, cLenLT, tSortP]
            exact take2 rfl S8.box (by decide) (by decide) fun r H9 r0 r1 B9 k9 => ⟨⟨r, rfl⟩, S8.keepB nd B9 k9⟩
          rintro σ' H9 ⟨ke, rfl, S9⟩
          have e9 := S9.at_
          simp only [tVar, tC, tOp, rI, rI0, rU, tTest, tB, tAnd, tOr, tNot, tAndV, tOrV, tNotV, tIf, tNil, tCons, tTup, tLst, tCB, tSeq, tAsg, gName, tRet, tRetN, tIfS, tNext, tDrop, tCall, tUn, tPar, CMul, CDiv, V.int.injEq, V.bl.injEq, V.ref.injEq, V.str.injEq, Option.some.injEq, List.cons.injEq, and_true, true_and, and_false, false_and, or_false, false_or, or_true, true_or, exists_eq_left', exists_eq_left, exists_and_left, exists_and_right, exists_eq', exists_eq, exists_false, exists_const, List.getElem?_cons_succ, List.getElem?_cons_zero, List.set_cons_succ, List.set_cons_zero, List.length_cons, List.length_nil, List.cons_append, List.nil_append, List.append_nil, reduceCtorEq, Int.reduceLT, Int.reduceLE, Int.reduceNeg, Int.reducePow, Int.reduceSub, Int.reduceAdd, Nat.reduceAdd, Nat.reduceLeDiff, Bool.not_true, Bool.not_false, decide_true, decide_false, Bool.false_eq_true, ↓reduceIte, upd_same, not_true_eq_false, not_false_eq_true, lsO_l, lsO_f, tpO_t, tpO_f, dkO_d, dkO_f, keyO_i, keyO_s, rIxH, rIxU, cLenL, cLenT, cListL, cListT, cTupL, cIntB, cAll, rEqNilI, rEq, rNe, scal_ii, scal_ss, scal_bb, scal_nn, scal_ni, scal_in, scal_ns, scal_sn, gSub, rSetL, ixs0, ixs1, ixs2, seq0, at0, at1, at2, at3, tBM, tBM0, rAppend, rPopAt, tyV_list, tGet2, tGetI, sPut, tMG, rTIdx, tyTup, tTupF, cx_K, cx_w, ex_map_int, ex_nil_int, ex_cons_int, List.map_cons, List.map_nil, List.isEmpty_nil, List.isEmpty_cons, List.eraseIdx_zero, List.tail_cons, List.eraseIdx_cons_zero, HO.lst.injEq, HO.tup.injEq, HO.dK.injEq, HO.frz.injEq, ne_eq, gTupH, gCons, gNil, wipe, tYes, upd_upd, and_assoc, List.getElem?_map, Option.map_some, isn_non_bool, isn_non_int, isn_non_str, isn_non_tuple, isn_non_list, isn_non_dict, isn_bl_bool, isn_bl_int, isn_bl_str, isn_bl_tuple, isn_bl_list, isn_bl_dict, isn_int_bool, isn_int_int, isn_int_str, isn_int_tuple, isn_int_list, isn_int_dict, isn_str_bool, isn_str_int, isn_str_str, isn_str_tuple, isn_str_list, isn_str_dict, isn_lst_bool, isn_lst_int, isn_lst_str, isn_lst_tuple, isn_lst_list, isn_lst_dict, isn_tup_bool, isn_tup_int, isn_tup_str, isn_tup_tuple, isn_tup_list, isn_tup_dict, isn_dct_bool, isn_dct_int, isn_dct_str, isn_dct_tuple, isn_dct_list, isn_dct_dict, okn_bool, okn_int, okn_str, okn_tuple, okn_list, okn_dict, cIsi, tyT_n, tyT_b, tyT_i, tyT_s, tyT_r, V.ty.injEq, tSl, tPart, tNoPart, rSlF, gName, tFld, sFld, tMeth, tMake, tGetT, tInT, tNinT, sPutT, sAugT, tPopT, rLtH, dtO_d, dtO_f, kysO_n, kysO_i, kysO_s, intsV_n, intsV_i, HO.ins.injEq, HO.dT.injEq, tDNewT, rIxLT, cLenLT, tSortP, e9]
          refine ⟨szl (by decide), fun t ht => ?_⟩
          have ntl : pl ≠ t := ne_of_none e9 ht
          have S10 := S9.same (same_new (o := .tup [.int wo, .int ke]) ht)
          have t10 : upd H9 t (.tup [.int wo, .int ke]) t = some (.tup [.int wo, .int ke]) := upd_same
          generalize upd H9 t (.tup [.int wo, .int ke]) = H10 at S10 t10
          obtain ⟨B11, I11, T11⟩ := S10.updP nd ((Keep.refl (ms := [pl])).upd (p := pl) (o := .lst ((qs ++ [(t, wo, ke)]).map fun p => V.ref p.1)) (by simp))
          refine ⟨_, S10.at_, by rw [List.length_map]; exact szl' (by omega), ?_⟩
          have em : (qs.map fun p => V.ref p.1) ++ [V.ref t] = (qs ++ [(t, wo, ke)]).map fun p => V.ref p.1 := by rw [List.map_append]; rfl
          rw [em]
          have e11 : upd H10 pl (.lst ((qs ++ [(t, wo, ke)]).map fun p => V.ref p.1)) pl = some (.lst ((qs ++ [(t, wo, ke)]).map fun p => V.ref p.1)) := upd_same
          have Ta : ∀ p ∈ qs ++ [(t, wo, ke)], upd H10 pl (.lst ((qs ++ [(t, wo, ke)]).map fun p => V.ref p.1)) p.1 = some (.tup [.int p.2.1, .int p.2.2]) := fun p hp => by
            rcases List.mem_append.mp hp with z | z
            · exact T11 p z
            · rw [List.mem_singleton.mp z, upd_ne (tup_ne t10 S10.at_)]
              exact t10
          generalize upd H10 pl (.lst ((qs ++ [(t, wo, ke)]).map fun p => V.ref p.1)) = H11 at B11 I11 T11 e11 Ta
          simp only [tVar, tC, tOp, rI, rI0, rU, tTest, tB, tAnd, tOr, tNot, tAndV, tOrV, tNotV, tIf, tNil, tCons, tTup, tLst, tCB, tSeq, tAsg, gName, tRet, tRetN, tIfS, tNext, tDrop, tCall, tUn, tPar, CMul, CDiv, V.int.injEq, V.bl.injEq, V.ref.injEq, V.str.injEq, Option.some.injEq, List.cons.injEq, and_true, true_and, and_false, false_and, or_false, false_or, or_true, true_or, exists_eq_left', exists_eq_left, exists_and_left, exists_and_right, exists_eq', exists_eq, exists_false, exists_const, List.getElem?_cons_succ, List.getElem?_cons_zero, List.set_cons_succ, List.set_cons_zero, List.length_cons, List.length_nil, List.cons_append, List.nil_append, List.append_nil, reduceCtorEq, Int.reduceLT, Int.reduceLE, Int.reduceNeg, Int.reducePow, Int.reduceSub, Int.reduceAdd, Nat.reduceAdd, Nat.reduceLeDiff, Bool.not_true, Bool.not_false, decide_true, decide_false, Bool.false_eq_true, ↓reduceIte, upd_same, not_true_eq_false, not_false_eq_true, lsO_l, lsO_f, tpO_t, tpO_f, dkO_d, dkO_f, keyO_i, keyO_s, rIxH, rIxU, cLenL, cLenT, cListL, cListT, cTupL, cIntB, cAll, rEqNilI, rEq, rNe, scal_ii, scal_ss, scal_bb, scal_nn, scal_ni, scal_in, scal_ns, scal_sn, gSub, rSetL, ixs0, ixs1, ixs2, seq0, at0, at1, at2, at3, tBM, tBM0, rAppend, rPopAt, tyV_list, tGet2, tGetI, sPut, tMG, rTIdx, tyTup, tTupF, cx_K, cx_w, ex_map_int, ex_nil_int, ex_cons_int, List.map_cons, List.map_nil, List.isEmpty_nil, List.isEmpty_cons, List.eraseIdx_zero, List.tail_cons, List.eraseIdx_cons_zero, HO.lst.injEq, HO.tup.injEq, HO.dK.injEq, HO.frz.injEq, ne_eq, gTupH, gCons, gNil, wipe, tYes, upd_upd, and_assoc, List.getElem?_map, Option.map_some, isn_non_bool, isn_non_int, isn_non_str, isn_non_tuple, isn_non_list, isn_non_dict, isn_bl_bool, isn_bl_int, isn_bl_str, isn_bl_tuple, isn_bl_list, isn_bl_dict, isn_int_bool, isn_int_int, isn_int_str, isn_int_tuple, isn_int_list, isn_int_dict, isn_str_bool, isn_str_int, isn_str_str, isn_str_tuple, isn_str_list, isn_str_dict, isn_lst_bool, isn_lst_int, isn_lst_str, isn_lst_tuple, isn_lst_list, isn_lst_dict, isn_tup_bool, isn_tup_int, isn_tup_str, isn_tup_tuple, isn_tup_list, isn_tup_dict, isn_dct_bool, isn_dct_int, isn_dct_str, isn_dct_tuple, isn_dct_list, isn_dct_dict, okn_bool, okn_int, okn_str, okn_tuple, okn_list, okn_dict, cIsi, tyT_n, tyT_b, tyT_i, tyT_s, tyT_r, V.ty.injEq, tSl, tPart, tNoPart, rSlF, gName, tFld, sFld, tMeth, tMake, tGetT, tInT, tNinT, sPutT, sAugT, tPopT, rLtH, dtO_d, dtO_f, kysO_n, kysO_i, kysO_s, intsV_n, intsV_i, HO.ins.injEq, HO.dT.injEq, tDNewT, rIxLT, cLenLT, tSortP, lkIndex_pairs, lkIndex_many, noIndex_add, noIndex_lose, noIndex_between, inIndex_pairs, inIndex_many, puIndex_pairs, puIndex_many, lnIndex, lpIndex1, l0Index, T.cl_Index, T.na_Index_pairs, T.na_Index_many, I11.ob]
          refine ⟨x, dx, il, dd, wo, ke, _, rfl, I11, by rw [List.length_map]; omega, fun H12 I12 k12 => ?_⟩
          obtain ⟨B12, e12, T12⟩ := box_ix B11 I11 e11 Ta nd k12
          simp only [tVar, tC, tOp, rI, rI0, rU, tTest, tB, tAnd, tOr, tNot, tAndV, tOrV, tNotV, tIf, tNil, tCons, tTup, tLst, tCB, tSeq, tAsg, gName, tRet, tRetN, tIfS, tNext, tDrop, tCall, tUn, tPar, CMul, CDiv, V.int.injEq, V.bl.injEq, V.ref.injEq, V.str.injEq, Option.some.injEq, List.cons.injEq, and_true, true_and, and_false, false_and, or_false, false_or, or_true, true_or, exists_eq_left', exists_eq_left, exists_and_left, exists_and_right, exists_eq', exists_eq, exists_false, exists_const, List.getElem?_cons_succ, List.getElem?_cons_zero, List.set_cons_succ, List.set_cons_zero, List.length_cons, List.length_nil, List.cons_append, List.nil_append, List.append_nil, reduceCtorEq, Int.reduceLT, Int.reduceLE, Int.reduceNeg, Int.reducePow, Int.reduceSub, Int.reduceAdd, Nat.reduceAdd, Nat.reduceLeDiff, Bool.not_true, Bool.not_false, decide_true, decide_false, Bool.false_eq_true, ↓reduceIte, upd_same, not_true_eq_false, not_false_eq_true, lsO_l, lsO_f, tpO_t, tpO_f, dkO_d, dkO_f, keyO_i, keyO_s, rIxH, rIxU, cLenL, cLenT, cListL, cListT, cTupL, cIntB, cAll, rEqNilI, rEq, rNe, scal_ii, scal_ss, scal_bb, scal_nn, scal_ni, scal_in, scal_ns, scal_sn, gSub, rSetL, ixs0, ixs1, ixs2, seq0, at0, at1, at2, at3, tBM, tBM0, rAppend, rPopAt, tyV_list, tGet2, tGetI, sPut, tMG, rTIdx, tyTup, tTupF, cx_K, cx_w, ex_map_int, ex_nil_int, ex_cons_int, List.map_cons, List.map_nil, List.isEmpty_nil, List.isEmpty_cons, List.eraseIdx_zero, List.tail_cons, List.eraseIdx_cons_zero, HO.lst.injEq, HO.tup.injEq, HO.dK.injEq, HO.frz.injEq, ne_eq, gTupH, gCons, gNil, wipe, tYes, upd_upd, and_assoc, List.getElem?_map, Option.map_some, isn_non_bool, isn_non_int, isn_non_str, isn_non_tuple, isn_non_list, isn_non_dict, isn_bl_bool, isn_bl_int, isn_bl_str, isn_bl_tuple, isn_bl_list, isn_bl_dict, isn_int_bool, isn_int_int, isn_int_str, isn_int_tuple, isn_int_list, isn_int_dict, isn_str_bool, isn_str_int, isn_str_str, isn_str_tuple, isn_str_list, isn_str_dict, isn_lst_bool, isn_lst_int, isn_lst_str, isn_lst_tuple, isn_lst_list, isn_lst_dict, isn_tup_bool, isn_tup_int, isn_tup_str, isn_tup_tuple, isn_tup_list, isn_tup_dict, isn_dct_bool, isn_dct_int, isn_dct_str, isn_dct_tuple, isn_dct_list, isn_dct_dict, okn_bool, okn_int, okn_str, okn_tuple, okn_list, okn_dict, cIsi, tyT_n, tyT_b, tyT_i, tyT_s, tyT_r, V.ty.injEq, tSl, tPart, tNoPart, rSlF, gName, tFld, sFld, tMeth, tMake, tGetT, tInT, tNinT, sPutT, sAugT, tPopT, rLtH, dtO_d, dtO_f, kysO_n, kysO_i, kysO_s, intsV_n, intsV_i, HO.ins.injEq, HO.dT.injEq, tDNewT, rIxLT, cLenLT, tSortP]
          refine ⟨qs ++ [(t, wo, ke)], ⟨B12, I12.perm ?_, e12, T12⟩, by rw [List.length_append]; simp; omega⟩
          rw [List.map_append]
          exact (List.perm_append_singleton _ _).symm
      · rintro σ' H6 ⟨y5, y6, qs', rfl, S6, hq'⟩
        refine ⟨fun σ' H7 => ∃ lo hi : Int, σ' = [some (.ref a), some (.ref h), some (.ref x), some (.ref pl), some (.int (0 + (i : Int))), y5, y6, some (.int lo), some (.int hi), x9, x10, x11, x12, x13] ∧ St37 T.C_Index h l x dx il dd pl H7 qs', ?_, ?_⟩
        · simp only [tVar, tC, tOp, rI, rI0, rU, tTest, tB, tAnd, tOr, tNot, tAndV, tOrV, tNotV, tIf, tNil, tCons, tTup, tLst, tCB, tSeq, tAsg, gName, tRet, tRetN, tIfS, tNext, tDrop, tCall, tUn, tPar, CMul, CDiv, V.int.injEq, V.bl.injEq, V.ref.injEq, V.str.injEq, Option.some.injEq, List.cons.injEq, and_true, true_and, and_false, false_and, or_false, false_or, or_true, true_or, exists_eq_left', exists_eq_left, exists_and_left, exists_and_right, exists_eq', exists_eq, exists_false, exists_const, List.getElem?_cons_succ, List.getElem?_cons_zero, List.set_cons_succ, List.set_cons_zero, List.length_cons, List.length_nil, List.cons_append, List.nil_append, List.append_nil, reduceCtorEq, Int.reduceLT, Int.reduceLE, Int.reduceNeg, Int.reducePow, Int.reduceSub, Int.reduceAdd, Nat.reduceAdd, Nat.reduceLeDiff, Bool.not_true, Bool.not_false, decide_true, decide_false, Bool.false_eq_true, ↓reduceIte, upd_same, not_true_eq_false, not_false_eq_true, lsO_l, lsO_f, tpO_t, tpO_f, dkO_d, dkO_f, keyO_i, keyO_s, rIxH, rIxU, cLenL, cLenT, cListL, cListT, cTupL, cIntB, cAll, rEqNilI, rEq, rNe, scal_ii, scal_ss, scal_bb, scal_nn, scal_ni, scal_in, scal_ns, scal_sn, gSub, rSetL, ixs0, ixs1, ixs2, seq0, at0, at1, at2, at3, tBM, tBM0, rAppend, rPopAt, tyV_list, tGet2, tGetI, sPut, tMG, rTIdx, tyTup, tTupF, cx_K, cx_w, ex_map_int, ex_nil_int, ex_cons_int, List.map_cons, List.map_nil, List.isEmpty_nil, List.isEmpty_cons, List.eraseIdx_zero, List.tail_cons, List.eraseIdx_cons_zero, HO.lst.injEq, HO.tup.injEq, HO.dK.injEq, HO.frz.injEq, ne_eq, gTupH, gCons, gNil, wipe, tYes, upd_upd, and_assoc, List.getElem?_map, Option.map_some, isn_non_bool, isn_non_int, isn_non_str, isn_non_tuple, isn_non_list, isn_non_dict, isn_bl_bool, isn_bl_int, isn_bl_str, isn_bl_tuple, isn_bl_list, isn_bl_dict, isn_int_bool, isn_int_int, isn_int_str, isn_int_tuple, isn_int_list, isn_int_dict, isn_str_bool, isn_str_int, isn_str_str, isn_str_tuple, isn_str_list, isn_str_dict, isn_lst_bool, isn_lst_int, isn_lst_str, isn_lst_tuple, isn_lst_list, isn_lst_dict, isn_tup_bool, isn_tup_int, isn_tup_str, isn_tup_tuple, isn_tup_list, isn_tup_dict, isn_dct_bool, isn_dct_int, isn_dct_str, isn_dct_tuple, isn_dct_list, isn_dct_dict, okn_bool, okn_int, okn_str, okn_tuple, okn_list, okn_dict, cIsi, tyT_n, tyT_b, tyT_i, tyT_s, tyT_r, V.ty.injEq, tSl, tPart, tNoPart, rSlF, gName, tFld, sFld, tMeth, tMake, tGetT, tInT, tNinT, sPutT, sAugT, tPopT, rLtH, dtO_d, dtO_f, kysO_n, kysO_i, kysO_s, intsV_n, intsV_i, HO.ins.injEq, HO.dT.injEq, tDNewT, rIxLT, cLenLT, tSortP]
          refine ⟨h, l, 9, rfl, S6.box, by decide, by decide, fun r H7 r0 r1 B7 k7 => ?_⟩
          have S7 := S6.keepB nd B7 k7
          simp only [tVar, tC, tOp, rI, rI0, rU, tTest, tB, tAnd, tOr, tNot, tAndV, tOrV, tNotV, tIf, tNil, tCons, tTup, tLst, tCB, tSeq, tAsg, gName, tRet, tRetN, tIfS, tNext, tDrop, tCall, tUn, tPar, CMul, CDiv, V.int.injEq, V.bl.injEq, V.ref.injEq, V.str.injEq, Option.some.injEq, List.cons.injEq, and_true, true_and, and_false, false_and, or_false, false_or, or_true, true_or, exists_eq_left', exists_eq_left, exists_and_left, exists_and_right, exists_eq', exists_eq, exists_false, exists_const, List.getElem?_cons_succ, List.getElem?_cons_zero, List.set_cons_succ, List.set_cons_zero, List.length_cons, List.length_nil, List.cons_append, List.nil_append, List.append_nil, reduceCtorEq, Int.reduceLT, Int.reduceLE, Int.reduceNeg, Int.reducePow, Int.reduceSub, Int.reduceAdd, Nat.reduceAdd, Nat.reduceLeDiff, Bool.not_true, Bool.not_false, decide_true, decide_false, Bool.false_eq_true, ↓reduceIte, upd_same, not_true_eq_false, not_false_eq_true, lsO_l, lsO_f, tpO_t, tpO_f, dkO_d, dkO_f, keyO_i, keyO_s, rIxH, rIxU, cLenL, cLenT, cListL, cListT, cTupL, cIntB, cAll, rEqNilI, rEq, rNe, scal_ii, scal_ss, scal_bb, scal_nn, scal_ni, scal_in, scal_ns, scal_sn, gSub, rSetL, ixs0, ixs1, ixs2, seq0, at0, at1, at2, at3, tBM, tBM0, rAppend, rPopAt, tyV_list, tGet2, tGetI, sPut, tMG, rTIdx, tyTup, tTupF, cx_K, cx_w, ex_map_int, ex_nil_int, ex_cons_int, List.map_cons, List.map_nil, List.isEmpty_nil, List.isEmpty_cons, List.eraseIdx_zero, List.tail_cons, List.eraseIdx_cons_zero, HO.lst.injEq, HO.tup.injEq, HO.dK.injEq, HO.frz.injEq, ne_eq, gTupH, gCons, gNil, wipe, tYes, upd_upd, and_assoc, List.getElem?_map, Option.map_some, isn_non_bool, isn_non_int, isn_non_str, isn_non_tuple, isn_non_list, isn_non_dict, isn_bl_bool, isn_bl_int, isn_bl_str, isn_bl_tuple, isn_bl_list, isn_bl_dict, isn_int_bool, isn_int_int, isn_int_str, isn_int_tuple, isn_int_list, isn_int_dict, isn_str_bool, isn_str_int, isn_str_str, isn_str_tuple, isn_str_list, isn_str_dict, isn_lst_bool, isn_lst_int, isn_lst_str, isn_lst_tuple, isn_lst_list, isn_lst_dict, isn_tup_bool, isn_tup_int, isn_tup_str, isn_tup_tuple, isn_tup_list, isn_tup_dict, isn_dct_bool, isn_dct_int, isn_dct_str, isn_dct_tuple, isn_dct_list, isn_dct_dict, okn_bool, okn_int, okn_str, okn_tuple, okn_list, okn_dict, cIsi, tyT_n, tyT_b, tyT_i, tyT_s, tyT_r, V.ty.injEq, tSl, tPart, tNoPart, rSlF, gName, tFld, sFld, tMeth, tMake, tGetT, tInT, tNinT, sPutT, sAugT, tPopT, rLtH, dtO_d, dtO_f, kysO_n, kysO_i, kysO_s, intsV_n, intsV_i, HO.ins.injEq, HO.dT.injEq, tDNewT, rIxLT, cLenLT, tSortP]
          refine ⟨h, l, 9, rfl, S7.box, by decide, by decide, fun r' H8 r0' r1' B8 k8 => ?_⟩
          have S8 := S7.keepB nd B8 k8
          simp only [tVar, tC, tOp, rI, rI0, rU, tTest, tB, tAnd, tOr, tNot, tAndV, tOrV, tNotV, tIf, tNil, tCons, tTup, tLst, tCB, tSeq, tAsg, gName, tRet, tRetN, tIfS, tNext, tDrop, tCall, tUn, tPar, CMul, CDiv, V.int.injEq, V.bl.injEq, V.ref.injEq, V.str.injEq, Option.some.injEq, List.cons.injEq, and_true, true_and, and_false, false_and, or_false, false_or, or_true, true_or, exists_eq_left', exists_eq_left, exists_and_left, exists_and_right, exists_eq', exists_eq, exists_false, exists_const, List.getElem?_cons_succ, List.getElem?_cons_zero, List.set_cons_succ, List.set_cons_zero, List.length_cons, List.length_nil, List.cons_append, List.nil_append, List.append_nil, reduceCtorEq, Int.reduceLT, Int.reduceLE, Int.reduceNeg, Int.reducePow, Int.reduceSub, Int.reduceAdd, Nat.reduceAdd, Nat.reduceLeDiff, Bool.not_true, Bool.not_false, decide_true, decide_false, Bool.false_eq_true, ↓reduceIte, upd_same, not_true_eq_false, not_false_eq_true, lsO_l, lsO_f, tpO_t, tpO_f, dkO_d, dkO_f, keyO_i, keyO_s, rIxH, rIxU, cLenL, cLenT, cListL, cListT, cTupL, cIntB, cAll, rEqNilI, rEq, rNe, scal_ii, scal_ss, scal_bb, scal_nn, scal_ni, scal_in, scal_ns, scal_sn, gSub, rSetL, ixs0, ixs1, ixs2, seq0, at0, at1, at2, at3, tBM, tBM0, rAppend, rPopAt, tyV_list, tGet2, tGetI, sPut, tMG, rTIdx, tyTup, tTupF, cx_K, cx_w, ex_map_int, ex_nil_int, ex_cons_int, List.map_cons, List.map_nil, List.isEmpty_nil, List.isEmpty_cons, List.eraseIdx_zero, List.tail_cons, List.eraseIdx_cons_zero, HO.lst.injEq, HO.tup.injEq, HO.dK.injEq, HO.frz.injEq, ne_eq, gTupH, gCons, gNil, wipe, tYes, upd_upd, and_assoc, List.getElem?_map, Option.map_some, isn_non_bool, isn_non_int, isn_non_str, isn_non_tuple, isn_non_list, isn_non_dict, isn_bl_bool, isn_bl_int, isn_bl_str, isn_bl_tuple, isn_bl_list, isn_bl_dict, isn_int_bool, isn_int_int, isn_int_str, isn_int_tuple, isn_int_list, isn_int_dict, isn_str_bool, isn_str_int, isn_str_str, isn_str_tuple, isn_str_list, isn_str_dict, isn_lst_bool, isn_lst_int, isn_lst_str, isn_lst_tuple, isn_lst_list, isn_lst_dict, isn_tup_bool, isn_tup_int, isn_tup_str, isn_tup_tuple, isn_tup_list, isn_tup_dict, isn_dct_bool, isn_dct_int, isn_dct_str, isn_dct_tuple, isn_dct_list, isn_dct_dict, okn_bool, okn_int, okn_str, okn_tuple, okn_list, okn_dict, cIsi, tyT_n, tyT_b, tyT_i, tyT_s, tyT_r, V.ty.injEq, tSl, tPart, tNoPart, rSlF, gName, tFld, sFld, tMeth, tMake, tGetT, tInT, tNinT, sPutT, sAugT, tPopT, rLtH, dtO_d, dtO_f, kysO_n, kysO_i, kysO_s, intsV_n, intsV_i, HO.ins.injEq, HO.dT.injEq, tDNewT, rIxLT, cLenLT, tSortP]
          exact S8
        rintro σ' H7 ⟨lo, hi, rfl, S7⟩
        simp only [tVar, tC, tOp, rI, rI0, rU, tTest, tB, tAnd, tOr, tNot, tAndV, tOrV, tNotV, tIf, tNil, tCons, tTup, tLst, tCB, tSeq, tAsg, gName, tRet, tRetN, tIfS, tNext, tDrop, tCall, tUn, tPar, CMul, CDiv, V.int.injEq, V.bl.injEq, V.ref.injEq, V.str.injEq, Option.some.injEq, List.cons.injEq, and_true, true_and, and_false, false_and, or_false, false_or, or_true, true_or, exists_eq_left', exists_eq_left, exists_and_left, exists_and_right, exists_eq', exists_eq, exists_false, exists_const, List.getElem?_cons_succ, List.getElem?_cons_zero, List.set_cons_succ, List.set_cons_zero, List.length_cons, List.length_nil, List.cons_append, List.nil_append, List.append_nil, reduceCtorEq, Int.reduceLT, Int.reduceLE, Int.reduceNeg, Int.reducePow, Int.reduceSub, Int.reduceAdd, Nat.reduceAdd, Nat.reduceLeDiff, Bool.not_true, Bool.not_false, decide_true, decide_false, Bool.false_eq_true, ↓reduceIte, upd_same, not_true_eq_false, not_false_eq_true, lsO_l, lsO_f, tpO_t, tpO_f, dkO_d, dkO_f, keyO_i, keyO_s, rIxH, rIxU, cLenL, cLenT, cListL, cListT, cTupL, cIntB, cAll, rEqNilI, rEq, rNe, scal_ii, scal_ss, scal_bb, scal_nn, scal_ni, scal_in, scal_ns, scal_sn, gSub, rSetL, ixs0, ixs1, ixs2, seq0, at0, at1, at2, at3, tBM, tBM0, rAppend, rPopAt, tyV_list, tGet2, tGetI, sPut, tMG, rTIdx, tyTup, tTupF, cx_K, cx_w, ex_map_int, ex_nil_int, ex_cons_int, List.map_cons, List.map_nil, List.isEmpty_nil, List.isEmpty_cons, List.eraseIdx_zero, List.tail_cons, List.eraseIdx_cons_zero, HO.lst.injEq, HO.tup.injEq, HO.dK.injEq, HO.frz.injEq, ne_eq, gTupH, gCons, gNil, wipe, tYes, upd_upd, and_assoc, List.getElem?_map, Option.map_some, isn_non_bool, isn_non_int, isn_non_str, isn_non_tuple, isn_non_list, isn_non_dict, isn_bl_bool, isn_bl_int, isn_bl_str, isn_bl_tuple, isn_bl_list, isn_bl_dict, isn_int_bool, isn_int_int, isn_int_str, isn_int_tuple, isn_int_list, isn_int_dict, isn_str_bool, isn_str_int, isn_str_str, isn_str_tuple, isn_str_list, isn_str_dict, isn_lst_bool, isn_lst_int, isn_lst_str, isn_lst_tuple, isn_lst_list, isn_lst_dict, isn_tup_bool, isn_tup_int, isn_tup_str, isn_tup_tuple, isn_tup_list, isn_tup_dict, isn_dct_bool, isn_dct_int, isn_dct_str, isn_dct_tuple, isn_dct_list, isn_dct_dict, okn_bool, okn_int, okn_str, okn_tuple, okn_list, okn_dict, cIsi, tyT_n, tyT_b, tyT_i, tyT_s, tyT_r, V.ty.injEq, tSl, tPart, tNoPart, rSlF, gName, tFld, sFld, tMeth, tMake, tGetT, tInT, tNinT, sPutT, sAugT, tPopT, rLtH, dtO_d, dtO_f, kysO_n, kysO_i, kysO_s, intsV_n, intsV_i, HO.ins.injEq, HO.dT.injEq, tDNewT, rIxLT, cLenLT, tSortP, tFor_eq, iTup]
        refine ⟨szl (by decide), fun p1 hp1 => ⟨szl (by decide), fun p2 hp2 => ⟨szl (by decide), fun p3 hp3 => ⟨szl (by decide), fun p4 hp4 => ⟨szl (by decide), fun tp htp => ?_⟩⟩⟩⟩⟩
        have s1 := same_new (o := .tup [.int lo, .int hi]) hp1
        have s2 := same_new (o := .tup [.non, .int hi]) hp2
        have s3 := same_new (o := .tup [.int lo, .non]) hp3
        have s4 := same_new (o := .tup [.non, .non]) hp4
        have s5 := same_new (o := .tup [.ref p1, .ref p2, .ref p3, .ref p4]) htp
        have S12 := S7.same ((((s1.trans s2).trans s3).trans s4).trans s5)
        have f1 := s5 _ _ (s4 _ _ (s3 _ _ (s2 _ _ (upd_same (H := H7) (a := p1) (o := .tup [.int lo, .int hi])))))
        have f2 := s5 _ _ (s4 _ _ (s3 _ _ (upd_same (a := p2) (o := .tup [.non, .int hi]))))
        have f3 := s5 _ _ (s4 _ _ (upd_same (a := p3) (o := .tup [.int lo, .non])))
        have f4 := s5 _ _ (upd_same (a := p4) (o := .tup [.non, .non]))
        have f5 : upd _ tp (.tup [.ref p1, .ref p2, .ref p3, .ref p4]) tp = some (.tup [.ref p1, .ref p2, .ref p3, .ref p4]) := upd_same (H := upd (upd (upd (upd H7 p1 (.tup [.int lo, .int hi])) p2 (.tup [.non, .int hi])) p3 (.tup [.int lo, .non])) p4 (.tup [.non, .non]))
        clear s1 s2 s3 s4 s5 hp1 hp2 hp3 hp4 htp
        generalize upd (upd (upd (upd (upd H7 p1 (.tup [.int lo, .int hi])) p2 (.tup [.non, .int hi])) p3 (.tup [.int lo, .non])) p4 (.tup [.non, .non])) tp (.tup [.ref p1, .ref p2, .ref p3, .ref p4]) = H12 at S12 f1 f2 f3 f4 f5
        refine ⟨⟨_, .inl (.inl f5)⟩, forB_it (for_it (walk_tup (xs := [V.ref p1, V.ref p2, V.ref p3, V.ref p4])) (fun j σ H13 => ∃ (z9 z10 z11 z12 z13 : Option V), σ = [some (.ref a), some (.ref h), some (.ref x), some (.ref pl), some (.int (0 + (i : Int))), y5, y6, some (.int lo), some (.int hi), z9, z10, z11, z12, z13] ∧ Same H12 H13)
          ⟨x9, x10, x11, x12, x13, rfl, Same.refl _⟩ (fun j σ H13 _ hh => by obtain ⟨_, _, _, _, _, _, ss⟩ := hh; exact .inl (.inl (ss _ _ f5))) ?_ ?_)⟩
        · rintro j y σ H13 H13' hj ⟨z9, z10, z11, z12, z13, rfl, ss⟩ ⟨rfl, hy⟩
          obtain ⟨one, oth, tt, rfl, ht⟩ : ∃ (one oth : OI) (tt : Addr), y = V.ref tt ∧ H13' tt = some (.tup [oi one, oi oth]) := by
            rcases j with _ | _ | _ | _ | j
            · cases hy; exact ⟨some lo, some hi, p1, rfl, ss _ _ f1⟩
            · cases hy; exact ⟨none, some hi, p2, rfl, ss _ _ f2⟩
            · cases hy; exact ⟨some lo, none, p3, rfl, ss _ _ f3⟩
            · cases hy; exact ⟨none, none, p4, rfl, ss _ _ f4⟩
            · cases hy
          have S13 := S12.same ss
          simp only [tVar, tC, tOp, rI, rI0, rU, tTest, tB, tAnd, tOr, tNot, tAndV, tOrV, tNotV, tIf, tNil, tCons, tTup, tLst, tCB, tSeq, tAsg, gName, tRet, tRetN, tIfS, tNext, tDrop, tCall, tUn, tPar, CMul, CDiv, V.int.injEq, V.bl.injEq, V.ref.injEq, V.str.injEq, Option.some.injEq, List.cons.injEq, and_true, true_and, and_false, false_and, or_false, false_or, or_true, true_or, exists_eq_left', exists_eq_left, exists_and_left, exists_and_right, exists_eq', exists_eq, exists_false, exists_const, List.getElem?_cons_succ, List.getElem?_cons_zero, List.set_cons_succ, List.set_cons_zero, List.length_cons, List.length_nil, List.cons_append, List.nil_append, List.append_nil, reduceCtorEq, Int.reduceLT, Int.reduceLE, Int.reduceNeg, Int.reducePow, Int.reduceSub, Int.reduceAdd, Nat.reduceAdd, Nat.reduceLeDiff, Bool.not_true, Bool.not_false, decide_true, decide_false, Bool.false_eq_true, ↓reduceIte, upd_same, not_true_eq_false, not_false_eq_true, lsO_l, lsO_f, tpO_t, tpO_f, dkO_d, dkO_f, keyO_i, keyO_s, rIxH, rIxU, cLenL, cLenT, cListL, cListT, cTupL, cIntB, cAll, rEqNilI, rEq, rNe, scal_ii, scal_ss, scal_bb, scal_nn, scal_ni, scal_in, scal_ns, scal_sn, gSub, rSetL, ixs0, ixs1, ixs2, seq0, at0, at1, at2, at3, tBM, tBM0, rAppend, rPopAt, tyV_list, tGet2, tGetI, sPut, tMG, rTIdx, tyTup, tTupF, cx_K, cx_w, ex_map_int, ex_nil_int, ex_cons_int, List.map_cons, List.map_nil, List.isEmpty_nil, List.isEmpty_cons, List.eraseIdx_zero, List.tail_cons, List.eraseIdx_cons_zero, HO.lst.injEq, HO.tup.injEq, HO.dK.injEq, HO.frz.injEq, ne_eq, gTupH, gCons, gNil, wipe, tYes, upd_upd, and_assoc, List.getElem?_map, Option.map_some, isn_non_bool, isn_non_int, isn_non_str, isn_non_tuple, isn_non_list, isn_non_dict, isn_bl_bool, isn_bl_int, isn_bl_str, isn_bl_tuple, isn_bl_list, isn_bl_dict, isn_int_bool, isn_int_int, isn_int_str, isn_int_tuple, isn_int_list, isn_int_dict, isn_str_bool, isn_str_int, isn_str_str, isn_str_tuple, isn_str_list, isn_str_dict, isn_lst_bool, isn_lst_int, isn_lst_str, isn_lst_tuple, isn_lst_list, isn_lst_dict, isn_tup_bool, isn_tup_int, isn_tup_str, isn_tup_tuple, isn_tup_list, isn_tup_dict, isn_dct_bool, isn_dct_int, isn_dct_str, isn_dct_tuple, isn_dct_list, isn_dct_dict, okn_bool, okn_int, okn_str, okn_tuple, okn_list, okn_dict, cIsi, tyT_n, tyT_b, tyT_i, tyT_s, tyT_r, V.ty.injEq, tSl, tPart, tNoPart, rSlF, gName, tFld, sFld, tMeth, tMake, tGetT, tInT, tNinT, sPutT, sAugT, tPopT, rLtH, dtO_d, dtO_f, kysO_n, kysO_i, kysO_s, intsV_n, intsV_i, HO.ins.injEq, HO.dT.injEq, tDNewT, rIxLT, cLenLT, tSortP, gName, ht]
          -- the law's own
          refine ⟨fun σ' H14 => ∃ (D : Addr) (fs : List Pr), σ' = [some (.ref a), some (.ref h), some (.ref x), some (.ref pl), some (.int (0 + (i : Int))), y5, y6, some (.int lo), some (.int hi), some (oi one), some (oi oth), some (.ref D), z12, z13] ∧ Same H13' H14 ∧ H14 D = some (.lst (fs.map fun p => V.ref p.1)) ∧ (∀ p ∈ fs, H14 p.1 = some (.tup [.int p.2.1, .int p.2.2])) ∧ fs = qs'.filter fun p => btw p.2.1 one oth, ?_, ?_⟩
          · have e13 := S13.at_
            simp only [tVar, tC, tOp, rI, rI0, rU, tTest, tB, tAnd, tOr, tNot, tAndV, tOrV, tNotV, tIf, tNil, tCons, tTup, tLst, tCB, tSeq, tAsg, gName, tRet, tRetN, tIfS, tNext, tDrop, tCall, tUn, tPar, CMul, CDiv, V.int.injEq, V.bl.injEq, V.ref.injEq, V.str.injEq, Option.some.injEq, List.cons.injEq, and_true, true_and, and_false, false_and, or_false, false_or, or_true, true_or, exists_eq_left', exists_eq_left, exists_and_left, exists_and_right, exists_eq', exists_eq, exists_false, exists_const, List.getElem?_cons_succ, List.getElem?_cons_zero, List.set_cons_succ, List.set_cons_zero, List.length_cons, List.length_nil, List.cons_append, List.nil_append, List.append_nil, reduceCtorEq, Int.reduceLT, Int.reduceLE, Int.reduceNeg, Int.reducePow, Int.reduceSub, Int.reduceAdd, Nat.reduceAdd, Nat.reduceLeDiff, Bool.not_true, Bool.not_false, decide_true, decide_false, Bool.false_eq_true, ↓reduceIte, upd_same, not_true_eq_false, not_false_eq_true, lsO_l, lsO_f, tpO_t, tpO_f, dkO_d, dkO_f, keyO_i, keyO_s, rIxH, rIxU, cLenL, cLenT, cListL, cListT, cTupL, cIntB, cAll, rEqNilI, rEq, rNe, scal_ii, scal_ss, scal_bb, scal_nn, scal_ni, scal_in, scal_ns, scal_sn, gSub, rSetL, ixs0, ixs1, ixs2, seq0, at0, at1, at2, at3, tBM, tBM0, rAppend, rPopAt, tyV_list, tGet2, tGetI, sPut, tMG, rTIdx, tyTup, tTupF, cx_K, cx_w, ex_map_int, ex_nil_int, ex_cons_int, List.map_cons, List.map_nil, List.isEmpty_nil, List.isEmpty_cons, List.eraseIdx_zero, List.tail_cons, List.eraseIdx_cons_zero, HO.lst.injEq, HO.tup.injEq, HO.dK.injEq, HO.frz.injEq, ne_eq, gTupH, gCons, gNil, wipe, tYes, upd_upd, and_assoc, List.getElem?_map, Option.map_some, isn_non_bool, isn_non_int, isn_non_str, isn_non_tuple, isn_non_list, isn_non_dict, isn_bl_bool, isn_bl_int, isn_bl_str, isn_bl_tuple, isn_bl_list, isn_bl_dict, isn_int_bool, isn_int_int, isn_int_str, isn_int_tuple, isn_int_list, isn_int_dict, isn_str_bool, isn_str_int, isn_str_str, isn_str_tuple, isn_str_list, isn_str_dict, isn_lst_bool, isn_lst_int, isn_lst_str, isn_lst_tuple, isn_lst_list, isn_lst_dict, isn_tup_bool, isn_tup_int, isn_tup_str, isn_tup_tuple, isn_tup_list, isn_tup_dict, isn_dct_bool, isn_dct_int, isn_dct_str, isn_dct_tuple, isn_dct_list, isn_dct_dict, okn_bool, okn_int, okn_str, okn_tuple, okn_list, okn_dict, cIsi, tyT_n, tyT_b, tyT_i, tyT_s, tyT_r, V.ty.injEq, tSl, tPart, tNoPart, rSlF, gName, tFld, sFld, tMeth, tMake, tGetT, tInT, tNinT, sPutT, sAugT, tPopT, rLtH, dtO_d, dtO_f, kysO_n, kysO_i, kysO_s, intsV_n, intsV_i, HO.ins.injEq, HO.dT.injEq, tDNewT, rIxLT, cLenLT, tSortP, tLc_eq, iList]
            refine ⟨⟨_, .inl (.inl e13)⟩, lcB_it fun D hD => lc_it (walk_list (xs := qs'.map fun p => V.ref p.1)) (fun m H14 => Same H13' H14 ∧ H14 D = some (.lst (((qs'.take m).filter fun p => btw p.2.1 one oth).map fun p => V.ref p.1))) ⟨same_new hD, upd_same⟩ (fun m H14 _ ⟨ss2, _⟩ => .inl (.inl (ss2 _ _ e13))) ?_ ?_⟩
            · rintro m y H14 H15 hm ⟨ss2, e14⟩ ⟨rfl, hy⟩
              rw [List.length_map] at hm
              obtain ⟨p, hp⟩ : ∃ p, qs'[m]? = some p := ⟨_, List.getElem?_eq_getElem hm⟩
              rw [List.getElem?_map, hp] at hy
              obtain rfl : V.ref p.1 = y := Option.some.inj hy
              have tp14 := ss2 _ _ (S13.tu p (List.mem_of_getElem? hp))
              have et : qs'.take (m + 1) = qs'.take m ++ [p] := by rw [List.take_add_one, hp]; rfl
              rw [et, List.filter_append]
              have flen : ((qs'.take m).filter fun p => btw p.2.1 one oth).length < 100000 := by
                have := List.length_filter_le (fun p : Pr => btw p.2.1 one oth) (qs'.take m)
                rw [List.length_take] at this
                omega
              have nD : D ≠ p.1 := fun z => by rw [z, tp14] at e14; cases e14
              have yes : btw p.2.1 one oth = true → ((((qs'.take m).filter fun p => btw p.2.1 one oth).map fun p => V.ref p.1).length < sizeLine) ∧ Same H13' (upd H15 D (.lst ((((qs'.take m).filter fun p => btw p.2.1 one oth).map fun p => V.ref p.1) ++ [V.ref p.1]))) ∧ ((((qs'.take m).filter fun p => btw p.2.1 one oth).map fun p => V.ref p.1) ++ [V.ref p.1]) = ((qs'.take m).filter (fun p => btw p.2.1 one oth) ++ [p].filter fun p => btw p.2.1 one oth).map fun p => V.ref p.1 := fun hb => by
                refine ⟨by rw [List.length_map]; exact szl' flen, Same.updFree ss2 hD, ?_⟩
                rw [List.filter_cons_of_pos (by exact hb), List.map_append]
                rfl
              have no : ¬ btw p.2.1 one oth = true → Same H13' H15 ∧ ((qs'.take m).filter fun p => btw p.2.1 one oth).map (fun p => V.ref p.1) = ((qs'.take m).filter (fun p => btw p.2.1 one oth) ++ [p].filter fun p => btw p.2.1 one oth).map fun p => V.ref p.1 := fun hb => by
                refine ⟨ss2, ?_⟩
                rw [List.filter_cons_of_neg (by exact hb), List.filter_nil, List.append_nil]
              cases one with
              | none =>
                cases oth with
                | none =>
                  simp only [tVar, tC, tOp, rI, rI0, rU, tTest, tB, tAnd, tOr, tNot, tAndV, tOrV, tNotV, tIf, tNil, tCons, tTup, tLst, tCB, tSeq, tAsg, gName, tRet, tRetN, tIfS, tNext, tDrop, tCall, tUn, tPar, CMul, CDiv, V.int.injEq, V.bl.injEq, V.ref.injEq, V.str.injEq, Option.some.injEq, List.cons.injEq, and_true, true_and, and_false, false_and, or_false, false_or, or_true, true_or, exists_eq_left', exists_eq_left, exists_and_left, exists_and_right, exists_eq', exists_eq, exists_false, exists_const, List.getElem?_cons_succ, List.getElem?_cons_zero, List.set_cons_succ, List.set_cons_zero, List.length_cons, List.length_nil, List.cons_append, List.nil_append, List.append_nil, reduceCtorEq, Int.reduceLT, Int.reduceLE, Int.reduceNeg, Int.reducePow, Int.reduceSub, Int.reduceAdd, Nat.reduceAdd, Nat.reduceLeDiff, Bool.not_true, Bool.not_false, decide_true, decide_false, Bool.false_eq_true, ↓reduceIte, upd_same, not_true_eq_false, not_false_eq_true, lsO_l, lsO_f, tpO_t, tpO_f, dkO_d, dkO_f, keyO_i, keyO_s, rIxH, rIxU, cLenL, cLenT, cListL, cListT, cTupL, cIntB, cAll, rEqNilI, rEq, rNe, scal_ii, scal_ss, scal_bb, scal_nn, scal_ni, scal_in, scal_ns, scal_sn, gSub, rSetL, ixs0, ixs1, ixs2, seq0, at0, at1, at2, at3, tBM, tBM0, rAppend, rPopAt, tyV_list, tGet2, tGetI, sPut, tMG, rTIdx, tyTup, tTupF, cx_K, cx_w, ex_map_int, ex_nil_int, ex_cons_int, List.map_cons, List.map_nil, List.isEmpty_nil, List.isEmpty_cons, List.eraseIdx_zero, List.tail_cons, List.eraseIdx_cons_zero, HO.lst.injEq, HO.tup.injEq, HO.dK.injEq, HO.frz.injEq, ne_eq, gTupH, gCons, gNil, wipe, tYes, upd_upd, and_assoc, List.getElem?_map, Option.map_some, isn_non_bool, isn_non_int, isn_non_str, isn_non_tuple, isn_non_list, isn_non_dict, isn_bl_bool, isn_bl_int, isn_bl_str, isn_bl_tuple, isn_bl_list, isn_bl_dict, isn_int_bool, isn_int_int, isn_int_str, isn_int_tuple, isn_int_list, isn_int_dict, isn_str_bool, isn_str_int, isn_str_str, isn_str_tuple, isn_str_list, isn_str_dict, isn_lst_bool, isn_lst_int, isn_lst_str, isn_lst_tuple, isn_lst_list, isn_lst_dict, isn_tup_bool, isn_tup_int, isn_tup_str, isn_tup_tuple, isn_tup_list, isn_tup_dict, isn_dct_bool, isn_dct_int, isn_dct_str, isn_dct_tuple, isn_dct_list, isn_dct_dict, okn_bool, okn_int, okn_str, okn_tuple, okn_list, okn_dict, cIsi, tyT_n, tyT_b, tyT_i, tyT_s, tyT_r, V.ty.injEq, tSl, tPart, tNoPart, rSlF, gName, tFld, sFld, tMeth, tMake, tGetT, tInT, tNinT, sPutT, sAugT, tPopT, rLtH, dtO_d, dtO_f, kysO_n, kysO_i, kysO_s, intsV_n, intsV_i, HO.ins.injEq, HO.dT.injEq, tDNewT, rIxLT, cLenLT, tSortP, oi_n, tp14, e14]
                  exact yes rfl
                | some hi' =>
                  simp only [tVar, tC, tOp, rI, rI0, rU, tTest, tB, tAnd, tOr, tNot, tAndV, tOrV, tNotV, tIf, tNil, tCons, tTup, tLst, tCB, tSeq, tAsg, gName, tRet, tRetN, tIfS, tNext, tDrop, tCall, tUn, tPar, CMul, CDiv, V.int.injEq, V.bl.injEq, V.ref.injEq, V.str.injEq, Option.some.injEq, List.cons.injEq, and_true, true_and, and_false, false_and, or_false, false_or, or_true, true_or, exists_eq_left', exists_eq_left, exists_and_left, exists_and_right, exists_eq', exists_eq, exists_false, exists_const, List.getElem?_cons_succ, List.getElem?_cons_zero, List.set_cons_succ, List.set_cons_zero, List.length_cons, List.length_nil, List.cons_append, List.nil_append, List.append_nil, reduceCtorEq, Int.reduceLT, Int.reduceLE, Int.reduceNeg, Int.reducePow, Int.reduceSub, Int.reduceAdd, Nat.reduceAdd, Nat.reduceLeDiff, Bool.not_true, Bool.not_false, decide_true, decide_false, Bool.false_eq_true, ↓reduceIte, upd_same, not_true_eq_false, not_false_eq_true, lsO_l, lsO_f, tpO_t, tpO_f, dkO_d, dkO_f, keyO_i, keyO_s, rIxH, rIxU, cLenL, cLenT, cListL, cListT, cTupL, cIntB, cAll, rEqNilI, rEq, rNe, scal_ii, scal_ss, scal_bb, scal_nn, scal_ni, scal_in, scal_ns, scal_sn, gSub, rSetL, ixs0, ixs1, ixs2, seq0, at0, at1, at2, at3, tBM, tBM0, rAppend, rPopAt, tyV_list, tGet2, tGetI, sPut, tMG, rTIdx, tyTup, tTupF, cx_K, cx_w, ex_map_int, ex_nil_int, ex_cons_int, List.map_cons, List.map_nil, List.isEmpty_nil, List.isEmpty_cons, List.eraseIdx_zero, List.tail_cons, List.eraseIdx_cons_zero, HO.lst.injEq, HO.tup.injEq, HO.dK.injEq, HO.frz.injEq, ne_eq, gTupH, gCons, gNil, wipe, tYes, upd_upd, and_assoc, List.getElem?_map, Option.map_some, isn_non_bool, isn_non_int, isn_non_str, isn_non_tuple, isn_non_list, isn_non_dict, isn_bl_bool, isn_bl_int, isn_bl_str, isn_bl_tuple, isn_bl_list, isn_bl_dict, isn_int_bool, isn_int_int, isn_int_str, isn_int_tuple, isn_int_list, isn_int_dict, isn_str_bool, isn_str_int, isn_str_str, isn_str_tuple, isn_str_list, isn_str_dict, isn_lst_bool, isn_lst_int, isn_lst_str, isn_lst_tuple, isn_lst_list, isn_lst_dict, isn_tup_bool, isn_tup_int, isn_tup_str, isn_tup_tuple, isn_tup_list, isn_tup_dict, isn_dct_bool, isn_dct_int, isn_dct_str, isn_dct_tuple, isn_dct_list, isn_dct_dict, okn_bool, okn_int, okn_str, okn_tuple, okn_list, okn_dict, cIsi, tyT_n, tyT_b, tyT_i, tyT_s, tyT_r, V.ty.injEq, tSl, tPart, tNoPart, rSlF, gName, tFld, sFld, tMeth, tMake, tGetT, tInT, tNinT, sPutT, sAugT, tPopT, rLtH, dtO_d, dtO_f, kysO_n, kysO_i, kysO_s, intsV_n, intsV_i, HO.ins.injEq, HO.dT.injEq, tDNewT, rIxLT, cLenLT, tSortP, oi_n, oi_s, tp14, e14]
                  by_cases c : p.2.1 ≤ hi'
                  · rw [if_pos (decide_eq_true c)]
                    exact yes (by simp [btw, geLo, leHi, c])
                  · rw [if_neg (by simp [c])]
                    exact no (by simp [btw, geLo, leHi, c])
              | some lo' =>
                cases oth with
                | none =>
                  simp only [tVar, tC, tOp, rI, rI0, rU, tTest, tB, tAnd, tOr, tNot, tAndV, tOrV, tNotV, tIf, tNil, tCons, tTup, tLst, tCB, tSeq, tAsg, gName, tRet, tRetN, tIfS, tNext, tDrop, tCall, tUn, tPar, CMul, CDiv, V.int.injEq, V.bl.injEq, V.ref.injEq, V.str.injEq, Option.some.injEq, List.cons.injEq, and_true, true_and, and_false, false_and, or_false, false_or, or_true, true_or, exists_eq_left', exists_eq_left, exists_and_left, exists_and_right, exists_eq', exists_eq, exists_false, exists_const, List.getElem?_cons_succ, List.getElem?_cons_zero, List.set_cons_succ, List.set_cons_zero, List.length_cons, List.length_nil, List.cons_append, List.nil_append, List.append_nil, reduceCtorEq, Int.reduceLT, Int.reduceLE, Int.reduceNeg, Int.reducePow, Int.reduceSub, Int.reduceAdd, Nat.reduceAdd, Nat.reduceLeDiff, Bool.not_true, Bool.not_false, decide_true, decide_false, Bool.false_eq_true, ↓reduceIte, upd_same, not_true_eq_false, not_false_eq_true, lsO_l, lsO_f, tpO_t, tpO_f, dkO_d, dkO_f, keyO_i, keyO_s, rIxH, rIxU, cLenL, cLenT, cListL, cListT, cTupL, cIntB, cAll, rEqNilI, rEq, rNe, scal_ii, scal_ss, scal_bb, scal_nn, scal_ni, scal_in, scal_ns, scal_sn, gSub, rSetL, ixs0, ixs1, ixs2, seq0, at0, at1, at2, at3, tBM, tBM0, rAppend, rPopAt, tyV_list, tGet2, tGetI, sPut, tMG, rTIdx, tyTup, tTupF, cx_K, cx_w, ex_map_int, ex_nil_int, ex_cons_int, List.map_cons, List.map_nil, List.isEmpty_nil, List.isEmpty_cons, List.eraseIdx_zero, List.tail_cons, List.eraseIdx_cons_zero, HO.lst.injEq, HO.tup.injEq, HO.dK.injEq, HO.frz.injEq, ne_eq, gTupH, gCons, gNil, wipe, tYes, upd_upd, and_assoc, List.getElem?_map, Option.map_some, isn_non_bool, isn_non_int, isn_non_str, isn_non_tuple, isn_non_list, isn_non_dict, isn_bl_bool, isn_bl_int, isn_bl_str, isn_bl_tuple, isn_bl_list, isn_bl_dict, isn_int_bool, isn_int_int, isn_int_str, isn_int_tuple, isn_int_list, isn_int_dict, isn_str_bool, isn_str_int, isn_str_str, isn_str_tuple, isn_str_list, isn_str_dict, isn_lst_bool, isn_lst_int, isn_lst_str, isn_lst_tuple, isn_lst_list, isn_lst_dict, isn_tup_bool, isn_tup_int, isn_tup_str, isn_tup_tuple, isn_tup_list, isn_tup_dict, isn_dct_bool, isn_dct_int, isn_dct_str, isn_dct_tuple, isn_dct_list, isn_dct_dict, okn_bool, okn_int, okn_str, okn_tuple, okn_list, okn_dict, cIsi, tyT_n, tyT_b, tyT_i, tyT_s, tyT_r, V.ty.injEq, tSl, tPart, tNoPart, rSlF, gName, tFld, sFld, tMeth, tMake, tGetT, tInT, tNinT, sPutT, sAugT, tPopT, rLtH, dtO_d, dtO_f, kysO_n, kysO_i, kysO_s, intsV_n, intsV_i, HO.ins.injEq, HO.dT.injEq, tDNewT, rIxLT, cLenLT, tSortP, oi_n, oi_s, tp14, e14]
                  by_cases c : lo' ≤ p.2.1
                  · rw [if_pos (decide_eq_true c)]
                    exact yes (by simp [btw, geLo, leHi, c])
                  · rw [if_neg (by simp [c])]
                    exact no (by simp [btw, geLo, leHi, c])
                | some hi' =>
                  simp only [tVar, tC, tOp, rI, rI0, rU, tTest, tB, tAnd, tOr, tNot, tAndV, tOrV, tNotV, tIf, tNil, tCons, tTup, tLst, tCB, tSeq, tAsg, gName, tRet, tRetN, tIfS, tNext, tDrop, tCall, tUn, tPar, CMul, CDiv, V.int.injEq, V.bl.injEq, V.ref.injEq, V.str.injEq, Option.some.injEq, List.cons.injEq, and_true, true_and, and_false, false_and, or_false, false_or, or_true, true_or, exists_eq_left', exists_eq_left, exists_and_left, exists_and_right, exists_eq', exists_eq, exists_false, exists_const, List.getElem?_cons_succ, List.getElem?_cons_zero, List.set_cons_succ, List.set_cons_zero, List.length_cons, List.length_nil, List.cons_append, List.nil_append, List.append_nil, reduceCtorEq, Int.reduceLT, Int.reduceLE, Int.reduceNeg, Int.reducePow, Int.reduceSub, Int.reduceAdd, Nat.reduceAdd, Nat.reduceLeDiff, Bool.not_true, Bool.not_false, decide_true, decide_false, Bool.false_eq_true, ↓reduceIte, upd_same, not_true_eq_false, not_false_eq_true, lsO_l, lsO_f, tpO_t, tpO_f, dkO_d, dkO_f, keyO_i, keyO_s, rIxH, rIxU, cLenL, cLenT, cListL, cListT, cTupL, cIntB, cAll, rEqNilI, rEq, rNe, scal_ii, scal_ss, scal_bb, scal_nn, scal_ni, scal_in, scal_ns, scal_sn, gSub, rSetL, ixs0, ixs1, ixs2, seq0, at0, at1, at2, at3, tBM, tBM0, rAppend, rPopAt, tyV_list, tGet2, tGetI, sPut, tMG, rTIdx, tyTup, tTupF, cx_K, cx_w, ex_map_int, ex_nil_int, ex_cons_int, List.map_cons, List.map_nil, List.isEmpty_nil, List.isEmpty_cons, List.eraseIdx_zero, List.tail_cons, List.eraseIdx_cons_zero, HO.lst.injEq, HO.tup.injEq, HO.dK.injEq, HO.frz.injEq, ne_eq, gTupH, gCons, gNil, wipe, tYes, upd_upd, and_assoc, List.getElem?_map, Option.map_some, isn_non_bool, isn_non_int, isn_non_str, isn_non_tuple, isn_non_list, isn_non_dict, isn_bl_bool, isn_bl_int, isn_bl_str, isn_bl_tuple, isn_bl_list, isn_bl_dict, isn_int_bool, isn_int_int, isn_int_str, isn_int_tuple, isn_int_list, isn_int_dict, isn_str_bool, isn_str_int, isn_str_str, isn_str_tuple, isn_str_list, isn_str_dict, isn_lst_bool, isn_lst_int, isn_lst_str, isn_lst_tuple, isn_lst_list, isn_lst_dict, isn_tup_bool, isn_tup_int, isn_tup_str, isn_tup_tuple, isn_tup_list, isn_tup_dict, isn_dct_bool, isn_dct_int, isn_dct_str, isn_dct_tuple, isn_dct_list, isn_dct_dict, okn_bool, okn_int, okn_str, okn_tuple, okn_list, okn_dict, cIsi, tyT_n, tyT_b, tyT_i, tyT_s, tyT_r, V.ty.injEq, tSl, tPart, tNoPart, rSlF, gName, tFld, sFld, tMeth, tMake, tGetT, tInT, tNinT, sPutT, sAugT, tPopT, rLtH, dtO_d, dtO_f, kysO_n, kysO_i, kysO_s, intsV_n, intsV_i, HO.ins.injEq, HO.dT.injEq, tDNewT, rIxLT, cLenLT, tSortP, oi_n, oi_s, tp14, e14]
                  by_cases c : lo' ≤ p.2.1
                  · rw [if_pos (decide_eq_true c)]
                    by_cases c2 : p.2.1 ≤ hi'
                    · rw [if_pos (decide_eq_true c2)]
                      exact yes (by simp [btw, geLo, leHi, c, c2])
                    · rw [if_neg (by simp [c2])]
                      exact no (by simp [btw, geLo, leHi, c2])
                  · rw [if_neg (by simp [c])]
                    exact no (by simp [btw, geLo, leHi, c])
            · rintro H14 ⟨ss2, e14⟩
              rw [List.length_map, List.take_of_length_le (Nat.le_refl _)] at e14
              simp only [tVar, tC, tOp, rI, rI0, rU, tTest, tB, tAnd, tOr, tNot, tAndV, tOrV, tNotV, tIf, tNil, tCons, tTup, tLst, tCB, tSeq, tAsg, gName, tRet, tRetN, tIfS, tNext, tDrop, tCall, tUn, tPar, CMul, CDiv, V.int.injEq, V.bl.injEq, V.ref.injEq, V.str.injEq, Option.some.injEq, List.cons.injEq, and_true, true_and, and_false, false_and, or_false, false_or, or_true, true_or, exists_eq_left', exists_eq_left, exists_and_left, exists_and_right, exists_eq', exists_eq, exists_false, exists_const, List.getElem?_cons_succ, List.getElem?_cons_zero, List.set_cons_succ, List.set_cons_zero, List.length_cons, List.length_nil, List.cons_append, List.nil_append, List.append_nil, reduceCtorEq, Int.reduceLT, Int.reduceLE, Int.reduceNeg, Int.reducePow, Int.reduceSub, Int.reduceAdd, Nat.reduceAdd, Nat.reduceLeDiff, Bool.not_true, Bool.not_false, decide_true, decide_false, Bool.false_eq_true, ↓reduceIte, upd_same, not_true_eq_false, not_false_eq_true, lsO_l, lsO_f, tpO_t, tpO_f, dkO_d, dkO_f, keyO_i, keyO_s, rIxH, rIxU, cLenL, cLenT, cListL, cListT, cTupL, cIntB, cAll, rEqNilI, rEq, rNe, scal_ii, scal_ss, scal_bb, scal_nn, scal_ni, scal_in, scal_ns, scal_sn, gSub, rSetL, ixs0, ixs1, ixs2, seq0, at0, at1, at2, at3, tBM, tBM0, rAppend, rPopAt, tyV_list, tGet2, tGetI, sPut, tMG, rTIdx, tyTup, tTupF, cx_K, cx_w, ex_map_int, ex_nil_int, ex_cons_int, List.map_cons, List.map_nil, List.isEmpty_nil, List.isEmpty_cons, List.eraseIdx_zero, List.tail_cons, List.eraseIdx_cons_zero, HO.lst.injEq, HO.tup.injEq, HO.dK.injEq, HO.frz.injEq, ne_eq, gTupH, gCons, gNil, wipe, tYes, upd_upd, and_assoc, List.getElem?_map, Option.map_some, isn_non_bool, isn_non_int, isn_non_str, isn_non_tuple, isn_non_list, isn_non_dict, isn_bl_bool, isn_bl_int, isn_bl_str, isn_bl_tuple, isn_bl_list, isn_bl_dict, isn_int_bool, isn_int_int, isn_int_str, isn_int_tuple, isn_int_list, isn_int_dict, isn_str_bool, isn_str_int, isn_str_str, isn_str_tuple, isn_str_list, isn_str_dict, isn_lst_bool, isn_lst_int, isn_lst_str, isn_lst_tuple, isn_lst_list, isn_lst_dict, isn_tup_bool, isn_tup_int, isn_tup_str, isn_tup_tuple, isn_tup_list, isn_tup_dict, isn_dct_bool, isn_dct_int, isn_dct_str, isn_dct_tuple, isn_dct_list, isn_dct_dict, okn_bool, okn_int, okn_str, okn_tuple, okn_list, okn_dict, cIsi, tyT_n, tyT_b, tyT_i, tyT_s, tyT_r, V.ty.injEq, tSl, tPart, tNoPart, rSlF, gName, tFld, sFld, tMeth, tMake, tGetT, tInT, tNinT, sPutT, sAugT, tPopT, rLtH, dtO_d, dtO_f, kysO_n, kysO_i, kysO_s, intsV_n, intsV_i, HO.ins.injEq, HO.dT.injEq, tDNewT, rIxLT, cLenLT, tSortP]
              exact ⟨ss2, _, e14, fun p hp => ss2 _ _ (S13.tu p (List.mem_filter.mp hp).1), rfl⟩
          rintro σ' H14 ⟨D, fs, rfl, ss2, e14, T14, hfs⟩
          have S14 := S13.same ss2
          -- the index's own
          refine ⟨fun σ' H15 => ∃ (r : Addr) (rs : List Pr), σ' = [some (.ref a), some (.ref h), some (.ref x), some (.ref pl), some (.int (0 + (i : Int))), y5, y6, some (.int lo), some (.int hi), some (oi one), some (oi oth), some (.ref D), some (.ref r), z13] ∧ Same H14 H15 ∧ H14 r = none ∧ H15 r = some (.lst (rs.map fun p => V.ref p.1)) ∧ (∀ p ∈ rs, H15 p.1 = some (.tup [.int p.2.1, .int p.2.2])) ∧ Ris2 rs ∧ rs.length ≤ 100 ∧ (∀ q, q ∈ rs.map (·.2) ↔ q ∈ qs'.map (·.2) ∧ btw q.1 one oth = true), ?_, ?_⟩
          · simp only [tVar, tC, tOp, rI, rI0, rU, tTest, tB, tAnd, tOr, tNot, tAndV, tOrV, tNotV, tIf, tNil, tCons, tTup, tLst, tCB, tSeq, tAsg, gName, tRet, tRetN, tIfS, tNext, tDrop, tCall, tUn, tPar, CMul, CDiv, V.int.injEq, V.bl.injEq, V.ref.injEq, V.str.injEq, Option.some.injEq, List.cons.injEq, and_true, true_and, and_false, false_and, or_false, false_or, or_true, true_or, exists_eq_left', exists_eq_left, exists_and_left, exists_and_right, exists_eq', exists_eq, exists_false, exists_const, List.getElem?_cons_succ, List.getElem?_cons_zero, List.set_cons_succ, List.set_cons_zero, List.length_cons, List.length_nil, List.cons_append, List.nil_append, List.append_nil, reduceCtorEq, Int.reduceLT, Int.reduceLE, Int.reduceNeg, Int.reducePow, Int.reduceSub, Int.reduceAdd, Nat.reduceAdd, Nat.reduceLeDiff, Bool.not_true, Bool.not_false, decide_true, decide_false, Bool.false_eq_true, ↓reduceIte, upd_same, not_true_eq_false, not_false_eq_true, lsO_l, lsO_f, tpO_t, tpO_f, dkO_d, dkO_f, keyO_i, keyO_s, rIxH, rIxU, cLenL, cLenT, cListL, cListT, cTupL, cIntB, cAll, rEqNilI, rEq, rNe, scal_ii, scal_ss, scal_bb, scal_nn, scal_ni, scal_in, scal_ns, scal_sn, gSub, rSetL, ixs0, ixs1, ixs2, seq0, at0, at1, at2, at3, tBM, tBM0, rAppend, rPopAt, tyV_list, tGet2, tGetI, sPut, tMG, rTIdx, tyTup, tTupF, cx_K, cx_w, ex_map_int, ex_nil_int, ex_cons_int, List.map_cons, List.map_nil, List.isEmpty_nil, List.isEmpty_cons, List.eraseIdx_zero, List.tail_cons, List.eraseIdx_cons_zero, HO.lst.injEq, HO.tup.injEq, HO.dK.injEq, HO.frz.injEq, ne_eq, gTupH, gCons, gNil, wipe, tYes, upd_upd, and_assoc, List.getElem?_map, Option.map_some, isn_non_bool, isn_non_int, isn_non_str, isn_non_tuple, isn_non_list, isn_non_dict, isn_bl_bool, isn_bl_int, isn_bl_str, isn_bl_tuple, isn_bl_list, isn_bl_dict, isn_int_bool, isn_int_int, isn_int_str, isn_int_tuple, isn_int_list, isn_int_dict, isn_str_bool, isn_str_int, isn_str_str, isn_str_tuple, isn_str_list, isn_str_dict, isn_lst_bool, isn_lst_int, isn_lst_str, isn_lst_tuple, isn_lst_list, isn_lst_dict, isn_tup_bool, isn_tup_int, isn_tup_str, isn_tup_tuple, isn_tup_list, isn_tup_dict, isn_dct_bool, isn_dct_int, isn_dct_str, isn_dct_tuple, isn_dct_list, isn_dct_dict, okn_bool, okn_int, okn_str, okn_tuple, okn_list, okn_dict, cIsi, tyT_n, tyT_b, tyT_i, tyT_s, tyT_r, V.ty.injEq, tSl, tPart, tNoPart, rSlF, gName, tFld, sFld, tMeth, tMake, tGetT, tInT, tNinT, sPutT, sAugT, tPopT, rLtH, dtO_d, dtO_f, kysO_n, kysO_i, kysO_s, intsV_n, intsV_i, HO.ins.injEq, HO.dT.injEq, tDNewT, rIxLT, cLenLT, tSortP, lkIndex_pairs, lkIndex_many, noIndex_add, noIndex_lose, noIndex_between, inIndex_pairs, inIndex_many, puIndex_pairs, puIndex_many, lnIndex, lpIndex1, l0Index, T.cl_Index, T.na_Index_pairs, T.na_Index_many, S14.ix.ob]
            refine ⟨x, dx, il, dd, one, oth, _, rfl, S14.ix, by rw [List.length_map]; omega, fun H15 r rs hr ss3 e15 T15 ris ln mm => ?_⟩
            rw [List.length_map] at ln
            simp only [tVar, tC, tOp, rI, rI0, rU, tTest, tB, tAnd, tOr, tNot, tAndV, tOrV, tNotV, tIf, tNil, tCons, tTup, tLst, tCB, tSeq, tAsg, gName, tRet, tRetN, tIfS, tNext, tDrop, tCall, tUn, tPar, CMul, CDiv, V.int.injEq, V.bl.injEq, V.ref.injEq, V.str.injEq, Option.some.injEq, List.cons.injEq, and_true, true_and, and_false, false_and, or_false, false_or, or_true, true_or, exists_eq_left', exists_eq_left, exists_and_left, exists_and_right, exists_eq', exists_eq, exists_false, exists_const, List.getElem?_cons_succ, List.getElem?_cons_zero, List.set_cons_succ, List.set_cons_zero, List.length_cons, List.length_nil, List.cons_append, List.nil_append, List.append_nil, reduceCtorEq, Int.reduceLT, Int.reduceLE, Int.reduceNeg, Int.reducePow, Int.reduceSub, Int.reduceAdd, Nat.reduceAdd, Nat.reduceLeDiff, Bool.not_true, Bool.not_false, decide_true, decide_false, Bool.false_eq_true, ↓reduceIte, upd_same, not_true_eq_false, not_false_eq_true, lsO_l, lsO_f, tpO_t, tpO_f, dkO_d, dkO_f, keyO_i, keyO_s, rIxH, rIxU, cLenL, cLenT, cListL, cListT, cTupL, cIntB, cAll, rEqNilI, rEq, rNe, scal_ii, scal_ss, scal_bb, scal_nn, scal_ni, scal_in, scal_ns, scal_sn, gSub, rSetL, ixs0, ixs1, ixs2, seq0, at0, at1, at2, at3, tBM, tBM0, rAppend, rPopAt, tyV_list, tGet2, tGetI, sPut, tMG, rTIdx, tyTup, tTupF, cx_K, cx_w, ex_map_int, ex_nil_int, ex_cons_int, List.map_cons, List.map_nil, List.isEmpty_nil, List.isEmpty_cons, List.eraseIdx_zero, List.tail_cons, List.eraseIdx_cons_zero, HO.lst.injEq, HO.tup.injEq, HO.dK.injEq, HO.frz.injEq, ne_eq, gTupH, gCons, gNil, wipe, tYes, upd_upd, and_assoc, List.getElem?_map, Option.map_some, isn_non_bool, isn_non_int, isn_non_str, isn_non_tuple, isn_non_list, isn_non_dict, isn_bl_bool, isn_bl_int, isn_bl_str, isn_bl_tuple, isn_bl_list, isn_bl_dict, isn_int_bool, isn_int_int, isn_int_str, isn_int_tuple, isn_int_list, isn_int_dict, isn_str_bool, isn_str_int, isn_str_str, isn_str_tuple, isn_str_list, isn_str_dict, isn_lst_bool, isn_lst_int, isn_lst_str, isn_lst_tuple, isn_lst_list, isn_lst_dict, isn_tup_bool, isn_tup_int, isn_tup_str, isn_tup_tuple, isn_tup_list, isn_tup_dict, isn_dct_bool, isn_dct_int, isn_dct_str, isn_dct_tuple, isn_dct_list, isn_dct_dict, okn_bool, okn_int, okn_str, okn_tuple, okn_list, okn_dict, cIsi, tyT_n, tyT_b, tyT_i, tyT_s, tyT_r, V.ty.injEq, tSl, tPart, tNoPart, rSlF, gName, tFld, sFld, tMeth, tMake, tGetT, tInT, tNinT, sPutT, sAugT, tPopT, rLtH, dtO_d, dtO_f, kysO_n, kysO_i, kysO_s, intsV_n, intsV_i, HO.ins.injEq, HO.dT.injEq, tDNewT, rIxLT, cLenLT, tSortP]
            exact ⟨ss3, hr, rs, e15, fun p hp => ss3 _ _ (T15 p hp), ris, by omega, mm⟩
          rintro σ' H15 ⟨r, rs, rfl, ss3, hr0, e15, T15, ris, ln, mm⟩
          refine ⟨fun σ' H16 => σ' = [some (.ref a), some (.ref h), some (.ref x), some (.ref pl), some (.int (0 + (i : Int))), y5, y6, some (.int lo), some (.int hi), some (oi one), some (oi oth), some (.ref D), some (.ref r), z13] ∧ Same H15 H16, ?_, ?_⟩
          · have e14' := ss3 _ _ e14
            have fl := List.length_filter_le (fun p : Pr => btw p.2.1 one oth) qs'
            rw [← hfs] at fl
            simp only [tVar, tC, tOp, rI, rI0, rU, tTest, tB, tAnd, tOr, tNot, tAndV, tOrV, tNotV, tIf, tNil, tCons, tTup, tLst, tCB, tSeq, tAsg, gName, tRet, tRetN, tIfS, tNext, tDrop, tCall, tUn, tPar, CMul, CDiv, V.int.injEq, V.bl.injEq, V.ref.injEq, V.str.injEq, Option.some.injEq, List.cons.injEq, and_true, true_and, and_false, false_and, or_false, false_or, or_true, true_or, exists_eq_left', exists_eq_left, exists_and_left, exists_and_right, exists_eq', exists_eq, exists_false, exists_const, List.getElem?_cons_succ, List.getElem?_cons_zero, List.set_cons_succ, List.set_cons_zero, List.length_cons, List.length_nil, List.cons_append, List.nil_append, List.append_nil, reduceCtorEq, Int.reduceLT, Int.reduceLE, Int.reduceNeg, Int.reducePow, Int.reduceSub, Int.reduceAdd, Nat.reduceAdd, Nat.reduceLeDiff, Bool.not_true, Bool.not_false, decide_true, decide_false, Bool.false_eq_true, ↓reduceIte, upd_same, not_true_eq_false, not_false_eq_true, lsO_l, lsO_f, tpO_t, tpO_f, dkO_d, dkO_f, keyO_i, keyO_s, rIxH, rIxU, cLenL, cLenT, cListL, cListT, cTupL, cIntB, cAll, rEqNilI, rEq, rNe, scal_ii, scal_ss, scal_bb, scal_nn, scal_ni, scal_in, scal_ns, scal_sn, gSub, rSetL, ixs0, ixs1, ixs2, seq0, at0, at1, at2, at3, tBM, tBM0, rAppend, rPopAt, tyV_list, tGet2, tGetI, sPut, tMG, rTIdx, tyTup, tTupF, cx_K, cx_w, ex_map_int, ex_nil_int, ex_cons_int, List.map_cons, List.map_nil, List.isEmpty_nil, List.isEmpty_cons, List.eraseIdx_zero, List.tail_cons, List.eraseIdx_cons_zero, HO.lst.injEq, HO.tup.injEq, HO.dK.injEq, HO.frz.injEq, ne_eq, gTupH, gCons, gNil, wipe, tYes, upd_upd, and_assoc, List.getElem?_map, Option.map_some, isn_non_bool, isn_non_int, isn_non_str, isn_non_tuple, isn_non_list, isn_non_dict, isn_bl_bool, isn_bl_int, isn_bl_str, isn_bl_tuple, isn_bl_list, isn_bl_dict, isn_int_bool, isn_int_int, isn_int_str, isn_int_tuple, isn_int_list, isn_int_dict, isn_str_bool, isn_str_int, isn_str_str, isn_str_tuple, isn_str_list, isn_str_dict, isn_lst_bool, isn_lst_int, isn_lst_str, isn_lst_tuple, isn_lst_list, isn_lst_dict, isn_tup_bool, isn_tup_int, isn_tup_str, isn_tup_tuple, isn_tup_list, isn_tup_dict, isn_dct_bool, isn_dct_int, isn_dct_str, isn_dct_tuple, isn_dct_list, isn_dct_dict, okn_bool, okn_int, okn_str, okn_tuple, okn_list, okn_dict, cIsi, tyT_n, tyT_b, tyT_i, tyT_s, tyT_r, V.ty.injEq, tSl, tPart, tNoPart, rSlF, gName, tFld, sFld, tMeth, tMake, tGetT, tInT, tNinT, sPutT, sAugT, tPopT, rLtH, dtO_d, dtO_f, kysO_n, kysO_i, kysO_s, intsV_n, intsV_i, HO.ins.injEq, HO.dT.injEq, tDNewT, rIxLT, cLenLT, tSortP, e14']
            refine ⟨fs, rfl, fun p hp => ss3 _ _ (T14 p hp), by omega, fun p qs hp ris2 sub mm2 => ?_⟩
            have s1 := same_new (o := .lst (qs.map fun e => V.ref e.1)) hp
            have eqs : qs.map (·.2) = rs.map (·.2) := ris_same (ris_map ris2) (ris_map ris) fun z => by
              rw [mm2 z, mm z, hfs, List.mem_map, List.mem_map]
              constructor
              · rintro ⟨y, hy, rfl⟩
                obtain ⟨h1, h2⟩ := List.mem_filter.mp hy
                exact ⟨⟨y, h1, rfl⟩, h2⟩
              · rintro ⟨⟨y, hy, rfl⟩, h2⟩
                exact ⟨y, List.mem_filter.mpr ⟨hy, h2⟩, rfl⟩
            refine ⟨_, _, .lst ((rs.map (·.2)).map dx2), rfl, rx_lst (s1 _ _ e15) ?_, rx_lst upd_same ?_, ?_, ?_, ?_⟩
            · rw [List.map_map]
              exact rxs_map fun p hp => rx2 (s1 _ _ (T15 p hp))
            · rw [← eqs, List.map_map]
              exact rxs_map fun p hp => rx2 (s1 _ _ (ss3 _ _ (T14 p (sub p hp))))
            · have z := dxs_ok (g := dx2) (n := 1) (m := 100000) (l := rs.map (·.2)) fun q _ => by simp [dx2, Dx.deep, Dx.deepL, Dx.fits, Dx.fitsL]
              simp only [Dx.deep]
              omega
            · have z := dxs_ok (g := dx2) (n := 1) (m := 100000) (l := rs.map (·.2)) fun q _ => by simp [dx2, Dx.deep, Dx.deepL, Dx.fits, Dx.fitsL]
              simp only [Dx.fits]
              exact ⟨by rw [List.length_map, List.length_map]; omega, z.2⟩
            · simp only [tVar, tC, tOp, rI, rI0, rU, tTest, tB, tAnd, tOr, tNot, tAndV, tOrV, tNotV, tIf, tNil, tCons, tTup, tLst, tCB, tSeq, tAsg, gName, tRet, tRetN, tIfS, tNext, tDrop, tCall, tUn, tPar, CMul, CDiv, V.int.injEq, V.bl.injEq, V.ref.injEq, V.str.injEq, Option.some.injEq, List.cons.injEq, and_true, true_and, and_false, false_and, or_false, false_or, or_true, true_or, exists_eq_left', exists_eq_left, exists_and_left, exists_and_right, exists_eq', exists_eq, exists_false, exists_const, List.getElem?_cons_succ, List.getElem?_cons_zero, List.set_cons_succ, List.set_cons_zero, List.length_cons, List.length_nil, List.cons_append, List.nil_append, List.append_nil, reduceCtorEq, Int.reduceLT, Int.reduceLE, Int.reduceNeg, Int.reducePow, Int.reduceSub, Int.reduceAdd, Nat.reduceAdd, Nat.reduceLeDiff, Bool.not_true, Bool.not_false, decide_true, decide_false, Bool.false_eq_true, ↓reduceIte, upd_same, not_true_eq_false, not_false_eq_true, lsO_l, lsO_f, tpO_t, tpO_f, dkO_d, dkO_f, keyO_i, keyO_s, rIxH, rIxU, cLenL, cLenT, cListL, cListT, cTupL, cIntB, cAll, rEqNilI, rEq, rNe, scal_ii, scal_ss, scal_bb, scal_nn, scal_ni, scal_in, scal_ns, scal_sn, gSub, rSetL, ixs0, ixs1, ixs2, seq0, at0, at1, at2, at3, tBM, tBM0, rAppend, rPopAt, tyV_list, tGet2, tGetI, sPut, tMG, rTIdx, tyTup, tTupF, cx_K, cx_w, ex_map_int, ex_nil_int, ex_cons_int, List.map_cons, List.map_nil, List.isEmpty_nil, List.isEmpty_cons, List.eraseIdx_zero, List.tail_cons, List.eraseIdx_cons_zero, HO.lst.injEq, HO.tup.injEq, HO.dK.injEq, HO.frz.injEq, ne_eq, gTupH, gCons, gNil, wipe, tYes, upd_upd, and_assoc, List.getElem?_map, Option.map_some, isn_non_bool, isn_non_int, isn_non_str, isn_non_tuple, isn_non_list, isn_non_dict, isn_bl_bool, isn_bl_int, isn_bl_str, isn_bl_tuple, isn_bl_list, isn_bl_dict, isn_int_bool, isn_int_int, isn_int_str, isn_int_tuple, isn_int_list, isn_int_dict, isn_str_bool, isn_str_int, isn_str_str, isn_str_tuple, isn_str_list, isn_str_dict, isn_lst_bool, isn_lst_int, isn_lst_str, isn_lst_tuple, isn_lst_list, isn_lst_dict, isn_tup_bool, isn_tup_int, isn_tup_str, isn_tup_tuple, isn_tup_list, isn_tup_dict, isn_dct_bool, isn_dct_int, isn_dct_str, isn_dct_tuple, isn_dct_list, isn_dct_dict, okn_bool, okn_int, okn_str, okn_tuple, okn_list, okn_dict, cIsi, tyT_n, tyT_b, tyT_i, tyT_s, tyT_r, V.ty.injEq, tSl, tPart, tNoPart, rSlF, gName, tFld, sFld, tMeth, tMake, tGetT, tInT, tNinT, sPutT, sAugT, tPopT, rLtH, dtO_d, dtO_f, kysO_n, kysO_i, kysO_s, intsV_n, intsV_i, HO.ins.injEq, HO.dT.injEq, tDNewT, rIxLT, cLenLT, tSortP]
              exact s1
          rintro σ' H16 ⟨rfl, ss4⟩
          have e16 := ss4 _ _ e15
          simp only [tVar, tC, tOp, rI, rI0, rU, tTest, tB, tAnd, tOr, tNot, tAndV, tOrV, tNotV, tIf, tNil, tCons, tTup, tLst, tCB, tSeq, tAsg, gName, tRet, tRetN, tIfS, tNext, tDrop, tCall, tUn, tPar, CMul, CDiv, V.int.injEq, V.bl.injEq, V.ref.injEq, V.str.injEq, Option.some.injEq, List.cons.injEq, and_true, true_and, and_false, false_and, or_false, false_or, or_true, true_or, exists_eq_left', exists_eq_left, exists_and_left, exists_and_right, exists_eq', exists_eq, exists_false, exists_const, List.getElem?_cons_succ, List.getElem?_cons_zero, List.set_cons_succ, List.set_cons_zero, List.length_cons, List.length_nil, List.cons_append, List.nil_append, List.append_nil, reduceCtorEq, Int.reduceLT, Int.reduceLE, Int.reduceNeg, Int.reducePow, Int.reduceSub, Int.reduceAdd, Nat.reduceAdd, Nat.reduceLeDiff, Bool.not_true, Bool.not_false, decide_true, decide_false, Bool.false_eq_true, ↓reduceIte, upd_same, not_true_eq_false, not_false_eq_true, lsO_l, lsO_f, tpO_t, tpO_f, dkO_d, dkO_f, keyO_i, keyO_s, rIxH, rIxU, cLenL, cLenT, cListL, cListT, cTupL, cIntB, cAll, rEqNilI, rEq, rNe, scal_ii, scal_ss, scal_bb, scal_nn, scal_ni, scal_in, scal_ns, scal_sn, gSub, rSetL, ixs0, ixs1, ixs2, seq0, at0, at1, at2, at3, tBM, tBM0, rAppend, rPopAt, tyV_list, tGet2, tGetI, sPut, tMG, rTIdx, tyTup, tTupF, cx_K, cx_w, ex_map_int, ex_nil_int, ex_cons_int, List.map_cons, List.map_nil, List.isEmpty_nil, List.isEmpty_cons, List.eraseIdx_zero, List.tail_cons, List.eraseIdx_cons_zero, HO.lst.injEq, HO.tup.injEq, HO.dK.injEq, HO.frz.injEq, ne_eq, gTupH, gCons, gNil, wipe, tYes, upd_upd, and_assoc, List.getElem?_map, Option.map_some, isn_non_bool, isn_non_int, isn_non_str, isn_non_tuple, isn_non_list, isn_non_dict, isn_bl_bool, isn_bl_int, isn_bl_str, isn_bl_tuple, isn_bl_list, isn_bl_dict, isn_int_bool, isn_int_int, isn_int_str, isn_int_tuple, isn_int_list, isn_int_dict, isn_str_bool, isn_str_int, isn_str_str, isn_str_tuple, isn_str_list, isn_str_dict, isn_lst_bool, isn_lst_int, isn_lst_str, isn_lst_tuple, isn_lst_list, isn_lst_dict, isn_tup_bool, isn_tup_int, isn_tup_str, isn_tup_tuple, isn_tup_list, isn_tup_dict, isn_dct_bool, isn_dct_int, isn_dct_str, isn_dct_tuple, isn_dct_list, isn_dct_dict, okn_bool, okn_int, okn_str, okn_tuple, okn_list, okn_dict, cIsi, tyT_n, tyT_b, tyT_i, tyT_s, tyT_r, V.ty.injEq, tSl, tPart, tNoPart, rSlF, gName, tFld, sFld, tMeth, tMake, tGetT, tInT, tNinT, sPutT, sAugT, tPopT, rLtH, dtO_d, dtO_f, kysO_n, kysO_i, kysO_s, intsV_n, intsV_i, HO.ins.injEq, HO.dT.injEq, tDNewT, rIxLT, cLenLT, tSortP, e16]
          refine ⟨by rw [List.length_map]; exact szl' (by omega), ?_⟩
          exact Same.updFree (((ss.trans ss2).trans ss3).trans ss4) ((ss.trans ss2).free hr0)
        · rintro σ H13 ⟨z9, z10, z11, z12, z13, rfl, ss⟩
          exact ⟨⟨_, _, _, _, _, _, _, _, _, _, rfl⟩, qs', S12.same ss, hq'⟩
    · rintro σ H5 ⟨x4, x5, x6, x7, x8, x9, x10, x11, x12, x13, qs, rfl, S5, hq⟩
      simp only [tVar, tC, tOp, rI, rI0, rU, tTest, tB, tAnd, tOr, tNot, tAndV, tOrV, tNotV, tIf, tNil, tCons, tTup, tLst, tCB, tSeq, tAsg, gName, tRet, tRetN, tIfS, tNext, tDrop, tCall, tUn, tPar, CMul, CDiv, V.int.injEq, V.bl.injEq, V.ref.injEq, V.str.injEq, Option.some.injEq, List.cons.injEq, and_true, true_and, and_false, false_and, or_false, false_or, or_true, true_or, exists_eq_left', exists_eq_left, exists_and_left, exists_and_right, exists_eq', exists_eq, exists_false, exists_const, List.getElem?_cons_succ, List.getElem?_cons_zero, List.set_cons_succ, List.set_cons_zero, List.length_cons, List.length_nil, List.cons_append, List.nil_append, List.append_nil, reduceCtorEq, Int.reduceLT, Int.reduceLE, Int.reduceNeg, Int.reducePow, Int.reduceSub, Int.reduceAdd, Nat.reduceAdd, Nat.reduceLeDiff, Bool.not_true, Bool.not_false, decide_true, decide_false, Bool.false_eq_true, ↓reduceIte, upd_same, not_true_eq_false, not_false_eq_true, lsO_l, lsO_f, tpO_t, tpO_f, dkO_d, dkO_f, keyO_i, keyO_s, rIxH, rIxU, cLenL, cLenT, cListL, cListT, cTupL, cIntB, cAll, rEqNilI, rEq, rNe, scal_ii, scal_ss, scal_bb, scal_nn, scal_ni, scal_in, scal_ns, scal_sn, gSub, rSetL, ixs0, ixs1, ixs2, seq0, at0, at1, at2, at3, tBM, tBM0, rAppend, rPopAt, tyV_list, tGet2, tGetI, sPut, tMG, rTIdx, tyTup, tTupF, cx_K, cx_w, ex_map_int, ex_nil_int, ex_cons_int, List.map_cons, List.map_nil, List.isEmpty_nil, List.isEmpty_cons, List.eraseIdx_zero, List.tail_cons, List.eraseIdx_cons_zero, HO.lst.injEq, HO.tup.injEq, HO.dK.injEq, HO.frz.injEq, ne_eq, gTupH, gCons, gNil, wipe, tYes, upd_upd, and_assoc, List.getElem?_map, Option.map_some, isn_non_bool, isn_non_int, isn_non_str, isn_non_tuple, isn_non_list, isn_non_dict, isn_bl_bool, isn_bl_int, isn_bl_str, isn_bl_tuple, isn_bl_list, isn_bl_dict, isn_int_bool, isn_int_int, isn_int_str, isn_int_tuple, isn_int_list, isn_int_dict, isn_str_bool, isn_str_int, isn_str_str, isn_str_tuple, isn_str_list, isn_str_dict, isn_lst_bool, isn_lst_int, isn_lst_str, isn_lst_tuple, isn_lst_list, isn_lst_dict, isn_tup_bool, isn_tup_int, isn_tup_str, isn_tup_tuple, isn_tup_list, isn_tup_dict, isn_dct_bool, isn_dct_int, isn_dct_str, isn_dct_tuple, isn_dct_list, isn_dct_dict, okn_bool, okn_int, okn_str, okn_tuple, okn_list, okn_dict, cIsi, tyT_n, tyT_b, tyT_i, tyT_s, tyT_r, V.ty.injEq, tSl, tPart, tNoPart, rSlF, gName, tFld, sFld, tMeth, tMake, tGetT, tInT, tNinT, sPutT, sAugT, tPopT, rLtH, dtO_d, dtO_f, kysO_n, kysO_i, kysO_s, intsV_n, intsV_i, HO.ins.injEq, HO.dT.injEq, tDNewT, rIxLT, cLenLT, tSortP]
      exact k _
end

theorem ok_all {P : Program} {w : World} {K : PySem.W.Frag} {mg : Str → Option Value} {base : Heap} (T : Txt K mg) : FnOk P w K mg base CX0 6 T.f_law T.fd_law ["_law_script"] (spLaw K) := ok_law T
theorem all_mk {l : PySem.W.OpenLaw} {w : World} {K : PySem.W.Frag} {h : Heap} {mg : Str → Option Value} {fa f0 f1 f2 f3 f4 f5 f6 f7 f8 CIndex : Addr} (X : K.In h) (G : h.Ns mainGlobals mg) (hfa : mg "law" = some (.ref fa))
    {od0 an0 od1 an1 od2 an2 od3 an3 od4 an4 od5 an5 od6 an6 od7 an7 od8 an8 : Option Addr} {sl0 sl1 sl2 sl3 sl4 sl5 sl6 sl7 sl8 : Array (Option Value)} {oc0 kV0 dc0 pm0 cd0 ct0 oc1 kV1 dc1 pm1 cd1 ct1 oc2 kV2 dc2 pm2 cd2 ct2 oc3 kV3 dc3 pm3 cd3 ct3 oc4 kV4 dc4 pm4 cd4 ct4 oc5 kV5 dc5 pm5 cd5 ct5 oc6 kV6 dc6 pm6 cd6 ct6 oc7 kV7 dc7 pm7 cd7 ct7 oc8 kV8 dc8 pm8 cd8 ct8 : Value}
    (a0 : PySem.W.nsIn K mainGlobals "place_in" = some (some (.ref f0)))
    (l0 : K.lookup f0 = some ⟨oc0, od0, .func (PySem.W.fnOf "place_in" "place_in" (defArgs s_place_in) (defBody s_place_in) (defScope s_place_in) .none kV0 dc0 pm0 an0 cd0 ct0), sl0⟩) (c0 : PySem.W.codeIn K cd0 "place_in" = true) (k0 : PySem.W.keepIn K (.ref f0) = true)
    (a1 : PySem.W.findIn K (.ref CIndex) "__init__" = some (some (.ref f1))) (i1 : PySem.W.isFn K (.ref f1) = true)
    (l1 : K.lookup f1 = some ⟨oc1, od1, .func (PySem.W.fnOf "__init__" "Index.__init__" (defArgs s_Index_init) (defBody s_Index_init) (defScope s_Index_init) .none kV1 dc1 pm1 an1 cd1 ct1), sl1⟩) (c1 : PySem.W.codeIn K cd1 "Index.__init__" = true) (k1 : PySem.W.keepIn K (.ref f1) = true)
    (a2 : PySem.W.findIn K (.ref CIndex) "add" = some (some (.ref f2))) (i2 : PySem.W.isFn K (.ref f2) = true)
    (l2 : K.lookup f2 = some ⟨oc2, od2, .func (PySem.W.fnOf "add" "Index.add" (defArgs s_Index_add) (defBody s_Index_add) (defScope s_Index_add) .none kV2 dc2 pm2 an2 cd2 ct2), sl2⟩) (c2 : PySem.W.codeIn K cd2 "Index.add" = true) (k2 : PySem.W.keepIn K (.ref f2) = true)
    (a3 : PySem.W.findIn K (.ref CIndex) "lose" = some (some (.ref f3))) (i3 : PySem.W.isFn K (.ref f3) = true)
    (l3 : K.lookup f3 = some ⟨oc3, od3, .func (PySem.W.fnOf "lose" "Index.lose" (defArgs s_Index_lose) (defBody s_Index_lose) (defScope s_Index_lose) .none kV3 dc3 pm3 an3 cd3 ct3), sl3⟩) (c3 : PySem.W.codeIn K cd3 "Index.lose" = true) (k3 : PySem.W.keepIn K (.ref f3) = true)
    (a4 : PySem.W.findIn K (.ref CIndex) "between" = some (some (.ref f4))) (i4 : PySem.W.isFn K (.ref f4) = true)
    (l4 : K.lookup f4 = some ⟨oc4, od4, .func (PySem.W.fnOf "between" "Index.between" (defArgs s_Index_between) (defBody s_Index_between) (defScope s_Index_between) .none kV4 dc4 pm4 an4 cd4 ct4), sl4⟩) (c4 : PySem.W.codeIn K cd4 "Index.between" = true) (k4 : PySem.W.keepIn K (.ref f4) = true)
    (a5 : PySem.W.nsIn K mainGlobals "_law_begun" = some (some (.ref f5)))
    (l5 : K.lookup f5 = some ⟨oc5, od5, .func (PySem.W.fnOf "_law_begun" "_law_begun" (defArgs s_l_begun) (defBody s_l_begun) (defScope s_l_begun) .none kV5 dc5 pm5 an5 cd5 ct5), sl5⟩) (c5 : PySem.W.codeIn K cd5 "_law_begun" = true) (k5 : PySem.W.keepIn K (.ref f5) = true)
    (a6 : PySem.W.nsIn K mainGlobals "_law_take" = some (some (.ref f6)))
    (l6 : K.lookup f6 = some ⟨oc6, od6, .func (PySem.W.fnOf "_law_take" "_law_take" (defArgs s_l_take) (defBody s_l_take) (defScope s_l_take) .none kV6 dc6 pm6 an6 cd6 ct6), sl6⟩) (c6 : PySem.W.codeIn K cd6 "_law_take" = true) (k6 : PySem.W.keepIn K (.ref f6) = true)
    (a7 : PySem.W.nsIn K mainGlobals "_law_alike" = some (some (.ref f7)))
    (l7 : K.lookup f7 = some ⟨oc7, od7, .func (PySem.W.fnOf "_law_alike" "_law_alike" (defArgs s_l_alike) (defBody s_l_alike) (defScope s_l_alike) .none kV7 dc7 pm7 an7 cd7 ct7), sl7⟩) (c7 : PySem.W.codeIn K cd7 "_law_alike" = true) (k7 : PySem.W.keepIn K (.ref f7) = true)
    (a8 : PySem.W.nsIn K mainGlobals "law" = some (some (.ref f8)))
    (l8 : K.lookup f8 = some ⟨oc8, od8, .func (PySem.W.fnOf "law" "law" (defArgs s_law) (defBody s_law) (defScope s_law) .none kV8 dc8 pm8 an8 cd8 ct8), sl8⟩) (c8 : PySem.W.codeIn K cd8 "law" = true) (k8 : PySem.W.keepIn K (.ref f8) = true)
    (aCIndex : PySem.W.nsIn K mainGlobals "Index" = some (some (.ref CIndex))) (pgIndex : PySem.W.plainGet K CIndex Str.empty = true) (hdIndex : PySem.W.hasDictIn K CIndex = true) (poIndex : PySem.W.plainOver K CIndex = true) (saIndex : PySem.W.findIn K (.ref CIndex) "__setattr__" = some (some (.builtin "object.__setattr__"))) (mkIndex : PySem.W.makesIn K CIndex = true) (kcIndex : PySem.W.keepIn K (.ref CIndex) = true)
    (nIndex_pairs : PySem.W.findIn K (.ref CIndex) "pairs" = some none)
    (nIndex_many : PySem.W.findIn K (.ref CIndex) "many" = some none)
    (z_len : PySem.W.nsIn K mainGlobals "len" = some none)
    (z_list : PySem.W.nsIn K mainGlobals "list" = some none)
    (z_int : PySem.W.nsIn K mainGlobals "int" = some none)
    (z_isinstance : PySem.W.nsIn K mainGlobals "isinstance" = some none)
    (z_bool : PySem.W.nsIn K mainGlobals "bool" = some none)
    (z_str : PySem.W.nsIn K mainGlobals "str" = some none)
    (z_tuple : PySem.W.nsIn K mainGlobals "tuple" = some none)
    (z_range : PySem.W.nsIn K mainGlobals "range" = some none)
    (z_sorted : PySem.W.nsIn K mainGlobals "sorted" = some none)
    (z_set : PySem.W.nsIn K mainGlobals "set" = some none)
    : ∃ fd : FuncData, (∀ (s : Shared) (v : Value), BindsTo s fd ⟨[v], []⟩ [("_law_script", v)]) ∧ ∀ base : Heap, K.In base → base.Ns mainGlobals mg → FnOk l.prog w K mg base CX0 6 fa fd ["_law_script"] (spLaw K) := by
  have e := hfa.symm.trans (PySem.W.mg_of X G a8)
  cases e
  have F0 := fun_mk (st := s_place_in) l0 c0 k0
  have F1 := fun_mk (st := s_Index_init) l1 c1 k1
  have F2 := fun_mk (st := s_Index_add) l2 c2 k2
  have F3 := fun_mk (st := s_Index_lose) l3 c3 k3
  have F4 := fun_mk (st := s_Index_between) l4 c4 k4
  have F5 := fun_mk (st := s_l_begun) l5 c5 k5
  have F6 := fun_mk (st := s_l_take) l6 c6 k6
  have F7 := fun_mk (st := s_l_alike) l7 c7 k7
  have F8 := fun_mk (st := s_law) l8 c8 k8
  have T : ∃ T : Txt K mg, T.f_law = fa ∧ T.fd_law = PySem.W.fnOf "law" "law" (defArgs s_law) (defBody s_law) (defScope s_law) .none kV8 dc8 pm8 an8 cd8 ct8 := ⟨{ f_place_in := f0, fd_place_in := _, F_place_in := F0, b_place_in := (F0.binds (ps := ["pairs", "pair"]) fun _ _ _ _ _ _ us hl => match us, hl with | [_, _], _ => rfl), mg_place_in := PySem.W.mg_of X G a0, f_Index_init := f1, fd_Index_init := _, F_Index_init := F1, b_Index_init := (F1.binds (ps := ["self"]) fun _ _ _ _ _ _ us hl => match us, hl with | [_], _ => rfl), f_Index_add := f2, fd_Index_add := _, F_Index_add := F2, b_Index_add := (F2.binds (ps := ["self", "worth", "key"]) fun _ _ _ _ _ _ us hl => match us, hl with | [_, _, _], _ => rfl), f_Index_lose := f3, fd_Index_lose := _, F_Index_lose := F3, b_Index_lose := (F3.binds (ps := ["self", "worth", "key"]) fun _ _ _ _ _ _ us hl => match us, hl with | [_, _, _], _ => rfl), f_Index_between := f4, fd_Index_between := _, F_Index_between := F4, b_Index_between := (F4.binds (ps := ["self", "low", "high"]) fun _ _ _ _ _ _ us hl => match us, hl with | [_, _, _], _ => rfl), f_l_begun := f5, fd_l_begun := _, F_l_begun := F5, b_l_begun := (F5.binds (ps := ["_law_script"]) fun _ _ _ _ _ _ us hl => match us, hl with | [_], _ => rfl), mg_l_begun := PySem.W.mg_of X G a5, f_l_take := f6, fd_l_take := _, F_l_take := F6, b_l_take := (F6.binds (ps := ["_law_box", "_law_many"]) fun _ _ _ _ _ _ us hl => match us, hl with | [_, _], _ => rfl), mg_l_take := PySem.W.mg_of X G a6, f_l_alike := f7, fd_l_alike := _, F_l_alike := F7, b_l_alike := (F7.binds (ps := ["_law_found", "_law_due"]) fun _ _ _ _ _ _ us hl => match us, hl with | [_, _], _ => rfl), mg_l_alike := PySem.W.mg_of X G a7, f_law := fa, fd_law := _, F_law := F8, b_law := (F8.binds (ps := ["_law_script"]) fun _ _ _ _ _ _ us hl => match us, hl with | [_], _ => rfl), mg_law := PySem.W.mg_of X G a8, C_Index := CIndex, cl_Index := ⟨pgIndex, hdIndex, poIndex, saIndex⟩, mg_Index := PySem.W.mg_of X G aCIndex, mk_Index := ⟨mkIndex, a1, i1, kcIndex⟩, na_Index_pairs := nIndex_pairs, na_Index_many := nIndex_many, me_Index_add := ⟨a2, i2, k2⟩, me_Index_lose := ⟨a3, i3, k3⟩, me_Index_between := ⟨a4, i4, k4⟩, n_len := PySem.W.mg_none_of X G z_len, n_list := PySem.W.mg_none_of X G z_list, n_int := PySem.W.mg_none_of X G z_int, n_isinstance := PySem.W.mg_none_of X G z_isinstance, n_bool := PySem.W.mg_none_of X G z_bool, n_str := PySem.W.mg_none_of X G z_str, n_tuple := PySem.W.mg_none_of X G z_tuple, n_range := PySem.W.mg_none_of X G z_range, n_sorted := PySem.W.mg_none_of X G z_sorted, n_set := PySem.W.mg_none_of X G z_set }, rfl, rfl⟩
  obtain ⟨T, t1, t2⟩ := T
  refine ⟨PySem.W.fnOf "law" "law" (defArgs s_law) (defBody s_law) (defScope s_law) .none kV8 dc8 pm8 an8 cd8 ct8, fun s v => .of_eq rfl, fun base _ _ => ?_⟩
  rw [← t1, ← t2]
  exact ok_all T

theorem walk {l : PySem.W.OpenLaw} {q : Program} {loose : List Str} {XP : (Str → Option Value) → Heap → Prop} {YP : World → Heap → Prop} {d : DefRec} {K : Params → PySem.W.Frag} (hn : l.most = some 63) (hdf : d.params.defaults = [])
    (hY : ∀ (w : World) (h : Heap), YP w h → (K w.params).In h)
    (F : ∀ (w : World) (mg : Str → Option Value) (fa : Addr) (h : Heap), (K w.params).In h → h.Ns mainGlobals mg → mg d.name = some (.ref fa) →
      ∃ fd : FuncData, (∀ (s : Shared) (u : Value), BindsTo s fd ⟨[u], []⟩ [("_law_script", u)]) ∧ ∀ base : Heap, (K w.params).In base → base.Ns mainGlobals mg → FnOk l.prog w (K w.params) mg base CX0 6 fa fd ["_law_script"] (spLaw (K w.params))) :
    PySem.W.WalkO q loose XP YP l.row.toRowW d [] (fun f vs => PySem.call f vs) :=
  L2.walk_of (n := 63) (k := 6) (x := "_law_script") (CX := fun _ => CX0) (sp := fun w => spLaw (K w.params)) hn (by decide) hdf ⟨rfl, by decide, by decide⟩ hY F (fun _ _ a ns hl _ hS => ⟨a, ns, rfl, hS, hl, fun _ => rfl⟩) fun _ _ _ _ _ z => z
end K37
open PySem PySem.W PyProof.Rows
set_option maxRecDepth 100000 in
set_option maxHeartbeats 0 in
theorem PySem.Challenge.cw_granary_k37_an_index_alone_holds : PySem.Challenge.rw_granary_k37_an_index_alone.Holds := by
  w_on; o_law; k_head; (case hw => w_witness2)
  k_fill
  refine K37.walk (l := PySem.Challenge.rw_granary_k37_an_index_alone) rfl rfl (fun w h Y => PySem.W.kIn_of Y) ?F
  case F =>
    intro w mg fa h KX G hmg
    refine' K37.all_mk KX G hmg ?a0 ?l0 ?c0 ?k0 ?i1 ?a1 ?l1 ?c1 ?k1 ?i2 ?a2 ?l2 ?c2 ?k2 ?i3 ?a3 ?l3 ?c3 ?k3 ?i4 ?a4 ?l4 ?c4 ?k4 ?a5 ?l5 ?c5 ?k5 ?a6 ?l6 ?c6 ?k6 ?a7 ?l7 ?c7 ?k7 ?a8 ?l8 ?c8 ?k8 ?aCIndex ?pgIndex ?hdIndex ?poIndex ?saIndex ?mkIndex ?kcIndex ?nIndex_pairs ?nIndex_many ?z_len ?z_list ?z_int ?z_isinstance ?z_bool ?z_str ?z_tuple ?z_range ?z_sorted ?z_set
    (case aCIndex => k_is)
    (case a0 => k_is)
    (case l0 => k_is)
    (case c0 => k_is)
    (case k0 => k_is)
    (case i1 => k_is)
    (case a1 => k_is)
    (case l1 => k_is)
    (case c1 => k_is)
    (case k1 => k_is)
    (case i2 => k_is)
    (case a2 => k_is)
    (case l2 => k_is)
    (case c2 => k_is)
    (case k2 => k_is)
    (case i3 => k_is)
    (case a3 => k_is)
    (case l3 => k_is)
    (case c3 => k_is)
    (case k3 => k_is)
    (case i4 => k_is)
    (case a4 => k_is)
    (case l4 => k_is)
    (case c4 => k_is)
    (case k4 => k_is)
    (case a5 => k_is)
    (case l5 => k_is)
    (case c5 => k_is)
    (case k5 => k_is)
    (case a6 => k_is)
    (case l6 => k_is)
    (case c6 => k_is)
    (case k6 => k_is)
    (case a7 => k_is)
    (case l7 => k_is)
    (case c7 => k_is)
    (case k7 => k_is)
    (case a8 => k_is)
    (case l8 => k_is)
    (case c8 => k_is)
    (case k8 => k_is)
    (case pgIndex => k_is)
    (case hdIndex => k_is)
    (case poIndex => k_is)
    (case saIndex => k_is)
    (case mkIndex => k_is)
    (case kcIndex => k_is)
    (case nIndex_pairs => k_is)
    (case nIndex_many => k_is)
    (case z_len => k_is)
    (case z_list => k_is)
    (case z_int => k_is)
    (case z_isinstance => k_is)
    (case z_bool => k_is)
    (case z_str => k_is)
    (case z_tuple => k_is)
    (case z_range => k_is)
    (case z_sorted => k_is)
    (case z_set => k_is)

