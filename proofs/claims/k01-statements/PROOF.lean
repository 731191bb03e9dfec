import PyProof.Rows.All
import Wide.All
import OpenK.AllK
import Wide.FinOn
import HandS.Style
import HandS.ForMost
import HandS.Strs
import HandS.TupAny
import HandS.IsInst
import HandS.More
import HandS.Walk
import HandS.ReCall
import HandS.Evl
import HandS.Lambda
import HandS.Nested
import KE.KDflt
import HandS.WordsExc
import HandS.ExcOwn
import HandS.ExcIs
import HandS.SetFor
import HandS.Small
import PyProof.EqKinds
import PyProof.SeqRoads
import PyProof.ListOps
import HandS.DictTup
import PyProof.DictMoreH
import HandS.Text
import HandS.StrMore
import HandS.ExcInit
import HandS.MakeKwOnly
import HandS.ClsMeth
import HandS.ExcField
import HandS.TryMany
import HandS.Words
import KE.SortKeyHeap
import HandS.SortKw
import HandS.TupSets
import KE.SortData
import HandS.SetKeys
import HandS.DictSubView
import HandS.WordsDict
import KE.GoesMore
import PyProof.CollectIter
import KE.DataMinMax
import HandS.Comp
import HandS.Exc
import PyProof.StrOps2
import HandS.ReplaceLit
import HandS.RaiseMore
import HandS.ReplaceList
import HandS.Replace
import HandS.EndTab
import PySem.Challenge.RW_granary_k01_statements_written_and_read
set_option Elab.async false
set_option linter.all false
set_option maxRecDepth 100000
set_option maxHeartbeats 4000000
namespace G7
open PySem PySem.Spec PyProof.Rows L2

/-! ### heaps: all that was tracked stands, but at some addresses -/
def Keep (ms : List Addr) (H H' : Hp) : Prop := ∀ b o, b ∉ ms → H b = some o → H' b = some o
theorem Keep.refl {ms : List Addr} {H : Hp} : Keep ms H H := fun _ _ _ h => h
theorem Keep.trans {ms : List Addr} {H H1 H2 : Hp} (a : Keep ms H H1) (b : Keep ms H1 H2) : Keep ms H H2 := fun c o n h => b c o n (a c o n h)
theorem Keep.mono {ms ms' : List Addr} {H H1 : Hp} (a : Keep ms H H1) (s : ∀ b, b ∈ ms → b ∈ ms') : Keep ms' H H1 := fun c o n h => a c o (fun m => n (s c m)) h
theorem Keep.same {H H1 : Hp} (a : Keep [] H H1) : Same H H1 := fun c o h => a c o (by simp) h
theorem Keep.ofSame {ms : List Addr} {H H1 : Hp} (a : Same H H1) : Keep ms H H1 := fun c o _ h => a c o h
theorem Keep.new {ms : List Addr} {H : Hp} {p : Addr} {o : HO} (h : H p = none) : Keep ms H (upd H p o) := fun a u _ e => by
  rw [upd_ne (ne_of_none e h)]
  exact e
theorem Keep.thenNew {ms : List Addr} {H H1 : Hp} {p : Addr} {o : HO} (k : Keep ms H H1) (h : H1 p = none) : Keep ms H (upd H1 p o) := k.trans (Keep.new h)
theorem Keep.upd {ms : List Addr} {H H1 : Hp} {p : Addr} {o : HO} (k : Keep ms H H1) (h : p ∈ ms) : Keep ms H (L2.upd H1 p o) := fun a u n e => by
  rw [upd_ne (fun z => n (by rw [z]; exact h))]
  exact k a u n e
/-- an address that H does not know may change -/
theorem Keep.updFree {ms : List Addr} {H H1 : Hp} {p : Addr} {o : HO} (k : Keep ms H H1) (h : H p = none) : Keep ms H (L2.upd H1 p o) := fun a u n e => by
  rw [upd_ne (ne_of_none e h)]
  exact k a u n e
theorem Keep.free {H H1 : Hp} {p : Addr} (k : Keep [] H H1) (h : H1 p = none) : H p = none := k.same.free h
theorem same_new {H : Hp} {p : Addr} {o : HO} (h : H p = none) : Same H (upd H p o) := fun a u e => by
  rw [upd_ne (ne_of_none e h)]
  exact e
theorem Same.updFree {H H1 : Hp} {p : Addr} {o : HO} (k : Same H H1) (h : H p = none) : Same H (L2.upd H1 p o) := fun a u e => by
  rw [upd_ne (ne_of_none e h)]
  exact k a u e
theorem free_keep {ms : List Addr} {H H1 : Hp} {p : Addr} (k : Keep ms H H1) (n : p ∉ ms) (h : H1 p = none) : H p = none := by
  cases q : H p with
  | none => rfl
  | some o =>
    rw [k p o n q] at h
    cases h
theorem Keep.rd {ms : List Addr} {H H1 : Hp} {a : Addr} {u : HO} (k : Keep ms H H1) (n : a ∉ ms) (h : Rd H a u) : Rd H1 a u := by
  rcases h with h | ⟨o, h⟩
  · exact .inl (k _ _ n h)
  · exact .inr ⟨o, k _ _ n h⟩
theorem int_at {ns : List Int} {i : Nat} {y : V} (h : (ns.map V.int)[i]? = some y) : ∃ z, ns[i]? = some z ∧ y = V.int z := by
  rw [List.getElem?_map] at h
  cases e : ns[i]? with
  | none => rw [e] at h; cases h
  | some z => rw [e] at h; exact ⟨z, rfl, (Option.some.inj h).symm⟩
theorem str_at {ns : List Str} {i : Nat} {y : V} (h : (ns.map V.str)[i]? = some y) : ∃ z, ns[i]? = some z ∧ y = V.str z := by
  rw [List.getElem?_map] at h
  cases e : ns[i]? with
  | none => rw [e] at h; cases h
  | some z => rw [e] at h; exact ⟨z, rfl, (Option.some.inj h).symm⟩
theorem szl {n : Nat} (h : n ≤ 100000) : n ≤ sizeLine := Nat.le_trans h (by decide)
theorem szl' {n : Nat} (h : n < 100000) : n < sizeLine := Nat.lt_of_lt_of_le h (by decide)
theorem hu64_of {A : Around} {k : Nat} (hr : Room k A) : A.units + 64 < cLine := by have := hr.un; omega
theorem map_int_inj {a b : List Int} (h : a.map V.int = b.map V.int) : a = b := by
  induction a generalizing b with
  | nil => cases b with
    | nil => rfl
    | cons _ _ => cases h
  | cons x r ih => cases b with
    | nil => cases h
    | cons y s =>
      injection h with h1 h2
      injection h1 with h1
      rw [h1, ih h2]

/-! ### data -/
theorem dpAll_ints (K : PySem.W.Frag) (H : Hp) : ∀ ns : List Int, DpAll K H (ns.map V.int) (ns.map PyData.int)
  | [] => .nil
  | n :: r => .cons (.int n) (dpAll_ints K H r)

/-! ### the draw box of the laws: [cells, stirred] -/
def BoxA (H : Hp) (h l : Addr) : Prop := ∃ (ns : List Int) (st : Int), H h = some (.lst [.ref l, .int st]) ∧ H l = some (.lst (ns.map V.int)) ∧ ns.length ≤ 100000
theorem BoxA.ne {H : Hp} {h l : Addr} (b : BoxA H h l) : h ≠ l := by
  obtain ⟨ns, st, e1, e2, _⟩ := b
  rintro rfl
  rw [e1] at e2
  injection e2 with e2
  injection e2 with e2
  cases ns with
  | nil => cases e2
  | cons n r => injection e2 with e3 _; cases e3
theorem BoxA.muts {H : Hp} {h l : Addr} (b : BoxA H h l) : ∀ m, m ∈ [h, l] → ∃ o, H m = some o ∧ Mut (some o) := by
  obtain ⟨ns, st, e1, e2, _⟩ := b
  intro m hm
  simp only [List.mem_cons, List.mem_nil_iff, or_false] at hm
  rcases hm with rfl | rfl
  · exact ⟨_, e1, trivial⟩
  · exact ⟨_, e2, trivial⟩
theorem BoxA.keep {ms : List Addr} {H H' : Hp} {h l : Addr} (b : BoxA H h l) (k : Keep ms H H') (n1 : h ∉ ms) (n2 : l ∉ ms) : BoxA H' h l := by
  obtain ⟨ns, st, e1, e2, e3⟩ := b
  exact ⟨ns, st, k _ _ n1 e1, k _ _ n2 e2, e3⟩
theorem BoxA.same {H H' : Hp} {h l : Addr} (b : BoxA H h l) (k : Same H H') : BoxA H' h l := b.keep (ms := []) (Keep.ofSame k) (by simp) (by simp)
end G7

set_option linter.all false
set_option Elab.async false
set_option maxRecDepth 100000
set_option maxHeartbeats 4000000
namespace G7
open PySem PySem.Spec PyProof.Rows L2
/-! ### rules of our own, by what stands in the abstract heap -/
/-- what may be read as a list, a tuple, a dict -/
def lsO : Option HO → Option (List V)
  | some (.lst xs) => some xs
  | some (.frz _ (.lst xs)) => some xs
  | _ => none
def tpO : Option HO → Option (List V)
  | some (.tup xs) => some xs
  | some (.frz _ (.tup xs)) => some xs
  | _ => none
def dkO : Option HO → Option (List (Key × V))
  | some (.dK xs) => some xs
  | some (.frz _ (.dK xs)) => some xs
  | _ => none
theorem rd_lsO {H : Hp} {a : Addr} {xs : List V} (h : lsO (H a) = some xs) : Rd H a (.lst xs) := by
  unfold lsO at h
  split at h
  · rename_i e; cases h; exact .inl e
  · rename_i o _ e; cases h; exact .inr ⟨o, e⟩
  · cases h
theorem rd_tpO {H : Hp} {a : Addr} {xs : List V} (h : tpO (H a) = some xs) : Rd H a (.tup xs) := by
  unfold tpO at h
  split at h
  · rename_i e; cases h; exact .inl e
  · rename_i o _ e; cases h; exact .inr ⟨o, e⟩
  · cases h
theorem rd_dkO {H : Hp} {a : Addr} {xs : List (Key × V)} (h : dkO (H a) = some xs) : Rd H a (.dK xs) := by
  unfold dkO at h
  split at h
  · rename_i e; cases h; exact .inl e
  · rename_i o _ e; cases h; exact .inr ⟨o, e⟩
  · cases h
theorem lsO_l {xs : List V} : lsO (some (.lst xs)) = some xs := rfl
theorem lsO_f {o : Obj} {xs : List V} : lsO (some (.frz o (.lst xs))) = some xs := rfl
theorem tpO_t {xs : List V} : tpO (some (.tup xs)) = some xs := rfl
theorem tpO_f {o : Obj} {xs : List V} : tpO (some (.frz o (.tup xs))) = some xs := rfl
theorem dkO_d {xs : List (Key × V)} : dkO (some (.dK xs)) = some xs := rfl
theorem dkO_f {o : Obj} {xs : List (Key × V)} : dkO (some (.frz o (.dK xs))) = some xs := rfl
theorem lay_ints : ∀ ns : List Int, PyData.canLayAll0 (ns.map PyData.int) = true
  | [] => by simp [PyData.canLayAll0]
  | n :: r => by simp [PyData.canLayAll0, PyData.canLay0, lay_ints r]
theorem depth_ints : ∀ ns : List Int, PyData.depthAll (ns.map PyData.int) ≤ 1
  | [] => by simp [PyData.depthAll]
  | n :: r => by
    have h := depth_ints r
    simp only [List.map_cons, PyData.depthAll, PyData.depth]
    omega
theorem shaped_ints (ns : List Int) : SeqAt.shaped (.list (ns.map PyData.int)) = true := by
  have h1 := depth_ints ns
  have h2 : PyData.depth (.list (ns.map PyData.int)) ≤ 64 := by
    simp only [PyData.depth]
    omega
  unfold SeqAt.shaped
  rw [Bool.and_eq_true]
  exact ⟨by simp only [PyData.canLay0]; exact lay_ints ns, decide_eq_true h2⟩
section
variable {X : Cx}
theorem ixImp {r r' : R2} (h : IxR X r) (i : ∀ x y H Q, r' x y H Q → r x y H Q) : IxR X r' := fun a b p s σ H x y v u Q I rx ry q e => h a b p s σ H x y v u Q I rx ry (i _ _ _ _ q) e
theorem opImp {f : Value → Value → Sem Value} {r r' : R2} (h : OpR X f r) (i : ∀ x y H Q, r' x y H Q → r x y H Q) : OpR X f r' := fun p s σ H x y v u Q I rx ry q => h p s σ H x y v u Q I rx ry (i _ _ _ _ q)
theorem callImp {f : Value} {r r' : List V → Hp → VK → Prop} (h : CallR X f r) (i : ∀ x H Q, r' x H Q → r x H Q) : CallR X f r' := fun p s σ H x u Q I rx q => h p s σ H x u Q I rx (i _ _ _ q)
def rIxH : R2 := fun x y H Q => ∃ p xs i v, x = .ref p ∧ y = .int i ∧ lsO (H p) = some xs ∧ atI xs i = some v ∧ Q v H
def rIxU : R2 := fun x y H Q => ∃ p xs i v, x = .ref p ∧ y = .int i ∧ tpO (H p) = some xs ∧ atI xs i = some v ∧ Q v H
theorem ix_lst : IxR X rIxH := ixImp ix_list fun x y H Q ⟨p, xs, i, v, e1, e2, h, a, q⟩ => ⟨p, xs, i, v, e1, e2, .inl (rd_lsO h), a, q⟩
theorem ix_tp : IxR X rIxU := ixImp ix_tup fun x y H Q ⟨p, xs, i, v, e1, e2, h, a, q⟩ => ⟨p, xs, i, v, e1, e2, .inl (rd_tpO h), a, q⟩
def cLenL : List V → Hp → VK → Prop := fun vs H Q => ∃ p xs, vs = [.ref p] ∧ lsO (H p) = some xs ∧ Q (.int (xs.length : Int)) H
def cLenT : List V → Hp → VK → Prop := fun vs H Q => ∃ p xs, vs = [.ref p] ∧ tpO (H p) = some xs ∧ Q (.int (xs.length : Int)) H
theorem len_lst : CallR X (.builtin "len") cLenL := callImp call_len_seq fun vs H Q ⟨p, xs, e, h, q⟩ => ⟨p, xs, e, .inl (.inl (rd_lsO h)), q⟩
theorem len_tp : CallR X (.builtin "len") cLenT := callImp call_len_seq fun vs H Q ⟨p, xs, e, h, q⟩ => ⟨p, xs, e, .inr (.inl (rd_tpO h)), q⟩
def cListL : List V → Hp → VK → Prop := fun vs H Q => ∃ p xs, vs = [.ref p] ∧ lsO (H p) = some xs ∧ ∀ l, H l = none → Q (.ref l) (upd H l (.lst xs))
def cListT : List V → Hp → VK → Prop := fun vs H Q => ∃ p xs, vs = [.ref p] ∧ tpO (H p) = some xs ∧ ∀ l, H l = none → Q (.ref l) (upd H l (.lst xs))
theorem list_tp : CallR X (.type "list") cListT := callImp call_list_of fun vs H Q ⟨p, xs, e, h, q⟩ => ⟨p, xs, e, .inr (.inl (rd_tpO h)), q⟩
def cTupL : List V → Hp → VK → Prop := fun vs H Q => ∃ p xs, vs = [.ref p] ∧ lsO (H p) = some xs ∧ ∀ l, H l = none → Q (.ref l) (upd H l (.tup xs))
theorem tuple_lst : CallR X (.type "tuple") cTupL := callImp call_tuple_of fun vs H Q ⟨p, xs, e, h, q⟩ => ⟨p, xs, e, .inl ⟨.inl (rd_lsO h), q⟩⟩
/-- int of a bool, of an int -/
def cIntB : List V → Hp → VK → Prop := fun vs H Q => ∃ b, vs = [.bl b] ∧ Q (.int (if b then 1 else 0)) H
theorem int_bl : CallR X (.type "int") cIntB := callImp call_int1 fun vs H Q ⟨b, e, q⟩ => .inr ⟨b, e, q⟩
/-- all(..) of a list of bools -/
def cAll : List V → Hp → VK → Prop := fun vs H Q => ∃ (p : Addr) (bs : List Bool), vs = [.ref p] ∧ lsO (H p) = some (bs.map V.bl) ∧ Q (.bl (bs.all id)) H
/-- a list of ints against [] -/
def rEqNilI : R2 := fun x y H Q => ∃ (p q : Addr) (ns : List Int), x = .ref p ∧ y = .ref q ∧ lsO (H p) = some (ns.map V.int) ∧ lsO (H q) = some [] ∧ Q (.bl ns.isEmpty) H
theorem op_eqNilI (hu : X.A.units + 64 < cLine) : OpR X (compareOp .Eq) rEqNilI := opImp (op_eqD hu) fun x y H Q ⟨p, q, ns, e1, e2, h1, h2, k⟩ => by
  refine ⟨.list (ns.map PyData.int), .list [], e1 ▸ .lst (.inl (rd_lsO h1)) (dpAll_ints X.K H ns), e2 ▸ .lst (.inl (rd_lsO h2)) .nil, ?_, rfl, ?_⟩
  · exact shaped_ints ns
  · cases ns with
    | nil => exact k
    | cons n r => exact k
/-! a reading that lets what follows be weaker -/
def tM (t : TE) : TE := fun σ H Q => ∃ Q0 : VK, t σ H Q0 ∧ ∀ x H1, Q0 x H1 → Q x H1
theorem pe_m {e : Expr} {t : TE} (h : PE X e t) : PE X e (tM t) := ⟨fun pins s σ H Q I ⟨Q0, h0, q⟩ => thn (h.run pins s σ H Q0 I h0) fun u s' ⟨v, H', I', r, k⟩ => ⟨v, H', I', r, q v H' k⟩⟩
theorem tM_of {t : TE} {σ : L2.St} {H : Hp} {Q Q' : VK} (h : t σ H Q) (i : ∀ x H1, Q x H1 → Q' x H1) : tM t σ H Q' := ⟨Q, h, i⟩
theorem PE.imp' {e : Expr} {t t' : TE} (h : PE X e t) (i : ∀ σ H Q, t' σ H Q → t σ H Q) : PE X e t' := ⟨fun pins s σ H Q I q => h.run pins s σ H Q I (i σ H Q q)⟩
theorem PS.imp' {e : Stmt} {t t' : TS} (h : PS X e t) (i : ∀ D σ H, t' D σ H → t D σ H) : PS X e t' := ⟨fun pins s σ H D I q => h.run pins s σ H D I (i D σ H q)⟩
def keyO : V → Option Key
  | .int i => some (.inl i)
  | .str s => some (.inr s)
  | _ => none
theorem keyO_eq {y : V} {k : Key} (h : keyO y = some k) : y = kV k := by
  cases y <;> cases h <;> rfl
theorem keyO_i {i : Int} : keyO (.int i) = some (.inl i) := rfl
theorem keyO_s {s : Str} : keyO (.str s) = some (.inr s) := rfl
theorem dget_of {H : Hp} {a : Addr} {y : V} {kvs : List (Key × V)} {k : Key} (h : dkO (H a) = some kvs) (e : keyO y = some k) : DGet H a y (valV kvs k) := .inl ⟨kvs, k, rd_dkO h, keyO_eq e, rfl⟩
/-- d.get(k, x) -/
def tGet2 (td ty tx : TE) : TE := fun σ H Q => td σ H fun x H1 => ∃ a kvs, x = .ref a ∧ dkO (H1 a) = some kvs ∧ ty σ H1 fun y H2 => tx σ H2 fun z H3 => ∃ kvs k, dkO (H3 a) = some kvs ∧ keyO y = some k ∧ Q ((valV kvs k).getD z) H3
theorem pe_get2 {o e f : Expr} {td ty tx : TE} {apos cpos : Pos} (hu : X.A.units + 1 < cLine) (ho : PE X o td) (he : PE X e ty) (hf : PE X f tx)
    (h1 : attributeBase o "get" X.env (eval o X.env) = eval o X.env := by rfl)
    (h2 : ((backTo cpos (starEach [e, f] X.env)).all (fun x => !x.1) && (backToKw cpos (keywordEach [] X.env)).all (fun x => x.1.isSome) && decide (([e, f] : List Expr).length + ([] : List Keyword).length + (if ([] : List Keyword).isEmpty then 0 else 1) < 30)) = true := by rfl)
    (h3 : (apos.endLine == cpos.line) = true := by rfl) (h4 : backTo cpos (starEach [e, f] X.env) = [(false, eval e X.env), (false, eval f X.env)] := by rfl) :
    PE X (.Call (.Attribute o "get" apos) [e, f] [] cpos) (tGet2 td ty tx) :=
  PE.imp' (pe_dget2 hu (pe_m ho) (pe_m he) (pe_m hf) ⟨h1, h2, h3, h4⟩) fun σ H Q h => by
    refine tM_of h fun x H1 h => ?_
    obtain ⟨a, kvs, e1, e2, q⟩ := h
    refine ⟨a, e1, .inl ⟨kvs, rd_dkO e2⟩, tM_of q fun y H2 q => tM_of q fun z H3 q => ?_⟩
    obtain ⟨kvs, k, e3, e4, q⟩ := q
    exact ⟨_, dget_of e3 e4, q⟩
/-- d[k] -/
def tGetI (td ty : TE) : TE := fun σ H Q => td σ H fun x H1 => ty σ H1 fun y H2 => ∃ a kvs k v, x = .ref a ∧ dkO (H2 a) = some kvs ∧ keyO y = some k ∧ valV kvs k = some v ∧ Q v H2
theorem pe_getI {o i : Expr} {td ty : TE} {pos : Pos} (hu : X.A.units + 1 < cLine) (ho : PE X o td) (hi : PE X i ty) (hs : NoSl i) : PE X (.Subscript o i pos) (tGetI td ty) :=
  PE.imp' (pe_dget hu (pe_m ho) (pe_m hi) hs) fun σ H Q h => by
    refine tM_of h fun x H1 q => tM_of q fun y H2 q => ?_
    obtain ⟨a, kvs, k, v, e1, e2, e3, e4, q⟩ := q
    exact ⟨a, v, e1, by rw [← e4]; exact dget_of e2 e3, q⟩
/-- d[k] = v -/
def sPut (td ty tv : TE) : TS := fun D σ H => tv σ H fun v H1 => td σ H1 fun x H2 => ty σ H2 fun y H3 => ∃ a kvs k, x = .ref a ∧ H3 a = some (.dK kvs) ∧ keyO y = some k ∧ kvs.length < sizeLine ∧ D.nx σ (upd H3 a (.dK (putK kvs k v)))
theorem ps_put {o i value : Expr} {td ty tv : TE} {pos pos' : Pos} (hu : X.A.units + 1 < cLine) (ho : PE X o td) (hi : PE X i ty) (hv : PE X value tv) (hs : swapsWith value (some (.Subscript o i pos')) pos.line X.env = pure false) :
    PS X (.Assign [.Subscript o i pos'] value pos) (sPut td ty tv) :=
  PS.imp' (ps_dput hu (pe_m ho) (pe_m hi) (pe_m hv) hs) fun D σ H h => by
    refine tM_of h fun v H1 q => tM_of q fun x H2 q => tM_of q fun y H3 q => ?_
    obtain ⟨a, kvs, k, e1, e2, e3, e4, q⟩ := q
    exact ⟨a, _, e1, .inl ⟨kvs, k, e2, keyO_eq e3, e4, rfl⟩, q⟩
/-! tuples whose object is known: their methods may be called -/
def tTupF (t : TA) : TE := fun σ H Q => t σ H fun xs H1 => xs.length ≤ sizeLine ∧ ∀ p o, H1 p = none → o.cls = .type "tuple" → o.dict = none → Q (.ref p) (upd H1 p (.frz o (.tup xs)))
/-- a slice of a tuple; the whole of it is the tuple itself -/
def rSlF : V → Option Int → Option Int → Hp → VK → Prop := fun x lo hi H Q => ∃ a xs, x = .ref a ∧ tpO (H a) = some xs ∧
  (HT.sIx xs.length 0 lo = 0 ∧ HT.sIx xs.length xs.length hi = xs.length → Q (.ref a) H) ∧
  (¬ (HT.sIx xs.length 0 lo = 0 ∧ HT.sIx xs.length xs.length hi = xs.length) → ∀ p o, H p = none → o.cls = .type "tuple" → o.dict = none → Q (.ref p) (upd H p (.frz o (.tup (cutV xs lo hi)))))
theorem sl_tupF : SlR X rSlF := by
  intro pins s σ H x v vl vu lo hi sl Q I rx hs pl pu h
  obtain ⟨a, xs, rfl, hx, q1, q2⟩ := h
  by_cases hw : HT.sIx xs.length 0 lo = 0 ∧ HT.sIx xs.length xs.length hi = xs.length
  · exact sl_tupA pins s σ H _ v vl vu lo hi sl Q I rx hs pl pu ⟨a, xs, rfl, .inl (rd_tpO hx), q1, fun n => absurd hw n⟩
  · cases rx
    obtain ⟨its, r, ht, hz⟩ := I.tuple (show SqT X.K H a xs from .inl (rd_tpO hx))
    have hlen : its.toArray.size = xs.length := by rw [List.size_toArray]; exact r.length.symm
    refine ⟨"tuple", _, PyProof.Rows.slot_tuple_getitem.lookup, ht.typeIs, ?_⟩
    refine HT.getItem_tuple_cut ht hs pl pu (by rw [hlen]; exact hw) ?_ (by rw [hlen]; exact hz)
    rw [hlen]
    refine ⟨.ref s.heap.objs.size, _, I.laid (t' := s.toks) (o := .frz { cls := .type "tuple", data := .seq ((its.toArray.toList.drop (HT.sIx xs.length 0 lo)).take (HT.sIx xs.length xs.length hi - HT.sIx xs.length 0 lo)).toArray } (.tup (cutV xs lo hi))) (fun b ob q => Heap.get?_push_of_some _ q) (Nat.le_refl _) ?_, rfl, q2 hw _ _ (I.hok.fresh (Nat.le_refl _)) rfl rfl⟩
    · exact ⟨Heap.get?_push_size _ rfl, Nat.le_trans (cutV_length xs lo hi) hz, _, (r.drop (HT.sIx xs.length 0 lo)).take (HT.sIx xs.length xs.length hi - HT.sIx xs.length 0 lo), IsTup.new _ _⟩
/-- fields.index(word): fields a tuple of texts, its object known -/
def tyTup : V → Hp → Prop := fun x H => ∃ p o ys, x = .ref p ∧ H p = some (.frz o (.tup ys)) ∧ o.cls = .type "tuple" ∧ o.dict = none
def rTIdx : V → List V → Hp → VK → Prop := fun x xs H Q => ∃ (p : Addr) (fs : List Str) (z : Str) (j : Nat), x = .ref p ∧ xs = [.str z] ∧ tpO (H p) = some (fs.map V.str) ∧ fs[j]? = some z ∧ (∀ m, m < j → fs[m]? ≠ some z) ∧ Q (.int (j : Nat)) H
/-- a, b = t -/
def gTupH (n : Nat) (t : TGs) : TG := fun v σ H Q => ∃ a xs, v = .ref a ∧ tpO (H a) = some xs ∧ xs.length = n ∧ t xs σ H Q
theorem pg_tupH {es : List Expr} {k : Nat} {t : TGs} {n : Nat} {pos : Pos} (hc : X.calm = true) (h : PGs X es t)
    (hn : (assignEach es X.env).length = n := by rfl) (hst : (assignEach es X.env).findIdx? (·.1) = none := by rfl) : PG X (.Tuple es k pos) (gTupH n t) :=
  ⟨fun pins s σ H v u Q I r ⟨a, xs, e1, e2, e3, e4⟩ => (pg_tup hc h hn hst).run pins s σ H v u Q I r ⟨a, xs, e1, .inl (rd_tpO e2), e3, e4⟩⟩
/-! the same with the written part by name (under a comprehension's block) -/
theorem pi_tupK (K : PySem.W.Frag) (hK : X.K = K) {tg l : Expr} {tl : TE} (h : PE X l tl) : PI X tg l (iTup K tl) := hK ▸ pi_tup h
theorem pi_listK (K : PySem.W.Frag) (hK : X.K = K) {tg l : Expr} {tl : TE} (h : PE X l tl) : PI X tg l (iList K tl) := hK ▸ pi_list h
theorem op_eqDK (K : PySem.W.Frag) (hK : X.K = K) (hu : X.A.units + 64 < cLine) : OpR X (compareOp .Eq) (rEqD K) := hK ▸ op_eqD hu
theorem op_neDK (K : PySem.W.Frag) (hK : X.K = K) (hu : X.A.units + 64 < cLine) : OpR X (compareOp .NotEq) (rNeD K) := hK ▸ op_neD hu
theorem cx_K {CX : CXT} {P : Program} {w : World} {K : PySem.W.Frag} {mg : Str → Option Value} {base : Heap} {N : List Str} {q : Str} {sc : Scope} {f : Addr} {cd : Value} {A : Around} {outer : List Env} {s : Shared} {H : Hp} {E : XK} :
    (cxOf CX P w K mg base N q sc f cd A outer s H E).K = K := rfl
theorem cx_w {CX : CXT} {P : Program} {w : World} {K : PySem.W.Frag} {mg : Str → Option Value} {base : Heap} {N : List Str} {q : Str} {sc : Scope} {f : Addr} {cd : Value} {A : Around} {outer : List Env} {s : Shared} {H : Hp} {E : XK} :
    (cxOf CX P w K mg base N q sc f cd A outer s H E).w = w := rfl
theorem at0 {α : Type} {a : α} {r : List α} : atI (a :: r) 0 = some a := by
  unfold atI ixN
  rw [if_pos (by decide), if_pos (by rw [List.length_cons]; omega)]
  rfl
theorem at1 {α : Type} {a b : α} {r : List α} : atI (a :: b :: r) 1 = some b := by
  unfold atI ixN
  rw [if_pos (by decide), if_pos (by rw [List.length_cons, List.length_cons]; omega)]
  rfl
theorem at2 {α : Type} {a b c : α} {r : List α} : atI (a :: b :: c :: r) 2 = some c := by
  unfold atI ixN
  rw [if_pos (by decide), if_pos (by rw [List.length_cons, List.length_cons, List.length_cons]; omega)]
  rfl
theorem at3 {α : Type} {a b c d : α} {r : List α} : atI (a :: b :: c :: d :: r) 3 = some d := by
  unfold atI ixN
  rw [if_pos (by decide), if_pos (by rw [List.length_cons, List.length_cons, List.length_cons, List.length_cons]; omega)]
  rfl
theorem atN {α : Type} {xs : List α} {i : Int} (h0 : 0 ≤ i) : atI xs i = xs[i.toNat]? := by
  unfold atI ixN
  rw [if_pos h0]
  by_cases h : i < xs.length
  · rw [if_pos h]
    rfl
  · rw [if_neg h, List.getElem?_eq_none (by omega)]
    rfl
theorem ixs0 {n : Nat} : ixN (n + 1) 0 = some 0 := by
  unfold ixN
  rw [if_pos (by decide), if_pos (by omega)]
  rfl
theorem ixs1 {n : Nat} : ixN (n + 2) 1 = some 1 := by
  unfold ixN
  rw [if_pos (by decide), if_pos (by omega)]
  rfl
theorem ixs2 {n : Nat} : ixN (n + 3) 2 = some 2 := by
  unfold ixN
  rw [if_pos (by decide), if_pos (by omega)]
  rfl
theorem seq0 {n : Nat} : seqIndex? 0 (n + 1) = some 0 := by
  simp [seqIndex?]
theorem scal_ii {a b : Int} : scal (.int a) (.int b) = true := rfl
theorem scal_ss {a b : Str} : scal (.str a) (.str b) = true := rfl
theorem scal_bb {a b : Bool} : scal (.bl a) (.bl b) = true := rfl
theorem scal_nn : scal .non .non = true := rfl
theorem scal_ni {a : Int} : scal .non (.int a) = true := rfl
theorem scal_in {a : Int} : scal (.int a) .non = true := rfl
theorem scal_ns {a : Str} : scal .non (.str a) = true := rfl
theorem scal_sn {a : Str} : scal (.str a) .non = true := rfl
theorem tyV_list {K : PySem.W.Frag} {l : Addr} {H : Hp} (h : lsO (H l) ≠ none) : tyV K "list" (.ref l) H = True := by
  refine eq_true (.inl ⟨rfl, ?_⟩)
  cases e : lsO (H l) with
  | none => exact absurd e h
  | some xs => exact ⟨xs, .inl (rd_lsO e)⟩
theorem ex_map_int {ns : List Int} {P : List Int → Prop} : (∃ ms : List Int, ns.map V.int = ms.map V.int ∧ P ms) ↔ P ns :=
  ⟨fun ⟨ms, e, p⟩ => by rw [map_int_inj e]; exact p, fun p => ⟨ns, rfl, p⟩⟩
theorem ex_nil_int {P : List Int → Prop} : (∃ ms : List Int, [] = ms.map V.int ∧ P ms) ↔ P [] :=
  ⟨fun ⟨ms, e, p⟩ => (by
    cases ms with
    | nil => exact p
    | cons _ _ => cases e), fun p => ⟨[], rfl, p⟩⟩
theorem ex_cons_int {n : Int} {ns : List Int} {P : List Int → Prop} : (∃ ms : List Int, V.int n :: ns.map V.int = ms.map V.int ∧ P ms) ↔ P (n :: ns) := ex_map_int (ns := n :: ns)
end
/-! ### isinstance of a built-in class, by what stands in the heap -/
inductive TN where
  | non | bl | int | str | lst | tup | dct
def TN.nm : TN → String
  | .non => "NoneType"
  | .bl => "bool"
  | .int => "int"
  | .str => "str"
  | .lst => "list"
  | .tup => "tuple"
  | .dct => "dict"
def tyT : V → Hp → Option TN
  | .non, _ => some .non
  | .bl _, _ => some .bl
  | .int _, _ => some .int
  | .str _, _ => some .str
  | .ref p, H => match H p with
    | some (.lst _) => some .lst
    | some (.tup _) => some .tup
    | some (.dK _) => some .dct
    | some (.dT _) => some .dct
    | some (.frz _ (.tup _)) => some .tup
    | _ => none
  | _, _ => none
theorem tyT_ok {K : PySem.W.Frag} {x : V} {H : Hp} {a : TN} (h : tyT x H = some a) : TyX K H x (.type a.nm) := by
  cases x with
  | non => cases h; exact .base .non
  | bl b => cases h; exact .base (.bl b)
  | int b => cases h; exact .base (.int b)
  | str b => cases h; exact .base (.str b)
  | ref p =>
    unfold tyT at h
    dsimp only at h
    split at h
    · rename_i e; cases h; exact .base (.lst e)
    · rename_i e; cases h; exact .base (.tup e)
    · rename_i e; cases h; exact .base (.dK e)
    · rename_i e; cases h; exact .base (.dT e)
    · rename_i e; cases h; exact .fTuple e
    · cases h
  | _ => cases h
theorem tyT_n {H : Hp} : tyT .non H = some .non := rfl
theorem tyT_b {b : Bool} {H : Hp} : tyT (.bl b) H = some .bl := rfl
theorem tyT_i {b : Int} {H : Hp} : tyT (.int b) H = some .int := rfl
theorem tyT_s {b : Str} {H : Hp} : tyT (.str b) H = some .str := rfl
theorem tyT_r {p : Addr} {H : Hp} : tyT (.ref p) H = match H p with
    | some (.lst _) => some .lst
    | some (.tup _) => some .tup
    | some (.dK _) => some .dct
    | some (.dT _) => some .dct
    | some (.frz _ (.tup _)) => some .tup
    | _ => none := rfl
def isN (a : TN) (n : String) : Bool := (kitB a.nm n).getD false
theorem isn_non_bool : isN .non "bool" = false := by decide +kernel
theorem isn_non_int : isN .non "int" = false := by decide +kernel
theorem isn_non_str : isN .non "str" = false := by decide +kernel
theorem isn_non_tuple : isN .non "tuple" = false := by decide +kernel
theorem isn_non_list : isN .non "list" = false := by decide +kernel
theorem isn_non_dict : isN .non "dict" = false := by decide +kernel
theorem isn_bl_bool : isN .bl "bool" = true := by decide +kernel
theorem isn_bl_int : isN .bl "int" = true := by decide +kernel
theorem isn_bl_str : isN .bl "str" = false := by decide +kernel
theorem isn_bl_tuple : isN .bl "tuple" = false := by decide +kernel
theorem isn_bl_list : isN .bl "list" = false := by decide +kernel
theorem isn_bl_dict : isN .bl "dict" = false := by decide +kernel
theorem isn_int_bool : isN .int "bool" = false := by decide +kernel
theorem isn_int_int : isN .int "int" = true := by decide +kernel
theorem isn_int_str : isN .int "str" = false := by decide +kernel
theorem isn_int_tuple : isN .int "tuple" = false := by decide +kernel
theorem isn_int_list : isN .int "list" = false := by decide +kernel
theorem isn_int_dict : isN .int "dict" = false := by decide +kernel
theorem isn_str_bool : isN .str "bool" = false := by decide +kernel
theorem isn_str_int : isN .str "int" = false := by decide +kernel
theorem isn_str_str : isN .str "str" = true := by decide +kernel
theorem isn_str_tuple : isN .str "tuple" = false := by decide +kernel
theorem isn_str_list : isN .str "list" = false := by decide +kernel
theorem isn_str_dict : isN .str "dict" = false := by decide +kernel
theorem isn_lst_bool : isN .lst "bool" = false := by decide +kernel
theorem isn_lst_int : isN .lst "int" = false := by decide +kernel
theorem isn_lst_str : isN .lst "str" = false := by decide +kernel
theorem isn_lst_tuple : isN .lst "tuple" = false := by decide +kernel
theorem isn_lst_list : isN .lst "list" = true := by decide +kernel
theorem isn_lst_dict : isN .lst "dict" = false := by decide +kernel
theorem isn_tup_bool : isN .tup "bool" = false := by decide +kernel
theorem isn_tup_int : isN .tup "int" = false := by decide +kernel
theorem isn_tup_str : isN .tup "str" = false := by decide +kernel
theorem isn_tup_tuple : isN .tup "tuple" = true := by decide +kernel
theorem isn_tup_list : isN .tup "list" = false := by decide +kernel
theorem isn_tup_dict : isN .tup "dict" = false := by decide +kernel
theorem isn_dct_bool : isN .dct "bool" = false := by decide +kernel
theorem isn_dct_int : isN .dct "int" = false := by decide +kernel
theorem isn_dct_str : isN .dct "str" = false := by decide +kernel
theorem isn_dct_tuple : isN .dct "tuple" = false := by decide +kernel
theorem isn_dct_list : isN .dct "list" = false := by decide +kernel
theorem isn_dct_dict : isN .dct "dict" = true := by decide +kernel
def okN (n : String) : Prop := n = "bool" ∨ n = "int" ∨ n = "str" ∨ n = "tuple" ∨ n = "list" ∨ n = "dict"
theorem okn_bool : okN "bool" = True := eq_true (by unfold okN; simp)
theorem okn_int : okN "int" = True := eq_true (by unfold okN; simp)
theorem okn_str : okN "str" = True := eq_true (by unfold okN; simp)
theorem okn_tuple : okN "tuple" = True := eq_true (by unfold okN; simp)
theorem okn_list : okN "list" = True := eq_true (by unfold okN; simp)
theorem okn_dict : okN "dict" = True := eq_true (by unfold okN; simp)
theorem kit_isN {a : TN} {n : String} (h : okN n) : kitB a.nm n = some (isN a n) := by
  rcases h with rfl | rfl | rfl | rfl | rfl | rfl <;> cases a <;> decide +kernel
def cIsi : List V → Hp → VK → Prop := fun xs H Q => ∃ x n a, xs = [x, .ty n] ∧ okN n ∧ tyT x H = some a ∧ Q (.bl (isN a n)) H
theorem isi_h {X : Cx} : CallR X (.builtin "isinstance") cIsi := callImp call_isi fun xs H Q ⟨x, n, a, e, ok, t, q⟩ => ⟨x, .ty n, _, _, _, e, .ty n, tyT_ok t, kit_ty (kit_isN ok), q⟩
end G7

namespace G7
open PySem PySem.Spec PyProof.Rows L2
/-! ### promises of the draws -/
end G7

set_option linter.all false
set_option Elab.async false
set_option maxRecDepth 100000
set_option maxHeartbeats 4000000
namespace G7
open PySem PySem.Spec PyProof.Rows L2
theorem cpow18 : CPow 10 18 = True := eq_true ⟨by decide, by decide, by decide⟩
/-! ### words of the statements' trees -/
inductive Wd where
  | num | field | add | sub | mul | eq | lt | gt | le | ge | and | or | not
  deriving DecidableEq
def Wd.s : Wd → Str
  | .num => "num"
  | .field => "field"
  | .add => "+"
  | .sub => "-"
  | .mul => "*"
  | .eq => "="
  | .lt => "<"
  | .gt => ">"
  | .le => "<="
  | .ge => ">="
  | .and => "and"
  | .or => "or"
  | .not => "not"
def Wd.all : List Wd := [.num, .field, .add, .sub, .mul, .eq, .lt, .gt, .le, .ge, .and, .or, .not]
theorem Wd.s_inj : ∀ a b : Wd, (a.s = b.s) = (a = b) := by
  intro a b
  cases a <;> cases b <;> first | rfl | (apply propext; constructor <;> intro h <;> first | (revert h; decide +kernel) | cases h)
theorem ws_num : (Str.ofString "num" : Str) = Wd.s .num := rfl
theorem ws_field : (Str.ofString "field" : Str) = Wd.s .field := rfl
theorem ws_add : (Str.ofString "+" : Str) = Wd.s .add := rfl
theorem ws_sub : (Str.ofString "-" : Str) = Wd.s .sub := rfl
theorem ws_mul : (Str.ofString "*" : Str) = Wd.s .mul := rfl
theorem ws_eq : (Str.ofString "=" : Str) = Wd.s .eq := rfl
theorem ws_lt : (Str.ofString "<" : Str) = Wd.s .lt := rfl
theorem ws_gt : (Str.ofString ">" : Str) = Wd.s .gt := rfl
theorem ws_le : (Str.ofString "<=" : Str) = Wd.s .le := rfl
theorem ws_ge : (Str.ofString ">=" : Str) = Wd.s .ge := rfl
theorem ws_and : (Str.ofString "and" : Str) = Wd.s .and := rfl
theorem ws_or : (Str.ofString "or" : Str) = Wd.s .or := rfl
theorem ws_not : (Str.ofString "not" : Str) = Wd.s .not := rfl
/-! ### terms and conditions -/
inductive Tm where
  | num (n : Int)
  | fld (t f : Str)
  | op (o : Wd) (a b : Tm)
inductive Cd where
  | cmp (c : Wd) (a b : Tm)
  | neg (c : Cd)
  | con (o : Wd) (a b : Cd)
/-- the words stand where they may -/
def Wd.isOp : Wd → Bool
  | .add => true
  | .sub => true
  | .mul => true
  | _ => false
def Wd.isCmp : Wd → Bool
  | .eq => true
  | .lt => true
  | .gt => true
  | .le => true
  | .ge => true
  | _ => false
def Wd.isCon : Wd → Bool
  | .and => true
  | .or => true
  | _ => false
def Tm.ok : Tm → Bool
  | .num _ => true
  | .fld t f => PyData.strOk t && PyData.strOk f
  | .op o a b => o.isOp && a.ok && b.ok
def Cd.ok : Cd → Bool
  | .cmp c a b => c.isCmp && a.ok && b.ok
  | .neg c => c.ok
  | .con o a b => o.isCon && a.ok && b.ok
def Tm.deep : Tm → Nat
  | .op _ a b => max a.deep b.deep + 1
  | _ => 1
def Cd.deep : Cd → Nat
  | .cmp _ a b => max a.deep b.deep + 1
  | .neg c => c.deep + 1
  | .con _ a b => max a.deep b.deep + 1
def Tm.enc : Tm → PyData
  | .num n => .tuple [.str (Wd.s .num), .int n]
  | .fld t f => .tuple [.str (Wd.s .field), .str t, .str f]
  | .op o a b => .tuple [.str o.s, a.enc, b.enc]
def Cd.enc : Cd → PyData
  | .cmp c a b => .tuple [.str c.s, a.enc, b.enc]
  | .neg c => .tuple [.str (Wd.s .not), c.enc]
  | .con o a b => .tuple [.str o.s, a.enc, b.enc]
/-- v is the term in H -/
def RT (H : Hp) : V → Tm → Prop
  | v, .num n => ∃ a, v = .ref a ∧ H a = some (.tup [.str (Wd.s .num), .int n])
  | v, .fld t f => ∃ a, v = .ref a ∧ H a = some (.tup [.str (Wd.s .field), .str t, .str f])
  | v, .op o x y => ∃ a u w, v = .ref a ∧ H a = some (.tup [.str o.s, u, w]) ∧ RT H u x ∧ RT H w y
def RC (H : Hp) : V → Cd → Prop
  | v, .cmp c x y => ∃ a u w, v = .ref a ∧ H a = some (.tup [.str c.s, u, w]) ∧ RT H u x ∧ RT H w y
  | v, .neg c => ∃ a u, v = .ref a ∧ H a = some (.tup [.str (Wd.s .not), u]) ∧ RC H u c
  | v, .con o x y => ∃ a u w, v = .ref a ∧ H a = some (.tup [.str o.s, u, w]) ∧ RC H u x ∧ RC H w y
/-- None or a condition -/
def RCo (H : Hp) (v : V) : Option Cd → Prop
  | none => v = .non
  | some c => RC H v c
/-- tuples stand -/
def TupS (H H' : Hp) : Prop := ∀ a xs, H a = some (.tup xs) → H' a = some (.tup xs)
theorem TupS.refl {H : Hp} : TupS H H := fun _ _ h => h
theorem TupS.trans {H H1 H2 : Hp} (a : TupS H H1) (b : TupS H1 H2) : TupS H H2 := fun c o h => b c o (a c o h)
theorem TupS.ofSame {H H1 : Hp} (a : Same H H1) : TupS H H1 := fun c o h => a c _ h
theorem TupS.ofKeep {H H1 : Hp} {ms : List Addr} (n : ∀ m, m ∈ ms → ∃ o, H m = some o ∧ Mut (some o)) (a : Keep ms H H1) : TupS H H1 := fun c o h =>
  a c _ (fun m => by obtain ⟨u, e, mu⟩ := n c m; rw [h] at e; cases e; exact mu) h
theorem TupS.upd {H H1 : Hp} {p : Addr} {o u : HO} (a : TupS H H1) (h : H1 p = some u) (hu : ∀ xs, u ≠ .tup xs) : TupS H (L2.upd H1 p o) := fun c xs e => by
  have e1 := a c xs e
  rw [upd_ne (fun z => by rw [z, h] at e1; cases e1; exact hu _ rfl)]
  exact e1
theorem RT.tups {H H' : Hp} (s : TupS H H') : ∀ {t : Tm} {v : V}, RT H v t → RT H' v t
  | .num n, v, ⟨a, e, h⟩ => ⟨a, e, s _ _ h⟩
  | .fld t f, v, ⟨a, e, h⟩ => ⟨a, e, s _ _ h⟩
  | .op o x y, v, ⟨a, u, w, e, h, h1, h2⟩ => ⟨a, u, w, e, s _ _ h, RT.tups s h1, RT.tups s h2⟩
theorem RC.tups {H H' : Hp} (s : TupS H H') : ∀ {t : Cd} {v : V}, RC H v t → RC H' v t
  | .cmp o x y, v, ⟨a, u, w, e, h, h1, h2⟩ => ⟨a, u, w, e, s _ _ h, RT.tups s h1, RT.tups s h2⟩
  | .neg c, v, ⟨a, u, e, h, h1⟩ => ⟨a, u, e, s _ _ h, RC.tups s h1⟩
  | .con o x y, v, ⟨a, u, w, e, h, h1, h2⟩ => ⟨a, u, w, e, s _ _ h, RC.tups s h1, RC.tups s h2⟩
theorem RCo.tups {H H' : Hp} (s : TupS H H') {v : V} : ∀ {o : Option Cd}, RCo H v o → RCo H' v o
  | none, h => h
  | some c, h => RC.tups s h
theorem RT.dp {K : PySem.W.Frag} {H : Hp} : ∀ {t : Tm} {v : V}, RT H v t → Dp K H v t.enc
  | .num n, v, ⟨a, e, h⟩ => by rw [e]; exact .tup (.inl (.inl h)) (.cons (.str _) (.cons (.int _) .nil))
  | .fld t f, v, ⟨a, e, h⟩ => by rw [e]; exact .tup (.inl (.inl h)) (.cons (.str _) (.cons (.str _) (.cons (.str _) .nil)))
  | .op o x y, v, ⟨a, u, w, e, h, h1, h2⟩ => by rw [e]; exact .tup (.inl (.inl h)) (.cons (.str _) (.cons (RT.dp h1) (.cons (RT.dp h2) .nil)))
theorem RC.dp {K : PySem.W.Frag} {H : Hp} : ∀ {t : Cd} {v : V}, RC H v t → Dp K H v t.enc
  | .cmp o x y, v, ⟨a, u, w, e, h, h1, h2⟩ => by rw [e]; exact .tup (.inl (.inl h)) (.cons (.str _) (.cons (RT.dp h1) (.cons (RT.dp h2) .nil)))
  | .neg c, v, ⟨a, u, e, h, h1⟩ => by rw [e]; exact .tup (.inl (.inl h)) (.cons (.str _) (.cons (RC.dp h1) .nil))
  | .con o x y, v, ⟨a, u, w, e, h, h1, h2⟩ => by rw [e]; exact .tup (.inl (.inl h)) (.cons (.str _) (.cons (RC.dp h1) (.cons (RC.dp h2) .nil)))
theorem Wd.strOk (o : Wd) : PyData.strOk o.s = true := by cases o <;> decide +kernel
theorem Tm.lay : ∀ t : Tm, t.ok = true → t.enc.canLay0 = true
  | .num n, _ => by simp [Tm.enc, PyData.canLay0, PyData.canLayAll0, Wd.strOk]
  | .fld t f, h => by
    simp only [Tm.ok, Bool.and_eq_true] at h
    simp [Tm.enc, PyData.canLay0, PyData.canLayAll0, Wd.strOk, h]
  | .op o a b, h => by
    simp only [Tm.ok, Bool.and_eq_true] at h
    simp [Tm.enc, PyData.canLay0, PyData.canLayAll0, Tm.lay a h.1.2, Tm.lay b h.2, Wd.strOk]
theorem Tm.depth : ∀ t : Tm, t.enc.depth ≤ t.deep
  | .num n => by simp [Tm.enc, PyData.depth, PyData.depthAll, Tm.deep]
  | .fld t f => by simp [Tm.enc, PyData.depth, PyData.depthAll, Tm.deep]
  | .op o a b => by
    have h1 := Tm.depth a
    have h2 := Tm.depth b
    simp only [Tm.enc, PyData.depth, PyData.depthAll, Tm.deep]
    omega
end G7

set_option linter.all false
set_option Elab.async false
set_option maxRecDepth 100000
set_option maxHeartbeats 4000000
namespace G7
open PySem PySem.Spec PyProof.Rows L2
/-! ### the second draw box: [mixed, cells, place] -/
def BoxB (H : Hp) (h l : Addr) : Prop := ∃ (m : Int) (ns : List Int) (p : Int), H h = some (.lst [.int m, .ref l, .int p]) ∧ H l = some (.lst (ns.map V.int)) ∧ ns.length ≤ 63
theorem BoxB.muts {H : Hp} {h l : Addr} (b : BoxB H h l) : ∀ m, m ∈ [h, l] → ∃ o, H m = some o ∧ Mut (some o) := by
  obtain ⟨m0, ns, st, e1, e2, _⟩ := b
  intro m hm
  simp only [List.mem_cons, List.mem_nil_iff, or_false] at hm
  rcases hm with rfl | rfl
  · exact ⟨_, e1, trivial⟩
  · exact ⟨_, e2, trivial⟩
theorem BoxB.keep {ms : List Addr} {H H' : Hp} {h l : Addr} (b : BoxB H h l) (k : Keep ms H H') (n1 : h ∉ ms) (n2 : l ∉ ms) : BoxB H' h l := by
  obtain ⟨m, ns, st, e1, e2, e3⟩ := b
  exact ⟨m, ns, st, k _ _ n1 e1, k _ _ n2 e2, e3⟩
theorem BoxB.same {H H' : Hp} {h l : Addr} (b : BoxB H h l) (k : Same H H') : BoxB H' h l := b.keep (ms := []) (Keep.ofSame k) (by simp) (by simp)
theorem BoxB.ne {H : Hp} {h l : Addr} (b : BoxB H h l) : h ≠ l := by
  obtain ⟨m, ns, st, e1, e2, _⟩ := b
  rintro rfl
  rw [e1] at e2
  injection e2 with e2
  injection e2 with e2
  rcases ns with _ | ⟨n, _ | ⟨n2, r⟩⟩
  · cases e2
  · injection e2 with _ e3; cases e3
  · injection e2 with _ e3
    injection e3 with e4 _
    cases e4
theorem BoxB.tups {H H' : Hp} {h l : Addr} (b : BoxB H h l) (k : Keep [h, l] H H') : TupS H H' := TupS.ofKeep b.muts k
/-- what is no list is not the box -/
theorem BoxB.notin {H : Hp} {h l q : Addr} {o : HO} (B : BoxB H h l) (e : H q = some o) (n : ∀ xs, o ≠ .lst xs) : q ∉ [h, l] := fun m => by
  obtain ⟨m0, ns, st, b1, b2, _⟩ := B
  simp only [List.mem_cons, List.mem_nil_iff, or_false] at m
  rcases m with rfl | rfl
  · rw [b1] at e; cases e; exact n _ rfl
  · rw [b2] at e; cases e; exact n _ rfl
/-- an address that is free now is not the box -/
theorem BoxB.free {H : Hp} {h l q : Addr} (B : BoxB H h l) (e : H q = none) : q ∉ [h, l] := fun m => by
  obtain ⟨m0, ns, st, b1, b2, _⟩ := B
  simp only [List.mem_cons, List.mem_nil_iff, or_false] at m
  rcases m with rfl | rfl
  · rw [b1] at e; cases e
  · rw [b2] at e; cases e
theorem BoxB.updNot {H : Hp} {h l q : Addr} {o : HO} (B : BoxB H h l) (n : q ∉ [h, l]) : BoxB (L2.upd H q o) h l :=
  B.keep (ms := [q]) (Keep.upd Keep.refl (by simp)) (fun z => n (by simp at z; simp [z])) (fun z => n (by simp at z; simp [z]))
/-- the cell that is drawn from -/
theorem cell_at (ns : List Int) (pl : Int) : ∃ c : Int, atI (ns.map V.int ++ [V.int 0]) (pl % (if (ns.length : Int) > 1 then (ns.length : Int) else 1)) = some (.int c) ∧
    (c ≠ 0 → 0 < (ns.length : Int) ∧ ∃ j : Nat, j < ns.length ∧ pl % (ns.length : Int) = j ∧ (if (ns.length : Int) > 1 then (ns.length : Int) else 1) = ns.length) := by
  have hd : 0 < (if (ns.length : Int) > 1 then (ns.length : Int) else 1) := by split <;> omega
  have h0 := Int.emod_nonneg pl (show (if (ns.length : Int) > 1 then (ns.length : Int) else 1) ≠ 0 by omega)
  have h1 := Int.emod_lt_of_pos pl hd
  rw [atN h0]
  by_cases hl : 0 < ns.length
  · have e : (if (ns.length : Int) > 1 then (ns.length : Int) else 1) = ns.length := by split <;> omega
    rw [e] at h0 h1 ⊢
    have hj : (pl % (ns.length : Int)).toNat < ns.length := by omega
    refine ⟨ns[(pl % (ns.length : Int)).toNat], ?_, fun _ => ⟨by omega, (pl % (ns.length : Int)).toNat, hj, by omega, rfl⟩⟩
    rw [List.getElem?_append_left (by rw [List.length_map]; exact hj), List.getElem?_map, List.getElem?_eq_getElem hj]
    rfl
  · have e0 : ns = [] := List.eq_nil_of_length_eq_zero (by omega)
    subst e0
    refine ⟨0, ?_, fun n => absurd rfl n⟩
    have : (pl % (if ((([] : List Int).length : Nat) : Int) > 1 then ((([] : List Int).length : Nat) : Int) else 1)).toNat = 0 := by
      have h2 : (if ((([] : List Int).length : Nat) : Int) > 1 then ((([] : List Int).length : Nat) : Int) else 1) = 1 := rfl
      rw [h2] at h1 ⊢
      omega
    rw [this]
    rfl
theorem ixN_j {n j : Nat} {i : Int} (h : i = j) (hj : j < n) : ixN n i = some j := by
  subst h
  unfold ixN
  rw [if_pos (by omega), if_pos (by omega)]
  simp
def spMix (K : PySem.W.Frag) : Sp := fun vs H Q _ => ∃ (a : Addr) (ns : List Int) (z : Int), vs = [.ref a, .int z] ∧ SqL K H a (ns.map V.int) ∧ ns.length ≤ 63 ∧ ∀ H' h l, H h = none → H l = none → Same H H' → BoxB H' h l → Q (.ref h) H'
def spNext : Sp := fun vs H Q _ => ∃ (h l : Addr) (n : Int), vs = [.ref h, .int n] ∧ BoxB H h l ∧ 0 < n ∧ n < 1073741824 ∧ ∀ r H', 0 ≤ r → r < n → BoxB H' h l → Keep [h, l] H H' → Q (.int r) H'
end G7

set_option linter.all false
set_option Elab.async false
set_option maxRecDepth 100000
set_option maxHeartbeats 4000000
namespace G7
open PySem PySem.Spec PyProof.Rows L2 HT
/-! ### t[::-1] of a tuple -/
theorem places_rev (n : Nat) : Builtin.Slice.sliceAdjust none none (-1) (n : Int) = ((n : Int) - 1, -1) ∧ Builtin.Slice.slicePlaces ((n : Int) - 1) (-1) (-1) = n := by
  refine ⟨rfl, ?_⟩
  unfold Builtin.Slice.slicePlaces
  rw [if_neg (by decide)]
  by_cases h : (n : Int) - 1 > -1
  · rw [if_pos h]
    have : ((n : Int) - 1 - -1 - 1) / (-(-1)) + 1 = n := by
      show ((n : Int) - 1 - -1 - 1) / 1 + 1 = n
      omega
    rw [this]
    simp
  · rw [if_neg h]
    omega
theorem range_rev (n : Nat) : (List.range n).map (fun k => n - 1 - k) = (List.range n).reverse := by
  refine List.ext_getElem (by simp) fun i h1 h2 => ?_
  simp at h1 h2
  simp [List.getElem_reverse]
theorem pick_all {α : Type} (xs : Array α) : (List.range xs.size).filterMap (xs[·]?) = xs.toList := by
  have e : (List.range xs.size).filterMap (xs[·]?) = (List.range xs.toList.length).filterMap (xs.toList[·]?) := by simp
  rw [e]
  generalize xs.toList = l
  induction l with
  | nil => rfl
  | cons a r ih =>
    rw [List.length_cons, List.range_succ_eq_map, List.filterMap_cons]
    show a :: _ = _
    rw [List.filterMap_map]
    exact congrArg (a :: ·) ih
theorem fm_congr {α β : Type} {f g : α → Option β} : ∀ {l : List α}, (∀ a ∈ l, f a = g a) → l.filterMap f = l.filterMap g
  | [], _ => rfl
  | a :: r, h => by
    rw [List.filterMap_cons, List.filterMap_cons, h a (List.mem_cons_self), fm_congr fun b hb => h b (List.mem_cons_of_mem _ hb)]
theorem pick_rev (xs : Array Value) : ((List.range xs.size).filterMap fun (m : Nat) => xs[(((xs.size : Int) - 1) + (m : Int) * -1).toNat]?).toArray = xs.toList.reverse.toArray := by
  congr 1
  have e : (List.range xs.size).filterMap (fun (m : Nat) => xs[(((xs.size : Int) - 1) + (m : Int) * -1).toNat]?) = ((List.range xs.size).map fun k => xs.size - 1 - k).filterMap (xs[·]?) := by
    rw [List.filterMap_map]
    refine fm_congr fun m hm => ?_
    have hm := List.mem_range.mp hm
    have : (((xs.size : Int) - 1) + (m : Int) * -1).toNat = xs.size - 1 - m := by omega
    show xs[(((xs.size : Int) - 1) + (m : Int) * -1).toNat]? = xs[xs.size - 1 - m]?
    rw [this]
  rw [e, range_rev, List.filterMap_reverse, pick_all]
section
variable {prog : Program} {w : World} {A : Around} {E : Value → Shared → Prop} {s : Shared}
theorem getItem_tuple_rev {t sl : Addr} {items : Array Value} {st : Value} {Q : Value → Shared → Prop} (ht : IsTup s.heap t items) (hs : s.heap.IsSliceOf sl .none .none st) (ps : IsPart st (some (-1)))
    (h : Q (.ref s.heap.objs.size) { s with heap := s.heap.push { cls := .type "tuple", data := .seq items.toList.reverse.toArray } })
    (hsz : items.size ≤ sizeLine) : wpAny (model prog w) A (getItem (.ref t) (.ref sl)) Q E s := by
  have hok : sizeOk (.seq items.toList.reverse.toArray) := by
    show items.toList.reverse.toArray.size ≤ sizeLine
    simpa using hsz
  obtain ⟨os, hos, hcs, hds⟩ := id hs
  have tys : s.TypeIs (.ref sl) "slice" := ⟨os, hos, hcs⟩
  unfold getItem
  refine wpAny_holding ?_
  refine wpAny_bind (wpAny_sequenceKey ht.typeIs (by decide) ?_)
  refine wpAny_bind (wpAny_callSpecial?_slot (name := Str.ofString "__getitem__") ht.typeIs slot_tuple_getitem (wpAny_call_entry slot_tuple_getitem ht.typeIs entry_tuple_getitem ?_ (args_tuple_getitem _ _)))
  show wpAny _ _ (Builtin.Tuple.tupleItemsOf (.ref t) >>= _) _ _ s
  refine wpAny_bind (tupleItemsOf_ ht (wpAny_bind (wpAny_typeOf tys ?_)))
  rw [if_pos (by decide)]
  have hap : ∀ {A' : Around} {E' : Value → Shared → Prop} {Q' : Int × Int × Nat → Shared → Prop}, Q' ((items.size : Int) - 1, -1, items.size) s → wpAny (model prog w) A' (Builtin.Slice.sliceApplied (.ref sl) (pure (items.size : Int))) Q' E' s := fun {A' E' Q'} hq => by
    unfold Builtin.Slice.sliceApplied Builtin.Slice.sliceFields
    refine wpAny_bind (wpAny_bind (wpAny_field hos hds (x := .none) rfl (wpAny_bind (wpAny_field hos hds (x := .none) rfl (wpAny_bind (wpAny_field hos hds (x := st) rfl (wpAny_pure ?_)))))))
    refine wpAny_bind (slicePart_ ps ?_)
    show wpAny _ _ (if ((-1 : Int) == 0) = true then _ else _) _ _ s
    rw [if_neg (by decide)]
    refine wpAny_bind (slicePart_none (wpAny_bind (slicePart_none (wpAny_bind (wpAny_pure ?_)))))
    show wpAny _ _ (match Builtin.Slice.sliceAdjust none none (-1) (items.size : Int) with | (lo, hi) => pure (lo, (-1 : Int), Builtin.Slice.slicePlaces lo hi (-1))) _ _ s
    rw [(places_rev items.size).1]
    show wpAny _ _ (pure ((items.size : Int) - 1, (-1 : Int), Builtin.Slice.slicePlaces ((items.size : Int) - 1) (-1) (-1))) _ _ s
    rw [(places_rev items.size).2]
    exact wpAny_pure hq
  refine wpAny_bind (hap ?_)
  show wpAny _ _ (if (((items.size : Int) - 1) == 0 && (-1 : Int) == 1 && items.size == items.size) = true then _ else _) _ _ s
  rw [if_neg (by simp), pick_rev]
  first
    | exact wpAny_bind (m := Builtin.Tuple.tupleExact _) (wpAny_newObj_type (wpAny_pure ⟨_, rfl, wpAny_pure h⟩) hok)
    | exact wpAny_bind (m := Builtin.Tuple.tupleExact _) (wpAny_newObj_type (wpAny_bind (wpAny_pure (wpAny_pure ⟨_, rfl, wpAny_pure h⟩))) hok)
    | exact wpAny_bind (wpAny_bind (m := Builtin.Tuple.tupleExact _) (wpAny_newObj_type (wpAny_pure (wpAny_pure ⟨_, rfl, wpAny_pure h⟩)) hok))
    | exact wpAny_bind (wpAny_bind (m := Builtin.Tuple.tupleExact _) (wpAny_newObj_type (wpAny_pure ⟨_, rfl, wpAny_pure h⟩) hok))
end
section
variable {X : Cx} {e st : Expr} {te : TE} {ts : TO} {p2 pos : Pos}
def tRevT (te : TE) (ts : TO) : TE := fun σ H Q => te σ H fun x H1 => ts σ H1 fun o H2 => o = some (-1) ∧ ∃ a xs, x = .ref a ∧ tpO (H2 a) = some xs ∧ ∀ p, H2 p = none → Q (.ref p) (upd H2 p (.tup xs.reverse))
theorem vals_rev : ∀ {xs : List V} {us : List Value}, Vals xs us → Vals xs.reverse us.reverse
  | _, _, .nil => .nil
  | _, _, .cons r t => by
    rw [List.reverse_cons, List.reverse_cons]
    exact (vals_rev t).append (.cons r .nil)
theorem pe_revT (he : PE X e te) (hs : PO X (some st) ts) (hsb : ∀ v u, subscripted (.Slice none none (some st) p2) false v u = operate [v, u] (getItem v u) := by intro _ _; with_unfolding_all rfl) : PE X (.Subscript e (.Slice none none (some st) p2) pos) (tRevT te ts) := by
  refine ⟨fun pins s σ H Q I h => ?_⟩
  refine Subscript_ (thn (he.run pins s σ H _ I h) fun v s1 ⟨x, H1, I1, r1, q1⟩ => ?_)
  refine wpAny_Slice ?_
  rw [evalPart_none]
  refine wpAny_pure (wpAny_pure ?_)
  refine thn (hs.run pins s1 σ H1 _ I1 q1) fun vs s3 ⟨o, H3, I3, po, eo, a, xs, ex, hx, q3⟩ => ?_
  subst eo
  subst ex
  cases r1
  have I4 : Inv X pins σ H3 { s3 with heap := s3.heap.push { cls := .type "slice", data := .fields #[.none, .none, vs] } } := I3.kept (t' := s3.toks) fun b ob q => Heap.get?_push_of_some _ q
  obtain ⟨its, r, ht, hz⟩ := I4.tuple (show SqT X.K H3 a xs from .inl (rd_tpO hx))
  have hl : its.toArray.size = xs.length := by rw [List.size_toArray]; exact r.length.symm
  refine tail_any (ops := [.ref a, .ref s3.heap.objs.size]) ht.typeIs slot_tuple_getitem.lookup (getItem_tuple_rev (sl := s3.heap.objs.size) ht (Heap.IsSliceOf.new ..) po ?_ (by rw [hl]; exact hz)) (hsb _ _)
  have I5 := I4.laid (t' := s3.toks) (h' := (s3.heap.push { cls := .type "slice", data := .fields #[.none, .none, vs] }).push { cls := .type "tuple", data := .seq its.toArray.toList.reverse.toArray }) (o := .tup xs.reverse) (fun b ob q => Heap.get?_push_of_some _ q) (Nat.le_refl _)
    ⟨by rw [List.length_reverse]; exact hz, its.reverse, vals_rev r, ⟨_, by rw [Heap.get?_push_size _ rfl], rfl, 0, by simp⟩⟩
  exact ⟨.ref _, _, I5, rfl, q3 _ (I4.hok.fresh (Nat.le_refl _))⟩
end
end G7

set_option linter.all false
set_option Elab.async false
set_option maxRecDepth 100000
set_option maxHeartbeats 4000000
namespace G7
open PySem PySem.Spec PyProof.Rows L2
section
variable {X : Cx}
/-- t + u, neither empty -/
def rCatH : R2 := fun x y H Q => ∃ a b xs ys, x = .ref a ∧ y = .ref b ∧ tpO (H a) = some xs ∧ tpO (H b) = some ys ∧ xs.length + ys.length ≤ sizeLine ∧ xs ≠ [] ∧ ys ≠ [] ∧ ∀ p, H p = none → Q (.ref p) (upd H p (.tup (xs ++ ys)))
theorem op_catH : OpR X (binaryOp .Add) rCatH := opImp op_catA fun x y H Q ⟨a, b, xs, ys, e1, e2, h1, h2, hz, n1, n2, q⟩ =>
  ⟨a, b, xs, ys, e1, e2, .inl (rd_tpO h1), .inl (rd_tpO h2), hz, fun n => absurd n n1, fun _ n => absurd n n2, fun _ _ => q⟩
/-- x in a tuple of flat items -/
def rInT : R2 := fun x y H Q => ∃ p xs, y = .ref p ∧ tpO (H p) = some xs ∧ flatV x = true ∧ xs.all flatV = true ∧ Q (.bl (inV x xs)) H
theorem op_inT : OpR X (compareOp .In) rInT := opImp op_in_seq fun x y H Q ⟨p, xs, e, h, f1, f2, q⟩ => ⟨p, xs, e, .inr (.inl (rd_tpO h)), f1, f2, q⟩
/-- sorted(d): keys all texts -/
def cSortD : List V → Hp → VK → Prop := fun xs H Q => ∃ (a : Addr) (kvs : List (Key × V)) (ks : List Str), xs = [.ref a] ∧ dkO (H a) = some kvs ∧ kvs.map (·.1) = ks.map Sum.inr ∧ ks.length < 64 ∧
    ∀ (ys : List Str) (p : Addr), ys.Perm ks → H p = none → Q (.ref p) (upd H p (.lst (ys.map V.str)))
theorem sorted_dic (hc : X.calm = true) : CallR X (.builtin "sorted") cSortD := callImp (call_sortedD hc) fun xs H Q ⟨a, kvs, ks, e, h, h2, h3, q⟩ => ⟨a, kvs, ks, e, rd_dkO h, h2, h3, fun ys p h1 _ => q ys p h1⟩
/-- max(xs), min(xs) of a list of ints -/
def cMaxL : List V → Hp → VK → Prop := fun vs H Q => ∃ (a : Addr) (ns : List Int), vs = [V.ref a] ∧ lsO (H a) = some (ns.map V.int) ∧ 0 < ns.length ∧ ∀ m, m ∈ ns → (∀ y, y ∈ ns → y ≤ m) → Q (.int m) H
def cMinL : List V → Hp → VK → Prop := fun vs H Q => ∃ (a : Addr) (ns : List Int), vs = [V.ref a] ∧ lsO (H a) = some (ns.map V.int) ∧ 0 < ns.length ∧ ∀ m, m ∈ ns → (∀ y, y ∈ ns → m ≤ y) → Q (.int m) H
/-- a list of ints != [] -/
def rNeNilI : R2 := fun x y H Q => ∃ (p q : Addr) (ns : List Int), x = .ref p ∧ y = .ref q ∧ lsO (H p) = some (ns.map V.int) ∧ lsO (H q) = some [] ∧ Q (.bl (!ns.isEmpty)) H
end
/-! a list of texts, or of pairs of texts, against [] -/
/-- (table, field) of some -/
abbrev Fd := Addr × Str × Str
structure RF (H : Hp) (a : Addr) (ps : List Fd) : Prop where
  at_ : H a = some (.lst (ps.map fun e => V.ref e.1))
  tups : ∀ e ∈ ps, H e.1 = some (.tup [.str e.2.1, .str e.2.2])
  oks : ∀ e ∈ ps, PyData.strOk e.2.1 = true ∧ PyData.strOk e.2.2 = true
def Fd.dat (e : Fd) : PyData := .tuple [.str e.2.1, .str e.2.2]
theorem RF.same {H H' : Hp} {a : Addr} {ps : List Fd} (R : RF H a ps) (k : Same H H') : RF H' a ps := ⟨k _ _ R.at_, fun e he => k _ _ (R.tups e he), R.oks⟩
theorem RF.keepB {H H' : Hp} {h l a : Addr} {ps : List Fd} (R : RF H a ps) (k : Keep [h, l] H H') (B : BoxB H h l) (n : a ∉ [h, l]) : RF H' a ps :=
  ⟨k _ _ n R.at_, fun e he => k _ _ (B.notin (R.tups e he) (by intro xs q; cases q)) (R.tups e he), R.oks⟩
theorem dpAll_fds {K : PySem.W.Frag} {H : Hp} : ∀ {ps : List Fd}, (∀ e ∈ ps, H e.1 = some (.tup [.str e.2.1, .str e.2.2])) → DpAll K H (ps.map fun e => V.ref e.1) (ps.map Fd.dat)
  | [], _ => .nil
  | e :: r, h => .cons (.tup (.inl (.inl (h e List.mem_cons_self))) (.cons (.str _) (.cons (.str _) .nil))) (dpAll_fds fun e he => h e (List.mem_cons_of_mem _ he))
theorem lay_fds : ∀ {ps : List Fd}, (∀ e ∈ ps, PyData.strOk e.2.1 = true ∧ PyData.strOk e.2.2 = true) → PyData.canLayAll0 (ps.map Fd.dat) = true
  | [], _ => by simp [PyData.canLayAll0]
  | e :: r, h => by
    have h1 := h e List.mem_cons_self
    simp [PyData.canLayAll0, PyData.canLay0, Fd.dat, h1, lay_fds fun e he => h e (List.mem_cons_of_mem _ he)]
theorem depth_fds : ∀ (ps : List Fd), PyData.depthAll (ps.map Fd.dat) ≤ 2
  | [] => by simp [PyData.depthAll]
  | e :: r => by
    have h := depth_fds r
    simp only [List.map_cons, PyData.depthAll, PyData.depth, Fd.dat]
    omega
theorem shaped_fds {ps : List Fd} (h : ∀ e ∈ ps, PyData.strOk e.2.1 = true ∧ PyData.strOk e.2.2 = true) : SeqAt.shaped (.list (ps.map Fd.dat)) = true := by
  have h1 := depth_fds ps
  have h2 : PyData.depth (.list (ps.map Fd.dat)) ≤ 64 := by
    simp only [PyData.depth]
    omega
  unfold SeqAt.shaped
  rw [Bool.and_eq_true]
  exact ⟨by simp only [PyData.canLay0]; exact lay_fds h, decide_eq_true h2⟩
theorem RF.eqNil {K : PySem.W.Frag} {H : Hp} {a q : Addr} {ps : List Fd} {Q : VK} (R : RF H a ps) (hq : H q = some (.lst [])) (k : Q (.bl ps.isEmpty) H) : rEqD K (.ref a) (.ref q) H Q := by
  refine ⟨.list (ps.map Fd.dat), .list [], .lst (.inl (.inl R.at_)) (dpAll_fds R.tups), .lst (.inl (.inl hq)) .nil, shaped_fds R.oks, rfl, ?_⟩
  cases ps with
  | nil => exact k
  | cons n r => exact k
theorem RF.neNil {K : PySem.W.Frag} {H : Hp} {a q : Addr} {ps : List Fd} {Q : VK} (R : RF H a ps) (hq : H q = some (.lst [])) (k : Q (.bl (!ps.isEmpty)) H) : rNeD K (.ref a) (.ref q) H Q := by
  refine ⟨.list (ps.map Fd.dat), .list [], .lst (.inl (.inl R.at_)) (dpAll_fds R.tups), .lst (.inl (.inl hq)) .nil, shaped_fds R.oks, rfl, ?_⟩
  cases ps with
  | nil => exact k
  | cons n r => exact k
end G7

set_option linter.all false
set_option Elab.async false
set_option maxRecDepth 100000
set_option maxHeartbeats 4000000
namespace G7
open PySem PySem.Spec PyProof.Rows L2
/-! ### TURNED, a dict of the module -/
def Wd.turn : Wd → Wd
  | .lt => .gt
  | .gt => .lt
  | .le => .ge
  | .ge => .le
  | c => c
def Wd.isLog : Wd → Bool
  | .and => true
  | .or => true
  | .not => true
  | _ => false
structure TabAt (K : PySem.W.Frag) (w : World) (d : Addr) : Prop where
  kd : ∃ es n, KDict K w d es n
  hit : ∀ c : Wd, c.isCmp = true → ∃ t, PySem.W.nsIn K d c.s = some (some (.str c.turn.s t))
  miss : ∀ c : Wd, c.isLog = true → PySem.W.nsIn K d c.s = some none
def rInTab (d : Addr) : R2 := fun x y H Q => ∃ c : Wd, x = .str c.s ∧ y = .ref d ∧ (c.isCmp || c.isLog) = true ∧ Q (.bl c.isCmp) H
def rIxTab (d : Addr) : R2 := fun x y H Q => ∃ c : Wd, x = .ref d ∧ y = .str c.s ∧ c.isCmp = true ∧ Q (.str c.turn.s) H
section
variable {X : Cx} {d : Addr}
end
/-! ### trees: the first word, how great -/
def Tm.head : Tm → Wd
  | .num _ => .num
  | .fld _ _ => .field
  | .op o _ _ => o
def Tm.lim : Tm → Prop
  | .num n => -1000 ≤ n ∧ n ≤ 1000
  | .fld _ _ => True
  | .op _ a b => a.lim ∧ b.lim
def Cd.lim : Cd → Prop
  | .cmp _ a b => a.lim ∧ b.lim ∧ a.deep ≤ 8 ∧ b.deep ≤ 8
  | .neg c => c.lim
  | .con _ a b => a.lim ∧ b.lim
/-- how many comparisons -/
def Cd.leaves : Cd → Nat
  | .cmp _ _ _ => 1
  | .neg c => c.leaves
  | .con _ a b => a.leaves + b.leaves
/-- how deep and, or, not stand -/
def Cd.high : Cd → Nat
  | .cmp _ _ _ => 0
  | .neg c => c.high + 1
  | .con _ a b => max a.high b.high + 1
def Cd.head : Cd → Wd
  | .cmp c _ _ => c
  | .neg _ => .not
  | .con o _ _ => o
structure Cd.Good (c : Cd) (d m : Nat) : Prop where
  ok : c.ok = true
  lim : c.lim
  high : c.high ≤ d
  few : c.leaves ≤ m
/-- each part is a comparison, an or, a not -/
def Cd.part : Cd → Prop
  | .cmp c a b => c.isCmp = true ∧ a.ok = true ∧ b.ok = true ∧ a.lim ∧ b.lim ∧ a.deep ≤ 8 ∧ b.deep ≤ 8
  | .neg _ => True
  | .con o _ _ => o = .or
/-- a list of conditions at a -/
structure RL (H : Hp) (a : Addr) (es : List (V × Cd)) : Prop where
  at_ : H a = some (.lst (es.map (·.1)))
  each : ∀ e ∈ es, RC H e.1 e.2
/-! ### spans -/
abbrev OI := Option Int
abbrev Sp3 := Str × OI × OI
end G7
namespace G7
open PySem PySem.Spec PyProof.Rows L2
def oi : OI → V
  | none => .non
  | some i => .int i
theorem RT.headed {H : Hp} : ∀ {t : Tm} {v : V}, RT H v t → ∃ a r, v = .ref a ∧ H a = some (.tup (.str t.head.s :: r))
  | .num n, _, ⟨a, e, h⟩ => ⟨a, _, e, h⟩
  | .fld t f, _, ⟨a, e, h⟩ => ⟨a, _, e, h⟩
  | .op o x y, _, ⟨a, u, w, e, h, _, _⟩ => ⟨a, _, e, h⟩
theorem RC.headed {H : Hp} : ∀ {t : Cd} {v : V}, RC H v t → ∃ a r, v = .ref a ∧ H a = some (.tup (.str t.head.s :: r))
  | .cmp c x y, _, ⟨a, u, w, e, h, _, _⟩ => ⟨a, _, e, h⟩
  | .neg c, _, ⟨a, u, e, h, _⟩ => ⟨a, _, e, h⟩
  | .con o x y, _, ⟨a, u, w, e, h, _, _⟩ => ⟨a, _, e, h⟩
end G7
namespace G7
open PySem PySem.Spec PyProof.Rows L2
theorem Wd.beq_s (a b : Wd) : (a.s == b.s) = decide (a = b) := by
  have h := Wd.s_inj a b
  by_cases e : a = b
  · rw [decide_eq_true e, e]
    exact beq_self_eq_true _
  · rw [decide_eq_false e]
    exact beq_false_of_ne fun q => e (h.mp q)
theorem sz0 : (0 ≤ sizeLine) = True := eq_true (Nat.zero_le _)
theorem sz1 : (1 ≤ sizeLine) = True := eq_true (szl (by decide))
theorem sz2 : (2 ≤ sizeLine) = True := eq_true (szl (by decide))
theorem sz3 : (3 ≤ sizeLine) = True := eq_true (szl (by decide))
theorem sz4 : (4 ≤ sizeLine) = True := eq_true (szl (by decide))
theorem sz5 : (5 ≤ sizeLine) = True := eq_true (szl (by decide))
theorem sz6 : (6 ≤ sizeLine) = True := eq_true (szl (by decide))
theorem isc_eq : Wd.eq.isCmp = true := rfl
theorem isc_lt : Wd.lt.isCmp = true := rfl
theorem isc_gt : Wd.gt.isCmp = true := rfl
theorem isc_le : Wd.le.isCmp = true := rfl
theorem isc_ge : Wd.ge.isCmp = true := rfl
theorem isc_and : Wd.and.isCmp = false := rfl
theorem isc_or : Wd.or.isCmp = false := rfl
theorem isc_not : Wd.not.isCmp = false := rfl
theorem isl_and : Wd.and.isLog = true := rfl
theorem isl_or : Wd.or.isLog = true := rfl
theorem isl_not : Wd.not.isLog = true := rfl
end G7
namespace G7
open PySem PySem.Spec PyProof.Rows L2
def lcB (J : It) (g : TG) (tt : TT) (te : TE) (vs : List Nat) (σ : L2.St) (H1 : Hp) (Q : VK) : Prop := tLc (fun _ H R => R J H) g tt te vs σ H1 Q
def forB (J : It) (g : TG) (tb : TS) (D : Ends) (σ : L2.St) (H1 : Hp) : Prop := tFor (fun _ H R => R J H) g tb D σ H1
theorem tLc_eq {wi : TI} {g : TG} {tt : TT} {te : TE} {vs : List Nat} {σ : L2.St} {H : Hp} {Q : VK} : tLc wi g tt te vs σ H Q = wi σ H fun J H1 => lcB J g tt te vs σ H1 Q := rfl
theorem tFor_eq {wi : TI} {g : TG} {tb : TS} {D : Ends} {σ : L2.St} {H : Hp} : tFor wi g tb D σ H = wi σ H fun J H1 => forB J g tb D σ H1 := rfl
theorem lcB_it {J : It} {g : TG} {tt : TT} {te : TE} {vs : List Nat} {σ : L2.St} {H1 : Hp} {Q : VK}
    (h : ∀ D, H1 D = none → ∃ W : Nat → Nat → Hp → Prop, (∃ m, W 0 m (upd H1 D (.lst []))) ∧ ∀ i m H, W i m H →
  (J.stop i H ∧ Q (.ref D) H) ∨ (J.go i H ∧ ∃ Nx : Hp → Prop, (∀ H', Nx H' → ∃ m', m' < m ∧ W (i + 1) m' H') ∧ ∀ x H', J.yld i H x H' → g x (wipe σ vs) H' fun σ2 H2 => wipe σ2 vs = wipe σ vs ∧ tt σ2 H2 fun b H3 =>
    if b = true then te σ2 H3 fun y H4 => ∃ acc, H4 D = some (.lst acc) ∧ acc.length < sizeLine ∧ Nx (upd H4 D (.lst (acc ++ [y]))) else Nx H3)) : lcB J g tt te vs σ H1 Q := h
theorem forB_it {J : It} {g : TG} {tb : TS} {D : Ends} {σ : L2.St} {H : Hp} (h : ∃ W : Nat → Nat → L2.St → Hp → Prop, (∃ m, W 0 m σ H) ∧ ∀ i m σ H, W i m σ H →
  (J.stop i H ∧ D.nx σ H) ∨ (J.go i H ∧ ∃ N : L2.St → Hp → Prop, (∀ σ' H', N σ' H' → ∃ m', m' < m ∧ W (i + 1) m' σ' H') ∧ ∀ x H', J.yld i H x H' → g x σ H' fun σ2 H2 => tb { D with nx := N, ct := N, bk := D.nx } σ2 H2)) : forB J g tb D σ H := h
end G7

set_option linter.all false
set_option Elab.async false
set_option maxRecDepth 100000
set_option maxHeartbeats 4000000
namespace G7
open PySem PySem.Spec PyProof.Rows L2
/-! ### dicts of spans -/
abbrev En := Str × Addr × OI × OI
def ent (e : En) : Key × V := (.inr e.1, .ref e.2.1)
def dr (e : En) : Sp3 := (e.1, e.2.2)
abbrev RowG := OI × OI → List V
structure DBg (g : RowG) (H : Hp) (d : Addr) (es : List En) : Prop where
  at_ : H d = some (.dK (es.map ent))
  tups : ∀ e ∈ es, H e.2.1 = some (.tup (g e.2.2))
  oks : ∀ e ∈ es, PyData.strOk e.1 = true
  nd : (es.map (·.1)).Nodup
theorem DBg.same {g : RowG} {H H' : Hp} {d : Addr} {es : List En} (b : DBg g H d es) (k : Same H H') : DBg g H' d es := ⟨k _ _ b.at_, fun e he => k _ _ (b.tups e he), b.oks, b.nd⟩
def putE (es : List En) (f : Str) (p : Addr) (s : OI × OI) : List En := if (es.any fun e => decide (e.1 = f)) = true then es.map (fun e => if e.1 = f then (e.1, p, s) else e) else es ++ [(f, p, s)]
theorem any_ent (es : List En) (f : Str) : ((es.map ent).any fun kv => decide (kv.1 = (Sum.inr f : Key))) = es.any fun e => decide (e.1 = f) := by
  rw [List.any_map]
  congr 1
  funext e
  show decide ((Sum.inr e.1 : Key) = Sum.inr f) = decide (e.1 = f)
  exact decide_eq_decide.mpr ⟨Sum.inr.inj, congrArg _⟩
theorem putE_ent (es : List En) (f : Str) (p : Addr) (s : OI × OI) : putK (es.map ent) (Sum.inr f : Key) (.ref p) = (putE es f p s).map ent := by
  unfold putK putE
  rw [any_ent]
  by_cases h : (es.any fun e => decide (e.1 = f)) = true
  · rw [if_pos h, if_pos h, List.map_map, List.map_map]
    congr 1
    funext e
    show (if (Sum.inr e.1 : Key) = Sum.inr f then ((Sum.inr e.1 : Key), V.ref p) else ent e) = ent (if e.1 = f then (e.1, p, s) else e)
    by_cases q : e.1 = f
    · rw [if_pos q, if_pos (congrArg _ q)]
      rfl
    · rw [if_neg q, if_neg fun z => q (Sum.inr.inj z)]
  · rw [if_neg h, if_neg h, List.map_append]
    rfl
theorem putE_mem {es : List En} {f : Str} {p : Addr} {s : OI × OI} {e : En} (h : e ∈ putE es f p s) : e ∈ es ∨ (e.1 = f ∧ e.2.1 = p ∧ e.2.2 = s) := by
  unfold putE at h
  split at h
  · obtain ⟨e', h1, rfl⟩ := List.mem_map.mp h
    by_cases q : e'.1 = f
    · rw [if_pos q]
      exact .inr ⟨q, rfl, rfl⟩
    · rw [if_neg q]
      exact .inl h1
  · rcases List.mem_append.mp h with h | h
    · exact .inl h
    · cases List.mem_singleton.mp h
      exact .inr ⟨rfl, rfl, rfl⟩
theorem putE_nd {es : List En} {f : Str} {p : Addr} {s : OI × OI} (h : (es.map (·.1)).Nodup) : ((putE es f p s).map (·.1)).Nodup := by
  unfold putE
  split
  · have e : (es.map fun e => if e.1 = f then (e.1, p, s) else e).map (·.1) = es.map (·.1) := by
      rw [List.map_map]
      congr 1
      funext e
      show (if e.1 = f then ((e.1, p, s) : En) else e).1 = e.1
      split <;> rfl
    rw [e]
    exact h
  · rename_i q
    rw [List.map_append, List.nodup_append]
    refine ⟨h, by simp, fun a ha b hb => ?_⟩
    cases List.mem_singleton.mp hb
    rintro rfl
    obtain ⟨e, he, h2⟩ := List.mem_map.mp ha
    exact q (List.any_eq_true.mpr ⟨e, he, decide_eq_true h2⟩)
theorem DBg.put {g : RowG} {H H' : Hp} {d p : Addr} {es : List En} {f : Str} {s : OI × OI} (D : DBg g H d es) (k : Same H H') (hp : H' p = some (.tup (g s))) (hf : PyData.strOk f = true) :
    DBg g (upd H' d (.dK (putK (es.map ent) (Sum.inr f : Key) (.ref p)))) d (putE es f p s) := by
  have D' := D.same k
  have npd : p ≠ d := ne_of hp D'.at_ (by intro z; cases z)
  refine ⟨by rw [upd_same, putE_ent es f p s], fun e he => ?_, fun e he => ?_, putE_nd D.nd⟩
  · rcases putE_mem he with h | ⟨h1, h2, h3⟩
    · have t := D'.tups e h
      rw [upd_ne (ne_of t D'.at_ (by intro z; cases z))]
      exact t
    · rw [h2, upd_ne npd, h3]
      exact hp
  · rcases putE_mem he with h | ⟨h1, h2, h3⟩
    · exact D.oks e h
    · rw [h1]; exact hf
/-! ### numbers within the law's stand-ins -/
/-! ### the first two of a term -/
end G7

set_option linter.all false
set_option Elab.async false
set_option maxRecDepth 100000
set_option maxHeartbeats 4000000
/-! lambdas as values: made, handed on, called by others -/
namespace Lm
open PySem PySem.Spec PyProof.Rows L2 LamX
/-- a thing that is never written, known to the object -/
def FzO (o : Obj) : HO := .frz o (.ext fun _ => True)
theorem fzO_ne {o : Obj} (ps : Array Value) : FzO o ≠ .tbl ps := fun z => by
  unfold FzO at z
  cases z
theorem fz_ok {P : Program} {w : World} {H : Hp} {h : Heap} {a : Addr} {o : Obj} (e : h.get? a = some o) : ObjOk P w H h a (FzO o) := ⟨e, True.intro, ⟨o, e⟩, fun _ _ _ _ => True.intro⟩
def Fz : HO → Prop
  | .frz _ _ => True
  | .tup _ => True
  | _ => False
/-- what is frozen stays -/
def KeepF (H H' : Hp) : Prop := ∀ b o, H b = some o → Fz o → H' b = some o
theorem KeepF.refl (H : Hp) : KeepF H H := fun _ _ e _ => e
theorem KeepF.trans {H H1 H2 : Hp} (a : KeepF H H1) (b : KeepF H1 H2) : KeepF H H2 := fun c o e z => b c o (a c o e z) z
theorem KeepF.of {H H' : Hp} (e : ∀ b o, H b = some o → H' b = some o) : KeepF H H' := fun b o h _ => e b o h
theorem KeepF.extN {H H' : Hp} (e : ExtN H H') : KeepF H H' := fun b o h z => e b o h fun ps q => by rw [q] at z; exact z
theorem KeepF.un {fs ex : List Addr} {H H' : Hp} {h h' : Heap} (u : Un fs ex H H' h h') : KeepF H H' := fun b o e z => by
  cases o with
  | frz ob v => exact u.frzs b ob v e
  | tup xs => exact u.tups b xs e
  | _ => exact z.elim
theorem KeepF.upd {H : Hp} {a : Addr} {o : HO} (n : ∀ u, H a = some u → ¬ Fz u) : KeepF H (upd H a o) := fun b u e z => by
  rw [upd_ne (show b ≠ a from fun q => n u (by rw [← q]; exact e) z)]
  exact e
/-- tables stay -/
def KeepT (H H' : Hp) : Prop := ∀ b ps, H b = some (.tbl ps) → H' b = some (.tbl ps)
theorem KeepT.refl (H : Hp) : KeepT H H := fun _ _ e => e
theorem KeepT.trans {H H1 H2 : Hp} (a : KeepT H H1) (b : KeepT H1 H2) : KeepT H H2 := fun c o e => b c o (a c o e)
theorem KeepT.of {H H' : Hp} (e : ∀ b o, H b = some o → H' b = some o) : KeepT H H' := fun b o h => e b _ h
theorem KeepT.upd {H : Hp} {a : Addr} {o : HO} (n : ∀ ps, H a ≠ some (.tbl ps)) : KeepT H (upd H a o) := fun b u e => by
  rw [upd_ne (show b ≠ a from fun q => n u (by rw [← q]; exact e))]
  exact e
/-- tables whose code objects bear one name, and are frozen -/
def TabF (T : List (Addr × Str)) (H : Hp) : Prop := ∀ p ∈ T, ∃ ps : Array Value, H p.1 = some (.tbl ps) ∧ TriplesOk ps.toList ∧
  ∀ (pos : Pos) (cv : Value), codeAmong pos ps.toList = some cv → ∃ (c : Addr) (oc : Obj) (vs : Array Value) (t : Tok), cv = .ref c ∧ H c = some (FzO oc) ∧ oc.data = .fields vs ∧ vs[1]? = some (.str p.2 t)
theorem TabF.ext {T : List (Addr × Str)} {H H' : Hp} (t : TabF T H) (e : KeepF H H') (e2 : KeepT H H') : TabF T H' := fun p hp => by
  obtain ⟨ps, h1, h2, h3⟩ := t p hp
  refine ⟨ps, e2 _ _ h1, h2, fun pos cv hc => ?_⟩
  obtain ⟨c, oc, vs, t, e1, e3, e4, e5⟩ := h3 pos cv hc
  exact ⟨c, oc, vs, t, e1, e c _ e3 True.intro, e4, e5⟩
theorem TabF.nil {H : Hp} {T : List (Addr × Str)} (h : ∀ p ∈ T, H p.1 = some (.tbl #[])) : TabF T H := fun p hp => ⟨#[], h p hp, True.intro, fun pos cv hc => by
  have z : codeAmong pos [] = some cv := hc
  simp [codeAmong] at z⟩
section
variable {X : Cx} {pins : List (Addr × Obj)} {σ : L2.St} {H : Hp} {s : Shared}
/-- what is known of a thing that may change is known of it as it is, from now on -/
theorem inv_freeze {c : Addr} {φ : Heap → Prop} {oc : Obj} (I : Inv X pins σ H s) (h1 : H c = some (.ext φ)) (h2 : s.heap.get? c = some oc) : Inv X pins σ (upd H c (FzO oc)) s :=
  I.write (h' := s.heap) (t' := s.toks) (o := FzO oc) (by rw [h1]; exact True.intro) (.inl rfl) (fun _ _ _ q => q) ⟨oc, h2⟩ (fz_ok h2)
/-- a code object new in a table, frozen -/
theorem inv_tableF {P c : Addr} {q : Str} {t : Tok} {vs : Array Value} {ps more : Array Value} {h' : Heap} {t' : Nat} {oc : Obj} (I : Inv X pins σ H s) (hP : H P = some (.tbl ps)) (k : ∀ b o, b ≠ P → s.heap.get? b = some o → h'.get? b = some o)
    (hm : h'.get? P = some { cls := .none, data := .fields (ps ++ more) }) (hc : s.heap.objs.size ≤ c) (ho : h'.get? c = some oc) (hd : oc.data = .fields vs) (hv : vs[1]? = some (.str q t)) :
    Inv X pins σ (upd (upd H P (.tbl (ps ++ more))) c (FzO oc)) { s with heap := h', toks := t' } := by
  have J := LamX.inv_table (t' := t') (q := q) I hP k hm hc ⟨oc, vs, t, ho, hd, hv⟩
  have F := inv_freeze (oc := oc) J (show upd (upd H P (.tbl (ps ++ more))) c (CodeO c q) c = some (.ext _) from upd_same) ho
  rw [upd_upd] at F
  exact F
/-- the lambda's function object -/
def LamObj (q : Str) (params : Arguments) (body : Expr) (scope : Scope) (cl : List (Str × Addr)) (dV : Value) (c : Addr) (o : Obj) : Prop :=
  ∃ (doc pm ctv : Value), o = PySem.W.kdv_obj "<lambda>" q params (.expr body) scope cl dV doc pm c ctv
/-- what stands of a lambda: its function object, its code object -/
def LamAt (q : Str) (params : Arguments) (body : Expr) (scope : Scope) (cl : List (Str × Addr)) (dV : Value) (f : Addr) (H : Hp) : Prop :=
  ∃ (c : Addr) (o oc : Obj) (vs : Array Value) (t : Tok), LamObj q params body scope cl dV c o ∧ H f = some (FzO o) ∧ H c = some (FzO oc) ∧ oc.data = .fields vs ∧ vs[1]? = some (.str q t)
theorem LamAt.keep {q : Str} {params : Arguments} {body : Expr} {scope : Scope} {cl : List (Str × Addr)} {dV : Value} {f : Addr} {H H' : Hp} (l : LamAt q params body scope cl dV f H) (k : KeepF H H') : LamAt q params body scope cl dV f H' := by
  obtain ⟨c, o, oc, vs, t, h1, h2, h3, h4, h5⟩ := l
  exact ⟨c, o, oc, vs, t, h1, k _ _ h2 True.intro, k _ _ h3 True.intro, h4, h5⟩
/-- the function object is laid, where its code object stands -/
theorem lam_lay {T : List (Addr × Str)} {q : Str} {c' : Addr} {params : Arguments} {body : Expr} {scope : Scope} {dV doc pm ctv : Value} {cl : List (Str × Addr)} {h' : Heap} {tk : Nat} {oc : Obj} {vs : Array Value} {t : Tok} (J : Inv X pins σ H { s with heap := h', toks := tk }) (hT : TabF T H)
    (hc : H c' = some (FzO oc)) (hd : oc.data = .fields vs) (hv : vs[1]? = some (.str q t)) :
    ∃ H2, Inv X pins σ H2 { s with heap := h'.push (PySem.W.kdv_obj "<lambda>" q params (.expr body) scope cl dV doc pm c' ctv), toks := tk } ∧ (∀ b o, H b = some o → H2 b = some o) ∧ TabF T H2 ∧ LamAt q params body scope cl dV h'.objs.size H2 := by
  have new : H h'.objs.size = none := J.hok.fresh (Nat.le_refl _)
  have more : ∀ b o, H b = some o → upd H h'.objs.size (FzO (PySem.W.kdv_obj "<lambda>" q params (.expr body) scope cl dV doc pm c' ctv)) b = some o := fun b o e => (upd_ne (ne_of_none e new)).trans e
  refine ⟨_, J.laid (t' := tk) (o := FzO (PySem.W.kdv_obj "<lambda>" q params (.expr body) scope cl dV doc pm c' ctv)) (fun _ _ z => Heap.get?_push_of_some _ z) (Nat.le_refl _) (fz_ok (Heap.get?_push_size _ rfl)), more, hT.ext (KeepF.of more) (KeepT.of more), ?_⟩
  exact ⟨c', _, oc, vs, t, ⟨doc, pm, ctv, rfl⟩, upd_same, more _ _ hc, hd, hv⟩
/-- a table grown by one code object -/
theorem TabF.grow {T : List (Addr × Str)} {P c' : Addr} {q : Str} {pos : Pos} {ps : Array Value} {oc : Obj} {vs : Array Value} {t : Tok} (hT : TabF T H) (hP : H P = some (.tbl ps)) (hm : (P, q) ∈ T) (hu : ∀ p ∈ T, p.1 = P → p.2 = q) (new : H c' = none) (hd : oc.data = .fields vs) (hv : vs[1]? = some (.str q t)) :
    ExtN H (upd (upd H P (.tbl (ps ++ #[rawInt pos.line, rawInt pos.col, .ref c']))) c' (FzO oc)) ∧ TabF T (upd (upd H P (.tbl (ps ++ #[rawInt pos.line, rawInt pos.col, .ref c']))) c' (FzO oc)) := by
  have out : ∀ b o, H b = some o → b ≠ P → upd (upd H P (.tbl (ps ++ #[rawInt pos.line, rawInt pos.col, .ref c']))) c' (FzO oc) b = some o := fun b o e n => by
    rw [upd_ne (ne_of_none e new), upd_ne n]
    exact e
  have ext : ExtN H (upd (upd H P (.tbl (ps ++ #[rawInt pos.line, rawInt pos.col, .ref c']))) c' (FzO oc)) := fun b o e n => out b o e fun z => by
    rw [z, hP] at e
    exact n ps (Option.some.inj e).symm
  refine ⟨ext, fun p hp => ?_⟩
  obtain ⟨qs, a1, a2, a3⟩ := hT p hp
  have old : ∀ (pos : Pos) (cv : Value), codeAmong pos qs.toList = some cv → ∃ (c : Addr) (o : Obj) (ws : Array Value) (u : Tok), cv = .ref c ∧ upd (upd H P (.tbl (ps ++ #[rawInt pos.line, rawInt pos.col, .ref c']))) c' (FzO oc) c = some (FzO o) ∧ o.data = .fields ws ∧ ws[1]? = some (.str p.2 u) := fun pos' cv e => by
    obtain ⟨c, o, ws, u, e1, e2, e3⟩ := a3 pos' cv e
    refine ⟨c, o, ws, u, e1, ?_, e3⟩
    rw [upd_ne (ne_of_none e2 new), upd_ne (fun z => by rw [z, hP] at e2; cases e2)]
    exact e2
  by_cases hb : p.1 = P
  · obtain rfl : qs = ps := by
      rw [hb, hP] at a1
      exact (HO.tbl.inj (Option.some.inj a1)).symm
    have flat : (qs ++ #[rawInt pos.line, rawInt pos.col, .ref c']).toList = qs.toList ++ [rawInt pos.line, rawInt pos.col, .ref c'] := by rw [Array.toList_append]
    refine ⟨qs ++ #[rawInt pos.line, rawInt pos.col, .ref c'], ?_, ?_, fun pos' cv e => ?_⟩
    · rw [hb, upd_ne (ne_of_none hP new)]
      exact upd_same
    · rw [flat]
      exact PySem.TriplesOk_snoc _ _ _ _ a2
    · rw [flat] at e
      cases among_app _ a2 e with
      | inl z =>
        obtain ⟨c, o, ws, u, e1, e2, e3⟩ := a3 pos' cv z
        exact ⟨c, o, ws, u, e1, ext _ _ e2 fzO_ne, e3⟩
      | inr z => exact ⟨c', oc, vs, t, z, upd_same, hd, by rw [hu p hp hb]; exact hv⟩
  · refine ⟨qs, out _ _ a1 hb, a2, fun pos' cv e => ?_⟩
    obtain ⟨c, o, ws, u, e1, e2, e3⟩ := a3 pos' cv e
    exact ⟨c, o, ws, u, e1, ext _ _ e2 fzO_ne, e3⟩
theorem lam_tail {T : List (Addr × Str)} {c P : Addr} {params : Arguments} {body : Expr} {scope : Scope} {pos : Pos} {dV : Value} {E : Value → Shared → Prop} {Q : Value → Shared → Prop} (I : Inv X pins σ H s) (TB : TabB X.base X.mg c P) (hcode : X.env.code = .ref c)
    (hm : (P, X.env.qual ++ "<lambda>") ∈ T) (hu : ∀ p ∈ T, p.1 = P → p.2 = X.env.qual ++ "<lambda>") (hT : TabF T H) (hfree : ∀ y ∈ scope.names, y.2 = .free → ∃ c, X.env.cells.lookup y.1 = some c)
    (h : ∀ (f : Addr) (H1 : Hp) (s' : Shared), Inv X pins σ H1 s' → ExtN H H1 → TabF T H1 → LamAt (X.env.qual ++ "<lambda>") params body scope (cloFrom X.env.cells scope.names []) dV f H1 → Q (.ref f) s') :
    wpAny (model X.prog X.w) X.A (makeTail "<lambda>" (X.env.qual ++ "<lambda>") params (.expr body) scope X.env dV .none none pos pos.line) Q E s := by
  obtain ⟨ps, tab, three, known⟩ := hT _ hm
  have at_ := I.hok P _ tab
  have bas := TB.bm.keeps I.bk
  have hd0 := TB.code.keeps I.bk
  have gl := I.mod.glob.keeps I.bk
  by_cases hit : ∃ cv, codeAmong pos ps.toList = some cv
  · obtain ⟨cv, hit⟩ := hit
    obtain ⟨c', oc, vs, t, rfl, hco, hd, hv⟩ := known pos cv hit
    refine PySem.W.kdv_makeTailHit (closure_ok hfree) I.ok.glob gl hcode hd0 at_ three hit bas fun ctv doc h' tk kp _ => ?_
    obtain ⟨H2, J2, m2, T2, l2⟩ := lam_lay (s := s) (doc := doc) (pm := (X.mg "__name__").getD .none) (ctv := ctv) (I.kept (t' := tk) kp) hT hco hd hv
    exact h _ H2 _ J2 (fun b o e _ => m2 b o e) T2 l2
  · have miss : codeAmong pos ps.toList = none := by
      cases z : codeAmong pos ps.toList with
      | none => rfl
      | some cv => exact absurd ⟨cv, z⟩ hit
    refine PySem.W.kdv_makeTail (closure_ok hfree) I.ok.glob gl hcode hd0 at_ three miss TB.gP bas fun c' ctv doc h' tk but ge lt rec grown => ?_
    obtain ⟨_, oc, vs, t, z, hoc, hd, hv⟩ := rec
    obtain rfl := Value.ref.inj z
    have J := inv_tableF (t' := tk) I tab (fun b o n e => but b o n e) grown ge hoc hd hv
    obtain ⟨ext, T1⟩ := hT.grow (pos := pos) tab hm hu (I.hok.fresh ge) hd hv
    obtain ⟨H2, J2, m2, T2, l2⟩ := lam_lay (s := s) (doc := doc) (pm := (X.mg "__name__").getD .none) (ctv := ctv) J T1 upd_same hd hv
    exact h _ H2 _ J2 (fun b o e n => m2 b o (ext b o e n)) T2 l2
end
/-! ### the lambda's names -/
/-- captured names, globals; parameters that the maker's own names do not hold -/
structure LamG (N : List Str) (sc scope : Scope) : Prop where
  kind : scope.kind = .function
  co : scope.isCoroutine = false
  gen : scope.isGenerator = false
  own : ∀ y ∈ scope.names, y.2 ≠ .cell ∧ (y.2 = .local → y.1 ∉ N)
  free : ∀ y ∈ scope.names, y.2 = .free → sc.names.lookup y.1 = some .cell ∨ sc.names.lookup y.1 = some .free
def lamGB (N : List Str) (sc scope : Scope) : Bool :=
  decide (scope.kind = .function) && !scope.isCoroutine && !scope.isGenerator && scope.names.all fun y => !decide (y.2 = .cell) && (!decide (y.2 = .local) || !N.contains y.1) && (!decide (y.2 = .free) || decide (sc.names.lookup y.1 = some .cell) || decide (sc.names.lookup y.1 = some .free))
theorem lamG_by {N : List Str} {sc scope : Scope} (h : lamGB N sc scope = true) : LamG N sc scope := by
  unfold lamGB at h
  simp only [Bool.and_eq_true, Bool.or_eq_true, Bool.not_eq_true', decide_eq_true_eq, decide_eq_false_iff_not, List.all_eq_true] at h
  obtain ⟨⟨⟨h1, h2⟩, h3⟩, h4⟩ := h
  refine ⟨h1, h2, h3, fun y hy => ⟨(h4 y hy).1.1, fun e hm => ?_⟩, fun y hy e => ?_⟩
  · rcases (h4 y hy).1.2 with z | z
    · exact absurd e z
    · rw [List.contains_iff_mem.mpr hm] at z
      cases z
  · rcases (h4 y hy).2 with (z | z) | z
    · exact absurd e z
    · exact .inl z
    · exact .inr z
theorem LamG.has {X : Cx} {scope : Scope} (L : LamG X.N X.env.scope scope) (ok : X.Ok) : ∀ y ∈ scope.names, y.2 = .free → ∃ c, X.env.cells.lookup y.1 = some c := fun y hy e => by
  rcases L.free y hy e with k | k
  · exact ok.has _ (.inl k)
  · exact ok.has _ (.inr k)
section
variable {X : Cx} {pins : List (Addr × Obj)} {σ : L2.St} {H HZ : Hp} {s s1 : Shared}
/-- the context over a greater ground -/
abbrev onB (X : Cx) (B : Heap) : Cx := { X with base := B }
/-- a ground in which the cells of X's names stand, at the state s -/
structure ExtB (X : Cx) (H : Hp) (s : Shared) (B : Heap) : Prop where
  size : B.objs.size ≤ s.heap.objs.size
  sub : ∀ b o, B.get? b = some o → s.heap.get? b = some o ∧ H b = none
  base : ∀ b o, X.base.get? b = some o → B.get? b = some o
  cell : ∀ x c o, X.env.cells.lookup x = some c → s.heap.get? c = some o → B.get? c = some o
  funs : s.heap.FunFrames B X.stack
open Classical in
theorem extB_ex (I : Inv X pins σ H s) (hfn : ∀ x c, X.env.cells.lookup x = some c → X.fn x = true) : ∃ B, ExtB X H s B := by
  let q : Addr → Bool := fun b => decide ((∃ o, X.base.get? b = some o) ∨ ∃ x, X.env.cells.lookup x = some b)
  let l := (List.range s.heap.objs.size).filter fun b => !q b
  have nl : ∀ b, q b = true → b ∉ l := fun b hb hm => by
    have z := (List.mem_filter.mp hm).2
    rw [hb] at z
    cases z
  have yl : ∀ b, b < s.heap.objs.size → q b = false → b ∈ l := fun b h1 h2 => List.mem_filter.mpr ⟨List.mem_range.mpr h1, by rw [h2]; rfl⟩
  have get : ∀ b o, s.heap.get? b = some o → q b = true → (PySem.W.hideAll s.heap l).get? b = some o := fun b o e hb => PySem.W.hideAll_get _ e (nl b hb)
  have of_ : ∀ b o, (PySem.W.hideAll s.heap l).get? b = some o → s.heap.get? b = some o ∧ q b = true := fun b o e => by
    have e2 := PySem.W.of_hideAll _ e
    refine ⟨e2, ?_⟩
    cases hq : q b with
    | true => rfl
    | false =>
      rw [PySem.W.hideAll_none _ (yl b (Heap.lt_size e2) hq)] at e
      cases e
  have bk : ∀ b o, X.base.get? b = some o → s.heap.get? b = some o ∧ H b = none := I.bs
  refine ⟨PySem.W.hideAll s.heap l, Nat.le_of_eq (PySem.W.hideAll_size _ _), fun b o e => ?_, fun b o e => get b o (bk b o e).1 (decide_eq_true (.inl ⟨o, e⟩)), fun x c o e1 e2 => get c o e2 (decide_eq_true (.inr ⟨x, e1⟩)), funFrames_none I.stack fun b hb => ?_⟩
  · obtain ⟨e2, hq⟩ := of_ b o e
    refine ⟨e2, ?_⟩
    rcases of_decide_eq_true hq with ⟨o', z⟩ | ⟨x, z⟩
    · exact (bk b o' z).2
    · exact I.freeC x b z
  · cases e : (PySem.W.hideAll s.heap l).get? b with
    | none => rfl
    | some o =>
      obtain ⟨e2, hq⟩ := of_ b o e
      rcases of_decide_eq_true hq with ⟨o', z⟩ | ⟨x, z⟩
      · obtain ⟨z2, _⟩ := I.stack.mem hb
        rw [z] at z2
        cases z2
      · rcases List.mem_cons.mp (I.stkSub b hb) with z2 | z2
        · exact absurd z2 (I.cne x b z)
        · obtain ⟨_, o3, e3, _⟩ := I.ok.funs.mem z2
          exact absurd (Nat.lt_of_lt_of_le (Heap.lt_size e3) (I.ok.cab x b (hfn x b z) z)) (Nat.lt_irrefl _)
theorem ExtB.env0 {B : Heap} (x : ExtB X H s B) (I : Inv X pins σ H s) : Env0 X.prog X.w X.K X.mg B X.A X.stack s H := by
  have e := I.env0
  exact ⟨e.frames, ⟨e.mod.kin.keeps x.base, e.mod.glob.keeps x.base, (let ⟨mb, h1, h2⟩ := e.mod.blt; ⟨mb, h1.keeps x.base, h2⟩), e.mod.nolimit.keeps x.base⟩, x.sub, x.size, x.funs, e.frf, e.hok, e.bare⟩
/-- the captured cells, looked up -/
theorem clo_to {cells : List (Str × Addr)} {names : List (Str × NameKind)} {y : Str} {c : Addr} (hf : ∀ z ∈ names, z.2 = .free → ∃ c, cells.lookup z.1 = some c) (e : (cloFrom cells names []).lookup y = some c) : cells.lookup y = some c := by
  cases cloFrom_mem (PySem.mem_of_lookup e) with
  | inl z => exact absurd z List.not_mem_nil
  | inr z =>
    obtain ⟨d, hd⟩ := hf (y, .free) z.1 rfl
    have hd : cells.lookup y = some d := hd
    have e2 := z.2
    rw [hd] at e2
    rw [hd, show c = d from e2]
theorem clo_of {cells : List (Str × Addr)} {names : List (Str × NameKind)} {y : Str} (h : names.lookup y = some .free) : ∃ c, (cloFrom cells names []).lookup y = some c :=
  mem_lookup (cloFrom_has (acc := []) (PySem.mem_of_lookup h))
theorem lam_startB {A : Around} {outer : List Env} {E : XK} {scope : Scope} {f c' : Addr} {h₁ : Heap} {tk : Nat} {m0 : Str → Option Value} {B : Heap} (I : Inv X pins σ H s) (L : LamG X.N X.env.scope scope) (x : ExtB X H s B) (e0 : Env0 X.prog X.w X.K X.mg B A outer s1 HZ) (hd : A.handled = none)
    (hns : h₁.Ns s1.heap.objs.size m0) (kp : ∀ b o, s1.heap.get? b = some o → h₁.get? b = some o) :
    Inv (lamCx (onB X B) A outer s1 HZ E scope f c') [] σ HZ { s1 with heap := h₁, toks := tk } := by
  have back : ∀ {y c}, (cloFrom X.env.cells scope.names []).lookup y = some c → X.env.cells.lookup y = some c := fun e => clo_to (L.has I.ok) e
  have stays : ∀ {y : Str} {c : Addr} {v : Option Value}, X.env.cells.lookup y = some c → s.heap.IsCell c v → h₁.IsCell c v ∧ HZ c = none := fun {y c v} e z => by
    obtain ⟨o, ho, hv⟩ := z
    obtain ⟨w1, w2⟩ := e0.bs c o (x.cell y c o e ho)
    exact ⟨⟨o, kp _ _ w1, hv⟩, w2⟩
  have none_ex : ∀ b : Addr, b ∈ ([] : List Addr) → False := fun b z => List.not_mem_nil z
  exact
    { ok :=
        { mod := e0.mod, kind := L.kind, glob := rfl, blt := rfl, above := Nat.le_refl _, inj := fun y z c h1 h2 => I.ok.inj y z c (back h1) (back h2)
          has := fun y hy => by
            rcases (show scope.names.lookup y = some .cell ∨ scope.names.lookup y = some .free from hy) with z | z
            · exact ((L.own _ (PySem.mem_of_lookup z)).1 rfl).elim
            · exact clo_of z
          cab := fun y c z => nomatch (show false = true from z)
          hd := fun _ => hd, frames := Around.frames_deeper e0.frames, stk := .inr ⟨rfl, rfl⟩, exf := fun b z => (none_ex b z).elim, bs := e0.bs, bsz := e0.bsz, noex := fun b _ _ z => none_ex b z, exfs := fun b z => (none_ex b z).elim, funs := e0.funs, frf := e0.frf }
      os := rfl, bare := e0.bare, base := Un.kept kp
      loc := by
        refine ⟨m0, hns, fun i y v n sl vis => ?_⟩
        obtain ⟨_, _, known⟩ := I.loc
        rcases (show Vis scope y from vis) with z | z | z
        · exact absurd (List.mem_of_getElem? (show X.N[i]? = some y from n)) ((L.own _ (PySem.mem_of_lookup z)).2 rfl)
        · exact ((L.own _ (PySem.mem_of_lookup z)).1 rfl).elim
        · obtain ⟨c, hc⟩ := clo_of (cells := X.env.cells) z
          have up := L.free _ (PySem.mem_of_lookup z) rfl
          obtain ⟨u, rv, w⟩ := known i y v n sl (up.elim (fun q => .inr (.inl q)) fun q => .inr (.inr q))
          refine ⟨u, rv, .inr ⟨.inr z, c, hc, ?_⟩⟩
          rcases w with ⟨loc, _⟩ | ⟨_, d, hd2, cell⟩
          · have loc : X.env.scope.names.lookup y = some .local := loc
            rcases up with q | q <;> exact nomatch (loc.symm.trans (show X.env.scope.names.lookup y = _ from q))
          · obtain rfl : c = d := Option.some.inj ((back hc).symm.trans hd2)
            exact (stays hd2 cell).1
      cell := fun y c e => by
        obtain ⟨v, z⟩ := I.cell y c (back e)
        exact ⟨v, (stays (back e) z).1⟩
      free := e0.hok.fresh (Nat.le_refl _)
      freeC := fun y c e => by
        obtain ⟨v, z⟩ := I.cell y c (back e)
        exact (stays (back e) z).2
      pin := fun q z => nomatch (show q ∈ ([] : List (Addr × Obj)) from z)
      hok := e0.hok.kept kp, len := I.len }
end
/-! ### what a callable does when it is called without arguments, over the ground B, while what is frozen in H0 stays -/
def Act0 (P : Program) (w : World) (K : PySem.W.Frag) (mg : Str → Option Value) (B : Heap) (k : Nat) (H0 : Hp) (f : Addr) (R : XK → Hp → VK → Prop) : Prop :=
  ∀ (A : Around) (outer : List Env) (s1 : Shared) (H1 : Hp) (Q : VK) (E : XK), Room k A → Env0 P w K mg B A outer s1 H1 → KeepF H0 H1 → R E H1 Q →
    (∃ (oc : Value) (od : Option Addr) (fd : FuncData) (osl : Array (Option Value)), s1.heap.get? f = some ⟨oc, od, .func fd, osl⟩) ∧ codeAny (model P w) A (.call (.ref f) ⟨[], []⟩) (CR (L2.CX P w) outer P w H1 s1 Q E) s1
section
variable {P : Program} {w : World} {K : PySem.W.Frag} {mg : Str → Option Value} {B : Heap} {k : Nat} {H H1 : Hp} {f : Addr} {R : XK → Hp → VK → Prop}
theorem Act0.keep (a : Act0 P w K mg B k H f R) (h : KeepF H H1) : Act0 P w K mg B k H1 f R := fun A outer s2 H2 Q E hr e0 k2 => a A outer s2 H2 Q E hr e0 (h.trans k2)
theorem Act0.mono (a : Act0 P w K mg B k H f R) {j : Nat} (h : k ≤ j) : Act0 P w K mg B j H f R := fun A outer s2 H2 Q E hr => a A outer s2 H2 Q E (hr.mono h)
theorem Act0.imp (a : Act0 P w K mg B k H f R) {R' : XK → Hp → VK → Prop} (h : ∀ E H Q, R' E H Q → R E H Q) : Act0 P w K mg B k H f R' := fun A outer s2 H2 Q E hr e0 u r => a A outer s2 H2 Q E hr e0 u (h _ _ _ r)
end
/-- a ground over the state in which X stands -/
def Zb (X : Cx) (σ : L2.St) (H : Hp) (B : Heap) : Prop := ∃ (pins : List (Addr × Obj)) (s : Shared), Inv X pins σ H s ∧ ExtB X H s B
/-- a lambda made in X: whatever X's names hold when it is handed on -/
def Acts (X : Cx) (k : Nat) (R : L2.St → XK → Hp → VK → Prop) (f : Addr) (H : Hp) : Prop :=
  ∀ H2, KeepF H H2 → ∀ (σ : L2.St) (B : Heap), Zb X σ H2 B → Act0 X.prog X.w X.K X.mg B k H2 f (R σ)
theorem Acts.keep {X : Cx} {k : Nat} {R : L2.St → XK → Hp → VK → Prop} {f : Addr} {H H1 : Hp} (a : Acts X k R f H) (h : KeepF H H1) : Acts X k R f H1 := fun H2 h2 => a H2 (h.trans h2)
section
variable {X : Cx}
/-- the reading of a lambda -/
def tLam (X : Cx) (k : Nat) (T : List (Addr × Str)) (t : XK → TE) : TE := fun σ H Q => TabF T H ∧ ∀ (f : Addr) (H1 : Hp), ExtN H H1 → TabF T H1 → Acts X k (fun σ E H Q => t E σ H Q) f H1 → Q (.ref f) H1
/-- a(), a name that holds a callable of known doing -/
theorem pe_callA {H0 : Hp} {k i : Nat} {f : Addr} {R : XK → Hp → VK → Prop} {W : WX} {E : XK} {a : Str} {p1 p2 : Pos} (hA : Act0 X.prog X.w X.K X.mg X.base k H0 f R) (tk : Takes X W) (hW : ∀ cls d σ' H', E cls d H' → W cls d σ' H')
    (hr : Room k X.A) (hN : X.N[i]? = some a) (hv : Vis X.env.scope a) (hd : (a == ("__debug__" : Str)) = false := by decide) (hcd : (a == ("__classdict__" : Str)) = false := by decide) :
    PE X (.Call (.Name a p1) [] [] p2) (fun σ H Q => σ[i]? = some (some (.ref f)) ∧ KeepF H0 H ∧ R E H Q) := by
  refine ⟨fun pins s σ H Q I h => ?_⟩
  obtain ⟨hs, hk, hR⟩ := h
  refine wpAny_Call_Name_kw (thn ((pe_var (pos := p1) (i := i) hN hv hd hcd).run pins s σ H (fun v H1 => v = .ref f ∧ H1 = H) I ⟨.ref f, hs, rfl, rfl⟩) fun u s1 ⟨v, H1, I1, r1, q1⟩ => ?_)
  obtain ⟨ev, eH⟩ := q1
  subst ev
  rw [eH] at I1
  obtain rfl : u = Value.ref f := r1
  obtain ⟨fo, rc⟩ := hA X.A X.stack s1 H Q E hr I1.env0 hk hR
  refine PySem.W.callWith_F0 fo ?_
  have hx : Passes (L2.CX X.prog X.w) X E := passes_call tk hW
  refine wpAny_call (codeAny_mono rc fun r s' hq => ?_)
  cases r with
  | error e => exact hx pins σ H s1 e s' I1 hq
  | ok fl =>
    cases fl with
    | ret u => exact I1.after hq
    | next => exact False.elim hq
    | brk => exact False.elim hq
    | cont => exact False.elim hq
end
/-- a call over a greater ground: the callee is handed lambdas -/
def tCallZ (X : Cx) (sp : Heap → Sp) (dvs : List V) (t : TA) : TE := fun σ H Q => t σ H fun vs H1 => ∀ B, Zb X σ H1 B → sp B (vs ++ dvs) H1 Q L2.E0
section
variable {X : Cx} {k : Nat} {f : Addr} {fd : FuncData} {ps : List Str} {sp : Heap → Sp} {dvs : List V} {ds : List Value} {x : Str} {p pos : Pos} {e : Expr} {es : List Expr} {t : TA}
end
section
variable {X : Cx}
/-- the name that the codes of a def's lambdas bear -/
def lamQ (q : Str) : Str := q ++ ".<locals>." ++ "<lambda>"
end
end Lm

set_option linter.all false
set_option Elab.async false
set_option maxRecDepth 100000
set_option maxHeartbeats 4000000
/-! told: what the rows do with a caught error: lists of truths, count, index -/
namespace Td
open PySem PySem.Spec PyProof.Rows L2
section
variable {X : Cx}
end
section
variable {X : Cx} {T : String} {name : Str} {id : String} {r : V → List V → Hp → VK → Prop} {o e : Expr} {es : List Expr} {to : TE} {t : TA} {apos cpos : Pos}
end
/-! ### l += m of lists -/
section
variable {X : Cx}
end
/-! ### the program's own errors -/
/-- an own exception class without own __init__, that is raised -/
structure EKls (K : PySem.W.Frag) (mg : Str → Option Value) (x : Str) (C : Addr) : Prop where
  gC : mg x = some (.ref C)
  kC : PySem.W.keepIn K (.ref C) = true
  ex : PySem.W.excIn K C [.type "ValueError", .type "Exception", .type "BaseException", .type "object"] "ValueError.__new__" = true
  exC : PySem.W.subIn K (.ref C) (.type "BaseException") = some true
  tyC : PySem.W.typeIn K (.ref C) = some (.type "type")
/-- what the class D, the i-th of Cs, says where its errors are caught -/
structure Kind (K : PySem.W.Frag) (CS : Addr) (Cs : List Addr) (i : Nat) (D : Addr) : Prop where
  is : ExcC K D
  st : PySem.W.exmOne K (.ref D) (.ref CS) = some true
  ve : PySem.W.kitOne K (.ref D) (.type "ValueError") = some true
  at_ : ∀ j c, Cs[j]? = some c → PySem.W.kitOne K (.ref D) (.ref c) = some (decide (j = i))
theorem kit_ve {K : PySem.W.Frag} {D : Addr} (h : PySem.W.subIn K (.ref D) (.type "ValueError") = some true) : PySem.W.kitOne K (.ref D) (.type "ValueError") = some true := by
  have e1 : ((Value.ref D : Value) == .type "ValueError") = false := rfl
  have e2 : PySem.W.kitMeta "ValueError" = true := by decide +kernel
  show (if ((Value.ref D : Value) == .type "ValueError") = true then some true else (if PySem.W.kitMeta "ValueError" = true then PySem.W.subIn K (.ref D) (.type "ValueError") else none)) = some true
  rw [if_neg (by rw [e1]; exact Bool.false_ne_true), if_pos e2]
  exact h
theorem exm_of {K : PySem.W.Frag} {D S : Addr} (h1 : PySem.W.subIn K (.ref S) (.type "BaseException") = some true) (h2 : PySem.W.isClsIn K S = true) (h3 : PySem.W.typeIn K (.ref S) = some (.type "type")) (h4 : PySem.W.subIn K (.ref D) (.ref S) = some true) :
    PySem.W.exmOne K (.ref D) (.ref S) = some true := by
  have e1 : (PySem.W.subIn K (.ref S) (.type "BaseException") == some true) = true := by rw [h1] <;> rfl
  have e2 : ((PySem.W.clsIn K S).isSome && PySem.W.typeIn K (.ref S) == some (.type "type")) = true := by
    have h2' : (PySem.W.clsIn K S).isSome = true := h2
    rw [h2', h3] <;> rfl
  show (if (PySem.W.subIn K (.ref S) (.type "BaseException") == some true) = true then (if ((PySem.W.clsIn K S).isSome && PySem.W.typeIn K (.ref S) == some (.type "type")) = true then PySem.W.subIn K (.ref D) (.ref S) else none) else none) = some true
  rw [if_pos e1, if_pos e2]
  exact h4
section
variable {X : Cx} {x : Str} {C : Addr} {p pos pos2 : Pos} {e : Expr} {es : List Expr} {t : TA} {W : WX}
def IsB (K : PySem.W.Frag) (D : Addr) (c : V) (b : Bool) : Prop := ∃ cv, (∀ u, RelV c u → u = cv) ∧ PySem.W.kitOne K (.ref D) cv = some b
/-- isinstance(e, c), e the caught error -/
def rIsG (K : PySem.W.Frag) (cls : Value) (d : Option Addr) (a : Addr) : List V → Hp → VK → Prop := fun xs H Q => ∃ D, cls = .ref D ∧ d = none ∧ ExcC K D ∧ ∃ (c : V) (b : Bool), xs = [.ref a, c] ∧ IsB K D c b ∧ Q (.bl b) H
end
/-! ### a def whose code object is known -/
theorem _root_.L2.Fun.okL {P : Program} {w : World} {K : PySem.W.Frag} {mg : Str → Option Value} {base : Heap} {x qual : Str} {st : Stmt} {f c : Addr} {fd : FuncData} {N ps : List Str} {k : Nat} {sp : Sp} (F : L2.Fun K x qual st f fd) (hc : fd.code = .ref c) (S : FnScope N ps (defScope st)) (len : ∀ vs H Q E, sp vs H Q E → vs.length = ps.length)
    (hbody : ∀ (A : Around) (outer : List Env) (s : Shared) (H : Hp) (vs : List V) (Q : VK) (E : XK), Room k (A.deeper (envOfC qual (defScope st) s.heap.objs.size f (.ref c))) → sp vs H Q E →
      ∃ t, PSs (cxOf L2.CX0 P w K mg base N qual (defScope st) f (.ref c) A outer s H E).nox (defBody st) t ∧ t { nx := fun _ H' => Q .non H', rt := Q } (L2.start N vs) H) : FnOk P w K mg base L2.CX0 (k + 1) f fd ps sp := by
  obtain ⟨oc, od, kV, doc, pm, an, cdv, ct, osl, rfl, lk, hcd⟩ := F.ex
  have e : cdv = .ref c := hc
  subst e
  refine fn_of lk hcd S len fun A outer s H vs Q E hr hsp => ?_
  obtain ⟨t, h, q⟩ := hbody A outer s H vs Q E hr hsp
  exact ⟨t, h.nox, q⟩
end Td

set_option linter.all false
set_option Elab.async false
set_option maxRecDepth 100000
set_option maxHeartbeats 4000000
/-! instances' fields; dicts whose keys are tuples; tuples of ints compared -/
namespace G7
open PySem PySem.Spec PyProof.Rows L2
section
variable {X : Cx}
theorem pe_fldK (K : PySem.W.Frag) (hK : X.K = K) {e : Expr} {f : Str} {pos : Pos} {ta : TE} (he : PE X e ta) (hb : attributeBase e f X.env (eval e X.env) = eval e X.env) : PE X (.Attribute e f pos) (tFld K ta f) := hK ▸ pe_fld he hb
/-! dicts with tuple keys -/
variable {o e value : Expr} {td ty tv : TE} {pos pos' : Pos}
end
end G7

set_option linter.all false
set_option Elab.async false
set_option maxRecDepth 100000
set_option maxHeartbeats 4000000
/-! pairs of ints, rising: the plain law of an index -/
namespace G7
open PySem PySem.Spec PyProof.Rows L2
/-- k parts a list: those ahead are so, those from there on are not -/
structure Cut {α : Type} (l : List α) (p : α → Bool) (k : Nat) : Prop where
  le : k ≤ l.length
  lo : ∀ i x, i < k → l[i]? = some x → p x = true
  hi : ∀ i x, k ≤ i → l[i]? = some x → p x = false
theorem Cut.take {α : Type} {l : List α} {p : α → Bool} {k : Nat} (c : Cut l p k) {x : α} : x ∈ l.take k ↔ x ∈ l ∧ p x = true := by
  constructor
  · intro h
    obtain ⟨i, hi⟩ := List.mem_iff_getElem?.mp h
    rw [List.getElem?_take] at hi
    split at hi
    · rename_i hk
      exact ⟨List.mem_of_getElem? hi, c.lo i x hk hi⟩
    · cases hi
  · rintro ⟨h, hp⟩
    obtain ⟨i, hi⟩ := List.mem_iff_getElem?.mp h
    refine List.mem_iff_getElem?.mpr ⟨i, ?_⟩
    rw [List.getElem?_take, if_pos, hi]
    by_cases hk : i < k
    · exact hk
    · rw [c.hi i x (by omega) hi] at hp
      cases hp
theorem Cut.drop {α : Type} {l : List α} {p : α → Bool} {k : Nat} (c : Cut l p k) {x : α} : x ∈ l.drop k ↔ x ∈ l ∧ p x = false := by
  constructor
  · intro h
    obtain ⟨i, hi⟩ := List.mem_iff_getElem?.mp h
    rw [List.getElem?_drop] at hi
    exact ⟨List.mem_of_getElem? hi, c.hi _ x (by omega) hi⟩
  · rintro ⟨h, hp⟩
    obtain ⟨i, hi⟩ := List.mem_iff_getElem?.mp h
    by_cases hk : i < k
    · rw [c.lo i x hk hi] at hp
      cases hp
    · exact List.mem_iff_getElem?.mpr ⟨i - k, by rw [List.getElem?_drop, show k + (i - k) = i by omega]; exact hi⟩
theorem Cut.slice {α : Type} {l : List α} {p q : α → Bool} {a b : Nat} (c : Cut l p a) (d : Cut l q b) {x : α} : x ∈ (l.drop a).take (b - a) ↔ x ∈ l ∧ p x = false ∧ q x = true := by
  constructor
  · intro h
    obtain ⟨i, hi⟩ := List.mem_iff_getElem?.mp h
    rw [List.getElem?_take] at hi
    split at hi
    · rename_i hk
      rw [List.getElem?_drop] at hi
      exact ⟨List.mem_of_getElem? hi, c.hi _ x (by omega) hi, d.lo _ x (by omega) hi⟩
    · cases hi
  · rintro ⟨h, hp, hq⟩
    obtain ⟨i, hi⟩ := List.mem_iff_getElem?.mp h
    have h1 : a ≤ i := by
      by_cases hk : i < a
      · rw [c.lo i x hk hi] at hp
        cases hp
      · omega
    have h2 : i < b := by
      by_cases hk : i < b
      · exact hk
      · rw [d.hi i x (by omega) hi] at hq
        cases hq
    exact List.mem_iff_getElem?.mpr ⟨i - a, by rw [List.getElem?_take, if_pos (by omega), List.getElem?_drop, show a + (i - a) = i by omega]; exact hi⟩
/-! room -/
theorem seqIx {i : Int} {n : Nat} (h0 : 0 ≤ i) (h1 : i < (n : Int)) : seqIndex? i n = some i.toNat := by
  unfold seqIndex?
  simp only [show ¬ i < 0 by omega, if_false, h0, h1, decide_true, Bool.and_self, if_true]
/-! bounds -/
/-! pairs -/
def lt2 (p q : Int × Int) : Prop := p.1 < q.1 ∨ p.1 = q.1 ∧ p.2 < q.2
instance (p q : Int × Int) : Decidable (lt2 p q) := by unfold lt2; infer_instance
theorem lt2_irrefl {p : Int × Int} (h : lt2 p p) : False := by
  unfold lt2 at h
  omega
/-- a pair as a tuple at an address -/
abbrev Pr := Addr × Int × Int
abbrev Ris2 (l : List Pr) : Prop := l.Pairwise fun p q => lt2 p.2 q.2
theorem Ris2.nd {l : List Pr} (r : Ris2 l) : (l.map (·.2)).Nodup := by
  unfold List.Nodup
  rw [List.pairwise_map]
  exact r.imp fun {p q} h e => by rw [e] at h; exact lt2_irrefl h
abbrev ky2 (q : Int × Int) : List Key := [Sum.inl q.1, Sum.inl q.2]
/-! a list of pairs against [] -/
def Pr.dat (e : Pr) : PyData := .tuple [.int e.2.1, .int e.2.2]
end G7

set_option linter.all false
set_option Elab.async false
set_option maxRecDepth 100000
set_option maxHeartbeats 4000000
namespace G7
open PySem PySem.Spec PyProof.Rows L2
/-! ### data of any depth, in tuples and lists, truth values too -/
inductive Dx where
  | non
  | bl (b : Bool)
  | int (i : Int)
  | str (s : Str)
  | tup (l : List Dx)
  | lst (l : List Dx)
mutual
def RX (H : Hp) : V → Dx → Prop
  | v, .non => v = .non
  | v, .bl b => v = .bl b
  | v, .int i => v = .int i
  | v, .str s => v = .str s
  | v, .tup ds => ∃ a us, v = .ref a ∧ (H a = some (.tup us) ∨ ∃ o : Obj, H a = some (.frz o (.tup us))) ∧ RXs H us ds
  | v, .lst ds => ∃ a us, v = .ref a ∧ H a = some (.lst us) ∧ RXs H us ds
def RXs (H : Hp) : List V → List Dx → Prop
  | [], [] => True
  | u :: us, d :: ds => RX H u d ∧ RXs H us ds
  | _, _ => False
end
mutual
def Dx.fits (m : Nat) : Dx → Prop
  | .tup ds => ds.length ≤ m ∧ Dx.fitsL m ds
  | .lst ds => ds.length ≤ m ∧ Dx.fitsL m ds
  | _ => True
def Dx.fitsL (m : Nat) : List Dx → Prop
  | [] => True
  | d :: r => Dx.fits m d ∧ Dx.fitsL m r
end
mutual
def Dx.deep : Dx → Nat
  | .tup ds => Dx.deepL ds + 1
  | .lst ds => Dx.deepL ds + 1
  | _ => 0
def Dx.deepL : List Dx → Nat
  | [] => 0
  | d :: r => max (Dx.deep d) (Dx.deepL r)
end
theorem RXs.len {H : Hp} : ∀ {us : List V} {ds : List Dx}, RXs H us ds → us.length = ds.length
  | [], [], _ => rfl
  | u :: us, d :: ds, h => by
    have h : RX H u d ∧ RXs H us ds := by simpa only [RXs] using h
    rw [List.length_cons, List.length_cons, RXs.len h.2]
  | [], d :: ds, h => by simp only [RXs] at h
  | u :: us, [], h => by simp only [RXs] at h
theorem RXs.at {H : Hp} : ∀ {us : List V} {ds : List Dx} {i : Nat} {d : Dx}, RXs H us ds → ds[i]? = some d → ∃ u, us[i]? = some u ∧ RX H u d
  | [], [], _, _, _, e => by cases e
  | u :: us, d :: ds, 0, d', h, e => by
    have h : RX H u d ∧ RXs H us ds := by simpa only [RXs] using h
    cases e
    exact ⟨u, rfl, h.1⟩
  | u :: us, d :: ds, i + 1, d', h, e => by
    have h : RX H u d ∧ RXs H us ds := by simpa only [RXs] using h
    exact RXs.at (us := us) (ds := ds) (i := i) h.2 (by simpa using e)
  | [], d :: ds, _, _, h, _ => by simp only [RXs] at h
  | u :: us, [], _, _, h, _ => by simp only [RXs] at h
theorem Dx.fitsL_at {m : Nat} : ∀ {ds : List Dx} {i : Nat} {d : Dx}, Dx.fitsL m ds → ds[i]? = some d → Dx.fits m d
  | [], _, _, _, e => by cases e
  | d :: ds, 0, d', h, e => by
    cases e
    exact h.1
  | d :: ds, i + 1, d', h, e => Dx.fitsL_at h.2 e
theorem Dx.deepL_at : ∀ {ds : List Dx} {i : Nat} {d : Dx}, ds[i]? = some d → Dx.deep d ≤ Dx.deepL ds
  | [], _, _, e => by cases e
  | d :: ds, 0, d', e => by
    cases e
    exact Nat.le_max_left _ _
  | d :: ds, i + 1, d', e => Nat.le_trans (Dx.deepL_at (ds := ds) e) (Nat.le_max_right _ _)
mutual
theorem RX.same {H H' : Hp} (k : Same H H') : ∀ {d : Dx} {v : V}, RX H v d → RX H' v d
  | .non, _, h => by simpa only [RX] using h
  | .bl _, _, h => by simpa only [RX] using h
  | .int _, _, h => by simpa only [RX] using h
  | .str _, _, h => by simpa only [RX] using h
  | .tup ds, v, h => by
    simp only [RX] at h ⊢
    obtain ⟨a, us, e, h1, h2⟩ := h
    exact ⟨a, us, e, h1.imp (fun h => k _ _ h) (fun ⟨o, h⟩ => ⟨o, k _ _ h⟩), RXs.same k h2⟩
  | .lst ds, v, h => by
    simp only [RX] at h ⊢
    obtain ⟨a, us, e, h1, h2⟩ := h
    exact ⟨a, us, e, k _ _ h1, RXs.same k h2⟩
theorem RXs.same {H H' : Hp} (k : Same H H') : ∀ {ds : List Dx} {us : List V}, RXs H us ds → RXs H' us ds
  | [], [], h => by simp only [RXs]
  | d :: ds, u :: us, h => by
    simp only [RXs] at h ⊢
    exact ⟨RX.same k h.1, RXs.same k h.2⟩
  | d :: ds, [], h => by simp only [RXs] at h
  | [], u :: us, h => by simp only [RXs] at h
end
theorem rx_str {H : Hp} (s : Str) : RX H (.str s) (.str s) := by simp only [RX]
theorem rx_int {H : Hp} (s : Int) : RX H (.int s) (.int s) := by simp only [RX]
theorem rx_non {H : Hp} : RX H .non .non := by simp only [RX]
theorem rx_tup {H : Hp} {a : Addr} {us : List V} {ds : List Dx} (h : H a = some (.tup us)) (r : RXs H us ds) : RX H (.ref a) (.tup ds) := by
  simp only [RX]
  exact ⟨a, us, rfl, .inl h, r⟩
theorem rxs_nil {H : Hp} : RXs H [] [] := by simp only [RXs]
theorem rxs_cons {H : Hp} {u : V} {us : List V} {d : Dx} {ds : List Dx} (h : RX H u d) (r : RXs H us ds) : RXs H (u :: us) (d :: ds) := by
  simp only [RXs]
  exact ⟨h, r⟩
theorem rxs_map {α : Type} {H : Hp} {f : α → V} {g : α → Dx} : ∀ {l : List α}, (∀ x ∈ l, RX H (f x) (g x)) → RXs H (l.map f) (l.map g)
  | [], _ => rxs_nil
  | x :: r, h => rxs_cons (h x List.mem_cons_self) (rxs_map fun y hy => h y (List.mem_cons_of_mem _ hy))
/-- an item of a list or of a tuple -/
def rIxLT : R2 := fun x y H Q => ∃ p xs i v, x = .ref p ∧ y = .int i ∧ (lsO (H p) = some xs ∨ tpO (H p) = some xs) ∧ atI xs i = some v ∧ Q v H
theorem ix_lt {X : Cx} : IxR X rIxLT := fun a b p s σ H x y v u Q I rx ry ⟨q, xs, i, w, e1, e2, h, e, k⟩ => by
  rcases h with h | h
  · exact ix_lst a b p s σ H x y v u Q I rx ry ⟨q, xs, i, w, e1, e2, h, e, k⟩
  · exact ix_tp a b p s σ H x y v u Q I rx ry ⟨q, xs, i, w, e1, e2, h, e, k⟩
def cLenLT : List V → Hp → VK → Prop := fun vs H Q => ∃ p xs, vs = [.ref p] ∧ (lsO (H p) = some xs ∨ tpO (H p) = some xs) ∧ Q (.int (xs.length : Int)) H
theorem len_lt {X : Cx} : CallR X (.builtin "len") cLenLT := callImp call_len_seq fun vs H Q ⟨p, xs, e, h, q⟩ => ⟨p, xs, e, h.elim (fun h => .inl (.inl (rd_lsO h))) (fun h => .inr (.inl (rd_tpO h))), q⟩
end G7

set_option linter.all false
set_option Elab.async false
set_option maxRecDepth 100000
set_option maxHeartbeats 4000000
/-! days as texts: rows that are so, by the program's look and by the law's; what is written is read -/
namespace D72
open PySem TL
abbrev figs : Str := "0123456789"
def fig (c : Nat) : Bool := decide (48 ≤ c) && decide (c ≤ 57)
theorem fig_iff {c : Nat} : fig c = true ↔ 48 ≤ c ∧ c ≤ 57 := by simp [fig]
theorem takeWhile_all {α : Type} {p : α → Bool} : ∀ {l : List α}, l.all p = true → l.takeWhile p = l
  | [], _ => rfl
  | x :: l, h => by
    rw [List.all_cons, Bool.and_eq_true] at h
    rw [List.takeWhile_cons_of_pos h.1, takeWhile_all h.2]
/-- a word that is a number -/
def isNum (w : Str) : Bool := decide (1 ≤ w.length) && decide (w.length ≤ 3) && (tl w).all fig && (decide (w = "0") || decide ((tl w).head? ≠ some 48))
theorem one_zero {c : Nat} : ((⟨#[c]⟩ : Str) = "0") ↔ c = 48 := by
  have e : ("0" : Str) = ⟨#[48]⟩ := by decide +kernel
  rw [e]
  constructor
  · intro h
    have z := congrArg tl h
    exact (List.cons.inj z).1
  · rintro rfl
    rfl
theorem tl_head {w : Str} (h : 1 ≤ w.length) : ∃ c r, tl w = c :: r := by
  cases e : tl w with
  | nil =>
    have z := len_tl w
    rw [e] at z
    rw [z] at h
    cases h
  | cons c r => exact ⟨c, r, rfl⟩
def numIn (w : Str) : Int := if isNum w = true then (NumText.digitsVal (tl w) : Nat) else -1
theorem num_text {w : Str} (h : isNum w = true) : PySem.intText? w = some ((NumText.digitsVal (tl w) : Nat) : Int) := by
  unfold isNum at h
  simp only [Bool.and_eq_true, decide_eq_true_eq] at h
  obtain ⟨⟨⟨h1, h2⟩, h3⟩, _⟩ := h
  refine PySem.intText_digits (fun c hc => fig_iff.mp (List.all_eq_true.mp h3 c hc)) (fun e => ?_) (by omega)
  have z : (tl w).length = 0 := congrArg List.length e
  rw [len_tl] at h1
  omega
structure Deed where
  word : Str
  nums : List Int
  text : Str
def forms : List (Str × Nat) := [("come", 1), ("lose", 1), ("takeover", 1), ("beat", 1), ("checkpoint", 1), ("fall", 1), ("rise", 2), ("arm", 2), ("turn", 2), ("found", 1), ("letters", 0), ("leaders", 0), ("known", 1), ("log", 1), ("dealings", 1), ("shown", 1)]
def many (w : Str) : Option Nat := (forms.find? fun e => decide (e.1 = w)).map (·.2)
abbrev sp : Str := " "
abbrev nl : Str := "\n"
def first : List Str → Int
  | [] => -1
  | r :: _ => numIn r
def deedW : List Str → Option Deed
  | [] => none
  | word :: rest => if word = "ask" then
      if 0 ≤ first rest ∧ Txt.join sp (rest.drop 1) ≠ Str.empty then some ⟨word, [first rest], Txt.join sp (rest.drop 1)⟩ else none
    else if many word = some rest.length ∧ -1 ∉ rest.map numIn then some ⟨word, rest.map numIn, Str.empty⟩ else none
def deedIn (line : Str) : Option Deed := deedW (Txt.split line sp)
def rowW : List Str → Bool
  | [] => false
  | word :: rest => if word = "ask" then (match rest with | [] => false | r :: q => decide (q ≠ []) && isNum r && decide (Txt.join sp q ≠ Str.empty)) else decide (many word = some rest.length) && rest.all isNum
def isRow (line : Str) : Bool := rowW (Txt.split line sp)
/-! what is written is read -/
def strI (n : Int) : Str := Str.ofString (toString n)
theorem tl_strI {n : Int} (h : 0 ≤ n) : tl (strI n) = numL n.toNat := by
  have z := tl_num n.toNat
  rw [Int.toNat_of_nonneg h] at z
  exact z
theorem numL_head : ∀ n : Nat, n < 1000 → n ≠ 0 → (numL n).head? ≠ some 48 := by
  have z : (List.range 1000).all (fun n => n == 0 || (numL n).head? != some 48) = true := by decide +kernel
  intro n hn h0
  have y := List.all_eq_true.mp z n (List.mem_range.mpr hn)
  simpa [h0] using y
theorem isNum_str {n : Int} (h0 : 0 ≤ n) (h1 : n < 1000) : isNum (strI n) = true := by
  have e := tl_strI h0
  have l1 : (strI n).length ≤ 3 := by
    rw [len_tl, e]
    exact numL_len (by decide) (by omega)
  have l2 : 1 ≤ (strI n).length := by
    rw [len_tl, e]
    exact List.length_pos_iff.mpr (numL_ne _)
  unfold isNum
  rw [decide_eq_true l1, decide_eq_true l2, List.all_eq_true.mpr (fun c hc => fig_iff.mpr (by rw [e] at hc; exact numL_digits _ c hc))]
  by_cases c : n = 0
  · subst c
    decide +kernel
  · rw [decide_eq_true (show (tl (strI n)).head? ≠ some 48 by rw [e]; exact numL_head _ (by omega) (by omega))]
    simp
theorem numIn_str {n : Int} (h0 : 0 ≤ n) (h1 : n < 1000) : numIn (strI n) = n := by
  unfold numIn
  rw [if_pos (isNum_str h0 h1), tl_strI h0, numL_val]
  omega
theorem spl_ne (S : List Nat) : ∀ (l : List Nat) (k : Nat) (acc : List Nat), spl S k acc l ≠ []
  | [], k, acc => by rw [spl_nil]; simp
  | c :: r, 0, acc => by
    by_cases h : pre S (c :: r) = true
    · rw [spl_hit h]; simp
    · rw [spl_miss (by simpa using h)]; exact spl_ne S r 0 _
  | c :: r, k + 1, acc => spl_ne S r k acc
theorem join_spl (s : Nat) : ∀ (l acc : List Nat), joinL [s] (spl [s] 0 acc l) = acc ++ l
  | [], acc => by rw [spl_nil, List.append_nil]; rfl
  | c :: r, acc => by
    by_cases h : pre [s] (c :: r) = true
    · have hc : c = s := by
        have z : (c :: r).take 1 = [s] := eq_of_beq h
        rw [List.take_succ_cons, List.take_zero] at z
        exact List.cons.inj z |>.1
      rw [spl_hit h]
      have ih := join_spl s r []
      have ne := spl_ne [s] r 0 []
      show joinL [s] (acc :: spl [s] 0 [] r) = _
      cases hs : spl [s] 0 [] r with
      | nil => exact (ne hs).elim
      | cons q t =>
        rw [hs] at ih
        show acc ++ ([s] ++ joinL [s] (q :: t)) = _
        rw [ih, hc]
        rfl
    · rw [spl_miss (by simpa using h), join_spl s r (acc ++ [c]), List.append_assoc]
      rfl
theorem tl_sp : tl sp = [32] := by decide +kernel
theorem split_tl (x : Str) : (Txt.split x sp).map tl = spl [32] 0 [] (tl x) := by
  have z := split_spl x sp (by rw [tl_sp]; simp) (kind_ok (by decide +kernel))
  rw [tl_sp] at z
  exact z
theorem join_split (x : Str) : Txt.join sp (Txt.split x sp) = x := by
  refine ext_tl ?_
  rw [join_eq, tl_join, tl_sp, split_tl, join_spl, List.nil_append]
def rowOf (d : Deed) : Str := Txt.join sp (d.word :: (d.nums.map strI ++ if d.word = "ask" then [d.text] else []))
structure GdD (d : Deed) : Prop where
  nums : ∀ n ∈ d.nums, 0 ≤ n ∧ n < 1000
  ask : d.word = "ask" → (∃ n, d.nums = [n]) ∧ d.text ≠ Str.empty ∧ 10 ∉ tl d.text
  form : d.word ≠ "ask" → many d.word = some d.nums.length ∧ d.text = Str.empty
theorem many_word {w : Str} {n : Nat} (h : many w = some n) : 32 ∉ tl w ∧ 10 ∉ tl w ∧ tl w ≠ [] := by
  obtain ⟨e, he, _⟩ := Option.map_eq_some_iff.mp h
  have hw : e.1 = w := by simpa using List.find?_some he
  have z : forms.all (fun e => decide (32 ∉ tl e.1 ∧ 10 ∉ tl e.1 ∧ tl e.1 ≠ [])) = true := by decide +kernel
  have y := List.all_eq_true.mp z e (List.mem_of_find?_eq_some he)
  rw [hw] at y
  exact of_decide_eq_true y
theorem ask_word : 32 ∉ tl ("ask" : Str) ∧ 10 ∉ tl ("ask" : Str) ∧ tl ("ask" : Str) ≠ [] := by decide +kernel
theorem strI_free {n : Int} (h : 0 ≤ n) {s : Nat} (hs : s < 48 ∨ 57 < s) : s ∉ tl (strI n) := by
  rw [tl_strI h]
  exact numL_free hs
theorem mem_joinL {c s : Nat} (hc : c ≠ s) : ∀ {ps : List (List Nat)}, (∀ p ∈ ps, c ∉ p) → c ∉ joinL [s] ps
  | [], _ => by simp [joinL]
  | [p], h => h p List.mem_cons_self
  | p :: q :: r, h => by
    show c ∉ p ++ ([s] ++ joinL [s] (q :: r))
    simp only [List.mem_append, List.mem_singleton, not_or]
    exact ⟨h p List.mem_cons_self, hc, mem_joinL hc fun x hx => h x (List.mem_cons_of_mem _ hx)⟩
theorem GdD.row {d : Deed} (G : GdD d) : deedIn (rowOf d) = some d ∧ 10 ∉ tl (rowOf d) ∧ tl (rowOf d) ≠ [] := by
  obtain ⟨word, nums, text⟩ := d
  by_cases c : word = "ask"
  · obtain ⟨⟨n, hn⟩, ht, hnl⟩ := G.ask c
    have hn : nums = [n] := hn
    subst hn
    have h01 := G.nums n List.mem_cons_self
    have c : word = "ask" := c
    subst c
    have e : rowOf ⟨"ask", [n], text⟩ = Txt.join sp [("ask" : Str), strI n, text] := by
      unfold rowOf
      rw [if_pos rfl]
      rfl
    have et : tl (rowOf ⟨"ask", [n], text⟩) = tl ("ask" : Str) ++ ([32] ++ (tl (strI n) ++ ([32] ++ tl text))) := by
      rw [e, join_eq, tl_join, tl_sp]
      rfl
    have es : Txt.split (rowOf ⟨"ask", [n], text⟩) sp = ("ask" : Str) :: strI n :: Txt.split text sp := by
      refine map_tl_inj ?_
      rw [split_tl, et, List.map_cons, List.map_cons, split_tl]
      rw [spl_part1 (S := []) ask_word.1, spl_part1 (S := []) (strI_free h01.1 (by omega))]
      rfl
    refine ⟨?_, ?_, ?_⟩
    · unfold deedIn
      rw [es]
      unfold deedW
      dsimp only
      rw [if_pos rfl]
      show (if 0 ≤ numIn (strI n) ∧ Txt.join sp (Txt.split text sp) ≠ Str.empty then some (Deed.mk "ask" [numIn (strI n)] (Txt.join sp (Txt.split text sp))) else none) = _
      rw [join_split, numIn_str h01.1 h01.2, if_pos ⟨h01.1, ht⟩]
    · rw [et]
      simp only [List.mem_append, List.mem_singleton, not_or]
      exact ⟨ask_word.2.1, by decide, strI_free h01.1 (by omega), by decide, hnl⟩
    · rw [et]
      simp [ask_word.2.2]
  · obtain ⟨hm, ht⟩ := G.form c
    have hm : many word = some nums.length := hm
    have ht : text = Str.empty := ht
    subst ht
    have c : word ≠ "ask" := c
    obtain ⟨w1, w2, w3⟩ := many_word hm
    have e : rowOf ⟨word, nums, Str.empty⟩ = Txt.join sp (word :: nums.map strI) := by
      unfold rowOf
      rw [if_neg c, List.append_nil]
    have fr : ∀ s : Nat, s ∉ tl word → (s < 48 ∨ 57 < s) → ∀ p ∈ word :: nums.map strI, s ∉ tl p := fun s hs hr p hp => by
      rcases List.mem_cons.mp hp with rfl | hp
      · exact hs
      · obtain ⟨n, hn, rfl⟩ := List.mem_map.mp hp
        exact strI_free (G.nums n hn).1 hr
    have es : Txt.split (rowOf ⟨word, nums, Str.empty⟩) sp = word :: nums.map strI := by
      rw [e]
      exact split_join tl_sp (by decide +kernel) (by simp) (fr 32 w1 (by omega))
    have en : (nums.map strI).map numIn = nums := by
      rw [List.map_map]
      exact (List.map_congr_left fun n hn => numIn_str (G.nums n hn).1 (G.nums n hn).2).trans (List.map_id _)
    have et : tl (rowOf ⟨word, nums, Str.empty⟩) = joinL [32] ((word :: nums.map strI).map tl) := by
      rw [e, join_eq, tl_join, tl_sp]
    refine ⟨?_, ?_, ?_⟩
    · unfold deedIn
      rw [es]
      unfold deedW
      dsimp only
      rw [if_neg c, en, List.length_map, if_pos ⟨hm, fun h => by have := (G.nums _ h).1; omega⟩]
    · rw [et]
      refine mem_joinL (by decide) fun p hp => ?_
      obtain ⟨x, hx, rfl⟩ := List.mem_map.mp hp
      exact fr 10 w2 (by omega) x hx
    · rw [et]
      cases nums with
      | nil => exact w3
      | cons n r =>
        show tl word ++ _ ≠ []
        simp [w3]
/-! rows of a text -/
/-- the first row that is no deed -/
def bad (rs : List Str) : Option Nat := rs.findIdx? fun r => !isRow r
end D72

set_option linter.all false
set_option Elab.async false
set_option maxRecDepth 100000
set_option maxHeartbeats 4000000
/-! an own error made by keywords alone: C(k = v), C's own __init__ walked; StoreError.__init__(self, x) in it -/
namespace PySem
namespace HandSPX
open Builtin Builtin.ObjectAttr
section
variable {M : Model} {A : Around} {E : Value → Shared → Prop} {h : Heap} {g : Array GenState} {d : Drawn} {t : Nat} {os : OsState}
variable {nm q : Str} {C N : Addr} {bs bm bmB : List Value} {hdct : Bool} {sn : List Str} {sub : List Value} {ab : Bool} {col : Option Bool} {dd : Option Addr} {k0 k1 k2 k3 k5 : Option Value} {B newId initId : String}
theorem check_new_kw (F : ExcBaseFacts B newId initId bmB) (hT : ∀ X : String, bm.contains (.type X) = bmB.contains (.type X)) {rest : List Value} {kws : List (Str × Value)} {Q : Unit → Shared → Prop}
    (hC : h.get? C = some (excClassObj nm q C N bs bm hdct sn sub ab col dd k0 k1 k2 k3 k5 newId)) (hq : Q () ⟨h, g, d, t, os⟩) : wpAny M A (checkBuiltinCall newId ⟨.ref C :: rest, kws⟩) Q E ⟨h, g, d, t, os⟩ := by
  have hcont : (Value.ref C :: bm).contains (.type B) = true := by rw [List.contains_cons, hT, F.hasB, Bool.or_true]
  have hstar := F.noStar
  simp only [checkBuiltinCall, F.newKind, F.newSplit, F.newRow]
  repeat (first | refine wpAny_loadPart_at hC ?_ | (refine wpAny_isSubtype_exc hC ?_; rw [hcont]) | refine wpAny_staticBase_exc hC ?_ | refine wpAny_madeBy_exc hC ?_ | simp only [bne_self_eq_false, Bool.false_eq_true, if_false] | wp_step)
  exact hq
end
section
variable {prog : Program} {w : World} {A : Around} {E : Value → Shared → Prop} {R : Result → Shared → Prop} {h : Heap} {g : Array GenState} {d : Drawn} {t : Nat} {os : OsState}
variable {nm q : Str} {C N : Addr} {bs bm bmB : List Value} {hdct : Bool} {sn : List Str} {sub : List Value} {ab : Bool} {col : Option Bool} {dd : Option Addr} {k0 k1 k2 k3 k5 : Option Value} {B newId initId : String}
theorem new_kw (F : ExcBaseFacts B newId initId bmB) (hT : ∀ X : String, bm.contains (.type X) = bmB.contains (.type X)) {rest : List Value} {kws : List (Str × Value)}
    (hC : h.get? C = some (excClassObj nm q C N bs bm hdct sn sub ab col dd k0 k1 k2 k3 k5 newId))
    (hq : R (.ok (.ret (.ref (h.objs.size + 1)))) ⟨(h.push { cls := .type "tuple", data := .seq rest.toArray }).push
      { cls := .ref C, data := .fields #[.ref h.objs.size, .none, .none, .none, .bool false, .none] }, g, d, t, os⟩) (hrest : rest.length ≤ sizeLine) :
    codeAny (model prog w) A (.builtin newId ⟨.ref C :: rest, kws⟩) R ⟨h, g, d, t, os⟩ := by
  have hends := F.ends
  have hcB : (Value.ref C :: bm).contains (.type B) = true := by rw [List.contains_cons, hT, F.hasB, Bool.or_true]
  have hcA : (Value.ref C :: bm).contains (.type "AttributeError") = false := by rw [List.contains_cons, hT, F.noAttr]; rfl
  have hcN : (Value.ref C :: bm).contains (.type "NameError") = false := by rw [List.contains_cons, hT, F.noName]; rfl
  refine codeAny_builtinAt F.entry ?_
  unfold Builtin.«BaseException.__new__»
  refine wpAt_bind ?_
  show wpAt _ _ _ (stack >>= _) _ _ _
  refine wpAt_bind (wpAt_stack fun p below => wpAt_of_wpAny ?_)
  wp_walk
  refine wpAt_of_wpAny ?_
  rw [F.owner]
  repeat (first | with_reducible refine wpAny_madeHere_exc F.canon hC ?_ | with_reducible refine wpAny_loadPart_at hC ?_ | (with_reducible refine wpAny_isSubtype_exc hC ?_; first | rw [hcB] | rw [hcA] | rw [hcN]) | wp_step)
  show R _ _
  rw [Heap.size_push]
  exact hq
theorem type_call_kw (F : ExcBaseFacts B newId initId bmB) (hT : ∀ X : String, bm.contains (.type X) = bmB.contains (.type X)) {rest : List Value} {kws : List (Str × Value)} {fI : Addr} {Q : Fin → Shared → Prop}
    (hC : h.get? C = some (excClassObj nm q C N bs bm hdct sn sub ab col dd k0 k1 k2 k3 k5 newId))
    (hi : W.Looks (model prog w) h (typeLookup (.ref C) "__init__") (some (.ref fI))) (hb : ∀ self, W.Looks (model prog w) h (bindSpecial (.ref fI) self) (.ref fI, [self])) (hrest : rest.length ≤ sizeLine)
    (hq : codeAny (model prog w) A (.call (.ref fI) ⟨.ref (h.objs.size + 1) :: rest, kws⟩)
      (fun r s' => match r with | .ok (.ret v) => v = .none ∧ Q (.done (.ret (.ref (h.objs.size + 1)))) s' | .ok _ => False | .error e => E e s')
      ⟨(h.push (W.kdv_tup rest)).push (excO C h.objs.size), g, d, t, os⟩) :
    wpAny (model prog w) A (Builtin.«type.__call__» ⟨.ref C :: rest, kws⟩) Q E ⟨h, g, d, t, os⟩ := by
  repeat (first | with_reducible refine wpAny_loadPart_at hC ?_ | with_reducible refine wpAny_madeBy_exc hC ?_ | wp_step)
  refine codeAny_call_builtin_code (Code.quiet_builtin _ F.quiet) (check_new_kw F hT hC ?_)
  refine new_kw F hT hC ?_ hrest
  show wpAny _ _ _ _ _ _
  have k : ∀ b o, h.get? b = some o → ((h.push (W.kdv_tup rest)).push (excO C h.objs.size)).get? b = some o := fun b o e => Heap.get?_push_of_some _ (Heap.get?_push_of_some _ e)
  have hC₁ := k _ _ hC
  have hget : ((h.push (W.kdv_tup rest)).push (excO C h.objs.size)).get? (h.objs.size + 1) = some (excO C h.objs.size) := by heap_get
  have hcC : (Value.ref C :: bm).contains (.ref C) = true := by simp
  have i1 := hi.keeps k
  have b1 := (hb (.ref (h.objs.size + 1))).keeps k
  unfold isInstance
  repeat (first | with_reducible refine wpAny_loadPart_at hget ?_ | (with_reducible refine wpAny_isSubtype_exc hC₁ ?_; rw [hcC]) | wp_step)
  show wpAny _ _ (typeLookup (.ref C) _) _ _ _
  refine i1.at ?_
  refine wpAny_holding (wpAny_bind (b1.at ?_))
  refine wpAny_bind (wpAny_call (codeAny_mono hq fun r s' z => ?_))
  rcases r with e | (v | _ | _ | _) <;> first | exact z | exact z.elim | skip
  obtain ⟨rfl, z⟩ := z
  first
    | exact wpAny_pure (wpAny_pure z)
    | (wp_walk; exact z)
theorem call_kw (F : ExcBaseFacts B newId initId bmB) (hT : ∀ X : String, bm.contains (.type X) = bmB.contains (.type X)) {rest : List Value} {kws : List (Str × Value)} {fI : Addr}
    (hC : h.get? C = some (excClassObj nm q C N bs bm hdct sn sub ab col dd k0 k1 k2 k3 k5 newId))
    (hi : W.Looks (model prog w) h (typeLookup (.ref C) "__init__") (some (.ref fI))) (hb : ∀ self, W.Looks (model prog w) h (bindSpecial (.ref fI) self) (.ref fI, [self])) (hrest : rest.length ≤ sizeLine)
    (hq : codeAny (model prog w) (A.under (.builtin "type.__call__" ⟨.ref C :: rest, kws⟩)) (.call (.ref fI) ⟨.ref (h.objs.size + 1) :: rest, kws⟩) (W.InitBack (h.objs.size + 1) R)
      ⟨(h.push (W.kdv_tup rest)).push (excO C h.objs.size), g, d, t, os⟩) :
    codeAny (model prog w) A (.call (.ref C) ⟨rest, kws⟩) R ⟨h, g, d, t, os⟩ := by
  have f1 := tc_lookup
  have f2 := tc_bind (.ref C)
  have hTy : (⟨h, g, d, t, os⟩ : Shared).TypeIs (.ref C) "type" := ⟨_, hC, rfl⟩
  refine codeAny_of_tree ?_
  show wpAny _ _ (callAny (.ref C) _) _ _ _
  repeat (any_goals (first | assumption | with_reducible refine wpAny_loadPart_at hC ?_ | wp_step))
  refine ⟨rfl, ?_⟩
  refine codeAny_call_builtin_at (Code.quiet_builtin _ (by decide +kernel)) entry_typeCall (wpAny_check_type_call_sub hC (type_call_kw F hT hC hi hb hrest ?_))
  refine codeAny_mono hq fun r s' z => ?_
  rcases r with e | (v | _ | _ | _) <;> exact z
end
end HandSPX
end PySem
namespace G7
open PySem PySem.Spec PyProof.Rows L2
/-- C(k = e, ..), C's own __init__ keeping sp -/
def tMkK (C : Addr) (m : Nat) (sp : Sp) (gV : List V → List V → List V) (tk : TA) : L2.St → Hp → XK → Prop := fun σ H Q => tk σ H fun zs H1 => zs.length = m ∧ ∀ a, H1 a = none → sp (gV [.ref a] zs) (upd H1 a (exo a C none))
  (fun v H2 => v = .non ∧ ∃ (d : Addr) (fs : List (Str × V)), H2 a = some (exo a C (some d)) ∧ H2 d = some (exd d fs) ∧ H1 d = none ∧ Q (.ref C) (some d) (upd (del H2 a) d (.xd fs))) (fun _ _ _ => False)
section
variable {X : Cx} {e : Expr} {es : List Expr} {kws : List Keyword} {ta tk : TA} {p p1 p2 pos : Pos}
theorem pmk_kw {CX : CXT} {x : Str} {C fI : Addr} {k : Nat} {fd : FuncData} {ps ks : List Str} {sp : Sp} {g : List Value → List Value → List Value} {gV : List V → List V → List V} (T : OexC X.K C) (iC : PySem.W.findIn X.K (.ref C) "__init__" = some (some (.ref fI))) (tI : PySem.W.typeIn X.K (.ref fI) = some (.type "function"))
    (F1 : FnOk X.prog X.w X.K X.mg X.base CX k fI fd ps sp) (hr : Room (k + 1) X.A) (hb : KBn X.K fd ps 1 ks g gV) (hx : Passes CX X (fun _ _ _ => False)) (hg : Gl X x) (hm : X.mg x = some (.ref C)) (hkw : PK X kws tk)
    (hall : (backToKw pos (keywordEach kws X.env)).all (·.1.isSome) = true := by rfl) (hks : (backToKw pos (keywordEach kws X.env)).filterMap (·.1) = ks := by rfl) (hdb : (x == ("__debug__" : Str)) = false := by decide)
    (hpl : ((backTo pos (starEach [] X.env)).any (·.1) || (backToKw pos (keywordEach kws X.env)).any (·.1.isNone)) = false := by rfl) :
    PMk X (.Call (.Name x p) [] kws pos) (tMkK C ks.length sp gV tk) := by
  intro pins s σ H Q I h
  obtain ⟨nm, q, N, bs, bm, sn, sub, ab, col, dd, k0, k1, k2, k3, k5, hC, hbm⟩ := T.cls
  refine wpAny_Call_Name_kw (ld_glob I hg hm ?_ hdb)
  refine PySem.W.callWith_KW0 (h₀ := X.base) I.ok.mod.kin T.kC hall ?_ hpl
  refine thn (hkw.run pos pins s σ H _ I h) fun ws s1 ⟨zs, H1, I1, rz, hlz, q1⟩ => ⟨I1.kIn, ?_⟩
  rw [hks]
  show wpAny _ _ (call (.ref C) [] (ks.zip ws)) _ _ _
  obtain ⟨hp, gn, dr, tt, os⟩ := s1
  have hsz : hp.objs.size ≤ hp.objs.size + 1 := Nat.le_succ _
  have hn : H1 (hp.objs.size + 1) = none := I1.hok.fresh hsz
  have hq := q1 (hp.objs.size + 1) hn
  have kk : ∀ b o, hp.get? b = some o → ((hp.push (PySem.W.kdv_tup [])).push (PySem.HandSPX.excO C hp.objs.size)).get? b = some o := fun b o e => Heap.get?_push_of_some _ (Heap.get?_push_of_some _ e)
  have hget : ((hp.push (PySem.W.kdv_tup [])).push (PySem.HandSPX.excO C hp.objs.size)).get? (hp.objs.size + 1) = some (PySem.HandSPX.excO C hp.objs.size) := by heap_get
  have I2 : Inv X pins σ (upd H1 (hp.objs.size + 1) (exo (hp.objs.size + 1) C none)) ⟨(hp.push (PySem.W.kdv_tup [])).push (PySem.HandSPX.excO C hp.objs.size), gn, dr, tt, os⟩ :=
    I1.laid (t' := tt) (a := hp.objs.size + 1) (o := exo (hp.objs.size + 1) C none) (h' := (hp.push (PySem.W.kdv_tup [])).push (PySem.HandSPX.excO C hp.objs.size)) kk hsz (exo_ok hget)
  have r1 : Vals [V.ref (hp.objs.size + 1)] [Value.ref (hp.objs.size + 1)] := .cons rfl .nil
  have r2 := hb.rel r1 rz
  have l2 : ws.length = ks.length := rz.length.symm.trans hlz
  refine wpAny_call (PySem.HandSPX.call_kw F.excBase_ValueError (fun Y => PySem.HandSPX.refsVE_contains Y bm hbm) (I1.kIn _ _ hC) (PySem.W.looks_findIn I1.kIn iC) (fun self => PySem.W.bind_fn I1.kIn self tI) (Nat.zero_le _)
    (codeAny_mono (F1.run _ X.stack _ _ ⟨[Value.ref (hp.objs.size + 1)], ks.zip ws⟩ (g [Value.ref (hp.objs.size + 1)] ws) _ _ (fun _ _ _ => False) (hr.make C [] (ks.zip ws)) (I2.env0.make C [] (ks.zip ws)) (hb.to _ [Value.ref (hp.objs.size + 1)] ws I2.kIn rfl l2) r2 hq) fun r s' hq' => ?_))
  cases r with
  | error er => exact hx pins σ _ _ er s' I2 hq'
  | ok fl =>
    cases fl with
    | ret u =>
      obtain ⟨v, H2, os2, bare2, un2, hok2, rv, ev, d, fs, ea, ed, hd1, q2⟩ := hq'
      subst ev
      obtain ⟨h2, g2, d2, t2, os'⟩ := s'
      exact ⟨rv, mk_end (raises_own T.exC T.tyC) I1 hsz kk un2 hok2 os2 bare2 ea ed hd1 q2⟩
    | next => exact False.elim hq'
    | brk => exact False.elim hq'
    | cont => exact False.elim hq'
/-- D.__init__(self, ..), D an own class above, without an own __init__ -/
theorem pe_sinit {x : Str} {D : Addr} {mc : Value} {pl : Sem Bool} (hg : Gl X x) (hm : X.mg x = some (.ref D)) (R : ClX.CRead X.K D mc) (vV : PySem.W.findCls X.K (.ref D) mc "__init__" = some (.val (.builtin "ValueError.__init__"))) (ha : PA X (e :: es) ta)
    (hc : eval (.Call (.Attribute (.Name x p1) "__init__" p2) (e :: es) [] pos) X.env = (do
      let ov ← eval (.Name x p1) X.env
      standAt p2.atName
      let (f, first) ← holding [ov] (getMethod ov "__init__" pl)
      callWith pos f first (backTo pos (starEach (e :: es) X.env)) (backToKw pos (keywordEach [] X.env))) := by rfl)
    (he : starEach (e :: es) X.env = (false, eval e X.env) :: starEach es X.env := by rfl) (hpl : (backTo pos (starEach es X.env)).any (·.1) = false := by rfl) (hdb : (x == ("__debug__" : Str)) = false := by decide) :
    PE X (.Call (.Attribute (.Name x p1) "__init__" p2) (e :: es) [] pos) (tVeI X.K ta) := by
  refine ⟨fun pins s σ H Q I h => ?_⟩
  refine PySem.W.methodCall_KW (ld_glob I hg hm ?_ hdb) hc
  refine PySem.W.method_cls I.kIn R.ga (PySem.W.cls_value I.kIn R.rd vV (by decide +kernel) ?_)
  show wpAny _ _ (callWith pos (Value.builtin "ValueError.__init__") [] (backTo pos (starEach (e :: es) X.env)) []) _ _ _
  refine PyProof.Rows.callWith_method1 (thn (ha.run pos pins _ σ H _ (I.tok _) h) fun us s1 ⟨vs, H1, I1, r1, a, C, ws, ev, hl, T, ea, q⟩ => ?_) he hpl
  subst ev
  cases r1 with
  | @cons _ u0 _ ur ra rw' =>
    obtain rfl : u0 = Value.ref a := ra
    have hlen : ur.length ≤ sizeLine := by
      rw [← Paired.length rw', sizeLine_eq]
      omega
    exact oinit_ok T I1 ea hlen fun s' J => ⟨.non, H1, J, rfl, q⟩
end
end G7

set_option linter.all false
set_option Elab.async false
set_option maxRecDepth 100000
set_option maxHeartbeats 4000000
/-! isinstance of a caught error that has fields of its own -/
namespace PySem.W
open PySem PySem.Spec PySem.Calls PyProof.Rows
section
variable {prog : Program} {w : World} {A : Around} {E : Value → Shared → Prop} {s : Shared} {K : Frag} {x D : Addr} {ox : Obj} {od : Option Obj}
end
end PySem.W
namespace G7
open PySem PySem.Spec PyProof.Rows L2
/-- isinstance(e, c), e the error that the suite holds, which has its dict -/
def rIsD (K : PySem.W.Frag) (cls : Value) (d : Option Addr) (a : Addr) : List V → Hp → VK → Prop := fun xs H Q => ∃ (D dd : Addr) (fs : List (Str × V)), cls = .ref D ∧ d = some dd ∧ H dd = some (.xd fs) ∧ ExcC K D ∧ ∃ (c : V) (cv : Value) (b : Bool), xs = [.ref a, c] ∧ (∀ u, RelV c u → u = cv) ∧ PySem.W.kitOne K (.ref D) cv = some b ∧ Q (.bl b) H
end G7

set_option linter.all false
set_option Elab.async false
set_option maxRecDepth 100000
set_option maxHeartbeats 4000000
/-! except x as n, several of them -/
namespace Td
open PySem PySem.Spec PyProof.Rows L2
/-- behind a clause its name is gone -/
def noName (i : Nat) (D : Ends) : Ends where
  nx := fun τ G => D.nx (τ.set i none) G
  rt := D.rt
  bk := fun τ G => D.bk (τ.set i none) G
  ct := fun τ G => D.ct (τ.set i none) G
abbrev ClT := Value × Nat × (Addr → Value → Option Addr → TS)
/-- what the clauses wish, in turn -/
def wCl (K : PySem.W.Frag) (W0 : WX) (D : Ends) : List ClT → WX
  | [] => W0
  | q :: r => fun cls d τ G => ∃ y : Bool, PySem.W.exmOne K cls q.1 = some y ∧
      (y = true → ∀ e, G e = none → q.2.2 e cls d (noName q.2.1 D) (τ.set q.2.1 (some (.ref e))) G) ∧
      (y = false → wCl K W0 D r cls d τ G)
inductive ClOk (X : Cx) : List ExceptHandler → List ClT → Prop
  | nil : ClOk X [] []
  | cons {x n : Str} {q : ClT} {s0 : Stmt} {ss : List Stmt} {p1 p2 : Pos} {hh : List ExceptHandler} {l : List ClT} (names : Names X x q.1) (at_ : X.N[q.2.1]? = some n) (loc : X.env.kindOf n = some .local)
      (suite : ∀ (e : Addr) (oe : Obj) (cls : Value) (d : Option Addr) (pn : List (Addr × Obj)), Zc cls d oe → (∃ vs, oe.data = .fields vs) →
        PSs (X.suite e ((e, oe) :: pn)) (s0 :: ss) (q.2.2 e cls d)) (rest : ClOk X hh l) : ClOk X (.ExceptHandler (some (.Name x p1)) (some n) (s0 :: ss) p2 :: hh) (q :: l)
section
variable {X : Cx} {hh : List ExceptHandler} {l : List ClT} {pins : List (Addr × Obj)} {W0 : WX} {D : Ends} {e : Addr} {B : Heap} {sI sx : Shared} {g : Heap} {τ : L2.St} {G : Hp} {cls : Value} {d : Option Addr}
/-- the clauses are asked in turn -/
theorem asked (hst : X.stack = X.env :: X.outer) (hfm : X.env.frame = some X.env.locals) (nd : X.N.Nodup) (tk : Takes X W0) (I : Inv X pins τ G sI)
    (nb : ∀ b o, sI.heap.get? b = some o → b ∉ frs X.stack → B.get? b = some o) (up : sI.heap.UpToSlots g) (fl : HandSPX.FlyingZ B (X.env :: X.outer) e (Zc cls d) g) (os : sx.os = sI.os) (ag : AllBare sx.gens)
    (free : G e = none) (nl : e ≠ X.env.locals) (nf : e ∉ X.fs) (ok : ClOk X hh l) :
    wCl X.K W0 D l cls d τ G → wpAny (model X.prog X.w) X.A (handleBy (.ref e) X.env hh) (SP X pins D) X.xe { sx with heap := g } := by
  have I3 : Inv X pins τ G { sx with heap := g } := I.landed nb fl.1 up os ag
  obtain ⟨oe, fs, ge, ze, de⟩ := fl.there
  have S3 := I3.suite ge de free nl nf
  induction ok with
  | nil =>
    intro wish
    refine wpAny_handleBy_nil ?_
    obtain ⟨_, _, _, oe', fs', Tb, oT, ts, ge', ze', de', f1, _⟩ := id fl
    unfold PySem.passOn
    refine wpAny_bind (wpAny_field ge' de' f1 ?_)
    rw [if_neg (by simp : ¬ ((Value.ref Tb == Value.none) = true))]
    have on_ : wpAny (model X.prog X.w) X.A (setFlight (.ref e) X.env.frame) (fun _ s4 => wpAny (model X.prog X.w) X.A (throw (.ref e) : Sem Flow) (SP X pins D) X.xe s4) X.xe { sx with heap := g } := by
      rw [hfm]
      refine HandSPX.setFlight_upZ fl fun g4 held up4 => wpAny_throw (tk _ _ ⟨e, B, sI, pins, τ, G, cls, d, rfl, I, nb, up.trans up4, ?_, free, os, ag, wish⟩)
      rw [hst]
      exact .inr (.inr held)
    first | exact wpAny_bind on_ | exact wpAny_bind (wpAny_pure (wpAny_bind on_))
  | @cons x n q s0 ss p1 p2 hs2 l2 names at_ loc suite rest ih =>
    intro wish
    obtain ⟨y, em, yes, no⟩ := wish
    refine wpAny_handleBy_cons (codeAny_handlers_test ?_) (by intro z; cases z)
    have ty : PySem.W.Looks (model X.prog X.w) g (typeOf (.ref e)) cls := fun A Q E s k z => wpAny_typeOf_ref (k _ _ ge) (by rw [ze.1]; exact z)
    have named : ∀ {Q E : Value → Shared → Prop}, Q q.1 { sx with heap := g } → wpAny (model X.prog X.w) (X.A.mark (some (.ref e))) (eval (.Name x p1) X.env) Q E { sx with heap := g } := fun {Q E} z => by
      obtain ⟨gl, db, inMg | ⟨noMg, bt, nn⟩⟩ := names
      · exact ld_glob (X := X.suite e ((e, oe) :: (X.pn ++ pins))) S3 gl inMg z db
      · exact ld_blt (X := X.suite e ((e, oe) :: (X.pn ++ pins))) S3 gl noMg bt z nn db
    refine named ((PySem.W.exm_one (M := model X.prog X.w) I3.kIn ty em).here ?_)
    cases y with
    | false => exact ih (no rfl)
    | true =>
      refine codeAny_handlers_suite_as (HandSPX.lands_againZ fl fun g4 fl4 up4 => ?_)
      have I4 : Inv X pins τ G { sx with heap := g4 } := I.landed nb fl4.1 (up.trans up4) os ag
      obtain ⟨oe4, fs4, ge4, ze4, de4⟩ := fl4.there
      have S4 := I4.suite ge4 de4 free nl nf
      refine store_ok (X := X.suite e ((e, oe4) :: (X.pn ++ pins))) (v := .ref e) S4 nd at_ (.inl loc) rfl (fun s5 S5 => ?_) (.inr loc)
      have bye : ∀ {τ6 : L2.St} {G6 : Hp} {s6 : Shared} {Q : Shared → Prop}, Inv (X.suite e ((e, oe4) :: (X.pn ++ pins))) [] τ6 G6 s6 → (∀ s7, Inv X pins (τ6.set q.2.1 none) G6 s7 → Q s7) →
          wpAny (model X.prog X.w) X.A (do bindName X.env n .none; unbindBehindTheSuite X.env n p2) (fun _ s7 => Q s7) X.xe s6 := fun {τ6 G6 s6 Q} S6 z => gone_ok (S6.unsuite I3.ok) nd at_ loc z
      refine wpAny_mono ((suite e oe4 cls d (X.pn ++ pins) ze4 ⟨_, de4⟩).run [] s5 _ G _ S5 (yes rfl e free)) (fun f s6 done => ?_) (fun _ _ z => z.elim)
      cases f with
      | ret u =>
        obtain ⟨v6, τ6, G6, S6, r6, z⟩ := done
        exact bye S6 fun s7 J => ⟨_, _, _, J, r6, z⟩
      | next =>
        obtain ⟨τ6, G6, S6, z⟩ := done
        exact bye S6 fun s7 J => ⟨_, _, J, z⟩
      | brk =>
        obtain ⟨τ6, G6, S6, z⟩ := done
        exact bye S6 fun s7 J => ⟨_, _, J, z⟩
      | cont =>
        obtain ⟨τ6, G6, S6, z⟩ := done
        exact bye S6 fun s7 J => ⟨_, _, J, z⟩
end
section
variable {X : Cx} {body : List Stmt} {h0 : ExceptHandler} {hh : List ExceptHandler} {l : List ClT} {W0 : WX} {tb : WX → TS} {pos : Pos}
end
end Td

set_option linter.all false
set_option Elab.async false
set_option maxRecDepth 100000
set_option maxHeartbeats 4000000
/-! the end's words: keyword-only parameters without defaults; isinstance of a class above -/
namespace G7
open PySem PySem.Spec PyProof.Rows L2
/-- a def all of whose keyword-only parameters are without defaults -/
theorem _root_.L2.Fun.kbn {K : PySem.W.Frag} {x qual : Str} {st : Stmt} {f : Addr} {fd : FuncData} {ps : List Str} (F : L2.Fun K x qual st f fd) (n : Nat) (ks : List Str)
    (h : ∀ (kV doc pm : Value) (an : Option Addr) (cdv ct : Value) (us ws : List Value), us.length = n → ws.length = ks.length → bindArgs (PySem.W.fnOf x qual (defArgs st) (defBody st) (defScope st) .none kV doc pm an cdv ct) ⟨us, ks.zip ws⟩ = pure (ps.zip (us ++ ws))) :
    KBn K fd ps n ks (fun us ws => us ++ ws) (fun vs zs => vs ++ zs) := by
  obtain ⟨oc, od, kV, doc, pm, an, cdv, ct, osl, rfl, lk, hcd⟩ := F.ex
  exact ⟨fun s us ws X l1 l2 => .of_eq (h kV doc pm an cdv ct us ws l1 l2), fun r1 r2 => r1.append r2⟩
/-- isinstance of an own class above -/
theorem kit_sub {K : PySem.W.Frag} {D C : Addr} (h2 : PySem.W.isClsIn K C = true) (h3 : PySem.W.typeIn K (.ref C) = some (.type "type")) (h4 : PySem.W.subIn K (.ref D) (.ref C) = some true) : PySem.W.kitOne K (.ref D) (.ref C) = some true := by
  have e2 : ((PySem.W.clsIn K C).isSome && PySem.W.typeIn K (.ref C) == some (.type "type")) = true := by
    have h2' : (PySem.W.clsIn K C).isSome = true := h2
    rw [h2', h3] <;> rfl
  show (if ((Value.ref D : Value) == .ref C) = true then some true else (if ((PySem.W.clsIn K C).isSome && PySem.W.typeIn K (.ref C) == some (.type "type")) = true then PySem.W.subIn K (.ref D) (.ref C) else none)) = some true
  by_cases e : ((Value.ref D : Value) == .ref C) = true
  · rw [if_pos e]
  · rw [if_neg e, if_pos e2]
    exact h4
end G7

set_option linter.all false
set_option Elab.async false
set_option maxRecDepth 100000
set_option maxHeartbeats 4000000
/-! a clause of an own error, at any own error -/
namespace G7
open PySem PySem.Spec PyProof.Rows L2
end G7

set_option linter.all false
set_option Elab.async false
set_option maxRecDepth 100000
set_option maxHeartbeats 4000000
/-! a() as a statement in a try, a callable of known doing -/
namespace Lm
open PySem PySem.Spec PyProof.Rows L2 LamX
end Lm

set_option linter.all false
set_option Elab.async false
set_option maxRecDepth 100000
set_option maxHeartbeats 4000000
/-! sorted(l, key=lambda row: ..) of tuples of ints -/
namespace Lm
open PySem PySem.Spec PyProof.Rows L2 LamX
section
variable {P : Program} {w : World} {A : Around} {s : Shared}
end
abbrev RwI := Addr × List Int
/-- a lambda of one name that looks at one name of its maker's -/
structure RowLam (sc scope : Scope) (r b : Str) : Prop where
  hv : sc.names.lookup b = some .cell
  sk : scope.kind = .function
  co : scope.isCoroutine = false
  gen : scope.isGenerator = false
  nocell : ∀ y ∈ scope.names, y.2 ≠ .cell
  loc : scope.names.lookup r = some .local
  fre : scope.names.lookup b = some .free
  hfree : ∀ y ∈ scope.names, y.2 = .free → sc.names.lookup y.1 = some .cell ∨ sc.names.lookup y.1 = some .free
section
variable {X : Cx}
end
end Lm

set_option linter.all false
set_option Elab.async false
set_option maxRecDepth 100000
set_option maxHeartbeats 4000000
/-! lambdas whose bodies call defs that hold lambdas themselves: the ground of the body holds what the maker's ground holds -/
namespace Lm
open PySem PySem.Spec PyProof.Rows L2 LamX
theorem tabB_up {base B : Heap} {mg : Str → Option Value} {c P : Addr} (TB : TabB base mg c P) (h : ∀ b o, base.get? b = some o → B.get? b = some o) : TabB B mg c P := ⟨TB.code.keeps h, TB.bm.keeps h, TB.gP⟩
section
variable {X : Cx}
theorem act_lamB {k : Nat} {params : Arguments} {body : Expr} {scope : Scope} {dV : Value} {f : Addr} {H : Hp} {t : XK → TE} (L : LamG X.N X.env.scope scope) (l : LamAt (X.env.qual ++ "<lambda>") params body scope (cloFrom X.env.cells scope.names []) dV f H)
    (hbind : ∀ (s1 : Shared) (H1 : Hp) (c : Addr) (doc pm ctv : Value), KeepF H H1 → HOk X.prog X.w H1 s1.heap → ∃ binds : List (Str × Value), (∀ y ∈ binds, scope.names.lookup y.1 = some .local) ∧
      BindsTo s1 (PySem.W.kdv_fn "<lambda>" (X.env.qual ++ "<lambda>") params (.expr body) scope (cloFrom X.env.cells scope.names []) dV doc pm (.ref c) ctv) ⟨[], []⟩ binds)
    (hbody : ∀ (B : Heap), (∀ b o, X.base.get? b = some o → B.get? b = some o) → ∀ (A : Around) (outer : List Env) (s : Shared) (H : Hp) (E : XK) (f c' : Addr), Room k (A.deeper (lamEnv X scope s.heap.objs.size f c')) → PE (lamCx (onB X B) A outer s H E scope f c') body (t E)) :
    Acts X (k + 1) (fun σ E H Q => t E σ H Q) f H := by
  rintro H2 kp σ B ⟨pins, s, I, xb⟩ A outer s1 H1 Q E hr e0 kf r
  obtain ⟨c, o, oc, vs, tk, ⟨doc, pm, ctv, rfl⟩, hf, hc, hd, hv⟩ := l.keep (kp.trans kf)
  have of1 := (e0.hok f _ hf).1
  have oc1 := (e0.hok c _ hc).1
  refine ⟨⟨_, _, _, _, of1⟩, ?_⟩
  refine PySem.W.kla_callFunE hr.depth of1 rfl L.co L.gen rfl ⟨c, oc, vs, tk, rfl, oc1, hd, hv⟩ ?_
  obtain ⟨binds, hl, hb⟩ := hbind s1 H1 c doc pm ctv (kp.trans kf) e0.hok
  have lim : s1.heap.NoLimit := e0.mod.nolimit.keeps fun b o e => (e0.bs b o e).1
  refine hb _ _ _ _ (wpAny_newFunctionEnv (fun y hy => (L.own y hy).1) hl (fun h₁ hns hsb => ⟨lim.fresh _ hsb, ?_⟩) L.kind)
  show codeAny _ _ (.expr body (lamEnv X scope s1.heap.objs.size f c)) _ _
  have kp1 : ∀ b o, s1.heap.get? b = some o → h₁.get? b = some o := fun b o e => hsb.extBut b o (Nat.ne_of_lt (Heap.lt_size e)) (Heap.get?_push_of_some _ e)
  have J : Inv (lamCx (onB X B) A outer s1 H1 E scope f c) [] σ H1 { s1 with heap := h₁, toks := s1.toks + binds.length } := lam_startB I L xb e0 hr.hd hns kp1
  refine PySem.W.kla_codeExpr (wpAny_mono ((hbody B xb.base A outer s1 H1 E f c (hr.deeper _)).run [] _ _ H1 Q J r) (fun v s' hq => ?_) fun e s' hq => hq)
  obtain ⟨w', H', J', rv, q⟩ := hq
  exact ⟨w', H', J'.os, J'.bare, J'.base, J'.hok, rv, q⟩
theorem pe_lamB {T : List (Addr × Str)} {c P : Addr} {k : Nat} {params : Arguments} {body : Expr} {scope : Scope} {pos : Pos} {t : XK → TE} (TB : TabB X.base X.mg c P) (hcode : X.env.code = .ref c)
    (hm : (P, X.env.qual ++ "<lambda>") ∈ T) (hu : ∀ p ∈ T, p.1 = P → p.2 = X.env.qual ++ "<lambda>") (L : LamG X.N X.env.scope scope) (hdef : defaultsOf params X.env = ([], []))
    (hbind : ∀ (q : Str) (cl : List (Str × Addr)) (doc pm cv ctv : Value), bindArgs (PySem.W.kdv_fn "<lambda>" q params (.expr body) scope cl .none doc pm cv ctv) ⟨[], []⟩ = pure [])
    (hbody : ∀ (B : Heap), (∀ b o, X.base.get? b = some o → B.get? b = some o) → ∀ (A : Around) (outer : List Env) (s : Shared) (H : Hp) (E : XK) (f c' : Addr), Room k (A.deeper (lamEnv X scope s.heap.objs.size f c')) → PE (lamCx (onB X B) A outer s H E scope f c') body (t E)) :
    PE X (.Lambda params body scope pos) (tLam X (k + 1) T t) := by
  refine ⟨fun pins s σ H Q I h => ?_⟩
  obtain ⟨hT, h⟩ := h
  refine PySem.W.kla_eval hdef ?_
  rw [makeFunction_eq]
  simp only [List.zip_nil_right, List.filterMap_nil, List.isEmpty_nil, if_true, pure_bind]
  refine lam_tail I TB hcode hm hu hT (L.has I.ok) fun f H1 s' I1 eN T1 l => ?_
  exact ⟨.ref f, H1, I1, rfl, h f H1 eN T1 (act_lamB L l (fun s1 H1 c doc pm ctv _ _ => ⟨[], fun y hy => absurd hy (by simp), .of_eq (hbind _ _ _ _ _ _)⟩) hbody)⟩
end
/-! two tables: one of the law's helper, one of a def of the program's -/
/-- a def whose code object is known, and whose errors pass on -/
theorem _root_.L2.Fun.okXL {P : Program} {w : World} {K : PySem.W.Frag} {mg : Str → Option Value} {base : Heap} {x qual : Str} {st : Stmt} {f c : Addr} {fd : FuncData} {N ps : List Str} {k : Nat} {sp : Sp} (F : L2.Fun K x qual st f fd) (hc : fd.code = .ref c) (S : FnScope N ps (defScope st)) (len : ∀ vs H Q E, sp vs H Q E → vs.length = ps.length)
    (hbody : ∀ (A : Around) (outer : List Env) (s : Shared) (H : Hp) (vs : List V) (Q : VK) (E : XK), Room k (A.deeper (envOfC qual (defScope st) s.heap.objs.size f (.ref c))) → sp vs H Q E →
      ∃ t, PSs (cxOf (L2.CX P w) P w K mg base N qual (defScope st) f (.ref c) A outer s H E) (defBody st) t ∧ t { nx := fun _ H' => Q .non H', rt := Q } (L2.start N vs) H) : FnOk P w K mg base (L2.CX P w) (k + 1) f fd ps sp := by
  obtain ⟨oc, od, kV, doc, pm, an, cdv, ct, osl, rfl, lk, hcd⟩ := F.ex
  have e : cdv = .ref c := hc
  subst e
  exact fn_of lk hcd S len fun A outer s H vs Q E hr hsp => hbody A outer s H vs Q E hr hsp
end Lm

set_option linter.all false
set_option Elab.async false
set_option maxRecDepth 100000
set_option maxHeartbeats 4000000
/-! slices of tuples, texts in sequences, methods under comprehensions: as Rules3 and Rules4 have them, beside Dat -/
namespace G7
open PySem PySem.Spec PyProof.Rows L2
/-- (table, field) that an index may be of: a list or a tuple -/
def hasP (l : List Fd) (t f : Str) : Bool := l.any fun e => (e.2.1 == t) && (e.2.2 == f)
structure FxAt (H : Hp) (a : Addr) (ps : List Fd) : Prop where
  at_ : lsO (H a) = some (ps.map fun e => V.ref e.1) ∨ tpO (H a) = some (ps.map fun e => V.ref e.1)
  tups : ∀ e ∈ ps, H e.1 = some (.tup [.str e.2.1, .str e.2.2])
  oks : ∀ e ∈ ps, PyData.strOk e.2.1 = true ∧ PyData.strOk e.2.2 = true
theorem FxAt.same {H H' : Hp} {a : Addr} {ps : List Fd} (R : FxAt H a ps) (k : Same H H') : FxAt H' a ps := by
  refine ⟨?_, fun e he => k _ _ (R.tups e he), R.oks⟩
  rcases R.at_ with h | h
  · refine .inl ?_
    cases e : H a with
    | none => rw [e] at h; cases h
    | some o => rw [k a o e, ← e]; exact h
  · refine .inr ?_
    cases e : H a with
    | none => rw [e] at h; cases h
    | some o => rw [k a o e, ← e]; exact h
/-- has a text -/
def hasS (l : List Str) (s : Str) : Bool := l.any fun z => z == s
theorem inV_strs (l : List Str) (s : Str) : inV (.str s) (l.map V.str) = hasS l s := by
  unfold inV hasS
  rw [List.any_map]
  rfl
theorem flat_strs (l : List Str) : (l.map V.str).all flatV = true := by
  rw [List.all_eq_true]
  intro v hv
  obtain ⟨s, _, rfl⟩ := List.mem_map.mp hv
  rfl
section
variable {X : Cx}
/-- a tuple's slice, what stands stays -/
def rSlP : V → Option Int → Option Int → Hp → VK → Prop := fun x lo hi H Q => ∃ a xs, x = .ref a ∧ tpO (H a) = some xs ∧ ∀ p H', Same H H' → tpO (H' p) = some (cutV xs lo hi) → Q (.ref p) H'
theorem cutV_whole {xs : List V} {lo hi : Option Int} (h : HT.sIx xs.length 0 lo = 0 ∧ HT.sIx xs.length xs.length hi = xs.length) : cutV xs lo hi = xs := by
  unfold cutV
  rw [h.1, h.2]
  simp
theorem sl_tp : SlR X rSlP := by
  intro pins s σ H x v vl vu lo hi sl Q I rx hs pl pu h
  obtain ⟨a, xs, e, hx, q⟩ := h
  refine sl_tupF pins s σ H x v vl vu lo hi sl Q I rx hs pl pu ⟨a, xs, e, hx, fun w => q a H (Same.refl H) (by rw [cutV_whole w]; exact hx), fun _ p o hp _ _ => q p _ (same_new hp) (by rw [upd_same]; rfl)⟩
/-- t + u, what stands stays -/
def rCatS : R2 := fun x y H Q => ∃ a b xs ys, x = .ref a ∧ y = .ref b ∧ tpO (H a) = some xs ∧ tpO (H b) = some ys ∧ xs.length + ys.length ≤ sizeLine ∧ ∀ p H', Same H H' → tpO (H' p) = some (xs ++ ys) → Q (.ref p) H'
/-- a text in a list or tuple of texts -/
def rInS (neg : Bool) : R2 := fun x y H Q => ∃ p s ss, x = .str s ∧ y = .ref p ∧ (lsO (H p) = some (ss.map V.str) ∨ tpO (H p) = some (ss.map V.str)) ∧ Q (.bl (if neg = true then !hasS ss s else hasS ss s)) H
/-- (table, field) in indexes -/
def rInX : R2 := fun x y H Q => ∃ p q ps t f, x = .ref p ∧ y = .ref q ∧ H p = some (.tup [.str t, .str f]) ∧ PyData.strOk t = true ∧ PyData.strOk f = true ∧ FxAt H q ps ∧ Q (.bl (hasP ps t f)) H
end
section
variable {X : Cx} {T : String} {name : Str} {id : String} {r : V → List V → Hp → VK → Prop} {o e : Expr} {es : List Expr} {to : TE} {t : TA} {apos cpos : Pos}
theorem pe_bmK (K : PySem.W.Frag) (hK : X.K = K) (pa : PlainAttrs T) (slot : Slot T name id) (hty : typeOf (.builtin id) = pure (.type "method_descriptor")) (hm : MtR X id r) (ho : PE X o to) (ha : PA X (e :: es) t)
    (hbase : attributeBase o name X.env (eval o X.env) = eval o X.env := by rfl)
    (hfew : ((backTo cpos (starEach (e :: es) X.env)).all (fun x => !x.1) && (backToKw cpos (keywordEach [] X.env)).all (fun x => x.1.isSome)
      && decide ((e :: es).length + ([] : List Keyword).length + (if ([] : List Keyword).isEmpty then 0 else 1) < 30)) = true := by rfl)
    (hline : (apos.endLine == cpos.line) = true := by rfl) (hs : starEach (e :: es) X.env = (false, eval e X.env) :: starEach es X.env := by rfl) (hplain : (backTo cpos (starEach es X.env)).any (·.1) = false := by rfl) :
    PE X (.Call (.Attribute o name apos) (e :: es) [] cpos) (tBM K T r to t) := by
  subst hK
  exact pe_bm pa slot hty hm ho ha hbase hfew hline hs hplain
end
end G7

set_option linter.all false
set_option Elab.async false
set_option maxRecDepth 100000
set_option maxHeartbeats 4000000
/-! comprehensions over things that stand, the heap growing -/
namespace G7
open PySem PySem.Spec PyProof.Rows L2
/-- a comprehension walks es: those kept give y with P e y -/
theorem lc_ents {α : Type} {J : It} {n : Nat} {G : Hp → Prop} {Y : Nat → Hp → V → Hp → Prop} (W : Walk J n G Y) {g : TG} {tt : TT} {te : TE} {vs : List Nat} {σ : L2.St} {H1 : Hp} {Qd : VK}
    (es : List α) (keep : α → Bool) (P : α → V → Hp → Prop) (hn : es.length = n) (hz : es.length ≤ 90000) (hG : ∀ H, Same H1 H → G H) (hY : ∀ i H x H', Y i H x H' → Same H H')
    (mono : ∀ D e y H H', P e y H → (∃ ys, H D = some (.lst ys)) → Keep [D] H H' → P e y H')
    (step : ∀ (i : Nat) (e : α) (x : V) (H H' : Hp) (Q : VK) (N : Hp → Prop), es[i]? = some e → Same H1 H → Y i H x H' → (keep e = true → ∀ y H4, Same H' H4 → P e y H4 → Q y H4) → (keep e = false → ∀ H4, Same H' H4 → N H4) →
      g x (wipe σ vs) H' fun σ2 H2 => wipe σ2 vs = wipe σ vs ∧ tt σ2 H2 fun b H3 => if b = true then te σ2 H3 Q else N H3)
    (done : ∀ (D : Addr) (H : Hp) (zs : List (α × V)), H1 D = none → zs.map (·.1) = es.filter keep → Same H1 H → H D = some (.lst (zs.map (·.2))) → (∀ z ∈ zs, P z.1 z.2 H) → Qd (.ref D) H) :
    lcB J g tt te vs σ H1 Qd := lcB_it fun D hD => by
  refine lc_it W (fun i H => Same H1 H ∧ ∃ zs : List (α × V), zs.map (·.1) = (es.take i).filter keep ∧ H D = some (.lst (zs.map (·.2))) ∧ ∀ z ∈ zs, P z.1 z.2 H) ⟨same_new hD, [], rfl, upd_same, fun z hz => by cases hz⟩ (fun i H _ h => hG H h.1) ?_ ?_
  · rintro i x H H' hi ⟨ss, zs, e1, e2, e3⟩ hy
    have he : es[i]? = some es[i] := List.getElem?_eq_getElem (by omega)
    have sy := hY i H x H' hy
    have tk : es.take (i + 1) = es.take i ++ [es[i]] := by rw [List.take_succ, he]; rfl
    have k0 : ∀ {H4 : Hp}, Same H' H4 → ∀ z ∈ zs, P z.1 z.2 H4 := fun s4 z hz => mono D _ _ _ _ (e3 z hz) ⟨_, e2⟩ (Keep.ofSame (sy.trans s4))
    have zl : zs.length ≤ es.length := by
      have a := congrArg List.length e1
      rw [List.length_map] at a
      have b := List.length_filter_le keep (es.take i)
      rw [List.length_take] at b
      omega
    refine step i _ x H H' _ _ he ss hy (fun hk y H4 s4 hp => ?_) (fun hk H4 s4 => ?_)
    · have d4 := s4 _ _ (sy _ _ e2)
      refine ⟨_, d4, by rw [List.length_map]; exact szl' (by omega), Same.updFree (ss.trans (sy.trans s4)) hD, zs ++ [(es[i], y)], ?_, ?_, fun z hz => ?_⟩
      · rw [tk, List.filter_append, List.map_append, e1, List.filter_cons_of_pos hk]
        rfl
      · rw [upd_same, List.map_append]
        rfl
      · rcases List.mem_append.mp hz with h | h
        · exact mono D _ _ _ _ (k0 s4 z h) ⟨_, d4⟩ (Keep.refl.upd (by simp))
        · rw [List.mem_singleton.mp h]
          exact mono D _ _ _ _ hp ⟨_, d4⟩ (Keep.refl.upd (by simp))
    · refine ⟨ss.trans (sy.trans s4), zs, ?_, s4 _ _ (sy _ _ e2), k0 s4⟩
      rw [tk, List.filter_append, e1, List.filter_cons_of_neg (by rw [hk]; simp)]
      simp
  · rintro H ⟨ss, zs, e1, e2, e3⟩
    rw [← hn, List.take_length] at e1
    exact done D H zs hD e1 ss e2 e3
/-- the same of all, nothing left out -/
theorem lc_all {α : Type} {J : It} {n : Nat} {G : Hp → Prop} {Y : Nat → Hp → V → Hp → Prop} (W : Walk J n G Y) {g : TG} {te : TE} {vs : List Nat} {σ : L2.St} {H1 : Hp} {Qd : VK}
    (es : List α) (P : α → V → Hp → Prop) (hn : es.length = n) (hz : es.length ≤ 90000) (hG : ∀ H, Same H1 H → G H) (hY : ∀ i H x H', Y i H x H' → Same H H')
    (mono : ∀ D e y H H', P e y H → (∃ ys, H D = some (.lst ys)) → Keep [D] H H' → P e y H')
    (step : ∀ (i : Nat) (e : α) (x : V) (H H' : Hp) (Q : VK), es[i]? = some e → Same H1 H → Y i H x H' → (∀ y H4, Same H' H4 → P e y H4 → Q y H4) → g x (wipe σ vs) H' fun σ2 H2 => wipe σ2 vs = wipe σ vs ∧ te σ2 H2 Q)
    (done : ∀ (D : Addr) (H : Hp) (zs : List (α × V)), H1 D = none → zs.map (·.1) = es → Same H1 H → H D = some (.lst (zs.map (·.2))) → (∀ z ∈ zs, P z.1 z.2 H) → Qd (.ref D) H) :
    lcB J g tYes te vs σ H1 Qd := by
  refine lc_ents W es (fun _ => true) P hn hz hG hY mono (fun i e x H H' Q N he s1 hy hq _ => ?_) (fun D H zs hD e1 => done D H zs hD (by rw [e1]; exact List.filter_eq_self.mpr fun _ _ => rfl))
  have z := step i e x H H' Q he s1 hy (hq rfl)
  simp only [tYes, if_true]
  exact z
theorem yat_same {xs : List V} : ∀ i H x H', YAt xs i H x H' → Same H H' := fun i H x H' h => by
  obtain ⟨rfl, _⟩ := h
  exact Same.refl _
theorem yat_of {α : Type} {f : α → V} {es : List α} {i : Nat} {e : α} {H H' : Hp} {x : V} (he : es[i]? = some e) (h : YAt (es.map f) i H x H') : H' = H ∧ x = f e := by
  obtain ⟨rfl, h⟩ := h
  rw [List.getElem?_map, he] at h
  exact ⟨rfl, (Option.some.inj h).symm⟩
/-- what is told is a known value of each -/
theorem zs_vals {α : Type} {f : α → V} {zs : List (α × V)} {es : List α} (h : zs.map (·.1) = es) (k : ∀ z ∈ zs, z.2 = f z.1) : zs.map (·.2) = es.map f := by
  rw [← h, List.map_map]
  exact List.map_congr_left fun z hz => k z hz
/-- a dict that is told by things with distinct names -/
theorem valV_mem {κ α : Type} [DecidableEq κ] {f : α → κ} {g : α → V} : ∀ {l : List α}, (l.map f).Nodup → ∀ x ∈ l, valV (l.map fun y => (f y, g y)) (f x) = some (g x)
  | [], _, x, h => by cases h
  | a :: l, nd, x, h => by
    rw [List.map_cons, List.nodup_cons] at nd
    unfold valV
    rw [List.map_cons, List.find?_cons]
    by_cases e : f a = f x
    · rcases List.mem_cons.mp h with z | z
      · rw [z]
        simp
      · exact absurd (List.mem_map.mpr ⟨x, z, e.symm⟩) nd.1
    · rw [decide_eq_false e]
      rcases List.mem_cons.mp h with z | z
      · exact absurd (by rw [z]) e
      · exact valV_mem nd.2 x z
theorem nd_inr {α : Type} {f : α → Str} {l : List α} (h : (l.map f).Nodup) : (l.map fun x => (Sum.inr (f x) : Key)).Nodup := by
  unfold List.Nodup at *
  rw [List.pairwise_map] at *
  exact h.imp fun n e => n (Sum.inr.inj e)
end G7

set_option linter.all false
set_option Elab.async false
set_option maxRecDepth 100000
set_option maxHeartbeats 4000000
/-! a store as it is told, without places: what its writes make of it -/
namespace G7
open PySem PySem.Spec PyProof.Rows L2
abbrev RowE := Addr × List Int
inductive Wr where
  | tab (name : Str) (fa : Addr) (fields : List Str)
  | idx (name field : Str)
  | row (name : Str) (key : Int) (r : Option RowE)
abbrev AVer := Int × Option RowE
abbrev AKey := Int × List AVer
structure ATab where
  name : Str
  n : Int
  fields : List Str
  keys : List AKey
structure AIdx where
  tab : Str
  field : Str
  n : Int
  M : List (Int × Int)
structure ASto where
  first : Int
  newest : Int
  tabs : List ATab
  idxs : List AIdx
def ASto.tab? (A : ASto) (nm : Str) : Option ATab := A.tabs.find? fun t => decide (t.name = nm)
def ASto.col (A : ASto) (nm f : Str) : Nat := match A.tab? nm with
  | some t => t.fields.idxOf f
  | none => 0
/-- sizes, and that the indexes' fields are there -/
def verSum (ks : List AKey) : Nat := (ks.map fun e => e.2.length).sum
structure ABd (A : ASto) (N : Nat) : Prop where
  nt : A.tabs.length ≤ 1000
  ni : A.idxs.length ≤ 1000
  nk : ∀ t ∈ A.tabs, t.keys.length ≤ N ∧ verSum t.keys ≤ N
  nM : ∀ x ∈ A.idxs, x.M.length ≤ N
  at_ : ∀ x ∈ A.idxs, ∃ t ∈ A.tabs, t.name = x.tab ∧ x.field ∈ t.fields
/-- and of the heap -/
def TpF (H : Hp) (a : Addr) (xs : List V) : Prop := ∃ o : Obj, H a = some (.frz o (.tup xs)) ∧ o.cls = .type "tuple" ∧ o.dict = none
theorem TpF.tp {H : Hp} {a : Addr} {xs : List V} (h : TpF H a xs) : tpO (H a) = some xs := by
  obtain ⟨o, e, _⟩ := h
  rw [e]
  rfl
def rowV : Option RowE → V
  | none => .non
  | some r => .ref r.1
def wrXs : Wr → List V
  | .tab n fa _ => [.str "table", .str n, .ref fa]
  | .idx n f => [.str "index", .str n, .str f]
  | .row n k r => [.str "row", .str n, .int k, rowV r]
def WrAt (H : Hp) : Wr → Prop
  | .tab _ fa fs => TpF H fa (fs.map V.str)
  | .idx _ _ => True
  | .row _ _ r => ∀ row, r = some row → H row.1 = some (.tup (row.2.map V.int))
/-- no key twice in a table, no table's name twice -/
structure AWell (A : ASto) : Prop where
  names : (A.tabs.map (·.name)).Nodup
  keys : ∀ t ∈ A.tabs, (t.keys.map (·.1)).Nodup
end G7

set_option linter.all false
set_option Elab.async false
set_option maxRecDepth 100000
set_option maxHeartbeats 4000000
/-! tables of sets of any mask on whose round all slots lie: laying all anew does not fail -/
namespace SM
open PySem PySem.Spec PyProof.Rows L2
/-- the round from 0 meets all slots, and ends at 0 -/
structure Full (m : Nat) : Prop where
  hit : ∀ j, j ≤ m → ∃ b, b ≤ m ∧ lcgN m b = j
  end_ : lcgN m (m + 1) = 0
theorem full_of {m : Nat} (h1 : ((List.range (m + 1)).all fun j => (List.range (m + 1)).any fun b => lcgN m b == j) = true) (h2 : lcgN m (m + 1) = 0) : Full m := ⟨fun j hj => by
  obtain ⟨b, hb, eb⟩ := List.any_eq_true.mp (List.all_eq_true.mp h1 j (List.mem_range.mpr (Nat.lt_succ_of_le hj)))
  exact ⟨b, Nat.le_of_lt_succ (List.mem_range.mp hb), beq_iff_eq.mp eb⟩, h2⟩
theorem full_7 : Full 7 := full_of (by decide +kernel) (by decide +kernel)
theorem full_31 : Full 31 := full_of (by decide +kernel) (by decide +kernel)
theorem Full.again {m : Nat} (F : Full m) : ∀ k, lcgN m (m + 1 + k) = lcgN m k
  | 0 => F.end_
  | k + 1 => by
    show (lcgN m (m + 1 + k) * 5 + 1) % (m + 1) = (lcgN m k * 5 + 1) % (m + 1)
    rw [F.again k]
theorem Full.soon {m : Nat} (F : Full m) {i j : Nat} (hi : i ≤ m) (hj : j ≤ m) : ∃ k, k ≤ m ∧ lcgI m i k = j := by
  obtain ⟨a, ha, rfl⟩ := F.hit i hi
  obtain ⟨b, hb, rfl⟩ := F.hit j hj
  by_cases c : a ≤ b
  · exact ⟨b - a, by omega, by rw [lcgN_add]; congr 1; omega⟩
  · refine ⟨b + (m + 1) - a, by omega, ?_⟩
    rw [lcgN_add, show a + (b + (m + 1) - a) = m + 1 + b by omega, F.again]
/-- a free slot is found -/
theorem Full.free {m : Nat} (F : Full m) (owner : Array (Option Nat)) (h : Int) {j : Nat} (hj : j ≤ m) (hf : oAt owner j = none) :
    ∃ y, SetTable.layClean.free m owner (SetTable.turns m) (SetTable.bits h % (m + 1)) (SetTable.bits h) = some y ∧ y ≤ m ∧ oAt owner y = none := by
  obtain ⟨k, hk, e⟩ := F.soon (runI_le m (SetTable.bits h) 12) hj
  have e2 : runI m (SetTable.bits h) (12 + k) = j := by rw [runI_tail (bits_lt h)]; exact e
  have hw : (nth m (runAt m (SetTable.bits h % (m + 1)) (SetTable.bits h)) (off m (SetTable.bits h % (m + 1)) (SetTable.bits h) (12 + k))).j = j := by
    rw [nth_off, itL_run]
    exact e2
  obtain ⟨K, k1, k2, k3⟩ := st_least (p := fun k => oAt owner (nth m (runAt m (SetTable.bits h % (m + 1)) (SetTable.bits h)) k).j = none) _ (by show oAt owner _ = none; rw [hw]; exact hf)
  refine ⟨_, free_spec m owner (SetTable.turns m) (12 + k) _ _ K (by unfold SetTable.turns; omega) k1 (fun q hq => ?_) ?_, ?_, k2⟩
  · have z := k3 q hq
    cases y : oAt owner (nth m (runAt m (SetTable.bits h % (m + 1)) (SetTable.bits h)) q).j with
    | none => exact absurd y z
    | some _ => rfl
  · rw [show oAt owner (nth m (runAt m (SetTable.bits h % (m + 1)) (SetTable.bits h)) K).j = none from k2]
    rfl
  · have hi : SetTable.bits h % (m + 1) ≤ m := Nat.le_of_lt_succ (Nat.mod_lt _ (Nat.succ_pos _))
    have r := runEnd_bd hi
    have q := nth_in (m := m) K (runAt m (SetTable.bits h % (m + 1)) (SetTable.bits h)) (by
      show SetTable.bits h % (m + 1) + (SetTable.runEnd m (SetTable.bits h % (m + 1)) - SetTable.bits h % (m + 1)) ≤ m
      omega)
    omega
/-- who sits where when n are laid -/
structure Sits (m n : Nat) (owner : Array (Option Nat)) : Prop where
  sz : owner.size = m + 1
  lt : ∀ j k, j ≤ m → oAt owner j = some k → k < n
  all : ∀ k, k < n → ∃ j, j ≤ m ∧ oAt owner j = some k
  ps : ∃ ps : List Nat, ps.length = n ∧ ∀ j, j ≤ m → oAt owner j ≠ none → j ∈ ps
theorem Sits.zero (m : Nat) : Sits m 0 (Array.replicate (m + 1) none) :=
  ⟨by simp, fun j k hj e => (by rw [oAt_init hj] at e; cases e), fun k hk => absurd hk (Nat.not_lt_zero _), ⟨[], rfl, fun j hj e => absurd (oAt_init hj) e⟩⟩
theorem Sits.put {m n y : Nat} {owner : Array (Option Nat)} (S : Sits m n owner) (hy : y ≤ m) (hf : oAt owner y = none) : Sits m (n + 1) (owner.setIfInBounds y (some n)) := by
  have hys : y < owner.size := by rw [S.sz]; exact Nat.lt_succ_of_le hy
  have self := oAt_set_self (some n) hys
  obtain ⟨ps, p1, p2⟩ := S.ps
  refine ⟨by rw [Array.size_setIfInBounds]; exact S.sz, fun j k hj e => ?_, fun k hk => ?_, ⟨y :: ps, by rw [List.length_cons, p1], fun j hj e => ?_⟩⟩
  · by_cases c : j = y
    · rw [c, self] at e
      cases e
      exact Nat.lt_succ_self _
    · rw [oAt_set_ne _ c] at e
      exact Nat.lt_succ_of_lt (S.lt j k hj e)
  · by_cases c : k < n
    · obtain ⟨j, hj, e⟩ := S.all k c
      exact ⟨j, hj, by rw [oAt_set_ne _ (fun z => by rw [z, hf] at e; cases e)]; exact e⟩
    · obtain rfl : k = n := by omega
      exact ⟨y, hy, self⟩
  · by_cases c : j = y
    · rw [c]; exact List.mem_cons_self
    · rw [oAt_set_ne _ c] at e
      exact List.mem_cons_of_mem _ (p2 j hj e)
theorem Full.lay {m : Nat} (F : Full m) {hs : Array Int} (hn : hs.size ≤ m) : ∃ owner, SetTable.layClean m hs = some owner ∧ Sits m hs.size owner := by
  have go : ∀ (rest : List Int) (n : Nat) (owner : Array (Option Nat)), Sits m n owner → n + rest.length ≤ m → ∃ o', rest.foldl (stepF m) (some (owner, n)) = some (o', n + rest.length) ∧ Sits m (n + rest.length) o' := by
    intro rest
    induction rest with
    | nil => intro n owner S _; exact ⟨owner, rfl, S⟩
    | cons h rest ih =>
      intro n owner S hl
      rw [List.length_cons] at hl
      obtain ⟨ps, p1, p2⟩ := S.ps
      obtain ⟨j0, h0, n0⟩ := st_missing ps (m + 1) (by omega)
      have f0 : oAt owner j0 = none := by
        cases z : oAt owner j0 with
        | none => rfl
        | some k => exact absurd (p2 j0 (by omega) (by rw [z]; exact fun e => nomatch e)) n0
      obtain ⟨y, e1, e2, e3⟩ := F.free owner h (by omega) f0
      obtain ⟨o', g1, g2⟩ := ih (n + 1) _ (S.put e2 e3) (by omega)
      refine ⟨o', ?_, ?_⟩
      · rw [List.foldl_cons, stepF_some e1, g1, List.length_cons]
        congr 2
        omega
      · rw [List.length_cons, show n + (rest.length + 1) = n + 1 + rest.length by omega]
        exact g2
  obtain ⟨o', g1, g2⟩ := go hs.toList 0 _ (Sits.zero m) (by rw [Array.length_toList]; omega)
  rw [Nat.zero_add, Array.length_toList] at g1 g2
  refine ⟨o', ?_, g2⟩
  rw [layClean_eq, g1]
  rfl
/-- a table laid from nothing: rising, all there -/
theorem Full.laid {m : Nat} (F : Full m) {hs : Array Int} (hn : hs.size ≤ m) (finger moves : Nat) (led plain : Bool) :
    ∃ t order, SetTable.laid m finger moves led plain hs = some (t, order) ∧ order.toList.Perm (List.range hs.size) ∧ Ris t.place.toList ∧ t.place.size = hs.size ∧ t.dummies = #[] ∧ t.mask = m ∧ t.led = led := by
  obtain ⟨owner, e, S⟩ := F.lay hn
  have ris := ris_live (fun j => owner.getD j none) (List.range (m + 1)) (by
    unfold Ris
    first | exact List.pairwise_lt_range | exact List.pairwise_lt_range _)
  have r1 : Ris ((liveOf m owner).map (·.1)) := ris.1
  have nd : ((liveOf m owner).map (·.1)).Nodup := List.Pairwise.imp (fun h => Nat.ne_of_lt h) r1
  have hlen : (liveOf m owner).length = hs.size := by
    obtain ⟨ps, p1, p2⟩ := S.ps
    have a := nat_nodup_len ((liveOf m owner).map (·.1)) ps nd fun x hx => by
      obtain ⟨⟨y, k⟩, hq, rfl⟩ := List.mem_map.mp hx
      obtain ⟨b1, b2⟩ := (mem_live S.sz).1 hq
      exact p2 y b1 (by rw [b2]; exact fun z => nomatch z)
    have b := nat_nodup_len (List.range hs.size) ((liveOf m owner).map (·.2)) List.nodup_range fun k hk => by
      obtain ⟨j, b1, b2⟩ := S.all k (List.mem_range.mp hk)
      exact List.mem_map.mpr ⟨(j, k), (mem_live S.sz).2 ⟨b1, b2⟩, rfl⟩
    rw [List.length_map, p1] at a
    rw [List.length_map, List.length_range] at b
    omega
  refine ⟨{ mask := m, place := ((liveOf m owner).map (·.1)).toArray, dummies := #[], finger, led, moves, plain }, ((liveOf m owner).map (·.2)).toArray, ?_, ?_, r1, ?_, rfl, rfl, rfl⟩
  · unfold SetTable.laid
    rw [e]
    rfl
  · refine perm_range hs.size _ (by show ((liveOf m owner).map (·.2)).length = _; rw [List.length_map]; exact hlen) fun k hk => ?_
    obtain ⟨j, b1, b2⟩ := S.all k hk
    exact List.mem_map.mpr ⟨(j, k), (mem_live S.sz).2 ⟨b1, b2⟩, rfl⟩
  · show ((liveOf m owner).map (·.1)).toArray.size = _
    rw [List.size_toArray, List.length_map]
    exact hlen
end SM

set_option linter.all false
set_option Elab.async false
set_option maxRecDepth 100000
set_option maxHeartbeats 4000000
/-! sets of tuples of ints and texts, each once, of some hundreds -/
namespace SM
open PySem PySem.Spec PyProof.Rows L2
/-- the round's slots as a number's bits -/
def rnd (m : Nat) : Nat → Nat → Nat → Nat
  | 0, _, s => s
  | f + 1, x, s => rnd m f ((x * 5 + 1) % (m + 1)) (s ||| (1 <<< x))
theorem rnd_bit (m j : Nat) : ∀ f n s, (rnd m f (lcgN m n) s).testBit j = true → s.testBit j = true ∨ ∃ b, b < n + f ∧ lcgN m b = j
  | 0, n, s, h => .inl h
  | f + 1, n, s, h => by
    rcases rnd_bit m j f (n + 1) _ h with z | ⟨b, h1, h2⟩
    · rw [Nat.testBit_or, Bool.or_eq_true] at z
      rcases z with z | z
      · exact .inl z
      · rw [Nat.one_shiftLeft, Nat.testBit_two_pow] at z
        exact .inr ⟨n, by omega, by simpa using z⟩
    · exact .inr ⟨b, by omega, h2⟩
theorem full_rnd {m : Nat} (h1 : rnd m (m + 1) 0 0 = 2 ^ (m + 1) - 1) (h2 : lcgN m (m + 1) = 0) : Full m := ⟨fun j hj => by
  have z : (rnd m (m + 1) (lcgN m 0) 0).testBit j = true := by
    show (rnd m (m + 1) 0 0).testBit j = true
    rw [h1, Nat.testBit_two_pow_sub_one]
    exact decide_eq_true (by omega)
  rcases rnd_bit m j _ _ _ z with e | ⟨b, e1, e2⟩
  · simp at e
  · exact ⟨b, by omega, e2⟩, h2⟩
theorem full_127 : Full 127 := full_rnd (by decide +kernel) (by decide +kernel)
theorem full_511 : Full 511 := full_rnd (by decide +kernel) (by decide +kernel)
end SM
namespace KT
open PySem PySem.Spec PyProof.Rows L2
/-- the masks that come -/
def MaskG (m : Nat) : Prop := m = 7 ∨ m = 31 ∨ m = 127 ∨ m = 511
theorem MaskG.full {m : Nat} (h : MaskG m) : SM.Full m := by
  rcases h with e | e | e | e <;> subst e
  · exact SM.full_7
  · exact SM.full_31
  · exact SM.full_127
  · exact SM.full_511
theorem way_in (m : Nat) (h : Int) (k : Nat) : way m h k ≤ m := by
  have hi : SetTable.bits h % (m + 1) ≤ m := Nat.le_of_lt_succ (Nat.mod_lt _ (Nat.succ_pos _))
  have r := runEnd_bd hi
  have q := nth_in (m := m) k (runAt m (SetTable.bits h % (m + 1)) (SetTable.bits h)) (by
    show SetTable.bits h % (m + 1) + (SetTable.runEnd m (SetTable.bits h % (m + 1)) - SetTable.bits h % (m + 1)) ≤ m
    omega)
  unfold way
  omega
/-- each slot is met within the search's bound -/
theorem meets {m : Nat} (F : SM.Full m) (h : Int) {j : Nat} (hj : j ≤ m) : ∃ k, k < 10 * SetTable.turns m ∧ way m h k = j := by
  obtain ⟨k, hk, e⟩ := F.soon (runI_le m (SetTable.bits h) 12) hj
  have e2 : runI m (SetTable.bits h) (12 + k) = j := by rw [runI_tail (bits_lt h)]; exact e
  obtain ⟨k2, h2, e3⟩ := run_nth m (SetTable.bits h) (12 + k)
  refine ⟨k2, by unfold SetTable.turns; omega, ?_⟩
  unfold way
  rw [e3]
  exact e2
/-- the table: rising, all on their ways -/
structure TabF (t : SetTable) (hs : List Int) : Prop where
  ris : Ris t.place.toList
  dm : t.dummies = #[]
  sz : t.place.size = hs.length
  mok : MaskG t.mask
  bd : ∀ x ∈ t.place.toList, x ≤ t.mask
  reach : ∀ (i : Nat) (h : Int) (j : Nat), hs[i]? = some h → t.place.toList[i]? = some j → ∃ k, way t.mask h k = j ∧ ∀ k', k' < k → way t.mask h k' ∈ t.place.toList
theorem odd {m : Nat} (h : MaskG m) : m % 2 = 1 := by
  rcases h with e | e | e | e <;> subst e <;> rfl
theorem TabF.first {t : SetTable} {hs : List Int} (T : TabF t hs) (hl : hs.length ≤ t.mask) (h : Int) : ∃ K, K < 10 * SetTable.turns t.mask ∧ way t.mask h K ∉ t.place.toList ∧ ∀ k, k < K → way t.mask h k ∈ t.place.toList := by
  obtain ⟨j, hj, hn⟩ := st_missing t.place.toList (t.mask + 1) (by rw [Array.length_toList, T.sz]; omega)
  obtain ⟨k, hk, e⟩ := meets T.mok.full h (Nat.le_of_lt_succ hj)
  obtain ⟨K, h1, h2, h3⟩ := st_least (p := fun k => way t.mask h k ∉ t.place.toList) k (by rw [e]; exact hn)
  exact ⟨K, Nat.lt_of_le_of_lt h1 hk, h2, fun k' hk' => Classical.byContradiction fun c => h3 k' hk' c⟩
/-- what is there is met ahead of the first free slot -/
theorem TabF.ahead {t : SetTable} {hs : List Int} (T : TabF t hs) {h : Int} {K i j : Nat} (hK : way t.mask h K ∉ t.place.toList) (hi : hs[i]? = some h) (hj : t.place.toList[i]? = some j) : ∃ k, k < K ∧ way t.mask h k = j := by
  obtain ⟨k, e, hb⟩ := T.reach i h j hi hj
  refine ⟨k, ?_, e⟩
  rcases Nat.lt_trichotomy k K with c | c | c
  · exact c
  · exact absurd (List.mem_of_getElem? hj) (by rw [← e, c]; exact hK)
  · exact absurd (hb K c) hK
/-- one put in at the first free slot of its way -/
theorem TabF.lay1 {t : SetTable} {hs : List Int} (T : TabF t hs) {h : Int} {K j p : Nat} (ej : way t.mask h K = j) (ep : SetTable.below t.place j = p) (hK : j ∉ t.place.toList) (hb : ∀ k, k < K → way t.mask h k ∈ t.place.toList) :
    (t.put j).2 = p ∧ p ≤ hs.length ∧ TabF (t.put j).1 (hs.take p ++ h :: hs.drop p) ∧ (t.put j).1.mask = t.mask ∧ (t.put j).1.led = t.led ∧ (t.put j).1.fill = hs.length + 1 := by
  have c1 := (below_cut T.ris j).1
  rw [ep] at c1
  have hsz : t.place.toList.length = hs.length := by rw [Array.length_toList]; exact T.sz
  have hpl : p ≤ t.place.toList.length := by rw [Array.length_toList]; exact c1
  have hph : p ≤ hs.length := by omega
  have hpp := put_place t j
  rw [ep] at hpp
  have hsize : (t.put j).1.place.size = hs.length + 1 := by rw [← Array.length_toList, hpp, len_ins _ hpl, hsz]
  have hnp : t.place[SetTable.below t.place j]? ≠ some j := fun e => hK (List.mem_of_getElem? (by rw [Array.getElem?_toList]; exact e))
  have up : ∀ {x : Nat}, x ∈ t.place.toList → x ∈ (t.put j).1.place.toList := fun hx => by rw [hpp]; exact mem_ins.2 (.inr hx)
  refine ⟨ep, hph, ⟨ris_insert T.ris hnp, put_dm T.dm j, by rw [len_ins _ hph]; exact hsize, T.mok, fun x hx => ?_, fun i h' j' h1 h2 => ?_⟩, rfl, rfl, ?_⟩
  · rw [hpp] at hx
    rcases mem_ins.1 hx with z | z
    · rw [z, ← ej]; exact way_in _ _ _
    · exact T.bd x z
  · rw [tins_get hs hph] at h1
    rw [hpp, tins_get _ hpl] at h2
    show ∃ k, way t.mask h' k = j' ∧ ∀ k', k' < k → way t.mask h' k' ∈ (t.put j).1.place.toList
    rcases Nat.lt_trichotomy i p with c | c | c
    · rw [if_pos c] at h1 h2
      obtain ⟨k, e, z⟩ := T.reach i h' j' h1 h2
      exact ⟨k, e, fun k' hk' => up (z k' hk')⟩
    · rw [if_neg (by omega), if_pos c] at h1 h2
      cases h1
      cases h2
      exact ⟨K, ej, fun k' hk' => up (hb k' hk')⟩
    · rw [if_neg (by omega), if_neg (by omega)] at h1 h2
      obtain ⟨k, e, z⟩ := T.reach (i - 1) h' j' h1 h2
      exact ⟨k, e, fun k' hk' => up (z k' hk')⟩
  · show (t.put j).1.place.size + (t.put j).1.dummies.size = hs.length + 1
    rw [hsize, put_dm T.dm j]
    rfl
/-- who sits where, each on its way -/
structure Sat (m : Nat) (done : List Int) (owner : Array (Option Nat)) : Prop where
  sits : SM.Sits m done.length owner
  at_ : ∀ j k, j ≤ m → oAt owner j = some k → ∃ h K, done[k]? = some h ∧ way m h K = j ∧ ∀ k', k' < K → oAt owner (way m h k') ≠ none
/-- the first free slot of a way is found -/
theorem free1 {m : Nat} (F : SM.Full m) (owner : Array (Option Nat)) (h : Int) {j : Nat} (hj : j ≤ m) (hf : oAt owner j = none) :
    ∃ K, SetTable.layClean.free m owner (SetTable.turns m) (SetTable.bits h % (m + 1)) (SetTable.bits h) = some (way m h K) ∧ oAt owner (way m h K) = none ∧ ∀ k, k < K → oAt owner (way m h k) ≠ none := by
  obtain ⟨k, hk, e⟩ := F.soon (runI_le m (SetTable.bits h) 12) hj
  have e2 : runI m (SetTable.bits h) (12 + k) = j := by rw [runI_tail (bits_lt h)]; exact e
  have hw : way m h (off m (SetTable.bits h % (m + 1)) (SetTable.bits h) (12 + k)) = j := by
    unfold way
    rw [nth_off, itL_run]
    exact e2
  obtain ⟨K, k1, k2, k3⟩ := st_least (p := fun k => oAt owner (way m h k) = none) _ (by rw [hw]; exact hf)
  refine ⟨K, free_spec m owner (SetTable.turns m) (12 + k) _ _ K (by unfold SetTable.turns; omega) k1 (fun q hq => ?_) ?_, k2, fun q hq => k3 q hq⟩
  · have z := k3 q hq
    show (oAt owner (way m h q)).isNone = false
    cases y : oAt owner (way m h q) with
    | none => exact absurd y z
    | some _ => rfl
  · show (oAt owner (way m h K)).isNone = true
    rw [k2]
    rfl
theorem Sat.more {m : Nat} (F : SM.Full m) {done : List Int} {owner : Array (Option Nat)} (W : Sat m done owner) (hl : done.length ≤ m) (h : Int) :
    ∃ y, SetTable.layClean.free m owner (SetTable.turns m) (SetTable.bits h % (m + 1)) (SetTable.bits h) = some y ∧ Sat m (done ++ [h]) (owner.setIfInBounds y (some done.length)) := by
  obtain ⟨ps, p1, p2⟩ := W.sits.ps
  obtain ⟨j0, h0, n0⟩ := st_missing ps (m + 1) (by omega)
  have f0 : oAt owner j0 = none := by
    cases z : oAt owner j0 with
    | none => rfl
    | some k => exact absurd (p2 j0 (by omega) (by rw [z]; exact fun e => nomatch e)) n0
  obtain ⟨K, e1, e2, e3⟩ := free1 F owner h (by omega) f0
  have hy := way_in m h K
  have hys : way m h K < owner.size := by rw [W.sits.sz]; omega
  have self := oAt_set_self (some done.length) hys
  refine ⟨_, e1, by have z := W.sits.put hy e2; rw [List.length_append]; exact z, fun j k hj e => ?_⟩
  have mono : ∀ {i : Nat}, oAt owner i ≠ none → oAt (owner.setIfInBounds (way m h K) (some done.length)) i ≠ none := fun {i} hi => by
    by_cases c : i = way m h K
    · rw [c, self]; exact fun e => nomatch e
    · rw [oAt_set_ne _ c]; exact hi
  by_cases c : j = way m h K
  · rw [c, self] at e
    cases e
    exact ⟨h, K, by rw [List.getElem?_append_right (Nat.le_refl _), Nat.sub_self]; rfl, c.symm, fun k' hk' => mono (e3 k' hk')⟩
  · rw [oAt_set_ne _ c] at e
    obtain ⟨h', K', a1, a2, a3⟩ := W.at_ j k hj e
    exact ⟨h', K', by rw [List.getElem?_append_left (List.getElem?_eq_some_iff.mp a1).1]; exact a1, a2, fun k' hk' => mono (a3 k' hk')⟩
theorem lay_all {m : Nat} (F : SM.Full m) {hs : Array Int} (hn : hs.size ≤ m) : ∃ owner, SetTable.layClean m hs = some owner ∧ Sat m hs.toList owner := by
  have go : ∀ (rest done : List Int) (owner : Array (Option Nat)), Sat m done owner → done.length + rest.length ≤ m → ∃ o', rest.foldl (stepF m) (some (owner, done.length)) = some (o', (done ++ rest).length) ∧ Sat m (done ++ rest) o' := by
    intro rest
    induction rest with
    | nil => intro done owner S _; rw [List.append_nil]; exact ⟨owner, rfl, S⟩
    | cons h rest ih =>
      intro done owner S hl
      rw [List.length_cons] at hl
      obtain ⟨y, e1, S2⟩ := S.more F (by omega) h
      have el : (done ++ [h]).length = done.length + 1 := by rw [List.length_append]; rfl
      obtain ⟨o', g1, g2⟩ := ih (done ++ [h]) _ S2 (by omega)
      rw [List.append_assoc, List.singleton_append] at g1 g2
      rw [el] at g1
      exact ⟨o', by rw [List.foldl_cons, stepF_some e1]; exact g1, g2⟩
  obtain ⟨o', g1, g2⟩ := go hs.toList [] _ ⟨SM.Sits.zero m, fun j k hj e => by rw [oAt_init hj] at e; cases e⟩ (by rw [Array.length_toList]; simpa using hn)
  refine ⟨o', ?_, g2⟩
  rw [layClean_eq]
  have g1' : hs.toList.foldl (stepF m) (some (Array.replicate (m + 1) none, 0)) = some (o', ([] ++ hs.toList).length) := g1
  rw [g1']
  rfl
theorem anew (t : SetTable) {hs : Array Int} {wanted M : Nat} (hw : SetTable.sizeAbove wanted - 1 = M) (hM : MaskG M) (hn : hs.size ≤ M) :
    ∃ t' order, t.relaid hs wanted = some (t', order) ∧ order.toList.Perm (List.range hs.size) ∧ TabF t' (order.toList.map fun i => hs.getD i 0) ∧ t'.mask = M ∧ t'.led = t.led := by
  obtain ⟨owner, e, W⟩ := lay_all hM.full hn
  have hr : t.relaid hs wanted = some (tabOf t M owner, ((liveOf M owner).map (·.2)).toArray) := by
    rw [relaid_eq, hw, e]
    rfl
  have ris := ris_live (fun j => owner.getD j none) (List.range (M + 1)) (by
    unfold Ris
    first | exact List.pairwise_lt_range | exact List.pairwise_lt_range _)
  have r1 : Ris ((liveOf M owner).map (·.1)) := ris.1
  have nd : ((liveOf M owner).map (·.1)).Nodup := List.Pairwise.imp (fun h => Nat.ne_of_lt h) r1
  have S := W.sits
  rw [Array.length_toList] at S
  have hlen : (liveOf M owner).length = hs.size := by
    obtain ⟨ps, p1, p2⟩ := S.ps
    have a := nat_nodup_len ((liveOf M owner).map (·.1)) ps nd fun x hx => by
      obtain ⟨⟨y, k⟩, hq, rfl⟩ := List.mem_map.mp hx
      obtain ⟨b1, b2⟩ := (mem_live S.sz).1 hq
      exact p2 y b1 (by rw [b2]; exact fun z => nomatch z)
    have b := nat_nodup_len (List.range hs.size) ((liveOf M owner).map (·.2)) List.nodup_range fun k hk => by
      obtain ⟨j, b1, b2⟩ := S.all k (List.mem_range.mp hk)
      exact List.mem_map.mpr ⟨(j, k), (mem_live S.sz).2 ⟨b1, b2⟩, rfl⟩
    rw [List.length_map, p1] at a
    rw [List.length_map, List.length_range] at b
    omega
  refine ⟨_, _, hr, ?_, ⟨r1, rfl, ?_, hM, fun x hx => ?_, fun i h j h1 h2 => ?_⟩, rfl, rfl⟩
  · refine perm_range hs.size _ (by show ((liveOf M owner).map (·.2)).length = _; rw [List.length_map]; exact hlen) fun k hk => ?_
    obtain ⟨j, b1, b2⟩ := S.all k hk
    exact List.mem_map.mpr ⟨(j, k), (mem_live S.sz).2 ⟨b1, b2⟩, rfl⟩
  · show ((liveOf M owner).map (·.1)).toArray.size = (((liveOf M owner).map (·.2)).map fun i => hs.getD i 0).length
    rw [List.size_toArray, List.length_map, List.length_map, List.length_map]
  · exact Nat.le_of_lt_succ (List.mem_range.mp (ris.2 x hx))
  · have h1' : (((liveOf M owner).map (·.2)).map fun i => hs.getD i 0)[i]? = some h := h1
    have h2' : ((liveOf M owner).map (·.1))[i]? = some j := h2
    rw [List.getElem?_map, List.getElem?_map] at h1'
    rw [List.getElem?_map] at h2'
    cases hq : (liveOf M owner)[i]? with
    | none => rw [hq] at h2'; cases h2'
    | some q =>
      obtain ⟨y, k⟩ := q
      rw [hq] at h1' h2'
      obtain rfl : y = j := Option.some.inj h2'
      have eh : hs.getD k 0 = h := Option.some.inj h1'
      obtain ⟨b1, b2⟩ := (mem_live S.sz).1 (List.mem_of_getElem? hq)
      obtain ⟨h0, K, a1, a2, a3⟩ := W.at_ y k b1 b2
      have e0 : hs.getD k 0 = h0 := by
        rw [Array.getD_eq_getD_getElem?, ← Array.getElem?_toList, a1]
        rfl
      rw [e0] at eh
      subst eh
      refine ⟨K, a2, fun k' hk' => ?_⟩
      show way M h0 k' ∈ (liveOf M owner).map (·.1)
      cases z : oAt owner (way M h0 k') with
      | none => exact absurd z (a3 k' hk')
      | some k2 => exact List.mem_map.mpr ⟨(way M h0 k', k2), (mem_live S.sz).2 ⟨way_in _ _ _, z⟩, rfl⟩
end KT

set_option linter.all false
set_option Elab.async false
set_option maxRecDepth 100000
set_option maxHeartbeats 4000000
namespace KT
open PySem PySem.Spec PyProof.Rows L2
abbrev Row := Addr × List Key
abbrev IsX (P : Program) (w : World) (h : Heap) (p : Row) : Prop := IsTupleKey (mixKind P w) h p.2 p.1
abbrev xh (P : Program) (w : World) (p : Row) : Int := tupleKeyHash (mixKind P w) p.2
abbrev ent (P : Program) (w : World) (p : Row) : Int × Value := (xh P w p, .ref p.1)
section
variable {P : Program} {w : World} {A : Around} {E : Value → Shared → Prop} {s : Shared}
def Plain1 (v : Value) : Prop := (∃ x t, v = Value.str x t) ∨ ∃ i t, v = Value.int i t
theorem texts {k : List Key} {vs : List Value} (h : ItemsAre (mixKind P w) k vs) : ∀ v ∈ vs, Plain1 v := by
  induction h with
  | nil => intro v hv; cases hv
  | @cons x v ks vs h1 _ ih =>
    intro u hu
    cases hu with
    | head =>
      rcases keyIs_shape h1 with ⟨i, t, _, e⟩ | ⟨y, t, _, e⟩
      · exact .inr ⟨i, t, e⟩
      · exact .inl ⟨y, t, e⟩
    | tail _ hu => exact ih u hu
theorem cls_txt (n : Nat) {v : Value} (h : Plain1 v) : ofAClassStatement n v = pure false := by
  rcases h with ⟨x, t, rfl⟩ | ⟨x, t, rfl⟩ <;> cases n <;> rfl
theorem val_txt (n : Nat) {v : Value} (h : Plain1 v) : hashByValue n v = pure false ∨ hashByValue n v = pure true := by
  rcases h with ⟨x, t, rfl⟩ | ⟨x, t, rfl⟩
  · left; cases n <;> rfl
  · right; cases n <;> rfl
theorem cls_tup {p : Row} {Q : Bool → Shared → Prop} (hp : IsX P w s.heap p) (h : Q false s) : wpAny (model P w) A (ofAClassStatement 8 (.ref p.1)) Q E s := by
  have hT := hp.typeIs
  obtain ⟨o, items, n, ho, _, hd, hi⟩ := hp
  have hall := texts hi
  unfold ofAClassStatement
  refine wpAny_bind (wpAny_typeOf hT ?_)
  dsimp only
  simp only [show (("tuple" : String) == "tuple") = true by decide, if_true, Bool.not_true, Bool.false_eq_true, if_false]
  try refine wpAny_bind (wpAny_pure ?_)
  try simp only [Bool.not_true, Bool.false_eq_true, if_false]
  show wpAny _ _ (seqItems? (.ref p.1) >>= _) _ _ s
  refine wpAny_bind (wpAny_seqItems ho hd ?_)
  dsimp only
  refine wpAny_bind ?_
  show wpAny _ _ (forIn items _ _) _ _ s
  rw [← Array.forIn_toList]
  refine wpAny_forIn_list _ (fun rest r s' => (r.1 = none ∧ s' = s) ∧ ∀ v ∈ rest, Plain1 v) _ ?_ ?_ _ _ ⟨⟨rfl, rfl⟩, hall⟩
  · rintro v rest r s' ⟨⟨hr, rfl⟩, ha⟩
    rw [cls_txt _ (ha v List.mem_cons_self)]
    refine wpAny_bind (wpAny_pure ?_)
    simp only [Bool.false_eq_true, if_false]
    exact wpAny_pure ⟨⟨rfl, rfl⟩, fun u hu => ha u (List.mem_cons_of_mem _ hu)⟩
  · rintro ⟨r1, r2⟩ s' ⟨⟨hr, rfl⟩, _⟩
    simp only at hr
    subst hr
    exact wpAny_pure h
theorem val_tup {p : Row} {Q : Bool → Shared → Prop} (hp : IsX P w s.heap p) (h : ∀ b, Q b s) : wpAny (model P w) A (hashByValue 8 (.ref p.1)) Q E s := by
  have hT := hp.typeIs
  obtain ⟨o, items, n, ho, _, hd, hi⟩ := hp
  have hall := texts hi
  unfold hashByValue
  refine wpAny_bind (wpAny_specialOf hT F.slot_tuple_hash.lookup ?_)
  show wpAny _ _ (seqItems? (.ref p.1) >>= _) _ _ s
  refine wpAny_bind (wpAny_seqItems ho hd ?_)
  refine wpAny_bind ?_
  show wpAny _ _ (forIn items _ _) _ _ s
  rw [← Array.forIn_toList]
  refine wpAny_forIn_list _ (fun rest r s' => s' = s ∧ (∀ v ∈ rest, Plain1 v)) _ ?_ ?_ _ _ ⟨rfl, hall⟩
  · rintro v rest r s' ⟨rfl, ha⟩
    rcases val_txt 7 (ha v List.mem_cons_self) with e | e
    · rw [e]
      refine wpAny_bind (wpAny_pure ?_)
      simp only [Bool.not_false, if_true]
      refine wpAny_pure ?_
      exact wpAny_pure (h _)
    · rw [e]
      refine wpAny_bind (wpAny_pure ?_)
      simp only [Bool.not_true, Bool.false_eq_true, if_false]
      exact wpAny_pure ⟨rfl, fun u hu => ha u (List.mem_cons_of_mem _ hu)⟩
  · rintro ⟨r1, r2⟩ s' ⟨rfl, _⟩
    cases r1 with
    | none => exact wpAny_pure (h _)
    | some b => exact wpAny_pure (h _)
theorem unseen {p : Row} {Q : Bool → Shared → Prop} (hp : IsX P w s.heap p) {ys : List Value} (hy : ∀ y ∈ ys, ∃ q : Row, y = Value.ref q.1 ∧ IsX P w s.heap q) (h : Q false s) :
    wpAny (model P w) A (searchCouldBeSeen (.ref p.1) ys) Q E s := by
  unfold searchCouldBeSeen
  refine wpAny_bind (wpAny_forIn_list _ (fun rest r s' => (r.1 = none ∧ s' = s) ∧ ∀ y ∈ rest, ∃ q : Row, y = Value.ref q.1 ∧ IsX P w s.heap q) _ ?_ ?_ _ _ ⟨⟨rfl, rfl⟩, hy⟩)
  · rintro v rest r s' ⟨⟨hr, rfl⟩, ha⟩
    obtain ⟨q, rfl, hq⟩ := ha v List.mem_cons_self
    have on : ∀ y ∈ rest, ∃ q : Row, y = Value.ref q.1 ∧ IsX P w s'.heap q := fun u hu => ha u (List.mem_cons_of_mem _ hu)
    dsimp only
    by_cases hv : (p.1 == q.1 || (carriedByValue (.ref p.1) && carriedByValue (.ref q.1))) = true
    · exact wp_if_pos hv (wpAny_pure ⟨⟨rfl, rfl⟩, on⟩)
    · refine wp_if_neg hv (wpAny_bind (wpAny_eqIsQuiet_tuple hp ?_))
      simp only [Bool.not_true, Bool.false_eq_true, if_false]
      refine wpAny_bind (wpAny_eqIsQuiet_tuple hq ?_)
      simp only [Bool.not_true, Bool.false_eq_true, if_false]
      refine wpAny_bind (cls_tup hp ?_)
      simp only [Bool.false_eq_true, if_false]
      refine wpAny_bind (cls_tup hq ?_)
      simp only [Bool.false_eq_true, if_false]
      exact wpAny_pure ⟨⟨rfl, rfl⟩, on⟩
  · rintro ⟨r1, r2⟩ s' ⟨⟨hr, rfl⟩, _⟩
    simp only at hr
    subst hr
    exact wpAny_pure h
/-- a set of tuples of texts -/
structure Tab (P : Program) (w : World) (h : Heap) (a : Addr) (L : List Row) (es : Array (Int × Value)) (ep : Nat) (t : SetTable) : Prop where
  here : ∃ o, h.get? a = some o ∧ o.ExactSet ∧ o.data = .set es ep t
  rows : es.toList = L.map (ent P w)
  tab : TabF t (L.map (xh P w))
  keys : ∀ p ∈ L, IsX P w h p
  led : w.params.followText "set-order" = true ∨ t.led = true
  room : L.length * 5 < t.mask * 3
  nd : (L.map (·.2)).Nodup
variable {a : Addr} {L : List Row} {es : Array (Int × Value)} {ep : Nat} {t : SetTable}
theorem len_rows (h : es.toList = L.map (ent P w)) : es.size = L.length := by
  have e := congrArg List.length h
  rw [Array.length_toList, List.length_map] at e
  exact e
theorem Tab.size {h : Heap} (R : Tab P w h a L es ep t) : es.size = L.length := len_rows R.rows
theorem Tab.place {h : Heap} (R : Tab P w h a L es ep t) : t.place.size = L.length := by
  have e := R.tab.sz
  rw [List.length_map] at e
  exact e
theorem Tab.fits {h : Heap} (R : Tab P w h a L es ep t) : t.fits es.size = true := by
  have h1 := R.place
  have h2 := R.size
  have h3 := R.room
  unfold SetTable.fits SetTable.fill
  rw [R.tab.dm, Bool.and_eq_true, beq_iff_eq, decide_eq_true_eq, show (#[] : Array Nat).size = 0 from rfl]
  omega
theorem Tab.whole {h : Heap} (R : Tab P w h a L es ep t) : ¬ t.gaveWay = true := by
  unfold SetTable.gaveWay
  rw [odd R.tab.mok]
  decide
theorem Tab.at_ {h : Heap} (R : Tab P w h a L es ep t) {i : Nat} {p : Row} (e : L[i]? = some p) : es[i]? = some (ent P w p) := by
  rw [← Array.getElem?_toList, R.rows, List.getElem?_map, e]
  rfl
theorem nodummy (m : Nat) : ∀ (n : Nat) (p : SetTable.Probe), p.dummy = none → (nth m p n).dummy = none
  | 0, _, h => h
  | n + 1, p, h => nodummy m n (adv m p) (by unfold adv; split <;> exact h)
theorem ris_inj {l : List Nat} (r : Ris l) {i j x : Nat} (hi : l[i]? = some x) (hj : l[j]? = some x) : i = j := by
  obtain ⟨h1, e1⟩ := List.getElem?_eq_some_iff.mp hi
  obtain ⟨h2, e2⟩ := List.getElem?_eq_some_iff.mp hj
  rcases Nat.lt_trichotomy i j with c | c | c
  · have z := (List.pairwise_iff_getElem.mp r) i j h1 h2 c
    omega
  · exact c
  · have z := (List.pairwise_iff_getElem.mp r) j i h2 h1 c
    omega
/-- the search: it tells that the key is there, or the first free place -/
theorem seek (R : Tab P w s.heap a L es ep t) {p : Row} (hp : IsX P w s.heap p) (hu : A.units < cLine) {H : Int} {S : SetTable.Probe} (eS : runAt t.mask (SetTable.bits H % (t.mask + 1)) (SetTable.bits H) = S) {K : Nat} (hKf : K < 10 * SetTable.turns t.mask)
    (hK : way t.mask H K ∉ t.place.toList) (hKb : ∀ c, c < K → way t.mask H c ∈ t.place.toList) {Q : SetFound → Shared → Prop}
    (hH : H = xh P w p) (hin : (∃ q ∈ L, q.2 = p.2) → Q (.there none) s) (hout : (∀ q ∈ L, q.2 ≠ p.2) → Q (.free (way t.mask H K) false) s) :
    ∀ (f c : Nat) (stand : Option SetTable.Probe), stand.getD (t.probeStart H) = nth t.mask S c → c ≤ K → K - c < f → (∀ (c' i : Nat) (q : Row), c' < c → t.place.toList[i]? = some (way t.mask H c') → L[i]? = some q → q.2 ≠ p.2) → wpAny (model P w) A (setSearchFrom a (.ref p.1) H true f stand) Q E s
  | 0, _, _, _, _, hf, _ => absurd hf (Nat.not_lt_zero _)
  | f + 1, c, stand, hst, hc, hf, hmet => by
    obtain ⟨o, ho, hex, hd⟩ := R.here
    rw [setSearchFrom_succ]
    refine wpAny_bind (wpAny_setState_of ho hd R.fits ?_)
    dsimp only
    refine wp_if_neg R.whole ?_
    try refine wpAny_bind (wpAny_pure ?_)
    have sh : ∀ q, nth t.mask (nth t.mask S c) q = nth t.mask S (c + q) := fun q => (nth_add t.mask c _ q).symm
    have wj : ∀ q, (nth t.mask (nth t.mask S c) q).j = way t.mask H (c + q) := fun q => by rw [sh q, ← eS]
    have spec := go_spec t R.tab.ris R.tab.dm (fun i => (es[i]?.map (·.1)).getD 0) H (10 * SetTable.turns t.mask) (K - c) (nth t.mask S c) (nodummy _ c S (by rw [← eS]; rfl)) (by omega)
      (fun q hq => by rw [wj]; exact hKb (c + q) (by omega)) (by rw [wj, show c + (K - c) = K by omega]; exact hK)
    have pr : t.probe (fun i => (es[i]?.map (·.1)).getD 0) H (stand.getD (t.probeStart H)) = SetTable.probe.go t (fun i => (es[i]?.map (·.1)).getD 0) H (10 * SetTable.turns t.mask) (nth t.mask S c) := by rw [hst]; rfl
    rw [pr]
    have eh : ∀ (i : Nat) (q : Row), L[i]? = some q → (es[i]?.map (·.1)).getD 0 = xh P w q := fun i q e => by rw [R.at_ e]; rfl
    have hof : ∀ (i : Nat) (q : Row), L[i]? = some q → q.2 = p.2 → (es[i]?.map (·.1)).getD 0 = H := fun i q e e2 => by rw [eh i q e, hH]; show tupleKeyHash _ q.2 = tupleKeyHash _ p.2; rw [e2]
    rcases spec with ⟨q, i, hq, hi, hh, hlow, hpr⟩ | ⟨hlow, hpr⟩
    · rw [hpr]
      dsimp only
      rw [wj] at hi ⊢
      rw [sh]
      have hil : i < L.length := by
        have h1 : i < t.place.toList.length := (List.getElem?_eq_some_iff.mp hi).1
        rw [Array.length_toList, R.place] at h1
        exact h1
      have he : L[i]? = some L[i] := List.getElem?_eq_getElem hil
      have hm : L[i] ∈ L := List.getElem_mem hil
      generalize L[i] = r at he hm
      have rest : wpAny (model P w) A (searchRest a (.ref p.1) H true f es t (way t.mask H (c + q)) i (nth t.mask S (c + (q + 1)))) Q E s := by
        unfold searchRest
        rw [R.at_ he]
        dsimp only
        refine wpAny_bind (wpAny_holding (wpAny_eqBool_tuple hu (R.keys r hm) hp ?_))
        refine wpAny_bind (wpAny_setState_of ho hd R.fits ?_)
        dsimp only
        by_cases hkk : r.2 = p.2
        · exact wp_if_pos (by simp [hkk]) (wpAny_pure (hin ⟨r, hm, hkk⟩))
        · refine wp_if_neg (by simp [hkk]) ?_
          try refine wpAny_bind (wpAny_pure ?_)
          rw [sameMem]
          dsimp only
          have hsl : t.slot (way t.mask H (c + q)) = .live i := slot_live R.tab.ris hi
          simp only [if_true, hsl, R.at_ he]
          refine wpAny_bind (wpAny_isSame_ref_self (wpAny_bind (wpAny_pure ?_)))
          simp only [if_true]
          refine wp_if_neg (by simp [hkk]) ?_
          refine seek R hp hu eS hKf hK hKb hH hin hout f (c + (q + 1)) (some (nth t.mask S (c + (q + 1)))) rfl (by omega) (by omega) fun c' i' q' hc' hi' hq' e' => ?_
          by_cases h1 : c' < c
          · exact hmet c' i' q' h1 hi' hq' e'
          · by_cases h2 : c' = c + q
            · rw [h2] at hi'
              have ei : i' = i := ris_inj R.tab.ris hi' hi
              rw [ei, he] at hq'
              cases hq'
              exact hkk e'
            · exact hlow (c' - c) i' (by omega) (by rw [wj, show c + (c' - c) = c' by omega]; exact hi') (hof i' q' hq' e')
      by_cases hl : t.led = true
      · refine wp_if_neg (by simp [hl]) ?_
        try refine wpAny_bind (wpAny_pure ?_)
        exact rest
      · refine wp_if_pos (by simp [hl]) ?_
        refine wpAny_bind (unseen hp (fun y hy => ?_) ?_)
        · obtain ⟨e, he1, rfl⟩ := List.mem_map.mp hy
          have he2 : e ∈ es.toList := by
            have z : e ∈ es ∧ e.1 = H := by simpa using he1
            simpa using z.1
          rw [R.rows] at he2
          obtain ⟨r2, hr2, rfl⟩ := List.mem_map.mp he2
          exact ⟨r2, rfl, R.keys r2 hr2⟩
        · refine wp_if_neg (by decide) ?_
          try refine wpAny_bind (wpAny_pure ?_)
          exact rest
    · rw [hpr]
      dsimp only
      rw [wj, show c + (K - c) = K by omega]
      refine wpAny_pure (hout fun q hq e => ?_)
      obtain ⟨i, hi⟩ := List.getElem?_of_mem hq
      have hil : i < t.place.toList.length := by
        rw [Array.length_toList, R.place]
        exact (List.getElem?_eq_some_iff.mp hi).1
      obtain ⟨k', hk', ew⟩ := R.tab.ahead (h := H) (by exact hK) (by rw [List.getElem?_map, hi, hH]; show some (tupleKeyHash _ q.2) = some (tupleKeyHash _ p.2); rw [e]) (List.getElem?_eq_getElem hil)
      by_cases h1 : k' < c
      · exact hmet k' i q h1 (by rw [ew]; exact List.getElem?_eq_getElem hil) hi e
      · exact hlow (k' - c) i (by omega) (by rw [wj, show c + (k' - c) = k' by omega, ew]; exact List.getElem?_eq_getElem hil) (hof i q hi e)
/-- the search of an adding -/
theorem seek_all (R : Tab P w s.heap a L es ep t) {p : Row} (hp : IsX P w s.heap p) (hu : A.units < cLine) {Q : SetFound → Shared → Prop} (hin : (∃ q ∈ L, q.2 = p.2) → Q (.there none) s)
    (hout : (∀ q ∈ L, q.2 ≠ p.2) → ∀ K, way t.mask (xh P w p) K ∉ t.place.toList → (∀ c, c < K → way t.mask (xh P w p) c ∈ t.place.toList) → Q (.free (way t.mask (xh P w p) K) false) s) :
    wpAny (model P w) A (setSearch a (.ref p.1) (xh P w p) true) Q E s := by
  have hroom := R.room
  obtain ⟨K, hKf, hK, hKb⟩ := R.tab.first (by rw [List.length_map]; omega) (xh P w p)
  have hbig : 10 * SetTable.turns t.mask < 100000 := by
    unfold SetTable.turns
    rcases R.tab.mok with e | e | e | e <;> omega
  exact seek R hp hu rfl hKf hK hKb rfl hin (fun n => hout n K hK hKb) 100000 0 none rfl (Nat.zero_le _) (by omega) fun c' i q h => absurd h (Nat.not_lt_zero _)
theorem key_same {h h' : Heap} {p : Row} {o : Obj} (hp : IsX P w h p) (ho : h.get? a = some o) (hd : o.data = .set es ep t) (hs : Heap.SameBut a h h') : IsX P w h' p := by
  obtain ⟨o', items, n, ho', hc, hd', hi⟩ := hp
  have hne : p.1 ≠ a := fun e => by
    rw [e, ho] at ho'
    rw [← Option.some.inj ho', hd] at hd'
    exact nomatch hd'
  exact ⟨o', items, n, (hs.2 _ hne).trans ho', hc, hd', hi⟩
theorem key_keep {h h' : Heap} {p : Row} (x : IsX P w h p) (hk : ∀ c o, h.get? c = some o → h'.get? c = some o) : IsX P w h' p := by
  obtain ⟨o, items, n, ho, r⟩ := x
  exact ⟨o, items, n, hk _ o ho, r⟩
theorem range_fm {α : Type} : ∀ L : List α, (List.range L.length).filterMap (fun i => L[i]?) = L
  | [] => rfl
  | a :: r => by
    have e := range_fm r
    have z : ((List.range r.length).map Nat.succ).filterMap (fun i => (a :: r)[i]?) = r := by
      rw [List.filterMap_map]
      exact e
    rw [List.length_cons, List.range_succ_eq_map]
    show a :: ((List.range r.length).map Nat.succ).filterMap (fun i => (a :: r)[i]?) = a :: r
    rw [z]
/-- rows in a new order -/
theorem turn_rows {L : List Row} {es : Array (Int × Value)} {order : Array Nat} (hr : es.toList = L.map (ent P w)) (hp : order.toList.Perm (List.range L.length)) :
    ∃ L2 : List Row, (order.filterMap (es[·]?)).toList = L2.map (ent P w) ∧ L2.Perm L ∧ L2.length = L.length ∧ L2.map (xh P w) = order.toList.map fun i => (es.map (·.1)).getD i 0 := by
  have at_ : ∀ i, es[i]? = (L[i]?).map (ent P w) := fun i => by rw [← Array.getElem?_toList, hr, List.getElem?_map]
  have lt : ∀ i ∈ order.toList, i < L.length := fun i hi => List.mem_range.mp (hp.mem_iff.mp hi)
  refine ⟨order.toList.filterMap fun i => L[i]?, ?_, ?_, ?_, ?_⟩
  · rw [Array.toList_filterMap, List.map_filterMap]
    congr 1
    funext i
    exact at_ i
  · have z := hp.filterMap fun i => L[i]?
    rw [range_fm] at z
    exact z
  · have z : ∀ l : List Nat, (∀ i ∈ l, i < L.length) → (l.filterMap fun i => L[i]?).length = l.length := by
      intro l
      induction l with
      | nil => intro _; rfl
      | cons i l ih =>
        intro h
        rw [List.filterMap_cons_some (List.getElem?_eq_getElem (h i List.mem_cons_self)), List.length_cons, ih fun j hj => h j (List.mem_cons_of_mem _ hj), List.length_cons]
    rw [z _ lt, hp.length_eq, List.length_range]
  · have z : ∀ l : List Nat, (∀ i ∈ l, i < L.length) → (l.filterMap fun i => L[i]?).map (xh P w) = l.map fun i => (es.map (·.1)).getD i 0 := by
      intro l
      induction l with
      | nil => intro _; rfl
      | cons i l ih =>
        intro h
        have hi := h i List.mem_cons_self
        rw [List.filterMap_cons_some (List.getElem?_eq_getElem hi), List.map_cons, List.map_cons, ih fun j hj => h j (List.mem_cons_of_mem _ hj)]
        congr 1
        rw [Array.getD_eq_getD_getElem?, Array.getElem?_map, at_ i, List.getElem?_eq_getElem hi]
        rfl
    exact z _ lt
/-- the table laid anew -/
theorem relay {o : Obj} (ho : s.heap.get? a = some o) (hex : o.ExactSet) (hd : o.data = .set es ep t) (hrows : es.toList = L.map (ent P w)) (hsz : t.place.size = es.size) (hdm : t.dummies = #[]) (hfl : es.size ≤ t.mask)
    (keys : ∀ p ∈ L, IsX P w s.heap p) (ld : w.params.followText "set-order" = true ∨ t.led = true) {wanted M : Nat} (hw : SetTable.sizeAbove wanted - 1 = M) (hM : MaskG M) (hw2 : SetTable.sizeAbove wanted ≤ 512) (hnd : (L.map (·.2)).Nodup) (hn : L.length * 5 < M * 3)
    {Q : Unit → Shared → Prop} (hQ : ∀ h' L' es' ep' t', Heap.SameBut a s.heap h' → Tab P w h' a L' es' ep' t' → L'.Perm L → L'.length = L.length → Q () { s with heap := h' }) : wpAny (model P w) A (setRelay a wanted) Q E s := by
  have hsl := len_rows hrows
  have hfits : t.fits es.size = true := by
    unfold SetTable.fits SetTable.fill
    rw [hdm, Bool.and_eq_true, beq_iff_eq, decide_eq_true_eq, show (#[] : Array Nat).size = 0 from rfl]
    omega
  obtain ⟨t', order, e, hp, T, em, el⟩ := anew t (hs := es.map (·.1)) (wanted := wanted) hw hM (by rw [Array.size_map, hsl]; omega)
  rw [Array.size_map, hsl] at hp
  obtain ⟨L2, r1, r2, r3, r4⟩ := turn_rows hrows hp
  rw [← r4] at T
  have hs2 : (order.filterMap (es[·]?)).size = es.size := by rw [len_rows r1, r3, hsl]
  rw [setRelay_eq]
  refine wpAny_bind (wpAny_setState_of ho hd hfits ?_)
  dsimp only
  refine wp_if_neg (by rw [sizeLine_eq]; omega) ?_
  try refine wpAny_bind (wpAny_pure ?_)
  rw [e]
  dsimp only
  refine wpAny_bind ?_
  refine wp_if_neg (by rw [hs2]; simp) ?_
  try refine wpAny_bind (wpAny_pure ?_)
  refine wpAny_pure ?_
  dsimp only
  have hMle : M ≤ 511 := by rcases hM with e | e | e | e <;> omega
  refine wpAny_storeSet_of ho hd ?_ (by rw [hs2, hsl, sizeLine_eq]; omega)
  have sb : Heap.SameBut a s.heap (s.heap.update a (Obj.putSet (order.filterMap (es[·]?)) t')) := Heap.SameBut.update ..
  refine hQ _ L2 _ (ep + 1) t' sb ⟨⟨_, store_at ho hd, ⟨hex.1, hex.2.1, hex.2.2⟩, rfl⟩, r1, T, fun p hpm => key_same (keys p (r2.mem_iff.mp hpm)) ho hd sb, by rw [el]; exact ld, by rw [r3, em]; exact hn, (r2.map (·.2)).nodup_iff.mpr hnd⟩ r2 r3
theorem size_308 : SetTable.sizeAbove (SetTable.grown 77) = 512 := by decide +kernel
/-- adding -/
theorem add (R : Tab P w s.heap a L es ep t) {p : Row} (hp : IsX P w s.heap p) (hu : A.units < cLine) (hfew : L.length + 1 < 300) {Q : Bool → Shared → Prop}
    (hQ : ∀ b h' L' es' ep' t', Heap.SameBut a s.heap h' → Tab P w h' a L' es' ep' t' → ((L' = L ∧ ∃ q ∈ L, q.2 = p.2) ∨ (L'.Perm (p :: L) ∧ ∀ q ∈ L, q.2 ≠ p.2)) → Q b { s with heap := h' }) :
    wpAny (model P w) A (setAddHashed a (.ref p.1) (xh P w p)) Q E s := by
  obtain ⟨o, ho, hex, hd⟩ := R.here
  have hsl := R.size
  have hroom := R.room
  unfold setAddHashed
  refine wpAny_holding ?_
  rw [show (100000 : Nat) = 99999 + 1 from rfl, setAddHashedIn_succ]
  refine wpAny_bind (wpAny_setState_of ho hd R.fits ?_)
  dsimp only
  refine wp_if_neg (by simp [byScan, Value.scannable]) ?_
  try refine wpAny_bind (wpAny_pure ?_)
  refine wpAny_bind (seek_all R hp hu (fun hm => ?_) fun hno K hK hb => ?_)
  · exact wpAny_pure (hQ false s.heap L es ep t (Heap.SameBut.refl a s.heap) R (.inl ⟨rfl, hm⟩))
  · dsimp only
    refine wpAny_bind (wpAny_setState_of ho hd R.fits ?_)
    dsimp only
    obtain ⟨q1, q2, q3, q4, q5, q9⟩ := R.tab.lay1 rfl rfl hK hb
    generalize t.put (way t.mask (xh P w p) K) = pt at q1 q3 q4 q5 q9 ⊢
    obtain ⟨t1, at1⟩ := pt
    dsimp only at q1 q3 q4 q5 q9 ⊢
    subst q1
    have hin : (SetTable.insertAt es (SetTable.below t.place (way t.mask (xh P w p) K)) (xh P w p, Value.ref p.1)).toList = (L.take (SetTable.below t.place (way t.mask (xh P w p) K)) ++ p :: L.drop (SetTable.below t.place (way t.mask (xh P w p) K))).map (ent P w) := by
      rw [SetTable.toList_insertAt, R.rows, List.map_append, List.map_cons, List.map_take, List.map_drop]
    generalize SetTable.below t.place (way t.mask (xh P w p) K) = at1 at q2 q3 hin ⊢
    have pm : (L.take at1 ++ p :: L.drop at1).Perm (p :: L) := L2.put_perm L at1 p
    have hlen := pm.length_eq
    rw [List.length_cons] at hlen
    have hhs : (L.take at1 ++ p :: L.drop at1).map (xh P w) = (L.map (xh P w)).take at1 ++ xh P w p :: (L.map (xh P w)).drop at1 := by
      rw [List.map_append, List.map_cons, List.map_take, List.map_drop]
    rw [← hhs] at q3
    have hes := len_rows hin
    rw [hlen] at hes
    generalize SetTable.insertAt es at1 (xh P w p, Value.ref p.1) = es1 at hin hes ⊢
    generalize L.take at1 ++ p :: L.drop at1 = L1 at pm hlen q3 hin
    have sub1 : ∀ q ∈ L1, q = p ∨ q ∈ L := fun q hq => List.mem_cons.mp (pm.mem_iff.mp hq)
    have sub2 : ∀ q ∈ L, q ∈ L1 := fun q hq => pm.mem_iff.mpr (List.mem_cons_of_mem _ hq)
    have sub3 : p ∈ L1 := pm.mem_iff.mpr List.mem_cons_self
    have hnd1 : (L1.map (·.2)).Nodup := (pm.map (·.2)).nodup_iff.mpr (List.nodup_cons.mpr ⟨fun z => by
      obtain ⟨q, hq, e⟩ := List.mem_map.mp z
      exact hno q hq e, R.nd⟩)
    -- whatever the word on the order
    have go : ∀ b : Bool, wpAny (model P w) A (do
        storeSet a es1 (if b then t1 else { t1 with plain := false })
        if !false && (if b then t1 else { t1 with plain := false } : SetTable).tooFull then setRelay a (SetTable.grown (es.size + 1))
        return true) Q E s := by
      intro b
      generalize ht2 : (if b then t1 else { t1 with plain := false } : SetTable) = t2
      have e1 : t2.place = t1.place ∧ t2.mask = t1.mask ∧ t2.dummies = t1.dummies ∧ t2.led = t1.led := by
        rw [← ht2]
        cases b <;> exact ⟨rfl, rfl, rfl, rfl⟩
      obtain ⟨ep1, em1, ed1, el1⟩ := e1
      have T2 : TabF t2 (L1.map (xh P w)) := by
        refine ⟨by rw [ep1]; exact q3.ris, by rw [ed1]; exact q3.dm, by rw [ep1]; exact q3.sz, by rw [em1]; exact q3.mok, by rw [ep1, em1]; exact q3.bd, fun i h j h1 h2 => ?_⟩
        rw [ep1] at h2
        rw [ep1, em1]
        exact q3.reach i h j h1 h2
      have fill : t2.fill = L.length + 1 := by
        have z : t2.fill = t1.fill := by unfold SetTable.fill; rw [ep1, ed1]
        rw [z, q9, List.length_map]
      refine wpAny_bind (wpAny_storeSet_of ho hd ?_ (by rw [hes, sizeLine_eq]; omega))
      have sb : Heap.SameBut a s.heap (s.heap.update a (Obj.putSet es1 t2)) := Heap.SameBut.update ..
      have ho1 := store_at (es' := es1) (t' := t2) ho hd
      generalize s.heap.update a (Obj.putSet es1 t2) = h1 at sb ho1 ⊢
      have keys1 : ∀ q ∈ L1, IsX P w h1 q := fun q hq => by
        rcases sub1 q hq with e | e
        · rw [e]; exact key_same hp ho hd sb
        · exact key_same (R.keys q e) ho hd sb
      have ld1 : w.params.followText "set-order" = true ∨ t2.led = true := by rw [el1, q5]; exact R.led
      by_cases hf : t2.tooFull = true
      · have hfull : (L.length + 1) * 5 ≥ t2.mask * 3 := by
          have z := hf
          unfold SetTable.tooFull at z
          rw [decide_eq_true_eq, fill] at z
          exact z
        have hsz1 : t2.place.size = es1.size := by
          have z := T2.sz
          rw [List.length_map, hlen] at z
          rw [z, hes]
        have two : (t.mask = 7 ∧ L.length = 4) ∨ (t.mask = 31 ∧ L.length = 18) ∨ (t.mask = 127 ∧ L.length = 76) := by
          rw [em1, q4] at hfull
          rcases R.tab.mok with e | e | e | e <;> rw [e] at hfull hroom
          · exact .inl ⟨e, by omega⟩
          · exact .inr (.inl ⟨e, by omega⟩)
          · exact .inr (.inr ⟨e, by omega⟩)
          · exfalso; omega
        have lay : ∀ M, SetTable.sizeAbove (SetTable.grown (L.length + 1)) - 1 = M → MaskG M → SetTable.sizeAbove (SetTable.grown (L.length + 1)) ≤ 512 → (L.length + 1) * 5 < M * 3 →
            wpAny (model P w) A (setRelay a (SetTable.grown (L.length + 1))) (fun _ s' => wpAny (model P w) A (pure true) Q E s') E { s with heap := h1 } := fun M h1' h2' h3' h4' => by
          refine relay (s := { s with heap := h1 }) ho1 ⟨hex.1, hex.2.1, hex.2.2⟩ rfl hin hsz1 T2.dm (by rw [hes, em1, q4]; rcases two with ⟨e, e2⟩ | ⟨e, e2⟩ | ⟨e, e2⟩ <;> omega) keys1 ld1 h1' h2' h3' hnd1 (by rw [hlen]; exact h4') ?_
          intro h2 L2 es2 ep2 t3 sb2 R2 m2 l2
          exact wpAny_pure (hQ true h2 L2 es2 ep2 t3 (sb.trans sb2) R2 (.inr ⟨m2.trans pm, hno⟩))
        rw [hsl]
        first
          | (refine wpAny_bind ?_; refine wp_if_pos (by simp [hf]) ?_)
          | (refine wp_if_pos (by simp [hf]) ?_; refine wpAny_bind ?_)
        rcases two with ⟨_, e2⟩ | ⟨_, e2⟩ | ⟨_, e2⟩
        · exact lay 31 (by rw [e2, size_20]) (.inr (.inl rfl)) (by rw [e2, size_20]; decide) (by omega)
        · exact lay 127 (by rw [e2, size_76]) (.inr (.inr (.inl rfl))) (by rw [e2, size_76]; decide) (by omega)
        · exact lay 511 (by rw [e2, size_308]) (.inr (.inr (.inr rfl))) (by rw [e2, size_308]; decide) (by omega)
      · first
          | refine wp_if_neg (by simp [hf]) ?_
          | (refine wpAny_bind ?_; refine wp_if_neg (by simp [hf]) ?_; refine wpAny_pure ?_)
        refine wpAny_pure (hQ true h1 L1 es1 (ep + 1) t2 sb ⟨⟨_, ho1, ⟨hex.1, hex.2.1, hex.2.2⟩, rfl⟩, hin, T2, keys1, ld1, ?_, hnd1⟩ (.inr ⟨pm, hno⟩))
        have z := hf
        unfold SetTable.tooFull at z
        rw [decide_eq_true_eq, fill] at z
        rw [hlen]
        omega
    by_cases hpl : t1.plain = true
    · first
        | (refine wpAny_bind ?_; refine wp_if_pos hpl ?_; refine val_tup hp fun b => ?_)
        | refine wp_if_pos hpl (wpAny_bind (val_tup hp fun b => ?_))
      exact go b
    · first
        | (refine wpAny_bind ?_; refine wp_if_neg hpl ?_; refine wpAny_pure ?_)
        | refine wp_if_neg hpl (wpAny_bind (wpAny_pure ?_))
        | refine wp_if_neg hpl ?_
      exact go true
/-- what the set has of the first i of a list's items -/
structure Has (ks : List Row) (i : Nat) (L : List Row) : Prop where
  sub : ∀ q ∈ L, q ∈ ks.take i
  all : ∀ q ∈ ks.take i, ∃ r ∈ L, r.2 = q.2
  few : L.length ≤ i
theorem Has.next {ks L L' : List Row} {i : Nat} {p : Row} (g : Has ks i L) (h : ks[i]? = some p) (c : (L' = L ∧ ∃ q ∈ L, q.2 = p.2) ∨ (L'.Perm (p :: L) ∧ ∀ q ∈ L, q.2 ≠ p.2)) : Has ks (i + 1) L' := by
  have e : ks.take (i + 1) = ks.take i ++ [p] := L2.take_next h
  have s1 : ∀ q ∈ L', q = p ∨ q ∈ L := fun q hq => by
    rcases c with ⟨e1, _⟩ | ⟨pm, _⟩
    · rw [e1] at hq; exact .inr hq
    · exact List.mem_cons.mp (pm.mem_iff.mp hq)
  have s2 : ∀ q ∈ L, q ∈ L' := fun q hq => by
    rcases c with ⟨e1, _⟩ | ⟨pm, _⟩
    · rw [e1]; exact hq
    · exact pm.mem_iff.mpr (List.mem_cons_of_mem _ hq)
  have s3 : ∃ q ∈ L', q.2 = p.2 := by
    rcases c with ⟨e1, q, hq, e2⟩ | ⟨pm, _⟩
    · rw [e1]; exact ⟨q, hq, e2⟩
    · exact ⟨p, pm.mem_iff.mpr List.mem_cons_self, rfl⟩
  have sl : L'.length ≤ L.length + 1 := by
    rcases c with ⟨e1, _⟩ | ⟨pm, _⟩
    · rw [e1]; omega
    · rw [pm.length_eq, List.length_cons]; exact Nat.le_refl _
  refine ⟨fun q hq => ?_, fun q hq => ?_, Nat.le_trans sl (Nat.succ_le_succ g.few)⟩
  · rw [e]
    rcases s1 q hq with z | z
    · rw [z]; exact List.mem_append_right _ (List.mem_singleton.mpr rfl)
    · exact List.mem_append_left _ (g.sub q z)
  · rw [e] at hq
    rcases List.mem_append.mp hq with z | z
    · obtain ⟨r, hr, er⟩ := g.all q z
      exact ⟨r, s2 r hr, er⟩
    · rw [List.mem_singleton.mp z]; exact s3
theorem Tab.keep {h h' : Heap} (R : Tab P w h a L es ep t) (ha : ∀ o, h.get? a = some o → h'.get? a = some o) (hk : ∀ p ∈ L, IsX P w h' p) : Tab P w h' a L es ep t := by
  obtain ⟨o, ho, r⟩ := R.here
  exact ⟨⟨o, ha o ho, r⟩, R.rows, R.tab, hk, R.led, R.room, R.nd⟩
abbrev noSet (w : World) : Obj := { cls := .type "set", dict := none, data := .set #[] 0 (.fresh 0 0 (!w.params.followText "set-order")) }
end
end KT

set_option linter.all false
set_option Elab.async false
set_option maxRecDepth 100000
set_option maxHeartbeats 4000000
namespace KT
open PySem PySem.Spec PyProof.Rows L2
/-! sorted of such a set -/
def kd : Key → PyData
  | .inl i => .int i
  | .inr s => .str s
abbrev rdat (p : Row) : PyData := .tuple (p.2.map kd)
section
variable {P : Program} {w : World} {A : Around} {E : Value → Shared → Prop} {s : Shared} {a : Addr} {L : List Row} {es : Array (Int × Value)} {ep : Nat} {t : SetTable}
theorem reads_keys {h : Heap} {k : List Key} {vs : List Value} (x : ItemsAre (mixKind P w) k vs) : ReadsAll h vs (k.map kd) [] := by
  induction x with
  | nil => exact .nil
  | @cons x v ks vs h1 _ ih =>
    rcases keyIs_shape h1 with ⟨i, t, rfl, rfl⟩ | ⟨y, t, rfl, rfl⟩
    · exact .cons (as := []) (bs := []) (.int i t) ih
    · exact .cons (as := []) (bs := []) (.str y t) ih
theorem key_reads {h : Heap} {p : Row} (x : IsX P w h p) : Reads h (.ref p.1) (rdat p) [] := by
  obtain ⟨o, items, n, ho, hc, hd, hi⟩ := x
  exact .tuple ho hc hd (reads_keys hi)
theorem depth_keys : ∀ xs : List Key, PyData.depthAll (xs.map kd) = 0
  | [] => by simp [PyData.depthAll]
  | .inl x :: xs => by simp [PyData.depthAll, PyData.depth, kd, depth_keys xs]
  | .inr x :: xs => by simp [PyData.depthAll, PyData.depth, kd, depth_keys xs]
theorem depth_row (p : Row) : (rdat p).depth = 1 := by
  show PyData.depth (.tuple (p.2.map kd)) = 1
  unfold PyData.depth
  rw [depth_keys]
theorem each_refs {R : Value → Row → Prop} : ∀ (L : List Row), (∀ p ∈ L, R (.ref p.1) p) → PySem.W.EachIs R (L.map fun p => Value.ref p.1) L
  | [], _ => .nil
  | p :: L, h => .cons (h p List.mem_cons_self) (each_refs L fun q hq => h q (List.mem_cons_of_mem _ hq))
theorem refs_each : ∀ {vs : List Value} {L : List Row}, PySem.W.EachIs (fun v (p : Row) => v = .ref p.1) vs L → vs = L.map fun p => Value.ref p.1
  | _, _, .nil => rfl
  | _, _, .cons h t => by rw [h, refs_each t]; rfl
end
end KT
namespace G7
open PySem PySem.Spec PyProof.Rows L2
abbrev prRow (e : Pr) : KT.Row := (e.1, ky2 e.2)
section
variable {X : Cx}
end
end G7

set_option linter.all false
set_option Elab.async false
set_option maxRecDepth 100000
set_option maxHeartbeats 4000000
/-! sorted(d), d a dict whose keys are tuples -/
namespace KT
open PySem PySem.Spec PyProof.Rows L2
section
variable {P : Program} {w : World} {A : Around} {E : Value → Shared → Prop} {s : Shared} {d : Addr} {es : Array DictEntry} {ep : Nat}
theorem src_raw (ns : (d == sysModules) = false) : W.KdlSrc P w "dict" d d es.size (fun i v => ∃ en, es[i]? = some en ∧ v = en.key) fun h => DT.Raw h d es ep where
  type := fun s h => h.typeIs
  there := fun h ⟨o, ho, _⟩ => ⟨Heap.lt_size ho, Heap.lt_size ho⟩
  keep := fun h h' ⟨o, ho, r⟩ k => ⟨o, k d (.inl rfl) o ho, r⟩
  notList := rfl
  notTuple := rfl
  hint := fun A E s Q h q => W.kdl_hint_dict h.typeIs q
  iter := fun A s hh h => by
    obtain ⟨o, ho, ex, dat⟩ := id h
    have lt := Heap.lt_size ho
    refine ⟨{ cls := .type "dict_keyiterator", data := .fields #[.ref d, .int 0 0, .int (es.size : Nat) 0, .int (ep : Nat) 0] }, fun i h' => h'.IsKeyIter s.heap.objs.size d i es.size ep ∧ DT.Raw h' d es ep, fun E Q q => iter_keys ns ho ex dat q, ?_, ⟨_, Heap.get?_push_size _ rfl, rfl, rfl⟩, h.push _⟩
    refine ⟨fun b hb => by simp only [List.mem_singleton] at hb; simp [hb], fun i h1 h2 ⟨⟨o1, a1, a2⟩, ⟨o2, b1, b2⟩⟩ k => ⟨⟨o1, k _ (by simp) _ a1, a2⟩, ⟨o2, k _ (by simp) _ b1, b2⟩⟩, ?_, ?_, ?_⟩
    · rintro i s1 Q E hi ⟨it, ⟨o2, b1, b2, b3⟩⟩ q
      refine next_key_item it b1 b3 rfl (Array.getElem?_eq_getElem hi) fun h' it' sb => ?_
      have kp : ∀ b o, b ≠ s.heap.objs.size → s1.heap.get? b = some o → h'.get? b = some o := fun b o n e => sb.extBut b o n e
      exact q _ h' _ ⟨_, Array.getElem?_eq_getElem hi, rfl⟩ ⟨it', ⟨o2, kp d o2 (Nat.ne_of_lt lt) b1, b2, b3⟩⟩ fun b o n e => kp b o (fun z => n (by simp [z])) e
    · rintro s1 Q E ⟨it, ⟨o2, b1, b2, b3⟩⟩ q
      exact next_key_end hh it b1 b3 rfl (Nat.le_refl _) fun h' eb => q h' s1.toks fun b o n e => eb b o (fun z => n (by simp [z])) e
    · rintro i s1 Q E ⟨it, _⟩ q
      exact wpAny_pyIter_keyiter it q
/-- sorted of a dict's keys, each a tuple -/
theorem call_sortedD (ns : (d == sysModules) = false) (R : DT.Raw s.heap d es ep) (L : List Row) (hes : es.toList.map (·.key) = L.map fun q => Value.ref q.1) (keys : ∀ q ∈ L, IsX P w s.heap q) (hh : A.handled = none) (ne : ∀ p ∈ L, p.2 ≠ [])
    (hal : ∀ p ∈ L, ∀ q ∈ L, PySem.W.alike (rdat p) (rdat q) = true) (hfew : L.length < 300) (hu : A.units + 10 < cLine) {Q : Value → Shared → Prop}
    (hQ : ∀ (h' : Heap) (s' : Shared) p (out : Array Value) (c : Nat), (∀ b o, s.heap.get? b = some o → h'.get? b = some o) → (∀ b o, h'.get? b = some o → s'.heap.get? b = some o) → s'.gens = s.gens → s'.os = s.os → h'.objs.size ≤ p → s'.heap.get? p = some (seqObj "list" out c) →
      out.toList = (L.mergeSort (PySem.W.dataLe false rdat)).map (fun q => Value.ref q.1) → Q (.ref p) s') :
    wpAny (model P w) A (call (.builtin "sorted") [.ref d]) Q E s := by
  have hsz : es.size = L.length := by
    have z := congrArg List.length hes
    rw [List.length_map, List.length_map, Array.length_toList] at z
    exact z
  refine Calls.call_function_entry kind_sorted plain_sorted entry_sorted (args_sorted1 _) ?_
  unfold Builtin.«sorted»
  refine wpAny_bind (m := checkCount "sorted" 1 1 _) (wpAny_pure ?_)
  refine wpAny_bind (PySem.W.kdu_collect (A := A.in1) (src_raw (es := es) (ep := ep) ns) hh R (by rw [sizeLine_eq]; omega) fun h' tk acc k1 hacc => ?_)
  have hvs : acc.toList = L.map fun q => Value.ref q.1 := by
    rw [← hes]
    apply List.ext_getElem?
    intro i
    rw [List.getElem?_map, Array.getElem?_toList, Array.getElem?_toList]
    by_cases hi : i < acc.size
    · obtain ⟨en, e1, e2⟩ := hacc.2 i acc[i] (Array.getElem?_eq_getElem hi)
      rw [Array.getElem?_eq_getElem hi, e1, e2]
      rfl
    · have h2 := hacc.1
      rw [Array.getElem?_eq_none (by omega), Array.getElem?_eq_none (by omega)]
      rfl
  rw [hvs]
  have w1 : PySem.W.EachIs (fun v (p : Row) => v = Value.ref p.1) (L.map fun q => Value.ref q.1) L := each_refs L fun p _ => rfl
  have w2 : ∀ (h : Heap) (b : Addr), (∀ q ∈ L, IsX P w h q) → PySem.W.EachIs (fun v (p : Row) => ∃ as, Reads h v (rdat p) as ∧ b ∉ as) (L.map fun q => Value.ref q.1) L := fun h b k => each_refs L fun p hp => ⟨[], key_reads (k p hp), by simp⟩
  refine wpAny_bind (wpAny_newList ?_ (by rw [List.length_map, sizeLine_eq]; omega))
  have hoL : (h'.push (seqObj "list" (L.map fun q => Value.ref q.1).toArray 0)).get? h'.objs.size = some (seqObj "list" (L.map fun q => Value.ref q.1).toArray 0) := Heap.get?_push_size _ rfl
  have tkeys : ∀ q ∈ L, IsX P w (h'.push (seqObj "list" (L.map fun q => Value.ref q.1).toArray 0)) q := fun q hq => key_keep (keys q hq) fun b u e => Heap.get?_push_of_some _ (k1 b u e)
  refine wpAny_bind (wpAny_holding (PySem.W.list_sort_data (β := Row) (bs := L) (enc := rdat) (R := fun v (p : Row) => v = .ref p.1) (s := { s with heap := h'.push (seqObj "list" (L.map fun q => Value.ref q.1).toArray 0), toks := tk }) hoL
    w1 (w2 _ _ tkeys) (fun d hd d' hd' => ?_) (.inl fun d hd => ?_) (by rw [sizeLine_eq]; omega) (fun b _ => ?_) fun out hlen ho => ?_))
  · obtain ⟨p, hp, rfl⟩ := List.mem_map.mp hd
    obtain ⟨q, hq, rfl⟩ := List.mem_map.mp hd'
    exact hal p hp q hq
  · obtain ⟨p, hp, rfl⟩ := List.mem_map.mp hd
    have n := ne p hp
    obtain ⟨a0, k0⟩ := p
    cases k0 with
    | nil => exact absurd rfl n
    | cons x r => exact ⟨_, _, rfl⟩
  · rw [depth_row]
    show A.units + 1 + 1 + 1 < cLine
    omega
  · have eo := refs_each ho
    obtain ⟨c, hc⟩ := sortedHeap_at (vs := L.map fun q => Value.ref q.1) (out := List.toArray out) hoL
    refine wpAny_pure ⟨_, rfl, hQ h' _ h'.objs.size (List.toArray out) c k1 (fun b u q => ?_) rfl rfl (Nat.le_refl _) hc (by simpa using eo)⟩
    have hlt := Heap.lt_size q
    show (sortedHeap (h'.push (seqObj "list" _ 0)) h'.objs.size _ _).get? b = some u
    rw [sortedHeap_old (Nat.ne_of_lt hlt) (by rw [size_push']; exact Nat.lt_succ_of_lt hlt)]
    exact Heap.get?_push_of_some _ q
end
end KT
namespace G7
open PySem PySem.Spec PyProof.Rows L2
abbrev KRow := Addr × List Key
section
variable {X : Cx}
end
end G7

set_option linter.all false
set_option Elab.async false
set_option maxRecDepth 100000
set_option maxHeartbeats 4000000
/-! list(d.values()), d a dict whose keys are tuples; d == {} -/
namespace KT
open PySem PySem.Spec PyProof.Rows L2
section
variable {P : Program} {w : World} {d v : Addr} {es : Array DictEntry} {ep : Nat}
end
end KT
namespace G7
open PySem PySem.Spec PyProof.Rows L2
section
variable {X : Cx}
/-- len(d) -/
def cLenD : List V → Hp → VK → Prop := fun vs H Q => ∃ a kvs, vs = [.ref a] ∧ H a = some (.dK kvs) ∧ Q (.int (kvs.length : Nat)) H
theorem len_dic : CallR X (.builtin "len") cLenD := callImp call_lenD fun vs H Q ⟨a, kvs, e, h, q⟩ => ⟨a, kvs, e, h, q⟩
end
end G7

set_option linter.all false
set_option Elab.async false
set_option maxRecDepth 100000
set_option maxHeartbeats 4000000
/-! the laws' own book of a store: tables, made, states, kept -/
namespace G7
open PySem PySem.Spec PyProof.Rows L2
section
variable {X : Cx}
end
/-! frames: what was made stands, but where mutable things may be written -/
def KeepN (ms : List Addr) (H H' : Hp) : Prop := ∀ (b : Addr) (o : HO), b ∉ ms → (∀ ps, o ≠ .tbl ps) → H b = some o → H' b = some o
theorem KeepN.of {ms : List Addr} {H H' : Hp} (k : Keep ms H H') : KeepN ms H H' := fun b o n _ e => k b o n e
instance {ms : List Addr} {H H' : Hp} : Coe (Keep ms H H') (KeepN ms H H') := ⟨KeepN.of⟩
structure KM (ms : List Addr) (H H' : Hp) : Prop where
  k : KeepN ms H H'
  m : ∀ a ∈ ms, ∀ o, H a = some o → Mut (some o)
theorem KM.get {ms : List Addr} {H H' : Hp} (K : KM ms H H') {b : Addr} {o : HO} (e : H b = some o) (n : b ∉ ms ∨ ¬ Mut (some o)) (t : ∀ ps, o ≠ .tbl ps := by intro _ z; cases z) : H' b = some o := by
  refine K.k b o (fun h => ?_) t e
  rcases n with n | n
  · exact n h
  · exact n (K.m b h o e)
theorem KM.tup {ms : List Addr} {H H' : Hp} (K : KM ms H H') {b : Addr} {xs : List V} (e : H b = some (.tup xs)) : H' b = some (.tup xs) := K.get e (.inr id)
theorem KM.frz {ms : List Addr} {H H' : Hp} (K : KM ms H H') {b : Addr} {q : Obj} {o : HO} (e : H b = some (.frz q o)) : H' b = some (.frz q o) := K.get e (.inr id)
theorem KM.same {H H' : Hp} (k : Same H H') (ms : List Addr := []) (hm : ms = [] := by rfl) : KM ms H H' := ⟨fun b o _ _ e => k b o e, fun a ha => by rw [hm] at ha; cases ha⟩
theorem KM.trans {ms ms' : List Addr} {H H1 H2 : Hp} (a : KM ms H H1) (b : Keep ms' H1 H2) (h : ∀ m ∈ ms', m ∈ ms ∨ H m = none) : KM ms H H2 :=
  ⟨fun c o n t e => b c o (fun z => by
    rcases h c z with z | z
    · exact n z
    · rw [e] at z; cases z) (a.k c o n t e), a.m⟩
theorem KM.mono {ms ms' : List Addr} {H H1 : Hp} (a : KM ms H H1) (s : ∀ b ∈ ms, b ∈ ms') (m : ∀ b ∈ ms', ∀ o, H b = some o → Mut (some o)) : KM ms' H H1 := ⟨fun b o n t e => a.k b o (fun z => n (s b z)) t e, m⟩
theorem KM.one {H : Hp} {D : Addr} {o o' : HO} (e : H D = some o) (m : Mut (some o)) : KM [D] H (upd H D o') := ⟨KeepN.of (Keep.refl.upd (by simp)), fun a ha u eu => by
  rw [List.mem_singleton.mp ha, e] at eu
  cases eu
  exact m⟩
structure TbE where
  name : Str
  n : Int
  ta : Addr
  fa : Addr
  fields : List Str
structure StT where
  name : Str
  ra : Addr
  rows : List (Int × RowE)
structure StE where
  a : Addr
  ts : List StT
structure KpE where
  pa : Addr
  name : Str
  key : Int
  n : Int
  row : Option RowE
structure Bk where
  b : Addr
  td : Addr
  md : Addr
  sl : Addr
  kl : Addr
  tabs : List TbE
  made : List (Str × Str × Int)
  sts : List StE
  kept : List KpE
def StE.muts (s : StE) : List Addr := s.a :: s.ts.map (·.ra)
def Bk.muts (B : Bk) : List Addr := [B.b, B.td, B.md, B.sl, B.kl] ++ B.sts.flatMap StE.muts
def mky (m : Str × Str × Int) : List Key := [Sum.inr m.1, Sum.inr m.2.1]
def bkD (td md sl kl : Addr) : List (Key × V) := [(Sum.inr "tables", .ref td), (Sum.inr "made", .ref md), (Sum.inr "states", .ref sl), (Sum.inr "kept", .ref kl)]
structure StAt (H : Hp) (s : StE) : Prop where
  d : H s.a = some (.dK (s.ts.map fun t => ((Sum.inr t.name : Key), V.ref t.ra)))
  t : ∀ t ∈ s.ts, H t.ra = some (.dK (t.rows.map fun r => ((Sum.inl r.1 : Key), V.ref r.2.1)))
  r : ∀ t ∈ s.ts, ∀ r ∈ t.rows, H r.2.1 = some (.tup (r.2.2.map V.int))
structure BkOk (H : Hp) (B : Bk) : Prop where
  ob : H B.b = some (.dK (bkD B.td B.md B.sl B.kl))
  td : H B.td = some (.dK (B.tabs.map fun t => ((Sum.inr t.name : Key), V.ref t.ta)))
  md : H B.md = some (.dT (B.made.map fun m => (mky m, V.int m.2.2)))
  sl : H B.sl = some (.lst (B.sts.map fun s => V.ref s.a))
  kl : H B.kl = some (.lst (B.kept.map fun k => V.ref k.pa))
  tt : ∀ t ∈ B.tabs, H t.ta = some (.tup [.int t.n, .ref t.fa])
  tf : ∀ t ∈ B.tabs, TpF H t.fa (t.fields.map V.str)
  st : ∀ s ∈ B.sts, StAt H s
  kp : ∀ k ∈ B.kept, H k.pa = some (.tup [.str k.name, .int k.key, .int k.n, rowV k.row])
  nd : B.muts.Nodup
  names : (B.tabs.map (·.name)).Nodup
theorem StAt.km {ms : List Addr} {H H' : Hp} {s : StE} (T : StAt H s) (K : KM ms H H') (n : ∀ m ∈ s.muts, m ∉ ms) : StAt H' s :=
  ⟨K.get T.d (.inl (n _ List.mem_cons_self)), fun t ht => K.get (T.t t ht) (.inl (n _ (List.mem_cons_of_mem _ (List.mem_map.mpr ⟨t, ht, rfl⟩)))), fun t ht r hr => K.tup (T.r t ht r hr)⟩
theorem TpF.km {ms : List Addr} {H H' : Hp} {a : Addr} {xs : List V} (T : TpF H a xs) (K : KM ms H H') : TpF H' a xs := by
  obtain ⟨o, e, c⟩ := T
  exact ⟨o, K.frz e, c⟩
theorem BkOk.km {ms : List Addr} {H H' : Hp} {B : Bk} (O : BkOk H B) (K : KM ms H H') (n : ∀ m ∈ B.muts, m ∉ ms) : BkOk H' B := by
  have n0 : ∀ m, m ∈ [B.b, B.td, B.md, B.sl, B.kl] → m ∉ ms := fun m h => n m (List.mem_append_left _ h)
  exact ⟨K.get O.ob (.inl (n0 _ (by simp))), K.get O.td (.inl (n0 _ (by simp))), K.get O.md (.inl (n0 _ (by simp))), K.get O.sl (.inl (n0 _ (by simp))), K.get O.kl (.inl (n0 _ (by simp))), fun t ht => K.tup (O.tt t ht), fun t ht => (O.tf t ht).km K,
    fun s hs => (O.st s hs).km K fun m hm => n m (List.mem_append_right _ (List.mem_flatMap.mpr ⟨s, hs, hm⟩)), fun k hk => K.tup (O.kp k hk), O.nd, O.names⟩
theorem BkOk.same {H H' : Hp} {B : Bk} (O : BkOk H B) (k : Same H H') : BkOk H' B := O.km (KM.same k) fun _ _ h => by cases h
/-- the box is no part of the book -/
theorem BoxA.km {H H' : Hp} {h l : Addr} (B : BoxA H h l) (k : Keep [h, l] H H') : KM [h, l] H H' := ⟨k, fun a ha o e => by
  obtain ⟨o', e', mu⟩ := B.muts a ha
  rw [e] at e'
  cases e'
  exact mu⟩
/-- a row of small worths -/
def RowGd (key : Int) (n : Nat) (r : List Int) : Prop := r.length = n ∧ (∃ r', r = key :: r' ∧ ∀ x ∈ r', -2 ≤ x ∧ x ≤ 37)
abbrev WrE := Addr × Wr
def WsAt (H : Hp) (wa : Addr) (ws : List WrE) : Prop := H wa = some (.tup (ws.map fun w => V.ref w.1)) ∧ ∀ w ∈ ws, H w.1 = some (.tup (wrXs w.2)) ∧ WrAt H w.2
theorem WrAt.km {ms : List Addr} {H H' : Hp} {wr : Wr} (h : WrAt H wr) (K : KM ms H H') : WrAt H' wr := by
  cases wr with
  | tab nm fa fs =>
    obtain ⟨o, e, c⟩ := h
    exact ⟨o, K.frz e, c⟩
  | idx nm f => trivial
  | row nm key r => exact fun row hr => K.tup (h row hr)
theorem WsAt.km {ms : List Addr} {H H' : Hp} {wa : Addr} {ws : List WrE} (h : WsAt H wa ws) (K : KM ms H H') : WsAt H' wa ws := ⟨K.tup h.1, fun w hw => ⟨K.tup (h.2 w hw).1, WrAt.km (h.2 w hw).2 K⟩⟩
def names4 : List Str := ["a", "bb", "ccc", "d"]
def fields4 : List Str := ["id", "x", "y", "z"]
/-- what the draws make of a record's writes -/
inductive WsGd (ts : List TbE) (md : List (Str × Str × Int)) : List Wr → Prop where
  | tab (nm : Str) (fa : Addr) (k : Nat) (h : nm ∉ ts.map (·.name)) (h4 : nm ∈ names4) (hk : k < 4) : WsGd ts md [.tab nm fa (fields4.take (k + 1))]
  | idx (t : TbE) (f : Str) (ht : t ∈ ts) (hf : f ∈ t.fields) (hm : ∀ m ∈ md, ¬ (m.1 = t.name ∧ m.2.1 = f)) : WsGd ts md [.idx t.name f]
  | rows (ws : List Wr) (hz : ws.length ≤ 20) (hne : ts ≠ []) (h : ∀ w ∈ ws, ∃ t ∈ ts, ∃ key r, w = .row t.name key r ∧ 0 ≤ key ∧ key < 60 ∧ ∀ row : RowE, r = some row → RowGd key t.fields.length row.2) : WsGd ts md ws
theorem BkOk.tab {H : Hp} {B : Bk} (O : BkOk H B) {t : TbE} (ht : t ∈ B.tabs) : valV (B.tabs.map fun t => ((Sum.inr t.name : Key), V.ref t.ta)) (Sum.inr t.name) = some (V.ref t.ta) :=
  valV_mem (f := fun t : TbE => (Sum.inr t.name : Key)) (nd_inr O.names) t ht
/-- rows found, by table and key -/
structure FdE where
  pa : Addr
  t : TbE
  key : Int
  row : Option RowE
def FdE.ky (f : FdE) : List Key := [Sum.inr f.t.name, Sum.inl f.key]
def FdE.ent (f : FdE) : List Key × V := (f.ky, .ref f.pa)
/-- what is found -/
structure FdAt (H : Hp) (d : Addr) (ts : List TbE) (fs : List FdE) : Prop where
  d : H d = some (.dT (fs.map FdE.ent))
  tu : ∀ f ∈ fs, H f.pa = some (.tup [.str "row", .str f.t.name, .int f.key, rowV f.row])
  tb : ∀ f ∈ fs, f.t ∈ ts
  ks : ∀ f ∈ fs, 0 ≤ f.key ∧ f.key < 60
  rw_ : ∀ f ∈ fs, ∀ row : RowE, f.row = some row → H row.1 = some (.tup (row.2.map V.int)) ∧ RowGd f.key f.t.fields.length row.2
theorem FdAt.km {ms : List Addr} {H H' : Hp} {d : Addr} {ts : List TbE} {fs : List FdE} (F : FdAt H d ts fs) (K : KM ms H H') (n : d ∉ ms) : FdAt H' d ts fs :=
  ⟨K.get F.d (.inl n), fun f hf => K.tup (F.tu f hf), F.tb, F.ks, fun f hf row hr => ⟨K.tup (F.rw_ f hf row hr).1, (F.rw_ f hf row hr).2⟩⟩
end G7

set_option linter.all false
set_option Elab.async false
set_option maxRecDepth 100000
set_option maxHeartbeats 4000000
namespace G7
open PySem PySem.Spec PyProof.Rows L2
/-! ### enumerate of a tuple -/
set_option maxHeartbeats 8000000 in
section
variable {prog : Program} {w : World} {A : Around} {E : Value → Shared → Prop} {s : Shared}
end
end G7

set_option linter.all false
set_option Elab.async false
set_option maxRecDepth 100000
set_option maxHeartbeats 4000000
/-! a, b, *rest = t -/
namespace ST
open PySem PySem.Spec PyProof.Rows L2
section
variable {prog : Program} {w : World} {A : Around} {E : Value → Shared → Prop} {s : Shared}
end
end ST
namespace G7
open PySem PySem.Spec PyProof.Rows L2
section
variable {X : Cx} {pos : Pos}
end
end G7

set_option linter.all false
set_option Elab.async false
set_option maxRecDepth 100000
set_option maxHeartbeats 4000000
/-! a, b, *rest = a list -/
namespace ST
open PySem PySem.Spec PyProof.Rows L2
section
variable {prog : Program} {w : World} {E : Value → Shared → Prop}
end
end ST
namespace G7
open PySem PySem.Spec PyProof.Rows L2
section
variable {X : Cx} {pos : Pos}
/-- (a, b, *c) = a list of k items at least -/
def gStarL (k : Nat) (t : TGs) : TG := fun v σ H Q => ∃ a xs, v = .ref a ∧ lsO (H a) = some xs ∧ k ≤ xs.length ∧ ∀ p, H p = none → t (xs.take k ++ [.ref p]) σ (upd H p (.lst (xs.drop k))) Q
end
end G7

set_option linter.all false
set_option Elab.async false
set_option maxRecDepth 100000
set_option maxHeartbeats 4000000
/-! a dict of the module, texts to numbers, at any word -/
namespace G7
open PySem PySem.Spec PyProof.Rows L2
def lkT (L : List (Str × Nat)) (x : Str) : Option Nat := (L.find? fun e => decide (e.1 = x)).map (·.2)
def entOf (e : DictEntry) : Option (Str × Int) := match e.key, e.val with
  | .str s _, .int n _ => some (s, n)
  | _, _ => none
structure TxTab (K : PySem.W.Frag) (w : World) (d : Addr) (L : List (Str × Nat)) : Prop where
  kd : ∃ es n, KDict K w d es n
  hit : ∀ x n, lkT L x = some n → ∃ t, PySem.W.nsIn K d x = some (some (.int (n : Int) t))
  miss : ∀ x, lkT L x = none → PySem.W.nsIn K d x = some none
theorem entOf_str {e : DictEntry} {s : Str} {n : Int} (h : entOf e = some (s, n)) : (∃ t, e.key = .str s t) ∧ ∃ t, e.val = .int n t := by
  unfold entOf at h
  split at h
  · rename_i s' t' n' u' h1 h2
    have z := Option.some.inj h
    have z1 : s' = s := congrArg Prod.fst z
    have z2 : n' = n := congrArg Prod.snd z
    rw [← z1, ← z2]
    exact ⟨⟨_, h1⟩, _, h2⟩
  · cases h
theorem ents_find {es : List DictEntry} {L : List (Str × Nat)} (h : es.map entOf = L.map fun e => some (e.1, (e.2 : Int))) (x : Str) :
    (match lkT L x with | some n => ∃ e, es.find? (fun e => e.key.isStr x) = some e ∧ ∃ t, e.val = .int (n : Int) t | none => es.find? (fun e => e.key.isStr x) = none ∧ es.any (·.refKey) = false) := by
  induction L generalizing es with
  | nil =>
    cases es with
    | nil => exact ⟨rfl, rfl⟩
    | cons a r => cases h
  | cons p L ih =>
    cases es with
    | nil => cases h
    | cons a r =>
      rw [List.map_cons, List.map_cons, List.cons.injEq] at h
      obtain ⟨⟨t, hk⟩, u, hv⟩ := entOf_str h.1
      have ih := ih h.2
      by_cases c : p.1 = x
      · have e1 : lkT (p :: L) x = some p.2 := by
          unfold lkT
          rw [List.find?_cons_of_pos (p := fun e : Str × Nat => decide (e.1 = x)) (decide_eq_true c)]
          rfl
        rw [e1]
        refine ⟨a, ?_, u, hv⟩
        rw [List.find?_cons_of_pos]
        rw [hk, c]
        simp [Value.isStr]
      · have e1 : lkT (p :: L) x = lkT L x := by
          unfold lkT
          rw [List.find?_cons_of_neg (p := fun e : Str × Nat => decide (e.1 = x)) (by simpa using c)]
        rw [e1]
        have nf : ¬ (a.key.isStr x = true) := by
          rw [hk]
          simp [Value.isStr, c]
        have nr : a.refKey = false := by
          unfold DictEntry.refKey
          rw [hk]
        have f1 : (a :: r).find? (fun e => e.key.isStr x) = r.find? fun e => e.key.isStr x := List.find?_cons_of_neg (p := fun e : DictEntry => e.key.isStr x) nf
        rw [f1, List.any_cons, nr, Bool.false_or]
        exact ih
theorem txTab_mk {K : PySem.W.Frag} {w : World} {d : Addr} {es : Array DictEntry} {n : Nat} {L : List (Str × Nat)} (h1 : K.lookup d = some ⟨.type "dict", none, .dict es n, #[]⟩) (h2 : PySem.W.KeysLit w.params es.toList) (h3 : (d == sysModules) = false)
    (h4 : es.toList.map entOf = L.map fun e => some (e.1, (e.2 : Int))) : TxTab K w d L := by
  refine ⟨⟨es, n, h1, h2, h3⟩, fun x m hm => ?_, fun x hm => ?_⟩
  · have z := ents_find h4 x
    rw [hm] at z
    obtain ⟨e, he, t, hv⟩ := z
    refine ⟨t, ?_⟩
    unfold PySem.W.nsIn
    rw [h1]
    dsimp only
    rw [he]
    dsimp only
    rw [hv]
  · have z := ents_find h4 x
    rw [hm] at z
    unfold PySem.W.nsIn
    rw [h1]
    dsimp only
    rw [z.1]
    dsimp only
    rw [z.2]
    rfl
def rInTx (d : Addr) (L : List (Str × Nat)) (neg : Bool) : R2 := fun x y H Q => ∃ z : Str, x = .str z ∧ y = .ref d ∧ Q (.bl (if neg then !(lkT L z).isSome else (lkT L z).isSome)) H
def rIxTx (d : Addr) (L : List (Str × Nat)) : R2 := fun x y H Q => ∃ (z : Str) (n : Nat), x = .ref d ∧ y = .str z ∧ lkT L z = some n ∧ Q (.int (n : Int)) H
section
variable {X : Cx} {d : Addr} {L : List (Str × Nat)}
theorem ix_tx (D : TxTab X.K X.w d L) : IxR X (rIxTx d L) := by
  obtain ⟨es, n, kd⟩ := D.kd
  refine ixImp ix_kdict fun x y H Q ⟨z, m, e1, e2, e3, q⟩ => ?_
  obtain ⟨t, ht⟩ := D.hit z m e3
  exact ⟨_, _, .int (m : Int), e1, e2, ⟨es, n, _, kd.at_, kd.lit, ht, ⟨t, rfl⟩⟩, q⟩
end
end G7

set_option linter.all false
set_option Elab.async false
set_option maxRecDepth 100000
set_option maxHeartbeats 4000000
/-! l != [], whatever stands in l -/
namespace G7
open PySem PySem.Spec PyProof.Rows L2
def rNeNilA : R2 := fun x y H Q => ∃ (p q : Addr) (xs : List V), x = .ref p ∧ y = .ref q ∧ lsO (H p) = some xs ∧ lsO (H q) = some [] ∧ Q (.bl (!xs.isEmpty)) H
/-- l == [], whatever stands in l -/
def rEqNilA : R2 := fun x y H Q => ∃ (p q : Addr) (xs : List V), x = .ref p ∧ y = .ref q ∧ lsO (H p) = some xs ∧ lsO (H q) = some [] ∧ Q (.bl xs.isEmpty) H
end G7

set_option linter.all false
set_option Elab.async false
set_option maxRecDepth 100000
set_option maxHeartbeats 4000000
/-! names of statements: the plain law of them -/
namespace Nm
open PySem PySem.Spec PyProof.Rows L2 G7
abbrev Shp := List (Str × List Str)
def flds (S : Shp) (t : Str) : List Str := ((S.find? fun e => decide (e.1 = t)).map (·.2)).getD []
def tabs (S : Shp) : List Str := S.map (·.1)
inductive Tr where
  | num (n : Int)
  | fld (t f : Str)
  | node (w : Str) (ks : List Tr)
def hits (S : Shp) (ts : List Str) (t f : Str) : List Str := ts.filter fun o => decide (f ∈ flds S o) && decide (t = "" ∨ t = o)
/-- a field looked up: the word that is refused, or its table -/
def nameF (S : Shp) (ts : List Str) (t f : Str) : Except Str Str :=
  if t ≠ "" ∧ t ∉ ts then .error t else match hits S ts t f with
    | [o] => .ok o
    | _ => .error f
mutual
def nameT (S : Shp) (ts : List Str) : Tr → Except Str Tr
  | .num n => .ok (.num n)
  | .fld t f => match nameF S ts t f with
    | .ok o => .ok (.fld o f)
    | .error w => .error w
  | .node w ks => match nameL S ts ks with
    | .ok ks' => .ok (.node w ks')
    | .error w => .error w
def nameL (S : Shp) (ts : List Str) : List Tr → Except Str (List Tr)
  | [] => .ok []
  | k :: ks => match nameT S ts k with
    | .error w => .error w
    | .ok k' => match nameL S ts ks with
      | .ok ks' => .ok (k' :: ks')
      | .error w => .error w
end
/-- the law's own: the first word that can't stand there -/
def firstF (S : Shp) (ts : List Str) (t f : Str) : Str := if t ≠ "" ∧ t ∉ ts then t else if (hits S ts t f).length = 1 then "" else f
mutual
def firstT (S : Shp) (ts : List Str) : Tr → Str
  | .num _ => ""
  | .fld t f => firstF S ts t f
  | .node _ ks => firstL S ts ks
def firstL (S : Shp) (ts : List Str) : List Tr → Str
  | [] => ""
  | k :: ks => if firstT S ts k = "" then firstL S ts ks else firstT S ts k
end
/-! no field's name is empty -/
mutual
def Tr.nz : Tr → Prop
  | .num _ => True
  | .fld _ f => f ≠ ""
  | .node _ ks => Tr.nzL ks
def Tr.nzL : List Tr → Prop
  | [] => True
  | k :: ks => k.nz ∧ Tr.nzL ks
end
def errW {α : Type} : Except Str α → Str
  | .ok _ => ""
  | .error w => w
theorem firstF_eq {S : Shp} {ts : List Str} {t f : Str} (h : f ≠ "") : firstF S ts t f = errW (nameF S ts t f) ∧ ∀ w, nameF S ts t f = .error w → w ≠ "" := by
  unfold firstF nameF
  by_cases c : t ≠ "" ∧ t ∉ ts
  · rw [if_pos c, if_pos c]
    exact ⟨rfl, fun w z => by cases z; exact c.1⟩
  · rw [if_neg c, if_neg c]
    match hh : hits S ts t f with
    | [] => exact ⟨rfl, fun w z => by cases z; exact h⟩
    | [o] => exact ⟨rfl, fun w z => by cases z⟩
    | o :: p :: r => exact ⟨by simp [errW], fun w z => by cases z; exact h⟩
mutual
theorem firstT_eq {S : Shp} {ts : List Str} : ∀ t : Tr, t.nz → firstT S ts t = errW (nameT S ts t) ∧ ∀ w, nameT S ts t = .error w → w ≠ ""
  | .num n, _ => ⟨rfl, fun w z => by cases z⟩
  | .fld t f, h => by
    obtain ⟨a, b⟩ := firstF_eq (S := S) (ts := ts) (t := t) (f := f) h
    unfold firstT nameT
    rw [a]
    cases e : nameF S ts t f with
    | ok o => exact ⟨rfl, fun w z => by cases z⟩
    | error w => exact ⟨rfl, fun w' z => by cases z; exact b w e⟩
  | .node w ks, h => by
    obtain ⟨a, b⟩ := firstL_eq (S := S) (ts := ts) ks h
    unfold firstT nameT
    rw [a]
    cases e : nameL S ts ks with
    | ok o => exact ⟨rfl, fun w z => by cases z⟩
    | error w => exact ⟨rfl, fun w' z => by cases z; exact b w e⟩
theorem firstL_eq {S : Shp} {ts : List Str} : ∀ ks : List Tr, Tr.nzL ks → firstL S ts ks = errW (nameL S ts ks) ∧ ∀ w, nameL S ts ks = .error w → w ≠ ""
  | [], _ => ⟨rfl, fun w z => by cases z⟩
  | k :: ks, h => by
    obtain ⟨a, b⟩ := firstT_eq (S := S) (ts := ts) k h.1
    obtain ⟨c, d⟩ := firstL_eq (S := S) (ts := ts) ks h.2
    unfold firstL nameL
    rw [a, c]
    cases e : nameT S ts k with
    | error w =>
      have := b w e
      refine ⟨?_, fun w' z => by cases z; exact this⟩
      show (if w = "" then _ else w) = w
      rw [if_neg this]
    | ok k' =>
      show (if ("" : Str) = "" then _ else _) = _ ∧ _
      rw [if_pos rfl]
      cases e2 : nameL S ts ks with
      | ok o => exact ⟨rfl, fun w z => by cases z⟩
      | error w => exact ⟨rfl, fun w' z => by cases z; exact d w e2⟩
end
/-! statements -/
inductive Sm where
  | alone (w : Str)
  | table (t : Str) (fs : List Str)
  | index (t f : Str)
  | put (t : Str) (ns : List Int)
  | set (t : Str) (ss : List (Str × Tr)) (c : Option Tr)
  | strike (t : Str) (c : Option Tr)
  | ask (how : Str) (tm : List Tr) (ts : List Str) (c : Option Tr) (bys : List Tr) (first : OI)
inductive Er where
  | word (w : Str)
  | row
def Er.s : Er → Str
  | .word w => w
  | .row => "row"
def twice : List Str → List Str → Option Str
  | _, [] => none
  | early, f :: fs => if f ∈ early then some f else twice (early ++ [f]) fs
/-- the sets of a statement, each with the fields ahead of it -/
def nameS (S : Shp) (t : Str) : List Str → List (Str × Tr) → Except Str (List (Str × Tr))
  | _, [] => .ok []
  | early, (f, tm) :: r => if f ∉ (flds S t).tail ∨ f ∈ early then .error f else match nameT S [t] tm with
    | .error w => .error w
    | .ok tm' => match nameS S t (early ++ [f]) r with
      | .error w => .error w
      | .ok r' => .ok ((f, tm') :: r')
def nzO : Option Tr → Prop
  | none => True
  | some t => t.nz
def Sm.nz : Sm → Prop
  | .alone _ => True
  | .table t fs => t ≠ "" ∧ ∀ f ∈ fs, f ≠ ""
  | .index t f => t ≠ "" ∧ f ≠ ""
  | .put t _ => t ≠ ""
  | .set t ss c => t ≠ "" ∧ (∀ s ∈ ss, s.1 ≠ "" ∧ s.2.nz) ∧ nzO c
  | .strike t c => t ≠ "" ∧ nzO c
  | .ask _ tm ts c bys _ => Tr.nzL tm ∧ (∀ t ∈ ts, t ≠ "") ∧ nzO c ∧ Tr.nzL bys
end Nm

set_option linter.all false
set_option Elab.async false
set_option maxRecDepth 100000
set_option maxHeartbeats 4000000
/-! statements as data; names exchanged -/
namespace Nm
open PySem PySem.Spec PyProof.Rows L2 G7
mutual
def Tr.dx : Tr → Dx
  | .num n => .tup [.str "num", .int n]
  | .fld t f => .tup [.str "field", .str t, .str f]
  | .node w ks => .tup (.str w :: Tr.dxL ks)
def Tr.dxL : List Tr → List Dx
  | [] => []
  | k :: ks => k.dx :: Tr.dxL ks
end
theorem dxL_map : ∀ ks : List Tr, Tr.dxL ks = ks.map Tr.dx
  | [] => rfl
  | k :: ks => by unfold Tr.dxL; rw [dxL_map ks]; rfl
def dxO : Option Tr → Dx
  | none => .non
  | some t => t.dx
def dxI : OI → Dx
  | none => .non
  | some i => .int i
def dxs (l : List Str) : Dx := .tup (l.map Dx.str)
def Sm.dx : Sm → Dx
  | .alone w => .tup [.str w]
  | .table t fs => .tup [.str "table", .str t, dxs fs]
  | .index t f => .tup [.str "index", .str t, .str f]
  | .put t ns => .tup [.str "put", .str t, .tup (ns.map Dx.int)]
  | .set t ss c => .tup [.str "set", .str t, .tup (ss.map fun s => .tup [.str s.1, s.2.dx]), dxO c]
  | .strike t c => .tup [.str "strike", .str t, dxO c]
  | .ask how tm ts c bys first => .tup [.str "ask", .str how, .tup (tm.map Tr.dx), dxs ts, dxO c, .tup (bys.map Tr.dx), dxI first]
/-- the law's words -/
def lawW : List Str := ["num", "field", "+", "-", "*", "=", "<", ">", "<=", ">=", "not", "and", "or", "ask", "set", "put", "strike", "table", "index"]
def begD : List Dx → Nat
  | .str s :: _ => if s = "ask" then 2 else if s ∈ lawW then 1 else 0
  | _ => 0
mutual
def leavesD : Dx → List (List Nat)
  | .str _ => [[]]
  | .tup ds => leavesL (begD ds) 0 ds
  | _ => []
def leavesL (b : Nat) : Nat → List Dx → List (List Nat)
  | _, [] => []
  | k, d :: ds => (if b ≤ k then (leavesD d).map (k :: ·) else []) ++ leavesL b (k + 1) ds
end
def putD : List Nat → Dx → Str → Dx
  | [], _, w => .str w
  | k :: p, .tup ds, w => .tup (ds.take k ++ putD p (ds.getD k .non) w :: ds.drop (k + 1))
  | _ :: _, d, _ => d
theorem leavesL_mem {b : Nat} : ∀ {ds : List Dx} {k : Nat} {q : List Nat}, q ∈ leavesL b k ds → ∃ i p d, q = (k + i) :: p ∧ b ≤ k + i ∧ ds[i]? = some d ∧ p ∈ leavesD d
  | [], _, _, h => by simp [leavesL] at h
  | d :: ds, k, q, h => by
    unfold leavesL at h
    rcases List.mem_append.mp h with z | z
    · by_cases c : b ≤ k
      · rw [if_pos c] at z
        obtain ⟨p, hp, e⟩ := List.mem_map.mp z
        exact ⟨0, p, d, e.symm, c, rfl, hp⟩
      · rw [if_neg c] at z
        cases z
    · obtain ⟨i, p, d', e, hb, hd, hp⟩ := leavesL_mem z
      exact ⟨i + 1, p, d', by rw [e]; congr 1; omega, by omega, hd, hp⟩
theorem put_at {ds : List Dx} {i : Nat} {p : List Nat} {w : Str} {d : Dx} (h : ds[i]? = some d) : putD (i :: p) (.tup ds) w = .tup (ds.set i (putD p d w)) := by
  obtain ⟨hi, e⟩ := List.getElem?_eq_some_iff.mp h
  show Dx.tup (ds.take i ++ putD p (ds.getD i .non) w :: ds.drop (i + 1)) = _
  rw [List.getD_eq_getElem?_getD, h, Option.getD_some, List.set_eq_take_append_cons_drop, if_pos hi]
/-! a tree's words are the law's -/
mutual
def Tr.wk : Tr → Prop
  | .num _ => True
  | .fld _ _ => True
  | .node w ks => (w ∈ lawW ∧ w ≠ "num" ∧ w ≠ "field" ∧ w ≠ "ask") ∧ Tr.wkL ks
def Tr.wkL : List Tr → Prop
  | [] => True
  | k :: ks => k.wk ∧ Tr.wkL ks
end
theorem nzL_all : ∀ {ks : List Tr}, Tr.nzL ks ↔ ∀ k ∈ ks, k.nz
  | [] => by simp [Tr.nzL]
  | k :: ks => by simp [Tr.nzL, nzL_all (ks := ks)]
mutual
theorem bentT {w : Str} (hw : w ≠ "") : ∀ (t : Tr), t.wk → t.nz → ∀ p ∈ leavesD t.dx, ∃ t' : Tr, putD p t.dx w = t'.dx ∧ t'.wk ∧ t'.nz
  | .num n, _, _, p, hp => by
    have z : p ∈ leavesL (begD [.str "num", .int n]) 0 [.str "num", .int n] := by unfold Tr.dx leavesD at hp; exact hp
    obtain ⟨i, q, d, e, hb, hd, hq⟩ := leavesL_mem z
    have hb : 1 ≤ 0 + i := hb
    match i, hb with
    | 1, _ => cases hd; simp [leavesD] at hq
    | i + 2, _ => simp at hd
  | .fld t f, _, hn, p, hp => by
    have z : p ∈ leavesL (begD [.str "field", .str t, .str f]) 0 [.str "field", .str t, .str f] := by unfold Tr.dx leavesD at hp; exact hp
    obtain ⟨i, q, d, e, hb, hd, hq⟩ := leavesL_mem z
    have hb : 1 ≤ 0 + i := hb
    match i, hb with
    | 1, _ =>
      cases hd
      have hq : q = [] := by simpa [leavesD] using hq
      subst hq e
      exact ⟨.fld w f, by unfold Tr.dx; rw [put_at (i := 0 + 1) (d := .str t) rfl]; rfl, trivial, hn⟩
    | 2, _ =>
      cases hd
      have hq : q = [] := by simpa [leavesD] using hq
      subst hq e
      exact ⟨.fld t w, by unfold Tr.dx; rw [put_at (i := 0 + 2) (d := .str f) rfl]; rfl, trivial, hw⟩
    | i + 3, _ => simp at hd
  | .node x ks, hk, hn, p, hp => by
    have z : p ∈ leavesL (begD (.str x :: Tr.dxL ks)) 0 (.str x :: Tr.dxL ks) := by unfold Tr.dx leavesD at hp; exact hp
    obtain ⟨i, q, d, e, hb, hd, hq⟩ := leavesL_mem z
    have hb0 : begD (.str x :: Tr.dxL ks) = 1 := by
      show (if x = "ask" then 2 else if x ∈ lawW then 1 else 0) = 1
      rw [if_neg hk.1.2.2.2, if_pos hk.1.1]
    rw [hb0] at hb
    match i, hb with
    | i + 1, _ =>
      have hd2 : (Tr.dxL ks)[i]? = some d := by simpa using hd
      obtain ⟨ks', e1, w1, n1⟩ := bentL hw ks hk.2 hn i q d hd2 hq
      subst e
      refine ⟨.node x ks', ?_, ⟨hk.1, w1⟩, n1⟩
      unfold Tr.dx
      rw [put_at (i := 0 + (i + 1)) (d := d) (by simpa using hd2), ← e1, show 0 + (i + 1) = i + 1 by omega, List.set_cons_succ]
theorem bentL {w : Str} (hw : w ≠ "") : ∀ (ks : List Tr), Tr.wkL ks → Tr.nzL ks → ∀ (i : Nat) (q : List Nat) (d : Dx), (Tr.dxL ks)[i]? = some d → q ∈ leavesD d → ∃ ks' : List Tr, (Tr.dxL ks).set i (putD q d w) = Tr.dxL ks' ∧ Tr.wkL ks' ∧ Tr.nzL ks'
  | [], _, _, i, q, d, hd, _ => by simp [Tr.dxL] at hd
  | k :: ks, hk, hn, 0, q, d, hd, hq => by
    have e : d = k.dx := by unfold Tr.dxL at hd; simpa using hd.symm
    subst e
    obtain ⟨t', e1, w1, n1⟩ := bentT hw k hk.1 hn.1 q hq
    exact ⟨t' :: ks, by unfold Tr.dxL; rw [List.set_cons_zero, e1], ⟨w1, hk.2⟩, ⟨n1, hn.2⟩⟩
  | k :: ks, hk, hn, i + 1, q, d, hd, hq => by
    have hd2 : (Tr.dxL ks)[i]? = some d := by unfold Tr.dxL at hd; simpa using hd
    obtain ⟨ks', e1, w1, n1⟩ := bentL hw ks hk.2 hn.2 i q d hd2 hq
    exact ⟨k :: ks', by unfold Tr.dxL; rw [List.set_cons_succ, e1], ⟨hk.1, w1⟩, ⟨hn.1, n1⟩⟩
end
def Sm.wk : Sm → Prop
  | .set _ ss c => (∀ s ∈ ss, s.2.wk) ∧ ∀ t, c = some t → t.wk
  | .strike _ c => ∀ t, c = some t → t.wk
  | .ask _ tm _ c bys _ => (∀ t ∈ tm, t.wk) ∧ (∀ t, c = some t → t.wk) ∧ ∀ t ∈ bys, t.wk
  | _ => True
end Nm

set_option linter.all false
set_option Elab.async false
set_option maxRecDepth 100000
set_option maxHeartbeats 4000000
/-! fields without their tables: looked up, the tree comes back -/
namespace Nm
open PySem PySem.Spec PyProof.Rows L2 G7
mutual
def Br (S : Shp) (ts : List Str) : Tr → Tr → Prop
  | .num n, b => b = .num n
  | .fld t f, b => b = .fld t f ∨ (b = .fld "" f ∧ (ts.filter fun o => decide (f ∈ flds S o)) = [t])
  | .node w ks, b => ∃ ks', b = .node w ks' ∧ BrL S ts ks ks'
def BrL (S : Shp) (ts : List Str) : List Tr → List Tr → Prop
  | [], b => b = []
  | k :: ks, b => ∃ k' ks', b = k' :: ks' ∧ Br S ts k k' ∧ BrL S ts ks ks'
end
mutual
def Tr.tz : Tr → Prop
  | .num _ => True
  | .fld t _ => t ≠ ""
  | .node _ ks => Tr.tzL ks
def Tr.tzL : List Tr → Prop
  | [] => True
  | k :: ks => k.tz ∧ Tr.tzL ks
end
theorem tzL_all : ∀ {ks : List Tr}, Tr.tzL ks ↔ ∀ k ∈ ks, k.tz
  | [] => by simp [Tr.tzL]
  | k :: ks => by simp [Tr.tzL, tzL_all (ks := ks)]
mutual
theorem br_refl {S : Shp} {ts : List Str} : ∀ t : Tr, Br S ts t t
  | .num n => by unfold Br; rfl
  | .fld t f => by unfold Br; exact .inl rfl
  | .node w ks => by unfold Br; exact ⟨ks, rfl, brL_refl ks⟩
theorem brL_refl {S : Shp} {ts : List Str} : ∀ ks : List Tr, BrL S ts ks ks
  | [] => by unfold BrL; rfl
  | k :: ks => by unfold BrL; exact ⟨k, ks, rfl, br_refl k, brL_refl ks⟩
end
theorem nameF_own {S : Shp} {ts : List Str} {t f o : Str} (h : t ≠ "") (e : nameF S ts t f = .ok o) : o = t := by
  unfold nameF at e
  by_cases c : t ≠ "" ∧ t ∉ ts
  · rw [if_pos c] at e; cases e
  · rw [if_neg c] at e
    match hh : hits S ts t f with
    | [] => rw [hh] at e; cases e
    | [x] =>
      rw [hh] at e
      cases e
      have m : o ∈ hits S ts t f := by rw [hh]; exact List.mem_cons_self
      have z := (List.mem_filter.mp m).2
      simp only [Bool.and_eq_true, decide_eq_true_eq] at z
      rcases z.2 with y | y
      · exact absurd y h
      · exact y.symm
    | x :: y :: r => rw [hh] at e; cases e
theorem nameF_bare {S : Shp} {ts : List Str} {t f o : Str} (h : (ts.filter fun o => decide (f ∈ flds S o)) = [t]) (e : nameF S ts "" f = .ok o) : o = t := by
  unfold nameF at e
  rw [if_neg (fun z => z.1 rfl)] at e
  have hh : hits S ts "" f = [t] := by
    unfold hits
    rw [← h]
    refine List.filter_congr fun x _ => ?_
    simp
  rw [hh] at e
  cases e
  rfl
mutual
theorem name_back {S : Shp} {ts : List Str} : ∀ (t b : Tr), Br S ts t b → t.tz → ∀ t', nameT S ts b = .ok t' → t' = t
  | .num n, b, h, _, t', e => by
    unfold Br at h
    subst h
    unfold nameT at e
    cases e
    rfl
  | .fld t f, b, h, hz, t', e => by
    unfold Br at h
    rcases h with rfl | ⟨rfl, hu⟩
    · unfold nameT at e
      cases hn : nameF S ts t f with
      | error w => rw [hn] at e; cases e
      | ok o =>
        rw [hn] at e
        cases e
        rw [nameF_own hz hn]
    · unfold nameT at e
      cases hn : nameF S ts "" f with
      | error w => rw [hn] at e; cases e
      | ok o =>
        rw [hn] at e
        cases e
        rw [nameF_bare hu hn]
  | .node w ks, b, h, hz, t', e => by
    unfold Br at h
    obtain ⟨ks', rfl, hl⟩ := h
    unfold nameT at e
    cases hn : nameL S ts ks' with
    | error w => rw [hn] at e; cases e
    | ok o =>
      rw [hn] at e
      cases e
      rw [nameL_back ks ks' hl hz o hn]
theorem nameL_back {S : Shp} {ts : List Str} : ∀ (ks b : List Tr), BrL S ts ks b → Tr.tzL ks → ∀ t', nameL S ts b = .ok t' → t' = ks
  | [], b, h, _, t', e => by
    unfold BrL at h
    subst h
    unfold nameL at e
    cases e
    rfl
  | k :: ks, b, h, hz, t', e => by
    unfold BrL at h
    obtain ⟨k', ks', rfl, h1, h2⟩ := h
    unfold nameL at e
    cases hn : nameT S ts k' with
    | error w => rw [hn] at e; cases e
    | ok o =>
      rw [hn] at e
      cases hm : nameL S ts ks' with
      | error w => rw [hm] at e; cases e
      | ok r =>
        rw [hm] at e
        cases e
        rw [name_back k k' h1 hz.1 o hn, nameL_back ks ks' h2 hz.2 r hm]
end
def tzO : Option Tr → Prop
  | none => True
  | some t => t.tz
def Sm.tz : Sm → Prop
  | .set _ ss c => (∀ s ∈ ss, s.2.tz) ∧ tzO c
  | .strike _ c => tzO c
  | .ask _ tm _ c bys _ => Tr.tzL tm ∧ tzO c ∧ Tr.tzL bys
  | _ => True
end Nm

set_option linter.all false
set_option Elab.async false
set_option maxRecDepth 100000
set_option maxHeartbeats 4000000
/-! terms and conditions as trees of names; data without lists stand -/
namespace G7
open PySem PySem.Spec PyProof.Rows L2
def nzF : G7.Tm → Prop
  | .num _ => True
  | .fld t f => t ≠ (Str.ofString "") ∧ f ≠ (Str.ofString "")
  | .op _ a b => nzF a ∧ nzF b
def nzC : G7.Cd → Prop
  | .cmp _ a b => nzF a ∧ nzF b
  | .neg c => nzC c
  | .con _ a b => nzC a ∧ nzC b
structure GN (c : G7.Cd) (d m : Nat) : Prop where
  ok : c.ok = true
  lim : c.lim
  high : c.high ≤ d
  few : c.leaves ≤ m
  nz : nzC c
  dp : c.deep ≤ d + 3
/-- all that is no list stands -/
def Std (H H' : Hp) : Prop := ∀ a o, H a = some o → (∀ xs, o ≠ .lst xs) → H' a = some o
theorem Std.ofSame {H H' : Hp} (k : Same H H') : Std H H' := fun a o h _ => k a o h
theorem Std.trans {H H1 H2 : Hp} (a : Std H H1) (b : Std H1 H2) : Std H H2 := fun c o h n => b c o (a c o h n) n
mutual
def Dx.noL : Dx → Prop
  | .tup ds => Dx.noLL ds
  | .lst _ => False
  | _ => True
def Dx.noLL : List Dx → Prop
  | [] => True
  | d :: ds => d.noL ∧ Dx.noLL ds
end
theorem noLL_all : ∀ {ds : List Dx}, Dx.noLL ds ↔ ∀ d ∈ ds, d.noL
  | [] => by simp [Dx.noLL]
  | d :: ds => by simp [Dx.noLL, noLL_all (ds := ds)]
mutual
theorem RX.std {H H' : Hp} (k : Std H H') : ∀ {d : Dx} {v : V}, d.noL → RX H v d → RX H' v d
  | .non, _, _, h => by simpa only [RX] using h
  | .bl _, _, _, h => by simpa only [RX] using h
  | .int _, _, _, h => by simpa only [RX] using h
  | .str _, _, _, h => by simpa only [RX] using h
  | .tup ds, v, n, h => by
    simp only [RX] at h ⊢
    obtain ⟨a, us, e, z, r⟩ := h
    refine ⟨a, us, e, ?_, RXs.std k n r⟩
    rcases z with z | ⟨o, z⟩
    · exact .inl (k a _ z (by intro xs q; cases q))
    · exact .inr ⟨o, k a _ z (by intro xs q; cases q)⟩
  | .lst ds, v, n, h => n.elim
theorem RXs.std {H H' : Hp} (k : Std H H') : ∀ {ds : List Dx} {us : List V}, Dx.noLL ds → RXs H us ds → RXs H' us ds
  | [], [], _, h => by simp only [RXs]
  | d :: ds, u :: us, n, h => by
    simp only [RXs] at h ⊢
    exact ⟨RX.std k n.1 h.1, RXs.std k n.2 h.2⟩
  | [], u :: us, _, h => by simp only [RXs] at h
  | d :: ds, [], _, h => by simp only [RXs] at h
end
end G7
namespace Nm
open PySem PySem.Spec PyProof.Rows L2 G7
mutual
theorem trNoL : ∀ t : Tr, t.dx.noL
  | .num n => by unfold Tr.dx Dx.noL; exact ⟨trivial, trivial, trivial⟩
  | .fld t f => by unfold Tr.dx Dx.noL; exact ⟨trivial, trivial, trivial, trivial⟩
  | .node w ks => by unfold Tr.dx Dx.noL; exact ⟨trivial, trNoLL ks⟩
theorem trNoLL : ∀ ks : List Tr, Dx.noLL (Tr.dxL ks)
  | [] => by unfold Tr.dxL; trivial
  | k :: ks => by unfold Tr.dxL; exact ⟨trNoL k, trNoLL ks⟩
end
theorem noL_tup {ds : List Dx} (h : ∀ d ∈ ds, d.noL) : (Dx.tup ds).noL := by
  unfold Dx.noL
  exact noLL_all.mpr h
theorem noL_map {α : Type} {f : α → Dx} {l : List α} (h : ∀ x ∈ l, (f x).noL) : (Dx.tup (l.map f)).noL := noL_tup fun d hd => by
  obtain ⟨x, hx, rfl⟩ := List.mem_map.mp hd
  exact h x hx
theorem noL_o (c : Option Tr) : (dxO c).noL := by cases c with
  | none => exact trivial
  | some t => exact trNoL t
theorem noL_i (i : OI) : (dxI i).noL := by cases i <;> exact trivial
theorem noL_s (l : List Str) : (dxs l).noL := noL_map fun _ _ => trivial
theorem smNoL (st : Sm) : st.dx.noL := by
  cases st with
  | alone w => exact ⟨trivial, trivial⟩
  | table t fs => exact ⟨trivial, trivial, noL_s fs, trivial⟩
  | index t f => exact ⟨trivial, trivial, trivial, trivial⟩
  | put t ns => exact ⟨trivial, trivial, noL_map fun _ _ => trivial, trivial⟩
  | set t ss c => exact ⟨trivial, trivial, noL_map fun s _ => ⟨trivial, trNoL s.2, trivial⟩, noL_o c, trivial⟩
  | strike t c => exact ⟨trivial, trivial, noL_o c, trivial⟩
  | ask how tm ts c bys first => exact ⟨trivial, trivial, noL_map fun t _ => trNoL t, noL_s ts, noL_o c, noL_map fun t _ => trNoL t, noL_i first, trivial⟩
/-! drawn terms and conditions as trees -/
def trT : G7.Tm → Tr
  | .num n => .num n
  | .fld t f => .fld t f
  | .op o a b => .node o.s [trT a, trT b]
def trC : G7.Cd → Tr
  | .cmp c a b => .node c.s [trT a, trT b]
  | .neg c => .node (Wd.s .not) [trC c]
  | .con o a b => .node o.s [trC a, trC b]
theorem rtDx {H : Hp} : ∀ {t : G7.Tm} {v : V}, RT H v t → RX H v (trT t).dx
  | .num n, v, h => by
    obtain ⟨a, rfl, e⟩ := h
    unfold trT Tr.dx
    exact rx_tup e (rxs_cons (rx_str _) (rxs_cons (rx_int _) rxs_nil))
  | .fld t f, v, h => by
    obtain ⟨a, rfl, e⟩ := h
    unfold trT Tr.dx
    exact rx_tup e (rxs_cons (rx_str _) (rxs_cons (rx_str _) (rxs_cons (rx_str _) rxs_nil)))
  | .op o x y, v, h => by
    obtain ⟨a, u, w, rfl, e, h1, h2⟩ := h
    unfold trT Tr.dx Tr.dxL Tr.dxL Tr.dxL
    exact rx_tup e (rxs_cons (rx_str _) (rxs_cons (rtDx h1) (rxs_cons (rtDx h2) rxs_nil)))
theorem rcDx {H : Hp} : ∀ {c : G7.Cd} {v : V}, RC H v c → RX H v (trC c).dx
  | .cmp o x y, v, h => by
    obtain ⟨a, u, w, rfl, e, h1, h2⟩ := h
    unfold trC Tr.dx Tr.dxL Tr.dxL Tr.dxL
    exact rx_tup e (rxs_cons (rx_str _) (rxs_cons (rtDx h1) (rxs_cons (rtDx h2) rxs_nil)))
  | .neg x, v, h => by
    obtain ⟨a, u, rfl, e, h1⟩ := h
    unfold trC Tr.dx Tr.dxL Tr.dxL
    exact rx_tup e (rxs_cons (rx_str _) (rxs_cons (rcDx h1) rxs_nil))
  | .con o x y, v, h => by
    obtain ⟨a, u, w, rfl, e, h1, h2⟩ := h
    unfold trC Tr.dx Tr.dxL Tr.dxL Tr.dxL
    exact rx_tup e (rxs_cons (rx_str _) (rxs_cons (rcDx h1) (rxs_cons (rcDx h2) rxs_nil)))
/-- what is asked of a tree of names: the law's words, names that aren't empty, bounds -/
structure TrOk (t : Tr) (n : Nat) : Prop where
  wk : t.wk
  nz : t.nz
  tz : t.tz
  deep : t.dx.deep ≤ n
  fits : t.dx.fits 8
theorem wd_law : ∀ o : Wd, o ≠ .num → o ≠ .field → (o.s ∈ lawW ∧ o.s ≠ "num" ∧ o.s ≠ "field" ∧ o.s ≠ "ask") := by
  intro o h1 h2
  cases o <;> first | exact absurd rfl h1 | exact absurd rfl h2 | decide +kernel
theorem node2 {w : Str} {a b : Tr} {n : Nat} (hw : w ∈ lawW ∧ w ≠ "num" ∧ w ≠ "field" ∧ w ≠ "ask") (ha : TrOk a n) (hb : TrOk b n) : TrOk (.node w [a, b]) (n + 1) := by
  refine ⟨⟨hw, ha.wk, hb.wk, trivial⟩, ⟨ha.nz, hb.nz, trivial⟩, ⟨ha.tz, hb.tz, trivial⟩, ?_, ?_⟩
  · have := ha.deep
    have := hb.deep
    unfold Tr.dx Tr.dxL Tr.dxL Tr.dxL Dx.deep Dx.deepL Dx.deepL Dx.deepL Dx.deepL
    have z : Dx.deep (.str w) = 0 := by unfold Dx.deep; rfl
    omega
  · unfold Tr.dx Tr.dxL Tr.dxL Tr.dxL Dx.fits
    exact ⟨by simp, by unfold Dx.fitsL; exact ⟨trivial, ha.fits, hb.fits, trivial⟩⟩
theorem node1 {w : Str} {a : Tr} {n : Nat} (hw : w ∈ lawW ∧ w ≠ "num" ∧ w ≠ "field" ∧ w ≠ "ask") (ha : TrOk a n) : TrOk (.node w [a]) (n + 1) := by
  refine ⟨⟨hw, ha.wk, trivial⟩, ⟨ha.nz, trivial⟩, ⟨ha.tz, trivial⟩, ?_, ?_⟩
  · have := ha.deep
    unfold Tr.dx Tr.dxL Tr.dxL Dx.deep Dx.deepL Dx.deepL Dx.deepL
    have z : Dx.deep (.str w) = 0 := by unfold Dx.deep; rfl
    omega
  · unfold Tr.dx Tr.dxL Tr.dxL Dx.fits
    exact ⟨by simp, by unfold Dx.fitsL; exact ⟨trivial, ha.fits, trivial⟩⟩
theorem TrOk.mono {t : Tr} {n m : Nat} (h : TrOk t n) (l : n ≤ m) : TrOk t m := ⟨h.wk, h.nz, h.tz, Nat.le_trans h.deep l, h.fits⟩
theorem trT_ok : ∀ {t : G7.Tm}, t.ok = true → nzF t → TrOk (trT t) t.deep
  | .num n, _, _ => ⟨trivial, trivial, trivial, by unfold trT Tr.dx; simp [Dx.deep, Dx.deepL, Tm.deep], by unfold trT Tr.dx Dx.fits; exact ⟨by simp, trivial, trivial, trivial⟩⟩
  | .fld t f, _, h => ⟨trivial, h.2, h.1, by unfold trT Tr.dx; simp [Dx.deep, Dx.deepL, Tm.deep], by unfold trT Tr.dx Dx.fits; exact ⟨by simp, trivial, trivial, trivial, trivial⟩⟩
  | .op o a b, k, h => by
    simp only [Tm.ok, Bool.and_eq_true] at k
    have wo := wd_law o (by rintro rfl; simp [Wd.isOp] at k) (by rintro rfl; simp [Wd.isOp] at k)
    have := node2 wo ((trT_ok k.1.2 h.1).mono (Nat.le_max_left a.deep b.deep)) ((trT_ok k.2 h.2).mono (Nat.le_max_right a.deep b.deep))
    exact this
theorem trC_ok : ∀ {c : G7.Cd} , c.ok = true → nzC c → TrOk (trC c) c.deep
  | .cmp o a b, k, h => by
    simp only [Cd.ok, Bool.and_eq_true] at k
    have wo := wd_law o (by rintro rfl; simp [Wd.isCmp] at k) (by rintro rfl; simp [Wd.isCmp] at k)
    exact node2 wo ((trT_ok k.1.2 h.1).mono (Nat.le_max_left a.deep b.deep)) ((trT_ok k.2 h.2).mono (Nat.le_max_right a.deep b.deep))
  | .neg c, k, h => node1 (wd_law .not (by intro z; cases z) (by intro z; cases z)) (trC_ok k h)
  | .con o a b, k, h => by
    simp only [Cd.ok, Bool.and_eq_true] at k
    have wo := wd_law o (by rintro rfl; simp [Wd.isCon] at k) (by rintro rfl; simp [Wd.isCon] at k)
    exact node2 wo ((trC_ok k.1.2 h.1).mono (Nat.le_max_left a.deep b.deep)) ((trC_ok k.2 h.2).mono (Nat.le_max_right a.deep b.deep))
end Nm
namespace Nm
open PySem PySem.Spec PyProof.Rows L2 G7
theorem _root_.G7.BoxB.std {H H' : Hp} {h l : Addr} (B : BoxB H h l) (k : Keep [h, l] H H') : Std H H' := fun a o e n => k a o (B.notin e n) e
theorem Std.upd {H : Hp} {p : Addr} {o u : HO} (h : H p = some u) (hu : ∃ xs, u = .lst xs) : Std H (L2.upd H p o) := fun a x e n => by
  obtain ⟨xs, rfl⟩ := hu
  rw [upd_ne (fun z => by rw [z, h] at e; exact n xs (Option.some.inj e).symm)]
  exact e
/-- some trees, as they lie -/
structure TrsAt (H : Hp) (v : V) (trs : List Tr) (n : Nat) : Prop where
  at_ : RX H v (.tup (trs.map Tr.dx))
  few : trs.length ≤ 3
  ok : ∀ t ∈ trs, TrOk t n
theorem TrsAt.std {H H' : Hp} {v : V} {trs : List Tr} {n : Nat} (h : TrsAt H v trs n) (k : Std H H') : TrsAt H' v trs n := ⟨h.at_.std k (noL_map fun t _ => trNoL t), h.few, h.ok⟩
structure TrsL (H : Hp) (xs : List V) (trs : List Tr) (n : Nat) : Prop where
  at_ : RXs H xs (trs.map Tr.dx)
  ok : ∀ t ∈ trs, TrOk t n
theorem TrsL.std {H H' : Hp} {xs : List V} {trs : List Tr} {n : Nat} (h : TrsL H xs trs n) (k : Std H H') : TrsL H' xs trs n := ⟨h.at_.std k (noLL_all.mpr fun d hd => by
  obtain ⟨t, _, rfl⟩ := List.mem_map.mp hd
  exact trNoL t), h.ok⟩
theorem rxs_snoc {H : Hp} : ∀ {us : List V} {ds : List Dx} {u : V} {d : Dx}, RXs H us ds → RX H u d → RXs H (us ++ [u]) (ds ++ [d])
  | [], [], u, d, _, h => rxs_cons h rxs_nil
  | _ :: us, _ :: ds, u, d, r, h => by
    simp only [RXs] at r
    exact rxs_cons r.1 (rxs_snoc r.2 h)
  | [], _ :: ds, u, d, r, h => by simp only [RXs] at r
  | _ :: us, [], u, d, r, h => by simp only [RXs] at r
theorem TrsL.snoc {H : Hp} {xs : List V} {trs : List Tr} {n : Nat} {v : V} {t : Tr} (h : TrsL H xs trs n) (r : RX H v t.dx) (o : TrOk t n) : TrsL H (xs ++ [v]) (trs ++ [t]) n :=
  ⟨by rw [List.map_append]; exact rxs_snoc h.at_ r, fun x hx => (List.mem_append.mp hx).elim (h.ok x) fun z => by cases List.mem_singleton.mp z; exact o⟩
structure CoAt (H : Hp) (v : V) (c : Option Tr) (n : Nat) : Prop where
  at_ : RX H v (dxO c)
  ok : ∀ t, c = some t → TrOk t n
theorem CoAt.std {H H' : Hp} {v : V} {c : Option Tr} {n : Nat} (h : CoAt H v c n) (k : Std H H') : CoAt H' v c n := ⟨h.at_.std k (noL_o c), h.ok⟩
theorem CoAt.none {H : Hp} {n : Nat} : CoAt H .non none n := ⟨rx_non, fun t z => by cases z⟩
theorem CoAt.some {H : Hp} {v : V} {c : G7.Cd} {d m : Nat} (h : RC H v c) (g : GN c d m) : CoAt H v (some (trC c)) (d + 3) := ⟨rcDx h, fun t z => by cases z; exact (trC_ok g.ok g.nz).mono g.dp⟩
/-- a statement within bounds -/
structure SmOk (st : Sm) : Prop where
  wk : st.wk
  nz : st.nz
  tz : st.tz
  deep : st.dx.deep ≤ 8
  fits : st.dx.fits 8
theorem nzO_of {c : Option Tr} {n : Nat} (h : ∀ t, c = some t → TrOk t n) : nzO c := by cases c with
  | none => exact trivial
  | some t => exact (h t rfl).nz
theorem tzO_of {c : Option Tr} {n : Nat} (h : ∀ t, c = some t → TrOk t n) : tzO c := by cases c with
  | none => exact trivial
  | some t => exact (h t rfl).tz
theorem deepL_le {n : Nat} : ∀ {ds : List Dx}, (∀ d ∈ ds, d.deep ≤ n) → Dx.deepL ds ≤ n
  | [], _ => by unfold Dx.deepL; omega
  | d :: ds, h => by
    unfold Dx.deepL
    exact Nat.max_le.mpr ⟨h d List.mem_cons_self, deepL_le fun x hx => h x (List.mem_cons_of_mem _ hx)⟩
theorem fitsL_of {m : Nat} : ∀ {ds : List Dx}, (∀ d ∈ ds, d.fits m) → Dx.fitsL m ds
  | [], _ => trivial
  | d :: ds, h => ⟨h d List.mem_cons_self, fitsL_of fun x hx => h x (List.mem_cons_of_mem _ hx)⟩
theorem deep_tup {n : Nat} {ds : List Dx} (h : ∀ d ∈ ds, d.deep ≤ n) : (Dx.tup ds).deep ≤ n + 1 := by
  unfold Dx.deep
  exact Nat.succ_le_succ (deepL_le h)
theorem fits_tup {m : Nat} {ds : List Dx} (l : ds.length ≤ m) (h : ∀ d ∈ ds, d.fits m) : (Dx.tup ds).fits m := by
  unfold Dx.fits
  exact ⟨l, fitsL_of h⟩
theorem d_str (s : Str) (n : Nat) : (Dx.str s).deep ≤ n := by unfold Dx.deep; omega
theorem d_int (s : Int) (n : Nat) : (Dx.int s).deep ≤ n := by unfold Dx.deep; omega
theorem d_dxO {c : Option Tr} {n m : Nat} (h : ∀ t, c = some t → TrOk t n) (l : n ≤ m) : (dxO c).deep ≤ m := by cases c with
  | none => unfold dxO Dx.deep; omega
  | some t => exact Nat.le_trans (h t rfl).deep l
theorem f_dxO {c : Option Tr} {n : Nat} (h : ∀ t, c = some t → TrOk t n) : (dxO c).fits 8 := by cases c with
  | none => exact trivial
  | some t => exact (h t rfl).fits
theorem d_dxI (i : OI) (n : Nat) : (dxI i).deep ≤ n := by cases i <;> (unfold dxI Dx.deep; omega)
theorem f_dxI (i : OI) : (dxI i).fits 8 := by cases i <;> exact trivial
theorem d_map {α : Type} {f : α → Dx} {l : List α} {n : Nat} (h : ∀ x ∈ l, (f x).deep ≤ n) : (Dx.tup (l.map f)).deep ≤ n + 1 := deep_tup fun d hd => by
  obtain ⟨x, hx, rfl⟩ := List.mem_map.mp hd
  exact h x hx
theorem f_map {α : Type} {f : α → Dx} {l : List α} (n : l.length ≤ 8) (h : ∀ x ∈ l, (f x).fits 8) : (Dx.tup (l.map f)).fits 8 := fits_tup (by rw [List.length_map]; exact n) fun d hd => by
  obtain ⟨x, hx, rfl⟩ := List.mem_map.mp hd
  exact h x hx
theorem d_dxs (l : List Str) (n : Nat) : (dxs l).deep ≤ n + 1 := d_map fun s _ => d_str s n
theorem f_dxs {l : List Str} (n : l.length ≤ 8) : (dxs l).fits 8 := f_map n fun _ _ => trivial
/-- a question within bounds -/
theorem askOk {how : Str} {tm bys : List Tr} {ts : List Str} {c : Option Tr} {first : OI} (h1 : tm.length ≤ 3 ∧ ∀ t ∈ tm, TrOk t 6) (h2 : bys.length ≤ 3 ∧ ∀ t ∈ bys, TrOk t 6) (h3 : ∀ t, c = some t → TrOk t 6) (h4 : ts.length ≤ 3 ∧ ∀ t ∈ ts, t ≠ "") : SmOk (.ask how tm ts c bys first) := by
  refine ⟨⟨fun t ht => (h1.2 t ht).wk, fun t ht => (h3 t ht).wk, fun t ht => (h2.2 t ht).wk⟩, ⟨nzL_all.mpr fun t ht => (h1.2 t ht).nz, h4.2, nzO_of h3, nzL_all.mpr fun t ht => (h2.2 t ht).nz⟩, ⟨tzL_all.mpr fun t ht => (h1.2 t ht).tz, tzO_of h3, tzL_all.mpr fun t ht => (h2.2 t ht).tz⟩, ?_, ?_⟩
  · refine deep_tup fun d hd => ?_
    simp only [List.mem_cons, List.mem_nil_iff, or_false] at hd
    rcases hd with rfl | rfl | rfl | rfl | rfl | rfl | rfl
    · exact d_str _ _
    · exact d_str _ _
    · exact d_map fun t ht => (h1.2 t ht).deep
    · exact Nat.le_trans (d_dxs ts 0) (by omega)
    · exact d_dxO h3 (by omega)
    · exact d_map fun t ht => (h2.2 t ht).deep
    · exact d_dxI _ _
  · refine fits_tup (by simp) fun d hd => ?_
    simp only [List.mem_cons, List.mem_nil_iff, or_false] at hd
    rcases hd with rfl | rfl | rfl | rfl | rfl | rfl | rfl
    · exact trivial
    · exact trivial
    · exact f_map (by omega) fun t ht => (h1.2 t ht).fits
    · exact f_dxs (by omega)
    · exact f_dxO h3
    · exact f_map (by omega) fun t ht => (h2.2 t ht).fits
    · exact f_dxI _
end Nm
namespace Nm
open PySem PySem.Spec PyProof.Rows L2 G7
/-! some trees or other -/
def TrsE (H : Hp) (v : V) (n : Nat) : Prop := ∃ trs, TrsAt H v trs n
theorem TrsE.std {H H' : Hp} {v : V} {n : Nat} (h : TrsE H v n) (k : Std H H') : TrsE H' v n := h.elim fun t q => ⟨t, q.std k⟩
def TrsM (H : Hp) (xs : List V) (n : Nat) : Prop := ∃ trs, TrsL H xs trs n ∧ trs.length = xs.length
theorem TrsM.std {H H' : Hp} {xs : List V} {n : Nat} (h : TrsM H xs n) (k : Std H H') : TrsM H' xs n := h.elim fun t q => ⟨t, q.1.std k, q.2⟩
theorem TrsM.nil {H : Hp} {n : Nat} : TrsM H [] n := ⟨[], ⟨rxs_nil, fun t ht => absurd ht (by simp)⟩, rfl⟩
theorem TrsM.snoc {H : Hp} {xs : List V} {n : Nat} {v : V} {t : Tr} (h : TrsM H xs n) (r : RX H v t.dx) (o : TrOk t n) : TrsM H (xs ++ [v]) n := h.elim fun ts q => ⟨ts ++ [t], q.1.snoc r o, by rw [List.length_append, List.length_append, q.2]; rfl⟩
theorem TrsM.tup {H : Hp} {xs : List V} {n : Nat} {p : Addr} (h : TrsM H xs n) (hp : H p = some (.tup xs)) (l : xs.length ≤ 3) : TrsE H (.ref p) n := h.elim fun ts q => ⟨ts, rx_tup hp q.1.at_, by rw [q.2]; exact l, q.1.ok⟩
def CoE (H : Hp) (v : V) (n : Nat) : Prop := ∃ c, CoAt H v c n
theorem CoE.std {H H' : Hp} {v : V} {n : Nat} (h : CoE H v n) (k : Std H H') : CoE H' v n := h.elim fun t q => ⟨t, q.std k⟩
def FiE (H : Hp) (v : V) : Prop := ∃ f, RX H v (dxI f)
theorem FiE.std {H H' : Hp} {v : V} (h : FiE H v) (k : Std H H') : FiE H' v := h.elim fun t q => ⟨t, q.std k (noL_i t)⟩
end Nm
namespace Nm
open PySem PySem.Spec PyProof.Rows L2 G7
def Sm.full : Sm → Prop
  | .ask _ _ ts _ _ _ => 0 < ts.length ∧ ∀ t ∈ ts, t ∉ lawW
  | .index t f => PyData.strOk t = true ∧ PyData.strOk f = true
  | .alone w => PyData.strOk w = true
  | _ => True
theorem tableOk {t : Str} {fs : List Str} (h : t ≠ "") (n : fs.length ≤ 4) (hf : ∀ f ∈ fs, f ≠ "") : SmOk (.table t fs) := ⟨trivial, ⟨h, hf⟩, trivial, by
  refine deep_tup fun d hd => ?_
  simp only [List.mem_cons, List.mem_nil_iff, or_false] at hd
  rcases hd with rfl | rfl | rfl
  · exact d_str _ _
  · exact d_str _ _
  · exact d_dxs _ 6, fits_tup (by simp) fun d hd => by
  simp only [List.mem_cons, List.mem_nil_iff, or_false] at hd
  rcases hd with rfl | rfl | rfl
  · exact trivial
  · exact trivial
  · exact f_dxs (by omega)⟩
theorem indexOk {t f : Str} (h : t ≠ "") (hf : f ≠ "") : SmOk (.index t f) := ⟨trivial, ⟨h, hf⟩, trivial, by
  refine deep_tup fun d hd => ?_
  simp only [List.mem_cons, List.mem_nil_iff, or_false] at hd
  rcases hd with rfl | rfl | rfl <;> exact d_str _ _, fits_tup (by simp) fun d hd => by
  simp only [List.mem_cons, List.mem_nil_iff, or_false] at hd
  rcases hd with rfl | rfl | rfl <;> exact trivial⟩
theorem aloneOk {w : Str} : SmOk (.alone w) := ⟨trivial, trivial, trivial, by
  refine deep_tup fun d hd => ?_
  cases List.mem_singleton.mp hd
  exact d_str _ _, fits_tup (by simp) fun d hd => by
  cases List.mem_singleton.mp hd
  exact trivial⟩
theorem putOk {t : Str} {ns : List Int} (h : t ≠ "") (n : ns.length ≤ 4) : SmOk (.put t ns) := ⟨trivial, h, trivial, by
  refine deep_tup fun d hd => ?_
  simp only [List.mem_cons, List.mem_nil_iff, or_false] at hd
  rcases hd with rfl | rfl | rfl
  · exact d_str _ _
  · exact d_str _ _
  · exact d_map (n := 6) fun x _ => d_int x _, fits_tup (by simp) fun d hd => by
  simp only [List.mem_cons, List.mem_nil_iff, or_false] at hd
  rcases hd with rfl | rfl | rfl
  · exact trivial
  · exact trivial
  · exact f_map (by omega) fun x _ => trivial⟩
theorem strikeOk {t : Str} {c : Option Tr} (h : t ≠ "") (hc : ∀ x, c = some x → TrOk x 6) : SmOk (.strike t c) := ⟨fun t ht => (hc t ht).wk, ⟨h, nzO_of hc⟩, tzO_of hc, by
  refine deep_tup fun d hd => ?_
  simp only [List.mem_cons, List.mem_nil_iff, or_false] at hd
  rcases hd with rfl | rfl | rfl
  · exact d_str _ _
  · exact d_str _ _
  · exact d_dxO hc (by omega), fits_tup (by simp) fun d hd => by
  simp only [List.mem_cons, List.mem_nil_iff, or_false] at hd
  rcases hd with rfl | rfl | rfl
  · exact trivial
  · exact trivial
  · exact f_dxO hc⟩
theorem setOk {t : Str} {ss : List (Str × Tr)} {c : Option Tr} (h : t ≠ "") (hs : ss.length ≤ 4 ∧ ∀ s ∈ ss, s.1 ≠ "" ∧ TrOk s.2 5) (hc : ∀ x, c = some x → TrOk x 6) : SmOk (.set t ss c) :=
  ⟨⟨fun s hm => (hs.2 s hm).2.wk, fun t ht => (hc t ht).wk⟩, ⟨h, fun s hm => ⟨(hs.2 s hm).1, (hs.2 s hm).2.nz⟩, nzO_of hc⟩, ⟨fun s hm => (hs.2 s hm).2.tz, tzO_of hc⟩, by
  refine deep_tup fun d hd => ?_
  simp only [List.mem_cons, List.mem_nil_iff, or_false] at hd
  rcases hd with rfl | rfl | rfl | rfl
  · exact d_str _ _
  · exact d_str _ _
  · refine d_map (n := 6) fun s hm => deep_tup fun d hd => ?_
    simp only [List.mem_cons, List.mem_nil_iff, or_false] at hd
    rcases hd with rfl | rfl
    · exact d_str _ _
    · exact (hs.2 s hm).2.deep
  · exact d_dxO hc (by omega), fits_tup (by simp) fun d hd => by
  simp only [List.mem_cons, List.mem_nil_iff, or_false] at hd
  rcases hd with rfl | rfl | rfl | rfl
  · exact trivial
  · exact trivial
  · refine f_map (by omega) fun s hm => fits_tup (by simp) fun d hd => ?_
    simp only [List.mem_cons, List.mem_nil_iff, or_false] at hd
    rcases hd with rfl | rfl
    · exact trivial
    · exact (hs.2 s hm).2.fits
  · exact f_dxO hc⟩
end Nm
namespace Nm
open PySem PySem.Spec PyProof.Rows L2 G7
def dxP (s : Str × Tr) : Dx := .tup [.str s.1, s.2.dx]
/-- fields with their terms -/
def SetsM (H : Hp) (xs : List V) : Prop := ∃ ss : List (Str × Tr), RXs H xs (ss.map dxP) ∧ ss.length = xs.length ∧ ∀ s ∈ ss, s.1 ≠ "" ∧ TrOk s.2 5
theorem SetsM.nil {H : Hp} : SetsM H [] := ⟨[], rxs_nil, rfl, fun t ht => absurd ht (by simp)⟩
theorem SetsM.std {H H' : Hp} {xs : List V} (h : SetsM H xs) (k : Std H H') : SetsM H' xs := h.elim fun ss q => ⟨ss, q.1.std k (noLL_all.mpr fun d hd => by
  obtain ⟨s, _, rfl⟩ := List.mem_map.mp hd
  exact ⟨trivial, trNoL s.2, trivial⟩), q.2⟩
theorem SetsM.snoc {H : Hp} {xs : List V} {p : Addr} {v : V} {f : Str} {t : Tr} (h : SetsM H xs) (hp : H p = some (.tup [.str f, v])) (r : RX H v t.dx) (o : TrOk t 5) (hf : f ≠ "") : SetsM H (xs ++ [.ref p]) := h.elim fun ss q =>
  ⟨ss ++ [(f, t)], by rw [List.map_append]; exact rxs_snoc q.1 (rx_tup hp (rxs_cons (rx_str _) (rxs_cons r rxs_nil))), by rw [List.length_append, List.length_append, q.2.1]; rfl,
    fun x hx => (List.mem_append.mp hx).elim (q.2.2 x) fun z => by cases List.mem_singleton.mp z; exact ⟨hf, o⟩⟩
theorem cutV_1 (xs : List V) : cutV xs (some 1) none = xs.drop 1 := by
  have e : (1 : Int) = ((1 : Nat) : Int) := rfl
  unfold cutV
  rw [HT.sIx_none, e, HT.sIx_nat]
  by_cases h : 1 ≤ xs.length
  · rw [Nat.min_eq_left h]
    exact List.take_of_length_le (by rw [List.length_drop]; exact Nat.le_refl _)
  · rw [Nat.min_eq_right (by omega), List.drop_length, List.drop_eq_nil_of_le (by omega)]
    simp
end Nm

set_option linter.all false
set_option Elab.async false
set_option maxRecDepth 100000
set_option maxHeartbeats 4000000
/-! list comprehensions whose elements may raise -/
namespace LX
open PySem PySem.Spec PyProof.Rows L2
section
variable {X : Cx} {pins : List (Addr × Obj)} {σ : L2.St} {W : WX}
end
section
variable {X : Cx} {pins : List (Addr × Obj)} {σ : L2.St} {W : WX} {E : XK}
end
section
variable {M : Model} {A : Around} {E : Value → Shared → Prop} {s : Shared} {env : Env}
end
/-- a block's context, its calls' errors kept as they come -/
abbrev blkX (X : Cx) (E : XK) (s : Shared) (H : Hp) (scope : Scope) (ce : Env) (fp : List Addr) : Cx := (X.blk s H scope ce fp).tr [] fun u s' => ∃ (σ : L2.St) (Hc : Hp) (sc : Shared), Inv (X.blk s H scope ce fp) [] σ Hc sc ∧ CX X.prog X.w X.stack Hc sc E u s'
section
variable {X : Cx} {W : WX} {E : XK}
end
end LX

set_option linter.all false
set_option Elab.async false
set_option maxRecDepth 100000
set_option maxHeartbeats 4000000
/-! t == (), t != (), whatever stands in t; anything beside a text -/
namespace G7
open PySem PySem.Spec PyProof.Rows L2
theorem tup_isT {h : Heap} {a : Addr} {its : Array Value} (t : IsTup h a its) : h.IsTuple a its := by
  obtain ⟨o, ho, hc, n, hd⟩ := t
  exact ⟨o, ho, hc, n, hd⟩
def rNilT (neg : Bool) : R2 := fun x y H Q => ∃ (p q : Addr) (xs : List V), x = .ref p ∧ y = .ref q ∧ tpO (H p) = some xs ∧ tpO (H q) = some [] ∧ Q (.bl (if neg = true then !xs.isEmpty else xs.isEmpty)) H
theorem nil_end {its its2 : List Value} {xs : List V} (l1 : xs.length = its.length) (l2 : its2.length = 0) : xs.isEmpty = ((List.range (min its.toArray.size its2.toArray.size)).all (fun _ => true) && its.toArray.size == its2.toArray.size) := by
  rw [List.size_toArray, List.size_toArray, l2, Nat.min_zero, ← l1]
  cases xs <;> rfl
theorem op_neNilT {X : Cx} (hu : X.A.units + 64 < cLine) : OpR X (compareOp .NotEq) (rNilT true) := by
  intro pins s σ H x y v u Q I rx ry h
  obtain ⟨p, q, xs, rfl, rfl, h1, h2, k⟩ := h
  obtain rfl : v = Value.ref p := rx
  obtain rfl : u = Value.ref q := ry
  obtain ⟨its, r1, pl1, _⟩ := I.tuple (show SqT X.K H p xs from .inl (rd_tpO h1))
  obtain ⟨its2, r2, pl2, _⟩ := I.tuple (show SqT X.K H q [] from .inl (rd_tpO h2))
  have l2 : its2.length = 0 := r2.length.symm
  refine (SeqAt.RcNeAt.tuples (e := fun _ => true) (tup_isT pl1) (tup_isT pl2) (by omega) fun j j1 j2 => ?_) _ _ _ _ (fin_bl I k (congrArg Bool.not (nil_end r1.length l2)))
  rw [List.size_toArray] at j2
  omega
/-- anything beside a text -/
def rEqXS : R2 := fun x y H Q => ∃ s, y = .str s ∧ ((scal x y = true ∧ Q (.bl (decide (x = y))) H) ∨ ∃ p xs, x = .ref p ∧ tpO (H p) = some xs ∧ Q (.bl false) H)
/-- lists of texts -/
def rEqSL : R2 := fun x y H Q => ∃ (p q : Addr) (xs ys : List Str), x = .ref p ∧ y = .ref q ∧ lsO (H p) = some (xs.map V.str) ∧ lsO (H q) = some (ys.map V.str) ∧ Q (.bl (decide (xs = ys))) H
end G7

set_option linter.all false
set_option Elab.async false
set_option maxRecDepth 100000
set_option maxHeartbeats 4000000
/-! a text once or not at all: s * int(..) -/
namespace G7
open PySem PySem.Spec PyProof.Rows L2
def rMulS : R2 := fun x y H Q => ∃ (s : Str) (n : Int), x = .str s ∧ y = .int n ∧ (n = 0 ∨ n = 1) ∧ Q (.str (if n = 1 then s else Str.empty)) H
theorem op_mulS {X : Cx} : OpR X (binaryOp .Mult) rMulS := by
  intro pins s σ H x y v u Q I rx ry h
  obtain ⟨i, n, rfl, rfl, hn, q⟩ := h
  obtain ⟨t, rfl⟩ := rx
  obtain ⟨t', rfl⟩ := ry
  rcases hn with rfl | rfl
  · exact P.mul_str_none (by decide) (by decide) ⟨.str Str.empty, H, I.tok _, ⟨_, rfl⟩, q⟩
  · exact P.mul_str (by decide) (fun _ z => by simp at z) (fun _ z => by simp at z) ⟨.str i, H, I, ⟨_, rfl⟩, q⟩
end G7

set_option linter.all false
set_option Elab.async false
set_option maxRecDepth 100000
set_option maxHeartbeats 4000000
/-! texts' methods with several arguments -/
namespace G7
open PySem PySem.Spec PyProof.Rows L2
def tyStrS : V → Hp → Prop := fun x _ => ∃ a, x = .str a
theorem ty_strS {X : Cx} : TyOk X "str" tyStrS := by
  intro pins σ H s x v I r h
  obtain ⟨a, rfl⟩ := h
  obtain ⟨t, rfl⟩ := r
  exact ⟨typeIs_str _ _ _, fun _ e => nomatch e⟩
/-- x not in a tuple of flat items -/
def rNotInT : R2 := fun x y H Q => ∃ p xs, y = .ref p ∧ tpO (H p) = some xs ∧ flatV x = true ∧ xs.all flatV = true ∧ Q (.bl (!inV x xs)) H
theorem op_notInT {X : Cx} : OpR X (compareOp .NotIn) rNotInT := opImp op_notIn_seq fun x y H Q ⟨p, xs, e, h, f1, f2, q⟩ => ⟨p, xs, e, .inr (.inl (rd_tpO h)), f1, f2, q⟩
theorem while_n {c : TT} {tb : TS} {D : Ends} {σ : L2.St} {H : Hp} (W : Nat → L2.St → Hp → Prop) (h0 : ∃ m, W m σ H) (h : ∀ m σ H, W m σ H →
    c σ H fun b H1 => if b = true then ∃ N : L2.St → Hp → Prop, (∀ σ' H', N σ' H' → ∃ m', m' < m ∧ W m' σ' H') ∧ tb { D with nx := N, ct := N, bk := D.nx } σ H1 else D.nx σ H1) : tWhile c tb D σ H := ⟨W, h0, h⟩
/-- behind a turn: less is left -/
theorem wh_n {W : Nat → L2.St → Hp → Prop} {m : Nat} {q : (L2.St → Hp → Prop) → Prop} (h : q fun σ' H' => ∃ m', m' < m ∧ W m' σ' H') : ∃ N : L2.St → Hp → Prop, (∀ σ' H', N σ' H' → ∃ m', m' < m ∧ W m' σ' H') ∧ q N := ⟨_, fun _ _ h => h, h⟩
end G7

set_option linter.all false
set_option Elab.async false
set_option maxRecDepth 100000
set_option maxHeartbeats 4000000
/-! tuples of texts that the module holds -/
namespace G7
open PySem PySem.Spec PyProof.Rows L2
structure TupQ (K : PySem.W.Frag) (a : Addr) (ss : List Str) : Prop where
  ex : ∃ (o : Obj) (its : Array Value) (n : Nat), K.lookup a = some o ∧ o.cls = .type "tuple" ∧ o.data = .seq its n ∧ its.size ≤ sizeLine ∧ Vals (ss.map V.str) its.toList
theorem TupQ.sq {K : PySem.W.Frag} {a : Addr} {ss : List Str} (D : TupQ K a ss) {H : Hp} : SqT K H a (ss.map V.str) := .inr D.ex
def sOf : Value → Option Str
  | .str s _ => some s
  | _ => none
theorem vals_of : ∀ {its : List Value} {ss : List Str}, its.map sOf = ss.map some → Vals (ss.map V.str) its
  | [], [], _ => .nil
  | v :: its, s :: ss, h => by
    rw [List.map_cons, List.map_cons] at h
    have h1 := (List.cons.inj h).1
    cases v with
    | str x t =>
      have h1 : some x = some s := h1
      cases h1
      exact .cons ⟨t, rfl⟩ (vals_of (List.cons.inj h).2)
    | _ => cases h1
  | [], _ :: _, h => by cases h
  | _ :: _, [], h => by cases h
theorem tupQ_mk {K : PySem.W.Frag} {a : Addr} {d : Option Addr} {its : Array Value} {n : Nat} {sl : Array (Option Value)} {ss : List Str} (l : K.lookup a = some ⟨.type "tuple", d, .seq its n, sl⟩) (e : its.toList.map sOf = ss.map some) (z : ss.length ≤ 1000) : TupQ K a ss :=
  ⟨⟨_, its, n, l, rfl, rfl, by
    have z2 := congrArg List.length e
    rw [List.length_map, List.length_map, Array.length_toList] at z2
    exact szl (by omega), vals_of e⟩⟩
theorem hasS_mem {l : List Str} {s : Str} : hasS l s = decide (s ∈ l) := by
  unfold hasS
  rw [Bool.eq_iff_iff, List.any_eq_true, decide_eq_true_eq]
  constructor
  · rintro ⟨z, hz, e⟩
    rw [eq_of_beq e] at hz
    exact hz
  · intro h
    exact ⟨s, h, beq_self_eq_true s⟩
section
variable {X : Cx} {a : Addr} {ss : List Str}
def rInQ (a : Addr) (ss : List Str) (neg : Bool) : R2 := fun x y H Q => ∃ s, x = .str s ∧ y = .ref a ∧ Q (.bl (if neg = true then !hasS ss s else hasS ss s)) H
theorem op_inQ (D : TupQ X.K a ss) : OpR X (compareOp .In) (rInQ a ss false) := opImp op_in_seq fun x y H Q ⟨s, e1, e2, q⟩ =>
  ⟨a, ss.map V.str, e2, .inr D.sq, by rw [e1]; rfl, flat_strs ss, by rw [e1, inV_strs]; exact q⟩
theorem op_notInQ (D : TupQ X.K a ss) : OpR X (compareOp .NotIn) (rInQ a ss true) := opImp op_notIn_seq fun x y H Q ⟨s, e1, e2, q⟩ =>
  ⟨a, ss.map V.str, e2, .inr D.sq, by rw [e1]; rfl, flat_strs ss, by rw [e1, inV_strs]; exact q⟩
end
end G7

set_option linter.all false
set_option Elab.async false
set_option maxRecDepth 100000
set_option maxHeartbeats 4000000
/-! defs handed lambdas, called under a comprehension -/
namespace Lm
open PySem PySem.Spec PyProof.Rows L2 LamX
open Classical in
section
variable {X : Cx} {k : Nat} {f : Addr} {fd : FuncData} {ps : List Str} {sp : Heap → Sp} {dvs : List V} {ds : List Value} {x : Str} {p pos : Pos} {e : Expr} {es : List Expr} {t : TA}
end
end Lm

set_option linter.all false
set_option Elab.async false
set_option maxRecDepth 100000
set_option maxHeartbeats 4000000
/-! methods that are handed lambdas: o.m(lambda: .., ..), over a greater ground -/
namespace Lm
open PySem PySem.Spec PyProof.Rows L2 LamX
/-- the ground holds what X's holds -/
def Up (X : Cx) (B : Heap) : Prop := ∀ b o, X.base.get? b = some o → B.get? b = some o
def tMethZ (X : Cx) (C : Addr) (m : Str) (sp : Heap → Sp) (dvs : List V) (E : XK) (ta : TE) (t : TA) : TE := fun σ H Q => ta σ H fun x H1 => ∃ (a dx : Addr) (fs : List (Str × V)), x = .ref a ∧ H1 a = some (.ins C dx fs) ∧ fs.lookup m = none ∧ t σ H1 fun vs H2 => ∀ B, Zb X σ H2 B → sp B (.ref a :: (vs ++ dvs)) H2 Q E
section
variable {X : Cx} {CX : CXT} {k : Nat} {f C : Addr} {fd : FuncData} {ps : List Str} {sp : Heap → Sp} {dvs : List V} {ds : List Value} {E : XK} {x m : Str} {p pos apos : Pos} {e o : Expr} {es : List Expr} {ta : TE} {t : TA}
theorem pe_methZ {pl : Sem Bool} (hfn : ∀ x c, X.env.cells.lookup x = some c → X.fn x = true) (he : PE X o ta) (c : Cls X.K C) (hm : Meth X.K C m f) (F : ∀ B, Up X B → FnOk X.prog X.w X.K X.mg B CX k f fd ps (sp B)) (hr : Room k X.A) (hb : Binds X.K fd ps ds) (hd : Vals dvs ds) (hx : Passes CX X E) (ha : PA X (e :: es) t)
    (hst : starEach (e :: es) X.env = (false, eval e X.env) :: starEach es X.env := by rfl) (hpl : (backTo pos (starEach es X.env)).any (·.1) = false := by rfl)
    (ht : eval (.Call (.Attribute o m apos) (e :: es) [] pos) X.env = (do
      let ov ← eval o X.env
      standAt apos.atName
      let (f, first) ← holding [ov] (getMethod ov m pl)
      callWith pos f first (backTo pos (starEach (e :: es) X.env)) (backToKw pos (keywordEach [] X.env))) := by rfl) :
    PE X (.Call (.Attribute o m apos) (e :: es) [] pos) (tMethZ X C m sp dvs E ta t) := by
  refine ⟨fun pins s σ H Q I h => ?_⟩
  refine PySem.W.methodCall_KW (pl := pl) (thn (he.run pins s σ H _ I h) fun u s1 ⟨x, H1, I1, rx, a, dx, fs, ex, ea, l, q⟩ => ?_) ht
  subst ex
  obtain rfl : u = Value.ref a := rx
  refine getmeth_ok I1 ea c hm l ?_
  refine PySem.W.callWith_K (first := [.ref a]) (h₀ := X.base) I.ok.mod.kin hm.kp (thn (ha.run pos pins s1 σ H1 _ I1 q) fun us s2 ⟨vs, H2, I2, r, q2⟩ => ⟨I2.kIn, ?_⟩) hst hpl
  obtain ⟨B, xb⟩ := extB_ex I2 hfn
  have h := q2 B ⟨pins, s2, I2, xb⟩
  have r2 : Vals (V.ref a :: (vs ++ dvs)) (Value.ref a :: (us ++ ds)) := .cons rfl (r.append hd)
  have FB := F B xb.base
  have hl : (Value.ref a :: us ++ ds).length = ps.length := by
    have e := r2.length
    rw [FB.len _ _ _ _ h] at e
    exact e.symm
  refine wpAny_call (codeAny_mono (FB.run X.A X.stack s2 H2 ⟨.ref a :: us, []⟩ (Value.ref a :: (us ++ ds)) (V.ref a :: (vs ++ dvs)) Q E hr (xb.env0 I2) (hb s2 (.ref a :: us) I2.kIn hl) r2 h) fun r s' hq => ?_)
  cases r with
  | error e => exact hx pins σ H2 s2 e s' I2 hq
  | ok fl =>
    cases fl with
    | ret u => exact I2.after hq
    | next => exact False.elim hq
    | brk => exact False.elim hq
    | cont => exact False.elim hq
end
end Lm

set_option linter.all false
set_option Elab.async false
set_option maxRecDepth 100000
set_option maxHeartbeats 4000000
/-! texts of statements, read: the plain law. Words of a text (toks), what is read of them (Rd.stm) -/
namespace Rd
open PySem PySem.Spec PyProof.Rows L2 G7
/-! ### words -/
def letters : List Nat := (Str.ofString "abcdefghijklmnopqrstuvwxyz").cps.toList
def figures : List Nat := (Str.ofString "0123456789").cps.toList
def signs : List Str := ["<=", ">=", "(", ")", ",", "+", "-", "*", "=", "<", ">", "."]
def own : List Str := ["table", "index", "put", "set", "strike", "pick", "count", "sum", "least", "most", "from", "where", "by", "first", "and", "or", "not", "begin", "done", "undo"]
/-- the signs of a text -/
abbrev sg (s : Str) : List Nat := s.cps.toList
abbrev mk (l : List Nat) : Str := ⟨l.toArray⟩
def isName (w : Str) : Bool := decide (1 ≤ w.length) && decide (w.length ≤ 8) && (sg w).all (fun c => decide (c ∈ letters)) && !decide (w ∈ own)
def isNumber (w : Str) : Bool := decide (1 ≤ w.length) && decide (w.length ≤ 6) && (sg w).all (fun c => decide (c ∈ figures)) && (decide (w = "0") || !decide ((sg w).head? = some 48))
/-- how far a run goes -/
def runOf (cs : List Nat) (l : List Nat) : Nat := (l.takeWhile fun c => decide (c ∈ cs)).length
/-- how long the word is that stands first -/
def firstLen (l : List Nat) : Nat := match l with
  | [] => 1
  | c :: r => if c ∈ letters then runOf letters (c :: r) else if c ∈ figures then runOf figures (c :: r) else match signs.find? (fun s => (sg s).isPrefixOf (c :: r)) with
    | some s => s.length
    | none => 1
def toksN : Nat → List Nat → List Str
  | 0, _ => []
  | _ + 1, [] => []
  | n + 1, c :: r => if c = 32 then toksN n r else mk ((c :: r).take (firstLen (c :: r))) :: toksN n ((c :: r).drop (firstLen (c :: r)))
def toks (s : Str) : List Str := toksN s.length (sg s)
/-! ### reading -/
inductive R (α : Type) where
  | ok (a : α) (at_ : Nat)
  | err (k : Nat)
  | out
def R.bind {α β : Type} (x : R α) (f : α → Nat → R β) : R β := match x with
  | .ok a k => f a k
  | .err k => .err k
  | .out => .out
def R.map {α β : Type} (f : α → β) (x : R α) : R β := x.bind fun a k => .ok (f a) k
section
variable (ws : List Str)
def here (k : Nat) : Str := ws.getD k ""
def nextName (k : Nat) : R Str := if isName (here ws k) then .ok (here ws k) (k + 1) else .err k
def numOf (w : Str) : Int := (NumText.digitsVal (sg w) : Nat)
/-- how tight a word binds (TIGHT) -/
def tight : List (Str × Nat) := [("or", 0), ("and", 1), ("not", 2), ("=", 3), ("<", 3), (">", 3), ("<=", 3), (">=", 3), ("+", 4), ("-", 4), ("*", 5)]
def nextNumber (k : Nat) : R Int :=
  if here ws k = "-" then (if isNumber (here ws (k + 1)) = true ∧ here ws (k + 1) ≠ "0" then .ok (0 - numOf (here ws (k + 1))) (k + 2) else .err (k + 1))
  else if isNumber (here ws k) then .ok (numOf (here ws k)) (k + 1) else .err k
def need (w : Str) (k : Nat) : R Unit := if here ws k = w then .ok () (k + 1) else .err k
/-- what is read one deeper: terms; conditions or terms (true: a condition); the same behind a not -/
structure Lv where
  term : Nat → Nat → R Nm.Tr
  or_ : Nat → Nat → R (Bool × Nm.Tr)
  not_ : Nat → Nat → R (Bool × Nm.Tr)
def Lv.out : Lv := ⟨fun _ _ => .out, fun _ _ => .out, fun _ _ => .out⟩
section
variable (L : Lv)
def factor (only : Bool) (k deep : Nat) : R (Bool × Nm.Tr) :=
  if here ws k = "(" then
    if deep = 20 then .err k else (if only = true then (L.term (k + 1) (deep + 1)).map fun t => (false, t) else L.or_ (k + 1) (deep + 1)).bind fun r k' => (need ws ")" k').bind fun _ k2 => .ok r k2
  else if here ws k = "-" ∨ isNumber (here ws k) = true then (nextNumber ws k).map fun n => (false, .num n)
  else (nextName ws k).bind fun name k1 => if here ws k1 = "." then (nextName ws (k1 + 1)).map fun f => (false, .fld name f) else .ok (false, .fld "" name) k1
def prodLoop (deep : Nat) : Nat → Nm.Tr → Nat → R (Bool × Nm.Tr)
  | 0, _, _ => .out
  | n + 1, t, k => if here ws k = "*" then (factor ws L true (k + 1) deep).bind fun o k2 => prodLoop deep n (.node "*" [t, o.2]) k2 else .ok (false, t) k
def product (only : Bool) (k deep : Nat) : R (Bool × Nm.Tr) :=
  (factor ws L only k deep).bind fun r k1 => if r.1 = true then .ok r k1 else prodLoop ws L deep (ws.length + 1) r.2 k1
def sumLoop (deep : Nat) : Nat → Nm.Tr → Nat → R (Bool × Nm.Tr)
  | 0, _, _ => .out
  | n + 1, t, k => if here ws k = "+" ∨ here ws k = "-" then (product ws L true (k + 1) deep).bind fun o k2 => sumLoop deep n (.node (here ws k) [t, o.2]) k2 else .ok (false, t) k
def sum (only : Bool) (k deep : Nat) : R (Bool × Nm.Tr) :=
  (product ws L only k deep).bind fun r k1 => if r.1 = true then .ok r k1 else sumLoop ws L deep (ws.length + 1) r.2 k1
def term (k deep : Nat) : R Nm.Tr := (sum ws L true k deep).map (·.2)
def comparing : List Str := ["=", "<", ">", "<=", ">="]
def compare (k deep : Nat) : R (Bool × Nm.Tr) :=
  (sum ws L false k deep).bind fun r k1 => if r.1 = true ∨ here ws k1 ∉ comparing then .ok r k1 else (term ws L (k1 + 1) deep).map fun o => (true, .node (here ws k1) [r.2, o])
def not_ (k deep : Nat) : R (Bool × Nm.Tr) :=
  if here ws k ≠ "not" then compare ws L k deep else if deep = 20 then .err k else (L.not_ (k + 1) (deep + 1)).bind fun r k1 => if r.1 = true then .ok (true, .node "not" [r.2]) k1 else .err k1
def joinLoop (word : Str) (part : Nat → R (Bool × Nm.Tr)) : Nat → Nm.Tr → Nat → R (Bool × Nm.Tr)
  | 0, _, _ => .out
  | n + 1, t, k => if here ws k = word then (part (k + 1)).bind fun r k2 => if r.1 = true then joinLoop word part n (.node word [t, r.2]) k2 else .err k2 else .ok (true, t) k
def joined (word : Str) (part : Nat → R (Bool × Nm.Tr)) (k : Nat) : R (Bool × Nm.Tr) :=
  (part k).bind fun r k1 => if r.1 = true then joinLoop ws word part (ws.length + 1) r.2 k1 else .ok r k1
def and_ (k deep : Nat) : R (Bool × Nm.Tr) := joined ws "and" (fun k => not_ ws L k deep) k
def or_ (k deep : Nat) : R (Bool × Nm.Tr) := joined ws "or" (fun k => and_ ws L k deep) k
def cond (k deep : Nat) : R Nm.Tr := (or_ ws L k deep).bind fun r k1 => if r.1 = true then .ok r.2 k1 else .err k1
end
def lv : Nat → Lv
  | 0 => Lv.out
  | n + 1 => ⟨term ws (lv n), or_ ws (lv n), not_ ws (lv n)⟩
/-! statements -/
section
variable (L : Lv)
/-- several, with , between: at most n more -/
def someLoop {α : Type} (one : Nat → R α) : Nat → List α → Nat → R (List α)
  | 0, l, k => .ok l k
  | n + 1, l, k => if here ws k = "," then (one (k + 1)).bind fun x k1 => someLoop one n (l ++ [x]) k1 else .ok l k
def some_ {α : Type} (one : Nat → R α) (most : Nat) (k : Nat) : R (List α) := (one k).bind fun x k1 => someLoop ws one (most - 1) [x] k1
def oneSet (k : Nat) : R (Str × Nm.Tr) := (nextName ws k).bind fun f k1 => (need ws "=" k1).bind fun _ k2 => (term ws L k2 0).map fun t => (f, t)
def where_ (k : Nat) : R (Option Nm.Tr) := if here ws k = "where" then (cond ws L (k + 1) 0).map some else .ok none k
def namesLoop : Nat → List Str → Nat → R (List Str)
  | 0, l, k => .ok l k
  | n + 1, l, k => if isName (here ws k) then namesLoop n (l ++ [here ws k]) (k + 1) else .ok l k
def numsLoop : Nat → List Int → Nat → R (List Int)
  | 0, l, k => .ok l k
  | n + 1, l, k => if here ws k ≠ "" then (nextNumber ws k).bind fun x k1 => numsLoop n (l ++ [x]) k1 else .ok l k
def tabsLoop : Nat → List Str → Nat → R (List Str)
  | 0, l, k => .ok l k
  | n + 1, l, k => if here ws k = "and" then (nextName ws (k + 1)).bind fun x k1 => tabsLoop n (l ++ [x]) k1 else .ok l k
/-- a question's parts, the last one first -/
def askA (how : Str) (tm : List Nm.Tr) (ts : List Str) (c : Option Nm.Tr) (bys : List Nm.Tr) (k6 : Nat) : R Nm.Sm :=
  (if how = "pick" ∧ here ws k6 = "first" then (if isNumber (here ws (k6 + 1)) = true then (nextNumber ws (k6 + 1)).map some else .err (k6 + 1)) else .ok none k6).bind fun first k7 => .ok (.ask how tm ts c bys first) k7
def askB (how : Str) (tm : List Nm.Tr) (ts : List Str) (c : Option Nm.Tr) (k5 : Nat) : R Nm.Sm :=
  (if how = "pick" ∧ here ws k5 = "by" then some_ ws (fun k => term ws L k 0) 3 (k5 + 1) else .ok [] k5).bind fun bys k6 => askA ws how tm ts c bys k6
def askC (how : Str) (tm : List Nm.Tr) (ts : List Str) (k4 : Nat) : R Nm.Sm := (where_ ws L k4).bind fun c k5 => askB ws L how tm ts c k5
def askD (how : Str) (tm : List Nm.Tr) (k1 : Nat) : R Nm.Sm :=
  (need ws "from" k1).bind fun _ k2 => (nextName ws k2).bind fun t k3 => (tabsLoop ws 2 [t] k3).bind fun ts k4 => askC ws L how tm ts k4
def askT (how : Str) (k : Nat) : R (List Nm.Tr) := if how = "pick" then some_ ws (fun k => term ws L k 0) 6 k else if how = "count" then .ok [] k else (term ws L k 0).map fun t => [t]
def question (k : Nat) : R Nm.Sm := (askT ws L (here ws k) (k + 1)).bind fun tm k1 => askD ws L (here ws k) tm k1
def stm (k : Nat) : R Nm.Sm :=
  let w := here ws k
  if w ∈ (["begin", "done", "undo"] : List Str) then .ok (.alone w) (k + 1)
  else if w ∈ (["pick", "count", "sum", "least", "most"] : List Str) then question ws L k
  else if w ∉ (["table", "index", "put", "set", "strike"] : List Str) then .err k
  else (nextName ws (k + 1)).bind fun t k1 =>
    if w = "table" then (nextName ws k1).bind fun f k2 => (namesLoop ws 3 [f] k2).map fun fs => .table t fs
    else if w = "index" then (nextName ws k1).map fun f => .index t f
    else if w = "put" then (nextNumber ws k1).bind fun n k2 => (numsLoop ws 3 [n] k2).map fun ns => .put t ns
    else if w = "set" then (some_ ws (oneSet ws L) 3 k1).bind fun ss k2 => (where_ ws L k2).map fun c => .set t ss c
    else (where_ ws L k1).map fun c => .strike t c
def whole : R Nm.Sm := (stm ws L 0).bind fun s k => if k < ws.length then .err k else .ok s k
end
end
/-- what a text tells, read n deep -/
def read (n : Nat) (s : Str) : R Nm.Sm := whole (toks s) (lv (toks s) n)
end Rd

set_option linter.all false
set_option Elab.async false
set_option maxRecDepth 100000
set_option maxHeartbeats 4000000
/-! e.replace(..) of written texts within displays and indexes; str of an int or a text -/
namespace G7
open PySem PySem.Spec PyProof.Rows L2
section
variable {X : Cx} {a b : Expr} {ta tb : TE} {pos : Pos}
theorem pet_ix {r : R2} (hr : IxR X r) (ha : PET X a ta) (hb : PE X b tb) (hs : PlainIx b) : PET X (.Subscript a b pos) (tOp r ta tb) := by
  intro pins s σ H Q h0 I h
  exact Subscript_ (thn (ha pins s σ H _ h0 I h) fun v s1 ⟨x, H1, I1, rx, q1⟩ => thn (hb.run pins s1 σ H1 _ I1 q1) fun u s2 ⟨y, H2, I2, ry, q2⟩ => hr a b pins s2 σ H2 x y v u Q I2 rx ry q2 (hs _ _))
def rStrA : List V → Hp → VK → Prop := fun xs H Q => (∃ i, xs = [.int i] ∧ i.natAbs.log2 < 1920 ∧ Q (.str (toString i)) H) ∨ (∃ a, xs = [.str a] ∧ Q (.str a) H)
theorem call_str_any : CallR X (.type "str") rStrA := by
  intro pins s σ H xs us Q I r h
  rcases h with h | h
  · exact call_str_int pins s σ H xs us Q I r h
  · exact SkE.call_str_str pins s σ H xs us Q I r h
end
end G7

set_option linter.all false
set_option Elab.async false
set_option maxRecDepth 100000
set_option maxHeartbeats 4000000
/-! words of texts: what the program's steps tell of them -/
namespace Rd
open PySem PySem.Spec PyProof.Rows L2 G7
theorem starts_at {x y : Str} {k : Nat} (hk : k ≤ x.length) : Txt.startswith3 x y (k : Int) = (sg y).isPrefixOf ((sg x).drop k) := by
  unfold Txt.startswith3
  have e : fromIndex x.length (k : Int) = k := by unfold fromIndex; rw [if_neg (by omega)]; omega
  have hl : (sg x).length = x.length := (TL.len_tl x).symm
  have hy : (sg y).length = y.length := (TL.len_tl y).symm
  rw [e, Bool.eq_iff_iff, List.isPrefixOf_iff_prefix, List.prefix_iff_eq_take, Bool.and_eq_true, decide_eq_true_eq]
  have es : (PySem.Builtin.Str.subAt x y k = true) ↔ ((sg x).drop k).take y.length = sg y := by
    unfold PySem.Builtin.Str.subAt
    rw [beq_iff_eq, ← Array.toList_inj, Array.toList_extract]
    show List.extract (sg x) k (k + y.length) = sg y ↔ _
    rw [List.extract_eq_take_drop, show k + y.length - k = y.length by omega]
  rw [es, hy]
  constructor
  · rintro ⟨_, h⟩
    exact h.symm
  · intro h
    refine ⟨?_, h.symm⟩
    have z := congrArg List.length h
    rw [List.length_take, List.length_drop, hy, hl] at z
    omega
theorem cut_at {x : Str} {a b : Nat} (h1 : a ≤ b) (h2 : b ≤ x.length) : cutS x (some (a : Int)) (some (b : Int)) = mk (((sg x).drop a).take (b - a)) := by
  unfold cutS
  have e1 : HT.sIx x.length 0 (some (a : Int)) = a := by rw [HT.sIx_nat]; omega
  have e2 : HT.sIx x.length x.length (some (b : Int)) = b := by rw [HT.sIx_nat]; omega
  rw [e1, e2]
theorem find_at {α : Type} {p : α → Bool} : ∀ {l : List α} {i : Nat} {s : α}, l[i]? = some s → p s = true → (∀ j y, j < i → l[j]? = some y → p y = false) → l.find? p = some s
  | [], _, _, h, _, _ => by cases h
  | a :: l, 0, s, h, hp, _ => by
    cases h
    rw [List.find?_cons, hp]
  | a :: l, i + 1, s, h, hp, hn => by
    have := hn 0 a (by omega) rfl
    rw [List.find?_cons, this]
    exact find_at (l := l) h hp fun j y hj e => hn (j + 1) y (by omega) e
theorem find_no {α : Type} {p : α → Bool} {l : List α} (h : ∀ (j : Nat) (y : α), l[j]? = some y → p y = false) : l.find? p = none := by
  rw [List.find?_eq_none]
  intro y hy z
  obtain ⟨j, hj, e⟩ := List.mem_iff_getElem.mp hy
  rw [h j y (by rw [List.getElem?_eq_getElem hj, e])] at z
  cases z
theorem first_pos {l : List Nat} : 1 ≤ firstLen l := by
  unfold firstLen
  cases l with
  | nil => exact Nat.le_refl _
  | cons c r =>
    dsimp only
    split
    · rename_i h
      unfold runOf
      rw [List.takeWhile_cons, if_pos (decide_eq_true h)]
      simp
    · split
      · rename_i h
        unfold runOf
        rw [List.takeWhile_cons, if_pos (decide_eq_true h)]
        simp
      · split
        · rename_i s e
          have := List.mem_of_find?_eq_some e
          simp only [signs, List.mem_cons, List.not_mem_nil, or_false] at this
          rcases this with h | h | h | h | h | h | h | h | h | h | h | h <;> rw [h] <;> decide +kernel
        · exact Nat.le_refl _
theorem run_le {cs l : List Nat} : runOf cs l ≤ l.length := by
  unfold runOf
  exact (List.takeWhile_sublist _).length_le
theorem first_le {l : List Nat} (h : l ≠ []) : firstLen l ≤ l.length := by
  unfold firstLen
  cases l with
  | nil => exact absurd rfl h
  | cons c r =>
    dsimp only
    split
    · exact run_le
    · split
      · exact run_le
      · split
        · rename_i s e
          have := List.find?_some e
          rw [List.isPrefixOf_iff_prefix] at this
          have := this.length_le
          rwa [show (sg s).length = s.length from (TL.len_tl s).symm] at this
        · simp
theorem toksN_more : ∀ (n m : Nat) (l : List Nat), l.length ≤ n → l.length ≤ m → toksN n l = toksN m l
  | 0, 0, _, _, _ => rfl
  | 0, m + 1, l, h, _ => by
    cases l with
    | nil => rfl
    | cons c r => simp at h
  | n + 1, 0, l, _, h => by
    cases l with
    | nil => rfl
    | cons c r => simp at h
  | n + 1, m + 1, [], _, _ => rfl
  | n + 1, m + 1, c :: r, h1, h2 => by
    rw [List.length_cons] at h1 h2
    unfold toksN
    have hf := first_pos (l := c :: r)
    rw [toksN_more n m r (by omega) (by omega), toksN_more n m ((c :: r).drop (firstLen (c :: r))) (by rw [List.length_drop, List.length_cons]; omega) (by rw [List.length_drop, List.length_cons]; omega)]
theorem fig_mem {c : Nat} : c ∈ figures ↔ 48 ≤ c ∧ c ≤ 57 := by
  have e : figures = [48, 49, 50, 51, 52, 53, 54, 55, 56, 57] := by decide +kernel
  rw [e]
  simp only [List.mem_cons, List.not_mem_nil, or_false]
  omega
theorem num_text {w : Str} (h : isNumber w = true) : PySem.intText? w = some (numOf w) := by
  unfold isNumber at h
  simp only [Bool.and_eq_true, decide_eq_true_eq] at h
  obtain ⟨⟨⟨h1, h2⟩, h3⟩, _⟩ := h
  refine PySem.intText_digits (fun c hc => fig_mem.mp (of_decide_eq_true (List.all_eq_true.mp h3 c hc))) (fun e => ?_) (by omega)
  have z : (TL.tl w).length = 0 := congrArg List.length e
  rw [TL.len_tl] at h1
  omega
theorem num_len {w : Str} (h : isNumber w = true) : 1 ≤ w.length ∧ w.length ≤ 6 := by
  unfold isNumber at h
  simp only [Bool.and_eq_true, decide_eq_true_eq] at h
  exact ⟨h.1.1.1, h.1.1.2⟩
theorem here_lt {ws : List Str} {n : Nat} (h : here ws n ≠ "") : n < ws.length := by
  rcases Nat.lt_or_ge n ws.length with z | z
  · exact z
  · exact absurd (by unfold here; rw [List.getD_eq_getElem?_getD, List.getElem?_eq_none z]; rfl) h
/-- the words from a place on -/
def toksL (l : List Nat) : List Str := toksN l.length l
theorem toks_L (x : Str) : toks x = toksL (sg x) := by
  unfold toks toksL
  rw [show (sg x).length = x.length from (TL.len_tl x).symm]
theorem toksL_nil : toksL [] = [] := rfl
theorem toksL_blank (r : List Nat) : toksL (32 :: r) = toksL r := by
  unfold toksL
  rw [List.length_cons]
  show (if (32 : Nat) = 32 then toksN r.length r else _) = _
  rw [if_pos rfl]
theorem toksL_word {c : Nat} {r : List Nat} (h : c ≠ 32) : toksL (c :: r) = mk ((c :: r).take (firstLen (c :: r))) :: toksL ((c :: r).drop (firstLen (c :: r))) := by
  unfold toksL
  rw [List.length_cons]
  show (if c = 32 then _ else mk ((c :: r).take (firstLen (c :: r))) :: toksN r.length ((c :: r).drop (firstLen (c :: r)))) = _
  have hf := first_pos (l := c :: r)
  rw [if_neg h, toksN_more r.length ((c :: r).drop (firstLen (c :: r))).length _ (by rw [List.length_drop, List.length_cons]; omega) (Nat.le_refl _)]
end Rd

set_option linter.all false
set_option Elab.async false
set_option maxRecDepth 100000
set_option maxHeartbeats 4000000
/-! trees looked up one by one -/
namespace Nm
open PySem PySem.Spec PyProof.Rows L2 G7
theorem nameL_app {S : Shp} {ts : List Str} : ∀ (a b : List Tr), nameL S ts (a ++ b) = match nameL S ts a with
    | .error w => .error w
    | .ok a' => match nameL S ts b with
      | .error w => .error w
      | .ok b' => .ok (a' ++ b')
  | [], b => by
    rw [List.nil_append]
    unfold nameL
    cases b with
    | nil => rfl
    | cons k ks =>
      dsimp only
      cases nameT S ts k with
      | error w => rfl
      | ok k' =>
        dsimp only
        cases nameL S ts ks <;> rfl
  | k :: a, b => by
    rw [List.cons_append]
    have ih := nameL_app (S := S) (ts := ts) a b
    rw [nameL, nameL, ih]
    cases nameT S ts k with
    | error w => rfl
    | ok k' =>
      dsimp only
      cases nameL S ts a with
      | error w => rfl
      | ok a' =>
        dsimp only
        cases nameL S ts b <;> rfl
theorem nameL_one {S : Shp} {ts : List Str} (k : Tr) : nameL S ts [k] = match nameT S ts k with
    | .error w => .error w
    | .ok k' => .ok [k'] := by
  rw [nameL]
  cases nameT S ts k <;> (try rw [nameL]) <;> rfl
/-- the first ones, looked up, as they lie -/
def NlAt (H : Hp) (S : Shp) (ts : List Str) (ys : List V) (l : List Tr) : Prop := ∃ l', nameL S ts l = .ok l' ∧ RXs H ys (l'.map Tr.dx) ∧ l'.length = l.length
theorem NlAt.nil {H : Hp} {S : Shp} {ts : List Str} : NlAt H S ts [] [] := ⟨[], by rw [nameL], rxs_nil, rfl⟩
theorem NlAt.std {H H' : Hp} {S : Shp} {ts : List Str} {ys : List V} {l : List Tr} (h : NlAt H S ts ys l) (k : Std H H') : NlAt H' S ts ys l := h.elim fun l' q => ⟨l', q.1, q.2.1.std k (noLL_all.mpr fun d hd => by
  obtain ⟨t, _, rfl⟩ := List.mem_map.mp hd
  exact trNoL t), q.2.2⟩
theorem NlAt.snoc {H : Hp} {S : Shp} {ts : List Str} {ys : List V} {l : List Tr} {k k' : Tr} {v : V} (h : NlAt H S ts ys l) (e : nameT S ts k = .ok k') (r : RX H v k'.dx) : NlAt H S ts (ys ++ [v]) (l ++ [k]) := h.elim fun l' q =>
  ⟨l' ++ [k'], by rw [nameL_app, q.1, nameL_one, e], by rw [List.map_append]; exact rxs_snoc q.2.1 r, by rw [List.length_append, List.length_append, q.2.2]; rfl⟩
theorem NlAt.err {H : Hp} {S : Shp} {ts : List Str} {ys : List V} {l r : List Tr} {k : Tr} {w : Str} (h : NlAt H S ts ys l) (e : nameT S ts k = .error w) : nameL S ts (l ++ k :: r) = .error w := h.elim fun l' q => by
  rw [nameL_app, q.1]
  dsimp only
  rw [nameL, e]
theorem NlAt.len {H : Hp} {S : Shp} {ts : List Str} {ys : List V} {l : List Tr} (h : NlAt H S ts ys l) : ys.length = l.length := h.elim fun l' q => by
  have := RXs.len q.2.1
  rw [List.length_map, q.2.2] at this
  exact this
theorem rx_tpO {H : Hp} {v : V} {ds : List Dx} (h : RX H v (.tup ds)) : ∃ a us, v = .ref a ∧ tpO (H a) = some us ∧ RXs H us ds := by
  simp only [RX] at h
  obtain ⟨a, us, rfl, z, r⟩ := h
  refine ⟨a, us, rfl, ?_, r⟩
  rcases z with z | ⟨o, z⟩ <;> rw [z] <;> rfl
end Nm
namespace Nm
open PySem PySem.Spec PyProof.Rows L2 G7
theorem rxs_un {H : Hp} {us : List V} {d : Dx} {ds : List Dx} (h : RXs H us (d :: ds)) : ∃ u us', us = u :: us' ∧ RX H u d ∧ RXs H us' ds := by
  cases us with
  | nil => simp only [RXs] at h
  | cons u us' =>
    simp only [RXs] at h
    exact ⟨u, us', rfl, h⟩
theorem rxs_no {H : Hp} {us : List V} (h : RXs H us []) : us = [] := by
  cases us with
  | nil => rfl
  | cons u us' => simp only [RXs] at h
theorem rx_s {H : Hp} {u : V} {s : Str} (h : RX H u (.str s)) : u = .str s := by simpa only [RX] using h
theorem rx_i {H : Hp} {u : V} {s : Int} (h : RX H u (.int s)) : u = .int s := by simpa only [RX] using h
end Nm
namespace Nm
open PySem PySem.Spec PyProof.Rows L2 G7
end Nm
namespace Nm
open PySem PySem.Spec PyProof.Rows L2 G7
end Nm
namespace Nm
open PySem PySem.Spec PyProof.Rows L2 G7
end Nm
namespace Nm
open PySem PySem.Spec PyProof.Rows L2 G7
theorem nameS_app {S : Shp} {t : Str} : ∀ (a b : List (Str × Tr)) (early : List Str), nameS S t early (a ++ b) = match nameS S t early a with
    | .error w => .error w
    | .ok a' => match nameS S t (early ++ a.map (·.1)) b with
      | .error w => .error w
      | .ok b' => .ok (a' ++ b')
  | [], b, early => by
    rw [List.nil_append, List.map_nil, List.append_nil, nameS]
    cases nameS S t early b <;> rfl
  | (f, tm) :: a, b, early => by
    have ih := nameS_app (S := S) (t := t) a b (early ++ [f])
    rw [List.cons_append, nameS, nameS]
    by_cases q : f ∉ (flds S t).tail ∨ f ∈ early
    · rw [if_pos q, if_pos q]
    · rw [if_neg q, if_neg q]
      cases nameT S [t] tm with
      | error w => rfl
      | ok tm' =>
        dsimp only
        rw [ih, List.map_cons, List.append_assoc, List.singleton_append]
        cases nameS S t (early ++ [f]) a with
        | error w => rfl
        | ok a' =>
          dsimp only
          cases nameS S t (early ++ f :: a.map (·.1)) b <;> rfl
/-- the first sets, looked up, as they lie -/
def NsAt (H : Hp) (S : Shp) (t : Str) (ys : List V) (l : List (Str × Tr)) : Prop := ∃ l', nameS S t [] l = .ok l' ∧ RXs H ys (l'.map dxP) ∧ l'.map (·.1) = l.map (·.1)
theorem NsAt.nil {H : Hp} {S : Shp} {t : Str} : NsAt H S t [] [] := ⟨[], by rw [nameS], rxs_nil, rfl⟩
theorem NsAt.std {H H' : Hp} {S : Shp} {t : Str} {ys : List V} {l : List (Str × Tr)} (h : NsAt H S t ys l) (k : Std H H') : NsAt H' S t ys l := h.elim fun l' q => ⟨l', q.1, q.2.1.std k (noLL_all.mpr fun d hd => by
  obtain ⟨s, _, rfl⟩ := List.mem_map.mp hd
  exact ⟨trivial, trNoL s.2, trivial⟩), q.2.2⟩
theorem NsAt.len {H : Hp} {S : Shp} {t : Str} {ys : List V} {l : List (Str × Tr)} (h : NsAt H S t ys l) : ys.length = l.length := h.elim fun l' q => by
  have e1 := RXs.len q.2.1
  have e2 := congrArg List.length q.2.2
  rw [List.length_map] at e1
  rw [List.length_map, List.length_map] at e2
  omega
theorem NsAt.bad {H : Hp} {S : Shp} {t : Str} {ys : List V} {l r : List (Str × Tr)} {f : Str} {tm : Tr} (h : NsAt H S t ys l) (q : f ∉ (flds S t).tail ∨ f ∈ l.map (·.1)) : nameS S t [] (l ++ (f, tm) :: r) = .error f := h.elim fun l' k => by
  rw [nameS_app, k.1]
  dsimp only
  rw [List.nil_append, nameS, if_pos q]
theorem NsAt.err {H : Hp} {S : Shp} {t : Str} {ys : List V} {l r : List (Str × Tr)} {f w : Str} {tm : Tr} (h : NsAt H S t ys l) (q : ¬ (f ∉ (flds S t).tail ∨ f ∈ l.map (·.1))) (e : nameT S [t] tm = .error w) : nameS S t [] (l ++ (f, tm) :: r) = .error w := h.elim fun l' k => by
  rw [nameS_app, k.1]
  dsimp only
  rw [List.nil_append, nameS, if_neg q, e]
theorem NsAt.snoc {H : Hp} {S : Shp} {t : Str} {ys : List V} {l : List (Str × Tr)} {f : Str} {tm tm' : Tr} {p : Addr} {v : V} (h : NsAt H S t ys l) (q : ¬ (f ∉ (flds S t).tail ∨ f ∈ l.map (·.1))) (e : nameT S [t] tm = .ok tm') (hp : H p = some (.tup [.str f, v])) (r : RX H v tm'.dx) :
    NsAt H S t (ys ++ [.ref p]) (l ++ [(f, tm)]) := h.elim fun l' k => ⟨l' ++ [(f, tm')], by
  rw [nameS_app, k.1]
  dsimp only
  rw [List.nil_append, nameS, if_neg q, e]
  dsimp only
  rw [nameS], by rw [List.map_append]; exact rxs_snoc k.2.1 (rx_tup hp (rxs_cons (rx_str _) (rxs_cons r rxs_nil))), by rw [List.map_append, List.map_append, k.2.2]; rfl⟩
end Nm

set_option linter.all false
set_option Elab.async false
set_option maxRecDepth 100000
set_option maxHeartbeats 4000000
/-! bounds of statements bent, and of such whose fields lack their tables -/
namespace Nm
open PySem PySem.Spec PyProof.Rows L2 G7
/-- a statement within bounds, its fields perhaps without their tables -/
structure SmW (st : Sm) : Prop where
  wk : st.wk
  nz : st.nz
  deep : st.dx.deep ≤ 8
  fits : st.dx.fits 8
theorem SmOk.w {st : Sm} (h : SmOk st) : SmW st := ⟨h.wk, h.nz, h.deep, h.fits⟩
/-! fields without their tables: the same bounds -/
mutual
theorem br_ok {S : Shp} {ts : List Str} {m : Nat} : ∀ (t b : Tr), Br S ts t b → (t.wk → b.wk) ∧ (t.nz → b.nz) ∧ b.dx.deep = t.dx.deep ∧ (t.dx.fits m → b.dx.fits m)
  | .num n, b, h => by
    unfold Br at h
    subst h
    exact ⟨id, id, rfl, id⟩
  | .fld t f, b, h => by
    unfold Br at h
    rcases h with rfl | ⟨rfl, _⟩
    · exact ⟨id, id, rfl, id⟩
    · refine ⟨id, id, ?_, ?_⟩
      · unfold Tr.dx
        simp [Dx.deep, Dx.deepL]
      · unfold Tr.dx
        simp [Dx.fits, Dx.fitsL]
  | .node w ks, b, h => by
    unfold Br at h
    obtain ⟨ks', rfl, hl⟩ := h
    obtain ⟨h1, h2, h3, h4, h5⟩ := brL_ok (m := m) ks ks' hl
    refine ⟨fun z => ⟨z.1, h1 z.2⟩, h2, ?_, ?_⟩
    · unfold Tr.dx Dx.deep Dx.deepL
      rw [h3]
    · unfold Tr.dx Dx.fits Dx.fitsL
      rintro ⟨z1, z2, z3⟩
      exact ⟨by rw [List.length_cons, h5] ; exact z1, z2, h4 z3⟩
theorem brL_ok {S : Shp} {ts : List Str} {m : Nat} : ∀ (ks b : List Tr), BrL S ts ks b → (Tr.wkL ks → Tr.wkL b) ∧ (Tr.nzL ks → Tr.nzL b) ∧ Dx.deepL (Tr.dxL b) = Dx.deepL (Tr.dxL ks) ∧ (Dx.fitsL m (Tr.dxL ks) → Dx.fitsL m (Tr.dxL b)) ∧ (Tr.dxL b).length = (Tr.dxL ks).length
  | [], b, h => by
    unfold BrL at h
    subst h
    exact ⟨id, id, rfl, id, rfl⟩
  | k :: ks, b, h => by
    unfold BrL at h
    obtain ⟨k', ks', rfl, h1, h2⟩ := h
    obtain ⟨a1, a2, a3, a4⟩ := br_ok (m := m) k k' h1
    obtain ⟨b1, b2, b3, b4, b5⟩ := brL_ok (m := m) ks ks' h2
    refine ⟨fun z => ⟨a1 z.1, b1 z.2⟩, fun z => ⟨a2 z.1, b2 z.2⟩, ?_, ?_, ?_⟩
    · unfold Tr.dxL Dx.deepL
      rw [a3, b3]
    · unfold Tr.dxL Dx.fitsL
      rintro ⟨z1, z2⟩
      exact ⟨a4 z1, b4 z2⟩
    · unfold Tr.dxL
      rw [List.length_cons, List.length_cons, b5]
end
mutual
theorem fits_mono {m n : Nat} (h : m ≤ n) : ∀ d : Dx, d.fits m → d.fits n
  | .tup ds, f => by unfold Dx.fits at f ⊢; exact ⟨Nat.le_trans f.1 h, fitsL_mono h ds f.2⟩
  | .lst ds, f => by unfold Dx.fits at f ⊢; exact ⟨Nat.le_trans f.1 h, fitsL_mono h ds f.2⟩
  | .non, _ => trivial
  | .bl _, _ => trivial
  | .int _, _ => trivial
  | .str _, _ => trivial
theorem fitsL_mono {m n : Nat} (h : m ≤ n) : ∀ ds : List Dx, Dx.fitsL m ds → Dx.fitsL n ds
  | [], _ => trivial
  | d :: ds, f => ⟨fits_mono h d f.1, fitsL_mono h ds f.2⟩
end
end Nm
namespace Nm
open PySem PySem.Spec PyProof.Rows L2 G7
def Sm.ts : Sm → List Str
  | .alone _ => []
  | .table t _ => [t]
  | .index t _ => [t]
  | .put t _ => [t]
  | .set t _ _ => [t]
  | .strike t _ => [t]
  | .ask _ _ ts _ _ _ => ts
def Sm.wd : Sm → Str
  | .alone w => w
  | .table _ _ => Str.ofString "table"
  | .index _ _ => Str.ofString "index"
  | .put _ _ => Str.ofString "put"
  | .set _ _ _ => Str.ofString "set"
  | .strike _ _ => Str.ofString "strike"
  | .ask _ _ _ _ _ _ => Str.ofString "ask"
def Sm.t1 : Sm → Str
  | .alone w => w
  | .table t _ => t
  | .index t _ => t
  | .put t _ => t
  | .set t _ _ => t
  | .strike t _ => t
  | .ask how _ _ _ _ _ => how
end Nm
namespace Nm
open PySem PySem.Spec PyProof.Rows L2 G7
end Nm

set_option linter.all false
set_option Elab.async false
set_option maxRecDepth 100000
set_option maxHeartbeats 4000000
/-! data stands where tables of code objects alone may grow -/
namespace G7
open PySem PySem.Spec PyProof.Rows L2 LamX
/-- all that is neither list nor table stands -/
def Stn (H H' : Hp) : Prop := ∀ a o, H a = some o → (∀ xs, o ≠ .lst xs) → (∀ ps, o ≠ .tbl ps) → H' a = some o
theorem Stn.ofSame {H H' : Hp} (k : Same H H') : Stn H H' := fun a o h _ _ => k a o h
theorem Stn.trans {H H1 H2 : Hp} (a : Stn H H1) (b : Stn H1 H2) : Stn H H2 := fun c o h n m => b c o (a c o h n m) n m
mutual
theorem RX.stn {H H' : Hp} (k : Stn H H') : ∀ {d : Dx} {v : V}, d.noL → RX H v d → RX H' v d
  | .non, _, _, h => by simpa only [RX] using h
  | .bl _, _, _, h => by simpa only [RX] using h
  | .int _, _, _, h => by simpa only [RX] using h
  | .str _, _, _, h => by simpa only [RX] using h
  | .tup ds, v, n, h => by
    simp only [RX] at h ⊢
    obtain ⟨a, us, e, z, r⟩ := h
    refine ⟨a, us, e, ?_, RXs.stn k n r⟩
    rcases z with z | ⟨o, z⟩
    · exact .inl (k a _ z (by intro xs q; cases q) (by intro xs q; cases q))
    · exact .inr ⟨o, k a _ z (by intro xs q; cases q) (by intro xs q; cases q)⟩
  | .lst ds, v, n, h => n.elim
theorem RXs.stn {H H' : Hp} (k : Stn H H') : ∀ {ds : List Dx} {us : List V}, Dx.noLL ds → RXs H us ds → RXs H' us ds
  | [], [], _, h => by simp only [RXs]
  | d :: ds, u :: us, n, h => by
    simp only [RXs] at h ⊢
    exact ⟨RX.stn k n.1 h.1, RXs.stn k n.2 h.2⟩
  | [], u :: us, _, h => by simp only [RXs] at h
  | d :: ds, [], _, h => by simp only [RXs] at h
end
theorem tpO_stn {H H' : Hp} {a : Addr} {xs : List V} (h : tpO (H a) = some xs) (k : Stn H H') : tpO (H' a) = some xs := by
  cases e : H a with
  | none => rw [e] at h; cases h
  | some o =>
    rw [k a o e (fun ps z => by rw [e, z] at h; cases h) (fun ps z => by rw [e, z] at h; cases h), ← e]
    exact h
/-- the indexes' tuple -/
structure FxS (H : Hp) (a : Addr) (ps : List Fd) : Prop where
  at_ : tpO (H a) = some (ps.map fun e => V.ref e.1)
  tups : ∀ e ∈ ps, H e.1 = some (.tup [.str e.2.1, .str e.2.2])
  oks : ∀ e ∈ ps, PyData.strOk e.2.1 = true ∧ PyData.strOk e.2.2 = true
theorem FxS.stn {H H' : Hp} {a : Addr} {ps : List Fd} (R : FxS H a ps) (k : Stn H H') : FxS H' a ps := ⟨tpO_stn R.at_ k, fun e he => k _ _ (R.tups e he) (by intro xs q; cases q) (by intro xs q; cases q), R.oks⟩
mutual
theorem RX.extN {H H' : Hp} (k : ExtN H H') : ∀ {d : Dx} {v : V}, RX H v d → RX H' v d
  | .non, _, h => by simpa only [RX] using h
  | .bl _, _, h => by simpa only [RX] using h
  | .int _, _, h => by simpa only [RX] using h
  | .str _, _, h => by simpa only [RX] using h
  | .tup ds, v, h => by
    simp only [RX] at h ⊢
    obtain ⟨a, us, e, z, r⟩ := h
    refine ⟨a, us, e, ?_, RXs.extN k r⟩
    rcases z with z | ⟨o, z⟩
    · exact .inl (k a _ z (by intro xs q; cases q))
    · exact .inr ⟨o, k a _ z (by intro xs q; cases q)⟩
  | .lst ds, v, h => by
    simp only [RX] at h ⊢
    obtain ⟨a, us, e, z, r⟩ := h
    exact ⟨a, us, e, k a _ z (by intro xs q; cases q), RXs.extN k r⟩
theorem RXs.extN {H H' : Hp} (k : ExtN H H') : ∀ {ds : List Dx} {us : List V}, RXs H us ds → RXs H' us ds
  | [], [], h => by simp only [RXs]
  | d :: ds, u :: us, h => by
    simp only [RXs] at h ⊢
    exact ⟨RX.extN k h.1, RXs.extN k h.2⟩
  | [], u :: us, h => by simp only [RXs] at h
  | d :: ds, [], h => by simp only [RXs] at h
end
theorem tpO_ext {H H' : Hp} {a : Addr} {xs : List V} (h : tpO (H a) = some xs) (k : ExtN H H') : tpO (H' a) = some xs := by
  cases e : H a with
  | none => rw [e] at h; cases h
  | some o =>
    rw [k a o e (fun ps z => by rw [e, z] at h; cases h), ← e]
    exact h
theorem lsO_ext {H H' : Hp} {a : Addr} {xs : List V} (h : lsO (H a) = some xs) (k : ExtN H H') : lsO (H' a) = some xs := by
  cases e : H a with
  | none => rw [e] at h; cases h
  | some o =>
    rw [k a o e (fun ps z => by rw [e, z] at h; cases h), ← e]
    exact h
theorem FxAt.extN {H H' : Hp} {a : Addr} {ps : List Fd} (R : FxAt H a ps) (k : ExtN H H') : FxAt H' a ps :=
  ⟨R.at_.elim (fun h => .inl (lsO_ext h k)) (fun h => .inr (tpO_ext h k)), fun e he => k _ _ (R.tups e he) (by intro ps q; cases q), R.oks⟩
theorem BoxB.extN {H H' : Hp} {h l : Addr} (B : BoxB H h l) (k : ExtN H H') : BoxB H' h l := by
  obtain ⟨m, ns, p, b1, b2, b3⟩ := B
  exact ⟨m, ns, p, k _ _ b1 (by intro ps q; cases q), k _ _ b2 (by intro ps q; cases q), b3⟩
end G7

set_option linter.all false
set_option Elab.async false
set_option maxRecDepth 100000
set_option maxHeartbeats 4000000
/-! a reader of words: its instance, what a step of it leaves -/
namespace Rd
open PySem PySem.Spec PyProof.Rows L2 G7 LamX
abbrev Fs := V → V → V → List (Str × V)
/-- the instance: the words, the place, how deep -/
structure At (fs : Fs) (TL : List (Addr × Str)) (C a dx l : Addr) (ws : List Str) (k d : Nat) (H : Hp) : Prop where
  ob : H a = some (.ins C dx (fs (.ref l) (.int k) (.int d)))
  wl : H l = some (.lst (ws.map V.str))
  few : ws.length ≤ 50000
  short : ∀ w ∈ ws, w.length ≤ 90000
  le : k ≤ ws.length
  tab : Lm.TabF TL H
variable {fs : Fs} {TL : List (Addr × Str)} {C CB a dx l : Addr} {ws : List Str} {k d : Nat} {H H1 H2 H' : Hp}
theorem At.ne (A : At fs TL C a dx l ws k d H) : l ≠ a := fun z => by
  have e := A.wl
  rw [z, A.ob] at e
  cases e
theorem At.here_ok (A : At fs TL C a dx l ws k d H) : (here ws k).length ≤ 90000 := by
  unfold here
  rw [List.getD_eq_getElem?_getD]
  cases e : ws[k]? with
  | none => show (Str.ofString "").length ≤ _; decide
  | some w => exact A.short w (List.mem_of_getElem? e)
theorem kn_refl {H : Hp} {ms : List Addr} : KeepN ms H H := fun _ _ _ _ e => e
theorem kn_trans {ms : List Addr} (a : KeepN ms H H1) (b : KeepN ms H1 H2) : KeepN ms H H2 := fun c o n t e => b c o n t (a c o n t e)
theorem kn_same {ms : List Addr} (k : Same H H') : KeepN ms H H' := fun b o _ _ e => k b o e
theorem kn_ext {ms : List Addr} (k : ExtN H H') : KeepN ms H H' := fun b o _ t e => k b o e t
theorem kn_upd {o : HO} : KeepN [a] H (upd H a o) := fun b u n _ e => by
  rw [upd_ne (by simpa using n)]
  exact e
theorem kn_free {ms : List Addr} {D : Addr} {o : HO} (k : KeepN ms H H1) (h : H D = none) : KeepN ms H (upd H1 D o) := fun b u n t e => by
  rw [upd_ne (ne_of_none e h)]
  exact k b u n t e
/-- where nothing (but perhaps a table) stood -/
def NewN (H : Hp) (D : Addr) : Prop := ∀ o, (∀ ps, o ≠ .tbl ps) → H D ≠ some o
theorem NewN.of {D : Addr} (k : KeepN [a] H H1) (ha : ∃ o, H1 a = some o) (h : H1 D = none) : NewN H D := fun o t e => by
  by_cases c : D = a
  · obtain ⟨o', ha⟩ := ha
    rw [← c, h] at ha
    cases ha
  · rw [k D o (by simpa using c) t e] at h
    cases h
theorem kn_updN {ms : List Addr} {D : Addr} {o : HO} (k : KeepN ms H H1) (h : NewN H D) : KeepN ms H (upd H1 D o) := fun b u n t e => by
  rw [upd_ne (fun z => by rw [z] at e; exact h u t e)]
  exact k b u n t e
/-- what is neither an instance nor a table stays -/
def Kt (H H' : Hp) : Prop := ∀ b o, (∀ C dx fs, o ≠ .ins C dx fs) → (∀ ps, o ≠ .tbl ps) → H b = some o → H' b = some o
theorem Kt.of (ha : ∃ C dx fs, H a = some (.ins C dx fs)) (k : KeepN [a] H H') : Kt H H' := fun b o n t e => by
  obtain ⟨C, dx, fs, ha⟩ := ha
  refine k b o (fun z => ?_) t e
  rw [List.mem_singleton.mp z, ha] at e
  cases e
  exact n _ _ _ rfl
theorem Kt.same (k : Same H H') : Kt H H' := fun b o _ _ e => k b o e
theorem Kt.ext (k : ExtN H H') : Kt H H' := fun b o _ t e => k b o e t
theorem Kt.trans (x : Kt H H1) (y : Kt H1 H2) : Kt H H2 := fun b o n t e => y b o n t (x b o n t e)
mutual
theorem RX.kt {H H' : Hp} (k : Kt H H') : ∀ {d : Dx} {v : V}, RX H v d → RX H' v d
  | .non, _, h => by simpa only [RX] using h
  | .bl _, _, h => by simpa only [RX] using h
  | .int _, _, h => by simpa only [RX] using h
  | .str _, _, h => by simpa only [RX] using h
  | .tup ds, v, h => by
    simp only [RX] at h ⊢
    obtain ⟨a, us, e, z, r⟩ := h
    refine ⟨a, us, e, ?_, RXs.kt k r⟩
    rcases z with z | ⟨o, z⟩
    · exact .inl (k a _ (by intro _ _ _ q; cases q) (by intro xs q; cases q) z)
    · exact .inr ⟨o, k a _ (by intro _ _ _ q; cases q) (by intro xs q; cases q) z⟩
  | .lst ds, v, h => by
    simp only [RX] at h ⊢
    obtain ⟨a, us, e, z, r⟩ := h
    exact ⟨a, us, e, k a _ (by intro _ _ _ q; cases q) (by intro xs q; cases q) z, RXs.kt k r⟩
theorem RXs.kt {H H' : Hp} (k : Kt H H') : ∀ {ds : List Dx} {us : List V}, RXs H us ds → RXs H' us ds
  | [], [], h => by simp only [RXs]
  | d :: ds, u :: us, h => by
    simp only [RXs] at h ⊢
    exact ⟨RX.kt k h.1, RXs.kt k h.2⟩
  | [], u :: us, h => by simp only [RXs] at h
  | d :: ds, [], h => by simp only [RXs] at h
end
theorem tabF_kn {T : List (Addr × Str)} (t : Lm.TabF T H) (k : Same H H') : Lm.TabF T H' := t.ext (Lm.KeepF.of k) (Lm.KeepT.of k)
theorem tabF_upd {T : List (Addr × Str)} {o : HO} (t : Lm.TabF T H) (ha : ∃ C dx fs, H a = some (.ins C dx fs)) : Lm.TabF T (upd H a o) := by
  obtain ⟨C, dx, fs, ha⟩ := ha
  refine t.ext (Lm.KeepF.upd fun u e z => ?_) (Lm.KeepT.upd fun ps e => ?_)
  · rw [ha] at e
    cases e
    exact z
  · rw [ha] at e
    cases e
theorem At.same (A : At fs TL C a dx l ws k d H) (s : Same H H') : At fs TL C a dx l ws k d H' := ⟨s _ _ A.ob, s _ _ A.wl, A.few, A.short, A.le, tabF_kn A.tab s⟩
theorem At.ext (A : At fs TL C a dx l ws k d H) (s : ExtN H H') (t : Lm.TabF TL H') : At fs TL C a dx l ws k d H' := ⟨s _ _ A.ob (by intro _ z; cases z), s _ _ A.wl (by intro _ z; cases z), A.few, A.short, A.le, t⟩
theorem At.set (A : At fs TL C a dx l ws k d H) {k' d' : Nat} (h : k' ≤ ws.length) : At fs TL C a dx l ws k' d' (upd H a (.ins C dx (fs (.ref l) (.int k') (.int d')))) :=
  ⟨upd_same, by rw [upd_ne A.ne]; exact A.wl, A.few, A.short, h, tabF_upd A.tab ⟨_, _, _, A.ob⟩⟩
theorem At.kt (A : At fs TL C a dx l ws k d H) (s : KeepN [a] H H') : Kt H H' := Kt.of ⟨_, _, _, A.ob⟩ s
theorem At.upd (A : At fs TL C a dx l ws k d H) {D : Addr} {o o' : HO} (e : H D = some o) (n1 : D ≠ a) (n2 : D ≠ l) (nf : ¬ Lm.Fz o) (nt : ∀ ps, o ≠ .tbl ps) : At fs TL C a dx l ws k d (upd H D o') :=
  ⟨by rw [upd_ne n1.symm]; exact A.ob, by rw [upd_ne n2.symm]; exact A.wl, A.few, A.short, A.le, A.tab.ext (Lm.KeepF.upd fun u eu => by rw [e] at eu; cases eu; exact nf) (Lm.KeepT.upd fun ps eu => by rw [e] at eu; cases eu; exact nt ps rfl)⟩
/-- what a step leaves: what it read, or the word that can't stand there -/
def Post {α : Type} (fs : Fs) (TL : List (Addr × Str)) (C CB a dx l : Addr) (ws : List Str) (d : Nat) (dxf : α → Dx) (r : R α) (H : Hp) (Q : VK) (E : XK) : Prop := match r with
  | .ok x k => ∀ H' v, KeepN [a] H H' → At fs TL C a dx l ws k d H' → RX H' v (dxf x) → Q v H'
  | .err k => ∀ H' e, KeepN [a] H H' → Lm.TabF TL H' → H' e = some (.xd [("place", .int (k : Int))]) → E (.ref CB) (some e) H'
  | .out => False
theorem Post.kn {α : Type} {dxf : α → Dx} {r : R α} {Q : VK} {E : XK} (p : Post fs TL C CB a dx l ws d dxf r H Q E) (s : KeepN [a] H H') : Post fs TL C CB a dx l ws d dxf r H' Q E := by
  cases r with
  | ok x k => exact fun H2 v k2 A r => p H2 v (kn_trans s k2) A r
  | err k => exact fun H2 e k2 t q => p H2 e (kn_trans s k2) t q
  | out => exact p
/-- one step (at another depth), and what is done behind it -/
theorem Post.bind {α β : Type} {dxf : α → Dx} {dxg : β → Dx} {r : R α} {f : α → Nat → R β} {Q Q' : VK} {E : XK} {d' : Nat} (p : Post fs TL C CB a dx l ws d dxg (r.bind f) H Q E)
    (h : ∀ x k H' v, r = .ok x k → KeepN [a] H H' → At fs TL C a dx l ws k d' H' → RX H' v (dxf x) → Post fs TL C CB a dx l ws d dxg (f x k) H' Q E → Q' v H') : Post fs TL C CB a dx l ws d' dxf r H Q' E := by
  cases r with
  | ok x k => exact fun H2 v k2 A r => h x k H2 v rfl k2 A r (Post.kn (r := f x k) p k2)
  | err k => exact p
  | out => exact p
theorem Post.map {α β : Type} {dxf : α → Dx} {dxg : β → Dx} {r : R α} {f : α → β} {Q Q' : VK} {E : XK} {d' : Nat} (p : Post fs TL C CB a dx l ws d dxg (r.map f) H Q E)
    (h : ∀ x k H' v, r = .ok x k → KeepN [a] H H' → At fs TL C a dx l ws k d' H' → RX H' v (dxf x) → Post fs TL C CB a dx l ws d dxg (.ok (f x) k) H' Q E → Q' v H') : Post fs TL C CB a dx l ws d' dxf r H Q' E := Post.bind (f := fun x k => .ok (f x) k) p h
theorem R.map_bind {α β γ : Type} (x : R α) (f : α → β) (g : β → Nat → R γ) : (x.map f).bind g = x.bind fun t k => g (f t) k := by cases x <;> rfl
theorem R.bind_bind {α β γ : Type} (x : R α) (f : α → Nat → R β) (g : β → Nat → R γ) : (x.bind f).bind g = x.bind fun t k => (f t k).bind g := by cases x <;> rfl
theorem rx_node2 {H : Hp} {p : Addr} {u : V} {word : Str} {s : Nm.Tr} (e : H p = some (.tup [.str word, u])) (h : RX H u s.dx) : RX H (.ref p) (Nm.Tr.node word [s]).dx := by
  unfold Nm.Tr.dx
  simp only [Nm.Tr.dxL, RX, RXs]
  exact ⟨p, _, rfl, .inl e, rfl, h, trivial⟩
theorem rx_num {H : Hp} {p : Addr} {n : Int} (e : H p = some (.tup [.str "num", .int n])) : RX H (.ref p) (Nm.Tr.num n).dx := by
  unfold Nm.Tr.dx
  simp only [RX, RXs]
  exact ⟨p, _, rfl, .inl e, rfl, rfl, trivial⟩
theorem rx_fld {H : Hp} {p : Addr} {t f : Str} (e : H p = some (.tup [.str "field", .str t, .str f])) : RX H (.ref p) (Nm.Tr.fld t f).dx := by
  unfold Nm.Tr.dx
  simp only [RX, RXs]
  exact ⟨p, _, rfl, .inl e, rfl, rfl, rfl, trivial⟩
/-- (the sort, the tree) -/
def sortS (c : Bool) : Str := if c = true then "cond" else "term"
def dxR (r : Bool × Nm.Tr) : Dx := .tup [.str (sortS r.1), r.2.dx]
theorem rx_R {H : Hp} {v : V} {r : Bool × Nm.Tr} (h : RX H v (dxR r)) : ∃ p u, v = .ref p ∧ tpO (H p) = some [.str (sortS r.1), u] ∧ RX H u r.2.dx := by
  unfold dxR at h
  simp only [RX, RXs] at h
  obtain ⟨p, us, rfl, hp, rs⟩ := h
  match us, rs with
  | [], rs => exact rs.elim
  | [_], rs => exact rs.2.elim
  | [x, u], rs =>
    obtain ⟨rfl, r2, _⟩ := rs
    refine ⟨p, u, rfl, ?_, r2⟩
    rcases hp with e | ⟨o, e⟩ <;> rw [e] <;> rfl
  | _ :: _ :: _ :: _, rs => exact rs.2.2.elim
theorem rx_mkR {H : Hp} {p : Addr} {u : V} {r : Bool × Nm.Tr} (e : H p = some (.tup [.str (sortS r.1), u])) (h : RX H u r.2.dx) : RX H (.ref p) (dxR r) := by
  unfold dxR
  simp only [RX, RXs]
  exact ⟨p, _, rfl, .inl e, rfl, h, trivial⟩
theorem rx_node3 {H : Hp} {p : Addr} {u v : V} {word : Str} {s t : Nm.Tr} (e : H p = some (.tup [.str word, u, v])) (h : RX H u s.dx) (g : RX H v t.dx) : RX H (.ref p) (Nm.Tr.node word [s, t]).dx := by
  unfold Nm.Tr.dx
  simp only [Nm.Tr.dxL, RX, RXs]
  exact ⟨p, _, rfl, .inl e, rfl, h, g, trivial⟩
theorem rx_strs {H : Hp} : ∀ ts : List Str, RXs H (ts.map V.str) (ts.map Dx.str)
  | [] => by simp only [List.map_nil, RXs]
  | t :: ts => by
    simp only [List.map_cons, RXs, RX]
    exact ⟨trivial, rx_strs ts⟩
theorem rx_ints {H : Hp} : ∀ ts : List Int, RXs H (ts.map V.int) (ts.map Dx.int)
  | [] => by simp only [List.map_nil, RXs]
  | t :: ts => by
    simp only [List.map_cons, RXs, RX]
    exact ⟨trivial, rx_ints ts⟩
theorem rxs_app {H : Hp} : ∀ {us vs : List V} {ds es : List Dx}, RXs H us ds → RXs H vs es → RXs H (us ++ vs) (ds ++ es)
  | [], _, [], _, _, h => h
  | u :: us, _, d :: ds, _, g, h => by
    simp only [RXs, List.cons_append] at g ⊢
    exact ⟨g.1, rxs_app g.2 h⟩
  | [], _, d :: ds, _, g, _ => by simp only [RXs] at g
  | u :: us, _, [], _, g, _ => by simp only [RXs] at g
theorem std_upd {D : Addr} {xs : List V} {o : HO} (h : H D = some (.lst xs)) : Std H (upd H D o) := fun b u e n => by
  rw [upd_ne (fun z => by rw [z, h] at e; cases e; exact n xs rfl)]
  exact e
theorem tl_uniq {L : List (Addr × Str)} (nd : (L.map Prod.fst).Nodup) {P : Addr} {q : Str} (h : (P, q) ∈ L) : ∀ p ∈ L, p.1 = P → p.2 = q := by
  induction L with
  | nil => cases h
  | cons x r ih =>
    rw [List.map_cons, List.nodup_cons] at nd
    intro p hp e
    rcases List.mem_cons.mp h with e1 | h1
    · rcases List.mem_cons.mp hp with e2 | h2
      · rw [e2, ← e1]
      · exact absurd (show x.1 ∈ r.map Prod.fst from List.mem_map.mpr ⟨p, h2, by rw [← e1]; exact e⟩) nd.1
    · rcases List.mem_cons.mp hp with e2 | h2
      · exact absurd (show x.1 ∈ r.map Prod.fst from List.mem_map.mpr ⟨(P, q), h1, by rw [← e2]; exact e.symm⟩) nd.1
      · exact ih nd.2 h1 p h2 e
theorem keepF_kn (ha : ∃ C dx fs, H a = some (.ins C dx fs)) (k : KeepN [a] H H') : Lm.KeepF H H' := fun b o e z => by
  obtain ⟨C, dx, fs, ha⟩ := ha
  refine k b o (fun m => ?_) (fun ps q => ?_) e
  · rw [List.mem_singleton.mp m, ha] at e
    cases e
    exact z
  · rw [q] at z
    exact z
theorem toks_len {x : Str} : (toks x).length ≤ x.length := by
  have h : ∀ (n : Nat) (l : List Nat), (toksN n l).length ≤ l.length := by
    intro n
    induction n with
    | zero => intro l; exact Nat.zero_le _
    | succ n ih =>
      intro l
      cases l with
      | nil => exact Nat.le_refl _
      | cons c r =>
        unfold toksN
        split
        · exact Nat.le_trans (ih r) (by simp)
        · have := ih ((c :: r).drop (firstLen (c :: r)))
          have hf := first_pos (l := c :: r)
          rw [List.length_drop] at this
          rw [List.length_cons]
          simp only [List.length_cons] at this ⊢
          omega
  have := h x.length (sg x)
  rwa [show (sg x).length = x.length from (TL.len_tl x).symm] at this
theorem toks_short (x : Str) : ∀ w ∈ toks x, w.length ≤ x.length := by
  have h : ∀ (n : Nat) (l : List Nat), ∀ w ∈ toksN n l, w.length ≤ l.length := by
    intro n
    induction n with
    | zero => intro l w hw; cases hw
    | succ n ih =>
      intro l w hw
      cases l with
      | nil => cases hw
      | cons c r =>
        unfold toksN at hw
        split at hw
        · exact Nat.le_trans (ih r w hw) (by simp)
        · rcases List.mem_cons.mp hw with rfl | hw
          · rw [TL.len_tl]
            show (List.take _ _).toArray.toList.length ≤ _
            rw [List.length_take]
            omega
          · have := ih _ w hw
            rw [List.length_drop] at this
            omega
  intro w hw
  have := h x.length (sg x) w hw
  rwa [show (sg x).length = x.length from (TL.len_tl x).symm] at this
end Rd

set_option linter.all false
set_option Elab.async false
set_option maxRecDepth 100000
set_option maxHeartbeats 4000000
/-! texts of terms and conditions, and their words -/
namespace Rd
open PySem PySem.Spec PyProof.Rows L2 G7
/-! ### cuts -/
/-- a sign that no word goes over -/
def cutC (c : Nat) : Prop := c ∉ letters ∧ c ∉ figures ∧ c ≠ 61
instance (c : Nat) : Decidable (cutC c) := by unfold cutC; infer_instance
theorem run_cut {cs a b : List Nat} {c : Nat} (h : c ∉ cs) : runOf cs (a ++ c :: b) = runOf cs a := by
  unfold runOf
  congr 1
  induction a with
  | nil =>
    rw [List.nil_append, List.takeWhile_cons, if_neg (by rw [decide_eq_false h]; decide)]
    rfl
  | cons x a ih =>
    rw [List.cons_append, List.takeWhile_cons, List.takeWhile_cons, ih]
theorem pre_cut {p a b : List Nat} {c : Nat} (h : p = [60, 61] ∨ p = [62, 61] ∨ p.length = 1) (ha : a ≠ []) (hc : c ≠ 61) : p.isPrefixOf (a ++ c :: b) = p.isPrefixOf a := by
  cases a with
  | nil => exact absurd rfl ha
  | cons x a =>
    rcases h with rfl | rfl | h
    · cases a with
      | nil => simp [List.isPrefixOf, Ne.symm hc]
      | cons y a => simp [List.isPrefixOf]
    · cases a with
      | nil => simp [List.isPrefixOf, Ne.symm hc]
      | cons y a => simp [List.isPrefixOf]
    · match p, h with
      | [z], _ => simp [List.isPrefixOf]
theorem signs_len : ∀ s ∈ signs, sg s = [60, 61] ∨ sg s = [62, 61] ∨ (sg s).length = 1 := by decide +kernel
theorem find_congr {α : Type} {p q : α → Bool} : ∀ {l : List α}, (∀ x ∈ l, p x = q x) → l.find? p = l.find? q
  | [], _ => rfl
  | x :: l, h => by
    rw [List.find?_cons, List.find?_cons, h x List.mem_cons_self, find_congr fun y hy => h y (List.mem_cons_of_mem _ hy)]
theorem first_cut {a b : List Nat} {c : Nat} (h : cutC c) (ha : a ≠ []) : firstLen (a ++ c :: b) = firstLen a := by
  cases a with
  | nil => exact absurd rfl ha
  | cons x a =>
    rw [List.cons_append]
    unfold firstLen
    dsimp only
    rw [← List.cons_append, run_cut h.1, run_cut h.2.1, find_congr (l := signs) fun s hs => pre_cut (b := b) (signs_len s hs) ha h.2.2]
theorem toksL_cut {c : Nat} (h : cutC c) (b : List Nat) : ∀ (n : Nat) (a : List Nat), a.length ≤ n → toksL (a ++ c :: b) = toksL a ++ toksL (c :: b)
  | _, [], _ => rfl
  | 0, _ :: _, l => by simp at l
  | n + 1, x :: a, l => by
    by_cases hx : x = 32
    · rw [hx, List.cons_append, toksL_blank, toksL_blank]
      exact toksL_cut h b n a (by simpa using l)
    · rw [List.cons_append, toksL_word hx, toksL_word hx, ← List.cons_append]
      have e := first_cut (a := x :: a) (b := b) h (by simp)
      have f1 := first_le (l := x :: a) (by simp)
      have f0 := first_pos (l := x :: a)
      rw [e, List.take_append_of_le_length f1, List.drop_append_of_le_length f1, List.cons_append]
      rw [toksL_cut h b n ((x :: a).drop (firstLen (x :: a))) (by rw [List.length_drop]; simp only [List.length_cons] at l ⊢; omega)]
theorem toks_cut {a b : List Nat} {c : Nat} (h : cutC c) : toksL (a ++ c :: b) = toksL a ++ toksL (c :: b) := toksL_cut h b a.length a (Nat.le_refl _)
/-- a blank between -/
theorem toks_sp (a b : List Nat) : toksL (a ++ 32 :: b) = toksL a ++ toksL b := by rw [toks_cut (by decide +kernel), toksL_blank]
/-- the signs that stand alone -/
def loneC (c : Nat) : Prop := c = 40 ∨ c = 41 ∨ c = 42 ∨ c = 43 ∨ c = 44 ∨ c = 45 ∨ c = 46
theorem lone_cut {c : Nat} (h : loneC c) : cutC c := by
  rcases h with h | h | h | h | h | h | h <;> rw [h] <;> decide +kernel
theorem lone_ne {c : Nat} (h : loneC c) : c ≠ 32 := by
  rcases h with h | h | h | h | h | h | h <;> rw [h] <;> decide
theorem lone_len {c : Nat} (h : loneC c) (b : List Nat) : firstLen (c :: b) = 1 := by
  rcases h with h | h | h | h | h | h | h <;> rw [h] <;> rfl
theorem toks_lone {c : Nat} (h : loneC c) (a b : List Nat) : toksL (a ++ c :: b) = toksL a ++ mk [c] :: toksL b := by
  rw [toks_cut (lone_cut h), toksL_word (lone_ne h), lone_len h]
  rfl
theorem toks_lone0 {c : Nat} (h : loneC c) (b : List Nat) : toksL (c :: b) = mk [c] :: toksL b := by
  rw [toksL_word (lone_ne h), lone_len h]
  rfl
/-! one word -/
theorem mk_sg (x : Str) : mk (sg x) = x := rfl
theorem toks_run {x : Str} {cs : List Nat} (hc : cs = letters ∨ cs = figures) (h1 : 1 ≤ x.length) (h : (sg x).all (fun c => decide (c ∈ cs)) = true) : toks x = [x] := by
  rw [toks_L]
  have hl : (sg x).length = x.length := (TL.len_tl x).symm
  have all : ∀ c ∈ sg x, c ∈ cs := fun c hc => of_decide_eq_true (List.all_eq_true.mp h c hc)
  have run : runOf cs (sg x) = (sg x).length := by
    unfold runOf
    rw [D72.takeWhile_all h]
  generalize e : sg x = l at *
  cases l with
  | nil => simp at hl; omega
  | cons c r =>
    have c0 := all c List.mem_cons_self
    have n32 : c ≠ 32 := fun z => by
      rw [z] at c0
      rcases hc with rfl | rfl <;> exact absurd c0 (by decide +kernel)
    have fl : firstLen (c :: r) = (c :: r).length := by
      unfold firstLen
      dsimp only
      rcases hc with rfl | rfl
      · rw [if_pos c0, run]
      · rw [if_neg (fun z => by
          have := fig_mem.mp c0
          have e : letters = [97, 98, 99, 100, 101, 102, 103, 104, 105, 106, 107, 108, 109, 110, 111, 112, 113, 114, 115, 116, 117, 118, 119, 120, 121, 122] := by decide +kernel
          rw [e] at z
          simp only [List.mem_cons, List.not_mem_nil, or_false] at z
          omega), if_pos c0, run]
    rw [toksL_word n32, fl, List.take_length, List.drop_length, toksL_nil, ← e, mk_sg]
theorem toks_name {x : Str} (h : isName x = true) : toks x = [x] := by
  unfold isName at h
  simp only [Bool.and_eq_true, decide_eq_true_eq] at h
  exact toks_run (.inl rfl) h.1.1.1 h.1.2
theorem toks_num {x : Str} (h : isNumber x = true) : toks x = [x] := by
  unfold isNumber at h
  simp only [Bool.and_eq_true, decide_eq_true_eq] at h
  exact toks_run (.inr rfl) h.1.1.1 h.1.2
end Rd

set_option linter.all false
set_option Elab.async false
set_option maxRecDepth 100000
set_option maxHeartbeats 4000000
/-! terms and conditions as words, and what is read of these -/
namespace Rd
open PySem PySem.Spec PyProof.Rows L2 G7 Nm
/-- how tight a word binds -/
def _root_.G7.Wd.lvl : Wd → Nat
  | .or => 0
  | .and => 1
  | .not => 2
  | .add => 4
  | .sub => 4
  | .mul => 5
  | _ => 3
def numK (n : Int) : List Str := if n < 0 then ["-", D72.strI (0 - n)] else [D72.strI n]
def fldK (t f : Str) : List Str := if t = "" then [f] else [t, ".", f]
def brK (m n : Nat) (l : List Str) : List Str := if m < n then Str.ofString "(" :: (l ++ [Str.ofString ")"]) else l
def tkT : G7.Tm → Nat → List Str
  | .num n, _ => numK n
  | .fld t f, _ => fldK t f
  | .op o a b, n => brK o.lvl n (tkT a o.lvl ++ o.s :: tkT b (o.lvl + 1))
def tkC : Cd → Nat → List Str
  | .cmp c a b, n => brK 3 n (tkT a 4 ++ c.s :: tkT b 4)
  | .neg c, n => brK 2 n (Str.ofString "not" :: tkC c 2)
  | .con o a b, n => brK o.lvl n (tkC a o.lvl ++ o.s :: tkC b (o.lvl + 1))
/-- names and numbers may stand there -/
def gdK : G7.Tm → Prop
  | .num n => isNumber (D72.strI (if n < 0 then 0 - n else n)) = true ∧ numOf (D72.strI (if n < 0 then 0 - n else n)) = (if n < 0 then 0 - n else n) ∧ (n < 0 → D72.strI (0 - n) ≠ "0")
  | .fld t f => (t = "" ∨ isName t = true) ∧ isName f = true
  | .op o a b => o.isOp = true ∧ gdK a ∧ gdK b
def gdKC : Cd → Prop
  | .cmp c a b => c.isCmp = true ∧ gdK a ∧ gdK b
  | .neg c => gdKC c
  | .con o a b => o.isCon = true ∧ gdKC a ∧ gdKC b
def hd (r : List Str) : Str := r.headD ""
section
variable {ws : List Str}
theorem here_hd {k : Nat} {l : List Str} (h : ws.drop k = l) : here ws k = hd l := by
  unfold here hd
  rw [← h, List.getD_eq_getElem?_getD]
  cases e : ws.drop k with
  | nil =>
    have := List.drop_eq_nil_iff.mp e
    rw [List.getElem?_eq_none this]
    rfl
  | cons w r =>
    have z : (ws.drop k)[0]? = some w := by rw [e]; rfl
    rw [List.getElem?_drop, Nat.add_zero] at z
    rw [z]
    rfl
theorem here_eq {k : Nat} {w : Str} {r : List Str} (h : ws.drop k = w :: r) : here ws k = w := here_hd h
theorem drop_1 {k : Nat} {w : Str} {r : List Str} (h : ws.drop k = w :: r) : ws.drop (k + 1) = r := by
  rw [← List.drop_drop, h]
  rfl
theorem drop_l {k : Nat} {l r : List Str} (h : ws.drop k = l ++ r) : ws.drop (k + l.length) = r := by
  rw [← List.drop_drop, h, List.drop_left]
theorem len_of {k : Nat} {l r : List Str} (h : ws.drop k = l ++ r) : l.length ≤ ws.length := by
  have := congrArg List.length h
  rw [List.length_drop, List.length_append] at this
  omega
theorem name_ne {w x : Str} (h : isName w = true) (hx : isName x = false) : w ≠ x := fun z => by rw [z, hx] at h; cases h
theorem num_ne {w x : Str} (h : isNumber w = true) (hx : isNumber x = false) : w ≠ x := fun z => by rw [z, hx] at h; cases h
theorem name_num {w : Str} (h : isName w = true) : isNumber w = false := by
  cases e : isNumber w with
  | false => rfl
  | true =>
    unfold isName at h
    unfold isNumber at e
    simp only [Bool.and_eq_true, decide_eq_true_eq] at h e
    have hl : (sg w).length = w.length := (TL.len_tl w).symm
    cases ew : sg w with
    | nil => rw [ew] at hl; simp at hl; omega
    | cons c r =>
      have a1 : c ∈ letters := of_decide_eq_true (List.all_eq_true.mp h.1.2 c (by rw [ew]; exact List.mem_cons_self))
      have a2 : c ∈ figures := of_decide_eq_true (List.all_eq_true.mp e.1.2 c (by rw [ew]; exact List.mem_cons_self))
      have := fig_mem.mp a2
      have e : letters = [97, 98, 99, 100, 101, 102, 103, 104, 105, 106, 107, 108, 109, 110, 111, 112, 113, 114, 115, 116, 117, 118, 119, 120, 121, 122] := by decide +kernel
      rw [e] at a1
      simp only [List.mem_cons, List.not_mem_nil, or_false] at a1
      omega
/-- words that begin a term -/
theorem numK_hd {n : Int} (g : gdK (.num n)) : ∃ w r, numK n = w :: r ∧ (w = "-" ∨ isNumber w = true) := by
  unfold gdK at g
  unfold numK
  split
  · exact ⟨_, _, rfl, .inl rfl⟩
  · rename_i c
    rw [if_neg c] at g
    exact ⟨_, _, rfl, .inr g.1⟩
theorem tkT_hd : ∀ {m : G7.Tm} {n : Nat}, gdK m → ∃ w r, tkT m n = w :: r ∧ (w = "(" ∨ w = "-" ∨ isNumber w = true ∨ isName w = true)
  | .num n, _, g => by
    obtain ⟨w, r, e, h⟩ := numK_hd g
    exact ⟨w, r, e, .inr (h.elim .inl fun z => .inr (.inl z))⟩
  | .fld t f, _, g => by
    unfold gdK at g
    unfold tkT fldK
    split
    · exact ⟨_, _, rfl, .inr (.inr (.inr g.2))⟩
    · rename_i c
      exact ⟨_, _, rfl, .inr (.inr (.inr (g.1.resolve_left c)))⟩
  | .op o a b, n, g => by
    unfold gdK at g
    unfold tkT brK
    split
    · exact ⟨_, _, rfl, .inl rfl⟩
    · obtain ⟨w, r, e, h⟩ := tkT_hd (m := a) (n := o.lvl) g.2.1
      exact ⟨w, _, by rw [e]; rfl, h⟩
theorem tkT_not {m : G7.Tm} {n : Nat} (g : gdK m) (r : List Str) : hd (tkT m n ++ r) ≠ "not" := by
  obtain ⟨w, r', e, h⟩ := tkT_hd (n := n) g
  rw [e]
  show w ≠ "not"
  rcases h with h | h | h | h
  · rw [h]; decide +kernel
  · rw [h]; decide +kernel
  · exact num_ne h (by decide +kernel)
  · exact name_ne h (by decide +kernel)
theorem op_lvl {o : Wd} (h : o.isOp = true) : o.lvl = 4 ∧ (o.s = "+" ∨ o.s = "-") ∨ o.lvl = 5 ∧ o.s = "*" := by
  cases o <;> first | exact .inl ⟨rfl, .inl rfl⟩ | exact .inl ⟨rfl, .inr rfl⟩ | exact .inr ⟨rfl, rfl⟩ | cases h
/-! terms -/
structure ParT (ws : List Str) (m : G7.Tm) : Prop where
  fac : ∀ (n : Nat) (only : Bool) (k d : Nat) (r : List Str), m.deep ≤ n + 1 → m.deep + d ≤ 21 → ws.drop k = tkT m 6 ++ r → hd r ≠ "." → factor ws (lv ws n) only k d = .ok (false, trT m) (k + (tkT m 6).length)
  prod : ∀ (n : Nat) (only : Bool) (k d : Nat) (r : List Str), m.deep ≤ n + 2 → m.deep + d ≤ 22 → (m.deep = 1 ∨ 5 ≤ m.head.lvl ∨ m.deep ≤ n + 1 ∧ m.deep + d ≤ 21) → ws.drop k = tkT m 5 ++ r → hd r ≠ "." →
    ∃ j, j ≤ (tkT m 5).length ∧ product ws (lv ws n) only k d = prodLoop ws (lv ws n) d (ws.length + 1 - j) (trT m) (k + (tkT m 5).length)
  sum : ∀ (n : Nat) (only : Bool) (k d : Nat) (r : List Str), m.deep ≤ n + 2 → m.deep + d ≤ 22 → ws.drop k = tkT m 4 ++ r → hd r ≠ "." → hd r ≠ "*" →
    ∃ j, j ≤ (tkT m 4).length ∧ Rd.sum ws (lv ws n) only k d = sumLoop ws (lv ws n) d (ws.length + 1 - j) (trT m) (k + (tkT m 4).length)
theorem prod_end {L : Lv} {d f : Nat} {t : Nm.Tr} {k : Nat} {r : List Str} (hf : 0 < f) (h : ws.drop k = r) (n : hd r ≠ "*") : prodLoop ws L d f t k = .ok (false, t) k := by
  cases f with
  | zero => omega
  | succ f =>
    unfold prodLoop
    rw [here_hd h, if_neg n]
theorem sum_end {L : Lv} {d f : Nat} {t : Nm.Tr} {k : Nat} {r : List Str} (hf : 0 < f) (h : ws.drop k = r) (n : hd r ≠ "+" ∧ hd r ≠ "-") : sumLoop ws L d f t k = .ok (false, t) k := by
  cases f with
  | zero => omega
  | succ f =>
    unfold sumLoop
    rw [here_hd h, if_neg (fun z => z.elim n.1 n.2)]
theorem prod_of_fac {n : Nat} {only : Bool} {k d : Nat} {t : Nm.Tr} {k' : Nat} (h : factor ws (lv ws n) only k d = .ok (false, t) k') : product ws (lv ws n) only k d = prodLoop ws (lv ws n) d (ws.length + 1) t k' := by
  unfold product
  rw [h]
  rfl
theorem sum_of_prod {n : Nat} {only : Bool} {k d j : Nat} {t : Nm.Tr} {k' : Nat} {r : List Str} (hj : j ≤ ws.length) (h : product ws (lv ws n) only k d = prodLoop ws (lv ws n) d (ws.length + 1 - j) t k') (hr : ws.drop k' = r) (hn : hd r ≠ "*") :
    Rd.sum ws (lv ws n) only k d = sumLoop ws (lv ws n) d (ws.length + 1) t k' := by
  unfold Rd.sum
  rw [h, prod_end (by omega) hr hn]
  rfl
/-- a term that stands alone where a condition might -/
theorem or_term {n k d k' : Nat} {t : Nm.Tr} (h : Rd.sum ws (lv ws n) false k d = .ok (false, t) k') (h1 : here ws k ≠ "not") (h2 : here ws k' ∉ comparing) : or_ ws (lv ws n) k d = .ok (false, t) k' := by
  have c : compare ws (lv ws n) k d = .ok (false, t) k' := by
    unfold compare
    rw [h]
    show (if (false = true ∨ here ws k' ∉ comparing) then _ else _) = _
    rw [if_pos (.inr h2)]
  have e : not_ ws (lv ws n) k d = .ok (false, t) k' := by
    unfold not_
    rw [if_pos h1, c]
  have a : and_ ws (lv ws n) k d = .ok (false, t) k' := by
    unfold and_ joined
    dsimp only
    rw [e]
    rfl
  unfold or_ joined
  dsimp only
  rw [a]
  rfl
theorem fac_br {n : Nat} {only : Bool} {k d : Nat} {m : G7.Tm} {l r : List Str} (hd20 : d ≠ 20) (hn : 1 ≤ n) (h : ws.drop k = (Str.ofString "(" :: (l ++ [Str.ofString ")"])) ++ r) (hl : hd (l ++ Str.ofString ")" :: r) ≠ "not")
    (hs : ∀ n', n = n' + 1 → ∀ only, Rd.sum ws (lv ws n') only (k + 1) (d + 1) = .ok (false, trT m) (k + 1 + l.length)) : factor ws (lv ws n) only k d = .ok (false, trT m) (k + (Str.ofString "(" :: (l ++ [Str.ofString ")"])).length) := by
  obtain ⟨n', rfl⟩ : ∃ n', n = n' + 1 := ⟨n - 1, by omega⟩
  have h0 : ws.drop k = Str.ofString "(" :: (l ++ Str.ofString ")" :: r) := by rw [h]; simp
  have h1 : ws.drop (k + 1) = l ++ Str.ofString ")" :: r := drop_1 h0
  have h2 : ws.drop (k + 1 + l.length) = Str.ofString ")" :: r := drop_l h1
  have e : (if only = true then ((lv ws (n' + 1)).term (k + 1) (d + 1)).map fun t => (false, t) else (lv ws (n' + 1)).or_ (k + 1) (d + 1)) = .ok (false, trT m) (k + 1 + l.length) := by
    cases only with
    | true =>
      rw [if_pos rfl]
      show ((Rd.term ws (lv ws n') (k + 1) (d + 1)).map fun t => (false, t)) = _
      unfold Rd.term
      rw [hs n' rfl true]
      rfl
    | false =>
      rw [if_neg (by decide)]
      show or_ ws (lv ws n') (k + 1) (d + 1) = _
      exact or_term (hs n' rfl false) (by rw [here_hd h1]; exact hl) (by rw [here_eq h2]; decide +kernel)
  unfold factor
  rw [here_eq h0, if_pos rfl, if_neg hd20, e]
  show ((need ws ")" (k + 1 + l.length)).bind fun _ k2 => .ok (false, trT m) k2) = _
  unfold need
  rw [here_eq h2, if_pos rfl]
  show R.ok (false, trT m) _ = _
  congr 1
  simp
  omega
theorem par_leaf {m : G7.Tm} (h1 : m.deep = 1) (ht : ∀ n, tkT m n = tkT m 0) (fac : ∀ (n : Nat) (only : Bool) (k d : Nat) (r : List Str), ws.drop k = tkT m 0 ++ r → hd r ≠ "." → factor ws (lv ws n) only k d = .ok (false, trT m) (k + (tkT m 0).length)) : ParT ws m := by
  refine ⟨fun n only k d r _ _ h p => ?_, fun n only k d r _ _ _ h p => ⟨0, Nat.zero_le _, ?_⟩, fun n only k d r _ _ h p q => ⟨0, Nat.zero_le _, ?_⟩⟩
  · rw [ht] at h ⊢
    exact fac n only k d r h p
  · rw [ht] at h ⊢
    exact prod_of_fac (fac n only k d r h p)
  · rw [ht] at h ⊢
    exact sum_of_prod (j := 0) (Nat.zero_le _) (prod_of_fac (fac n only k d r h p)) (drop_l h) q
theorem par_T : ∀ m : G7.Tm, gdK m → ParT ws m
  | .num i, g => par_leaf rfl (fun _ => rfl) fun n only k d r h p => by
    obtain ⟨w, r', e, hw⟩ := numK_hd g
    have e' : tkT (.num i) 0 = numK i := rfl
    rw [e'] at h ⊢
    have n1 : w ≠ "(" := by
      rcases hw with hw | hw
      · rw [hw]; decide +kernel
      · exact num_ne hw (by decide +kernel)
    have hh : here ws k = w := by rw [e] at h; exact here_eq h
    unfold factor
    rw [hh, if_neg n1, if_pos hw]
    unfold nextNumber
    unfold gdK at g
    unfold numK at h ⊢
    by_cases c : i < 0
    · rw [if_pos c] at h ⊢
      rw [if_pos c] at g
      have h2 := drop_1 h
      rw [here_eq h, if_pos rfl, here_eq h2, if_pos ⟨g.1, g.2.2 c⟩, g.2.1]
      show R.ok (false, Nm.Tr.num (0 - (0 - i))) (k + 2) = _
      rw [show 0 - (0 - i) = i by omega]
      rfl
    · rw [if_neg c] at h ⊢
      rw [if_neg c] at g
      rw [here_eq h, if_neg (num_ne g.1 (by decide +kernel)), if_pos g.1, g.2.1]
      rfl
  | .fld t f, g => par_leaf rfl (fun _ => rfl) fun n only k d r h p => by
    have e' : tkT (.fld t f) 0 = fldK t f := rfl
    rw [e'] at h ⊢
    unfold gdK at g
    unfold fldK at h ⊢
    by_cases c : t = ""
    · rw [if_pos c] at h ⊢
      have h2 : ws.drop (k + 1) = r := drop_1 h
      unfold factor nextName
      rw [here_eq h, if_neg (name_ne g.2 (by decide +kernel)), if_neg (fun z => z.elim (name_ne g.2 (by decide +kernel)) fun z => by rw [name_num g.2] at z; cases z), if_pos g.2]
      show (if here ws (k + 1) = "." then _ else _) = _
      rw [here_hd h2, if_neg p, c]
      rfl
    · rw [if_neg c] at h ⊢
      have gt := g.1.resolve_left c
      have h2 := drop_1 h
      have h3 := drop_1 h2
      unfold factor nextName
      rw [here_eq h, if_neg (name_ne gt (by decide +kernel)), if_neg (fun z => z.elim (name_ne gt (by decide +kernel)) fun z => by rw [name_num gt] at z; cases z), if_pos gt]
      show (if here ws (k + 1) = "." then (if isName (here ws (k + 1 + 1)) = true then _ else _ : R _).map _ else _) = _
      rw [here_eq h2, if_pos rfl, here_eq h3, if_pos g.2]
      rfl
  | .op o a b, g => by
    unfold gdK at g
    obtain ⟨go, ga, gb⟩ := g
    have A := par_T a ga
    have B := par_T b gb
    have dp : (G7.Tm.op o a b).deep = max a.deep b.deep + 1 := rfl
    have da : 1 ≤ a.deep := by cases a <;> simp [G7.Tm.deep]
    generalize hm : G7.Tm.op o a b = m at dp
    have tk : ∀ n, tkT m n = brK o.lvl n (tkT a o.lvl ++ o.s :: tkT b (o.lvl + 1)) := fun n => by rw [← hm]; rfl
    have et : trT m = .node o.s [trT a, trT b] := by rw [← hm]; rfl
    have hl : m.head.lvl = o.lvl := by rw [← hm]; rfl
    rcases op_lvl go with ⟨l4, ho⟩ | ⟨l5, ho⟩
    · -- a sum
      have t4 : tkT m 4 = tkT a 4 ++ o.s :: tkT b 5 := by rw [tk, l4]; rfl
      have t6 : ∀ x, 4 < x → tkT m x = Str.ofString "(" :: (tkT m 4 ++ [Str.ofString ")"]) := fun x hx => by rw [tk, tk, l4]; unfold brK; rw [if_pos hx, if_neg (by omega)]
      have no : hd (o.s :: tkT b 5) ≠ "." ∧ hd (o.s :: tkT b 5) ≠ "*" := by
        show o.s ≠ "." ∧ o.s ≠ "*"
        rcases ho with e | e <;> rw [e] <;> decide +kernel
      have sum : ∀ (n : Nat) (only : Bool) (k d : Nat) (r : List Str), m.deep ≤ n + 2 → m.deep + d ≤ 22 → ws.drop k = tkT m 4 ++ r → hd r ≠ "." → hd r ≠ "*" →
          ∃ j, j ≤ (tkT m 4).length ∧ Rd.sum ws (lv ws n) only k d = sumLoop ws (lv ws n) d (ws.length + 1 - j) (trT m) (k + (tkT m 4).length) := fun n only k d r n1 n2 h p q => by
        rw [t4, List.append_assoc] at h
        obtain ⟨j, hj, e⟩ := A.sum n only k d (o.s :: tkT b 5 ++ r) (by omega) (by omega) h no.1 no.2
        have h2 := drop_l h
        have h3 := drop_1 h2
        have h4 := drop_l h3
        obtain ⟨j2, hj2, e2⟩ := B.prod n true (k + (tkT a 4).length + 1) d r (by omega) (by omega) (.inr (.inr ⟨by omega, by omega⟩)) h3 p
        have la := len_of h
        have lb := len_of h3
        refine ⟨j + 1, by rw [t4, List.length_append, List.length_cons]; omega, ?_⟩
        rw [e, show ws.length + 1 - j = (ws.length + 1 - (j + 1)) + 1 by omega]
        show (if here ws (k + (tkT a 4).length) = "+" ∨ here ws (k + (tkT a 4).length) = "-" then (product ws (lv ws n) true (k + (tkT a 4).length + 1) d).bind _ else _) = _
        rw [here_eq h2, if_pos ho, e2, prod_end (by omega) h4 q, et]
        show sumLoop ws (lv ws n) d _ _ _ = _
        congr 1
        rw [t4, List.length_append, List.length_cons]
        omega
      have fac : ∀ (n : Nat) (only : Bool) (k d : Nat) (x : Nat) (r : List Str), 4 < x → m.deep ≤ n + 1 → m.deep + d ≤ 21 → ws.drop k = tkT m x ++ r → factor ws (lv ws n) only k d = .ok (false, trT m) (k + (tkT m x).length) := fun n only k d x r hx n1 n2 h => by
        rw [t6 x hx] at h ⊢
        have h1 : ws.drop (k + 1) = tkT m 4 ++ Str.ofString ")" :: r := drop_1 (w := "(") (by rw [h]; simp)
        refine fac_br (by omega) (by omega) h (by rw [← hm]; exact tkT_not (m := .op o a b) ⟨go, ga, gb⟩ _) fun n' en only => ?_
        obtain ⟨j, hj, e⟩ := sum n' only (k + 1) (d + 1) (Str.ofString ")" :: r) (by omega) (by omega) h1 (by show Str.ofString ")" ≠ _; decide +kernel) (by show Str.ofString ")" ≠ _; decide +kernel)
        have := len_of h1
        rw [e]
        exact sum_end (by omega) (drop_l h1) (by show Str.ofString ")" ≠ _ ∧ Str.ofString ")" ≠ _; decide +kernel)
      refine ⟨fun n only k d r n1 n2 h p => fac n only k d 6 r (by decide) n1 n2 h, fun n only k d r n1 n2 n3 h p => ⟨0, Nat.zero_le _, ?_⟩, sum⟩
      have n3 : m.deep ≤ n + 1 ∧ m.deep + d ≤ 21 := by
        rcases n3 with n3 | n3 | n3
        · omega
        · rw [hl] at n3; omega
        · exact n3
      exact prod_of_fac (fac n only k d 5 r (by decide) n3.1 n3.2 h)
    · -- a product
      have t5 : tkT m 5 = tkT a 5 ++ o.s :: tkT b 6 := by rw [tk, l5]; rfl
      have t4 : tkT m 4 = tkT m 5 := by rw [tk, tk, l5]; rfl
      have t6 : tkT m 6 = Str.ofString "(" :: (tkT m 4 ++ [Str.ofString ")"]) := by rw [tk, tk, l5]; rfl
      have prod : ∀ (n : Nat) (only : Bool) (k d : Nat) (r : List Str), m.deep ≤ n + 2 → m.deep + d ≤ 22 → ws.drop k = tkT m 5 ++ r → hd r ≠ "." →
          ∃ j, j ≤ (tkT m 5).length ∧ product ws (lv ws n) only k d = prodLoop ws (lv ws n) d (ws.length + 1 - j) (trT m) (k + (tkT m 5).length) := fun n only k d r n1 n2 h p => by
        rw [t5, List.append_assoc] at h
        obtain ⟨j, hj, e⟩ := A.prod n only k d (o.s :: tkT b 6 ++ r) (by omega) (by omega) (.inr (.inr ⟨by omega, by omega⟩)) h (by show o.s ≠ "."; rw [ho]; decide +kernel)
        have h2 := drop_l h
        have h3 := drop_1 h2
        have h4 := drop_l h3
        have la := len_of h
        have lb := len_of h3
        refine ⟨j + 1, by rw [t5, List.length_append, List.length_cons]; omega, ?_⟩
        rw [e, show ws.length + 1 - j = (ws.length + 1 - (j + 1)) + 1 by omega]
        show (if here ws (k + (tkT a 5).length) = "*" then (factor ws (lv ws n) true (k + (tkT a 5).length + 1) d).bind _ else _) = _
        rw [here_eq h2, if_pos ho, B.fac n true _ d r (by omega) (by omega) h3 p, et, ho]
        show prodLoop ws (lv ws n) d _ _ _ = _
        congr 1
        rw [t5, List.length_append, List.length_cons]
        omega
      have sum : ∀ (n : Nat) (only : Bool) (k d : Nat) (r : List Str), m.deep ≤ n + 2 → m.deep + d ≤ 22 → ws.drop k = tkT m 4 ++ r → hd r ≠ "." → hd r ≠ "*" →
          ∃ j, j ≤ (tkT m 4).length ∧ Rd.sum ws (lv ws n) only k d = sumLoop ws (lv ws n) d (ws.length + 1 - j) (trT m) (k + (tkT m 4).length) := fun n only k d r n1 n2 h p q => by
        rw [t4] at h ⊢
        obtain ⟨j, hj, e⟩ := prod n only k d r n1 n2 h p
        have := len_of h
        exact ⟨0, Nat.zero_le _, sum_of_prod (by omega) e (drop_l h) q⟩
      refine ⟨fun n only k d r n1 n2 h p => ?_, fun n only k d r n1 n2 _ h p => prod n only k d r n1 n2 h p, sum⟩
      rw [t6] at h ⊢
      have h1 : ws.drop (k + 1) = tkT m 4 ++ Str.ofString ")" :: r := drop_1 (w := "(") (by rw [h]; simp)
      refine fac_br (by omega) (by omega) h (by rw [← hm]; exact tkT_not (m := .op o a b) ⟨go, ga, gb⟩ _) fun n' en only => ?_
      obtain ⟨j, hj, e⟩ := sum n' only (k + 1) (d + 1) (Str.ofString ")" :: r) (by omega) (by omega) h1 (by show Str.ofString ")" ≠ _; decide +kernel) (by show Str.ofString ")" ≠ _; decide +kernel)
      have := len_of h1
      rw [e]
      exact sum_end (by omega) (drop_l h1) (by show Str.ofString ")" ≠ _ ∧ Str.ofString ")" ≠ _; decide +kernel)
/-- what may stand behind a term -/
def endT (r : List Str) : Prop := hd r ≠ "." ∧ hd r ≠ "*" ∧ hd r ≠ "+" ∧ hd r ≠ "-"
theorem sum_T {m : G7.Tm} (g : gdK m) {n k d : Nat} {only : Bool} {r : List Str} (n1 : m.deep ≤ n + 2) (n2 : m.deep + d ≤ 22) (h : ws.drop k = tkT m 4 ++ r) (q : endT r) : Rd.sum ws (lv ws n) only k d = .ok (false, trT m) (k + (tkT m 4).length) := by
  obtain ⟨j, hj, e⟩ := (par_T m g).sum n only k d r n1 n2 h q.1 q.2.1
  have := len_of h
  rw [e]
  exact sum_end (by omega) (drop_l h) ⟨q.2.2.1, q.2.2.2⟩
theorem term_T {m : G7.Tm} (g : gdK m) {n k d : Nat} {r : List Str} (n1 : m.deep ≤ n + 2) (n2 : m.deep + d ≤ 22) (h : ws.drop k = tkT m 4 ++ r) (q : endT r) : Rd.term ws (lv ws n) k d = .ok (trT m) (k + (tkT m 4).length) := by
  unfold Rd.term
  rw [sum_T g n1 n2 h q]
  rfl
end
end Rd

set_option linter.all false
set_option Elab.async false
set_option maxRecDepth 100000
set_option maxHeartbeats 4000000
/-! conditions as words, and what is read of these -/
namespace Rd
open PySem PySem.Spec PyProof.Rows L2 G7 Nm
section
variable {ws : List Str}
abbrev notF (ws : List Str) (n d : Nat) : Nat → R (Bool × Nm.Tr) := fun k => not_ ws (lv ws n) k d
abbrev andF (ws : List Str) (n d : Nat) : Nat → R (Bool × Nm.Tr) := fun k => and_ ws (lv ws n) k d
structure ParC (ws : List Str) (c : Cd) : Prop where
  nt : ∀ (n k d : Nat) (r : List Str), c.deep ≤ n + 2 → c.deep + d ≤ 22 → ws.drop k = tkC c 2 ++ r → endT r → not_ ws (lv ws n) k d = .ok (true, trC c) (k + (tkC c 2).length)
  an : ∀ (n k d : Nat) (r : List Str), c.deep ≤ n + 2 → c.deep + d ≤ 22 → ws.drop k = tkC c 1 ++ r → endT r → ∃ j, j ≤ (tkC c 1).length ∧ and_ ws (lv ws n) k d = joinLoop ws "and" (notF ws n d) (ws.length + 1 - j) (trC c) (k + (tkC c 1).length)
  or : ∀ (n k d : Nat) (r : List Str), c.deep ≤ n + 2 → c.deep + d ≤ 22 → ws.drop k = tkC c 0 ++ r → endT r → hd r ≠ "and" → ∃ j, j ≤ (tkC c 0).length ∧ or_ ws (lv ws n) k d = joinLoop ws "or" (andF ws n d) (ws.length + 1 - j) (trC c) (k + (tkC c 0).length)
theorem join_end {word : Str} {part : Nat → R (Bool × Nm.Tr)} {f : Nat} {t : Nm.Tr} {k : Nat} {r : List Str} (hf : 0 < f) (h : ws.drop k = r) (n : hd r ≠ word) : joinLoop ws word part f t k = .ok (true, t) k := by
  cases f with
  | zero => omega
  | succ f =>
    unfold joinLoop
    rw [here_hd h, if_neg n]
theorem and_of_not {n k d : Nat} {t : Nm.Tr} {k' : Nat} (h : not_ ws (lv ws n) k d = .ok (true, t) k') : and_ ws (lv ws n) k d = joinLoop ws "and" (notF ws n d) (ws.length + 1) t k' := by
  unfold and_ joined
  dsimp only
  rw [h]
  rfl
theorem or_of_and {n k d j : Nat} {t : Nm.Tr} {k' : Nat} {r : List Str} (hj : j ≤ ws.length) (h : and_ ws (lv ws n) k d = joinLoop ws "and" (notF ws n d) (ws.length + 1 - j) t k') (hr : ws.drop k' = r) (q : hd r ≠ "and") :
    or_ ws (lv ws n) k d = joinLoop ws "or" (andF ws n d) (ws.length + 1) t k' := by
  unfold or_ joined
  dsimp only
  rw [h, join_end (by omega) hr q]
  rfl
/-- a condition in brackets -/
theorem not_br {n k d : Nat} {t : Nm.Tr} {l r : List Str} (hd20 : d ≠ 20) (hn : 1 ≤ n) (h : ws.drop k = (Str.ofString "(" :: (l ++ [Str.ofString ")"])) ++ r)
    (hs : ∀ n', n = n' + 1 → or_ ws (lv ws n') (k + 1) (d + 1) = .ok (true, t) (k + 1 + l.length)) : not_ ws (lv ws n) k d = .ok (true, t) (k + (Str.ofString "(" :: (l ++ [Str.ofString ")"])).length) := by
  obtain ⟨n', rfl⟩ : ∃ n', n = n' + 1 := ⟨n - 1, by omega⟩
  have h0 : ws.drop k = Str.ofString "(" :: (l ++ Str.ofString ")" :: r) := by rw [h]; simp
  have h1 : ws.drop (k + 1) = l ++ Str.ofString ")" :: r := drop_1 h0
  have h2 : ws.drop (k + 1 + l.length) = Str.ofString ")" :: r := drop_l h1
  have f : factor ws (lv ws (n' + 1)) false k d = .ok (true, t) (k + 1 + l.length + 1) := by
    unfold factor
    rw [here_eq h0, if_pos rfl, if_neg hd20, if_neg (by decide)]
    show ((or_ ws (lv ws n') (k + 1) (d + 1)).bind fun r k' => (need ws ")" k').bind fun _ k2 => .ok r k2) = _
    rw [hs n' rfl]
    show ((need ws ")" (k + 1 + l.length)).bind fun _ k2 => R.ok (true, t) k2) = _
    unfold need
    rw [here_eq h2, if_pos rfl]
    rfl
  have p : product ws (lv ws (n' + 1)) false k d = .ok (true, t) (k + 1 + l.length + 1) := by
    unfold product
    rw [f]
    rfl
  have s : Rd.sum ws (lv ws (n' + 1)) false k d = .ok (true, t) (k + 1 + l.length + 1) := by
    unfold Rd.sum
    rw [p]
    rfl
  have c : compare ws (lv ws (n' + 1)) k d = .ok (true, t) (k + 1 + l.length + 1) := by
    unfold compare
    rw [s]
    unfold R.bind
    dsimp only
    rw [if_pos (Or.inl rfl)]
  unfold not_
  rw [here_eq h0, if_pos (by decide +kernel), c]
  congr 1
  simp
  omega
theorem endT_br (r : List Str) : endT (Str.ofString ")" :: r) := by
  show Str.ofString ")" ≠ _ ∧ Str.ofString ")" ≠ _ ∧ Str.ofString ")" ≠ _ ∧ Str.ofString ")" ≠ _
  decide +kernel
theorem cmp_wd {o : Wd} (h : o.isCmp = true) : (o.s ∈ comparing) ∧ o.s ≠ "." ∧ o.s ≠ "*" ∧ o.s ≠ "+" ∧ o.s ≠ "-" := by
  cases o <;> first | (cases h; done) | decide +kernel
theorem par_C : ∀ c : Cd, gdKC c → ParC ws c
  | .cmp o a b, g => by
    unfold gdKC at g
    obtain ⟨go, ga, gb⟩ := g
    have dp : (Cd.cmp o a b).deep = max a.deep b.deep + 1 := rfl
    have tk : ∀ n, n ≤ 2 → tkC (.cmp o a b) n = tkT a 4 ++ o.s :: tkT b 4 := fun n hn => by unfold tkC brK; rw [if_neg (by omega)]
    have w := cmp_wd go
    have nt : ∀ (n k d : Nat) (r : List Str), (Cd.cmp o a b).deep ≤ n + 2 → (Cd.cmp o a b).deep + d ≤ 22 → ws.drop k = tkC (.cmp o a b) 2 ++ r → endT r → not_ ws (lv ws n) k d = .ok (true, trC (.cmp o a b)) (k + (tkC (.cmp o a b) 2).length) := fun n k d r n1 n2 h q => by
      rw [tk 2 (by decide)] at h ⊢
      rw [List.append_assoc] at h
      have h2 := drop_l h
      have h3 := drop_1 h2
      have s1 := sum_T ga (n := n) (d := d) (only := false) (by omega) (by omega) h (show endT (o.s :: tkT b 4 ++ r) from w.2)
      have s2 := term_T gb (n := n) (d := d) (by omega) (by omega) h3 q
      unfold not_
      rw [if_pos (show here ws k ≠ "not" by rw [here_hd h]; exact tkT_not ga _)]
      unfold compare
      rw [s1]
      show (if (false = true ∨ here ws (k + (tkT a 4).length) ∉ comparing) then _ else (term ws (lv ws n) (k + (tkT a 4).length + 1) d).map fun u => (true, Nm.Tr.node (here ws (k + (tkT a 4).length)) [trT a, u])) = _
      rw [here_eq h2, if_neg (fun z => z.elim (fun z => nomatch z) fun z => z w.1), s2]
      show R.ok (true, trC (.cmp o a b)) _ = _
      congr 1
      rw [List.length_append, List.length_cons]
      omega
    refine ⟨nt, fun n k d r n1 n2 h q => ⟨0, Nat.zero_le _, ?_⟩, fun n k d r n1 n2 h q p => ⟨0, Nat.zero_le _, ?_⟩⟩
    · rw [tk 1 (by decide), ← tk 2 (by decide)] at h ⊢
      exact and_of_not (nt n k d r n1 n2 h q)
    · rw [tk 0 (by decide), ← tk 2 (by decide)] at h ⊢
      exact or_of_and (j := 0) (Nat.zero_le _) (and_of_not (nt n k d r n1 n2 h q)) (drop_l h) p
  | .neg c, g => by
    have C := par_C c g
    have dp : (Cd.neg c).deep = c.deep + 1 := rfl
    have dc : 2 ≤ c.deep := by
      cases c with
      | cmp o a b => have : 1 ≤ a.deep := by cases a <;> simp [G7.Tm.deep]
                     simp only [Cd.deep]; omega
      | neg c => cases c <;> simp only [Cd.deep] <;> omega
      | con o a b => cases a <;> simp only [Cd.deep] <;> omega
    have tk : ∀ n, n ≤ 2 → tkC (.neg c) n = Str.ofString "not" :: tkC c 2 := fun n hn => by
      show brK 2 n (Str.ofString "not" :: tkC c 2) = _
      unfold brK
      rw [if_neg (by omega)]
    have nt : ∀ (n k d : Nat) (r : List Str), (Cd.neg c).deep ≤ n + 2 → (Cd.neg c).deep + d ≤ 22 → ws.drop k = tkC (.neg c) 2 ++ r → endT r → not_ ws (lv ws n) k d = .ok (true, trC (.neg c)) (k + (tkC (.neg c) 2).length) := fun n k d r n1 n2 h q => by
      rw [tk 2 (by decide)] at h ⊢
      obtain ⟨n', rfl⟩ : ∃ n', n = n' + 1 := ⟨n - 1, by omega⟩
      have h3 : ws.drop (k + 1) = tkC c 2 ++ r := drop_1 h
      unfold not_
      rw [here_eq (r := tkC c 2 ++ r) h, if_neg (fun z => z rfl), if_neg (by omega)]
      show ((not_ ws (lv ws n') (k + 1) (d + 1)).bind fun r k1 => if r.1 = true then R.ok (true, Nm.Tr.node "not" [r.2]) k1 else .err k1) = _
      rw [C.nt n' (k + 1) (d + 1) r (by omega) (by omega) h3 q]
      show R.ok (true, trC (.neg c)) _ = _
      congr 1
      rw [List.length_cons]
      omega
    refine ⟨nt, fun n k d r n1 n2 h q => ⟨0, Nat.zero_le _, ?_⟩, fun n k d r n1 n2 h q p => ⟨0, Nat.zero_le _, ?_⟩⟩
    · rw [tk 1 (by decide), ← tk 2 (by decide)] at h ⊢
      exact and_of_not (nt n k d r n1 n2 h q)
    · rw [tk 0 (by decide), ← tk 2 (by decide)] at h ⊢
      exact or_of_and (j := 0) (Nat.zero_le _) (and_of_not (nt n k d r n1 n2 h q)) (drop_l h) p
  | .con o a b, g => by
    unfold gdKC at g
    obtain ⟨go, ga, gb⟩ := g
    have A := par_C a ga
    have B := par_C b gb
    have dp : (Cd.con o a b).deep = max a.deep b.deep + 1 := rfl
    have da : 2 ≤ a.deep := by
      cases a with
      | cmp o a b => have : 1 ≤ a.deep := by cases a <;> simp [G7.Tm.deep]
                     simp only [Cd.deep]; omega
      | neg c => cases c <;> simp only [Cd.deep] <;> omega
      | con o a b => cases a <;> simp only [Cd.deep] <;> omega
    generalize hm : Cd.con o a b = c at dp
    have et : trC c = .node o.s [trC a, trC b] := by rw [← hm]; rfl
    have tk : ∀ n, tkC c n = brK o.lvl n (tkC a o.lvl ++ o.s :: tkC b (o.lvl + 1)) := fun n => by rw [← hm]; rfl
    have oo : o = .and ∨ o = .or := by cases o <;> first | exact .inl rfl | exact .inr rfl | cases go
    rcases oo with rfl | rfl
    · -- and
      have t1 : tkC c 1 = tkC a 1 ++ Str.ofString "and" :: tkC b 2 := by rw [tk]; rfl
      have t0 : tkC c 0 = tkC c 1 := by rw [tk, tk]; rfl
      have t2 : tkC c 2 = Str.ofString "(" :: (tkC c 0 ++ [Str.ofString ")"]) := by rw [tk, tk]; rfl
      have ew : endT (Str.ofString "and" :: tkC b 2) := by
        show Str.ofString "and" ≠ _ ∧ Str.ofString "and" ≠ _ ∧ Str.ofString "and" ≠ _ ∧ Str.ofString "and" ≠ _
        decide +kernel
      have an : ∀ (n k d : Nat) (r : List Str), c.deep ≤ n + 3 → c.deep + d ≤ 23 → ws.drop k = tkC c 1 ++ r → endT r → ∃ j, j ≤ (tkC c 1).length ∧ and_ ws (lv ws n) k d = joinLoop ws "and" (notF ws n d) (ws.length + 1 - j) (trC c) (k + (tkC c 1).length) := fun n k d r n1 n2 h q => by
        rw [t1, List.append_assoc] at h
        obtain ⟨j, hj, e⟩ := A.an n k d (Str.ofString "and" :: tkC b 2 ++ r) (by omega) (by omega) h ew
        have h2 := drop_l h
        have h3 := drop_1 h2
        have h4 := drop_l h3
        have la := len_of h
        refine ⟨j + 1, by rw [t1, List.length_append, List.length_cons]; omega, ?_⟩
        rw [e, show ws.length + 1 - j = (ws.length + 1 - (j + 1)) + 1 by omega]
        show (if here ws (k + (tkC a 1).length) = "and" then (not_ ws (lv ws n) (k + (tkC a 1).length + 1) d).bind _ else _) = _
        rw [here_eq h2, if_pos rfl, B.nt n _ d r (by omega) (by omega) h3 q, et]
        show joinLoop ws "and" (notF ws n d) _ (Nm.Tr.node "and" [trC a, trC b]) _ = joinLoop ws "and" (notF ws n d) _ (Nm.Tr.node "and" [trC a, trC b]) _
        congr 1
        rw [t1, List.length_append, List.length_cons]
        omega
      have or : ∀ (n k d : Nat) (r : List Str), c.deep ≤ n + 3 → c.deep + d ≤ 23 → ws.drop k = tkC c 0 ++ r → endT r → hd r ≠ "and" → ∃ j, j ≤ (tkC c 0).length ∧ or_ ws (lv ws n) k d = joinLoop ws "or" (andF ws n d) (ws.length + 1 - j) (trC c) (k + (tkC c 0).length) := fun n k d r n1 n2 h q p => by
        rw [t0] at h ⊢
        obtain ⟨j, hj, e⟩ := an n k d r n1 n2 h q
        have := len_of h
        exact ⟨0, Nat.zero_le _, or_of_and (by omega) e (drop_l h) p⟩
      refine ⟨fun n k d r n1 n2 h q => ?_, fun n k d r n1 n2 h q => an n k d r (by omega) (by omega) h q, fun n k d r n1 n2 h q p => or n k d r (by omega) (by omega) h q p⟩
      rw [t2] at h ⊢
      have h1 : ws.drop (k + 1) = tkC c 0 ++ Str.ofString ")" :: r := drop_1 (w := "(") (by rw [h]; simp)
      refine not_br (by omega) (by omega) h fun n' en => ?_
      obtain ⟨j, hj, e⟩ := or n' (k + 1) (d + 1) (Str.ofString ")" :: r) (by omega) (by omega) h1 (endT_br r) (by show Str.ofString ")" ≠ _; decide +kernel)
      have := len_of h1
      rw [e]
      exact join_end (by omega) (drop_l h1) (by show Str.ofString ")" ≠ _; decide +kernel)
    · -- or
      have t0 : tkC c 0 = tkC a 0 ++ Str.ofString "or" :: tkC b 1 := by rw [tk]; rfl
      have t1 : tkC c 1 = Str.ofString "(" :: (tkC c 0 ++ [Str.ofString ")"]) := by rw [tk, tk]; rfl
      have t2 : tkC c 2 = tkC c 1 := by rw [tk, tk]; rfl
      have ew : endT (Str.ofString "or" :: tkC b 1) := by
        show Str.ofString "or" ≠ _ ∧ Str.ofString "or" ≠ _ ∧ Str.ofString "or" ≠ _ ∧ Str.ofString "or" ≠ _
        decide +kernel
      have or : ∀ (n k d : Nat) (r : List Str), c.deep ≤ n + 3 → c.deep + d ≤ 23 → ws.drop k = tkC c 0 ++ r → endT r → hd r ≠ "and" → ∃ j, j ≤ (tkC c 0).length ∧ or_ ws (lv ws n) k d = joinLoop ws "or" (andF ws n d) (ws.length + 1 - j) (trC c) (k + (tkC c 0).length) := fun n k d r n1 n2 h q p => by
        rw [t0, List.append_assoc] at h
        obtain ⟨j, hj, e⟩ := A.or n k d (Str.ofString "or" :: tkC b 1 ++ r) (by omega) (by omega) h ew (by show Str.ofString "or" ≠ _; decide +kernel)
        have h2 := drop_l h
        have h3 := drop_1 h2
        have h4 := drop_l h3
        obtain ⟨j2, hj2, e2⟩ := B.an n _ d r (by omega) (by omega) h3 q
        have la := len_of h
        have lb := len_of h3
        refine ⟨j + 1, by rw [t0, List.length_append, List.length_cons]; omega, ?_⟩
        rw [e, show ws.length + 1 - j = (ws.length + 1 - (j + 1)) + 1 by omega]
        show (if here ws (k + (tkC a 0).length) = "or" then (and_ ws (lv ws n) (k + (tkC a 0).length + 1) d).bind _ else _) = _
        rw [here_eq h2, if_pos rfl, e2, join_end (by omega) h4 p, et]
        show joinLoop ws "or" (andF ws n d) _ (Nm.Tr.node "or" [trC a, trC b]) _ = joinLoop ws "or" (andF ws n d) _ (Nm.Tr.node "or" [trC a, trC b]) _
        congr 1
        rw [t0, List.length_append, List.length_cons]
        omega
      have nt : ∀ (n k d : Nat) (r : List Str), c.deep ≤ n + 2 → c.deep + d ≤ 22 → ws.drop k = tkC c 2 ++ r → endT r → not_ ws (lv ws n) k d = .ok (true, trC c) (k + (tkC c 2).length) := fun n k d r n1 n2 h q => by
        rw [t2, t1] at h ⊢
        have h1 : ws.drop (k + 1) = tkC c 0 ++ Str.ofString ")" :: r := drop_1 (w := "(") (by rw [h]; simp)
        refine not_br (by omega) (by omega) h fun n' en => ?_
        obtain ⟨j, hj, e⟩ := or n' (k + 1) (d + 1) (Str.ofString ")" :: r) (by omega) (by omega) h1 (endT_br r) (by show Str.ofString ")" ≠ _; decide +kernel)
        have := len_of h1
        rw [e]
        exact join_end (by omega) (drop_l h1) (by show Str.ofString ")" ≠ _; decide +kernel)
      refine ⟨nt, fun n k d r n1 n2 h q => ⟨0, Nat.zero_le _, ?_⟩, fun n k d r n1 n2 h q p => or n k d r (by omega) (by omega) h q p⟩
      rw [← t2] at h ⊢
      exact and_of_not (nt n k d r n1 n2 h q)
/-- what may stand behind a condition -/
def endC (r : List Str) : Prop := endT r ∧ hd r ≠ "and" ∧ hd r ≠ "or"
theorem cond_C {c : Cd} (g : gdKC c) {n k d : Nat} {r : List Str} (n1 : c.deep ≤ n + 2) (n2 : c.deep + d ≤ 22) (h : ws.drop k = tkC c 0 ++ r) (q : endC r) : Rd.cond ws (lv ws n) k d = .ok (trC c) (k + (tkC c 0).length) := by
  obtain ⟨j, hj, e⟩ := (par_C c g).or n k d r n1 n2 h q.1 q.2.1
  have := len_of h
  unfold Rd.cond
  rw [e, join_end (by omega) (drop_l h) q.2.2]
  rfl
end
end Rd

set_option linter.all false
set_option Elab.async false
set_option maxRecDepth 100000
set_option maxHeartbeats 4000000
/-! statements as words, and what is read of these -/
namespace Rd
open PySem PySem.Spec PyProof.Rows L2 G7 Nm
inductive St where
  | alone (w : Str)
  | table (t : Str) (fs : List Str)
  | index (t f : Str)
  | put (t : Str) (ns : List Int)
  | set (t : Str) (ss : List (Str × G7.Tm)) (c : Option Cd)
  | strike (t : Str) (c : Option Cd)
  | ask (how : Str) (tm : List G7.Tm) (ts : List Str) (c : Option Cd) (bys : List G7.Tm) (first : OI)
def St.sm : St → Sm
  | .alone w => .alone w
  | .table t fs => .table t fs
  | .index t f => .index t f
  | .put t ns => .put t ns
  | .set t ss c => .set t (ss.map fun s => (s.1, trT s.2)) (c.map trC)
  | .strike t c => .strike t (c.map trC)
  | .ask how tm ts c bys first => .ask how (tm.map trT) ts (c.map trC) (bys.map trT) first
/-- with a word between -/
def sepK (w : Str) : List (List Str) → List Str
  | [] => []
  | x :: xs => x ++ (xs.map (w :: ·)).flatten
def whereK : Option Cd → List Str
  | none => []
  | some c => Str.ofString "where" :: tkC c 0
def byK (bys : List G7.Tm) : List Str := if bys.length = 0 then [] else Str.ofString "by" :: sepK "," (bys.map fun t => tkT t 4)
def firstK : OI → List Str
  | none => []
  | some i => ["first", D72.strI i]
def St.tk : St → List Str
  | .alone w => [w]
  | .table t fs => Str.ofString "table" :: t :: fs
  | .index t f => ["index", t, f]
  | .put t ns => Str.ofString "put" :: t :: (ns.map numK).flatten
  | .set t ss c => Str.ofString "set" :: t :: (sepK "," (ss.map fun s => s.1 :: Str.ofString "=" :: tkT s.2 4) ++ whereK c)
  | .strike t c => Str.ofString "strike" :: t :: whereK c
  | .ask how tm ts c bys first => how :: (sepK "," (tm.map fun t => tkT t 4) ++ Str.ofString "from" :: (sepK "and" (ts.map fun t => [t]) ++ (whereK c ++ (byK bys ++ firstK first))))
def gdO (c : Option Cd) : Prop := ∀ x, c = some x → gdKC x ∧ x.deep ≤ 8
def gdM (ts : List G7.Tm) : Prop := ∀ t ∈ ts, gdK t ∧ t.deep ≤ 8
def St.good : St → Prop
  | .alone w => w ∈ (["begin", "done", "undo"] : List Str)
  | .table t fs => isName t = true ∧ 1 ≤ fs.length ∧ fs.length ≤ 4 ∧ ∀ f ∈ fs, isName f = true
  | .index t f => isName t = true ∧ isName f = true
  | .put t ns => isName t = true ∧ 1 ≤ ns.length ∧ ns.length ≤ 4 ∧ ∀ n ∈ ns, gdK (.num n)
  | .set t ss c => isName t = true ∧ 1 ≤ ss.length ∧ ss.length ≤ 3 ∧ (∀ s ∈ ss, isName s.1 = true ∧ gdK s.2 ∧ s.2.deep ≤ 8) ∧ gdO c
  | .strike t c => isName t = true ∧ gdO c
  | .ask how tm ts c bys first => (how = "pick" ∧ 1 ≤ tm.length ∧ tm.length ≤ 6 ∧ bys.length ≤ 3 ∧ (∀ i, first = some i → 0 ≤ i ∧ gdK (.num i)) ∨ how = "count" ∧ tm.length = 0 ∧ bys.length = 0 ∧ first = none ∨ how ∈ (["sum", "least", "most"] : List Str) ∧ tm.length = 1 ∧ bys.length = 0 ∧ first = none) ∧
      1 ≤ ts.length ∧ ts.length ≤ 3 ∧ (∀ t ∈ ts, isName t = true) ∧ gdM tm ∧ gdO c ∧ gdM bys
section
variable {ws : List Str}
theorem number_ok {i : Int} (g : gdK (.num i)) {k : Nat} {r : List Str} (h : ws.drop k = numK i ++ r) : nextNumber ws k = .ok i (k + (numK i).length) := by
  unfold nextNumber
  unfold gdK at g
  unfold numK at h ⊢
  by_cases c : i < 0
  · rw [if_pos c] at h ⊢
    rw [if_pos c] at g
    have h2 := drop_1 h
    rw [here_eq h, if_pos rfl, here_eq h2, if_pos ⟨g.1, g.2.2 c⟩, g.2.1]
    show R.ok (0 - (0 - i)) (k + 2) = _
    rw [show 0 - (0 - i) = i by omega]
    rfl
  · rw [if_neg c] at h ⊢
    rw [if_neg c] at g
    rw [here_eq h, if_neg (num_ne g.1 (by decide +kernel)), if_pos g.1, g.2.1]
    rfl
theorem name_ok {t : Str} (g : isName t = true) {k : Nat} {r : List Str} (h : ws.drop k = t :: r) : nextName ws k = .ok t (k + 1) := by
  unfold nextName
  rw [here_eq h, if_pos g]
theorem some_loop {α β : Type} {one : Nat → R α} {f : β → α} {tb : β → List Str} {E : List Str → Prop} (hE : ∀ r, E (Str.ofString "," :: r)) : ∀ (bs : List β) (n : Nat) (acc : List α) (k : Nat) (r : List Str),
    (∀ b ∈ bs, ∀ k r, ws.drop k = tb b ++ r → E r → one k = .ok (f b) (k + (tb b).length)) → bs.length ≤ n → E r → hd r ≠ "," → ws.drop k = (bs.map fun b => Str.ofString "," :: tb b).flatten ++ r → someLoop ws one n acc k = .ok (acc ++ bs.map f) (k + ((bs.map fun b => Str.ofString "," :: tb b).flatten).length)
  | [], n, acc, k, r, _, _, e, q, h => by
    have h : ws.drop k = r := h
    rw [List.map_nil, List.append_nil]
    cases n with
    | zero => rfl
    | succ n =>
      unfold someLoop
      rw [here_hd h, if_neg q]
      rfl
  | b :: bs, 0, _, _, _, _, l, _, _, _ => by simp at l
  | b :: bs, n + 1, acc, k, r, g, l, e, q, h => by
    have h : ws.drop k = Str.ofString "," :: (tb b ++ ((bs.map fun b => Str.ofString "," :: tb b).flatten ++ r)) := by rw [h]; simp
    have h1 := drop_1 h
    have h2 := drop_l h1
    have e1 : E ((bs.map fun b => Str.ofString "," :: tb b).flatten ++ r) := by
      cases bs with
      | nil => exact e
      | cons x y => exact hE _
    unfold someLoop
    rw [here_eq h, if_pos rfl, g b List.mem_cons_self _ _ h1 e1]
    show someLoop ws one n (acc ++ [f b]) _ = _
    rw [some_loop hE bs n _ _ r (fun x hx => g x (List.mem_cons_of_mem _ hx)) (by simpa using l) e q h2, List.append_assoc]
    show R.ok (acc ++ (f b :: bs.map f)) _ = R.ok (acc ++ (f b :: bs.map f)) _
    congr 1
    simp only [List.map_cons, List.flatten_cons, List.length_append, List.length_cons]
    omega
theorem some_ok {α β : Type} {one : Nat → R α} {f : β → α} {tb : β → List Str} {E : List Str → Prop} (hE : ∀ r, E (Str.ofString "," :: r)) {bs : List β} {m k : Nat} {r : List Str} (hone : ∀ b ∈ bs, ∀ k r, ws.drop k = tb b ++ r → E r → one k = .ok (f b) (k + (tb b).length))
    (h1 : 1 ≤ bs.length) (hm : bs.length ≤ m) (e : E r) (q : hd r ≠ ",") (h : ws.drop k = sepK "," (bs.map tb) ++ r) : some_ ws one m k = .ok (bs.map f) (k + (sepK "," (bs.map tb)).length) := by
  cases bs with
  | nil => simp at h1
  | cons b bs =>
    have em : ((bs.map tb).map (Str.ofString "," :: ·)).flatten = (bs.map fun b => Str.ofString "," :: tb b).flatten := by rw [List.map_map]; rfl
    have es : sepK "," ((b :: bs).map tb) = tb b ++ (bs.map fun b => Str.ofString "," :: tb b).flatten := by
      show tb b ++ _ = _
      rw [em]
    rw [es] at h ⊢
    rw [List.append_assoc] at h
    have h2 := drop_l h
    have e1 : E ((bs.map fun b => Str.ofString "," :: tb b).flatten ++ r) := by
      cases bs with
      | nil => exact e
      | cons x y => exact hE _
    unfold some_
    rw [hone b List.mem_cons_self _ _ h e1]
    show someLoop ws one (m - 1) [f b] _ = _
    rw [some_loop hE bs (m - 1) [f b] _ r (fun x hx => hone x (List.mem_cons_of_mem _ hx)) (by simp at hm; omega) e q h2]
    show R.ok (f b :: bs.map f) _ = R.ok (f b :: bs.map f) _
    congr 1
    rw [List.length_append]
    omega
theorem endT_co (r : List Str) : endT (Str.ofString "," :: r) := by
  show Str.ofString "," ≠ _ ∧ Str.ofString "," ≠ _ ∧ Str.ofString "," ≠ _ ∧ Str.ofString "," ≠ _
  decide +kernel
theorem tabs_loop : ∀ (ts : List Str) (n : Nat) (acc : List Str) (k : Nat) (r : List Str), (∀ t ∈ ts, isName t = true) → ts.length ≤ n → hd r ≠ "and" → ws.drop k = (ts.map fun t => [Str.ofString "and", t]).flatten ++ r →
    tabsLoop ws n acc k = .ok (acc ++ ts) (k + ((ts.map fun t => [Str.ofString "and", t]).flatten).length)
  | [], n, acc, k, r, _, _, q, h => by
    have h : ws.drop k = r := h
    rw [List.append_nil]
    cases n with
    | zero => rfl
    | succ n =>
      unfold tabsLoop
      rw [here_hd h, if_neg q]
      rfl
  | t :: ts, 0, _, _, _, _, l, _, _ => by simp at l
  | t :: ts, n + 1, acc, k, r, g, l, q, h => by
    have h : ws.drop k = Str.ofString "and" :: (t :: ((ts.map fun t => [Str.ofString "and", t]).flatten ++ r)) := by rw [h]; simp
    have h1 := drop_1 h
    have h2 := drop_1 h1
    unfold tabsLoop
    rw [here_eq h, if_pos rfl, name_ok (g t List.mem_cons_self) h1]
    show tabsLoop ws n (acc ++ [t]) _ = _
    rw [tabs_loop ts n _ _ r (fun x hx => g x (List.mem_cons_of_mem _ hx)) (by simpa using l) q h2, List.append_assoc]
    show R.ok (acc ++ (t :: ts)) _ = R.ok (acc ++ (t :: ts)) _
    congr 1
    simp only [List.map_cons, List.flatten_cons, List.length_append, List.length_cons, List.length_nil]
    omega
theorem names_loop : ∀ (ts : List Str) (n : Nat) (acc : List Str) (k : Nat), (∀ t ∈ ts, isName t = true) → ts.length ≤ n → ws.drop k = ts → namesLoop ws n acc k = .ok (acc ++ ts) (k + ts.length)
  | [], n, acc, k, _, _, h => by
    rw [List.append_nil]
    cases n with
    | zero => rfl
    | succ n =>
      unfold namesLoop
      rw [here_hd h, if_neg (by show ¬ isName "" = true; decide +kernel)]
      rfl
  | t :: ts, 0, _, _, _, l, _ => by simp at l
  | t :: ts, n + 1, acc, k, g, l, h => by
    have h1 := drop_1 h
    unfold namesLoop
    rw [here_eq h, if_pos (g t List.mem_cons_self)]
    rw [names_loop ts n _ _ (fun x hx => g x (List.mem_cons_of_mem _ hx)) (by simpa using l) h1, List.append_assoc]
    show R.ok (acc ++ (t :: ts)) _ = R.ok (acc ++ (t :: ts)) _
    congr 1
    rw [List.length_cons]
    omega
theorem nums_loop : ∀ (ts : List Int) (n : Nat) (acc : List Int) (k : Nat), (∀ t ∈ ts, gdK (.num t)) → ts.length ≤ n → ws.drop k = (ts.map numK).flatten → numsLoop ws n acc k = .ok (acc ++ ts) (k + ((ts.map numK).flatten).length)
  | [], n, acc, k, _, _, h => by
    rw [List.append_nil]
    cases n with
    | zero => rfl
    | succ n =>
      unfold numsLoop
      rw [here_hd h, if_neg (fun z => z rfl)]
      rfl
  | t :: ts, 0, _, _, _, l, _ => by simp at l
  | t :: ts, n + 1, acc, k, g, l, h => by
    have h : ws.drop k = numK t ++ (ts.map numK).flatten := h
    have h1 := drop_l h
    have gt := g t List.mem_cons_self
    obtain ⟨w, r', e, hw⟩ := numK_hd gt
    have hn : here ws k ≠ "" := by
      rw [here_hd h, e]
      show w ≠ ""
      rcases hw with hw | hw
      · rw [hw]; decide +kernel
      · exact num_ne hw (by decide +kernel)
    unfold numsLoop
    rw [if_pos hn, number_ok gt h]
    show numsLoop ws n (acc ++ [t]) _ = _
    rw [nums_loop ts n _ _ (fun x hx => g x (List.mem_cons_of_mem _ hx)) (by simpa using l) h1, List.append_assoc]
    show R.ok (acc ++ (t :: ts)) _ = R.ok (acc ++ (t :: ts)) _
    congr 1
    simp only [List.map_cons, List.flatten_cons, List.length_append]
    omega
theorem endC_of {r : List Str} (h : hd r ∈ (["", "by", "first"] : List Str)) : endC r ∧ hd r ≠ "," ∧ hd r ≠ "where" := by
  unfold endC endT
  generalize hd r = w at *
  simp only [List.mem_cons, List.not_mem_nil, or_false] at h
  rcases h with rfl | rfl | rfl <;> decide +kernel
theorem where_ok {c : Option Cd} (g : gdO c) {k : Nat} {r : List Str} (h : ws.drop k = whereK c ++ r) (q : hd r ∈ (["", "by", "first"] : List Str)) : where_ ws (lv ws 7) k = .ok (c.map trC) (k + (whereK c).length) := by
  have q := endC_of q
  unfold where_
  cases c with
  | none =>
    rw [here_hd (show ws.drop k = r from h), if_neg q.2.2]
    rfl
  | some c =>
    have h : ws.drop k = Str.ofString "where" :: (tkC c 0 ++ r) := h
    have h1 := drop_1 h
    obtain ⟨g1, g2⟩ := g c rfl
    rw [here_eq h, if_pos rfl, cond_C g1 (by omega) (by omega) h1 q.1]
    show R.ok (some (trC c)) _ = R.ok (some (trC c)) _
    congr 1
    show _ = k + (Str.ofString "where" :: tkC c 0).length
    rw [List.length_cons]
    omega
theorem whereK_hd {c : Option Cd} {r : List Str} (h : hd r ∈ (["", "by", "first"] : List Str)) : hd (whereK c ++ r) ∈ (["", "by", "first", "where"] : List Str) := by
  cases c with
  | none =>
    show hd r ∈ _
    simp only [List.mem_cons, List.not_mem_nil, or_false] at h ⊢
    rcases h with h | h | h <;> rw [h] <;> decide +kernel
  | some c => show Str.ofString "where" ∈ _; decide +kernel
theorem endT_of {r : List Str} (h : hd r ∈ (["", "by", "first", "where", "from"] : List Str)) : endT r ∧ hd r ≠ "," ∧ hd r ≠ "and" := by
  unfold endT
  generalize hd r = w at *
  simp only [List.mem_cons, List.not_mem_nil, or_false] at h
  rcases h with rfl | rfl | rfl | rfl | rfl <;> decide +kernel
theorem terms_ok {ts : List G7.Tm} (g : gdM ts) {m k : Nat} {r : List Str} (h1 : 1 ≤ ts.length) (hm : ts.length ≤ m) (h : ws.drop k = sepK "," (ts.map fun t => tkT t 4) ++ r) (q : hd r ∈ (["", "by", "first", "where", "from"] : List Str)) :
    some_ ws (fun k => term ws (lv ws 7) k 0) m k = .ok (ts.map trT) (k + (sepK "," (ts.map fun t => tkT t 4)).length) := by
  have q := endT_of q
  exact some_ok (E := endT) endT_co (fun t ht k r h e => term_T (g t ht).1 (by have := (g t ht).2; omega) (by have := (g t ht).2; omega) h e) h1 hm q.1 q.2.1 h
theorem firstK_hd (first : OI) : hd (firstK first) ∈ (["", "by", "first"] : List Str) := by
  cases first with
  | none => show Str.ofString "" ∈ _; decide +kernel
  | some i => show Str.ofString "first" ∈ _; decide +kernel
theorem byK_hd {bys : List G7.Tm} {r : List Str} (h : hd r ∈ (["", "by", "first"] : List Str)) : hd (byK bys ++ r) ∈ (["", "by", "first"] : List Str) := by
  unfold byK
  split
  · exact h
  · show Str.ofString "by" ∈ _; decide +kernel
theorem ask_ok {how : Str} {tm : List G7.Tm} {ts : List Str} {c : Option Cd} {bys : List G7.Tm} {first : OI} (g : (St.ask how tm ts c bys first).good) {k : Nat} (h : ws.drop k = (St.ask how tm ts c bys first).tk) :
    question ws (lv ws 7) k = .ok (St.ask how tm ts c bys first).sm (k + (St.ask how tm ts c bys first).tk.length) := by
  obtain ⟨gh, t1, t3, gt, gm, gc, gb⟩ := g
  have h : ws.drop k = how :: (sepK "," (tm.map fun t => tkT t 4) ++ (Str.ofString "from" :: (sepK "and" (ts.map fun t => [t]) ++ (whereK c ++ (byK bys ++ firstK first))))) := h
  have h1 := drop_1 h
  have h2 := drop_l h1
  have h3 := drop_1 h2
  have q5 : hd (byK bys ++ firstK first) ∈ (["", "by", "first"] : List Str) := byK_hd (firstK_hd first)
  have q4 := whereK_hd (c := c) q5
  have eT : askT ws (lv ws 7) how (k + 1) = .ok (tm.map trT) (k + 1 + (sepK "," (tm.map fun t => tkT t 4)).length) := by
    unfold askT
    rcases gh with ⟨rfl, a1, a2, _⟩ | ⟨rfl, a1, _⟩ | ⟨hh, a1, _⟩
    · rw [if_pos rfl]
      exact terms_ok gm a1 a2 h1 (by show Str.ofString "from" ∈ _; decide +kernel)
    · rw [if_neg (by decide +kernel), if_pos rfl, List.eq_nil_of_length_eq_zero a1]
      rfl
    · have n1 : how ≠ "pick" ∧ how ≠ "count" := by
        simp only [List.mem_cons, List.not_mem_nil, or_false] at hh
        rcases hh with rfl | rfl | rfl <;> decide +kernel
      match tm, a1, gm, h1 with
      | [t], _, gm, h1 =>
        obtain ⟨g1, g2⟩ := gm t List.mem_cons_self
        have e : sepK "," ([t].map fun t => tkT t 4) = tkT t 4 := by show tkT t 4 ++ [] = _; rw [List.append_nil]
        rw [e] at h1 ⊢
        rw [if_neg n1.1, if_neg n1.2, term_T g1 (by omega) (by omega) h1 (endT_of (by show Str.ofString "from" ∈ _; decide +kernel)).1]
        rfl
  unfold question
  rw [here_eq h, eT]
  show askD ws (lv ws 7) how (tm.map trT) _ = _
  obtain ⟨t, ts, rfl⟩ : ∃ t r, ts = t :: r := by cases ts with
    | nil => simp at t1
    | cons t r => exact ⟨t, r, rfl⟩
  have es : sepK "and" ((t :: ts).map fun t => [t]) = t :: (ts.map fun t => [Str.ofString "and", t]).flatten := by
    show [t] ++ ((ts.map fun t => [t]).map (Str.ofString "and" :: ·)).flatten = _
    rw [List.map_map]
    rfl
  rw [es] at h3
  have h3 : ws.drop (k + 1 + (sepK "," (tm.map fun t => tkT t 4)).length + 1) = t :: ((ts.map fun t => [Str.ofString "and", t]).flatten ++ (whereK c ++ (byK bys ++ firstK first))) := h3
  have h4 := drop_1 h3
  have h5 := drop_l h4
  have h6 := drop_l h5
  have h7 := drop_l h6
  unfold askD need
  rw [here_eq h2, if_pos rfl]
  show ((nextName ws _).bind fun t k3 => (tabsLoop ws 2 [t] k3).bind fun ts k4 => askC ws (lv ws 7) how _ ts k4) = _
  rw [name_ok (gt t List.mem_cons_self) h3]
  show ((tabsLoop ws 2 [t] _).bind fun ts k4 => askC ws (lv ws 7) how _ ts k4) = _
  have q4' : hd (whereK c ++ (byK bys ++ firstK first)) ≠ "and" := by
    generalize hd (whereK c ++ (byK bys ++ firstK first)) = w at q4
    simp only [List.mem_cons, List.not_mem_nil, or_false] at q4
    rcases q4 with rfl | rfl | rfl | rfl <;> decide +kernel
  rw [tabs_loop ts 2 [t] _ _ (fun x hx => gt x (List.mem_cons_of_mem _ hx)) (by simp at t3; omega) q4' h4]
  show askC ws (lv ws 7) how _ (t :: ts) _ = _
  unfold askC
  rw [where_ok gc h5 q5]
  show askB ws (lv ws 7) how _ (t :: ts) _ _ = _
  unfold askB
  have eB : (if how = "pick" ∧ here ws (k + 1 + (sepK "," (tm.map fun t => tkT t 4)).length + 1 + 1 + ((ts.map fun t => [Str.ofString "and", t]).flatten).length + (whereK c).length) = "by" then some_ ws (fun k => term ws (lv ws 7) k 0) 3 (k + 1 + (sepK "," (tm.map fun t => tkT t 4)).length + 1 + 1 + ((ts.map fun t => [Str.ofString "and", t]).flatten).length + (whereK c).length + 1)
      else .ok [] (k + 1 + (sepK "," (tm.map fun t => tkT t 4)).length + 1 + 1 + ((ts.map fun t => [Str.ofString "and", t]).flatten).length + (whereK c).length)) = .ok (bys.map trT) (k + 1 + (sepK "," (tm.map fun t => tkT t 4)).length + 1 + 1 + ((ts.map fun t => [Str.ofString "and", t]).flatten).length + (whereK c).length + (byK bys).length) := by
    generalize k + 1 + (sepK "," (tm.map fun t => tkT t 4)).length + 1 + 1 + ((ts.map fun t => [Str.ofString "and", t]).flatten).length + (whereK c).length = k6 at h6
    unfold byK at h6 ⊢
    by_cases c0 : bys.length = 0
    · rw [if_pos c0] at h6 ⊢
      have q := firstK_hd first
      have n : hd (firstK first) ≠ "by" := by
        cases first with
        | none => show Str.ofString "" ≠ _; decide +kernel
        | some i => show Str.ofString "first" ≠ _; decide +kernel
      rw [if_neg (fun z => n ((here_hd (show ws.drop k6 = firstK first from h6)).symm.trans z.2)), List.eq_nil_of_length_eq_zero c0]
      rfl
    · rw [if_neg c0] at h6 ⊢
      have h6 : ws.drop k6 = Str.ofString "by" :: (sepK "," (bys.map fun t => tkT t 4) ++ firstK first) := h6
      have hp : how = "pick" ∧ bys.length ≤ 3 := by
        rcases gh with ⟨rfl, _, _, a3, _⟩ | ⟨_, _, a, _⟩ | ⟨_, _, a, _⟩
        · exact ⟨rfl, a3⟩
        · exact absurd a c0
        · exact absurd a c0
      have q := firstK_hd first
      rw [if_pos ⟨hp.1, here_eq h6⟩, terms_ok gb (by omega) hp.2 (drop_1 h6) (by
        simp only [List.mem_cons, List.not_mem_nil, or_false] at q ⊢
        rcases q with q | q | q <;> rw [q] <;> decide +kernel)]
      show R.ok (bys.map trT) _ = R.ok (bys.map trT) _
      congr 1
      rw [List.length_cons]
      omega
  rw [eB]
  show askA ws how _ (t :: ts) _ (bys.map trT) _ = _
  have total : (St.ask how tm (t :: ts) c bys first).tk.length = 1 + (sepK "," (tm.map fun t => tkT t 4)).length + 1 + 1 + ((ts.map fun t => [Str.ofString "and", t]).flatten).length + (whereK c).length + (byK bys).length + (firstK first).length := by
    show (how :: (sepK "," (tm.map fun t => tkT t 4) ++ (Str.ofString "from" :: (sepK "and" ((t :: ts).map fun t => [t]) ++ (whereK c ++ (byK bys ++ firstK first)))))).length = _
    rw [es]
    simp only [List.length_cons, List.length_append]
    omega
  rw [total]
  generalize hk7 : k + 1 + (sepK "," (tm.map fun t => tkT t 4)).length + 1 + 1 + ((ts.map fun t => [Str.ofString "and", t]).flatten).length + (whereK c).length + (byK bys).length = k7 at h7 ⊢
  rw [show k + (1 + (sepK "," (tm.map fun t => tkT t 4)).length + 1 + 1 + ((ts.map fun t => [Str.ofString "and", t]).flatten).length + (whereK c).length + (byK bys).length + (firstK first).length) = k7 + (firstK first).length by omega]
  unfold askA
  cases first with
  | none =>
    rw [if_neg (fun z => absurd (z.2.symm.trans (here_hd (show ws.drop k7 = [] from h7))) (by show ¬ Str.ofString "first" = Str.ofString ""; decide +kernel))]
    rfl
  | some i =>
    have h7 : ws.drop k7 = [Str.ofString "first", D72.strI i] := h7
    have hp : how = "pick" ∧ 0 ≤ i ∧ gdK (.num i) := by
      rcases gh with ⟨rfl, _, _, _, a⟩ | ⟨_, _, _, a⟩ | ⟨_, _, _, a⟩
      · exact ⟨rfl, a i rfl⟩
      · cases a
      · cases a
    have h8 := drop_1 h7
    have ek : numK i = [D72.strI i] := by unfold numK; rw [if_neg (by omega)]
    have g := hp.2.2
    unfold gdK at g
    rw [if_neg (by omega)] at g
    have en := number_ok (ws := ws) (k := k7 + 1) (r := []) hp.2.2 (by rw [ek]; exact h8)
    rw [if_pos ⟨hp.1, here_eq h7⟩, here_eq h8, if_pos g.1, en, ek]
    rfl
theorem set_ok {ss : List (Str × G7.Tm)} (g : ∀ s ∈ ss, isName s.1 = true ∧ gdK s.2 ∧ s.2.deep ≤ 8) {k : Nat} {r : List Str} (h1 : 1 ≤ ss.length) (h3 : ss.length ≤ 3) (h : ws.drop k = sepK "," (ss.map fun s => s.1 :: Str.ofString "=" :: tkT s.2 4) ++ r) (q : hd r ∈ (["", "by", "first", "where", "from"] : List Str)) :
    some_ ws (oneSet ws (lv ws 7)) 3 k = .ok (ss.map fun s => (s.1, trT s.2)) (k + (sepK "," (ss.map fun s => s.1 :: Str.ofString "=" :: tkT s.2 4)).length) := by
  have q := endT_of q
  refine some_ok (E := endT) (tb := fun s : Str × G7.Tm => s.1 :: Str.ofString "=" :: tkT s.2 4) endT_co (fun s hs k r h e => ?_) h1 h3 q.1 q.2.1 h
  obtain ⟨g1, g2, g3⟩ := g s hs
  have h : ws.drop k = s.1 :: (Str.ofString "=" :: (tkT s.2 4 ++ r)) := h
  have h2 := drop_1 h
  have h4 := drop_1 h2
  unfold oneSet need
  rw [name_ok g1 h]
  show (((if here ws (k + 1) = "=" then .ok () (k + 1 + 1) else .err (k + 1)) : R Unit).bind fun _ k2 => (term ws (lv ws 7) k2 0).map fun t => (s.1, t)) = _
  rw [here_eq h2, if_pos rfl]
  show ((term ws (lv ws 7) (k + 1 + 1) 0).map fun t => (s.1, t)) = _
  rw [term_T g2 (by omega) (by omega) h4 e]
  show R.ok (s.1, trT s.2) _ = R.ok (s.1, trT s.2) _
  congr 1
  rw [List.length_cons, List.length_cons]
  omega
theorem bind_ok {α β : Type} {a : α} {k : Nat} {f : α → Nat → R β} : (R.ok a k).bind f = f a k := rfl
theorem stm_ok {s : St} (g : s.good) {k : Nat} (h : ws.drop k = s.tk) : stm ws (lv ws 7) k = .ok s.sm (k + s.tk.length) := by
  cases s with
  | alone w =>
    unfold stm
    dsimp only
    rw [here_eq h, if_pos (show w ∈ _ from g)]
    rfl
  | table t fs =>
    obtain ⟨g1, g2, g3, g4⟩ := g
    have h : ws.drop k = Str.ofString "table" :: t :: fs := h
    have h1 := drop_1 h
    have h2 := drop_1 h1
    cases fs with
    | nil => simp at g2
    | cons f fs =>
    have h3 := drop_1 h2
    unfold stm
    dsimp only
    rw [here_eq h, if_neg (by decide +kernel), if_neg (by decide +kernel), if_neg (by decide +kernel), name_ok g1 h1, bind_ok]
    rw [if_pos rfl, name_ok (g4 f List.mem_cons_self) h2]
    show ((namesLoop ws 3 [f] _).map fun fs => Sm.table t fs) = _
    rw [names_loop fs 3 [f] _ (fun x hx => g4 x (List.mem_cons_of_mem _ hx)) (by simp at g3; omega) h3]
    show R.ok (Sm.table t (f :: fs)) _ = R.ok (Sm.table t (f :: fs)) _
    congr 1
    show _ = k + ((Str.ofString "table" :: t :: f :: fs : List Str)).length
    simp only [List.length_cons]
    omega
  | index t f =>
    have h : ws.drop k = [Str.ofString "index", t, f] := h
    have h1 := drop_1 h
    have h2 := drop_1 h1
    unfold stm
    dsimp only
    rw [here_eq h, if_neg (by decide +kernel), if_neg (by decide +kernel), if_neg (by decide +kernel), name_ok g.1 h1, bind_ok]
    rw [if_neg (by decide +kernel), if_pos rfl, name_ok g.2 h2]
    rfl
  | put t ns =>
    obtain ⟨g1, g2, g3, g4⟩ := g
    have h : ws.drop k = Str.ofString "put" :: t :: (ns.map numK).flatten := h
    have h1 := drop_1 h
    have h2 := drop_1 h1
    cases ns with
    | nil => simp at g2
    | cons n ns =>
    have h2 : ws.drop (k + 1 + 1) = numK n ++ (ns.map numK).flatten := h2
    have h3 := drop_l h2
    unfold stm
    dsimp only
    rw [here_eq h, if_neg (by decide +kernel), if_neg (by decide +kernel), if_neg (by decide +kernel), name_ok g1 h1, bind_ok]
    rw [if_neg (by decide +kernel), if_neg (by decide +kernel), if_pos rfl, number_ok (g4 n List.mem_cons_self) h2]
    show ((numsLoop ws 3 [n] _).map fun fs => Sm.put t fs) = _
    rw [nums_loop ns 3 [n] _ (fun x hx => g4 x (List.mem_cons_of_mem _ hx)) (by simp at g3; omega) h3]
    show R.ok (Sm.put t (n :: ns)) _ = R.ok (Sm.put t (n :: ns)) _
    congr 1
    show _ = k + ((Str.ofString "put" :: t :: (numK n ++ (ns.map numK).flatten) : List Str)).length
    simp only [List.length_cons, List.length_append]
    omega
  | set t ss c =>
    obtain ⟨g1, g2, g3, g4, g5⟩ := g
    have h : ws.drop k = Str.ofString "set" :: t :: (sepK "," (ss.map fun s => s.1 :: Str.ofString "=" :: tkT s.2 4) ++ whereK c) := h
    have h1 := drop_1 h
    have h2 := drop_1 h1
    have h3 := drop_l h2
    have q0 : hd ([] : List Str) ∈ (["", "by", "first"] : List Str) := by show Str.ofString "" ∈ _; decide +kernel
    have q := whereK_hd (c := c) (r := []) q0
    rw [List.append_nil] at q
    unfold stm
    dsimp only
    rw [here_eq h, if_neg (by decide +kernel), if_neg (by decide +kernel), if_neg (by decide +kernel), name_ok g1 h1, bind_ok]
    rw [if_neg (by decide +kernel), if_neg (by decide +kernel), if_neg (by decide +kernel), if_pos rfl, set_ok g4 g2 g3 h2 (by
      simp only [List.mem_cons, List.not_mem_nil, or_false] at q ⊢
      rcases q with q | q | q | q <;> rw [q] <;> decide +kernel)]
    show ((where_ ws (lv ws 7) _).map fun c => Sm.set t _ c) = _
    rw [where_ok (r := []) g5 (by rw [List.append_nil]; exact h3) q0]
    show R.ok (St.set t ss c).sm _ = R.ok (St.set t ss c).sm _
    congr 1
    show _ = k + ((Str.ofString "set" :: t :: (sepK "," (ss.map fun s => s.1 :: Str.ofString "=" :: tkT s.2 4) ++ whereK c) : List Str)).length
    simp only [List.length_cons, List.length_append]
    omega
  | strike t c =>
    obtain ⟨g1, g5⟩ := g
    have h : ws.drop k = Str.ofString "strike" :: t :: whereK c := h
    have h1 := drop_1 h
    have h2 := drop_1 h1
    have q0 : hd ([] : List Str) ∈ (["", "by", "first"] : List Str) := by show Str.ofString "" ∈ _; decide +kernel
    unfold stm
    dsimp only
    rw [here_eq h, if_neg (by decide +kernel), if_neg (by decide +kernel), if_neg (by decide +kernel), name_ok g1 h1, bind_ok]
    rw [if_neg (by decide +kernel), if_neg (by decide +kernel), if_neg (by decide +kernel), if_neg (by decide +kernel), where_ok (r := []) g5 (by rw [List.append_nil]; exact h2) q0]
    show R.ok (St.strike t c).sm _ = R.ok (St.strike t c).sm _
    congr 1
    show _ = k + ((Str.ofString "strike" :: t :: whereK c : List Str)).length
    simp only [List.length_cons]
    omega
  | ask how tm ts c bys first =>
    have hw : here ws k = how := here_eq (r := sepK "," (tm.map fun t => tkT t 4) ++ (Str.ofString "from" :: (sepK "and" (ts.map fun t => [t]) ++ (whereK c ++ (byK bys ++ firstK first))))) h
    have hh : how ∈ (["pick", "count", "sum", "least", "most"] : List Str) := by
      rcases g.1 with ⟨rfl, _⟩ | ⟨rfl, _⟩ | ⟨a, _⟩
      · decide +kernel
      · decide +kernel
      · simp only [List.mem_cons, List.not_mem_nil, or_false] at a
        rcases a with rfl | rfl | rfl <;> decide +kernel
    show stm ws (lv ws 7) k = _
    unfold stm
    dsimp only
    rw [hw, if_neg (by
      simp only [List.mem_cons, List.not_mem_nil, or_false] at hh
      rcases hh with rfl | rfl | rfl | rfl | rfl <;> decide +kernel), if_pos hh]
    exact ask_ok g h
end
/-- what is read of a statement's words -/
theorem whole_ok {s : St} (g : s.good) : whole s.tk (lv s.tk 7) = .ok s.sm s.tk.length := by
  have e := stm_ok (ws := s.tk) (k := 0) g rfl
  generalize s.tk = l at *
  unfold whole
  rw [e, Nat.zero_add]
  exact if_neg (Nat.lt_irrefl _)
theorem read_ok {s : St} (g : s.good) {x : Str} (h : toks x = s.tk) : read 7 x = .ok s.sm s.tk.length := by
  unfold read
  rw [h]
  exact whole_ok g
end Rd

set_option linter.all false
set_option Elab.async false
set_option maxRecDepth 100000
set_option maxHeartbeats 4000000
/-! texts of statements, and their words -/
namespace Rd
open PySem PySem.Spec PyProof.Rows L2 G7 Nm
theorem sg_neg {n : Int} (h : n < 0) : sg (D72.strI n) = 45 :: TL.numL (0 - n).toNat := by
  obtain ⟨m, rfl⟩ : ∃ m, n = Int.negSucc m := by
    cases n with
    | ofNat m => exact absurd h (Int.not_lt.mpr (Int.natCast_nonneg m))
    | negSucc m => exact ⟨m, rfl⟩
  show (Str.ofString (toString (Int.negSucc m))).cps.toList = _
  rw [PyProof.Rows.signs_ofString, show (0 - Int.negSucc m).toNat = m + 1 by omega]
  show ("-" ++ Nat.repr (m + 1)).toList.map Char.toNat = _
  rw [String.toList_append, List.map_append, Nat.toList_repr]
  rfl
theorem sg_pos {n : Int} (h : 0 ≤ n) : sg (D72.strI n) = TL.numL n.toNat := D72.tl_strI h
/-- a number of at most six figures -/
theorem num_is {n : Int} (h0 : 0 ≤ n) (h1 : n < 1000000) : isNumber (D72.strI n) = true ∧ numOf (D72.strI n) = n := by
  have e := sg_pos h0
  have l1 : (D72.strI n).length ≤ 6 := by
    rw [TL.len_tl]
    show (sg _).length ≤ _
    rw [e]
    exact TL.numL_len (by decide) (by omega)
  have l2 : 1 ≤ (D72.strI n).length := by
    rw [TL.len_tl]
    show 1 ≤ (sg _).length
    rw [e]
    exact List.length_pos_iff.mpr (TL.numL_ne _)
  have hz : n ≠ 0 → (TL.numL n.toNat).head? ≠ some 48 := by
    intro n0
    have : ∀ (f m : Nat), m < f → m ≠ 0 → (TL.numL m).head? ≠ some 48 := by
      intro f
      induction f with
      | zero => intro m h; omega
      | succ f ih =>
        intro m hm m0
        by_cases c : m < 10
        · rw [TL.numL_lt c]
          simp
          omega
        · rw [TL.numL_step (by omega)]
          have z := ih (m / 10) (by omega) (by omega)
          have ne := TL.numL_ne (m / 10)
          cases hh : TL.numL (m / 10) with
          | nil => exact absurd hh ne
          | cons a r => rw [hh] at z; exact z
    exact this _ _ (Nat.lt_succ_self _) (by omega)
  refine ⟨?_, ?_⟩
  · unfold isNumber
    rw [decide_eq_true l1, decide_eq_true l2, e, List.all_eq_true.mpr (fun c hc => decide_eq_true (fig_mem.mpr (TL.numL_digits _ c hc)))]
    by_cases c : n = 0
    · subst c
      decide +kernel
    · rw [decide_eq_false (hz c)]
      simp
  · unfold numOf
    rw [e, TL.numL_val]
    omega
theorem gd_num {n : Int} (h0 : -999999 ≤ n) (h1 : n ≤ 999999) : gdK (.num n) := by
  unfold gdK
  by_cases c : n < 0
  · rw [if_pos c]
    obtain ⟨a, b⟩ := num_is (n := 0 - n) (by omega) (by omega)
    refine ⟨a, b, fun _ z => ?_⟩
    rw [z] at b
    have : numOf "0" = 0 := by decide +kernel
    omega
  · rw [if_neg c]
    obtain ⟨a, b⟩ := num_is (n := n) (by omega) (by omega)
    exact ⟨a, b, fun z => absurd z c⟩
/-! texts -/
abbrev sS (s : String) : Str := Str.ofString s
def brS (m n : Nat) (s : Str) : Str := if m < n then sS "(" ++ s ++ sS ")" else s
def fldS (t f : Str) : Str := if t = "" then f else t ++ sS "." ++ f
def txtT : G7.Tm → Nat → Str
  | .num n, _ => D72.strI n
  | .fld t f, _ => fldS t f
  | .op o a b, n => brS o.lvl n (txtT a o.lvl ++ sS " " ++ o.s ++ sS " " ++ txtT b (o.lvl + 1))
def txtC : Cd → Nat → Str
  | .cmp c a b, n => brS 3 n (txtT a 4 ++ sS " " ++ c.s ++ sS " " ++ txtT b 4)
  | .neg c, n => brS 2 n (sS "not " ++ txtC c 2)
  | .con o a b, n => brS o.lvl n (txtC a o.lvl ++ sS " " ++ o.s ++ sS " " ++ txtC b (o.lvl + 1))
theorem sg_app (x y : Str) : sg (x ++ y) = sg x ++ sg y := TL.tl_append x y
theorem sg_br (m n : Nat) (s : Str) : sg (brS m n s) = if m < n then 40 :: (sg s ++ [41]) else sg s := by
  unfold brS
  split
  · rw [sg_app, sg_app, show sg (sS "(") = [40] by decide +kernel, show sg (sS ")") = [41] by decide +kernel]
    rfl
  · rfl
theorem toks_br {m n : Nat} {s : Str} {l : List Str} (h : toksL (sg s) = l) : toksL (sg (brS m n s)) = brK m n l := by
  rw [sg_br]
  unfold brK
  split
  · rw [toks_lone0 (by unfold loneC; omega), toks_lone (by unfold loneC; omega), h, toksL_nil]
    rfl
  · exact h
theorem toks_mid {x o y : Str} (ho : toksL (sg o) = [o]) : toksL (sg (x ++ sS " " ++ o ++ sS " " ++ y)) = toksL (sg x) ++ o :: toksL (sg y) := by
  rw [sg_app, sg_app, sg_app, sg_app, show sg (sS " ") = [32] by decide +kernel, List.append_assoc, List.append_assoc, List.append_assoc]
  show toksL (sg x ++ 32 :: (sg o ++ 32 :: sg y)) = _
  rw [toks_sp, toks_sp, ho]
  rfl
theorem toks_wd (o : Wd) : toksL (sg o.s) = [o.s] := by cases o <;> decide +kernel
theorem toks_strI {n : Int} (g : gdK (.num n)) : toksL (sg (D72.strI n)) = numK n := by
  unfold gdK at g
  unfold numK
  by_cases c : n < 0
  · rw [if_pos c] at g ⊢
    have e : sg (D72.strI n) = 45 :: sg (D72.strI (0 - n)) := by rw [sg_neg c, sg_pos (by omega)]
    rw [e, toks_lone0 (by unfold loneC; omega)]
    have z := toks_num g.1
    rw [toks_L] at z
    rw [z]
    rfl
  · rw [if_neg c] at g ⊢
    have z := toks_num g.1
    rwa [toks_L] at z
theorem toks_nm {x : Str} (h : isName x = true) : toksL (sg x) = [x] := by
  have z := toks_name h
  rwa [toks_L] at z
theorem toks_T : ∀ (m : G7.Tm) (n : Nat), gdK m → toksL (sg (txtT m n)) = tkT m n
  | .num i, n, g => toks_strI g
  | .fld t f, n, g => by
    unfold gdK at g
    show toksL (sg (fldS t f)) = fldK t f
    unfold fldS fldK
    by_cases c : t = ""
    · rw [if_pos c, if_pos c]
      exact toks_nm g.2
    · rw [if_neg c, if_neg c, sg_app, sg_app, show sg (sS ".") = [46] by decide +kernel, List.append_assoc]
      show toksL (sg t ++ 46 :: sg f) = _
      rw [toks_lone (by unfold loneC; omega), toks_nm (g.1.resolve_left c), toks_nm g.2]
      rfl
  | .op o a b, n, g => by
    unfold gdK at g
    refine toks_br ?_
    rw [toks_mid (toks_wd o), toks_T a _ g.2.1, toks_T b _ g.2.2]
theorem toks_C : ∀ (c : Cd) (n : Nat), gdKC c → toksL (sg (txtC c n)) = tkC c n
  | .cmp o a b, n, g => by
    unfold gdKC at g
    refine toks_br ?_
    rw [toks_mid (toks_wd o), toks_T a _ g.2.1, toks_T b _ g.2.2]
  | .neg c, n, g => by
    refine toks_br ?_
    rw [sg_app, show sg (sS "not ") = sg (sS "not") ++ [32] by decide +kernel, List.append_assoc]
    show toksL (sg (sS "not") ++ 32 :: sg (txtC c 2)) = _
    rw [toks_sp, toks_C c 2 g, show toksL (sg (sS "not")) = [sS "not"] by decide +kernel]
    rfl
  | .con o a b, n, g => by
    unfold gdKC at g
    refine toks_br ?_
    rw [toks_mid (toks_wd o), toks_C a _ g.2.1, toks_C b _ g.2.2]
/-! statements -/
def termsS (ts : List G7.Tm) : Str := Str.join (sS ", ") (ts.map fun t => txtT t 4)
def whereS : Option Cd → Str
  | none => Str.empty
  | some c => sS " where " ++ txtC c 0
def byS (bys : List G7.Tm) : Str := if bys.length = 0 then Str.empty else sS " by " ++ termsS bys
def firstS : OI → Str
  | none => Str.empty
  | some i => sS " first " ++ D72.strI i
def howS (how : Str) (tm : List G7.Tm) : Str := if tm.length = 0 then how else how ++ sS " " ++ termsS tm
def setS (s : Str × G7.Tm) : Str := s.1 ++ sS " = " ++ txtT s.2 4
def St.txt : St → Str
  | .alone w => w
  | .table t fs => Str.join (sS " ") (sS "table" :: t :: fs)
  | .index t f => sS "index" ++ sS " " ++ t ++ sS " " ++ f
  | .put t ns => Str.join (sS " ") (sS "put" :: t :: ns.map D72.strI)
  | .set t ss c => sS "set" ++ sS " " ++ t ++ sS " " ++ Str.join (sS ", ") (ss.map setS) ++ whereS c
  | .strike t c => sS "strike" ++ sS " " ++ t ++ whereS c
  | .ask how tm ts c bys first => howS how tm ++ sS " from " ++ Str.join (sS " and ") ts ++ whereS c ++ byS bys ++ firstS first
theorem sg_join (y : Str) (ps : List Str) : sg (Str.join y ps) = TL.joinL (sg y) (ps.map sg) := TL.tl_join y ps
/-- words with blanks between -/
theorem toks_join_sp : ∀ ps : List Str, toksL (TL.joinL [32] (ps.map sg)) = (ps.map fun p => toksL (sg p)).flatten
  | [] => rfl
  | [p] => by show toksL (sg p) = toksL (sg p) ++ []; rw [List.append_nil]
  | p :: q :: r => by
    show toksL (sg p ++ 32 :: TL.joinL [32] ((q :: r).map sg)) = _
    rw [toks_sp, toks_join_sp (q :: r)]
    rfl
/-- parts with , between -/
theorem toks_join_co : ∀ ps : List Str, toksL (TL.joinL [44, 32] (ps.map sg)) = sepK "," (ps.map fun p => toksL (sg p))
  | [] => rfl
  | [p] => by show toksL (sg p) = toksL (sg p) ++ []; rw [List.append_nil]
  | p :: q :: r => by
    show toksL (sg p ++ 44 :: (32 :: TL.joinL [44, 32] ((q :: r).map sg))) = _
    rw [toks_lone (by unfold loneC; omega), toksL_blank, toks_join_co (q :: r)]
    rfl
/-- .. with and between -/
theorem toks_join_and : ∀ ps : List Str, toksL (TL.joinL [32, 97, 110, 100, 32] (ps.map sg)) = sepK "and" (ps.map fun p => toksL (sg p))
  | [] => rfl
  | [p] => by show toksL (sg p) = toksL (sg p) ++ []; rw [List.append_nil]
  | p :: q :: r => by
    show toksL (sg p ++ 32 :: ([97, 110, 100] ++ 32 :: TL.joinL [32, 97, 110, 100, 32] ((q :: r).map sg))) = _
    rw [toks_sp, toks_sp, toks_join_and (q :: r), show toksL [97, 110, 100] = [sS "and"] by decide +kernel]
    rfl
theorem toks_terms {ts : List G7.Tm} (g : gdM ts) : toksL (sg (termsS ts)) = sepK "," (ts.map fun t => tkT t 4) := by
  unfold termsS
  rw [sg_join, show sg (sS ", ") = [44, 32] by decide +kernel, toks_join_co, List.map_map]
  congr 1
  exact List.map_congr_left fun t ht => toks_T t 4 (g t ht).1
/-- a word ahead, with blanks -/
theorem toks_pre {w : Str} {p : List Nat} (h : p = 32 :: (sg w ++ [32])) (hw : toksL (sg w) = [w]) (x : List Nat) (y : List Nat) : toksL (x ++ (p ++ y)) = toksL x ++ w :: toksL y := by
  rw [h, show x ++ (32 :: (sg w ++ [32]) ++ y) = x ++ 32 :: (sg w ++ 32 :: y) by simp, toks_sp, toks_sp, hw]
  rfl
theorem toks_where {c : Option Cd} (g : gdO c) (x : List Nat) : toksL (x ++ sg (whereS c)) = toksL x ++ whereK c := by
  cases c with
  | none =>
    show toksL (x ++ []) = toksL x ++ []
    rw [List.append_nil, List.append_nil]
  | some c =>
    show toksL (x ++ sg (sS " where " ++ txtC c 0)) = _
    rw [sg_app, toks_pre (w := sS "where") (by decide +kernel) (by decide +kernel), toks_C c 0 (g c rfl).1]
    rfl
theorem toks_by {bys : List G7.Tm} (g : gdM bys) (x : List Nat) : toksL (x ++ sg (byS bys)) = toksL x ++ byK bys := by
  unfold byS byK
  split
  · show toksL (x ++ []) = toksL x ++ []
    rw [List.append_nil, List.append_nil]
  · rw [sg_app, toks_pre (w := sS "by") (by decide +kernel) (by decide +kernel), toks_terms g]
theorem toks_first {first : OI} (g : ∀ i, first = some i → 0 ≤ i ∧ gdK (.num i)) (x : List Nat) : toksL (x ++ sg (firstS first)) = toksL x ++ firstK first := by
  cases first with
  | none =>
    show toksL (x ++ []) = toksL x ++ []
    rw [List.append_nil, List.append_nil]
  | some i =>
    obtain ⟨i0, gi⟩ := g i rfl
    show toksL (x ++ sg (sS " first " ++ D72.strI i)) = _
    rw [sg_app, toks_pre (w := sS "first") (by decide +kernel) (by decide +kernel), toks_strI gi]
    unfold numK
    rw [if_neg (by omega)]
    rfl
theorem toks_txt {s : St} (g : s.good) : toks s.txt = s.tk := by
  rw [toks_L]
  cases s with
  | alone w =>
    have g : w ∈ (["begin", "done", "undo"] : List Str) := g
    simp only [List.mem_cons, List.not_mem_nil, or_false] at g
    rcases g with rfl | rfl | rfl <;> decide +kernel
  | table t fs =>
    obtain ⟨g1, g2, g3, g4⟩ := g
    show toksL (sg (Str.join (sS " ") (sS "table" :: t :: fs))) = sS "table" :: t :: fs
    rw [sg_join, show sg (sS " ") = [32] by decide +kernel, toks_join_sp]
    show toksL (sg (sS "table")) ++ (toksL (sg t) ++ (fs.map fun p => toksL (sg p)).flatten) = _
    rw [toks_nm g1, show toksL (sg (sS "table")) = [sS "table"] by decide +kernel, List.map_congr_left (g := fun p => [p]) fun f hf => toks_nm (g4 f hf)]
    show sS "table" :: t :: _ = _
    congr 2
    clear g2 g3 g4
    show (fs.map fun p => [p]).flatten = fs
    induction fs with
    | nil => rfl
    | cons f fs ih =>
      rw [List.map_cons, List.flatten_cons, ih]
      rfl
  | index t f =>
    show toksL (sg (sS "index" ++ sS " " ++ t ++ sS " " ++ f)) = _
    rw [toks_mid (toks_nm g.1), toks_nm g.2, show toksL (sg (sS "index")) = [sS "index"] by decide +kernel]
    rfl
  | put t ns =>
    obtain ⟨g1, g2, g3, g4⟩ := g
    show toksL (sg (Str.join (sS " ") (sS "put" :: t :: ns.map D72.strI))) = sS "put" :: t :: (ns.map numK).flatten
    rw [sg_join, show sg (sS " ") = [32] by decide +kernel, toks_join_sp]
    show toksL (sg (sS "put")) ++ (toksL (sg t) ++ ((ns.map D72.strI).map fun p => toksL (sg p)).flatten) = _
    rw [toks_nm g1, show toksL (sg (sS "put")) = [sS "put"] by decide +kernel, List.map_map, List.map_congr_left (f := (fun p => toksL (sg p)) ∘ D72.strI) (g := numK) fun n hn => toks_strI (g4 n hn)]
    rfl
  | set t ss c =>
    obtain ⟨g1, g2, g3, g4, g5⟩ := g
    show toksL (sg (sS "set" ++ sS " " ++ t ++ sS " " ++ Str.join (sS ", ") (ss.map setS) ++ whereS c)) = _
    rw [sg_app _ (whereS c), toks_where g5, toks_mid (toks_nm g1), sg_join, show sg (sS ", ") = [44, 32] by decide +kernel, toks_join_co, show toksL (sg (sS "set")) = [sS "set"] by decide +kernel, List.map_map,
      List.map_congr_left (g := fun s : Str × G7.Tm => s.1 :: sS "=" :: tkT s.2 4) fun s hs => by
        obtain ⟨a1, a2, _⟩ := g4 s hs
        show toksL (sg (s.1 ++ sS " = " ++ txtT s.2 4)) = _
        rw [sg_app, sg_app, List.append_assoc, toks_pre (w := sS "=") (by decide +kernel) (by decide +kernel), toks_nm a1, toks_T _ 4 a2]
        rfl]
    rfl
  | strike t c =>
    obtain ⟨g1, g5⟩ := g
    show toksL (sg (sS "strike" ++ sS " " ++ t ++ whereS c)) = _
    rw [sg_app _ (whereS c), toks_where g5, sg_app, sg_app, show sg (sS " ") = [32] by decide +kernel, List.append_assoc]
    show toksL (sg (sS "strike") ++ 32 :: sg t) ++ _ = _
    rw [toks_sp, toks_nm g1, show toksL (sg (sS "strike")) = [sS "strike"] by decide +kernel]
    rfl
  | ask how tm ts c bys first =>
    obtain ⟨gh, t1, t3, gt, gm, gc, gb⟩ := g
    have gf : ∀ i, first = some i → 0 ≤ i ∧ gdK (.num i) := by
      rcases gh with ⟨_, _, _, _, a⟩ | ⟨_, _, _, rfl⟩ | ⟨_, _, _, rfl⟩
      · exact a
      · intro i e; cases e
      · intro i e; cases e
    have hh : toksL (sg how) = [how] := by
      rcases gh with ⟨rfl, _⟩ | ⟨rfl, _⟩ | ⟨a, _⟩
      · decide +kernel
      · decide +kernel
      · simp only [List.mem_cons, List.not_mem_nil, or_false] at a
        rcases a with rfl | rfl | rfl <;> decide +kernel
    have eh : toksL (sg (howS how tm)) = how :: sepK "," (tm.map fun t => tkT t 4) := by
      unfold howS
      by_cases c0 : tm.length = 0
      · rw [if_pos c0, hh, List.eq_nil_of_length_eq_zero c0]
        rfl
      · rw [if_neg c0, sg_app, sg_app, show sg (sS " ") = [32] by decide +kernel, List.append_assoc]
        show toksL (sg how ++ 32 :: sg (termsS tm)) = _
        rw [toks_sp, hh, toks_terms gm]
        rfl
    show toksL (sg (howS how tm ++ sS " from " ++ Str.join (sS " and ") ts ++ whereS c ++ byS bys ++ firstS first)) = _
    rw [sg_app _ (firstS first), toks_first gf, sg_app _ (byS bys), toks_by gb, sg_app _ (whereS c), toks_where gc, sg_app, sg_app, List.append_assoc (sg (howS how tm)), toks_pre (w := sS "from") (p := sg (sS " from ")) (by decide +kernel) (by decide +kernel), eh, sg_join,
      show sg (sS " and ") = [32, 97, 110, 100, 32] by decide +kernel, toks_join_and, List.map_congr_left (g := fun p => [p]) fun t ht => toks_nm (gt t ht)]
    show _ = how :: (sepK "," (tm.map fun t => tkT t 4) ++ sS "from" :: (sepK "and" (ts.map fun t => [t]) ++ (whereK c ++ (byK bys ++ firstK first))))
    simp only [List.append_assoc, List.cons_append]
/-- what is written is read -/
theorem read_txt {s : St} (g : s.good) : read 7 s.txt = .ok s.sm s.tk.length := read_ok g (toks_txt g)
end Rd

set_option linter.all false
set_option Elab.async false
set_option maxRecDepth 100000
set_option maxHeartbeats 4000000
/-! statements as they are drawn: names and numbers that texts may hold -/
namespace Nm
open PySem PySem.Spec PyProof.Rows L2 G7
def nmL : List Str := ["ta", "tb", "tc", "td", "k", "x", "y", "z"]
def gdN (s : Str) : Prop := s ∈ nmL
theorem gdN.name {s : Str} (h : gdN s) : Rd.isName s = true := by
  have z : ∀ x ∈ nmL, Rd.isName x = true := by decide +kernel
  exact z s h
theorem gdN.ne {s : Str} (h : gdN s) : s ≠ (Str.ofString "") := by
  have z : ∀ x ∈ nmL, x ≠ Str.ofString "" := by decide +kernel
  exact z s h
theorem gdN.law {s : Str} (h : gdN s) : s ∉ lawW := by
  have z : ∀ x ∈ nmL, x ∉ lawW := by decide +kernel
  exact z s h
theorem gdN.ok {s : Str} (h : gdN s) : PyData.strOk s = true := by
  have z : ∀ x ∈ nmL, PyData.strOk x = true := by decide +kernel
  exact z s h
theorem gdN.len {s : Str} (h : gdN s) : s.length ≤ 2 := by
  have z : ∀ x ∈ nmL, x.length ≤ 2 := by decide +kernel
  exact z s h
end Nm
namespace G7
open PySem PySem.Spec PyProof.Rows L2
def NG (ps : List Fd) : Prop := ∀ e ∈ ps, Nm.gdN e.2.1 ∧ Nm.gdN e.2.2
def ngF : G7.Tm → Prop
  | .num _ => True
  | .fld t f => Nm.gdN t ∧ Nm.gdN f
  | .op _ a b => ngF a ∧ ngF b
def ngC : G7.Cd → Prop
  | .cmp _ a b => ngF a ∧ ngF b
  | .neg c => ngC c
  | .con _ a b => ngC a ∧ ngC b
structure GC (c : G7.Cd) (d m : Nat) : Prop where
  ok : c.ok = true
  lim : c.lim
  high : c.high ≤ d
  few : c.leaves ≤ m
  nz : ngC c
  dp : c.deep ≤ d + 3
/-- a drawn term -/
structure GTm (t : G7.Tm) : Prop where
  ok : t.ok = true
  ng : ngF t
  lim : t.lim
  deep : t.deep ≤ 5
/-- a drawn condition -/
structure GCd (c : G7.Cd) : Prop where
  ok : c.ok = true
  ng : ngC c
  lim : c.lim
  deep : c.deep ≤ 6
theorem gdK_of : ∀ {t : G7.Tm}, t.ok = true → ngF t → t.lim → Rd.gdK t
  | .num n, _, _, h => Rd.gd_num (by have := h.1; omega) (by have := h.2; omega)
  | .fld t f, _, h, _ => ⟨.inr h.1.name, h.2.name⟩
  | .op o a b, k, h, l => by
    simp only [Tm.ok, Bool.and_eq_true] at k
    exact ⟨k.1.1, gdK_of k.1.2 h.1 l.1, gdK_of k.2 h.2 l.2⟩
theorem gdKC_of : ∀ {c : G7.Cd}, c.ok = true → ngC c → c.lim → Rd.gdKC c
  | .cmp o a b, k, h, l => by
    simp only [Cd.ok, Bool.and_eq_true] at k
    exact ⟨k.1.1, gdK_of k.1.2 h.1 l.1, gdK_of k.2 h.2 l.2.1⟩
  | .neg c, k, h, l => gdKC_of (c := c) k h l
  | .con o a b, k, h, l => by
    simp only [Cd.ok, Bool.and_eq_true] at k
    exact ⟨k.1.1, gdKC_of k.1.2 h.1 l.1, gdKC_of k.2 h.2 l.2⟩
theorem nzF_of : ∀ {t : G7.Tm}, ngF t → nzF t
  | .num n, _ => trivial
  | .fld t f, h => ⟨h.1.ne, h.2.ne⟩
  | .op o a b, h => ⟨nzF_of h.1, nzF_of h.2⟩
theorem nzC_of : ∀ {c : G7.Cd}, ngC c → nzC c
  | .cmp o a b, h => ⟨nzF_of h.1, nzF_of h.2⟩
  | .neg c, h => nzC_of (c := c) h
  | .con o a b, h => ⟨nzC_of h.1, nzC_of h.2⟩
theorem GTm.tr {t : G7.Tm} (h : GTm t) : Nm.TrOk (Nm.trT t) 5 := (Nm.trT_ok h.ok (nzF_of h.ng)).mono h.deep
theorem GCd.tr {c : G7.Cd} (h : GCd c) : Nm.TrOk (Nm.trC c) 6 := (Nm.trC_ok h.ok (nzC_of h.ng)).mono h.deep
theorem GC.d {c : G7.Cd} {m : Nat} (h : GC c 3 m) : GCd c := ⟨h.ok, h.nz, h.lim, h.dp⟩
end G7
namespace Nm
open PySem PySem.Spec PyProof.Rows L2 G7
/-- some terms, as they lie -/
structure TsL (H : Hp) (xs : List V) (ts : List G7.Tm) : Prop where
  at_ : RXs H xs (ts.map fun t => (trT t).dx)
  ok : ∀ t ∈ ts, GTm t
theorem tsNoL (ts : List G7.Tm) : ∀ d ∈ ts.map (fun t => (trT t).dx), Dx.noL d := fun d hd => by
  obtain ⟨t, _, rfl⟩ := List.mem_map.mp hd
  exact trNoL _
def TsM (H : Hp) (xs : List V) : Prop := ∃ ts, TsL H xs ts ∧ ts.length = xs.length
theorem TsM.nil {H : Hp} : TsM H [] := ⟨[], ⟨rxs_nil, fun t ht => absurd ht (by simp)⟩, rfl⟩
theorem TsM.std {H H' : Hp} {xs : List V} (h : TsM H xs) (k : Std H H') : TsM H' xs := h.elim fun ts q => ⟨ts, ⟨q.1.at_.std k (noLL_all.mpr (tsNoL ts)), q.1.ok⟩, q.2⟩
theorem TsM.snoc {H : Hp} {xs : List V} {v : V} {t : G7.Tm} (h : TsM H xs) (r : RX H v (trT t).dx) (o : GTm t) : TsM H (xs ++ [v]) := h.elim fun ts q =>
  ⟨ts ++ [t], ⟨by rw [List.map_append]; exact rxs_snoc q.1.at_ r, fun x hx => (List.mem_append.mp hx).elim (q.1.ok x) fun z => by cases List.mem_singleton.mp z; exact o⟩, by rw [List.length_append, List.length_append, q.2]; rfl⟩
/-- a tuple of m terms -/
def TsE (H : Hp) (v : V) (m : Nat) : Prop := ∃ ts : List G7.Tm, RX H v (.tup (ts.map fun t => (trT t).dx)) ∧ ts.length = m ∧ ∀ t ∈ ts, GTm t
theorem TsE.std {H H' : Hp} {v : V} {m : Nat} (h : TsE H v m) (k : Std H H') : TsE H' v m := h.elim fun ts q => ⟨ts, q.1.std k (noL_map fun t _ => trNoL _), q.2⟩
theorem TsM.tup {H : Hp} {xs : List V} {p : Addr} {m : Nat} (h : TsM H xs) (hp : H p = some (.tup xs)) (l : xs.length = m) : TsE H (.ref p) m := h.elim fun ts q => ⟨ts, rx_tup hp q.1.at_, q.2.trans l, q.1.ok⟩
/-- None or a condition -/
def CgE (H : Hp) (v : V) : Prop := ∃ c : Option G7.Cd, RX H v (dxO (c.map trC)) ∧ ∀ x, c = some x → GCd x
theorem CgE.std {H H' : Hp} {v : V} (h : CgE H v) (k : Std H H') : CgE H' v := h.elim fun c q => ⟨c, q.1.std k (noL_o _), q.2⟩
theorem CgE.none {H : Hp} : CgE H .non := ⟨Option.none, rx_non, fun t z => by cases z⟩
theorem CgE.some {H : Hp} {v : V} {c : G7.Cd} {m : Nat} (h : RC H v c) (g : GC c 3 m) : CgE H v := ⟨Option.some c, rcDx h, fun t z => by cases z; exact g.d⟩
def FgE (H : Hp) (v : V) (how : Str) : Prop := ∃ f, RX H v (dxI f) ∧ (∀ i, f = some i → 0 ≤ i ∧ i ≤ 5) ∧ (how ≠ "pick" → f = none)
theorem FgE.std {H H' : Hp} {v : V} {how : Str} (h : FgE H v how) (k : Std H H') : FgE H' v how := h.elim fun f q => ⟨f, q.1.std k (noL_i f), q.2⟩
/-- how many terms -/
def HowM (how : Str) (m : Nat) : Prop := how = "pick" ∧ 1 ≤ m ∧ m ≤ 3 ∨ how = "count" ∧ m = 0 ∨ how ∈ (["sum", "least", "most"] : List Str) ∧ m = 1
def SgM (H : Hp) (xs : List V) : Prop := ∃ ss : List (Str × G7.Tm), RXs H xs (ss.map fun s => dxP (s.1, trT s.2)) ∧ ss.length = xs.length ∧ ∀ s ∈ ss, gdN s.1 ∧ GTm s.2
theorem SgM.nil {H : Hp} : SgM H [] := ⟨[], rxs_nil, rfl, fun t ht => absurd ht (by simp)⟩
theorem SgM.std {H H' : Hp} {xs : List V} (h : SgM H xs) (k : Std H H') : SgM H' xs := h.elim fun ss q => ⟨ss, q.1.std k (noLL_all.mpr fun d hd => by
  obtain ⟨s, _, rfl⟩ := List.mem_map.mp hd
  exact ⟨trivial, trNoL _, trivial⟩), q.2⟩
theorem SgM.snoc {H : Hp} {xs : List V} {p : Addr} {f : Str} {v : V} {t : G7.Tm} (h : SgM H xs) (hp : H p = some (.tup [.str f, v])) (r : RX H v (trT t).dx) (o : GTm t) (hf : gdN f) : SgM H (xs ++ [.ref p]) := h.elim fun ss q =>
  ⟨ss ++ [(f, t)], by rw [List.map_append]; exact rxs_snoc q.1 (rx_tup hp (rxs_cons (rx_str _) (rxs_cons r rxs_nil))), by rw [List.length_append, List.length_append, q.2.1]; rfl, fun s hs => (List.mem_append.mp hs).elim (q.2.2 s) fun z => by cases List.mem_singleton.mp z; exact ⟨hf, o⟩⟩
end Nm
namespace Rd
open PySem PySem.Spec PyProof.Rows L2 G7 Nm
/-- a statement as it is drawn -/
def St.dr : St → Prop
  | .alone w => w ∈ (["begin", "done", "undo"] : List Str)
  | .table t fs => t = "td" ∧ fs = ([Str.ofString "k", Str.ofString "x"] : List Str)
  | .index t f => gdN t ∧ f = "x"
  | .put t ns => gdN t ∧ 1 ≤ ns.length ∧ ns.length ≤ 4 ∧ ∀ n ∈ ns, -1000 ≤ n ∧ n ≤ 1000
  | .set t ss c => gdN t ∧ 1 ≤ ss.length ∧ ss.length ≤ 3 ∧ (∀ s ∈ ss, gdN s.1 ∧ GTm s.2) ∧ ∀ x, c = some x → GCd x
  | .strike t c => gdN t ∧ ∀ x, c = some x → GCd x
  | .ask how tm ts c bys first => HowM how tm.length ∧ 1 ≤ ts.length ∧ ts.length ≤ 3 ∧ (∀ t ∈ ts, gdN t) ∧ (∀ t ∈ tm, GTm t) ∧ (∀ x, c = some x → GCd x) ∧ bys.length ≤ 3 ∧ (how ≠ "pick" → bys.length = 0) ∧ (∀ t ∈ bys, GTm t) ∧ (∀ i, first = some i → 0 ≤ i ∧ i ≤ 5) ∧ (how ≠ "pick" → first = none)
theorem gdO_of {c : Option Cd} (h : ∀ x, c = some x → GCd x) : gdO c := fun x e => ⟨gdKC_of (h x e).ok (h x e).ng (h x e).lim, Nat.le_trans (h x e).deep (by decide)⟩
theorem gdM_of {ts : List G7.Tm} (h : ∀ t ∈ ts, GTm t) : gdM ts := fun t ht => ⟨gdK_of (h t ht).ok (h t ht).ng (h t ht).lim, Nat.le_trans (h t ht).deep (by decide)⟩
theorem St.dr.good {s : St} (h : s.dr) : s.good := by
  cases s with
  | alone w => exact h
  | table t fs =>
    obtain ⟨rfl, rfl⟩ := h
    show _ ∧ _
    decide +kernel
  | index t f =>
    obtain ⟨h, rfl⟩ := h
    exact ⟨h.name, by decide +kernel⟩
  | put t ns => exact ⟨h.1.name, h.2.1, h.2.2.1, fun n hn => gd_num (by have := h.2.2.2 n hn; omega) (by have := h.2.2.2 n hn; omega)⟩
  | set t ss c => exact ⟨h.1.name, h.2.1, h.2.2.1, fun s hs => ⟨(h.2.2.2.1 s hs).1.name, gdK_of (h.2.2.2.1 s hs).2.ok (h.2.2.2.1 s hs).2.ng (h.2.2.2.1 s hs).2.lim, Nat.le_trans (h.2.2.2.1 s hs).2.deep (by decide)⟩, gdO_of h.2.2.2.2⟩
  | strike t c => exact ⟨h.1.name, gdO_of h.2⟩
  | ask how tm ts c bys first =>
    obtain ⟨h1, h2, h3, h4, h5, h6, h7, h8, h9, ha, hb⟩ := h
    have np : ∀ {w : Str}, how = w → w ≠ "pick" → bys.length = 0 ∧ first = none := fun e n => ⟨h8 (e ▸ n), hb (e ▸ n)⟩
    refine ⟨?_, h2, h3, fun t ht => (h4 t ht).name, gdM_of h5, gdO_of h6, gdM_of h9⟩
    rcases h1 with ⟨e, a, b⟩ | ⟨e, a⟩ | ⟨e, a⟩
    · exact .inl ⟨e, a, by omega, h7, fun i hi => ⟨(ha i hi).1, gd_num (by have := (ha i hi).1; omega) (by have := (ha i hi).2; omega)⟩⟩
    · obtain ⟨x, y⟩ := np e (by decide +kernel)
      exact .inr (.inl ⟨e, a, x, y⟩)
    · have n : how ≠ "pick" := by
        simp only [List.mem_cons, List.not_mem_nil, or_false] at e
        rcases e with rfl | rfl | rfl <;> decide +kernel
      exact .inr (.inr ⟨e, a, h8 n, hb n⟩)
/-! bounds of what is drawn -/
theorem sm_bd {s : St} (h : s.dr) : s.sm.dx.deep ≤ 8 ∧ s.sm.dx.fits 8 := by
  have co : ∀ {c : Option Cd}, (∀ x, c = some x → GCd x) → ∀ t, c.map trC = some t → TrOk t 6 := fun {c} hc t e => by
    cases c with
    | none => cases e
    | some x => cases e; exact (hc x rfl).tr
  cases s with
  | alone w => exact ⟨(aloneOk (w := w)).deep, aloneOk.fits⟩
  | table t fs =>
    obtain ⟨rfl, rfl⟩ := h
    have := tableOk (t := "td") (fs := ["k", "x"]) (by decide +kernel) (by decide) (by decide +kernel)
    exact ⟨this.deep, this.fits⟩
  | index t f =>
    obtain ⟨h, rfl⟩ := h
    have := indexOk (t := t) (f := "x") h.ne (by decide +kernel)
    exact ⟨this.deep, this.fits⟩
  | put t ns =>
    have := putOk (t := t) (ns := ns) h.1.ne h.2.2.1
    exact ⟨this.deep, this.fits⟩
  | set t ss c =>
    obtain ⟨h1, h2, h3, h4, h5⟩ := h
    have := setOk (t := t) (ss := ss.map fun s => (s.1, trT s.2)) (c := c.map trC) h1.ne ⟨by rw [List.length_map]; omega, fun s hs => by
      obtain ⟨x, hx, rfl⟩ := List.mem_map.mp hs
      exact ⟨(h4 x hx).1.ne, (h4 x hx).2.tr⟩⟩ (co h5)
    exact ⟨this.deep, this.fits⟩
  | strike t c =>
    have := strikeOk (t := t) (c := c.map trC) h.1.ne (co h.2)
    exact ⟨this.deep, this.fits⟩
  | ask how tm ts c bys first =>
    obtain ⟨h1, h2, h3, h4, h5, h6, h7, h8, h9, ha, hb⟩ := h
    have hm : tm.length ≤ 3 := by rcases h1 with ⟨_, _, b⟩ | ⟨_, a⟩ | ⟨_, a⟩ <;> omega
    have mm : ∀ {l : List G7.Tm}, (∀ t ∈ l, GTm t) → ∀ t ∈ l.map trT, TrOk t 6 := fun hl t ht => by
      obtain ⟨x, hx, rfl⟩ := List.mem_map.mp ht
      exact (hl x hx).tr.mono (by decide)
    have := askOk (how := how) (tm := tm.map trT) (bys := bys.map trT) (ts := ts) (c := c.map trC) (first := first) ⟨by rw [List.length_map]; exact hm, mm h5⟩ ⟨by rw [List.length_map]; exact h7, mm h9⟩ (co h6) ⟨h3, fun t ht => (h4 t ht).ne⟩
    exact ⟨this.deep, this.fits⟩
end Rd

set_option linter.all false
set_option Elab.async false
set_option maxRecDepth 100000
set_option maxHeartbeats 4000000
/-! terms and conditions that are written: bounds of their texts; how they lie -/
namespace Rd
open PySem PySem.Spec PyProof.Rows L2 G7 Nm
/-- terms and conditions within bounds -/
def wdT : G7.Tm → Prop
  | .num n => -999999 ≤ n ∧ n ≤ 999999
  | .fld t f => t.length ≤ 8 ∧ f.length ≤ 8
  | .op o a b => o.isOp = true ∧ wdT a ∧ wdT b
def wdC : Cd → Prop
  | .cmp c a b => c.isCmp = true ∧ wdT a ∧ wdT b
  | .neg c => wdC c
  | .con o a b => o.isCon = true ∧ wdC a ∧ wdC b
theorem len_app (x y : Str) : (x ++ y).length = x.length + y.length := by
  rw [TL.len_tl, TL.tl_append, List.length_append, ← TL.len_tl, ← TL.len_tl]
theorem len_sS1 : (sS "(").length = 1 ∧ (sS ")").length = 1 ∧ (sS " ").length = 1 ∧ (sS ".").length = 1 ∧ (sS "not ").length = 4 := by decide +kernel
theorem len_br (m n : Nat) (s : Str) : (brS m n s).length ≤ s.length + 2 := by
  unfold brS
  have := len_sS1
  split
  · rw [len_app, len_app]; omega
  · omega
theorem len_op {o : Wd} (h : o.isOp = true ∨ o.isCmp = true ∨ o.isCon = true) : o.s.length ≤ 3 := by
  cases o <;> first | decide +kernel | (rcases h with h | h | h <;> cases h)
theorem len_num {n : Int} (h0 : -999999 ≤ n) (h1 : n ≤ 999999) : (D72.strI n).length ≤ 7 := by
  rw [TL.len_tl]
  show (sg _).length ≤ _
  by_cases c : n < 0
  · rw [sg_neg c, List.length_cons]
    have := TL.numL_len (n := (0 - n).toNat) (k := 6) (by decide) (by omega)
    omega
  · rw [sg_pos (by omega)]
    have := TL.numL_len (n := n.toNat) (k := 6) (by decide) (by omega)
    omega
theorem len_T : ∀ (m : G7.Tm) (n : Nat), wdT m → (txtT m n).length + 12 ≤ 16 * 2 ^ m.deep
  | .num i, n, h => by
    have := len_num h.1 h.2
    show (D72.strI i).length + 12 ≤ 16 * 2 ^ 1
    omega
  | .fld t f, n, h => by
    have := len_sS1
    show (fldS t f).length + 12 ≤ 16 * 2 ^ 1
    unfold wdT at h
    unfold fldS
    split
    · omega
    · rw [len_app, len_app]; omega
  | .op o a b, n, h => by
    unfold wdT at h
    have h1 := len_T a o.lvl h.2.1
    have h2 := len_T b (o.lvl + 1) h.2.2
    have h3 := len_op (.inl h.1)
    have := len_sS1
    have p1 : 2 ^ a.deep ≤ 2 ^ max a.deep b.deep := Nat.pow_le_pow_right (by decide) (Nat.le_max_left ..)
    have p2 : 2 ^ b.deep ≤ 2 ^ max a.deep b.deep := Nat.pow_le_pow_right (by decide) (Nat.le_max_right ..)
    have h4 := len_br o.lvl n (txtT a o.lvl ++ sS " " ++ o.s ++ sS " " ++ txtT b (o.lvl + 1))
    rw [len_app, len_app, len_app, len_app] at h4
    show (brS o.lvl n (txtT a o.lvl ++ sS " " ++ o.s ++ sS " " ++ txtT b (o.lvl + 1))).length + 12 ≤ 16 * 2 ^ (max a.deep b.deep + 1)
    rw [Nat.pow_succ]
    omega
theorem len_C : ∀ (c : Cd) (n : Nat), wdC c → (txtC c n).length + 12 ≤ 16 * 2 ^ c.deep
  | .cmp o a b, n, h => by
    unfold wdC at h
    have h1 := len_T a 4 h.2.1
    have h2 := len_T b 4 h.2.2
    have h3 := len_op (.inr (.inl h.1))
    have := len_sS1
    have p1 : 2 ^ a.deep ≤ 2 ^ max a.deep b.deep := Nat.pow_le_pow_right (by decide) (Nat.le_max_left ..)
    have p2 : 2 ^ b.deep ≤ 2 ^ max a.deep b.deep := Nat.pow_le_pow_right (by decide) (Nat.le_max_right ..)
    have h4 := len_br 3 n (txtT a 4 ++ sS " " ++ o.s ++ sS " " ++ txtT b 4)
    rw [len_app, len_app, len_app, len_app] at h4
    show (brS 3 n (txtT a 4 ++ sS " " ++ o.s ++ sS " " ++ txtT b 4)).length + 12 ≤ 16 * 2 ^ (max a.deep b.deep + 1)
    rw [Nat.pow_succ]
    omega
  | .neg c, n, h => by
    have h1 := len_C c 2 h
    have := len_sS1
    have h4 := len_br 2 n (sS "not " ++ txtC c 2)
    rw [len_app] at h4
    show (brS 2 n (sS "not " ++ txtC c 2)).length + 12 ≤ 16 * 2 ^ (c.deep + 1)
    rw [Nat.pow_succ]
    omega
  | .con o a b, n, h => by
    unfold wdC at h
    have h1 := len_C a o.lvl h.2.1
    have h2 := len_C b (o.lvl + 1) h.2.2
    have h3 := len_op (.inr (.inr h.1))
    have := len_sS1
    have p1 : 2 ^ a.deep ≤ 2 ^ max a.deep b.deep := Nat.pow_le_pow_right (by decide) (Nat.le_max_left ..)
    have p2 : 2 ^ b.deep ≤ 2 ^ max a.deep b.deep := Nat.pow_le_pow_right (by decide) (Nat.le_max_right ..)
    have h4 := len_br o.lvl n (txtC a o.lvl ++ sS " " ++ o.s ++ sS " " ++ txtC b (o.lvl + 1))
    rw [len_app, len_app, len_app, len_app] at h4
    show (brS o.lvl n (txtC a o.lvl ++ sS " " ++ o.s ++ sS " " ++ txtC b (o.lvl + 1))).length + 12 ≤ 16 * 2 ^ (max a.deep b.deep + 1)
    rw [Nat.pow_succ]
    omega
/-- a tree that is written, k tight -/
inductive Ex where
  | t (m : G7.Tm)
  | c (c : Cd)
def Ex.tr : Ex → Nm.Tr
  | .t m => trT m
  | .c x => trC x
def Ex.wd : Ex → Prop
  | .t m => wdT m
  | .c x => wdC x
def Ex.deep : Ex → Nat
  | .t m => m.deep
  | .c x => x.deep
def Ex.txt : Ex → Nat → Str
  | .t m, k => txtT m k
  | .c x, k => txtC x k
theorem Ex.len {e : Ex} {k : Nat} (h : e.wd) : (e.txt k).length + 12 ≤ 16 * 2 ^ e.deep := by
  cases e with
  | t m => exact len_T m k h
  | c c => exact len_C c k h
theorem log_num {n : Int} (h0 : -999999 ≤ n) (h1 : n ≤ 999999) : n.natAbs.log2 < 1920 := by
  have : n.natAbs < 2 ^ 20 := by omega
  by_cases z : n.natAbs = 0
  · rw [z]; decide
  · exact Nat.lt_trans ((Nat.log2_lt z).mpr this) (by decide)
/-! how trees lie -/
section
variable {H : Hp} {v : V}
theorem num_e {n : Int} (R : RX H v (Nm.Tr.num n).dx) : ∃ b, v = .ref b ∧ tpO (H b) = some [.str "num", .int n] := by
  unfold Nm.Tr.dx at R
  obtain ⟨b, us, rfl, hb, r⟩ := Nm.rx_tpO R
  obtain ⟨u0, us, rfl, h0, r⟩ := Nm.rxs_un r
  obtain ⟨u1, us, rfl, h1, r⟩ := Nm.rxs_un r
  obtain rfl := Nm.rxs_no r
  obtain rfl := Nm.rx_s h0
  obtain rfl := Nm.rx_i h1
  exact ⟨b, rfl, hb⟩
theorem fld_e {t f : Str} (R : RX H v (Nm.Tr.fld t f).dx) : ∃ b, v = .ref b ∧ tpO (H b) = some [.str "field", .str t, .str f] := by
  unfold Nm.Tr.dx at R
  obtain ⟨b, us, rfl, hb, r⟩ := Nm.rx_tpO R
  obtain ⟨u0, us, rfl, h0, r⟩ := Nm.rxs_un r
  obtain ⟨u1, us, rfl, h1, r⟩ := Nm.rxs_un r
  obtain ⟨u2, us, rfl, h2, r⟩ := Nm.rxs_un r
  obtain rfl := Nm.rxs_no r
  obtain rfl := Nm.rx_s h0
  obtain rfl := Nm.rx_s h1
  obtain rfl := Nm.rx_s h2
  exact ⟨b, rfl, hb⟩
theorem node1_e {w : Str} {x : Nm.Tr} (R : RX H v (Nm.Tr.node w [x]).dx) : ∃ b u, v = .ref b ∧ tpO (H b) = some [.str w, u] ∧ RX H u x.dx := by
  unfold Nm.Tr.dx at R
  rw [Nm.dxL_map] at R
  obtain ⟨b, us, rfl, hb, r⟩ := Nm.rx_tpO R
  obtain ⟨u0, us, rfl, h0, r⟩ := Nm.rxs_un r
  obtain ⟨u1, us, rfl, h1, r⟩ := Nm.rxs_un r
  obtain rfl := Nm.rxs_no r
  obtain rfl := Nm.rx_s h0
  exact ⟨b, u1, rfl, hb, h1⟩
theorem node2_e {w : Str} {x y : Nm.Tr} (R : RX H v (Nm.Tr.node w [x, y]).dx) : ∃ b u u2, v = .ref b ∧ tpO (H b) = some [.str w, u, u2] ∧ RX H u x.dx ∧ RX H u2 y.dx := by
  unfold Nm.Tr.dx at R
  rw [Nm.dxL_map] at R
  obtain ⟨b, us, rfl, hb, r⟩ := Nm.rx_tpO R
  obtain ⟨u0, us, rfl, h0, r⟩ := Nm.rxs_un r
  obtain ⟨u1, us, rfl, h1, r⟩ := Nm.rxs_un r
  obtain ⟨u2, us, rfl, h2, r⟩ := Nm.rxs_un r
  obtain rfl := Nm.rxs_no r
  obtain rfl := Nm.rx_s h0
  exact ⟨b, u1, u2, rfl, hb, h1, h2⟩
end
/-- two trees with a word between, or a not -/
theorem Ex.two {e : Ex} (h : e.wd) : (∃ n, e = .t (.num n)) ∨ (∃ t f, e = .t (.fld t f)) ∨ (∃ c, e = .c (.neg c)) ∨
    ∃ (o : Wd) (a b : Ex), e.tr = .node o.s [a.tr, b.tr] ∧ (o.isOp = true ∨ o.isCmp = true ∨ o.isCon = true) ∧ a.wd ∧ b.wd ∧ e.deep = max a.deep b.deep + 1 ∧ ∀ k, e.txt k = brS o.lvl k (a.txt (if o.lvl = 3 then 4 else o.lvl) ++ sS " " ++ o.s ++ sS " " ++ b.txt (o.lvl + 1)) := by
  cases e with
  | t m => cases m with
    | num n => exact .inl ⟨n, rfl⟩
    | fld t f => exact .inr (.inl ⟨t, f, rfl⟩)
    | op o a b =>
      obtain ⟨h1, h2, h3⟩ := h
      refine .inr (.inr (.inr ⟨o, .t a, .t b, rfl, .inl h1, h2, h3, rfl, fun k => ?_⟩))
      rw [if_neg (by rcases op_lvl h1 with ⟨e, _⟩ | ⟨e, _⟩ <;> omega)]
      rfl
  | c c => cases c with
    | cmp o a b =>
      obtain ⟨h1, h2, h3⟩ := h
      have l : o.lvl = 3 := by cases o <;> first | rfl | cases h1
      refine .inr (.inr (.inr ⟨o, .t a, .t b, rfl, .inr (.inl h1), h2, h3, rfl, fun k => ?_⟩))
      rw [l, if_pos rfl]
      rfl
    | neg c => exact .inr (.inr (.inl ⟨c, rfl⟩))
    | con o a b =>
      obtain ⟨h1, h2, h3⟩ := h
      refine .inr (.inr (.inr ⟨o, .c a, .c b, rfl, .inr (.inr h1), h2, h3, rfl, fun k => ?_⟩))
      rw [if_neg (by cases o <;> first | decide | cases h1)]
      rfl
theorem wdT_of : ∀ {t : G7.Tm}, t.ok = true → ngF t → t.lim → wdT t
  | .num n, _, _, h => ⟨by have := h.1; omega, by have := h.2; omega⟩
  | .fld t f, _, h, _ => ⟨by have := h.1.len; omega, by have := h.2.len; omega⟩
  | .op o a b, k, h, l => by
    simp only [Tm.ok, Bool.and_eq_true] at k
    exact ⟨k.1.1, wdT_of k.1.2 h.1 l.1, wdT_of k.2 h.2 l.2⟩
theorem wdC_of : ∀ {c : G7.Cd}, c.ok = true → ngC c → c.lim → wdC c
  | .cmp o a b, k, h, l => by
    simp only [Cd.ok, Bool.and_eq_true] at k
    exact ⟨k.1.1, wdT_of k.1.2 h.1 l.1, wdT_of k.2 h.2 l.2.1⟩
  | .neg c, k, h, l => wdC_of (c := c) k h l
  | .con o a b, k, h, l => by
    simp only [Cd.ok, Bool.and_eq_true] at k
    exact ⟨k.1.1, wdC_of k.1.2 h.1 l.1, wdC_of k.2 h.2 l.2⟩
theorem op_no {o : Wd} (h : o.isOp = true ∨ o.isCmp = true ∨ o.isCon = true) : o.s ≠ "num" ∧ o.s ≠ "field" ∧ o.s ≠ "not" := by
  cases o <;> first | decide +kernel | (rcases h with h | h | h <;> cases h)
theorem op_tight {o : Wd} (h : o.isOp = true ∨ o.isCmp = true ∨ o.isCon = true) : lkT tight o.s = some o.lvl := by
  cases o <;> first | decide +kernel | (rcases h with h | h | h <;> cases h)
theorem txt_04 : ∀ m : G7.Tm, wdT m → txtT m 4 = txtT m 0
  | .num _, _ => rfl
  | .fld _ _, _ => rfl
  | .op o a b, h => by
    show brS o.lvl 4 _ = brS o.lvl 0 _
    unfold brS
    have : 4 ≤ o.lvl := by rcases op_lvl h.1 with ⟨e, _⟩ | ⟨e, _⟩ <;> omega
    rw [if_neg (by omega), if_neg (by omega)]
end Rd

set_option linter.all false
set_option Elab.async false
set_option maxRecDepth 100000
set_option maxHeartbeats 4000000
/-! statements that are written: bounds, how they lie -/
namespace Rd
open PySem PySem.Spec PyProof.Rows L2 G7 Nm
theorem rxs_pairs {H : Hp} {β : Type} {f : β → Dx} : ∀ {ts : List β} {us : List V}, RXs H us (ts.map f) → ∃ ps : List (V × β), us = ps.map (·.1) ∧ ts = ps.map (·.2) ∧ ∀ p ∈ ps, RX H p.1 (f p.2)
  | [], us, h => by
    obtain rfl := Nm.rxs_no h
    exact ⟨[], rfl, rfl, fun p hp => by cases hp⟩
  | t :: ts, us, h => by
    obtain ⟨u, us, rfl, h0, r⟩ := Nm.rxs_un h
    obtain ⟨ps, rfl, e, k⟩ := rxs_pairs r
    refine ⟨(u, t) :: ps, rfl, by rw [List.map_cons, ← e], fun p hp => ?_⟩
    rcases List.mem_cons.mp hp with rfl | hp
    · exact h0
    · exact k p hp
/-- a tuple of things -/
theorem rx_pairs {H : Hp} {v : V} {β : Type} {f : β → Dx} {ts : List β} (h : RX H v (.tup (ts.map f))) : ∃ (a : Addr) (ps : List (V × β)), v = .ref a ∧ tpO (H a) = some (ps.map (·.1)) ∧ ts = ps.map (·.2) ∧ ∀ p ∈ ps, RX H p.1 (f p.2) := by
  obtain ⟨a, us, rfl, ha, r⟩ := Nm.rx_tpO h
  obtain ⟨ps, rfl, e, k⟩ := rxs_pairs r
  exact ⟨a, ps, rfl, ha, e, k⟩
theorem tpS {H H' : Hp} {a : Addr} {xs : List V} (h : tpO (H a) = some xs) (s : Same H H') : tpO (H' a) = some xs := by
  have e : ∃ o, H a = some o := by
    cases e : H a with
    | none => rw [e] at h; cases h
    | some o => exact ⟨o, rfl⟩
  obtain ⟨o, e⟩ := e
  rw [s _ _ e, ← e]
  exact h
theorem app_assoc (a b c : Str) : a ++ b ++ c = a ++ (b ++ c) := TL.ext_tl (by rw [TL.tl_append, TL.tl_append, TL.tl_append, TL.tl_append, List.append_assoc])
theorem app_nil (a : Str) : a ++ Str.empty = a := TL.ext_tl (by rw [TL.tl_append, show TL.tl Str.empty = [] from rfl, List.append_nil])
theorem nil_app (a : Str) : Str.empty ++ a = a := TL.ext_tl (by rw [TL.tl_append]; rfl)
theorem join_cons2 (y a b : Str) : ∀ r : List Str, Str.join y ((a ++ y ++ b) :: r) = Str.join y (a :: b :: r)
  | [] => rfl
  | c :: r => by
    show a ++ y ++ b ++ y ++ Str.join y (c :: r) = a ++ y ++ (b ++ y ++ Str.join y (c :: r))
    rw [app_assoc (a ++ y ++ b), app_assoc (a ++ y), app_assoc b]
theorem len_join (y : Str) {B : Nat} : ∀ {ps : List Str}, (∀ p ∈ ps, p.length ≤ B) → (Str.join y ps).length ≤ ps.length * (B + y.length)
  | [], _ => Nat.zero_le _
  | [p], h => by
    show p.length ≤ 1 * _
    have := h p List.mem_cons_self
    omega
  | p :: q :: r, h => by
    have ih := len_join y (ps := q :: r) (fun x hx => h x (List.mem_cons_of_mem _ hx))
    have h1 := h p List.mem_cons_self
    show (p ++ y ++ Str.join y (q :: r)).length ≤ _
    rw [len_app, len_app, List.length_cons, Nat.succ_mul]
    omega
theorem sum_len {B : Nat} : ∀ {ps : List Str}, (∀ p ∈ ps, p.length ≤ B) → (ps.map fun x => x.length).sum ≤ ps.length * B
  | [], _ => Nat.zero_le _
  | p :: r, h => by
    have ih := sum_len (ps := r) (fun x hx => h x (List.mem_cons_of_mem _ hx))
    have h1 := h p List.mem_cons_self
    rw [List.map_cons, List.sum_cons, List.length_cons, Nat.succ_mul]
    omega
def wdM (ts : List G7.Tm) : Prop := ts.length ≤ 8 ∧ ∀ t ∈ ts, wdT t ∧ t.deep ≤ 6
def wdO (c : Option Cd) : Prop := ∀ x, c = some x → wdC x ∧ x.deep ≤ 6
def wdN (ts : List Str) : Prop := ts.length ≤ 8 ∧ ∀ t ∈ ts, t.length ≤ 8
/-- within bounds -/
def St.wd : St → Prop
  | .alone w => w ∈ (["begin", "done", "undo"] : List Str)
  | .table t fs => t.length ≤ 8 ∧ wdN fs
  | .index t f => t.length ≤ 8 ∧ f.length ≤ 8
  | .put t ns => t.length ≤ 8 ∧ ns.length ≤ 8 ∧ ∀ n ∈ ns, -999999 ≤ n ∧ n ≤ 999999
  | .set t ss c => t.length ≤ 8 ∧ ss.length ≤ 8 ∧ (∀ s ∈ ss, s.1.length ≤ 8 ∧ wdT s.2 ∧ s.2.deep ≤ 6) ∧ wdO c
  | .strike t c => t.length ≤ 8 ∧ wdO c
  | .ask how tm ts c bys first => how.length ≤ 8 ∧ wdM tm ∧ wdN ts ∧ wdO c ∧ wdM bys ∧ ∀ i, first = some i → -999999 ≤ i ∧ i ≤ 999999
theorem len_T6 {t : G7.Tm} (h : wdT t ∧ t.deep ≤ 6) (k : Nat) : (txtT t k).length ≤ 1012 := by
  have := len_T t k h.1
  have p : 2 ^ t.deep ≤ 2 ^ 6 := Nat.pow_le_pow_right (by decide) h.2
  omega
theorem len_C6 {c : Cd} (h : wdC c ∧ c.deep ≤ 6) (k : Nat) : (txtC c k).length ≤ 1012 := by
  have := len_C c k h.1
  have p : 2 ^ c.deep ≤ 2 ^ 6 := Nat.pow_le_pow_right (by decide) h.2
  omega
theorem lens : (sS ", ").length = 2 ∧ (sS " ").length = 1 ∧ (sS " and ").length = 5 ∧ (sS " where ").length = 7 ∧ (sS " by ").length = 4 ∧ (sS " first ").length = 7 ∧ (sS " from ").length = 6 ∧ (sS " = ").length = 3 := by decide +kernel
theorem len_terms {ts : List G7.Tm} (h : wdM ts) : (termsS ts).length ≤ 8112 := by
  unfold termsS
  have z := len_join (sS ", ") (ps := ts.map fun t => txtT t 4) (B := 1012) (fun p hp => by
    obtain ⟨t, ht, rfl⟩ := List.mem_map.mp hp
    exact len_T6 (h.2 t ht) 4)
  rw [lens.1, List.length_map] at z
  have : ts.length * (1012 + 2) ≤ 8 * (1012 + 2) := Nat.mul_le_mul_right _ h.1
  omega
theorem len_where {c : Option Cd} (h : wdO c) : (whereS c).length ≤ 1019 := by
  cases c with
  | none => exact Nat.zero_le _
  | some c =>
    show (sS " where " ++ txtC c 0).length ≤ _
    have := len_C6 (h c rfl) 0
    have := lens
    rw [len_app]
    omega
theorem len_by {ts : List G7.Tm} (h : wdM ts) : (byS ts).length ≤ 8116 := by
  unfold byS
  split
  · exact Nat.zero_le _
  · have := len_terms h
    have := lens
    rw [len_app]
    omega
theorem len_first {f : OI} (h : ∀ i, f = some i → -999999 ≤ i ∧ i ≤ 999999) : (firstS f).length ≤ 14 := by
  cases f with
  | none => exact Nat.zero_le _
  | some i =>
    show (sS " first " ++ D72.strI i).length ≤ _
    have := len_num (h i rfl).1 (h i rfl).2
    have := lens
    rw [len_app]
    omega
theorem len_how {how : Str} {tm : List G7.Tm} (h0 : how.length ≤ 8) (h : wdM tm) : (howS how tm).length ≤ 8121 := by
  unfold howS
  split
  · omega
  · have := len_terms h
    have := lens
    rw [len_app, len_app]
    omega
theorem len_names {y : Str} {ts : List Str} (h : wdN ts) : (Str.join y ts).length ≤ 8 * (8 + y.length) := by
  have z := len_join y (ps := ts) (B := 8) h.2
  have : ts.length * (8 + y.length) ≤ 8 * (8 + y.length) := Nat.mul_le_mul_right _ h.1
  omega
theorem len_ask {how : Str} {tm : List G7.Tm} {ts : List Str} {c : Option Cd} (h0 : how.length ≤ 8) (h1 : wdM tm) (h2 : wdN ts) (h3 : wdO c) : (howS how tm ++ sS " from " ++ Str.join (sS " and ") ts ++ whereS c).length ≤ 9260 := by
  have := len_how h0 h1
  have := len_names (y := sS " and ") h2
  have := len_where h3
  have := lens
  rw [len_app, len_app, len_app]
  omega
theorem len_sets {ss : List (Str × G7.Tm)} (h0 : ss.length ≤ 8) (h : ∀ s ∈ ss, s.1.length ≤ 8 ∧ wdT s.2 ∧ s.2.deep ≤ 6) : (Str.join (sS ", ") (ss.map setS)).length ≤ 8200 := by
  have z := len_join (sS ", ") (ps := ss.map setS) (B := 1023) (fun p hp => by
    obtain ⟨t, ht, rfl⟩ := List.mem_map.mp hp
    have := len_T6 (h t ht).2 4
    have := (h t ht).1
    have := lens
    show (t.1 ++ sS " = " ++ txtT t.2 4).length ≤ _
    rw [len_app, len_app]
    omega)
  rw [lens.1, List.length_map] at z
  have : ss.length * (1023 + 2) ≤ 8 * (1023 + 2) := Nat.mul_le_mul_right _ h0
  omega
theorem St.len {s : St} (h : s.wd) : s.txt.length ≤ 18000 := by
  have l := lens
  have l6 : (sS "set").length = 3 ∧ (sS "strike").length = 6 ∧ (sS "table").length = 5 ∧ (sS "put").length = 3 ∧ (sS "index").length = 5 := by decide +kernel
  cases s with
  | alone w =>
    have h : w ∈ (["begin", "done", "undo"] : List Str) := h
    show w.length ≤ _
    simp only [List.mem_cons, List.not_mem_nil, or_false] at h
    rcases h with rfl | rfl | rfl <;> decide +kernel
  | table t fs =>
    have z := len_join (sS " ") (ps := sS "table" :: t :: fs) (B := 8) (fun p hp => by
      rcases List.mem_cons.mp hp with rfl | hp
      · omega
      · rcases List.mem_cons.mp hp with rfl | hp
        · exact h.1
        · exact h.2.2 p hp)
    show (Str.join (sS " ") (sS "table" :: t :: fs)).length ≤ _
    have := h.2.1
    rw [l.2.1, List.length_cons, List.length_cons] at z
    omega
  | index t f =>
    show (sS "index" ++ sS " " ++ t ++ sS " " ++ f).length ≤ _
    have := h.1
    have := h.2
    rw [len_app, len_app, len_app, len_app]
    omega
  | put t ns =>
    have z := len_join (sS " ") (ps := sS "put" :: t :: ns.map D72.strI) (B := 8) (fun p hp => by
      rcases List.mem_cons.mp hp with rfl | hp
      · omega
      · rcases List.mem_cons.mp hp with rfl | hp
        · exact h.1
        · obtain ⟨n, hn, rfl⟩ := List.mem_map.mp hp
          have := len_num (h.2.2 n hn).1 (h.2.2 n hn).2
          omega)
    show (Str.join (sS " ") (sS "put" :: t :: ns.map D72.strI)).length ≤ _
    have := h.2.1
    rw [l.2.1, List.length_cons, List.length_cons, List.length_map] at z
    omega
  | set t ss c =>
    show (sS "set" ++ sS " " ++ t ++ sS " " ++ Str.join (sS ", ") (ss.map setS) ++ whereS c).length ≤ _
    have := h.1
    have := len_sets h.2.1 h.2.2.1
    have := len_where h.2.2.2
    rw [len_app, len_app, len_app, len_app, len_app]
    omega
  | strike t c =>
    show (sS "strike" ++ sS " " ++ t ++ whereS c).length ≤ _
    have := h.1
    have := len_where h.2
    rw [len_app, len_app, len_app]
    omega
  | ask how tm ts c bys first =>
    show (howS how tm ++ sS " from " ++ Str.join (sS " and ") ts ++ whereS c ++ byS bys ++ firstS first).length ≤ _
    obtain ⟨h1, h2, h3, h4, h5, h6⟩ := h
    have := len_how h1 h2
    have := len_names (y := sS " and ") h3
    have := len_where h4
    have := len_by h5
    have := len_first h6
    rw [len_app, len_app, len_app, len_app, len_app]
    omega
theorem wdM_of {ts : List G7.Tm} (n : ts.length ≤ 8) (h : ∀ t ∈ ts, GTm t) : wdM ts := ⟨n, fun t ht => ⟨wdT_of (h t ht).ok (h t ht).ng (h t ht).lim, Nat.le_trans (h t ht).deep (by decide)⟩⟩
theorem wdO_of {c : Option Cd} (h : ∀ x, c = some x → GCd x) : wdO c := fun x e => ⟨wdC_of (h x e).ok (h x e).ng (h x e).lim, (h x e).deep⟩
theorem St.dr.wd {s : St} (h : s.dr) : s.wd := by
  cases s with
  | alone w => exact h
  | table t fs =>
    obtain ⟨rfl, rfl⟩ := h
    exact ⟨by decide +kernel, by decide +kernel, by decide +kernel⟩
  | index t f =>
    obtain ⟨h, rfl⟩ := h
    exact ⟨by have := h.len; omega, by decide +kernel⟩
  | put t ns => exact ⟨by have := h.1.len; omega, by have := h.2.2.1; omega, fun n hn => by have := h.2.2.2 n hn; omega⟩
  | set t ss c => exact ⟨by have := h.1.len; omega, by have := h.2.2.1; omega, fun s hs => by
      obtain ⟨a, b⟩ := h.2.2.2.1 s hs
      exact ⟨by have := a.len; omega, wdT_of b.ok b.ng b.lim, Nat.le_trans b.deep (by decide)⟩, wdO_of h.2.2.2.2⟩
  | strike t c => exact ⟨by have := h.1.len; omega, wdO_of h.2⟩
  | ask how tm ts c bys first =>
    obtain ⟨h1, h2, h3, h4, h5, h6, h7, h8, h9, ha, hb⟩ := h
    have hm : tm.length ≤ 3 := by rcases h1 with ⟨_, _, b⟩ | ⟨_, a⟩ | ⟨_, a⟩ <;> omega
    have hh : how.length ≤ 8 := by
      rcases h1 with ⟨rfl, _⟩ | ⟨rfl, _⟩ | ⟨a, _⟩
      · decide +kernel
      · decide +kernel
      · simp only [List.mem_cons, List.not_mem_nil, or_false] at a
        rcases a with rfl | rfl | rfl <;> decide +kernel
    exact ⟨hh, wdM_of (by omega) h5, ⟨by omega, fun t ht => by have := (h4 t ht).len; omega⟩, wdO_of h6, wdM_of (by omega) h9, fun i hi => by have := ha i hi; omega⟩
end Rd

set_option linter.all false
set_option Elab.async false
set_option maxRecDepth 100000
set_option maxHeartbeats 4000000
/-! other blanks at signs: the same words -/
namespace Rd
open PySem.StrLaws (replL replL_nil replL_hit replL_miss replace_list)
open TK (replace_len)
open PySem PySem.Spec PyProof.Rows L2 G7 Nm
/-- blanks about a sign that stands alone -/
theorem toks_loose {f r : List Nat} {c : Nat} {b0 b1 : List Nat} (h0 : b0 = [] ∨ b0 = [32] ∧ loneC c) (h1 : b1 = [] ∨ b1 = [32] ∧ loneC c) : toksL (f ++ b0 ++ [c] ++ b1 ++ r) = toksL (f ++ c :: r) := by
  rcases h0 with rfl | ⟨rfl, hc⟩
  · rcases h1 with rfl | ⟨rfl, hc⟩
    · simp
    · rw [show f ++ [] ++ [c] ++ [32] ++ r = f ++ c :: (32 :: r) by simp, toks_lone hc, toks_lone hc, toksL_blank]
  · rcases h1 with rfl | ⟨rfl, _⟩
    · rw [show f ++ [32] ++ [c] ++ [] ++ r = f ++ 32 :: (c :: r) by simp, toks_sp, toks_lone0 hc, toks_lone hc]
    · rw [show f ++ [32] ++ [c] ++ [32] ++ r = f ++ 32 :: (c :: (32 :: r)) by simp, toks_sp, toks_lone0 hc, toks_lone hc, toksL_blank]
theorem toks_repl {c : Nat} (hc : loneC c) : ∀ (n : Nat) (l pre : List Nat), l.length ≤ n → toksL (pre ++ replL [32, c, 32] [c] l) = toksL (pre ++ l)
  | _, [], pre, _ => by rw [replL_nil]
  | 0, _ :: _, _, h => by simp at h
  | n + 1, x :: l, pre, h => by
    by_cases hh : (x :: l).take 3 = [32, c, 32]
    · have e := replL_hit (y := [32, c, 32]) (z := [c]) (c := x) (r := l) (by simp) hh
      rw [e]
      have ed : x :: l = [32, c, 32] ++ (x :: l).drop 3 := by rw [← hh]; exact (List.take_append_drop 3 _).symm
      have ih := toks_repl hc n ((x :: l).drop 3) [] (by rw [List.length_drop]; simp only [List.length_cons] at h ⊢; omega)
      rw [List.nil_append, List.nil_append] at ih
      show toksL (pre ++ c :: replL [32, c, 32] [c] ((x :: l).drop 3)) = _
      rw [toks_lone hc, ih]
      conv => rhs; rw [ed]
      show _ = toksL (pre ++ 32 :: (c :: (32 :: (x :: l).drop 3)))
      rw [toks_sp, toks_lone0 hc, toksL_blank]
    · have e := replL_miss (y := [32, c, 32]) (z := [c]) (c := x) (r := l) hh
      rw [e]
      have ih := toks_repl hc n l (pre ++ [x]) (by simpa using h)
      rw [show pre ++ x :: replL [32, c, 32] [c] l = pre ++ [x] ++ replL [32, c, 32] [c] l by simp, ih]
      simp
theorem toks_replace {c : Nat} (hc : loneC c) {x y z : Str} (hy : sg y = [32, c, 32]) (hz : sg z = [c]) : toks (Txt.replace x y z) = toks x := by
  rw [toks_L, toks_L]
  show toksL ((Txt.replace x y z).cps.toList) = _
  rw [replace_list (by rw [TL.len_tl]; show 1 ≤ (sg y).length; rw [hy]; simp)]
  show toksL (replL (sg y) (sg z) (sg x)) = _
  rw [hy, hz]
  exact toks_repl hc (sg x).length (sg x) [] (Nat.le_refl _)
theorem repl_short {y z : List Nat} (hy : y ≠ []) (hz : z.length ≤ y.length) : ∀ (n : Nat) (l : List Nat), l.length ≤ n → (replL y z l).length ≤ l.length
  | _, [], _ => by rw [replL_nil]; exact Nat.le_refl _
  | 0, _ :: _, h => by simp at h
  | n + 1, x :: l, h => by
    by_cases hh : (x :: l).take y.length = y
    · rw [replL_hit (z := z) hy hh, List.length_append]
      have h0 : 0 < y.length := List.length_pos_iff.mpr hy
      have ih := repl_short hy hz n ((x :: l).drop y.length) (by rw [List.length_drop]; simp only [List.length_cons] at h ⊢; omega)
      have e := congrArg List.length hh
      rw [List.length_take] at e
      rw [List.length_drop] at ih
      omega
    · rw [replL_miss (z := z) hh, List.length_cons, List.length_cons]
      have ih := repl_short hy hz n l (by simpa using h)
      omega
theorem replace_short {x y z : Str} (h1 : 1 ≤ y.length) (h : z.length ≤ y.length) : (Txt.replace x y z).length ≤ x.length := by
  have e := replace_list (x := x) (y := y) (z := z) h1
  rw [TL.len_tl]
  show (Txt.replace x y z).cps.toList.length ≤ _
  rw [e]
  have hy : (sg y).length = y.length := (TL.len_tl y).symm
  have hz : (sg z).length = z.length := (TL.len_tl z).symm
  have hx : (sg x).length = x.length := (TL.len_tl x).symm
  have := repl_short (y := sg y) (z := sg z) (fun z => by rw [z] at hy; simp at hy; omega) (by omega) (sg x).length (sg x) (Nat.le_refl _)
  show (replL (sg y) (sg z) (sg x)).length ≤ _
  omega
theorem len_terms3 {ts : List G7.Tm} (n : ts.length ≤ 3) (h : wdM ts) : (termsS ts).length ≤ 3042 := by
  unfold termsS
  have z := len_join (sS ", ") (ps := ts.map fun t => txtT t 4) (B := 1012) (fun p hp => by
    obtain ⟨t, ht, rfl⟩ := List.mem_map.mp hp
    exact len_T6 (h.2 t ht) 4)
  rw [lens.1, List.length_map] at z
  have : ts.length * (1012 + 2) ≤ 3 * (1012 + 2) := Nat.mul_le_mul_right _ n
  omega
/-- a drawn statement's text -/
theorem St.dr.len {s : St} (h : s.dr) : s.txt.length ≤ 9000 := by
  have w := h.wd
  have l := lens
  have l6 : (sS "set").length = 3 ∧ (sS "strike").length = 6 ∧ (sS "table").length = 5 ∧ (sS "put").length = 3 ∧ (sS "index").length = 5 := by decide +kernel
  cases s with
  | alone x =>
    have h : x ∈ (["begin", "done", "undo"] : List Str) := h
    show x.length ≤ _
    simp only [List.mem_cons, List.not_mem_nil, or_false] at h
    rcases h with rfl | rfl | rfl <;> decide +kernel
  | table t fs =>
    obtain ⟨rfl, rfl⟩ := h
    decide +kernel
  | index t f =>
    show (sS "index" ++ sS " " ++ t ++ sS " " ++ f).length ≤ _
    have := w.1
    have := w.2
    rw [len_app, len_app, len_app, len_app]
    omega
  | put t ns =>
    have z := len_join (sS " ") (ps := sS "put" :: t :: ns.map D72.strI) (B := 8) (fun p hp => by
      rcases List.mem_cons.mp hp with rfl | hp
      · omega
      · rcases List.mem_cons.mp hp with rfl | hp
        · exact w.1
        · obtain ⟨n, hn, rfl⟩ := List.mem_map.mp hp
          have := len_num (w.2.2 n hn).1 (w.2.2 n hn).2
          omega)
    show (Str.join (sS " ") (sS "put" :: t :: ns.map D72.strI)).length ≤ _
    have := w.2.1
    rw [l.2.1, List.length_cons, List.length_cons, List.length_map] at z
    omega
  | set t ss c =>
    show (sS "set" ++ sS " " ++ t ++ sS " " ++ Str.join (sS ", ") (ss.map setS) ++ whereS c).length ≤ _
    have z := len_join (sS ", ") (ps := ss.map setS) (B := 1023) (fun p hp => by
      obtain ⟨t, ht, rfl⟩ := List.mem_map.mp hp
      have := len_T6 (w.2.2.1 t ht).2 4
      have := (w.2.2.1 t ht).1
      have := lens
      show (t.1 ++ sS " = " ++ txtT t.2 4).length ≤ _
      rw [len_app, len_app]
      omega)
    rw [lens.1, List.length_map] at z
    have : ss.length * (1023 + 2) ≤ 3 * (1023 + 2) := Nat.mul_le_mul_right _ h.2.2.1
    have := w.1
    have := len_where w.2.2.2
    rw [len_app, len_app, len_app, len_app, len_app]
    omega
  | strike t c =>
    show (sS "strike" ++ sS " " ++ t ++ whereS c).length ≤ _
    have := w.1
    have := len_where w.2
    rw [len_app, len_app, len_app]
    omega
  | ask how tm ts c bys first =>
    show (howS how tm ++ sS " from " ++ Str.join (sS " and ") ts ++ whereS c ++ byS bys ++ firstS first).length ≤ _
    obtain ⟨h1, h2, h3, h4, h5, h6⟩ := w
    have hm : tm.length ≤ 3 := by rcases h.1 with ⟨_, _, b⟩ | ⟨_, a⟩ | ⟨_, a⟩ <;> omega
    have hb : bys.length ≤ 3 := h.2.2.2.2.2.2.1
    have a1 : (howS how tm).length ≤ 3051 := by
      unfold howS
      split
      · omega
      · have := len_terms3 hm h2
        rw [len_app, len_app]
        omega
    have a2 : (byS bys).length ≤ 3046 := by
      unfold byS
      split
      · exact Nat.zero_le _
      · have := len_terms3 hb h5
        rw [len_app]
        omega
    have := len_names (y := sS " and ") h3
    have := len_where h4
    have := len_first h6
    rw [len_app, len_app, len_app, len_app, len_app]
    omega
theorem toks_wrap (x : Str) : toks (sS "  " ++ x ++ sS " ") = toks x := by
  rw [toks_L, toks_L, sg_app, sg_app, show sg (sS "  ") = [32, 32] by decide +kernel, show sg (sS " ") = [32] by decide +kernel]
  show toksL (32 :: (32 :: (sg x ++ 32 :: []))) = _
  rw [toksL_blank, toksL_blank, toks_sp, toksL_nil, List.append_nil]
end Rd

set_option linter.all false
set_option Elab.async false
set_option maxRecDepth 100000
set_option maxHeartbeats 4000000
/-! two texts that are read -/
namespace Rd
open PySem PySem.Spec PyProof.Rows L2 G7 Nm
def cdA : Cd := .con .or (.cmp .lt (.fld (sS "") (sS "a")) (.num 3)) (.con .and (.cmp .eq (.fld (sS "") (sS "b")) (.num 2)) (.neg (.cmp .gt (.fld (sS "") (sS "c")) (.op .add (.num 1) (.op .mul (.num 2) (.fld (sS "") (sS "d")))))))
def stA : St := .ask (sS "pick") [.fld (sS "") (sS "a")] [sS "t"] (some cdA) [] none
def stB : St := .ask (sS "pick") [.op .sub (.num (-3)) (.num (-4))] [sS "t"] none [] none
theorem gd_f {f : Str} (h : isName f = true) : gdK (.fld (sS "") f) := ⟨.inl rfl, h⟩
theorem good_A : stA.good := by
  refine ⟨.inl ⟨rfl, by decide, by decide, by decide, fun i e => (nomatch e)⟩, by decide, by decide, fun t ht => ?_, fun t ht => ?_, fun x e => ?_, fun t ht => nomatch ht⟩
  · rw [List.mem_singleton.mp ht]; decide +kernel
  · rw [List.mem_singleton.mp ht]; exact ⟨gd_f (by decide +kernel), by decide⟩
  · cases e
    refine ⟨⟨rfl, ⟨rfl, gd_f (by decide +kernel), gd_num (by decide) (by decide)⟩, rfl, ⟨rfl, gd_f (by decide +kernel), gd_num (by decide) (by decide)⟩, rfl, gd_f (by decide +kernel), rfl, gd_num (by decide) (by decide), rfl, gd_num (by decide) (by decide), gd_f (by decide +kernel)⟩, by decide⟩
theorem good_B : stB.good := by
  refine ⟨.inl ⟨rfl, by decide, by decide, by decide, fun i e => (nomatch e)⟩, by decide, by decide, fun t ht => ?_, fun t ht => ?_, fun x e => (nomatch e), fun t ht => (nomatch ht)⟩
  · rw [List.mem_singleton.mp ht]; decide +kernel
  · rw [List.mem_singleton.mp ht]; exact ⟨⟨rfl, gd_num (by decide) (by decide), gd_num (by decide) (by decide)⟩, by decide⟩
theorem read_A : read 7 (sS "pick a from t where a < 3 or b = 2 and not c > 1 + 2 * d") = .ok stA.sm stA.tk.length := read_ok good_A (by decide +kernel)
theorem read_B : read 7 (sS "pick - 3 - -4 from t") = .ok stB.sm stB.tk.length := read_ok good_B (by decide +kernel)
end Rd

namespace K01
open PySem PySem.Spec PyProof.Rows L2 G7 LamX
local macro_rules | `(tactic| simp? only [$ls,*]) => `(tactic| simp only [tVar, tC, tOp, rI, rI0, rU, tTest, tB, tAnd, tOr, tNot, tAndV, tOrV, tNotV, tIf, tNil, tCons, tTup, tLst, tCB, tSeq, tAsg, gName, tRet, tRetN, tIfS, tNext, tDrop, tCall, tUn, tPar, CMul, CDiv, V.int.injEq, V.bl.injEq, V.ref.injEq, V.str.injEq, Option.some.injEq, List.cons.injEq, and_true, true_and, and_false, false_and, or_false, false_or, or_true, true_or, exists_eq_left', exists_eq_left, exists_and_left, exists_and_right, exists_eq', exists_eq, exists_false, exists_const, List.getElem?_cons_succ, List.getElem?_cons_zero, List.set_cons_succ, List.set_cons_zero, List.length_cons, List.length_nil, List.cons_append, List.nil_append, List.append_nil, reduceCtorEq, Int.reduceLT, Int.reduceLE, Int.reduceNeg, Int.reducePow, Int.reduceSub, Int.reduceAdd, Nat.reduceAdd, Nat.reduceLeDiff, Bool.not_true, Bool.not_false, decide_true, decide_false, Bool.false_eq_true, ↓reduceIte, upd_same, not_true_eq_false, not_false_eq_true, lsO_l, lsO_f, tpO_t, tpO_f, dkO_d, dkO_f, keyO_i, keyO_s, rIxH, rIxU, cLenL, cLenT, cListL, cListT, cTupL, cIntB, cAll, rEqNilI, rEq, rNe, scal_ii, scal_ss, scal_bb, scal_nn, scal_ni, scal_in, scal_ns, scal_sn, gSub, rSetL, ixs0, ixs1, ixs2, seq0, at0, at1, at2, at3, tBM, tBM0, rAppend, rPopAt, tyV_list, tGet2, tGetI, sPut, tMG, rTIdx, tyTup, tTupF, cx_K, cx_w, ex_map_int, ex_nil_int, ex_cons_int, List.map_cons, List.map_nil, List.isEmpty_nil, List.isEmpty_cons, List.eraseIdx_zero, List.tail_cons, List.eraseIdx_cons_zero, HO.lst.injEq, HO.tup.injEq, HO.dK.injEq, HO.frz.injEq, ne_eq, gTupH, gCons, gNil, wipe, tYes, upd_upd, and_assoc, List.getElem?_map, Option.map_some, isn_non_bool, isn_non_int, isn_non_str, isn_non_tuple, isn_non_list, isn_non_dict, isn_bl_bool, isn_bl_int, isn_bl_str, isn_bl_tuple, isn_bl_list, isn_bl_dict, isn_int_bool, isn_int_int, isn_int_str, isn_int_tuple, isn_int_list, isn_int_dict, isn_str_bool, isn_str_int, isn_str_str, isn_str_tuple, isn_str_list, isn_str_dict, isn_lst_bool, isn_lst_int, isn_lst_str, isn_lst_tuple, isn_lst_list, isn_lst_dict, isn_tup_bool, isn_tup_int, isn_tup_str, isn_tup_tuple, isn_tup_list, isn_tup_dict, isn_dct_bool, isn_dct_int, isn_dct_str, isn_dct_tuple, isn_dct_list, isn_dct_dict, okn_bool, okn_int, okn_str, okn_tuple, okn_list, okn_dict, cIsi, tyT_n, tyT_b, tyT_i, tyT_s, tyT_r, V.ty.injEq, tSl, tPart, tNoPart, rSlF, gName, List.length_map, Int.reduceToNat, cpow18, rInTab, rIxTab, rCatH, rCat, rInT, cSortD, cMaxL, cMinL, rNeNilI, inV, flatV, List.any_cons, List.any_nil, List.all_cons, List.all_nil, eqV, Bool.and_true, Bool.and_false, Bool.true_and, Bool.false_and, Bool.or_false, Bool.false_or, Bool.or_true, Bool.true_or, sz0, sz1, sz2, sz3, sz4, sz5, sz6, tM1, rNewStrs, gStarL, rIxS, tChain, rRep, rInTx, rIxTx, rNeNilA, rEqNilA, rIsD, tXf, rSlP, rInX, rCatS, rInS, cTupL, cLenD, tFld, sFld, tMeth, tMake, HO.ins.injEq, rIxLT, cLenLT, Td.rIsG, Lm.tCallZ, Lm.tLam, tMkK, rEqSL, rNilT, rEqXS, rMulS, rInQ, rIxS, tMG, tAug, ipI, rNotInT, rStrA, CwR.tReplC, $ls,*])
def top (i : Nat) : Stmt := PySem.Challenge.pw_granary_k01_statements_written_and_read.main.body.getD i (.Pass ⟨0, 0, 0, 0⟩)
abbrev s_BadText_init : Stmt := inClass (top 2) 0
abbrev N_BadText_init : List Str := ["self", "place"]
theorem sc_BadText_init : FnScope N_BadText_init ["self", "place"] (defScope s_BadText_init) := ⟨rfl, rfl, rfl, by decide +kernel, rfl, by decide +kernel, by decide +kernel⟩
abbrev s_is_name : Stmt := top 10
abbrev N_is_name : List Str := ["word", "good", "sign"]
theorem sc_is_name : FnScope N_is_name ["word"] (defScope s_is_name) := ⟨rfl, rfl, rfl, by decide +kernel, rfl, by decide +kernel, by decide +kernel⟩
abbrev s_is_number : Stmt := top 11
abbrev N_is_number : List Str := ["word", "good", "sign"]
theorem sc_is_number : FnScope N_is_number ["word"] (defScope s_is_number) := ⟨rfl, rfl, rfl, by decide +kernel, rfl, by decide +kernel, by decide +kernel⟩
abbrev s_run_of : Stmt := top 12
abbrev N_run_of : List Str := ["text", "at", "signs"]
theorem sc_run_of : FnScope N_run_of ["text", "at", "signs"] (defScope s_run_of) := ⟨rfl, rfl, rfl, by decide +kernel, rfl, by decide +kernel, by decide +kernel⟩
abbrev s_next_end : Stmt := top 13
abbrev N_next_end : List Str := ["text", "at", "signs", "sign"]
theorem sc_next_end : FnScope N_next_end ["text", "at"] (defScope s_next_end) := ⟨rfl, rfl, rfl, by decide +kernel, rfl, by decide +kernel, by decide +kernel⟩
abbrev s_words_of : Stmt := top 14
abbrev N_words_of : List Str := ["text", "found", "at", "end"]
theorem sc_words_of : FnScope N_words_of ["text"] (defScope s_words_of) := ⟨rfl, rfl, rfl, by decide +kernel, rfl, by decide +kernel, by decide +kernel⟩
abbrev s_Reader_init : Stmt := inClass (top 15) 0
abbrev N_Reader_init : List Str := ["self", "text"]
theorem sc_Reader_init : FnScope N_Reader_init ["self", "text"] (defScope s_Reader_init) := ⟨rfl, rfl, rfl, by decide +kernel, rfl, by decide +kernel, by decide +kernel⟩
abbrev s_Reader_here : Stmt := inClass (top 15) 1
abbrev N_Reader_here : List Str := ["self"]
theorem sc_Reader_here : FnScope N_Reader_here ["self"] (defScope s_Reader_here) := ⟨rfl, rfl, rfl, by decide +kernel, rfl, by decide +kernel, by decide +kernel⟩
abbrev s_Reader_refuse : Stmt := inClass (top 15) 2
abbrev N_Reader_refuse : List Str := ["self"]
theorem sc_Reader_refuse : FnScope N_Reader_refuse ["self"] (defScope s_Reader_refuse) := ⟨rfl, rfl, rfl, by decide +kernel, rfl, by decide +kernel, by decide +kernel⟩
abbrev s_Reader_taken : Stmt := inClass (top 15) 3
abbrev N_Reader_taken : List Str := ["self"]
theorem sc_Reader_taken : FnScope N_Reader_taken ["self"] (defScope s_Reader_taken) := ⟨rfl, rfl, rfl, by decide +kernel, rfl, by decide +kernel, by decide +kernel⟩
abbrev s_Reader_does_take : Stmt := inClass (top 15) 4
abbrev N_Reader_does_take : List Str := ["self", "word"]
theorem sc_Reader_does_take : FnScope N_Reader_does_take ["self", "word"] (defScope s_Reader_does_take) := ⟨rfl, rfl, rfl, by decide +kernel, rfl, by decide +kernel, by decide +kernel⟩
abbrev s_Reader_need : Stmt := inClass (top 15) 5
abbrev N_Reader_need : List Str := ["self", "word"]
theorem sc_Reader_need : FnScope N_Reader_need ["self", "word"] (defScope s_Reader_need) := ⟨rfl, rfl, rfl, by decide +kernel, rfl, by decide +kernel, by decide +kernel⟩
abbrev s_Reader_next_name : Stmt := inClass (top 15) 6
abbrev N_Reader_next_name : List Str := ["self"]
theorem sc_Reader_next_name : FnScope N_Reader_next_name ["self"] (defScope s_Reader_next_name) := ⟨rfl, rfl, rfl, by decide +kernel, rfl, by decide +kernel, by decide +kernel⟩
abbrev s_Reader_next_number : Stmt := inClass (top 15) 7
abbrev N_Reader_next_number : List Str := ["self", "is_below", "found"]
theorem sc_Reader_next_number : FnScope N_Reader_next_number ["self"] (defScope s_Reader_next_number) := ⟨rfl, rfl, rfl, by decide +kernel, rfl, by decide +kernel, by decide +kernel⟩
abbrev s_Statements_whole : Stmt := inClass (top 30) 0
abbrev N_Statements_whole : List Str := ["self", "found"]
theorem sc_Statements_whole : FnScope N_Statements_whole ["self"] (defScope s_Statements_whole) := ⟨rfl, rfl, rfl, by decide +kernel, rfl, by decide +kernel, by decide +kernel⟩
abbrev s_Statements_statement : Stmt := inClass (top 30) 1
abbrev N_Statements_statement : List Str := ["self", "word", "table", "fields", "numbers", "sets", "cond"]
theorem sc_Statements_statement : FnScope N_Statements_statement ["self"] (defScope s_Statements_statement) := ⟨rfl, rfl, rfl, by decide +kernel, rfl, by decide +kernel, by decide +kernel⟩
abbrev s_Statements_some : Stmt := inClass (top 30) 2
abbrev N_Statements_some : List Str := ["self", "one", "most", "found"]
theorem sc_Statements_some : FnScope N_Statements_some ["self", "one", "most"] (defScope s_Statements_some) := ⟨rfl, rfl, rfl, by decide +kernel, rfl, by decide +kernel, by decide +kernel⟩
abbrev s_Statements_one_set : Stmt := inClass (top 30) 3
abbrev N_Statements_one_set : List Str := ["self", "field"]
theorem sc_Statements_one_set : FnScope N_Statements_one_set ["self"] (defScope s_Statements_one_set) := ⟨rfl, rfl, rfl, by decide +kernel, rfl, by decide +kernel, by decide +kernel⟩
abbrev s_Statements_where : Stmt := inClass (top 30) 4
abbrev N_Statements_where : List Str := ["self"]
theorem sc_Statements_where : FnScope N_Statements_where ["self"] (defScope s_Statements_where) := ⟨rfl, rfl, rfl, by decide +kernel, rfl, by decide +kernel, by decide +kernel⟩
abbrev s_Statements_question : Stmt := inClass (top 30) 5
abbrev N_Statements_question : List Str := ["self", "how", "terms", "tables", "cond", "by", "first"]
theorem sc_Statements_question : FnScope N_Statements_question ["self"] (defScope s_Statements_question) := ⟨rfl, rfl, rfl, by decide +kernel, rfl, by decide +kernel, by decide +kernel⟩
abbrev s_Statements_a_term : Stmt := inClass (top 30) 6
abbrev N_Statements_a_term : List Str := ["self", "sort", "found"]
theorem sc_Statements_a_term : FnScope N_Statements_a_term ["self"] (defScope s_Statements_a_term) := ⟨rfl, rfl, rfl, by decide +kernel, rfl, by decide +kernel, by decide +kernel⟩
abbrev s_Statements_a_cond : Stmt := inClass (top 30) 7
abbrev N_Statements_a_cond : List Str := ["self", "sort", "found"]
theorem sc_Statements_a_cond : FnScope N_Statements_a_cond ["self"] (defScope s_Statements_a_cond) := ⟨rfl, rfl, rfl, by decide +kernel, rfl, by decide +kernel, by decide +kernel⟩
abbrev s_Statements_joined : Stmt := inClass (top 30) 8
abbrev N_Statements_joined : List Str := ["self", "word", "part", "sort", "found", "other"]
theorem sc_Statements_joined : FnScope N_Statements_joined ["self", "word", "part"] (defScope s_Statements_joined) := ⟨rfl, rfl, rfl, by decide +kernel, rfl, by decide +kernel, by decide +kernel⟩
abbrev s_Statements_or_of : Stmt := inClass (top 30) 9
abbrev N_Statements_or_of : List Str := ["self"]
theorem sc_Statements_or_of : FnScope N_Statements_or_of ["self"] (defScope s_Statements_or_of) := ⟨rfl, rfl, rfl, by decide +kernel, rfl, by decide +kernel, by decide +kernel⟩
abbrev s_Statements_and_of : Stmt := inClass (top 30) 10
abbrev N_Statements_and_of : List Str := ["self"]
theorem sc_Statements_and_of : FnScope N_Statements_and_of ["self"] (defScope s_Statements_and_of) := ⟨rfl, rfl, rfl, by decide +kernel, rfl, by decide +kernel, by decide +kernel⟩
abbrev s_Statements_not_of : Stmt := inClass (top 30) 11
abbrev N_Statements_not_of : List Str := ["self", "sort", "found"]
theorem sc_Statements_not_of : FnScope N_Statements_not_of ["self"] (defScope s_Statements_not_of) := ⟨rfl, rfl, rfl, by decide +kernel, rfl, by decide +kernel, by decide +kernel⟩
abbrev s_Statements_compare_of : Stmt := inClass (top 30) 12
abbrev N_Statements_compare_of : List Str := ["self", "sort", "found", "word"]
theorem sc_Statements_compare_of : FnScope N_Statements_compare_of ["self"] (defScope s_Statements_compare_of) := ⟨rfl, rfl, rfl, by decide +kernel, rfl, by decide +kernel, by decide +kernel⟩
abbrev s_Statements_sum_of : Stmt := inClass (top 30) 13
abbrev N_Statements_sum_of : List Str := ["self", "only", "sort", "found", "word"]
theorem sc_Statements_sum_of : FnScope N_Statements_sum_of ["self", "only"] (defScope s_Statements_sum_of) := ⟨rfl, rfl, rfl, by decide +kernel, rfl, by decide +kernel, by decide +kernel⟩
abbrev s_Statements_product_of : Stmt := inClass (top 30) 14
abbrev N_Statements_product_of : List Str := ["self", "only", "sort", "found"]
theorem sc_Statements_product_of : FnScope N_Statements_product_of ["self", "only"] (defScope s_Statements_product_of) := ⟨rfl, rfl, rfl, by decide +kernel, rfl, by decide +kernel, by decide +kernel⟩
abbrev s_Statements_go_in : Stmt := inClass (top 30) 15
abbrev N_Statements_go_in : List Str := ["self"]
theorem sc_Statements_go_in : FnScope N_Statements_go_in ["self"] (defScope s_Statements_go_in) := ⟨rfl, rfl, rfl, by decide +kernel, rfl, by decide +kernel, by decide +kernel⟩
abbrev s_Statements_factor_of : Stmt := inClass (top 30) 16
abbrev N_Statements_factor_of : List Str := ["self", "only", "found", "name"]
theorem sc_Statements_factor_of : FnScope N_Statements_factor_of ["self", "only"] (defScope s_Statements_factor_of) := ⟨rfl, rfl, rfl, by decide +kernel, rfl, by decide +kernel, by decide +kernel⟩
abbrev s_read : Stmt := top 31
abbrev N_read : List Str := ["text"]
theorem sc_read : FnScope N_read ["text"] (defScope s_read) := ⟨rfl, rfl, rfl, by decide +kernel, rfl, by decide +kernel, by decide +kernel⟩
abbrev s_tree_text : Stmt := top 32
abbrev N_tree_text : List Str := ["tree", "tight", "word", "mine", "found", "left"]
theorem sc_tree_text : FnScope N_tree_text ["tree", "tight"] (defScope s_tree_text) := ⟨rfl, rfl, rfl, by decide +kernel, rfl, by decide +kernel, by decide +kernel⟩
abbrev s_where_text : Stmt := top 33
abbrev N_where_text : List Str := ["cond"]
theorem sc_where_text : FnScope N_where_text ["cond"] (defScope s_where_text) := ⟨rfl, rfl, rfl, by decide +kernel, rfl, by decide +kernel, by decide +kernel⟩
abbrev s_ask_text : Stmt := top 34
abbrev N_ask_text : List Str := ["tree", "word", "how", "terms", "tables", "cond", "by", "first", "found", "term"]
theorem sc_ask_text : FnScope N_ask_text ["tree"] (defScope s_ask_text) := ⟨rfl, rfl, rfl, by decide +kernel, rfl, by decide +kernel, by decide +kernel⟩
abbrev s_written : Stmt := top 35
abbrev N_written : List Str := ["tree", "word", "found", "sets", "one", "field", "term"]
theorem sc_written : FnScope N_written ["tree"] (defScope s_written) := ⟨rfl, rfl, rfl, by decide +kernel, rfl, by decide +kernel, by decide +kernel⟩
abbrev s_l_mix : Stmt := top 37
abbrev N_l_mix : List Str := ["_law_script", "_law_seed", "_law_mixed", "_law_cell"]
theorem sc_l_mix : FnScope N_l_mix ["_law_script", "_law_seed"] (defScope s_l_mix) := ⟨rfl, rfl, rfl, by decide +kernel, rfl, by decide +kernel, by decide +kernel⟩
abbrev s_l_next : Stmt := top 38
abbrev N_l_next : List Str := ["_law_h", "_law_many", "_law_cell"]
theorem sc_l_next : FnScope N_l_next ["_law_h", "_law_many"] (defScope s_l_next) := ⟨rfl, rfl, rfl, by decide +kernel, rfl, by decide +kernel, by decide +kernel⟩
abbrev s_l_alike : Stmt := top 39
abbrev N_l_alike : List Str := ["_law_found", "_law_due", "_law_k"]
theorem sc_l_alike : FnScope N_l_alike ["_law_found", "_law_due"] (defScope s_l_alike) := ⟨rfl, rfl, rfl, by decide +kernel, rfl, by decide +kernel, by decide +kernel⟩
abbrev s_l_shapes : Stmt := top 40
abbrev N_l_shapes : List Str := ["_law_h", "_law_many", "_law_found", "_law_k"]
theorem sc_l_shapes : FnScope N_l_shapes ["_law_h", "_law_many"] (defScope s_l_shapes) := ⟨rfl, rfl, rfl, by decide +kernel, rfl, by decide +kernel, by decide +kernel⟩
abbrev s_l_number : Stmt := top 41
abbrev N_l_number : List Str := ["_law_h"]
theorem sc_l_number : FnScope N_l_number ["_law_h"] (defScope s_l_number) := ⟨rfl, rfl, rfl, by decide +kernel, rfl, by decide +kernel, by decide +kernel⟩
abbrev s_l_term : Stmt := top 42
abbrev N_l_term : List Str := ["_law_h", "_law_fields", "_law_deep", "_law_way"]
theorem sc_l_term : FnScope N_l_term ["_law_h", "_law_fields", "_law_deep"] (defScope s_l_term) := ⟨rfl, rfl, rfl, by decide +kernel, rfl, by decide +kernel, by decide +kernel⟩
abbrev s_l_cond : Stmt := top 43
abbrev N_l_cond : List Str := ["_law_h", "_law_fields", "_law_deep", "_law_way", "_law_word", "_law_some_here", "_law_field", "_law_pair", "_law_k"]
theorem sc_l_cond : FnScope N_l_cond ["_law_h", "_law_fields", "_law_deep"] (defScope s_l_cond) := ⟨rfl, rfl, rfl, by decide +kernel, rfl, by decide +kernel, by decide +kernel⟩
abbrev s_l_some : Stmt := top 44
abbrev N_l_some : List Str := ["_law_h", "_law_shapes_here", "_law_tables", "_law_found", "_law_table", "_law_field"]
theorem sc_l_some : FnScope N_l_some ["_law_h", "_law_shapes_here", "_law_tables"] (defScope s_l_some) := ⟨rfl, rfl, rfl, by decide +kernel, rfl, by decide +kernel, by decide +kernel⟩
abbrev s_l_ask : Stmt := top 45
abbrev N_l_ask : List Str := ["_law_h", "_law_shapes_here", "_law_names", "_law_tables", "_law_fields", "_law_how", "_law_many", "_law_terms_here", "_law_cond_here", "_law_by", "_law_first", "_law_k"]
theorem sc_l_ask : FnScope N_l_ask ["_law_h", "_law_shapes_here"] (defScope s_l_ask) := ⟨rfl, rfl, rfl, by decide +kernel, rfl, by decide +kernel, by decide +kernel⟩
abbrev s_l_statement : Stmt := top 46
abbrev N_l_statement : List Str := ["_law_h", "_law_shapes_here", "_law_way", "_law_table", "_law_fields", "_law_cond_here", "_law_names", "_law_some_here", "_law_field", "_law_k"]
theorem sc_l_statement : FnScope N_l_statement ["_law_h", "_law_shapes_here"] (defScope s_l_statement) := ⟨rfl, rfl, rfl, by decide +kernel, rfl, by decide +kernel, by decide +kernel⟩
abbrev s_l_text : Stmt := top 47
abbrev N_l_text : List Str := ["_law_tree", "_law_tight", "_law_word", "_law_mine", "_law_found"]
theorem sc_l_text : FnScope N_l_text ["_law_tree", "_law_tight"] (defScope s_l_text) := ⟨rfl, rfl, rfl, by decide +kernel, rfl, by decide +kernel, by decide +kernel⟩
abbrev s_l_terms : Stmt := top 48
abbrev N_l_terms : List Str := ["_law_terms_here", "_law_term_here"]
theorem sc_l_terms : FnScope N_l_terms ["_law_terms_here"] (defScope s_l_terms) := ⟨rfl, rfl, rfl, by decide +kernel, rfl, by decide +kernel, by decide +kernel⟩
abbrev s_l_where : Stmt := top 49
abbrev N_l_where : List Str := ["_law_cond_here"]
theorem sc_l_where : FnScope N_l_where ["_law_cond_here"] (defScope s_l_where) := ⟨rfl, rfl, rfl, by decide +kernel, rfl, by decide +kernel, by decide +kernel⟩
abbrev s_l_written : Stmt := top 50
abbrev N_l_written : List Str := ["_law_tree", "_law_word", "_law_words", "_law_found", "_law_by", "_law_first", "_law_sets", "_law_rest", "_law_field", "_law_term_here", "_law_one"]
theorem sc_l_written : FnScope N_l_written ["_law_tree"] (defScope s_l_written) := ⟨rfl, rfl, rfl, by decide +kernel, rfl, by decide +kernel, by decide +kernel⟩
abbrev s_l_loose : Stmt := top 51
abbrev N_l_loose : List Str := ["_law_h", "_law_text_here", "_law_found", "_law_sign", "_law_blanks", "_law_k"]
theorem sc_l_loose : FnScope N_l_loose ["_law_h", "_law_text_here"] (defScope s_l_loose) := ⟨rfl, rfl, rfl, by decide +kernel, rfl, by decide +kernel, by decide +kernel⟩
abbrev s_law : Stmt := top 52
abbrev N_law : List Str := ["_law_script", "_law_h", "_law_turn", "_law_shapes_here", "_law_tree", "_law_text_here", "_law_loose_here", "_law_found", "_law_due", "_law_cond_here"]
theorem sc_law : FnScope N_law ["_law_script"] (defScope s_law) := ⟨rfl, rfl, rfl, by decide +kernel, rfl, by decide +kernel, by decide +kernel⟩
def fsStatements (v0 v1 v2 : V) : List (Str × V) := [("words", v0), ("at", v1), ("deep", v2)]
def fpStatements1 (v0 : V) : List (Str × V) := [("words", v0)]
def fpStatements2 (v0 v1 : V) : List (Str × V) := [("words", v0), ("at", v1)]
theorem lkStatements_words {v0 v1 v2 : V} : (fsStatements v0 v1 v2).lookup ("words" : Str) = some v0 := by unfold fsStatements; rw [List.lookup_cons, show (("words" : Str) == "words") = true from by decide +kernel]
theorem lkStatements_at {v0 v1 v2 : V} : (fsStatements v0 v1 v2).lookup ("at" : Str) = some v1 := by unfold fsStatements; rw [List.lookup_cons, show (("at" : Str) == "words") = false from by decide +kernel]; dsimp only; rw [List.lookup_cons, show (("at" : Str) == "at") = true from by decide +kernel]
theorem lkStatements_deep {v0 v1 v2 : V} : (fsStatements v0 v1 v2).lookup ("deep" : Str) = some v2 := by unfold fsStatements; rw [List.lookup_cons, show (("deep" : Str) == "words") = false from by decide +kernel]; dsimp only; rw [List.lookup_cons, show (("deep" : Str) == "at") = false from by decide +kernel]; dsimp only; rw [List.lookup_cons, show (("deep" : Str) == "deep") = true from by decide +kernel]
theorem noStatements_here {v0 v1 v2 : V} : (fsStatements v0 v1 v2).lookup ("here" : Str) = none := by unfold fsStatements; rw [List.lookup_cons, show (("here" : Str) == "words") = false from by decide +kernel]; dsimp only; rw [List.lookup_cons, show (("here" : Str) == "at") = false from by decide +kernel]; dsimp only; rw [List.lookup_cons, show (("here" : Str) == "deep") = false from by decide +kernel]; dsimp only; rfl
theorem noStatements_refuse {v0 v1 v2 : V} : (fsStatements v0 v1 v2).lookup ("refuse" : Str) = none := by unfold fsStatements; rw [List.lookup_cons, show (("refuse" : Str) == "words") = false from by decide +kernel]; dsimp only; rw [List.lookup_cons, show (("refuse" : Str) == "at") = false from by decide +kernel]; dsimp only; rw [List.lookup_cons, show (("refuse" : Str) == "deep") = false from by decide +kernel]; dsimp only; rfl
theorem noStatements_taken {v0 v1 v2 : V} : (fsStatements v0 v1 v2).lookup ("taken" : Str) = none := by unfold fsStatements; rw [List.lookup_cons, show (("taken" : Str) == "words") = false from by decide +kernel]; dsimp only; rw [List.lookup_cons, show (("taken" : Str) == "at") = false from by decide +kernel]; dsimp only; rw [List.lookup_cons, show (("taken" : Str) == "deep") = false from by decide +kernel]; dsimp only; rfl
theorem noStatements_does_take {v0 v1 v2 : V} : (fsStatements v0 v1 v2).lookup ("does_take" : Str) = none := by unfold fsStatements; rw [List.lookup_cons, show (("does_take" : Str) == "words") = false from by decide +kernel]; dsimp only; rw [List.lookup_cons, show (("does_take" : Str) == "at") = false from by decide +kernel]; dsimp only; rw [List.lookup_cons, show (("does_take" : Str) == "deep") = false from by decide +kernel]; dsimp only; rfl
theorem noStatements_need {v0 v1 v2 : V} : (fsStatements v0 v1 v2).lookup ("need" : Str) = none := by unfold fsStatements; rw [List.lookup_cons, show (("need" : Str) == "words") = false from by decide +kernel]; dsimp only; rw [List.lookup_cons, show (("need" : Str) == "at") = false from by decide +kernel]; dsimp only; rw [List.lookup_cons, show (("need" : Str) == "deep") = false from by decide +kernel]; dsimp only; rfl
theorem noStatements_next_name {v0 v1 v2 : V} : (fsStatements v0 v1 v2).lookup ("next_name" : Str) = none := by unfold fsStatements; rw [List.lookup_cons, show (("next_name" : Str) == "words") = false from by decide +kernel]; dsimp only; rw [List.lookup_cons, show (("next_name" : Str) == "at") = false from by decide +kernel]; dsimp only; rw [List.lookup_cons, show (("next_name" : Str) == "deep") = false from by decide +kernel]; dsimp only; rfl
theorem noStatements_next_number {v0 v1 v2 : V} : (fsStatements v0 v1 v2).lookup ("next_number" : Str) = none := by unfold fsStatements; rw [List.lookup_cons, show (("next_number" : Str) == "words") = false from by decide +kernel]; dsimp only; rw [List.lookup_cons, show (("next_number" : Str) == "at") = false from by decide +kernel]; dsimp only; rw [List.lookup_cons, show (("next_number" : Str) == "deep") = false from by decide +kernel]; dsimp only; rfl
theorem noStatements_whole {v0 v1 v2 : V} : (fsStatements v0 v1 v2).lookup ("whole" : Str) = none := by unfold fsStatements; rw [List.lookup_cons, show (("whole" : Str) == "words") = false from by decide +kernel]; dsimp only; rw [List.lookup_cons, show (("whole" : Str) == "at") = false from by decide +kernel]; dsimp only; rw [List.lookup_cons, show (("whole" : Str) == "deep") = false from by decide +kernel]; dsimp only; rfl
theorem noStatements_statement {v0 v1 v2 : V} : (fsStatements v0 v1 v2).lookup ("statement" : Str) = none := by unfold fsStatements; rw [List.lookup_cons, show (("statement" : Str) == "words") = false from by decide +kernel]; dsimp only; rw [List.lookup_cons, show (("statement" : Str) == "at") = false from by decide +kernel]; dsimp only; rw [List.lookup_cons, show (("statement" : Str) == "deep") = false from by decide +kernel]; dsimp only; rfl
theorem noStatements_some {v0 v1 v2 : V} : (fsStatements v0 v1 v2).lookup ("some" : Str) = none := by unfold fsStatements; rw [List.lookup_cons, show (("some" : Str) == "words") = false from by decide +kernel]; dsimp only; rw [List.lookup_cons, show (("some" : Str) == "at") = false from by decide +kernel]; dsimp only; rw [List.lookup_cons, show (("some" : Str) == "deep") = false from by decide +kernel]; dsimp only; rfl
theorem noStatements_one_set {v0 v1 v2 : V} : (fsStatements v0 v1 v2).lookup ("one_set" : Str) = none := by unfold fsStatements; rw [List.lookup_cons, show (("one_set" : Str) == "words") = false from by decide +kernel]; dsimp only; rw [List.lookup_cons, show (("one_set" : Str) == "at") = false from by decide +kernel]; dsimp only; rw [List.lookup_cons, show (("one_set" : Str) == "deep") = false from by decide +kernel]; dsimp only; rfl
theorem noStatements_where {v0 v1 v2 : V} : (fsStatements v0 v1 v2).lookup ("where" : Str) = none := by unfold fsStatements; rw [List.lookup_cons, show (("where" : Str) == "words") = false from by decide +kernel]; dsimp only; rw [List.lookup_cons, show (("where" : Str) == "at") = false from by decide +kernel]; dsimp only; rw [List.lookup_cons, show (("where" : Str) == "deep") = false from by decide +kernel]; dsimp only; rfl
theorem noStatements_question {v0 v1 v2 : V} : (fsStatements v0 v1 v2).lookup ("question" : Str) = none := by unfold fsStatements; rw [List.lookup_cons, show (("question" : Str) == "words") = false from by decide +kernel]; dsimp only; rw [List.lookup_cons, show (("question" : Str) == "at") = false from by decide +kernel]; dsimp only; rw [List.lookup_cons, show (("question" : Str) == "deep") = false from by decide +kernel]; dsimp only; rfl
theorem noStatements_a_term {v0 v1 v2 : V} : (fsStatements v0 v1 v2).lookup ("a_term" : Str) = none := by unfold fsStatements; rw [List.lookup_cons, show (("a_term" : Str) == "words") = false from by decide +kernel]; dsimp only; rw [List.lookup_cons, show (("a_term" : Str) == "at") = false from by decide +kernel]; dsimp only; rw [List.lookup_cons, show (("a_term" : Str) == "deep") = false from by decide +kernel]; dsimp only; rfl
theorem noStatements_a_cond {v0 v1 v2 : V} : (fsStatements v0 v1 v2).lookup ("a_cond" : Str) = none := by unfold fsStatements; rw [List.lookup_cons, show (("a_cond" : Str) == "words") = false from by decide +kernel]; dsimp only; rw [List.lookup_cons, show (("a_cond" : Str) == "at") = false from by decide +kernel]; dsimp only; rw [List.lookup_cons, show (("a_cond" : Str) == "deep") = false from by decide +kernel]; dsimp only; rfl
theorem noStatements_joined {v0 v1 v2 : V} : (fsStatements v0 v1 v2).lookup ("joined" : Str) = none := by unfold fsStatements; rw [List.lookup_cons, show (("joined" : Str) == "words") = false from by decide +kernel]; dsimp only; rw [List.lookup_cons, show (("joined" : Str) == "at") = false from by decide +kernel]; dsimp only; rw [List.lookup_cons, show (("joined" : Str) == "deep") = false from by decide +kernel]; dsimp only; rfl
theorem noStatements_or_of {v0 v1 v2 : V} : (fsStatements v0 v1 v2).lookup ("or_of" : Str) = none := by unfold fsStatements; rw [List.lookup_cons, show (("or_of" : Str) == "words") = false from by decide +kernel]; dsimp only; rw [List.lookup_cons, show (("or_of" : Str) == "at") = false from by decide +kernel]; dsimp only; rw [List.lookup_cons, show (("or_of" : Str) == "deep") = false from by decide +kernel]; dsimp only; rfl
theorem noStatements_and_of {v0 v1 v2 : V} : (fsStatements v0 v1 v2).lookup ("and_of" : Str) = none := by unfold fsStatements; rw [List.lookup_cons, show (("and_of" : Str) == "words") = false from by decide +kernel]; dsimp only; rw [List.lookup_cons, show (("and_of" : Str) == "at") = false from by decide +kernel]; dsimp only; rw [List.lookup_cons, show (("and_of" : Str) == "deep") = false from by decide +kernel]; dsimp only; rfl
theorem noStatements_not_of {v0 v1 v2 : V} : (fsStatements v0 v1 v2).lookup ("not_of" : Str) = none := by unfold fsStatements; rw [List.lookup_cons, show (("not_of" : Str) == "words") = false from by decide +kernel]; dsimp only; rw [List.lookup_cons, show (("not_of" : Str) == "at") = false from by decide +kernel]; dsimp only; rw [List.lookup_cons, show (("not_of" : Str) == "deep") = false from by decide +kernel]; dsimp only; rfl
theorem noStatements_compare_of {v0 v1 v2 : V} : (fsStatements v0 v1 v2).lookup ("compare_of" : Str) = none := by unfold fsStatements; rw [List.lookup_cons, show (("compare_of" : Str) == "words") = false from by decide +kernel]; dsimp only; rw [List.lookup_cons, show (("compare_of" : Str) == "at") = false from by decide +kernel]; dsimp only; rw [List.lookup_cons, show (("compare_of" : Str) == "deep") = false from by decide +kernel]; dsimp only; rfl
theorem noStatements_sum_of {v0 v1 v2 : V} : (fsStatements v0 v1 v2).lookup ("sum_of" : Str) = none := by unfold fsStatements; rw [List.lookup_cons, show (("sum_of" : Str) == "words") = false from by decide +kernel]; dsimp only; rw [List.lookup_cons, show (("sum_of" : Str) == "at") = false from by decide +kernel]; dsimp only; rw [List.lookup_cons, show (("sum_of" : Str) == "deep") = false from by decide +kernel]; dsimp only; rfl
theorem noStatements_product_of {v0 v1 v2 : V} : (fsStatements v0 v1 v2).lookup ("product_of" : Str) = none := by unfold fsStatements; rw [List.lookup_cons, show (("product_of" : Str) == "words") = false from by decide +kernel]; dsimp only; rw [List.lookup_cons, show (("product_of" : Str) == "at") = false from by decide +kernel]; dsimp only; rw [List.lookup_cons, show (("product_of" : Str) == "deep") = false from by decide +kernel]; dsimp only; rfl
theorem noStatements_go_in {v0 v1 v2 : V} : (fsStatements v0 v1 v2).lookup ("go_in" : Str) = none := by unfold fsStatements; rw [List.lookup_cons, show (("go_in" : Str) == "words") = false from by decide +kernel]; dsimp only; rw [List.lookup_cons, show (("go_in" : Str) == "at") = false from by decide +kernel]; dsimp only; rw [List.lookup_cons, show (("go_in" : Str) == "deep") = false from by decide +kernel]; dsimp only; rfl
theorem noStatements_factor_of {v0 v1 v2 : V} : (fsStatements v0 v1 v2).lookup ("factor_of" : Str) = none := by unfold fsStatements; rw [List.lookup_cons, show (("factor_of" : Str) == "words") = false from by decide +kernel]; dsimp only; rw [List.lookup_cons, show (("factor_of" : Str) == "at") = false from by decide +kernel]; dsimp only; rw [List.lookup_cons, show (("factor_of" : Str) == "deep") = false from by decide +kernel]; dsimp only; rfl
theorem inStatements_words {v0 : V} : putF ("words" : Str) v0 [] = (fpStatements1 v0) := by unfold fpStatements1; rfl
theorem inStatements_at {v0 v1 : V} : putF ("at" : Str) v1 (fpStatements1 v0) = (fpStatements2 v0 v1) := by unfold fpStatements1; unfold fpStatements2; rw [putF, if_neg (show ¬ (("words" : Str) = "at") from by decide +kernel)]; rfl
theorem inStatements_deep {v0 v1 v2 : V} : putF ("deep" : Str) v2 (fpStatements2 v0 v1) = fsStatements v0 v1 v2 := by unfold fpStatements2; unfold fsStatements; rw [putF, if_neg (show ¬ (("words" : Str) = "deep") from by decide +kernel)]; rw [putF, if_neg (show ¬ (("at" : Str) = "deep") from by decide +kernel)]; rfl
theorem puStatements_words {v0 v1 v2 y : V} : putF ("words" : Str) y (fsStatements v0 v1 v2) = fsStatements y v1 v2 := by unfold fsStatements; rw [putF, if_pos rfl]
theorem puStatements_at {v0 v1 v2 y : V} : putF ("at" : Str) y (fsStatements v0 v1 v2) = fsStatements v0 y v2 := by unfold fsStatements; rw [putF, if_neg (show ¬ (("words" : Str) = "at") from by decide +kernel)]; rw [putF, if_pos rfl]
theorem puStatements_deep {v0 v1 v2 y : V} : putF ("deep" : Str) y (fsStatements v0 v1 v2) = fsStatements v0 v1 y := by unfold fsStatements; rw [putF, if_neg (show ¬ (("words" : Str) = "deep") from by decide +kernel)]; rw [putF, if_neg (show ¬ (("at" : Str) = "deep") from by decide +kernel)]; rw [putF, if_pos rfl]
theorem lnStatements {v0 v1 v2 : V} : (fsStatements v0 v1 v2).length < 1000 := by unfold fsStatements; simp
theorem lpStatements1 {v0 : V} : (fpStatements1 v0).length < 1000 := by unfold fpStatements1; simp
theorem lpStatements2 {v0 v1 : V} : (fpStatements2 v0 v1).length < 1000 := by unfold fpStatements2; simp
theorem l0Statements : (0 : Nat) < 1000 := by decide

set_option genInjectivity false in
set_option genSizeOfSpec false in
structure Txt (K : PySem.W.Frag) (mg : Str → Option Value) (w : World) where
  f_BadText_init : Addr
  fd_BadText_init : FuncData
  F_BadText_init : Fun K "__init__" "BadText.__init__" s_BadText_init f_BadText_init fd_BadText_init
  kb_BadText_init : KBn K fd_BadText_init ["self", "place"] 1 ["place"] (fun us ws => us ++ ws) (fun vs zs => vs ++ zs)
  f_is_name : Addr
  fd_is_name : FuncData
  F_is_name : Fun K "is_name" "is_name" s_is_name f_is_name fd_is_name
  b_is_name : Binds K fd_is_name ["word"] []
  mg_is_name : mg "is_name" = some (.ref f_is_name)
  f_is_number : Addr
  fd_is_number : FuncData
  F_is_number : Fun K "is_number" "is_number" s_is_number f_is_number fd_is_number
  b_is_number : Binds K fd_is_number ["word"] []
  mg_is_number : mg "is_number" = some (.ref f_is_number)
  f_run_of : Addr
  fd_run_of : FuncData
  F_run_of : Fun K "run_of" "run_of" s_run_of f_run_of fd_run_of
  b_run_of : Binds K fd_run_of ["text", "at", "signs"] []
  mg_run_of : mg "run_of" = some (.ref f_run_of)
  f_next_end : Addr
  fd_next_end : FuncData
  F_next_end : Fun K "next_end" "next_end" s_next_end f_next_end fd_next_end
  b_next_end : Binds K fd_next_end ["text", "at"] []
  mg_next_end : mg "next_end" = some (.ref f_next_end)
  f_words_of : Addr
  fd_words_of : FuncData
  F_words_of : Fun K "words_of" "words_of" s_words_of f_words_of fd_words_of
  b_words_of : Binds K fd_words_of ["text"] []
  mg_words_of : mg "words_of" = some (.ref f_words_of)
  f_Reader_init : Addr
  fd_Reader_init : FuncData
  F_Reader_init : Fun K "__init__" "Reader.__init__" s_Reader_init f_Reader_init fd_Reader_init
  b_Reader_init : Binds K fd_Reader_init ["self", "text"] []
  f_Reader_here : Addr
  fd_Reader_here : FuncData
  F_Reader_here : Fun K "here" "Reader.here" s_Reader_here f_Reader_here fd_Reader_here
  b_Reader_here : Binds K fd_Reader_here ["self"] []
  f_Reader_refuse : Addr
  fd_Reader_refuse : FuncData
  F_Reader_refuse : Fun K "refuse" "Reader.refuse" s_Reader_refuse f_Reader_refuse fd_Reader_refuse
  b_Reader_refuse : Binds K fd_Reader_refuse ["self"] []
  f_Reader_taken : Addr
  fd_Reader_taken : FuncData
  F_Reader_taken : Fun K "taken" "Reader.taken" s_Reader_taken f_Reader_taken fd_Reader_taken
  b_Reader_taken : Binds K fd_Reader_taken ["self"] []
  f_Reader_does_take : Addr
  fd_Reader_does_take : FuncData
  F_Reader_does_take : Fun K "does_take" "Reader.does_take" s_Reader_does_take f_Reader_does_take fd_Reader_does_take
  b_Reader_does_take : Binds K fd_Reader_does_take ["self", "word"] []
  f_Reader_need : Addr
  fd_Reader_need : FuncData
  F_Reader_need : Fun K "need" "Reader.need" s_Reader_need f_Reader_need fd_Reader_need
  b_Reader_need : Binds K fd_Reader_need ["self", "word"] []
  f_Reader_next_name : Addr
  fd_Reader_next_name : FuncData
  F_Reader_next_name : Fun K "next_name" "Reader.next_name" s_Reader_next_name f_Reader_next_name fd_Reader_next_name
  b_Reader_next_name : Binds K fd_Reader_next_name ["self"] []
  f_Reader_next_number : Addr
  fd_Reader_next_number : FuncData
  F_Reader_next_number : Fun K "next_number" "Reader.next_number" s_Reader_next_number f_Reader_next_number fd_Reader_next_number
  b_Reader_next_number : Binds K fd_Reader_next_number ["self"] []
  f_Statements_whole : Addr
  fd_Statements_whole : FuncData
  F_Statements_whole : Fun K "whole" "Statements.whole" s_Statements_whole f_Statements_whole fd_Statements_whole
  b_Statements_whole : Binds K fd_Statements_whole ["self"] []
  f_Statements_statement : Addr
  fd_Statements_statement : FuncData
  F_Statements_statement : Fun K "statement" "Statements.statement" s_Statements_statement f_Statements_statement fd_Statements_statement
  b_Statements_statement : Binds K fd_Statements_statement ["self"] []
  f_Statements_some : Addr
  fd_Statements_some : FuncData
  F_Statements_some : Fun K "some" "Statements.some" s_Statements_some f_Statements_some fd_Statements_some
  b_Statements_some : Binds K fd_Statements_some ["self", "one", "most"] []
  f_Statements_one_set : Addr
  fd_Statements_one_set : FuncData
  F_Statements_one_set : Fun K "one_set" "Statements.one_set" s_Statements_one_set f_Statements_one_set fd_Statements_one_set
  b_Statements_one_set : Binds K fd_Statements_one_set ["self"] []
  f_Statements_where : Addr
  fd_Statements_where : FuncData
  F_Statements_where : Fun K "where" "Statements.where" s_Statements_where f_Statements_where fd_Statements_where
  b_Statements_where : Binds K fd_Statements_where ["self"] []
  f_Statements_question : Addr
  fd_Statements_question : FuncData
  F_Statements_question : Fun K "question" "Statements.question" s_Statements_question f_Statements_question fd_Statements_question
  b_Statements_question : Binds K fd_Statements_question ["self"] []
  f_Statements_a_term : Addr
  fd_Statements_a_term : FuncData
  F_Statements_a_term : Fun K "a_term" "Statements.a_term" s_Statements_a_term f_Statements_a_term fd_Statements_a_term
  b_Statements_a_term : Binds K fd_Statements_a_term ["self"] []
  f_Statements_a_cond : Addr
  fd_Statements_a_cond : FuncData
  F_Statements_a_cond : Fun K "a_cond" "Statements.a_cond" s_Statements_a_cond f_Statements_a_cond fd_Statements_a_cond
  b_Statements_a_cond : Binds K fd_Statements_a_cond ["self"] []
  f_Statements_joined : Addr
  fd_Statements_joined : FuncData
  F_Statements_joined : Fun K "joined" "Statements.joined" s_Statements_joined f_Statements_joined fd_Statements_joined
  b_Statements_joined : Binds K fd_Statements_joined ["self", "word", "part"] []
  f_Statements_or_of : Addr
  fd_Statements_or_of : FuncData
  F_Statements_or_of : Fun K "or_of" "Statements.or_of" s_Statements_or_of f_Statements_or_of fd_Statements_or_of
  b_Statements_or_of : Binds K fd_Statements_or_of ["self"] []
  f_Statements_and_of : Addr
  fd_Statements_and_of : FuncData
  F_Statements_and_of : Fun K "and_of" "Statements.and_of" s_Statements_and_of f_Statements_and_of fd_Statements_and_of
  b_Statements_and_of : Binds K fd_Statements_and_of ["self"] []
  f_Statements_not_of : Addr
  fd_Statements_not_of : FuncData
  F_Statements_not_of : Fun K "not_of" "Statements.not_of" s_Statements_not_of f_Statements_not_of fd_Statements_not_of
  b_Statements_not_of : Binds K fd_Statements_not_of ["self"] []
  f_Statements_compare_of : Addr
  fd_Statements_compare_of : FuncData
  F_Statements_compare_of : Fun K "compare_of" "Statements.compare_of" s_Statements_compare_of f_Statements_compare_of fd_Statements_compare_of
  b_Statements_compare_of : Binds K fd_Statements_compare_of ["self"] []
  f_Statements_sum_of : Addr
  fd_Statements_sum_of : FuncData
  F_Statements_sum_of : Fun K "sum_of" "Statements.sum_of" s_Statements_sum_of f_Statements_sum_of fd_Statements_sum_of
  b_Statements_sum_of : Binds K fd_Statements_sum_of ["self", "only"] []
  f_Statements_product_of : Addr
  fd_Statements_product_of : FuncData
  F_Statements_product_of : Fun K "product_of" "Statements.product_of" s_Statements_product_of f_Statements_product_of fd_Statements_product_of
  b_Statements_product_of : Binds K fd_Statements_product_of ["self", "only"] []
  f_Statements_go_in : Addr
  fd_Statements_go_in : FuncData
  F_Statements_go_in : Fun K "go_in" "Statements.go_in" s_Statements_go_in f_Statements_go_in fd_Statements_go_in
  b_Statements_go_in : Binds K fd_Statements_go_in ["self"] []
  f_Statements_factor_of : Addr
  fd_Statements_factor_of : FuncData
  F_Statements_factor_of : Fun K "factor_of" "Statements.factor_of" s_Statements_factor_of f_Statements_factor_of fd_Statements_factor_of
  b_Statements_factor_of : Binds K fd_Statements_factor_of ["self", "only"] []
  f_read : Addr
  fd_read : FuncData
  F_read : Fun K "read" "read" s_read f_read fd_read
  b_read : Binds K fd_read ["text"] []
  mg_read : mg "read" = some (.ref f_read)
  f_tree_text : Addr
  fd_tree_text : FuncData
  F_tree_text : FunD K "tree_text" "tree_text" (defArgs s_tree_text) (defBody s_tree_text) (defScope s_tree_text) [V.int 0] [] f_tree_text fd_tree_text
  s1_tree_text : List Value
  d1_tree_text : Vals [V.int 0] s1_tree_text
  b1_tree_text : Binds K fd_tree_text ["tree", "tight"] s1_tree_text
  b_tree_text : Binds K fd_tree_text ["tree", "tight"] []
  mg_tree_text : mg "tree_text" = some (.ref f_tree_text)
  f_where_text : Addr
  fd_where_text : FuncData
  F_where_text : Fun K "where_text" "where_text" s_where_text f_where_text fd_where_text
  b_where_text : Binds K fd_where_text ["cond"] []
  mg_where_text : mg "where_text" = some (.ref f_where_text)
  f_ask_text : Addr
  fd_ask_text : FuncData
  F_ask_text : Fun K "ask_text" "ask_text" s_ask_text f_ask_text fd_ask_text
  b_ask_text : Binds K fd_ask_text ["tree"] []
  mg_ask_text : mg "ask_text" = some (.ref f_ask_text)
  f_written : Addr
  fd_written : FuncData
  F_written : Fun K "written" "written" s_written f_written fd_written
  b_written : Binds K fd_written ["tree"] []
  mg_written : mg "written" = some (.ref f_written)
  f_l_mix : Addr
  fd_l_mix : FuncData
  F_l_mix : Fun K "_law_mix" "_law_mix" s_l_mix f_l_mix fd_l_mix
  b_l_mix : Binds K fd_l_mix ["_law_script", "_law_seed"] []
  mg_l_mix : mg "_law_mix" = some (.ref f_l_mix)
  f_l_next : Addr
  fd_l_next : FuncData
  F_l_next : Fun K "_law_next" "_law_next" s_l_next f_l_next fd_l_next
  b_l_next : Binds K fd_l_next ["_law_h", "_law_many"] []
  mg_l_next : mg "_law_next" = some (.ref f_l_next)
  f_l_alike : Addr
  fd_l_alike : FuncData
  F_l_alike : Fun K "_law_alike" "_law_alike" s_l_alike f_l_alike fd_l_alike
  b_l_alike : Binds K fd_l_alike ["_law_found", "_law_due"] []
  mg_l_alike : mg "_law_alike" = some (.ref f_l_alike)
  f_l_shapes : Addr
  fd_l_shapes : FuncData
  F_l_shapes : Fun K "_law_shapes" "_law_shapes" s_l_shapes f_l_shapes fd_l_shapes
  b_l_shapes : Binds K fd_l_shapes ["_law_h", "_law_many"] []
  mg_l_shapes : mg "_law_shapes" = some (.ref f_l_shapes)
  f_l_number : Addr
  fd_l_number : FuncData
  F_l_number : Fun K "_law_number" "_law_number" s_l_number f_l_number fd_l_number
  b_l_number : Binds K fd_l_number ["_law_h"] []
  mg_l_number : mg "_law_number" = some (.ref f_l_number)
  f_l_term : Addr
  fd_l_term : FuncData
  F_l_term : Fun K "_law_term" "_law_term" s_l_term f_l_term fd_l_term
  b_l_term : Binds K fd_l_term ["_law_h", "_law_fields", "_law_deep"] []
  mg_l_term : mg "_law_term" = some (.ref f_l_term)
  f_l_cond : Addr
  fd_l_cond : FuncData
  F_l_cond : Fun K "_law_cond" "_law_cond" s_l_cond f_l_cond fd_l_cond
  b_l_cond : Binds K fd_l_cond ["_law_h", "_law_fields", "_law_deep"] []
  mg_l_cond : mg "_law_cond" = some (.ref f_l_cond)
  f_l_some : Addr
  fd_l_some : FuncData
  F_l_some : Fun K "_law_some" "_law_some" s_l_some f_l_some fd_l_some
  b_l_some : Binds K fd_l_some ["_law_h", "_law_shapes_here", "_law_tables"] []
  mg_l_some : mg "_law_some" = some (.ref f_l_some)
  f_l_ask : Addr
  fd_l_ask : FuncData
  F_l_ask : Fun K "_law_ask" "_law_ask" s_l_ask f_l_ask fd_l_ask
  b_l_ask : Binds K fd_l_ask ["_law_h", "_law_shapes_here"] []
  mg_l_ask : mg "_law_ask" = some (.ref f_l_ask)
  f_l_statement : Addr
  fd_l_statement : FuncData
  F_l_statement : Fun K "_law_statement" "_law_statement" s_l_statement f_l_statement fd_l_statement
  b_l_statement : Binds K fd_l_statement ["_law_h", "_law_shapes_here"] []
  mg_l_statement : mg "_law_statement" = some (.ref f_l_statement)
  f_l_text : Addr
  fd_l_text : FuncData
  F_l_text : Fun K "_law_text" "_law_text" s_l_text f_l_text fd_l_text
  b_l_text : Binds K fd_l_text ["_law_tree", "_law_tight"] []
  mg_l_text : mg "_law_text" = some (.ref f_l_text)
  f_l_terms : Addr
  fd_l_terms : FuncData
  F_l_terms : Fun K "_law_terms" "_law_terms" s_l_terms f_l_terms fd_l_terms
  b_l_terms : Binds K fd_l_terms ["_law_terms_here"] []
  mg_l_terms : mg "_law_terms" = some (.ref f_l_terms)
  f_l_where : Addr
  fd_l_where : FuncData
  F_l_where : Fun K "_law_where" "_law_where" s_l_where f_l_where fd_l_where
  b_l_where : Binds K fd_l_where ["_law_cond_here"] []
  mg_l_where : mg "_law_where" = some (.ref f_l_where)
  f_l_written : Addr
  fd_l_written : FuncData
  F_l_written : Fun K "_law_written" "_law_written" s_l_written f_l_written fd_l_written
  b_l_written : Binds K fd_l_written ["_law_tree"] []
  mg_l_written : mg "_law_written" = some (.ref f_l_written)
  f_l_loose : Addr
  fd_l_loose : FuncData
  F_l_loose : Fun K "_law_loose" "_law_loose" s_l_loose f_l_loose fd_l_loose
  b_l_loose : Binds K fd_l_loose ["_law_h", "_law_text_here"] []
  mg_l_loose : mg "_law_loose" = some (.ref f_l_loose)
  f_law : Addr
  fd_law : FuncData
  F_law : Fun K "law" "law" s_law f_law fd_law
  b_law : Binds K fd_law ["_law_script"] []
  mg_law : mg "law" = some (.ref f_law)
  C_Statements : Addr
  cl_Statements : Cls K C_Statements
  mg_Statements : mg "Statements" = some (.ref C_Statements)
  mk_Statements : Mk K C_Statements f_Reader_init
  na_Statements_words : NoAttr K C_Statements "words"
  na_Statements_at : NoAttr K C_Statements "at"
  na_Statements_deep : NoAttr K C_Statements "deep"
  me_Statements_here : Meth K C_Statements "here" f_Reader_here
  me_Statements_refuse : Meth K C_Statements "refuse" f_Reader_refuse
  me_Statements_taken : Meth K C_Statements "taken" f_Reader_taken
  me_Statements_does_take : Meth K C_Statements "does_take" f_Reader_does_take
  me_Statements_need : Meth K C_Statements "need" f_Reader_need
  me_Statements_next_name : Meth K C_Statements "next_name" f_Reader_next_name
  me_Statements_next_number : Meth K C_Statements "next_number" f_Reader_next_number
  me_Statements_whole : Meth K C_Statements "whole" f_Statements_whole
  me_Statements_statement : Meth K C_Statements "statement" f_Statements_statement
  me_Statements_some : Meth K C_Statements "some" f_Statements_some
  me_Statements_one_set : Meth K C_Statements "one_set" f_Statements_one_set
  me_Statements_where : Meth K C_Statements "where" f_Statements_where
  me_Statements_question : Meth K C_Statements "question" f_Statements_question
  me_Statements_a_term : Meth K C_Statements "a_term" f_Statements_a_term
  me_Statements_a_cond : Meth K C_Statements "a_cond" f_Statements_a_cond
  me_Statements_joined : Meth K C_Statements "joined" f_Statements_joined
  me_Statements_or_of : Meth K C_Statements "or_of" f_Statements_or_of
  me_Statements_and_of : Meth K C_Statements "and_of" f_Statements_and_of
  me_Statements_not_of : Meth K C_Statements "not_of" f_Statements_not_of
  me_Statements_compare_of : Meth K C_Statements "compare_of" f_Statements_compare_of
  me_Statements_sum_of : Meth K C_Statements "sum_of" f_Statements_sum_of
  me_Statements_product_of : Meth K C_Statements "product_of" f_Statements_product_of
  me_Statements_go_in : Meth K C_Statements "go_in" f_Statements_go_in
  me_Statements_factor_of : Meth K C_Statements "factor_of" f_Statements_factor_of
  n_ValueError : mg "ValueError" = none
  n_len : mg "len" = none
  n_int : mg "int" = none
  n_tuple : mg "tuple" = none
  n_str : mg "str" = none
  n_list : mg "list" = none
  n_max : mg "max" = none
  n_isinstance : mg "isinstance" = none
  n_range : mg "range" = none
  n_bool : mg "bool" = none
  n_sorted : mg "sorted" = none
  C_StoreError : Addr
  mg_StoreError : mg "StoreError" = some (.ref C_StoreError)
  R_StoreError : ClX.CRead K C_StoreError (.type "type")
  v_StoreError : PySem.W.findCls K (.ref C_StoreError) (.type "type") "__init__" = some (.val (.builtin "ValueError.__init__"))
  C_BadText : Addr
  X_BadText : XfC K C_BadText
  E_BadText : ExcC K C_BadText
  m_BadText : PySem.W.exmOne K (.ref C_BadText) (.ref C_BadText) = some true
  kV_BadText : PySem.W.kitOne K (.ref C_BadText) (.type "ValueError") = some true
  kS_BadText : PySem.W.kitOne K (.ref C_BadText) (.ref C_StoreError) = some true
  mg_BadText : mg "BadText" = some (.ref C_BadText)
  O_BadText : OexC K C_BadText
  iO_BadText : PySem.W.findIn K (.ref C_BadText) "__init__" = some (some (.ref f_BadText_init))
  tO_BadText : PySem.W.typeIn K (.ref f_BadText_init) = some (.type "function")
  n_BadText_place : PySem.W.findIn K (.ref C_BadText) "place" = some none
  tk_LETTERS : Tok
  mg_LETTERS : mg "LETTERS" = some (.str "abcdefghijklmnopqrstuvwxyz" tk_LETTERS)
  tk_FIGURES : Tok
  mg_FIGURES : mg "FIGURES" = some (.str "0123456789" tk_FIGURES)
  tk_TERM : Tok
  mg_TERM : mg "TERM" = some (.str "term" tk_TERM)
  tk_COND : Tok
  mg_COND : mg "COND" = some (.str "cond" tk_COND)
  tk_MOST_SIGNS : Tok
  mg_MOST_SIGNS : mg "MOST_SIGNS" = some (.int 8 tk_MOST_SIGNS)
  tk_MOST_FIGURES : Tok
  mg_MOST_FIGURES : mg "MOST_FIGURES" = some (.int 6 tk_MOST_FIGURES)
  tk_MOST_FIELDS : Tok
  mg_MOST_FIELDS : mg "MOST_FIELDS" = some (.int 4 tk_MOST_FIELDS)
  tk_MOST_TABLES : Tok
  mg_MOST_TABLES : mg "MOST_TABLES" = some (.int 3 tk_MOST_TABLES)
  tk_MOST_TERMS : Tok
  mg_MOST_TERMS : mg "MOST_TERMS" = some (.int 6 tk_MOST_TERMS)
  tk_MOST_BY : Tok
  mg_MOST_BY : mg "MOST_BY" = some (.int 3 tk_MOST_BY)
  tk_MOST_SETS : Tok
  mg_MOST_SETS : mg "MOST_SETS" = some (.int 3 tk_MOST_SETS)
  tk_MOST_WITHIN : Tok
  mg_MOST_WITHIN : mg "MOST_WITHIN" = some (.int 20 tk_MOST_WITHIN)
  a_OWN : Addr
  mg_OWN : mg "OWN" = some (.ref a_OWN)
  D_OWN : TupQ K a_OWN ["table", "index", "put", "set", "strike", "pick", "count", "sum", "least", "most", "from", "where", "by", "first", "and", "or", "not", "begin", "done", "undo"]
  a_SIGNS : Addr
  mg_SIGNS : mg "SIGNS" = some (.ref a_SIGNS)
  D_SIGNS : TupQ K a_SIGNS ["<=", ">=", "(", ")", ",", "+", "-", "*", "=", "<", ">", "."]
  a_ALONE : Addr
  mg_ALONE : mg "ALONE" = some (.ref a_ALONE)
  D_ALONE : TupQ K a_ALONE ["begin", "done", "undo"]
  a_SUMMING : Addr
  mg_SUMMING : mg "SUMMING" = some (.ref a_SUMMING)
  D_SUMMING : TupQ K a_SUMMING ["sum", "least", "most"]
  a_ASKING : Addr
  mg_ASKING : mg "ASKING" = some (.ref a_ASKING)
  D_ASKING : TupQ K a_ASKING ["pick", "count", "sum", "least", "most"]
  a_COMPARING : Addr
  mg_COMPARING : mg "COMPARING" = some (.ref a_COMPARING)
  D_COMPARING : TupQ K a_COMPARING ["=", "<", ">", "<=", ">="]
  a_TIGHT : Addr
  mg_TIGHT : mg "TIGHT" = some (.ref a_TIGHT)
  D_TIGHT : TxTab K w a_TIGHT Rd.tight
  c_Statements_statement : Addr
  P_Statements_statement : Addr
  hc_Statements_statement : fd_Statements_statement.code = .ref c_Statements_statement
  c_Statements_question : Addr
  P_Statements_question : Addr
  hc_Statements_question : fd_Statements_question.code = .ref c_Statements_question
  c_Statements_or_of : Addr
  P_Statements_or_of : Addr
  hc_Statements_or_of : fd_Statements_or_of.code = .ref c_Statements_or_of
  c_Statements_and_of : Addr
  P_Statements_and_of : Addr
  hc_Statements_and_of : fd_Statements_and_of.code = .ref c_Statements_and_of
  nPs : [P_Statements_statement, P_Statements_question, P_Statements_or_of, P_Statements_and_of].Nodup

local macro_rules | `(tactic| dsimp? only [$ls,*]) => `(tactic| simp only [tVar, tC, tOp, rI, rI0, rU, tTest, tB, tAnd, tOr, tNot, tAndV, tOrV, tNotV, tIf, tNil, tCons, tTup, tLst, tCB, tSeq, tAsg, gName, tRet, tRetN, tIfS, tNext, tDrop, tCall, tUn, tPar, CMul, CDiv, V.int.injEq, V.bl.injEq, V.ref.injEq, V.str.injEq, Option.some.injEq, List.cons.injEq, and_true, true_and, and_false, false_and, or_false, false_or, or_true, true_or, exists_eq_left', exists_eq_left, exists_and_left, exists_and_right, exists_eq', exists_eq, exists_false, exists_const, List.getElem?_cons_succ, List.getElem?_cons_zero, List.set_cons_succ, List.set_cons_zero, List.length_cons, List.length_nil, List.cons_append, List.nil_append, List.append_nil, reduceCtorEq, Int.reduceLT, Int.reduceLE, Int.reduceNeg, Int.reducePow, Int.reduceSub, Int.reduceAdd, Nat.reduceAdd, Nat.reduceLeDiff, Bool.not_true, Bool.not_false, decide_true, decide_false, Bool.false_eq_true, ↓reduceIte, upd_same, not_true_eq_false, not_false_eq_true, lsO_l, lsO_f, tpO_t, tpO_f, dkO_d, dkO_f, keyO_i, keyO_s, rIxH, rIxU, cLenL, cLenT, cListL, cListT, cTupL, cIntB, cAll, rEqNilI, rEq, rNe, scal_ii, scal_ss, scal_bb, scal_nn, scal_ni, scal_in, scal_ns, scal_sn, gSub, rSetL, ixs0, ixs1, ixs2, seq0, at0, at1, at2, at3, tBM, tBM0, rAppend, rPopAt, tyV_list, tGet2, tGetI, sPut, tMG, rTIdx, tyTup, tTupF, cx_K, cx_w, ex_map_int, ex_nil_int, ex_cons_int, List.map_cons, List.map_nil, List.isEmpty_nil, List.isEmpty_cons, List.eraseIdx_zero, List.tail_cons, List.eraseIdx_cons_zero, HO.lst.injEq, HO.tup.injEq, HO.dK.injEq, HO.frz.injEq, ne_eq, gTupH, gCons, gNil, wipe, tYes, upd_upd, and_assoc, List.getElem?_map, Option.map_some, isn_non_bool, isn_non_int, isn_non_str, isn_non_tuple, isn_non_list, isn_non_dict, isn_bl_bool, isn_bl_int, isn_bl_str, isn_bl_tuple, isn_bl_list, isn_bl_dict, isn_int_bool, isn_int_int, isn_int_str, isn_int_tuple, isn_int_list, isn_int_dict, isn_str_bool, isn_str_int, isn_str_str, isn_str_tuple, isn_str_list, isn_str_dict, isn_lst_bool, isn_lst_int, isn_lst_str, isn_lst_tuple, isn_lst_list, isn_lst_dict, isn_tup_bool, isn_tup_int, isn_tup_str, isn_tup_tuple, isn_tup_list, isn_tup_dict, isn_dct_bool, isn_dct_int, isn_dct_str, isn_dct_tuple, isn_dct_list, isn_dct_dict, okn_bool, okn_int, okn_str, okn_tuple, okn_list, okn_dict, cIsi, tyT_n, tyT_b, tyT_i, tyT_s, tyT_r, V.ty.injEq, tSl, tPart, tNoPart, rSlF, gName, List.length_map, Int.reduceToNat, cpow18, rInTab, rIxTab, rCatH, rCat, rInT, cSortD, cMaxL, cMinL, rNeNilI, inV, flatV, List.any_cons, List.any_nil, List.all_cons, List.all_nil, eqV, Bool.and_true, Bool.and_false, Bool.true_and, Bool.false_and, Bool.or_false, Bool.false_or, Bool.or_true, Bool.true_or, sz0, sz1, sz2, sz3, sz4, sz5, sz6, tM1, rNewStrs, gStarL, rIxS, tChain, rRep, rInTx, rIxTx, rNeNilA, rEqNilA, rIsD, tXf, rSlP, rInX, rCatS, rInS, cTupL, cLenD, tFld, sFld, tMeth, tMake, HO.ins.injEq, rIxLT, cLenLT, Td.rIsG, Lm.tCallZ, Lm.tLam, tMkK, rEqSL, rNilT, rEqXS, rMulS, rInQ, rIxS, tMG, tAug, ipI, rNotInT, rStrA, CwR.tReplC, lkStatements_words, lkStatements_at, lkStatements_deep, noStatements_here, noStatements_refuse, noStatements_taken, noStatements_does_take, noStatements_need, noStatements_next_name, noStatements_next_number, noStatements_whole, noStatements_statement, noStatements_some, noStatements_one_set, noStatements_where, noStatements_question, noStatements_a_term, noStatements_a_cond, noStatements_joined, noStatements_or_of, noStatements_and_of, noStatements_not_of, noStatements_compare_of, noStatements_sum_of, noStatements_product_of, noStatements_go_in, noStatements_factor_of, inStatements_words, inStatements_at, inStatements_deep, puStatements_words, puStatements_at, puStatements_deep, lnStatements, lpStatements1, lpStatements2, l0Statements, Txt.cl_Statements, Txt.na_Statements_words, Txt.na_Statements_at, Txt.na_Statements_deep, $ls,*])
section
variable {P : Program} {w : World} {K : PySem.W.Frag} {mg : Str → Option Value} {base : Heap}
theorem ok_l_mix (T : Txt K mg w) : FnOk P w K mg base CX0 1 T.f_l_mix T.fd_l_mix ["_law_script", "_law_seed"] (spMix K) := by
  refine T.F_l_mix.ok sc_l_mix (fun vs H Q E h => ?_) (fun cdv A outer s H vs Q E hr h => ?_)
  · obtain ⟨a, ns, z, rfl, _⟩ := h
    rfl
  · obtain ⟨a, ns, z, rfl, hS, hlen, k⟩ := h
    refine ⟨_, (pss_cons (ps_set (i := 2) sc_l_mix.nd rfl (Or.inl rfl) (pv 1))
      (pss_cons (ps_for PassesOwn.never rfl (pi_list (pv 0)) (pg_name (i := 3) sc_l_mix.nd rfl (Or.inl rfl)) (pss_one (ps_set (i := 2) sc_l_mix.nd rfl (Or.inl rfl) (pe_op op_mod (pe_op op_add (pe_op op_add (pe_op op_mul (pv 2) pe_int) (pe_op op_mod (pv 3) pe_int)) pe_int) pe_int))))
      (pss_one (ps_ret (pe_lst (pa_cons (pv 2) (pa_cons (pe_callTy call_list_of (by rfl) T.n_list (by decide +kernel) (pa_cons (pv 0) pa_nil)) (pa_cons pe_int pa_nil)))))))), ?_⟩
    rw [show L2.start N_l_mix [V.ref a, V.int z] = [some (V.ref a), some (V.int z), none, none] from rfl]
    simp? only []
    refine ⟨_, rfl, a, rfl, ⟨_, hS⟩, for_list (K := K) (a := a) (xs := ns.map V.int) (fun i σ H2 => ∃ (y : Int) (v : Option V), σ = [some (.ref a), some (.int z), some (.int y), v] ∧ H2 = H) ⟨z, none, rfl, rfl⟩ (fun i σ H2 _ ⟨_, _, _, e⟩ => by rw [e]; exact hS) ?_ ?_⟩
    · rintro i y σ H2 hi ⟨z, v, rfl, rfl⟩
      obtain ⟨c, _, rfl⟩ := int_at hi
      simp? only []
    · rintro σ H2 ⟨y, v, rfl, rfl⟩
      simp? only []
      refine ⟨_, .inl hS, fun l hl p hp => ?_⟩
      have nlp : l ≠ p := ne_of_none (H := upd H2 l (.lst (ns.map V.int))) upd_same hp
      refine k _ _ l ((same_new hl).free hp) hl ((same_new hl).trans (same_new hp)) ⟨y, ns, 0, upd_same, ?_, hlen⟩
      rw [upd_ne nlp, upd_same]
theorem ok_l_next (T : Txt K mg w) : FnOk P w K mg base CX0 1 T.f_l_next T.fd_l_next ["_law_h", "_law_many"] spNext := by
  refine T.F_l_next.ok sc_l_next (fun vs H Q E h => ?_) (fun cdv A outer s H vs Q E hr h => ?_)
  · obtain ⟨h, l, n, rfl, _⟩ := h
    rfl
  · obtain ⟨h, l, n, rfl, B, n0, n1, k⟩ := h
    have nhl := B.ne
    obtain ⟨m, ns, pl, e1, e2, hlen⟩ := id B
    refine ⟨_, (pss_cons (ps_set (i := 2) sc_l_next.nd rfl (Or.inl rfl) (pe_ix ix_lst (pe_op op_cat (pe_ix ix_lst (pv 0) pe_int (fun _ _ => rfl)) (pe_lst (pa_cons pe_int pa_nil))) (pe_op op_mod (pe_ix ix_lst (pv 0) pe_int (fun _ _ => rfl)) (pe_callB (call_max2 rfl) (by rfl) T.n_max (by decide +kernel) (pa_cons pe_int (pa_cons (pe_callB len_lst (by rfl) T.n_len PySem.boot_len (pa_cons (pe_ix ix_lst (pv 0) pe_int (fun _ _ => rfl)) pa_nil)) pa_nil)))) (fun _ _ => rfl)))
      (pss_cons (ps_if (pt_cmpR op_ge (pv 2) (pe_op op_pow pe_int pe_int) (nomark _)) (pss_cons (ps_asg (pe_op op_fdiv (pv 2) (pv 1)) (pg_sub (pe_ix ix_lst (pv 0) pe_int (fun _ _ => rfl)) (pe_op op_mod (pe_ix ix_lst (pv 0) pe_int (fun _ _ => rfl)) (pe_callB len_lst (by rfl) T.n_len PySem.boot_len (pa_cons (pe_ix ix_lst (pv 0) pe_int (fun _ _ => rfl)) pa_nil))) set_list))
        (pss_one (ps_ret (pe_op op_mod (pv 2) (pv 1))))) pss_nil)
      (pss_cons (ps_asg (pe_op op_mod (pe_op op_add (pe_op op_add (pe_op op_mul (pe_ix ix_lst (pv 0) pe_int (fun _ _ => rfl)) pe_int) (pe_op op_mul (pv 2) pe_int)) pe_int) pe_int) (pg_sub (pv 0) pe_int set_list))
      (pss_cons (ps_asg (pe_op op_add (pe_ix ix_lst (pv 0) pe_int (fun _ _ => rfl)) pe_int) (pg_sub (pv 0) pe_int set_list))
      (pss_one (ps_ret (pe_op op_mod (pe_op op_fdiv (pe_ix ix_lst (pv 0) pe_int (fun _ _ => rfl)) pe_int) (pv 1)))))))), ?_⟩
    rw [show L2.start N_l_next [V.ref h, V.int n] = [some (V.ref h), some (V.int n), none] from rfl]
    simp? only [rCat, e1]
    intro p hp
    have nh : h ≠ p := ne_of_none e1 hp
    have nl : l ≠ p := ne_of_none e2 hp
    simp? only [e1, upd_ne nl, e2]
    refine ⟨szl (by omega), fun q hq => ?_⟩
    have f1 : upd H p (.lst [V.int 0]) h = _ := (upd_ne nh).trans e1
    have f2 : upd H p (.lst [V.int 0]) l = _ := (upd_ne nl).trans e2
    have nhq : h ≠ q := ne_of_none f1 hq
    have nlq : l ≠ q := ne_of_none f2 hq
    obtain ⟨c, hc, hcj⟩ := cell_at ns pl
    have kp : Keep [h, l] H (upd (upd H p (.lst [V.int 0])) q (.lst (ns.map V.int ++ [V.int 0]))) := (Keep.new hp).thenNew hq
    simp? only [upd_ne nhq, upd_ne nlq, f1, f2, hc]
    refine ⟨by split <;> omega, ?_⟩
    by_cases hbig : 1000000000000000000 ≤ c
    · obtain ⟨g0, j, g1, g2, g3⟩ := hcj (by omega)
      have hix : ixN ns.length (pl % (ns.length : Int)) = some j := ixN_j g2 g1
      simp? only [hbig, hix]
      refine ⟨n0, n1, g0, n0, k _ _ (Int.emod_nonneg _ (by omega)) (Int.emod_lt_of_pos _ n0) ⟨m, ns.set j (c / n), pl, ?_, ?_, by rw [List.length_set]; exact hlen⟩ (kp.upd (by simp))⟩
      · rw [upd_ne nhl, upd_ne nhq, f1]
      · rw [upd_same, List.map_set]
    · simp? only [hbig]
      exact ⟨n0, k _ _ (Int.emod_nonneg _ (by omega)) (Int.emod_lt_of_pos _ n0) ⟨_, ns, _, upd_same, by rw [upd_ne nhl.symm, upd_ne nlq, f2], hlen⟩ (kp.upd (by simp))⟩
end

/-! words of statements: is_name, is_number, run_of, next_end, words_of -/
def spIsName : Sp := fun vs H Q _ => ∃ x : Str, vs = [.str x] ∧ x.length ≤ 90000 ∧ ∀ H', Same H H' → Q (.bl (Rd.isName x)) H'
def spIsNumW : Sp := fun vs H Q _ => ∃ x : Str, vs = [.str x] ∧ x.length ≤ 90000 ∧ ∀ H', Same H H' → Q (.bl (Rd.isNumber x)) H'
section
variable {P : Program} {w : World} {K : PySem.W.Frag} {mg : Str → Option Value} {base : Heap}
theorem ok_is_name (T : Txt K mg w) : FnOk P w K mg base CX0 1 T.f_is_name T.fd_is_name ["word"] spIsName := by
  refine T.F_is_name.ok sc_is_name (fun vs H Q E h => ?_) (fun cdv Ar outer s0 H vs Q E hr h => ?_)
  · obtain ⟨x, rfl, _⟩ := h
    rfl
  · obtain ⟨x, rfl, hx, k⟩ := h
    have hu := hu_of hr
    have hu64 := hu64_of hr
    refine ⟨_, (Evl.pss_cut (ps_setLc (i := 1) (own := [("sign", 2)]) (g := gName 2) rfl sc_is_name.nd rfl rfl (sw_true rfl rfl rfl (by decide +kernel)) (pi_str (pv 0)) (blkOk_by (N := N_is_name) (sc := defScope s_is_name) (by decide +kernel)) (fun _ _ _ _ _ => (pg_name (i := 2) sc_is_name.nd rfl (Or.inl rfl))) (fun _ _ _ _ _ => pts_one (pt_cmpR op_in_sign (pv 2) (pe_glob rfl T.mg_LETTERS (v := .str "abcdefghijklmnopqrstuvwxyz") ⟨_, rfl⟩) (by rfl))) (fun _ _ _ _ _ => (pv 2)))
      (pss_one (ps_ret (pe_and (pe_chain op_le op_le pe_int (pe_callB call_len_str (by rfl) T.n_len PySem.boot_len (pa_cons (pv 0) pa_nil)) (pe_glob rfl T.mg_MOST_SIGNS (v := .int 8) ⟨_, rfl⟩)) (pe_and (pe_cmpR op_eq (pe_callB len_lst (by rfl) T.n_len PySem.boot_len (pa_cons (pv 1) pa_nil)) (pe_callB call_len_str (by rfl) T.n_len PySem.boot_len (pa_cons (pv 0) pa_nil)) (nomark _)) (pe_one (pe_cmpR (op_notInQ T.D_OWN) (pv 0) (pe_glob rfl T.mg_OWN (v := .ref T.a_OWN) rfl) (by rfl)))))))), ?_⟩
    rw [show L2.start N_is_name [V.str x] = [some (V.str x), none, none] from rfl]
    refine ⟨fun σ' H1 => Same H H1 ∧ ∃ (g : Addr) (y : Option V), H1 g = some (.lst (((TL.tl x).filter fun c => decide (c ∈ Rd.letters)).map fun c => V.str ⟨#[c]⟩)) ∧ σ' = [some (.str x), some (.ref g), y], ?_, ?_⟩
    · simp? only [tLc_eq, iStr]
      have hl : (TL.tl x).length = x.length := (TL.len_tl x).symm
      refine lc_ents (walk_str (z := x)) (TL.tl x) (fun c => decide (c ∈ Rd.letters)) (fun c y _ => y = .str ⟨#[c]⟩) (by rw [hl]; rfl) (by omega) (fun _ _ => trivial) (fun i H x H' h => by rw [h.1]; exact Same.refl _) (fun _ _ _ _ _ h _ _ => h) (fun j c v H1 H2 Q2 N he s1 hy g1 g2 => ?_) fun D H1 zs hD e1 s1 e2 e3 => ?_
      · obtain ⟨rfl, c', hc, rfl⟩ := hy
        obtain rfl : c = c' := by
          have he : x.cps.toList[j]? = some c := he
          rw [Array.getElem?_toList, hc] at he
          exact (Option.some.inj he).symm
        simp? only [gName]
        by_cases a1 : c ∈ Rd.letters
        · refine ⟨c, rfl, ?_⟩
          rw [if_pos (by exact decide_eq_true a1)]
          exact g1 (decide_eq_true a1) _ _ (Same.refl _) rfl
        · refine ⟨c, rfl, ?_⟩
          rw [if_neg (by exact fun z => a1 (of_decide_eq_true z))]
          exact g2 (decide_eq_false a1) _ (Same.refl _)
      · rw [zs_vals (f := fun c : Nat => V.str ⟨#[c]⟩) e1 e3] at e2
        exact ⟨s1, D, e2, rfl⟩
    rintro σ' H1 ⟨s1, g, y, hg, rfl⟩
    simp? only [hg]
    refine ⟨szl (show _ ≤ 100000 by omega), ?_⟩
    have k1 := k H1 s1
    have fl : (((TL.tl x).filter fun c => decide (c ∈ Rd.letters)).length = x.length) ↔ ((TL.tl x).all fun c => decide (c ∈ Rd.letters)) = true := by
      rw [TL.len_tl x, List.length_filter_eq_length_iff, List.all_eq_true]
    by_cases c1 : 1 ≤ x.length
    · rw [if_pos (by simp only [decide_eq_true_eq]; omega)]
      by_cases c3 : x.length ≤ 8
      · rw [if_pos (by simp; omega)]
        refine ⟨szl (show _ ≤ 100000 by omega), ?_⟩
        by_cases cs : ((TL.tl x).all fun c => decide (c ∈ Rd.letters)) = true
        · rw [if_pos (by rw [fl.mpr cs]; simp)]
          rw [show Rd.isName x = !hasS Rd.own x by unfold Rd.isName; rw [decide_eq_true c1, decide_eq_true c3, cs]; rw [hasS_mem]; rfl] at k1
          exact k1
        · rw [if_neg (by intro z; exact cs (fl.mp (by have z := of_decide_eq_true z; omega)))]
          rw [show Rd.isName x = false by unfold Rd.isName; rw [Bool.eq_false_iff.mpr cs]; simp] at k1
          exact k1
      · rw [if_neg (by simp; omega)]
        rw [show Rd.isName x = false by unfold Rd.isName; rw [decide_eq_false c3]; simp] at k1
        exact k1
    · rw [if_neg (by simp only [decide_eq_true_eq]; omega)]
      rw [show Rd.isName x = false by unfold Rd.isName; rw [decide_eq_false c1]; simp] at k1
      exact k1
theorem ok_is_number (T : Txt K mg w) : FnOk P w K mg base CX0 1 T.f_is_number T.fd_is_number ["word"] spIsNumW := by
  refine T.F_is_number.ok sc_is_number (fun vs H Q E h => ?_) (fun cdv Ar outer s0 H vs Q E hr h => ?_)
  · obtain ⟨x, rfl, _⟩ := h
    rfl
  · obtain ⟨x, rfl, hx, k⟩ := h
    have hu := hu_of hr
    have hu64 := hu64_of hr
    refine ⟨_, (Evl.pss_cut (ps_setLc (i := 1) (own := [("sign", 2)]) (g := gName 2) rfl sc_is_number.nd rfl rfl (sw_true rfl rfl rfl (by decide +kernel)) (pi_str (pv 0)) (blkOk_by (N := N_is_number) (sc := defScope s_is_number) (by decide +kernel)) (fun _ _ _ _ _ => (pg_name (i := 2) sc_is_number.nd rfl (Or.inl rfl))) (fun _ _ _ _ _ => pts_one (pt_cmpR op_in_sign (pv 2) (pe_glob rfl T.mg_FIGURES (v := .str "0123456789") ⟨_, rfl⟩) (by rfl))) (fun _ _ _ _ _ => (pv 2)))
      (pss_one (ps_ret (pe_and (pe_chain op_le op_le pe_int (pe_callB call_len_str (by rfl) T.n_len PySem.boot_len (pa_cons (pv 0) pa_nil)) (pe_glob rfl T.mg_MOST_FIGURES (v := .int 6) ⟨_, rfl⟩)) (pe_and (pe_cmpR op_eq (pe_callB len_lst (by rfl) T.n_len PySem.boot_len (pa_cons (pv 1) pa_nil)) (pe_callB call_len_str (by rfl) T.n_len PySem.boot_len (pa_cons (pv 0) pa_nil)) (nomark _)) (pe_one (pe_or (pe_cmpR op_eq (pv 0) pe_str (nomark _)) (pe_one (pe_cmpR op_ne (pe_ix ix_str (pv 0) pe_int (fun _ _ => rfl)) pe_str (nomark _)))))))))), ?_⟩
    rw [show L2.start N_is_number [V.str x] = [some (V.str x), none, none] from rfl]
    refine ⟨fun σ' H1 => Same H H1 ∧ ∃ (g : Addr) (y : Option V), H1 g = some (.lst (((TL.tl x).filter fun c => decide (c ∈ Rd.figures)).map fun c => V.str ⟨#[c]⟩)) ∧ σ' = [some (.str x), some (.ref g), y], ?_, ?_⟩
    · simp? only [tLc_eq, iStr]
      have hl : (TL.tl x).length = x.length := (TL.len_tl x).symm
      refine lc_ents (walk_str (z := x)) (TL.tl x) (fun c => decide (c ∈ Rd.figures)) (fun c y _ => y = .str ⟨#[c]⟩) (by rw [hl]; rfl) (by omega) (fun _ _ => trivial) (fun i H x H' h => by rw [h.1]; exact Same.refl _) (fun _ _ _ _ _ h _ _ => h) (fun j c v H1 H2 Q2 N he s1 hy g1 g2 => ?_) fun D H1 zs hD e1 s1 e2 e3 => ?_
      · obtain ⟨rfl, c', hc, rfl⟩ := hy
        obtain rfl : c = c' := by
          have he : x.cps.toList[j]? = some c := he
          rw [Array.getElem?_toList, hc] at he
          exact (Option.some.inj he).symm
        simp? only [gName]
        by_cases a1 : c ∈ Rd.figures
        · refine ⟨c, rfl, ?_⟩
          rw [if_pos (by exact decide_eq_true a1)]
          exact g1 (decide_eq_true a1) _ _ (Same.refl _) rfl
        · refine ⟨c, rfl, ?_⟩
          rw [if_neg (by exact fun z => a1 (of_decide_eq_true z))]
          exact g2 (decide_eq_false a1) _ (Same.refl _)
      · rw [zs_vals (f := fun c : Nat => V.str ⟨#[c]⟩) e1 e3] at e2
        exact ⟨s1, D, e2, rfl⟩
    rintro σ' H1 ⟨s1, g, y, hg, rfl⟩
    simp? only [hg]
    refine ⟨szl (show _ ≤ 100000 by omega), ?_⟩
    have k1 := k H1 s1
    have fl : (((TL.tl x).filter fun c => decide (c ∈ Rd.figures)).length = x.length) ↔ ((TL.tl x).all fun c => decide (c ∈ Rd.figures)) = true := by
      rw [TL.len_tl x, List.length_filter_eq_length_iff, List.all_eq_true]
    by_cases c1 : 1 ≤ x.length
    · rw [if_pos (by simp only [decide_eq_true_eq]; omega)]
      by_cases c3 : x.length ≤ 6
      · rw [if_pos (by simp; omega)]
        refine ⟨szl (show _ ≤ 100000 by omega), ?_⟩
        by_cases cs : ((TL.tl x).all fun c => decide (c ∈ Rd.figures)) = true
        · rw [if_pos (by rw [fl.mpr cs]; simp)]
          obtain ⟨c, r, e⟩ := D72.tl_head c1
          by_cases cz : x = "0"
          · rw [if_pos (decide_eq_true cz)]
            rw [show Rd.isNumber x = true by unfold Rd.isNumber; rw [decide_eq_true c1, decide_eq_true c3, cs, decide_eq_true cz]; rfl] at k1
            exact k1
          · rw [if_neg (by simpa using cz)]
            refine ⟨szl (show _ ≤ 100000 by omega), c, by show atI (TL.tl x) 0 = _; rw [e]; exact at0, ?_⟩
            rw [show Rd.isNumber x = !decide ((⟨#[c]⟩ : Str) = "0") by unfold Rd.isNumber; rw [decide_eq_true c1, decide_eq_true c3, cs, decide_eq_false cz, show Rd.sg x = TL.tl x from rfl, e]; by_cases c0 : c = 48 <;> simp [D72.one_zero, c0]] at k1
            exact k1
        · rw [if_neg (by intro z; exact cs (fl.mp (by have z := of_decide_eq_true z; omega)))]
          rw [show Rd.isNumber x = false by unfold Rd.isNumber; rw [Bool.eq_false_iff.mpr cs]; simp] at k1
          exact k1
      · rw [if_neg (by simp; omega)]
        rw [show Rd.isNumber x = false by unfold Rd.isNumber; rw [decide_eq_false c3]; simp] at k1
        exact k1
    · rw [if_neg (by simp only [decide_eq_true_eq]; omega)]
      rw [show Rd.isNumber x = false by unfold Rd.isNumber; rw [decide_eq_false c1]; simp] at k1
      exact k1
/-- how far a run goes, one sign on -/
theorem run_step {cs l : List Nat} {j c : Nat} (h : l[j]? = some c) (hc : c ∈ cs) : Rd.runOf cs (l.drop j) = 1 + Rd.runOf cs (l.drop (j + 1)) := by
  have hj : j < l.length := by
    rcases Nat.lt_or_ge j l.length with h' | h'
    · exact h'
    · rw [List.getElem?_eq_none h'] at h; cases h
  have e : l.drop j = c :: l.drop (j + 1) := by
    rw [List.drop_eq_getElem_cons hj]
    rw [List.getElem?_eq_getElem hj] at h
    cases h
    rfl
  unfold Rd.runOf
  rw [e, List.takeWhile_cons, if_pos (decide_eq_true hc), List.length_cons]
  omega
theorem run_stop {cs l : List Nat} {j c : Nat} (h : l[j]? = some c) (hc : ¬ c ∈ cs) : Rd.runOf cs (l.drop j) = 0 := by
  have hj : j < l.length := by
    rcases Nat.lt_or_ge j l.length with h' | h'
    · exact h'
    · rw [List.getElem?_eq_none h'] at h; cases h
  have e : l.drop j = c :: l.drop (j + 1) := by
    rw [List.drop_eq_getElem_cons hj]
    rw [List.getElem?_eq_getElem hj] at h
    cases h
    rfl
  unfold Rd.runOf
  rw [e, List.takeWhile_cons, if_neg (by rw [decide_eq_false hc]; decide)]
  rfl
def spRunOf : Sp := fun vs H Q _ => ∃ (x g : Str) (k : Nat), vs = [.str x, .int k, .str g] ∧ x.length ≤ 90000 ∧ k ≤ x.length ∧ Q (.int ((k + Rd.runOf (TL.tl g) ((TL.tl x).drop k) : Nat) : Int)) H
theorem ok_run_of (T : Txt K mg w) : FnOk P w K mg base CX0 1 T.f_run_of T.fd_run_of ["text", "at", "signs"] spRunOf := by
  refine T.F_run_of.ok sc_run_of (fun vs H Q E h => ?_) (fun cdv Ar outer s0 H vs Q E hr h => ?_)
  · obtain ⟨x, g, k, rfl, _⟩ := h
    rfl
  · obtain ⟨x, g, n, rfl, hx, hn, k⟩ := h
    have hu := hu_of hr
    have hu64 := hu64_of hr
    have hl : (TL.tl x).length = x.length := (TL.len_tl x).symm
    refine ⟨_, (pss_cons (ps_while PassesOwn.never (PW.pt (pw_and (pt_cmpR op_lt (pv 1) (pe_callB call_len_str (by rfl) T.n_len PySem.boot_len (pa_cons (pv 0) pa_nil)) (nomark _)) (pw_and1 (pt_cmpR op_in_sign (pe_ix ix_str (pv 0) (pv 1) (fun _ _ => rfl)) (pv 2) (by rfl))))) (pss_one (ps_aug (i := 1) sc_run_of.nd rfl (Or.inl rfl) pe_int ip_add)))
      (pss_one (ps_ret (pv 1)))), ?_⟩
    rw [show L2.start N_run_of [V.str x, V.int n, V.str g] = [some (V.str x), some (V.int n), some (V.str g)] from rfl]
    simp? only []
    refine while_n (fun m σ H2 => ∃ j : Nat, m = x.length - j ∧ σ = [some (.str x), some (.int j), some (.str g)] ∧ H2 = H ∧ j ≤ x.length ∧ j + Rd.runOf (TL.tl g) ((TL.tl x).drop j) = n + Rd.runOf (TL.tl g) ((TL.tl x).drop n)) ⟨_, n, rfl, rfl, rfl, hn, rfl⟩ ?_
    rintro m σ H2 ⟨j, rfl, rfl, rfl, h1, h2⟩
    simp? only []
    refine ⟨szl (show _ ≤ 100000 by omega), ?_⟩
    by_cases hc : j < x.length
    · rw [if_pos (by simp only [decide_eq_true_eq]; omega)]
      refine ⟨szl (show _ ≤ 100000 by omega), ?_⟩
      obtain ⟨c, ec⟩ : ∃ c, (TL.tl x)[j]? = some c := ⟨_, List.getElem?_eq_getElem (by omega)⟩
      refine ⟨c, atI_nat ec, c, rfl, ?_⟩
      by_cases hg : c ∈ TL.tl g
      · rw [if_pos (decide_eq_true hg)]
        refine wh_n ?_
        simp? only [tAug, ipI]
        have := run_step ec hg
        exact ⟨_, by omega, j + 1, rfl, by simp, by omega, by omega⟩
      · rw [if_neg (fun z => hg (of_decide_eq_true z))]
        have := run_stop ec hg
        rw [show n + Rd.runOf (TL.tl g) ((TL.tl x).drop n) = j by omega] at k
        exact k
    · rw [if_neg (by simp; omega)]
      have : Rd.runOf (TL.tl g) ((TL.tl x).drop j) = 0 := by
        rw [List.drop_of_length_le (by omega)]
        rfl
      rw [show n + Rd.runOf (TL.tl g) ((TL.tl x).drop n) = j by omega] at k
      exact k
end

/-! words of statements: next_end, words_of -/
def spNextEnd : Sp := fun vs H Q _ => ∃ (x : Str) (k : Nat), vs = [.str x, .int k] ∧ x.length ≤ 90000 ∧ k < x.length ∧ ∀ H', Same H H' → Q (.int ((k + Rd.firstLen ((TL.tl x).drop k) : Nat) : Int)) H'
def spWordsOf : Sp := fun vs H Q _ => ∃ x : Str, vs = [.str x] ∧ x.length ≤ 90000 ∧ ∀ H' g, H g = none → Same H H' → H' g = some (.lst ((Rd.toks x).map V.str)) → Q (.ref g) H'
section
variable {P : Program} {w : World} {K : PySem.W.Frag} {mg : Str → Option Value} {base : Heap}
theorem ok_next_end (T : Txt K mg w) : FnOk P w K mg base CX0 2 T.f_next_end T.fd_next_end ["text", "at"] spNextEnd := by
  have G_run_of := ok_run_of (P := P) (base := base) T
  refine T.F_next_end.ok sc_next_end (fun vs H Q E h => ?_) (fun cdv Ar outer s0 H vs Q E hr h => ?_)
  · obtain ⟨x, k, rfl, _⟩ := h
    rfl
  · obtain ⟨x, n, rfl, hx, hn, k⟩ := h
    have hu := hu_of hr
    have hu64 := hu64_of hr
    have hl : (TL.tl x).length = x.length := (TL.len_tl x).symm
    obtain ⟨c, ec⟩ : ∃ c, (TL.tl x)[n]? = some c := ⟨_, List.getElem?_eq_getElem (by omega)⟩
    have ed : (TL.tl x).drop n = c :: (TL.tl x).drop (n + 1) := by
      rw [List.drop_eq_getElem_cons (by omega)]
      rw [List.getElem?_eq_getElem (by omega)] at ec
      cases ec
      rfl
    refine ⟨_, (pss_cons (ps_for PassesOwn.never rfl (pi_tupK K rfl (pe_tup (pa_cons (pe_glob rfl T.mg_LETTERS (v := .str "abcdefghijklmnopqrstuvwxyz") ⟨_, rfl⟩) (pa_cons (pe_glob rfl T.mg_FIGURES (v := .str "0123456789") ⟨_, rfl⟩) pa_nil)))) (pg_name (i := 2) sc_next_end.nd rfl (Or.inl rfl)) (pss_one (ps_if (pt_cmpR op_in_sign (pe_ix ix_str (pv 0) (pv 1) (fun _ _ => rfl)) (pv 2) (by rfl)) (pss_one (ps_ret (pe_call G_run_of (hr.mono (by decide)) rfl T.mg_run_of T.F_run_of.kp T.b_run_of .nil pass0 (pa_cons (pv 0) (pa_cons (pv 1) (pa_cons (pv 2) pa_nil)))))) pss_nil)))
      (pss_cons (ps_for PassesOwn.never rfl (pi_tupK K rfl (pe_glob rfl T.mg_SIGNS (v := .ref T.a_SIGNS) rfl)) (pg_name (i := 3) sc_next_end.nd rfl (Or.inl rfl)) (pss_one (ps_if (pt_val (pe_mG ty_strS PySem.F.plainAttrs_str PySem.F.slot_str_startswith PySem.F.type_str_startswith mt_startswith3 (pv 0) (pa_cons (pv 3) (pa_cons (pv 1) pa_nil)))) (pss_one (ps_ret (pe_op op_add (pv 1) (pe_callB call_len_str (by rfl) T.n_len PySem.boot_len (pa_cons (pv 3) pa_nil))))) pss_nil)))
      (pss_one (ps_ret (pe_op op_add (pv 1) pe_int))))), ?_⟩
    rw [show L2.start N_next_end [V.str x, V.int n] = [some (V.str x), some (V.int n), none, none] from rfl]
    simp? only [tFor_eq, iTup]
    intro L hL
    have eL : upd H L (.tup [.str "abcdefghijklmnopqrstuvwxyz", .str "0123456789"]) L = some (.tup [.str "abcdefghijklmnopqrstuvwxyz", .str "0123456789"]) := upd_same
    refine ⟨⟨[.str "abcdefghijklmnopqrstuvwxyz", .str "0123456789"], .inl (rd_tpO (by rw [eL]; rfl))⟩, forB_it (for_it (walk_tup (xs := [.str "abcdefghijklmnopqrstuvwxyz", .str "0123456789"])) (fun i σ H2 => ∃ x2 : Option V, σ = [some (.str x), some (.int n), x2, none] ∧ Same H H2 ∧ H2 L = some (.tup [.str "abcdefghijklmnopqrstuvwxyz", .str "0123456789"]) ∧ (1 ≤ i → c ∉ Rd.letters) ∧ (2 ≤ i → c ∉ Rd.figures))
      ⟨none, rfl, same_new hL, eL, fun z => absurd z (by decide), fun z => absurd z (by decide)⟩ (fun _ _ _ _ ⟨_, _, _, e2, _⟩ => .inl (rd_tpO (by rw [e2]; rfl))) ?_ ?_)⟩
    · rintro i y σ H2 H3 hi ⟨x2, rfl, km, e2, n1, n2⟩ ⟨rfl, hy⟩
      simp? only [gName]
      refine ⟨szl (show _ ≤ 100000 by omega), c, atI_nat ec, c, rfl, ?_⟩
      obtain rfl | rfl : i = 0 ∨ i = 1 := by have hi : i < 2 := hi; omega
      · cases hy
        refine ⟨_, rfl, ?_⟩
        by_cases hc : c ∈ Rd.letters
        · rw [if_pos (by exact decide_eq_true hc)]
          refine ⟨x, _, n, rfl, hx, by omega, ?_⟩
          have k1 := k H3 km
          rw [ed] at k1 ⊢
          rw [show Rd.firstLen (c :: (TL.tl x).drop (n + 1)) = Rd.runOf Rd.letters (c :: (TL.tl x).drop (n + 1)) by unfold Rd.firstLen; dsimp only; rw [if_pos hc]] at k1
          exact k1
        · rw [if_neg (by exact fun z => hc (of_decide_eq_true z))]
          exact ⟨km, e2, fun _ => hc, fun z => absurd z (by decide)⟩
      · cases hy
        have n1 := n1 (by decide)
        refine ⟨_, rfl, ?_⟩
        by_cases hc : c ∈ Rd.figures
        · rw [if_pos (by exact decide_eq_true hc)]
          refine ⟨x, _, n, rfl, hx, by omega, ?_⟩
          have k1 := k H3 km
          rw [ed] at k1 ⊢
          rw [show Rd.firstLen (c :: (TL.tl x).drop (n + 1)) = Rd.runOf Rd.figures (c :: (TL.tl x).drop (n + 1)) by unfold Rd.firstLen; dsimp only; rw [if_neg n1, if_pos hc]] at k1
          exact k1
        · rw [if_neg (by exact fun z => hc (of_decide_eq_true z))]
          exact ⟨km, e2, fun _ => n1, fun _ => hc⟩
    · rintro σ H2 ⟨x2, rfl, km, e2, n1, n2⟩
      have n1 := n1 (by decide)
      have n2 := n2 (by decide)
      simp? only [tFor_eq, iTup]
      refine ⟨⟨_, T.D_SIGNS.sq⟩, forB_it (for_it (walk_tup (xs := Rd.signs.map V.str)) (fun i σ H3 => ∃ x3 : Option V, σ = [some (.str x), some (.int n), x2, x3] ∧ Same H H3 ∧ ∀ (j : Nat) (s : Str), j < i → Rd.signs[j]? = some s → (Rd.sg s).isPrefixOf ((Rd.sg x).drop n) = false)
        ⟨none, rfl, km, fun j s h => absurd h (Nat.not_lt_zero _)⟩ (fun _ _ _ _ _ => T.D_SIGNS.sq) ?_ ?_)⟩
      · rintro i y σ H3 H4 hi ⟨x3, rfl, km3, no⟩ ⟨rfl, hy⟩
        simp? only [gName]
        obtain ⟨s, es⟩ : ∃ s, Rd.signs[i]? = some s := ⟨_, List.getElem?_eq_getElem (by rw [List.length_map] at hi; exact hi)⟩
        rw [List.getElem?_map, es] at hy
        cases hy
        refine ⟨⟨x, rfl⟩, s, rfl, ?_⟩
        have hs := Rd.starts_at (x := x) (y := s) (k := n) (by omega)
        have sl : s.length ≤ 2 := by
          have := List.mem_of_getElem? es
          simp only [Rd.signs, List.mem_cons, List.not_mem_nil, or_false] at this
          rcases this with h | h | h | h | h | h | h | h | h | h | h | h <;> rw [h] <;> decide +kernel
        by_cases hp : (Rd.sg s).isPrefixOf ((Rd.sg x).drop n) = true
        · rw [if_pos (by rw [hs]; exact hp)]
          refine ⟨s, rfl, szl (show _ ≤ 100000 by omega), ?_⟩
          have k1 := k H4 km3
          rw [ed] at k1
          have ed' : (Rd.sg x).drop n = c :: (TL.tl x).drop (n + 1) := ed
          rw [ed'] at hp no
          rw [show Rd.firstLen (c :: (TL.tl x).drop (n + 1)) = s.length by unfold Rd.firstLen; dsimp only; rw [if_neg n1, if_neg n2, Rd.find_at es hp (fun j y hj e => no j y hj e)]] at k1
          exact k1
        · rw [if_neg (by rw [hs]; exact hp)]
          refine ⟨km3, fun j s' hj e => ?_⟩
          rcases Nat.lt_or_ge j i with h | h
          · exact no j s' h e
          · obtain rfl : j = i := by omega
            rw [es] at e
            cases e
            exact Bool.eq_false_iff.mpr hp
      · rintro σ H3 ⟨x3, rfl, km3, no⟩
        have ed' : (Rd.sg x).drop n = c :: (TL.tl x).drop (n + 1) := ed
        have k1 := k H3 km3
        rw [ed] at k1
        rw [ed'] at no
        rw [show Rd.firstLen (c :: (TL.tl x).drop (n + 1)) = 1 by unfold Rd.firstLen; dsimp only; rw [if_neg n1, if_neg n2, Rd.find_no (fun j y e => no j y (by rw [List.length_map]; exact (List.getElem?_eq_some_iff.mp e).1) e)]] at k1
        simp? only []
        exact k1
theorem ok_words_of (T : Txt K mg w) : FnOk P w K mg base CX0 3 T.f_words_of T.fd_words_of ["text"] spWordsOf := by
  have G_next_end := ok_next_end (P := P) (base := base) T
  refine T.F_words_of.ok sc_words_of (fun vs H Q E h => ?_) (fun cdv Ar outer s0 H vs Q E hr h => ?_)
  · obtain ⟨x, rfl, _⟩ := h
    rfl
  · obtain ⟨x, rfl, hx, k⟩ := h
    have hu := hu_of hr
    have hu64 := hu64_of hr
    have hl : (TL.tl x).length = x.length := (TL.len_tl x).symm
    refine ⟨_, (pss_cons (ps_set (i := 1) sc_words_of.nd rfl (Or.inl rfl) (pe_lst pa_nil))
      (pss_cons (ps_set (i := 2) sc_words_of.nd rfl (Or.inl rfl) pe_int)
      (pss_cons (ps_while PassesOwn.never (pt_cmpR op_lt (pv 2) (pe_callB call_len_str (by rfl) T.n_len PySem.boot_len (pa_cons (pv 0) pa_nil)) (nomark _)) (pss_one (ps_if (pt_cmpR op_eq (pe_ix ix_str (pv 0) (pv 2) (fun _ _ => rfl)) pe_str (nomark _)) (pss_one (ps_aug (i := 2) sc_words_of.nd rfl (Or.inl rfl) pe_int ip_add)) (pss_cons (ps_set (i := 3) sc_words_of.nd rfl (Or.inl rfl) (pe_call G_next_end (hr.mono (by decide)) rfl T.mg_next_end T.F_next_end.kp T.b_next_end .nil pass0 (pa_cons (pv 0) (pa_cons (pv 2) pa_nil))))
          (pss_cons (ps_expr (pe_bm PySem.F.plainAttrs_list PySem.F.slot_list_append PySem.F.type_list_append mt_append (pv 1) (pa_cons (pe_slice sl_str (pv 0) (po_some (pv 2)) (po_some (pv 3))) pa_nil)))
          (pss_one (ps_set (i := 2) sc_words_of.nd rfl (Or.inl rfl) (pv 3))))))))
      (pss_one (ps_ret (pv 1)))))), ?_⟩
    rw [show L2.start N_words_of [V.str x] = [some (V.str x), none, none, none] from rfl]
    simp? only []
    intro g hg
    refine while_n (fun m σ H2 => ∃ (j : Nat) (v : Option V) (ws : List Str), m = x.length - j ∧ σ = [some (.str x), some (.ref g), some (.int j), v] ∧ Same H H2 ∧ H2 g = some (.lst (ws.map V.str)) ∧ j ≤ x.length ∧ ws.length ≤ j ∧ Rd.toks x = ws ++ Rd.toksL ((TL.tl x).drop j)) ⟨_, 0, none, [], rfl, rfl, same_new hg, upd_same, Nat.zero_le _, Nat.le_refl _, Rd.toks_L x⟩ ?_
    rintro m σ H2 ⟨j, v, ws, rfl, rfl, km, e2, h1, h2, h3⟩
    simp? only []
    refine ⟨szl (show _ ≤ 100000 by omega), ?_⟩
    by_cases hc : j < x.length
    · rw [if_pos (by simp only [decide_eq_true_eq]; omega)]
      refine wh_n ?_
      obtain ⟨c, ec⟩ : ∃ c, (TL.tl x)[j]? = some c := ⟨_, List.getElem?_eq_getElem (by omega)⟩
      have ed : (TL.tl x).drop j = c :: (TL.tl x).drop (j + 1) := by
        rw [List.drop_eq_getElem_cons (by omega)]
        rw [List.getElem?_eq_getElem (by omega)] at ec
        cases ec
        rfl
      simp? only [e2]
      refine ⟨szl (show _ ≤ 100000 by omega), c, atI_nat ec, ?_⟩
      by_cases cb : c = 32
      · subst cb
        rw [if_pos (by decide +kernel)]
        refine ⟨_, ?_, j + 1, rfl, by simp, km, ws, rfl, by omega, by omega, ?_⟩
        · omega
        · rw [h3, ed, Rd.toksL_blank]
      · rw [if_neg (by rw [decide_eq_false (fun z => cb (by have z := congrArg TL.tl z; exact (List.cons.inj z).1))]; decide)]
        have hf1 := Rd.first_pos (l := (TL.tl x).drop j)
        have hf2 := Rd.first_le (l := (TL.tl x).drop j) (by rw [ed]; exact fun z => nomatch z)
        rw [List.length_drop] at hf2
        refine ⟨x, j, rfl, hx, hc, fun H3 s3 => ?_⟩
        refine ⟨by rw [tyV_list (by rw [s3 _ _ e2]; exact fun z => nomatch z)]; trivial, _, rfl, x, rfl, szl (show _ ≤ 100000 by omega), _, s3 _ _ e2, szl' (by rw [List.length_map]; omega), ?_⟩
        refine ⟨_, ?_, j + Rd.firstLen ((TL.tl x).drop j), rfl, rfl, ?_, ws ++ [Rd.mk (((TL.tl x).drop j).take (Rd.firstLen ((TL.tl x).drop j)))], ?_, by omega, by rw [List.length_append]; simp; omega, ?_⟩
        · omega
        · exact Same.updFree (km.trans s3) hg
        · rw [List.map_append, Rd.cut_at (by omega) (by omega), show j + Rd.firstLen ((TL.tl x).drop j) - j = Rd.firstLen ((TL.tl x).drop j) by omega]
          rfl
        · rw [h3, List.append_assoc, List.singleton_append, ed, Rd.toksL_word cb, ← ed, List.drop_drop]
    · rw [if_neg (by simp; omega)]
      rw [List.drop_of_length_le (by omega), Rd.toksL_nil, List.append_nil] at h3
      exact k H2 g hg km (by rw [h3]; exact e2)
end

/-! a reader of words: refuse, here, taken, does_take, need, next_name, next_number -/
def spBadText (C : Addr) : Sp := fun vs H Q _ => ∃ (a : Addr) (n : Int), vs = [.ref a, .int n] ∧ H a = some (exo a C none) ∧ ∀ dx, H dx = none → dx ≠ a → Q .non (upd (upd H dx (exd dx [("place", .int n)])) a (exo a C (some dx)))
abbrev RAt := Rd.At fsStatements
section
variable {P : Program} {w : World} {K : PySem.W.Frag} {mg : Str → Option Value} {base : Heap}
theorem ok_BadText_init (T : Txt K mg w) : FnOk P w K mg base CX0 1 T.f_BadText_init T.fd_BadText_init ["self", "place"] (spBadText T.C_BadText) := by
  refine T.F_BadText_init.ok sc_BadText_init (fun vs H Q E h => ?_) (fun cdv Ar outer s0 H vs Q E hr h => ?_)
  · obtain ⟨a, n, rfl, _⟩ := h
    rfl
  · obtain ⟨a, n, rfl, ha, k⟩ := h
    have hu := hu_of hr
    have hu64 := hu64_of hr
    refine ⟨_, (pss_cons (ps_expr (pe_sinit rfl T.mg_StoreError T.R_StoreError T.v_StoreError (pa_cons (pv 0) (pa_cons (pv 1) pa_nil))))
      (pss_one (ps_ost (pv 0) (pv 1) rfl))), ?_⟩
    rw [show L2.start N_BadText_init [V.ref a, V.int n] = [some (V.ref a), some (V.int n)] from rfl]
    simp? only [tVeI, tOst]
    exact ⟨T.C_BadText, T.O_BadText, ha, T.C_BadText, T.O_BadText, T.n_BadText_place, .inl ⟨ha, k⟩⟩
variable {TL : List (Addr × Str)}
/-- what a refused word leaves -/
def BtE (TL : List (Addr × Str)) (CB a : Addr) (H : Hp) (E : XK) (n : Nat) : Prop := ∀ H' e, KeepN [a] H H' → Lm.TabF TL H' → H' e = some (.xd [("place", .int (n : Int))]) → E (.ref CB) (some e) H'
theorem bt_raise {C a : Addr} {H : Hp} {E : XK} {n : Nat} (t : Lm.TabF TL H) (k : BtE TL C a H E n) (b : Addr) (hb : H b = none) : spBadText C [.ref b, .int n] (upd H b (exo b C none)) (fun v H2 => v = .non ∧ ∃ d : Addr, H2 b = some (exo b C (some d)) ∧ ∃ fs : List (Str × V), H2 d = some (exd d fs) ∧ H d = none ∧ E (.ref C) (some d) (upd (del H2 b) d (.xd fs))) (fun _ _ _ => False) := by
  refine ⟨b, n, rfl, upd_same, fun dx hdx hda => ⟨rfl, dx, upd_same, _, by rw [upd_ne hda, upd_same], ?_, ?_⟩⟩
  · rw [upd_ne hda] at hdx
    exact hdx
  · have hd : H dx = none := by rw [upd_ne hda] at hdx; exact hdx
    have sm : Same H (upd (del (upd (upd (upd H b (exo b C none)) dx (exd dx [("place", V.int n)])) b (exo b C (some dx))) b) dx (HO.xd [("place", V.int n)])) := fun c o hc => by
      have nd : c ≠ dx := fun z => by rw [z, hd] at hc; cases hc
      have na : c ≠ b := fun z => by rw [z, hb] at hc; cases hc
      rw [upd_ne nd, del_ne na, upd_ne na, upd_ne nd, upd_ne na]
      exact hc
    exact k _ dx (Rd.kn_same sm) (Rd.tabF_kn t sm) upd_same
theorem BtE.kn {CB a : Addr} {H H' : Hp} {E : XK} {n : Nat} (k : BtE TL CB a H E n) (s : KeepN [a] H H') : BtE TL CB a H' E n := fun H2 e k2 t q => k H2 e (Rd.kn_trans s k2) t q
def spHere (TL : List (Addr × Str)) (C : Addr) : Sp := fun vs H Q _ => ∃ (a dx l : Addr) (ws : List Str) (k d : Nat), vs = [.ref a] ∧ RAt TL C a dx l ws k d H ∧ Q (.str (Rd.here ws k)) H
def spRefuse (TL : List (Addr × Str)) (C CB : Addr) : Sp := fun vs H Q E => ∃ (a dx l : Addr) (ws : List Str) (k d : Nat), vs = [.ref a] ∧ RAt TL C a dx l ws k d H ∧ BtE TL CB a H E k
def spTaken (TL : List (Addr × Str)) (C : Addr) : Sp := fun vs H Q _ => ∃ (a dx l : Addr) (ws : List Str) (k d : Nat), vs = [.ref a] ∧ RAt TL C a dx l ws k d H ∧ k < ws.length ∧ ∀ H', KeepN [a] H H' → RAt TL C a dx l ws (k + 1) d H' → Q (.str (Rd.here ws k)) H'
def spDoes (TL : List (Addr × Str)) (C : Addr) : Sp := fun vs H Q _ => ∃ (a dx l : Addr) (ws : List Str) (k d : Nat) (x : Str), vs = [.ref a, .str x] ∧ RAt TL C a dx l ws k d H ∧ x ≠ "" ∧ (Rd.here ws k ≠ x → Q (.bl false) H) ∧ (Rd.here ws k = x → ∀ H', KeepN [a] H H' → RAt TL C a dx l ws (k + 1) d H' → Q (.bl true) H')
theorem ok_Reader_here (T : Txt K mg w) : FnOk P w K mg base CX0 1 T.f_Reader_here T.fd_Reader_here ["self"] (spHere TL T.C_Statements) := by
  refine T.F_Reader_here.ok sc_Reader_here (fun vs H Q E h => ?_) (fun cdv Ar outer s0 H vs Q E hr h => ?_)
  · obtain ⟨a, dx, l, ws, k, d, rfl, _⟩ := h
    rfl
  · obtain ⟨a, dx, l, ws, n, d, rfl, A, k⟩ := h
    have hu := hu_of hr
    have hu64 := hu64_of hr
    refine ⟨_, (pss_one (ps_ret (pe_ifExp (pt_cmpR op_lt (pe_fldK K rfl (pv 0) rfl) (pe_callB len_lst (by rfl) T.n_len PySem.boot_len (pa_cons (pe_fldK K rfl (pv 0) rfl) pa_nil)) (nomark _)) (pe_ix ix_lst (pe_fldK K rfl (pv 0) rfl) (pe_fldK K rfl (pv 0) rfl) (fun _ _ => rfl)) pe_str))), ?_⟩
    rw [show L2.start N_Reader_here [V.ref a] = [some (V.ref a)] from rfl]
    have ob := A.ob
    have wl := A.wl
    dsimp? only [ob, wl, sFldAug, rAdd]
    by_cases c : n < ws.length
    · rw [if_pos (by simp only [decide_eq_true_eq]; omega)]
      refine ⟨_, atI_nat (by rw [List.getElem?_map, List.getElem?_eq_getElem c]; rfl), ?_⟩
      rw [show Rd.here ws n = ws[n] by unfold Rd.here; rw [List.getD_eq_getElem?_getD, List.getElem?_eq_getElem c]; rfl] at k
      exact k
    · rw [if_neg (by simp; omega)]
      rw [show Rd.here ws n = "" by unfold Rd.here; rw [List.getD_eq_getElem?_getD, List.getElem?_eq_none (by omega)]; rfl] at k
      exact k
theorem ok_Reader_refuse (T : Txt K mg w) : FnOk P w K mg base (L2.CX P w) 3 T.f_Reader_refuse T.fd_Reader_refuse ["self"] (spRefuse TL T.C_Statements T.C_BadText) := by
  have G_BadText_init : FnOk P w K mg base CX0 1 T.f_BadText_init T.fd_BadText_init ["self", "place"] (spBadText T.C_BadText) := ok_BadText_init T
  refine T.F_Reader_refuse.okX sc_Reader_refuse (fun vs H Q E h => ?_) (fun cdv Ar outer s0 H vs Q E hr h => ?_)
  · obtain ⟨a, dx, l, ws, k, d, rfl, _⟩ := h
    rfl
  · obtain ⟨a, dx, l, ws, n, d, rfl, A, k⟩ := h
    have hu := hu_of hr
    have hu64 := hu64_of hr
    refine ⟨_, (pss_one (ps_raise rfl (takes_of rfl rfl rfl rfl) (pmk_kw T.O_BadText T.iO_BadText T.tO_BadText G_BadText_init (hr.mono (by decide)) T.kb_BadText_init pass0 rfl T.mg_BadText (pk_cons (pe_fldK K rfl (pv 0) rfl) pk_nil)))), ?_⟩
    rw [show L2.start N_Reader_refuse [V.ref a] = [some (V.ref a)] from rfl]
    have ob := A.ob
    have wl := A.wl
    dsimp? only [ob, wl, sFldAug, rAdd]
    intro b hb
    exact bt_raise A.tab k b hb
theorem ok_Reader_taken (T : Txt K mg w) : FnOk P w K mg base CX0 1 T.f_Reader_taken T.fd_Reader_taken ["self"] (spTaken TL T.C_Statements) := by
  refine T.F_Reader_taken.ok sc_Reader_taken (fun vs H Q E h => ?_) (fun cdv Ar outer s0 H vs Q E hr h => ?_)
  · obtain ⟨a, dx, l, ws, k, d, rfl, _⟩ := h
    rfl
  · obtain ⟨a, dx, l, ws, n, d, rfl, A, hn, k⟩ := h
    have hu := hu_of hr
    have hu64 := hu64_of hr
    refine ⟨_, (pss_cons (ps_fldaug (pv 0) pe_int in_add)
      (pss_one (ps_ret (pe_ix ix_lst (pe_fldK K rfl (pv 0) rfl) (pe_op op_sub (pe_fldK K rfl (pv 0) rfl) pe_int) (fun _ _ => rfl))))), ?_⟩
    rw [show L2.start N_Reader_taken [V.ref a] = [some (V.ref a)] from rfl]
    have ob := A.ob
    have wl := A.wl
    dsimp? only [ob, wl, sFldAug, rAdd]
    have A2 := A.set (k' := n + 1) (d' := d) (by omega)
    refine ⟨_, by rw [upd_ne A.ne, A.wl]; rfl, V.str ws[n], ?_, ?_⟩
    · rw [show (n : Int) + 1 - 1 = ((n : Nat) : Int) by omega]
      exact atI_nat (by rw [List.getElem?_map, List.getElem?_eq_getElem hn]; rfl)
    · have := k _ Rd.kn_upd A2
      rw [show Rd.here ws n = ws[n] by unfold Rd.here; rw [List.getD_eq_getElem?_getD, List.getElem?_eq_getElem hn]; rfl] at this
      exact this
theorem ok_Reader_does_take (T : Txt K mg w) : FnOk P w K mg base CX0 2 T.f_Reader_does_take T.fd_Reader_does_take ["self", "word"] (spDoes TL T.C_Statements) := by
  have G_Reader_here := ok_Reader_here (P := P) (base := base) (TL := TL) T
  refine T.F_Reader_does_take.ok sc_Reader_does_take (fun vs H Q E h => ?_) (fun cdv Ar outer s0 H vs Q E hr h => ?_)
  · obtain ⟨a, dx, l, ws, k, d, x, rfl, _⟩ := h
    rfl
  · obtain ⟨a, dx, l, ws, n, d, x, rfl, A, hx, k1, k2⟩ := h
    have hu := hu_of hr
    have hu64 := hu64_of hr
    refine ⟨_, (pss_cons (ps_if (pt_cmpR op_ne (pe_meth0 (pv 0) T.cl_Statements T.me_Statements_here G_Reader_here (hr.mono (by decide)) T.b_Reader_here .nil pass0) (pv 1) (nomark _)) (pss_one (ps_ret pe_bl)) pss_nil)
      (pss_cons (ps_fldaug (pv 0) pe_int in_add)
      (pss_one (ps_ret pe_bl)))), ?_⟩
    rw [show L2.start N_Reader_does_take [V.ref a, V.str x] = [some (V.ref a), some (V.str x)] from rfl]
    have ob := A.ob
    dsimp? only [ob, sFldAug, rAdd]
    refine ⟨a, dx, l, ws, n, d, rfl, A, ?_⟩
    dsimp? only [ob]
    by_cases c : Rd.here ws n = x
    · rw [if_neg (by rw [decide_eq_true c]; decide)]
      have hn : n < ws.length := by
        rcases Nat.lt_or_ge n ws.length with h | h
        · exact h
        · exact absurd (by rw [← c]; unfold Rd.here; rw [List.getD_eq_getElem?_getD, List.getElem?_eq_none h]; rfl) hx
      exact k2 c _ Rd.kn_upd (A.set (k' := n + 1) (d' := d) (by omega))
    · rw [if_pos (by rw [decide_eq_false c]; rfl)]
      exact k1 c
def spNeed (TL : List (Addr × Str)) (C CB : Addr) : Sp := fun vs H Q E => ∃ (a dx l : Addr) (ws : List Str) (k d : Nat) (x : Str), vs = [.ref a, .str x] ∧ RAt TL C a dx l ws k d H ∧ x ≠ "" ∧ Rd.Post fsStatements TL C CB a dx l ws d (fun _ => .non) (Rd.need ws x k) H Q E
def spName (TL : List (Addr × Str)) (C CB : Addr) : Sp := fun vs H Q E => ∃ (a dx l : Addr) (ws : List Str) (k d : Nat), vs = [.ref a] ∧ RAt TL C a dx l ws k d H ∧ Rd.Post fsStatements TL C CB a dx l ws d Dx.str (Rd.nextName ws k) H Q E
def spNumR (TL : List (Addr × Str)) (C CB : Addr) : Sp := fun vs H Q E => ∃ (a dx l : Addr) (ws : List Str) (k d : Nat), vs = [.ref a] ∧ RAt TL C a dx l ws k d H ∧ Rd.Post fsStatements TL C CB a dx l ws d Dx.int (Rd.nextNumber ws k) H Q E
theorem ok_Reader_need (T : Txt K mg w) : FnOk P w K mg base (L2.CX P w) 4 T.f_Reader_need T.fd_Reader_need ["self", "word"] (spNeed TL T.C_Statements T.C_BadText) := by
  have G_Reader_does_take := ok_Reader_does_take (P := P) (base := base) (TL := TL) T
  have G_Reader_refuse := ok_Reader_refuse (P := P) (base := base) (TL := TL) T
  refine T.F_Reader_need.okX sc_Reader_need (fun vs H Q E h => ?_) (fun cdv Ar outer s0 H vs Q E hr h => ?_)
  · obtain ⟨a, dx, l, ws, k, d, x, rfl, _⟩ := h
    rfl
  · obtain ⟨a, dx, l, ws, n, d, x, rfl, A, hx, k⟩ := h
    have hu := hu_of hr
    have hu64 := hu64_of hr
    refine ⟨_, (pss_one (ps_if (pt_not (pt_val (pe_meth (pv 0) T.cl_Statements T.me_Statements_does_take G_Reader_does_take (hr.mono (by decide)) T.b_Reader_does_take .nil pass0 (pa_cons (pv 1) pa_nil)))) (pss_one (ps_expr (pe_meth0 (pv 0) T.cl_Statements T.me_Statements_refuse G_Reader_refuse (hr.mono (by decide)) T.b_Reader_refuse .nil (passes_call (takes_of rfl rfl rfl rfl) (fun _ _ _ _ z => z))))) pss_nil)), ?_⟩
    rw [show L2.start N_Reader_need [V.ref a, V.str x] = [some (V.ref a), some (V.str x)] from rfl]
    have ob := A.ob
    dsimp? only [ob]
    refine ⟨a, dx, l, ws, n, d, x, rfl, A, hx, fun c => ?_, fun c H1 k1 A1 => ?_⟩
    · dsimp? only [ob]
      refine ⟨a, dx, l, ws, n, d, rfl, A, ?_⟩
      unfold Rd.need at k
      rw [if_neg c] at k
      exact k
    · simp? only []
      unfold Rd.need at k
      rw [if_pos c] at k
      exact k H1 .non k1 A1 rfl
theorem ok_Reader_next_name (T : Txt K mg w) : FnOk P w K mg base (L2.CX P w) 4 T.f_Reader_next_name T.fd_Reader_next_name ["self"] (spName TL T.C_Statements T.C_BadText) := by
  have G_Reader_here := ok_Reader_here (P := P) (base := base) (TL := TL) T
  have G_Reader_taken := ok_Reader_taken (P := P) (base := base) (TL := TL) T
  have G_is_name := ok_is_name (P := P) (base := base) T
  have G_Reader_refuse := ok_Reader_refuse (P := P) (base := base) (TL := TL) T
  refine T.F_Reader_next_name.okX sc_Reader_next_name (fun vs H Q E h => ?_) (fun cdv Ar outer s0 H vs Q E hr h => ?_)
  · obtain ⟨a, dx, l, ws, k, d, rfl, _⟩ := h
    rfl
  · obtain ⟨a, dx, l, ws, n, d, rfl, A, k⟩ := h
    have hu := hu_of hr
    have hu64 := hu64_of hr
    refine ⟨_, (pss_cons (ps_if (pt_not (pt_val (pe_call G_is_name (hr.mono (by decide)) rfl T.mg_is_name T.F_is_name.kp T.b_is_name .nil pass0 (pa_cons (pe_meth0 (pv 0) T.cl_Statements T.me_Statements_here G_Reader_here (hr.mono (by decide)) T.b_Reader_here .nil pass0) pa_nil)))) (pss_one (ps_expr (pe_meth0 (pv 0) T.cl_Statements T.me_Statements_refuse G_Reader_refuse (hr.mono (by decide)) T.b_Reader_refuse .nil (passes_call (takes_of rfl rfl rfl rfl) (fun _ _ _ _ z => z))))) pss_nil)
      (pss_one (ps_ret (pe_meth0 (pv 0) T.cl_Statements T.me_Statements_taken G_Reader_taken (hr.mono (by decide)) T.b_Reader_taken .nil pass0)))), ?_⟩
    rw [show L2.start N_Reader_next_name [V.ref a] = [some (V.ref a)] from rfl]
    have ob := A.ob
    dsimp? only [ob]
    refine ⟨a, dx, l, ws, n, d, rfl, A, ?_⟩
    dsimp? only [ob]
    refine ⟨_, rfl, A.here_ok, fun H1 s1 => ?_⟩
    have A1 := A.same s1
    dsimp? only [A1.ob]
    unfold Rd.nextName at k
    by_cases c : Rd.isName (Rd.here ws n) = true
    · rw [if_pos c] at k
      rw [if_neg (by rw [c]; decide)]
      have hn : n < ws.length := by
        rcases Nat.lt_or_ge n ws.length with h | h
        · exact h
        · rw [show Rd.here ws n = "" by unfold Rd.here; rw [List.getD_eq_getElem?_getD, List.getElem?_eq_none h]; rfl] at c
          exact absurd c (by decide)
      exact ⟨a, dx, l, ws, n, d, rfl, A1, hn, fun H2 k2 A2 => k H2 _ (Rd.kn_trans (Rd.kn_same s1) k2) A2 rfl⟩
    · rw [if_neg c] at k
      rw [if_pos (by rw [Bool.eq_false_iff.mpr c]; rfl)]
      exact ⟨a, dx, l, ws, n, d, rfl, A1, BtE.kn k (Rd.kn_same s1)⟩
theorem ok_Reader_next_number (T : Txt K mg w) : FnOk P w K mg base (L2.CX P w) 4 T.f_Reader_next_number T.fd_Reader_next_number ["self"] (spNumR TL T.C_Statements T.C_BadText) := by
  have G_Reader_here := ok_Reader_here (P := P) (base := base) (TL := TL) T
  have G_Reader_taken := ok_Reader_taken (P := P) (base := base) (TL := TL) T
  have G_Reader_does_take := ok_Reader_does_take (P := P) (base := base) (TL := TL) T
  have G_is_number := ok_is_number (P := P) (base := base) T
  have G_Reader_refuse := ok_Reader_refuse (P := P) (base := base) (TL := TL) T
  refine T.F_Reader_next_number.okX sc_Reader_next_number (fun vs H Q E h => ?_) (fun cdv Ar outer s0 H vs Q E hr h => ?_)
  · obtain ⟨a, dx, l, ws, k, d, rfl, _⟩ := h
    rfl
  · obtain ⟨a, dx, l, ws, n, d, rfl, A, k⟩ := h
    have hu := hu_of hr
    have hu64 := hu64_of hr
    refine ⟨_, (Evl.pss_cut (ps_set (i := 1) sc_Reader_next_number.nd rfl (Or.inl rfl) (pe_meth (pv 0) T.cl_Statements T.me_Statements_does_take G_Reader_does_take (hr.mono (by decide)) T.b_Reader_does_take .nil pass0 (pa_cons pe_str pa_nil)))
      (pss_cons (ps_if (PW.pt (pw_or (pt_not (pt_val (pe_call G_is_number (hr.mono (by decide)) rfl T.mg_is_number T.F_is_number.kp T.b_is_number .nil pass0 (pa_cons (pe_meth0 (pv 0) T.cl_Statements T.me_Statements_here G_Reader_here (hr.mono (by decide)) T.b_Reader_here .nil pass0) pa_nil)))) (pw_or1 (PW.pt (pw_and (pt_val (pv 1)) (pw_and1 (pt_cmpR op_eq (pe_meth0 (pv 0) T.cl_Statements T.me_Statements_here G_Reader_here (hr.mono (by decide)) T.b_Reader_here .nil pass0) pe_str (nomark _)))))))) (pss_one (ps_expr (pe_meth0 (pv 0) T.cl_Statements T.me_Statements_refuse G_Reader_refuse (hr.mono (by decide)) T.b_Reader_refuse .nil (passes_call (takes_of rfl rfl rfl rfl) (fun _ _ _ _ z => z))))) pss_nil)
      (pss_cons (ps_set (i := 2) sc_Reader_next_number.nd rfl (Or.inl rfl) (pe_callTy call_int_str (by rfl) T.n_int (by decide +kernel) (pa_cons (pe_meth0 (pv 0) T.cl_Statements T.me_Statements_taken G_Reader_taken (hr.mono (by decide)) T.b_Reader_taken .nil pass0) pa_nil)))
      (pss_one (ps_ret (pe_ifExp (pt_val (pv 1)) (pe_op op_sub pe_int (pv 2)) (pv 2))))))), ?_⟩
    rw [show L2.start N_Reader_next_number [V.ref a] = [some (V.ref a), none, none] from rfl]
    unfold Rd.nextNumber at k
    refine ⟨fun σ' H1 => KeepN [a] H H1 ∧ σ' = [some (.ref a), some (.bl (decide (Rd.here ws n = "-"))), none] ∧ RAt TL T.C_Statements a dx l ws (n + (if decide (Rd.here ws n = "-") = true then 1 else 0)) d H1, ?_, ?_⟩
    · have ob := A.ob
      dsimp? only [ob]
      refine ⟨a, dx, l, ws, n, d, _, rfl, A, by decide, fun c => ?_, fun c H1 k1 A1 => ?_⟩
      · refine ⟨Rd.kn_refl, ?_⟩
        rw [decide_eq_false c]
        exact ⟨rfl, A⟩
      · refine ⟨k1, ?_⟩
        rw [decide_eq_true c]
        exact ⟨rfl, A1⟩
    rintro σ' H1 ⟨k1, rfl, A1⟩
    generalize eb : decide (Rd.here ws n = "-") = b at A1 ⊢
    replace eb := eb.symm
    generalize hm : n + (if b = true then 1 else 0) = m at A1
    have ob1 := A1.ob
    dsimp? only [ob1]
    refine ⟨a, dx, l, ws, m, d, rfl, A1, ?_⟩
    dsimp? only [ob1]
    refine ⟨_, rfl, A1.here_ok, fun H2 s2 => ?_⟩
    have A2 := A1.same s2
    have ob2 := A2.ob
    have k2 := Rd.kn_trans k1 (Rd.kn_same s2)
    dsimp? only [ob2]
    have take : ∀ Q' : VK, Rd.isNumber (Rd.here ws m) = true → (∀ H3, KeepN [a] H H3 → RAt TL T.C_Statements a dx l ws (m + 1) d H3 → Q' (.str (Rd.here ws m)) H3) → spTaken TL T.C_Statements [.ref a] H2 Q' E0 := fun Q' c q =>
      ⟨a, dx, l, ws, m, d, rfl, A2, Rd.here_lt (fun z => by rw [z] at c; exact absurd c (by decide)), fun H3 k3 A3 => q H3 (Rd.kn_trans k2 k3) A3⟩
    have bad : BtE TL T.C_BadText a H E m → spRefuse TL T.C_Statements T.C_BadText [.ref a] H2 (fun _ _ => True) E → True := fun _ _ => trivial
    clear bad
    by_cases c : Rd.isNumber (Rd.here ws m) = true
    · have tx := Rd.num_text c
      have ln := Rd.num_len c
      rw [if_neg (by rw [c]; decide)]
      cases b with
      | true =>
        have hb : Rd.here ws n = "-" := of_decide_eq_true eb.symm
        obtain rfl : n + 1 = m := hm
        rw [if_pos hb] at k
        rw [if_pos rfl]
        refine ⟨a, dx, l, ws, n + 1, d, rfl, A2, ?_⟩
        dsimp? only [ob2]
        by_cases c0 : Rd.here ws (n + 1) = "0"
        · rw [if_pos (decide_eq_true c0)]
          rw [if_neg (fun z => z.2 c0)] at k
          exact ⟨a, dx, l, ws, n + 1, d, rfl, A2, BtE.kn k k2⟩
        · rw [if_neg (fun z => c0 (of_decide_eq_true z))]
          rw [if_pos ⟨c, c0⟩] at k
          refine take _ c fun H3 k3 A3 => ?_
          simp? only []
          exact ⟨_, tx, by omega, k H3 _ k3 A3 rfl⟩
      | false =>
        have hb : ¬ Rd.here ws n = "-" := of_decide_eq_false eb.symm
        obtain rfl : n = m := hm
        rw [if_neg hb, if_pos c] at k
        rw [if_neg (by decide)]
        refine take _ c fun H3 k3 A3 => ?_
        simp? only []
        exact ⟨_, tx, by omega, k H3 _ k3 A3 rfl⟩
    · rw [if_pos (by rw [Bool.eq_false_iff.mpr c]; rfl)]
      refine ⟨a, dx, l, ws, m, d, rfl, A2, ?_⟩
      cases b with
      | true =>
        have hb : Rd.here ws n = "-" := of_decide_eq_true eb.symm
        obtain rfl : n + 1 = m := hm
        rw [if_pos hb, if_neg (fun z => c z.1)] at k
        exact BtE.kn k k2
      | false =>
        have hb : ¬ Rd.here ws n = "-" := of_decide_eq_false eb.symm
        obtain rfl : n = m := hm
        rw [if_neg hb, if_neg c] at k
        exact BtE.kn k k2
end

/-! a reader of words: made; conditions joined, terms -/
section
variable {P : Program} {w : World} {K : PySem.W.Frag} {mg : Str → Option Value} {base : Heap}
def Txt.TL (T : Txt K mg w) : List (Addr × Str) := [(T.P_Statements_statement, Lm.lamQ "Statements.statement"), (T.P_Statements_question, Lm.lamQ "Statements.question"), (T.P_Statements_or_of, Lm.lamQ "Statements.or_of"), (T.P_Statements_and_of, Lm.lamQ "Statements.and_of")]
theorem Txt.m_Statements_statement (T : Txt K mg w) : (T.P_Statements_statement, Lm.lamQ "Statements.statement") ∈ T.TL := List.mem_cons_self
theorem Txt.m_Statements_question (T : Txt K mg w) : (T.P_Statements_question, Lm.lamQ "Statements.question") ∈ T.TL := List.mem_cons_of_mem _ List.mem_cons_self
theorem Txt.m_Statements_or_of (T : Txt K mg w) : (T.P_Statements_or_of, Lm.lamQ "Statements.or_of") ∈ T.TL := List.mem_cons_of_mem _ (List.mem_cons_of_mem _ List.mem_cons_self)
theorem Txt.m_Statements_and_of (T : Txt K mg w) : (T.P_Statements_and_of, Lm.lamQ "Statements.and_of") ∈ T.TL := List.mem_cons_of_mem _ (List.mem_cons_of_mem _ (List.mem_cons_of_mem _ List.mem_cons_self))
theorem Txt.u_Statements_statement (T : Txt K mg w) : ∀ p ∈ T.TL, p.1 = T.P_Statements_statement → p.2 = Lm.lamQ "Statements.statement" := Rd.tl_uniq (L := T.TL) T.nPs T.m_Statements_statement
theorem Txt.u_Statements_question (T : Txt K mg w) : ∀ p ∈ T.TL, p.1 = T.P_Statements_question → p.2 = Lm.lamQ "Statements.question" := Rd.tl_uniq (L := T.TL) T.nPs T.m_Statements_question
theorem Txt.u_Statements_or_of (T : Txt K mg w) : ∀ p ∈ T.TL, p.1 = T.P_Statements_or_of → p.2 = Lm.lamQ "Statements.or_of" := Rd.tl_uniq (L := T.TL) T.nPs T.m_Statements_or_of
theorem Txt.u_Statements_and_of (T : Txt K mg w) : ∀ p ∈ T.TL, p.1 = T.P_Statements_and_of → p.2 = Lm.lamQ "Statements.and_of" := Rd.tl_uniq (L := T.TL) T.nPs T.m_Statements_and_of
/-- the makers' tables stand in a ground -/
structure Tabs (T : Txt K mg w) (B : Heap) : Prop where
  t_Statements_statement : TabB B mg T.c_Statements_statement T.P_Statements_statement
  t_Statements_question : TabB B mg T.c_Statements_question T.P_Statements_question
  t_Statements_or_of : TabB B mg T.c_Statements_or_of T.P_Statements_or_of
  t_Statements_and_of : TabB B mg T.c_Statements_and_of T.P_Statements_and_of
theorem Tabs.up {T : Txt K mg w} {B B' : Heap} (t : Tabs T B) (h : ∀ b o, B.get? b = some o → B'.get? b = some o) : Tabs T B' := ⟨Lm.tabB_up t.1 h, Lm.tabB_up t.2 h, Lm.tabB_up t.3 h, Lm.tabB_up t.4 h⟩
def spRInit (TL : List (Addr × Str)) (C : Addr) : Sp := fun vs H Q _ => ∃ (p dx : Addr) (x : Str), vs = [.ref p, .str x] ∧ H p = some (.ins C dx []) ∧ x.length ≤ 50000 ∧ Lm.TabF TL H ∧ ∀ H' l, KeepN [p] H H' → RAt TL C p dx l (Rd.toks x) 0 0 H' → Q .non H'
theorem ok_Reader_init (T : Txt K mg w) : FnOk P w K mg base CX0 4 T.f_Reader_init T.fd_Reader_init ["self", "text"] (spRInit T.TL T.C_Statements) := by
  have G_words_of := ok_words_of (P := P) (base := base) T
  refine T.F_Reader_init.ok sc_Reader_init (fun vs H Q E h => ?_) (fun cdv Ar outer s0 H vs Q E hr h => ?_)
  · obtain ⟨p, dx, x, rfl, _⟩ := h
    rfl
  · obtain ⟨p, dx, x, rfl, hp, hx, tf, k⟩ := h
    have hu := hu_of hr
    have hu64 := hu64_of hr
    refine ⟨_, (pss_cons (ps_fld (pv 0) (pe_call G_words_of (hr.mono (by decide)) rfl T.mg_words_of T.F_words_of.kp T.b_words_of .nil pass0 (pa_cons (pv 1) pa_nil)) rfl)
      (pss_cons (ps_fld (pv 0) pe_int rfl)
      (pss_one (ps_fld (pv 0) pe_int rfl)))), ?_⟩
    rw [show L2.start N_Reader_init [V.ref p, V.str x] = [some (V.ref p), some (V.str x)] from rfl]
    dsimp? only [hp]
    refine ⟨x, rfl, by omega, fun H1 g hg s1 eg => ?_⟩
    have hp1 := s1 _ _ hp
    dsimp? only [hp1]
    have hgp : g ≠ p := fun z => by rw [z, hp] at hg; cases hg
    have tf1 := Rd.tabF_kn tf s1
    refine k _ g (Rd.kn_trans (Rd.kn_same s1) Rd.kn_upd) ⟨upd_same, by rw [upd_ne hgp]; exact eg, Nat.le_trans Rd.toks_len hx, fun w hw => Nat.le_trans (Rd.toks_short x w hw) (by omega), Nat.zero_le _, Rd.tabF_upd tf1 ⟨_, _, _, hp1⟩⟩
def spGoIn (TL : List (Addr × Str)) (C CB : Addr) : Sp := fun vs H Q E => ∃ (a dx l : Addr) (ws : List Str) (k d : Nat), vs = [.ref a] ∧ RAt TL C a dx l ws k d H ∧ (d = 20 → BtE TL CB a H E k) ∧ (d ≠ 20 → ∀ H', KeepN [a] H H' → RAt TL C a dx l ws k (d + 1) H' → Q .non H')
theorem ok_Statements_go_in {TL : List (Addr × Str)} (T : Txt K mg w) : FnOk P w K mg base (L2.CX P w) 4 T.f_Statements_go_in T.fd_Statements_go_in ["self"] (spGoIn TL T.C_Statements T.C_BadText) := by
  have G_Reader_refuse := ok_Reader_refuse (P := P) (base := base) (TL := TL) T
  refine T.F_Statements_go_in.okX sc_Statements_go_in (fun vs H Q E h => ?_) (fun cdv Ar outer s0 H vs Q E hr h => ?_)
  · obtain ⟨a, dx, l, ws, k, d, rfl, _⟩ := h
    rfl
  · obtain ⟨a, dx, l, ws, n, d, rfl, A, k1, k2⟩ := h
    have hu := hu_of hr
    have hu64 := hu64_of hr
    refine ⟨_, (pss_cons (ps_if (pt_cmpR op_eq (pe_fldK K rfl (pv 0) rfl) (pe_glob rfl T.mg_MOST_WITHIN (v := .int 20) ⟨_, rfl⟩) (nomark _)) (pss_one (ps_expr (pe_meth0 (pv 0) T.cl_Statements T.me_Statements_refuse G_Reader_refuse (hr.mono (by decide)) T.b_Reader_refuse .nil (passes_call (takes_of rfl rfl rfl rfl) (fun _ _ _ _ z => z))))) pss_nil)
      (pss_one (ps_fldaug (pv 0) pe_int in_add))), ?_⟩
    rw [show L2.start N_Statements_go_in [V.ref a] = [some (V.ref a)] from rfl]
    have ob := A.ob
    dsimp? only [ob, sFldAug, rAdd]
    by_cases c : d = 20
    · rw [if_pos (by simp [c])]
      exact ⟨a, dx, l, ws, n, d, rfl, A, k1 c⟩
    · rw [if_neg (by simp; omega)]
      exact k2 c _ Rd.kn_upd (A.set (k' := n) (d' := d + 1) A.le)
end

/-! a reader of words: conditions with a word between -/
section
variable {P : Program} {w : World} {K : PySem.W.Frag} {mg : Str → Option Value} {base : Heap}
/-- a lambda that reads -/
def LamR {α : Type} (P : Program) (w : World) (K : PySem.W.Frag) (mg : Str → Option Value) (B : Heap) (TL : List (Addr × Str)) (C CB a dx l : Addr) (ws : List Str) (d : Nat) (dxf : α → Dx) (kk : Nat) (f : Addr) (part : Nat → Rd.R α) (H : Hp) : Prop :=
  ∃ R, Lm.Act0 P w K mg B kk H f R ∧ ∀ (H1 : Hp) (k1 : Nat) (Q1 : VK) (E1 : XK), KeepN [a] H H1 → RAt TL C a dx l ws k1 d H1 → Rd.Post fsStatements TL C CB a dx l ws d dxf (part k1) H1 Q1 E1 → R E1 H1 Q1
def spJoin (P : Program) (w : World) (K : PySem.W.Frag) (mg : Str → Option Value) (B : Heap) (TL : List (Addr × Str)) (C CB : Addr) (kk : Nat) : Sp := fun vs H Q E => ∃ (a dx l f : Addr) (ws : List Str) (k d : Nat) (word : Str) (part : Nat → Rd.R (Bool × Nm.Tr)), vs = [.ref a, .str word, .ref f] ∧ RAt TL C a dx l ws k d H ∧ word ≠ "" ∧
  LamR P w K mg B TL C CB a dx l ws d Rd.dxR kk f part H ∧ Rd.Post fsStatements TL C CB a dx l ws d Rd.dxR (Rd.joined ws word part k) H Q E
/-- between two turns -/
structure JoinI (TL : List (Addr × Str)) (C CB a dx l f : Addr) (ws : List Str) (d : Nat) (word : Str) (part : Nat → Rd.R (Bool × Nm.Tr)) (H0 : Hp) (Q : VK) (E : XK) (m : Nat) (σ : L2.St) (H : Hp) : Prop where
  ex : ∃ (c : Bool) (v : V) (x5 : Option V) (t : Nm.Tr) (k : Nat), σ = [some (.ref a), some (.str word), some (.ref f), some (.str (Rd.sortS c)), some v, x5] ∧ RAt TL C a dx l ws k d H ∧ RX H v t.dx ∧
    (c = true → Rd.Post fsStatements TL C CB a dx l ws d Rd.dxR (Rd.joinLoop ws word part m t k) H Q E) ∧ (c = false → Rd.Post fsStatements TL C CB a dx l ws d Rd.dxR (.ok (false, t) k) H Q E)
  kn : KeepN [a] H0 H
theorem ok_Statements_joined {TL : List (Addr × Str)} {kk : Nat} (h4 : 3 ≤ kk) (T : Txt K mg w) : FnOk P w K mg base (L2.CX P w) (kk + 1) T.f_Statements_joined T.fd_Statements_joined ["self", "word", "part"] (spJoin P w K mg base TL T.C_Statements T.C_BadText kk) := by
  have G_Reader_does_take := ok_Reader_does_take (P := P) (base := base) (TL := TL) T
  have G_Reader_refuse := ok_Reader_refuse (P := P) (base := base) (TL := TL) T
  refine T.F_Statements_joined.okX sc_Statements_joined (fun vs H Q E h => ?_) (fun cdv Ar outer s0 H vs Q E hr h => ?_)
  · obtain ⟨a, dx, l, f, ws, k, d, word, part, rfl, _⟩ := h
    rfl
  · obtain ⟨a, dx, l, f, ws, n, d, word, part, rfl, A, hw, ⟨R, hA, hR⟩, k⟩ := h
    have hu := hu_of hr
    have hu64 := hu64_of hr
    refine ⟨_, (pss_cons (ps_asg (Lm.pe_callA (i := 2) hA (takes_of rfl rfl rfl rfl) (fun _ _ _ _ z => z) (hr.mono (by omega)) rfl (Or.inl rfl)) (pg_tupH (n := 2) rfl (pgs_cons (pg_name (i := 3) sc_Statements_joined.nd rfl (Or.inl rfl)) (pgs_cons (pg_name (i := 4) sc_Statements_joined.nd rfl (Or.inl rfl)) pgs_nil))))
      (pss_cons (ps_while PassesOwn.leaving (PW.pt (pw_and (pt_cmpR op_eq (pv 3) (pe_glob rfl T.mg_COND (v := .str "cond") ⟨_, rfl⟩) (nomark _)) (pw_and1 (pt_val (pe_meth (pv 0) T.cl_Statements T.me_Statements_does_take G_Reader_does_take (hr.mono (by omega)) T.b_Reader_does_take .nil pass0 (pa_cons (pv 1) pa_nil)))))) (pss_cons (ps_asg (Lm.pe_callA (i := 2) hA (takes_of rfl rfl rfl rfl) (fun _ _ _ _ z => z) (hr.mono (by omega)) rfl (Or.inl rfl)) (pg_tupH (n := 2) rfl (pgs_cons (pg_name (i := 3) sc_Statements_joined.nd rfl (Or.inl rfl)) (pgs_cons (pg_name (i := 5) sc_Statements_joined.nd rfl (Or.inl rfl)) pgs_nil))))
        (pss_cons (ps_if (pt_cmpR op_ne (pv 3) (pe_glob rfl T.mg_COND (v := .str "cond") ⟨_, rfl⟩) (nomark _)) (pss_one (ps_expr (pe_meth0 (pv 0) T.cl_Statements T.me_Statements_refuse G_Reader_refuse (hr.mono (by omega)) T.b_Reader_refuse .nil (passes_call (takes_of rfl rfl rfl rfl) (fun _ _ _ _ z => z))))) pss_nil)
        (pss_one (ps_set (i := 4) sc_Statements_joined.nd rfl (Or.inl rfl) (pe_tup (pa_cons (pv 1) (pa_cons (pv 4) (pa_cons (pv 5) pa_nil)))))))))
      (pss_one (ps_ret (pe_tup (pa_cons (pv 3) (pa_cons (pv 4) pa_nil))))))), ?_⟩
    rw [show L2.start N_Statements_joined [V.ref a, V.str word, V.ref f] = [some (V.ref a), some (V.str word), some (V.ref f), none, none, none] from rfl]
    simp? only []
    refine ⟨Lm.KeepF.refl _, hR _ n _ _ Rd.kn_refl A (Rd.Post.bind (f := fun r k1 => if r.1 = true then Rd.joinLoop ws word part (ws.length + 1) r.2 k1 else .ok r k1) k fun r k1 H1 v er kn1 A1 rx q => ?_)⟩
    obtain ⟨p, u, rfl, hp, ru⟩ := Rd.rx_R rx
    simp? only [gTupH, gCons, gNil, gName, hp]
    refine while_n (JoinI TL T.C_Statements T.C_BadText a dx l f ws d word part H Q E) ⟨ws.length + 1, ⟨r.1, u, none, r.2, k1, rfl, A1, ru, fun c => by rw [if_pos c] at q; exact q, fun c => by rw [if_neg (by rw [c]; decide)] at q; obtain ⟨b, t⟩ := r; cases c; exact q⟩, kn1⟩ ?_
    rintro m σ H2 ⟨⟨c, v, x5, t, k2, rfl, A2, rv, q1, q2⟩, kn2⟩
    have ob2 := A2.ob
    dsimp? only [ob2]
    have fin : ∀ H3, KeepN [a] H2 H3 → RAt TL T.C_Statements a dx l ws k2 d H3 → Rd.Post fsStatements TL T.C_Statements T.C_BadText a dx l ws d Rd.dxR (.ok (c, t) k2) H3 Q E → ∀ p, H3 p = none → Q (.ref p) (upd H3 p (.tup [.str (Rd.sortS c), v])) := fun H3 k3 A3 q p hp =>
      q _ (.ref p) (Rd.kn_free Rd.kn_refl hp) (A3.same (same_new hp)) (Rd.rx_mkR (r := (c, t)) upd_same (Rd.RX.kt ((A2.kt k3).trans (Rd.Kt.same (same_new hp))) rv))
    cases c with
    | false =>
      rw [if_neg (by decide)]
      intro p hp
      exact fin H2 Rd.kn_refl A2 (q2 rfl) p hp
    | true =>
      have q1 := q1 rfl
      rw [if_pos (by decide)]
      refine ⟨a, dx, l, ws, k2, d, word, rfl, A2, hw, fun c => ?_, fun c H3 k3 A3 => ?_⟩
      · simp? only []
        intro p hp
        cases m with
        | zero => exact q1.elim
        | succ m =>
          unfold Rd.joinLoop at q1
          rw [if_neg c] at q1
          exact fin H2 Rd.kn_refl A2 q1 p hp
      · simp? only []
        refine wh_n ?_
        cases m with
        | zero => exact q1.elim
        | succ m =>
        unfold Rd.joinLoop at q1
        rw [if_pos c] at q1
        have kn3 := Rd.kn_trans kn2 k3
        refine ⟨Rd.keepF_kn ⟨_, _, _, A.ob⟩ kn3, hR _ _ _ _ kn3 A3 (Rd.Post.bind (f := fun r k1 => if r.1 = true then Rd.joinLoop ws word part m (.node word [t, r.2]) k1 else .err k1) (q1.kn k3) fun r k4 H4 v4 er kn4 A4 rx4 q4 => ?_)⟩
        obtain ⟨p, u, rfl, hp, ru⟩ := Rd.rx_R rx4
        have ob4 := A4.ob
        dsimp? only [gTupH, gCons, gNil, gName, hp, ob4]
        obtain ⟨b, t2⟩ := r
        cases b with
        | false =>
          rw [if_pos (show (!decide (Rd.sortS false = Str.ofString "cond")) = true by decide)]
          exact ⟨a, dx, l, ws, k4, d, rfl, A4, q4⟩
        | true =>
          rw [if_neg (show ¬ (!decide (Rd.sortS true = Str.ofString "cond")) = true by decide)]
          intro p2 hp2
          have A5 := A4.same (same_new (o := HO.tup [V.str word, v, u]) hp2)
          have s5 : Rd.Kt H4 (upd H4 p2 (.tup [V.str word, v, u])) := Rd.Kt.same (same_new hp2)
          have kn5 : KeepN [a] H (upd H4 p2 (.tup [V.str word, v, u])) := Rd.kn_trans (Rd.kn_trans kn3 kn4) (Rd.kn_same (same_new hp2))
          refine ⟨m, Nat.lt_succ_self m, ⟨true, .ref p2, _, .node word [t, t2], k4, rfl, A5, Rd.rx_node3 upd_same (Rd.RX.kt ((A2.kt k3).trans ((A3.kt kn4).trans s5)) rv) (Rd.RX.kt s5 ru), fun _ => ?_, fun z => by cases z⟩, kn5⟩
          exact q4.kn (Rd.kn_free Rd.kn_refl hp2)
end

/-! a reader of words: terms -/
section
variable {P : Program} {w : World} {K : PySem.W.Frag} {mg : Str → Option Value} {base : Heap} {TL : List (Addr × Str)}
def spP {α : Type} (TL : List (Addr × Str)) (C CB : Addr) (dxf : α → Dx) (f : List Str → Nat → Nat → Rd.R α) : Sp := fun vs H Q E => ∃ (a dx l : Addr) (ws : List Str) (k d : Nat), vs = [.ref a] ∧ RAt TL C a dx l ws k d H ∧ Rd.Post fsStatements TL C CB a dx l ws d dxf (f ws k d) H Q E
def spB {α : Type} (TL : List (Addr × Str)) (C CB : Addr) (dxf : α → Dx) (f : List Str → Bool → Nat → Nat → Rd.R α) : Sp := fun vs H Q E => ∃ (a dx l : Addr) (ws : List Str) (k d : Nat) (only : Bool), vs = [.ref a, .bl only] ∧ RAt TL C a dx l ws k d H ∧ Rd.Post fsStatements TL C CB a dx l ws d dxf (f ws only k d) H Q E
variable {L : List Str → Rd.Lv} {n : Nat}
theorem ok_Statements_factor_of (T : Txt K mg w)
    (G_Statements_a_term : FnOk P w K mg base (L2.CX P w) (12 * n + 4) T.f_Statements_a_term T.fd_Statements_a_term ["self"] (spP TL T.C_Statements T.C_BadText Nm.Tr.dx fun ws k d => (L ws).term k d))
    (G_Statements_or_of : FnOk P w K mg base (L2.CX P w) (12 * n + 4) T.f_Statements_or_of T.fd_Statements_or_of ["self"] (spP TL T.C_Statements T.C_BadText Rd.dxR fun ws k d => (L ws).or_ k d)) :
    FnOk P w K mg base (L2.CX P w) (12 * n + 5) T.f_Statements_factor_of T.fd_Statements_factor_of ["self", "only"] (spB TL T.C_Statements T.C_BadText Rd.dxR fun ws only k d => Rd.factor ws (L ws) only k d) := by
  have G_Reader_here := ok_Reader_here (P := P) (base := base) (TL := TL) T
  have G_Reader_taken := ok_Reader_taken (P := P) (base := base) (TL := TL) T
  have G_Reader_does_take := ok_Reader_does_take (P := P) (base := base) (TL := TL) T
  have G_Reader_need := ok_Reader_need (P := P) (base := base) (TL := TL) T
  have G_Reader_next_number := ok_Reader_next_number (P := P) (base := base) (TL := TL) T
  have G_Reader_next_name := ok_Reader_next_name (P := P) (base := base) (TL := TL) T
  have G_Statements_go_in := ok_Statements_go_in (P := P) (base := base) (TL := TL) T
  have G_is_number := ok_is_number (P := P) (base := base) T
  refine T.F_Statements_factor_of.okX sc_Statements_factor_of (fun vs H Q E h => ?_) (fun cdv Ar outer s0 H vs Q E hr h => ?_)
  · obtain ⟨a, dx, l, ws, k, d, only, rfl, _⟩ := h
    rfl
  · obtain ⟨a, dx, l, ws, k, d, only, rfl, A, q⟩ := h
    have hu := hu_of hr
    have hu64 := hu64_of hr
    refine ⟨_, (pss_cons (ps_if (pt_cmpR op_eq (pe_meth0 (pv 0) T.cl_Statements T.me_Statements_here G_Reader_here (hr.mono (by omega)) T.b_Reader_here .nil pass0) pe_str (nomark _)) (pss_cons (ps_expr (pe_meth0 (pv 0) T.cl_Statements T.me_Statements_go_in G_Statements_go_in (hr.mono (by omega)) T.b_Statements_go_in .nil (passes_call (takes_of rfl rfl rfl rfl) (fun _ _ _ _ z => z))))
        (pss_cons (ps_expr (pe_meth0 (pv 0) T.cl_Statements T.me_Statements_taken G_Reader_taken (hr.mono (by omega)) T.b_Reader_taken .nil pass0))
        (Evl.pss_cut (ps_set (i := 2) sc_Statements_factor_of.nd rfl (Or.inl rfl) (pe_ifExp (pt_val (pv 1)) (pe_tup (pa_cons (pe_glob rfl T.mg_TERM (v := .str "term") ⟨_, rfl⟩) (pa_cons (pe_meth0 (pv 0) T.cl_Statements T.me_Statements_a_term G_Statements_a_term (hr.mono (by omega)) T.b_Statements_a_term .nil (passes_call (takes_of rfl rfl rfl rfl) (fun _ _ _ _ z => z))) pa_nil))) (pe_meth0 (pv 0) T.cl_Statements T.me_Statements_or_of G_Statements_or_of (hr.mono (by omega)) T.b_Statements_or_of .nil (passes_call (takes_of rfl rfl rfl rfl) (fun _ _ _ _ z => z)))))
        (pss_cons (ps_expr (pe_meth (pv 0) T.cl_Statements T.me_Statements_need G_Reader_need (hr.mono (by omega)) T.b_Reader_need .nil (passes_call (takes_of rfl rfl rfl rfl) (fun _ _ _ _ z => z)) (pa_cons pe_str pa_nil)))
        (pss_cons (ps_fldaug (pv 0) pe_int in_sub)
        (pss_one (ps_ret (pv 2)))))))) pss_nil)
      (pss_cons (ps_if (PW.pt (pw_or (pt_cmpR op_eq (pe_meth0 (pv 0) T.cl_Statements T.me_Statements_here G_Reader_here (hr.mono (by omega)) T.b_Reader_here .nil pass0) pe_str (nomark _)) (pw_or1 (pt_val (pe_call G_is_number (hr.mono (by omega)) rfl T.mg_is_number T.F_is_number.kp T.b_is_number .nil pass0 (pa_cons (pe_meth0 (pv 0) T.cl_Statements T.me_Statements_here G_Reader_here (hr.mono (by omega)) T.b_Reader_here .nil pass0) pa_nil)))))) (pss_one (ps_ret (pe_tup (pa_cons (pe_glob rfl T.mg_TERM (v := .str "term") ⟨_, rfl⟩) (pa_cons (pe_tup (pa_cons pe_str (pa_cons (pe_meth0 (pv 0) T.cl_Statements T.me_Statements_next_number G_Reader_next_number (hr.mono (by omega)) T.b_Reader_next_number .nil (passes_call (takes_of rfl rfl rfl rfl) (fun _ _ _ _ z => z))) pa_nil))) pa_nil))))) pss_nil)
      (Evl.pss_cut (ps_set (i := 3) sc_Statements_factor_of.nd rfl (Or.inl rfl) (pe_meth0 (pv 0) T.cl_Statements T.me_Statements_next_name G_Reader_next_name (hr.mono (by omega)) T.b_Reader_next_name .nil (passes_call (takes_of rfl rfl rfl rfl) (fun _ _ _ _ z => z))))
      (pss_one (ps_ret (pe_tup (pa_cons (pe_glob rfl T.mg_TERM (v := .str "term") ⟨_, rfl⟩) (pa_cons (pe_ifExp (pt_val (pe_meth (pv 0) T.cl_Statements T.me_Statements_does_take G_Reader_does_take (hr.mono (by omega)) T.b_Reader_does_take .nil pass0 (pa_cons pe_str pa_nil))) (pe_tup (pa_cons pe_str (pa_cons (pv 3) (pa_cons (pe_meth0 (pv 0) T.cl_Statements T.me_Statements_next_name G_Reader_next_name (hr.mono (by omega)) T.b_Reader_next_name .nil (passes_call (takes_of rfl rfl rfl rfl) (fun _ _ _ _ z => z))) pa_nil)))) (pe_tup (pa_cons pe_str (pa_cons pe_str (pa_cons (pv 3) pa_nil))))) pa_nil)))))))), ?_⟩
    rw [show L2.start N_Statements_factor_of [V.ref a, V.bl only] = [some (V.ref a), some (V.bl only), none, none] from rfl]
    have ob := A.ob
    dsimp? only [ob]
    replace q : Rd.Post fsStatements TL T.C_Statements T.C_BadText a dx l ws d Rd.dxR (Rd.factor ws (L ws) only k d) H Q E := q
    unfold Rd.factor at q
    refine ⟨a, dx, l, ws, k, d, rfl, A, ?_⟩
    dsimp? only [ob]
    by_cases c1 : Rd.here ws k = "("
    · rw [if_pos (decide_eq_true c1)]
      rw [if_pos c1] at q
      refine ⟨a, dx, l, ws, k, d, rfl, A, fun c2 => ?_, fun c2 H1 k1 A1 => ?_⟩
      · rw [if_pos c2] at q
        exact q
      · rw [if_neg c2] at q
        have ob1 := A1.ob
        dsimp? only [ob1]
        refine ⟨a, dx, l, ws, k, d + 1, rfl, A1, Rd.here_lt (fun z => by rw [z] at c1; exact absurd c1 (by decide)), fun H2 k2 A2 => ?_⟩
        simp? only []
        have kn2 := Rd.kn_trans k1 k2
        replace q := q.kn kn2
        refine ⟨fun σ' H3 => ∃ (r : Bool × Nm.Tr) (v : V) (k' : Nat), σ' = [some (.ref a), some (.bl only), some v, none] ∧ KeepN [a] H2 H3 ∧ RAt TL T.C_Statements a dx l ws k' (d + 1) H3 ∧ RX H3 v (Rd.dxR r) ∧ Rd.Post fsStatements TL T.C_Statements T.C_BadText a dx l ws d Rd.dxR ((Rd.need ws ")" k').bind fun _ k2 => .ok r k2) H3 Q E, ?_, ?_⟩
        · have ob2 := A2.ob
          cases only with
          | true =>
            rw [if_pos rfl] at q
            dsimp? only [ob2]
            rw [Rd.R.map_bind] at q
            refine ⟨a, dx, l, ws, k + 1, d + 1, rfl, A2, Rd.Post.bind (d' := d + 1) (f := fun t k' => (Rd.need ws ")" k').bind fun _ k2 => .ok (false, t) k2) q fun t k' H3 v er kn3 A3 rx q3 p hp => ?_⟩
            have s3 := same_new (o := HO.tup [V.str "term", v]) hp
            exact ⟨Rd.kn_trans kn3 (Rd.kn_same s3), (false, t), k', A3.same s3, Rd.rx_mkR (r := (false, t)) upd_same (RX.same s3 rx), q3.kn (Rd.kn_same s3)⟩
          | false =>
            rw [if_neg (by decide)] at q
            dsimp? only [ob2]
            exact ⟨a, dx, l, ws, k + 1, d + 1, rfl, A2, Rd.Post.bind (d' := d + 1) q fun r k' H3 v er kn3 A3 rx q3 => ⟨kn3, r, k', A3, rx, q3⟩⟩
        · rintro σ' H3 ⟨r, v, k', rfl, kn3, A3, rx, q3⟩
          have ob3 := A3.ob
          dsimp? only [ob3, sFldAug, rAdd]
          refine ⟨a, dx, l, ws, k', d + 1, _, rfl, A3, by decide, Rd.Post.bind (d' := d + 1) q3 fun u k2 H4 v4 er kn4 A4 rx4 q4 => ?_⟩
          have ob4 := A4.ob
          dsimp? only [ob4, rSub]
          have A5 := A4.set (k' := k2) (d' := d) A4.le
          refine q4 _ _ Rd.kn_upd ?_ (Rd.RX.kt ((A3.kt kn4).trans (A4.kt Rd.kn_upd)) rx)
          rw [show ((d + 1 : Nat) : Int) - 1 = ((d : Nat) : Int) by omega]
          exact A5
    · rw [if_neg (fun z => c1 (of_decide_eq_true z))]
      rw [if_neg c1] at q
      refine ⟨a, dx, l, ws, k, d, rfl, A, ?_⟩
      dsimp? only [ob]
      have num : ∀ H1, RAt TL T.C_Statements a dx l ws k d H1 → Rd.Post fsStatements TL T.C_Statements T.C_BadText a dx l ws d Rd.dxR ((Rd.nextNumber ws k).map fun n => (false, .num n)) H1 Q E →
          spNumR TL T.C_Statements T.C_BadText [.ref a] H1 (fun x H1 => ∀ p : Addr, H1 p = none → ∀ p1 : Addr, upd H1 p (.tup [.str "num", x]) p1 = none → Q (.ref p1) (upd (upd H1 p (.tup [.str "num", x])) p1 (.tup [.str "term", .ref p]))) E := fun H1 A1 q1 =>
        ⟨a, dx, l, ws, k, d, rfl, A1, Rd.Post.map (d' := d) q1 fun n k2 H2 v er kn2 A2 rx q2 p hp p1 hp1 => by
          obtain rfl : v = .int n := rx
          have s2 := (same_new (o := HO.tup [V.str "num", .int n]) hp).trans (same_new (o := HO.tup [V.str "term", .ref p]) hp1)
          have e : upd (upd H2 p (.tup [.str "num", .int n])) p1 (.tup [.str "term", .ref p]) p = some (.tup [.str "num", .int n]) := same_new hp1 _ _ upd_same
          exact q2 _ _ (Rd.kn_same s2) (A2.same s2) (Rd.rx_mkR (r := (false, .num n)) upd_same (Rd.rx_num e))⟩
      by_cases c2 : Rd.here ws k = "-"
      · rw [if_pos (decide_eq_true c2)]
        rw [if_pos (.inl c2)] at q
        exact num H A q
      · rw [if_neg (fun z => c2 (of_decide_eq_true z))]
        refine ⟨a, dx, l, ws, k, d, rfl, A, ?_⟩
        refine ⟨_, rfl, A.here_ok, fun H1 s1 => ⟨_, rfl, ?_⟩⟩
        have A1 := A.same s1
        have ob1 := A1.ob
        by_cases c3 : Rd.isNumber (Rd.here ws k) = true
        · rw [if_pos c3]
          rw [if_pos (.inr c3)] at q
          dsimp? only [ob1]
          exact num H1 A1 (q.kn (Rd.kn_same s1))
        · rw [if_neg c3]
          rw [if_neg (fun z => z.elim c2 c3)] at q
          replace q := q.kn (Rd.kn_same s1)
          refine ⟨fun σ' H2 => ∃ (name : Str) (k1 : Nat), σ' = [some (.ref a), some (.bl only), none, some (.str name)] ∧ KeepN [a] H1 H2 ∧ RAt TL T.C_Statements a dx l ws k1 d H2 ∧ Rd.Post fsStatements TL T.C_Statements T.C_BadText a dx l ws d Rd.dxR (if Rd.here ws k1 = "." then (Rd.nextName ws (k1 + 1)).map fun f => (false, .fld name f) else .ok (false, .fld "" name) k1) H2 Q E, ?_, ?_⟩
          · dsimp? only [ob1]
            exact ⟨a, dx, l, ws, k, d, rfl, A1, Rd.Post.bind (d' := d) q fun name k1 H2 v er kn2 A2 rx q2 => ⟨name, rx, kn2, k1, A2, q2⟩⟩
          · rintro σ' H2 ⟨name, k1, rfl, kn2, A2, q2⟩
            have ob2 := A2.ob
            dsimp? only [ob2]
            have fin : ∀ (t f : Str) (k3 : Nat) (H3 : Hp), RAt TL T.C_Statements a dx l ws k3 d H3 → Rd.Post fsStatements TL T.C_Statements T.C_BadText a dx l ws d Rd.dxR (.ok (false, .fld t f) k3) H3 Q E → ∀ p : Addr, H3 p = none → ∀ p1 : Addr, upd H3 p (.tup [.str "field", .str t, .str f]) p1 = none →
                Q (.ref p1) (upd (upd H3 p (.tup [.str "field", .str t, .str f])) p1 (.tup [.str "term", .ref p])) := fun t f k3 H3 A3 q3 p hp p1 hp1 => by
              have s2 := (same_new (o := HO.tup [V.str "field", .str t, .str f]) hp).trans (same_new (o := HO.tup [V.str "term", .ref p]) hp1)
              have e : upd (upd H3 p (.tup [.str "field", .str t, .str f])) p1 (.tup [.str "term", .ref p]) p = some (.tup [.str "field", .str t, .str f]) := same_new hp1 _ _ upd_same
              exact q3 _ _ (Rd.kn_same s2) (A3.same s2) (Rd.rx_mkR (r := (false, .fld t f)) upd_same (Rd.rx_fld e))
            refine ⟨a, dx, l, ws, k1, d, _, rfl, A2, by decide, fun c => ⟨_, rfl, ?_⟩, fun c H3 kn3 A3 => ⟨_, rfl, ?_⟩⟩
            · rw [if_neg c] at q2
              exact fin _ _ _ _ A2 q2
            · rw [if_pos c] at q2
              have ob3 := A3.ob
              dsimp? only [ob3]
              refine ⟨a, dx, l, ws, k1 + 1, d, rfl, A3, Rd.Post.map (d' := d) (q2.kn kn3) fun f k4 H4 v er kn4 A4 rx4 q4 => ?_⟩
              obtain rfl : v = .str f := rx4
              exact fin _ _ _ _ A4 q4
end

/-! a reader of words: products, sums, comparisons, nots -/
section
variable {P : Program} {w : World} {K : PySem.W.Frag} {mg : Str → Option Value} {base : Heap} {TL : List (Addr × Str)}
/-- between two turns: the sort, what is found -/
structure TermI (TL : List (Addr × Str)) (C CB a dx l : Addr) (ws : List Str) (d : Nat) (mk : V → V → L2.St → Prop) (F : Nat → Nm.Tr → Nat → Rd.R (Bool × Nm.Tr)) (H0 : Hp) (Q : VK) (E : XK) (m : Nat) (σ : L2.St) (H : Hp) : Prop where
  ex : ∃ (c : Bool) (v : V) (t : Nm.Tr) (k : Nat), mk (.str (Rd.sortS c)) v σ ∧ RAt TL C a dx l ws k d H ∧ RX H v t.dx ∧
    (c = false → Rd.Post fsStatements TL C CB a dx l ws d Rd.dxR (F m t k) H Q E) ∧ (c = true → Rd.Post fsStatements TL C CB a dx l ws d Rd.dxR (.ok (true, t) k) H Q E)
  kn : KeepN [a] H0 H
/-- (sort, found) told -/
theorem tell_R {C CB a dx l : Addr} {ws : List Str} {d : Nat} {c : Bool} {t : Nm.Tr} {k : Nat} {v : V} {H2 H3 : Hp} {Q : VK} {E : XK} (A2 : RAt TL C a dx l ws k d H2) (rv : RX H2 v t.dx) (k3 : KeepN [a] H2 H3) (A3 : RAt TL C a dx l ws k d H3) (q : Rd.Post fsStatements TL C CB a dx l ws d Rd.dxR (.ok (c, t) k) H3 Q E) :
    ∀ p, H3 p = none → Q (.ref p) (upd H3 p (.tup [.str (Rd.sortS c), v])) := fun p hp =>
  q _ (.ref p) (Rd.kn_free Rd.kn_refl hp) (A3.same (same_new hp)) (Rd.rx_mkR (r := (c, t)) upd_same (Rd.RX.kt ((A2.kt k3).trans (Rd.Kt.same (same_new hp))) rv))
variable {L : List Str → Rd.Lv} {n : Nat}
theorem ok_Statements_product_of (T : Txt K mg w)
    (G_Statements_factor_of : FnOk P w K mg base (L2.CX P w) (12 * n + 5) T.f_Statements_factor_of T.fd_Statements_factor_of ["self", "only"] (spB TL T.C_Statements T.C_BadText Rd.dxR fun ws only k d => Rd.factor ws (L ws) only k d)) :
    FnOk P w K mg base (L2.CX P w) (12 * n + 6) T.f_Statements_product_of T.fd_Statements_product_of ["self", "only"] (spB TL T.C_Statements T.C_BadText Rd.dxR fun ws only k d => Rd.product ws (L ws) only k d) := by
  have G_Reader_here := ok_Reader_here (P := P) (base := base) (TL := TL) T
  have G_Reader_taken := ok_Reader_taken (P := P) (base := base) (TL := TL) T
  refine T.F_Statements_product_of.okX sc_Statements_product_of (fun vs H Q E h => ?_) (fun cdv Ar outer s0 H vs Q E hr h => ?_)
  · obtain ⟨a, dx, l, ws, k, d, only, rfl, _⟩ := h
    rfl
  · obtain ⟨a, dx, l, ws, k, d, only, rfl, A, q⟩ := h
    have hu := hu_of hr
    have hu64 := hu64_of hr
    refine ⟨_, (pss_cons (ps_asg (pe_meth (pv 0) T.cl_Statements T.me_Statements_factor_of G_Statements_factor_of (hr.mono (by omega)) T.b_Statements_factor_of .nil (passes_call (takes_of rfl rfl rfl rfl) (fun _ _ _ _ z => z)) (pa_cons (pv 1) pa_nil)) (pg_tupH (n := 2) rfl (pgs_cons (pg_name (i := 2) sc_Statements_product_of.nd rfl (Or.inl rfl)) (pgs_cons (pg_name (i := 3) sc_Statements_product_of.nd rfl (Or.inl rfl)) pgs_nil))))
      (pss_cons (ps_while PassesOwn.leaving (PW.pt (pw_and (pt_cmpR op_eq (pv 2) (pe_glob rfl T.mg_TERM (v := .str "term") ⟨_, rfl⟩) (nomark _)) (pw_and1 (pt_cmpR op_eq (pe_meth0 (pv 0) T.cl_Statements T.me_Statements_here G_Reader_here (hr.mono (by omega)) T.b_Reader_here .nil pass0) pe_str (nomark _))))) (pss_cons (ps_expr (pe_meth0 (pv 0) T.cl_Statements T.me_Statements_taken G_Reader_taken (hr.mono (by omega)) T.b_Reader_taken .nil pass0))
        (pss_one (ps_set (i := 3) sc_Statements_product_of.nd rfl (Or.inl rfl) (pe_tup (pa_cons pe_str (pa_cons (pv 3) (pa_cons (pe_ix ix_tp (pe_meth (pv 0) T.cl_Statements T.me_Statements_factor_of G_Statements_factor_of (hr.mono (by omega)) T.b_Statements_factor_of .nil (passes_call (takes_of rfl rfl rfl rfl) (fun _ _ _ _ z => z)) (pa_cons pe_bl pa_nil)) pe_int (fun _ _ => rfl)) pa_nil))))))))
      (pss_one (ps_ret (pe_tup (pa_cons (pv 2) (pa_cons (pv 3) pa_nil))))))), ?_⟩
    rw [show L2.start N_Statements_product_of [V.ref a, V.bl only] = [some (V.ref a), some (V.bl only), none, none] from rfl]
    have ob := A.ob
    dsimp? only [ob]
    replace q : Rd.Post fsStatements TL T.C_Statements T.C_BadText a dx l ws d Rd.dxR (Rd.product ws (L ws) only k d) H Q E := q
    unfold Rd.product at q
    refine ⟨a, dx, l, ws, k, d, only, rfl, A, Rd.Post.bind (d' := d) q fun r k1 H1 v er kn1 A1 rx q1 => ?_⟩
    obtain ⟨p, u, rfl, hp, ru⟩ := Rd.rx_R rx
    simp? only [gTupH, gCons, gNil, gName, hp]
    refine while_n (TermI TL T.C_Statements T.C_BadText a dx l ws d (fun s v σ => σ = [some (.ref a), some (.bl only), some s, some v]) (Rd.prodLoop ws (L ws) d) H Q E) ⟨ws.length + 1, ⟨r.1, u, r.2, k1, rfl, A1, ru, fun c => by rw [if_neg (by rw [c]; decide)] at q1; exact q1, fun c => by rw [if_pos c] at q1; obtain ⟨b, t⟩ := r; cases c; exact q1⟩, kn1⟩ ?_
    rintro m σ H2 ⟨⟨c, v, t, k2, rfl, A2, rv, q1, q2⟩, kn2⟩
    have ob2 := A2.ob
    dsimp? only [ob2]
    cases c with
    | true =>
      rw [if_neg (by decide)]
      exact tell_R A2 rv Rd.kn_refl A2 (q2 rfl)
    | false =>
      have q1 := q1 rfl
      rw [if_pos (by decide)]
      refine ⟨a, dx, l, ws, k2, d, rfl, A2, ?_⟩
      cases m with
      | zero => exact q1.elim
      | succ m =>
      unfold Rd.prodLoop at q1
      dsimp? only [ob2]
      by_cases c1 : Rd.here ws k2 = "*"
      · rw [if_pos (decide_eq_true c1)]
        rw [if_pos c1] at q1
        refine wh_n ?_
        refine ⟨a, dx, l, ws, k2, d, rfl, A2, Rd.here_lt (fun z => by rw [z] at c1; exact absurd c1 (by decide)), fun H3 k3 A3 => ?_⟩
        have ob3 := A3.ob
        dsimp? only [ob3]
        refine ⟨a, dx, l, ws, k2 + 1, d, true, rfl, A3, Rd.Post.bind (d' := d) (q1.kn k3) fun r k4 H4 v4 er kn4 A4 rx4 q4 => ?_⟩
        obtain ⟨p4, u4, rfl, hp4, ru4⟩ := Rd.rx_R rx4
        simp? only [hp4]
        intro p5 hp5
        have s5 := same_new (o := HO.tup [V.str "*", v, u4]) hp5
        exact ⟨m, Nat.lt_succ_self m, ⟨false, .ref p5, .node "*" [t, r.2], k4, rfl, A4.same s5, Rd.rx_node3 upd_same (Rd.RX.kt ((A2.kt k3).trans ((A3.kt kn4).trans (Rd.Kt.same s5))) rv) (RX.same s5 ru4), fun _ => q4.kn (Rd.kn_same s5), fun z => by cases z⟩, Rd.kn_trans (Rd.kn_trans (Rd.kn_trans kn2 k3) kn4) (Rd.kn_same s5)⟩
      · rw [if_neg (fun z => c1 (of_decide_eq_true z))]
        rw [if_neg c1] at q1
        exact tell_R A2 rv Rd.kn_refl A2 q1
theorem ok_Statements_sum_of (T : Txt K mg w)
    (G_Statements_product_of : FnOk P w K mg base (L2.CX P w) (12 * n + 6) T.f_Statements_product_of T.fd_Statements_product_of ["self", "only"] (spB TL T.C_Statements T.C_BadText Rd.dxR fun ws only k d => Rd.product ws (L ws) only k d)) :
    FnOk P w K mg base (L2.CX P w) (12 * n + 7) T.f_Statements_sum_of T.fd_Statements_sum_of ["self", "only"] (spB TL T.C_Statements T.C_BadText Rd.dxR fun ws only k d => Rd.sum ws (L ws) only k d) := by
  have G_Reader_here := ok_Reader_here (P := P) (base := base) (TL := TL) T
  have G_Reader_taken := ok_Reader_taken (P := P) (base := base) (TL := TL) T
  refine T.F_Statements_sum_of.okX sc_Statements_sum_of (fun vs H Q E h => ?_) (fun cdv Ar outer s0 H vs Q E hr h => ?_)
  · obtain ⟨a, dx, l, ws, k, d, only, rfl, _⟩ := h
    rfl
  · obtain ⟨a, dx, l, ws, k, d, only, rfl, A, q⟩ := h
    have hu := hu_of hr
    have hu64 := hu64_of hr
    refine ⟨_, (pss_cons (ps_asg (pe_meth (pv 0) T.cl_Statements T.me_Statements_product_of G_Statements_product_of (hr.mono (by omega)) T.b_Statements_product_of .nil (passes_call (takes_of rfl rfl rfl rfl) (fun _ _ _ _ z => z)) (pa_cons (pv 1) pa_nil)) (pg_tupH (n := 2) rfl (pgs_cons (pg_name (i := 2) sc_Statements_sum_of.nd rfl (Or.inl rfl)) (pgs_cons (pg_name (i := 3) sc_Statements_sum_of.nd rfl (Or.inl rfl)) pgs_nil))))
      (pss_cons (ps_while PassesOwn.leaving (PW.pt (pw_and (pt_cmpR op_eq (pv 2) (pe_glob rfl T.mg_TERM (v := .str "term") ⟨_, rfl⟩) (nomark _)) (pw_and1 (pt_cmpR op_inT (pe_meth0 (pv 0) T.cl_Statements T.me_Statements_here G_Reader_here (hr.mono (by omega)) T.b_Reader_here .nil pass0) (pe_tup (pa_cons pe_str (pa_cons pe_str pa_nil))) (by rfl))))) (pss_cons (ps_set (i := 4) sc_Statements_sum_of.nd rfl (Or.inl rfl) (pe_meth0 (pv 0) T.cl_Statements T.me_Statements_taken G_Reader_taken (hr.mono (by omega)) T.b_Reader_taken .nil pass0))
        (pss_one (ps_set (i := 3) sc_Statements_sum_of.nd rfl (Or.inl rfl) (pe_tup (pa_cons (pv 4) (pa_cons (pv 3) (pa_cons (pe_ix ix_tp (pe_meth (pv 0) T.cl_Statements T.me_Statements_product_of G_Statements_product_of (hr.mono (by omega)) T.b_Statements_product_of .nil (passes_call (takes_of rfl rfl rfl rfl) (fun _ _ _ _ z => z)) (pa_cons pe_bl pa_nil)) pe_int (fun _ _ => rfl)) pa_nil))))))))
      (pss_one (ps_ret (pe_tup (pa_cons (pv 2) (pa_cons (pv 3) pa_nil))))))), ?_⟩
    rw [show L2.start N_Statements_sum_of [V.ref a, V.bl only] = [some (V.ref a), some (V.bl only), none, none, none] from rfl]
    have ob := A.ob
    dsimp? only [ob]
    replace q : Rd.Post fsStatements TL T.C_Statements T.C_BadText a dx l ws d Rd.dxR (Rd.sum ws (L ws) only k d) H Q E := q
    unfold Rd.sum at q
    refine ⟨a, dx, l, ws, k, d, only, rfl, A, Rd.Post.bind (d' := d) q fun r k1 H1 v er kn1 A1 rx q1 => ?_⟩
    obtain ⟨p, u, rfl, hp, ru⟩ := Rd.rx_R rx
    simp? only [gTupH, gCons, gNil, gName, hp]
    refine while_n (TermI TL T.C_Statements T.C_BadText a dx l ws d (fun s v σ => ∃ x4 : Option V, σ = [some (.ref a), some (.bl only), some s, some v, x4]) (Rd.sumLoop ws (L ws) d) H Q E) ⟨ws.length + 1, ⟨r.1, u, r.2, k1, ⟨none, rfl⟩, A1, ru, fun c => by rw [if_neg (by rw [c]; decide)] at q1; exact q1, fun c => by rw [if_pos c] at q1; obtain ⟨b, t⟩ := r; cases c; exact q1⟩, kn1⟩ ?_
    rintro m σ H2 ⟨⟨c, v, t, k2, ⟨x4, rfl⟩, A2, rv, q1, q2⟩, kn2⟩
    have ob2 := A2.ob
    dsimp? only [ob2]
    cases c with
    | true =>
      rw [if_neg (by decide)]
      exact tell_R A2 rv Rd.kn_refl A2 (q2 rfl)
    | false =>
      have q1 := q1 rfl
      rw [if_pos (by decide)]
      refine ⟨a, dx, l, ws, k2, d, rfl, A2, ?_⟩
      cases m with
      | zero => exact q1.elim
      | succ m =>
      unfold Rd.sumLoop at q1
      dsimp? only [ob2]
      intro p0 hp0
      have s0' := same_new (o := HO.tup [V.str "+", V.str "-"]) hp0
      have A0 := A2.same s0'
      have ob0 := A0.ob
      by_cases c1 : Rd.here ws k2 = "+" ∨ Rd.here ws k2 = "-"
      · rw [if_pos (by rcases c1 with c | c <;> rw [c] <;> decide)]
        rw [if_pos c1] at q1
        refine wh_n ?_
        dsimp? only [ob0]
        refine ⟨a, dx, l, ws, k2, d, rfl, A0, Rd.here_lt (fun z => by rw [z] at c1; exact absurd c1 (by decide)), fun H3 k3 A3 => ?_⟩
        have ob3 := A3.ob
        dsimp? only [ob3]
        have k3' := Rd.kn_trans (Rd.kn_same s0') k3
        refine ⟨a, dx, l, ws, k2 + 1, d, true, rfl, A3, Rd.Post.bind (d' := d) (q1.kn k3') fun r k4 H4 v4 er kn4 A4 rx4 q4 => ?_⟩
        obtain ⟨p4, u4, rfl, hp4, ru4⟩ := Rd.rx_R rx4
        simp? only [hp4]
        intro p5 hp5
        have s5 := same_new (o := HO.tup [V.str (Rd.here ws k2), v, u4]) hp5
        exact ⟨m, Nat.lt_succ_self m, ⟨false, .ref p5, .node (Rd.here ws k2) [t, r.2], k4, ⟨_, rfl⟩, A4.same s5, Rd.rx_node3 upd_same (Rd.RX.kt ((A2.kt k3').trans ((A3.kt kn4).trans (Rd.Kt.same s5))) rv) (RX.same s5 ru4), fun _ => q4.kn (Rd.kn_same s5), fun z => by cases z⟩, Rd.kn_trans (Rd.kn_trans (Rd.kn_trans kn2 k3') kn4) (Rd.kn_same s5)⟩
      · rw [if_neg (fun z => c1 (by rw [Bool.or_eq_true, beq_iff_eq, beq_iff_eq] at z; exact z.imp Eq.symm Eq.symm))]
        rw [if_neg c1] at q1
        exact tell_R A2 rv (Rd.kn_same s0') A0 (q1.kn (Rd.kn_same s0'))
theorem ok_Statements_a_term (T : Txt K mg w)
    (G_Statements_sum_of : FnOk P w K mg base (L2.CX P w) (12 * n + 7) T.f_Statements_sum_of T.fd_Statements_sum_of ["self", "only"] (spB TL T.C_Statements T.C_BadText Rd.dxR fun ws only k d => Rd.sum ws (L ws) only k d)) :
    FnOk P w K mg base (L2.CX P w) (12 * n + 8) T.f_Statements_a_term T.fd_Statements_a_term ["self"] (spP TL T.C_Statements T.C_BadText Nm.Tr.dx fun ws k d => Rd.term ws (L ws) k d) := by
  refine T.F_Statements_a_term.okX sc_Statements_a_term (fun vs H Q E h => ?_) (fun cdv Ar outer s0 H vs Q E hr h => ?_)
  · obtain ⟨a, dx, l, ws, k, d, rfl, _⟩ := h
    rfl
  · obtain ⟨a, dx, l, ws, k, d, rfl, A, q⟩ := h
    have hu := hu_of hr
    have hu64 := hu64_of hr
    refine ⟨_, (pss_cons (ps_asg (pe_meth (pv 0) T.cl_Statements T.me_Statements_sum_of G_Statements_sum_of (hr.mono (by omega)) T.b_Statements_sum_of .nil (passes_call (takes_of rfl rfl rfl rfl) (fun _ _ _ _ z => z)) (pa_cons pe_bl pa_nil)) (pg_tupH (n := 2) rfl (pgs_cons (pg_name (i := 1) sc_Statements_a_term.nd rfl (Or.inl rfl)) (pgs_cons (pg_name (i := 2) sc_Statements_a_term.nd rfl (Or.inl rfl)) pgs_nil))))
      (pss_one (ps_ret (pv 2)))), ?_⟩
    rw [show L2.start N_Statements_a_term [V.ref a] = [some (V.ref a), none, none] from rfl]
    have ob := A.ob
    dsimp? only [ob]
    replace q : Rd.Post fsStatements TL T.C_Statements T.C_BadText a dx l ws d Nm.Tr.dx (Rd.term ws (L ws) k d) H Q E := q
    unfold Rd.term at q
    refine ⟨a, dx, l, ws, k, d, true, rfl, A, Rd.Post.map (d' := d) q fun r k1 H1 v er kn1 A1 rx q1 => ?_⟩
    obtain ⟨p, u, rfl, hp, ru⟩ := Rd.rx_R rx
    simp? only [gTupH, gCons, gNil, gName, hp]
    exact q1 _ _ Rd.kn_refl A1 ru
theorem ok_Statements_compare_of (T : Txt K mg w)
    (G_Statements_sum_of : FnOk P w K mg base (L2.CX P w) (12 * n + 7) T.f_Statements_sum_of T.fd_Statements_sum_of ["self", "only"] (spB TL T.C_Statements T.C_BadText Rd.dxR fun ws only k d => Rd.sum ws (L ws) only k d))
    (G_Statements_a_term : FnOk P w K mg base (L2.CX P w) (12 * n + 8) T.f_Statements_a_term T.fd_Statements_a_term ["self"] (spP TL T.C_Statements T.C_BadText Nm.Tr.dx fun ws k d => Rd.term ws (L ws) k d)) :
    FnOk P w K mg base (L2.CX P w) (12 * n + 9) T.f_Statements_compare_of T.fd_Statements_compare_of ["self"] (spP TL T.C_Statements T.C_BadText Rd.dxR fun ws k d => Rd.compare ws (L ws) k d) := by
  have G_Reader_here := ok_Reader_here (P := P) (base := base) (TL := TL) T
  have G_Reader_taken := ok_Reader_taken (P := P) (base := base) (TL := TL) T
  refine T.F_Statements_compare_of.okX sc_Statements_compare_of (fun vs H Q E h => ?_) (fun cdv Ar outer s0 H vs Q E hr h => ?_)
  · obtain ⟨a, dx, l, ws, k, d, rfl, _⟩ := h
    rfl
  · obtain ⟨a, dx, l, ws, k, d, rfl, A, q⟩ := h
    have hu := hu_of hr
    have hu64 := hu64_of hr
    refine ⟨_, (pss_cons (ps_asg (pe_meth (pv 0) T.cl_Statements T.me_Statements_sum_of G_Statements_sum_of (hr.mono (by omega)) T.b_Statements_sum_of .nil (passes_call (takes_of rfl rfl rfl rfl) (fun _ _ _ _ z => z)) (pa_cons pe_bl pa_nil)) (pg_tupH (n := 2) rfl (pgs_cons (pg_name (i := 1) sc_Statements_compare_of.nd rfl (Or.inl rfl)) (pgs_cons (pg_name (i := 2) sc_Statements_compare_of.nd rfl (Or.inl rfl)) pgs_nil))))
      (pss_cons (ps_if (PW.pt (pw_or (pt_cmpR op_ne (pv 1) (pe_glob rfl T.mg_TERM (v := .str "term") ⟨_, rfl⟩) (nomark _)) (pw_or1 (pt_cmpR (op_notInQ T.D_COMPARING) (pe_meth0 (pv 0) T.cl_Statements T.me_Statements_here G_Reader_here (hr.mono (by omega)) T.b_Reader_here .nil pass0) (pe_glob rfl T.mg_COMPARING (v := .ref T.a_COMPARING) rfl) (by rfl))))) (pss_one (ps_ret (pe_tup (pa_cons (pv 1) (pa_cons (pv 2) pa_nil))))) pss_nil)
      (pss_cons (ps_set (i := 3) sc_Statements_compare_of.nd rfl (Or.inl rfl) (pe_meth0 (pv 0) T.cl_Statements T.me_Statements_taken G_Reader_taken (hr.mono (by omega)) T.b_Reader_taken .nil pass0))
      (pss_one (ps_ret (pe_tup (pa_cons (pe_glob rfl T.mg_COND (v := .str "cond") ⟨_, rfl⟩) (pa_cons (pe_tup (pa_cons (pv 3) (pa_cons (pv 2) (pa_cons (pe_meth0 (pv 0) T.cl_Statements T.me_Statements_a_term G_Statements_a_term (hr.mono (by omega)) T.b_Statements_a_term .nil (passes_call (takes_of rfl rfl rfl rfl) (fun _ _ _ _ z => z))) pa_nil)))) pa_nil)))))))), ?_⟩
    rw [show L2.start N_Statements_compare_of [V.ref a] = [some (V.ref a), none, none, none] from rfl]
    have ob := A.ob
    dsimp? only [ob]
    replace q : Rd.Post fsStatements TL T.C_Statements T.C_BadText a dx l ws d Rd.dxR (Rd.compare ws (L ws) k d) H Q E := q
    unfold Rd.compare at q
    refine ⟨a, dx, l, ws, k, d, false, rfl, A, Rd.Post.bind (d' := d) q fun r k1 H1 v er kn1 A1 rx q1 => ?_⟩
    obtain ⟨p, u, rfl, hp, ru⟩ := Rd.rx_R rx
    have ob1 := A1.ob
    dsimp? only [gTupH, gCons, gNil, gName, hp, ob1]
    obtain ⟨c, t⟩ := r
    cases c with
    | true =>
      rw [if_pos (show (!decide (Rd.sortS true = Str.ofString "term")) = true by decide)]
      rw [if_pos (.inl rfl)] at q1
      exact tell_R A1 ru Rd.kn_refl A1 q1
    | false =>
      rw [if_neg (show ¬ (!decide (Rd.sortS false = Str.ofString "term")) = true by decide)]
      refine ⟨a, dx, l, ws, k1, d, rfl, A1, _, rfl, ?_⟩
      have hm : hasS [Str.ofString "=", Str.ofString "<", Str.ofString ">", Str.ofString "<=", Str.ofString ">="] (Rd.here ws k1) = decide (Rd.here ws k1 ∈ Rd.comparing) := hasS_mem
      rw [hm]
      by_cases c1 : Rd.here ws k1 ∈ Rd.comparing
      · rw [if_neg (by rw [decide_eq_true c1]; decide)]
        rw [if_neg (fun z => z.elim (fun y => by cases y) (fun y => y c1))] at q1
        dsimp? only [ob1]
        refine ⟨a, dx, l, ws, k1, d, rfl, A1, Rd.here_lt (fun z => by rw [z] at c1; exact absurd c1 (by decide)), fun H2 k2 A2 => ?_⟩
        have ob2 := A2.ob
        dsimp? only [ob2]
        refine ⟨a, dx, l, ws, k1 + 1, d, rfl, A2, Rd.Post.map (d' := d) (q1.kn k2) fun t3 k3 H3 v3 er3 kn3 A3 rx3 q3 p3 hp3 p4 hp4 => ?_⟩
        have s3 := same_new (o := HO.tup [V.str (Rd.here ws k1), u, v3]) hp3
        have s4 := same_new (o := HO.tup [V.str "cond", .ref p3]) hp4
        have e3 : upd (upd H3 p3 (.tup [V.str (Rd.here ws k1), u, v3])) p4 (.tup [.str "cond", .ref p3]) p3 = some (.tup [V.str (Rd.here ws k1), u, v3]) := s4 _ _ upd_same
        exact q3 _ _ (Rd.kn_same (s3.trans s4)) (A3.same (s3.trans s4)) (Rd.rx_mkR (r := (true, .node (Rd.here ws k1) [t, t3])) upd_same (Rd.rx_node3 e3 (Rd.RX.kt ((A1.kt k2).trans ((A2.kt kn3).trans (Rd.Kt.same (s3.trans s4)))) ru) (RX.same (s3.trans s4) rx3)))
      · rw [if_pos (by rw [decide_eq_false c1]; rfl)]
        rw [if_pos (.inr c1)] at q1
        exact tell_R A1 ru Rd.kn_refl A1 q1
theorem ok_Statements_not_of (T : Txt K mg w)
    (G_Statements_compare_of : FnOk P w K mg base (L2.CX P w) (12 * n + 9) T.f_Statements_compare_of T.fd_Statements_compare_of ["self"] (spP TL T.C_Statements T.C_BadText Rd.dxR fun ws k d => Rd.compare ws (L ws) k d))
    (G_Statements_not_of : FnOk P w K mg base (L2.CX P w) (12 * n + 4) T.f_Statements_not_of T.fd_Statements_not_of ["self"] (spP TL T.C_Statements T.C_BadText Rd.dxR fun ws k d => (L ws).not_ k d)) :
    FnOk P w K mg base (L2.CX P w) (12 * n + 10) T.f_Statements_not_of T.fd_Statements_not_of ["self"] (spP TL T.C_Statements T.C_BadText Rd.dxR fun ws k d => Rd.not_ ws (L ws) k d) := by
  have G_Reader_here := ok_Reader_here (P := P) (base := base) (TL := TL) T
  have G_Reader_taken := ok_Reader_taken (P := P) (base := base) (TL := TL) T
  have G_Reader_refuse := ok_Reader_refuse (P := P) (base := base) (TL := TL) T
  have G_Statements_go_in := ok_Statements_go_in (P := P) (base := base) (TL := TL) T
  refine T.F_Statements_not_of.okX sc_Statements_not_of (fun vs H Q E h => ?_) (fun cdv Ar outer s0 H vs Q E hr h => ?_)
  · obtain ⟨a, dx, l, ws, k, d, rfl, _⟩ := h
    rfl
  · obtain ⟨a, dx, l, ws, k, d, rfl, A, q⟩ := h
    have hu := hu_of hr
    have hu64 := hu64_of hr
    refine ⟨_, (pss_cons (ps_if (pt_cmpR op_ne (pe_meth0 (pv 0) T.cl_Statements T.me_Statements_here G_Reader_here (hr.mono (by omega)) T.b_Reader_here .nil pass0) pe_str (nomark _)) (pss_one (ps_ret (pe_meth0 (pv 0) T.cl_Statements T.me_Statements_compare_of G_Statements_compare_of (hr.mono (by omega)) T.b_Statements_compare_of .nil (passes_call (takes_of rfl rfl rfl rfl) (fun _ _ _ _ z => z))))) pss_nil)
      (pss_cons (ps_expr (pe_meth0 (pv 0) T.cl_Statements T.me_Statements_go_in G_Statements_go_in (hr.mono (by omega)) T.b_Statements_go_in .nil (passes_call (takes_of rfl rfl rfl rfl) (fun _ _ _ _ z => z))))
      (pss_cons (ps_expr (pe_meth0 (pv 0) T.cl_Statements T.me_Statements_taken G_Reader_taken (hr.mono (by omega)) T.b_Reader_taken .nil pass0))
      (pss_cons (ps_asg (pe_meth0 (pv 0) T.cl_Statements T.me_Statements_not_of G_Statements_not_of (hr.mono (by omega)) T.b_Statements_not_of .nil (passes_call (takes_of rfl rfl rfl rfl) (fun _ _ _ _ z => z))) (pg_tupH (n := 2) rfl (pgs_cons (pg_name (i := 1) sc_Statements_not_of.nd rfl (Or.inl rfl)) (pgs_cons (pg_name (i := 2) sc_Statements_not_of.nd rfl (Or.inl rfl)) pgs_nil))))
      (pss_cons (ps_fldaug (pv 0) pe_int in_sub)
      (pss_cons (ps_if (pt_cmpR op_ne (pv 1) (pe_glob rfl T.mg_COND (v := .str "cond") ⟨_, rfl⟩) (nomark _)) (pss_one (ps_expr (pe_meth0 (pv 0) T.cl_Statements T.me_Statements_refuse G_Reader_refuse (hr.mono (by omega)) T.b_Reader_refuse .nil (passes_call (takes_of rfl rfl rfl rfl) (fun _ _ _ _ z => z))))) pss_nil)
      (pss_one (ps_ret (pe_tup (pa_cons (pe_glob rfl T.mg_COND (v := .str "cond") ⟨_, rfl⟩) (pa_cons (pe_tup (pa_cons pe_str (pa_cons (pv 2) pa_nil))) pa_nil))))))))))), ?_⟩
    rw [show L2.start N_Statements_not_of [V.ref a] = [some (V.ref a), none, none] from rfl]
    have ob := A.ob
    dsimp? only [ob]
    replace q : Rd.Post fsStatements TL T.C_Statements T.C_BadText a dx l ws d Rd.dxR (Rd.not_ ws (L ws) k d) H Q E := q
    unfold Rd.not_ at q
    refine ⟨a, dx, l, ws, k, d, rfl, A, ?_⟩
    dsimp? only [ob]
    by_cases c1 : Rd.here ws k = "not"
    · rw [if_neg (by rw [decide_eq_true c1]; decide)]
      rw [if_neg (fun z => z c1)] at q
      refine ⟨a, dx, l, ws, k, d, rfl, A, fun c2 => ?_, fun c2 H1 k1 A1 => ?_⟩
      · rw [if_pos c2] at q
        exact q
      · rw [if_neg c2] at q
        have ob1 := A1.ob
        dsimp? only [ob1]
        refine ⟨a, dx, l, ws, k, d + 1, rfl, A1, Rd.here_lt (fun z => by rw [z] at c1; exact absurd c1 (by decide)), fun H2 k2 A2 => ?_⟩
        have ob2 := A2.ob
        have kn2 := Rd.kn_trans k1 k2
        dsimp? only [ob2]
        refine ⟨a, dx, l, ws, k + 1, d + 1, rfl, A2, Rd.Post.bind (d' := d + 1) (q.kn kn2) fun r k3 H3 v er kn3 A3 rx q3 => ?_⟩
        obtain ⟨p, u, rfl, hp, ru⟩ := Rd.rx_R rx
        have ob3 := A3.ob
        dsimp? only [gTupH, gCons, gNil, gName, hp, ob3, sFldAug, rSub]
        obtain ⟨c, t⟩ := r
        have A4 := A3.set (k' := k3) (d' := d) A3.le
        rw [show ((d + 1 : Nat) : Int) - 1 = ((d : Nat) : Int) by omega]
        have kn4 : KeepN [a] H3 (upd H3 a (.ins T.C_Statements dx (fsStatements (.ref l) (.int k3) (.int d)))) := Rd.kn_upd
        replace q3 := q3.kn kn4
        cases c with
        | false =>
          rw [if_pos (show (!decide (Rd.sortS false = Str.ofString "cond")) = true by decide)]
          exact ⟨a, dx, l, ws, k3, d, rfl, A4, q3⟩
        | true =>
          rw [if_neg (show ¬ (!decide (Rd.sortS true = Str.ofString "cond")) = true by decide)]
          intro p3 hp3 p4 hp4
          have s3 := same_new (o := HO.tup [V.str "not", u]) hp3
          have s4 := same_new (o := HO.tup [V.str "cond", .ref p3]) hp4
          have e3 := s4 _ _ (upd_same (H := upd H3 a (.ins T.C_Statements dx (fsStatements (.ref l) (.int k3) (.int d)))) (a := p3) (o := HO.tup [V.str "not", u]))
          exact q3 _ _ (Rd.kn_same (s3.trans s4)) (A4.same (s3.trans s4)) (Rd.rx_mkR (r := (true, .node "not" [t])) upd_same (Rd.rx_node2 e3 (Rd.RX.kt ((A3.kt kn4).trans (Rd.Kt.same (s3.trans s4))) ru)))
    · rw [if_pos (by rw [decide_eq_false c1]; rfl)]
      rw [if_pos c1] at q
      exact ⟨a, dx, l, ws, k, d, rfl, A, q⟩
end

/-! a reader of words: ands, ors, conditions -/
section
variable {P : Program} {w : World} {K : PySem.W.Frag} {mg : Str → Option Value} {base : Heap} {L : List Str → Rd.Lv} {n : Nat}
theorem ok_Statements_and_of (T : Txt K mg w) (TBs : Tabs T base)
    (Gx : ∀ B, Tabs T B → FnOk P w K mg B (L2.CX P w) (12 * n + 10) T.f_Statements_not_of T.fd_Statements_not_of ["self"] (spP T.TL T.C_Statements T.C_BadText Rd.dxR fun ws k d => Rd.not_ ws (L ws) k d)) :
    FnOk P w K mg base (L2.CX P w) (12 * n + 13) T.f_Statements_and_of T.fd_Statements_and_of ["self"] (spP T.TL T.C_Statements T.C_BadText Rd.dxR fun ws k d => Rd.and_ ws (L ws) k d) := by
  refine T.F_Statements_and_of.okXL T.hc_Statements_and_of sc_Statements_and_of (fun vs H Q E h => ?_) (fun Ar outer s0 H vs Q E hr h => ?_)
  · obtain ⟨a, dx, l, ws, k, d, rfl, _⟩ := h
    rfl
  · obtain ⟨a, dx, l, ws, k, d, rfl, A, q⟩ := h
    have hu := hu_of hr
    have hu64 := hu64_of hr
    refine ⟨_, (pss_one (ps_ret (Lm.pe_methZ (fun _ _ _ => rfl) (pv 0) T.cl_Statements T.me_Statements_joined (fun B hB => (ok_Statements_joined (base := B) (TL := T.TL) (kk := 12 * n + 11) (by omega) T)) (hr.mono (by omega)) T.b_Statements_joined .nil (passes_call (takes_of rfl rfl rfl rfl) (fun _ _ _ _ z => z)) (pa_cons pe_str (pa_cons (Lm.pe_lamB (k := 12 * n + 10) (T := T.TL) TBs.t_Statements_and_of rfl T.m_Statements_and_of T.u_Statements_and_of (Lm.lamG_by (N := N_Statements_and_of) (sc := defScope s_Statements_and_of) (by decide +kernel)) rfl (fun _ _ _ _ _ _ => rfl) (fun B hB A outer s H E f c' hr => (pe_meth0 (pv 0) T.cl_Statements T.me_Statements_not_of (Gx B (TBs.up hB)) (hr.mono (by omega)) T.b_Statements_not_of .nil (passes_call (takes_of rfl rfl rfl rfl) (fun _ _ _ _ z => z))))) pa_nil))))), ?_⟩
    rw [show L2.start N_Statements_and_of [V.ref a] = [some (V.ref a)] from rfl]
    have ob := A.ob
    dsimp? only [ob, Lm.tMethZ, Lm.tLam]
    refine ⟨A.tab, fun f H1 eN t1 acts B zb => ?_⟩
    have A1 := A.ext eN t1
    exact ⟨a, dx, l, f, ws, k, d, "and", fun k => Rd.not_ ws (L ws) k d, rfl, A1, by decide, ⟨_, acts H1 (Lm.KeepF.refl _) _ B zb, fun H2 k1 Q1 E1 kn2 A2 q2 => ⟨_, rfl, a, rfl, dx, _, A2.ob, noStatements_not_of, a, dx, l, ws, k1, d, rfl, A2, q2⟩⟩, Rd.Post.kn q (Rd.kn_ext eN)⟩
theorem ok_Statements_or_of (T : Txt K mg w) (TBs : Tabs T base)
    (Gx : ∀ B, Tabs T B → FnOk P w K mg B (L2.CX P w) (12 * n + 13) T.f_Statements_and_of T.fd_Statements_and_of ["self"] (spP T.TL T.C_Statements T.C_BadText Rd.dxR fun ws k d => Rd.and_ ws (L ws) k d)) :
    FnOk P w K mg base (L2.CX P w) (12 * n + 16) T.f_Statements_or_of T.fd_Statements_or_of ["self"] (spP T.TL T.C_Statements T.C_BadText Rd.dxR fun ws k d => Rd.or_ ws (L ws) k d) := by
  refine T.F_Statements_or_of.okXL T.hc_Statements_or_of sc_Statements_or_of (fun vs H Q E h => ?_) (fun Ar outer s0 H vs Q E hr h => ?_)
  · obtain ⟨a, dx, l, ws, k, d, rfl, _⟩ := h
    rfl
  · obtain ⟨a, dx, l, ws, k, d, rfl, A, q⟩ := h
    have hu := hu_of hr
    have hu64 := hu64_of hr
    refine ⟨_, (pss_one (ps_ret (Lm.pe_methZ (fun _ _ _ => rfl) (pv 0) T.cl_Statements T.me_Statements_joined (fun B hB => (ok_Statements_joined (base := B) (TL := T.TL) (kk := 12 * n + 14) (by omega) T)) (hr.mono (by omega)) T.b_Statements_joined .nil (passes_call (takes_of rfl rfl rfl rfl) (fun _ _ _ _ z => z)) (pa_cons pe_str (pa_cons (Lm.pe_lamB (k := 12 * n + 13) (T := T.TL) TBs.t_Statements_or_of rfl T.m_Statements_or_of T.u_Statements_or_of (Lm.lamG_by (N := N_Statements_or_of) (sc := defScope s_Statements_or_of) (by decide +kernel)) rfl (fun _ _ _ _ _ _ => rfl) (fun B hB A outer s H E f c' hr => (pe_meth0 (pv 0) T.cl_Statements T.me_Statements_and_of (Gx B (TBs.up hB)) (hr.mono (by omega)) T.b_Statements_and_of .nil (passes_call (takes_of rfl rfl rfl rfl) (fun _ _ _ _ z => z))))) pa_nil))))), ?_⟩
    rw [show L2.start N_Statements_or_of [V.ref a] = [some (V.ref a)] from rfl]
    have ob := A.ob
    dsimp? only [ob, Lm.tMethZ, Lm.tLam]
    refine ⟨A.tab, fun f H1 eN t1 acts B zb => ?_⟩
    have A1 := A.ext eN t1
    exact ⟨a, dx, l, f, ws, k, d, "or", fun k => Rd.and_ ws (L ws) k d, rfl, A1, by decide, ⟨_, acts H1 (Lm.KeepF.refl _) _ B zb, fun H2 k1 Q1 E1 kn2 A2 q2 => ⟨_, rfl, a, rfl, dx, _, A2.ob, noStatements_and_of, a, dx, l, ws, k1, d, rfl, A2, q2⟩⟩, Rd.Post.kn q (Rd.kn_ext eN)⟩
/-- what is read n deep -/
structure Deep (P : Program) (T : Txt K mg w) (n : Nat) (B : Heap) : Prop where
  term : FnOk P w K mg B (L2.CX P w) (12 * n + 4) T.f_Statements_a_term T.fd_Statements_a_term ["self"] (spP T.TL T.C_Statements T.C_BadText Nm.Tr.dx fun ws k d => (Rd.lv ws n).term k d)
  or_ : FnOk P w K mg B (L2.CX P w) (12 * n + 4) T.f_Statements_or_of T.fd_Statements_or_of ["self"] (spP T.TL T.C_Statements T.C_BadText Rd.dxR fun ws k d => (Rd.lv ws n).or_ k d)
  not_ : FnOk P w K mg B (L2.CX P w) (12 * n + 4) T.f_Statements_not_of T.fd_Statements_not_of ["self"] (spP T.TL T.C_Statements T.C_BadText Rd.dxR fun ws k d => (Rd.lv ws n).not_ k d)
theorem deep_0 (T : Txt K mg w) (B : Heap) : Deep P T 0 B :=
  ⟨⟨fun vs H Q E ⟨_, _, _, _, _, _, e, _⟩ => by rw [e]; rfl, fun _ _ _ _ _ _ _ _ _ _ _ _ _ ⟨_, _, _, _, _, _, _, _, q⟩ => q.elim⟩, ⟨fun vs H Q E ⟨_, _, _, _, _, _, e, _⟩ => by rw [e]; rfl, fun _ _ _ _ _ _ _ _ _ _ _ _ _ ⟨_, _, _, _, _, _, _, _, q⟩ => q.elim⟩,
    ⟨fun vs H Q E ⟨_, _, _, _, _, _, e, _⟩ => by rw [e]; rfl, fun _ _ _ _ _ _ _ _ _ _ _ _ _ ⟨_, _, _, _, _, _, _, _, q⟩ => q.elim⟩⟩
theorem deep_term (T : Txt K mg w) {B : Heap} (D : Deep P T n B) : FnOk P w K mg B (L2.CX P w) (12 * n + 8) T.f_Statements_a_term T.fd_Statements_a_term ["self"] (spP T.TL T.C_Statements T.C_BadText Nm.Tr.dx fun ws k d => Rd.term ws (Rd.lv ws n) k d) :=
  ok_Statements_a_term T (ok_Statements_sum_of T (ok_Statements_product_of T (ok_Statements_factor_of (L := fun ws => Rd.lv ws n) T D.term D.or_)))
theorem deep_not (T : Txt K mg w) {B : Heap} (D : Deep P T n B) : FnOk P w K mg B (L2.CX P w) (12 * n + 10) T.f_Statements_not_of T.fd_Statements_not_of ["self"] (spP T.TL T.C_Statements T.C_BadText Rd.dxR fun ws k d => Rd.not_ ws (Rd.lv ws n) k d) :=
  ok_Statements_not_of (L := fun ws => Rd.lv ws n) T (ok_Statements_compare_of T (ok_Statements_sum_of T (ok_Statements_product_of T (ok_Statements_factor_of (L := fun ws => Rd.lv ws n) T D.term D.or_))) (deep_term T D)) D.not_
theorem deep_or (T : Txt K mg w) {B : Heap} (D : ∀ B, Tabs T B → Deep P T n B) (t : Tabs T B) : FnOk P w K mg B (L2.CX P w) (12 * n + 16) T.f_Statements_or_of T.fd_Statements_or_of ["self"] (spP T.TL T.C_Statements T.C_BadText Rd.dxR fun ws k d => Rd.or_ ws (Rd.lv ws n) k d) :=
  ok_Statements_or_of (L := fun ws => Rd.lv ws n) T t fun B' t' => ok_Statements_and_of (L := fun ws => Rd.lv ws n) T t' fun B2 t2 => deep_not T (D B2 t2)
theorem deep_all (T : Txt K mg w) : ∀ n B, Tabs T B → Deep P T n B
  | 0, B, _ => deep_0 T B
  | n + 1, B, t => ⟨(deep_term T (deep_all T n B t)).mono (by omega), (deep_or T (deep_all T n) t).mono (by omega), (deep_not T (deep_all T n B t)).mono (by omega)⟩
end

/-! a reader of words: where, one_set, some -/
section
variable {P : Program} {w : World} {K : PySem.W.Frag} {mg : Str → Option Value} {base : Heap} {n : Nat}
def spQ {α : Type} (TL : List (Addr × Str)) (C CB : Addr) (dxf : α → Dx) (f : List Str → Nat → Rd.R α) : Sp := fun vs H Q E => ∃ (a dx l : Addr) (ws : List Str) (k : Nat), vs = [.ref a] ∧ RAt TL C a dx l ws k 0 H ∧ Rd.Post fsStatements TL C CB a dx l ws 0 dxf (f ws k) H Q E
theorem ok_Statements_a_cond (T : Txt K mg w)
    (G_Statements_or_of : FnOk P w K mg base (L2.CX P w) (12 * n + 16) T.f_Statements_or_of T.fd_Statements_or_of ["self"] (spP T.TL T.C_Statements T.C_BadText Rd.dxR fun ws k d => Rd.or_ ws (Rd.lv ws n) k d)) :
    FnOk P w K mg base (L2.CX P w) (12 * n + 17) T.f_Statements_a_cond T.fd_Statements_a_cond ["self"] (spP T.TL T.C_Statements T.C_BadText Nm.Tr.dx fun ws k d => Rd.cond ws (Rd.lv ws n) k d) := by
  have G_Reader_refuse := ok_Reader_refuse (P := P) (base := base) (TL := T.TL) T
  refine T.F_Statements_a_cond.okX sc_Statements_a_cond (fun vs H Q E h => ?_) (fun cdv Ar outer s0 H vs Q E hr h => ?_)
  · obtain ⟨a, dx, l, ws, k, d, rfl, _⟩ := h
    rfl
  · obtain ⟨a, dx, l, ws, k, d, rfl, A, q⟩ := h
    have hu := hu_of hr
    have hu64 := hu64_of hr
    refine ⟨_, (pss_cons (ps_asg (pe_meth0 (pv 0) T.cl_Statements T.me_Statements_or_of G_Statements_or_of (hr.mono (by omega)) T.b_Statements_or_of .nil (passes_call (takes_of rfl rfl rfl rfl) (fun _ _ _ _ z => z))) (pg_tupH (n := 2) rfl (pgs_cons (pg_name (i := 1) sc_Statements_a_cond.nd rfl (Or.inl rfl)) (pgs_cons (pg_name (i := 2) sc_Statements_a_cond.nd rfl (Or.inl rfl)) pgs_nil))))
      (pss_cons (ps_if (pt_cmpR op_ne (pv 1) (pe_glob rfl T.mg_COND (v := .str "cond") ⟨_, rfl⟩) (nomark _)) (pss_one (ps_expr (pe_meth0 (pv 0) T.cl_Statements T.me_Statements_refuse G_Reader_refuse (hr.mono (by omega)) T.b_Reader_refuse .nil (passes_call (takes_of rfl rfl rfl rfl) (fun _ _ _ _ z => z))))) pss_nil)
      (pss_one (ps_ret (pv 2))))), ?_⟩
    rw [show L2.start N_Statements_a_cond [V.ref a] = [some (V.ref a), none, none] from rfl]
    have ob := A.ob
    dsimp? only [ob]
    replace q : Rd.Post fsStatements T.TL T.C_Statements T.C_BadText a dx l ws d Nm.Tr.dx (Rd.cond ws (Rd.lv ws n) k d) H Q E := q
    unfold Rd.cond at q
    refine ⟨a, dx, l, ws, k, d, rfl, A, Rd.Post.bind (d' := d) q fun r k1 H1 v er kn1 A1 rx q1 => ?_⟩
    obtain ⟨p, u, rfl, hp, ru⟩ := Rd.rx_R rx
    have ob1 := A1.ob
    dsimp? only [gTupH, gCons, gNil, gName, hp, ob1]
    obtain ⟨c, t⟩ := r
    cases c with
    | true =>
      rw [if_neg (show ¬ (!decide (Rd.sortS true = Str.ofString "cond")) = true by decide)]
      exact q1 _ _ Rd.kn_refl A1 ru
    | false =>
      rw [if_pos (show (!decide (Rd.sortS false = Str.ofString "cond")) = true by decide)]
      exact ⟨a, dx, l, ws, k1, d, rfl, A1, q1⟩
theorem ok_Statements_where (T : Txt K mg w)
    (G_Statements_a_cond : FnOk P w K mg base (L2.CX P w) (12 * n + 17) T.f_Statements_a_cond T.fd_Statements_a_cond ["self"] (spP T.TL T.C_Statements T.C_BadText Nm.Tr.dx fun ws k d => Rd.cond ws (Rd.lv ws n) k d)) :
    FnOk P w K mg base (L2.CX P w) (12 * n + 18) T.f_Statements_where T.fd_Statements_where ["self"] (spQ T.TL T.C_Statements T.C_BadText Nm.dxO fun ws k => Rd.where_ ws (Rd.lv ws n) k) := by
  have G_Reader_does_take := ok_Reader_does_take (P := P) (base := base) (TL := T.TL) T
  refine T.F_Statements_where.okX sc_Statements_where (fun vs H Q E h => ?_) (fun cdv Ar outer s0 H vs Q E hr h => ?_)
  · obtain ⟨a, dx, l, ws, k, rfl, _⟩ := h
    rfl
  · obtain ⟨a, dx, l, ws, k, rfl, A, q⟩ := h
    have hu := hu_of hr
    have hu64 := hu64_of hr
    refine ⟨_, (pss_one (ps_ret (pe_ifExp (pt_val (pe_meth (pv 0) T.cl_Statements T.me_Statements_does_take G_Reader_does_take (hr.mono (by omega)) T.b_Reader_does_take .nil pass0 (pa_cons pe_str pa_nil))) (pe_meth0 (pv 0) T.cl_Statements T.me_Statements_a_cond G_Statements_a_cond (hr.mono (by omega)) T.b_Statements_a_cond .nil (passes_call (takes_of rfl rfl rfl rfl) (fun _ _ _ _ z => z))) pe_non))), ?_⟩
    rw [show L2.start N_Statements_where [V.ref a] = [some (V.ref a)] from rfl]
    have ob := A.ob
    dsimp? only [ob]
    replace q : Rd.Post fsStatements T.TL T.C_Statements T.C_BadText a dx l ws 0 Nm.dxO (Rd.where_ ws (Rd.lv ws n) k) H Q E := q
    unfold Rd.where_ at q
    refine ⟨a, dx, l, ws, k, 0, _, rfl, A, by decide, fun c => ⟨_, rfl, ?_⟩, fun c H1 kn1 A1 => ⟨_, rfl, ?_⟩⟩
    · rw [if_neg c] at q
      rw [if_neg (by decide)]
      exact q _ _ Rd.kn_refl A rfl
    · rw [if_pos c] at q
      rw [if_pos rfl]
      have ob1 := A1.ob
      dsimp? only [ob1]
      exact ⟨a, dx, l, ws, k + 1, 0, rfl, A1, Rd.Post.map (d' := 0) (q.kn kn1) fun t k2 H2 v er kn2 A2 rx q2 => q2 _ _ Rd.kn_refl A2 rx⟩
theorem ok_Statements_one_set (T : Txt K mg w)
    (G_Statements_a_term : FnOk P w K mg base (L2.CX P w) (12 * n + 8) T.f_Statements_a_term T.fd_Statements_a_term ["self"] (spP T.TL T.C_Statements T.C_BadText Nm.Tr.dx fun ws k d => Rd.term ws (Rd.lv ws n) k d)) :
    FnOk P w K mg base (L2.CX P w) (12 * n + 9) T.f_Statements_one_set T.fd_Statements_one_set ["self"] (spQ T.TL T.C_Statements T.C_BadText Nm.dxP fun ws k => Rd.oneSet ws (Rd.lv ws n) k) := by
  have G_Reader_next_name := ok_Reader_next_name (P := P) (base := base) (TL := T.TL) T
  have G_Reader_need := ok_Reader_need (P := P) (base := base) (TL := T.TL) T
  refine T.F_Statements_one_set.okX sc_Statements_one_set (fun vs H Q E h => ?_) (fun cdv Ar outer s0 H vs Q E hr h => ?_)
  · obtain ⟨a, dx, l, ws, k, rfl, _⟩ := h
    rfl
  · obtain ⟨a, dx, l, ws, k, rfl, A, q⟩ := h
    have hu := hu_of hr
    have hu64 := hu64_of hr
    refine ⟨_, (pss_cons (ps_set (i := 1) sc_Statements_one_set.nd rfl (Or.inl rfl) (pe_meth0 (pv 0) T.cl_Statements T.me_Statements_next_name G_Reader_next_name (hr.mono (by omega)) T.b_Reader_next_name .nil (passes_call (takes_of rfl rfl rfl rfl) (fun _ _ _ _ z => z))))
      (pss_cons (ps_expr (pe_meth (pv 0) T.cl_Statements T.me_Statements_need G_Reader_need (hr.mono (by omega)) T.b_Reader_need .nil (passes_call (takes_of rfl rfl rfl rfl) (fun _ _ _ _ z => z)) (pa_cons pe_str pa_nil)))
      (pss_one (ps_ret (pe_tup (pa_cons (pv 1) (pa_cons (pe_meth0 (pv 0) T.cl_Statements T.me_Statements_a_term G_Statements_a_term (hr.mono (by omega)) T.b_Statements_a_term .nil (passes_call (takes_of rfl rfl rfl rfl) (fun _ _ _ _ z => z))) pa_nil))))))), ?_⟩
    rw [show L2.start N_Statements_one_set [V.ref a] = [some (V.ref a), none] from rfl]
    have ob := A.ob
    dsimp? only [ob]
    replace q : Rd.Post fsStatements T.TL T.C_Statements T.C_BadText a dx l ws 0 Nm.dxP (Rd.oneSet ws (Rd.lv ws n) k) H Q E := q
    unfold Rd.oneSet at q
    refine ⟨a, dx, l, ws, k, 0, rfl, A, Rd.Post.bind (d' := 0) q fun f k1 H1 v er kn1 A1 rx q1 => ?_⟩
    obtain rfl : v = .str f := rx
    have ob1 := A1.ob
    dsimp? only [ob1]
    refine ⟨a, dx, l, ws, k1, 0, _, rfl, A1, by decide, Rd.Post.bind (d' := 0) q1 fun u k2 H2 v er kn2 A2 rx q2 => ?_⟩
    have ob2 := A2.ob
    dsimp? only [ob2]
    refine ⟨a, dx, l, ws, k2, 0, rfl, A2, Rd.Post.map (d' := 0) q2 fun t k3 H3 v3 er kn3 A3 rx3 q3 p hp => ?_⟩
    have s3 := same_new (o := HO.tup [V.str f, v3]) hp
    refine q3 _ _ (Rd.kn_same s3) (A3.same s3) ?_
    unfold Nm.dxP
    simp only [RX, RXs]
    exact ⟨p, _, rfl, .inl upd_same, rfl, RX.same s3 rx3, trivial⟩
end

/-! a reader of words: several, with , between -/
section
variable {P : Program} {w : World} {K : PySem.W.Frag} {mg : Str → Option Value} {base : Heap} {TL : List (Addr × Str)}
def spSomeR (P : Program) (w : World) (K : PySem.W.Frag) (mg : Str → Option Value) (B : Heap) (TL : List (Addr × Str)) (C CB : Addr) (kk : Nat) : Sp := fun vs H Q E => ∃ (α : Type) (dxf : α → Dx) (a dx l f : Addr) (ws : List Str) (k most : Nat) (one : Nat → Rd.R α), vs = [.ref a, .ref f, .int most] ∧ RAt TL C a dx l ws k 0 H ∧ (∀ x, (dxf x).noL) ∧ 1 ≤ most ∧ most ≤ 20 ∧
  LamR P w K mg B TL C CB a dx l ws 0 dxf kk f one H ∧ Rd.Post fsStatements TL C CB a dx l ws 0 (fun xs => .tup (xs.map dxf)) (Rd.some_ ws one most k) H Q E
structure SomeI {α : Type} (dxf : α → Dx) (TL : List (Addr × Str)) (C CB a dx l f D : Addr) (ws : List Str) (most : Nat) (one : Nat → Rd.R α) (H0 : Hp) (Q : VK) (E : XK) (m : Nat) (σ : L2.St) (H : Hp) : Prop where
  ex : ∃ (xs : List α) (us : List V) (k : Nat), RAt TL C a dx l ws k 0 H ∧ H D = some (.lst us) ∧ RXs H us (xs.map dxf) ∧ xs.length + m = most ∧ Rd.Post fsStatements TL C CB a dx l ws 0 (fun xs => .tup (xs.map dxf)) (Rd.someLoop ws one m xs k) H0 Q E
  st : σ = [some (.ref a), some (.ref f), some (.int most), some (.ref D)]
  kn : KeepN [a] H0 H
theorem ok_Statements_some {kk : Nat} (h4 : 3 ≤ kk) (T : Txt K mg w) : FnOk P w K mg base (L2.CX P w) (kk + 1) T.f_Statements_some T.fd_Statements_some ["self", "one", "most"] (spSomeR P w K mg base TL T.C_Statements T.C_BadText kk) := by
  have G_Reader_does_take := ok_Reader_does_take (P := P) (base := base) (TL := TL) T
  refine T.F_Statements_some.okX sc_Statements_some (fun vs H Q E h => ?_) (fun cdv Ar outer s0 H vs Q E hr h => ?_)
  · obtain ⟨α, dxf, a, dx, l, f, ws, k, most, one, rfl, _⟩ := h
    rfl
  · obtain ⟨α, dxf, a, dx, l, f, ws, k, most, one, rfl, A, hL, hm1, hm2, ⟨R, hA, hR⟩, q⟩ := h
    have hu := hu_of hr
    have hu64 := hu64_of hr
    refine ⟨_, (Evl.pss_cut (ps_set (i := 3) sc_Statements_some.nd rfl (Or.inl rfl) (pe_lst (pa_cons (Lm.pe_callA (i := 1) hA (takes_of rfl rfl rfl rfl) (fun _ _ _ _ z => z) (hr.mono (by omega)) rfl (Or.inl rfl)) pa_nil)))
      (pss_cons (ps_while PassesOwn.leaving (PW.pt (pw_and (pt_cmpR op_lt (pe_callB len_lst (by rfl) T.n_len PySem.boot_len (pa_cons (pv 3) pa_nil)) (pv 2) (nomark _)) (pw_and1 (pt_val (pe_meth (pv 0) T.cl_Statements T.me_Statements_does_take G_Reader_does_take (hr.mono (by omega)) T.b_Reader_does_take .nil pass0 (pa_cons pe_str pa_nil)))))) (pss_one (ps_expr (pe_bm PySem.F.plainAttrs_list PySem.F.slot_list_append PySem.F.type_list_append mt_append (pv 3) (pa_cons (Lm.pe_callA (i := 1) hA (takes_of rfl rfl rfl rfl) (fun _ _ _ _ z => z) (hr.mono (by omega)) rfl (Or.inl rfl)) pa_nil)))))
      (pss_one (ps_ret (pe_callTy tuple_lst (by rfl) T.n_tuple (by decide +kernel) (pa_cons (pv 3) pa_nil)))))), ?_⟩
    rw [show L2.start N_Statements_some [V.ref a, V.ref f, V.int most] = [some (V.ref a), some (V.ref f), some (V.int most), none] from rfl]
    unfold Rd.some_ at q
    refine ⟨fun σ' H1 => ∃ D, Rd.NewN H D ∧ SomeI dxf TL T.C_Statements T.C_BadText a dx l f D ws most one H Q E (most - 1) σ' H1, ?_, ?_⟩
    · simp? only []
      refine ⟨Lm.KeepF.refl _, hR _ _ _ _ Rd.kn_refl A (Rd.Post.bind (d' := 0) q fun x k1 H1 v er kn1 A1 rx q1 D hD => ?_)⟩
      have s1 := same_new (o := HO.lst [v]) hD
      have A2 := A1.same s1
      refine ⟨D, Rd.NewN.of kn1 ⟨_, A1.ob⟩ hD, ⟨[x], [v], k1, A2, upd_same, ⟨RX.same s1 rx, trivial⟩, by simp; omega, ?_⟩, rfl, Rd.kn_trans kn1 (Rd.kn_same s1)⟩
      rw [er] at q
      exact q
    rintro σ' H1 ⟨D, hD, S⟩
    obtain rfl := S.st
    simp? only []
    refine while_n (fun m σ H2 => SomeI dxf TL T.C_Statements T.C_BadText a dx l f D ws most one H Q E m σ H2) ⟨_, S⟩ ?_
    rintro m σ H2 ⟨⟨xs, us, k2, A2, eD, rxs, hm, q2⟩, rfl, kn2⟩
    have ob2 := A2.ob
    have ul := rxs.len
    rw [List.length_map] at ul
    dsimp? only [ob2, eD]
    have fin : ∀ H3, H3 D = some (.lst us) → KeepN [a] H H3 → RAt TL T.C_Statements a dx l ws k2 0 H3 → RXs H3 us (xs.map dxf) → Rd.Post fsStatements TL T.C_Statements T.C_BadText a dx l ws 0 (fun xs => .tup (xs.map dxf)) (.ok xs k2) H Q E → ∀ p : Addr, H3 p = none → Q (.ref p) (upd H3 p (.tup us)) := fun H3 e3 k3 A3 r3 q3 p hp => by
      have s4 := same_new (o := HO.tup us) hp
      refine q3 _ _ (Rd.kn_trans k3 (Rd.kn_same s4)) (A3.same s4) ?_
      simp only [RX]
      exact ⟨p, us, rfl, .inl upd_same, RXs.same s4 r3⟩
    cases m with
    | zero =>
      rw [if_neg (by simp; omega)]
      exact fin H2 eD kn2 A2 rxs q2
    | succ m =>
    rw [if_pos (by simp; omega)]
    unfold Rd.someLoop at q2
    refine ⟨a, dx, l, ws, k2, 0, _, rfl, A2, by decide, fun c => ⟨_, rfl, ?_⟩, fun c H3 k3 A3 => ⟨_, rfl, ?_⟩⟩
    · rw [if_neg c] at q2
      rw [if_neg (by decide)]
      refine ⟨us, by rw [eD]; rfl, fin H2 eD kn2 A2 rxs q2⟩
    · rw [if_pos c] at q2
      rw [if_pos rfl]
      refine wh_n ?_
      have nDa : D ≠ a := fun z => by rw [z, A2.ob] at eD; cases eD
      have eD3 := k3 D _ (by simpa using nDa) (by intro _ z; cases z) eD
      have kn3 := Rd.kn_trans kn2 k3
      refine ⟨by rw [tyV_list (by rw [eD3]; exact fun z => nomatch z)]; trivial, Rd.keepF_kn ⟨_, _, _, A.ob⟩ kn3, hR _ _ _ _ kn3 A3 (Rd.Post.bind (d' := 0) (q2.kn kn3) fun x k4 H4 v er kn4 A4 rx q4 => ?_)⟩
      have eD4 := kn4 D _ (by simpa using nDa) (by intro _ z; cases z) eD3
      refine ⟨us, eD4, szl' (by omega), ?_⟩
      have nDl : D ≠ l := fun z => hD (.lst (ws.map V.str)) (by intro _ z; cases z) (by rw [z]; exact A.wl)
      · have A5 := A4.upd (o' := .lst (us ++ [v])) eD4 nDa nDl id (by intro _ z; cases z)
        have st : Std H4 (upd H4 D (.lst (us ++ [v]))) := Rd.std_upd eD4
        have r4 : RXs H4 us (xs.map dxf) := Rd.RXs.kt ((A2.kt k3).trans (A3.kt kn4)) rxs
        refine ⟨m, Nat.lt_succ_self m, ⟨xs ++ [x], us ++ [v], k4, A5, upd_same, ?_, by rw [List.length_append]; simp; omega, ?_⟩, rfl, Rd.kn_updN (Rd.kn_trans kn3 kn4) hD⟩
        · rw [List.map_append]
          exact Rd.rxs_app (RXs.std st (noLL_all.mpr fun d hd => by obtain ⟨y, _, rfl⟩ := List.mem_map.mp hd; exact hL y) r4) ⟨RX.std st (hL x) rx, trivial⟩
        · rw [er] at q2
          exact q2
end

/-! a reader of words: questions -/
section
variable {P : Program} {w : World} {K : PySem.W.Frag} {mg : Str → Option Value} {base : Heap} {n : Nat}
def spAskR (TL : List (Addr × Str)) (C CB : Addr) (n : Nat) : Sp := fun vs H Q E => ∃ (a dx l : Addr) (ws : List Str) (k : Nat), vs = [.ref a] ∧ RAt TL C a dx l ws k 0 H ∧ Rd.here ws k ∈ (["pick", "count", "sum", "least", "most"] : List Str) ∧ Rd.Post fsStatements TL C CB a dx l ws 0 Nm.Sm.dx (Rd.question ws (Rd.lv ws n) k) H Q E
/-- behind the terms -/
structure AskT (TL : List (Addr × Str)) (C CB a dx l : Addr) (ws : List Str) (n : Nat) (how : Str) (H0 : Hp) (Q : VK) (E : XK) (σ : L2.St) (H : Hp) : Prop where
  ex : ∃ (tm : List Nm.Tr) (tv : V) (k : Nat), σ = [some (.ref a), some (.str how), some tv, none, none, none, none] ∧ RAt TL C a dx l ws k 0 H ∧ RX H tv (.tup (tm.map Nm.Tr.dx)) ∧ Rd.Post fsStatements TL C CB a dx l ws 0 Nm.Sm.dx (Rd.askD ws (Rd.lv ws n) how tm k) H0 Q E
  kn : KeepN [a] H0 H
/-- behind each table -/
structure AskU (TL : List (Addr × Str)) (C CB a dx l : Addr) (ws : List Str) (n : Nat) (how : Str) (D : Addr) (tm : List Nm.Tr) (tv : V) (H0 : Hp) (Q : VK) (E : XK) (m : Nat) (σ : L2.St) (H : Hp) : Prop where
  ex : ∃ (ts : List Str) (k : Nat), RAt TL C a dx l ws k 0 H ∧ H D = some (.lst (ts.map V.str)) ∧ ts.length + m = 3 ∧ Rd.Post fsStatements TL C CB a dx l ws 0 Nm.Sm.dx ((Rd.tabsLoop ws m ts k).bind fun ts k4 => Rd.askC ws (Rd.lv ws n) how tm ts k4) H0 Q E
  st : σ = [some (.ref a), some (.str how), some tv, some (.ref D), none, none, none]
  tv : RX H tv (.tup (tm.map Nm.Tr.dx))
  kn : KeepN [a] H0 H
/-- behind the tables; the condition (b1); what is by, and first (b2) -/
structure AskV (TL : List (Addr × Str)) (C CB a dx l : Addr) (ws : List Str) (r : List Nm.Tr → List Str → Option Nm.Tr → List Nm.Tr → OI → Nat → Rd.R Nm.Sm) (how : Str) (b1 b2 : Bool) (H0 : Hp) (Q : VK) (E : XK) (σ : L2.St) (H : Hp) : Prop where
  ex : ∃ (tm : List Nm.Tr) (ts : List Str) (c : Option Nm.Tr) (bys : List Nm.Tr) (first : OI) (k : Nat) (tv : V) (D : Addr) (cv bv fv : Option V), σ = [some (.ref a), some (.str how), some tv, some (.ref D), cv, bv, fv] ∧ RAt TL C a dx l ws k 0 H ∧ H D = some (.lst (ts.map V.str)) ∧ ts.length ≤ 3 ∧ RX H tv (.tup (tm.map Nm.Tr.dx)) ∧
    (b1 = true → ∃ v, cv = some v ∧ RX H v (Nm.dxO c)) ∧ (b2 = true → ∃ b, bv = some b ∧ RX H b (.tup (bys.map Nm.Tr.dx)) ∧ fv = some (oi first)) ∧ (b2 = false → bv = none ∧ fv = none) ∧ Rd.Post fsStatements TL C CB a dx l ws 0 Nm.Sm.dx (r tm ts c bys first k) H0 Q E
  kn : KeepN [a] H0 H
theorem ok_Statements_question (T : Txt K mg w) (TBs : Tabs T base)
    (Gx : ∀ B, Tabs T B → FnOk P w K mg B (L2.CX P w) (12 * n + 8) T.f_Statements_a_term T.fd_Statements_a_term ["self"] (spP T.TL T.C_Statements T.C_BadText Nm.Tr.dx fun ws k d => Rd.term ws (Rd.lv ws n) k d))
    (G_Statements_where : FnOk P w K mg base (L2.CX P w) (12 * n + 18) T.f_Statements_where T.fd_Statements_where ["self"] (spQ T.TL T.C_Statements T.C_BadText Nm.dxO fun ws k => Rd.where_ ws (Rd.lv ws n) k)) :
    FnOk P w K mg base (L2.CX P w) (12 * n + 19) T.f_Statements_question T.fd_Statements_question ["self"] (spAskR T.TL T.C_Statements T.C_BadText n) := by
  have G_Statements_a_term := Gx base TBs
  have G_Reader_here := ok_Reader_here (P := P) (base := base) (TL := T.TL) T
  have G_Reader_taken := ok_Reader_taken (P := P) (base := base) (TL := T.TL) T
  have G_Reader_refuse := ok_Reader_refuse (P := P) (base := base) (TL := T.TL) T
  have G_Reader_need := ok_Reader_need (P := P) (base := base) (TL := T.TL) T
  have G_Reader_does_take := ok_Reader_does_take (P := P) (base := base) (TL := T.TL) T
  have G_Reader_next_name := ok_Reader_next_name (P := P) (base := base) (TL := T.TL) T
  have G_Reader_next_number := ok_Reader_next_number (P := P) (base := base) (TL := T.TL) T
  have G_is_number := ok_is_number (P := P) (base := base) T
  refine T.F_Statements_question.okXL T.hc_Statements_question sc_Statements_question (fun vs H Q E h => ?_) (fun Ar outer s0 H vs Q E hr h => ?_)
  · obtain ⟨a, dx, l, ws, k, rfl, _⟩ := h
    rfl
  · obtain ⟨a, dx, l, ws, k, rfl, A, hk, q⟩ := h
    have hu := hu_of hr
    have hu64 := hu64_of hr
    refine ⟨_, (pss_cons (ps_set (i := 1) sc_Statements_question.nd rfl (Or.inl rfl) (pe_meth0 (pv 0) T.cl_Statements T.me_Statements_taken G_Reader_taken (hr.mono (by omega)) T.b_Reader_taken .nil pass0))
      (pss_cons (ps_set (i := 2) sc_Statements_question.nd rfl (Or.inl rfl) (pe_tup pa_nil))
      (Evl.pss_cut (ps_if (pt_cmpR op_eq (pv 1) pe_str (nomark _)) (pss_one (ps_set (i := 2) sc_Statements_question.nd rfl (Or.inl rfl) (Lm.pe_methZ (fun _ _ _ => rfl) (pv 0) T.cl_Statements T.me_Statements_some (fun B hB => (ok_Statements_some (base := B) (TL := T.TL) (kk := 12 * n + 9) (by omega) T)) (hr.mono (by omega)) T.b_Statements_some .nil (passes_call (takes_of rfl rfl rfl rfl) (fun _ _ _ _ z => z)) (pa_cons (Lm.pe_lamB (k := 12 * n + 8) (T := T.TL) TBs.t_Statements_question rfl T.m_Statements_question T.u_Statements_question (Lm.lamG_by (N := N_Statements_question) (sc := defScope s_Statements_question) (by decide +kernel)) rfl (fun _ _ _ _ _ _ => rfl) (fun B hB A outer s H E f c' hr => (pe_meth0 (pv 0) T.cl_Statements T.me_Statements_a_term (Gx B (TBs.up hB)) (hr.mono (by omega)) T.b_Statements_a_term .nil (passes_call (takes_of rfl rfl rfl rfl) (fun _ _ _ _ z => z))))) (pa_cons (pe_glob rfl T.mg_MOST_TERMS (v := .int 6) ⟨_, rfl⟩) pa_nil))))) (pss_one (ps_if (pt_cmpR (op_inQ T.D_SUMMING) (pv 1) (pe_glob rfl T.mg_SUMMING (v := .ref T.a_SUMMING) rfl) (by rfl)) (pss_one (ps_set (i := 2) sc_Statements_question.nd rfl (Or.inl rfl) (pe_tup (pa_cons (pe_meth0 (pv 0) T.cl_Statements T.me_Statements_a_term G_Statements_a_term (hr.mono (by omega)) T.b_Statements_a_term .nil (passes_call (takes_of rfl rfl rfl rfl) (fun _ _ _ _ z => z))) pa_nil)))) pss_nil)))
      (pss_cons (ps_expr (pe_meth (pv 0) T.cl_Statements T.me_Statements_need G_Reader_need (hr.mono (by omega)) T.b_Reader_need .nil (passes_call (takes_of rfl rfl rfl rfl) (fun _ _ _ _ z => z)) (pa_cons pe_str pa_nil)))
      (Evl.pss_cut (ps_set (i := 3) sc_Statements_question.nd rfl (Or.inl rfl) (pe_lst (pa_cons (pe_meth0 (pv 0) T.cl_Statements T.me_Statements_next_name G_Reader_next_name (hr.mono (by omega)) T.b_Reader_next_name .nil (passes_call (takes_of rfl rfl rfl rfl) (fun _ _ _ _ z => z))) pa_nil)))
      (Evl.pss_cut (ps_while PassesOwn.leaving (PW.pt (pw_and (pt_cmpR op_lt (pe_callB len_lst (by rfl) T.n_len PySem.boot_len (pa_cons (pv 3) pa_nil)) (pe_glob rfl T.mg_MOST_TABLES (v := .int 3) ⟨_, rfl⟩) (nomark _)) (pw_and1 (pt_val (pe_meth (pv 0) T.cl_Statements T.me_Statements_does_take G_Reader_does_take (hr.mono (by omega)) T.b_Reader_does_take .nil pass0 (pa_cons pe_str pa_nil)))))) (pss_one (ps_expr (pe_bm PySem.F.plainAttrs_list PySem.F.slot_list_append PySem.F.type_list_append mt_append (pv 3) (pa_cons (pe_meth0 (pv 0) T.cl_Statements T.me_Statements_next_name G_Reader_next_name (hr.mono (by omega)) T.b_Reader_next_name .nil (passes_call (takes_of rfl rfl rfl rfl) (fun _ _ _ _ z => z))) pa_nil)))))
      (Evl.pss_cut (ps_set (i := 4) sc_Statements_question.nd rfl (Or.inl rfl) (pe_meth0 (pv 0) T.cl_Statements T.me_Statements_where G_Statements_where (hr.mono (by omega)) T.b_Statements_where .nil (passes_call (takes_of rfl rfl rfl rfl) (fun _ _ _ _ z => z))))
      (pss_cons (ps_asg (pe_tup (pa_cons (pe_tup pa_nil) (pa_cons pe_non pa_nil))) (pg_tupH (n := 2) rfl (pgs_cons (pg_name (i := 5) sc_Statements_question.nd rfl (Or.inl rfl)) (pgs_cons (pg_name (i := 6) sc_Statements_question.nd rfl (Or.inl rfl)) pgs_nil))))
      (Evl.pss_cut (ps_if (PW.pt (pw_and (pt_cmpR op_eq (pv 1) pe_str (nomark _)) (pw_and1 (pt_val (pe_meth (pv 0) T.cl_Statements T.me_Statements_does_take G_Reader_does_take (hr.mono (by omega)) T.b_Reader_does_take .nil pass0 (pa_cons pe_str pa_nil)))))) (pss_one (ps_set (i := 5) sc_Statements_question.nd rfl (Or.inl rfl) (Lm.pe_methZ (fun _ _ _ => rfl) (pv 0) T.cl_Statements T.me_Statements_some (fun B hB => (ok_Statements_some (base := B) (TL := T.TL) (kk := 12 * n + 9) (by omega) T)) (hr.mono (by omega)) T.b_Statements_some .nil (passes_call (takes_of rfl rfl rfl rfl) (fun _ _ _ _ z => z)) (pa_cons (Lm.pe_lamB (k := 12 * n + 8) (T := T.TL) TBs.t_Statements_question rfl T.m_Statements_question T.u_Statements_question (Lm.lamG_by (N := N_Statements_question) (sc := defScope s_Statements_question) (by decide +kernel)) rfl (fun _ _ _ _ _ _ => rfl) (fun B hB A outer s H E f c' hr => (pe_meth0 (pv 0) T.cl_Statements T.me_Statements_a_term (Gx B (TBs.up hB)) (hr.mono (by omega)) T.b_Statements_a_term .nil (passes_call (takes_of rfl rfl rfl rfl) (fun _ _ _ _ z => z))))) (pa_cons (pe_glob rfl T.mg_MOST_BY (v := .int 3) ⟨_, rfl⟩) pa_nil))))) pss_nil)
      (Evl.pss_cut (ps_if (PW.pt (pw_and (pt_cmpR op_eq (pv 1) pe_str (nomark _)) (pw_and1 (pt_val (pe_meth (pv 0) T.cl_Statements T.me_Statements_does_take G_Reader_does_take (hr.mono (by omega)) T.b_Reader_does_take .nil pass0 (pa_cons pe_str pa_nil)))))) (pss_cons (ps_if (pt_not (pt_val (pe_call G_is_number (hr.mono (by omega)) rfl T.mg_is_number T.F_is_number.kp T.b_is_number .nil pass0 (pa_cons (pe_meth0 (pv 0) T.cl_Statements T.me_Statements_here G_Reader_here (hr.mono (by omega)) T.b_Reader_here .nil pass0) pa_nil)))) (pss_one (ps_expr (pe_meth0 (pv 0) T.cl_Statements T.me_Statements_refuse G_Reader_refuse (hr.mono (by omega)) T.b_Reader_refuse .nil (passes_call (takes_of rfl rfl rfl rfl) (fun _ _ _ _ z => z))))) pss_nil)
        (pss_one (ps_set (i := 6) sc_Statements_question.nd rfl (Or.inl rfl) (pe_meth0 (pv 0) T.cl_Statements T.me_Statements_next_number G_Reader_next_number (hr.mono (by omega)) T.b_Reader_next_number .nil (passes_call (takes_of rfl rfl rfl rfl) (fun _ _ _ _ z => z)))))) pss_nil)
      (pss_one (ps_ret (pe_tup (pa_cons pe_str (pa_cons (pv 1) (pa_cons (pv 2) (pa_cons (pe_callTy tuple_lst (by rfl) T.n_tuple (by decide +kernel) (pa_cons (pv 3) pa_nil)) (pa_cons (pv 4) (pa_cons (pv 5) (pa_cons (pv 6) pa_nil)))))))))))))))))))), ?_⟩
    rw [show L2.start N_Statements_question [V.ref a] = [some (V.ref a), none, none, none, none, none, none] from rfl]
    have ob := A.ob
    dsimp? only [ob]
    refine ⟨a, dx, l, ws, k, 0, rfl, A, Rd.here_lt (fun z => by rw [z] at hk; exact absurd hk (by decide)), fun H1 kn1 A1 p hp => ?_⟩
    have q : Rd.Post fsStatements T.TL T.C_Statements T.C_BadText a dx l ws 0 Nm.Sm.dx (Rd.question ws (Rd.lv ws n) k) H Q E := q
    unfold Rd.question at q
    generalize Rd.here ws k = how at hk q ⊢
    have s1 := same_new (o := HO.tup []) hp
    have kn2 := Rd.kn_trans kn1 (Rd.kn_same s1)
    have A2 := A1.same s1
    refine ⟨AskT T.TL T.C_Statements T.C_BadText a dx l ws n how H Q E, ?_, ?_⟩
    · have ob2 := A2.ob
      dsimp? only [ob2, Lm.tMethZ, Lm.tLam]
      have done : ∀ (tm : List Nm.Tr) (k1 : Nat) (H2 : Hp) (tv : V), Rd.askT ws (Rd.lv ws n) how (k + 1) = .ok tm k1 → KeepN [a] H H2 → RAt T.TL T.C_Statements a dx l ws k1 0 H2 → RX H2 tv (.tup (tm.map Nm.Tr.dx)) → AskT T.TL T.C_Statements T.C_BadText a dx l ws n how H Q E [some (.ref a), some (.str how), some tv, none, none, none, none] H2 := fun tm k1 H2 tv e kn A r => by
        rw [e] at q
        exact ⟨⟨tm, tv, k1, rfl, A, r, q⟩, kn⟩
      by_cases c1 : how = "pick"
      · rw [if_pos (decide_eq_true c1)]
        refine ⟨A2.tab, fun f H3 eN t3 acts B zb => ?_⟩
        have A3 := A2.ext eN t3
        have kn3 := Rd.kn_trans kn2 (Rd.kn_ext eN)
        have e : Rd.askT ws (Rd.lv ws n) how (k + 1) = Rd.some_ ws (fun k => Rd.term ws (Rd.lv ws n) k 0) 6 (k + 1) := by unfold Rd.askT; rw [if_pos c1]
        refine ⟨Nm.Tr, Nm.Tr.dx, a, dx, l, f, ws, k + 1, 6, fun k => Rd.term ws (Rd.lv ws n) k 0, rfl, A3, fun t => Nm.trNoL t, by decide, by decide, ⟨_, acts H3 (Lm.KeepF.refl _) _ B zb, fun H4 k4 Q4 E4 kn4 A4 q4 => ⟨_, rfl, a, rfl, dx, _, A4.ob, noStatements_a_term, a, dx, l, ws, k4, 0, rfl, A4, q4⟩⟩, ?_⟩
        rw [← e]
        exact Rd.Post.bind (d' := 0) (q.kn kn3) fun tm k1 H4 v er kn4 A4 rx _ => done tm k1 H4 v er (Rd.kn_trans kn3 kn4) A4 rx
      · rw [if_neg (fun z => c1 (of_decide_eq_true z))]
        by_cases c2 : how = "count"
        · have e : Rd.askT ws (Rd.lv ws n) how (k + 1) = .ok [] (k + 1) := by unfold Rd.askT; rw [if_neg c1, if_pos c2]
          rw [if_neg (by rw [c2]; decide)]
          refine done [] (k + 1) _ _ e kn2 A2 ?_
          simp only [RX]
          exact ⟨p, [], rfl, .inl upd_same, trivial⟩
        · have e : Rd.askT ws (Rd.lv ws n) how (k + 1) = (Rd.term ws (Rd.lv ws n) (k + 1) 0).map fun t => [t] := by unfold Rd.askT; rw [if_neg c1, if_neg c2]
          rw [if_pos (by
            rw [hasS_mem]
            simp only [List.mem_cons, List.not_mem_nil, or_false, decide_eq_true_eq] at hk ⊢
            exact (hk.resolve_left c1).resolve_left c2)]
          have q' := q.kn kn2
          rw [e, Rd.R.map_bind] at q'
          refine ⟨a, dx, l, ws, k + 1, 0, rfl, A2, Rd.Post.bind (d' := 0) q' fun t k1 H4 v er kn4 A4 rx _ p4 hp4 => ?_⟩
          have s4 := same_new (o := HO.tup [v]) hp4
          refine done [t] k1 _ _ (by rw [e, show Rd.term ws (Rd.lv ws n) (k + 1) 0 = _ from er]; rfl) (Rd.kn_trans (Rd.kn_trans kn2 kn4) (Rd.kn_same s4)) (A4.same s4) ?_
          simp only [RX, RXs, List.map_cons, List.map_nil]
          exact ⟨p4, [v], rfl, .inl upd_same, RX.same s4 rx, trivial⟩
    rintro σ' H3 ⟨⟨tm, tv, k3, rfl, A3, r3, q3⟩, kn3⟩
    have ob3 := A3.ob
    dsimp? only [ob3]
    unfold Rd.askD at q3
    refine ⟨a, dx, l, ws, k3, 0, _, rfl, A3, by decide, Rd.Post.bind (d' := 0) (q3.kn kn3) fun u k4 H4 v4 e4 kn4 A4 r4 _ => ?_⟩
    rw [e4] at q3
    replace q3 : Rd.Post fsStatements T.TL T.C_Statements T.C_BadText a dx l ws 0 Nm.Sm.dx ((Rd.nextName ws k4).bind fun t k3 => (Rd.tabsLoop ws 2 [t] k3).bind fun ts k4 => Rd.askC ws (Rd.lv ws n) how tm ts k4) H Q E := q3
    have r3' := Rd.RX.kt (A3.kt kn4) r3
    have kn4' := Rd.kn_trans kn3 kn4
    have ob4 := A4.ob
    refine ⟨fun σ' H5 => ∃ D, Rd.NewN H D ∧ AskU T.TL T.C_Statements T.C_BadText a dx l ws n how D tm tv H Q E 2 σ' H5, ?_, ?_⟩
    · dsimp? only [ob4]
      refine ⟨a, dx, l, ws, k4, 0, rfl, A4, Rd.Post.bind (d' := 0) (q3.kn kn4') fun t k5 H5 v5 e5 kn5 A5 r5 _ D hD => ?_⟩
      obtain rfl : v5 = .str t := r5
      have s5 := same_new (o := HO.lst [V.str t]) hD
      rw [e5] at q3
      have kn5' := Rd.kn_trans kn4' kn5
      exact ⟨D, Rd.NewN.of kn5' ⟨_, A5.ob⟩ hD, ⟨[t], k5, A5.same s5, upd_same, rfl, q3⟩, rfl, RX.same s5 (Rd.RX.kt (A4.kt kn5) r3'), Rd.kn_trans kn5' (Rd.kn_same s5)⟩
    rintro σ' H5 ⟨D, hD, U⟩
    obtain rfl := U.st
    refine ⟨AskV T.TL T.C_Statements T.C_BadText a dx l ws (fun tm ts _ _ _ k => Rd.askC ws (Rd.lv ws n) how tm ts k) how false false H Q E, ?_, ?_⟩
    · simp? only []
      refine while_n (AskU T.TL T.C_Statements T.C_BadText a dx l ws n how D tm tv H Q E) ⟨2, U⟩ ?_
      rintro m σ H6 ⟨⟨ts, k6, A6, eD, hm, q6⟩, rfl, tv6, kn6⟩
      have ob6 := A6.ob
      have fin : Rd.tabsLoop ws m ts k6 = .ok ts k6 → AskV T.TL T.C_Statements T.C_BadText a dx l ws (fun tm ts _ _ _ k => Rd.askC ws (Rd.lv ws n) how tm ts k) how false false H Q E [some (.ref a), some (.str how), some tv, some (.ref D), none, none, none] H6 := fun e => by
        rw [e] at q6
        exact ⟨⟨tm, ts, none, [], none, k6, tv, D, none, none, none, rfl, A6, eD, by omega, tv6, fun z => (nomatch z), fun z => (nomatch z), fun _ => ⟨rfl, rfl⟩, q6⟩, kn6⟩
      dsimp? only [ob6, eD]
      cases m with
      | zero =>
        rw [if_neg (by simp; omega)]
        exact fin rfl
      | succ m =>
      rw [if_pos (by simp; omega)]
      refine ⟨a, dx, l, ws, k6, 0, _, rfl, A6, by decide, fun c => ⟨_, rfl, ?_⟩, fun c H7 kn7 A7 => ⟨_, rfl, ?_⟩⟩
      · rw [if_neg (by decide)]
        exact fin (by unfold Rd.tabsLoop; rw [if_neg c])
      · rw [if_pos rfl]
        refine wh_n ?_
        have nDa : D ≠ a := fun z => by rw [z, A6.ob] at eD; cases eD
        have nDl : D ≠ l := fun z => hD (.lst (ws.map V.str)) (by intro _ z; cases z) (by rw [z]; exact A.wl)
        have eD7 := kn7 D _ (by simpa using nDa) (by intro _ z; cases z) eD
        have ob7 := A7.ob
        have knH7 := Rd.kn_trans kn6 kn7
        unfold Rd.tabsLoop at q6
        rw [if_pos c, Rd.R.bind_bind] at q6
        dsimp? only [ob7]
        refine ⟨by rw [tyV_list (by rw [eD7]; exact fun z => nomatch z)]; trivial, a, dx, l, ws, k6 + 1, 0, rfl, A7, Rd.Post.bind (d' := 0) (q6.kn knH7) fun t k8 H8 v8 e8 kn8 A8 r8 _ => ?_⟩
        obtain rfl : v8 = .str t := r8
        have eD8 := kn8 D _ (by simpa using nDa) (by intro _ z; cases z) eD7
        rw [e8] at q6
        refine ⟨_, eD8, szl' (by rw [List.length_map]; omega), m, Nat.lt_succ_self m, ⟨ts ++ [t], k8, A8.upd eD8 nDa nDl id (by intro _ z; cases z), ?_, by rw [List.length_append]; simp; omega, q6⟩, rfl, RX.std (Rd.std_upd eD8) (Nm.noL_map fun t _ => Nm.trNoL t) (Rd.RX.kt ((A6.kt kn7).trans (A7.kt kn8)) tv6), Rd.kn_updN (Rd.kn_trans knH7 kn8) hD⟩
        rw [upd_same, List.map_append]
        rfl
    rintro σ' H6 ⟨⟨tm, ts, c0, bys, first, k6, tv, D, cv, bv, fv, rfl, A6, eD, hts, tv6, _, _, n6, q6⟩, kn6⟩
    obtain ⟨rfl, rfl⟩ := n6 rfl
    have nDa : D ≠ a := fun z => by rw [z, A6.ob] at eD; cases eD
    refine ⟨AskV T.TL T.C_Statements T.C_BadText a dx l ws (fun tm ts c _ _ k => Rd.askB ws (Rd.lv ws n) how tm ts c k) how true false H Q E, ?_, ?_⟩
    · have ob6 := A6.ob
      dsimp? only [ob6]
      replace q6 : Rd.Post fsStatements T.TL T.C_Statements T.C_BadText a dx l ws 0 Nm.Sm.dx ((Rd.where_ ws (Rd.lv ws n) k6).bind fun c k5 => Rd.askB ws (Rd.lv ws n) how tm ts c k5) H Q E := q6
      refine ⟨a, dx, l, ws, k6, rfl, A6, Rd.Post.bind (d' := 0) (q6.kn kn6) fun c k7 H7 v7 e7 kn7 A7 r7 _ => ?_⟩
      rw [show Rd.where_ ws (Rd.lv ws n) k6 = _ from e7] at q6
      exact ⟨⟨tm, ts, c, [], none, k7, tv, D, some v7, none, none, rfl, A7, kn7 D _ (by simpa using nDa) (by intro _ z; cases z) eD, hts, Rd.RX.kt (A6.kt kn7) tv6, fun _ => ⟨v7, rfl, r7⟩, fun z => (nomatch z), fun _ => ⟨rfl, rfl⟩, q6⟩, Rd.kn_trans kn6 kn7⟩
    clear q6 n6 eD A6 tv6 kn6 nDa
    rintro σ' H7 ⟨⟨tm, ts, c, bys, first, k7, tv, D, cv, bv, fv, rfl, A7, eD, hts, tv7, c7, _, n7, q7⟩, kn7⟩
    obtain ⟨rfl, rfl⟩ := n7 rfl
    obtain ⟨cv, rfl, r7⟩ := c7 rfl
    have nDa : D ≠ a := fun z => by rw [z, A7.ob] at eD; cases eD
    have ob7 := A7.ob
    dsimp? only [ob7]
    intro p8 hp8 p9 hp9
    have s8 := (same_new (o := HO.tup []) hp8).trans (same_new (o := HO.tup [V.ref p8, V.non]) hp9)
    have e8 : upd (upd H7 p8 (.tup [])) p9 (.tup [V.ref p8, V.non]) p8 = some (.tup []) := same_new hp9 _ _ upd_same
    generalize hH8 : upd (upd H7 p8 (.tup [])) p9 (.tup [V.ref p8, V.non]) = H8 at s8 e8 ⊢
    have A8 := A7.same s8
    have eD8 := s8 _ _ eD
    have tv8 := RX.same s8 tv7
    have r8 := RX.same s8 r7
    have kn8 := Rd.kn_trans kn7 (Rd.kn_same s8)
    refine ⟨AskV T.TL T.C_Statements T.C_BadText a dx l ws (fun tm ts c bys first k => if first = none then Rd.askA ws how tm ts c bys k else .out) how true true H Q E, ?_, ?_⟩
    · have ob8 := A8.ob
      have done : ∀ (bys : List Nm.Tr) (k9 : Nat) (H9 : Hp) (bv : V), (if how = "pick" ∧ Rd.here ws k7 = "by" then Rd.some_ ws (fun k => Rd.term ws (Rd.lv ws n) k 0) 3 (k7 + 1) else .ok [] k7) = .ok bys k9 → KeepN [a] H8 H9 → RAt T.TL T.C_Statements a dx l ws k9 0 H9 → RX H9 bv (.tup (bys.map Nm.Tr.dx)) →
          AskV T.TL T.C_Statements T.C_BadText a dx l ws (fun tm ts c bys first k => if first = none then Rd.askA ws how tm ts c bys k else .out) how true true H Q E [some (.ref a), some (.str how), some tv, some (.ref D), some cv, some bv, some .non] H9 := fun bys k9 H9 bv e kn A r => by
        replace q7 : Rd.Post fsStatements T.TL T.C_Statements T.C_BadText a dx l ws 0 Nm.Sm.dx (Rd.askB ws (Rd.lv ws n) how tm ts c k7) H Q E := q7
        unfold Rd.askB at q7
        rw [e] at q7
        exact ⟨⟨tm, ts, c, bys, none, k9, tv, D, some cv, some bv, some .non, rfl, A, kn D _ (by simpa using nDa) (by intro _ z; cases z) eD8, hts, Rd.RX.kt (A8.kt kn) tv8, fun _ => ⟨cv, rfl, Rd.RX.kt (A8.kt kn) r8⟩, fun _ => ⟨bv, rfl, r, rfl⟩, fun z => (nomatch z), q7⟩, Rd.kn_trans kn8 kn⟩
      have none_ : ¬ (how = "pick" ∧ Rd.here ws k7 = "by") → AskV T.TL T.C_Statements T.C_BadText a dx l ws (fun tm ts c bys first k => if first = none then Rd.askA ws how tm ts c bys k else .out) how true true H Q E [some (.ref a), some (.str how), some tv, some (.ref D), some cv, some (.ref p8), some .non] H8 := fun z =>
        done [] k7 H8 (.ref p8) (by rw [if_neg z]) Rd.kn_refl A8 (by simp only [RX]; exact ⟨p8, [], rfl, .inl e8, trivial⟩)
      dsimp? only [ob8, Lm.tMethZ, Lm.tLam]
      by_cases c1 : how = "pick"
      · rw [if_pos (decide_eq_true c1)]
        refine ⟨a, dx, l, ws, k7, 0, _, rfl, A8, by decide, fun c2 => ⟨_, rfl, ?_⟩, fun c2 H9 kn9 A9 => ⟨_, rfl, ?_⟩⟩
        · rw [if_neg (by decide)]
          exact none_ fun z => c2 z.2
        · rw [if_pos rfl]
          have ob9 := A9.ob
          dsimp? only [ob9]
          refine ⟨A9.tab, fun f H3 eN t3 acts B zb => ?_⟩
          have A3 := A9.ext eN t3
          have kn3 := Rd.kn_trans kn9 (Rd.kn_ext eN)
          have e : (if how = "pick" ∧ Rd.here ws k7 = "by" then Rd.some_ ws (fun k => Rd.term ws (Rd.lv ws n) k 0) 3 (k7 + 1) else .ok [] k7) = Rd.some_ ws (fun k => Rd.term ws (Rd.lv ws n) k 0) 3 (k7 + 1) := if_pos ⟨c1, c2⟩
          refine ⟨Nm.Tr, Nm.Tr.dx, a, dx, l, f, ws, k7 + 1, 3, fun k => Rd.term ws (Rd.lv ws n) k 0, rfl, A3, fun t => Nm.trNoL t, by decide, by decide, ⟨_, acts H3 (Lm.KeepF.refl _) _ B zb, fun H4 k4 Q4 E4 kn4 A4 q4 => ⟨_, rfl, a, rfl, dx, _, A4.ob, noStatements_a_term, a, dx, l, ws, k4, 0, rfl, A4, q4⟩⟩, ?_⟩
          replace q7 : Rd.Post fsStatements T.TL T.C_Statements T.C_BadText a dx l ws 0 Nm.Sm.dx (Rd.askB ws (Rd.lv ws n) how tm ts c k7) H Q E := q7
          unfold Rd.askB at q7
          rw [← e]
          exact Rd.Post.bind (d' := 0) (q7.kn (Rd.kn_trans kn8 kn3)) fun bys k1 H4 v er kn4 A4 rx _ => done bys k1 H4 v er (Rd.kn_trans kn3 kn4) A4 rx
      · rw [if_neg (fun z => c1 (of_decide_eq_true z))]
        exact none_ fun z => c1 z.1
    clear q7 n7 eD eD8 A7 A8 tv7 tv8 kn7 kn8 nDa r7 r8 e8 hH8 s8
    rintro σ' H9 ⟨⟨tm, ts, c, bys, first, k9, tv, D, cv, bv, fv, rfl, A9, eD, hts, tv9, c9, b9, _, q9⟩, kn9⟩
    obtain ⟨cv, rfl, r9⟩ := c9 rfl
    obtain ⟨bv, rfl, y9, rfl⟩ := b9 rfl
    have nDa : D ≠ a := fun z => by rw [z, A9.ob] at eD; cases eD
    have ob9 := A9.ob
    refine ⟨AskV T.TL T.C_Statements T.C_BadText a dx l ws (fun tm ts c bys first k => .ok (.ask how tm ts c bys first) k) how true true H Q E, ?_, ?_⟩
    · dsimp? only [ob9]
      cases first with
      | some i => exact ((by rw [if_neg (by exact fun z => nomatch z)] at q9; exact q9 : False)).elim
      | none =>
      rw [if_pos rfl] at q9
      unfold Rd.askA at q9
      have done : ∀ (first : OI) (k1 : Nat) (H1 : Hp), (if how = "pick" ∧ Rd.here ws k9 = "first" then (if Rd.isNumber (Rd.here ws (k9 + 1)) = true then (Rd.nextNumber ws (k9 + 1)).map some else .err (k9 + 1)) else .ok none k9) = .ok first k1 → KeepN [a] H9 H1 → RAt T.TL T.C_Statements a dx l ws k1 0 H1 →
          AskV T.TL T.C_Statements T.C_BadText a dx l ws (fun tm ts c bys first k => .ok (.ask how tm ts c bys first) k) how true true H Q E [some (.ref a), some (.str how), some tv, some (.ref D), some cv, some bv, some (oi first)] H1 := fun first k1 H1 e kn A => by
        rw [e] at q9
        exact ⟨⟨tm, ts, c, bys, first, k1, tv, D, some cv, some bv, some (oi first), rfl, A, kn D _ (by simpa using nDa) (by intro _ z; cases z) eD, hts, Rd.RX.kt (A9.kt kn) tv9, fun _ => ⟨cv, rfl, Rd.RX.kt (A9.kt kn) r9⟩, fun _ => ⟨bv, rfl, Rd.RX.kt (A9.kt kn) y9, rfl⟩, fun z => (nomatch z), q9⟩, Rd.kn_trans kn9 kn⟩
      by_cases c1 : how = "pick"
      · rw [if_pos (decide_eq_true c1)]
        refine ⟨a, dx, l, ws, k9, 0, _, rfl, A9, by decide, fun c2 => ⟨_, rfl, ?_⟩, fun c2 H1 kn1 A1 => ⟨_, rfl, ?_⟩⟩
        · rw [if_neg (by decide)]
          exact done none k9 H9 (if_neg fun z => c2 z.2) Rd.kn_refl A9
        · rw [if_pos rfl]
          have ob1 := A1.ob
          dsimp? only [ob1]
          refine ⟨a, dx, l, ws, k9 + 1, 0, rfl, A1, _, rfl, A1.here_ok, fun H2 s2 => ⟨_, rfl, ?_⟩⟩
          have A2 := A1.same s2
          have ob2 := A2.ob
          have kn2 := Rd.kn_trans kn1 (Rd.kn_same s2)
          rw [if_pos ⟨c1, c2⟩] at q9
          by_cases c3 : Rd.isNumber (Rd.here ws (k9 + 1)) = true
          · rw [if_pos c3, Rd.R.map_bind] at q9
            rw [if_neg (by rw [c3]; decide)]
            dsimp? only [ob2]
            refine ⟨a, dx, l, ws, k9 + 1, 0, rfl, A2, Rd.Post.bind (d' := 0) (q9.kn (Rd.kn_trans kn9 kn2)) fun i k3 H3 v er kn3 A3 rx _ => ?_⟩
            obtain rfl : v = .int i := rx
            exact done (some i) k3 H3 (by rw [if_pos ⟨c1, c2⟩, if_pos c3, er]; rfl) (Rd.kn_trans kn2 kn3) A3
          · rw [if_neg c3] at q9
            rw [if_pos (by rw [Bool.eq_false_iff.mpr c3]; rfl)]
            dsimp? only [ob2]
            exact ⟨a, dx, l, ws, k9 + 1, 0, rfl, A2, BtE.kn q9 (Rd.kn_trans kn9 kn2)⟩
      · rw [if_neg (fun z => c1 (of_decide_eq_true z))]
        exact done none k9 H9 (if_neg fun z => c1 z.1) Rd.kn_refl A9
    clear q9 eD A9 tv9 kn9 nDa r9 y9 ob9
    rintro σ' H9 ⟨⟨tm, ts, c, bys, first, k9, tv, D, cv, bv, fv, rfl, A9, eD, hts, tv9, c9, b9, _, q9⟩, kn9⟩
    obtain ⟨cv, rfl, r9⟩ := c9 rfl
    obtain ⟨bv, rfl, y9, rfl⟩ := b9 rfl
    have nDa : D ≠ a := fun z => by rw [z, A9.ob] at eD; cases eD
    have ob9 := A9.ob
    dsimp? only [ob9, eD]
    intro p hp
    refine ⟨by decide, fun p2 hp2 => ?_⟩
    have s1 := same_new (o := HO.tup (ts.map V.str)) hp
    have s2 := same_new (o := HO.tup [V.str "ask", .str how, tv, .ref p, cv, bv, oi first]) hp2
    have s3 := s1.trans s2
    have e1 := s2 _ _ (upd_same (H := H9) (a := p) (o := HO.tup (ts.map V.str)))
    refine q9 _ _ (Rd.kn_trans kn9 (Rd.kn_same s3)) (A9.same s3) ?_
    unfold Nm.Sm.dx Nm.dxs
    simp only [RX, RXs]
    refine ⟨p2, _, rfl, .inl upd_same, rfl, rfl, RX.same s3 tv9, ⟨p, _, rfl, .inl e1, ?_⟩, RX.same s3 r9, RX.same s3 y9, ?_, trivial⟩
    · exact Rd.rx_strs ts
    · cases first <;> rfl
end

/-! a reader of words: statements -/
/-- behind the table's name -/
structure StmT (TL : List (Addr × Str)) (C CB a dx l : Addr) (ws : List Str) (r : Str → Nat → Rd.R Nm.Sm) (w : Str) (H0 : Hp) (Q : VK) (E : XK) (σ : L2.St) (H : Hp) : Prop where
  ex : ∃ (t : Str) (k : Nat), σ = [some (.ref a), some (.str w), some (.str t), none, none, none, none] ∧ RAt TL C a dx l ws k 0 H ∧ Rd.Post fsStatements TL C CB a dx l ws 0 Nm.Sm.dx (r t k) H0 Q E
  kn : KeepN [a] H0 H
/-- names, or numbers, read so far -/
structure StmL {α : Type} (TL : List (Addr × Str)) (C CB a dx l : Addr) (ws : List Str) (vf : α → V) (r : Nat → List α → Nat → Rd.R Nm.Sm) (D : Addr) (st : L2.St) (H0 : Hp) (Q : VK) (E : XK) (m : Nat) (σ : L2.St) (H : Hp) : Prop where
  ex : ∃ (ts : List α) (k : Nat), RAt TL C a dx l ws k 0 H ∧ H D = some (.lst (ts.map vf)) ∧ ts.length + m = 4 ∧ Rd.Post fsStatements TL C CB a dx l ws 0 Nm.Sm.dx (r m ts k) H0 Q E
  st : σ = st
  kn : KeepN [a] H0 H
/-- behind all of them -/
structure StmE {α : Type} (TL : List (Addr × Str)) (C CB a dx l : Addr) (ws : List Str) (vf : α → V) (r : List α → Nm.Sm) (D : Addr) (st : L2.St) (H0 : Hp) (Q : VK) (E : XK) (σ : L2.St) (H : Hp) : Prop where
  ex : ∃ (ts : List α) (k : Nat), RAt TL C a dx l ws k 0 H ∧ H D = some (.lst (ts.map vf)) ∧ ts.length ≤ 4 ∧ Rd.Post fsStatements TL C CB a dx l ws 0 Nm.Sm.dx (.ok (r ts) k) H0 Q E
  st : σ = st
  kn : KeepN [a] H0 H
/-- behind the sets -/
structure StmS (TL : List (Addr × Str)) (C CB a dx l : Addr) (ws : List Str) (n : Nat) (w t : Str) (H0 : Hp) (Q : VK) (E : XK) (σ : L2.St) (H : Hp) : Prop where
  ex : ∃ (ss : List (Str × Nm.Tr)) (sv : V) (k : Nat), σ = [some (.ref a), some (.str w), some (.str t), none, none, some sv, none] ∧ RAt TL C a dx l ws k 0 H ∧ RX H sv (.tup (ss.map Nm.dxP)) ∧ Rd.Post fsStatements TL C CB a dx l ws 0 Nm.Sm.dx ((Rd.where_ ws (Rd.lv ws n) k).map fun c => if w = "set" then .set t ss c else .strike t c) H0 Q E
  kn : KeepN [a] H0 H
section
variable {P : Program} {w : World} {K : PySem.W.Frag} {mg : Str → Option Value} {base : Heap} {n : Nat}
theorem ok_Statements_statement (T : Txt K mg w) (TBs : Tabs T base)
    (Gx : ∀ B, Tabs T B → FnOk P w K mg B (L2.CX P w) (12 * n + 9) T.f_Statements_one_set T.fd_Statements_one_set ["self"] (spQ T.TL T.C_Statements T.C_BadText Nm.dxP fun ws k => Rd.oneSet ws (Rd.lv ws n) k))
    (G_Statements_where : FnOk P w K mg base (L2.CX P w) (12 * n + 18) T.f_Statements_where T.fd_Statements_where ["self"] (spQ T.TL T.C_Statements T.C_BadText Nm.dxO fun ws k => Rd.where_ ws (Rd.lv ws n) k))
    (G_Statements_question : FnOk P w K mg base (L2.CX P w) (12 * n + 19) T.f_Statements_question T.fd_Statements_question ["self"] (spAskR T.TL T.C_Statements T.C_BadText n)) :
    FnOk P w K mg base (L2.CX P w) (12 * n + 20) T.f_Statements_statement T.fd_Statements_statement ["self"] (spQ T.TL T.C_Statements T.C_BadText Nm.Sm.dx fun ws k => Rd.stm ws (Rd.lv ws n) k) := by
  have G_Reader_here := ok_Reader_here (P := P) (base := base) (TL := T.TL) T
  have G_Reader_taken := ok_Reader_taken (P := P) (base := base) (TL := T.TL) T
  have G_Reader_refuse := ok_Reader_refuse (P := P) (base := base) (TL := T.TL) T
  have G_Reader_next_name := ok_Reader_next_name (P := P) (base := base) (TL := T.TL) T
  have G_Reader_next_number := ok_Reader_next_number (P := P) (base := base) (TL := T.TL) T
  have G_is_name := ok_is_name (P := P) (base := base) T
  refine T.F_Statements_statement.okXL T.hc_Statements_statement sc_Statements_statement (fun vs H Q E h => ?_) (fun Ar outer s0 H vs Q E hr h => ?_)
  · obtain ⟨a, dx, l, ws, k, rfl, _⟩ := h
    rfl
  · obtain ⟨a, dx, l, ws, k, rfl, A, q⟩ := h
    have hu := hu_of hr
    have hu64 := hu64_of hr
    refine ⟨_, (pss_cons (ps_set (i := 1) sc_Statements_statement.nd rfl (Or.inl rfl) (pe_meth0 (pv 0) T.cl_Statements T.me_Statements_here G_Reader_here (hr.mono (by omega)) T.b_Reader_here .nil pass0))
      (pss_cons (ps_if (pt_cmpR (op_inQ T.D_ALONE) (pv 1) (pe_glob rfl T.mg_ALONE (v := .ref T.a_ALONE) rfl) (by rfl)) (pss_one (ps_ret (pe_tup (pa_cons (pe_meth0 (pv 0) T.cl_Statements T.me_Statements_taken G_Reader_taken (hr.mono (by omega)) T.b_Reader_taken .nil pass0) pa_nil)))) pss_nil)
      (pss_cons (ps_if (pt_cmpR (op_inQ T.D_ASKING) (pv 1) (pe_glob rfl T.mg_ASKING (v := .ref T.a_ASKING) rfl) (by rfl)) (pss_one (ps_ret (pe_meth0 (pv 0) T.cl_Statements T.me_Statements_question G_Statements_question (hr.mono (by omega)) T.b_Statements_question .nil (passes_call (takes_of rfl rfl rfl rfl) (fun _ _ _ _ z => z))))) pss_nil)
      (pss_cons (ps_if (pt_cmpR op_notInT (pv 1) (pe_tup (pa_cons pe_str (pa_cons pe_str (pa_cons pe_str (pa_cons pe_str (pa_cons pe_str pa_nil)))))) (by rfl)) (pss_one (ps_expr (pe_meth0 (pv 0) T.cl_Statements T.me_Statements_refuse G_Reader_refuse (hr.mono (by omega)) T.b_Reader_refuse .nil (passes_call (takes_of rfl rfl rfl rfl) (fun _ _ _ _ z => z))))) pss_nil)
      (pss_cons (ps_expr (pe_meth0 (pv 0) T.cl_Statements T.me_Statements_taken G_Reader_taken (hr.mono (by omega)) T.b_Reader_taken .nil pass0))
      (Evl.pss_cut (ps_set (i := 2) sc_Statements_statement.nd rfl (Or.inl rfl) (pe_meth0 (pv 0) T.cl_Statements T.me_Statements_next_name G_Reader_next_name (hr.mono (by omega)) T.b_Reader_next_name .nil (passes_call (takes_of rfl rfl rfl rfl) (fun _ _ _ _ z => z))))
      (pss_cons (ps_if (pt_cmpR op_eq (pv 1) pe_str (nomark _)) (Evl.pss_cut (ps_set (i := 3) sc_Statements_statement.nd rfl (Or.inl rfl) (pe_lst (pa_cons (pe_meth0 (pv 0) T.cl_Statements T.me_Statements_next_name G_Reader_next_name (hr.mono (by omega)) T.b_Reader_next_name .nil (passes_call (takes_of rfl rfl rfl rfl) (fun _ _ _ _ z => z))) pa_nil)))
        (Evl.pss_cut (ps_while PassesOwn.leaving (PW.pt (pw_and (pt_val (pe_call G_is_name (hr.mono (by omega)) rfl T.mg_is_name T.F_is_name.kp T.b_is_name .nil pass0 (pa_cons (pe_meth0 (pv 0) T.cl_Statements T.me_Statements_here G_Reader_here (hr.mono (by omega)) T.b_Reader_here .nil pass0) pa_nil))) (pw_and1 (pt_cmpR op_lt (pe_callB len_lst (by rfl) T.n_len PySem.boot_len (pa_cons (pv 3) pa_nil)) (pe_glob rfl T.mg_MOST_FIELDS (v := .int 4) ⟨_, rfl⟩) (nomark _))))) (pss_one (ps_expr (pe_bm PySem.F.plainAttrs_list PySem.F.slot_list_append PySem.F.type_list_append mt_append (pv 3) (pa_cons (pe_meth0 (pv 0) T.cl_Statements T.me_Statements_next_name G_Reader_next_name (hr.mono (by omega)) T.b_Reader_next_name .nil (passes_call (takes_of rfl rfl rfl rfl) (fun _ _ _ _ z => z))) pa_nil)))))
        (pss_one (ps_ret (pe_tup (pa_cons (pv 1) (pa_cons (pv 2) (pa_cons (pe_callTy tuple_lst (by rfl) T.n_tuple (by decide +kernel) (pa_cons (pv 3) pa_nil)) pa_nil)))))))) pss_nil)
      (pss_cons (ps_if (pt_cmpR op_eq (pv 1) pe_str (nomark _)) (pss_one (ps_ret (pe_tup (pa_cons (pv 1) (pa_cons (pv 2) (pa_cons (pe_meth0 (pv 0) T.cl_Statements T.me_Statements_next_name G_Reader_next_name (hr.mono (by omega)) T.b_Reader_next_name .nil (passes_call (takes_of rfl rfl rfl rfl) (fun _ _ _ _ z => z))) pa_nil)))))) pss_nil)
      (pss_cons (ps_if (pt_cmpR op_eq (pv 1) pe_str (nomark _)) (Evl.pss_cut (ps_set (i := 4) sc_Statements_statement.nd rfl (Or.inl rfl) (pe_lst (pa_cons (pe_meth0 (pv 0) T.cl_Statements T.me_Statements_next_number G_Reader_next_number (hr.mono (by omega)) T.b_Reader_next_number .nil (passes_call (takes_of rfl rfl rfl rfl) (fun _ _ _ _ z => z))) pa_nil)))
        (Evl.pss_cut (ps_while PassesOwn.leaving (PW.pt (pw_and (pt_cmpR op_ne (pe_meth0 (pv 0) T.cl_Statements T.me_Statements_here G_Reader_here (hr.mono (by omega)) T.b_Reader_here .nil pass0) pe_str (nomark _)) (pw_and1 (pt_cmpR op_lt (pe_callB len_lst (by rfl) T.n_len PySem.boot_len (pa_cons (pv 4) pa_nil)) (pe_glob rfl T.mg_MOST_FIELDS (v := .int 4) ⟨_, rfl⟩) (nomark _))))) (pss_one (ps_expr (pe_bm PySem.F.plainAttrs_list PySem.F.slot_list_append PySem.F.type_list_append mt_append (pv 4) (pa_cons (pe_meth0 (pv 0) T.cl_Statements T.me_Statements_next_number G_Reader_next_number (hr.mono (by omega)) T.b_Reader_next_number .nil (passes_call (takes_of rfl rfl rfl rfl) (fun _ _ _ _ z => z))) pa_nil)))))
        (pss_one (ps_ret (pe_tup (pa_cons (pv 1) (pa_cons (pv 2) (pa_cons (pe_callTy tuple_lst (by rfl) T.n_tuple (by decide +kernel) (pa_cons (pv 4) pa_nil)) pa_nil)))))))) pss_nil)
      (Evl.pss_cut (ps_set (i := 5) sc_Statements_statement.nd rfl (Or.inl rfl) (pe_ifExp (pt_cmpR op_eq (pv 1) pe_str (nomark _)) (Lm.pe_methZ (fun _ _ _ => rfl) (pv 0) T.cl_Statements T.me_Statements_some (fun B hB => (ok_Statements_some (base := B) (TL := T.TL) (kk := 12 * n + 10) (by omega) T)) (hr.mono (by omega)) T.b_Statements_some .nil (passes_call (takes_of rfl rfl rfl rfl) (fun _ _ _ _ z => z)) (pa_cons (Lm.pe_lamB (k := 12 * n + 9) (T := T.TL) TBs.t_Statements_statement rfl T.m_Statements_statement T.u_Statements_statement (Lm.lamG_by (N := N_Statements_statement) (sc := defScope s_Statements_statement) (by decide +kernel)) rfl (fun _ _ _ _ _ _ => rfl) (fun B hB A outer s H E f c' hr => (pe_meth0 (pv 0) T.cl_Statements T.me_Statements_one_set (Gx B (TBs.up hB)) (hr.mono (by omega)) T.b_Statements_one_set .nil (passes_call (takes_of rfl rfl rfl rfl) (fun _ _ _ _ z => z))))) (pa_cons (pe_glob rfl T.mg_MOST_SETS (v := .int 3) ⟨_, rfl⟩) pa_nil))) (pe_tup pa_nil)))
      (pss_cons (ps_set (i := 6) sc_Statements_statement.nd rfl (Or.inl rfl) (pe_meth0 (pv 0) T.cl_Statements T.me_Statements_where G_Statements_where (hr.mono (by omega)) T.b_Statements_where .nil (passes_call (takes_of rfl rfl rfl rfl) (fun _ _ _ _ z => z))))
      (pss_one (ps_ret (pe_ifExp (pt_cmpR op_eq (pv 1) pe_str (nomark _)) (pe_tup (pa_cons (pv 1) (pa_cons (pv 2) (pa_cons (pv 5) (pa_cons (pv 6) pa_nil))))) (pe_tup (pa_cons (pv 1) (pa_cons (pv 2) (pa_cons (pv 6) pa_nil)))))))))))))))))), ?_⟩
    rw [show L2.start N_Statements_statement [V.ref a] = [some (V.ref a), none, none, none, none, none, none] from rfl]
    have ob := A.ob
    dsimp? only [ob]
    refine ⟨a, dx, l, ws, k, 0, rfl, A, ?_⟩
    dsimp? only [ob]
    replace q : Rd.Post fsStatements T.TL T.C_Statements T.C_BadText a dx l ws 0 Nm.Sm.dx (Rd.stm ws (Rd.lv ws n) k) H Q E := q
    unfold Rd.stm at q
    rw [hasS_mem, hasS_mem]
    by_cases c1 : Rd.here ws k ∈ (["begin", "done", "undo"] : List Str)
    · rw [if_pos (decide_eq_true c1)]
      rw [if_pos c1] at q
      refine ⟨a, dx, l, ws, k, 0, rfl, A, Rd.here_lt (fun z => by rw [z] at c1; exact absurd c1 (by decide)), fun H1 kn1 A1 p hp => ?_⟩
      have s1 := same_new (o := HO.tup [V.str (Rd.here ws k)]) hp
      refine q _ _ (Rd.kn_trans kn1 (Rd.kn_same s1)) (A1.same s1) ?_
      unfold Nm.Sm.dx
      simp only [RX, RXs]
      exact ⟨p, _, rfl, .inl upd_same, rfl, trivial⟩
    rw [if_neg (fun z => c1 (of_decide_eq_true z))]
    rw [if_neg c1] at q
    by_cases c2 : Rd.here ws k ∈ (["pick", "count", "sum", "least", "most"] : List Str)
    · rw [if_pos (decide_eq_true c2)]
      rw [if_pos c2] at q
      exact ⟨a, dx, l, ws, k, rfl, A, c2, q⟩
    rw [if_neg (fun z => c2 (of_decide_eq_true z))]
    rw [if_neg c2] at q
    intro p hp
    have s1 := same_new (o := HO.tup [V.str "table", V.str "index", V.str "put", V.str "set", V.str "strike"]) hp
    have A1 := A.same s1
    have ob1 := A1.ob
    by_cases c3 : Rd.here ws k ∈ (["table", "index", "put", "set", "strike"] : List Str)
    · rw [if_neg (by
        simp only [List.mem_cons, List.not_mem_nil, or_false] at c3
        rcases c3 with e | e | e | e | e <;> rw [e] <;> decide +kernel)]
      rw [if_neg (fun z => z c3)] at q
      dsimp? only [ob1]
      refine ⟨a, dx, l, ws, k, 0, rfl, A1, Rd.here_lt (fun z => by rw [z] at c3; exact absurd c3 (by decide)), fun H2 kn2 A2 => ?_⟩
      generalize Rd.here ws k = w at c1 c2 c3 q ⊢
      have kn2 := Rd.kn_trans (Rd.kn_same s1) kn2
      have ob2 := A2.ob
      refine ⟨StmT T.TL T.C_Statements T.C_BadText a dx l ws (fun t k1 => if w = "table" then (Rd.nextName ws k1).bind fun f k2 => (Rd.namesLoop ws 3 [f] k2).map fun fs => .table t fs else if w = "index" then (Rd.nextName ws k1).map fun f => .index t f
          else if w = "put" then (Rd.nextNumber ws k1).bind fun n k2 => (Rd.numsLoop ws 3 [n] k2).map fun ns => .put t ns else if w = "set" then (Rd.some_ ws (Rd.oneSet ws (Rd.lv ws n)) 3 k1).bind fun ss k2 => (Rd.where_ ws (Rd.lv ws n) k2).map fun c => .set t ss c
          else (Rd.where_ ws (Rd.lv ws n) k1).map fun c => .strike t c) w H Q E, ?_, ?_⟩
      · dsimp? only [ob2]
        refine ⟨a, dx, l, ws, k + 1, 0, rfl, A2, Rd.Post.bind (d' := 0) (q.kn kn2) fun t k3 H3 v3 e3 kn3 A3 r3 _ => ?_⟩
        obtain rfl : v3 = .str t := r3
        rw [e3] at q
        exact ⟨⟨t, k3, rfl, A3, q⟩, Rd.kn_trans kn2 kn3⟩
      clear q A2 kn2 ob2 A1 ob1 c1 c2 s1
      rintro σ' H3 ⟨⟨t, k3, rfl, A3, q⟩, kn3⟩
      have ob3 := A3.ob
      dsimp? only [ob3]
      by_cases d1 : w = "table"
      · rw [if_pos (decide_eq_true d1)]
        rw [if_pos d1] at q
        subst d1
        refine ⟨fun σ' H5 => ∃ D, Rd.NewN H D ∧ StmL T.TL T.C_Statements T.C_BadText a dx l ws V.str (fun m fs k => (Rd.namesLoop ws m fs k).map fun fs => .table t fs) D [some (.ref a), some (.str "table"), some (.str t), some (.ref D), none, none, none] H Q E 3 σ' H5, ?_, ?_⟩
        · dsimp? only [ob3]
          refine ⟨a, dx, l, ws, k3, 0, rfl, A3, Rd.Post.bind (d' := 0) (q.kn kn3) fun f k5 H5 v5 e5 kn5 A5 r5 _ D hD => ?_⟩
          obtain rfl : v5 = .str f := r5
          have s5 := same_new (o := HO.lst [V.str f]) hD
          rw [e5] at q
          have kn5' := Rd.kn_trans kn3 kn5
          exact ⟨D, Rd.NewN.of kn5' ⟨_, A5.ob⟩ hD, ⟨[f], k5, A5.same s5, upd_same, rfl, q⟩, rfl, Rd.kn_trans kn5' (Rd.kn_same s5)⟩
        clear q A3 ob3 kn3
        rintro σ' H5 ⟨D, hD, U⟩
        obtain rfl := U.st
        refine ⟨StmE T.TL T.C_Statements T.C_BadText a dx l ws V.str (fun fs => .table t fs) D [some (.ref a), some (.str "table"), some (.str t), some (.ref D), none, none, none] H Q E, ?_, ?_⟩
        · simp? only []
          refine while_n (StmL T.TL T.C_Statements T.C_BadText a dx l ws V.str (fun m fs k => (Rd.namesLoop ws m fs k).map fun fs => .table t fs) D [some (.ref a), some (.str "table"), some (.str t), some (.ref D), none, none, none] H Q E) ⟨3, U⟩ ?_
          rintro m σ H6 ⟨⟨ts, k6, A6, eD, hm, q6⟩, rfl, kn6⟩
          have nDa : D ≠ a := fun z => by rw [z, A6.ob] at eD; cases eD
          have nDl : D ≠ l := fun z => hD (.lst (ws.map V.str)) (by intro _ z; cases z) (by rw [z]; exact A.wl)
          have ob6 := A6.ob
          dsimp? only [ob6]
          refine ⟨a, dx, l, ws, k6, 0, rfl, A6, _, rfl, A6.here_ok, fun H7 s7 => ⟨_, rfl, ?_⟩⟩
          have A7 := A6.same s7
          have eD7 := s7 _ _ eD
          have kn7 := Rd.kn_trans kn6 (Rd.kn_same s7)
          have fin : Rd.namesLoop ws m ts k6 = .ok ts k6 → StmE T.TL T.C_Statements T.C_BadText a dx l ws V.str (fun fs => .table t fs) D [some (.ref a), some (.str "table"), some (.str t), some (.ref D), none, none, none] H Q E [some (.ref a), some (.str "table"), some (.str t), some (.ref D), none, none, none] H7 := fun e => by
            rw [e] at q6
            exact ⟨⟨ts, k6, A7, eD7, by omega, q6⟩, rfl, kn7⟩
          have ob7 := A7.ob
          by_cases c : Rd.isName (Rd.here ws k6) = true
          · rw [if_pos c]
            refine ⟨_, by rw [eD7]; rfl, ?_⟩
            cases m with
            | zero =>
              rw [if_neg (by simp; omega)]
              exact fin rfl
            | succ m =>
            rw [if_pos (by simp; omega)]
            refine wh_n ?_
            have eN : Rd.namesLoop ws (m + 1) ts k6 = (Rd.nextName ws k6).bind fun t k => Rd.namesLoop ws m (ts ++ [t]) k := by
              unfold Rd.nextName
              rw [if_pos c]
              show (if _ then _ else _) = _
              rw [if_pos c]
              rfl
            have q6 : Rd.Post fsStatements T.TL T.C_Statements T.C_BadText a dx l ws 0 Nm.Sm.dx ((Rd.nextName ws k6).bind fun x k => (Rd.namesLoop ws m (ts ++ [x]) k).map fun fs => Nm.Sm.table t fs) H Q E := by
              have q6 : Rd.Post fsStatements T.TL T.C_Statements T.C_BadText a dx l ws 0 Nm.Sm.dx ((Rd.namesLoop ws (m + 1) ts k6).map fun fs => Nm.Sm.table t fs) H Q E := q6
              rw [eN] at q6
              unfold Rd.R.map at q6
              rw [Rd.R.bind_bind] at q6
              exact q6
            dsimp? only [ob7]
            refine ⟨by rw [tyV_list (by rw [eD7]; exact fun z => nomatch z)]; trivial, a, dx, l, ws, k6, 0, rfl, A7, Rd.Post.bind (d' := 0) (q6.kn kn7) fun x k8 H8 v8 e8 kn8 A8 r8 _ => ?_⟩
            obtain rfl : v8 = .str x := r8
            have eD8 := kn8 D _ (by simpa using nDa) (by intro _ z; cases z) eD7
            rw [e8] at q6
            refine ⟨_, eD8, szl' (by rw [List.length_map]; omega), m, Nat.lt_succ_self m, ⟨ts ++ [x], k8, A8.upd eD8 nDa nDl id (by intro _ z; cases z), ?_, by rw [List.length_append]; simp; omega, q6⟩, rfl, Rd.kn_updN (Rd.kn_trans kn7 kn8) hD⟩
            rw [upd_same, List.map_append]
            rfl
          · rw [if_neg c]
            exact fin (by cases m with
              | zero => rfl
              | succ m => unfold Rd.namesLoop; rw [if_neg c])
        rintro σ' H6 ⟨⟨ts, k6, A6, eD, hm, q6⟩, rfl, kn6⟩
        have ob6 := A6.ob
        dsimp? only [ob6, eD]
        intro p hp p2 hp2
        have s1 := same_new (o := HO.tup (ts.map V.str)) hp
        have s2 := same_new (o := HO.tup [V.str "table", .str t, .ref p]) hp2
        refine q6 _ _ (Rd.kn_trans kn6 (Rd.kn_same (s1.trans s2))) (A6.same (s1.trans s2)) ?_
        unfold Nm.Sm.dx Nm.dxs
        simp only [RX, RXs]
        exact ⟨p2, _, rfl, .inl upd_same, rfl, rfl, ⟨p, _, rfl, .inl (s2 _ _ upd_same), Rd.rx_strs ts⟩, trivial⟩
      rw [if_neg (fun z => d1 (of_decide_eq_true z))]
      rw [if_neg d1] at q
      by_cases d2 : w = "index"
      · rw [if_pos (decide_eq_true d2)]
        rw [if_pos d2] at q
        subst d2
        refine ⟨a, dx, l, ws, k3, 0, rfl, A3, Rd.Post.map (d' := 0) (q.kn kn3) fun f k5 H5 v5 e5 kn5 A5 r5 q5 p hp => ?_⟩
        obtain rfl : v5 = .str f := r5
        have s1 := same_new (o := HO.tup [V.str "index", .str t, .str f]) hp
        refine q5 _ _ (Rd.kn_same s1) (A5.same s1) ?_
        unfold Nm.Sm.dx
        simp only [RX, RXs]
        exact ⟨p, _, rfl, .inl upd_same, rfl, rfl, rfl, trivial⟩
      rw [if_neg (fun z => d2 (of_decide_eq_true z))]
      rw [if_neg d2] at q
      by_cases d3 : w = "put"
      · rw [if_pos (decide_eq_true d3)]
        rw [if_pos d3] at q
        subst d3
        refine ⟨fun σ' H5 => ∃ D, Rd.NewN H D ∧ StmL T.TL T.C_Statements T.C_BadText a dx l ws V.int (fun m fs k => (Rd.numsLoop ws m fs k).map fun fs => .put t fs) D [some (.ref a), some (.str "put"), some (.str t), none, some (.ref D), none, none] H Q E 3 σ' H5, ?_, ?_⟩
        · dsimp? only [ob3]
          refine ⟨a, dx, l, ws, k3, 0, rfl, A3, Rd.Post.bind (d' := 0) (q.kn kn3) fun f k5 H5 v5 e5 kn5 A5 r5 _ D hD => ?_⟩
          obtain rfl : v5 = .int f := r5
          have s5 := same_new (o := HO.lst [V.int f]) hD
          rw [e5] at q
          have kn5' := Rd.kn_trans kn3 kn5
          exact ⟨D, Rd.NewN.of kn5' ⟨_, A5.ob⟩ hD, ⟨[f], k5, A5.same s5, upd_same, rfl, q⟩, rfl, Rd.kn_trans kn5' (Rd.kn_same s5)⟩
        clear q A3 ob3 kn3
        rintro σ' H5 ⟨D, hD, U⟩
        obtain rfl := U.st
        refine ⟨StmE T.TL T.C_Statements T.C_BadText a dx l ws V.int (fun fs => .put t fs) D [some (.ref a), some (.str "put"), some (.str t), none, some (.ref D), none, none] H Q E, ?_, ?_⟩
        · simp? only []
          refine while_n (StmL T.TL T.C_Statements T.C_BadText a dx l ws V.int (fun m fs k => (Rd.numsLoop ws m fs k).map fun fs => .put t fs) D [some (.ref a), some (.str "put"), some (.str t), none, some (.ref D), none, none] H Q E) ⟨3, U⟩ ?_
          rintro m σ H6 ⟨⟨ts, k6, A6, eD, hm, q6⟩, rfl, kn6⟩
          have nDa : D ≠ a := fun z => by rw [z, A6.ob] at eD; cases eD
          have nDl : D ≠ l := fun z => hD (.lst (ws.map V.str)) (by intro _ z; cases z) (by rw [z]; exact A.wl)
          have ob6 := A6.ob
          dsimp? only [ob6]
          refine ⟨a, dx, l, ws, k6, 0, rfl, A6, ?_⟩
          have fin : Rd.numsLoop ws m ts k6 = .ok ts k6 → StmE T.TL T.C_Statements T.C_BadText a dx l ws V.int (fun fs => .put t fs) D [some (.ref a), some (.str "put"), some (.str t), none, some (.ref D), none, none] H Q E [some (.ref a), some (.str "put"), some (.str t), none, some (.ref D), none, none] H6 := fun e => by
            rw [e] at q6
            exact ⟨⟨ts, k6, A6, eD, by omega, q6⟩, rfl, kn6⟩
          by_cases c : Rd.here ws k6 = ""
          · refine ⟨rfl, ?_⟩
            rw [if_neg (by rw [c]; decide)]
            exact fin (by cases m with
              | zero => rfl
              | succ m => unfold Rd.numsLoop; rw [if_neg (fun z => z c)])
          · refine ⟨rfl, ?_⟩
            rw [if_pos (by simpa using c)]
            refine ⟨_, by rw [eD]; rfl, ?_⟩
            cases m with
            | zero =>
              rw [if_neg (by simp; omega)]
              exact fin rfl
            | succ m =>
            rw [if_pos (by simp; omega)]
            refine wh_n ?_
            have q6 : Rd.Post fsStatements T.TL T.C_Statements T.C_BadText a dx l ws 0 Nm.Sm.dx ((Rd.nextNumber ws k6).bind fun x k => (Rd.numsLoop ws m (ts ++ [x]) k).map fun fs => Nm.Sm.put t fs) H Q E := by
              have q6 : Rd.Post fsStatements T.TL T.C_Statements T.C_BadText a dx l ws 0 Nm.Sm.dx ((Rd.numsLoop ws (m + 1) ts k6).map fun fs => Nm.Sm.put t fs) H Q E := q6
              unfold Rd.numsLoop at q6
              rw [if_pos c] at q6
              unfold Rd.R.map at q6
              rw [Rd.R.bind_bind] at q6
              exact q6
            dsimp? only [ob6]
            refine ⟨by rw [tyV_list (by rw [eD]; exact fun z => nomatch z)]; trivial, a, dx, l, ws, k6, 0, rfl, A6, Rd.Post.bind (d' := 0) (q6.kn kn6) fun x k8 H8 v8 e8 kn8 A8 r8 _ => ?_⟩
            obtain rfl : v8 = .int x := r8
            have eD8 := kn8 D _ (by simpa using nDa) (by intro _ z; cases z) eD
            rw [e8] at q6
            refine ⟨_, eD8, szl' (by rw [List.length_map]; omega), m, Nat.lt_succ_self m, ⟨ts ++ [x], k8, A8.upd eD8 nDa nDl id (by intro _ z; cases z), ?_, by rw [List.length_append]; simp; omega, q6⟩, rfl, Rd.kn_updN (Rd.kn_trans kn6 kn8) hD⟩
            rw [upd_same, List.map_append]
            rfl
        rintro σ' H6 ⟨⟨ts, k6, A6, eD, hm, q6⟩, rfl, kn6⟩
        have ob6 := A6.ob
        dsimp? only [ob6, eD]
        intro p hp p2 hp2
        have s1 := same_new (o := HO.tup (ts.map V.int)) hp
        have s2 := same_new (o := HO.tup [V.str "put", .str t, .ref p]) hp2
        refine q6 _ _ (Rd.kn_trans kn6 (Rd.kn_same (s1.trans s2))) (A6.same (s1.trans s2)) ?_
        unfold Nm.Sm.dx
        simp only [RX, RXs]
        exact ⟨p2, _, rfl, .inl upd_same, rfl, rfl, ⟨p, _, rfl, .inl (s2 _ _ upd_same), Rd.rx_ints ts⟩, trivial⟩
      rw [if_neg (fun z => d3 (of_decide_eq_true z))]
      rw [if_neg d3] at q
      refine ⟨StmS T.TL T.C_Statements T.C_BadText a dx l ws n w t H Q E, ?_, ?_⟩
      · dsimp? only [ob3, Lm.tMethZ, Lm.tLam]
        by_cases d4 : w = "set"
        · rw [if_pos (decide_eq_true d4)]
          rw [if_pos d4] at q
          refine ⟨A3.tab, fun f H4 eN t4 acts B zb => ?_⟩
          have A4 := A3.ext eN t4
          have kn4 := Rd.kn_trans kn3 (Rd.kn_ext eN)
          refine ⟨Str × Nm.Tr, Nm.dxP, a, dx, l, f, ws, k3, 3, fun k => Rd.oneSet ws (Rd.lv ws n) k, rfl, A4, fun s => ⟨trivial, Nm.trNoL s.2, trivial⟩, by decide, by decide, ⟨_, acts H4 (Lm.KeepF.refl _) _ B zb, fun H5 k5 Q5 E5 kn5 A5 q5 => ⟨_, rfl, a, rfl, dx, _, A5.ob, noStatements_one_set, a, dx, l, ws, k5, rfl, A5, q5⟩⟩, ?_⟩
          refine Rd.Post.bind (d' := 0) (q.kn kn4) fun ss k5 H5 v er kn5 A5 rx _ => ?_
          rw [er] at q
          refine ⟨⟨ss, v, k5, rfl, A5, rx, ?_⟩, Rd.kn_trans kn4 kn5⟩
          rw [show (fun c => if w = "set" then Nm.Sm.set t ss c else .strike t c) = fun c => Nm.Sm.set t ss c by funext c; rw [if_pos d4]]
          exact q
        · rw [if_neg (fun z => d4 (of_decide_eq_true z))]
          rw [if_neg d4] at q
          intro p hp
          have s1 := same_new (o := HO.tup []) hp
          refine ⟨⟨[], .ref p, k3, rfl, A3.same s1, by simp only [RX]; exact ⟨p, [], rfl, .inl upd_same, trivial⟩, ?_⟩, Rd.kn_trans kn3 (Rd.kn_same s1)⟩
          rw [show (fun c => if w = "set" then Nm.Sm.set t [] c else .strike t c) = fun c => Nm.Sm.strike t c by funext c; rw [if_neg d4]]
          exact q
      clear q A3 ob3 kn3
      rintro σ' H5 ⟨⟨ss, sv, k5, rfl, A5, rx, q5⟩, kn5⟩
      have ob5 := A5.ob
      dsimp? only [ob5]
      refine ⟨a, dx, l, ws, k5, rfl, A5, Rd.Post.map (d' := 0) (q5.kn kn5) fun c k6 H6 v6 e6 kn6 A6 r6 q6 => ?_⟩
      have ob6 := A6.ob
      have rx6 := Rd.RX.kt (A5.kt kn6) rx
      by_cases d4 : w = "set"
      · rw [if_pos (decide_eq_true d4)]
        subst d4
        intro p hp
        have s1 := same_new (o := HO.tup [V.str "set", .str t, sv, v6]) hp
        refine q6 _ _ (Rd.kn_same s1) (A6.same s1) ?_
        rw [if_pos rfl]
        unfold Nm.Sm.dx
        have e : (fun s : Str × Nm.Tr => Dx.tup [.str s.1, s.2.dx]) = Nm.dxP := rfl
        rw [e]
        simp only [RX, RXs]
        exact ⟨p, _, rfl, .inl upd_same, rfl, rfl, by simpa only [RX] using RX.same s1 rx6, RX.same s1 r6, trivial⟩
      · have d5 : w = "strike" := by
          simp only [List.mem_cons, List.not_mem_nil, or_false] at c3
          exact ((((c3.resolve_left d1).resolve_left d2).resolve_left d3).resolve_left d4)
        rw [if_neg (fun z => d4 (of_decide_eq_true z))]
        subst d5
        intro p hp
        have s1 := same_new (o := HO.tup [V.str "strike", .str t, v6]) hp
        refine q6 _ _ (Rd.kn_same s1) (A6.same s1) ?_
        rw [if_neg (by decide)]
        unfold Nm.Sm.dx
        simp only [RX, RXs]
        exact ⟨p, _, rfl, .inl upd_same, rfl, rfl, RX.same s1 r6, trivial⟩
    · rw [if_pos (by
        simp only [List.mem_cons, List.not_mem_nil, or_false, not_or] at c3
        simp [beq_eq_false_iff_ne.mpr (Ne.symm c3.1), beq_eq_false_iff_ne.mpr (Ne.symm c3.2.1), beq_eq_false_iff_ne.mpr (Ne.symm c3.2.2.1), beq_eq_false_iff_ne.mpr (Ne.symm c3.2.2.2.1), beq_eq_false_iff_ne.mpr (Ne.symm c3.2.2.2.2)])]
      rw [if_pos c3] at q
      dsimp? only [ob1]
      exact ⟨a, dx, l, ws, k, 0, rfl, A1, BtE.kn q (Rd.kn_same s1)⟩
end

/-! a reader of words: the whole statement; read -/
section
variable {P : Program} {w : World} {K : PySem.W.Frag} {mg : Str → Option Value} {base : Heap} {n : Nat}
def spWhole (TL : List (Addr × Str)) (C CB : Addr) (n : Nat) : Sp := fun vs H Q E => ∃ (a dx l : Addr) (ws : List Str), vs = [.ref a] ∧ RAt TL C a dx l ws 0 0 H ∧ Rd.Post fsStatements TL C CB a dx l ws 0 Nm.Sm.dx (Rd.whole ws (Rd.lv ws n)) H Q E
theorem ok_Statements_whole (T : Txt K mg w)
    (G_Statements_statement : FnOk P w K mg base (L2.CX P w) (12 * n + 20) T.f_Statements_statement T.fd_Statements_statement ["self"] (spQ T.TL T.C_Statements T.C_BadText Nm.Sm.dx fun ws k => Rd.stm ws (Rd.lv ws n) k)) :
    FnOk P w K mg base (L2.CX P w) (12 * n + 21) T.f_Statements_whole T.fd_Statements_whole ["self"] (spWhole T.TL T.C_Statements T.C_BadText n) := by
  have G_Reader_refuse := ok_Reader_refuse (P := P) (base := base) (TL := T.TL) T
  refine T.F_Statements_whole.okX sc_Statements_whole (fun vs H Q E h => ?_) (fun cdv Ar outer s0 H vs Q E hr h => ?_)
  · obtain ⟨a, dx, l, ws, rfl, _⟩ := h
    rfl
  · obtain ⟨a, dx, l, ws, rfl, A, q⟩ := h
    have hu := hu_of hr
    have hu64 := hu64_of hr
    refine ⟨_, (pss_cons (ps_set (i := 1) sc_Statements_whole.nd rfl (Or.inl rfl) (pe_meth0 (pv 0) T.cl_Statements T.me_Statements_statement G_Statements_statement (hr.mono (by omega)) T.b_Statements_statement .nil (passes_call (takes_of rfl rfl rfl rfl) (fun _ _ _ _ z => z))))
      (pss_cons (ps_if (pt_cmpR op_lt (pe_fldK K rfl (pv 0) rfl) (pe_callB len_lst (by rfl) T.n_len PySem.boot_len (pa_cons (pe_fldK K rfl (pv 0) rfl) pa_nil)) (nomark _)) (pss_one (ps_expr (pe_meth0 (pv 0) T.cl_Statements T.me_Statements_refuse G_Reader_refuse (hr.mono (by omega)) T.b_Reader_refuse .nil (passes_call (takes_of rfl rfl rfl rfl) (fun _ _ _ _ z => z))))) pss_nil)
      (pss_one (ps_ret (pv 1))))), ?_⟩
    rw [show L2.start N_Statements_whole [V.ref a] = [some (V.ref a), none] from rfl]
    have ob := A.ob
    dsimp? only [ob]
    unfold Rd.whole at q
    refine ⟨a, dx, l, ws, 0, rfl, A, Rd.Post.bind (d' := 0) q fun s k1 H1 v e1 kn1 A1 r1 q1 => ?_⟩
    have ob1 := A1.ob
    have wl1 := A1.wl
    dsimp? only [ob1, wl1]
    by_cases c : k1 < ws.length
    · rw [if_pos (by simpa using c)]
      rw [if_pos c] at q1
      exact ⟨a, dx, l, ws, k1, 0, rfl, A1, q1⟩
    · rw [if_neg (by simpa using c)]
      rw [if_neg c] at q1
      exact q1 _ _ Rd.kn_refl A1 r1
/-- what read tells -/
def RdPost (TL : List (Addr × Str)) (CB : Addr) (r : Rd.R Nm.Sm) (H : Hp) (Q : VK) (E : XK) : Prop := match r with
  | .ok x _ => ∀ H' v, ExtN H H' → Lm.TabF TL H' → RX H' v x.dx → Q v H'
  | .err k => ∀ H' e, ExtN H H' → Lm.TabF TL H' → H' e = some (.xd [("place", .int (k : Int))]) → E (.ref CB) (some e) H'
  | .out => False
def spRead (TL : List (Addr × Str)) (CB : Addr) (n : Nat) : Sp := fun vs H Q E => ∃ x : Str, vs = [.str x] ∧ x.length ≤ 50000 ∧ Lm.TabF TL H ∧ RdPost TL CB (Rd.read n x) H Q E
theorem ok_read (T : Txt K mg w)
    (G_Statements_whole : FnOk P w K mg base (L2.CX P w) (12 * n + 21) T.f_Statements_whole T.fd_Statements_whole ["self"] (spWhole T.TL T.C_Statements T.C_BadText n)) :
    FnOk P w K mg base (L2.CX P w) (12 * n + 22) T.f_read T.fd_read ["text"] (spRead T.TL T.C_BadText n) := by
  have G_Reader_init := ok_Reader_init (P := P) (base := base) T
  refine T.F_read.okX sc_read (fun vs H Q E h => ?_) (fun cdv Ar outer s0 H vs Q E hr h => ?_)
  · obtain ⟨x, rfl, _⟩ := h
    rfl
  · obtain ⟨x, rfl, hx, tf, q⟩ := h
    have hu := hu_of hr
    have hu64 := hu64_of hr
    refine ⟨_, (pss_one (ps_ret (pe_meth0 (pe_make T.mk_Statements G_Reader_init (hr.mono (by omega)) rfl T.mg_Statements T.b_Reader_init .nil pass0 (pa_cons (pv 0) pa_nil)) T.cl_Statements T.me_Statements_whole G_Statements_whole (hr.mono (by omega)) T.b_Statements_whole .nil (passes_call (takes_of rfl rfl rfl rfl) (fun _ _ _ _ z => z))))), ?_⟩
    rw [show L2.start N_read [V.str x] = [some (V.str x)] from rfl]
    simp? only []
    intro a dx ha hdx nda
    have s1 : Same H (upd (upd H dx (HO.own a)) a (HO.ins T.C_Statements dx [])) := (same_new hdx).trans (same_new (by rw [upd_ne (Ne.symm nda)]; exact ha))
    refine ⟨a, dx, x, rfl, upd_same, hx, Rd.tabF_kn tf s1, fun H1 l kn1 A1 => ⟨rfl, ?_⟩⟩
    have ob1 := A1.ob
    have ext : ∀ H', KeepN [a] H1 H' → ExtN H H' := fun H' kn b o e n => (Rd.kn_trans (Rd.kn_trans (Rd.kn_same s1) kn1) kn) b o (by
      intro z
      rw [List.mem_singleton.mp z, ha] at e
      cases e) n e
    dsimp? only [ob1]
    refine ⟨a, dx, l, Rd.toks x, rfl, A1, ?_⟩
    replace q : RdPost T.TL T.C_BadText (Rd.whole (Rd.toks x) (Rd.lv (Rd.toks x) n)) H Q E := q
    cases hw : Rd.whole (Rd.toks x) (Rd.lv (Rd.toks x) n) with
    | ok s k => rw [hw] at q; exact fun H2 v kn2 A2 r => q H2 v (ext H2 kn2) A2.tab r
    | err k => rw [hw] at q; exact fun H2 e kn2 t he => q H2 e (ext H2 kn2) t he
    | out => rw [hw] at q; exact q
end
/-! all of it -/
section
variable {P : Program} {w : World} {K : PySem.W.Frag} {mg : Str → Option Value}
theorem ok_where_n (T : Txt K mg w) (n : Nat) {B : Heap} (t : Tabs T B) : FnOk P w K mg B (L2.CX P w) (12 * n + 18) T.f_Statements_where T.fd_Statements_where ["self"] (spQ T.TL T.C_Statements T.C_BadText Nm.dxO fun ws k => Rd.where_ ws (Rd.lv ws n) k) :=
  ok_Statements_where T (ok_Statements_a_cond T (deep_or T (deep_all T n) t))
theorem ok_read_n (T : Txt K mg w) (n : Nat) {B : Heap} (t : Tabs T B) : FnOk P w K mg B (L2.CX P w) (12 * n + 22) T.f_read T.fd_read ["text"] (spRead T.TL T.C_BadText n) :=
  ok_read T (ok_Statements_whole T (ok_Statements_statement T t (fun B' t' => ok_Statements_one_set T (deep_term T (deep_all T n B' t'))) (ok_where_n T n t) (ok_Statements_question T t (fun B' t' => deep_term T (deep_all T n B' t')) (ok_where_n T n t))))
theorem ok_read_7 (T : Txt K mg w) {B : Heap} (t : Tabs T B) : FnOk P w K mg B (L2.CX P w) 106 T.f_read T.fd_read ["text"] (spRead T.TL T.C_BadText 7) := ok_read_n T 7 t
end

/-! the writer: trees -/
def spTxt (d : Nat) : Sp := fun vs H Q _ => ∃ (v : V) (e : Rd.Ex) (k : Nat), vs = [v, .int k] ∧ RX H v e.tr.dx ∧ e.wd ∧ e.deep ≤ d ∧ e.deep ≤ 10 ∧ Q (.str (e.txt k)) H
section
variable {P : Program} {w : World} {K : PySem.W.Frag} {mg : Str → Option Value} {base : Heap}
theorem tree_text_step (T : Txt K mg w) (n : Nat) (sp0 : Sp) (G_tree_text : FnOk P w K mg base CX0 (n + 1) T.f_tree_text T.fd_tree_text ["tree", "tight"] sp0) (h0 : ∀ e, n = e + 1 → sp0 = spTxt e) :
    FnOk P w K mg base CX0 (n + 2) T.f_tree_text T.fd_tree_text ["tree", "tight"] (spTxt n) := by
  refine T.F_tree_text.ok sc_tree_text (fun vs H Q E h => ?_) (fun cdv A outer s H vs Q E hr h => ?_)
  · obtain ⟨v, e, k, rfl, _⟩ := h
    rfl
  · have hu := hu_of hr
    have hu64 := hu64_of hr
    obtain ⟨v, e, k, rfl, R, wd, dp, d12, q⟩ := h
    refine ⟨_, (pss_cons (ps_set (i := 2) sc_tree_text.nd rfl (Or.inl rfl) (pe_ix ix_tp (pv 0) pe_int (fun _ _ => rfl)))
      (pss_cons (ps_if (pt_cmpR op_eq (pv 2) pe_str (nomark _)) (pss_one (ps_ret (pe_callTy call_str_int (by rfl) T.n_str (by decide +kernel) (pa_cons (pe_ix ix_tp (pv 0) pe_int (fun _ _ => rfl)) pa_nil)))) pss_nil)
      (pss_cons (ps_if (pt_cmpR op_eq (pv 2) pe_str (nomark _)) (pss_one (ps_ret (pe_ifExp (pt_cmpR op_eq (pe_ix ix_tp (pv 0) pe_int (fun _ _ => rfl)) pe_str (nomark _)) (pe_ix ix_tp (pv 0) pe_int (fun _ _ => rfl)) (pe_op op_add_str (pe_op op_add_str (pe_ix ix_tp (pv 0) pe_int (fun _ _ => rfl)) pe_str) (pe_ix ix_tp (pv 0) pe_int (fun _ _ => rfl)))))) pss_nil)
      (pss_cons (ps_set (i := 3) sc_tree_text.nd rfl (Or.inl rfl) (pe_ix (ix_tx T.D_TIGHT) (pe_glob rfl T.mg_TIGHT (v := .ref T.a_TIGHT) rfl) (pv 2) (fun _ _ => rfl)))
      (pss_cons (ps_if (pt_cmpR op_eq (pv 2) pe_str (nomark _)) (pss_one (ps_set (i := 4) sc_tree_text.nd rfl (Or.inl rfl) (pe_op op_add_str pe_str (pe_call G_tree_text (hr.mono (by show _ ≤ n + 1; omega)) rfl T.mg_tree_text T.F_tree_text.kp T.b_tree_text .nil pass0 (pa_cons (pe_ix ix_tp (pv 0) pe_int (fun _ _ => rfl)) (pa_cons (pv 3) pa_nil)))))) (pss_cons (ps_set (i := 5) sc_tree_text.nd rfl (Or.inl rfl) (pe_ifExp (pt_cmpR op_eq (pv 3) pe_int (nomark _)) (pe_op op_add (pv 3) pe_int) (pv 3)))
        (pss_one (ps_set (i := 4) sc_tree_text.nd rfl (Or.inl rfl) (pe_op op_add_str (pe_op op_add_str (pe_op op_add_str (pe_op op_add_str (pe_call G_tree_text (hr.mono (by show _ ≤ n + 1; omega)) rfl T.mg_tree_text T.F_tree_text.kp T.b_tree_text .nil pass0 (pa_cons (pe_ix ix_tp (pv 0) pe_int (fun _ _ => rfl)) (pa_cons (pv 5) pa_nil))) pe_str) (pv 2)) pe_str) (pe_call G_tree_text (hr.mono (by show _ ≤ n + 1; omega)) rfl T.mg_tree_text T.F_tree_text.kp T.b_tree_text .nil pass0 (pa_cons (pe_ix ix_tp (pv 0) pe_int (fun _ _ => rfl)) (pa_cons (pe_op op_add (pv 3) pe_int) pa_nil))))))))
      (pss_one (ps_ret (pe_ifExp (pt_cmpR op_lt (pv 3) (pv 1) (nomark _)) (pe_op op_add_str (pe_op op_add_str pe_str (pv 4)) pe_str) (pv 4))))))))), ?_⟩
    rw [show L2.start N_tree_text [v, V.int k] = [some (v), some (V.int k), none, none, none, none] from rfl]
    have ln := Rd.Ex.len (k := k) wd
    have pw : 2 ^ e.deep ≤ 2 ^ 10 := Nat.pow_le_pow_right (by decide) d12
    rcases Rd.Ex.two wd with ⟨i, rfl⟩ | ⟨t, f, rfl⟩ | ⟨c, rfl⟩ | ⟨o, a, b, et, ho, wa, wb, ed, ex⟩
    · obtain ⟨p, rfl, hp⟩ := Rd.num_e R
      simp? only [hp]
      exact ⟨Rd.log_num wd.1 wd.2, q⟩
    · obtain ⟨p, rfl, hp⟩ := Rd.fld_e R
      simp? only [hp]
      rw [if_neg (by decide)]
      have wd : t.length ≤ 8 ∧ f.length ≤ 8 := wd
      have := Rd.len_sS1
      replace q : Q (.str (Rd.fldS t f)) H := q
      unfold Rd.fldS at q
      by_cases c : t = ""
      · rw [if_pos (decide_eq_true c)]
        rw [if_pos c] at q
        exact q
      · rw [if_neg (fun z => c (of_decide_eq_true z))]
        rw [if_neg c] at q
        exact ⟨szl (by have : (Str.ofString ".").length = 1 := this.2.2.2.1; omega), szl (by rw [Rd.len_app]; have : (Str.ofString ".").length = 1 := this.2.2.2.1; omega), q⟩
    · obtain ⟨p, u, rfl, hp, ru⟩ := Rd.node1_e (w := Wd.s .not) R
      simp? only [hp]
      have dn : (Rd.Ex.c c.neg).deep = c.deep + 1 := rfl
      obtain ⟨m, rfl⟩ : ∃ m, n = m + 1 := ⟨n - 1, by omega⟩
      rw [if_neg (by decide +kernel), if_neg (by decide +kernel)]
      refine ⟨2, by decide +kernel, ?_⟩
      rw [if_pos (by decide +kernel), h0 m rfl]
      have l2 := Rd.Ex.len (e := .c c) (k := 2) wd
      have pw2 : 2 ^ (Rd.Ex.c c).deep ≤ 2 ^ 10 := Nat.pow_le_pow_right (by decide) (by show c.deep ≤ 10; omega)
      have l4 : (Str.ofString "not ").length = 4 := Rd.len_sS1.2.2.2.2
      have l1 : (Str.ofString "(").length = 1 := Rd.len_sS1.1
      have l3 : (Str.ofString ")").length = 1 := Rd.len_sS1.2.1
      replace q : Q (.str (Rd.brS 2 k (Rd.sS "not " ++ Rd.txtC c 2))) H := q
      refine ⟨u, .c c, 2, rfl, ru, wd, by show c.deep ≤ m; omega, by show c.deep ≤ 10; omega, _, rfl, szl (by omega), ?_⟩
      unfold Rd.brS at q
      by_cases c2 : 2 < k
      · rw [if_pos (decide_eq_true (by omega))]
        rw [if_pos c2] at q
        exact ⟨szl (by rw [Rd.len_app]; omega), szl (by rw [Rd.len_app, Rd.len_app]; omega), q⟩
      · rw [if_neg (fun z => c2 (by have := of_decide_eq_true z; omega))]
        rw [if_neg c2] at q
        exact q
    · rw [et] at R
      obtain ⟨p, u, u2, rfl, hp, ru, ru2⟩ := Rd.node2_e R
      simp? only [hp]
      obtain ⟨m, rfl⟩ : ∃ m, n = m + 1 := ⟨n - 1, by omega⟩
      have ow := Rd.op_no ho
      rw [if_neg (fun z => ow.1 (of_decide_eq_true z)), if_neg (fun z => ow.2.1 (of_decide_eq_true z))]
      refine ⟨o.lvl, Rd.op_tight ho, ?_⟩
      rw [if_neg (fun z => ow.2.2 (of_decide_eq_true z)), h0 m rfl]
      have la : ∀ j, (a.txt j).length + 12 ≤ 16 * 1024 := fun j => by
        have := Rd.Ex.len (k := j) wa
        have pw : 2 ^ a.deep ≤ 2 ^ 10 := Nat.pow_le_pow_right (by decide) (by omega)
        omega
      have lb : ∀ j, (b.txt j).length + 12 ≤ 16 * 1024 := fun j => by
        have := Rd.Ex.len (k := j) wb
        have pw : 2 ^ b.deep ≤ 2 ^ 10 := Nat.pow_le_pow_right (by decide) (by omega)
        omega
      have lo := Rd.len_op ho
      have l1 : (Str.ofString "(").length = 1 := Rd.len_sS1.1
      have l3 : (Str.ofString ")").length = 1 := Rd.len_sS1.2.1
      have l5 : (Str.ofString " ").length = 1 := Rd.len_sS1.2.2.1
      have hk : ∀ j : Nat, (j : Int) = (if o.lvl = 3 then 4 else o.lvl : Nat) → spTxt m [u, .int j] H (fun x_1 H1 => ∃ i, x_1 = V.str i ∧ i.length + (Str.ofString " ").length ≤ sizeLine ∧ (i ++ Str.ofString " ").length + o.s.length ≤ sizeLine ∧ (i ++ Str.ofString " " ++ o.s).length + (Str.ofString " ").length ≤ sizeLine ∧ ∃ x_2, tpO (H1 p) = some x_2 ∧ ∃ x_3, atI x_2 2 = some x_3 ∧ spTxt m [x_3, .int ((o.lvl : Int) + 1)] H1 (fun y H3 => ∃ x_4, y = V.str x_4 ∧ (i ++ Str.ofString " " ++ o.s ++ Str.ofString " ").length + x_4.length ≤ sizeLine ∧
          if decide ((o.lvl : Int) < (k : Int)) = true then (Str.ofString "(").length + (i ++ Str.ofString " " ++ o.s ++ Str.ofString " " ++ x_4).length ≤ sizeLine ∧ (Str.ofString "(" ++ (i ++ Str.ofString " " ++ o.s ++ Str.ofString " " ++ x_4)).length + (Str.ofString ")").length ≤ sizeLine ∧ Q (V.str (Str.ofString "(" ++ (i ++ Str.ofString " " ++ o.s ++ Str.ofString " " ++ x_4) ++ Str.ofString ")")) H3
          else Q (V.str (i ++ Str.ofString " " ++ o.s ++ Str.ofString " " ++ x_4)) H3) E0) E0 := fun j hj => by
        obtain rfl : j = (if o.lvl = 3 then 4 else o.lvl) := by omega
        have la' := la (if o.lvl = 3 then 4 else o.lvl)
        have lb' := lb (o.lvl + 1)
        refine ⟨u, a, _, rfl, ru, wa, by omega, by omega, _, rfl, szl (by omega), szl (by rw [Rd.len_app]; omega), szl (by rw [Rd.len_app, Rd.len_app]; omega), _, hp, u2, rfl, u2, b, o.lvl + 1, rfl, ru2, wb, by omega, by omega, _, rfl, szl (by rw [Rd.len_app, Rd.len_app, Rd.len_app]; omega), ?_⟩
        rw [ex] at q
        unfold Rd.brS at q
        by_cases c2 : o.lvl < k
        · rw [if_pos (decide_eq_true (by omega))]
          rw [if_pos c2] at q
          exact ⟨szl (by rw [Rd.len_app, Rd.len_app, Rd.len_app, Rd.len_app]; omega), szl (by rw [Rd.len_app, Rd.len_app, Rd.len_app, Rd.len_app, Rd.len_app]; omega), q⟩
        · rw [if_neg (fun z => c2 (by have := of_decide_eq_true z; omega))]
          rw [if_neg c2] at q
          exact q
      by_cases c3 : o.lvl = 3
      · rw [if_pos (by simp [c3])]
        exact hk (o.lvl + 1) (by rw [c3]; rfl)
      · rw [if_neg (by simpa using fun z => c3 (by omega))]
        exact hk o.lvl (by rw [if_neg c3])
theorem ok_tree_text (T : Txt K mg w) : ∀ d : Nat, FnOk P w K mg base CX0 (d + 2) T.f_tree_text T.fd_tree_text ["tree", "tight"] (spTxt d)
  | 0 => tree_text_step T 0 (fun _ _ _ _ => False) ⟨fun _ _ _ _ z => z.elim, fun _ _ _ _ _ _ _ _ _ _ _ _ _ z => z.elim⟩ fun e z => by omega
  | d + 1 => tree_text_step T (d + 1) (spTxt d) (ok_tree_text T d) fun e z => by rw [show e = d by omega]
end

/-! the writer: statements -/
def spWhere : Sp := fun vs H Q _ => ∃ (v : V) (c : Option G7.Cd), vs = [v] ∧ RX H v (Nm.dxO (c.map Nm.trC)) ∧ Rd.wdO c ∧ Q (.str (Rd.whereS c)) H
def spStTxt : Sp := fun vs H Q _ => ∃ (v : V) (s : Rd.St), vs = [v] ∧ RX H v s.sm.dx ∧ s.wd ∧ ∀ H', Same H H' → Q (.str s.txt) H'
def spAskTxt : Sp := fun vs H Q _ => ∃ (v : V) (how : Str) (tm : List G7.Tm) (ts : List Str) (c : Option G7.Cd) (bys : List G7.Tm) (first : OI), vs = [v] ∧ RX H v (Rd.St.ask how tm ts c bys first).sm.dx ∧ (Rd.St.ask how tm ts c bys first).wd ∧ ∀ H', Same H H' → Q (.str (Rd.St.ask how tm ts c bys first).txt) H'
theorem terms_lc {K : PySem.W.Frag} {ta : Addr} {ps : List (V × G7.Tm)} {H : Hp} {x0 x1 x2 x3 x4 x5 x6 x7 x8 : Option V} {Q' : VK} (hta : tpO (H ta) = some (ps.map (·.1))) (hp : ∀ p ∈ ps, RX H p.1 ((Nm.Tr.dx ∘ Nm.trT) p.2)) (hw : Rd.wdM (ps.map (·.2)))
    (k : ∀ D H', H D = none → Same H H' → H' D = some (.lst ((ps.map fun p => Rd.txtT p.2 4).map V.str)) → Q' (.ref D) H') : lcB (Itt K ta) (gName 9) tYes (tCall (spTxt 6) [V.int 0] E0 (tCons (tVar 9) tNil)) [9] [x0, x1, x2, x3, x4, x5, x6, x7, x8, none] H Q' := by
  have hl : ps.length ≤ 8 := by have := hw.1; rwa [List.length_map] at this
  refine lc_all (walk_tup (xs := ps.map (·.1))) ps (fun p y _ => y = .str (Rd.txtT p.2 4)) (by rw [List.length_map]) (by omega) (fun H1 s => .inl (rd_tpO (Rd.tpS hta s))) yat_same (fun _ _ _ _ _ h _ _ => h) (fun i p x H1 H2 Q2 he s1 hy k1 => ?_) fun D H1 zs hD e1 s1 e2 e3 => ?_
  · obtain ⟨rfl, rfl⟩ := yat_of he hy
    have hm := List.mem_of_getElem? he
    have wt := hw.2 p.2 (List.mem_map.mpr ⟨p, hm, rfl⟩)
    simp? only [gName]
    refine ⟨p.1, .t p.2, 0, rfl, (hp p hm).same s1, wt.1, wt.2, by have := wt.2; show p.2.deep ≤ 10; omega, ?_⟩
    exact k1 _ _ (Same.refl _) (by rw [Rd.txt_04 _ wt.1]; rfl)
  · rw [zs_vals (f := fun p : V × G7.Tm => V.str (Rd.txtT p.2 4)) e1 e3] at e2
    exact k D H1 hD s1 (by rw [List.map_map]; exact e2)
theorem terms_sum {ps : List (V × G7.Tm)} (hw : Rd.wdM (ps.map (·.2))) : ((ps.map fun p => Rd.txtT p.2 4).map fun x => x.length).sum + (ps.map fun p => Rd.txtT p.2 4).length * (Str.ofString ", ").length ≤ 16777216 := by
  have hl : ps.length ≤ 8 := by have := hw.1; rwa [List.length_map] at this
  have z := Rd.sum_len (ps := ps.map fun p => Rd.txtT p.2 4) (B := 1012) (fun q hq => by
    obtain ⟨p, hp, rfl⟩ := List.mem_map.mp hq
    exact Rd.len_T6 (hw.2 p.2 (List.mem_map.mpr ⟨p, hp, rfl⟩)) 4)
  have l : (Str.ofString ", ").length = 2 := Rd.lens.1
  rw [List.length_map] at z ⊢
  rw [l]
  have : ps.length * 1012 ≤ 8 * 1012 := Nat.mul_le_mul_right _ hl
  omega
theorem terms_join {ps : List (V × G7.Tm)} : Txt.join (Str.ofString ", ") (ps.map fun p => Rd.txtT p.2 4) = Rd.termsS (ps.map (·.2)) := by
  rw [TL.join_eq]
  unfold Rd.termsS
  rw [List.map_map]
  rfl
section
variable {P : Program} {w : World} {K : PySem.W.Frag} {mg : Str → Option Value} {base : Heap}
theorem ok_where_text (T : Txt K mg w) : FnOk P w K mg base CX0 9 T.f_where_text T.fd_where_text ["cond"] spWhere := by
  have G_tree_text := ok_tree_text (P := P) (base := base) T 6
  refine T.F_where_text.ok sc_where_text (fun vs H Q E h => ?_) (fun cdv A outer s H vs Q E hr h => ?_)
  · obtain ⟨v, c, rfl, _⟩ := h
    rfl
  · have hu := hu_of hr
    have hu64 := hu64_of hr
    obtain ⟨v, c, rfl, R, wd, q⟩ := h
    refine ⟨_, (pss_one (ps_ret (pe_ifExp (pt_cmpR op_isN (pv 0) pe_non (nomark _)) pe_str (pe_op op_add_str pe_str (pe_call G_tree_text (hr.mono (by decide)) rfl T.mg_tree_text T.F_tree_text.kp T.b1_tree_text T.d1_tree_text pass0 (pa_cons (pv 0) pa_nil)))))), ?_⟩
    rw [show L2.start N_where_text [v] = [some (v)] from rfl]
    cases c with
    | none =>
      have R : v = .non := by simpa only [Option.map, Nm.dxO, RX] using R
      subst R
      simp? only []
      exact q
    | some c =>
      have R : RX H v (Nm.trC c).dx := R
      have wc := wd c rfl
      have ⟨a, ea⟩ : ∃ a, v = .ref a := by
        cases ht : Nm.trC c with
        | num n => rw [ht] at R; obtain ⟨b, e, _⟩ := Rd.num_e R; exact ⟨b, e⟩
        | fld t f => rw [ht] at R; obtain ⟨b, e, _⟩ := Rd.fld_e R; exact ⟨b, e⟩
        | node w ks => rw [ht] at R; unfold Nm.Tr.dx at R; obtain ⟨b, us, e, _⟩ := Nm.rx_tpO R; exact ⟨b, e⟩
      subst ea
      simp? only []
      have := Rd.len_C6 wc 0
      have l : (Str.ofString " where ").length = 7 := Rd.lens.2.2.2.1
      exact ⟨_, .c c, 0, rfl, R, wc.1, wc.2, by have := wc.2; show c.deep ≤ 10; omega, _, rfl, szl (by show _ + (Rd.txtC c 0).length ≤ _; omega), q⟩
theorem ok_ask_text (T : Txt K mg w) : FnOk P w K mg base CX0 10 T.f_ask_text T.fd_ask_text ["tree"] spAskTxt := by
  have G_tree_text := ok_tree_text (P := P) (base := base) T 6
  have G_where_text := ok_where_text (P := P) (base := base) T
  refine T.F_ask_text.ok sc_ask_text (fun vs H Q E h => ?_) (fun cdv A outer s H vs Q E hr h => ?_)
  · obtain ⟨v, how, tm, ts, c, bys, first, rfl, _⟩ := h
    rfl
  · have hu := hu_of hr
    have hu64 := hu64_of hr
    obtain ⟨v, how, tm, ts, c, bys, first, rfl, R, wd, q⟩ := h
    refine ⟨_, (pss_cons (ps_asg (pv 0) (pg_tupH (n := 7) rfl (pgs_cons (pg_name (i := 1) sc_ask_text.nd rfl (Or.inl rfl)) (pgs_cons (pg_name (i := 2) sc_ask_text.nd rfl (Or.inl rfl)) (pgs_cons (pg_name (i := 3) sc_ask_text.nd rfl (Or.inl rfl)) (pgs_cons (pg_name (i := 4) sc_ask_text.nd rfl (Or.inl rfl)) (pgs_cons (pg_name (i := 5) sc_ask_text.nd rfl (Or.inl rfl)) (pgs_cons (pg_name (i := 6) sc_ask_text.nd rfl (Or.inl rfl)) (pgs_cons (pg_name (i := 7) sc_ask_text.nd rfl (Or.inl rfl)) pgs_nil)))))))))
      (Evl.pss_cut (ps_set (i := 8) sc_ask_text.nd rfl (Or.inl rfl) (pe_join pe_str (pe_op op_cat (pe_lst (pa_cons (pv 2) pa_nil)) (pe_op op_rep (pe_lst (pa_cons (pe_join pe_str (pe_lc (own := [("term", 9)]) (g := gName 9) (tt := tYes) rfl sc_ask_text.nd (pi_tupK K rfl (pv 3)) (blkOk_by (N := N_ask_text) (sc := defScope s_ask_text) (by decide +kernel)) (fun _ _ _ _ _ => (pg_name (i := 9) sc_ask_text.nd rfl (Or.inl rfl))) (fun _ _ _ _ _ => pts_nil) (fun _ _ _ _ _ => (pe_call G_tree_text (hr.mono (by decide)) rfl T.mg_tree_text T.F_tree_text.kp T.b1_tree_text T.d1_tree_text pass0 (pa_cons (pv 9) pa_nil))))) pa_nil)) (pe_callTy int_bl (by rfl) T.n_int (by decide +kernel) (pa_cons (pe_cmpR (op_neNilT hu64) (pv 3) (pe_tup pa_nil) (nomark _)) pa_nil))))))
      (Evl.pss_cut (ps_set (i := 8) sc_ask_text.nd rfl (Or.inl rfl) (pe_op op_add_str (pe_op op_add_str (pe_op op_add_str (pv 8) pe_str) (pe_join pe_str (pv 4))) (pe_call G_where_text (hr.mono (by decide)) rfl T.mg_where_text T.F_where_text.kp T.b_where_text .nil pass0 (pa_cons (pv 5) pa_nil))))
      (Evl.pss_cut (ps_if (pt_cmpR (op_neNilT hu64) (pv 6) (pe_tup pa_nil) (nomark _)) (pss_one (ps_set (i := 8) sc_ask_text.nd rfl (Or.inl rfl) (pe_op op_add_str (pe_op op_add_str (pv 8) pe_str) (pe_join pe_str (pe_lc (own := [("term", 9)]) (g := gName 9) (tt := tYes) rfl sc_ask_text.nd (pi_tupK K rfl (pv 6)) (blkOk_by (N := N_ask_text) (sc := defScope s_ask_text) (by decide +kernel)) (fun _ _ _ _ _ => (pg_name (i := 9) sc_ask_text.nd rfl (Or.inl rfl))) (fun _ _ _ _ _ => pts_nil) (fun _ _ _ _ _ => (pe_call G_tree_text (hr.mono (by decide)) rfl T.mg_tree_text T.F_tree_text.kp T.b1_tree_text T.d1_tree_text pass0 (pa_cons (pv 9) pa_nil)))))))) pss_nil)
      (pss_one (ps_ret (pe_ifExp (pt_cmpR op_isN (pv 7) pe_non (nomark _)) (pv 8) (pe_op op_add_str (pe_op op_add_str (pv 8) pe_str) (pe_callTy call_str_int (by rfl) T.n_str (by decide +kernel) (pa_cons (pv 7) pa_nil)))))))))), ?_⟩
    rw [show L2.start N_ask_text [v] = [some (v), none, none, none, none, none, none, none, none, none] from rfl]
    have R : RX H v (.tup [.str "ask", .str how, .tup ((tm.map Nm.trT).map Nm.Tr.dx), Nm.dxs ts, Nm.dxO (c.map Nm.trC), .tup ((bys.map Nm.trT).map Nm.Tr.dx), Nm.dxI first]) := R
    obtain ⟨a, us, rfl, ha, r⟩ := Nm.rx_tpO R
    obtain ⟨u0, us, rfl, h0, r⟩ := Nm.rxs_un r
    obtain ⟨u1, us, rfl, h1, r⟩ := Nm.rxs_un r
    obtain ⟨tv, us, rfl, r2, r⟩ := Nm.rxs_un r
    obtain ⟨sv, us, rfl, r3, r⟩ := Nm.rxs_un r
    obtain ⟨cv, us, rfl, r4, r⟩ := Nm.rxs_un r
    obtain ⟨bv, us, rfl, r5, r⟩ := Nm.rxs_un r
    obtain ⟨fv, us, rfl, r6, r⟩ := Nm.rxs_un r
    obtain rfl := Nm.rxs_no r
    obtain rfl := Nm.rx_s h0
    obtain rfl := Nm.rx_s h1
    rw [List.map_map] at r2 r5
    obtain ⟨ta, tps, rfl, hta, rfl, tp2⟩ := Rd.rx_pairs (f := Nm.Tr.dx ∘ Nm.trT) r2
    obtain ⟨ba, bps, rfl, hba, rfl, bp2⟩ := Rd.rx_pairs (f := Nm.Tr.dx ∘ Nm.trT) r5
    obtain ⟨wh, wt, wn, wc, wb, wf⟩ := wd
    dsimp? only [gTupH, gCons, gNil, gName, ha, hta]
    refine ⟨fun σ' H1 => Same H H1 ∧ σ' = [some (.ref a), some (.str "ask"), some (.str how), some (.ref ta), some sv, some cv, some (.ref ba), some fv, some (.str (Rd.howS how (tps.map (·.2)))), none], ?_, ?_⟩
    · simp? only [tLc_eq, iTup, hta]
      intro p hp
      have s1 := same_new (o := HO.lst [V.str how]) hp
      refine ⟨⟨_, .inl (rd_tpO (Rd.tpS hta s1))⟩, terms_lc (Rd.tpS hta s1) (fun x hx => (tp2 x hx).same s1) wt fun D H1 hD s2 eD => ⟨D, rfl, _, .inl (.inl (.inl eD)), terms_sum wt, fun p1 hp1 p2 hp2 => ?_⟩⟩
      rw [terms_join] at hp2 ⊢
      have s3 := same_new (o := HO.lst [V.str (Rd.termsS (tps.map (·.2)))]) hp1
      have s4 := same_new (o := HO.tup []) hp2
      have sx := ((s1.trans s2).trans s3).trans s4
      refine ⟨_, Rd.tpS hta sx, _, s4 _ _ upd_same, ?_⟩
      have lt := Rd.len_terms wt
      have l1 : (Str.ofString " ").length = 1 := Rd.lens.2.1
      have ek : (if (!(tps.map (·.1)).isEmpty) = true then (1 : Int) else 0) = if tps.length = 0 then 0 else 1 := by cases tps <;> rfl
      rw [ek]
      obtain ⟨xs, ex1, ex2, ex3⟩ : ∃ xs : List Str, (List.replicate (if tps.length = 0 then (0 : Int) else 1).toNat [V.str (Rd.termsS (tps.map (·.2)))]).flatten = xs.map V.str ∧ xs.length ≤ 1 ∧ Str.join (Str.ofString " ") (how :: xs) = Rd.howS how (tps.map (·.2)) ∧ ∀ x ∈ xs, x.length ≤ 8112 := by
        unfold Rd.howS
        rw [List.length_map]
        by_cases c0 : tps.length = 0
        · rw [if_pos c0, if_pos c0]
          exact ⟨[], rfl, by decide, rfl, fun x hx => by cases hx⟩
        · rw [if_neg c0, if_neg c0]
          exact ⟨[Rd.termsS (tps.map (·.2))], rfl, Nat.le_refl _, rfl, fun x hx => by rw [List.mem_singleton.mp hx]; exact lt⟩
      obtain ⟨ex3, ex4⟩ := ex3
      refine ⟨by split <;> decide, by split <;> decide, szl (by split <;> simp), fun p3 hp3 => ?_⟩
      rw [ex1]
      have s5 := same_new (o := HO.lst (xs.map V.str)) hp3
      refine ⟨_, s5 _ _ (s4 _ _ (s3 _ _ (s2 _ _ upd_same))), szl (by rw [List.length_map]; show 1 + _ ≤ _; omega), fun p4 hp4 => ⟨how :: xs, .inl (.inl (.inl upd_same)), ?_, ?_⟩⟩
      · have := Rd.sum_len ex4
        rw [l1, List.map_cons, List.sum_cons, List.length_cons]
        omega
      · exact ⟨(sx.trans s5).trans (same_new hp4), by rw [TL.join_eq, ex3]⟩
    have lA := Rd.len_ask wh wt wn wc
    rintro σ' H1 ⟨s1, rfl⟩
    refine ⟨fun σ' H1 => Same H H1 ∧ σ' = [some (.ref a), some (.str "ask"), some (.str how), some (.ref ta), some sv, some cv, some (.ref ba), some fv, some (.str (Rd.howS how (tps.map (·.2)) ++ Rd.sS " from " ++ Str.join (Rd.sS " and ") ts ++ Rd.whereS c)), none], ?_, ?_⟩
    · simp? only []
      have l6 : (Str.ofString " from ").length = 6 := Rd.lens.2.2.2.2.2.2.1
      have l5 : (Str.ofString " and ").length = 5 := Rd.lens.2.2.1
      have lh := Rd.len_how wh wt
      obtain ⟨sa, sps, rfl, hsa, rfl, sp2⟩ := Rd.rx_pairs (f := Dx.str) r3
      have es : sps.map (·.1) = (sps.map (·.2)).map V.str := by
        rw [List.map_map]
        exact List.map_congr_left fun p hp => Nm.rx_s (sp2 p hp)
      rw [es] at hsa
      have lj := Rd.len_names (y := Rd.sS " and ") wn
      have lw := Rd.len_where wc
      have ls := Rd.sum_len wn.2
      have wn1 := wn.1
      refine ⟨szl (by omega), sa, rfl, _, .inr (.inl (rd_tpO (Rd.tpS hsa s1))), by rw [l5]; omega, ?_⟩
      rw [TL.join_eq]
      have lj : (Str.join (Str.ofString " and ") (sps.map (·.2))).length ≤ 104 := by rw [show (Rd.sS " and ").length = 5 from l5] at lj; exact lj
      refine ⟨szl (by rw [Rd.len_app]; omega), cv, c, rfl, r4.same s1, wc, _, rfl, szl (by rw [Rd.len_app, Rd.len_app]; omega), s1, rfl⟩
    rintro σ' H2 ⟨s2, rfl⟩
    refine ⟨fun σ' H1 => Same H H1 ∧ σ' = [some (.ref a), some (.str "ask"), some (.str how), some (.ref ta), some sv, some cv, some (.ref ba), some fv, some (.str (Rd.howS how (tps.map (·.2)) ++ Rd.sS " from " ++ Str.join (Rd.sS " and ") ts ++ Rd.whereS c ++ Rd.byS (bps.map (·.2)))), none], ?_, ?_⟩
    · simp? only [tLc_eq, iTup, hba]
      intro p hp
      have s3 := same_new (o := HO.tup []) hp
      have sx := s2.trans s3
      refine ⟨_, Rd.tpS hba sx, ?_⟩
      by_cases c0 : bps.length = 0
      · obtain rfl := List.eq_nil_of_length_eq_zero c0
        rw [if_neg (by decide)]
        exact ⟨sx, by rw [show Rd.byS (([] : List (V × G7.Tm)).map (·.2)) = Str.empty from rfl, Rd.app_nil]⟩
      · rw [if_pos (by cases bps with
          | nil => exact absurd rfl c0
          | cons x y => rfl)]
        have hb : Rd.byS (bps.map (·.2)) = Rd.sS " by " ++ Rd.termsS (bps.map (·.2)) := by unfold Rd.byS; rw [if_neg (by rw [List.length_map]; exact c0)]
        have l4 : (Str.ofString " by ").length = 4 := Rd.lens.2.2.2.2.1
        refine ⟨szl (by omega), ⟨_, .inl (rd_tpO (Rd.tpS hba sx))⟩, terms_lc (Rd.tpS hba sx) (fun x hx => (bp2 x hx).same sx) wb fun D H4 hD s4 eD => ⟨D, rfl, _, .inl (.inl (.inl eD)), terms_sum wb, ?_⟩⟩
        have lb := Rd.len_terms wb
        rw [terms_join, hb]
        exact ⟨szl (by rw [Rd.len_app]; omega), sx.trans s4, Rd.app_assoc ..⟩
    rintro σ' H3 ⟨s3, rfl⟩
    simp? only []
    cases first with
    | none =>
      have r6 : fv = .non := by simpa only [Nm.dxI, RX] using r6
      subst r6
      rw [if_pos (by decide)]
      have q3 := q H3 s3
      replace q3 : Q (.str (Rd.howS how (tps.map (·.2)) ++ Rd.sS " from " ++ Str.join (Rd.sS " and ") ts ++ Rd.whereS c ++ Rd.byS (bps.map (·.2)) ++ Str.empty)) H3 := q3
      rwa [Rd.app_nil] at q3
    | some i =>
      obtain rfl := Nm.rx_i r6
      rw [if_neg (by rw [decide_eq_false (fun z => nomatch z)]; decide)]
      have w := wf i rfl
      have lB := Rd.len_by wb
      have lC : (Rd.howS how (tps.map (·.2)) ++ Rd.sS " from " ++ Str.join (Rd.sS " and ") ts ++ Rd.whereS c ++ Rd.byS (bps.map (·.2))).length ≤ 17400 := by rw [Rd.len_app]; omega
      have l7 : (Str.ofString " first ").length = 7 := Rd.lens.2.2.2.2.2.1
      exact ⟨szl (by omega), i, rfl, Rd.log_num w.1 w.2, szl (by rw [Rd.len_app]; have := Rd.len_num w.1 w.2; show _ + (D72.strI i).length ≤ _; omega), by have q3 := q H3 s3; rw [Rd.app_assoc]; exact q3⟩
omit w K mg base P in
theorem strs_us {H : Hp} : ∀ {fs : List Str} {us : List V}, RXs H us (fs.map Dx.str) → us = (fs.map fun f => (V.str f, f)).map (·.1)
  | [], us, r => Nm.rxs_no r
  | f :: fs, us, r => by
    obtain ⟨u, us, rfl, z, r⟩ := Nm.rxs_un r
    rw [List.map_cons, List.map_cons, ← strs_us r, Nm.rx_s z]
omit w K mg base P in
theorem ints_us {H : Hp} : ∀ {fs : List Int} {us : List V}, RXs H us (fs.map Dx.int) → us = (fs.map fun f => (V.int f, D72.strI f)).map (·.1)
  | [], us, r => Nm.rxs_no r
  | f :: fs, us, r => by
    obtain ⟨u, us, rfl, z, r⟩ := Nm.rxs_un r
    rw [List.map_cons, List.map_cons, ← ints_us r, Nm.rx_i z]
omit w mg base P in
theorem strs_lc {ta : Addr} {ps : List (V × Str)} {H : Hp} {x0 x1 x2 x3 x5 x6 : Option V} {Q' : VK} (hta : tpO (H ta) = some (ps.map (·.1))) (hl : ps.length ≤ 8) {r : List V → Hp → VK → Prop} (hp : ∀ p ∈ ps, ∀ (H : Hp) (Q : VK), Q (.str p.2) H → r [p.1] H Q)
    (k : ∀ D H', H D = none → Same H H' → H' D = some (.lst ((ps.map (·.2)).map V.str)) → Q' (.ref D) H') : lcB (Itt K ta) (gName 4) tYes (tCB r (tCons (tVar 4) tNil)) [4] [x0, x1, x2, x3, none, x5, x6] H Q' := by
  refine lc_all (walk_tup (xs := ps.map (·.1))) ps (fun p y _ => y = .str p.2) (by rw [List.length_map]) (by omega) (fun H1 s => .inl (rd_tpO (Rd.tpS hta s))) yat_same (fun _ _ _ _ _ h _ _ => h) (fun i p x H1 H2 Q2 he s1 hy k1 => ?_) fun D H1 zs hD e1 s1 e2 e3 => ?_
  · obtain ⟨rfl, rfl⟩ := yat_of he hy
    have hm := List.mem_of_getElem? he
    simp? only [gName]
    exact hp p hm _ _ (k1 _ _ (Same.refl _) rfl)
  · rw [zs_vals (f := fun p : V × Str => V.str p.2) e1 e3] at e2
    exact k D H1 hD s1 (by rw [List.map_map]; exact e2)
theorem ok_written (T : Txt K mg w) : FnOk P w K mg base CX0 11 T.f_written T.fd_written ["tree"] spStTxt := by
  have G_tree_text := ok_tree_text (P := P) (base := base) T 6
  have G_where_text := ok_where_text (P := P) (base := base) T
  have G_ask_text := ok_ask_text (P := P) (base := base) T
  refine T.F_written.ok sc_written (fun vs H Q E h => ?_) (fun cdv A outer s H vs Q E hr h => ?_)
  · obtain ⟨v, s, rfl, _⟩ := h
    rfl
  · have hu := hu_of hr
    have hu64 := hu64_of hr
    obtain ⟨v, st, rfl, R, wd, q⟩ := h
    refine ⟨_, (pss_cons (ps_set (i := 1) sc_written.nd rfl (Or.inl rfl) (pe_ix ix_tp (pv 0) pe_int (fun _ _ => rfl)))
      (pss_cons (ps_if (pt_cmpR (op_inQ T.D_ALONE) (pv 1) (pe_glob rfl T.mg_ALONE (v := .ref T.a_ALONE) rfl) (by rfl)) (pss_one (ps_ret (pv 1))) pss_nil)
      (pss_cons (ps_if (pt_cmpR op_eq (pv 1) pe_str (nomark _)) (pss_one (ps_ret (pe_call G_ask_text (hr.mono (by decide)) rfl T.mg_ask_text T.F_ask_text.kp T.b_ask_text .nil pass0 (pa_cons (pv 0) pa_nil)))) pss_nil)
      (Evl.pss_cut (ps_set (i := 2) sc_written.nd rfl (Or.inl rfl) (pe_op op_add_str (pe_op op_add_str (pv 1) pe_str) (pe_ix ix_tp (pv 0) pe_int (fun _ _ => rfl))))
      (pss_cons (ps_if (pt_cmpR op_inT (pv 1) (pe_tup (pa_cons pe_str (pa_cons pe_str pa_nil))) (by rfl)) (pss_one (ps_ret (pe_join pe_str (pe_op op_cat (pe_lst (pa_cons (pv 2) pa_nil)) (pe_lc (own := [("one", 4)]) (g := gName 4) (tt := tYes) rfl sc_written.nd (pi_tupK K rfl (pe_ix ix_tp (pv 0) pe_int (fun _ _ => rfl))) (blkOk_by (N := N_written) (sc := defScope s_written) (by decide +kernel)) (fun _ _ _ _ _ => (pg_name (i := 4) sc_written.nd rfl (Or.inl rfl))) (fun _ _ _ _ _ => pts_nil) (fun _ _ _ _ _ => (pe_callTy call_str_any (by rfl) T.n_str (by decide +kernel) (pa_cons (pv 4) pa_nil)))))))) pss_nil)
      (pss_cons (ps_if (pt_cmpR op_eq (pv 1) pe_str (nomark _)) (pss_one (ps_ret (pe_op op_add_str (pe_op op_add_str (pv 2) pe_str) (pe_ix ix_tp (pv 0) pe_int (fun _ _ => rfl))))) pss_nil)
      (pss_cons (ps_if (pt_cmpR op_eq (pv 1) pe_str (nomark _)) (pss_one (ps_ret (pe_op op_add_str (pv 2) (pe_call G_where_text (hr.mono (by decide)) rfl T.mg_where_text T.F_where_text.kp T.b_where_text .nil pass0 (pa_cons (pe_ix ix_tp (pv 0) pe_int (fun _ _ => rfl)) pa_nil))))) pss_nil)
      (Evl.pss_cut (ps_set (i := 3) sc_written.nd rfl (Or.inl rfl) (pe_join pe_str (pe_lc (own := [("field", 5), ("term", 6)]) (tt := tYes) rfl sc_written.nd (pi_tupK K rfl (pe_ix ix_tp (pv 0) pe_int (fun _ _ => rfl))) (blkOk_by (N := N_written) (sc := defScope s_written) (by decide +kernel)) (fun _ _ _ _ _ => (pg_tupH (n := 2) rfl (pgs_cons (pg_name (i := 5) sc_written.nd rfl (Or.inl rfl)) (pgs_cons (pg_name (i := 6) sc_written.nd rfl (Or.inl rfl)) pgs_nil)))) (fun _ _ _ _ _ => pts_nil) (fun _ _ _ _ _ => (pe_op op_add_str (pe_op op_add_str (pv 5) pe_str) (pe_call G_tree_text (hr.mono (by decide)) rfl T.mg_tree_text T.F_tree_text.kp T.b1_tree_text T.d1_tree_text pass0 (pa_cons (pv 6) pa_nil)))))))
      (pss_one (ps_ret (pe_op op_add_str (pe_op op_add_str (pe_op op_add_str (pv 2) pe_str) (pv 3)) (pe_call G_where_text (hr.mono (by decide)) rfl T.mg_where_text T.F_where_text.kp T.b_where_text .nil pass0 (pa_cons (pe_ix ix_tp (pv 0) pe_int (fun _ _ => rfl)) pa_nil))))))))))))), ?_⟩
    rw [show L2.start N_written [v] = [some (v), none, none, none, none, none, none] from rfl]
    have l1 : (Str.ofString " ").length = 1 := Rd.lens.2.1
    have l6 : (Str.ofString "set").length = 3 ∧ (Str.ofString "strike").length = 6 ∧ (Str.ofString "table").length = 5 ∧ (Str.ofString "put").length = 3 ∧ (Str.ofString "index").length = 5 := by decide +kernel
    have ln := Rd.St.len wd
    cases st with
    | alone x =>
      have R : RX H v (.tup [.str x]) := R
      obtain ⟨a, us, rfl, ha, r⟩ := Nm.rx_tpO R
      obtain ⟨u0, us, rfl, h0, r⟩ := Nm.rxs_un r
      obtain rfl := Nm.rxs_no r
      obtain rfl := Nm.rx_s h0
      simp? only [ha]
      have wd : x ∈ (["begin", "done", "undo"] : List Str) := wd
      rw [hasS_mem, if_pos (decide_eq_true wd)]
      exact q H (Same.refl H)
    | ask how tm ts c bys first =>
      have R0 : RX H v (.tup [.str "ask", .str how, .tup ((tm.map Nm.trT).map Nm.Tr.dx), Nm.dxs ts, Nm.dxO (c.map Nm.trC), .tup ((bys.map Nm.trT).map Nm.Tr.dx), Nm.dxI first]) := R
      obtain ⟨a, us, rfl, ha, r⟩ := Nm.rx_tpO R0
      obtain ⟨u0, us, rfl, h0, r⟩ := Nm.rxs_un r
      obtain rfl := Nm.rx_s h0
      simp? only [ha, at0]
      exact ⟨_, how, tm, ts, c, bys, first, rfl, R, wd, q⟩
    | table t fs =>
      have R : RX H v (.tup [.str "table", .str t, Nm.dxs fs]) := R
      obtain ⟨a, us, rfl, ha, r⟩ := Nm.rx_tpO R
      obtain ⟨u0, us, rfl, h0, r⟩ := Nm.rxs_un r
      obtain ⟨u1, us, rfl, h1, r⟩ := Nm.rxs_un r
      obtain ⟨u2, us, rfl, h2, r⟩ := Nm.rxs_un r
      obtain rfl := Nm.rxs_no r
      obtain rfl := Nm.rx_s h0
      obtain rfl := Nm.rx_s h1
      obtain ⟨wt, wn, wf⟩ := wd
      simp? only [ha]
      rw [if_neg (by decide +kernel), if_neg (by decide)]
      refine ⟨fun σ' H1 => Same H H1 ∧ σ' = [some (.ref a), some (.str "table"), some (.str (Str.ofString "table" ++ Str.ofString " " ++ t)), none, none, none, none], ?_, ?_⟩
      · simp? only [ha]
        exact ⟨szl (by omega), szl (by rw [Rd.len_app]; omega), Same.refl H⟩
      rintro σ' H1 ⟨s1, rfl⟩
      have ha1 := Rd.tpS ha s1
      simp? only [ha1, tLc_eq, iTup]
      intro p hp
      rw [if_pos (by decide +kernel)]
      intro p1 hp1
      have s2 := same_new (o := HO.tup [V.str "table", V.str "put"]) hp
      have s3 := same_new (o := HO.lst [V.str (Str.ofString "table" ++ Str.ofString " " ++ t)]) hp1
      have sx := (s1.trans s2).trans s3
      obtain ⟨fa, fus, rfl, hfa, rf⟩ := Nm.rx_tpO (show RX H u2 (.tup (fs.map Dx.str)) from h2)
      have ef : fus = (fs.map fun f => (V.str f, f)).map (·.1) := strs_us rf
      rw [ef] at hfa
      refine ⟨_, Rd.tpS ha sx, _, rfl, fa, rfl, ⟨_, .inl (rd_tpO (Rd.tpS hfa sx))⟩, strs_lc (Rd.tpS hfa sx) (by rw [List.length_map]; exact wn) (fun x hx H Q q => ?_) fun D H4 hD s4 eD => ⟨D, rfl, _, s4 _ _ upd_same, _, eD, szl (by simp only [List.length_map, List.length_cons, List.length_nil]; omega), fun p5 hp5 => ⟨(Str.ofString "table" ++ Str.ofString " " ++ t) :: (fs.map fun f => (V.str f, f)).map (·.2), .inl (.inl (.inl upd_same)), ?_, ?_⟩⟩⟩
      · obtain ⟨f, hf, rfl⟩ := List.mem_map.mp hx
        exact .inr ⟨f, rfl, q⟩
      · have z := Rd.sum_len (ps := (fs.map fun f => (V.str f, f)).map (·.2)) (B := 8) (fun x hx => by
          obtain ⟨y, hy, rfl⟩ := List.mem_map.mp hx
          obtain ⟨f, hf, rfl⟩ := List.mem_map.mp hy
          exact wf f hf)
        rw [List.length_map, List.length_map] at z
        rw [List.map_cons, List.sum_cons, List.length_cons, List.length_map, List.length_map, l1, Rd.len_app, Rd.len_app]
        omega
      · rw [TL.join_eq, Rd.join_cons2, List.map_map]
        have e : fs.map ((fun x => x.2) ∘ fun f => (V.str f, f)) = fs := List.map_id _
        rw [e]
        exact q _ ((sx.trans s4).trans (same_new hp5))
    | put t ns =>
      have R : RX H v (.tup [.str "put", .str t, .tup (ns.map Dx.int)]) := R
      obtain ⟨a, us, rfl, ha, r⟩ := Nm.rx_tpO R
      obtain ⟨u0, us, rfl, h0, r⟩ := Nm.rxs_un r
      obtain ⟨u1, us, rfl, h1, r⟩ := Nm.rxs_un r
      obtain ⟨u2, us, rfl, h2, r⟩ := Nm.rxs_un r
      obtain rfl := Nm.rxs_no r
      obtain rfl := Nm.rx_s h0
      obtain rfl := Nm.rx_s h1
      obtain ⟨wt, wn, wf⟩ := wd
      simp? only [ha]
      rw [if_neg (by decide +kernel), if_neg (by decide)]
      refine ⟨fun σ' H1 => Same H H1 ∧ σ' = [some (.ref a), some (.str "put"), some (.str (Str.ofString "put" ++ Str.ofString " " ++ t)), none, none, none, none], ?_, ?_⟩
      · simp? only [ha]
        exact ⟨szl (by omega), szl (by rw [Rd.len_app]; omega), Same.refl H⟩
      rintro σ' H1 ⟨s1, rfl⟩
      have ha1 := Rd.tpS ha s1
      simp? only [ha1, tLc_eq, iTup]
      intro p hp
      rw [if_pos (by decide +kernel)]
      intro p1 hp1
      have s2 := same_new (o := HO.tup [V.str "table", V.str "put"]) hp
      have s3 := same_new (o := HO.lst [V.str (Str.ofString "put" ++ Str.ofString " " ++ t)]) hp1
      have sx := (s1.trans s2).trans s3
      obtain ⟨fa, fus, rfl, hfa, rf⟩ := Nm.rx_tpO (show RX H u2 (.tup (ns.map Dx.int)) from h2)
      have ef : fus = (ns.map fun n => (V.int n, D72.strI n)).map (·.1) := ints_us rf
      rw [ef] at hfa
      refine ⟨_, Rd.tpS ha sx, _, rfl, fa, rfl, ⟨_, .inl (rd_tpO (Rd.tpS hfa sx))⟩, strs_lc (Rd.tpS hfa sx) (by rw [List.length_map]; exact wn) (fun x hx H Q q => ?_) fun D H4 hD s4 eD => ⟨D, rfl, _, s4 _ _ upd_same, _, eD, szl (by simp only [List.length_map, List.length_cons, List.length_nil]; omega), fun p5 hp5 => ⟨(Str.ofString "put" ++ Str.ofString " " ++ t) :: (ns.map fun n => (V.int n, D72.strI n)).map (·.2), .inl (.inl (.inl upd_same)), ?_, ?_⟩⟩⟩
      · obtain ⟨f, hf, rfl⟩ := List.mem_map.mp hx
        exact .inl ⟨f, rfl, Rd.log_num (wf f hf).1 (wf f hf).2, q⟩
      · have z := Rd.sum_len (ps := (ns.map fun n => (V.int n, D72.strI n)).map (·.2)) (B := 8) (fun x hx => by
          obtain ⟨y, hy, rfl⟩ := List.mem_map.mp hx
          obtain ⟨f, hf, rfl⟩ := List.mem_map.mp hy
          exact Nat.le_trans (Rd.len_num (wf f hf).1 (wf f hf).2) (by decide))
        rw [List.length_map, List.length_map] at z
        rw [List.map_cons, List.sum_cons, List.length_cons, List.length_map, List.length_map, l1, Rd.len_app, Rd.len_app]
        omega
      · rw [TL.join_eq, Rd.join_cons2, List.map_map]
        exact q _ ((sx.trans s4).trans (same_new hp5))
    | index t f =>
      have R : RX H v (.tup [.str "index", .str t, .str f]) := R
      obtain ⟨a, us, rfl, ha, r⟩ := Nm.rx_tpO R
      obtain ⟨u0, us, rfl, h0, r⟩ := Nm.rxs_un r
      obtain ⟨u1, us, rfl, h1, r⟩ := Nm.rxs_un r
      obtain ⟨u2, us, rfl, h2, r⟩ := Nm.rxs_un r
      obtain rfl := Nm.rxs_no r
      obtain rfl := Nm.rx_s h0
      obtain rfl := Nm.rx_s h1
      obtain rfl := Nm.rx_s h2
      obtain ⟨wt, wf⟩ := wd
      simp? only [ha]
      rw [if_neg (by decide +kernel), if_neg (by decide)]
      refine ⟨fun σ' H1 => Same H H1 ∧ σ' = [some (.ref a), some (.str "index"), some (.str (Str.ofString "index" ++ Str.ofString " " ++ t)), none, none, none, none], ?_, ?_⟩
      · simp? only [ha]
        exact ⟨szl (by omega), szl (by rw [Rd.len_app]; omega), Same.refl H⟩
      rintro σ' H1 ⟨s1, rfl⟩
      have ha1 := Rd.tpS ha s1
      simp? only [ha1, tLc_eq, iTup]
      intro p hp
      rw [if_neg (by decide +kernel)]
      have s2 := same_new (o := HO.tup [V.str "table", V.str "put"]) hp
      have sx := s1.trans s2
      refine ⟨szl (by rw [Rd.len_app, Rd.len_app]; omega), _, Rd.tpS ha sx, _, rfl, f, rfl, szl (by rw [Rd.len_app, Rd.len_app, Rd.len_app]; omega), q _ sx⟩
    | strike t c =>
      have R : RX H v (.tup [.str "strike", .str t, Nm.dxO (c.map Nm.trC)]) := R
      obtain ⟨a, us, rfl, ha, r⟩ := Nm.rx_tpO R
      obtain ⟨u0, us, rfl, h0, r⟩ := Nm.rxs_un r
      obtain ⟨u1, us, rfl, h1, r⟩ := Nm.rxs_un r
      obtain ⟨u2, us, rfl, h2, r⟩ := Nm.rxs_un r
      obtain rfl := Nm.rxs_no r
      obtain rfl := Nm.rx_s h0
      obtain rfl := Nm.rx_s h1
      obtain ⟨wt, wc⟩ := wd
      simp? only [ha]
      rw [if_neg (by decide +kernel), if_neg (by decide)]
      refine ⟨fun σ' H1 => Same H H1 ∧ σ' = [some (.ref a), some (.str "strike"), some (.str (Str.ofString "strike" ++ Str.ofString " " ++ t)), none, none, none, none], ?_, ?_⟩
      · simp? only [ha]
        exact ⟨szl (by omega), szl (by rw [Rd.len_app]; omega), Same.refl H⟩
      rintro σ' H1 ⟨s1, rfl⟩
      have ha1 := Rd.tpS ha s1
      simp? only [ha1, tLc_eq, iTup]
      intro p hp
      rw [if_neg (by decide +kernel)]
      have s2 := same_new (o := HO.tup [V.str "table", V.str "put"]) hp
      have sx := s1.trans s2
      rw [if_neg (by decide +kernel)]
      have lw := Rd.len_where wc
      exact ⟨_, Rd.tpS ha sx, _, rfl, u2, c, rfl, h2.same sx, wc, _, rfl, szl (by rw [Rd.len_app, Rd.len_app]; omega), q _ sx⟩
    | set t ss c =>
      have R : RX H v (.tup [.str "set", .str t, .tup ((ss.map fun s => (s.1, Nm.trT s.2)).map fun s => .tup [.str s.1, s.2.dx]), Nm.dxO (c.map Nm.trC)]) := R
      obtain ⟨a, us, rfl, ha, r⟩ := Nm.rx_tpO R
      obtain ⟨u0, us, rfl, h0, r⟩ := Nm.rxs_un r
      obtain ⟨u1, us, rfl, h1, r⟩ := Nm.rxs_un r
      obtain ⟨u2, us, rfl, h2, r⟩ := Nm.rxs_un r
      obtain ⟨u3, us, rfl, h3, r⟩ := Nm.rxs_un r
      obtain rfl := Nm.rxs_no r
      obtain rfl := Nm.rx_s h0
      obtain rfl := Nm.rx_s h1
      obtain ⟨wt, wn, ws, wc⟩ := wd
      simp? only [ha]
      rw [if_neg (by decide +kernel), if_neg (by decide)]
      refine ⟨fun σ' H1 => Same H H1 ∧ σ' = [some (.ref a), some (.str "set"), some (.str (Str.ofString "set" ++ Str.ofString " " ++ t)), none, none, none, none], ?_, ?_⟩
      · simp? only [ha]
        exact ⟨szl (by omega), szl (by rw [Rd.len_app]; omega), Same.refl H⟩
      rintro σ' H1 ⟨s1, rfl⟩
      have ha1 := Rd.tpS ha s1
      simp? only [ha1, tLc_eq, iTup]
      intro p hp
      rw [if_neg (by decide +kernel)]
      have s2 := same_new (o := HO.tup [V.str "table", V.str "put"]) hp
      have sx := s1.trans s2
      rw [if_neg (by decide +kernel), if_neg (by decide +kernel)]
      rw [List.map_map] at h2
      obtain ⟨fa, ps, rfl, hfa, rfl, hps⟩ := Rd.rx_pairs h2
      rw [List.length_map] at wn
      have ha2 := Rd.tpS ha sx
      have hfa2 := Rd.tpS hfa sx
      have l3 : (Str.ofString " = ").length = 3 := Rd.lens.2.2.2.2.2.2.2
      have l2 : (Str.ofString ", ").length = 2 := Rd.lens.1
      have lw := Rd.len_where wc
      have ls := Rd.len_sets (by rw [List.length_map]; exact wn) ws
      generalize upd H1 p (HO.tup [V.str "table", V.str "put"]) = H2 at *
      refine ⟨fun σ' H3 => Same H H3 ∧ σ' = [some (.ref a), some (.str "set"), some (.str (Str.ofString "set" ++ Str.ofString " " ++ t)), some (.str (Str.join (Str.ofString ", ") ((ps.map (·.2)).map Rd.setS))), none, none, none], ?_, ?_⟩
      · simp? only [tLc_eq, iTup, ha2]
        refine ⟨⟨_, .inl (rd_tpO hfa2)⟩, lc_all (walk_tup (xs := ps.map (·.1))) ps (fun p y _ => y = .str (Rd.setS p.2)) (by rw [List.length_map]) (by omega) (fun H1 s => .inl (rd_tpO (Rd.tpS hfa2 s))) yat_same (fun _ _ _ _ _ h _ _ => h) (fun i p x H4 H5 Q2 he s4 hy k1 => ?_) fun D H4 zs hD e1 s4 e2 e3 => ?_⟩
        · obtain ⟨rfl, rfl⟩ := yat_of he hy
          have hm := List.mem_of_getElem? he
          obtain ⟨b, us, eb, hb, rb⟩ := Nm.rx_tpO (show RX H p.1 (.tup [.str p.2.1, (Nm.trT p.2.2).dx]) from hps p hm)
          obtain ⟨v0, us, rfl, g0, rb⟩ := Nm.rxs_un rb
          obtain ⟨v1, us, rfl, g1, rb⟩ := Nm.rxs_un rb
          obtain rfl := Nm.rxs_no rb
          obtain rfl := Nm.rx_s g0
          have hb5 := Rd.tpS (Rd.tpS hb sx) s4
          obtain ⟨w1, w2, w3⟩ := ws p.2 (List.mem_map.mpr ⟨p, hm, rfl⟩)
          have lt := Rd.len_T6 ⟨w2, w3⟩ 0
          rw [eb]
          simp? only [gTupH, gCons, gNil, gName, hb5]
          refine ⟨szl (by omega), v1, .t p.2.2, 0, rfl, (g1.same sx).same s4, w2, w3, by show p.2.2.deep ≤ 10; omega, _, rfl, szl (by rw [Rd.len_app]; show _ + (Rd.txtT p.2.2 0).length ≤ _; omega), ?_⟩
          exact k1 _ _ (Same.refl _) (by show V.str (p.2.1 ++ Str.ofString " = " ++ Rd.txtT p.2.2 0) = _; rw [← Rd.txt_04 _ w2]; rfl)
        · rw [zs_vals (f := fun p : V × (Str × G7.Tm) => V.str (Rd.setS p.2)) e1 e3] at e2
          refine ⟨D, rfl, (ps.map (·.2)).map Rd.setS, .inl (.inl (.inl (by rw [e2, List.map_map, List.map_map]; rfl))), ?_, sx.trans s4, by rw [TL.join_eq]⟩
          have z := Rd.sum_len (ps := (ps.map (·.2)).map Rd.setS) (B := 1023) (fun x hx => by
            obtain ⟨y, hy, rfl⟩ := List.mem_map.mp hx
            obtain ⟨w1, w2, w3⟩ := ws y hy
            have := Rd.len_T6 ⟨w2, w3⟩ 4
            show (y.1 ++ Rd.sS " = " ++ Rd.txtT y.2 4).length ≤ _
            rw [Rd.len_app, Rd.len_app]
            show _ + (Str.ofString " = ").length + _ ≤ _
            omega)
          rw [List.length_map, List.length_map] at z
          rw [List.length_map, List.length_map, l2]
          omega
      rintro σ' H3 ⟨s3, rfl⟩
      have ha3 := Rd.tpS ha s3
      simp? only [ha3]
      have ls' : (Str.join (Str.ofString ", ") ((ps.map (·.2)).map Rd.setS)).length ≤ 8200 := ls
      exact ⟨szl (by rw [Rd.len_app, Rd.len_app]; omega), szl (by rw [Rd.len_app, Rd.len_app, Rd.len_app]; omega), u3, c, rfl, h3.same s3, wc, _, rfl, szl (by rw [Rd.len_app, Rd.len_app, Rd.len_app, Rd.len_app]; omega), q _ s3⟩
end

/-! the law's own writer: trees -/
def KV6 : List (Key × V) := [(.inr (Str.ofString "or"), .int 0), (.inr (Str.ofString "and"), .int 1), (.inr (Str.ofString "not"), .int 2), (.inr (Str.ofString "+"), .int 4), (.inr (Str.ofString "-"), .int 4), (.inr (Str.ofString "*"), .int 5)]
theorem kv6_merge : mergeK [] KV6 = KV6 := rfl
theorem kv6_lvl {o : Wd} (h : o ≠ .num ∧ o ≠ .field) : (valV KV6 (Sum.inr o.s)).getD (V.int 3) = V.int o.lvl := by
  cases o <;> first | rfl | exact absurd rfl h.1 | exact absurd rfl h.2
def spTxtS (d : Nat) : Sp := fun vs H Q _ => ∃ (v : V) (e : Rd.Ex) (k : Nat), vs = [v, .int k] ∧ RX H v e.tr.dx ∧ e.wd ∧ e.deep ≤ d ∧ e.deep ≤ 10 ∧ ∀ H', Same H H' → Q (.str (e.txt k)) H'
section
variable {P : Program} {w : World} {K : PySem.W.Frag} {mg : Str → Option Value} {base : Heap}
theorem l_text_step (T : Txt K mg w) (n : Nat) (sp0 : Sp) (G_l_text : FnOk P w K mg base CX0 (n + 1) T.f_l_text T.fd_l_text ["_law_tree", "_law_tight"] sp0) (h0 : ∀ e, n = e + 1 → sp0 = spTxtS e) :
    FnOk P w K mg base CX0 (n + 2) T.f_l_text T.fd_l_text ["_law_tree", "_law_tight"] (spTxtS n) := by
  refine T.F_l_text.ok sc_l_text (fun vs H Q E h => ?_) (fun cdv A outer s H vs Q E hr h => ?_)
  · obtain ⟨v, e, k, rfl, _⟩ := h
    rfl
  · have hu := hu_of hr
    have hu64 := hu64_of hr
    obtain ⟨v, e, k, rfl, R, wd, dp, d12, q⟩ := h
    refine ⟨_, (pss_cons (ps_set (i := 2) sc_l_text.nd rfl (Or.inl rfl) (pe_ix ix_tp (pv 0) pe_int (fun _ _ => rfl)))
      (pss_cons (ps_if (PW.pt (pw_or (pt_cmpR op_eq (pv 2) pe_str (nomark _)) (pw_or1 (pt_cmpR op_eq (pv 2) pe_str (nomark _))))) (pss_one (ps_ret (pe_ifExp (pt_cmpR op_eq (pv 2) pe_str (nomark _)) (pe_callTy call_str_int (by rfl) T.n_str (by decide +kernel) (pa_cons (pe_ix ix_tp (pv 0) pe_int (fun _ _ => rfl)) pa_nil)) (pe_op op_add_str (pe_op op_add_str (pe_ix ix_tp (pv 0) pe_int (fun _ _ => rfl)) (pe_op op_mulS pe_str (pe_callTy int_bl (by rfl) T.n_int (by decide +kernel) (pa_cons (pe_cmpR op_ne (pe_ix ix_tp (pv 0) pe_int (fun _ _ => rfl)) pe_str (nomark _)) pa_nil)))) (pe_ix ix_tp (pv 0) pe_int (fun _ _ => rfl)))))) pss_nil)
      (pss_cons (ps_set (i := 3) sc_l_text.nd rfl (Or.inl rfl) (pe_get2 hu (pe_disp (pps_cons pe_str pe_int (pps_cons pe_str pe_int (pps_cons pe_str pe_int (pps_cons pe_str pe_int (pps_cons pe_str pe_int (pps_cons pe_str pe_int pps_nil)))))) rfl rfl (by intro q; cases q) (by decide)) (pv 2) pe_int))
      (pss_cons (ps_if (pt_cmpR op_eq (pv 2) pe_str (nomark _)) (pss_one (ps_set (i := 4) sc_l_text.nd rfl (Or.inl rfl) (pe_op op_add_str pe_str (pe_call G_l_text (hr.mono (by show _ ≤ n + 1; omega)) rfl T.mg_l_text T.F_l_text.kp T.b_l_text .nil pass0 (pa_cons (pe_ix ix_tp (pv 0) pe_int (fun _ _ => rfl)) (pa_cons pe_int pa_nil)))))) (pss_one (ps_set (i := 4) sc_l_text.nd rfl (Or.inl rfl) (pe_op op_add_str (pe_op op_add_str (pe_op op_add_str (pe_op op_add_str (pe_call G_l_text (hr.mono (by show _ ≤ n + 1; omega)) rfl T.mg_l_text T.F_l_text.kp T.b_l_text .nil pass0 (pa_cons (pe_ix ix_tp (pv 0) pe_int (fun _ _ => rfl)) (pa_cons (pe_ifExp (pt_cmpR op_eq (pv 3) pe_int (nomark _)) pe_int (pv 3)) pa_nil))) pe_str) (pv 2)) pe_str) (pe_call G_l_text (hr.mono (by show _ ≤ n + 1; omega)) rfl T.mg_l_text T.F_l_text.kp T.b_l_text .nil pass0 (pa_cons (pe_ix ix_tp (pv 0) pe_int (fun _ _ => rfl)) (pa_cons (pe_op op_add (pv 3) pe_int) pa_nil)))))))
      (pss_one (ps_ret (pe_ifExp (pt_cmpR op_lt (pv 3) (pv 1) (nomark _)) (pe_op op_add_str (pe_op op_add_str pe_str (pv 4)) pe_str) (pv 4)))))))), ?_⟩
    rw [show L2.start N_l_text [v, V.int k] = [some (v), some (V.int k), none, none, none] from rfl]
    have ln := Rd.Ex.len (k := k) wd
    have pw : 2 ^ e.deep ≤ 2 ^ 10 := Nat.pow_le_pow_right (by decide) d12
    rcases Rd.Ex.two wd with ⟨i, rfl⟩ | ⟨t, f, rfl⟩ | ⟨c, rfl⟩ | ⟨o, a, b, et, ho, wa, wb, ed, ex⟩
    · obtain ⟨p, rfl, hp⟩ := Rd.num_e R
      simp? only [hp]
      exact ⟨Rd.log_num wd.1 wd.2, q H (Same.refl H)⟩
    · obtain ⟨p, rfl, hp⟩ := Rd.fld_e R
      simp? only [hp]
      rw [if_neg (by decide), if_neg (by decide)]
      have wd : t.length ≤ 8 ∧ f.length ≤ 8 := wd
      have l4 : (Str.ofString ".").length = 1 := Rd.len_sS1.2.2.2.1
      have q := q H (Same.refl H)
      replace q : Q (.str (Rd.fldS t f)) H := q
      unfold Rd.fldS at q
      by_cases c : t = ""
      · rw [decide_eq_true (show t = Str.ofString "" from c)]
        rw [if_pos c] at q
        refine ⟨by decide, szl (by simp [Str.length, Str.empty]; show t.length ≤ _; omega), szl ?_, ?_⟩
        · show (t ++ Str.empty).length + _ ≤ _
          rw [Rd.app_nil]; omega
        · show Q (.str (t ++ Str.empty ++ f)) H
          rw [Rd.app_nil, c, show (Str.ofString "" ++ f : Str) = Str.empty ++ f from rfl, Rd.nil_app]
          exact q
      · rw [decide_eq_false (show ¬ t = Str.ofString "" from c)]
        rw [if_neg c] at q
        refine ⟨by decide, szl ?_, szl ?_, q⟩
        · show t.length + (Str.ofString ".").length ≤ _
          omega
        · show (t ++ Str.ofString ".").length + _ ≤ _
          rw [Rd.len_app]; omega
    · obtain ⟨p, u, rfl, hp, ru⟩ := Rd.node1_e (w := Wd.s .not) R
      simp? only [hp]
      rw [if_neg (by decide +kernel), if_neg (by decide +kernel)]
      simp? only [tDisp, tPairs]
      intro pd hpd
      refine ⟨KV6, rfl, by decide, ?_⟩
      rw [kv6_merge]
      have sx := same_new (o := HO.dK KV6) hpd
      generalize upd H pd (HO.dK KV6) = H1 at sx ⊢
      have hp1 := Rd.tpS hp sx
      rw [kv6_lvl (by decide), if_pos (by decide +kernel)]
      have dn : (Rd.Ex.c c.neg).deep = c.deep + 1 := rfl
      obtain ⟨m, rfl⟩ : ∃ m, n = m + 1 := ⟨n - 1, by omega⟩
      rw [h0 m rfl]
      have l2 := Rd.Ex.len (e := .c c) (k := 2) wd
      have pw2 : 2 ^ (Rd.Ex.c c).deep ≤ 2 ^ 10 := Nat.pow_le_pow_right (by decide) (by show c.deep ≤ 10; omega)
      have l4 : (Str.ofString "not ").length = 4 := Rd.len_sS1.2.2.2.2
      have l1 : (Str.ofString "(").length = 1 := Rd.len_sS1.1
      have l3 : (Str.ofString ")").length = 1 := Rd.len_sS1.2.1
      refine ⟨_, hp1, u, rfl, u, .c c, 2, rfl, ru.same sx, wd, by show c.deep ≤ m; omega, by show c.deep ≤ 10; omega, fun H2 s2 => ⟨_, rfl, szl (by omega), _, rfl, ?_⟩⟩
      have q := q H2 (sx.trans s2)
      replace q : Q (.str (Rd.brS 2 k (Rd.sS "not " ++ Rd.txtC c 2))) H2 := q
      unfold Rd.brS at q
      by_cases c2 : 2 < k
      · rw [if_pos (decide_eq_true (by show (2 : Int) < k; omega))]
        rw [if_pos c2] at q
        exact ⟨szl (by rw [Rd.len_app]; omega), szl (by rw [Rd.len_app, Rd.len_app]; omega), q⟩
      · rw [if_neg (fun z => c2 (by have z : (2 : Int) < k := of_decide_eq_true z; omega))]
        rw [if_neg c2] at q
        exact q
    · rw [et] at R
      obtain ⟨p, u, u2, rfl, hp, ru, ru2⟩ := Rd.node2_e R
      simp? only [hp]
      have ow := Rd.op_no ho
      rw [if_neg (fun z => ow.1 (of_decide_eq_true z)), if_neg (fun z => ow.2.1 (of_decide_eq_true z))]
      simp? only [tDisp, tPairs]
      intro pd hpd
      refine ⟨KV6, rfl, by decide, ?_⟩
      rw [kv6_merge]
      have sx := same_new (o := HO.dK KV6) hpd
      generalize upd H pd (HO.dK KV6) = H1 at sx ⊢
      have hp1 := Rd.tpS hp sx
      have on : o ≠ .num ∧ o ≠ .field := ⟨fun z => ow.1 (by rw [z]; rfl), fun z => ow.2.1 (by rw [z]; rfl)⟩
      rw [kv6_lvl on, if_neg (fun z => ow.2.2 (of_decide_eq_true z))]
      obtain ⟨m, rfl⟩ : ∃ m, n = m + 1 := ⟨n - 1, by omega⟩
      rw [h0 m rfl]
      have la : ∀ j, (a.txt j).length + 12 ≤ 16 * 1024 := fun j => by
        have := Rd.Ex.len (k := j) wa
        have pw : 2 ^ a.deep ≤ 2 ^ 10 := Nat.pow_le_pow_right (by decide) (by omega)
        omega
      have lb : ∀ j, (b.txt j).length + 12 ≤ 16 * 1024 := fun j => by
        have := Rd.Ex.len (k := j) wb
        have pw : 2 ^ b.deep ≤ 2 ^ 10 := Nat.pow_le_pow_right (by decide) (by omega)
        omega
      have lo := Rd.len_op ho
      have l1 : (Str.ofString "(").length = 1 := Rd.len_sS1.1
      have l3 : (Str.ofString ")").length = 1 := Rd.len_sS1.2.1
      have l5 : (Str.ofString " ").length = 1 := Rd.len_sS1.2.2.1
      refine ⟨_, hp1, u, rfl, rfl, ?_⟩
      by_cases c3 : o.lvl = 3
      · rw [if_pos (by rw [c3]; decide)]
        have la' := la 4
        have lb' := lb (o.lvl + 1)
        refine ⟨u, a, 4, rfl, ru.same sx, wa, by omega, by omega, fun H2 s2 => ⟨_, rfl, szl (by omega), szl (by rw [Rd.len_app]; omega), szl (by rw [Rd.len_app, Rd.len_app]; omega), _, Rd.tpS hp1 s2, u2, rfl, _, rfl, u2, b, o.lvl + 1, rfl, (ru2.same sx).same s2, wb, by omega, by omega, fun H3 s3 => ⟨_, rfl, szl (by rw [Rd.len_app, Rd.len_app, Rd.len_app]; omega), _, rfl, ?_⟩⟩⟩
        have q := q H3 ((sx.trans s2).trans s3)
        rw [ex, if_pos c3] at q
        unfold Rd.brS at q
        by_cases c2 : o.lvl < k
        · rw [if_pos (decide_eq_true (by omega))]
          rw [if_pos c2] at q
          exact ⟨szl (by rw [Rd.len_app, Rd.len_app, Rd.len_app, Rd.len_app]; omega), szl (by rw [Rd.len_app, Rd.len_app, Rd.len_app, Rd.len_app, Rd.len_app]; omega), q⟩
        · rw [if_neg (fun z => c2 (by have := of_decide_eq_true z; omega))]
          rw [if_neg c2] at q
          exact q
      · rw [if_neg (fun z => c3 (by have z := of_decide_eq_true z; injection z with z; omega))]
        have la' := la o.lvl
        have lb' := lb (o.lvl + 1)
        refine ⟨u, a, o.lvl, rfl, ru.same sx, wa, by omega, by omega, fun H2 s2 => ⟨_, rfl, szl (by omega), szl (by rw [Rd.len_app]; omega), szl (by rw [Rd.len_app, Rd.len_app]; omega), _, Rd.tpS hp1 s2, u2, rfl, _, rfl, u2, b, o.lvl + 1, rfl, (ru2.same sx).same s2, wb, by omega, by omega, fun H3 s3 => ⟨_, rfl, szl (by rw [Rd.len_app, Rd.len_app, Rd.len_app]; omega), _, rfl, ?_⟩⟩⟩
        have q := q H3 ((sx.trans s2).trans s3)
        rw [ex, if_neg c3] at q
        unfold Rd.brS at q
        by_cases c2 : o.lvl < k
        · rw [if_pos (decide_eq_true (by omega))]
          rw [if_pos c2] at q
          exact ⟨szl (by rw [Rd.len_app, Rd.len_app, Rd.len_app, Rd.len_app]; omega), szl (by rw [Rd.len_app, Rd.len_app, Rd.len_app, Rd.len_app, Rd.len_app]; omega), q⟩
        · rw [if_neg (fun z => c2 (by have := of_decide_eq_true z; omega))]
          rw [if_neg c2] at q
          exact q
theorem ok_l_text (T : Txt K mg w) : ∀ d : Nat, FnOk P w K mg base CX0 (d + 2) T.f_l_text T.fd_l_text ["_law_tree", "_law_tight"] (spTxtS d)
  | 0 => l_text_step T 0 (fun _ _ _ _ => False) ⟨fun _ _ _ _ z => z.elim, fun _ _ _ _ _ _ _ _ _ _ _ _ _ z => z.elim⟩ fun e z => by omega
  | d + 1 => l_text_step T (d + 1) (spTxtS d) (ok_l_text T d) fun e z => by rw [show e = d by omega]
end

/-! the law's own writer: statements -/
def spTermsS : Sp := fun vs H Q _ => ∃ (v : V) (ts : List G7.Tm), vs = [v] ∧ RX H v (.tup (ts.map (Nm.Tr.dx ∘ Nm.trT))) ∧ Rd.wdM ts ∧ ∀ H', Same H H' → Q (.str (Rd.termsS ts)) H'
def spWhereS : Sp := fun vs H Q _ => ∃ (v : V) (c : Option G7.Cd), vs = [v] ∧ RX H v (Nm.dxO (c.map Nm.trC)) ∧ Rd.wdO c ∧ ∀ H', Same H H' → Q (.str (Rd.whereS c)) H'
section
variable {P : Program} {w : World} {K : PySem.W.Frag} {mg : Str → Option Value} {base : Heap}
theorem ok_l_terms (T : Txt K mg w) : FnOk P w K mg base CX0 9 T.f_l_terms T.fd_l_terms ["_law_terms_here"] spTermsS := by
  have G_l_text := ok_l_text (P := P) (base := base) T 6
  refine T.F_l_terms.ok sc_l_terms (fun vs H Q E h => ?_) (fun cdv A outer s H vs Q E hr h => ?_)
  · obtain ⟨v, ts, rfl, _⟩ := h
    rfl
  · have hu := hu_of hr
    have hu64 := hu64_of hr
    obtain ⟨v, ts, rfl, R, wd, q⟩ := h
    refine ⟨_, (pss_one (ps_ret (pe_join pe_str (pe_lc (own := [("_law_term_here", 1)]) (g := gName 1) (tt := tYes) rfl sc_l_terms.nd (pi_tupK K rfl (pv 0)) (blkOk_by (N := N_l_terms) (sc := defScope s_l_terms) (by decide +kernel)) (fun _ _ _ _ _ => (pg_name (i := 1) sc_l_terms.nd rfl (Or.inl rfl))) (fun _ _ _ _ _ => pts_nil) (fun _ _ _ _ _ => (pe_call G_l_text (hr.mono (by decide)) rfl T.mg_l_text T.F_l_text.kp T.b_l_text .nil pass0 (pa_cons (pv 1) (pa_cons pe_int pa_nil)))))))), ?_⟩
    rw [show L2.start N_l_terms [v] = [some (v), none] from rfl]
    obtain ⟨ta, ps, rfl, hta, rfl, hp⟩ := Rd.rx_pairs R
    have hl : ps.length ≤ 8 := by have := wd.1; rwa [List.length_map] at this
    simp? only [tLc_eq, iTup, hta]
    refine ⟨⟨_, .inl (rd_tpO hta)⟩, lc_all (walk_tup (xs := ps.map (·.1))) ps (fun p y _ => y = .str (Rd.txtT p.2 4)) (by rw [List.length_map]) (by omega) (fun H1 s => .inl (rd_tpO (Rd.tpS hta s))) yat_same (fun _ _ _ _ _ h _ _ => h) (fun i p x H1 H2 Q2 he s1 hy k1 => ?_) fun D H1 zs hD e1 s1 e2 e3 => ?_⟩
    · obtain ⟨rfl, rfl⟩ := yat_of he hy
      have hm := List.mem_of_getElem? he
      have wt := wd.2 p.2 (List.mem_map.mpr ⟨p, hm, rfl⟩)
      simp? only [gName]
      exact ⟨p.1, .t p.2, 4, rfl, (hp p hm).same s1, wt.1, wt.2, by have := wt.2; show p.2.deep ≤ 10; omega, fun H3 s3 => k1 _ _ s3 rfl⟩
    · rw [zs_vals (f := fun p : V × G7.Tm => V.str (Rd.txtT p.2 4)) e1 e3] at e2
      exact ⟨D, rfl, ps.map (fun p => Rd.txtT p.2 4), .inl (.inl (.inl (by rw [e2, List.map_map]; rfl))), terms_sum wd, by rw [terms_join]; exact q _ s1⟩
theorem ok_l_where (T : Txt K mg w) : FnOk P w K mg base CX0 9 T.f_l_where T.fd_l_where ["_law_cond_here"] spWhereS := by
  have G_l_text := ok_l_text (P := P) (base := base) T 6
  refine T.F_l_where.ok sc_l_where (fun vs H Q E h => ?_) (fun cdv A outer s H vs Q E hr h => ?_)
  · obtain ⟨v, c, rfl, _⟩ := h
    rfl
  · have hu := hu_of hr
    have hu64 := hu64_of hr
    obtain ⟨v, c, rfl, R, wd, q⟩ := h
    refine ⟨_, (pss_one (ps_ret (pe_ifExp (pt_cmpR op_isN (pv 0) pe_non (nomark _)) pe_str (pe_op op_add_str pe_str (pe_call G_l_text (hr.mono (by decide)) rfl T.mg_l_text T.F_l_text.kp T.b_l_text .nil pass0 (pa_cons (pv 0) (pa_cons pe_int pa_nil))))))), ?_⟩
    rw [show L2.start N_l_where [v] = [some (v)] from rfl]
    cases c with
    | none =>
      have R : v = .non := by simpa only [Option.map, Nm.dxO, RX] using R
      subst R
      simp? only []
      exact q H (Same.refl H)
    | some c =>
      have R : RX H v (Nm.trC c).dx := R
      have wc := wd c rfl
      have ⟨a, ea⟩ : ∃ a, v = .ref a := by
        cases ht : Nm.trC c with
        | num n => rw [ht] at R; obtain ⟨b, e, _⟩ := Rd.num_e R; exact ⟨b, e⟩
        | fld t f => rw [ht] at R; obtain ⟨b, e, _⟩ := Rd.fld_e R; exact ⟨b, e⟩
        | node w ks => rw [ht] at R; unfold Nm.Tr.dx at R; obtain ⟨b, us, e, _⟩ := Nm.rx_tpO R; exact ⟨b, e⟩
      subst ea
      simp? only []
      have := Rd.len_C6 wc 0
      have l : (Str.ofString " where ").length = 7 := Rd.lens.2.2.2.1
      exact ⟨_, .c c, 0, rfl, R, wc.1, wc.2, by have := wc.2; show c.deep ≤ 10; omega, fun H1 s1 => ⟨_, rfl, szl (by show _ + (Rd.txtC c 0).length ≤ _; omega), q H1 s1⟩⟩
structure RestW (H : Hp) (Q : VK) (w t : Str) (H2 : Hp) (rl : Addr) : Prop where
  ex : ∃ rs : List Str, H2 rl = some (.lst (rs.map V.str)) ∧ rs.length ≤ 8 ∧ (∀ x ∈ rs, x.length ≤ 8) ∧ ∀ H', Same H H' → Q (.str (Str.join (Str.ofString " ") (w :: t :: rs))) H'
  sm : Same H H2
omit w mg base P in
theorem strs_lcW {ta : Addr} {ps : List (V × Str)} {H : Hp} {x0 x1 x2 x3 x4 x5 x6 x7 x8 x9 : Option V} {Q' : VK} (hta : tpO (H ta) = some (ps.map (·.1))) (hl : ps.length ≤ 8) {r : List V → Hp → VK → Prop} (hp : ∀ p ∈ ps, ∀ (H : Hp) (Q : VK), Q (.str p.2) H → r [p.1] H Q)
    (k : ∀ D H', H D = none → Same H H' → H' D = some (.lst ((ps.map (·.2)).map V.str)) → Q' (.ref D) H') : lcB (Itt K ta) (gName 10) tYes (tCB r (tCons (tVar 10) tNil)) [10] [x0, x1, x2, x3, x4, x5, x6, x7, x8, x9, none] H Q' := by
  refine lc_all (walk_tup (xs := ps.map (·.1))) ps (fun p y _ => y = .str p.2) (by rw [List.length_map]) (by omega) (fun H1 s => .inl (rd_tpO (Rd.tpS hta s))) yat_same (fun _ _ _ _ _ h _ _ => h) (fun i p x H1 H2 Q2 he s1 hy k1 => ?_) fun D H1 zs hD e1 s1 e2 e3 => ?_
  · obtain ⟨rfl, rfl⟩ := yat_of he hy
    have hm := List.mem_of_getElem? he
    simp? only [gName]
    exact hp p hm _ _ (k1 _ _ (Same.refl _) rfl)
  · rw [zs_vals (f := fun p : V × Str => V.str p.2) e1 e3] at e2
    exact k D H1 hD s1 (by rw [List.map_map]; exact e2)
/-- the words of a question, up to its tables -/
def howW (how : Str) (tm : List G7.Tm) (ts : List Str) : List Str := how :: ((if tm.length = 0 then [] else [Rd.termsS tm]) ++ [Str.ofString "from", Str.join (Str.ofString " and ") ts])
theorem howW_join (how : Str) (tm : List G7.Tm) (ts : List Str) : Str.join (Str.ofString " ") (howW how tm ts) = Rd.howS how tm ++ Rd.sS " from " ++ Str.join (Rd.sS " and ") ts := by
  unfold howW Rd.howS
  refine TL.ext_tl ?_
  have e : TL.tl (Rd.sS " from ") = [32] ++ (TL.tl (Str.ofString "from") ++ [32]) := by decide +kernel
  have e1 : TL.tl (Str.ofString " ") = [32] := by decide +kernel
  by_cases c : tm.length = 0
  · rw [if_pos c, if_pos c]
    show TL.tl (how ++ Str.ofString " " ++ (Str.ofString "from" ++ Str.ofString " " ++ Str.join (Str.ofString " and ") ts)) = _
    simp only [TL.tl_append, e, e1, List.append_assoc]
  · rw [if_neg c, if_neg c]
    show TL.tl (how ++ Str.ofString " " ++ (Rd.termsS tm ++ Str.ofString " " ++ (Str.ofString "from" ++ Str.ofString " " ++ Str.join (Str.ofString " and ") ts))) = _
    have e2 : TL.tl (Rd.sS " ") = [32] := e1
    simp only [TL.tl_append, e, e1, e2, List.append_assoc]
theorem howW_len {how : Str} {tm : List G7.Tm} {ts : List Str} (h0 : how.length ≤ 8) (h1 : Rd.wdM tm) (h2 : Rd.wdN ts) : ((howW how tm ts).map fun x => x.length).sum + (howW how tm ts).length ≤ 8300 := by
  have a := Rd.len_terms h1
  have b := Rd.len_names (y := Rd.sS " and ") h2
  have l5 : (Rd.sS " and ").length = 5 := Rd.lens.2.2.1
  have l4 : (Str.ofString "from").length = 4 := by decide +kernel
  unfold howW
  split
  · show how.length + ((Str.ofString "from").length + ((Str.join (Rd.sS " and ") ts).length + 0)) + 3 ≤ _
    omega
  · show how.length + ((Rd.termsS tm).length + ((Str.ofString "from").length + ((Str.join (Rd.sS " and ") ts).length + 0))) + 4 ≤ _
    omega
theorem ok_l_written (T : Txt K mg w) : FnOk P w K mg base CX0 10 T.f_l_written T.fd_l_written ["_law_tree"] spStTxt := by
  have G_l_text := ok_l_text (P := P) (base := base) T 6
  have G_l_where := ok_l_where (P := P) (base := base) T
  have G_l_terms := ok_l_terms (P := P) (base := base) T
  refine T.F_l_written.ok sc_l_written (fun vs H Q E h => ?_) (fun cdv A outer s H vs Q E hr h => ?_)
  · obtain ⟨v, s, rfl, _⟩ := h
    rfl
  · have hu := hu_of hr
    have hu64 := hu64_of hr
    obtain ⟨v, st, rfl, R, wd, q⟩ := h
    refine ⟨_, (pss_cons (ps_set (i := 1) sc_l_written.nd rfl (Or.inl rfl) (pe_ix ix_tp (pv 0) pe_int (fun _ _ => rfl)))
      (pss_cons (ps_if (pt_cmpR op_eq (pv 1) pe_str (nomark _)) (Evl.pss_cut (ps_set (i := 2) sc_l_written.nd rfl (Or.inl rfl) (pe_op op_cat (pe_op op_cat (pe_lst (pa_cons (pe_ix ix_tp (pv 0) pe_int (fun _ _ => rfl)) pa_nil)) (pe_op op_rep (pe_lst (pa_cons (pe_call G_l_terms (hr.mono (by decide)) rfl T.mg_l_terms T.F_l_terms.kp T.b_l_terms .nil pass0 (pa_cons (pe_ix ix_tp (pv 0) pe_int (fun _ _ => rfl)) pa_nil)) pa_nil)) (pe_callTy int_bl (by rfl) T.n_int (by decide +kernel) (pa_cons (pe_cmpR (op_neNilT hu64) (pe_ix ix_tp (pv 0) pe_int (fun _ _ => rfl)) (pe_tup pa_nil) (nomark _)) pa_nil)))) (pe_lst (pa_cons pe_str (pa_cons (pe_join pe_str (pe_ix ix_tp (pv 0) pe_int (fun _ _ => rfl))) pa_nil)))))
        (Evl.pss_cut (ps_set (i := 3) sc_l_written.nd rfl (Or.inl rfl) (pe_op op_add_str (pe_join pe_str (pv 2)) (pe_call G_l_where (hr.mono (by decide)) rfl T.mg_l_where T.F_l_where.kp T.b_l_where .nil pass0 (pa_cons (pe_ix ix_tp (pv 0) pe_int (fun _ _ => rfl)) pa_nil))))
        (Evl.pss_cut (ps_set (i := 4) sc_l_written.nd rfl (Or.inl rfl) (pe_ifExp (pt_cmpR (op_neNilT hu64) (pe_ix ix_tp (pv 0) pe_int (fun _ _ => rfl)) (pe_tup pa_nil) (nomark _)) (pe_op op_add_str pe_str (pe_call G_l_terms (hr.mono (by decide)) rfl T.mg_l_terms T.F_l_terms.kp T.b_l_terms .nil pass0 (pa_cons (pe_ix ix_tp (pv 0) pe_int (fun _ _ => rfl)) pa_nil))) pe_str))
        (Evl.pss_cut (ps_set (i := 5) sc_l_written.nd rfl (Or.inl rfl) (pe_ifExp (pt_cmpR op_notN (pe_ix ix_tp (pv 0) pe_int (fun _ _ => rfl)) pe_non (nomark _)) (pe_op op_add_str pe_str (pe_callTy call_str_int (by rfl) T.n_str (by decide +kernel) (pa_cons (pe_ix ix_tp (pv 0) pe_int (fun _ _ => rfl)) pa_nil))) pe_str))
        (pss_one (ps_ret (pe_op op_add_str (pe_op op_add_str (pv 3) (pv 4)) (pv 5)))))))) pss_nil)
      (pss_cons (ps_if (pt_cmpR op_inT (pv 1) (pe_tup (pa_cons pe_str (pa_cons pe_str (pa_cons pe_str pa_nil)))) (by rfl)) (pss_one (ps_ret (pv 1))) pss_nil)
      (pss_cons (ps_if (pt_cmpR op_eq (pv 1) pe_str (nomark _)) (Evl.pss_cut (ps_set (i := 6) sc_l_written.nd rfl (Or.inl rfl) (pe_join pe_str (pe_lc (own := [("_law_field", 8), ("_law_term_here", 9)]) (tt := tYes) rfl sc_l_written.nd (pi_tupK K rfl (pe_ix ix_tp (pv 0) pe_int (fun _ _ => rfl))) (blkOk_by (N := N_l_written) (sc := defScope s_l_written) (by decide +kernel)) (fun _ _ _ _ _ => (pg_tupH (n := 2) rfl (pgs_cons (pg_name (i := 8) sc_l_written.nd rfl (Or.inl rfl)) (pgs_cons (pg_name (i := 9) sc_l_written.nd rfl (Or.inl rfl)) pgs_nil)))) (fun _ _ _ _ _ => pts_nil) (fun _ _ _ _ _ => (pe_op op_add_str (pe_op op_add_str (pv 8) pe_str) (pe_call G_l_text (hr.mono (by decide)) rfl T.mg_l_text T.F_l_text.kp T.b_l_text .nil pass0 (pa_cons (pv 9) (pa_cons pe_int pa_nil))))))))
        (pss_one (ps_ret (pe_op op_add_str (pe_op op_add_str (pe_op op_add_str (pe_op op_add_str pe_str (pe_ix ix_tp (pv 0) pe_int (fun _ _ => rfl))) pe_str) (pv 6)) (pe_call G_l_where (hr.mono (by decide)) rfl T.mg_l_where T.F_l_where.kp T.b_l_where .nil pass0 (pa_cons (pe_ix ix_tp (pv 0) pe_int (fun _ _ => rfl)) pa_nil)))))) pss_nil)
      (pss_cons (ps_if (pt_cmpR op_eq (pv 1) pe_str (nomark _)) (pss_one (ps_ret (pe_op op_add_str (pe_op op_add_str pe_str (pe_ix ix_tp (pv 0) pe_int (fun _ _ => rfl))) (pe_call G_l_where (hr.mono (by decide)) rfl T.mg_l_where T.F_l_where.kp T.b_l_where .nil pass0 (pa_cons (pe_ix ix_tp (pv 0) pe_int (fun _ _ => rfl)) pa_nil))))) pss_nil)
      (Evl.pss_cut (ps_set (i := 7) sc_l_written.nd rfl (Or.inl rfl) (pe_ifExp (pt_cmpR op_eq (pv 1) pe_str (nomark _)) (pe_lst (pa_cons (pe_ix ix_tp (pv 0) pe_int (fun _ _ => rfl)) pa_nil)) (pe_lc (own := [("_law_one", 10)]) (g := gName 10) (tt := tYes) rfl sc_l_written.nd (pi_tupK K rfl (pe_ix ix_tp (pv 0) pe_int (fun _ _ => rfl))) (blkOk_by (N := N_l_written) (sc := defScope s_l_written) (by decide +kernel)) (fun _ _ _ _ _ => (pg_name (i := 10) sc_l_written.nd rfl (Or.inl rfl))) (fun _ _ _ _ _ => pts_nil) (fun _ _ _ _ _ => (pe_callTy call_str_any (by rfl) T.n_str (by decide +kernel) (pa_cons (pv 10) pa_nil))))))
      (pss_one (ps_ret (pe_join pe_str (pe_op op_cat (pe_lst (pa_cons (pv 1) (pa_cons (pe_ix ix_tp (pv 0) pe_int (fun _ _ => rfl)) pa_nil))) (pv 7))))))))))), ?_⟩
    rw [show L2.start N_l_written [v] = [some (v), none, none, none, none, none, none, none, none, none, none] from rfl]
    have l1 : (Str.ofString " ").length = 1 := Rd.lens.2.1
    have l6 : (Str.ofString "set").length = 3 ∧ (Str.ofString "strike").length = 6 ∧ (Str.ofString "table").length = 5 ∧ (Str.ofString "put").length = 3 ∧ (Str.ofString "index").length = 5 := by decide +kernel
    have l7 : (Str.ofString "set ").length = 4 ∧ (Str.ofString "strike ").length = 7 := by decide +kernel
    have ln := Rd.St.len wd
    cases st with
    | alone x =>
      have R : RX H v (.tup [.str x]) := R
      obtain ⟨a, us, rfl, ha, r⟩ := Nm.rx_tpO R
      obtain ⟨u0, us, rfl, h0, r⟩ := Nm.rxs_un r
      obtain rfl := Nm.rxs_no r
      obtain rfl := Nm.rx_s h0
      simp? only [ha]
      have wd : x ∈ (["begin", "done", "undo"] : List Str) := wd
      rw [if_neg (by
        simp only [List.mem_cons, List.not_mem_nil, or_false] at wd
        rcases wd with rfl | rfl | rfl <;> decide +kernel)]
      intro p hp
      rw [if_pos (by
        simp only [List.mem_cons, List.not_mem_nil, or_false] at wd
        rcases wd with rfl | rfl | rfl <;> decide +kernel)]
      exact q _ (same_new hp)
    | ask how tm ts c bys first =>
      have R : RX H v (.tup [.str "ask", .str how, .tup ((tm.map Nm.trT).map Nm.Tr.dx), Nm.dxs ts, Nm.dxO (c.map Nm.trC), .tup ((bys.map Nm.trT).map Nm.Tr.dx), Nm.dxI first]) := R
      obtain ⟨a, us, rfl, ha, r⟩ := Nm.rx_tpO R
      obtain ⟨u0, us, rfl, h0, r⟩ := Nm.rxs_un r
      obtain ⟨u1, us, rfl, h1, r⟩ := Nm.rxs_un r
      obtain ⟨tv, us, rfl, r2, r⟩ := Nm.rxs_un r
      obtain ⟨sv, us, rfl, r3, r⟩ := Nm.rxs_un r
      obtain ⟨cv, us, rfl, r4, r⟩ := Nm.rxs_un r
      obtain ⟨bv, us, rfl, r5, r⟩ := Nm.rxs_un r
      obtain ⟨fv, us, rfl, r6, r⟩ := Nm.rxs_un r
      obtain rfl := Nm.rxs_no r
      obtain rfl := Nm.rx_s h0
      obtain rfl := Nm.rx_s h1
      rw [List.map_map] at r2 r5
      obtain ⟨wh, wt, wn, wc, wb, wf⟩ := wd
      simp? only [ha]
      obtain ⟨sa, sps, rfl, hsa, rfl, sp2⟩ := Rd.rx_pairs (f := Dx.str) r3
      have es : sps.map (·.1) = (sps.map (·.2)).map V.str := by
        rw [List.map_map]
        exact List.map_congr_left fun p hp => Nm.rx_s (sp2 p hp)
      rw [es] at hsa
      generalize sps.map (·.2) = ts at *
      obtain ⟨ta, tps, rfl, hta, rfl, tp2⟩ := Rd.rx_pairs (f := Nm.Tr.dx ∘ Nm.trT) r2
      obtain ⟨ba, bps, rfl, hba, rfl, bp2⟩ := Rd.rx_pairs (f := Nm.Tr.dx ∘ Nm.trT) r5
      generalize hW : howW how (tps.map (·.2)) ts = W
      refine ⟨fun σ' H1 => ∃ wl, Same H H1 ∧ H1 wl = some (.lst (W.map V.str)) ∧ σ' = [some (.ref a), some (.str "ask"), some (.ref wl), none, none, none, none, none, none, none, none], ?_, ?_⟩
      · simp? only [ha]
        intro p hp
        have s1 := same_new (o := HO.lst [V.str how]) hp
        refine ⟨_, Rd.tpS ha s1, _, rfl, .ref ta, tps.map (·.2), rfl, r2.same s1, wt, fun H1 s2 p1 hp1 => ?_⟩
        have s3 := same_new (o := HO.lst [V.str (Rd.termsS (tps.map (·.2)))]) hp1
        have s13 := (s1.trans s2).trans s3
        refine ⟨_, Rd.tpS ha s13, _, rfl, fun p2 hp2 => ⟨ta, rfl, ?_⟩⟩
        have s4 := same_new (o := HO.tup []) hp2
        have sx := s13.trans s4
        have ek : (if (!(tps.map (·.1)).isEmpty) = true then (1 : Int) else 0) = if tps.length = 0 then 0 else 1 := by cases tps <;> rfl
        refine ⟨_, Rd.tpS hta sx, ?_⟩
        rw [ek]
        have lt := Rd.len_terms wt
        obtain ⟨xs, ex1, ex2, ex3⟩ : ∃ xs : List Str, (List.replicate (if tps.length = 0 then (0 : Int) else 1).toNat [V.str (Rd.termsS (tps.map (·.2)))]).flatten = xs.map V.str ∧ xs.length ≤ 1 ∧ xs = (if (tps.map (·.2)).length = 0 then [] else [Rd.termsS (tps.map (·.2))]) := by
          rw [List.length_map]
          by_cases c0 : tps.length = 0
          · rw [if_pos c0, if_pos c0]
            exact ⟨[], rfl, by decide, rfl⟩
          · rw [if_neg c0, if_neg c0]
            exact ⟨[Rd.termsS (tps.map (·.2))], rfl, Nat.le_refl _, rfl⟩
        refine ⟨_, s4 _ _ upd_same, by split <;> decide, by split <;> decide, szl (by split <;> simp), fun p3 hp3 => ?_⟩
        rw [ex1]
        have s5 := same_new (o := HO.lst (xs.map V.str)) hp3
        refine ⟨_, s5 _ _ (s4 _ _ (s3 _ _ (s2 _ _ upd_same))), szl (by rw [List.length_map]; show 1 + _ ≤ _; omega), fun p4 hp4 => ?_⟩
        have s6 := same_new (o := HO.lst ([V.str how] ++ xs.map V.str)) hp4
        have sy := (sx.trans s5).trans s6
        have l5 : (Str.ofString " and ").length = 5 := Rd.lens.2.2.1
        have ls := Rd.sum_len wn.2
        have wn1 := wn.1
        refine ⟨_, Rd.tpS ha sy, _, rfl, sa, rfl, ts, .inr (.inl (rd_tpO (Rd.tpS hsa sy))), by rw [l5]; omega, fun p5 hp5 => ?_⟩
        have s7 := same_new (o := HO.lst [V.str (Str.ofString "from"), V.str (Txt.join (Str.ofString " and ") ts)]) hp5
        refine ⟨_, s7 _ _ upd_same, szl (by simp only [List.length_append, List.length_cons, List.length_nil, List.length_map]; omega), fun p6 hp6 => ?_⟩
        refine ⟨(sy.trans s7).trans (same_new hp6), p6, ?_, rfl⟩
        rw [upd_same, TL.join_eq, ← hW]
        unfold howW
        rw [← ex3, List.map_cons, List.map_append]
        rfl
      rintro σ' H1 ⟨wl, s1, ewl, rfl⟩
      refine ⟨fun σ' H2 => Same H H2 ∧ σ' = [some (.ref a), some (.str "ask"), some (.ref wl), some (.str (Rd.howS how (tps.map (·.2)) ++ Rd.sS " from " ++ Str.join (Rd.sS " and ") ts ++ Rd.whereS c)), none, none, none, none, none, none, none], ?_, ?_⟩
      · have ha1 := Rd.tpS ha s1
        simp? only [ha1, ewl]
        have lW := howW_len wh wt wn
        rw [hW] at lW
        have ej : Txt.join (Str.ofString " ") W = Rd.howS how (tps.map (·.2)) ++ Rd.sS " from " ++ Str.join (Rd.sS " and ") ts := by rw [TL.join_eq, ← hW, howW_join]
        have lA := Rd.len_ask wh wt wn wc
        have lw := Rd.len_where wc
        refine ⟨W, .inl (.inl (.inl ewl)), by rw [l1]; omega, _, rfl, cv, c, rfl, r4.same s1, wc, fun H2 s2 => ⟨_, rfl, szl ?_, s1.trans s2, by rw [ej]⟩⟩
        rw [ej]
        rw [Rd.len_app] at lA
        exact Nat.le_trans lA (by decide)
      rintro σ' H2 ⟨s2, rfl⟩
      refine ⟨fun σ' H3 => Same H H3 ∧ σ' = [some (.ref a), some (.str "ask"), some (.ref wl), some (.str (Rd.howS how (tps.map (·.2)) ++ Rd.sS " from " ++ Str.join (Rd.sS " and ") ts ++ Rd.whereS c)), some (.str (Rd.byS (bps.map (·.2)))), none, none, none, none, none, none], ?_, ?_⟩
      · have ha2 := Rd.tpS ha s2
        have hb2 := Rd.tpS hba s2
        simp? only [ha2, hb2]
        refine ⟨_, rfl, fun p hp => ⟨ba, rfl, ?_⟩⟩
        have s3 := same_new (o := HO.tup []) hp
        have sx := s2.trans s3
        refine ⟨_, Rd.tpS hba sx, ?_⟩
        by_cases c0 : bps.length = 0
        · obtain rfl := List.eq_nil_of_length_eq_zero c0
          rw [if_neg (by decide)]
          exact ⟨sx, rfl⟩
        · rw [if_pos (by cases bps with
            | nil => exact absurd rfl c0
            | cons x y => rfl)]
          have hb : Rd.byS (bps.map (·.2)) = Rd.sS " by " ++ Rd.termsS (bps.map (·.2)) := by unfold Rd.byS; rw [if_neg (by rw [List.length_map]; exact c0)]
          have l4 : (Str.ofString " by ").length = 4 := Rd.lens.2.2.2.2.1
          have lb := Rd.len_terms wb
          exact ⟨_, Rd.tpS ha sx, _, rfl, .ref ba, bps.map (·.2), rfl, r5.same sx, wb, fun H4 s4 => ⟨_, rfl, szl (by omega), sx.trans s4, hb.symm⟩⟩
      rintro σ' H3 ⟨s3, rfl⟩
      refine ⟨fun σ' H3 => Same H H3 ∧ σ' = [some (.ref a), some (.str "ask"), some (.ref wl), some (.str (Rd.howS how (tps.map (·.2)) ++ Rd.sS " from " ++ Str.join (Rd.sS " and ") ts ++ Rd.whereS c)), some (.str (Rd.byS (bps.map (·.2)))), some (.str (Rd.firstS first)), none, none, none, none, none], ?_, ?_⟩
      · have ha3 := Rd.tpS ha s3
        simp? only [ha3]
        refine ⟨fv, rfl, ?_⟩
        cases first with
        | none =>
          have r6 : fv = .non := by simpa only [Nm.dxI, RX] using r6
          subst r6
          rw [if_neg (by decide)]
          exact ⟨s3, rfl⟩
        | some i =>
          obtain rfl := Nm.rx_i r6
          rw [if_pos (by rw [decide_eq_false (fun z => nomatch z)]; decide)]
          have w := wf i rfl
          have l7 : (Str.ofString " first ").length = 7 := Rd.lens.2.2.2.2.2.1
          exact ⟨_, rfl, i, rfl, Rd.log_num w.1 w.2, szl (by have := Rd.len_num w.1 w.2; show _ + (D72.strI i).length ≤ _; omega), s3, rfl⟩
      rintro σ' H4 ⟨s4, rfl⟩
      simp? only []
      have lA := Rd.len_ask wh wt wn wc
      have lB := Rd.len_by wb
      have lF := Rd.len_first wf
      exact ⟨szl (by omega), szl (by rw [Rd.len_app]; omega), q H4 s4⟩
    | table t fs =>
      have R : RX H v (.tup [.str "table", .str t, Nm.dxs fs]) := R
      obtain ⟨a, us, rfl, ha, r⟩ := Nm.rx_tpO R
      obtain ⟨u0, us, rfl, h0, r⟩ := Nm.rxs_un r
      obtain ⟨u1, us, rfl, h1, r⟩ := Nm.rxs_un r
      obtain ⟨u2, us, rfl, h2, r⟩ := Nm.rxs_un r
      obtain rfl := Nm.rxs_no r
      obtain rfl := Nm.rx_s h0
      obtain rfl := Nm.rx_s h1
      obtain ⟨wt, wn, wf⟩ := wd
      simp? only [ha]
      rw [if_neg (by decide +kernel)]
      intro p hp
      have s1 := same_new (o := HO.tup [V.str "begin", V.str "done", V.str "undo"]) hp
      rw [if_neg (by decide +kernel), if_neg (by decide +kernel), if_neg (by decide +kernel)]
      have ha1 := Rd.tpS ha s1
      generalize upd H p (HO.tup [V.str "begin", V.str "done", V.str "undo"]) = H1 at s1 ha1 ⊢
      refine ⟨fun σ' H2 => ∃ rl : Addr, RestW H Q (Str.ofString "table") t H2 rl ∧ σ' = [some (.ref a), some (.str "table"), none, none, none, none, none, some (.ref rl), none, none, none], ?_, ?_⟩
      · simp? only [tLc_eq, iTup, ha1]
        obtain ⟨fa, fus, rfl, hfa, rf⟩ := Nm.rx_tpO (show RX H u2 (.tup (fs.map Dx.str)) from h2)
        have ef : fus = (fs.map fun f => (V.str f, f)).map (·.1) := strs_us rf
        rw [ef] at hfa
        refine ⟨fa, rfl, ⟨_, .inl (rd_tpO (Rd.tpS hfa s1))⟩, strs_lcW (Rd.tpS hfa s1) (by rw [List.length_map]; exact wn) (fun x hx H Q q => ?_) fun D H4 hD s4 eD => ?_⟩
        · obtain ⟨f, hf, rfl⟩ := List.mem_map.mp hx
          exact .inr ⟨f, rfl, q⟩
        · refine ⟨D, ⟨⟨(fs.map fun f => (V.str f, f)).map (·.2), eD, by rw [List.length_map, List.length_map]; exact wn, fun x hx => ?_, ?_⟩, s1.trans s4⟩, rfl⟩
          · obtain ⟨y, hy, rfl⟩ := List.mem_map.mp hx
            obtain ⟨f, hf, rfl⟩ := List.mem_map.mp hy
            exact wf f hf
          have e : fs.map ((fun x => x.2) ∘ fun f => (V.str f, f)) = fs := List.map_id _
          rw [List.map_map, e]
          exact q
      rintro σ' H2 ⟨rl, ⟨⟨rs, erl, lr1, lr2, q2⟩, s2⟩, rfl⟩
      have ha2 := Rd.tpS ha s2
      simp? only [ha2]
      intro p2 hp2
      have s3 := same_new (o := HO.lst [V.str "table", V.str t]) hp2
      refine ⟨_, s3 _ _ erl, szl (by simp only [List.length_map]; omega), fun p3 hp3 => ⟨Str.ofString "table" :: t :: rs, .inl (.inl (.inl upd_same)), ?_, ?_⟩⟩
      · have := Rd.sum_len lr2
        rw [l1, List.map_cons, List.map_cons, List.sum_cons, List.sum_cons, List.length_cons, List.length_cons]
        omega
      · rw [TL.join_eq]
        exact q2 _ ((s2.trans s3).trans (same_new hp3))
    | put t ns =>
      have R : RX H v (.tup [.str "put", .str t, .tup (ns.map Dx.int)]) := R
      obtain ⟨a, us, rfl, ha, r⟩ := Nm.rx_tpO R
      obtain ⟨u0, us, rfl, h0, r⟩ := Nm.rxs_un r
      obtain ⟨u1, us, rfl, h1, r⟩ := Nm.rxs_un r
      obtain ⟨u2, us, rfl, h2, r⟩ := Nm.rxs_un r
      obtain rfl := Nm.rxs_no r
      obtain rfl := Nm.rx_s h0
      obtain rfl := Nm.rx_s h1
      obtain ⟨wt, wn, wf⟩ := wd
      simp? only [ha]
      rw [if_neg (by decide +kernel)]
      intro p hp
      have s1 := same_new (o := HO.tup [V.str "begin", V.str "done", V.str "undo"]) hp
      rw [if_neg (by decide +kernel), if_neg (by decide +kernel), if_neg (by decide +kernel)]
      have ha1 := Rd.tpS ha s1
      generalize upd H p (HO.tup [V.str "begin", V.str "done", V.str "undo"]) = H1 at s1 ha1 ⊢
      refine ⟨fun σ' H2 => ∃ rl : Addr, RestW H Q (Str.ofString "put") t H2 rl ∧ σ' = [some (.ref a), some (.str "put"), none, none, none, none, none, some (.ref rl), none, none, none], ?_, ?_⟩
      · simp? only [tLc_eq, iTup, ha1]
        obtain ⟨fa, fus, rfl, hfa, rf⟩ := Nm.rx_tpO (show RX H u2 (.tup (ns.map Dx.int)) from h2)
        have ef : fus = (ns.map fun n => (V.int n, D72.strI n)).map (·.1) := ints_us rf
        rw [ef] at hfa
        refine ⟨fa, rfl, ⟨_, .inl (rd_tpO (Rd.tpS hfa s1))⟩, strs_lcW (Rd.tpS hfa s1) (by rw [List.length_map]; exact wn) (fun x hx H Q q => ?_) fun D H4 hD s4 eD => ?_⟩
        · obtain ⟨f, hf, rfl⟩ := List.mem_map.mp hx
          exact .inl ⟨f, rfl, Rd.log_num (wf f hf).1 (wf f hf).2, q⟩
        · refine ⟨D, ⟨⟨(ns.map fun n => (V.int n, D72.strI n)).map (·.2), eD, by rw [List.length_map, List.length_map]; exact wn, fun x hx => ?_, ?_⟩, s1.trans s4⟩, rfl⟩
          · obtain ⟨y, hy, rfl⟩ := List.mem_map.mp hx
            obtain ⟨f, hf, rfl⟩ := List.mem_map.mp hy
            exact Nat.le_trans (Rd.len_num (wf f hf).1 (wf f hf).2) (by decide)
          rw [List.map_map]
          exact q
      rintro σ' H2 ⟨rl, ⟨⟨rs, erl, lr1, lr2, q2⟩, s2⟩, rfl⟩
      have ha2 := Rd.tpS ha s2
      simp? only [ha2]
      intro p2 hp2
      have s3 := same_new (o := HO.lst [V.str "put", V.str t]) hp2
      refine ⟨_, s3 _ _ erl, szl (by simp only [List.length_map]; omega), fun p3 hp3 => ⟨Str.ofString "put" :: t :: rs, .inl (.inl (.inl upd_same)), ?_, ?_⟩⟩
      · have := Rd.sum_len lr2
        rw [l1, List.map_cons, List.map_cons, List.sum_cons, List.sum_cons, List.length_cons, List.length_cons]
        omega
      · rw [TL.join_eq]
        exact q2 _ ((s2.trans s3).trans (same_new hp3))
    | index t f =>
      have R : RX H v (.tup [.str "index", .str t, .str f]) := R
      obtain ⟨a, us, rfl, ha, r⟩ := Nm.rx_tpO R
      obtain ⟨u0, us, rfl, h0, r⟩ := Nm.rxs_un r
      obtain ⟨u1, us, rfl, h1, r⟩ := Nm.rxs_un r
      obtain ⟨u2, us, rfl, h2, r⟩ := Nm.rxs_un r
      obtain rfl := Nm.rxs_no r
      obtain rfl := Nm.rx_s h0
      obtain rfl := Nm.rx_s h1
      obtain rfl := Nm.rx_s h2
      obtain ⟨wt, wf⟩ := wd
      simp? only [ha]
      rw [if_neg (by decide +kernel)]
      intro p hp
      have s1 := same_new (o := HO.tup [V.str "begin", V.str "done", V.str "undo"]) hp
      rw [if_neg (by decide +kernel), if_neg (by decide +kernel), if_neg (by decide +kernel)]
      have ha1 := Rd.tpS ha s1
      generalize upd H p (HO.tup [V.str "begin", V.str "done", V.str "undo"]) = H1 at s1 ha1 ⊢
      refine ⟨fun σ' H2 => ∃ rl : Addr, RestW H Q (Str.ofString "index") t H2 rl ∧ σ' = [some (.ref a), some (.str "index"), none, none, none, none, none, some (.ref rl), none, none, none], ?_, ?_⟩
      · simp? only [ha1]
        intro p2 hp2
        have s3 := same_new (o := HO.lst [V.str f]) hp2
        refine ⟨p2, ⟨⟨[f], upd_same, by simp, fun x hx => by rw [List.mem_singleton.mp hx]; exact wf, ?_⟩, s1.trans s3⟩, rfl⟩
        have e : Str.join (Str.ofString " ") [Str.ofString "index", t, f] = Str.ofString "index" ++ Str.ofString " " ++ t ++ Str.ofString " " ++ f := by
          show Str.ofString "index" ++ Str.ofString " " ++ (t ++ Str.ofString " " ++ f) = _
          rw [Rd.app_assoc (Str.ofString "index" ++ Str.ofString " "), Rd.app_assoc (Str.ofString "index" ++ Str.ofString " "), Rd.app_assoc t]
        rw [e]
        exact q
      rintro σ' H2 ⟨rl, ⟨⟨rs, erl, lr1, lr2, q2⟩, s2⟩, rfl⟩
      have ha2 := Rd.tpS ha s2
      simp? only [ha2]
      intro p2 hp2
      have s3 := same_new (o := HO.lst [V.str "index", V.str t]) hp2
      refine ⟨_, s3 _ _ erl, szl (by simp only [List.length_map]; omega), fun p3 hp3 => ⟨Str.ofString "index" :: t :: rs, .inl (.inl (.inl upd_same)), ?_, ?_⟩⟩
      · have := Rd.sum_len lr2
        rw [l1, List.map_cons, List.map_cons, List.sum_cons, List.sum_cons, List.length_cons, List.length_cons]
        omega
      · rw [TL.join_eq]
        exact q2 _ ((s2.trans s3).trans (same_new hp3))
    | strike t c =>
      have R : RX H v (.tup [.str "strike", .str t, Nm.dxO (c.map Nm.trC)]) := R
      obtain ⟨a, us, rfl, ha, r⟩ := Nm.rx_tpO R
      obtain ⟨u0, us, rfl, h0, r⟩ := Nm.rxs_un r
      obtain ⟨u1, us, rfl, h1, r⟩ := Nm.rxs_un r
      obtain ⟨u2, us, rfl, h2, r⟩ := Nm.rxs_un r
      obtain rfl := Nm.rxs_no r
      obtain rfl := Nm.rx_s h0
      obtain rfl := Nm.rx_s h1
      obtain ⟨wt, wc⟩ := wd
      simp? only [ha]
      rw [if_neg (by decide +kernel)]
      intro p hp
      have s1 := same_new (o := HO.tup [V.str "begin", V.str "done", V.str "undo"]) hp
      rw [if_neg (by decide +kernel)]
      have ha1 := Rd.tpS ha s1
      rw [if_neg (by decide +kernel)]
      have lw := Rd.len_where wc
      have hw : Str.ofString "strike " ++ t = Str.ofString "strike" ++ Str.ofString " " ++ t := by
        refine TL.ext_tl ?_
        rw [TL.tl_append, TL.tl_append, TL.tl_append, show TL.tl (Str.ofString "strike ") = TL.tl (Str.ofString "strike") ++ TL.tl (Str.ofString " ") by decide +kernel]
      refine ⟨_, ha1, _, rfl, t, rfl, szl (by omega), _, ha1, _, rfl, u2, c, rfl, h2.same s1, wc, fun H2 s2 => ⟨_, rfl, szl (by rw [Rd.len_app]; omega), ?_⟩⟩
      rw [hw]
      exact q H2 (s1.trans s2)
    | set t ss c =>
      have R : RX H v (.tup [.str "set", .str t, .tup ((ss.map fun s => (s.1, Nm.trT s.2)).map fun s => .tup [.str s.1, s.2.dx]), Nm.dxO (c.map Nm.trC)]) := R
      obtain ⟨a, us, rfl, ha, r⟩ := Nm.rx_tpO R
      obtain ⟨u0, us, rfl, h0, r⟩ := Nm.rxs_un r
      obtain ⟨u1, us, rfl, h1, r⟩ := Nm.rxs_un r
      obtain ⟨u2, us, rfl, h2, r⟩ := Nm.rxs_un r
      obtain ⟨u3, us, rfl, h3, r⟩ := Nm.rxs_un r
      obtain rfl := Nm.rxs_no r
      obtain rfl := Nm.rx_s h0
      obtain rfl := Nm.rx_s h1
      obtain ⟨wt, wn, ws, wc⟩ := wd
      simp? only [ha]
      rw [if_neg (by decide +kernel)]
      intro p hp
      have s1 := same_new (o := HO.tup [V.str "begin", V.str "done", V.str "undo"]) hp
      rw [if_neg (by decide +kernel)]
      have ha1 := Rd.tpS ha s1
      generalize upd H p (HO.tup [V.str "begin", V.str "done", V.str "undo"]) = H1 at s1 ha1 ⊢
      rw [List.map_map] at h2
      obtain ⟨fa, ps, rfl, hfa, rfl, hps⟩ := Rd.rx_pairs h2
      rw [List.length_map] at wn
      have hfa1 := Rd.tpS hfa s1
      have l3 : (Str.ofString " = ").length = 3 := Rd.lens.2.2.2.2.2.2.2
      have l2 : (Str.ofString ", ").length = 2 := Rd.lens.1
      have lw := Rd.len_where wc
      have ls := Rd.len_sets (by rw [List.length_map]; exact wn) ws
      refine ⟨fun σ' H3 => Same H H3 ∧ σ' = [some (.ref a), some (.str "set"), none, none, none, none, some (.str (Str.join (Str.ofString ", ") ((ps.map (·.2)).map Rd.setS))), none, none, none, none], ?_, ?_⟩
      · simp? only [tLc_eq, iTup, ha1]
        refine ⟨⟨_, .inl (rd_tpO hfa1)⟩, lc_all (walk_tup (xs := ps.map (·.1))) ps (fun p y _ => y = .str (Rd.setS p.2)) (by rw [List.length_map]) (by omega) (fun H1 s => .inl (rd_tpO (Rd.tpS hfa1 s))) yat_same (fun _ _ _ _ _ h _ _ => h) (fun i p x H4 H5 Q2 he s4 hy k1 => ?_) fun D H4 zs hD e1 s4 e2 e3 => ?_⟩
        · obtain ⟨rfl, rfl⟩ := yat_of he hy
          have hm := List.mem_of_getElem? he
          obtain ⟨b, us, eb, hb, rb⟩ := Nm.rx_tpO (show RX H p.1 (.tup [.str p.2.1, (Nm.trT p.2.2).dx]) from hps p hm)
          obtain ⟨v0, us, rfl, g0, rb⟩ := Nm.rxs_un rb
          obtain ⟨v1, us, rfl, g1, rb⟩ := Nm.rxs_un rb
          obtain rfl := Nm.rxs_no rb
          obtain rfl := Nm.rx_s g0
          have hb5 := Rd.tpS (Rd.tpS hb s1) s4
          obtain ⟨w1, w2, w3⟩ := ws p.2 (List.mem_map.mpr ⟨p, hm, rfl⟩)
          have lt := Rd.len_T6 ⟨w2, w3⟩ 4
          rw [eb]
          simp? only [gTupH, gCons, gNil, gName, hb5]
          exact ⟨szl (by omega), v1, .t p.2.2, 4, rfl, (g1.same s1).same s4, w2, w3, by show p.2.2.deep ≤ 10; omega, fun H6 s6 => ⟨_, rfl, szl (by rw [Rd.len_app]; show _ + (Rd.txtT p.2.2 4).length ≤ _; omega), k1 _ _ s6 rfl⟩⟩
        · rw [zs_vals (f := fun p : V × (Str × G7.Tm) => V.str (Rd.setS p.2)) e1 e3] at e2
          refine ⟨D, rfl, (ps.map (·.2)).map Rd.setS, .inl (.inl (.inl (by rw [e2, List.map_map, List.map_map]; rfl))), ?_, s1.trans s4, by rw [TL.join_eq]⟩
          have z := Rd.sum_len (ps := (ps.map (·.2)).map Rd.setS) (B := 1023) (fun x hx => by
            obtain ⟨y, hy, rfl⟩ := List.mem_map.mp hx
            obtain ⟨w1, w2, w3⟩ := ws y hy
            have := Rd.len_T6 ⟨w2, w3⟩ 4
            show (y.1 ++ Rd.sS " = " ++ Rd.txtT y.2 4).length ≤ _
            rw [Rd.len_app, Rd.len_app]
            show _ + (Str.ofString " = ").length + _ ≤ _
            omega)
          rw [List.length_map, List.length_map] at z
          rw [List.length_map, List.length_map, l2]
          omega
      rintro σ' H3 ⟨s3, rfl⟩
      have ha3 := Rd.tpS ha s3
      simp? only [ha3]
      have ls' : (Str.join (Str.ofString ", ") ((ps.map (·.2)).map Rd.setS)).length ≤ 8200 := ls
      have hw : Str.ofString "set " ++ t = Str.ofString "set" ++ Str.ofString " " ++ t := by
        refine TL.ext_tl ?_
        rw [TL.tl_append, TL.tl_append, TL.tl_append, show TL.tl (Str.ofString "set ") = TL.tl (Str.ofString "set") ++ TL.tl (Str.ofString " ") by decide +kernel]
      refine ⟨szl (by omega), szl (by rw [Rd.len_app]; omega), szl (by rw [Rd.len_app, Rd.len_app]; omega), u3, c, rfl, h3.same s3, wc, fun H4 s4 => ⟨_, rfl, szl (by rw [Rd.len_app, Rd.len_app, Rd.len_app]; omega), ?_⟩⟩
      rw [hw]
      exact q _ (s3.trans s4)
end

/-! the law: other blanks at signs -/
def spLoose : Sp := fun vs H Q _ => ∃ (h l : Addr) (x : Str), vs = [.ref h, .str x] ∧ BoxB H h l ∧ x.length ≤ 15000 ∧ ∀ (y : Str) (H' : Hp), Rd.toks y = Rd.toks x → y.length ≤ 50000 → BoxB H' h l → Keep [h, l] H H' → Q (.str y) H'
section
variable {P : Program} {w : World} {K : PySem.W.Frag} {mg : Str → Option Value} {base : Heap}
theorem ok_l_loose (T : Txt K mg w) : FnOk P w K mg base CX0 2 T.f_l_loose T.fd_l_loose ["_law_h", "_law_text_here"] spLoose := by
  have G_l_next : FnOk P w K mg base CX0 1 T.f_l_next T.fd_l_next ["_law_h", "_law_many"] spNext := ok_l_next T
  refine T.F_l_loose.ok sc_l_loose (fun vs H Q E h => ?_) (fun cdv A outer s H vs Q E hr h => ?_)
  · obtain ⟨h, l, x, rfl, _⟩ := h
    rfl
  · have hu := hu_of hr
    have hu64 := hu64_of hr
    obtain ⟨h, l, x, rfl, B, hx, k⟩ := h
    refine ⟨_, (pss_str (i := 2) sc_l_loose.nd rfl (Or.inl rfl) (psst_cons (PST.of (ps_for PassesOwn.never rfl (pi_str (pv 1)) (pg_name (i := 3) sc_l_loose.nd rfl (Or.inr rfl)) (pss_cons (ps_setLc (i := 4) (own := [("_law_k", 5)]) (g := gName 5) (tt := tYes) rfl sc_l_loose.nd rfl rfl (sw_true rfl rfl rfl (by decide +kernel)) (pi_range1 rfl T.n_range (pa_cons pe_int pa_nil)) (blkOk_by (N := N_l_loose) (sc := defScope s_l_loose) (by decide +kernel)) (fun _ _ _ _ _ => (pg_name (i := 5) sc_l_loose.nd rfl (Or.inl rfl))) (fun _ _ _ _ _ => pts_nil) (fun _ _ _ _ _ => (pe_op op_mulS pe_str (pe_callTy int_bl (by rfl) T.n_int (by decide +kernel) (pa_cons (pe_and (pe_cmpR op_in_sign (pv 3) pe_str (by rfl)) (pe_one (pe_cmpR op_eq (pe_call G_l_next (hr.mono (by decide)) rfl T.mg_l_next T.F_l_next.kp T.b_l_next .nil pass0 (pa_cons (pv 0) (pa_cons pe_int pa_nil))) pe_int (nomark _)))) pa_nil)))))
        (pss_one (ps_set (i := 2) sc_l_loose.nd rfl (Or.inl rfl) (pe_op op_add_str (pe_op op_add_str (pe_op op_add_str (pv 2) (pe_ix ix_lst (pv 4) pe_int (fun _ _ => rfl))) (pv 3)) (pe_ix ix_lst (pv 4) pe_int (fun _ _ => rfl))))))))
      (CwR.psst_one (CwR.pst_ret (pet_ix ix_lst (pet_lst (pat_cons (CwR.PET.of (pv 2)) (pat_cons (CwR.pet_replT (CwR.pet_replT (CwR.PET.of (pv 2)))) (pat_cons (CwR.PET.of (pe_op op_add_str (pe_op op_add_str pe_str (pv 2)) pe_str)) pat_nil)))) (pe_call G_l_next (hr.mono (by decide)) rfl T.mg_l_next T.F_l_next.kp T.b_l_next .nil pass0 (pa_cons (pv 0) (pa_cons pe_int pa_nil))) (fun _ _ => rfl)))))), ?_⟩
    rw [show L2.start N_l_loose [V.ref h, V.str x] = [some (V.ref h), some (V.str x), none, none, none, none] from rfl]
    simp? only [tFor_eq, iStr]
    have hl : (Rd.sg x).length = x.length := (TL.len_tl x).symm
    refine forB_it (for_it (walk_str (z := x)) (fun i σ H2 => ∃ (f : Str) (x3 x4 : Option V), σ = [some (.ref h), some (.str x), some (.str f), x3, x4, none] ∧ Rd.toksL (Rd.sg f ++ (Rd.sg x).drop i) = Rd.toks x ∧ f.length ≤ 3 * i ∧ i ≤ x.length ∧ BoxB H2 h l ∧ Keep [h, l] H H2)
      ⟨Str.ofString "", none, none, rfl, by rw [Rd.toks_L]; rfl, by decide, Nat.zero_le _, B, Keep.ofSame (Same.refl H)⟩ (fun _ _ _ _ _ => trivial) ?_ ?_)
    · rintro i y σ H2 H3 hi ⟨f, x3, x4, rfl, ht, hf, hi2, B2, k2⟩ ⟨rfl, c, hc, rfl⟩
      have hc' : (Rd.sg x)[i]? = some c := by
        show x.cps.toList[i]? = some c
        rw [Array.getElem?_toList]
        exact hc
      have hix : i < x.length := by
        rcases Nat.lt_or_ge i (Rd.sg x).length with z | z
        · omega
        · rw [List.getElem?_eq_none z] at hc'; cases hc'
      have ed : (Rd.sg x).drop i = c :: (Rd.sg x).drop (i + 1) := by
        rw [List.drop_eq_getElem_cons (by omega)]
        rw [List.getElem?_eq_getElem (by omega)] at hc'
        cases hc'
        rfl
      simp? only [gName, tLc_eq, iRng1]
      refine lcB_it fun D hD => ?_
      have nD := B2.free hD
      refine lc_it walk_range (fun j H4 => ∃ bs : List Str, H4 D = some (.lst (bs.map V.str)) ∧ bs.length = j ∧ (∀ b ∈ bs, b = Str.empty ∨ b = Str.ofString " " ∧ Rd.loneC c) ∧ BoxB H4 h l ∧ Keep [h, l] H3 H4)
        ⟨[], upd_same, rfl, (fun b hb => absurd hb (by simp)), B2.same (same_new hD), Keep.new hD⟩ (fun _ _ _ _ => trivial) ?_ ?_
      · rintro j y H4 H5 hj ⟨bs, eD, bl, bb, B4, k4⟩ ⟨rfl, rfl⟩
        simp? only [gName]
        refine ⟨c, rfl, ?_⟩
        have app : ∀ {b : Str} {H6 : Hp}, (b = Str.empty ∨ b = Str.ofString " " ∧ Rd.loneC c) → BoxB H6 h l → Keep [h, l] H5 H6 → ∃ bs' : List Str, bs.map V.str ++ [V.str b] = bs'.map V.str ∧ bs'.length = j + 1 ∧ (∀ b ∈ bs', b = Str.empty ∨ b = Str.ofString " " ∧ Rd.loneC c) ∧
            BoxB (upd H6 D (.lst (bs.map V.str ++ [V.str b]))) h l ∧ Keep [h, l] H3 (upd H6 D (.lst (bs.map V.str ++ [V.str b]))) := fun {b H6} hb B6 k6 =>
          ⟨bs ++ [b], by rw [List.map_append]; rfl, by rw [List.length_append, bl]; rfl, fun z hz => (List.mem_append.mp hz).elim (bb z) fun e => by rw [List.mem_singleton.mp e]; exact hb, B6.updNot nD, (k4.trans k6).updFree hD⟩
        by_cases a1 : c ∈ (Str.ofString "(),*").cps.toList
        · have lo : Rd.loneC c := by
            have e : (Str.ofString "(),*").cps.toList = [40, 41, 44, 42] := by decide +kernel
            rw [e] at a1
            simp only [List.mem_cons, List.not_mem_nil, or_false] at a1
            unfold Rd.loneC
            omega
          rw [if_pos (decide_eq_true a1)]
          refine ⟨h, l, 3, rfl, B4, by decide, by decide, fun r H6 c0 c1 B6 k6 => ?_⟩
          have e6 := k6 _ _ nD eD
          refine ⟨rfl, by split <;> simp, _, e6, szl' (by rw [List.length_map]; omega), ?_⟩
          by_cases z : r = 0
          · subst z
            exact app (.inr ⟨rfl, lo⟩) B6 k6
          · rw [decide_eq_false (fun e => z (by injection e))]
            exact app (.inl rfl) B6 k6
        · rw [if_neg (fun z => a1 (of_decide_eq_true z))]
          exact ⟨_, eD, szl' (by rw [List.length_map]; omega), app (.inl rfl) B4 (fun _ _ _ e => e)⟩
      · rintro H4 ⟨bs, eD, bl, bb, B4, k4⟩
        match bs, bl, bb, eD with
        | [b0, b1], _, bb, eD =>
          have c0 := bb b0 List.mem_cons_self
          have c1 := bb b1 (List.mem_cons_of_mem _ List.mem_cons_self)
          have l32 : (Str.ofString " ").length = 1 := Rd.lens.2.1
          have l0 : b0.length ≤ 1 := by
            rcases c0 with rfl | ⟨rfl, _⟩
            · exact Nat.zero_le _
            · omega
          have l1 : b1.length ≤ 1 := by
            rcases c1 with rfl | ⟨rfl, _⟩
            · exact Nat.zero_le _
            · omega
          have lc : (⟨#[c]⟩ : Str).length = 1 := rfl
          refine ⟨D, rfl, _, by rw [eD]; rfl, _, rfl, b0, rfl, szl (by omega), szl (by rw [Rd.len_app]; omega), D, rfl, _, by rw [eD]; rfl, _, rfl, b1, rfl, szl (by rw [Rd.len_app, Rd.len_app]; omega), ?_, by rw [Rd.len_app, Rd.len_app, Rd.len_app]; omega, hix, B4, k2.trans k4⟩
          have s32 : Rd.sg (Str.ofString " ") = [32] := by decide +kernel
          rw [Rd.sg_app, Rd.sg_app, Rd.sg_app, ← ht, ed]
          show Rd.toksL (Rd.sg f ++ Rd.sg b0 ++ [c] ++ Rd.sg b1 ++ _) = _
          exact Rd.toks_loose (c0.elim (fun e => .inl (by rw [e]; rfl)) fun e => .inr ⟨by rw [e.1]; exact s32, e.2⟩) (c1.elim (fun e => .inl (by rw [e]; rfl)) fun e => .inr ⟨by rw [e.1]; exact s32, e.2⟩)
    · rintro σ H2 ⟨f, x3, x4, rfl, ht, hf, hi2, B2, k2⟩
      simp? only []
      have lc : (Str.ofString ",").length = 1 ∧ (Str.ofString "*").length = 1 ∧ (Str.ofString " , ").length = 3 ∧ (Str.ofString " * ").length = 3 ∧ (Str.ofString "  ").length = 2 ∧ (Str.ofString " ").length = 1 := by decide +kernel
      have r1 := Rd.replace_short (x := f) (y := Str.ofString " , ") (z := Str.ofString ",") (by omega) (by omega)
      have r2 := Rd.replace_short (x := Txt.replace f (Str.ofString " , ") (Str.ofString ",")) (y := Str.ofString " * ") (z := Str.ofString "*") (by omega) (by omega)
      have hf2 : f.length ≤ 45000 := by omega
      refine ⟨by rw [lc.1]; omega, by rw [lc.2.1]; omega, szl (by omega), szl (by rw [Rd.len_app]; omega), fun p hp => ?_⟩
      have ht : Rd.toks f = Rd.toks x := by
        rw [← ht, Rd.toks_L, List.drop_of_length_le (show (Rd.sg x).length ≤ x.cps.size by rw [hl]; exact Nat.le_refl _), List.append_nil]
      refine ⟨h, l, 3, rfl, B2.same (same_new hp), by decide, by decide, fun r H4 c0 c1 B4 k4 => ?_⟩
      have e4 := k4 _ _ (B2.free hp) upd_same
      have kk := (k2.thenNew hp).trans k4
      have er : r = 0 ∨ r = 1 ∨ r = 2 := by omega
      rcases er with rfl | rfl | rfl
      · exact ⟨_, 0, rfl, by rw [e4]; rfl, _, rfl, k f H4 ht (by omega) B4 kk⟩
      · refine ⟨_, 1, rfl, by rw [e4]; rfl, _, rfl, k _ H4 ?_ (by omega) B4 kk⟩
        rw [Rd.toks_replace (c := 42) (by unfold Rd.loneC; omega) (by decide +kernel) (by decide +kernel), Rd.toks_replace (c := 44) (by unfold Rd.loneC; omega) (by decide +kernel) (by decide +kernel), ht]
      · refine ⟨_, 2, rfl, by rw [e4]; rfl, _, rfl, k _ H4 ?_ (by rw [Rd.len_app, Rd.len_app]; omega) B4 kk⟩
        rw [← ht]
        exact Rd.toks_wrap f
end

local macro_rules | `(tactic| simp? only [$ls,*]) => `(tactic| simp only [tVar, tC, tOp, rI, rI0, rU, tTest, tB, tAnd, tOr, tNot, tAndV, tOrV, tNotV, tIf, tNil, tCons, tTup, tLst, tCB, tSeq, tAsg, gName, tRet, tRetN, tIfS, tNext, tDrop, tCall, tUn, tPar, CMul, CDiv, V.int.injEq, V.bl.injEq, V.ref.injEq, V.str.injEq, Option.some.injEq, List.cons.injEq, and_true, true_and, and_false, false_and, or_false, false_or, or_true, true_or, exists_eq_left', exists_eq_left, exists_and_left, exists_and_right, exists_eq', exists_eq, exists_false, exists_const, List.getElem?_cons_succ, List.getElem?_cons_zero, List.set_cons_succ, List.set_cons_zero, List.length_cons, List.length_nil, List.cons_append, List.nil_append, List.append_nil, reduceCtorEq, Int.reduceLT, Int.reduceLE, Int.reduceNeg, Int.reducePow, Int.reduceSub, Int.reduceAdd, Nat.reduceAdd, Nat.reduceLeDiff, Bool.not_true, Bool.not_false, decide_true, decide_false, Bool.false_eq_true, ↓reduceIte, upd_same, not_true_eq_false, not_false_eq_true, lsO_l, lsO_f, tpO_t, tpO_f, dkO_d, dkO_f, keyO_i, keyO_s, rIxH, rIxU, cLenL, cLenT, cListL, cListT, cTupL, cIntB, cAll, rEqNilI, rEq, rNe, scal_ii, scal_ss, scal_bb, scal_nn, scal_ni, scal_in, scal_ns, scal_sn, gSub, rSetL, ixs0, ixs1, ixs2, seq0, at0, at1, at2, at3, tBM, tBM0, rAppend, rPopAt, tyV_list, tGet2, tGetI, sPut, tMG, rTIdx, tyTup, tTupF, cx_K, cx_w, ex_map_int, ex_nil_int, ex_cons_int, List.map_cons, List.map_nil, List.isEmpty_nil, List.isEmpty_cons, List.eraseIdx_zero, List.tail_cons, List.eraseIdx_cons_zero, HO.lst.injEq, HO.tup.injEq, HO.dK.injEq, HO.frz.injEq, ne_eq, gTupH, gCons, gNil, wipe, tYes, upd_upd, and_assoc, List.getElem?_map, Option.map_some, isn_non_bool, isn_non_int, isn_non_str, isn_non_tuple, isn_non_list, isn_non_dict, isn_bl_bool, isn_bl_int, isn_bl_str, isn_bl_tuple, isn_bl_list, isn_bl_dict, isn_int_bool, isn_int_int, isn_int_str, isn_int_tuple, isn_int_list, isn_int_dict, isn_str_bool, isn_str_int, isn_str_str, isn_str_tuple, isn_str_list, isn_str_dict, isn_lst_bool, isn_lst_int, isn_lst_str, isn_lst_tuple, isn_lst_list, isn_lst_dict, isn_tup_bool, isn_tup_int, isn_tup_str, isn_tup_tuple, isn_tup_list, isn_tup_dict, isn_dct_bool, isn_dct_int, isn_dct_str, isn_dct_tuple, isn_dct_list, isn_dct_dict, okn_bool, okn_int, okn_str, okn_tuple, okn_list, okn_dict, cIsi, tyT_n, tyT_b, tyT_i, tyT_s, tyT_r, V.ty.injEq, tSl, tPart, tNoPart, rSlF, gName, List.length_map, Int.reduceToNat, cpow18, Wd.s_inj, ws_num, ws_field, ws_add, ws_sub, ws_mul, ws_eq, ws_lt, ws_gt, ws_le, ws_ge, ws_and, ws_or, ws_not, rInTab, rIxTab, rCatH, rCat, rInT, cSortD, cMaxL, cMinL, rNeNilI, inV, flatV, List.any_cons, List.any_nil, List.all_cons, List.all_nil, eqV, Bool.and_true, Bool.and_false, Bool.true_and, Bool.false_and, Bool.or_false, Bool.false_or, Bool.or_true, Bool.true_or, Wd.beq_s, sz0, sz1, sz2, sz3, sz4, sz5, sz6, isc_eq, isc_lt, isc_gt, isc_le, isc_ge, isc_and, isc_or, isc_not, isl_and, isl_or, isl_not, rSlP, rInX, rCatS, rInS, cTupL, tM1, rNewStrs, cLenD, tFld, sFld, tMeth, tMake, HO.ins.injEq, rIxLT, cLenLT, Td.rIsG, Lm.tCallZ, Lm.tLam, tMkK, rEqSL, rNilT, rEqXS, rMulS, $ls,*])
local macro_rules | `(tactic| dsimp? only [$ls,*]) => `(tactic| simp only [tVar, tC, tOp, rI, rI0, rU, tTest, tB, tAnd, tOr, tNot, tAndV, tOrV, tNotV, tIf, tNil, tCons, tTup, tLst, tCB, tSeq, tAsg, gName, tRet, tRetN, tIfS, tNext, tDrop, tCall, tUn, tPar, CMul, CDiv, V.int.injEq, V.bl.injEq, V.ref.injEq, V.str.injEq, Option.some.injEq, List.cons.injEq, and_true, true_and, and_false, false_and, or_false, false_or, or_true, true_or, exists_eq_left', exists_eq_left, exists_and_left, exists_and_right, exists_eq', exists_eq, exists_false, exists_const, List.getElem?_cons_succ, List.getElem?_cons_zero, List.set_cons_succ, List.set_cons_zero, List.length_cons, List.length_nil, List.cons_append, List.nil_append, List.append_nil, reduceCtorEq, Int.reduceLT, Int.reduceLE, Int.reduceNeg, Int.reducePow, Int.reduceSub, Int.reduceAdd, Nat.reduceAdd, Nat.reduceLeDiff, Bool.not_true, Bool.not_false, decide_true, decide_false, Bool.false_eq_true, ↓reduceIte, upd_same, not_true_eq_false, not_false_eq_true, lsO_l, lsO_f, tpO_t, tpO_f, dkO_d, dkO_f, keyO_i, keyO_s, rIxH, rIxU, cLenL, cLenT, cListL, cListT, cTupL, cIntB, cAll, rEqNilI, rEq, rNe, scal_ii, scal_ss, scal_bb, scal_nn, scal_ni, scal_in, scal_ns, scal_sn, gSub, rSetL, ixs0, ixs1, ixs2, seq0, at0, at1, at2, at3, tBM, tBM0, rAppend, rPopAt, tyV_list, tGet2, tGetI, sPut, tMG, rTIdx, tyTup, tTupF, cx_K, cx_w, ex_map_int, ex_nil_int, ex_cons_int, List.map_cons, List.map_nil, List.isEmpty_nil, List.isEmpty_cons, List.eraseIdx_zero, List.tail_cons, List.eraseIdx_cons_zero, HO.lst.injEq, HO.tup.injEq, HO.dK.injEq, HO.frz.injEq, ne_eq, gTupH, gCons, gNil, wipe, tYes, upd_upd, and_assoc, List.getElem?_map, Option.map_some, isn_non_bool, isn_non_int, isn_non_str, isn_non_tuple, isn_non_list, isn_non_dict, isn_bl_bool, isn_bl_int, isn_bl_str, isn_bl_tuple, isn_bl_list, isn_bl_dict, isn_int_bool, isn_int_int, isn_int_str, isn_int_tuple, isn_int_list, isn_int_dict, isn_str_bool, isn_str_int, isn_str_str, isn_str_tuple, isn_str_list, isn_str_dict, isn_lst_bool, isn_lst_int, isn_lst_str, isn_lst_tuple, isn_lst_list, isn_lst_dict, isn_tup_bool, isn_tup_int, isn_tup_str, isn_tup_tuple, isn_tup_list, isn_tup_dict, isn_dct_bool, isn_dct_int, isn_dct_str, isn_dct_tuple, isn_dct_list, isn_dct_dict, okn_bool, okn_int, okn_str, okn_tuple, okn_list, okn_dict, cIsi, tyT_n, tyT_b, tyT_i, tyT_s, tyT_r, V.ty.injEq, tSl, tPart, tNoPart, rSlF, gName, List.length_map, Int.reduceToNat, cpow18, Wd.s_inj, ws_num, ws_field, ws_add, ws_sub, ws_mul, ws_eq, ws_lt, ws_gt, ws_le, ws_ge, ws_and, ws_or, ws_not, rInTab, rIxTab, rCatH, rCat, rInT, cSortD, cMaxL, cMinL, rNeNilI, inV, flatV, List.any_cons, List.any_nil, List.all_cons, List.all_nil, eqV, Bool.and_true, Bool.and_false, Bool.true_and, Bool.false_and, Bool.or_false, Bool.false_or, Bool.or_true, Bool.true_or, Wd.beq_s, sz0, sz1, sz2, sz3, sz4, sz5, sz6, isc_eq, isc_lt, isc_gt, isc_le, isc_ge, isc_and, isc_or, isc_not, isl_and, isl_or, isl_not, rSlP, rInX, rCatS, rInS, cTupL, tM1, rNewStrs, cLenD, tFld, sFld, tMeth, tMake, HO.ins.injEq, rIxLT, cLenLT, Td.rIsG, Lm.tCallZ, Lm.tLam, tMkK, rEqSL, rNilT, rEqXS, rMulS, lkStatements_words, lkStatements_at, lkStatements_deep, noStatements_here, noStatements_refuse, noStatements_taken, noStatements_does_take, noStatements_need, noStatements_next_name, noStatements_next_number, noStatements_whole, noStatements_statement, noStatements_some, noStatements_one_set, noStatements_where, noStatements_question, noStatements_a_term, noStatements_a_cond, noStatements_joined, noStatements_or_of, noStatements_and_of, noStatements_not_of, noStatements_compare_of, noStatements_sum_of, noStatements_product_of, noStatements_go_in, noStatements_factor_of, inStatements_words, inStatements_at, inStatements_deep, puStatements_words, puStatements_at, puStatements_deep, lnStatements, lpStatements1, lpStatements2, l0Statements, Txt.cl_Statements, Txt.na_Statements_words, Txt.na_Statements_at, Txt.na_Statements_deep, $ls,*])
def spNumber : Sp := fun vs H Q _ => ∃ (h l : Addr), vs = [.ref h] ∧ BoxB H h l ∧ ∀ r H', -1000 ≤ r → r ≤ 1000 → BoxB H' h l → Keep [h, l] H H' → Q (.int r) H'
section
variable {P : Program} {w : World} {K : PySem.W.Frag} {mg : Str → Option Value} {base : Heap}
theorem ok_l_number (T : Txt K mg w) : FnOk P w K mg base CX0 2 T.f_l_number T.fd_l_number ["_law_h"] spNumber := by
  have G_l_next : FnOk P w K mg base CX0 1 T.f_l_next T.fd_l_next ["_law_h", "_law_many"] spNext := ok_l_next T
  refine T.F_l_number.ok sc_l_number (fun vs H Q E h => ?_) (fun cdv A outer s H vs Q E hr h => ?_)
  · obtain ⟨h, l, rfl, _⟩ := h
    rfl
  · obtain ⟨h, l, rfl, B, k⟩ := h
    refine ⟨_, (pss_one (ps_ret (pe_ix ix_lst (pe_lst (pa_cons (pe_call G_l_next (hr.mono (by decide)) rfl T.mg_l_next T.F_l_next.kp T.b_l_next .nil pass0 (pa_cons (pv 0) (pa_cons pe_int pa_nil))) (pa_cons (pe_op op_sub (pe_call G_l_next (hr.mono (by decide)) rfl T.mg_l_next T.F_l_next.kp T.b_l_next .nil pass0 (pa_cons (pv 0) (pa_cons pe_int pa_nil))) pe_int) (pa_cons (pe_op op_sub (pe_call G_l_next (hr.mono (by decide)) rfl T.mg_l_next T.F_l_next.kp T.b_l_next .nil pass0 (pa_cons (pv 0) (pa_cons pe_int pa_nil))) pe_int) pa_nil)))) (pe_op op_fdiv (pe_call G_l_next (hr.mono (by decide)) rfl T.mg_l_next T.F_l_next.kp T.b_l_next .nil pass0 (pa_cons (pv 0) (pa_cons pe_int pa_nil))) pe_int) (fun _ _ => rfl)))), ?_⟩
    rw [show L2.start N_l_number [V.ref h] = [some (V.ref h)] from rfl]
    simp? only []
    refine ⟨h, l, 6, rfl, B, by decide, by decide, fun r1 H1 a0 a1 B1 k1 => ?_⟩
    refine ⟨h, l, 13, rfl, B1, by decide, by decide, fun r2 H2 b0 b1 B2 k2 => ?_⟩
    simp? only []
    refine ⟨h, l, 2000, rfl, B2, by decide, by decide, fun r3 H3 c0 c1 B3 k3 => ?_⟩
    simp? only []
    intro p hp
    have np : p ∉ [h, l] := (B3.free hp)
    refine ⟨h, l, 7, rfl, B3.same (same_new hp), by decide, by decide, fun r4 H4 d0 d1 B4 k4 => ?_⟩
    have e4 := k4 _ _ np upd_same
    have kk : Keep [h, l] H H4 := ((((k1.trans k2).trans k3).thenNew hp).trans k4)
    simp? only [e4]
    have hd : r4 / 3 = 0 ∨ r4 / 3 = 1 ∨ r4 / 3 = 2 := by omega
    rcases hd with e | e | e <;> rw [e] <;> simp? only []
    · exact k _ _ (by omega) (by omega) B4 kk
    · exact k _ _ (by omega) (by omega) B4 kk
    · exact k _ _ (by omega) (by omega) B4 kk
end

/-! ### tables and fields -/
abbrev Sh := Str × Addr × List Str
structure SH (H : Hp) (d : Addr) (es : List Sh) : Prop where
  at_ : H d = some (.dK (es.map fun e => (Sum.inr e.1, V.ref e.2.1)))
  tups : ∀ e ∈ es, tpO (H e.2.1) = some (e.2.2.map V.str)
  oks : ∀ e ∈ es, PyData.strOk e.1 = true ∧ ∀ s ∈ e.2.2, PyData.strOk s = true
  few : es.length ≤ 3 ∧ ∀ e ∈ es, e.2.2.length ≤ 4 ∧ 0 < e.2.2.length
  nd : (es.map (·.1)).Nodup
  zz : ∀ e ∈ es, Nm.gdN e.1 ∧ ∀ s ∈ e.2.2, Nm.gdN s
theorem tpO_keep {H H' : Hp} {ms : List Addr} {a : Addr} {xs : List V} (h : tpO (H a) = some xs) (k : Keep ms H H') (n : a ∉ ms) : tpO (H' a) = some xs := by
  cases e : H a with
  | none => rw [e] at h; cases h
  | some o => rw [k a o n e, ← e]; exact h
theorem tpO_same {H H' : Hp} {a : Addr} {xs : List V} (h : tpO (H a) = some xs) (k : Same H H') : tpO (H' a) = some xs := tpO_keep (ms := []) h (Keep.ofSame k) (by simp)
theorem tpO_notin {H : Hp} {h l a : Addr} {xs : List V} (B : BoxB H h l) (e : tpO (H a) = some xs) : a ∉ [h, l] := fun m => by
  obtain ⟨m0, ns, st, b1, b2, _⟩ := B
  simp only [List.mem_cons, List.mem_nil_iff, or_false] at m
  rcases m with rfl | rfl
  · rw [b1] at e; cases e
  · rw [b2] at e; cases e
theorem tpO_ne {H : Hp} {a p : Addr} {xs : List V} (e : tpO (H a) = some xs) (h : H p = none) : a ≠ p := fun z => by rw [z, h] at e; cases e
theorem SH.keepB {H H' : Hp} {h l d : Addr} {es : List Sh} (S : SH H d es) (B : BoxB H h l) (k : Keep [h, l] H H') : SH H' d es :=
  ⟨k _ _ (B.notin S.at_ (by intro xs q; cases q)) S.at_, fun e he => tpO_keep (S.tups e he) k (tpO_notin B (S.tups e he)), S.oks, S.few, S.nd, S.zz⟩
theorem SH.same {H H' : Hp} {d : Addr} {es : List Sh} (S : SH H d es) (k : Same H H') : SH H' d es :=
  ⟨k _ _ S.at_, fun e he => tpO_same (S.tups e he) k, S.oks, S.few, S.nd, S.zz⟩
theorem SH.look {H : Hp} {d : Addr} {es : List Sh} (S : SH H d es) : ∀ {t : Str}, t ∈ es.map (·.1) → ∃ e ∈ es, e.1 = t ∧ valV (es.map fun e => ((Sum.inr e.1 : Key), V.ref e.2.1)) (Sum.inr t) = some (.ref e.2.1) := by
  intro t ht
  clear S
  induction es with
  | nil => simp at ht
  | cons a r ih =>
    by_cases e : a.1 = t
    · exact ⟨a, List.mem_cons_self, e, valV_pos (congrArg Sum.inr e)⟩
    · rw [List.map_cons] at ht
      rcases List.mem_cons.mp ht with z | z
      · exact absurd z.symm e
      · obtain ⟨b, hb, h1, h2⟩ := ih z
        exact ⟨b, List.mem_cons_of_mem _ hb, h1, by rw [List.map_cons, valV_neg (fun q => e (Sum.inr.inj q))]; exact h2⟩
def nmT : Nat → Str
  | 0 => "ta"
  | 1 => "tb"
  | _ => "tc"
theorem nmT_at : ∀ k : Nat, k < 3 → ∃ c, atI (Str.ofString "abc").cps.toList (k : Int) = some c ∧ Str.ofString "t" ++ (⟨#[c]⟩ : Str) = nmT k
  | 0, _ => ⟨_, rfl, rfl⟩
  | 1, _ => ⟨_, rfl, rfl⟩
  | 2, _ => ⟨_, rfl, rfl⟩
  | n + 3, h => absurd h (by omega)
theorem len_tc (c) : (Str.ofString "t").length + (⟨#[c]⟩ : Str).length ≤ sizeLine := szl (Nat.le_of_ble_eq_true rfl)
theorem nmT_inj : ∀ a b : Nat, a < 3 → b < 3 → nmT a = nmT b → a = b := by
  intro a b ha hb h
  match a, b, ha, hb with
  | 0, 0, _, _ => rfl
  | 1, 1, _, _ => rfl
  | 2, 2, _, _ => rfl
  | 0, 1, _, _ => exact absurd h (by decide +kernel)
  | 0, 2, _, _ => exact absurd h (by decide +kernel)
  | 1, 0, _, _ => exact absurd h (by decide +kernel)
  | 1, 2, _, _ => exact absurd h (by decide +kernel)
  | 2, 0, _, _ => exact absurd h (by decide +kernel)
  | 2, 1, _, _ => exact absurd h (by decide +kernel)
theorem nmT_ok : ∀ a : Nat, PyData.strOk (nmT a) = true
  | 0 => by decide +kernel
  | 1 => by decide +kernel
  | n + 2 => by show PyData.strOk "tc" = true; decide +kernel
theorem nmT_zz : ∀ a : Nat, Nm.gdN (nmT a)
  | 0 => by unfold Nm.gdN; decide +kernel
  | 1 => by unfold Nm.gdN; decide +kernel
  | n + 2 => by show (Str.ofString "tc") ∈ Nm.nmL; decide +kernel
theorem nmT_nd : ∀ n : Nat, n ≤ 3 → ((List.range n).map nmT).Nodup
  | 0, _ => by decide +kernel
  | 1, _ => by decide +kernel
  | 2, _ => by decide +kernel
  | 3, _ => by decide +kernel
  | n + 4, h => absurd h (by omega)
def spShapes : Sp := fun vs H Q _ => ∃ (h l : Addr) (n : Int), vs = [.ref h, .int n] ∧ BoxB H h l ∧ 0 < n ∧ n ≤ 3 ∧ ∀ d es H', SH H' d es → 0 < es.length → H d = none → BoxB H' h l → Keep [h, l] H H' → Q (.ref d) H'
def spSome : Sp := fun vs H Q _ => ∃ (h d ta : Addr) (es : List Sh) (ts : List Str), vs = [.ref h, .ref d, .ref ta] ∧ SH H d es ∧ H ta = some (.lst (ts.map V.str)) ∧ ts.length ≤ 3 ∧ (∀ t ∈ ts, t ∈ es.map (·.1)) ∧
  ∀ a ps H', RF H' a ps → NG ps → ps.length ≤ 100 → H a = none → Same H H' → Q (.ref a) H'
def spTerm (d : Nat) : Sp := fun vs H Q _ => ∃ (h l fa : Addr) (ps : List Fd), vs = [.ref h, .ref fa, .int d] ∧ BoxB H h l ∧ RF H fa ps ∧ NG ps ∧ ps.length ≤ 100 ∧ fa ∉ [h, l] ∧
  ∀ v t H', RT H' v t → t.ok = true → ngF t → t.lim → t.deep ≤ d + 1 → BoxB H' h l → Keep [h, l] H H' → Q v H'
def spCond (d : Nat) : Sp := fun vs H Q _ => ∃ (h l fa : Addr) (ps : List Fd), vs = [.ref h, .ref fa, .int d] ∧ BoxB H h l ∧ RF H fa ps ∧ NG ps ∧ ps.length ≤ 100 ∧ fa ∉ [h, l] ∧
  ∀ v t H', RC H' v t → GC t d (2 ^ d) → BoxB H' h l → Keep [h, l] H H' → Q v H'
section
variable {P : Program} {w : World} {K : PySem.W.Frag} {mg : Str → Option Value} {base : Heap}
theorem ok_l_shapes (T : Txt K mg w) : FnOk P w K mg base CX0 2 T.f_l_shapes T.fd_l_shapes ["_law_h", "_law_many"] spShapes := by
  have G_l_next : FnOk P w K mg base CX0 1 T.f_l_next T.fd_l_next ["_law_h", "_law_many"] spNext := ok_l_next T
  refine T.F_l_shapes.ok sc_l_shapes (fun vs H Q E h => ?_) (fun cdv A outer s H vs Q E hr h => ?_)
  · obtain ⟨h, l, n, rfl, _⟩ := h
    rfl
  · have hu := hu_of hr
    obtain ⟨h, l, n, rfl, B, n0, n1, k⟩ := h
    refine ⟨_, (pss_cons (ps_set (i := 2) sc_l_shapes.nd rfl (Or.inl rfl) pe_dnewK)
      (pss_cons (ps_for PassesOwn.never rfl (pi_range1 rfl T.n_range (pa_cons (pe_op op_add pe_int (pe_call G_l_next (hr.mono (by decide)) rfl T.mg_l_next T.F_l_next.kp T.b_l_next .nil pass0 (pa_cons (pv 0) (pa_cons (pv 1) pa_nil)))) pa_nil)) (pg_name (i := 3) sc_l_shapes.nd rfl (Or.inl rfl)) (pss_one (ps_put hu (pv 2) (pe_op op_add_str pe_str (pe_ix ix_str pe_str (pv 3) (fun _ _ => rfl))) (pe_slice sl_tupF (pe_tup (pa_cons pe_str (pa_cons pe_str (pa_cons pe_str (pa_cons pe_str pa_nil))))) po_none (po_some (pe_op op_add pe_int (pe_call G_l_next (hr.mono (by decide)) rfl T.mg_l_next T.F_l_next.kp T.b_l_next .nil pass0 (pa_cons (pv 0) (pa_cons pe_int pa_nil)))))) rfl)))
      (pss_one (ps_ret (pv 2))))), ?_⟩
    rw [show L2.start N_l_shapes [V.ref h, V.int n] = [some (V.ref h), some (V.int n), none, none] from rfl]
    simp? only [tDNewK]
    intro d hd
    have nd : d ∉ [h, l] := B.free hd
    simp? only [tFor_eq, iRng1]
    refine ⟨h, l, n, rfl, B.same (same_new hd), n0, by omega, fun r H1 r0 r1 B1 k1 => ?_⟩
    have e1 := k1 _ _ nd upd_same
    simp? only []
    refine ⟨by omega, by omega, forB_it (for_it walk_range (fun i σ H2 => ∃ es x3, σ = [some (.ref h), some (.int n), some (.ref d), x3] ∧ es.map (·.1) = (List.range i).map nmT ∧ SH H2 d es ∧ BoxB H2 h l ∧ Keep [h, l] H H2)
      ⟨[], none, rfl, rfl, ⟨e1, fun e he => absurd he (by simp), fun e he => absurd he (by simp), by simp, List.nodup_nil, fun e he => absurd he (by simp)⟩, B1, (Keep.new hd).trans k1⟩ (fun _ _ _ _ _ => trivial) ?_ ?_)⟩
    · rintro i x σ H2 H3 hi ⟨es, x3, rfl, en, S, B2, k2⟩ ⟨rfl, rfl⟩
      have hi3 : i < 3 := by omega
      obtain ⟨ch, hc1, hc2⟩ := nmT_at i hi3
      have nv : valV (es.map fun e => ((Sum.inr e.1 : Key), V.ref e.2.1)) (Sum.inr (nmT i)) = none := by
        cases hv : valV (es.map fun e => ((Sum.inr e.1 : Key), V.ref e.2.1)) (Sum.inr (nmT i)) with
        | none => rfl
        | some z =>
          have q := valV_in hv
          rw [List.map_map] at q
          obtain ⟨e, he, hq⟩ := List.mem_map.mp q
          have hm : e.1 ∈ es.map (·.1) := List.mem_map.mpr ⟨e, he, rfl⟩
          rw [en] at hm
          obtain ⟨j, hj, hj2⟩ := List.mem_map.mp hm
          have hj := List.mem_range.mp hj
          have := nmT_inj j i (by omega) hi3 (hj2.trans (Sum.inr.inj hq))
          omega
      have el : es.length = i := by have := congrArg List.length en; simpa using this
      have fin : ∀ (H5 : Hp) (q : Addr) (fs : List Str), tpO (H5 q) = some (fs.map V.str) → (∀ s ∈ fs, PyData.strOk s = true ∧ Nm.gdN s) → (fs.length ≤ 4 ∧ 0 < fs.length) → Keep [h, l] H3 H5 → BoxB H5 h l →
          (es.map fun e => ((Sum.inr e.1 : Key), V.ref e.2.1)).length < sizeLine ∧ ∃ es', es'.map (·.1) = (List.range (i + 1)).map nmT ∧ SH (upd H5 d (.dK (putK (es.map fun e => (Sum.inr e.1, V.ref e.2.1)) (Sum.inr (nmT i)) (.ref q)))) d es' ∧
            BoxB (upd H5 d (.dK (putK (es.map fun e => (Sum.inr e.1, V.ref e.2.1)) (Sum.inr (nmT i)) (.ref q)))) h l ∧ Keep [h, l] H (upd H5 d (.dK (putK (es.map fun e => (Sum.inr e.1, V.ref e.2.1)) (Sum.inr (nmT i)) (.ref q)))) := by
        intro H5 q fs hq ho hf k5 B5
        have S5 := S.keepB B2 k5
        rw [putK_new _ nv]
        have nqd : q ≠ d := fun z => by rw [z, S5.at_] at hq; cases hq
        refine ⟨by rw [List.length_map]; exact szl' (by omega), es ++ [(nmT i, q, fs)], ?_, ⟨?_, ?_, ?_, ⟨?_, ?_⟩, ?_, ?_⟩, B5.updNot nd, (k2.trans k5).updFree hd⟩
        · rw [List.map_append, en, List.range_succ, List.map_append]; rfl
        · rw [upd_same, List.map_append]; rfl
        · intro e he
          rcases List.mem_append.mp he with he | he
          · have t5 := S5.tups e he
            have ne : e.2.1 ≠ d := fun z => by rw [z, S5.at_] at t5; cases t5
            rw [upd_ne ne]; exact t5
          · cases List.mem_singleton.mp he
            rw [upd_ne nqd]; exact hq
        · intro e he
          rcases List.mem_append.mp he with he | he
          · exact S.oks e he
          · cases List.mem_singleton.mp he
            exact ⟨nmT_ok i, fun s hs => (ho s hs).1⟩
        · rw [List.length_append, el]; simp; omega
        · intro e he
          rcases List.mem_append.mp he with he | he
          · exact S.few.2 e he
          · cases List.mem_singleton.mp he
            exact hf
        · have z : (es ++ [((nmT i, q, fs) : Sh)]).map (·.1) = (List.range (i + 1)).map nmT := by rw [List.map_append, en, List.range_succ, List.map_append]; rfl
          rw [z]
          exact nmT_nd (i + 1) (by omega)
        · intro e he
          rcases List.mem_append.mp he with he | he
          · exact S.zz e he
          · cases List.mem_singleton.mp he
            exact ⟨nmT_zz i, fun s hs => (ho s hs).2⟩
      have fok : ∀ s ∈ (["k", "x", "y", "z"] : List Str), PyData.strOk s = true ∧ s ∈ Nm.nmL := by decide +kernel
      simp? only [gName]
      intro p hp
      have np := B2.free hp
      refine ⟨h, l, 4, rfl, B2.same (same_new hp), by decide, by decide, fun r2 H4 c0 c1 B4 k4 => ?_⟩
      have e4 := k4 _ _ np upd_same
      have k34 : Keep [h, l] H3 H4 := (Keep.new hp).trans k4
      have d4 := (S.keepB B2 k34).at_
      simp? only [e4]
      refine ⟨fun _ => ⟨_, _, ch, rfl, rfl, szl (by decide +kernel), by rw [Int.zero_add]; exact hc1, _, rfl, len_tc ch, ?_⟩, fun _ q oq hq qc qd => ⟨_, _, ch, rfl, rfl, szl (by decide +kernel), by rw [Int.zero_add]; exact hc1, _, rfl, len_tc ch, ?_⟩⟩
      · rw [hc2]
        exact ⟨_, d4, fin H4 p ["k", "x", "y", "z"] (by rw [e4]; rfl) fok (by decide) k34 B4⟩
      · rw [hc2]
        have nqd : d ≠ q := ne_of_none d4 hq
        refine ⟨_, (upd_ne nqd).trans d4, fin _ q ((["k", "x", "y", "z"] : List Str).take (1 + r2).toNat) ?_ (fun s hs => fok s (List.mem_of_mem_take hs)) (by rw [List.length_take]; refine ⟨Nat.min_le_right _ _, ?_⟩; show 0 < min (1 + r2).toNat 4; omega) (k34.thenNew hq) (B4.same (same_new hq))⟩
        have hsx : HT.sIx 4 4 (some (1 + r2)) = (1 + r2).toNat := by
          unfold HT.sIx
          dsimp only
          rw [if_neg (by omega)]
          omega
        rw [upd_same]
        unfold cutV
        rw [HT.sIx_none]
        show some (List.take (HT.sIx 4 4 (some (1 + r2)) - 0) [V.str "k", V.str "x", V.str "y", V.str "z"]) = _
        rw [hsx, List.map_take]
        rfl
    · rintro σ H2 ⟨es, x3, rfl, en, S, B2, k2⟩
      simp? only []
      have el := congrArg List.length en
      rw [List.length_map, List.length_map, List.length_range] at el
      exact k _ es _ S (by omega) hd B2 k2
theorem ok_l_some (T : Txt K mg w) : FnOk P w K mg base CX0 1 T.f_l_some T.fd_l_some ["_law_h", "_law_shapes_here", "_law_tables"] spSome := by
  refine T.F_l_some.ok sc_l_some (fun vs H Q E h => ?_) (fun cdv A outer s H vs Q E hr h => ?_)
  · obtain ⟨h, d, ta, es, ts, rfl, _⟩ := h
    rfl
  · have hu := hu_of hr
    obtain ⟨h, d, ta, es, ts, rfl, S, hta, hl, hts, k⟩ := h
    refine ⟨_, (pss_cons (ps_set (i := 3) sc_l_some.nd rfl (Or.inl rfl) (pe_lst pa_nil))
      (pss_cons (ps_for PassesOwn.never rfl (pi_listK K rfl (pv 2)) (pg_name (i := 4) sc_l_some.nd rfl (Or.inr rfl)) (pss_one (ps_set (i := 3) sc_l_some.nd rfl (Or.inl rfl) (pe_op op_cat (pv 3) (pe_lc (own := [("_law_field", 5)]) (g := gName 5) (tt := tYes) rfl sc_l_some.nd (pi_tupK K rfl (pe_getI hu (pv 1) (pv 4) (fun _ _ => rfl))) (blkOk_by (N := N_l_some) (sc := defScope s_l_some) (by decide +kernel)) (fun _ _ _ _ _ => (pg_name (i := 5) sc_l_some.nd rfl (Or.inl rfl))) (fun _ _ _ _ _ => pts_nil) (fun _ _ _ _ _ => (pe_tup (pa_cons (pv 4) (pa_cons (pv 5) pa_nil)))))))))
      (pss_one (ps_ret (pv 3))))), ?_⟩
    rw [show L2.start N_l_some [V.ref h, V.ref d, V.ref ta] = [some (V.ref h), some (V.ref d), some (V.ref ta), none, none, none] from rfl]
    simp? only []
    intro a ha
    simp? only [tFor_eq, iList]
    refine ⟨⟨_, .inl (.inl (same_new ha _ _ hta))⟩, forB_it (for_it (walk_list (xs := ts.map V.str)) (fun i σ H2 => ∃ f ps x4, σ = [some (.ref h), some (.ref d), some (.ref ta), some (.ref f), x4, none] ∧ RF H2 f ps ∧ NG ps ∧ ps.length ≤ 4 * i ∧ Same H H2 ∧ H f = none)
      ⟨a, [], none, rfl, ⟨upd_same, fun e he => absurd he (by simp), fun e he => absurd he (by simp)⟩, fun e he => absurd he (by simp), by simp, same_new ha, ha⟩ (fun _ _ H2 _ ⟨_, _, _, _, _, _, _, S2, _⟩ => .inl (.inl (S2 _ _ hta))) ?_ ?_)⟩
    · rintro i x σ H2 H3 hi ⟨f, ps, x4, rfl, R, nzs, hlen, S2, hf⟩ ⟨rfl, hx⟩
      obtain ⟨t, ht, rfl⟩ := str_at hx
      obtain ⟨e, he, het, hev⟩ := (S.same S2).look (hts t (List.mem_of_getElem? ht))
      have hd2 := (S.same S2).at_
      have hev' := (S.same S2).tups e he
      simp? only [gName, tLc_eq, iTup, hd2, hev]
      refine ⟨⟨_, .inl (rd_tpO hev')⟩, lcB_it fun D hD => lc_it (walk_tup (xs := e.2.2.map V.str)) (fun j H5 => ∃ qs : List Fd, RF H5 D qs ∧ NG qs ∧ qs.length = j ∧ Same H3 H5) ⟨[], ⟨upd_same, fun e he => absurd he (by simp), fun e he => absurd he (by simp)⟩, fun e he => absurd he (by simp), rfl, same_new hD⟩
        (fun _ H5 _ ⟨_, _, _, _, S5⟩ => .inl (rd_tpO (tpO_same hev' S5))) ?_ ?_⟩
      · rintro j x H5 H6 hj ⟨qs, RQ, nq, ql, S5⟩ ⟨rfl, hx⟩
        obtain ⟨s0, hs0, rfl⟩ := str_at hx
        rw [List.length_map] at hj
        simp? only [gName]
        intro p hp
        have nDp : D ≠ p := ne_of_none RQ.at_ hp
        simp? only [upd_ne nDp, RQ.at_]
        have e4 := (S.few.2 e he).1
        refine ⟨szl' (by omega), qs ++ [(p, t, s0)], ⟨?_, ?_, ?_⟩, fun e' he' => (List.mem_append.mp he').elim (nq e') (fun z => by cases List.mem_singleton.mp z; exact ⟨het ▸ (S.zz e he).1, (S.zz e he).2 s0 (List.mem_of_getElem? hs0)⟩), by rw [List.length_append, ql]; rfl, Same.updFree (S5.trans (same_new hp)) hD⟩
        · rw [upd_same, List.map_append]; rfl
        · intro e' he'
          rcases List.mem_append.mp he' with he' | he'
          · have t5 := RQ.tups e' he'
            rw [upd_ne (fun z => by rw [z, RQ.at_] at t5; cases t5), upd_ne (ne_of_none t5 hp)]
            exact t5
          · cases List.mem_singleton.mp he'
            rw [upd_ne nDp.symm, upd_same]
        · intro e' he'
          rcases List.mem_append.mp he' with he' | he'
          · exact RQ.oks e' he'
          · cases List.mem_singleton.mp he'
            exact ⟨het ▸ (S.oks e he).1, (S.oks e he).2 s0 (List.mem_of_getElem? hs0)⟩
      · rintro H5 ⟨qs, RQ, nq, ql, S5⟩
        rw [List.length_map] at ql
        have R5 := R.same S5
        simp? only [R5.at_, RQ.at_]
        have e4 := (S.few.2 e he).1
        rw [List.length_map] at hi
        refine ⟨szl (by omega), fun p hp => ⟨ps ++ qs, ⟨?_, ?_, ?_⟩, fun e' he' => (List.mem_append.mp he').elim (nzs e') (nq e'), by rw [List.length_append]; omega, (S2.trans S5).trans (same_new hp), (S2.trans S5).free hp⟩⟩
        · rw [upd_same, List.map_append]
        · intro e' he'
          rcases List.mem_append.mp he' with he' | he'
          · exact (R5.same (same_new hp)).tups e' he'
          · exact (RQ.same (same_new hp)).tups e' he'
        · intro e' he'
          rcases List.mem_append.mp he' with he' | he'
          · exact R.oks e' he'
          · exact RQ.oks e' he'

    · rintro σ H2 ⟨f, ps, x4, rfl, R, nzs, hlen, S2, hf⟩
      rw [List.length_map] at hlen
      simp? only []
      exact k _ ps _ R nzs (by omega) hf S2
theorem _root_.G7.RF.pick {H : Hp} {a : Addr} {ps : List Fd} {j : Int} (R : RF H a ps) (h0 : 0 ≤ j) (h1 : j < (ps.length : Int)) : ∃ f ∈ ps, atI (ps.map fun e => V.ref e.1) j = some (.ref f.1) := by
  have hl : j.toNat < ps.length := by omega
  refine ⟨ps[j.toNat], List.getElem_mem hl, ?_⟩
  rw [atN h0, List.getElem?_map, List.getElem?_eq_getElem hl]
  rfl
theorem pm_at : ∀ r : Int, 0 ≤ r → r < 3 → ∃ o : Wd, o.isOp = true ∧ ∃ c, atI (Str.ofString "+-*").cps.toList r = some c ∧ (⟨#[c]⟩ : Str) = o.s := by
  intro r h0 h1
  have e : r = 0 ∨ r = 1 ∨ r = 2 := by omega
  rcases e with rfl | rfl | rfl
  · exact ⟨.add, rfl, _, rfl, rfl⟩
  · exact ⟨.sub, rfl, _, rfl, rfl⟩
  · exact ⟨.mul, rfl, _, rfl, rfl⟩
theorem l_term_step (T : Txt K mg w) (d : Nat) (sp0 : Sp) (G_l_term : FnOk P w K mg base CX0 (d + 2) T.f_l_term T.fd_l_term ["_law_h", "_law_fields", "_law_deep"] sp0) (h0 : ∀ e, d = e + 1 → sp0 = spTerm e) :
    FnOk P w K mg base CX0 (d + 3) T.f_l_term T.fd_l_term ["_law_h", "_law_fields", "_law_deep"] (spTerm d) := by
  have G_l_next : FnOk P w K mg base CX0 1 T.f_l_next T.fd_l_next ["_law_h", "_law_many"] spNext := ok_l_next T
  have G_l_number : FnOk P w K mg base CX0 2 T.f_l_number T.fd_l_number ["_law_h"] spNumber := ok_l_number T
  refine T.F_l_term.ok sc_l_term (fun vs H Q E h => ?_) (fun cdv A outer s H vs Q E hr h => ?_)
  · obtain ⟨h, l, fa, ps, rfl, _⟩ := h
    rfl
  · have hu64 := hu64_of hr
    obtain ⟨h, l, fa, ps, rfl, B, R, hz0, hps, nfa, k⟩ := h
    refine ⟨_, (pss_cons (ps_set (i := 3) sc_l_term.nd rfl (Or.inl rfl) (pe_call G_l_next (hr.mono (by show _ ≤ d + 2; omega)) rfl T.mg_l_next T.F_l_next.kp T.b_l_next .nil pass0 (pa_cons (pv 0) (pa_cons pe_int pa_nil))))
      (pss_cons (ps_if (PW.pt (pw_and (pt_cmpR op_lt (pv 3) pe_int (nomark _)) (pw_and1 (pt_cmpR op_gt (pv 2) pe_int (nomark _))))) (pss_one (ps_ret (pe_tup (pa_cons (pe_ix ix_str pe_str (pv 3) (fun _ _ => rfl)) (pa_cons (pe_call G_l_term (hr.mono (by show _ ≤ d + 2; omega)) rfl T.mg_l_term T.F_l_term.kp T.b_l_term .nil pass0 (pa_cons (pv 0) (pa_cons (pv 1) (pa_cons (pe_op op_sub (pv 2) pe_int) pa_nil)))) (pa_cons (pe_call G_l_term (hr.mono (by show _ ≤ d + 2; omega)) rfl T.mg_l_term T.F_l_term.kp T.b_l_term .nil pass0 (pa_cons (pv 0) (pa_cons (pv 1) (pa_cons (pe_op op_sub (pv 2) pe_int) pa_nil)))) pa_nil)))))) pss_nil)
      (pss_cons (ps_if (PW.pt (pw_or (pt_cmpR op_lt (pv 3) pe_int (nomark _)) (pw_or1 (pt_cmpR (op_eqDK K rfl hu64) (pv 1) (pe_lst pa_nil) (nomark _))))) (pss_one (ps_ret (pe_tup (pa_cons pe_str (pa_cons (pe_call G_l_number (hr.mono (by show _ ≤ d + 2; omega)) rfl T.mg_l_number T.F_l_number.kp T.b_l_number .nil pass0 (pa_cons (pv 0) pa_nil)) pa_nil))))) pss_nil)
      (pss_one (ps_ret (pe_op op_catH (pe_tup (pa_cons pe_str pa_nil)) (pe_ix ix_lst (pv 1) (pe_call G_l_next (hr.mono (by show _ ≤ d + 2; omega)) rfl T.mg_l_next T.F_l_next.kp T.b_l_next .nil pass0 (pa_cons (pv 0) (pa_cons (pe_callB len_lst (by rfl) T.n_len PySem.boot_len (pa_cons (pv 1) pa_nil)) pa_nil))) (fun _ _ => rfl)))))))), ?_⟩
    rw [show L2.start N_l_term [V.ref h, V.ref fa, V.int (d : Int)] = [some (V.ref h), some (V.ref fa), some (V.int (d : Int)), none] from rfl]
    simp? only []
    refine ⟨h, l, 8, rfl, B, by decide, by decide, fun r H1 r0 r1 B1 k1 => ?_⟩
    have R1 := R.keepB k1 B nfa
    simp? only []
    by_cases c : r < 3 ∧ 0 < (d : Int)
    · simp? only [c.1, c.2]
      obtain ⟨e, rfl⟩ : ∃ e, d = e + 1 := ⟨d - 1, by omega⟩
      cases h0 e rfl
      obtain ⟨o, ho, ch, hc1, hc2⟩ := pm_at r r0 c.1
      refine ⟨_, _, ch, rfl, rfl, szl (by decide +kernel), hc1, ?_⟩
      have ee : ((e + 1 : Nat) : Int) - 1 = e := by omega
      rw [hc2, ee]
      refine ⟨h, l, fa, ps, rfl, B1, R1, hz0, hps, nfa, fun v1 t1 H2 x1 o1 z1 l1 d1 B2 k2 => ?_⟩
      refine ⟨h, l, fa, ps, rfl, B2, R1.keepB k2 B1 nfa, hz0, hps, nfa, fun v2 t2 H3 x2 o2 z2 l2 d2 B3 k3 => ?_⟩
      simp? only []
      intro p hp
      have s3 := same_new (o := .tup [.str o.s, v1, v2]) hp
      refine k _ (.op o t1 t2) _ ⟨p, v1, v2, rfl, upd_same, (x1.tups (B2.tups k3)).tups (TupS.ofSame s3), x2.tups (TupS.ofSame s3)⟩ ?_ ⟨z1, z2⟩ ⟨l1, l2⟩ ?_ (B3.same s3) (((k1.trans k2).trans k3).thenNew hp)
      · simp only [Tm.ok, ho, o1, o2, Bool.and_true]
      · simp only [Tm.deep]; omega
    · have num : ∀ H2, BoxB H2 h l → Keep [h, l] H H2 → spNumber [V.ref h] H2 (fun x H1 => ∀ (p : Addr), H1 p = none → Q (V.ref p) (upd H1 p (HO.tup [V.str Wd.num.s, x]))) E0 := fun H2 B2 k2 =>
        ⟨h, l, rfl, B2, fun z H3 z0 z1 B3 k3 p hp => k _ (.num z) _ ⟨p, rfl, upd_same⟩ rfl trivial ⟨z0, z1⟩ (by simp [Tm.deep]) (B3.same (same_new hp)) ((k2.trans k3).thenNew hp)⟩
      have c' : ¬ r < 3 ∨ ¬ 0 < (d : Int) := by omega
      rcases c' with c | c
      all_goals
        simp? only [c, ite_self]
        by_cases c5 : r < 5
        · simp? only [c5]
          exact num _ B1 k1
        · simp? only [c5]
          intro p hp
          have R2 := R1.same (same_new (o := .lst []) hp)
          have B2 := B1.same (same_new (o := .lst []) hp)
          have k2 : Keep [h, l] H (upd H1 p (.lst [])) := k1.thenNew hp
          refine R2.eqNil upd_same ?_
          cases hps0 : ps.isEmpty with
          | true =>
            simp? only []
            exact num _ B2 k2
          | false =>
            simp? only []
            have pos : 0 < ps.length := by
              cases ps with
              | nil => cases hps0
              | cons _ _ => simp
            intro q hq
            have R3 := R2.same (same_new (o := .tup [V.str Wd.field.s]) hq)
            have B3 := B2.same (same_new (o := .tup [V.str Wd.field.s]) hq)
            have e3 := R3.at_
            simp? only [e3]
            refine ⟨h, l, _, rfl, B3, by omega, by omega, fun j H4 j0 j1 B4 k4 => ?_⟩
            have R4 := R3.keepB k4 B3 nfa
            have e4 := R4.at_
            have q4 := k4 _ _ (B2.free hq) upd_same
            obtain ⟨f, hf, hat⟩ := R4.pick j0 j1
            have t4 := R4.tups f hf
            simp? only [e4, q4, hat, t4]
            intro p hp
            exact k _ (.fld f.2.1 f.2.2) _ ⟨p, rfl, upd_same⟩ (by simp only [Tm.ok, (R4.oks f hf).1, (R4.oks f hf).2, Bool.and_true]) (hz0 f hf) trivial (by simp [Tm.deep]) (B4.same (same_new hp)) (((k2.thenNew hq).trans k4).thenNew hp)
theorem ok_l_term (T : Txt K mg w) : ∀ d : Nat, FnOk P w K mg base CX0 (d + 3) T.f_l_term T.fd_l_term ["_law_h", "_law_fields", "_law_deep"] (spTerm d)
  | 0 => l_term_step T 0 (fun _ _ _ _ => False) (T.F_l_term.ok sc_l_term (fun vs H Q E h => h.elim) (fun cdv A outer s H vs Q E hr h => h.elim)) (fun e h => absurd h (by omega))
  | d + 1 => l_term_step T (d + 1) (spTerm d) (ok_l_term T d) (fun e h => by cases h; rfl)
theorem l_cond_step (T : Txt K mg w) (d : Nat) (sp0 : Sp) (G_l_cond : FnOk P w K mg base CX0 (d + 5) T.f_l_cond T.fd_l_cond ["_law_h", "_law_fields", "_law_deep"] sp0) (h0 : ∀ e, d = e + 1 → sp0 = spCond e) :
    FnOk P w K mg base CX0 (d + 6) T.f_l_cond T.fd_l_cond ["_law_h", "_law_fields", "_law_deep"] (spCond d) := by
  have G_l_next : FnOk P w K mg base CX0 1 T.f_l_next T.fd_l_next ["_law_h", "_law_many"] spNext := ok_l_next T
  have G_l_term : FnOk P w K mg base CX0 4 T.f_l_term T.fd_l_term ["_law_h", "_law_fields", "_law_deep"] (spTerm 1) := ok_l_term T 1
  refine T.F_l_cond.ok sc_l_cond (fun vs H Q E h => ?_) (fun cdv A outer s H vs Q E hr h => ?_)
  · obtain ⟨h, l, fa, ps, rfl, _⟩ := h
    rfl
  · have hu64 := hu64_of hr
    obtain ⟨h, l, fa, ps, rfl, B, R, hz0, hps, nfa, k⟩ := h
    refine ⟨_, (pss_cons (ps_set (i := 3) sc_l_cond.nd rfl (Or.inl rfl) (pe_call G_l_next (hr.mono (by show _ ≤ d + 5; omega)) rfl T.mg_l_next T.F_l_next.kp T.b_l_next .nil pass0 (pa_cons (pv 0) (pa_cons pe_int pa_nil))))
      (Evl.pss_cut (ps_if (PW.pt (pw_and (pt_cmpR op_lt (pv 3) pe_int (nomark _)) (pw_and1 (pt_cmpR op_gt (pv 2) pe_int (nomark _))))) (Evl.pss_cut (ps_set (i := 4) sc_l_cond.nd rfl (Or.inl rfl) (pe_ix ix_lst (pe_lst (pa_cons pe_str (pa_cons pe_str (pa_cons pe_str (pa_cons pe_str pa_nil))))) (pv 3) (fun _ _ => rfl)))
        (Evl.pss_cut (ps_set (i := 5) sc_l_cond.nd rfl (Or.inl rfl) (pe_callTy tuple_lst (by rfl) T.n_tuple (by decide +kernel) (pa_cons (pe_lc (own := [("_law_k", 8)]) (g := gName 8) (tt := tYes) rfl sc_l_cond.nd (pi_range1 rfl T.n_range (pa_cons (pe_ifExp (pt_cmpR op_eq (pv 4) pe_str (nomark _)) pe_int pe_int) pa_nil)) (blkOk_by (N := N_l_cond) (sc := defScope s_l_cond) (by decide +kernel)) (fun _ _ _ _ _ => (pg_name (i := 8) sc_l_cond.nd rfl (Or.inl rfl))) (fun _ _ _ _ _ => pts_nil) (fun _ _ _ _ _ => (pe_call G_l_cond (hr.mono (by show _ ≤ d + 5; omega)) rfl T.mg_l_cond T.F_l_cond.kp T.b_l_cond .nil pass0 (pa_cons (pv 0) (pa_cons (pv 1) (pa_cons (pe_op op_sub (pv 2) pe_int) pa_nil)))))) pa_nil)))
        (pss_one (ps_ret (pe_op op_catH (pe_tup (pa_cons (pv 4) pa_nil)) (pv 5)))))) pss_nil)
      (Evl.pss_cut (ps_set (i := 4) sc_l_cond.nd rfl (Or.inl rfl) (pe_ix ix_lst (pe_lst (pa_cons pe_str (pa_cons pe_str (pa_cons pe_str (pa_cons pe_str (pa_cons pe_str pa_nil)))))) (pe_call G_l_next (hr.mono (by show _ ≤ d + 5; omega)) rfl T.mg_l_next T.F_l_next.kp T.b_l_next .nil pass0 (pa_cons (pv 0) (pa_cons pe_int pa_nil))) (fun _ _ => rfl)))
      (Evl.pss_cut (ps_if (PW.pt (pw_and (pt_cmpR op_gt (pe_call G_l_next (hr.mono (by show _ ≤ d + 5; omega)) rfl T.mg_l_next T.F_l_next.kp T.b_l_next .nil pass0 (pa_cons (pv 0) (pa_cons pe_int pa_nil))) pe_int (nomark _)) (pw_and1 (pt_cmpR (op_neDK K rfl hu64) (pv 1) (pe_lst pa_nil) (nomark _))))) (Evl.pss_cut (ps_set (i := 6) sc_l_cond.nd rfl (Or.inl rfl) (pe_op op_catH (pe_tup (pa_cons pe_str pa_nil)) (pe_ix ix_lst (pv 1) (pe_call G_l_next (hr.mono (by show _ ≤ d + 5; omega)) rfl T.mg_l_next T.F_l_next.kp T.b_l_next .nil pass0 (pa_cons (pv 0) (pa_cons (pe_callB len_lst (by rfl) T.n_len PySem.boot_len (pa_cons (pv 1) pa_nil)) pa_nil))) (fun _ _ => rfl))))
        (pss_cons (ps_set (i := 7) sc_l_cond.nd rfl (Or.inl rfl) (pe_tup (pa_cons (pv 6) (pa_cons (pe_tup (pa_cons pe_str (pa_cons (pe_call G_l_next (hr.mono (by show _ ≤ d + 5; omega)) rfl T.mg_l_next T.F_l_next.kp T.b_l_next .nil pass0 (pa_cons (pv 0) (pa_cons pe_int pa_nil))) pa_nil))) pa_nil))))
        (pss_one (ps_ret (pe_op op_catH (pe_tup (pa_cons (pv 4) pa_nil)) (pe_ifExp (pt_cmpR op_eq (pe_call G_l_next (hr.mono (by show _ ≤ d + 5; omega)) rfl T.mg_l_next T.F_l_next.kp T.b_l_next .nil pass0 (pa_cons (pv 0) (pa_cons pe_int pa_nil))) pe_int (nomark _)) (pv 7) (pe_revT (pv 7) (po_some (pe_un un_neg pe_int))))))))) pss_nil)
      (pss_one (ps_ret (pe_tup (pa_cons (pv 4) (pa_cons (pe_call G_l_term (hr.mono (by show _ ≤ d + 5; omega)) rfl T.mg_l_term T.F_l_term.kp T.b_l_term .nil pass0 (pa_cons (pv 0) (pa_cons (pv 1) (pa_cons pe_int pa_nil)))) (pa_cons (pe_call G_l_term (hr.mono (by show _ ≤ d + 5; omega)) rfl T.mg_l_term T.F_l_term.kp T.b_l_term .nil pass0 (pa_cons (pv 0) (pa_cons (pv 1) (pa_cons pe_int pa_nil)))) pa_nil)))))))))), ?_⟩
    rw [show L2.start N_l_cond [V.ref h, V.ref fa, V.int (d : Int)] = [some (V.ref h), some (V.ref fa), some (V.int (d : Int)), none, none, none, none, none, none] from rfl]
    simp? only []
    refine ⟨h, l, 8, rfl, B, by decide, by decide, fun r H1 r0 r1 B1 k1 => ?_⟩
    have R1 := R.keepB k1 B nfa
    simp? only []
    refine ⟨fun σ' H2 => σ' = [some (.ref h), some (.ref fa), some (.int (d : Int)), some (.int r), none, none, none, none, none] ∧ H2 = H1, ?_, ?_⟩
    · simp? only []
      by_cases c : r < 4
      · simp? only [c]
        by_cases c2 : 0 < (d : Int)
        · simp? only [c2]
          obtain ⟨e, rfl⟩ : ∃ e, d = e + 1 := ⟨d - 1, by omega⟩
          cases h0 e rfl
          have ee : ((e + 1 : Nat) : Int) - 1 = e := by omega
          refine ⟨fun σ' H2 => ∃ o : Wd, σ' = [some (.ref h), some (.ref fa), some (.int ((e + 1 : Nat) : Int)), some (.int r), some (.str o.s), none, none, none, none] ∧ (o = .not ∨ o.isCon = true) ∧ BoxB H2 h l ∧ Keep [h, l] H H2, ?_, ?_⟩
          · simp? only []
            intro p hp
            have B2 := B1.same (same_new (o := .lst [.str Wd.and.s, .str Wd.and.s, .str Wd.or.s, .str Wd.not.s]) hp)
            have k2 := k1.thenNew (o := .lst [.str Wd.and.s, .str Wd.and.s, .str Wd.or.s, .str Wd.not.s]) hp
            have er : r = 0 ∨ r = 1 ∨ r = 2 ∨ r = 3 := by omega
            rcases er with rfl | rfl | rfl | rfl
            · exact ⟨_, rfl, .and, rfl, .inr rfl, B2, k2⟩
            · exact ⟨_, rfl, .and, rfl, .inr rfl, B2, k2⟩
            · exact ⟨_, rfl, .or, rfl, .inr rfl, B2, k2⟩
            · exact ⟨_, rfl, .not, rfl, .inl rfl, B2, k2⟩
          rintro σ' H2 ⟨o, rfl, ho, B2, k2⟩
          have R2 := R.keepB k2 B nfa
          have main : ∀ n : Nat, n ≤ 2 → ∀ (Q' : VK), (∀ D H5 (es : List (V × G7.Cd)), es.length = n → (∀ e' ∈ es, RC H5 e'.1 e'.2 ∧ GC e'.2 e (2 ^ e)) → H5 D = some (.lst (es.map (·.1))) → BoxB H5 h l → Keep [h, l] H H5 → Q' (.ref D) H5) →
              lcB (Itr 0 n) (gName 8) tYes (tCall (spCond e) [] E0 (tCons (tVar 0) (tCons (tVar 1) (tCons (tOp (rI0 fun i j => V.int (i - j)) (tVar 2) (tC (V.int 1))) tNil)))) [8]
                [some (.ref h), some (.ref fa), some (.int ((e + 1 : Nat) : Int)), some (.int r), some (.str o.s), none, none, none, none] H2 Q' := by
            intro n hn Q' kq
            refine lcB_it fun D hD => ?_
            have nD := B2.free hD
            refine lc_it walk_range (fun i H5 => ∃ es : List (V × G7.Cd), es.length = i ∧ (∀ e' ∈ es, RC H5 e'.1 e'.2 ∧ GC e'.2 e (2 ^ e)) ∧ H5 D = some (.lst (es.map (·.1))) ∧ BoxB H5 h l ∧ Keep [h, l] H H5)
              ⟨[], rfl, fun e' he => absurd he (by simp), upd_same, B2.same (same_new hD), k2.thenNew hD⟩ (fun _ _ _ _ => trivial) ?_ ?_
            · rintro i x H5 H6 hi ⟨es, el, hes, eD, B5, k5⟩ ⟨rfl, rfl⟩
              simp? only [gName]
              rw [ee]
              refine ⟨h, l, fa, ps, rfl, B5, R.keepB k5 B nfa, hz0, hps, nfa, fun v t H6 xt gt B6 k6 => ?_⟩
              have e6 := k6 _ _ nD eD
              simp? only [e6]
              have hup : ∀ u, Mut (some u) → True := fun _ _ => trivial
              refine ⟨szl' (by omega), es ++ [(v, t)], by rw [List.length_append, el]; rfl, ?_, by rw [List.map_append]; rfl, B6.updNot nD, (k5.trans k6).updFree (free_keep k2 nD hD)⟩
              have ts : TupS H6 (upd H6 D (.lst (es.map (·.1) ++ [v]))) := TupS.refl.upd e6 (by intro xs q; cases q)
              intro e' he'
              rcases List.mem_append.mp he' with he' | he'
              · exact ⟨((hes e' he').1.tups (B5.tups k6)).tups ts, (hes e' he').2⟩
              · cases List.mem_singleton.mp he'
                exact ⟨xt.tups ts, gt⟩
            · rintro H5 ⟨es, el, hes, eD, B5, k5⟩
              exact kq D H5 es el hes eD B5 k5
          refine ⟨fun σ' H5 => ∃ (q : Addr) (es : List (V × G7.Cd)), σ' = [some (.ref h), some (.ref fa), some (.int ((e + 1 : Nat) : Int)), some (.int r), some (.str o.s), some (.ref q), none, none, none] ∧ es.length = (if o = .not then 1 else 2) ∧
            (∀ e' ∈ es, RC H5 e'.1 e'.2 ∧ GC e'.2 e (2 ^ e)) ∧ H5 q = some (.tup (es.map (·.1))) ∧ BoxB H5 h l ∧ Keep [h, l] H H5, ?_, ?_⟩
          · have fin : ∀ n : Nat, n = (if o = .not then 1 else 2) → ∀ D H5 (es : List (V × G7.Cd)), es.length = n → (∀ e' ∈ es, RC H5 e'.1 e'.2 ∧ GC e'.2 e (2 ^ e)) → H5 D = some (.lst (es.map (·.1))) → BoxB H5 h l → Keep [h, l] H H5 → ∀ q, H5 q = none →
                ∃ (es' : List (V × G7.Cd)), es'.length = (if o = .not then 1 else 2) ∧ (∀ e' ∈ es', RC (upd H5 q (.tup (es.map (·.1)))) e'.1 e'.2 ∧ GC e'.2 e (2 ^ e)) ∧ es.map (·.1) = es'.map (·.1) ∧ BoxB (upd H5 q (.tup (es.map (·.1)))) h l ∧ Keep [h, l] H (upd H5 q (.tup (es.map (·.1)))) :=
              fun n hn D H5 es el hes eD B5 k5 q hq => ⟨es, el.trans hn, fun e' he' => ⟨(hes e' he').1.tups (TupS.ofSame (same_new hq)), (hes e' he').2⟩, rfl, B5.same (same_new hq), k5.thenNew hq⟩
            simp? only [tLc_eq, iRng1]
            by_cases hn : o = .not
            · simp? only [hn]
              subst hn
              refine main 1 (by decide) _ fun D H5 es el hes eD B5 k5 => ?_
              simp? only [eD]
              intro q hq
              exact fin 1 rfl D H5 es el hes eD B5 k5 q hq
            · simp? only [hn]
              refine main 2 (by decide) _ fun D H5 es el hes eD B5 k5 => ?_
              simp? only [eD]
              intro q hq
              have q' := fin 2 (by rw [if_neg hn]) D H5 es el hes eD B5 k5 q hq
              rw [if_neg hn] at q'
              exact q'
          rintro σ' H5 ⟨q, es, rfl, el, hes, hq, B5, k5⟩
          simp? only []
          intro p hp
          have nq : q ≠ p := ne_of_none hq hp
          simp? only [upd_ne nq, hq]
          rcases ho with rfl | ho
          · rw [if_pos rfl] at el
            obtain ⟨e1, rfl⟩ : ∃ e1, es = [e1] := by
              match es, el with
              | [e1], _ => exact ⟨e1, rfl⟩
            simp? only []
            intro z hz
            obtain ⟨x1, g1⟩ := hes e1 (by simp)
            refine k _ (.neg e1.2) _ ⟨z, _, rfl, upd_same, x1.tups (TupS.ofSame ((same_new hp).trans (same_new hz)))⟩ ⟨g1.ok, g1.lim, Nat.succ_le_succ g1.high, Nat.le_trans g1.few (Nat.pow_le_pow_right (by decide) (Nat.le_succ e)), g1.nz, by have := g1.dp; simp only [Cd.deep]; omega⟩ ((B5.same (same_new hp)).same (same_new hz)) ((k5.thenNew hp).thenNew hz)
          · have hn : o ≠ .not := by rintro rfl; cases ho
            rw [if_neg hn] at el
            obtain ⟨e1, e2, rfl⟩ : ∃ e1 e2, es = [e1, e2] := by
              match es, el with
              | [e1, e2], _ => exact ⟨e1, e2, rfl⟩
            simp? only []
            intro z hz
            obtain ⟨x1, g1⟩ := hes e1 (by simp)
            obtain ⟨x2, g2⟩ := hes e2 (by simp)
            have st := TupS.ofSame ((same_new (o := .tup [.str o.s]) hp).trans (same_new (o := .tup [.str o.s, e1.1, e2.1]) hz))
            refine k _ (.con o e1.2 e2.2) _ ⟨z, _, _, rfl, upd_same, x1.tups st, x2.tups st⟩ ⟨?_, ⟨g1.lim, g2.lim⟩, ?_, ?_, ⟨g1.nz, g2.nz⟩, by have := g1.dp; have := g2.dp; simp only [Cd.deep]; omega⟩ ((B5.same (same_new hp)).same (same_new hz)) ((k5.thenNew hp).thenNew hz)
            · simp only [Cd.ok, ho, g1.ok, g2.ok, Bool.and_true]
            · have := g1.high
              have := g2.high
              simp only [Cd.high]; omega
            · have := g1.few
              have := g2.few
              simp only [Cd.leaves, Nat.pow_succ]; omega
        · simp? only [c2]
      · simp? only [c]
    rintro σ' H2 ⟨rfl, rfl⟩
    refine ⟨fun σ' H2 => ∃ o : Wd, σ' = [some (.ref h), some (.ref fa), some (.int (d : Int)), some (.int r), some (.str o.s), none, none, none, none] ∧ o.isCmp = true ∧ BoxB H2 h l ∧ Keep [h, l] H H2, ?_, ?_⟩
    · simp? only []
      intro p hp
      refine ⟨h, l, 5, rfl, B1.same (same_new hp), by decide, by decide, fun r2 H3 a0 a1 B3 k3 => ?_⟩
      have e3 := k3 _ _ (B1.free hp) upd_same
      simp? only [e3]
      have kk := (k1.thenNew (o := .lst [V.str Wd.eq.s, V.str Wd.lt.s, V.str Wd.gt.s, V.str Wd.le.s, V.str Wd.ge.s]) hp).trans k3
      have er : r2 = 0 ∨ r2 = 1 ∨ r2 = 2 ∨ r2 = 3 ∨ r2 = 4 := by omega
      rcases er with rfl | rfl | rfl | rfl | rfl
      · exact ⟨_, rfl, .eq, rfl, rfl, B3, kk⟩
      · exact ⟨_, rfl, .lt, rfl, rfl, B3, kk⟩
      · exact ⟨_, rfl, .gt, rfl, rfl, B3, kk⟩
      · exact ⟨_, rfl, .le, rfl, rfl, B3, kk⟩
      · exact ⟨_, rfl, .ge, rfl, rfl, B3, kk⟩
    rintro σ' H2 ⟨o, rfl, ho, B2, k2⟩
    have R2 := R.keepB k2 B nfa
    refine ⟨fun σ' H3 => σ' = [some (.ref h), some (.ref fa), some (.int (d : Int)), some (.int r), some (.str o.s), none, none, none, none] ∧ BoxB H3 h l ∧ Keep [h, l] H H3, ?_, ?_⟩
    · simp? only []
      refine ⟨h, l, 3, rfl, B2, by decide, by decide, fun r2 H3 a0 a1 B3 k3 => ?_⟩
      have R3 := R2.keepB k3 B2 nfa
      simp? only []
      by_cases c : 0 < r2
      · simp? only [c]
        intro p hp
        have R4 := R3.same (same_new (o := .lst []) hp)
        have B4 := B3.same (same_new (o := .lst []) hp)
        have k4 : Keep [h, l] H (upd H3 p (.lst [])) := (k2.trans k3).thenNew hp
        refine R4.neNil upd_same ?_
        cases hps0 : ps.isEmpty with
        | true =>
          simp? only []
          exact ⟨B4, k4⟩
        | false =>
          simp? only []
          have pos : 0 < ps.length := by
            cases ps with
            | nil => cases hps0
            | cons _ _ => simp
          refine ⟨fun σ' H5 => ∃ (q : Addr) (t f : Str), σ' = [some (.ref h), some (.ref fa), some (.int (d : Int)), some (.int r), some (.str o.s), none, some (.ref q), none, none] ∧ H5 q = some (.tup [.str Wd.field.s, .str t, .str f]) ∧ PyData.strOk t = true ∧ PyData.strOk f = true ∧ (Nm.gdN t ∧ Nm.gdN f) ∧ BoxB H5 h l ∧ Keep [h, l] H H5, ?_, ?_⟩
          · simp? only []
            intro q hq
            have R5 := R4.same (same_new (o := .tup [V.str Wd.field.s]) hq)
            have B5 := B4.same (same_new (o := .tup [V.str Wd.field.s]) hq)
            have k5 := k4.thenNew (o := .tup [V.str Wd.field.s]) hq
            have e5 := R5.at_
            simp? only [e5]
            refine ⟨h, l, _, rfl, B5, by omega, by omega, fun j H6 j0 j1 B6 k6 => ?_⟩
            have R6 := R5.keepB k6 B5 nfa
            have e6 := R6.at_
            have q6 := k6 _ _ (B4.free hq) upd_same
            obtain ⟨f, hf, hat⟩ := R6.pick j0 j1
            have t6 := R6.tups f hf
            simp? only [e6, q6, hat, t6]
            intro p' hp'
            exact ⟨(R6.oks f hf).1, (R6.oks f hf).2, (hz0 f hf).1, (hz0 f hf).2, B6.same (same_new hp'), (k5.trans k6).thenNew hp'⟩
          rintro σ' H5 ⟨q, t, f, rfl, hq, ht, hf, hnz, B5, k5⟩
          simp? only []
          refine ⟨h, l, 8, rfl, B5, by decide, by decide, fun n H6 n0 n1 B6 k6 => ?_⟩
          have q6 := k6 _ _ (B5.notin hq (by intro xs z; cases z)) hq
          simp? only []
          intro p1 hp1 p2 hp2 p3 hp3
          have nq1 : q ≠ p1 := ne_of_none q6 hp1
          have e1 := (upd_ne (o := .tup [.str Wd.num.s, .int n]) nq1).trans q6
          have nq2 : q ≠ p2 := ne_of_none e1 hp2
          have e2 := (upd_ne (o := .tup [.ref q, .ref p1]) nq2).trans e1
          have nq3 : q ≠ p3 := ne_of_none e2 hp3
          have e3 := (upd_ne (o := .tup [.str o.s]) nq3).trans e2
          have n12 : p1 ≠ p2 := ne_of_none upd_same hp2
          have f2 : upd (upd H6 p1 (.tup [.str Wd.num.s, .int n])) p2 (.tup [.ref q, .ref p1]) p1 = some (.tup [.str Wd.num.s, .int n]) := by rw [upd_ne n12, upd_same]
          have n13 : p1 ≠ p3 := ne_of_none f2 hp3
          have f3 := (upd_ne (o := .tup [.str o.s]) n13).trans f2
          have n23 : p2 ≠ p3 := ne_of_none upd_same hp3
          have g3 : upd (upd (upd H6 p1 (.tup [.str Wd.num.s, .int n])) p2 (.tup [.ref q, .ref p1])) p3 (.tup [.str o.s]) p2 = some (.tup [.ref q, .ref p1]) := by rw [upd_ne n23, upd_same]
          have sx := ((same_new (o := .tup [.str Wd.num.s, .int n]) hp1).trans (same_new (o := .tup [.ref q, .ref p1]) hp2)).trans (same_new (o := .tup [.str o.s]) hp3)
          have Bx := B6.same sx
          refine ⟨h, l, 2, rfl, Bx, by decide, by decide, fun m H7 m0 m1 B7 k7 => ?_⟩
          have kx := ((k5.trans k6).trans (Keep.ofSame sx)).trans k7
          have q7 := k7 _ _ (Bx.notin e3 (by intro xs z; cases z)) e3
          have p17 := k7 _ _ (Bx.notin f3 (by intro xs z; cases z)) f3
          have p27 := k7 _ _ (Bx.notin g3 (by intro xs z; cases z)) g3
          have p37 : H7 p3 = some (.tup [.str o.s]) := k7 _ _ (Bx.notin upd_same (by intro xs z; cases z)) upd_same
          simp? only []
          have bn : -1000 ≤ n ∧ n ≤ 1000 := by omega
          by_cases hm : m = 0
          · simp? only [hm, p37, p27]
            intro z hz
            have st := TupS.ofSame (same_new (o := .tup [.str o.s, .ref q, .ref p1]) hz)
            refine k _ (.cmp o (.fld t f) (.num n)) _ ⟨z, _, _, rfl, upd_same, ⟨q, rfl, st _ _ q7⟩, ⟨p1, rfl, st _ _ p17⟩⟩ ⟨?_, ⟨trivial, bn, by simp [Tm.deep], by simp [Tm.deep]⟩, Nat.zero_le _, Nat.one_le_two_pow, ⟨hnz, trivial⟩, by simp only [Cd.deep, Tm.deep]; omega⟩ (B7.same (same_new hz)) (kx.thenNew hz)
            simp only [Cd.ok, Tm.ok, ho, ht, hf, Bool.and_true]
          · simp? only [hm, tRevT, tUn, rU, p37, p27]
            rw [show [V.ref q, V.ref p1].reverse = [V.ref p1, V.ref q] from rfl]
            intro y hy
            have n3y : p3 ≠ y := ne_of_none p37 hy
            simp? only [upd_ne n3y, p37]
            intro z hz
            have st := TupS.ofSame ((same_new (o := .tup [.ref p1, .ref q]) hy).trans (same_new (o := .tup [.str o.s, .ref p1, .ref q]) hz))
            refine k _ (.cmp o (.num n) (.fld t f)) _ ⟨z, _, _, rfl, upd_same, ⟨p1, rfl, st _ _ p17⟩, ⟨q, rfl, st _ _ q7⟩⟩ ⟨?_, ⟨bn, trivial, by simp [Tm.deep], by simp [Tm.deep]⟩, Nat.zero_le _, Nat.one_le_two_pow, ⟨trivial, hnz⟩, by simp only [Cd.deep, Tm.deep]; omega⟩ ((B7.same (same_new hy)).same (same_new hz)) ((kx.thenNew hy).thenNew hz)
            simp only [Cd.ok, Tm.ok, ho, ht, hf, Bool.and_true]
      · simp? only [c]
        exact ⟨B3, k2.trans k3⟩
    rintro σ' H3 ⟨rfl, B3, k3⟩
    have R3 := R.keepB k3 B nfa
    simp? only []
    refine ⟨h, l, fa, ps, rfl, B3, R3, hz0, hps, nfa, fun v1 t1 H4 x1 o1 z1 l1 d1 B4 k4 => ?_⟩
    refine ⟨h, l, fa, ps, rfl, B4, R3.keepB k4 B3 nfa, hz0, hps, nfa, fun v2 t2 H5 x2 o2 z2 l2 d2 B5 k5 => ?_⟩
    simp? only []
    intro p hp
    have s3 := same_new (o := .tup [.str o.s, v1, v2]) hp
    refine k _ (.cmp o t1 t2) _ ⟨p, v1, v2, rfl, upd_same, (x1.tups (B4.tups k5)).tups (TupS.ofSame s3), x2.tups (TupS.ofSame s3)⟩ ⟨?_, ⟨l1, l2, by omega, by omega⟩, Nat.zero_le _, Nat.one_le_two_pow, ⟨z1, z2⟩, by simp only [Cd.deep, Tm.deep]; omega⟩ (B5.same s3) (((k3.trans k4).trans k5).thenNew hp)
    simp only [Cd.ok, ho, o1, o2, Bool.and_true]
theorem ok_l_cond (T : Txt K mg w) : ∀ d : Nat, FnOk P w K mg base CX0 (d + 6) T.f_l_cond T.fd_l_cond ["_law_h", "_law_fields", "_law_deep"] (spCond d)
  | 0 => l_cond_step T 0 (fun _ _ _ _ => False) (T.F_l_cond.ok sc_l_cond (fun vs H Q E h => h.elim) (fun cdv A outer s H vs Q E hr h => h.elim)) (fun e h => absurd h (by omega))
  | d + 1 => l_cond_step T (d + 1) (spCond d) (ok_l_cond T d) (fun e h => by cases h; rfl)
end

theorem keys_str (es : List Sh) : (es.map fun e => ((Sum.inr e.1 : Key), V.ref e.2.1)).map (·.1) = (es.map (·.1)).map Sum.inr := by
  rw [List.map_map, List.map_map]
  rfl
def spAsk : Sp := fun vs H Q _ => ∃ (h l d : Addr) (es : List Sh), vs = [.ref h, .ref d] ∧ BoxB H h l ∧ SH H d es ∧ 0 < es.length ∧
  ∀ (a : Addr) (st : Rd.St) (H' : Hp), RX H' (.ref a) st.sm.dx → st.dr → BoxB H' h l → Keep [h, l] H H' → Q (.ref a) H'
theorem _root_.G7.RF.updL {H : Hp} {a d : Addr} {ps : List Fd} {xs ys : List V} (R : RF H a ps) (h : H d = some (.lst xs)) (n : a ≠ d) : RF (upd H d (.lst ys)) a ps :=
  ⟨by rw [upd_ne n]; exact R.at_, fun e he => by rw [upd_ne (ne_of (R.tups e he) h (by intro z; cases z))]; exact R.tups e he, R.oks⟩
theorem eraseIdx_mapV {α β : Type} (f : α → β) : ∀ (l : List α) (i : Nat), (l.map f).eraseIdx i = (l.eraseIdx i).map f
  | [], _ => by simp
  | a :: r, 0 => rfl
  | a :: r, i + 1 => by
    show f a :: (r.map f).eraseIdx i = f a :: (r.eraseIdx i).map f
    rw [eraseIdx_mapV f r i]
theorem perm_erase {α : Type} : ∀ (l : List α) (i : Nat) (h : i < l.length), (l[i] :: l.eraseIdx i).Perm l
  | a :: r, 0, _ => List.Perm.refl _
  | a :: r, i + 1, h => (List.Perm.swap a (r[i]'(Nat.lt_of_succ_lt_succ h)) (r.eraseIdx i)).trans ((perm_erase r i (Nat.lt_of_succ_lt_succ h)).cons a)
theorem sz7 : 7 ≤ sizeLine := szl (by decide)
def spTermA : Sp := fun vs H Q E => ∃ d, d ≤ 2 ∧ spTerm d vs H Q E
section
variable {P : Program} {w : World} {K : PySem.W.Frag} {mg : Str → Option Value} {base : Heap}
theorem ok_l_ask (T : Txt K mg w) : FnOk P w K mg base CX0 10 T.f_l_ask T.fd_l_ask ["_law_h", "_law_shapes_here"] spAsk := by
  have G_l_next : FnOk P w K mg base CX0 1 T.f_l_next T.fd_l_next ["_law_h", "_law_many"] spNext := ok_l_next T
  have G_l_some : FnOk P w K mg base CX0 1 T.f_l_some T.fd_l_some ["_law_h", "_law_shapes_here", "_law_tables"] spSome := ok_l_some T
  have G_l_term : FnOk P w K mg base CX0 5 T.f_l_term T.fd_l_term ["_law_h", "_law_fields", "_law_deep"] spTermA :=
    ⟨fun vs H Q E ⟨d, hd, q⟩ => (ok_l_term (P := P) (w := w) (base := base) T d).len vs H Q E q, fun A outer s H args us vs Q E hr he hb hv ⟨d, hd, hs⟩ => ((ok_l_term (P := P) (w := w) (base := base) T d).mono (show d + 3 ≤ 5 by omega)).run A outer s H args us vs Q E hr he hb hv hs⟩
  have G_l_cond : FnOk P w K mg base CX0 9 T.f_l_cond T.fd_l_cond ["_law_h", "_law_fields", "_law_deep"] (spCond 3) := ok_l_cond T 3
  refine T.F_l_ask.ok sc_l_ask (fun vs H Q E h => ?_) (fun cdv A outer s H vs Q E hr h => ?_)
  · obtain ⟨h, l, d, es, rfl, _⟩ := h
    rfl
  · have hu := hu_of hr
    have hu64 := hu64_of hr
    obtain ⟨h, l, d, es, rfl, B, S, el0, k⟩ := h
    refine ⟨_, (pss_cons (ps_set (i := 2) sc_l_ask.nd rfl (Or.inr rfl) (pe_callB (sorted_dic rfl) (by rfl) T.n_sorted (by decide +kernel) (pa_cons (pv 1) pa_nil)))
      (Evl.pss_cut (ps_setLc (i := 3) (own := [("_law_k", 11)]) (g := gName 11) (tt := tYes) rfl sc_l_ask.nd rfl rfl (sw_true rfl rfl rfl (by decide +kernel)) (pi_range1 rfl T.n_range (pa_cons (pe_op op_add pe_int (pe_call G_l_next (hr.mono (by decide)) rfl T.mg_l_next T.F_l_next.kp T.b_l_next .nil pass0 (pa_cons (pv 0) (pa_cons (pe_callB len_lst (by rfl) T.n_len PySem.boot_len (pa_cons (pv 2) pa_nil)) pa_nil)))) pa_nil)) (blkOk_by (N := N_l_ask) (sc := defScope s_l_ask) (by decide +kernel)) (fun _ _ _ _ _ => (pg_name (i := 11) sc_l_ask.nd rfl (Or.inl rfl))) (fun _ _ _ _ _ => pts_nil) (fun _ _ _ _ _ => (pe_bmK K rfl PySem.F.plainAttrs_list PySem.F.slot_list_pop PySem.F.type_list_pop mt_popAt (pv 2) (pa_cons (pe_call G_l_next (hr.mono (by decide)) rfl T.mg_l_next T.F_l_next.kp T.b_l_next .nil pass0 (pa_cons (pv 0) (pa_cons (pe_callB len_lst (by rfl) T.n_len PySem.boot_len (pa_cons (pv 2) pa_nil)) pa_nil))) pa_nil))))
      (pss_cons (ps_set (i := 4) sc_l_ask.nd rfl (Or.inr rfl) (pe_call G_l_some (hr.mono (by decide)) rfl T.mg_l_some T.F_l_some.kp T.b_l_some .nil pass0 (pa_cons (pv 0) (pa_cons (pv 1) (pa_cons (pv 3) pa_nil)))))
      (Evl.pss_cut (ps_set (i := 5) sc_l_ask.nd rfl (Or.inl rfl) (pe_ix ix_lst (pe_lst (pa_cons pe_str (pa_cons pe_str (pa_cons pe_str (pa_cons pe_str (pa_cons pe_str (pa_cons pe_str (pa_cons pe_str pa_nil)))))))) (pe_call G_l_next (hr.mono (by decide)) rfl T.mg_l_next T.F_l_next.kp T.b_l_next .nil pass0 (pa_cons (pv 0) (pa_cons pe_int pa_nil))) (fun _ _ => rfl)))
      (Evl.pss_cut (ps_set (i := 6) sc_l_ask.nd rfl (Or.inl rfl) (pe_ifExp (pt_cmpR op_eq (pv 5) pe_str (nomark _)) (pe_op op_add pe_int (pe_call G_l_next (hr.mono (by decide)) rfl T.mg_l_next T.F_l_next.kp T.b_l_next .nil pass0 (pa_cons (pv 0) (pa_cons pe_int pa_nil)))) (pe_callTy int_bl (by rfl) T.n_int (by decide +kernel) (pa_cons (pe_cmpR op_ne (pv 5) pe_str (nomark _)) pa_nil))))
      (Evl.pss_cut (ps_set (i := 7) sc_l_ask.nd rfl (Or.inl rfl) (pe_callTy tuple_lst (by rfl) T.n_tuple (by decide +kernel) (pa_cons (pe_lc (own := [("_law_k", 11)]) (g := gName 11) (tt := tYes) rfl sc_l_ask.nd (pi_range1 rfl T.n_range (pa_cons (pv 6) pa_nil)) (blkOk_by (N := N_l_ask) (sc := defScope s_l_ask) (by decide +kernel)) (fun _ _ _ _ _ => (pg_name (i := 11) sc_l_ask.nd rfl (Or.inl rfl))) (fun _ _ _ _ _ => pts_nil) (fun _ _ _ _ _ => (pe_call G_l_term (hr.mono (by decide)) rfl T.mg_l_term T.F_l_term.kp T.b_l_term .nil pass0 (pa_cons (pv 0) (pa_cons (pv 4) (pa_cons pe_int pa_nil)))))) pa_nil)))
      (Evl.pss_cut (ps_set (i := 8) sc_l_ask.nd rfl (Or.inl rfl) (pe_ifExp (pt_cmpR op_gt (pe_call G_l_next (hr.mono (by decide)) rfl T.mg_l_next T.F_l_next.kp T.b_l_next .nil pass0 (pa_cons (pv 0) (pa_cons pe_int pa_nil))) pe_int (nomark _)) (pe_call G_l_cond (hr.mono (by decide)) rfl T.mg_l_cond T.F_l_cond.kp T.b_l_cond .nil pass0 (pa_cons (pv 0) (pa_cons (pv 4) (pa_cons pe_int pa_nil)))) pe_non))
      (pss_cons (ps_asg (pe_tup (pa_cons (pe_tup pa_nil) (pa_cons pe_non pa_nil))) (pg_tupH (n := 2) rfl (pgs_cons (pg_name (i := 9) sc_l_ask.nd rfl (Or.inl rfl)) (pgs_cons (pg_name (i := 10) sc_l_ask.nd rfl (Or.inl rfl)) pgs_nil))))
      (Evl.pss_cut (ps_if (pt_cmpR op_eq (pv 5) pe_str (nomark _)) (pss_cons (ps_set (i := 9) sc_l_ask.nd rfl (Or.inl rfl) (pe_callTy tuple_lst (by rfl) T.n_tuple (by decide +kernel) (pa_cons (pe_lc (own := [("_law_k", 11)]) (g := gName 11) (tt := tYes) rfl sc_l_ask.nd (pi_range1 rfl T.n_range (pa_cons (pe_call G_l_next (hr.mono (by decide)) rfl T.mg_l_next T.F_l_next.kp T.b_l_next .nil pass0 (pa_cons (pv 0) (pa_cons pe_int pa_nil))) pa_nil)) (blkOk_by (N := N_l_ask) (sc := defScope s_l_ask) (by decide +kernel)) (fun _ _ _ _ _ => (pg_name (i := 11) sc_l_ask.nd rfl (Or.inl rfl))) (fun _ _ _ _ _ => pts_nil) (fun _ _ _ _ _ => (pe_call G_l_term (hr.mono (by decide)) rfl T.mg_l_term T.F_l_term.kp T.b_l_term .nil pass0 (pa_cons (pv 0) (pa_cons (pv 4) (pa_cons pe_int pa_nil)))))) pa_nil)))
        (pss_one (ps_set (i := 10) sc_l_ask.nd rfl (Or.inl rfl) (pe_ix ix_lst (pe_lst (pa_cons pe_non (pa_cons (pe_call G_l_next (hr.mono (by decide)) rfl T.mg_l_next T.F_l_next.kp T.b_l_next .nil pass0 (pa_cons (pv 0) (pa_cons pe_int pa_nil))) pa_nil))) (pe_call G_l_next (hr.mono (by decide)) rfl T.mg_l_next T.F_l_next.kp T.b_l_next .nil pass0 (pa_cons (pv 0) (pa_cons pe_int pa_nil))) (fun _ _ => rfl))))) pss_nil)
      (pss_one (ps_ret (pe_tup (pa_cons pe_str (pa_cons (pv 5) (pa_cons (pv 7) (pa_cons (pe_callTy tuple_lst (by rfl) T.n_tuple (by decide +kernel) (pa_cons (pv 3) pa_nil)) (pa_cons (pv 8) (pa_cons (pv 9) (pa_cons (pv 10) pa_nil))))))))))))))))))), ?_⟩
    rw [show L2.start N_l_ask [V.ref h, V.ref d] = [some (V.ref h), some (V.ref d), none, none, none, none, none, none, none, none, none, none] from rfl]
    have hd0 := S.at_
    simp? only [hd0]
    refine ⟨es.map (·.1), keys_str es, by rw [List.length_map]; have := S.few.1; omega, fun ys na perm hna => ?_⟩
    have yk : ∀ y ∈ ys, y ∈ es.map (·.1) := fun y hy => perm.mem_iff.mp hy
    have yl : ys.length ≤ 3 := by rw [perm.length_eq, List.length_map]; exact S.few.1
    have yl0 : 0 < ys.length := by rw [perm.length_eq, List.length_map]; exact el0
    have ynd : ys.Nodup := perm.nodup_iff.mpr S.nd
    have s1 := same_new (o := .lst (ys.map V.str)) hna
    have hna1 : upd H na (.lst (ys.map V.str)) na = some (.lst (ys.map V.str)) := upd_same
    have B1 := B.same s1
    have S1 := S.same s1
    have nna := B.free hna
    generalize upd H na (.lst (ys.map V.str)) = H1 at *
    refine ⟨fun σ' H2 => ∃ (tb : Addr) (ts : List Str), σ' = [some (.ref h), some (.ref d), some (.ref na), some (.ref tb), none, none, none, none, none, none, none, none] ∧ H2 tb = some (.lst (ts.map V.str)) ∧ 0 < ts.length ∧ ts.length ≤ 3 ∧ (∀ t ∈ ts, t ∈ es.map (·.1)) ∧ ts.Nodup ∧ H tb = none ∧ BoxB H2 h l ∧ Keep [h, l] H H2, ?_, ?_⟩
    · simp? only [hna1, tLc_eq, iRng1]
      refine ⟨h, l, ys.length, rfl, B1, by omega, by omega, fun r0 H2 a0 a1 B2 k2 => ?_⟩
      have hna2 := k2 _ _ nna hna1
      simp? only []
      refine ⟨by omega, by omega, lcB_it fun D hD => ?_⟩
      have nD := B2.free hD
      have nnaD : na ≠ D := ne_of_none hna2 hD
      refine lc_it walk_range (fun j H5 => ∃ ts rem : List Str, H5 na = some (.lst (rem.map V.str)) ∧ H5 D = some (.lst (ts.map V.str)) ∧ (ts ++ rem).Perm ys ∧ ts.length = j ∧ BoxB H5 h l ∧ Keep [h, l] H H5)
        ⟨[], ys, by rw [upd_ne nnaD]; exact hna2, upd_same, List.Perm.refl _, rfl, B2.same (same_new hD), ((Keep.ofSame s1).trans k2).thenNew hD⟩ (fun _ _ _ _ => trivial) ?_ ?_
      · rintro j x H5 H6 hj ⟨ts, rem, en, eD, pm, tl, B5, k5⟩ ⟨rfl, rfl⟩
        have lsum := pm.length_eq
        rw [List.length_append] at lsum
        have rpos : 0 < rem.length := by omega
        simp? only [gName, en]
        refine ⟨h, l, rem.length, rfl, B5, by omega, by omega, fun r7 H7 c0 c1 B7 k7 => ?_⟩
        have en7 := k7 _ _ nna en
        have eD7 := k7 _ _ nD eD
        have hlt : r7.toNat < rem.length := by omega
        have six : seqIndex? r7 rem.length = some r7.toNat := seqIx c0 c1
        have hgt : rem[r7.toNat]? = some rem[r7.toNat] := List.getElem?_eq_getElem hlt
        simp? only [en7, six, hgt]
        refine ⟨by omega, by omega, ?_⟩
        have eD8 : upd H7 na (.lst ((rem.map V.str).eraseIdx r7.toNat)) D = some (.lst (ts.map V.str)) := by rw [upd_ne nnaD.symm]; exact eD7
        simp? only [eD8]
        refine ⟨szl' (by omega), ts ++ [rem[r7.toNat]], rem.eraseIdx r7.toNat, ?_, by rw [List.map_append]; rfl, ?_, by rw [List.length_append, tl]; rfl, (B7.updNot nna).updNot nD, ((k5.trans k7).updFree hna).updFree (free_keep ((Keep.ofSame s1).trans k2) nD hD)⟩
        · rw [upd_ne nnaD, upd_same, eraseIdx_mapV]
        · rw [List.append_assoc]
          exact (List.Perm.append_left ts (perm_erase rem r7.toNat hlt)).trans pm
      · rintro H5 ⟨ts, rem, en, eD, pm, tl, B5, k5⟩
        have tin : ∀ t ∈ ts, t ∈ ys := fun t ht => pm.mem_iff.mp (List.mem_append_left _ ht)
        have tnd : ts.Nodup := (List.nodup_append.mp (pm.nodup_iff.mpr ynd)).1
        have lsum := pm.length_eq
        rw [List.length_append] at lsum
        exact ⟨D, rfl, ts, eD, by omega, by omega, fun t ht => yk t (tin t ht), tnd, free_keep ((Keep.ofSame s1).trans k2) nD hD, B5, k5⟩
    rintro σ' H2 ⟨tb, ts, rfl, htb, tl0, tl3, tin, tnd, ftb, B2, k2⟩
    have S2 := S.keepB B k2
    have ntb := B.free ftb
    simp? only []
    refine ⟨h, d, tb, es, ts, rfl, S2, htb, tl3, tin, fun fa ps H3 R3 nz pl fa0 s3 => ?_⟩
    have nfa : fa ∉ [h, l] := B2.free fa0
    have B3 := B2.same s3
    have k3 := k2.trans (Keep.ofSame s3)
    have htb3 := s3 _ _ htb
    simp? only []
    refine ⟨fun σ' H4 => ∃ hw : Str, σ' = [some (.ref h), some (.ref d), some (.ref na), some (.ref tb), some (.ref fa), some (.str hw), none, none, none, none, none, none] ∧ hw ∈ (["pick", "count", "sum", "least", "most"] : List Str) ∧ H4 tb = some (.lst (ts.map V.str)) ∧ RF H4 fa ps ∧ BoxB H4 h l ∧ Keep [h, l] H H4, ?_, ?_⟩
    · simp? only []
      refine ⟨szl (by decide), fun p hp => ?_⟩
      refine ⟨h, l, 7, rfl, B3.same (same_new hp), by decide, by decide, fun r H4 c0 c1 B4 k4 => ?_⟩
      have e4 := k4 _ _ (B3.free hp) upd_same
      have kk := (k3.thenNew (o := .lst [.str "pick", .str "pick", .str "pick", .str "count", .str "sum", .str "least", .str "most"]) hp).trans k4
      have R4 := (R3.same (same_new (o := .lst [.str "pick", .str "pick", .str "pick", .str "count", .str "sum", .str "least", .str "most"]) hp)).keepB k4 (B3.same (same_new hp)) nfa
      have htb4 := k4 _ _ ntb (same_new (o := .lst [.str "pick", .str "pick", .str "pick", .str "count", .str "sum", .str "least", .str "most"]) hp _ _ htb3)
      simp? only [e4]
      have hat : ∃ s : Str, s ∈ (["pick", "count", "sum", "least", "most"] : List Str) ∧ atI [V.str (Str.ofString "pick"), V.str (Str.ofString "pick"), V.str (Str.ofString "pick"), V.str (Str.ofString "count"), V.str (Str.ofString "sum"), V.str (Str.ofString "least"), V.str (Str.ofString "most")] r = some (.str s) := by
        rw [atN c0]
        have : r.toNat = 0 ∨ r.toNat = 1 ∨ r.toNat = 2 ∨ r.toNat = 3 ∨ r.toNat = 4 ∨ r.toNat = 5 ∨ r.toNat = 6 := by omega
        rcases this with z | z | z | z | z | z | z <;> rw [z] <;> exact ⟨_, by decide +kernel, rfl⟩
      obtain ⟨s, hs0, hs⟩ := hat
      simp? only [hs]
      exact ⟨hs0, htb4, R4, B4, kk⟩
    rintro σ' H4 ⟨hw, rfl, hw0, htb4, R4, B4, k4⟩
    refine ⟨fun σ' H5 => ∃ mn : Nat, σ' = [some (.ref h), some (.ref d), some (.ref na), some (.ref tb), some (.ref fa), some (.str hw), some (.int mn), none, none, none, none, none] ∧ mn ≤ 3 ∧ Nm.HowM hw mn ∧ H5 tb = some (.lst (ts.map V.str)) ∧ RF H5 fa ps ∧ BoxB H5 h l ∧ Keep [h, l] H H5, ?_, ?_⟩
    · simp? only []
      by_cases c : hw = Str.ofString "pick"
      · rw [if_pos (decide_eq_true c)]
        refine ⟨h, l, 3, rfl, B4, by decide, by decide, fun r H5 c0 c1 B5 k5 => ?_⟩
        exact ⟨r, rfl, (1 + r).toNat, by omega, by omega, .inl ⟨c, by omega, by omega⟩, k5 _ _ ntb htb4, R4.keepB k5 B4 nfa, B5, k4.trans k5⟩
      · rw [if_neg (by simpa using c)]
        refine ⟨(if (!decide (hw = Str.ofString "count")) = true then 1 else 0), ?_, ?_, ?_, htb4, R4, B4, k4⟩
        · split <;> simp
        · split <;> simp
        · by_cases c1 : hw = Str.ofString "count"
          · rw [if_neg (by simpa using c1)]
            exact .inr (.inl ⟨c1, rfl⟩)
          · rw [if_pos (by simpa using c1)]
            refine .inr (.inr ⟨?_, rfl⟩)
            simp only [List.mem_cons, List.not_mem_nil, or_false] at hw0 ⊢
            exact (hw0.resolve_left c).resolve_left c1
    rintro σ' H5 ⟨mn, rfl, hmn, hwm, htb5, R5, B5, k5⟩
    have terms : ∀ (n : Nat) (dp : Nat) (dpi : Int), dpi = dp → n ≤ 3 → dp ≤ 2 → ∀ (H6 : Hp) (x5 x6 x7 x8 x9 x10 : Option V) (Q' : VK), H6 tb = some (.lst (ts.map V.str)) → RF H6 fa ps → BoxB H6 h l → Keep [h, l] H H6 →
        (∀ D xs H7, H7 D = some (.lst xs) → xs.length = n → Nm.TsM H7 xs → H7 tb = some (.lst (ts.map V.str)) → RF H7 fa ps → BoxB H7 h l → Keep [h, l] H6 H7 → Q' (.ref D) H7) →
        lcB (Itr 0 n) (gName 11) tYes (tCall spTermA [] E0 (tCons (tVar 0) (tCons (tVar 4) (tCons (tC (V.int dpi)) tNil)))) [11] [some (.ref h), some (.ref d), some (.ref na), some (.ref tb), some (.ref fa), x5, x6, x7, x8, x9, x10, none] H6 Q' := by
      intro n dp dpi edp hn hdp H6 x5 x6 x7 x8 x9 x10 Q' htb6 R6 B6 k6 kq
      subst edp
      refine lcB_it fun D hD => ?_
      have nD := B6.free hD
      have ntD := ne_of_none htb6 hD
      have nfD := ne_of_none R6.at_ hD
      refine lc_it walk_range (fun j H7 => ∃ (xs : List V), H7 D = some (.lst xs) ∧ xs.length = j ∧ Nm.TsM H7 xs ∧ H7 tb = some (.lst (ts.map V.str)) ∧ RF H7 fa ps ∧ BoxB H7 h l ∧ Keep [h, l] H6 H7)
        ⟨[], upd_same, rfl, Nm.TsM.nil, same_new hD _ _ htb6, R6.same (same_new hD), B6.same (same_new hD), Keep.new hD⟩ (fun _ _ _ _ => trivial) ?_ ?_
      · rintro j x H7 H8 hj ⟨xs, eD, xl, TL7, htb7, R7, B7, k7⟩ ⟨rfl, rfl⟩
        simp? only [gName]
        refine ⟨dp, hdp, h, l, fa, ps, rfl, B7, R7, nz, pl, nfa, fun v t H9 Rt ot zt lt dt B9 k9 => ?_⟩
        have eD9 := k9 _ _ nD eD
        have R9 := R7.keepB k9 B7 nfa
        have htb9 := k9 _ _ ntb htb7
        simp? only [eD9]
        have sd : Std H9 (upd H9 D (.lst (xs ++ [v]))) := Nm.Std.upd eD9 ⟨_, rfl⟩
        refine ⟨szl' (by omega), by rw [List.length_append, xl]; rfl, ((TL7.std (B7.std k9)).snoc (Nm.rtDx Rt) ⟨ot, zt, lt, by omega⟩).std sd, by rw [upd_ne ntD]; exact htb9, R9.updL eD9 nfD, B9.updNot nD, (k7.trans k9).updFree hD⟩
      · rintro H7 ⟨xs, eD, xl, TL7, htb7, R7, B7, k7⟩
        exact kq D xs H7 eD xl TL7 htb7 R7 B7 k7
    refine ⟨fun σ' H6 => ∃ (tm : Addr), σ' = [some (.ref h), some (.ref d), some (.ref na), some (.ref tb), some (.ref fa), some (.str hw), some (.int mn), some (.ref tm), none, none, none, none] ∧ Nm.TsE H6 (.ref tm) mn ∧ H6 tb = some (.lst (ts.map V.str)) ∧ RF H6 fa ps ∧ BoxB H6 h l ∧ Keep [h, l] H H6, ?_, ?_⟩
    · simp? only [tLc_eq, iRng1]
      refine ⟨by omega, by omega, ?_⟩
      rw [Int.toNat_natCast]
      refine terms mn 2 _ rfl hmn (by decide) _ _ _ _ _ _ _ _ htb5 R5 B5 k5 fun D xs H7 eD xl TL7 htb7 R7 B7 k7 => ?_
      simp? only [eD]
      intro p hp
      exact ⟨(TL7.std (Std.ofSame (same_new hp))).tup upd_same xl, same_new hp _ _ htb7, R7.same (same_new hp), B7.same (same_new hp), (k5.trans k7).thenNew hp⟩
    rintro σ' H6 ⟨tm, rfl, TM6, htb6, R6, B6, k6⟩
    refine ⟨fun σ' H7 => ∃ (vc : V), σ' = [some (.ref h), some (.ref d), some (.ref na), some (.ref tb), some (.ref fa), some (.str hw), some (.int mn), some (.ref tm), some vc, none, none, none] ∧ Nm.CgE H7 vc ∧ Nm.TsE H7 (.ref tm) mn ∧ H7 tb = some (.lst (ts.map V.str)) ∧ RF H7 fa ps ∧ BoxB H7 h l ∧ Keep [h, l] H H7, ?_, ?_⟩
    · simp? only []
      refine ⟨h, l, 4, rfl, B6, by decide, by decide, fun r H7 c0 c1 B7 k7 => ?_⟩
      have R7 := R6.keepB k7 B6 nfa
      have htb7 := k7 _ _ ntb htb6
      simp? only []
      by_cases c : 0 < r
      · simp? only [c]
        refine ⟨h, l, fa, ps, rfl, B7, R7, nz, pl, nfa, fun v t H8 Rt gt B8 k8 => ?_⟩
        exact ⟨Nm.CgE.some Rt gt, (TM6.std (B6.std k7)).std (B7.std k8), k8 _ _ ntb htb7, R7.keepB k8 B7 nfa, B8, (k6.trans k7).trans k8⟩
      · simp? only [c]
        exact ⟨Nm.CgE.none, TM6.std (B6.std k7), htb7, R7, B7, k6.trans k7⟩
    rintro σ' H7 ⟨vc, rfl, Rc, TM7, htb7, R7, B7, k7⟩
    simp? only []
    intro p hp q hq
    have sq := (same_new (o := .tup []) hp).trans (same_new (o := .tup [.ref p, .non]) hq)
    have R8 := R7.same sq
    have B8 := B7.same sq
    have htb8 := sq _ _ htb7
    have Rc8 := Rc.std (Std.ofSame sq)
    have TM8 := TM7.std (Std.ofSame sq)
    have E8 : Nm.TsE (upd (upd H7 p (.tup [])) q (.tup [.ref p, .non])) (.ref p) 0 := ⟨[], rx_tup (us := []) (by rw [upd_ne (ne_of_none upd_same hq), upd_same]) rxs_nil, rfl, fun t ht => absurd ht (by simp)⟩
    have k8 := k7.trans (Keep.ofSame sq)
    generalize upd (upd H7 p (.tup [])) q (.tup [.ref p, .non]) = H8 at *
    refine ⟨fun σ' H9 => ∃ (x9 x10 : V), σ' = [some (.ref h), some (.ref d), some (.ref na), some (.ref tb), some (.ref fa), some (.str hw), some (.int mn), some (.ref tm), some vc, some x9, some x10, none] ∧ Nm.CgE H9 vc ∧ Nm.TsE H9 (.ref tm) mn ∧ (∃ bn : Nat, Nm.TsE H9 x9 bn ∧ bn ≤ 3 ∧ (hw ≠ Str.ofString "pick" → bn = 0)) ∧ Nm.FgE H9 x10 hw ∧ H9 tb = some (.lst (ts.map V.str)) ∧ BoxB H9 h l ∧ Keep [h, l] H H9, ?_, ?_⟩
    · simp? only []
      by_cases c : hw = Str.ofString "pick"
      · rw [if_pos (decide_eq_true c)]
        simp? only [tLc_eq, iRng1]
        refine ⟨h, l, 4, rfl, B8, by decide, by decide, fun r H9 c0 c1 B9 k9 => ?_⟩
        have R9 := R8.keepB k9 B8 nfa
        have htb9 := k9 _ _ ntb htb8
        have Rc9 := Rc8.std (B8.std k9)
        have TM9 := TM8.std (B8.std k9)
        simp? only []
        refine ⟨by omega, by omega, ?_⟩
        refine terms r.toNat 1 _ rfl (by omega) (by decide) _ _ _ _ _ _ _ _ htb9 R9 B9 (k8.trans k9) fun D xs H10 eD xl TL10 htb10 R10 B10 k10 => ?_
        have Rc10 := Rc9.std (B9.std k10)
        have TM10 := TM9.std (B9.std k10)
        simp? only [eD]
        intro p2 hp2
        have s2 := same_new (o := .tup xs) hp2
        have TY11 : Nm.TsE (upd H10 p2 (.tup xs)) (.ref p2) r.toNat := (TL10.std (Std.ofSame s2)).tup upd_same xl
        have R11 := R10.same s2
        have B11 := B10.same s2
        refine ⟨h, l, 5, rfl, B11, by decide, by decide, fun r2 H12 d0 d1 B12 k12 => ?_⟩
        have htb12 := k12 _ _ ntb (s2 _ _ htb10)
        have Rc12 := (Rc10.std (Std.ofSame s2)).std (B11.std k12)
        have TM12 := (TM10.std (Std.ofSame s2)).std (B11.std k12)
        have TY12 := TY11.std (B11.std k12)
        have kk12 : Keep [h, l] H H12 := (((k8.trans k9).trans k10).trans (Keep.ofSame s2)).trans k12
        simp? only []
        intro p3 hp3
        have s3 := same_new (o := .lst [.non, .int r2]) hp3
        have B13 := B12.same s3
        refine ⟨h, l, 2, rfl, B13, by decide, by decide, fun r3 H14 e0 e1 B14 k14 => ?_⟩
        have e3 := k14 _ _ (B12.free hp3) upd_same
        have htb14 := k14 _ _ ntb (s3 _ _ htb12)
        have Rc14 := (Rc12.std (Std.ofSame s3)).std (B13.std k14)
        have TM14 := (TM12.std (Std.ofSame s3)).std (B13.std k14)
        have TY14 := (TY12.std (Std.ofSame s3)).std (B13.std k14)
        have kk14 := (kk12.trans (Keep.ofSame s3)).trans k14
        simp? only [e3]
        have er : r3 = 0 ∨ r3 = 1 := by omega
        rcases er with rfl | rfl
        · simp? only []
          exact ⟨Rc14, TM14, ⟨_, TY14, by omega, fun z => absurd c z⟩, ⟨none, rx_non, fun _ z => (nomatch z), fun _ => rfl⟩, htb14, B14, kk14⟩
        · simp? only []
          exact ⟨Rc14, TM14, ⟨_, TY14, by omega, fun z => absurd c z⟩, ⟨some r2, rx_int _, fun i z => by cases z; omega, fun z => absurd c z⟩, htb14, B14, kk14⟩
      · rw [if_neg (by simpa using c)]
        exact ⟨Rc8, TM8, ⟨0, E8, by decide, fun _ => rfl⟩, ⟨none, rx_non, fun _ z => (nomatch z), fun _ => rfl⟩, htb8, B8, k8⟩
    rintro σ' H9 ⟨x9, x10, rfl, Rc9, TM9, TY9, FI9, htb9, B9, k9⟩
    obtain ⟨co, Rc9, co2⟩ := Rc9
    obtain ⟨tms, TM9, tm2, tm3⟩ := TM9
    obtain ⟨bn, ⟨bys, TY9, by2, by3⟩, by4, by5⟩ := TY9
    obtain ⟨first, FI9, fi2, fi3⟩ := FI9
    simp? only [htb9]
    intro p1 hp1
    refine ⟨sz7, fun p2 hp2 => ?_⟩
    have n1 : p1 ≠ p2 := ne_of_none upd_same hp2
    have s9 := (same_new (o := .tup (ts.map V.str)) hp1).trans (same_new (o := .tup [.str "ask", .str hw, .ref tm, .ref p1, vc, x9, x10]) hp2)
    have sd := Std.ofSame s9
    refine k p2 (.ask hw tms ts co bys first) _ ?_ ⟨by rw [tm2]; exact hwm, by omega, tl3, fun t ht => ?_, tm3, co2, by omega, fun z => by rw [by2]; exact by5 z, by3, fi2, fi3⟩ (B9.same s9) (k9.trans (Keep.ofSame s9))
    · have e1 : (tms.map Nm.trT).map Nm.Tr.dx = tms.map fun t => (Nm.trT t).dx := by rw [List.map_map]; rfl
      have e2 : (bys.map Nm.trT).map Nm.Tr.dx = bys.map fun t => (Nm.trT t).dx := by rw [List.map_map]; rfl
      show RX _ _ (Dx.tup [.str "ask", .str hw, .tup ((tms.map Nm.trT).map Nm.Tr.dx), Nm.dxs ts, Nm.dxO (co.map Nm.trC), .tup ((bys.map Nm.trT).map Nm.Tr.dx), Nm.dxI first])
      rw [e1, e2]
      exact rx_tup upd_same (rxs_cons (rx_str _) (rxs_cons (rx_str _) (rxs_cons (TM9.std sd (Nm.noL_map fun t _ => Nm.trNoL _)) (rxs_cons (rx_tup (by rw [upd_ne n1, upd_same]) (rxs_map fun s _ => rx_str s)) (rxs_cons (Rc9.std sd (Nm.noL_o _)) (rxs_cons (TY9.std sd (Nm.noL_map fun t _ => Nm.trNoL _)) (rxs_cons (FI9.std sd (Nm.noL_i first)) rxs_nil)))))))
    · obtain ⟨e, he, rfl⟩ := List.mem_map.mp (tin t ht)
      exact (S.zz e he).1
end

/-! any statement, drawn -/
def spStm : Sp := fun vs H Q _ => ∃ (h l d : Addr) (es : List Sh), vs = [.ref h, .ref d] ∧ BoxB H h l ∧ SH H d es ∧ 0 < es.length ∧
  ∀ (a : Addr) (st : Rd.St) (H' : Hp), RX H' (.ref a) st.sm.dx → st.dr → BoxB H' h l → Keep [h, l] H H' → Q (.ref a) H'
section
variable {P : Program} {w : World} {K : PySem.W.Frag} {mg : Str → Option Value} {base : Heap}
theorem ok_l_statement (T : Txt K mg w) : FnOk P w K mg base CX0 11 T.f_l_statement T.fd_l_statement ["_law_h", "_law_shapes_here"] spStm := by
  have G_l_next : FnOk P w K mg base CX0 1 T.f_l_next T.fd_l_next ["_law_h", "_law_many"] spNext := ok_l_next T
  have G_l_number : FnOk P w K mg base CX0 2 T.f_l_number T.fd_l_number ["_law_h"] spNumber := ok_l_number T
  have G_l_some : FnOk P w K mg base CX0 1 T.f_l_some T.fd_l_some ["_law_h", "_law_shapes_here", "_law_tables"] spSome := ok_l_some T
  have G_l_term : FnOk P w K mg base CX0 5 T.f_l_term T.fd_l_term ["_law_h", "_law_fields", "_law_deep"] (spTerm 2) := ok_l_term T 2
  have G_l_cond : FnOk P w K mg base CX0 9 T.f_l_cond T.fd_l_cond ["_law_h", "_law_fields", "_law_deep"] (spCond 3) := ok_l_cond T 3
  have G_l_ask : FnOk P w K mg base CX0 10 T.f_l_ask T.fd_l_ask ["_law_h", "_law_shapes_here"] spAsk := ok_l_ask T
  refine T.F_l_statement.ok sc_l_statement (fun vs H Q E h => ?_) (fun cdv A outer s H vs Q E hr h => ?_)
  · obtain ⟨h, l, d, es, rfl, _⟩ := h
    rfl
  · have hu := hu_of hr
    have hu64 := hu64_of hr
    obtain ⟨h, l, d, es, rfl, B, S, el0, k⟩ := h
    refine ⟨_, (pss_cons (ps_par (i := 2) (j := 3) rfl sc_l_statement.nd rfl rfl (by decide) rfl rfl (pa_cons (pe_call G_l_next (hr.mono (by decide)) rfl T.mg_l_next T.F_l_next.kp T.b_l_next .nil pass0 (pa_cons (pv 0) (pa_cons pe_int pa_nil))) (pa_cons (pe_ix ix_lst (pe_callB (sorted_dic rfl) (by rfl) T.n_sorted (by decide +kernel) (pa_cons (pv 1) pa_nil)) (pe_call G_l_next (hr.mono (by decide)) rfl T.mg_l_next T.F_l_next.kp T.b_l_next .nil pass0 (pa_cons (pv 0) (pa_cons (pe_callB len_dic (by rfl) T.n_len PySem.boot_len (pa_cons (pv 1) pa_nil)) pa_nil))) (fun _ _ => rfl)) pa_nil)) (by rfl))
      (pss_cons (ps_set (i := 4) sc_l_statement.nd rfl (Or.inr rfl) (pe_call G_l_some (hr.mono (by decide)) rfl T.mg_l_some T.F_l_some.kp T.b_l_some .nil pass0 (pa_cons (pv 0) (pa_cons (pv 1) (pa_cons (pe_lst (pa_cons (pv 3) pa_nil)) pa_nil)))))
      (Evl.pss_cut (ps_set (i := 5) sc_l_statement.nd rfl (Or.inl rfl) (pe_ifExp (pt_cmpR op_gt (pe_call G_l_next (hr.mono (by decide)) rfl T.mg_l_next T.F_l_next.kp T.b_l_next .nil pass0 (pa_cons (pv 0) (pa_cons pe_int pa_nil))) pe_int (nomark _)) (pe_call G_l_cond (hr.mono (by decide)) rfl T.mg_l_cond T.F_l_cond.kp T.b_l_cond .nil pass0 (pa_cons (pv 0) (pa_cons (pv 4) (pa_cons pe_int pa_nil)))) pe_non))
      (pss_cons (ps_if (pt_cmpR op_lt (pv 2) pe_int (nomark _)) (pss_one (ps_ret (pe_call G_l_ask (hr.mono (by decide)) rfl T.mg_l_ask T.F_l_ask.kp T.b_l_ask .nil pass0 (pa_cons (pv 0) (pa_cons (pv 1) pa_nil))))) pss_nil)
      (pss_cons (ps_if (pt_cmpR op_lt (pv 2) pe_int (nomark _)) (pss_one (ps_ret (pe_tup (pa_cons pe_str (pa_cons (pv 3) (pa_cons (pe_callTy tuple_lst (by rfl) T.n_tuple (by decide +kernel) (pa_cons (pe_lc (own := [("_law_field", 8)]) (g := gName 8) (tt := tYes) rfl sc_l_statement.nd (pi_tupK K rfl (pe_getI hu (pv 1) (pv 3) (fun _ _ => rfl))) (blkOk_by (N := N_l_statement) (sc := defScope s_l_statement) (by decide +kernel)) (fun _ _ _ _ _ => (pg_name (i := 8) sc_l_statement.nd rfl (Or.inl rfl))) (fun _ _ _ _ _ => pts_nil) (fun _ _ _ _ _ => (pe_call G_l_number (hr.mono (by decide)) rfl T.mg_l_number T.F_l_number.kp T.b_l_number .nil pass0 (pa_cons (pv 0) pa_nil)))) pa_nil)) pa_nil)))))) pss_nil)
      (pss_cons (ps_if (PW.pt (pw_and (pt_cmpR op_eq (pv 2) pe_int (nomark _)) (pw_and1 (pt_cmpR op_gt (pe_callB len_tp (by rfl) T.n_len PySem.boot_len (pa_cons (pe_getI hu (pv 1) (pv 3) (fun _ _ => rfl)) pa_nil)) pe_int (nomark _))))) (pss_cons (ps_set (i := 6) sc_l_statement.nd rfl (Or.inr rfl) (pe_callTy list_tp (by rfl) T.n_list (by decide +kernel) (pa_cons (pe_slice sl_tp (pe_getI hu (pv 1) (pv 3) (fun _ _ => rfl)) (po_some pe_int) po_none) pa_nil)))
        (Evl.pss_cut (ps_setLc (i := 7) (own := [("_law_k", 9)]) (g := gName 9) (tt := tYes) rfl sc_l_statement.nd rfl rfl (sw_true rfl rfl rfl (by decide +kernel)) (pi_range1 rfl T.n_range (pa_cons (pe_op op_add pe_int (pe_call G_l_next (hr.mono (by decide)) rfl T.mg_l_next T.F_l_next.kp T.b_l_next .nil pass0 (pa_cons (pv 0) (pa_cons (pe_callB len_lst (by rfl) T.n_len PySem.boot_len (pa_cons (pv 6) pa_nil)) pa_nil)))) pa_nil)) (blkOk_by (N := N_l_statement) (sc := defScope s_l_statement) (by decide +kernel)) (fun _ _ _ _ _ => (pg_name (i := 9) sc_l_statement.nd rfl (Or.inl rfl))) (fun _ _ _ _ _ => pts_nil) (fun _ _ _ _ _ => (pe_bmK K rfl PySem.F.plainAttrs_list PySem.F.slot_list_pop PySem.F.type_list_pop mt_popAt (pv 6) (pa_cons (pe_call G_l_next (hr.mono (by decide)) rfl T.mg_l_next T.F_l_next.kp T.b_l_next .nil pass0 (pa_cons (pv 0) (pa_cons (pe_callB len_lst (by rfl) T.n_len PySem.boot_len (pa_cons (pv 6) pa_nil)) pa_nil))) pa_nil))))
        (pss_one (ps_ret (pe_tup (pa_cons pe_str (pa_cons (pv 3) (pa_cons (pe_callTy tuple_lst (by rfl) T.n_tuple (by decide +kernel) (pa_cons (pe_lc (own := [("_law_field", 8)]) (g := gName 8) (tt := tYes) rfl sc_l_statement.nd (pi_listK K rfl (pv 7)) (blkOk_by (N := N_l_statement) (sc := defScope s_l_statement) (by decide +kernel)) (fun _ _ _ _ _ => (pg_name (i := 8) sc_l_statement.nd rfl (Or.inl rfl))) (fun _ _ _ _ _ => pts_nil) (fun _ _ _ _ _ => (pe_tup (pa_cons (pv 8) (pa_cons (pe_call G_l_term (hr.mono (by decide)) rfl T.mg_l_term T.F_l_term.kp T.b_l_term .nil pass0 (pa_cons (pv 0) (pa_cons (pv 4) (pa_cons pe_int pa_nil)))) pa_nil))))) pa_nil)) (pa_cons (pv 5) pa_nil))))))))) pss_nil)
      (pss_cons (ps_if (pt_cmpR op_eq (pv 2) pe_int (nomark _)) (pss_one (ps_ret (pe_tup (pa_cons pe_str (pa_cons (pv 3) (pa_cons (pv 5) pa_nil)))))) pss_nil)
      (pss_cons (ps_if (pt_cmpR op_eq (pv 2) pe_int (nomark _)) (pss_one (ps_ret (pe_ix ix_lst (pe_lst (pa_cons (pe_tup (pa_cons pe_str pa_nil)) (pa_cons (pe_tup (pa_cons pe_str pa_nil)) (pa_cons (pe_tup (pa_cons pe_str pa_nil)) pa_nil)))) (pe_call G_l_next (hr.mono (by decide)) rfl T.mg_l_next T.F_l_next.kp T.b_l_next .nil pass0 (pa_cons (pv 0) (pa_cons pe_int pa_nil))) (fun _ _ => rfl)))) pss_nil)
      (pss_one (ps_ret (pe_ix ix_lst (pe_lst (pa_cons (pe_tup (pa_cons pe_str (pa_cons pe_str (pa_cons (pe_tup (pa_cons pe_str (pa_cons pe_str pa_nil))) pa_nil)))) (pa_cons (pe_tup (pa_cons pe_str (pa_cons (pv 3) (pa_cons pe_str pa_nil)))) pa_nil))) (pe_call G_l_next (hr.mono (by decide)) rfl T.mg_l_next T.F_l_next.kp T.b_l_next .nil pass0 (pa_cons (pv 0) (pa_cons pe_int pa_nil))) (fun _ _ => rfl)))))))))))), ?_⟩
    rw [show L2.start N_l_statement [V.ref h, V.ref d] = [some (V.ref h), some (V.ref d), none, none, none, none, none, none, none, none] from rfl]
    have hd0 := S.at_
    simp? only [hd0]
    refine ⟨h, l, 9, rfl, B, by decide, by decide, fun way H1 w0 w1 B1 k1 => ?_⟩
    have S1 := S.keepB B k1
    have hd1 := S1.at_
    simp? only [hd1]
    refine ⟨es.map (·.1), keys_str es, by rw [List.length_map]; have := S.few.1; omega, fun ys na perm hna => ?_⟩
    have yk : ∀ y ∈ ys, y ∈ es.map (·.1) := fun y hy => perm.mem_iff.mp hy
    have yl : ys.length = es.length := by rw [perm.length_eq, List.length_map]
    have s1 := same_new (o := .lst (ys.map V.str)) hna
    have hna1 : upd H1 na (.lst (ys.map V.str)) na = some (.lst (ys.map V.str)) := upd_same
    have B2 := B1.same s1
    have S2 := S1.same s1
    have nna := B1.free hna
    have k2 := k1.trans (Keep.ofSame s1)
    generalize upd H1 na (.lst (ys.map V.str)) = H2 at *
    have hd2 := S2.at_
    have e3 := S.few.1
    simp? only [hd2]
    refine ⟨h, l, es.length, by first | rfl | simp, B2, by omega, by omega, fun r H3 r0 r1 B3 k3 => ?_⟩
    have hna3 := k3 _ _ nna hna1
    have S3 := S2.keepB B2 k3
    have k3' := k2.trans k3
    have hlt : r.toNat < ys.length := by omega
    obtain ⟨t, ht⟩ : ∃ t, ys[r.toNat]? = some t := ⟨_, List.getElem?_eq_getElem hlt⟩
    have tes : t ∈ es.map (·.1) := yk t (List.mem_of_getElem? ht)
    have hat : atI (ys.map V.str) r = some (.str t) := by rw [atN r0, List.getElem?_map, ht]; rfl
    obtain ⟨et, het, rfl, hev⟩ := S3.look tes
    have tz := S.zz et het
    simp? only [hna3, hat]
    intro p hp
    have s4 := same_new (o := .lst [V.str et.1]) hp
    refine ⟨h, d, p, es, [et.1], rfl, S3.same s4, upd_same, by simp, by simpa using tes, fun fa ps H4 R4 nz pl fa0 s5 => ?_⟩
    have sx := s4.trans s5
    have B4 := B3.same sx
    have S4 := S3.same sx
    have k4 := k3'.trans (Keep.ofSame sx)
    have nfa : fa ∉ [h, l] := (B3.same s4).free fa0
    refine ⟨fun σ' H5 => ∃ vc : V, σ' = [some (.ref h), some (.ref d), some (.int way), some (.str et.1), some (.ref fa), some vc, none, none, none, none] ∧ Nm.CgE H5 vc ∧ RF H5 fa ps ∧ BoxB H5 h l ∧ Keep [h, l] H H5, ?_, ?_⟩
    · simp? only []
      refine ⟨h, l, 4, rfl, B4, by decide, by decide, fun r5 H5 c0 c1 B5 k5 => ?_⟩
      have R5 := R4.keepB k5 B4 nfa
      simp? only []
      by_cases c : 0 < r5
      · simp? only [c]
        refine ⟨h, l, fa, ps, rfl, B5, R5, nz, pl, nfa, fun v t H6 Rt gt B6 k6 => ?_⟩
        exact ⟨Nm.CgE.some Rt gt, R5.keepB k6 B5 nfa, B6, (k4.trans k5).trans k6⟩
      · simp? only [c]
        exact ⟨Nm.CgE.none, R5, B5, k4.trans k5⟩
    rintro σ' H5 ⟨vc, rfl, C5, R5, B5, k5⟩
    have S5 := S.keepB B k5
    have hd5 := S5.at_
    have hev5 : valV (es.map fun e => ((Sum.inr e.1 : Key), V.ref e.2.1)) (Sum.inr et.1) = some (.ref et.2.1) := hev
    have tp5 := S5.tups et het
    have fl := S.few.2 et het
    by_cases c3 : way < 3
    · simp? only [c3]
      refine ⟨h, l, d, es, rfl, B5, S5, el0, fun a st H6 RX6 dr B6 k6 => k a st H6 RX6 dr B6 (k5.trans k6)⟩
    have nte : et.2.1 ∉ [h, l] := tpO_notin B5 tp5
    by_cases c5 : way < 5
    · simp? only [c3, c5, tLc_eq, iTup, hd5, hev5]
      refine ⟨⟨_, .inl (rd_tpO tp5)⟩, lcB_it fun D hD => ?_⟩
      have nD := B5.free hD
      have nDt : et.2.1 ≠ D := tpO_ne tp5 hD
      refine lc_it (walk_tup (xs := et.2.2.map V.str)) (fun j H7 => ∃ ns : List Int, H7 D = some (.lst (ns.map V.int)) ∧ ns.length = j ∧ (∀ n ∈ ns, -1000 ≤ n ∧ n ≤ 1000) ∧ tpO (H7 et.2.1) = some (et.2.2.map V.str) ∧ BoxB H7 h l ∧ Keep [h, l] H H7) ⟨[], upd_same, rfl, fun n hn => absurd hn (by simp), tpO_same tp5 (same_new hD), B5.same (same_new hD), k5.thenNew hD⟩ (fun _ H7 _ ⟨_, _, _, _, e, _⟩ => .inl (rd_tpO e)) ?_ ?_
      · rintro j x H7 H8 hj ⟨ns, eD, nl, nb, e7, B7, k7⟩ ⟨rfl, hx⟩
        obtain ⟨f, _, rfl⟩ := str_at hx
        rw [List.length_map] at hj
        simp? only [gName]
        refine ⟨h, l, rfl, B7, fun n H9 n0 n1 B9 k9 => ?_⟩
        have eD9 := k9 _ _ nD eD
        simp? only [eD9]
        have fl4 := fl.1
        refine ⟨szl' (by omega), ns ++ [n], by rw [List.map_append]; rfl, by rw [List.length_append, nl]; rfl, fun z hz => (List.mem_append.mp hz).elim (nb z) (fun e => by cases List.mem_singleton.mp e; exact ⟨n0, n1⟩), by rw [upd_ne nDt]; exact tpO_keep e7 k9 nte, B9.updNot nD, (k7.trans k9).updFree (free_keep k5 nD hD)⟩
      · rintro H7 ⟨ns, eD, nl, nb, e7, B7, k7⟩
        rw [List.length_map] at nl
        simp? only [eD]
        intro p1 hp1 p2 hp2
        have n1 : p1 ≠ p2 := ne_of_none upd_same hp2
        have sq := (same_new (o := .tup (ns.map V.int)) hp1).trans (same_new (o := .tup [.str "put", .str et.1, .ref p1]) hp2)
        exact k p2 (.put et.1 ns) _ (rx_tup upd_same (rxs_cons (rx_str _) (rxs_cons (rx_str _) (rxs_cons (rx_tup (by rw [upd_ne n1, upd_same]) (rxs_map fun x _ => rx_int x)) rxs_nil)))) ⟨tz.1, by omega, by omega, nb⟩ (B7.same sq) (k7.trans (Keep.ofSame sq))
    by_cases c6 : way = 5 ∧ 1 < et.2.2.length
    · obtain ⟨rfl, cl⟩ := c6
      simp? only [c3, c5, hd5, hev5, tp5]
      rw [if_pos (decide_eq_true (by omega))]
      intro q H6 s6 e6
      rw [Nm.cutV_1, ← List.map_drop] at e6
      refine ⟨_, e6, fun nb hnb => ?_⟩
      have dl : (et.2.2.drop 1).length = et.2.2.length - 1 := List.length_drop
      have dz : ∀ f ∈ et.2.2.drop 1, Nm.gdN f := fun f hf => tz.2 f (List.mem_of_mem_drop hf)
      generalize et.2.2.drop 1 = fs at *
      have fl4 := fl.1
      have sb := s6.trans (same_new (o := .lst (fs.map V.str)) hnb)
      have nb7 : upd H6 nb (.lst (fs.map V.str)) nb = some (.lst (fs.map V.str)) := upd_same
      have B7 := B5.same sb
      have R7 := R5.same sb
      have C7 := C5.std (Std.ofSame sb)
      have k7 := k5.trans (Keep.ofSame sb)
      have nnb := (B5.same s6).free hnb
      have fnb : H nb = none := free_keep (k5.trans (Keep.ofSame s6)) nnb hnb
      generalize upd H6 nb (.lst (fs.map V.str)) = H7 at *
      refine ⟨fun σ' H8 => ∃ (tb : Addr) (ss : List Str), σ' = [some (.ref h), some (.ref d), some (.int 5), some (.str et.1), some (.ref fa), some vc, some (.ref nb), some (.ref tb), none, none] ∧ H8 tb = some (.lst (ss.map V.str)) ∧ 1 ≤ ss.length ∧ ss.length ≤ 3 ∧ (∀ f ∈ ss, Nm.gdN f) ∧ H tb = none ∧ Nm.CgE H8 vc ∧ RF H8 fa ps ∧ BoxB H8 h l ∧ Keep [h, l] H H8, ?_, ?_⟩
      · simp? only [nb7, tLc_eq, iRng1]
        refine ⟨h, l, fs.length, by first | rfl | simp, B7, by omega, by omega, fun r8 H8 a0 a1 B8 k8 => ?_⟩
        have nb8 := k8 _ _ nnb nb7
        have C8 := C7.std (B7.std k8)
        have R8 := R7.keepB k8 B7 nfa
        simp? only []
        refine ⟨by omega, by omega, lcB_it fun D hD => ?_⟩
        have nD := B8.free hD
        have nnD : nb ≠ D := ne_of_none nb8 hD
        have kh8 := k7.trans k8
        refine lc_it walk_range (fun j H9 => ∃ ts rem : List Str, H9 nb = some (.lst (rem.map V.str)) ∧ H9 D = some (.lst (ts.map V.str)) ∧ (ts ++ rem).Perm fs ∧ ts.length = j ∧ Nm.CgE H9 vc ∧ RF H9 fa ps ∧ BoxB H9 h l ∧ Keep [h, l] H H9)
          ⟨[], fs, by rw [upd_ne nnD]; exact nb8, upd_same, List.Perm.refl _, rfl, C8.std (Std.ofSame (same_new hD)), R8.same (same_new hD), B8.same (same_new hD), kh8.thenNew hD⟩ (fun _ _ _ _ => trivial) ?_ ?_
        · rintro j x H9 H10 hj ⟨ts, rem, en, eD, pm, tl, C9, R9, B9, k9⟩ ⟨rfl, rfl⟩
          have lsum := pm.length_eq
          rw [List.length_append] at lsum
          simp? only [gName, en]
          refine ⟨h, l, rem.length, by first | rfl | simp, B9, by omega, by omega, fun r11 H11 c0 c1 B11 k11 => ?_⟩
          have en11 := k11 _ _ nnb en
          have eD11 := k11 _ _ nD eD
          have C11 := C9.std (B9.std k11)
          have R11 := R9.keepB k11 B9 nfa
          have hlt : r11.toNat < rem.length := by omega
          have six : seqIndex? r11 rem.length = some r11.toNat := seqIx c0 c1
          have hgt : rem[r11.toNat]? = some rem[r11.toNat] := List.getElem?_eq_getElem hlt
          simp? only [en11, six, hgt]
          refine ⟨by omega, by omega, ?_⟩
          have eD12 : upd H11 nb (.lst ((rem.map V.str).eraseIdx r11.toNat)) D = some (.lst (ts.map V.str)) := by rw [upd_ne nnD.symm]; exact eD11
          simp? only [eD12]
          have nfb : fa ≠ nb := fun z => by
            have := R11.at_
            rw [z, en11] at this
            cases rem with
            | nil => simp at hlt
            | cons _ _ => cases ps <;> simp at this
          have nfD : fa ≠ D := fun z => ne_of_none R8.at_ hD z
          have sd : Std H11 (upd (upd H11 nb (.lst ((rem.map V.str).eraseIdx r11.toNat))) D (.lst (ts.map V.str ++ [V.str rem[r11.toNat]]))) := (Nm.Std.upd en11 ⟨_, rfl⟩).trans (Nm.Std.upd eD12 ⟨_, rfl⟩)
          refine ⟨szl' (by omega), ts ++ [rem[r11.toNat]], rem.eraseIdx r11.toNat, ?_, by rw [List.map_append]; rfl, ?_, by rw [List.length_append, tl]; rfl, C11.std sd, (R11.updL en11 nfb).updL eD12 nfD, (B11.updNot nnb).updNot nD, ((k9.trans k11).updFree fnb).updFree (free_keep kh8 nD hD)⟩
          · rw [upd_ne nnD, upd_same, eraseIdx_mapV]
          · rw [List.append_assoc]
            exact (List.Perm.append_left ts (perm_erase rem r11.toNat hlt)).trans pm
        · rintro H9 ⟨ts, rem, en, eD, pm, tl, C9, R9, B9, k9⟩
          have lsum := pm.length_eq
          rw [List.length_append] at lsum
          exact ⟨D, rfl, ts, eD, by omega, by omega, fun f hf => dz f (pm.mem_iff.mp (List.mem_append_left _ hf)), free_keep kh8 nD hD, C9, R9, B9, k9⟩
      rintro σ' H8 ⟨tb, ss, rfl, etb, sl1, sl, sz, ftb, C8, R8, B8, k8⟩
      have ntb := B.free ftb
      simp? only [tLc_eq, iList, etb]
      refine ⟨⟨_, .inl (.inl etb)⟩, lcB_it fun D hD => ?_⟩
      have nD := B8.free hD
      have ntD : tb ≠ D := ne_of_none etb hD
      have nfD : fa ≠ D := fun z => ne_of_none R8.at_ hD z
      refine lc_it (walk_list (xs := ss.map V.str)) (fun j H9 => ∃ xs : List V, H9 D = some (.lst xs) ∧ xs.length = j ∧ Nm.SgM H9 xs ∧ H9 tb = some (.lst (ss.map V.str)) ∧ Nm.CgE H9 vc ∧ RF H9 fa ps ∧ BoxB H9 h l ∧ Keep [h, l] H H9)
        ⟨[], upd_same, rfl, Nm.SgM.nil, by rw [upd_ne ntD]; exact etb, C8.std (Std.ofSame (same_new hD)), R8.same (same_new hD), B8.same (same_new hD), k8.thenNew hD⟩ (fun _ H9 _ ⟨_, _, _, _, e, _⟩ => .inl (.inl e)) ?_ ?_
      · rintro j x H9 H10 hj ⟨xs, eD, xl, SM, e9, C9, R9, B9, k9⟩ ⟨rfl, hx⟩
        obtain ⟨f, hf, rfl⟩ := str_at hx
        rw [List.length_map] at hj
        simp? only [gName]
        refine ⟨h, l, fa, ps, rfl, B9, R9, nz, pl, nfa, fun v t H11 Rt ot zt lt dt B11 k11 => ?_⟩
        have eD11 := k11 _ _ nD eD
        have R11 := R9.keepB k11 B9 nfa
        have e11 := k11 _ _ ntb e9
        intro p1 hp1
        have n1 : D ≠ p1 := ne_of_none eD11 hp1
        have eD12 : upd H11 p1 (.tup [.str f, v]) D = some (.lst xs) := (upd_ne n1).trans eD11
        simp? only [eD12]
        have s1 := same_new (o := .tup [.str f, v]) hp1
        have sd : Std (upd H11 p1 (.tup [.str f, v])) (upd (upd H11 p1 (.tup [.str f, v])) D (.lst (xs ++ [.ref p1]))) := Nm.Std.upd eD12 ⟨_, rfl⟩
        refine ⟨szl' (by omega), by rw [List.length_append, xl]; rfl, ?_, by rw [upd_ne ntD, upd_ne (ne_of_none e11 hp1)]; exact e11, ((C9.std (B9.std k11)).std (Std.ofSame s1)).std sd, (R11.same s1).updL eD12 nfD, (B11.same s1).updNot nD, ((k9.trans k11).thenNew hp1).updFree (free_keep k8 nD hD)⟩
        exact (((SM.std (B9.std k11)).std (Std.ofSame s1)).snoc upd_same ((Nm.rtDx Rt).std (Std.ofSame s1) (Nm.trNoL _)) ⟨ot, zt, lt, by omega⟩ (sz f (List.mem_of_getElem? hf))).std sd
      · rintro H9 ⟨xs, eD, xl, SM, e9, C9, R9, B9, k9⟩
        rw [List.length_map] at xl
        simp? only [eD]
        intro p1 hp1 p2 hp2
        have n1 : p1 ≠ p2 := ne_of_none upd_same hp2
        have sq := (same_new (o := .tup xs) hp1).trans (same_new (o := .tup [.str "set", .str et.1, .ref p1, vc]) hp2)
        obtain ⟨sts, q1, q2, q3⟩ := SM.std (Std.ofSame sq)
        obtain ⟨co, C9, co2⟩ := C9.std (Std.ofSame sq)
        refine k p2 (.set et.1 sts co) _ ?_ ⟨tz.1, by omega, by omega, q3, co2⟩ (B9.same sq) (k9.trans (Keep.ofSame sq))
        have e1 : ((sts.map fun s => (s.1, Nm.trT s.2)).map fun s => Dx.tup [.str s.1, s.2.dx]) = sts.map fun s => Nm.dxP (s.1, Nm.trT s.2) := by rw [List.map_map]; rfl
        show RX _ _ (Dx.tup [.str "set", .str et.1, .tup ((sts.map fun s => (s.1, Nm.trT s.2)).map fun s => Dx.tup [.str s.1, s.2.dx]), Nm.dxO (co.map Nm.trC)])
        rw [e1]
        exact rx_tup upd_same (rxs_cons (rx_str _) (rxs_cons (rx_str _) (rxs_cons (rx_tup (by rw [upd_ne n1, upd_same]) q1) (rxs_cons C9 rxs_nil))))
    by_cases w6 : way = 6
    · subst w6
      simp? only []
      intro p1 hp1
      have s1 := same_new (o := .tup [.str "strike", .str et.1, vc]) hp1
      obtain ⟨co, C9, co2⟩ := C5.std (Std.ofSame s1)
      exact k p1 (.strike et.1 co) _ (rx_tup upd_same (rxs_cons (rx_str _) (rxs_cons (rx_str _) (rxs_cons C9 rxs_nil)))) ⟨tz.1, co2⟩ (B5.same s1) (k5.trans (Keep.ofSame s1))
    have last : ∀ p, H5 p = none → ∀ p1, upd H5 p (.tup [.str "k", .str "x"]) p1 = none → ∀ p2, upd (upd H5 p (.tup [.str "k", .str "x"])) p1 (.tup [.str "table", .str "td", .ref p]) p2 = none →
        ∀ p3, upd (upd (upd H5 p (.tup [.str "k", .str "x"])) p1 (.tup [.str "table", .str "td", .ref p])) p2 (.tup [.str "index", .str et.1, .str "x"]) p3 = none →
        spNext [.ref h, .int 2] (upd (upd (upd (upd H5 p (.tup [.str "k", .str "x"])) p1 (.tup [.str "table", .str "td", .ref p])) p2 (.tup [.str "index", .str et.1, .str "x"])) p3 (.lst [.ref p1, .ref p2]))
          (fun y H2 => ∃ x x_1, y = V.int x_1 ∧ lsO (H2 p3) = some x ∧ ∃ x_2, atI x x_1 = some x_2 ∧ Q x_2 H2) E0 := by
      intro p hp p1 hp1 p2 hp2 p3 hp3
      have n01 : p ≠ p1 := ne_of_none upd_same hp1
      have s0 := same_new (o := .tup [.str "k", .str "x"]) hp
      have s1 := same_new (o := .tup [.str "table", .str "td", .ref p]) hp1
      have s2 := same_new (o := .tup [.str "index", .str et.1, .str "x"]) hp2
      have s3 := same_new (o := .lst [.ref p1, .ref p2]) hp3
      have a1 : upd (upd H5 p (.tup [.str "k", .str "x"])) p1 (.tup [.str "table", .str "td", .ref p]) p = some (.tup [.str "k", .str "x"]) := by rw [upd_ne n01, upd_same]
      have t1 : RX (upd (upd H5 p (.tup [.str "k", .str "x"])) p1 (.tup [.str "table", .str "td", .ref p])) (.ref p1) (Nm.Sm.table "td" ["k", "x"]).dx :=
        rx_tup upd_same (rxs_cons (rx_str _) (rxs_cons (rx_str _) (rxs_cons (rx_tup a1 (rxs_cons (rx_str _) (rxs_cons (rx_str _) rxs_nil))) rxs_nil)))
      have t2 : RX (upd (upd (upd H5 p (.tup [.str "k", .str "x"])) p1 (.tup [.str "table", .str "td", .ref p])) p2 (.tup [.str "index", .str et.1, .str "x"])) (.ref p2) (Nm.Sm.index et.1 "x").dx :=
        rx_tup upd_same (rxs_cons (rx_str _) (rxs_cons (rx_str _) (rxs_cons (rx_str _) rxs_nil)))
      have sq := ((s0.trans s1).trans s2).trans s3
      have B9 := B5.same sq
      refine ⟨h, l, 2, rfl, B9, by decide, by decide, fun r10 H10 r0 r1 B10 k10 => ?_⟩
      have e3 : H10 p3 = some (.lst [.ref p1, .ref p2]) := k10 _ _ ((B5.same ((s0.trans s1).trans s2)).free hp3) upd_same
      have T1 := ((t1.same s2).same s3).std (B9.std k10) (Nm.smNoL _)
      have T2 := (t2.same s3).std (B9.std k10) (Nm.smNoL _)
      have kk := (k5.trans (Keep.ofSame sq)).trans k10
      have hr2 : r10 = 0 ∨ r10 = 1 := by omega
      rcases hr2 with rfl | rfl
      · exact ⟨_, 0, rfl, by rw [e3]; rfl, _, rfl, k p1 (.table "td" [Str.ofString "k", Str.ofString "x"]) H10 T1 ⟨rfl, rfl⟩ B10 kk⟩
      · exact ⟨_, 1, rfl, by rw [e3]; rfl, _, rfl, k p2 (.index et.1 "x") H10 T2 ⟨tz.1, rfl⟩ B10 kk⟩
    by_cases w7 : way = 7
    · subst w7
      simp? only []
      rw [if_neg (by decide), if_neg (by decide)]
      intro p hp p1 hp1 p2 hp2 p3 hp3
      have s0 := same_new (o := .tup [.str "begin"]) hp
      have s1 := same_new (o := .tup [.str "done"]) hp1
      have s2 := same_new (o := .tup [.str "undo"]) hp2
      have s3 := same_new (o := .lst [.ref p, .ref p1, .ref p2]) hp3
      have one : ∀ {G : Hp} {q : Addr} {x : Str}, RX (upd G q (.tup [.str x])) (.ref q) (Nm.Sm.alone x).dx := fun {G q x} => rx_tup upd_same (rxs_cons (rx_str _) rxs_nil)
      have t0 : RX (upd H5 p (.tup [.str "begin"])) (.ref p) (Nm.Sm.alone "begin").dx := one
      have t1 : RX (upd (upd H5 p (.tup [.str "begin"])) p1 (.tup [.str "done"])) (.ref p1) (Nm.Sm.alone "done").dx := one
      have t2 : RX (upd (upd (upd H5 p (.tup [.str "begin"])) p1 (.tup [.str "done"])) p2 (.tup [.str "undo"])) (.ref p2) (Nm.Sm.alone "undo").dx := one
      have sq := ((s0.trans s1).trans s2).trans s3
      have B9 := B5.same sq
      refine ⟨h, l, 3, rfl, B9, by decide, by decide, fun r10 H10 r0 r1 B10 k10 => ?_⟩
      have e3 : H10 p3 = some (.lst [.ref p, .ref p1, .ref p2]) := k10 _ _ ((B5.same ((s0.trans s1).trans s2)).free hp3) upd_same
      have T0 := (((t0.same s1).same s2).same s3).std (B9.std k10) (Nm.smNoL _)
      have T1 := ((t1.same s2).same s3).std (B9.std k10) (Nm.smNoL _)
      have T2 := (t2.same s3).std (B9.std k10) (Nm.smNoL _)
      have kk := (k5.trans (Keep.ofSame sq)).trans k10
      have hr3 : r10 = 0 ∨ r10 = 1 ∨ r10 = 2 := by omega
      rcases hr3 with rfl | rfl | rfl
      · exact ⟨_, 0, rfl, by rw [e3]; rfl, _, rfl, k p (.alone "begin") H10 T0 (by show Str.ofString _ ∈ _; decide +kernel) B10 kk⟩
      · exact ⟨_, 1, rfl, by rw [e3]; rfl, _, rfl, k p1 (.alone "done") H10 T1 (by show Str.ofString _ ∈ _; decide +kernel) B10 kk⟩
      · exact ⟨_, 2, rfl, by rw [e3]; rfl, _, rfl, k p2 (.alone "undo") H10 T2 (by show Str.ofString _ ∈ _; decide +kernel) B10 kk⟩
    by_cases w5 : way = 5
    · subst w5
      have cl : ¬ 1 < et.2.2.length := fun z => c6 ⟨rfl, z⟩
      simp? only [hd5, hev5, tp5]
      rw [if_neg (by simp; omega), if_neg (by decide), if_neg (by decide)]
      exact last
    · simp? only [c3, c5, w6, w7]
      rw [if_neg (by simpa using w5)]
      exact last
end

/-! days as texts: _law_alike -/
def cIsiT : List V → Hp → VK → Prop := fun xs H Q => ∃ x tp n1 n2 a, xs = [x, .ref tp] ∧ H tp = some (.tup [.ty n1, .ty n2]) ∧ okN n1 ∧ okN n2 ∧ tyT x H = some a ∧ Q (.bl (isN a n1 || isN a n2)) H
theorem isi_t2 {X : Cx} : CallR X (.builtin "isinstance") cIsiT := callImp call_isiT fun xs H Q ⟨x, tp, n1, n2, a, e, h, ok1, ok2, t, q⟩ =>
  ⟨x, tp, [.ty n1, .ty n2], _, [.type n1, .type n2], _, e, h, .cons (.ty n1) (.cons (.ty n2) .nil), tyT_ok t, kitAny_cons (kit_ty (kit_isN ok1)) (fun e1 => kitAny_cons (kit_ty (kit_isN ok2)) (fun e2 => by rw [kitAny_nil, e1, e2]; rfl) (fun e2 => by rw [e2, Bool.or_true])) (fun e1 => by rw [e1, Bool.true_or]), q⟩
def spAlike (n : Nat) : Sp := fun vs H Q _ => ∃ (x y : V) (d : Dx), vs = [x, y] ∧ RX H x d ∧ RX H y d ∧ d.deep ≤ n ∧ d.fits 93750 ∧ ∀ H', Same H H' → Q (.bl true) H'
section
variable {P : Program} {w : World} {K : PySem.W.Frag} {mg : Str → Option Value} {base : Heap}
theorem alike_step (T : Txt K mg w) (d : Nat) (sp0 : Sp) (G_l_alike : FnOk P w K mg base CX0 (d + 1) T.f_l_alike T.fd_l_alike ["_law_found", "_law_due"] sp0) (h0 : ∀ e, d = e + 1 → sp0 = spAlike e) :
    FnOk P w K mg base CX0 (d + 2) T.f_l_alike T.fd_l_alike ["_law_found", "_law_due"] (spAlike d) := by
  refine T.F_l_alike.ok sc_l_alike (fun vs H Q E h => ?_) (fun cdv A outer s H vs Q E hr h => ?_)
  · obtain ⟨x, y, dd, rfl, _⟩ := h
    rfl
  · have hu64 := hu64_of hr
    obtain ⟨x, y, dd, rfl, Rx, Ry, dp, ft, k⟩ := h
    refine ⟨_, (pss_cons (ps_if (pt_val (pe_callB isi_t2 (by rfl) T.n_isinstance (by decide +kernel) (pa_cons (pv 1) (pa_cons (pe_tup (pa_cons (pe_bltn (by rfl) T.n_tuple (by decide +kernel) (v := .ty "tuple") rfl) (pa_cons (pe_bltn (by rfl) T.n_list (by decide +kernel) (v := .ty "list") rfl) pa_nil))) pa_nil)))) (pss_cons (ps_if (PW.pt (pw_or (pt_not (pt_val (pe_callB isi_t2 (by rfl) T.n_isinstance (by decide +kernel) (pa_cons (pv 0) (pa_cons (pe_tup (pa_cons (pe_bltn (by rfl) T.n_tuple (by decide +kernel) (v := .ty "tuple") rfl) (pa_cons (pe_bltn (by rfl) T.n_list (by decide +kernel) (v := .ty "list") rfl) pa_nil))) pa_nil))))) (pw_or1 (pt_cmpR op_ne (pe_callB isi_h (by rfl) T.n_isinstance (by decide +kernel) (pa_cons (pv 0) (pa_cons (pe_bltn (by rfl) T.n_list (by decide +kernel) (v := .ty "list") rfl) pa_nil))) (pe_callB isi_h (by rfl) T.n_isinstance (by decide +kernel) (pa_cons (pv 1) (pa_cons (pe_bltn (by rfl) T.n_list (by decide +kernel) (v := .ty "list") rfl) pa_nil))) (nomark _))))) (pss_one (ps_ret pe_bl)) pss_nil)
        (pss_cons (ps_if (pt_cmpR op_ne (pe_callB len_lt (by rfl) T.n_len PySem.boot_len (pa_cons (pv 0) pa_nil)) (pe_callB len_lt (by rfl) T.n_len PySem.boot_len (pa_cons (pv 1) pa_nil)) (nomark _)) (pss_one (ps_ret pe_bl)) pss_nil)
        (pss_one (ps_ret (pe_cmpR (op_eqNilI hu64) (pe_lc (own := [("_law_k", 2)]) (g := gName 2) rfl sc_l_alike.nd (pi_range1 rfl T.n_range (pa_cons (pe_callB len_lt (by rfl) T.n_len PySem.boot_len (pa_cons (pv 1) pa_nil)) pa_nil)) (blkOk_by (N := N_l_alike) (sc := defScope s_l_alike) (by decide +kernel)) (fun _ _ _ _ _ => (pg_name (i := 2) sc_l_alike.nd rfl (Or.inl rfl))) (fun _ _ _ _ _ => pts_one (pt_not (pt_val (pe_call G_l_alike (hr.mono (by show _ ≤ d + 1; omega)) rfl T.mg_l_alike T.F_l_alike.kp T.b_l_alike .nil pass0 (pa_cons (pe_ix ix_lt (pv 0) (pv 2) (fun _ _ => rfl)) (pa_cons (pe_ix ix_lt (pv 1) (pv 2) (fun _ _ => rfl)) pa_nil)))))) (fun _ _ _ _ _ => (pv 2))) (pe_lst pa_nil) (nomark _)))))) pss_nil)
      (pss_cons (ps_if (PW.pt (pw_or (pt_cmpR op_isN (pv 1) pe_non (nomark _)) (pw_or1 (pt_val (pe_callB isi_h (by rfl) T.n_isinstance (by decide +kernel) (pa_cons (pv 1) (pa_cons (pe_bltn (by rfl) T.n_str (by decide +kernel) (v := .ty "str") rfl) pa_nil))))))) (pss_one (ps_ret (pe_and (pe_cmpR op_eq (pv 0) (pv 1) (nomark _)) (pe_one (pe_cmpR op_eq (pe_callB isi_h (by rfl) T.n_isinstance (by decide +kernel) (pa_cons (pv 0) (pa_cons (pe_bltn (by rfl) T.n_str (by decide +kernel) (v := .ty "str") rfl) pa_nil))) (pe_callB isi_h (by rfl) T.n_isinstance (by decide +kernel) (pa_cons (pv 1) (pa_cons (pe_bltn (by rfl) T.n_str (by decide +kernel) (v := .ty "str") rfl) pa_nil))) (nomark _)))))) pss_nil)
      (pss_one (ps_ret (pe_and (pe_callB isi_h (by rfl) T.n_isinstance (by decide +kernel) (pa_cons (pv 0) (pa_cons (pe_bltn (by rfl) T.n_int (by decide +kernel) (v := .ty "int") rfl) pa_nil))) (pe_and (pe_cmpR op_eq (pe_callB isi_h (by rfl) T.n_isinstance (by decide +kernel) (pa_cons (pv 0) (pa_cons (pe_bltn (by rfl) T.n_bool (by decide +kernel) (v := .ty "bool") rfl) pa_nil))) (pe_callB isi_h (by rfl) T.n_isinstance (by decide +kernel) (pa_cons (pv 1) (pa_cons (pe_bltn (by rfl) T.n_bool (by decide +kernel) (v := .ty "bool") rfl) pa_nil))) (nomark _)) (pe_one (pe_cmpR op_eq (pv 0) (pv 1) (nomark _))))))))), ?_⟩
    rw [show L2.start N_l_alike [x, y] = [some (x), some (y), none] from rfl]
    cases dd with
    | non =>
      simp only [RX] at Rx Ry
      subst Rx Ry
      simp? only [cIsiT, Bool.or_self]
      intro p hp
      exact k _ (same_new hp)
    | bl i =>
      simp only [RX] at Rx Ry
      subst Rx Ry
      simp? only [cIsiT, Bool.or_self]
      intro p hp
      exact k _ (same_new hp)
    | int i =>
      simp only [RX] at Rx Ry
      subst Rx Ry
      simp? only [cIsiT, Bool.or_self]
      intro p hp
      exact k _ (same_new hp)
    | str i =>
      simp only [RX] at Rx Ry
      subst Rx Ry
      simp? only [cIsiT, Bool.or_self]
      intro p hp
      exact k _ (same_new hp)
    | tup ds =>
      simp only [RX] at Rx Ry
      obtain ⟨a, us, rfl, ha, Ru⟩ := Rx
      obtain ⟨b, zs, rfl, hb, Rz⟩ := Ry
      have lu := Ru.len
      have lz := Rz.len
      simp only [Dx.fits] at ft
      obtain ⟨e, rfl⟩ : ∃ e, d = e + 1 := ⟨d - 1, by simp only [Dx.deep] at dp; omega⟩
      cases h0 e rfl
      simp only [Dx.deep] at dp
      rcases ha with ha | ⟨oa, ha⟩ <;> rcases hb with hb | ⟨ob, hb⟩
      all_goals
        simp? only [cIsiT, ha, hb, Bool.or_self]
        intro p1 hp1
        have s1 := same_new (o := .tup [.ty "tuple", .ty "list"]) hp1
        have ha1 := s1 _ _ ha
        have hb1 := s1 _ _ hb
        simp? only [cIsiT, ha1, hb1, Bool.or_self]
        intro p2 hp2
        have s2 := same_new (o := .tup [.ty "tuple", .ty "list"]) hp2
        have ha2 := s2 _ _ ha1
        have hb2 := s2 _ _ hb1
        simp? only [cIsiT, ha2, hb2, Bool.or_self, cLenLT]
        refine ⟨us, .inr rfl, zs, .inr rfl, ?_⟩
        rw [if_neg (by rw [lu, lz]; simp)]
        have S2 := s1.trans s2
        generalize upd (upd H p1 (.tup [.ty "tuple", .ty "list"])) p2 (.tup [.ty "tuple", .ty "list"]) = H2 at *
        simp? only [tLc_eq, iRng1, cLenLT, hb2]
        refine ⟨zs, .inr rfl, by omega, by omega, ?_⟩
        rw [Int.toNat_natCast]
        refine lcB_it fun D hD => ?_
        refine lc_it walk_range (fun i H3 => Same H2 H3 ∧ H3 D = some (.lst [])) ⟨same_new hD, upd_same⟩ (fun _ _ _ _ => trivial) ?_ ?_
        · rintro i x H3 H4 hi ⟨S3, eD⟩ ⟨rfl, rfl⟩
          have ha3 := S3 _ _ ha2
          have hb3 := S3 _ _ hb2
          have hid : i < ds.length := by omega
          have hdi : ds[i]? = some ds[i] := List.getElem?_eq_getElem hid
          obtain ⟨u, hu, Ru1⟩ := (RXs.same (S2.trans S3) Ru).at hdi
          obtain ⟨z, hz, Rz1⟩ := (RXs.same (S2.trans S3) Rz).at hdi
          have au : atI us (0 + (i : Int)) = some u := by rw [Int.zero_add]; exact atI_nat hu
          have az : atI zs (0 + (i : Int)) = some z := by rw [Int.zero_add]; exact atI_nat hz
          simp? only [gName, rIxLT, ha3, hb3]
          refine ⟨us, .inr rfl, u, au, zs, .inr rfl, z, az, u, z, ds[i], rfl, Ru1, Rz1, ?_, Dx.fitsL_at ft.2 hdi, fun H5 s5 => ?_⟩
          · have := Dx.deepL_at hdi
            omega
          · simp? only []
            exact ⟨S3.trans s5, s5 _ _ eD⟩
        · rintro H3 ⟨S3, eD⟩
          intro q hq
          have sq := same_new (o := .lst []) hq
          refine ⟨D, rfl, [], by rw [sq _ _ eD]; rfl, k _ ((S2.trans S3).trans sq)⟩
    | lst ds =>
      simp only [RX] at Rx Ry
      obtain ⟨a, us, rfl, ha, Ru⟩ := Rx
      obtain ⟨b, zs, rfl, hb, Rz⟩ := Ry
      have lu := Ru.len
      have lz := Rz.len
      simp only [Dx.fits] at ft
      obtain ⟨e, rfl⟩ : ∃ e, d = e + 1 := ⟨d - 1, by simp only [Dx.deep] at dp; omega⟩
      cases h0 e rfl
      simp only [Dx.deep] at dp
      simp? only [cIsiT, ha, hb, Bool.or_self]
      intro p1 hp1
      have s1 := same_new (o := .tup [.ty "tuple", .ty "list"]) hp1
      have ha1 := s1 _ _ ha
      have hb1 := s1 _ _ hb
      simp? only [cIsiT, ha1, hb1, Bool.or_self]
      intro p2 hp2
      have s2 := same_new (o := .tup [.ty "tuple", .ty "list"]) hp2
      have ha2 := s2 _ _ ha1
      have hb2 := s2 _ _ hb1
      simp? only [cIsiT, ha2, hb2, Bool.or_self, cLenLT]
      refine ⟨us, .inl rfl, zs, .inl rfl, ?_⟩
      rw [if_neg (by rw [lu, lz]; simp)]
      have S2 := s1.trans s2
      generalize upd (upd H p1 (.tup [.ty "tuple", .ty "list"])) p2 (.tup [.ty "tuple", .ty "list"]) = H2 at *
      simp? only [tLc_eq, iRng1, cLenLT, hb2]
      refine ⟨zs, .inl rfl, by omega, by omega, ?_⟩
      rw [Int.toNat_natCast]
      refine lcB_it fun D hD => ?_
      refine lc_it walk_range (fun i H3 => Same H2 H3 ∧ H3 D = some (.lst [])) ⟨same_new hD, upd_same⟩ (fun _ _ _ _ => trivial) ?_ ?_
      · rintro i x H3 H4 hi ⟨S3, eD⟩ ⟨rfl, rfl⟩
        have ha3 := S3 _ _ ha2
        have hb3 := S3 _ _ hb2
        have hid : i < ds.length := by omega
        have hdi : ds[i]? = some ds[i] := List.getElem?_eq_getElem hid
        obtain ⟨u, hu, Ru1⟩ := (RXs.same (S2.trans S3) Ru).at hdi
        obtain ⟨z, hz, Rz1⟩ := (RXs.same (S2.trans S3) Rz).at hdi
        have au : atI us (0 + (i : Int)) = some u := by rw [Int.zero_add]; exact atI_nat hu
        have az : atI zs (0 + (i : Int)) = some z := by rw [Int.zero_add]; exact atI_nat hz
        simp? only [gName, rIxLT, ha3, hb3]
        refine ⟨us, .inl rfl, u, au, zs, .inl rfl, z, az, u, z, ds[i], rfl, Ru1, Rz1, ?_, Dx.fitsL_at ft.2 hdi, fun H5 s5 => ?_⟩
        · have := Dx.deepL_at hdi
          omega
        · simp? only []
          exact ⟨S3.trans s5, s5 _ _ eD⟩
      · rintro H3 ⟨S3, eD⟩
        intro q hq
        have sq := same_new (o := .lst []) hq
        refine ⟨D, rfl, [], by rw [sq _ _ eD]; rfl, k _ ((S2.trans S3).trans sq)⟩
theorem ok_l_alike (T : Txt K mg w) : ∀ d : Nat, FnOk P w K mg base CX0 (d + 2) T.f_l_alike T.fd_l_alike ["_law_found", "_law_due"] (spAlike d)
  | 0 => alike_step T 0 (fun _ _ _ _ => False) (T.F_l_alike.ok sc_l_alike (fun vs H Q E h => h.elim) (fun cdv A outer s H vs Q E hr h => h.elim)) (fun e h => absurd h (by omega))
  | d + 1 => alike_step T (d + 1) (spAlike d) (ok_l_alike T d) (fun e h => by cases h; rfl)
end

local macro_rules | `(tactic| simp? only [$ls,*]) => `(tactic| simp only [tVar, tC, tOp, rI, rI0, rU, tTest, tB, tAnd, tOr, tNot, tAndV, tOrV, tNotV, tIf, tNil, tCons, tTup, tLst, tCB, tSeq, tAsg, gName, tRet, tRetN, tIfS, tNext, tDrop, tCall, tUn, tPar, CMul, CDiv, V.int.injEq, V.bl.injEq, V.ref.injEq, V.str.injEq, Option.some.injEq, List.cons.injEq, and_true, true_and, and_false, false_and, or_false, false_or, or_true, true_or, exists_eq_left', exists_eq_left, exists_and_left, exists_and_right, exists_eq', exists_eq, exists_false, exists_const, List.getElem?_cons_succ, List.getElem?_cons_zero, List.set_cons_succ, List.set_cons_zero, List.length_cons, List.length_nil, List.cons_append, List.nil_append, List.append_nil, reduceCtorEq, Int.reduceLT, Int.reduceLE, Int.reduceNeg, Int.reducePow, Int.reduceSub, Int.reduceAdd, Nat.reduceAdd, Nat.reduceLeDiff, Bool.not_true, Bool.not_false, decide_true, decide_false, Bool.false_eq_true, ↓reduceIte, upd_same, not_true_eq_false, not_false_eq_true, lsO_l, lsO_f, tpO_t, tpO_f, dkO_d, dkO_f, keyO_i, keyO_s, rIxH, rIxU, cLenL, cLenT, cListL, cListT, cTupL, cIntB, cAll, rEqNilI, rEq, rNe, scal_ii, scal_ss, scal_bb, scal_nn, scal_ni, scal_in, scal_ns, scal_sn, gSub, rSetL, ixs0, ixs1, ixs2, seq0, at0, at1, at2, at3, tBM, tBM0, rAppend, rPopAt, tyV_list, tGet2, tGetI, sPut, tMG, rTIdx, tyTup, tTupF, cx_K, cx_w, ex_map_int, ex_nil_int, ex_cons_int, List.map_cons, List.map_nil, List.isEmpty_nil, List.isEmpty_cons, List.eraseIdx_zero, List.tail_cons, List.eraseIdx_cons_zero, HO.lst.injEq, HO.tup.injEq, HO.dK.injEq, HO.frz.injEq, ne_eq, gTupH, gCons, gNil, wipe, tYes, upd_upd, and_assoc, List.getElem?_map, Option.map_some, isn_non_bool, isn_non_int, isn_non_str, isn_non_tuple, isn_non_list, isn_non_dict, isn_bl_bool, isn_bl_int, isn_bl_str, isn_bl_tuple, isn_bl_list, isn_bl_dict, isn_int_bool, isn_int_int, isn_int_str, isn_int_tuple, isn_int_list, isn_int_dict, isn_str_bool, isn_str_int, isn_str_str, isn_str_tuple, isn_str_list, isn_str_dict, isn_lst_bool, isn_lst_int, isn_lst_str, isn_lst_tuple, isn_lst_list, isn_lst_dict, isn_tup_bool, isn_tup_int, isn_tup_str, isn_tup_tuple, isn_tup_list, isn_tup_dict, isn_dct_bool, isn_dct_int, isn_dct_str, isn_dct_tuple, isn_dct_list, isn_dct_dict, okn_bool, okn_int, okn_str, okn_tuple, okn_list, okn_dict, cIsi, tyT_n, tyT_b, tyT_i, tyT_s, tyT_r, V.ty.injEq, tSl, tPart, tNoPart, rSlF, gName, List.length_map, Int.reduceToNat, cpow18, rInTab, rIxTab, rCatH, rCat, rInT, cSortD, cMaxL, cMinL, rNeNilI, inV, flatV, List.any_cons, List.any_nil, List.all_cons, List.all_nil, eqV, Bool.and_true, Bool.and_false, Bool.true_and, Bool.false_and, Bool.or_false, Bool.false_or, Bool.or_true, Bool.true_or, sz0, sz1, sz2, sz3, sz4, sz5, sz6, tM1, rNewStrs, gStarL, rIxS, tChain, rRep, rInTx, rIxTx, rNeNilA, rEqNilA, rIsD, tXf, rSlP, rInX, rCatS, rInS, cTupL, cLenD, tFld, sFld, tMeth, tMake, HO.ins.injEq, rIxLT, cLenLT, Td.rIsG, Lm.tCallZ, Lm.tLam, tMkK, rEqSL, rNilT, rEqXS, rMulS, rInQ, rIxS, tMG, tAug, ipI, rNotInT, rStrA, CwR.tReplC, $ls,*])
local macro_rules | `(tactic| dsimp? only [$ls,*]) => `(tactic| simp only [tVar, tC, tOp, rI, rI0, rU, tTest, tB, tAnd, tOr, tNot, tAndV, tOrV, tNotV, tIf, tNil, tCons, tTup, tLst, tCB, tSeq, tAsg, gName, tRet, tRetN, tIfS, tNext, tDrop, tCall, tUn, tPar, CMul, CDiv, V.int.injEq, V.bl.injEq, V.ref.injEq, V.str.injEq, Option.some.injEq, List.cons.injEq, and_true, true_and, and_false, false_and, or_false, false_or, or_true, true_or, exists_eq_left', exists_eq_left, exists_and_left, exists_and_right, exists_eq', exists_eq, exists_false, exists_const, List.getElem?_cons_succ, List.getElem?_cons_zero, List.set_cons_succ, List.set_cons_zero, List.length_cons, List.length_nil, List.cons_append, List.nil_append, List.append_nil, reduceCtorEq, Int.reduceLT, Int.reduceLE, Int.reduceNeg, Int.reducePow, Int.reduceSub, Int.reduceAdd, Nat.reduceAdd, Nat.reduceLeDiff, Bool.not_true, Bool.not_false, decide_true, decide_false, Bool.false_eq_true, ↓reduceIte, upd_same, not_true_eq_false, not_false_eq_true, lsO_l, lsO_f, tpO_t, tpO_f, dkO_d, dkO_f, keyO_i, keyO_s, rIxH, rIxU, cLenL, cLenT, cListL, cListT, cTupL, cIntB, cAll, rEqNilI, rEq, rNe, scal_ii, scal_ss, scal_bb, scal_nn, scal_ni, scal_in, scal_ns, scal_sn, gSub, rSetL, ixs0, ixs1, ixs2, seq0, at0, at1, at2, at3, tBM, tBM0, rAppend, rPopAt, tyV_list, tGet2, tGetI, sPut, tMG, rTIdx, tyTup, tTupF, cx_K, cx_w, ex_map_int, ex_nil_int, ex_cons_int, List.map_cons, List.map_nil, List.isEmpty_nil, List.isEmpty_cons, List.eraseIdx_zero, List.tail_cons, List.eraseIdx_cons_zero, HO.lst.injEq, HO.tup.injEq, HO.dK.injEq, HO.frz.injEq, ne_eq, gTupH, gCons, gNil, wipe, tYes, upd_upd, and_assoc, List.getElem?_map, Option.map_some, isn_non_bool, isn_non_int, isn_non_str, isn_non_tuple, isn_non_list, isn_non_dict, isn_bl_bool, isn_bl_int, isn_bl_str, isn_bl_tuple, isn_bl_list, isn_bl_dict, isn_int_bool, isn_int_int, isn_int_str, isn_int_tuple, isn_int_list, isn_int_dict, isn_str_bool, isn_str_int, isn_str_str, isn_str_tuple, isn_str_list, isn_str_dict, isn_lst_bool, isn_lst_int, isn_lst_str, isn_lst_tuple, isn_lst_list, isn_lst_dict, isn_tup_bool, isn_tup_int, isn_tup_str, isn_tup_tuple, isn_tup_list, isn_tup_dict, isn_dct_bool, isn_dct_int, isn_dct_str, isn_dct_tuple, isn_dct_list, isn_dct_dict, okn_bool, okn_int, okn_str, okn_tuple, okn_list, okn_dict, cIsi, tyT_n, tyT_b, tyT_i, tyT_s, tyT_r, V.ty.injEq, tSl, tPart, tNoPart, rSlF, gName, List.length_map, Int.reduceToNat, cpow18, rInTab, rIxTab, rCatH, rCat, rInT, cSortD, cMaxL, cMinL, rNeNilI, inV, flatV, List.any_cons, List.any_nil, List.all_cons, List.all_nil, eqV, Bool.and_true, Bool.and_false, Bool.true_and, Bool.false_and, Bool.or_false, Bool.false_or, Bool.or_true, Bool.true_or, sz0, sz1, sz2, sz3, sz4, sz5, sz6, tM1, rNewStrs, gStarL, rIxS, tChain, rRep, rInTx, rIxTx, rNeNilA, rEqNilA, rIsD, tXf, rSlP, rInX, rCatS, rInS, cTupL, cLenD, tFld, sFld, tMeth, tMake, HO.ins.injEq, rIxLT, cLenLT, Td.rIsG, Lm.tCallZ, Lm.tLam, tMkK, rEqSL, rNilT, rEqXS, rMulS, rInQ, rIxS, tMG, tAug, ipI, rNotInT, rStrA, CwR.tReplC, lkStatements_words, lkStatements_at, lkStatements_deep, noStatements_here, noStatements_refuse, noStatements_taken, noStatements_does_take, noStatements_need, noStatements_next_name, noStatements_next_number, noStatements_whole, noStatements_statement, noStatements_some, noStatements_one_set, noStatements_where, noStatements_question, noStatements_a_term, noStatements_a_cond, noStatements_joined, noStatements_or_of, noStatements_and_of, noStatements_not_of, noStatements_compare_of, noStatements_sum_of, noStatements_product_of, noStatements_go_in, noStatements_factor_of, inStatements_words, inStatements_at, inStatements_deep, puStatements_words, puStatements_at, puStatements_deep, lnStatements, lpStatements1, lpStatements2, l0Statements, Txt.cl_Statements, Txt.na_Statements_words, Txt.na_Statements_at, Txt.na_Statements_deep, $ls,*])
/-! the law: statements written and read -/
def spLaw (K : PySem.W.Frag) (TL : List (Addr × Str)) : Sp := fun vs H Q _ => ∃ (a : Addr) (ns : List Int), vs = [.ref a] ∧ SqL K H a (ns.map V.int) ∧ ns.length ≤ 63 ∧ (∀ p ∈ TL, H p.1 = some (.tbl #[])) ∧ ∀ H', Q (.bl true) H'
/-- what is neither frozen nor a table -/
def NF (o : HO) : Prop := ¬ Lm.Fz o ∧ ∀ ps, o ≠ .tbl ps
theorem nf_lst {xs : List V} : NF (.lst xs) := ⟨fun z => z, fun _ z => by cases z⟩
theorem kf_keep {ms : List Addr} {H H' : Hp} (k : Keep ms H H') (n : ∀ m ∈ ms, ∃ o, H m = some o ∧ NF o) : Lm.KeepF H H' ∧ Lm.KeepT H H' := by
  constructor
  · intro b o e z
    refine k b o (fun hm => ?_) e
    obtain ⟨u, hu, h1, _⟩ := n b hm
    rw [e] at hu; cases hu
    exact h1 z
  · intro b ps e
    refine k b _ (fun hm => ?_) e
    obtain ⟨u, hu, _, h2⟩ := n b hm
    rw [e] at hu; cases hu
    exact h2 ps rfl
/-- what stands amid a turn: the box, the tables of codes -/
structure S01 (Tl : List (Addr × Str)) (h l : Addr) (H : Hp) : Prop where
  B : BoxB H h l
  tab : Lm.TabF Tl H
theorem S01.box {Tl : List (Addr × Str)} {h l : Addr} {H H' : Hp} (S : S01 Tl h l H) (B' : BoxB H' h l) (k : Keep [h, l] H H') : S01 Tl h l H' := by
  obtain ⟨k1, k2⟩ := kf_keep k fun m hm => by
    obtain ⟨ns, st, pl, b1, b2, _⟩ := id S.B
    rcases List.mem_cons.mp hm with rfl | hm
    · exact ⟨_, b1, nf_lst⟩
    · rw [List.mem_singleton.mp hm]
      exact ⟨_, b2, nf_lst⟩
  exact ⟨B', S.tab.ext k1 k2⟩
theorem S01.same {Tl : List (Addr × Str)} {h l : Addr} {H H' : Hp} (S : S01 Tl h l H) (k : Same H H') : S01 Tl h l H' := ⟨S.B.same k, S.tab.ext (Lm.KeepF.of k) (Lm.KeepT.of k)⟩
theorem S01.ext {Tl : List (Addr × Str)} {h l : Addr} {H H' : Hp} (S : S01 Tl h l H) (k : LamX.ExtN H H') (T : Lm.TabF Tl H') : S01 Tl h l H' := ⟨S.B.extN k, T⟩
structure W1 (Tl : List (Addr × Str)) (h l d : Addr) (es : List Sh) (H : Hp) : Prop where
  S : S01 Tl h l H
  sh : SH H d es
  el : 0 < es.length
structure W2 (Tl : List (Addr × Str)) (h l a : Addr) (st : Rd.St) (H : Hp) : Prop where
  S : S01 Tl h l H
  r : RX H (.ref a) st.sm.dx
theorem W2.same {Tl : List (Addr × Str)} {h l a : Addr} {st : Rd.St} {H H' : Hp} (W : W2 Tl h l a st H) (k : Same H H') : W2 Tl h l a st H' := ⟨W.S.same k, W.r.same k⟩
theorem W2.box {Tl : List (Addr × Str)} {h l a : Addr} {st : Rd.St} {H H' : Hp} (W : W2 Tl h l a st H) (B' : BoxB H' h l) (k : Keep [h, l] H H') : W2 Tl h l a st H' := ⟨W.S.box B' k, W.r.std (W.S.B.std k) (Nm.smNoL _)⟩
theorem W2.ext {Tl : List (Addr × Str)} {h l a : Addr} {st : Rd.St} {H H' : Hp} (W : W2 Tl h l a st H) (k : LamX.ExtN H H') (T : Lm.TabF Tl H') : W2 Tl h l a st H' := ⟨W.S.ext k T, RX.extN k W.r⟩
def dueD : PyData := .tuple [.str (Str.ofString "and"), .tuple [.str (Str.ofString "="), .tuple [.str (Str.ofString "field"), .str (Str.ofString ""), .str (Str.ofString "b")], .tuple [.str (Str.ofString "num"), .int 2]]]
def minD : PyData := .tuple [.tuple [.str (Str.ofString "-"), .tuple [.str (Str.ofString "num"), .int (-3)], .tuple [.str (Str.ofString "num"), .int (-4)]]]
structure W7 (F : Addr) (H : Hp) : Prop where
  ex : ∃ v u, H F = some (.lst [v, u]) ∧ RX H v Rd.stA.sm.dx ∧ RX H u Rd.stB.sm.dx
structure DueW (H0 : Hp) (D : Addr) (H : Hp) : Prop where
  sm : Same H0 H
  ex : ∃ p1 p2 p3, H p1 = some (.tup [V.str "field", V.str "", V.str "b"]) ∧ H p2 = some (.tup [V.str "num", V.int 2]) ∧ H p3 = some (.tup [V.str "=", V.ref p1, V.ref p2]) ∧ H D = some (.tup [V.str "and", V.ref p3, V.non])
section
variable {P : Program} {w : World} {K : PySem.W.Frag} {mg : Str → Option Value} {base : Heap}
theorem ok_law (T : Txt K mg w) (TBs : Tabs T base) : FnOk P w K mg base CX0 110 T.f_law T.fd_law ["_law_script"] (spLaw K T.TL) := by
  have G_l_mix : FnOk P w K mg base CX0 1 T.f_l_mix T.fd_l_mix ["_law_script", "_law_seed"] (spMix K) := ok_l_mix T
  have G_l_shapes : FnOk P w K mg base CX0 2 T.f_l_shapes T.fd_l_shapes ["_law_h", "_law_many"] spShapes := ok_l_shapes T
  have G_l_statement : FnOk P w K mg base CX0 11 T.f_l_statement T.fd_l_statement ["_law_h", "_law_shapes_here"] spStm := ok_l_statement T
  have G_l_written := ok_l_written (P := P) (base := base) T
  have G_l_loose := ok_l_loose (P := P) (base := base) T
  have G_written := ok_written (P := P) (base := base) T
  have G_l_alike : FnOk P w K mg base CX0 (8 + 2) T.f_l_alike T.fd_l_alike ["_law_found", "_law_due"] (spAlike 8) := ok_l_alike T 8
  have G_read : FnOk P w K mg base (L2.CX P w) 106 T.f_read T.fd_read ["text"] (spRead T.TL T.C_BadText 7) := ok_read_7 T TBs
  refine T.F_law.ok sc_law (fun vs H Q E h => ?_) (fun cdv A outer s H vs Q E hr h => ?_)
  · obtain ⟨a, ns, rfl, _⟩ := h
    rfl
  · have hu64 := hu64_of hr
    obtain ⟨a0, ns, rfl, hS, hlen, hP, k⟩ := h
    refine ⟨_, (Evl.pss_cut (ps_set (i := 1) sc_law.nd rfl (Or.inl rfl) (pe_call G_l_mix (hr.mono (by decide)) rfl T.mg_l_mix T.F_l_mix.kp T.b_l_mix .nil pass0 (pa_cons (pv 0) (pa_cons pe_int pa_nil))))
      (Evl.pss_cut (ps_for PassesOwn.never rfl (pi_range1 rfl T.n_range (pa_cons pe_int pa_nil)) (pg_name (i := 2) sc_law.nd rfl (Or.inl rfl)) (Evl.pss_cut (ps_set (i := 3) sc_law.nd rfl (Or.inl rfl) (pe_call G_l_shapes (hr.mono (by decide)) rfl T.mg_l_shapes T.F_l_shapes.kp T.b_l_shapes .nil pass0 (pa_cons (pv 1) (pa_cons pe_int pa_nil))))
        (Evl.pss_cut (ps_set (i := 4) sc_law.nd rfl (Or.inl rfl) (pe_call G_l_statement (hr.mono (by decide)) rfl T.mg_l_statement T.F_l_statement.kp T.b_l_statement .nil pass0 (pa_cons (pv 1) (pa_cons (pv 3) pa_nil))))
        (Evl.pss_cut (ps_set (i := 5) sc_law.nd rfl (Or.inl rfl) (pe_call G_l_written (hr.mono (by decide)) rfl T.mg_l_written T.F_l_written.kp T.b_l_written .nil pass0 (pa_cons (pv 4) pa_nil)))
        (Evl.pss_cut (ps_set (i := 6) sc_law.nd rfl (Or.inl rfl) (pe_call G_l_loose (hr.mono (by decide)) rfl T.mg_l_loose T.F_l_loose.kp T.b_l_loose .nil pass0 (pa_cons (pv 1) (pa_cons (pv 5) pa_nil))))
        (Evl.pss_cut (ps_if (PW.pt (pw_or (pt_cmpR op_ne (pe_call G_written (hr.mono (by decide)) rfl T.mg_written T.F_written.kp T.b_written .nil pass0 (pa_cons (pv 4) pa_nil)) (pv 5) (nomark _)) (pw_or1 (pt_not (pt_val (pe_call G_l_alike (hr.mono (by decide)) rfl T.mg_l_alike T.F_l_alike.kp T.b_l_alike .nil pass0 (pa_cons (pe_call G_read (hr.mono (by decide)) rfl T.mg_read T.F_read.kp T.b_read .nil (passes_call L2.takes0 (fun _ _ _ _ z => z)) (pa_cons (pv 5) pa_nil)) (pa_cons (pv 4) pa_nil)))))))) (pss_one (ps_ret pe_bl)) pss_nil)
        (pss_one (ps_if (pt_not (pt_val (pe_call G_l_alike (hr.mono (by decide)) rfl T.mg_l_alike T.F_l_alike.kp T.b_l_alike .nil pass0 (pa_cons (pe_call G_read (hr.mono (by decide)) rfl T.mg_read T.F_read.kp T.b_read .nil (passes_call L2.takes0 (fun _ _ _ _ z => z)) (pa_cons (pv 6) pa_nil)) (pa_cons (pv 4) pa_nil))))) (pss_one (ps_ret pe_bl)) pss_nil))))))))
      (Evl.pss_cut (ps_set (i := 7) sc_law.nd rfl (Or.inl rfl) (pe_lst (pa_cons (pe_call G_read (hr.mono (by decide)) rfl T.mg_read T.F_read.kp T.b_read .nil (passes_call L2.takes0 (fun _ _ _ _ z => z)) (pa_cons pe_str pa_nil)) (pa_cons (pe_call G_read (hr.mono (by decide)) rfl T.mg_read T.F_read.kp T.b_read .nil (passes_call L2.takes0 (fun _ _ _ _ z => z)) (pa_cons pe_str pa_nil)) pa_nil))))
      (Evl.pss_cut (ps_set (i := 8) sc_law.nd rfl (Or.inl rfl) (pe_tup (pa_cons pe_str (pa_cons (pe_tup (pa_cons pe_str (pa_cons (pe_tup (pa_cons pe_str (pa_cons pe_str (pa_cons pe_str pa_nil)))) (pa_cons (pe_tup (pa_cons pe_str (pa_cons pe_int pa_nil))) pa_nil)))) (pa_cons pe_non pa_nil)))))
      (Evl.pss_cut (ps_set (i := 9) sc_law.nd rfl (Or.inl rfl) (pe_ix ix_tp (pe_ix ix_lst (pv 7) pe_int (fun _ _ => rfl)) pe_int (fun _ _ => rfl)))
      (Evl.pss_cut (ps_if (PW.pt (pw_or (pt_cmpR op_ne (pe_ix ix_tp (pv 9) pe_int (fun _ _ => rfl)) pe_str (nomark _)) (pw_or (pt_cmpR (op_neDK K rfl hu64) (pe_slice sl_tupF (pe_ix ix_tp (pv 9) pe_int (fun _ _ => rfl)) po_none (po_some pe_int)) (pe_slice sl_tupF (pv 8) po_none (po_some pe_int)) (nomark _)) (pw_or1 (pt_cmpR op_ne (pe_ix ix_tp (pe_ix ix_tp (pe_ix ix_tp (pv 9) pe_int (fun _ _ => rfl)) pe_int (fun _ _ => rfl)) pe_int (fun _ _ => rfl)) pe_str (nomark _)))))) (pss_one (ps_ret pe_bl)) pss_nil)
      (pss_one (ps_ret (pe_cmpR (op_eqDK K rfl hu64) (pe_ix ix_tp (pe_ix ix_lst (pv 7) pe_int (fun _ _ => rfl)) pe_int (fun _ _ => rfl)) (pe_tup (pa_cons (pe_tup (pa_cons pe_str (pa_cons (pe_tup (pa_cons pe_str (pa_cons (pe_un un_neg pe_int) pa_nil))) (pa_cons (pe_tup (pa_cons pe_str (pa_cons (pe_un un_neg pe_int) pa_nil))) pa_nil)))) pa_nil)) (nomark _)))))))))), ?_⟩
    rw [show L2.start N_law [V.ref a0] = [some (V.ref a0), none, none, none, none, none, none, none, none, none] from rfl]
    refine ⟨fun σ' H1 => ∃ h l, σ' = [some (.ref a0), some (.ref h), none, none, none, none, none, none, none, none] ∧ S01 T.TL h l H1, ?_, ?_⟩
    · simp? only []
      refine ⟨a0, ns, 3, rfl, hS, hlen, fun H1 h l nh nl s1 B1 => ⟨h, rfl, l, B1, Lm.TabF.nil fun p hp => s1 _ _ (hP p hp)⟩⟩
    rintro σ' H1 ⟨h, l, rfl, S1⟩
    refine ⟨fun σ' H2 => ∃ x2 x3 x4 x5 x6, S01 T.TL h l H2 ∧ σ' = [some (.ref a0), some (.ref h), x2, x3, x4, x5, x6, none, none, none], ?_, ?_⟩
    · simp? only [tFor_eq, iRng1]
      refine forB_it (for_it walk_range (fun i σ H2 => ∃ x2 x3 x4 x5 x6, S01 T.TL h l H2 ∧ σ = [some (.ref a0), some (.ref h), x2, x3, x4, x5, x6, none, none, none]) ⟨none, none, none, none, none, S1, rfl⟩ (fun _ _ _ _ _ => trivial) ?_ ?_)
      · rintro i y σ H2 H3 hi ⟨x2, x3, x4, x5, x6, S2, rfl⟩ ⟨rfl, rfl⟩
        simp? only [gName]
        refine ⟨fun σ' H4 => ∃ d es, W1 T.TL h l d es H4 ∧ σ' = [some (.ref a0), some (.ref h), some (.int (0 + (i : Int))), some (.ref d), x4, x5, x6, none, none, none], ?_, ?_⟩
        · simp? only []
          exact ⟨h, l, 3, rfl, S2.B, by decide, by decide, fun d es H4 sh el hd B4 k4 => ⟨d, ⟨es, S2.box B4 k4, sh, el⟩, rfl⟩⟩
        rintro σ' H4 ⟨d, es, W4, rfl⟩
        refine ⟨fun σ' H5 => ∃ a st, (W2 T.TL h l a st H5 ∧ st.dr) ∧ σ' = [some (.ref a0), some (.ref h), some (.int (0 + (i : Int))), some (.ref d), some (.ref a), x5, x6, none, none, none], ?_, ?_⟩
        · simp? only []
          exact ⟨h, l, d, es, rfl, W4.S.B, W4.sh, W4.el, fun a st H5 r dr B5 k5 => ⟨a, st, ⟨W4.S.box B5 k5, r⟩, dr, rfl⟩⟩
        rintro σ' H5 ⟨a, st, ⟨W5, dr⟩, rfl⟩
        refine ⟨fun σ' H6 => W2 T.TL h l a st H6 ∧ σ' = [some (.ref a0), some (.ref h), some (.int (0 + (i : Int))), some (.ref d), some (.ref a), some (.str st.txt), x6, none, none, none], ?_, ?_⟩
        · simp? only []
          exact ⟨.ref a, st, rfl, W5.r, dr.wd, fun H6 s6 => ⟨W5.same s6, rfl⟩⟩
        rintro σ' H6 ⟨W6, rfl⟩
        refine ⟨fun σ' H7 => ∃ z, (W2 T.TL h l a st H7 ∧ Rd.toks z = Rd.toks st.txt ∧ z.length ≤ 50000) ∧ σ' = [some (.ref a0), some (.ref h), some (.int (0 + (i : Int))), some (.ref d), some (.ref a), some (.str st.txt), some (.str z), none, none, none], ?_, ?_⟩
        · simp? only []
          exact ⟨h, l, st.txt, rfl, W6.S.B, by have := dr.len; omega, fun z H7 tz lz B7 k7 => ⟨W6.box B7 k7, z, tz, lz, rfl⟩⟩
        rintro σ' H7 ⟨z, ⟨W7, tz, lz⟩, rfl⟩
        obtain ⟨bd, bf⟩ := Rd.sm_bd dr
        refine ⟨fun σ' H8 => W2 T.TL h l a st H8 ∧ σ' = [some (.ref a0), some (.ref h), some (.int (0 + (i : Int))), some (.ref d), some (.ref a), some (.str st.txt), some (.str z), none, none, none], ?_, ?_⟩
        · simp? only []
          refine ⟨.ref a, st, rfl, W7.r, dr.wd, fun H8 s8 => ⟨rfl, ?_⟩⟩
          rw [if_neg (by simp)]
          have W8 := W7.same s8
          refine ⟨st.txt, rfl, by have := dr.len; omega, W8.S.tab, ?_⟩
          rw [Rd.read_txt dr.good]
          refine fun H9 v e9 t9 r9 => ?_
          have W9 := W8.ext e9 t9
          refine ⟨v, .ref a, st.sm.dx, rfl, r9, W9.r, bd, Nm.fits_mono (by decide) _ bf, fun H10 s10 => ⟨true, rfl, ?_⟩⟩
          rw [if_neg (by decide)]
          exact W9.same s10
        rintro σ' H8 ⟨W8, rfl⟩
        simp? only []
        refine ⟨z, rfl, lz, W8.S.tab, ?_⟩
        rw [Rd.read_ok dr.good (tz.trans (Rd.toks_txt dr.good))]
        refine fun H9 v e9 t9 r9 => ?_
        have W9 := W8.ext e9 t9
        refine ⟨v, .ref a, st.sm.dx, rfl, r9, W9.r, bd, Nm.fits_mono (by decide) _ bf, fun H10 s10 => ⟨true, rfl, ?_⟩⟩
        rw [if_neg (by decide)]
        exact W9.S.same s10
      · rintro σ H2 ⟨x2, x3, x4, x5, x6, S2, rfl⟩
        exact ⟨S2, x2, x3, x4, x5, x6, rfl⟩
    rintro σ' H2 ⟨x2, x3, x4, x5, x6, S2, rfl⟩
    refine ⟨fun σ' H3 => ∃ F, W7 F H3 ∧ σ' = [some (.ref a0), some (.ref h), x2, x3, x4, x5, x6, some (.ref F), none, none], ?_, ?_⟩
    · simp? only []
      refine ⟨_, rfl, by decide +kernel, S2.tab, ?_⟩
      rw [show Rd.read 7 (Str.ofString "pick a from t where a < 3 or b = 2 and not c > 1 + 2 * d") = _ from Rd.read_A]
      refine fun H3 v e3 t3 r3 => ?_
      refine ⟨_, rfl, by decide +kernel, t3, ?_⟩
      rw [show Rd.read 7 (Str.ofString "pick - 3 - -4 from t") = _ from Rd.read_B]
      refine fun H4 u e4 t4 r4 p hp => ?_
      have s5 := same_new (o := HO.lst [v, u]) hp
      exact ⟨p, ⟨⟨v, u, upd_same, (RX.extN e4 r3).same s5, r4.same s5⟩⟩, rfl⟩
    rintro σ' H3 ⟨F, ⟨⟨v0, v1, eF, rA, rB⟩⟩, rfl⟩
    -- what they tell, as it lies
    have rA : RX H3 v0 (.tup [.str "ask", .str "pick", .tup [(Nm.Tr.fld "" "a").dx], Nm.dxs ["t"], (Nm.trC Rd.cdA).dx, .tup [], .non]) := rA
    obtain ⟨qa, us, rfl, hqa, r⟩ := Nm.rx_tpO rA
    obtain ⟨w0, us, rfl, _, r⟩ := Nm.rxs_un r
    obtain ⟨w1, us, rfl, _, r⟩ := Nm.rxs_un r
    obtain ⟨w2, us, rfl, _, r⟩ := Nm.rxs_un r
    obtain ⟨w3, us, rfl, _, r⟩ := Nm.rxs_un r
    obtain ⟨w4, us, rfl, rc, r⟩ := Nm.rxs_un r
    obtain ⟨w5, us, rfl, _, r⟩ := Nm.rxs_un r
    obtain ⟨w6, us, rfl, _, r⟩ := Nm.rxs_un r
    obtain rfl := Nm.rxs_no r
    have rB : RX H3 v1 (.tup [.str "ask", .str "pick", .tup [(Nm.trT (.op .sub (.num (-3)) (.num (-4)))).dx], Nm.dxs ["t"], .non, .tup [], .non]) := rB
    obtain ⟨qb, us, rfl, hqb, r⟩ := Nm.rx_tpO rB
    obtain ⟨z0, us, rfl, _, r⟩ := Nm.rxs_un r
    obtain ⟨z1, us, rfl, _, r⟩ := Nm.rxs_un r
    obtain ⟨z2, us, rfl, rt, r⟩ := Nm.rxs_un r
    obtain ⟨z3, us, rfl, _, r⟩ := Nm.rxs_un r
    obtain ⟨z4, us, rfl, _, r⟩ := Nm.rxs_un r
    obtain ⟨z5, us, rfl, _, r⟩ := Nm.rxs_un r
    obtain ⟨z6, us, rfl, _, r⟩ := Nm.rxs_un r
    obtain rfl := Nm.rxs_no r
    obtain ⟨tb, us, rfl, htb, r⟩ := Nm.rx_tpO rt
    obtain ⟨tt, us, rfl, rt, r⟩ := Nm.rxs_un r
    obtain rfl := Nm.rxs_no r
    obtain ⟨bb, ba, bc, rfl, hbb, rba, rbc⟩ := Rd.node2_e (w := Wd.s .sub) (x := .num (-3)) (y := .num (-4)) rt
    obtain ⟨ba, rfl, hba⟩ := Rd.num_e rba
    obtain ⟨bc, rfl, hbc⟩ := Rd.num_e rbc
    obtain ⟨co, c1, c2, rfl, hco, rc1, rc2⟩ := Rd.node2_e (w := Wd.s .or) (x := Nm.trC (.cmp .lt (.fld "" "a") (.num 3))) (y := Nm.trC (.con .and (.cmp .eq (.fld "" "b") (.num 2)) (.neg (.cmp .gt (.fld "" "c") (.op .add (.num 1) (.op .mul (.num 2) (.fld "" "d"))))))) rc
    obtain ⟨ca, d1, d2, rfl, hca, rd1, rd2⟩ := Rd.node2_e (w := Wd.s .and) (x := Nm.trC (.cmp .eq (.fld "" "b") (.num 2))) (y := Nm.trC (.neg (.cmp .gt (.fld "" "c") (.op .add (.num 1) (.op .mul (.num 2) (.fld "" "d")))))) rc2
    obtain ⟨ce, e1, e2, rfl, hce, re1, re2⟩ := Rd.node2_e (w := Wd.s .eq) (x := .fld "" "b") (y := .num 2) rd1
    obtain ⟨ef, rfl, hef⟩ := Rd.fld_e re1
    obtain ⟨en, rfl, hen⟩ := Rd.num_e re2
    obtain ⟨cn, n1, rfl, hcn, _⟩ := Rd.node1_e (w := Wd.s .not) (x := Nm.trC (.cmp .gt (.fld "" "c") (.op .add (.num 1) (.op .mul (.num 2) (.fld "" "d"))))) rd2
    refine ⟨fun σ' H4 => ∃ D, DueW H3 D H4 ∧ σ' = [some (.ref a0), some (.ref h), x2, x3, x4, x5, x6, some (.ref F), some (.ref D), none], ?_, ?_⟩
    · simp? only []
      intro p1 hp1 p2 hp2 p3 hp3 p4 hp4
      have s1 := same_new (o := HO.tup [V.str "field", V.str "", V.str "b"]) hp1
      have s2 := same_new (o := HO.tup [V.str "num", V.int 2]) hp2
      have s3 := same_new (o := HO.tup [V.str "=", V.ref p1, V.ref p2]) hp3
      have s4 := same_new (o := HO.tup [V.str "and", V.ref p3, V.non]) hp4
      exact ⟨p4, ⟨((s1.trans s2).trans s3).trans s4, p1, p2, p3, (s4 _ _ (s3 _ _ (s2 _ _ upd_same))), s4 _ _ (s3 _ _ upd_same), s4 _ _ upd_same, upd_same⟩, rfl⟩
    rintro σ' H4 ⟨D, ⟨s4, f1, f2, f3, g1, g2, g3, g4⟩, rfl⟩
    refine ⟨fun σ' H5 => H4 = H5 ∧ σ' = [some (.ref a0), some (.ref h), x2, x3, x4, x5, x6, some (.ref F), some (.ref D), some (.ref co)], ?_, ?_⟩
    · have eF4 := s4 _ _ eF
      have q4 := tpO_same hqa s4
      simp? only [eF4, q4]
      exact ⟨_, rfl, rfl⟩
    rintro σ' H5 ⟨rfl, rfl⟩
    refine ⟨fun σ' H5 => Same H4 H5 ∧ σ' = [some (.ref a0), some (.ref h), x2, x3, x4, x5, x6, some (.ref F), some (.ref D), some (.ref co)], ?_, ?_⟩
    · have hco4 := tpO_same hco s4
      have hca4 := tpO_same hca s4
      have hcn4 := tpO_same hcn s4
      simp? only [hco4, hca4, hcn4, g4]
      rw [if_neg (by decide +kernel)]
      have n3 : ¬ (HT.sIx 3 0 none = 0 ∧ HT.sIx 3 3 (some 2) = 3) := by decide
      refine ⟨fun z => absurd z n3, fun _ p o hp ho1 ho2 => ?_⟩
      have sp := same_new (o := HO.frz o (HO.tup (cutV [V.str (Wd.s .and), V.ref ce, V.ref cn] none (some 2)))) hp
      have eD6 := sp _ _ g4
      refine ⟨[V.str (Str.ofString "and"), V.ref f3, V.non], by rw [eD6]; rfl, fun z => absurd z n3, fun _ p2 o2 hp2 ho3 ho4 => ?_⟩
      have sp2 := same_new (o := HO.frz o2 (HO.tup (cutV [V.str (Str.ofString "and"), V.ref f3, V.non] none (some 2)))) hp2
      have c1 : cutV [V.str (Wd.s .and), V.ref ce, V.ref cn] none (some 2) = [V.str (Wd.s .and), V.ref ce] := rfl
      have c2 : cutV [V.str (Str.ofString "and"), V.ref f3, V.non] none (some 2) = [V.str (Str.ofString "and"), V.ref f3] := rfl
      rw [c1] at sp sp2 hp2 ⊢
      rw [c2] at sp2 ⊢
      have sx := sp.trans sp2
      have sy := s4.trans sx
      have x1 : tpO (upd (upd H4 p (HO.frz o (HO.tup [V.str (Wd.s .and), V.ref ce]))) p2 (HO.frz o2 (HO.tup [V.str (Str.ofString "and"), V.ref f3])) p) = some [V.str (Wd.s .and), V.ref ce] := by rw [sp2 _ _ upd_same]; rfl
      have x2 : tpO (upd (upd H4 p (HO.frz o (HO.tup [V.str (Wd.s .and), V.ref ce]))) p2 (HO.frz o2 (HO.tup [V.str (Str.ofString "and"), V.ref f3])) p2) = some [V.str (Str.ofString "and"), V.ref f3] := by rw [upd_same]; rfl
      generalize upd (upd H4 p (HO.frz o (HO.tup [V.str (Wd.s .and), V.ref ce]))) p2 (HO.frz o2 (HO.tup [V.str (Str.ofString "and"), V.ref f3])) = H6 at *
      have two : ∀ {q : Addr} {xs : List V} {ds : List PyData}, tpO (H6 q) = some xs → DpAll K H6 xs ds → Dp K H6 (.ref q) (.tuple ds) := fun e a => .tup (.inl (rd_tpO e)) a
      have t1 := sx _ _ g1
      have t2 := sx _ _ g2
      have t3 := sx _ _ g3
      refine ⟨dueD, dueD, two x1 (.cons (.str _) (.cons (two (tpO_same hce sy) (.cons (.str _) (.cons (two (tpO_same hef sy) (.cons (.str _) (.cons (.str _) (.cons (.str _) .nil)))) (.cons (two (tpO_same hen sy) (.cons (.str _) (.cons (.int _) .nil))) .nil)))) .nil)),
        two x2 (.cons (.str _) (.cons (two (by rw [t3]; rfl) (.cons (.str _) (.cons (two (by rw [t1]; rfl) (.cons (.str _) (.cons (.str _) (.cons (.str _) .nil)))) (.cons (two (by rw [t2]; rfl) (.cons (.str _) (.cons (.int _) .nil))) .nil)))) .nil)), by decide +kernel, by decide +kernel, _, rfl, ?_⟩
      rw [if_neg (by decide +kernel)]
      refine ⟨_, tpO_same hco sy, _, rfl, ca, rfl, _, tpO_same hca sy, _, rfl, cn, rfl, _, tpO_same hcn sy, _, rfl, rfl, ?_⟩
      rw [if_neg (by decide +kernel)]
      exact sx
    rintro σ' H5 ⟨s5, rfl⟩
    have eF5 := s5 _ _ (s4 _ _ eF)
    have q5 := tpO_same (tpO_same hqb s4) s5
    simp? only [eF5, q5]
    intro p1 hp1 p2 hp2 p3 hp3 p4 hp4
    have s6 := same_new (o := HO.tup [V.str "num", V.int (-3)]) hp1
    have s7 := same_new (o := HO.tup [V.str "num", V.int (-4)]) hp2
    have s8 := same_new (o := HO.tup [V.str "-", V.ref p1, V.ref p2]) hp3
    have s9 := same_new (o := HO.tup [V.ref p3]) hp4
    have sy := (((s4.trans s5).trans s6).trans s7).trans (s8.trans s9)
    have t1 := s9 _ _ (s8 _ _ (s7 _ _ (upd_same (H := H5) (a := p1) (o := HO.tup [V.str "num", V.int (-3)]))))
    have t2 := s9 _ _ (s8 _ _ (upd_same (H := upd H5 p1 (HO.tup [V.str "num", V.int (-3)])) (a := p2) (o := HO.tup [V.str "num", V.int (-4)])))
    have t3 := s9 _ _ (upd_same (H := upd (upd H5 p1 (HO.tup [V.str "num", V.int (-3)])) p2 (HO.tup [V.str "num", V.int (-4)])) (a := p3) (o := HO.tup [V.str "-", V.ref p1, V.ref p2]))
    have t4 := upd_same (H := upd (upd (upd H5 p1 (HO.tup [V.str "num", V.int (-3)])) p2 (HO.tup [V.str "num", V.int (-4)])) p3 (HO.tup [V.str "-", V.ref p1, V.ref p2])) (a := p4) (o := HO.tup [V.ref p3])
    generalize upd (upd (upd (upd H5 p1 (HO.tup [V.str "num", V.int (-3)])) p2 (HO.tup [V.str "num", V.int (-4)])) p3 (HO.tup [V.str "-", V.ref p1, V.ref p2])) p4 (HO.tup [V.ref p3]) = H6 at *
    have two : ∀ {q : Addr} {xs : List V} {ds : List PyData}, tpO (H6 q) = some xs → DpAll K H6 xs ds → Dp K H6 (.ref q) (.tuple ds) := fun e a => .tup (.inl (rd_tpO e)) a
    refine ⟨minD, minD, two (tpO_same htb sy) (.cons (two (tpO_same hbb sy) (.cons (.str _) (.cons (two (tpO_same hba sy) (.cons (.str _) (.cons (.int _) .nil))) (.cons (two (tpO_same hbc sy) (.cons (.str _) (.cons (.int _) .nil))) .nil)))) .nil),
      two (by rw [t4]; rfl) (.cons (two (by rw [t3]; rfl) (.cons (.str _) (.cons (two (by rw [t1]; rfl) (.cons (.str _) (.cons (.int _) .nil))) (.cons (two (by rw [t2]; rfl) (.cons (.str _) (.cons (.int _) .nil))) .nil)))) .nil), by decide +kernel, by decide +kernel, ?_⟩
    rw [show PyData.eqv minD minD = true by decide +kernel]
    exact k H6
end

theorem ok_all {P : Program} {w : World} {K : PySem.W.Frag} {mg : Str → Option Value} {base : Heap} (T : Txt K mg w) (TBs : Tabs T base) : FnOk P w K mg base CX0 110 T.f_law T.fd_law ["_law_script"] (spLaw K T.TL) := ok_law T TBs
theorem all_mk {l : PySem.W.OpenLaw} {w : World} {K : PySem.W.Frag} {h : Heap} {mg : Str → Option Value} {D32 fa f0 f1 f2 f3 f4 f5 f6 f7 f8 f9 f10 f11 f12 f13 f14 f15 f16 f17 f18 f19 f20 f21 f22 f23 f24 f25 f26 f27 f28 f29 f30 f31 f32 f33 f34 f35 f36 f37 f38 f39 f40 f41 f42 f43 f44 f45 f46 f47 f48 f49 f50 f51 CStatements CBadText : Addr} (X : K.In h) (G : h.Ns mainGlobals mg) (hfa : mg "law" = some (.ref fa))
    {od0 an0 od1 an1 od2 an2 od3 an3 od4 an4 od5 an5 od6 an6 od7 an7 od8 an8 od9 an9 od10 an10 od11 an11 od12 an12 od13 an13 od14 an14 od15 an15 od16 an16 od17 an17 od18 an18 od19 an19 od20 an20 od21 an21 od22 an22 od23 an23 od24 an24 od25 an25 od26 an26 od27 an27 od28 an28 od29 an29 od30 an30 od31 an31 od32 an32 od33 an33 od34 an34 od35 an35 od36 an36 od37 an37 od38 an38 od39 an39 od40 an40 od41 an41 od42 an42 od43 an43 od44 an44 od45 an45 od46 an46 od47 an47 od48 an48 od49 an49 od50 an50 od51 an51 : Option Addr} {sl0 sl1 sl2 sl3 sl4 sl5 sl6 sl7 sl8 sl9 sl10 sl11 sl12 sl13 sl14 sl15 sl16 sl17 sl18 sl19 sl20 sl21 sl22 sl23 sl24 sl25 sl26 sl27 sl28 sl29 sl30 sl31 sl32 sl33 sl34 sl35 sl36 sl37 sl38 sl39 sl40 sl41 sl42 sl43 sl44 sl45 sl46 sl47 sl48 sl49 sl50 sl51 : Array (Option Value)} {oc0 kV0 dc0 pm0 cd0 ct0 oc1 kV1 dc1 pm1 cd1 ct1 oc2 kV2 dc2 pm2 cd2 ct2 oc3 kV3 dc3 pm3 cd3 ct3 oc4 kV4 dc4 pm4 cd4 ct4 oc5 kV5 dc5 pm5 cd5 ct5 oc6 kV6 dc6 pm6 cd6 ct6 oc7 kV7 dc7 pm7 cd7 ct7 oc8 kV8 dc8 pm8 cd8 ct8 oc9 kV9 dc9 pm9 cd9 ct9 oc10 kV10 dc10 pm10 cd10 ct10 oc11 kV11 dc11 pm11 cd11 ct11 oc12 kV12 dc12 pm12 cd12 ct12 oc13 kV13 dc13 pm13 cd13 ct13 oc14 kV14 dc14 pm14 cd14 ct14 oc15 kV15 dc15 pm15 ct15 oc16 kV16 dc16 pm16 cd16 ct16 oc17 kV17 dc17 pm17 cd17 ct17 oc18 kV18 dc18 pm18 cd18 ct18 oc19 kV19 dc19 pm19 ct19 oc20 kV20 dc20 pm20 cd20 ct20 oc21 kV21 dc21 pm21 cd21 ct21 oc22 kV22 dc22 pm22 cd22 ct22 oc23 kV23 dc23 pm23 ct23 oc24 kV24 dc24 pm24 ct24 oc25 kV25 dc25 pm25 cd25 ct25 oc26 kV26 dc26 pm26 cd26 ct26 oc27 kV27 dc27 pm27 cd27 ct27 oc28 kV28 dc28 pm28 cd28 ct28 oc29 kV29 dc29 pm29 cd29 ct29 oc30 kV30 dc30 pm30 cd30 ct30 oc31 kV31 dc31 pm31 cd31 ct31 oc32 kV32 dc32 pm32 cd32 ct32 oc33 kV33 dc33 pm33 cd33 ct33 oc34 kV34 dc34 pm34 cd34 ct34 oc35 kV35 dc35 pm35 cd35 ct35 oc36 kV36 dc36 pm36 cd36 ct36 oc37 kV37 dc37 pm37 cd37 ct37 oc38 kV38 dc38 pm38 cd38 ct38 oc39 kV39 dc39 pm39 cd39 ct39 oc40 kV40 dc40 pm40 cd40 ct40 oc41 kV41 dc41 pm41 cd41 ct41 oc42 kV42 dc42 pm42 cd42 ct42 oc43 kV43 dc43 pm43 cd43 ct43 oc44 kV44 dc44 pm44 cd44 ct44 oc45 kV45 dc45 pm45 cd45 ct45 oc46 kV46 dc46 pm46 cd46 ct46 oc47 kV47 dc47 pm47 cd47 ct47 oc48 kV48 dc48 pm48 cd48 ct48 oc49 kV49 dc49 pm49 cd49 ct49 oc50 kV50 dc50 pm50 cd50 ct50 oc51 kV51 dc51 pm51 cd51 ct51 : Value}
    (a0 : PySem.W.findIn K (.ref CBadText) "__init__" = some (some (.ref f0))) (i0 : PySem.W.isFn K (.ref f0) = true) (ty0 : PySem.W.typeIn K (.ref f0) = some (.type "function"))
    (l0 : K.lookup f0 = some ⟨oc0, od0, .func (PySem.W.fnOf "__init__" "BadText.__init__" (defArgs s_BadText_init) (defBody s_BadText_init) (defScope s_BadText_init) .none kV0 dc0 pm0 an0 cd0 ct0), sl0⟩) (c0 : PySem.W.codeIn K cd0 "BadText.__init__" = true) (k0 : PySem.W.keepIn K (.ref f0) = true)
    (a1 : PySem.W.nsIn K mainGlobals "is_name" = some (some (.ref f1)))
    (l1 : K.lookup f1 = some ⟨oc1, od1, .func (PySem.W.fnOf "is_name" "is_name" (defArgs s_is_name) (defBody s_is_name) (defScope s_is_name) .none kV1 dc1 pm1 an1 cd1 ct1), sl1⟩) (c1 : PySem.W.codeIn K cd1 "is_name" = true) (k1 : PySem.W.keepIn K (.ref f1) = true)
    (a2 : PySem.W.nsIn K mainGlobals "is_number" = some (some (.ref f2)))
    (l2 : K.lookup f2 = some ⟨oc2, od2, .func (PySem.W.fnOf "is_number" "is_number" (defArgs s_is_number) (defBody s_is_number) (defScope s_is_number) .none kV2 dc2 pm2 an2 cd2 ct2), sl2⟩) (c2 : PySem.W.codeIn K cd2 "is_number" = true) (k2 : PySem.W.keepIn K (.ref f2) = true)
    (a3 : PySem.W.nsIn K mainGlobals "run_of" = some (some (.ref f3)))
    (l3 : K.lookup f3 = some ⟨oc3, od3, .func (PySem.W.fnOf "run_of" "run_of" (defArgs s_run_of) (defBody s_run_of) (defScope s_run_of) .none kV3 dc3 pm3 an3 cd3 ct3), sl3⟩) (c3 : PySem.W.codeIn K cd3 "run_of" = true) (k3 : PySem.W.keepIn K (.ref f3) = true)
    (a4 : PySem.W.nsIn K mainGlobals "next_end" = some (some (.ref f4)))
    (l4 : K.lookup f4 = some ⟨oc4, od4, .func (PySem.W.fnOf "next_end" "next_end" (defArgs s_next_end) (defBody s_next_end) (defScope s_next_end) .none kV4 dc4 pm4 an4 cd4 ct4), sl4⟩) (c4 : PySem.W.codeIn K cd4 "next_end" = true) (k4 : PySem.W.keepIn K (.ref f4) = true)
    (a5 : PySem.W.nsIn K mainGlobals "words_of" = some (some (.ref f5)))
    (l5 : K.lookup f5 = some ⟨oc5, od5, .func (PySem.W.fnOf "words_of" "words_of" (defArgs s_words_of) (defBody s_words_of) (defScope s_words_of) .none kV5 dc5 pm5 an5 cd5 ct5), sl5⟩) (c5 : PySem.W.codeIn K cd5 "words_of" = true) (k5 : PySem.W.keepIn K (.ref f5) = true)
    (a6 : PySem.W.findIn K (.ref CStatements) "__init__" = some (some (.ref f6))) (i6 : PySem.W.isFn K (.ref f6) = true)
    (l6 : K.lookup f6 = some ⟨oc6, od6, .func (PySem.W.fnOf "__init__" "Reader.__init__" (defArgs s_Reader_init) (defBody s_Reader_init) (defScope s_Reader_init) .none kV6 dc6 pm6 an6 cd6 ct6), sl6⟩) (c6 : PySem.W.codeIn K cd6 "Reader.__init__" = true) (k6 : PySem.W.keepIn K (.ref f6) = true)
    (a7 : PySem.W.findIn K (.ref CStatements) "here" = some (some (.ref f7))) (i7 : PySem.W.isFn K (.ref f7) = true)
    (l7 : K.lookup f7 = some ⟨oc7, od7, .func (PySem.W.fnOf "here" "Reader.here" (defArgs s_Reader_here) (defBody s_Reader_here) (defScope s_Reader_here) .none kV7 dc7 pm7 an7 cd7 ct7), sl7⟩) (c7 : PySem.W.codeIn K cd7 "Reader.here" = true) (k7 : PySem.W.keepIn K (.ref f7) = true)
    (a8 : PySem.W.findIn K (.ref CStatements) "refuse" = some (some (.ref f8))) (i8 : PySem.W.isFn K (.ref f8) = true)
    (l8 : K.lookup f8 = some ⟨oc8, od8, .func (PySem.W.fnOf "refuse" "Reader.refuse" (defArgs s_Reader_refuse) (defBody s_Reader_refuse) (defScope s_Reader_refuse) .none kV8 dc8 pm8 an8 cd8 ct8), sl8⟩) (c8 : PySem.W.codeIn K cd8 "Reader.refuse" = true) (k8 : PySem.W.keepIn K (.ref f8) = true)
    (a9 : PySem.W.findIn K (.ref CStatements) "taken" = some (some (.ref f9))) (i9 : PySem.W.isFn K (.ref f9) = true)
    (l9 : K.lookup f9 = some ⟨oc9, od9, .func (PySem.W.fnOf "taken" "Reader.taken" (defArgs s_Reader_taken) (defBody s_Reader_taken) (defScope s_Reader_taken) .none kV9 dc9 pm9 an9 cd9 ct9), sl9⟩) (c9 : PySem.W.codeIn K cd9 "Reader.taken" = true) (k9 : PySem.W.keepIn K (.ref f9) = true)
    (a10 : PySem.W.findIn K (.ref CStatements) "does_take" = some (some (.ref f10))) (i10 : PySem.W.isFn K (.ref f10) = true)
    (l10 : K.lookup f10 = some ⟨oc10, od10, .func (PySem.W.fnOf "does_take" "Reader.does_take" (defArgs s_Reader_does_take) (defBody s_Reader_does_take) (defScope s_Reader_does_take) .none kV10 dc10 pm10 an10 cd10 ct10), sl10⟩) (c10 : PySem.W.codeIn K cd10 "Reader.does_take" = true) (k10 : PySem.W.keepIn K (.ref f10) = true)
    (a11 : PySem.W.findIn K (.ref CStatements) "need" = some (some (.ref f11))) (i11 : PySem.W.isFn K (.ref f11) = true)
    (l11 : K.lookup f11 = some ⟨oc11, od11, .func (PySem.W.fnOf "need" "Reader.need" (defArgs s_Reader_need) (defBody s_Reader_need) (defScope s_Reader_need) .none kV11 dc11 pm11 an11 cd11 ct11), sl11⟩) (c11 : PySem.W.codeIn K cd11 "Reader.need" = true) (k11 : PySem.W.keepIn K (.ref f11) = true)
    (a12 : PySem.W.findIn K (.ref CStatements) "next_name" = some (some (.ref f12))) (i12 : PySem.W.isFn K (.ref f12) = true)
    (l12 : K.lookup f12 = some ⟨oc12, od12, .func (PySem.W.fnOf "next_name" "Reader.next_name" (defArgs s_Reader_next_name) (defBody s_Reader_next_name) (defScope s_Reader_next_name) .none kV12 dc12 pm12 an12 cd12 ct12), sl12⟩) (c12 : PySem.W.codeIn K cd12 "Reader.next_name" = true) (k12 : PySem.W.keepIn K (.ref f12) = true)
    (a13 : PySem.W.findIn K (.ref CStatements) "next_number" = some (some (.ref f13))) (i13 : PySem.W.isFn K (.ref f13) = true)
    (l13 : K.lookup f13 = some ⟨oc13, od13, .func (PySem.W.fnOf "next_number" "Reader.next_number" (defArgs s_Reader_next_number) (defBody s_Reader_next_number) (defScope s_Reader_next_number) .none kV13 dc13 pm13 an13 cd13 ct13), sl13⟩) (c13 : PySem.W.codeIn K cd13 "Reader.next_number" = true) (k13 : PySem.W.keepIn K (.ref f13) = true)
    (a14 : PySem.W.findIn K (.ref CStatements) "whole" = some (some (.ref f14))) (i14 : PySem.W.isFn K (.ref f14) = true)
    (l14 : K.lookup f14 = some ⟨oc14, od14, .func (PySem.W.fnOf "whole" "Statements.whole" (defArgs s_Statements_whole) (defBody s_Statements_whole) (defScope s_Statements_whole) .none kV14 dc14 pm14 an14 cd14 ct14), sl14⟩) (c14 : PySem.W.codeIn K cd14 "Statements.whole" = true) (k14 : PySem.W.keepIn K (.ref f14) = true)
    (a15 : PySem.W.findIn K (.ref CStatements) "statement" = some (some (.ref f15))) (i15 : PySem.W.isFn K (.ref f15) = true)
    (l15 : K.lookup f15 = some ⟨oc15, od15, .func (PySem.W.fnOf "statement" "Statements.statement" (defArgs s_Statements_statement) (defBody s_Statements_statement) (defScope s_Statements_statement) .none kV15 dc15 pm15 an15 (.ref cM0) ct15), sl15⟩) (c15 : PySem.W.codeIn K (.ref cM0) "Statements.statement" = true) (k15 : PySem.W.keepIn K (.ref f15) = true)
    (a16 : PySem.W.findIn K (.ref CStatements) "some" = some (some (.ref f16))) (i16 : PySem.W.isFn K (.ref f16) = true)
    (l16 : K.lookup f16 = some ⟨oc16, od16, .func (PySem.W.fnOf "some" "Statements.some" (defArgs s_Statements_some) (defBody s_Statements_some) (defScope s_Statements_some) .none kV16 dc16 pm16 an16 cd16 ct16), sl16⟩) (c16 : PySem.W.codeIn K cd16 "Statements.some" = true) (k16 : PySem.W.keepIn K (.ref f16) = true)
    (a17 : PySem.W.findIn K (.ref CStatements) "one_set" = some (some (.ref f17))) (i17 : PySem.W.isFn K (.ref f17) = true)
    (l17 : K.lookup f17 = some ⟨oc17, od17, .func (PySem.W.fnOf "one_set" "Statements.one_set" (defArgs s_Statements_one_set) (defBody s_Statements_one_set) (defScope s_Statements_one_set) .none kV17 dc17 pm17 an17 cd17 ct17), sl17⟩) (c17 : PySem.W.codeIn K cd17 "Statements.one_set" = true) (k17 : PySem.W.keepIn K (.ref f17) = true)
    (a18 : PySem.W.findIn K (.ref CStatements) "where" = some (some (.ref f18))) (i18 : PySem.W.isFn K (.ref f18) = true)
    (l18 : K.lookup f18 = some ⟨oc18, od18, .func (PySem.W.fnOf "where" "Statements.where" (defArgs s_Statements_where) (defBody s_Statements_where) (defScope s_Statements_where) .none kV18 dc18 pm18 an18 cd18 ct18), sl18⟩) (c18 : PySem.W.codeIn K cd18 "Statements.where" = true) (k18 : PySem.W.keepIn K (.ref f18) = true)
    (a19 : PySem.W.findIn K (.ref CStatements) "question" = some (some (.ref f19))) (i19 : PySem.W.isFn K (.ref f19) = true)
    (l19 : K.lookup f19 = some ⟨oc19, od19, .func (PySem.W.fnOf "question" "Statements.question" (defArgs s_Statements_question) (defBody s_Statements_question) (defScope s_Statements_question) .none kV19 dc19 pm19 an19 (.ref cM1) ct19), sl19⟩) (c19 : PySem.W.codeIn K (.ref cM1) "Statements.question" = true) (k19 : PySem.W.keepIn K (.ref f19) = true)
    (a20 : PySem.W.findIn K (.ref CStatements) "a_term" = some (some (.ref f20))) (i20 : PySem.W.isFn K (.ref f20) = true)
    (l20 : K.lookup f20 = some ⟨oc20, od20, .func (PySem.W.fnOf "a_term" "Statements.a_term" (defArgs s_Statements_a_term) (defBody s_Statements_a_term) (defScope s_Statements_a_term) .none kV20 dc20 pm20 an20 cd20 ct20), sl20⟩) (c20 : PySem.W.codeIn K cd20 "Statements.a_term" = true) (k20 : PySem.W.keepIn K (.ref f20) = true)
    (a21 : PySem.W.findIn K (.ref CStatements) "a_cond" = some (some (.ref f21))) (i21 : PySem.W.isFn K (.ref f21) = true)
    (l21 : K.lookup f21 = some ⟨oc21, od21, .func (PySem.W.fnOf "a_cond" "Statements.a_cond" (defArgs s_Statements_a_cond) (defBody s_Statements_a_cond) (defScope s_Statements_a_cond) .none kV21 dc21 pm21 an21 cd21 ct21), sl21⟩) (c21 : PySem.W.codeIn K cd21 "Statements.a_cond" = true) (k21 : PySem.W.keepIn K (.ref f21) = true)
    (a22 : PySem.W.findIn K (.ref CStatements) "joined" = some (some (.ref f22))) (i22 : PySem.W.isFn K (.ref f22) = true)
    (l22 : K.lookup f22 = some ⟨oc22, od22, .func (PySem.W.fnOf "joined" "Statements.joined" (defArgs s_Statements_joined) (defBody s_Statements_joined) (defScope s_Statements_joined) .none kV22 dc22 pm22 an22 cd22 ct22), sl22⟩) (c22 : PySem.W.codeIn K cd22 "Statements.joined" = true) (k22 : PySem.W.keepIn K (.ref f22) = true)
    (a23 : PySem.W.findIn K (.ref CStatements) "or_of" = some (some (.ref f23))) (i23 : PySem.W.isFn K (.ref f23) = true)
    (l23 : K.lookup f23 = some ⟨oc23, od23, .func (PySem.W.fnOf "or_of" "Statements.or_of" (defArgs s_Statements_or_of) (defBody s_Statements_or_of) (defScope s_Statements_or_of) .none kV23 dc23 pm23 an23 (.ref cM2) ct23), sl23⟩) (c23 : PySem.W.codeIn K (.ref cM2) "Statements.or_of" = true) (k23 : PySem.W.keepIn K (.ref f23) = true)
    (a24 : PySem.W.findIn K (.ref CStatements) "and_of" = some (some (.ref f24))) (i24 : PySem.W.isFn K (.ref f24) = true)
    (l24 : K.lookup f24 = some ⟨oc24, od24, .func (PySem.W.fnOf "and_of" "Statements.and_of" (defArgs s_Statements_and_of) (defBody s_Statements_and_of) (defScope s_Statements_and_of) .none kV24 dc24 pm24 an24 (.ref cM3) ct24), sl24⟩) (c24 : PySem.W.codeIn K (.ref cM3) "Statements.and_of" = true) (k24 : PySem.W.keepIn K (.ref f24) = true)
    (a25 : PySem.W.findIn K (.ref CStatements) "not_of" = some (some (.ref f25))) (i25 : PySem.W.isFn K (.ref f25) = true)
    (l25 : K.lookup f25 = some ⟨oc25, od25, .func (PySem.W.fnOf "not_of" "Statements.not_of" (defArgs s_Statements_not_of) (defBody s_Statements_not_of) (defScope s_Statements_not_of) .none kV25 dc25 pm25 an25 cd25 ct25), sl25⟩) (c25 : PySem.W.codeIn K cd25 "Statements.not_of" = true) (k25 : PySem.W.keepIn K (.ref f25) = true)
    (a26 : PySem.W.findIn K (.ref CStatements) "compare_of" = some (some (.ref f26))) (i26 : PySem.W.isFn K (.ref f26) = true)
    (l26 : K.lookup f26 = some ⟨oc26, od26, .func (PySem.W.fnOf "compare_of" "Statements.compare_of" (defArgs s_Statements_compare_of) (defBody s_Statements_compare_of) (defScope s_Statements_compare_of) .none kV26 dc26 pm26 an26 cd26 ct26), sl26⟩) (c26 : PySem.W.codeIn K cd26 "Statements.compare_of" = true) (k26 : PySem.W.keepIn K (.ref f26) = true)
    (a27 : PySem.W.findIn K (.ref CStatements) "sum_of" = some (some (.ref f27))) (i27 : PySem.W.isFn K (.ref f27) = true)
    (l27 : K.lookup f27 = some ⟨oc27, od27, .func (PySem.W.fnOf "sum_of" "Statements.sum_of" (defArgs s_Statements_sum_of) (defBody s_Statements_sum_of) (defScope s_Statements_sum_of) .none kV27 dc27 pm27 an27 cd27 ct27), sl27⟩) (c27 : PySem.W.codeIn K cd27 "Statements.sum_of" = true) (k27 : PySem.W.keepIn K (.ref f27) = true)
    (a28 : PySem.W.findIn K (.ref CStatements) "product_of" = some (some (.ref f28))) (i28 : PySem.W.isFn K (.ref f28) = true)
    (l28 : K.lookup f28 = some ⟨oc28, od28, .func (PySem.W.fnOf "product_of" "Statements.product_of" (defArgs s_Statements_product_of) (defBody s_Statements_product_of) (defScope s_Statements_product_of) .none kV28 dc28 pm28 an28 cd28 ct28), sl28⟩) (c28 : PySem.W.codeIn K cd28 "Statements.product_of" = true) (k28 : PySem.W.keepIn K (.ref f28) = true)
    (a29 : PySem.W.findIn K (.ref CStatements) "go_in" = some (some (.ref f29))) (i29 : PySem.W.isFn K (.ref f29) = true)
    (l29 : K.lookup f29 = some ⟨oc29, od29, .func (PySem.W.fnOf "go_in" "Statements.go_in" (defArgs s_Statements_go_in) (defBody s_Statements_go_in) (defScope s_Statements_go_in) .none kV29 dc29 pm29 an29 cd29 ct29), sl29⟩) (c29 : PySem.W.codeIn K cd29 "Statements.go_in" = true) (k29 : PySem.W.keepIn K (.ref f29) = true)
    (a30 : PySem.W.findIn K (.ref CStatements) "factor_of" = some (some (.ref f30))) (i30 : PySem.W.isFn K (.ref f30) = true)
    (l30 : K.lookup f30 = some ⟨oc30, od30, .func (PySem.W.fnOf "factor_of" "Statements.factor_of" (defArgs s_Statements_factor_of) (defBody s_Statements_factor_of) (defScope s_Statements_factor_of) .none kV30 dc30 pm30 an30 cd30 ct30), sl30⟩) (c30 : PySem.W.codeIn K cd30 "Statements.factor_of" = true) (k30 : PySem.W.keepIn K (.ref f30) = true)
    (a31 : PySem.W.nsIn K mainGlobals "read" = some (some (.ref f31)))
    (l31 : K.lookup f31 = some ⟨oc31, od31, .func (PySem.W.fnOf "read" "read" (defArgs s_read) (defBody s_read) (defScope s_read) .none kV31 dc31 pm31 an31 cd31 ct31), sl31⟩) (c31 : PySem.W.codeIn K cd31 "read" = true) (k31 : PySem.W.keepIn K (.ref f31) = true)
    (a32 : PySem.W.nsIn K mainGlobals "tree_text" = some (some (.ref f32)))
    (l32 : K.lookup f32 = some ⟨oc32, od32, .func (PySem.W.fnOf "tree_text" "tree_text" (defArgs s_tree_text) (defBody s_tree_text) (defScope s_tree_text) (.ref D32) kV32 dc32 pm32 an32 cd32 ct32), sl32⟩) (c32 : PySem.W.codeIn K cd32 "tree_text" = true) (k32 : PySem.W.keepIn K (.ref f32) = true)
    {oq32 : Value} {oe32 : Option Addr} {nq32 : Nat} {sq32 : Array (Option Value)} {tq32 : Tok} (lq32 : K.lookup D32 = some ⟨oq32, oe32, .seq #[.int 0 tq32] nq32, sq32⟩)
    (a33 : PySem.W.nsIn K mainGlobals "where_text" = some (some (.ref f33)))
    (l33 : K.lookup f33 = some ⟨oc33, od33, .func (PySem.W.fnOf "where_text" "where_text" (defArgs s_where_text) (defBody s_where_text) (defScope s_where_text) .none kV33 dc33 pm33 an33 cd33 ct33), sl33⟩) (c33 : PySem.W.codeIn K cd33 "where_text" = true) (k33 : PySem.W.keepIn K (.ref f33) = true)
    (a34 : PySem.W.nsIn K mainGlobals "ask_text" = some (some (.ref f34)))
    (l34 : K.lookup f34 = some ⟨oc34, od34, .func (PySem.W.fnOf "ask_text" "ask_text" (defArgs s_ask_text) (defBody s_ask_text) (defScope s_ask_text) .none kV34 dc34 pm34 an34 cd34 ct34), sl34⟩) (c34 : PySem.W.codeIn K cd34 "ask_text" = true) (k34 : PySem.W.keepIn K (.ref f34) = true)
    (a35 : PySem.W.nsIn K mainGlobals "written" = some (some (.ref f35)))
    (l35 : K.lookup f35 = some ⟨oc35, od35, .func (PySem.W.fnOf "written" "written" (defArgs s_written) (defBody s_written) (defScope s_written) .none kV35 dc35 pm35 an35 cd35 ct35), sl35⟩) (c35 : PySem.W.codeIn K cd35 "written" = true) (k35 : PySem.W.keepIn K (.ref f35) = true)
    (a36 : PySem.W.nsIn K mainGlobals "_law_mix" = some (some (.ref f36)))
    (l36 : K.lookup f36 = some ⟨oc36, od36, .func (PySem.W.fnOf "_law_mix" "_law_mix" (defArgs s_l_mix) (defBody s_l_mix) (defScope s_l_mix) .none kV36 dc36 pm36 an36 cd36 ct36), sl36⟩) (c36 : PySem.W.codeIn K cd36 "_law_mix" = true) (k36 : PySem.W.keepIn K (.ref f36) = true)
    (a37 : PySem.W.nsIn K mainGlobals "_law_next" = some (some (.ref f37)))
    (l37 : K.lookup f37 = some ⟨oc37, od37, .func (PySem.W.fnOf "_law_next" "_law_next" (defArgs s_l_next) (defBody s_l_next) (defScope s_l_next) .none kV37 dc37 pm37 an37 cd37 ct37), sl37⟩) (c37 : PySem.W.codeIn K cd37 "_law_next" = true) (k37 : PySem.W.keepIn K (.ref f37) = true)
    (a38 : PySem.W.nsIn K mainGlobals "_law_alike" = some (some (.ref f38)))
    (l38 : K.lookup f38 = some ⟨oc38, od38, .func (PySem.W.fnOf "_law_alike" "_law_alike" (defArgs s_l_alike) (defBody s_l_alike) (defScope s_l_alike) .none kV38 dc38 pm38 an38 cd38 ct38), sl38⟩) (c38 : PySem.W.codeIn K cd38 "_law_alike" = true) (k38 : PySem.W.keepIn K (.ref f38) = true)
    (a39 : PySem.W.nsIn K mainGlobals "_law_shapes" = some (some (.ref f39)))
    (l39 : K.lookup f39 = some ⟨oc39, od39, .func (PySem.W.fnOf "_law_shapes" "_law_shapes" (defArgs s_l_shapes) (defBody s_l_shapes) (defScope s_l_shapes) .none kV39 dc39 pm39 an39 cd39 ct39), sl39⟩) (c39 : PySem.W.codeIn K cd39 "_law_shapes" = true) (k39 : PySem.W.keepIn K (.ref f39) = true)
    (a40 : PySem.W.nsIn K mainGlobals "_law_number" = some (some (.ref f40)))
    (l40 : K.lookup f40 = some ⟨oc40, od40, .func (PySem.W.fnOf "_law_number" "_law_number" (defArgs s_l_number) (defBody s_l_number) (defScope s_l_number) .none kV40 dc40 pm40 an40 cd40 ct40), sl40⟩) (c40 : PySem.W.codeIn K cd40 "_law_number" = true) (k40 : PySem.W.keepIn K (.ref f40) = true)
    (a41 : PySem.W.nsIn K mainGlobals "_law_term" = some (some (.ref f41)))
    (l41 : K.lookup f41 = some ⟨oc41, od41, .func (PySem.W.fnOf "_law_term" "_law_term" (defArgs s_l_term) (defBody s_l_term) (defScope s_l_term) .none kV41 dc41 pm41 an41 cd41 ct41), sl41⟩) (c41 : PySem.W.codeIn K cd41 "_law_term" = true) (k41 : PySem.W.keepIn K (.ref f41) = true)
    (a42 : PySem.W.nsIn K mainGlobals "_law_cond" = some (some (.ref f42)))
    (l42 : K.lookup f42 = some ⟨oc42, od42, .func (PySem.W.fnOf "_law_cond" "_law_cond" (defArgs s_l_cond) (defBody s_l_cond) (defScope s_l_cond) .none kV42 dc42 pm42 an42 cd42 ct42), sl42⟩) (c42 : PySem.W.codeIn K cd42 "_law_cond" = true) (k42 : PySem.W.keepIn K (.ref f42) = true)
    (a43 : PySem.W.nsIn K mainGlobals "_law_some" = some (some (.ref f43)))
    (l43 : K.lookup f43 = some ⟨oc43, od43, .func (PySem.W.fnOf "_law_some" "_law_some" (defArgs s_l_some) (defBody s_l_some) (defScope s_l_some) .none kV43 dc43 pm43 an43 cd43 ct43), sl43⟩) (c43 : PySem.W.codeIn K cd43 "_law_some" = true) (k43 : PySem.W.keepIn K (.ref f43) = true)
    (a44 : PySem.W.nsIn K mainGlobals "_law_ask" = some (some (.ref f44)))
    (l44 : K.lookup f44 = some ⟨oc44, od44, .func (PySem.W.fnOf "_law_ask" "_law_ask" (defArgs s_l_ask) (defBody s_l_ask) (defScope s_l_ask) .none kV44 dc44 pm44 an44 cd44 ct44), sl44⟩) (c44 : PySem.W.codeIn K cd44 "_law_ask" = true) (k44 : PySem.W.keepIn K (.ref f44) = true)
    (a45 : PySem.W.nsIn K mainGlobals "_law_statement" = some (some (.ref f45)))
    (l45 : K.lookup f45 = some ⟨oc45, od45, .func (PySem.W.fnOf "_law_statement" "_law_statement" (defArgs s_l_statement) (defBody s_l_statement) (defScope s_l_statement) .none kV45 dc45 pm45 an45 cd45 ct45), sl45⟩) (c45 : PySem.W.codeIn K cd45 "_law_statement" = true) (k45 : PySem.W.keepIn K (.ref f45) = true)
    (a46 : PySem.W.nsIn K mainGlobals "_law_text" = some (some (.ref f46)))
    (l46 : K.lookup f46 = some ⟨oc46, od46, .func (PySem.W.fnOf "_law_text" "_law_text" (defArgs s_l_text) (defBody s_l_text) (defScope s_l_text) .none kV46 dc46 pm46 an46 cd46 ct46), sl46⟩) (c46 : PySem.W.codeIn K cd46 "_law_text" = true) (k46 : PySem.W.keepIn K (.ref f46) = true)
    (a47 : PySem.W.nsIn K mainGlobals "_law_terms" = some (some (.ref f47)))
    (l47 : K.lookup f47 = some ⟨oc47, od47, .func (PySem.W.fnOf "_law_terms" "_law_terms" (defArgs s_l_terms) (defBody s_l_terms) (defScope s_l_terms) .none kV47 dc47 pm47 an47 cd47 ct47), sl47⟩) (c47 : PySem.W.codeIn K cd47 "_law_terms" = true) (k47 : PySem.W.keepIn K (.ref f47) = true)
    (a48 : PySem.W.nsIn K mainGlobals "_law_where" = some (some (.ref f48)))
    (l48 : K.lookup f48 = some ⟨oc48, od48, .func (PySem.W.fnOf "_law_where" "_law_where" (defArgs s_l_where) (defBody s_l_where) (defScope s_l_where) .none kV48 dc48 pm48 an48 cd48 ct48), sl48⟩) (c48 : PySem.W.codeIn K cd48 "_law_where" = true) (k48 : PySem.W.keepIn K (.ref f48) = true)
    (a49 : PySem.W.nsIn K mainGlobals "_law_written" = some (some (.ref f49)))
    (l49 : K.lookup f49 = some ⟨oc49, od49, .func (PySem.W.fnOf "_law_written" "_law_written" (defArgs s_l_written) (defBody s_l_written) (defScope s_l_written) .none kV49 dc49 pm49 an49 cd49 ct49), sl49⟩) (c49 : PySem.W.codeIn K cd49 "_law_written" = true) (k49 : PySem.W.keepIn K (.ref f49) = true)
    (a50 : PySem.W.nsIn K mainGlobals "_law_loose" = some (some (.ref f50)))
    (l50 : K.lookup f50 = some ⟨oc50, od50, .func (PySem.W.fnOf "_law_loose" "_law_loose" (defArgs s_l_loose) (defBody s_l_loose) (defScope s_l_loose) .none kV50 dc50 pm50 an50 cd50 ct50), sl50⟩) (c50 : PySem.W.codeIn K cd50 "_law_loose" = true) (k50 : PySem.W.keepIn K (.ref f50) = true)
    (a51 : PySem.W.nsIn K mainGlobals "law" = some (some (.ref f51)))
    (l51 : K.lookup f51 = some ⟨oc51, od51, .func (PySem.W.fnOf "law" "law" (defArgs s_law) (defBody s_law) (defScope s_law) .none kV51 dc51 pm51 an51 cd51 ct51), sl51⟩) (c51 : PySem.W.codeIn K cd51 "law" = true) (k51 : PySem.W.keepIn K (.ref f51) = true)
    (aCStatements : PySem.W.nsIn K mainGlobals "Statements" = some (some (.ref CStatements))) (pgStatements : PySem.W.plainGet K CStatements Str.empty = true) (hdStatements : PySem.W.hasDictIn K CStatements = true) (poStatements : PySem.W.plainOver K CStatements = true) (saStatements : PySem.W.findIn K (.ref CStatements) "__setattr__" = some (some (.builtin "object.__setattr__"))) (mkStatements : PySem.W.makesIn K CStatements = true) (kcStatements : PySem.W.keepIn K (.ref CStatements) = true)
    (nStatements_words : PySem.W.findIn K (.ref CStatements) "words" = some none)
    (nStatements_at : PySem.W.findIn K (.ref CStatements) "at" = some none)
    (nStatements_deep : PySem.W.findIn K (.ref CStatements) "deep" = some none)
    (z_ValueError : PySem.W.nsIn K mainGlobals "ValueError" = some none)
    (z_len : PySem.W.nsIn K mainGlobals "len" = some none)
    (z_int : PySem.W.nsIn K mainGlobals "int" = some none)
    (z_tuple : PySem.W.nsIn K mainGlobals "tuple" = some none)
    (z_str : PySem.W.nsIn K mainGlobals "str" = some none)
    (z_list : PySem.W.nsIn K mainGlobals "list" = some none)
    (z_max : PySem.W.nsIn K mainGlobals "max" = some none)
    (z_isinstance : PySem.W.nsIn K mainGlobals "isinstance" = some none)
    (z_range : PySem.W.nsIn K mainGlobals "range" = some none)
    (z_bool : PySem.W.nsIn K mainGlobals "bool" = some none)
    (z_sorted : PySem.W.nsIn K mainGlobals "sorted" = some none)
    {CStoreError : Addr}
    (aE_StoreError : PySem.W.nsIn K mainGlobals "StoreError" = some (some (.ref CStoreError)))
    (ei_StoreError : PySem.W.isClsIn K CStoreError = true)
    (et_StoreError : PySem.W.typeIn K (.ref CStoreError) = some (.type "type"))
    (er_StoreError : PySem.W.readsIn K CStoreError (.type "type") = true)
    (eu_StoreError : PySem.W.specialIn K (.ref CStoreError) "__getattribute__" = some (some (.builtin "type.__getattribute__")))
    (evi_StoreError : PySem.W.findCls K (.ref CStoreError) (.type "type") "__init__" = some (.val (.builtin "ValueError.__init__")))
    (en : PySem.W.specialIn K (.builtin "object.__class__") "__get__" = some (some (.builtin "getset_descriptor.__get__")))
    (ey : PySem.W.takesIn K (.builtin "object.__class__") = some true)
    {nm_BadText qn_BadText : Str} {N_BadText : Addr} {bs_BadText bm_BadText sb_BadText : List Value} {sn_BadText : List Str} {ab_BadText : Bool} {col_BadText : Option Bool} {dd_BadText : Option Addr} {k0_BadText k1_BadText k2_BadText k3_BadText k5_BadText : Option Value}
    (aE_BadText : PySem.W.nsIn K mainGlobals "BadText" = some (some (.ref CBadText)))
    (lk_BadText : K.lookup CBadText = some (excClassObj nm_BadText qn_BadText CBadText N_BadText bs_BadText bm_BadText true sn_BadText sb_BadText ab_BadText col_BadText dd_BadText k0_BadText k1_BadText k2_BadText k3_BadText k5_BadText "ValueError.__new__"))
    (rv_BadText : PySem.HandSPX.refsVE bm_BadText = true)
    (sa_BadText : PySem.W.findIn K (.ref CBadText) "__setattr__" = some (some (.builtin "object.__setattr__")))
    (es_BadText : PySem.W.subIn K (.ref CBadText) (.type "BaseException") = some true)
    (et_BadText : PySem.W.typeIn K (.ref CBadText) = some (.type "type"))
    (ek_BadText : PySem.W.keepIn K (.ref CBadText) = true)
    (eg_BadText : PySem.W.findIn K (.ref CBadText) "__getattribute__" = some (some (.builtin "BaseException.__getattribute__")))
    (eh_BadText : PySem.W.findIn K (.ref CBadText) "__getattr__" = some none)
    (ed_BadText : PySem.W.hasDictIn K CBadText = true)
    (ec_BadText : PySem.W.findIn K (.ref CBadText) "__class__" = some (some (.builtin "object.__class__")))
    (em_BadText : PySem.W.mroIn K CBadText (.type "object") = some true)
    (ei_BadText : PySem.W.isClsIn K CBadText = true)
    (eq_BadText : PySem.W.subIn K (.ref CBadText) (.ref CBadText) = some true)
    (eb_BadText : PySem.W.subIn K (.ref CBadText) (.ref CStoreError) = some true)
    (ev_BadText : PySem.W.subIn K (.ref CBadText) (.type "ValueError") = some true)
    (np_BadText : PySem.W.findIn K (.ref CBadText) "place" = some none)
    {tzLETTERS : Tok} (tgLETTERS : PySem.W.nsIn K mainGlobals "LETTERS" = some (some (.str "abcdefghijklmnopqrstuvwxyz" tzLETTERS)))
    {tzFIGURES : Tok} (tgFIGURES : PySem.W.nsIn K mainGlobals "FIGURES" = some (some (.str "0123456789" tzFIGURES)))
    {tzTERM : Tok} (tgTERM : PySem.W.nsIn K mainGlobals "TERM" = some (some (.str "term" tzTERM)))
    {tzCOND : Tok} (tgCOND : PySem.W.nsIn K mainGlobals "COND" = some (some (.str "cond" tzCOND)))
    {tzMOST_SIGNS : Tok} (tgMOST_SIGNS : PySem.W.nsIn K mainGlobals "MOST_SIGNS" = some (some (.int 8 tzMOST_SIGNS)))
    {tzMOST_FIGURES : Tok} (tgMOST_FIGURES : PySem.W.nsIn K mainGlobals "MOST_FIGURES" = some (some (.int 6 tzMOST_FIGURES)))
    {tzMOST_FIELDS : Tok} (tgMOST_FIELDS : PySem.W.nsIn K mainGlobals "MOST_FIELDS" = some (some (.int 4 tzMOST_FIELDS)))
    {tzMOST_TABLES : Tok} (tgMOST_TABLES : PySem.W.nsIn K mainGlobals "MOST_TABLES" = some (some (.int 3 tzMOST_TABLES)))
    {tzMOST_TERMS : Tok} (tgMOST_TERMS : PySem.W.nsIn K mainGlobals "MOST_TERMS" = some (some (.int 6 tzMOST_TERMS)))
    {tzMOST_BY : Tok} (tgMOST_BY : PySem.W.nsIn K mainGlobals "MOST_BY" = some (some (.int 3 tzMOST_BY)))
    {tzMOST_SETS : Tok} (tgMOST_SETS : PySem.W.nsIn K mainGlobals "MOST_SETS" = some (some (.int 3 tzMOST_SETS)))
    {tzMOST_WITHIN : Tok} (tgMOST_WITHIN : PySem.W.nsIn K mainGlobals "MOST_WITHIN" = some (some (.int 20 tzMOST_WITHIN)))
    {qaOWN : Addr} {qdOWN : Option Addr} {qiOWN : Array Value} {qnOWN : Nat} {qsOWN : Array (Option Value)} (qgOWN : PySem.W.nsIn K mainGlobals "OWN" = some (some (.ref qaOWN))) (qlOWN : K.lookup qaOWN = some ⟨.type "tuple", qdOWN, .seq qiOWN qnOWN, qsOWN⟩) (qeOWN : qiOWN.toList.map sOf = (["table", "index", "put", "set", "strike", "pick", "count", "sum", "least", "most", "from", "where", "by", "first", "and", "or", "not", "begin", "done", "undo"] : List Str).map some)
    {qaSIGNS : Addr} {qdSIGNS : Option Addr} {qiSIGNS : Array Value} {qnSIGNS : Nat} {qsSIGNS : Array (Option Value)} (qgSIGNS : PySem.W.nsIn K mainGlobals "SIGNS" = some (some (.ref qaSIGNS))) (qlSIGNS : K.lookup qaSIGNS = some ⟨.type "tuple", qdSIGNS, .seq qiSIGNS qnSIGNS, qsSIGNS⟩) (qeSIGNS : qiSIGNS.toList.map sOf = (["<=", ">=", "(", ")", ",", "+", "-", "*", "=", "<", ">", "."] : List Str).map some)
    {qaALONE : Addr} {qdALONE : Option Addr} {qiALONE : Array Value} {qnALONE : Nat} {qsALONE : Array (Option Value)} (qgALONE : PySem.W.nsIn K mainGlobals "ALONE" = some (some (.ref qaALONE))) (qlALONE : K.lookup qaALONE = some ⟨.type "tuple", qdALONE, .seq qiALONE qnALONE, qsALONE⟩) (qeALONE : qiALONE.toList.map sOf = (["begin", "done", "undo"] : List Str).map some)
    {qaSUMMING : Addr} {qdSUMMING : Option Addr} {qiSUMMING : Array Value} {qnSUMMING : Nat} {qsSUMMING : Array (Option Value)} (qgSUMMING : PySem.W.nsIn K mainGlobals "SUMMING" = some (some (.ref qaSUMMING))) (qlSUMMING : K.lookup qaSUMMING = some ⟨.type "tuple", qdSUMMING, .seq qiSUMMING qnSUMMING, qsSUMMING⟩) (qeSUMMING : qiSUMMING.toList.map sOf = (["sum", "least", "most"] : List Str).map some)
    {qaASKING : Addr} {qdASKING : Option Addr} {qiASKING : Array Value} {qnASKING : Nat} {qsASKING : Array (Option Value)} (qgASKING : PySem.W.nsIn K mainGlobals "ASKING" = some (some (.ref qaASKING))) (qlASKING : K.lookup qaASKING = some ⟨.type "tuple", qdASKING, .seq qiASKING qnASKING, qsASKING⟩) (qeASKING : qiASKING.toList.map sOf = (["pick", "count", "sum", "least", "most"] : List Str).map some)
    {qaCOMPARING : Addr} {qdCOMPARING : Option Addr} {qiCOMPARING : Array Value} {qnCOMPARING : Nat} {qsCOMPARING : Array (Option Value)} (qgCOMPARING : PySem.W.nsIn K mainGlobals "COMPARING" = some (some (.ref qaCOMPARING))) (qlCOMPARING : K.lookup qaCOMPARING = some ⟨.type "tuple", qdCOMPARING, .seq qiCOMPARING qnCOMPARING, qsCOMPARING⟩) (qeCOMPARING : qiCOMPARING.toList.map sOf = (["=", "<", ">", "<=", ">="] : List Str).map some)
    {tA : Addr} {tE : Array DictEntry} {tN : Nat} (ta : PySem.W.nsIn K mainGlobals "TIGHT" = some (some (.ref tA))) (tl : K.lookup tA = some ⟨.type "dict", none, .dict tE tN, #[]⟩) (tk : PySem.W.KeysLit w.params tE.toList) (tw : (tA == sysModules) = false) (te : tE.toList.map entOf = Rd.tight.map fun e => some (e.1, (e.2 : Int)))
    {eM0 : Value} {dM0 : Option Addr} {vM0 : Array Value} {sM0 : Array (Option Value)} (lcM0 : K.lookup cM0 = some ⟨eM0, dM0, .fields vM0, sM0⟩) (vPM0 : vM0[11]? = some (.ref PM0)) (nPM0 : K.lookup PM0 = none) (hCM0 : PySem.W.codeHdIn K cM0 PM0 = true) (atM0 : h.get? PM0 = some { cls := .none, data := .fields #[] })
    {eM1 : Value} {dM1 : Option Addr} {vM1 : Array Value} {sM1 : Array (Option Value)} (lcM1 : K.lookup cM1 = some ⟨eM1, dM1, .fields vM1, sM1⟩) (vPM1 : vM1[11]? = some (.ref PM1)) (nPM1 : K.lookup PM1 = none) (hCM1 : PySem.W.codeHdIn K cM1 PM1 = true) (atM1 : h.get? PM1 = some { cls := .none, data := .fields #[] })
    {eM2 : Value} {dM2 : Option Addr} {vM2 : Array Value} {sM2 : Array (Option Value)} (lcM2 : K.lookup cM2 = some ⟨eM2, dM2, .fields vM2, sM2⟩) (vPM2 : vM2[11]? = some (.ref PM2)) (nPM2 : K.lookup PM2 = none) (hCM2 : PySem.W.codeHdIn K cM2 PM2 = true) (atM2 : h.get? PM2 = some { cls := .none, data := .fields #[] })
    {eM3 : Value} {dM3 : Option Addr} {vM3 : Array Value} {sM3 : Array (Option Value)} (lcM3 : K.lookup cM3 = some ⟨eM3, dM3, .fields vM3, sM3⟩) (vPM3 : vM3[11]? = some (.ref PM3)) (nPM3 : K.lookup PM3 = none) (hCM3 : PySem.W.codeHdIn K cM3 PM3 = true) (atM3 : h.get? PM3 = some { cls := .none, data := .fields #[] })
    (nPP : [PM0, PM1, PM2, PM3].Nodup)
    : LamX.LawAtS l w K CX0 110 63 "_law_script" mg fa h := by
  have e := hfa.symm.trans (PySem.W.mg_of X G a51)
  cases e
  have F0 := fun_mk (st := s_BadText_init) l0 c0 k0
  have F1 := fun_mk (st := s_is_name) l1 c1 k1
  have F2 := fun_mk (st := s_is_number) l2 c2 k2
  have F3 := fun_mk (st := s_run_of) l3 c3 k3
  have F4 := fun_mk (st := s_next_end) l4 c4 k4
  have F5 := fun_mk (st := s_words_of) l5 c5 k5
  have F6 := fun_mk (st := s_Reader_init) l6 c6 k6
  have F7 := fun_mk (st := s_Reader_here) l7 c7 k7
  have F8 := fun_mk (st := s_Reader_refuse) l8 c8 k8
  have F9 := fun_mk (st := s_Reader_taken) l9 c9 k9
  have F10 := fun_mk (st := s_Reader_does_take) l10 c10 k10
  have F11 := fun_mk (st := s_Reader_need) l11 c11 k11
  have F12 := fun_mk (st := s_Reader_next_name) l12 c12 k12
  have F13 := fun_mk (st := s_Reader_next_number) l13 c13 k13
  have F14 := fun_mk (st := s_Statements_whole) l14 c14 k14
  have F15 := fun_mk (st := s_Statements_statement) l15 c15 k15
  have F16 := fun_mk (st := s_Statements_some) l16 c16 k16
  have F17 := fun_mk (st := s_Statements_one_set) l17 c17 k17
  have F18 := fun_mk (st := s_Statements_where) l18 c18 k18
  have F19 := fun_mk (st := s_Statements_question) l19 c19 k19
  have F20 := fun_mk (st := s_Statements_a_term) l20 c20 k20
  have F21 := fun_mk (st := s_Statements_a_cond) l21 c21 k21
  have F22 := fun_mk (st := s_Statements_joined) l22 c22 k22
  have F23 := fun_mk (st := s_Statements_or_of) l23 c23 k23
  have F24 := fun_mk (st := s_Statements_and_of) l24 c24 k24
  have F25 := fun_mk (st := s_Statements_not_of) l25 c25 k25
  have F26 := fun_mk (st := s_Statements_compare_of) l26 c26 k26
  have F27 := fun_mk (st := s_Statements_sum_of) l27 c27 k27
  have F28 := fun_mk (st := s_Statements_product_of) l28 c28 k28
  have F29 := fun_mk (st := s_Statements_go_in) l29 c29 k29
  have F30 := fun_mk (st := s_Statements_factor_of) l30 c30 k30
  have F31 := fun_mk (st := s_read) l31 c31 k31
  have F32 : FunD K "tree_text" "tree_text" (defArgs s_tree_text) (defBody s_tree_text) (defScope s_tree_text) [V.int 0] [] f32 _ := ⟨⟨_, _, _, _, _, _, _, _, _, _, rfl, l32, c32, .inr ⟨by simp, D32, _, [.int 0 tq32], _, rfl, lq32, rfl, .cons ⟨_, rfl⟩ .nil⟩, .inl rfl⟩, k32⟩
  obtain ⟨ds32, dr32, bd32⟩ := F32.binds1 (ps := ["tree", "tight"]) 1 0 (by simp) rfl fun _ _ _ _ _ _ _ us its hu hi => match us, hu, its, hi with | [_], _, [_], _ => ⟨_, rfl, rfl⟩
  obtain ⟨dz32, dy32, be32⟩ := F32.binds1 (ps := ["tree", "tight"]) 2 1 (by simp) rfl fun _ _ _ _ _ _ _ us its hu hi => match us, hu, its, hi with | [_, _], _, [_], _ => ⟨_, rfl, rfl⟩
  cases dy32
  have F33 := fun_mk (st := s_where_text) l33 c33 k33
  have F34 := fun_mk (st := s_ask_text) l34 c34 k34
  have F35 := fun_mk (st := s_written) l35 c35 k35
  have F36 := fun_mk (st := s_l_mix) l36 c36 k36
  have F37 := fun_mk (st := s_l_next) l37 c37 k37
  have F38 := fun_mk (st := s_l_alike) l38 c38 k38
  have F39 := fun_mk (st := s_l_shapes) l39 c39 k39
  have F40 := fun_mk (st := s_l_number) l40 c40 k40
  have F41 := fun_mk (st := s_l_term) l41 c41 k41
  have F42 := fun_mk (st := s_l_cond) l42 c42 k42
  have F43 := fun_mk (st := s_l_some) l43 c43 k43
  have F44 := fun_mk (st := s_l_ask) l44 c44 k44
  have F45 := fun_mk (st := s_l_statement) l45 c45 k45
  have F46 := fun_mk (st := s_l_text) l46 c46 k46
  have F47 := fun_mk (st := s_l_terms) l47 c47 k47
  have F48 := fun_mk (st := s_l_where) l48 c48 k48
  have F49 := fun_mk (st := s_l_written) l49 c49 k49
  have F50 := fun_mk (st := s_l_loose) l50 c50 k50
  have F51 := fun_mk (st := s_law) l51 c51 k51
  have T : ∃ T : Txt K mg w, T.f_law = fa ∧ T.fd_law = PySem.W.fnOf "law" "law" (defArgs s_law) (defBody s_law) (defScope s_law) .none kV51 dc51 pm51 an51 cd51 ct51 ∧ T.c_Statements_statement = cM0 ∧ T.P_Statements_statement = PM0 ∧ T.c_Statements_question = cM1 ∧ T.P_Statements_question = PM1 ∧ T.c_Statements_or_of = cM2 ∧ T.P_Statements_or_of = PM2 ∧ T.c_Statements_and_of = cM3 ∧ T.P_Statements_and_of = PM3 := ⟨{ f_BadText_init := f0, fd_BadText_init := _, F_BadText_init := F0, kb_BadText_init := (F0.kbn (ps := ["self", "place"]) 1 ["place"] fun _ _ _ _ _ _ us ws hu hw => match us, hu, ws, hw with | [_], _, [_], _ => rfl), iO_BadText := a0, tO_BadText := ty0, f_is_name := f1, fd_is_name := _, F_is_name := F1, b_is_name := (F1.binds (ps := ["word"]) fun _ _ _ _ _ _ us hl => match us, hl with | [_], _ => rfl), mg_is_name := PySem.W.mg_of X G a1, f_is_number := f2, fd_is_number := _, F_is_number := F2, b_is_number := (F2.binds (ps := ["word"]) fun _ _ _ _ _ _ us hl => match us, hl with | [_], _ => rfl), mg_is_number := PySem.W.mg_of X G a2, f_run_of := f3, fd_run_of := _, F_run_of := F3, b_run_of := (F3.binds (ps := ["text", "at", "signs"]) fun _ _ _ _ _ _ us hl => match us, hl with | [_, _, _], _ => rfl), mg_run_of := PySem.W.mg_of X G a3, f_next_end := f4, fd_next_end := _, F_next_end := F4, b_next_end := (F4.binds (ps := ["text", "at"]) fun _ _ _ _ _ _ us hl => match us, hl with | [_, _], _ => rfl), mg_next_end := PySem.W.mg_of X G a4, f_words_of := f5, fd_words_of := _, F_words_of := F5, b_words_of := (F5.binds (ps := ["text"]) fun _ _ _ _ _ _ us hl => match us, hl with | [_], _ => rfl), mg_words_of := PySem.W.mg_of X G a5, f_Reader_init := f6, fd_Reader_init := _, F_Reader_init := F6, b_Reader_init := (F6.binds (ps := ["self", "text"]) fun _ _ _ _ _ _ us hl => match us, hl with | [_, _], _ => rfl), f_Reader_here := f7, fd_Reader_here := _, F_Reader_here := F7, b_Reader_here := (F7.binds (ps := ["self"]) fun _ _ _ _ _ _ us hl => match us, hl with | [_], _ => rfl), f_Reader_refuse := f8, fd_Reader_refuse := _, F_Reader_refuse := F8, b_Reader_refuse := (F8.binds (ps := ["self"]) fun _ _ _ _ _ _ us hl => match us, hl with | [_], _ => rfl), f_Reader_taken := f9, fd_Reader_taken := _, F_Reader_taken := F9, b_Reader_taken := (F9.binds (ps := ["self"]) fun _ _ _ _ _ _ us hl => match us, hl with | [_], _ => rfl), f_Reader_does_take := f10, fd_Reader_does_take := _, F_Reader_does_take := F10, b_Reader_does_take := (F10.binds (ps := ["self", "word"]) fun _ _ _ _ _ _ us hl => match us, hl with | [_, _], _ => rfl), f_Reader_need := f11, fd_Reader_need := _, F_Reader_need := F11, b_Reader_need := (F11.binds (ps := ["self", "word"]) fun _ _ _ _ _ _ us hl => match us, hl with | [_, _], _ => rfl), f_Reader_next_name := f12, fd_Reader_next_name := _, F_Reader_next_name := F12, b_Reader_next_name := (F12.binds (ps := ["self"]) fun _ _ _ _ _ _ us hl => match us, hl with | [_], _ => rfl), f_Reader_next_number := f13, fd_Reader_next_number := _, F_Reader_next_number := F13, b_Reader_next_number := (F13.binds (ps := ["self"]) fun _ _ _ _ _ _ us hl => match us, hl with | [_], _ => rfl), f_Statements_whole := f14, fd_Statements_whole := _, F_Statements_whole := F14, b_Statements_whole := (F14.binds (ps := ["self"]) fun _ _ _ _ _ _ us hl => match us, hl with | [_], _ => rfl), f_Statements_statement := f15, fd_Statements_statement := _, F_Statements_statement := F15, b_Statements_statement := (F15.binds (ps := ["self"]) fun _ _ _ _ _ _ us hl => match us, hl with | [_], _ => rfl), f_Statements_some := f16, fd_Statements_some := _, F_Statements_some := F16, b_Statements_some := (F16.binds (ps := ["self", "one", "most"]) fun _ _ _ _ _ _ us hl => match us, hl with | [_, _, _], _ => rfl), f_Statements_one_set := f17, fd_Statements_one_set := _, F_Statements_one_set := F17, b_Statements_one_set := (F17.binds (ps := ["self"]) fun _ _ _ _ _ _ us hl => match us, hl with | [_], _ => rfl), f_Statements_where := f18, fd_Statements_where := _, F_Statements_where := F18, b_Statements_where := (F18.binds (ps := ["self"]) fun _ _ _ _ _ _ us hl => match us, hl with | [_], _ => rfl), f_Statements_question := f19, fd_Statements_question := _, F_Statements_question := F19, b_Statements_question := (F19.binds (ps := ["self"]) fun _ _ _ _ _ _ us hl => match us, hl with | [_], _ => rfl), f_Statements_a_term := f20, fd_Statements_a_term := _, F_Statements_a_term := F20, b_Statements_a_term := (F20.binds (ps := ["self"]) fun _ _ _ _ _ _ us hl => match us, hl with | [_], _ => rfl), f_Statements_a_cond := f21, fd_Statements_a_cond := _, F_Statements_a_cond := F21, b_Statements_a_cond := (F21.binds (ps := ["self"]) fun _ _ _ _ _ _ us hl => match us, hl with | [_], _ => rfl), f_Statements_joined := f22, fd_Statements_joined := _, F_Statements_joined := F22, b_Statements_joined := (F22.binds (ps := ["self", "word", "part"]) fun _ _ _ _ _ _ us hl => match us, hl with | [_, _, _], _ => rfl), f_Statements_or_of := f23, fd_Statements_or_of := _, F_Statements_or_of := F23, b_Statements_or_of := (F23.binds (ps := ["self"]) fun _ _ _ _ _ _ us hl => match us, hl with | [_], _ => rfl), f_Statements_and_of := f24, fd_Statements_and_of := _, F_Statements_and_of := F24, b_Statements_and_of := (F24.binds (ps := ["self"]) fun _ _ _ _ _ _ us hl => match us, hl with | [_], _ => rfl), f_Statements_not_of := f25, fd_Statements_not_of := _, F_Statements_not_of := F25, b_Statements_not_of := (F25.binds (ps := ["self"]) fun _ _ _ _ _ _ us hl => match us, hl with | [_], _ => rfl), f_Statements_compare_of := f26, fd_Statements_compare_of := _, F_Statements_compare_of := F26, b_Statements_compare_of := (F26.binds (ps := ["self"]) fun _ _ _ _ _ _ us hl => match us, hl with | [_], _ => rfl), f_Statements_sum_of := f27, fd_Statements_sum_of := _, F_Statements_sum_of := F27, b_Statements_sum_of := (F27.binds (ps := ["self", "only"]) fun _ _ _ _ _ _ us hl => match us, hl with | [_, _], _ => rfl), f_Statements_product_of := f28, fd_Statements_product_of := _, F_Statements_product_of := F28, b_Statements_product_of := (F28.binds (ps := ["self", "only"]) fun _ _ _ _ _ _ us hl => match us, hl with | [_, _], _ => rfl), f_Statements_go_in := f29, fd_Statements_go_in := _, F_Statements_go_in := F29, b_Statements_go_in := (F29.binds (ps := ["self"]) fun _ _ _ _ _ _ us hl => match us, hl with | [_], _ => rfl), f_Statements_factor_of := f30, fd_Statements_factor_of := _, F_Statements_factor_of := F30, b_Statements_factor_of := (F30.binds (ps := ["self", "only"]) fun _ _ _ _ _ _ us hl => match us, hl with | [_, _], _ => rfl), f_read := f31, fd_read := _, F_read := F31, b_read := (F31.binds (ps := ["text"]) fun _ _ _ _ _ _ us hl => match us, hl with | [_], _ => rfl), mg_read := PySem.W.mg_of X G a31, f_tree_text := f32, fd_tree_text := _, F_tree_text := F32, s1_tree_text := ds32, d1_tree_text := dr32, b1_tree_text := bd32, b_tree_text := be32, mg_tree_text := PySem.W.mg_of X G a32, f_where_text := f33, fd_where_text := _, F_where_text := F33, b_where_text := (F33.binds (ps := ["cond"]) fun _ _ _ _ _ _ us hl => match us, hl with | [_], _ => rfl), mg_where_text := PySem.W.mg_of X G a33, f_ask_text := f34, fd_ask_text := _, F_ask_text := F34, b_ask_text := (F34.binds (ps := ["tree"]) fun _ _ _ _ _ _ us hl => match us, hl with | [_], _ => rfl), mg_ask_text := PySem.W.mg_of X G a34, f_written := f35, fd_written := _, F_written := F35, b_written := (F35.binds (ps := ["tree"]) fun _ _ _ _ _ _ us hl => match us, hl with | [_], _ => rfl), mg_written := PySem.W.mg_of X G a35, f_l_mix := f36, fd_l_mix := _, F_l_mix := F36, b_l_mix := (F36.binds (ps := ["_law_script", "_law_seed"]) fun _ _ _ _ _ _ us hl => match us, hl with | [_, _], _ => rfl), mg_l_mix := PySem.W.mg_of X G a36, f_l_next := f37, fd_l_next := _, F_l_next := F37, b_l_next := (F37.binds (ps := ["_law_h", "_law_many"]) fun _ _ _ _ _ _ us hl => match us, hl with | [_, _], _ => rfl), mg_l_next := PySem.W.mg_of X G a37, f_l_alike := f38, fd_l_alike := _, F_l_alike := F38, b_l_alike := (F38.binds (ps := ["_law_found", "_law_due"]) fun _ _ _ _ _ _ us hl => match us, hl with | [_, _], _ => rfl), mg_l_alike := PySem.W.mg_of X G a38, f_l_shapes := f39, fd_l_shapes := _, F_l_shapes := F39, b_l_shapes := (F39.binds (ps := ["_law_h", "_law_many"]) fun _ _ _ _ _ _ us hl => match us, hl with | [_, _], _ => rfl), mg_l_shapes := PySem.W.mg_of X G a39, f_l_number := f40, fd_l_number := _, F_l_number := F40, b_l_number := (F40.binds (ps := ["_law_h"]) fun _ _ _ _ _ _ us hl => match us, hl with | [_], _ => rfl), mg_l_number := PySem.W.mg_of X G a40, f_l_term := f41, fd_l_term := _, F_l_term := F41, b_l_term := (F41.binds (ps := ["_law_h", "_law_fields", "_law_deep"]) fun _ _ _ _ _ _ us hl => match us, hl with | [_, _, _], _ => rfl), mg_l_term := PySem.W.mg_of X G a41, f_l_cond := f42, fd_l_cond := _, F_l_cond := F42, b_l_cond := (F42.binds (ps := ["_law_h", "_law_fields", "_law_deep"]) fun _ _ _ _ _ _ us hl => match us, hl with | [_, _, _], _ => rfl), mg_l_cond := PySem.W.mg_of X G a42, f_l_some := f43, fd_l_some := _, F_l_some := F43, b_l_some := (F43.binds (ps := ["_law_h", "_law_shapes_here", "_law_tables"]) fun _ _ _ _ _ _ us hl => match us, hl with | [_, _, _], _ => rfl), mg_l_some := PySem.W.mg_of X G a43, f_l_ask := f44, fd_l_ask := _, F_l_ask := F44, b_l_ask := (F44.binds (ps := ["_law_h", "_law_shapes_here"]) fun _ _ _ _ _ _ us hl => match us, hl with | [_, _], _ => rfl), mg_l_ask := PySem.W.mg_of X G a44, f_l_statement := f45, fd_l_statement := _, F_l_statement := F45, b_l_statement := (F45.binds (ps := ["_law_h", "_law_shapes_here"]) fun _ _ _ _ _ _ us hl => match us, hl with | [_, _], _ => rfl), mg_l_statement := PySem.W.mg_of X G a45, f_l_text := f46, fd_l_text := _, F_l_text := F46, b_l_text := (F46.binds (ps := ["_law_tree", "_law_tight"]) fun _ _ _ _ _ _ us hl => match us, hl with | [_, _], _ => rfl), mg_l_text := PySem.W.mg_of X G a46, f_l_terms := f47, fd_l_terms := _, F_l_terms := F47, b_l_terms := (F47.binds (ps := ["_law_terms_here"]) fun _ _ _ _ _ _ us hl => match us, hl with | [_], _ => rfl), mg_l_terms := PySem.W.mg_of X G a47, f_l_where := f48, fd_l_where := _, F_l_where := F48, b_l_where := (F48.binds (ps := ["_law_cond_here"]) fun _ _ _ _ _ _ us hl => match us, hl with | [_], _ => rfl), mg_l_where := PySem.W.mg_of X G a48, f_l_written := f49, fd_l_written := _, F_l_written := F49, b_l_written := (F49.binds (ps := ["_law_tree"]) fun _ _ _ _ _ _ us hl => match us, hl with | [_], _ => rfl), mg_l_written := PySem.W.mg_of X G a49, f_l_loose := f50, fd_l_loose := _, F_l_loose := F50, b_l_loose := (F50.binds (ps := ["_law_h", "_law_text_here"]) fun _ _ _ _ _ _ us hl => match us, hl with | [_, _], _ => rfl), mg_l_loose := PySem.W.mg_of X G a50, f_law := fa, fd_law := _, F_law := F51, b_law := (F51.binds (ps := ["_law_script"]) fun _ _ _ _ _ _ us hl => match us, hl with | [_], _ => rfl), mg_law := PySem.W.mg_of X G a51, C_Statements := CStatements, cl_Statements := ⟨pgStatements, hdStatements, poStatements, saStatements⟩, mg_Statements := PySem.W.mg_of X G aCStatements, mk_Statements := ⟨mkStatements, a6, i6, kcStatements⟩, na_Statements_words := nStatements_words, na_Statements_at := nStatements_at, na_Statements_deep := nStatements_deep, me_Statements_here := ⟨a7, i7, k7⟩, me_Statements_refuse := ⟨a8, i8, k8⟩, me_Statements_taken := ⟨a9, i9, k9⟩, me_Statements_does_take := ⟨a10, i10, k10⟩, me_Statements_need := ⟨a11, i11, k11⟩, me_Statements_next_name := ⟨a12, i12, k12⟩, me_Statements_next_number := ⟨a13, i13, k13⟩, me_Statements_whole := ⟨a14, i14, k14⟩, me_Statements_statement := ⟨a15, i15, k15⟩, me_Statements_some := ⟨a16, i16, k16⟩, me_Statements_one_set := ⟨a17, i17, k17⟩, me_Statements_where := ⟨a18, i18, k18⟩, me_Statements_question := ⟨a19, i19, k19⟩, me_Statements_a_term := ⟨a20, i20, k20⟩, me_Statements_a_cond := ⟨a21, i21, k21⟩, me_Statements_joined := ⟨a22, i22, k22⟩, me_Statements_or_of := ⟨a23, i23, k23⟩, me_Statements_and_of := ⟨a24, i24, k24⟩, me_Statements_not_of := ⟨a25, i25, k25⟩, me_Statements_compare_of := ⟨a26, i26, k26⟩, me_Statements_sum_of := ⟨a27, i27, k27⟩, me_Statements_product_of := ⟨a28, i28, k28⟩, me_Statements_go_in := ⟨a29, i29, k29⟩, me_Statements_factor_of := ⟨a30, i30, k30⟩, n_ValueError := PySem.W.mg_none_of X G z_ValueError, n_len := PySem.W.mg_none_of X G z_len, n_int := PySem.W.mg_none_of X G z_int, n_tuple := PySem.W.mg_none_of X G z_tuple, n_str := PySem.W.mg_none_of X G z_str, n_list := PySem.W.mg_none_of X G z_list, n_max := PySem.W.mg_none_of X G z_max, n_isinstance := PySem.W.mg_none_of X G z_isinstance, n_range := PySem.W.mg_none_of X G z_range, n_bool := PySem.W.mg_none_of X G z_bool, n_sorted := PySem.W.mg_none_of X G z_sorted, C_StoreError := CStoreError, mg_StoreError := PySem.W.mg_of X G aE_StoreError, R_StoreError := ⟨er_StoreError, eu_StoreError⟩, v_StoreError := evi_StoreError, C_BadText := CBadText, X_BadText := ⟨eg_BadText, eh_BadText, es_BadText, ed_BadText⟩, E_BadText := ⟨eg_BadText, eh_BadText, es_BadText, ed_BadText, ec_BadText, en, ey, em_BadText⟩, m_BadText := Td.exm_of es_BadText ei_BadText et_BadText eq_BadText, kV_BadText := Td.kit_ve ev_BadText, kS_BadText := kit_sub ei_StoreError et_StoreError eb_BadText, mg_BadText := PySem.W.mg_of X G aE_BadText, O_BadText := ⟨⟨_, _, _, _, _, _, _, _, _, _, _, _, _, _, _, lk_BadText, rv_BadText⟩, sa_BadText, es_BadText, et_BadText, ek_BadText⟩, n_BadText_place := np_BadText, tk_LETTERS := tzLETTERS, mg_LETTERS := PySem.W.mg_of X G tgLETTERS, tk_FIGURES := tzFIGURES, mg_FIGURES := PySem.W.mg_of X G tgFIGURES, tk_TERM := tzTERM, mg_TERM := PySem.W.mg_of X G tgTERM, tk_COND := tzCOND, mg_COND := PySem.W.mg_of X G tgCOND, tk_MOST_SIGNS := tzMOST_SIGNS, mg_MOST_SIGNS := PySem.W.mg_of X G tgMOST_SIGNS, tk_MOST_FIGURES := tzMOST_FIGURES, mg_MOST_FIGURES := PySem.W.mg_of X G tgMOST_FIGURES, tk_MOST_FIELDS := tzMOST_FIELDS, mg_MOST_FIELDS := PySem.W.mg_of X G tgMOST_FIELDS, tk_MOST_TABLES := tzMOST_TABLES, mg_MOST_TABLES := PySem.W.mg_of X G tgMOST_TABLES, tk_MOST_TERMS := tzMOST_TERMS, mg_MOST_TERMS := PySem.W.mg_of X G tgMOST_TERMS, tk_MOST_BY := tzMOST_BY, mg_MOST_BY := PySem.W.mg_of X G tgMOST_BY, tk_MOST_SETS := tzMOST_SETS, mg_MOST_SETS := PySem.W.mg_of X G tgMOST_SETS, tk_MOST_WITHIN := tzMOST_WITHIN, mg_MOST_WITHIN := PySem.W.mg_of X G tgMOST_WITHIN, a_OWN := qaOWN, mg_OWN := PySem.W.mg_of X G qgOWN, D_OWN := tupQ_mk qlOWN qeOWN (by decide), a_SIGNS := qaSIGNS, mg_SIGNS := PySem.W.mg_of X G qgSIGNS, D_SIGNS := tupQ_mk qlSIGNS qeSIGNS (by decide), a_ALONE := qaALONE, mg_ALONE := PySem.W.mg_of X G qgALONE, D_ALONE := tupQ_mk qlALONE qeALONE (by decide), a_SUMMING := qaSUMMING, mg_SUMMING := PySem.W.mg_of X G qgSUMMING, D_SUMMING := tupQ_mk qlSUMMING qeSUMMING (by decide), a_ASKING := qaASKING, mg_ASKING := PySem.W.mg_of X G qgASKING, D_ASKING := tupQ_mk qlASKING qeASKING (by decide), a_COMPARING := qaCOMPARING, mg_COMPARING := PySem.W.mg_of X G qgCOMPARING, D_COMPARING := tupQ_mk qlCOMPARING qeCOMPARING (by decide), a_TIGHT := tA, mg_TIGHT := PySem.W.mg_of X G ta, D_TIGHT := txTab_mk tl tk tw te, c_Statements_statement := cM0, P_Statements_statement := PM0, hc_Statements_statement := rfl, c_Statements_question := cM1, P_Statements_question := PM1, hc_Statements_question := rfl, c_Statements_or_of := cM2, P_Statements_or_of := PM2, hc_Statements_or_of := rfl, c_Statements_and_of := cM3, P_Statements_and_of := PM3, hc_Statements_and_of := rfl, nPs := nPP }, rfl, rfl, rfl, rfl, rfl, rfl, rfl, rfl, rfl, rfl⟩
  obtain ⟨T, t1, t2, u0, v0, u1, v1, u2, v2, u3, v3⟩ := T
  have m0 : (cM0, PM0) ∈ [(cM0, PM0), (cM1, PM1), (cM2, PM2), (cM3, PM3)] := by simp
  have m1 : (cM1, PM1) ∈ [(cM0, PM0), (cM1, PM1), (cM2, PM2), (cM3, PM3)] := by simp
  have m2 : (cM2, PM2) ∈ [(cM0, PM0), (cM1, PM1), (cM2, PM2), (cM3, PM3)] := by simp
  have m3 : (cM3, PM3) ∈ [(cM0, PM0), (cM1, PM1), (cM2, PM2), (cM3, PM3)] := by simp
  refine ⟨PySem.W.fnOf "law" "law" (defArgs s_law) (defBody s_law) (defScope s_law) .none kV51 dc51 pm51 an51 cd51 ct51, [(cM0, PM0), (cM1, PM1), (cM2, PM2), (cM3, PM3)], spLaw K [(PM0, Lm.lamQ "Statements.statement"), (PM1, Lm.lamQ "Statements.question"), (PM2, Lm.lamQ "Statements.or_of"), (PM3, Lm.lamQ "Statements.and_of")], fun p hp => ?_, fun p hp => ?_, fun p hp => ?_, fun s v => .of_eq rfl, fun H a ns hl _ hH hS => ⟨a, ns, rfl, hS, hl, fun p hp => ?_, fun _ => rfl⟩, fun base _ _ hTB => ?_⟩
  · simp only [List.mem_cons, List.not_mem_nil, or_false] at hp
    rcases hp with rfl | rfl | rfl | rfl
    · exact atM0
    · exact atM1
    · exact atM2
    · exact atM3
  · simp only [List.mem_cons, List.not_mem_nil, or_false] at hp
    rcases hp with rfl | rfl | rfl | rfl
    · exact nPM0
    · exact nPM1
    · exact nPM2
    · exact nPM3
  · simp only [List.mem_cons, List.not_mem_nil, or_false] at hp
    rcases hp with rfl | rfl | rfl | rfl
    · exact PySem.W.codeHd_of_K X hCM0
    · exact PySem.W.codeHd_of_K X hCM1
    · exact PySem.W.codeHd_of_K X hCM2
    · exact PySem.W.codeHd_of_K X hCM3
  · simp only [List.mem_cons, List.not_mem_nil, or_false] at hp
    rcases hp with rfl | rfl | rfl | rfl
    · exact hH _ m0
    · exact hH _ m1
    · exact hH _ m2
    · exact hH _ m3
  have TB0 := hTB _ m0
  have TB1 := hTB _ m1
  have TB2 := hTB _ m2
  have TB3 := hTB _ m3
  rw [← t1, ← t2, ← v0, ← v1, ← v2, ← v3]
  rw [← u0, ← v0] at TB0
  rw [← u1, ← v1] at TB1
  rw [← u2, ← v2] at TB2
  rw [← u3, ← v3] at TB3
  exact ok_all T ⟨TB0, TB1, TB2, TB3⟩
theorem walk {l : PySem.W.OpenLaw} {q : Program} {loose : List Str} {XP : (Str → Option Value) → Heap → Prop} {YP : World → Heap → Prop} {d : DefRec} {K : Params → PySem.W.Frag} (hn : l.most = some 63) (hdf : d.params.defaults = [])
    (hY : ∀ (w : World) (h : Heap), YP w h → (K w.params).In h)
    (F : ∀ (w : World) (mg : Str → Option Value) (fa : Addr) (h : Heap), YP w h → (K w.params).In h → h.Ns mainGlobals mg → mg d.name = some (.ref fa) → LamX.LawAtS l w (K w.params) CX0 110 63 "_law_script" mg fa h) :
    PySem.W.WalkO q loose XP YP l.row.toRowW d [] (fun f vs => PySem.call f vs) :=
  LamX.walk_ofTs (n := 63) (k := 110) (x := "_law_script") (CX := fun _ => CX0) hn (by decide) hdf ⟨rfl, by decide, by decide⟩ hY F fun _ _ _ _ _ z => z
end K01
open PySem PySem.W PyProof.Rows
set_option maxRecDepth 100000 in
set_option maxHeartbeats 0 in
theorem PySem.Challenge.cw_granary_k01_statements_written_and_read_holds : PySem.Challenge.rw_granary_k01_statements_written_and_read.Holds := by
  w_on; o_law; k_head; (case hw => w_witness2)
  k_fill
  refine K01.walk (l := PySem.Challenge.rw_granary_k01_statements_written_and_read) rfl rfl (fun w h Y => PySem.W.km_in_of Y) ?F
  case F =>
    intro w mg fa h Y KX G hmg
    refine' K01.all_mk KX G hmg ?i0 ?ty0 ?a0 ?l0 ?c0 ?k0 ?a1 ?l1 ?c1 ?k1 ?a2 ?l2 ?c2 ?k2 ?a3 ?l3 ?c3 ?k3 ?a4 ?l4 ?c4 ?k4 ?a5 ?l5 ?c5 ?k5 ?i6 ?a6 ?l6 ?c6 ?k6 ?i7 ?a7 ?l7 ?c7 ?k7 ?i8 ?a8 ?l8 ?c8 ?k8 ?i9 ?a9 ?l9 ?c9 ?k9 ?i10 ?a10 ?l10 ?c10 ?k10 ?i11 ?a11 ?l11 ?c11 ?k11 ?i12 ?a12 ?l12 ?c12 ?k12 ?i13 ?a13 ?l13 ?c13 ?k13 ?i14 ?a14 ?l14 ?c14 ?k14 ?i15 ?a15 ?l15 ?c15 ?k15 ?i16 ?a16 ?l16 ?c16 ?k16 ?i17 ?a17 ?l17 ?c17 ?k17 ?i18 ?a18 ?l18 ?c18 ?k18 ?i19 ?a19 ?l19 ?c19 ?k19 ?i20 ?a20 ?l20 ?c20 ?k20 ?i21 ?a21 ?l21 ?c21 ?k21 ?i22 ?a22 ?l22 ?c22 ?k22 ?i23 ?a23 ?l23 ?c23 ?k23 ?i24 ?a24 ?l24 ?c24 ?k24 ?i25 ?a25 ?l25 ?c25 ?k25 ?i26 ?a26 ?l26 ?c26 ?k26 ?i27 ?a27 ?l27 ?c27 ?k27 ?i28 ?a28 ?l28 ?c28 ?k28 ?i29 ?a29 ?l29 ?c29 ?k29 ?i30 ?a30 ?l30 ?c30 ?k30 ?a31 ?l31 ?c31 ?k31 ?a32 ?l32 ?c32 ?k32 ?lq32 ?a33 ?l33 ?c33 ?k33 ?a34 ?l34 ?c34 ?k34 ?a35 ?l35 ?c35 ?k35 ?a36 ?l36 ?c36 ?k36 ?a37 ?l37 ?c37 ?k37 ?a38 ?l38 ?c38 ?k38 ?a39 ?l39 ?c39 ?k39 ?a40 ?l40 ?c40 ?k40 ?a41 ?l41 ?c41 ?k41 ?a42 ?l42 ?c42 ?k42 ?a43 ?l43 ?c43 ?k43 ?a44 ?l44 ?c44 ?k44 ?a45 ?l45 ?c45 ?k45 ?a46 ?l46 ?c46 ?k46 ?a47 ?l47 ?c47 ?k47 ?a48 ?l48 ?c48 ?k48 ?a49 ?l49 ?c49 ?k49 ?a50 ?l50 ?c50 ?k50 ?a51 ?l51 ?c51 ?k51 ?aCStatements ?pgStatements ?hdStatements ?poStatements ?saStatements ?mkStatements ?kcStatements ?nStatements_words ?nStatements_at ?nStatements_deep ?z_ValueError ?z_len ?z_int ?z_tuple ?z_str ?z_list ?z_max ?z_isinstance ?z_range ?z_bool ?z_sorted ?aE_StoreError ?ei_StoreError ?et_StoreError ?er_StoreError ?eu_StoreError ?evi_StoreError ?en ?ey ?aE_BadText ?lk_BadText ?rv_BadText ?sa_BadText ?es_BadText ?et_BadText ?ek_BadText ?eg_BadText ?eh_BadText ?ed_BadText ?ec_BadText ?em_BadText ?ei_BadText ?eq_BadText ?eb_BadText ?ev_BadText ?np_BadText ?tgLETTERS ?tgFIGURES ?tgTERM ?tgCOND ?tgMOST_SIGNS ?tgMOST_FIGURES ?tgMOST_FIELDS ?tgMOST_TABLES ?tgMOST_TERMS ?tgMOST_BY ?tgMOST_SETS ?tgMOST_WITHIN ?qgOWN ?qlOWN ?qeOWN ?qgSIGNS ?qlSIGNS ?qeSIGNS ?qgALONE ?qlALONE ?qeALONE ?qgSUMMING ?qlSUMMING ?qeSUMMING ?qgASKING ?qlASKING ?qeASKING ?qgCOMPARING ?qlCOMPARING ?qeCOMPARING ?ta ?tl ?tk ?tw ?te ?lcM0 ?vPM0 ?nPM0 ?hCM0 ?atM0 ?lcM1 ?vPM1 ?nPM1 ?hCM1 ?atM1 ?lcM2 ?vPM2 ?nPM2 ?hCM2 ?atM2 ?lcM3 ?vPM3 ?nPM3 ?hCM3 ?atM3 ?nPP
    (case aCStatements => k_is)
    (case aE_StoreError => k_is)
    (case aE_BadText => k_is)
    (case i0 => k_is)
    (case ty0 => k_is)
    (case a0 => k_is)
    (case l0 => k_is)
    (case c0 => k_is)
    (case k0 => k_is)
    (case a1 => k_is)
    (case l1 => k_is)
    (case c1 => k_is)
    (case k1 => k_is)
    (case a2 => k_is)
    (case l2 => k_is)
    (case c2 => k_is)
    (case k2 => k_is)
    (case a3 => k_is)
    (case l3 => k_is)
    (case c3 => k_is)
    (case k3 => k_is)
    (case a4 => k_is)
    (case l4 => k_is)
    (case c4 => k_is)
    (case k4 => k_is)
    (case a5 => k_is)
    (case l5 => k_is)
    (case c5 => k_is)
    (case k5 => k_is)
    (case i6 => k_is)
    (case a6 => k_is)
    (case l6 => k_is)
    (case c6 => k_is)
    (case k6 => k_is)
    (case i7 => k_is)
    (case a7 => k_is)
    (case l7 => k_is)
    (case c7 => k_is)
    (case k7 => k_is)
    (case i8 => k_is)
    (case a8 => k_is)
    (case l8 => k_is)
    (case c8 => k_is)
    (case k8 => k_is)
    (case i9 => k_is)
    (case a9 => k_is)
    (case l9 => k_is)
    (case c9 => k_is)
    (case k9 => k_is)
    (case i10 => k_is)
    (case a10 => k_is)
    (case l10 => k_is)
    (case c10 => k_is)
    (case k10 => k_is)
    (case i11 => k_is)
    (case a11 => k_is)
    (case l11 => k_is)
    (case c11 => k_is)
    (case k11 => k_is)
    (case i12 => k_is)
    (case a12 => k_is)
    (case l12 => k_is)
    (case c12 => k_is)
    (case k12 => k_is)
    (case i13 => k_is)
    (case a13 => k_is)
    (case l13 => k_is)
    (case c13 => k_is)
    (case k13 => k_is)
    (case i14 => k_is)
    (case a14 => k_is)
    (case l14 => k_is)
    (case c14 => k_is)
    (case k14 => k_is)
    (case i15 => k_is)
    (case a15 => k_is)
    (case l15 => k_is)
    (case c15 => k_is)
    (case k15 => k_is)
    (case i16 => k_is)
    (case a16 => k_is)
    (case l16 => k_is)
    (case c16 => k_is)
    (case k16 => k_is)
    (case i17 => k_is)
    (case a17 => k_is)
    (case l17 => k_is)
    (case c17 => k_is)
    (case k17 => k_is)
    (case i18 => k_is)
    (case a18 => k_is)
    (case l18 => k_is)
    (case c18 => k_is)
    (case k18 => k_is)
    (case i19 => k_is)
    (case a19 => k_is)
    (case l19 => k_is)
    (case c19 => k_is)
    (case k19 => k_is)
    (case i20 => k_is)
    (case a20 => k_is)
    (case l20 => k_is)
    (case c20 => k_is)
    (case k20 => k_is)
    (case i21 => k_is)
    (case a21 => k_is)
    (case l21 => k_is)
    (case c21 => k_is)
    (case k21 => k_is)
    (case i22 => k_is)
    (case a22 => k_is)
    (case l22 => k_is)
    (case c22 => k_is)
    (case k22 => k_is)
    (case i23 => k_is)
    (case a23 => k_is)
    (case l23 => k_is)
    (case c23 => k_is)
    (case k23 => k_is)
    (case i24 => k_is)
    (case a24 => k_is)
    (case l24 => k_is)
    (case c24 => k_is)
    (case k24 => k_is)
    (case i25 => k_is)
    (case a25 => k_is)
    (case l25 => k_is)
    (case c25 => k_is)
    (case k25 => k_is)
    (case i26 => k_is)
    (case a26 => k_is)
    (case l26 => k_is)
    (case c26 => k_is)
    (case k26 => k_is)
    (case i27 => k_is)
    (case a27 => k_is)
    (case l27 => k_is)
    (case c27 => k_is)
    (case k27 => k_is)
    (case i28 => k_is)
    (case a28 => k_is)
    (case l28 => k_is)
    (case c28 => k_is)
    (case k28 => k_is)
    (case i29 => k_is)
    (case a29 => k_is)
    (case l29 => k_is)
    (case c29 => k_is)
    (case k29 => k_is)
    (case i30 => k_is)
    (case a30 => k_is)
    (case l30 => k_is)
    (case c30 => k_is)
    (case k30 => k_is)
    (case a31 => k_is)
    (case l31 => k_is)
    (case c31 => k_is)
    (case k31 => k_is)
    (case a32 => k_is)
    (case l32 => k_is)
    (case c32 => k_is)
    (case k32 => k_is)
    (case lq32 => k_is)
    (case a33 => k_is)
    (case l33 => k_is)
    (case c33 => k_is)
    (case k33 => k_is)
    (case a34 => k_is)
    (case l34 => k_is)
    (case c34 => k_is)
    (case k34 => k_is)
    (case a35 => k_is)
    (case l35 => k_is)
    (case c35 => k_is)
    (case k35 => k_is)
    (case a36 => k_is)
    (case l36 => k_is)
    (case c36 => k_is)
    (case k36 => k_is)
    (case a37 => k_is)
    (case l37 => k_is)
    (case c37 => k_is)
    (case k37 => k_is)
    (case a38 => k_is)
    (case l38 => k_is)
    (case c38 => k_is)
    (case k38 => k_is)
    (case a39 => k_is)
    (case l39 => k_is)
    (case c39 => k_is)
    (case k39 => k_is)
    (case a40 => k_is)
    (case l40 => k_is)
    (case c40 => k_is)
    (case k40 => k_is)
    (case a41 => k_is)
    (case l41 => k_is)
    (case c41 => k_is)
    (case k41 => k_is)
    (case a42 => k_is)
    (case l42 => k_is)
    (case c42 => k_is)
    (case k42 => k_is)
    (case a43 => k_is)
    (case l43 => k_is)
    (case c43 => k_is)
    (case k43 => k_is)
    (case a44 => k_is)
    (case l44 => k_is)
    (case c44 => k_is)
    (case k44 => k_is)
    (case a45 => k_is)
    (case l45 => k_is)
    (case c45 => k_is)
    (case k45 => k_is)
    (case a46 => k_is)
    (case l46 => k_is)
    (case c46 => k_is)
    (case k46 => k_is)
    (case a47 => k_is)
    (case l47 => k_is)
    (case c47 => k_is)
    (case k47 => k_is)
    (case a48 => k_is)
    (case l48 => k_is)
    (case c48 => k_is)
    (case k48 => k_is)
    (case a49 => k_is)
    (case l49 => k_is)
    (case c49 => k_is)
    (case k49 => k_is)
    (case a50 => k_is)
    (case l50 => k_is)
    (case c50 => k_is)
    (case k50 => k_is)
    (case a51 => k_is)
    (case l51 => k_is)
    (case c51 => k_is)
    (case k51 => k_is)
    (case pgStatements => k_is)
    (case hdStatements => k_is)
    (case poStatements => k_is)
    (case saStatements => k_is)
    (case mkStatements => k_is)
    (case kcStatements => k_is)
    (case nStatements_words => k_is)
    (case nStatements_at => k_is)
    (case nStatements_deep => k_is)
    (case z_ValueError => k_is)
    (case z_len => k_is)
    (case z_int => k_is)
    (case z_tuple => k_is)
    (case z_str => k_is)
    (case z_list => k_is)
    (case z_max => k_is)
    (case z_isinstance => k_is)
    (case z_range => k_is)
    (case z_bool => k_is)
    (case z_sorted => k_is)
    (case ei_StoreError => k_is)
    (case et_StoreError => k_is)
    (case er_StoreError => k_is)
    (case eu_StoreError => k_is)
    (case evi_StoreError => k_is)
    (case en => k_is)
    (case ey => k_is)
    (case lk_BadText => k_is)
    (case rv_BadText => rfl)
    (case sa_BadText => k_is)
    (case es_BadText => k_is)
    (case et_BadText => k_is)
    (case ek_BadText => k_is)
    (case eg_BadText => k_is)
    (case eh_BadText => k_is)
    (case ed_BadText => k_is)
    (case ec_BadText => k_is)
    (case em_BadText => k_is)
    (case ei_BadText => k_is)
    (case eq_BadText => k_is)
    (case eb_BadText => k_is)
    (case ev_BadText => k_is)
    (case np_BadText => k_is)
    (case tgLETTERS => k_is)
    (case tgFIGURES => k_is)
    (case tgTERM => k_is)
    (case tgCOND => k_is)
    (case tgMOST_SIGNS => k_is)
    (case tgMOST_FIGURES => k_is)
    (case tgMOST_FIELDS => k_is)
    (case tgMOST_TABLES => k_is)
    (case tgMOST_TERMS => k_is)
    (case tgMOST_BY => k_is)
    (case tgMOST_SETS => k_is)
    (case tgMOST_WITHIN => k_is)
    (case qgOWN => k_is)
    (case qlOWN => k_is)
    (case qeOWN => first | rfl | decide +kernel)
    (case qgSIGNS => k_is)
    (case qlSIGNS => k_is)
    (case qeSIGNS => first | rfl | decide +kernel)
    (case qgALONE => k_is)
    (case qlALONE => k_is)
    (case qeALONE => first | rfl | decide +kernel)
    (case qgSUMMING => k_is)
    (case qlSUMMING => k_is)
    (case qeSUMMING => first | rfl | decide +kernel)
    (case qgASKING => k_is)
    (case qlASKING => k_is)
    (case qeASKING => first | rfl | decide +kernel)
    (case qgCOMPARING => k_is)
    (case qlCOMPARING => k_is)
    (case qeCOMPARING => first | rfl | decide +kernel)
    (case ta => k_is)
    (case tl => k_is)
    (case tk => k_keys)
    (case tw => decide)
    (case te => first | rfl | decide +kernel)
    (case lcM0 => k_is)
    (case vPM0 => rfl)
    (case nPM0 => first | rfl | decide +kernel)
    (case hCM0 => first | rfl | decide +kernel)
    (case atM0 => exact PySem.W.km_tabs_of Y _ (by decide))
    (case lcM1 => k_is)
    (case vPM1 => rfl)
    (case nPM1 => first | rfl | decide +kernel)
    (case hCM1 => first | rfl | decide +kernel)
    (case atM1 => exact PySem.W.km_tabs_of Y _ (by decide))
    (case lcM2 => k_is)
    (case vPM2 => rfl)
    (case nPM2 => first | rfl | decide +kernel)
    (case hCM2 => first | rfl | decide +kernel)
    (case atM2 => exact PySem.W.km_tabs_of Y _ (by decide))
    (case lcM3 => k_is)
    (case vPM3 => rfl)
    (case nPM3 => first | rfl | decide +kernel)
    (case hCM3 => first | rfl | decide +kernel)
    (case atM3 => exact PySem.W.km_tabs_of Y _ (by decide))
    (case nPP => decide)

