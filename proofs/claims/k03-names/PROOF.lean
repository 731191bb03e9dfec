import PyProof.Rows.All
import Wide.All
import OpenK.AllK
import Wide.FinOn
import HandS.Style
import HandS.ForMost
import HandS.Strs
import HandS.TupAny
import HandS.IsInst
import HandS.More
import HandS.Walk
import HandS.ReCall
import HandS.Evl
import HandS.Lambda
import HandS.Nested
import KE.KDflt
import HandS.WordsExc
import HandS.ExcOwn
import HandS.ExcIs
import HandS.SetFor
import HandS.Small
import PyProof.EqKinds
import PyProof.SeqRoads
import PyProof.ListOps
import HandS.DictTup
import PyProof.DictMoreH
import HandS.ExcInit
import HandS.MakeKwOnly
import HandS.ClsMeth
import HandS.ExcField
import HandS.TryMany
import HandS.Words
import KE.SortKeyHeap
import HandS.SortKw
import HandS.TupSets
import KE.SortData
import HandS.SetKeys
import HandS.DictSubView
import HandS.WordsDict
import KE.GoesMore
import HandS.Comp
import HandS.Exc
import PyProof.StrOps2
import HandS.EndTab
import PySem.Challenge.RW_granary_k03_names_looked_up
set_option Elab.async false
set_option linter.all false
set_option maxRecDepth 100000
set_option maxHeartbeats 4000000
namespace G7
open PySem PySem.Spec PyProof.Rows L2

/-! ### heaps: all that was tracked stands, but at some addresses -/
def Keep (ms : List Addr) (H H' : Hp) : Prop := ∀ b o, b ∉ ms → H b = some o → H' b = some o
theorem Keep.refl {ms : List Addr} {H : Hp} : Keep ms H H := fun _ _ _ h => h
theorem Keep.trans {ms : List Addr} {H H1 H2 : Hp} (a : Keep ms H H1) (b : Keep ms H1 H2) : Keep ms H H2 := fun c o n h => b c o n (a c o n h)
theorem Keep.mono {ms ms' : List Addr} {H H1 : Hp} (a : Keep ms H H1) (s : ∀ b, b ∈ ms → b ∈ ms') : Keep ms' H H1 := fun c o n h => a c o (fun m => n (s c m)) h
theorem Keep.same {H H1 : Hp} (a : Keep [] H H1) : Same H H1 := fun c o h => a c o (by simp) h
theorem Keep.ofSame {ms : List Addr} {H H1 : Hp} (a : Same H H1) : Keep ms H H1 := fun c o _ h => a c o h
theorem Keep.new {ms : List Addr} {H : Hp} {p : Addr} {o : HO} (h : H p = none) : Keep ms H (upd H p o) := fun a u _ e => by
  rw [upd_ne (ne_of_none e h)]
  exact e
theorem Keep.thenNew {ms : List Addr} {H H1 : Hp} {p : Addr} {o : HO} (k : Keep ms H H1) (h : H1 p = none) : Keep ms H (upd H1 p o) := k.trans (Keep.new h)
theorem Keep.upd {ms : List Addr} {H H1 : Hp} {p : Addr} {o : HO} (k : Keep ms H H1) (h : p ∈ ms) : Keep ms H (L2.upd H1 p o) := fun a u n e => by
  rw [upd_ne (fun z => n (by rw [z]; exact h))]
  exact k a u n e
/-- an address that H does not know may change -/
theorem Keep.updFree {ms : List Addr} {H H1 : Hp} {p : Addr} {o : HO} (k : Keep ms H H1) (h : H p = none) : Keep ms H (L2.upd H1 p o) := fun a u n e => by
  rw [upd_ne (ne_of_none e h)]
  exact k a u n e
theorem Keep.free {H H1 : Hp} {p : Addr} (k : Keep [] H H1) (h : H1 p = none) : H p = none := k.same.free h
theorem same_new {H : Hp} {p : Addr} {o : HO} (h : H p = none) : Same H (upd H p o) := fun a u e => by
  rw [upd_ne (ne_of_none e h)]
  exact e
theorem Same.updFree {H H1 : Hp} {p : Addr} {o : HO} (k : Same H H1) (h : H p = none) : Same H (L2.upd H1 p o) := fun a u e => by
  rw [upd_ne (ne_of_none e h)]
  exact k a u e
theorem free_keep {ms : List Addr} {H H1 : Hp} {p : Addr} (k : Keep ms H H1) (n : p ∉ ms) (h : H1 p = none) : H p = none := by
  cases q : H p with
  | none => rfl
  | some o =>
    rw [k p o n q] at h
    cases h
theorem Keep.rd {ms : List Addr} {H H1 : Hp} {a : Addr} {u : HO} (k : Keep ms H H1) (n : a ∉ ms) (h : Rd H a u) : Rd H1 a u := by
  rcases h with h | ⟨o, h⟩
  · exact .inl (k _ _ n h)
  · exact .inr ⟨o, k _ _ n h⟩
theorem int_at {ns : List Int} {i : Nat} {y : V} (h : (ns.map V.int)[i]? = some y) : ∃ z, ns[i]? = some z ∧ y = V.int z := by
  rw [List.getElem?_map] at h
  cases e : ns[i]? with
  | none => rw [e] at h; cases h
  | some z => rw [e] at h; exact ⟨z, rfl, (Option.some.inj h).symm⟩
theorem str_at {ns : List Str} {i : Nat} {y : V} (h : (ns.map V.str)[i]? = some y) : ∃ z, ns[i]? = some z ∧ y = V.str z := by
  rw [List.getElem?_map] at h
  cases e : ns[i]? with
  | none => rw [e] at h; cases h
  | some z => rw [e] at h; exact ⟨z, rfl, (Option.some.inj h).symm⟩
theorem szl {n : Nat} (h : n ≤ 100000) : n ≤ sizeLine := Nat.le_trans h (by decide)
theorem szl' {n : Nat} (h : n < 100000) : n < sizeLine := Nat.lt_of_lt_of_le h (by decide)
theorem hu64_of {A : Around} {k : Nat} (hr : Room k A) : A.units + 64 < cLine := by have := hr.un; omega
theorem map_int_inj {a b : List Int} (h : a.map V.int = b.map V.int) : a = b := by
  induction a generalizing b with
  | nil => cases b with
    | nil => rfl
    | cons _ _ => cases h
  | cons x r ih => cases b with
    | nil => cases h
    | cons y s =>
      injection h with h1 h2
      injection h1 with h1
      rw [h1, ih h2]

/-! ### data -/
theorem dpAll_ints (K : PySem.W.Frag) (H : Hp) : ∀ ns : List Int, DpAll K H (ns.map V.int) (ns.map PyData.int)
  | [] => .nil
  | n :: r => .cons (.int n) (dpAll_ints K H r)

/-! ### the draw box of the laws: [cells, stirred] -/
def BoxA (H : Hp) (h l : Addr) : Prop := ∃ (ns : List Int) (st : Int), H h = some (.lst [.ref l, .int st]) ∧ H l = some (.lst (ns.map V.int)) ∧ ns.length ≤ 100000
theorem BoxA.ne {H : Hp} {h l : Addr} (b : BoxA H h l) : h ≠ l := by
  obtain ⟨ns, st, e1, e2, _⟩ := b
  rintro rfl
  rw [e1] at e2
  injection e2 with e2
  injection e2 with e2
  cases ns with
  | nil => cases e2
  | cons n r => injection e2 with e3 _; cases e3
theorem BoxA.muts {H : Hp} {h l : Addr} (b : BoxA H h l) : ∀ m, m ∈ [h, l] → ∃ o, H m = some o ∧ Mut (some o) := by
  obtain ⟨ns, st, e1, e2, _⟩ := b
  intro m hm
  simp only [List.mem_cons, List.mem_nil_iff, or_false] at hm
  rcases hm with rfl | rfl
  · exact ⟨_, e1, trivial⟩
  · exact ⟨_, e2, trivial⟩
theorem BoxA.keep {ms : List Addr} {H H' : Hp} {h l : Addr} (b : BoxA H h l) (k : Keep ms H H') (n1 : h ∉ ms) (n2 : l ∉ ms) : BoxA H' h l := by
  obtain ⟨ns, st, e1, e2, e3⟩ := b
  exact ⟨ns, st, k _ _ n1 e1, k _ _ n2 e2, e3⟩
theorem BoxA.same {H H' : Hp} {h l : Addr} (b : BoxA H h l) (k : Same H H') : BoxA H' h l := b.keep (ms := []) (Keep.ofSame k) (by simp) (by simp)
end G7

set_option linter.all false
set_option Elab.async false
set_option maxRecDepth 100000
set_option maxHeartbeats 4000000
namespace G7
open PySem PySem.Spec PyProof.Rows L2
/-! ### rules of our own, by what stands in the abstract heap -/
/-- what may be read as a list, a tuple, a dict -/
def lsO : Option HO → Option (List V)
  | some (.lst xs) => some xs
  | some (.frz _ (.lst xs)) => some xs
  | _ => none
def tpO : Option HO → Option (List V)
  | some (.tup xs) => some xs
  | some (.frz _ (.tup xs)) => some xs
  | _ => none
def dkO : Option HO → Option (List (Key × V))
  | some (.dK xs) => some xs
  | some (.frz _ (.dK xs)) => some xs
  | _ => none
theorem rd_lsO {H : Hp} {a : Addr} {xs : List V} (h : lsO (H a) = some xs) : Rd H a (.lst xs) := by
  unfold lsO at h
  split at h
  · rename_i e; cases h; exact .inl e
  · rename_i o _ e; cases h; exact .inr ⟨o, e⟩
  · cases h
theorem rd_tpO {H : Hp} {a : Addr} {xs : List V} (h : tpO (H a) = some xs) : Rd H a (.tup xs) := by
  unfold tpO at h
  split at h
  · rename_i e; cases h; exact .inl e
  · rename_i o _ e; cases h; exact .inr ⟨o, e⟩
  · cases h
theorem rd_dkO {H : Hp} {a : Addr} {xs : List (Key × V)} (h : dkO (H a) = some xs) : Rd H a (.dK xs) := by
  unfold dkO at h
  split at h
  · rename_i e; cases h; exact .inl e
  · rename_i o _ e; cases h; exact .inr ⟨o, e⟩
  · cases h
theorem lsO_l {xs : List V} : lsO (some (.lst xs)) = some xs := rfl
theorem lsO_f {o : Obj} {xs : List V} : lsO (some (.frz o (.lst xs))) = some xs := rfl
theorem tpO_t {xs : List V} : tpO (some (.tup xs)) = some xs := rfl
theorem tpO_f {o : Obj} {xs : List V} : tpO (some (.frz o (.tup xs))) = some xs := rfl
theorem dkO_d {xs : List (Key × V)} : dkO (some (.dK xs)) = some xs := rfl
theorem dkO_f {o : Obj} {xs : List (Key × V)} : dkO (some (.frz o (.dK xs))) = some xs := rfl
theorem lay_ints : ∀ ns : List Int, PyData.canLayAll0 (ns.map PyData.int) = true
  | [] => by simp [PyData.canLayAll0]
  | n :: r => by simp [PyData.canLayAll0, PyData.canLay0, lay_ints r]
theorem depth_ints : ∀ ns : List Int, PyData.depthAll (ns.map PyData.int) ≤ 1
  | [] => by simp [PyData.depthAll]
  | n :: r => by
    have h := depth_ints r
    simp only [List.map_cons, PyData.depthAll, PyData.depth]
    omega
theorem shaped_ints (ns : List Int) : SeqAt.shaped (.list (ns.map PyData.int)) = true := by
  have h1 := depth_ints ns
  have h2 : PyData.depth (.list (ns.map PyData.int)) ≤ 64 := by
    simp only [PyData.depth]
    omega
  unfold SeqAt.shaped
  rw [Bool.and_eq_true]
  exact ⟨by simp only [PyData.canLay0]; exact lay_ints ns, decide_eq_true h2⟩
section
variable {X : Cx}
theorem ixImp {r r' : R2} (h : IxR X r) (i : ∀ x y H Q, r' x y H Q → r x y H Q) : IxR X r' := fun a b p s σ H x y v u Q I rx ry q e => h a b p s σ H x y v u Q I rx ry (i _ _ _ _ q) e
theorem opImp {f : Value → Value → Sem Value} {r r' : R2} (h : OpR X f r) (i : ∀ x y H Q, r' x y H Q → r x y H Q) : OpR X f r' := fun p s σ H x y v u Q I rx ry q => h p s σ H x y v u Q I rx ry (i _ _ _ _ q)
theorem callImp {f : Value} {r r' : List V → Hp → VK → Prop} (h : CallR X f r) (i : ∀ x H Q, r' x H Q → r x H Q) : CallR X f r' := fun p s σ H x u Q I rx q => h p s σ H x u Q I rx (i _ _ _ q)
def rIxH : R2 := fun x y H Q => ∃ p xs i v, x = .ref p ∧ y = .int i ∧ lsO (H p) = some xs ∧ atI xs i = some v ∧ Q v H
def rIxU : R2 := fun x y H Q => ∃ p xs i v, x = .ref p ∧ y = .int i ∧ tpO (H p) = some xs ∧ atI xs i = some v ∧ Q v H
theorem ix_lst : IxR X rIxH := ixImp ix_list fun x y H Q ⟨p, xs, i, v, e1, e2, h, a, q⟩ => ⟨p, xs, i, v, e1, e2, .inl (rd_lsO h), a, q⟩
theorem ix_tp : IxR X rIxU := ixImp ix_tup fun x y H Q ⟨p, xs, i, v, e1, e2, h, a, q⟩ => ⟨p, xs, i, v, e1, e2, .inl (rd_tpO h), a, q⟩
def cLenL : List V → Hp → VK → Prop := fun vs H Q => ∃ p xs, vs = [.ref p] ∧ lsO (H p) = some xs ∧ Q (.int (xs.length : Int)) H
def cLenT : List V → Hp → VK → Prop := fun vs H Q => ∃ p xs, vs = [.ref p] ∧ tpO (H p) = some xs ∧ Q (.int (xs.length : Int)) H
theorem len_lst : CallR X (.builtin "len") cLenL := callImp call_len_seq fun vs H Q ⟨p, xs, e, h, q⟩ => ⟨p, xs, e, .inl (.inl (rd_lsO h)), q⟩
theorem len_tp : CallR X (.builtin "len") cLenT := callImp call_len_seq fun vs H Q ⟨p, xs, e, h, q⟩ => ⟨p, xs, e, .inr (.inl (rd_tpO h)), q⟩
def cListL : List V → Hp → VK → Prop := fun vs H Q => ∃ p xs, vs = [.ref p] ∧ lsO (H p) = some xs ∧ ∀ l, H l = none → Q (.ref l) (upd H l (.lst xs))
def cListT : List V → Hp → VK → Prop := fun vs H Q => ∃ p xs, vs = [.ref p] ∧ tpO (H p) = some xs ∧ ∀ l, H l = none → Q (.ref l) (upd H l (.lst xs))
theorem list_tp : CallR X (.type "list") cListT := callImp call_list_of fun vs H Q ⟨p, xs, e, h, q⟩ => ⟨p, xs, e, .inr (.inl (rd_tpO h)), q⟩
def cTupL : List V → Hp → VK → Prop := fun vs H Q => ∃ p xs, vs = [.ref p] ∧ lsO (H p) = some xs ∧ ∀ l, H l = none → Q (.ref l) (upd H l (.tup xs))
theorem tuple_lst : CallR X (.type "tuple") cTupL := callImp call_tuple_of fun vs H Q ⟨p, xs, e, h, q⟩ => ⟨p, xs, e, .inl ⟨.inl (rd_lsO h), q⟩⟩
/-- int of a bool, of an int -/
def cIntB : List V → Hp → VK → Prop := fun vs H Q => ∃ b, vs = [.bl b] ∧ Q (.int (if b then 1 else 0)) H
theorem int_bl : CallR X (.type "int") cIntB := callImp call_int1 fun vs H Q ⟨b, e, q⟩ => .inr ⟨b, e, q⟩
/-- all(..) of a list of bools -/
def cAll : List V → Hp → VK → Prop := fun vs H Q => ∃ (p : Addr) (bs : List Bool), vs = [.ref p] ∧ lsO (H p) = some (bs.map V.bl) ∧ Q (.bl (bs.all id)) H
/-- a list of ints against [] -/
def rEqNilI : R2 := fun x y H Q => ∃ (p q : Addr) (ns : List Int), x = .ref p ∧ y = .ref q ∧ lsO (H p) = some (ns.map V.int) ∧ lsO (H q) = some [] ∧ Q (.bl ns.isEmpty) H
theorem op_eqNilI (hu : X.A.units + 64 < cLine) : OpR X (compareOp .Eq) rEqNilI := opImp (op_eqD hu) fun x y H Q ⟨p, q, ns, e1, e2, h1, h2, k⟩ => by
  refine ⟨.list (ns.map PyData.int), .list [], e1 ▸ .lst (.inl (rd_lsO h1)) (dpAll_ints X.K H ns), e2 ▸ .lst (.inl (rd_lsO h2)) .nil, ?_, rfl, ?_⟩
  · exact shaped_ints ns
  · cases ns with
    | nil => exact k
    | cons n r => exact k
/-! a reading that lets what follows be weaker -/
def tM (t : TE) : TE := fun σ H Q => ∃ Q0 : VK, t σ H Q0 ∧ ∀ x H1, Q0 x H1 → Q x H1
theorem pe_m {e : Expr} {t : TE} (h : PE X e t) : PE X e (tM t) := ⟨fun pins s σ H Q I ⟨Q0, h0, q⟩ => thn (h.run pins s σ H Q0 I h0) fun u s' ⟨v, H', I', r, k⟩ => ⟨v, H', I', r, q v H' k⟩⟩
theorem tM_of {t : TE} {σ : L2.St} {H : Hp} {Q Q' : VK} (h : t σ H Q) (i : ∀ x H1, Q x H1 → Q' x H1) : tM t σ H Q' := ⟨Q, h, i⟩
theorem PE.imp' {e : Expr} {t t' : TE} (h : PE X e t) (i : ∀ σ H Q, t' σ H Q → t σ H Q) : PE X e t' := ⟨fun pins s σ H Q I q => h.run pins s σ H Q I (i σ H Q q)⟩
theorem PS.imp' {e : Stmt} {t t' : TS} (h : PS X e t) (i : ∀ D σ H, t' D σ H → t D σ H) : PS X e t' := ⟨fun pins s σ H D I q => h.run pins s σ H D I (i D σ H q)⟩
def keyO : V → Option Key
  | .int i => some (.inl i)
  | .str s => some (.inr s)
  | _ => none
theorem keyO_eq {y : V} {k : Key} (h : keyO y = some k) : y = kV k := by
  cases y <;> cases h <;> rfl
theorem keyO_i {i : Int} : keyO (.int i) = some (.inl i) := rfl
theorem keyO_s {s : Str} : keyO (.str s) = some (.inr s) := rfl
theorem dget_of {H : Hp} {a : Addr} {y : V} {kvs : List (Key × V)} {k : Key} (h : dkO (H a) = some kvs) (e : keyO y = some k) : DGet H a y (valV kvs k) := .inl ⟨kvs, k, rd_dkO h, keyO_eq e, rfl⟩
/-- d.get(k, x) -/
def tGet2 (td ty tx : TE) : TE := fun σ H Q => td σ H fun x H1 => ∃ a kvs, x = .ref a ∧ dkO (H1 a) = some kvs ∧ ty σ H1 fun y H2 => tx σ H2 fun z H3 => ∃ kvs k, dkO (H3 a) = some kvs ∧ keyO y = some k ∧ Q ((valV kvs k).getD z) H3
theorem pe_get2 {o e f : Expr} {td ty tx : TE} {apos cpos : Pos} (hu : X.A.units + 1 < cLine) (ho : PE X o td) (he : PE X e ty) (hf : PE X f tx)
    (h1 : attributeBase o "get" X.env (eval o X.env) = eval o X.env := by rfl)
    (h2 : ((backTo cpos (starEach [e, f] X.env)).all (fun x => !x.1) && (backToKw cpos (keywordEach [] X.env)).all (fun x => x.1.isSome) && decide (([e, f] : List Expr).length + ([] : List Keyword).length + (if ([] : List Keyword).isEmpty then 0 else 1) < 30)) = true := by rfl)
    (h3 : (apos.endLine == cpos.line) = true := by rfl) (h4 : backTo cpos (starEach [e, f] X.env) = [(false, eval e X.env), (false, eval f X.env)] := by rfl) :
    PE X (.Call (.Attribute o "get" apos) [e, f] [] cpos) (tGet2 td ty tx) :=
  PE.imp' (pe_dget2 hu (pe_m ho) (pe_m he) (pe_m hf) ⟨h1, h2, h3, h4⟩) fun σ H Q h => by
    refine tM_of h fun x H1 h => ?_
    obtain ⟨a, kvs, e1, e2, q⟩ := h
    refine ⟨a, e1, .inl ⟨kvs, rd_dkO e2⟩, tM_of q fun y H2 q => tM_of q fun z H3 q => ?_⟩
    obtain ⟨kvs, k, e3, e4, q⟩ := q
    exact ⟨_, dget_of e3 e4, q⟩
/-- d[k] -/
def tGetI (td ty : TE) : TE := fun σ H Q => td σ H fun x H1 => ty σ H1 fun y H2 => ∃ a kvs k v, x = .ref a ∧ dkO (H2 a) = some kvs ∧ keyO y = some k ∧ valV kvs k = some v ∧ Q v H2
theorem pe_getI {o i : Expr} {td ty : TE} {pos : Pos} (hu : X.A.units + 1 < cLine) (ho : PE X o td) (hi : PE X i ty) (hs : NoSl i) : PE X (.Subscript o i pos) (tGetI td ty) :=
  PE.imp' (pe_dget hu (pe_m ho) (pe_m hi) hs) fun σ H Q h => by
    refine tM_of h fun x H1 q => tM_of q fun y H2 q => ?_
    obtain ⟨a, kvs, k, v, e1, e2, e3, e4, q⟩ := q
    exact ⟨a, v, e1, by rw [← e4]; exact dget_of e2 e3, q⟩
/-- d[k] = v -/
def sPut (td ty tv : TE) : TS := fun D σ H => tv σ H fun v H1 => td σ H1 fun x H2 => ty σ H2 fun y H3 => ∃ a kvs k, x = .ref a ∧ H3 a = some (.dK kvs) ∧ keyO y = some k ∧ kvs.length < sizeLine ∧ D.nx σ (upd H3 a (.dK (putK kvs k v)))
theorem ps_put {o i value : Expr} {td ty tv : TE} {pos pos' : Pos} (hu : X.A.units + 1 < cLine) (ho : PE X o td) (hi : PE X i ty) (hv : PE X value tv) (hs : swapsWith value (some (.Subscript o i pos')) pos.line X.env = pure false) :
    PS X (.Assign [.Subscript o i pos'] value pos) (sPut td ty tv) :=
  PS.imp' (ps_dput hu (pe_m ho) (pe_m hi) (pe_m hv) hs) fun D σ H h => by
    refine tM_of h fun v H1 q => tM_of q fun x H2 q => tM_of q fun y H3 q => ?_
    obtain ⟨a, kvs, k, e1, e2, e3, e4, q⟩ := q
    exact ⟨a, _, e1, .inl ⟨kvs, k, e2, keyO_eq e3, e4, rfl⟩, q⟩
/-! tuples whose object is known: their methods may be called -/
def tTupF (t : TA) : TE := fun σ H Q => t σ H fun xs H1 => xs.length ≤ sizeLine ∧ ∀ p o, H1 p = none → o.cls = .type "tuple" → o.dict = none → Q (.ref p) (upd H1 p (.frz o (.tup xs)))
/-- a slice of a tuple; the whole of it is the tuple itself -/
def rSlF : V → Option Int → Option Int → Hp → VK → Prop := fun x lo hi H Q => ∃ a xs, x = .ref a ∧ tpO (H a) = some xs ∧
  (HT.sIx xs.length 0 lo = 0 ∧ HT.sIx xs.length xs.length hi = xs.length → Q (.ref a) H) ∧
  (¬ (HT.sIx xs.length 0 lo = 0 ∧ HT.sIx xs.length xs.length hi = xs.length) → ∀ p o, H p = none → o.cls = .type "tuple" → o.dict = none → Q (.ref p) (upd H p (.frz o (.tup (cutV xs lo hi)))))
theorem sl_tupF : SlR X rSlF := by
  intro pins s σ H x v vl vu lo hi sl Q I rx hs pl pu h
  obtain ⟨a, xs, rfl, hx, q1, q2⟩ := h
  by_cases hw : HT.sIx xs.length 0 lo = 0 ∧ HT.sIx xs.length xs.length hi = xs.length
  · exact sl_tupA pins s σ H _ v vl vu lo hi sl Q I rx hs pl pu ⟨a, xs, rfl, .inl (rd_tpO hx), q1, fun n => absurd hw n⟩
  · cases rx
    obtain ⟨its, r, ht, hz⟩ := I.tuple (show SqT X.K H a xs from .inl (rd_tpO hx))
    have hlen : its.toArray.size = xs.length := by rw [List.size_toArray]; exact r.length.symm
    refine ⟨"tuple", _, PyProof.Rows.slot_tuple_getitem.lookup, ht.typeIs, ?_⟩
    refine HT.getItem_tuple_cut ht hs pl pu (by rw [hlen]; exact hw) ?_ (by rw [hlen]; exact hz)
    rw [hlen]
    refine ⟨.ref s.heap.objs.size, _, I.laid (t' := s.toks) (o := .frz { cls := .type "tuple", data := .seq ((its.toArray.toList.drop (HT.sIx xs.length 0 lo)).take (HT.sIx xs.length xs.length hi - HT.sIx xs.length 0 lo)).toArray } (.tup (cutV xs lo hi))) (fun b ob q => Heap.get?_push_of_some _ q) (Nat.le_refl _) ?_, rfl, q2 hw _ _ (I.hok.fresh (Nat.le_refl _)) rfl rfl⟩
    · exact ⟨Heap.get?_push_size _ rfl, Nat.le_trans (cutV_length xs lo hi) hz, _, (r.drop (HT.sIx xs.length 0 lo)).take (HT.sIx xs.length xs.length hi - HT.sIx xs.length 0 lo), IsTup.new _ _⟩
/-- fields.index(word): fields a tuple of texts, its object known -/
def tyTup : V → Hp → Prop := fun x H => ∃ p o ys, x = .ref p ∧ H p = some (.frz o (.tup ys)) ∧ o.cls = .type "tuple" ∧ o.dict = none
def rTIdx : V → List V → Hp → VK → Prop := fun x xs H Q => ∃ (p : Addr) (fs : List Str) (z : Str) (j : Nat), x = .ref p ∧ xs = [.str z] ∧ tpO (H p) = some (fs.map V.str) ∧ fs[j]? = some z ∧ (∀ m, m < j → fs[m]? ≠ some z) ∧ Q (.int (j : Nat)) H
/-- a, b = t -/
def gTupH (n : Nat) (t : TGs) : TG := fun v σ H Q => ∃ a xs, v = .ref a ∧ tpO (H a) = some xs ∧ xs.length = n ∧ t xs σ H Q
theorem pg_tupH {es : List Expr} {k : Nat} {t : TGs} {n : Nat} {pos : Pos} (hc : X.calm = true) (h : PGs X es t)
    (hn : (assignEach es X.env).length = n := by rfl) (hst : (assignEach es X.env).findIdx? (·.1) = none := by rfl) : PG X (.Tuple es k pos) (gTupH n t) :=
  ⟨fun pins s σ H v u Q I r ⟨a, xs, e1, e2, e3, e4⟩ => (pg_tup hc h hn hst).run pins s σ H v u Q I r ⟨a, xs, e1, .inl (rd_tpO e2), e3, e4⟩⟩
/-! the same with the written part by name (under a comprehension's block) -/
theorem pi_tupK (K : PySem.W.Frag) (hK : X.K = K) {tg l : Expr} {tl : TE} (h : PE X l tl) : PI X tg l (iTup K tl) := hK ▸ pi_tup h
theorem pi_listK (K : PySem.W.Frag) (hK : X.K = K) {tg l : Expr} {tl : TE} (h : PE X l tl) : PI X tg l (iList K tl) := hK ▸ pi_list h
theorem op_eqDK (K : PySem.W.Frag) (hK : X.K = K) (hu : X.A.units + 64 < cLine) : OpR X (compareOp .Eq) (rEqD K) := hK ▸ op_eqD hu
theorem op_neDK (K : PySem.W.Frag) (hK : X.K = K) (hu : X.A.units + 64 < cLine) : OpR X (compareOp .NotEq) (rNeD K) := hK ▸ op_neD hu
theorem cx_K {CX : CXT} {P : Program} {w : World} {K : PySem.W.Frag} {mg : Str → Option Value} {base : Heap} {N : List Str} {q : Str} {sc : Scope} {f : Addr} {cd : Value} {A : Around} {outer : List Env} {s : Shared} {H : Hp} {E : XK} :
    (cxOf CX P w K mg base N q sc f cd A outer s H E).K = K := rfl
theorem cx_w {CX : CXT} {P : Program} {w : World} {K : PySem.W.Frag} {mg : Str → Option Value} {base : Heap} {N : List Str} {q : Str} {sc : Scope} {f : Addr} {cd : Value} {A : Around} {outer : List Env} {s : Shared} {H : Hp} {E : XK} :
    (cxOf CX P w K mg base N q sc f cd A outer s H E).w = w := rfl
theorem at0 {α : Type} {a : α} {r : List α} : atI (a :: r) 0 = some a := by
  unfold atI ixN
  rw [if_pos (by decide), if_pos (by rw [List.length_cons]; omega)]
  rfl
theorem at1 {α : Type} {a b : α} {r : List α} : atI (a :: b :: r) 1 = some b := by
  unfold atI ixN
  rw [if_pos (by decide), if_pos (by rw [List.length_cons, List.length_cons]; omega)]
  rfl
theorem at2 {α : Type} {a b c : α} {r : List α} : atI (a :: b :: c :: r) 2 = some c := by
  unfold atI ixN
  rw [if_pos (by decide), if_pos (by rw [List.length_cons, List.length_cons, List.length_cons]; omega)]
  rfl
theorem at3 {α : Type} {a b c d : α} {r : List α} : atI (a :: b :: c :: d :: r) 3 = some d := by
  unfold atI ixN
  rw [if_pos (by decide), if_pos (by rw [List.length_cons, List.length_cons, List.length_cons, List.length_cons]; omega)]
  rfl
theorem atN {α : Type} {xs : List α} {i : Int} (h0 : 0 ≤ i) : atI xs i = xs[i.toNat]? := by
  unfold atI ixN
  rw [if_pos h0]
  by_cases h : i < xs.length
  · rw [if_pos h]
    rfl
  · rw [if_neg h, List.getElem?_eq_none (by omega)]
    rfl
theorem ixs0 {n : Nat} : ixN (n + 1) 0 = some 0 := by
  unfold ixN
  rw [if_pos (by decide), if_pos (by omega)]
  rfl
theorem ixs1 {n : Nat} : ixN (n + 2) 1 = some 1 := by
  unfold ixN
  rw [if_pos (by decide), if_pos (by omega)]
  rfl
theorem ixs2 {n : Nat} : ixN (n + 3) 2 = some 2 := by
  unfold ixN
  rw [if_pos (by decide), if_pos (by omega)]
  rfl
theorem seq0 {n : Nat} : seqIndex? 0 (n + 1) = some 0 := by
  simp [seqIndex?]
theorem scal_ii {a b : Int} : scal (.int a) (.int b) = true := rfl
theorem scal_ss {a b : Str} : scal (.str a) (.str b) = true := rfl
theorem scal_bb {a b : Bool} : scal (.bl a) (.bl b) = true := rfl
theorem scal_nn : scal .non .non = true := rfl
theorem scal_ni {a : Int} : scal .non (.int a) = true := rfl
theorem scal_in {a : Int} : scal (.int a) .non = true := rfl
theorem scal_ns {a : Str} : scal .non (.str a) = true := rfl
theorem scal_sn {a : Str} : scal (.str a) .non = true := rfl
theorem tyV_list {K : PySem.W.Frag} {l : Addr} {H : Hp} (h : lsO (H l) ≠ none) : tyV K "list" (.ref l) H = True := by
  refine eq_true (.inl ⟨rfl, ?_⟩)
  cases e : lsO (H l) with
  | none => exact absurd e h
  | some xs => exact ⟨xs, .inl (rd_lsO e)⟩
theorem ex_map_int {ns : List Int} {P : List Int → Prop} : (∃ ms : List Int, ns.map V.int = ms.map V.int ∧ P ms) ↔ P ns :=
  ⟨fun ⟨ms, e, p⟩ => by rw [map_int_inj e]; exact p, fun p => ⟨ns, rfl, p⟩⟩
theorem ex_nil_int {P : List Int → Prop} : (∃ ms : List Int, [] = ms.map V.int ∧ P ms) ↔ P [] :=
  ⟨fun ⟨ms, e, p⟩ => (by
    cases ms with
    | nil => exact p
    | cons _ _ => cases e), fun p => ⟨[], rfl, p⟩⟩
theorem ex_cons_int {n : Int} {ns : List Int} {P : List Int → Prop} : (∃ ms : List Int, V.int n :: ns.map V.int = ms.map V.int ∧ P ms) ↔ P (n :: ns) := ex_map_int (ns := n :: ns)
end
/-! ### isinstance of a built-in class, by what stands in the heap -/
inductive TN where
  | non | bl | int | str | lst | tup | dct
def TN.nm : TN → String
  | .non => "NoneType"
  | .bl => "bool"
  | .int => "int"
  | .str => "str"
  | .lst => "list"
  | .tup => "tuple"
  | .dct => "dict"
def tyT : V → Hp → Option TN
  | .non, _ => some .non
  | .bl _, _ => some .bl
  | .int _, _ => some .int
  | .str _, _ => some .str
  | .ref p, H => match H p with
    | some (.lst _) => some .lst
    | some (.tup _) => some .tup
    | some (.dK _) => some .dct
    | some (.dT _) => some .dct
    | some (.frz _ (.tup _)) => some .tup
    | _ => none
  | _, _ => none
theorem tyT_ok {K : PySem.W.Frag} {x : V} {H : Hp} {a : TN} (h : tyT x H = some a) : TyX K H x (.type a.nm) := by
  cases x with
  | non => cases h; exact .base .non
  | bl b => cases h; exact .base (.bl b)
  | int b => cases h; exact .base (.int b)
  | str b => cases h; exact .base (.str b)
  | ref p =>
    unfold tyT at h
    dsimp only at h
    split at h
    · rename_i e; cases h; exact .base (.lst e)
    · rename_i e; cases h; exact .base (.tup e)
    · rename_i e; cases h; exact .base (.dK e)
    · rename_i e; cases h; exact .base (.dT e)
    · rename_i e; cases h; exact .fTuple e
    · cases h
  | _ => cases h
theorem tyT_n {H : Hp} : tyT .non H = some .non := rfl
theorem tyT_b {b : Bool} {H : Hp} : tyT (.bl b) H = some .bl := rfl
theorem tyT_i {b : Int} {H : Hp} : tyT (.int b) H = some .int := rfl
theorem tyT_s {b : Str} {H : Hp} : tyT (.str b) H = some .str := rfl
theorem tyT_r {p : Addr} {H : Hp} : tyT (.ref p) H = match H p with
    | some (.lst _) => some .lst
    | some (.tup _) => some .tup
    | some (.dK _) => some .dct
    | some (.dT _) => some .dct
    | some (.frz _ (.tup _)) => some .tup
    | _ => none := rfl
def isN (a : TN) (n : String) : Bool := (kitB a.nm n).getD false
theorem isn_non_bool : isN .non "bool" = false := by decide +kernel
theorem isn_non_int : isN .non "int" = false := by decide +kernel
theorem isn_non_str : isN .non "str" = false := by decide +kernel
theorem isn_non_tuple : isN .non "tuple" = false := by decide +kernel
theorem isn_non_list : isN .non "list" = false := by decide +kernel
theorem isn_non_dict : isN .non "dict" = false := by decide +kernel
theorem isn_bl_bool : isN .bl "bool" = true := by decide +kernel
theorem isn_bl_int : isN .bl "int" = true := by decide +kernel
theorem isn_bl_str : isN .bl "str" = false := by decide +kernel
theorem isn_bl_tuple : isN .bl "tuple" = false := by decide +kernel
theorem isn_bl_list : isN .bl "list" = false := by decide +kernel
theorem isn_bl_dict : isN .bl "dict" = false := by decide +kernel
theorem isn_int_bool : isN .int "bool" = false := by decide +kernel
theorem isn_int_int : isN .int "int" = true := by decide +kernel
theorem isn_int_str : isN .int "str" = false := by decide +kernel
theorem isn_int_tuple : isN .int "tuple" = false := by decide +kernel
theorem isn_int_list : isN .int "list" = false := by decide +kernel
theorem isn_int_dict : isN .int "dict" = false := by decide +kernel
theorem isn_str_bool : isN .str "bool" = false := by decide +kernel
theorem isn_str_int : isN .str "int" = false := by decide +kernel
theorem isn_str_str : isN .str "str" = true := by decide +kernel
theorem isn_str_tuple : isN .str "tuple" = false := by decide +kernel
theorem isn_str_list : isN .str "list" = false := by decide +kernel
theorem isn_str_dict : isN .str "dict" = false := by decide +kernel
theorem isn_lst_bool : isN .lst "bool" = false := by decide +kernel
theorem isn_lst_int : isN .lst "int" = false := by decide +kernel
theorem isn_lst_str : isN .lst "str" = false := by decide +kernel
theorem isn_lst_tuple : isN .lst "tuple" = false := by decide +kernel
theorem isn_lst_list : isN .lst "list" = true := by decide +kernel
theorem isn_lst_dict : isN .lst "dict" = false := by decide +kernel
theorem isn_tup_bool : isN .tup "bool" = false := by decide +kernel
theorem isn_tup_int : isN .tup "int" = false := by decide +kernel
theorem isn_tup_str : isN .tup "str" = false := by decide +kernel
theorem isn_tup_tuple : isN .tup "tuple" = true := by decide +kernel
theorem isn_tup_list : isN .tup "list" = false := by decide +kernel
theorem isn_tup_dict : isN .tup "dict" = false := by decide +kernel
theorem isn_dct_bool : isN .dct "bool" = false := by decide +kernel
theorem isn_dct_int : isN .dct "int" = false := by decide +kernel
theorem isn_dct_str : isN .dct "str" = false := by decide +kernel
theorem isn_dct_tuple : isN .dct "tuple" = false := by decide +kernel
theorem isn_dct_list : isN .dct "list" = false := by decide +kernel
theorem isn_dct_dict : isN .dct "dict" = true := by decide +kernel
def okN (n : String) : Prop := n = "bool" ∨ n = "int" ∨ n = "str" ∨ n = "tuple" ∨ n = "list" ∨ n = "dict"
theorem okn_bool : okN "bool" = True := eq_true (by unfold okN; simp)
theorem okn_int : okN "int" = True := eq_true (by unfold okN; simp)
theorem okn_str : okN "str" = True := eq_true (by unfold okN; simp)
theorem okn_tuple : okN "tuple" = True := eq_true (by unfold okN; simp)
theorem okn_list : okN "list" = True := eq_true (by unfold okN; simp)
theorem okn_dict : okN "dict" = True := eq_true (by unfold okN; simp)
theorem kit_isN {a : TN} {n : String} (h : okN n) : kitB a.nm n = some (isN a n) := by
  rcases h with rfl | rfl | rfl | rfl | rfl | rfl <;> cases a <;> decide +kernel
def cIsi : List V → Hp → VK → Prop := fun xs H Q => ∃ x n a, xs = [x, .ty n] ∧ okN n ∧ tyT x H = some a ∧ Q (.bl (isN a n)) H
theorem isi_h {X : Cx} : CallR X (.builtin "isinstance") cIsi := callImp call_isi fun xs H Q ⟨x, n, a, e, ok, t, q⟩ => ⟨x, .ty n, _, _, _, e, .ty n, tyT_ok t, kit_ty (kit_isN ok), q⟩
end G7

namespace G7
open PySem PySem.Spec PyProof.Rows L2
/-! ### promises of the draws -/
end G7

set_option linter.all false
set_option Elab.async false
set_option maxRecDepth 100000
set_option maxHeartbeats 4000000
namespace G7
open PySem PySem.Spec PyProof.Rows L2
theorem cpow18 : CPow 10 18 = True := eq_true ⟨by decide, by decide, by decide⟩
/-! ### words of the statements' trees -/
inductive Wd where
  | num | field | add | sub | mul | eq | lt | gt | le | ge | and | or | not
  deriving DecidableEq
def Wd.s : Wd → Str
  | .num => "num"
  | .field => "field"
  | .add => "+"
  | .sub => "-"
  | .mul => "*"
  | .eq => "="
  | .lt => "<"
  | .gt => ">"
  | .le => "<="
  | .ge => ">="
  | .and => "and"
  | .or => "or"
  | .not => "not"
def Wd.all : List Wd := [.num, .field, .add, .sub, .mul, .eq, .lt, .gt, .le, .ge, .and, .or, .not]
theorem Wd.s_inj : ∀ a b : Wd, (a.s = b.s) = (a = b) := by
  intro a b
  cases a <;> cases b <;> first | rfl | (apply propext; constructor <;> intro h <;> first | (revert h; decide +kernel) | cases h)
theorem ws_num : (Str.ofString "num" : Str) = Wd.s .num := rfl
theorem ws_field : (Str.ofString "field" : Str) = Wd.s .field := rfl
theorem ws_add : (Str.ofString "+" : Str) = Wd.s .add := rfl
theorem ws_sub : (Str.ofString "-" : Str) = Wd.s .sub := rfl
theorem ws_mul : (Str.ofString "*" : Str) = Wd.s .mul := rfl
theorem ws_eq : (Str.ofString "=" : Str) = Wd.s .eq := rfl
theorem ws_lt : (Str.ofString "<" : Str) = Wd.s .lt := rfl
theorem ws_gt : (Str.ofString ">" : Str) = Wd.s .gt := rfl
theorem ws_le : (Str.ofString "<=" : Str) = Wd.s .le := rfl
theorem ws_ge : (Str.ofString ">=" : Str) = Wd.s .ge := rfl
theorem ws_and : (Str.ofString "and" : Str) = Wd.s .and := rfl
theorem ws_or : (Str.ofString "or" : Str) = Wd.s .or := rfl
theorem ws_not : (Str.ofString "not" : Str) = Wd.s .not := rfl
/-! ### terms and conditions -/
inductive Tm where
  | num (n : Int)
  | fld (t f : Str)
  | op (o : Wd) (a b : Tm)
inductive Cd where
  | cmp (c : Wd) (a b : Tm)
  | neg (c : Cd)
  | con (o : Wd) (a b : Cd)
/-- the words stand where they may -/
def Wd.isOp : Wd → Bool
  | .add => true
  | .sub => true
  | .mul => true
  | _ => false
def Wd.isCmp : Wd → Bool
  | .eq => true
  | .lt => true
  | .gt => true
  | .le => true
  | .ge => true
  | _ => false
def Wd.isCon : Wd → Bool
  | .and => true
  | .or => true
  | _ => false
def Tm.ok : Tm → Bool
  | .num _ => true
  | .fld t f => PyData.strOk t && PyData.strOk f
  | .op o a b => o.isOp && a.ok && b.ok
def Cd.ok : Cd → Bool
  | .cmp c a b => c.isCmp && a.ok && b.ok
  | .neg c => c.ok
  | .con o a b => o.isCon && a.ok && b.ok
def Tm.deep : Tm → Nat
  | .op _ a b => max a.deep b.deep + 1
  | _ => 1
def Cd.deep : Cd → Nat
  | .cmp _ a b => max a.deep b.deep + 1
  | .neg c => c.deep + 1
  | .con _ a b => max a.deep b.deep + 1
def Tm.enc : Tm → PyData
  | .num n => .tuple [.str (Wd.s .num), .int n]
  | .fld t f => .tuple [.str (Wd.s .field), .str t, .str f]
  | .op o a b => .tuple [.str o.s, a.enc, b.enc]
def Cd.enc : Cd → PyData
  | .cmp c a b => .tuple [.str c.s, a.enc, b.enc]
  | .neg c => .tuple [.str (Wd.s .not), c.enc]
  | .con o a b => .tuple [.str o.s, a.enc, b.enc]
/-- v is the term in H -/
def RT (H : Hp) : V → Tm → Prop
  | v, .num n => ∃ a, v = .ref a ∧ H a = some (.tup [.str (Wd.s .num), .int n])
  | v, .fld t f => ∃ a, v = .ref a ∧ H a = some (.tup [.str (Wd.s .field), .str t, .str f])
  | v, .op o x y => ∃ a u w, v = .ref a ∧ H a = some (.tup [.str o.s, u, w]) ∧ RT H u x ∧ RT H w y
def RC (H : Hp) : V → Cd → Prop
  | v, .cmp c x y => ∃ a u w, v = .ref a ∧ H a = some (.tup [.str c.s, u, w]) ∧ RT H u x ∧ RT H w y
  | v, .neg c => ∃ a u, v = .ref a ∧ H a = some (.tup [.str (Wd.s .not), u]) ∧ RC H u c
  | v, .con o x y => ∃ a u w, v = .ref a ∧ H a = some (.tup [.str o.s, u, w]) ∧ RC H u x ∧ RC H w y
/-- None or a condition -/
def RCo (H : Hp) (v : V) : Option Cd → Prop
  | none => v = .non
  | some c => RC H v c
/-- tuples stand -/
def TupS (H H' : Hp) : Prop := ∀ a xs, H a = some (.tup xs) → H' a = some (.tup xs)
theorem TupS.refl {H : Hp} : TupS H H := fun _ _ h => h
theorem TupS.trans {H H1 H2 : Hp} (a : TupS H H1) (b : TupS H1 H2) : TupS H H2 := fun c o h => b c o (a c o h)
theorem TupS.ofSame {H H1 : Hp} (a : Same H H1) : TupS H H1 := fun c o h => a c _ h
theorem TupS.ofKeep {H H1 : Hp} {ms : List Addr} (n : ∀ m, m ∈ ms → ∃ o, H m = some o ∧ Mut (some o)) (a : Keep ms H H1) : TupS H H1 := fun c o h =>
  a c _ (fun m => by obtain ⟨u, e, mu⟩ := n c m; rw [h] at e; cases e; exact mu) h
theorem TupS.upd {H H1 : Hp} {p : Addr} {o u : HO} (a : TupS H H1) (h : H1 p = some u) (hu : ∀ xs, u ≠ .tup xs) : TupS H (L2.upd H1 p o) := fun c xs e => by
  have e1 := a c xs e
  rw [upd_ne (fun z => by rw [z, h] at e1; cases e1; exact hu _ rfl)]
  exact e1
theorem RT.tups {H H' : Hp} (s : TupS H H') : ∀ {t : Tm} {v : V}, RT H v t → RT H' v t
  | .num n, v, ⟨a, e, h⟩ => ⟨a, e, s _ _ h⟩
  | .fld t f, v, ⟨a, e, h⟩ => ⟨a, e, s _ _ h⟩
  | .op o x y, v, ⟨a, u, w, e, h, h1, h2⟩ => ⟨a, u, w, e, s _ _ h, RT.tups s h1, RT.tups s h2⟩
theorem RC.tups {H H' : Hp} (s : TupS H H') : ∀ {t : Cd} {v : V}, RC H v t → RC H' v t
  | .cmp o x y, v, ⟨a, u, w, e, h, h1, h2⟩ => ⟨a, u, w, e, s _ _ h, RT.tups s h1, RT.tups s h2⟩
  | .neg c, v, ⟨a, u, e, h, h1⟩ => ⟨a, u, e, s _ _ h, RC.tups s h1⟩
  | .con o x y, v, ⟨a, u, w, e, h, h1, h2⟩ => ⟨a, u, w, e, s _ _ h, RC.tups s h1, RC.tups s h2⟩
theorem RCo.tups {H H' : Hp} (s : TupS H H') {v : V} : ∀ {o : Option Cd}, RCo H v o → RCo H' v o
  | none, h => h
  | some c, h => RC.tups s h
theorem RT.dp {K : PySem.W.Frag} {H : Hp} : ∀ {t : Tm} {v : V}, RT H v t → Dp K H v t.enc
  | .num n, v, ⟨a, e, h⟩ => by rw [e]; exact .tup (.inl (.inl h)) (.cons (.str _) (.cons (.int _) .nil))
  | .fld t f, v, ⟨a, e, h⟩ => by rw [e]; exact .tup (.inl (.inl h)) (.cons (.str _) (.cons (.str _) (.cons (.str _) .nil)))
  | .op o x y, v, ⟨a, u, w, e, h, h1, h2⟩ => by rw [e]; exact .tup (.inl (.inl h)) (.cons (.str _) (.cons (RT.dp h1) (.cons (RT.dp h2) .nil)))
theorem RC.dp {K : PySem.W.Frag} {H : Hp} : ∀ {t : Cd} {v : V}, RC H v t → Dp K H v t.enc
  | .cmp o x y, v, ⟨a, u, w, e, h, h1, h2⟩ => by rw [e]; exact .tup (.inl (.inl h)) (.cons (.str _) (.cons (RT.dp h1) (.cons (RT.dp h2) .nil)))
  | .neg c, v, ⟨a, u, e, h, h1⟩ => by rw [e]; exact .tup (.inl (.inl h)) (.cons (.str _) (.cons (RC.dp h1) .nil))
  | .con o x y, v, ⟨a, u, w, e, h, h1, h2⟩ => by rw [e]; exact .tup (.inl (.inl h)) (.cons (.str _) (.cons (RC.dp h1) (.cons (RC.dp h2) .nil)))
theorem Wd.strOk (o : Wd) : PyData.strOk o.s = true := by cases o <;> decide +kernel
theorem Tm.lay : ∀ t : Tm, t.ok = true → t.enc.canLay0 = true
  | .num n, _ => by simp [Tm.enc, PyData.canLay0, PyData.canLayAll0, Wd.strOk]
  | .fld t f, h => by
    simp only [Tm.ok, Bool.and_eq_true] at h
    simp [Tm.enc, PyData.canLay0, PyData.canLayAll0, Wd.strOk, h]
  | .op o a b, h => by
    simp only [Tm.ok, Bool.and_eq_true] at h
    simp [Tm.enc, PyData.canLay0, PyData.canLayAll0, Tm.lay a h.1.2, Tm.lay b h.2, Wd.strOk]
theorem Tm.depth : ∀ t : Tm, t.enc.depth ≤ t.deep
  | .num n => by simp [Tm.enc, PyData.depth, PyData.depthAll, Tm.deep]
  | .fld t f => by simp [Tm.enc, PyData.depth, PyData.depthAll, Tm.deep]
  | .op o a b => by
    have h1 := Tm.depth a
    have h2 := Tm.depth b
    simp only [Tm.enc, PyData.depth, PyData.depthAll, Tm.deep]
    omega
end G7

set_option linter.all false
set_option Elab.async false
set_option maxRecDepth 100000
set_option maxHeartbeats 4000000
namespace G7
open PySem PySem.Spec PyProof.Rows L2
/-! ### the second draw box: [mixed, cells, place] -/
def BoxB (H : Hp) (h l : Addr) : Prop := ∃ (m : Int) (ns : List Int) (p : Int), H h = some (.lst [.int m, .ref l, .int p]) ∧ H l = some (.lst (ns.map V.int)) ∧ ns.length ≤ 63
theorem BoxB.muts {H : Hp} {h l : Addr} (b : BoxB H h l) : ∀ m, m ∈ [h, l] → ∃ o, H m = some o ∧ Mut (some o) := by
  obtain ⟨m0, ns, st, e1, e2, _⟩ := b
  intro m hm
  simp only [List.mem_cons, List.mem_nil_iff, or_false] at hm
  rcases hm with rfl | rfl
  · exact ⟨_, e1, trivial⟩
  · exact ⟨_, e2, trivial⟩
theorem BoxB.keep {ms : List Addr} {H H' : Hp} {h l : Addr} (b : BoxB H h l) (k : Keep ms H H') (n1 : h ∉ ms) (n2 : l ∉ ms) : BoxB H' h l := by
  obtain ⟨m, ns, st, e1, e2, e3⟩ := b
  exact ⟨m, ns, st, k _ _ n1 e1, k _ _ n2 e2, e3⟩
theorem BoxB.same {H H' : Hp} {h l : Addr} (b : BoxB H h l) (k : Same H H') : BoxB H' h l := b.keep (ms := []) (Keep.ofSame k) (by simp) (by simp)
theorem BoxB.ne {H : Hp} {h l : Addr} (b : BoxB H h l) : h ≠ l := by
  obtain ⟨m, ns, st, e1, e2, _⟩ := b
  rintro rfl
  rw [e1] at e2
  injection e2 with e2
  injection e2 with e2
  rcases ns with _ | ⟨n, _ | ⟨n2, r⟩⟩
  · cases e2
  · injection e2 with _ e3; cases e3
  · injection e2 with _ e3
    injection e3 with e4 _
    cases e4
theorem BoxB.tups {H H' : Hp} {h l : Addr} (b : BoxB H h l) (k : Keep [h, l] H H') : TupS H H' := TupS.ofKeep b.muts k
/-- what is no list is not the box -/
theorem BoxB.notin {H : Hp} {h l q : Addr} {o : HO} (B : BoxB H h l) (e : H q = some o) (n : ∀ xs, o ≠ .lst xs) : q ∉ [h, l] := fun m => by
  obtain ⟨m0, ns, st, b1, b2, _⟩ := B
  simp only [List.mem_cons, List.mem_nil_iff, or_false] at m
  rcases m with rfl | rfl
  · rw [b1] at e; cases e; exact n _ rfl
  · rw [b2] at e; cases e; exact n _ rfl
/-- an address that is free now is not the box -/
theorem BoxB.free {H : Hp} {h l q : Addr} (B : BoxB H h l) (e : H q = none) : q ∉ [h, l] := fun m => by
  obtain ⟨m0, ns, st, b1, b2, _⟩ := B
  simp only [List.mem_cons, List.mem_nil_iff, or_false] at m
  rcases m with rfl | rfl
  · rw [b1] at e; cases e
  · rw [b2] at e; cases e
theorem BoxB.updNot {H : Hp} {h l q : Addr} {o : HO} (B : BoxB H h l) (n : q ∉ [h, l]) : BoxB (L2.upd H q o) h l :=
  B.keep (ms := [q]) (Keep.upd Keep.refl (by simp)) (fun z => n (by simp at z; simp [z])) (fun z => n (by simp at z; simp [z]))
/-- the cell that is drawn from -/
theorem cell_at (ns : List Int) (pl : Int) : ∃ c : Int, atI (ns.map V.int ++ [V.int 0]) (pl % (if (ns.length : Int) > 1 then (ns.length : Int) else 1)) = some (.int c) ∧
    (c ≠ 0 → 0 < (ns.length : Int) ∧ ∃ j : Nat, j < ns.length ∧ pl % (ns.length : Int) = j ∧ (if (ns.length : Int) > 1 then (ns.length : Int) else 1) = ns.length) := by
  have hd : 0 < (if (ns.length : Int) > 1 then (ns.length : Int) else 1) := by split <;> omega
  have h0 := Int.emod_nonneg pl (show (if (ns.length : Int) > 1 then (ns.length : Int) else 1) ≠ 0 by omega)
  have h1 := Int.emod_lt_of_pos pl hd
  rw [atN h0]
  by_cases hl : 0 < ns.length
  · have e : (if (ns.length : Int) > 1 then (ns.length : Int) else 1) = ns.length := by split <;> omega
    rw [e] at h0 h1 ⊢
    have hj : (pl % (ns.length : Int)).toNat < ns.length := by omega
    refine ⟨ns[(pl % (ns.length : Int)).toNat], ?_, fun _ => ⟨by omega, (pl % (ns.length : Int)).toNat, hj, by omega, rfl⟩⟩
    rw [List.getElem?_append_left (by rw [List.length_map]; exact hj), List.getElem?_map, List.getElem?_eq_getElem hj]
    rfl
  · have e0 : ns = [] := List.eq_nil_of_length_eq_zero (by omega)
    subst e0
    refine ⟨0, ?_, fun n => absurd rfl n⟩
    have : (pl % (if ((([] : List Int).length : Nat) : Int) > 1 then ((([] : List Int).length : Nat) : Int) else 1)).toNat = 0 := by
      have h2 : (if ((([] : List Int).length : Nat) : Int) > 1 then ((([] : List Int).length : Nat) : Int) else 1) = 1 := rfl
      rw [h2] at h1 ⊢
      omega
    rw [this]
    rfl
theorem ixN_j {n j : Nat} {i : Int} (h : i = j) (hj : j < n) : ixN n i = some j := by
  subst h
  unfold ixN
  rw [if_pos (by omega), if_pos (by omega)]
  simp
def spMix (K : PySem.W.Frag) : Sp := fun vs H Q _ => ∃ (a : Addr) (ns : List Int) (z : Int), vs = [.ref a, .int z] ∧ SqL K H a (ns.map V.int) ∧ ns.length ≤ 63 ∧ ∀ H' h l, H h = none → H l = none → Same H H' → BoxB H' h l → Q (.ref h) H'
def spNext : Sp := fun vs H Q _ => ∃ (h l : Addr) (n : Int), vs = [.ref h, .int n] ∧ BoxB H h l ∧ 0 < n ∧ n < 1073741824 ∧ ∀ r H', 0 ≤ r → r < n → BoxB H' h l → Keep [h, l] H H' → Q (.int r) H'
end G7

set_option linter.all false
set_option Elab.async false
set_option maxRecDepth 100000
set_option maxHeartbeats 4000000
namespace G7
open PySem PySem.Spec PyProof.Rows L2 HT
/-! ### t[::-1] of a tuple -/
theorem places_rev (n : Nat) : Builtin.Slice.sliceAdjust none none (-1) (n : Int) = ((n : Int) - 1, -1) ∧ Builtin.Slice.slicePlaces ((n : Int) - 1) (-1) (-1) = n := by
  refine ⟨rfl, ?_⟩
  unfold Builtin.Slice.slicePlaces
  rw [if_neg (by decide)]
  by_cases h : (n : Int) - 1 > -1
  · rw [if_pos h]
    have : ((n : Int) - 1 - -1 - 1) / (-(-1)) + 1 = n := by
      show ((n : Int) - 1 - -1 - 1) / 1 + 1 = n
      omega
    rw [this]
    simp
  · rw [if_neg h]
    omega
theorem range_rev (n : Nat) : (List.range n).map (fun k => n - 1 - k) = (List.range n).reverse := by
  refine List.ext_getElem (by simp) fun i h1 h2 => ?_
  simp at h1 h2
  simp [List.getElem_reverse]
theorem pick_all {α : Type} (xs : Array α) : (List.range xs.size).filterMap (xs[·]?) = xs.toList := by
  have e : (List.range xs.size).filterMap (xs[·]?) = (List.range xs.toList.length).filterMap (xs.toList[·]?) := by simp
  rw [e]
  generalize xs.toList = l
  induction l with
  | nil => rfl
  | cons a r ih =>
    rw [List.length_cons, List.range_succ_eq_map, List.filterMap_cons]
    show a :: _ = _
    rw [List.filterMap_map]
    exact congrArg (a :: ·) ih
theorem fm_congr {α β : Type} {f g : α → Option β} : ∀ {l : List α}, (∀ a ∈ l, f a = g a) → l.filterMap f = l.filterMap g
  | [], _ => rfl
  | a :: r, h => by
    rw [List.filterMap_cons, List.filterMap_cons, h a (List.mem_cons_self), fm_congr fun b hb => h b (List.mem_cons_of_mem _ hb)]
theorem pick_rev (xs : Array Value) : ((List.range xs.size).filterMap fun (m : Nat) => xs[(((xs.size : Int) - 1) + (m : Int) * -1).toNat]?).toArray = xs.toList.reverse.toArray := by
  congr 1
  have e : (List.range xs.size).filterMap (fun (m : Nat) => xs[(((xs.size : Int) - 1) + (m : Int) * -1).toNat]?) = ((List.range xs.size).map fun k => xs.size - 1 - k).filterMap (xs[·]?) := by
    rw [List.filterMap_map]
    refine fm_congr fun m hm => ?_
    have hm := List.mem_range.mp hm
    have : (((xs.size : Int) - 1) + (m : Int) * -1).toNat = xs.size - 1 - m := by omega
    show xs[(((xs.size : Int) - 1) + (m : Int) * -1).toNat]? = xs[xs.size - 1 - m]?
    rw [this]
  rw [e, range_rev, List.filterMap_reverse, pick_all]
section
variable {prog : Program} {w : World} {A : Around} {E : Value → Shared → Prop} {s : Shared}
theorem getItem_tuple_rev {t sl : Addr} {items : Array Value} {st : Value} {Q : Value → Shared → Prop} (ht : IsTup s.heap t items) (hs : s.heap.IsSliceOf sl .none .none st) (ps : IsPart st (some (-1)))
    (h : Q (.ref s.heap.objs.size) { s with heap := s.heap.push { cls := .type "tuple", data := .seq items.toList.reverse.toArray } })
    (hsz : items.size ≤ sizeLine) : wpAny (model prog w) A (getItem (.ref t) (.ref sl)) Q E s := by
  have hok : sizeOk (.seq items.toList.reverse.toArray) := by
    show items.toList.reverse.toArray.size ≤ sizeLine
    simpa using hsz
  obtain ⟨os, hos, hcs, hds⟩ := id hs
  have tys : s.TypeIs (.ref sl) "slice" := ⟨os, hos, hcs⟩
  unfold getItem
  refine wpAny_holding ?_
  refine wpAny_bind (wpAny_sequenceKey ht.typeIs (by decide) ?_)
  refine wpAny_bind (wpAny_callSpecial?_slot (name := Str.ofString "__getitem__") ht.typeIs slot_tuple_getitem (wpAny_call_entry slot_tuple_getitem ht.typeIs entry_tuple_getitem ?_ (args_tuple_getitem _ _)))
  show wpAny _ _ (Builtin.Tuple.tupleItemsOf (.ref t) >>= _) _ _ s
  refine wpAny_bind (tupleItemsOf_ ht (wpAny_bind (wpAny_typeOf tys ?_)))
  rw [if_pos (by decide)]
  have hap : ∀ {A' : Around} {E' : Value → Shared → Prop} {Q' : Int × Int × Nat → Shared → Prop}, Q' ((items.size : Int) - 1, -1, items.size) s → wpAny (model prog w) A' (Builtin.Slice.sliceApplied (.ref sl) (pure (items.size : Int))) Q' E' s := fun {A' E' Q'} hq => by
    unfold Builtin.Slice.sliceApplied Builtin.Slice.sliceFields
    refine wpAny_bind (wpAny_bind (wpAny_field hos hds (x := .none) rfl (wpAny_bind (wpAny_field hos hds (x := .none) rfl (wpAny_bind (wpAny_field hos hds (x := st) rfl (wpAny_pure ?_)))))))
    refine wpAny_bind (slicePart_ ps ?_)
    show wpAny _ _ (if ((-1 : Int) == 0) = true then _ else _) _ _ s
    rw [if_neg (by decide)]
    refine wpAny_bind (slicePart_none (wpAny_bind (slicePart_none (wpAny_bind (wpAny_pure ?_)))))
    show wpAny _ _ (match Builtin.Slice.sliceAdjust none none (-1) (items.size : Int) with | (lo, hi) => pure (lo, (-1 : Int), Builtin.Slice.slicePlaces lo hi (-1))) _ _ s
    rw [(places_rev items.size).1]
    show wpAny _ _ (pure ((items.size : Int) - 1, (-1 : Int), Builtin.Slice.slicePlaces ((items.size : Int) - 1) (-1) (-1))) _ _ s
    rw [(places_rev items.size).2]
    exact wpAny_pure hq
  refine wpAny_bind (hap ?_)
  show wpAny _ _ (if (((items.size : Int) - 1) == 0 && (-1 : Int) == 1 && items.size == items.size) = true then _ else _) _ _ s
  rw [if_neg (by simp), pick_rev]
  first
    | exact wpAny_bind (m := Builtin.Tuple.tupleExact _) (wpAny_newObj_type (wpAny_pure ⟨_, rfl, wpAny_pure h⟩) hok)
    | exact wpAny_bind (m := Builtin.Tuple.tupleExact _) (wpAny_newObj_type (wpAny_bind (wpAny_pure (wpAny_pure ⟨_, rfl, wpAny_pure h⟩))) hok)
    | exact wpAny_bind (wpAny_bind (m := Builtin.Tuple.tupleExact _) (wpAny_newObj_type (wpAny_pure (wpAny_pure ⟨_, rfl, wpAny_pure h⟩)) hok))
    | exact wpAny_bind (wpAny_bind (m := Builtin.Tuple.tupleExact _) (wpAny_newObj_type (wpAny_pure ⟨_, rfl, wpAny_pure h⟩) hok))
end
section
variable {X : Cx} {e st : Expr} {te : TE} {ts : TO} {p2 pos : Pos}
def tRevT (te : TE) (ts : TO) : TE := fun σ H Q => te σ H fun x H1 => ts σ H1 fun o H2 => o = some (-1) ∧ ∃ a xs, x = .ref a ∧ tpO (H2 a) = some xs ∧ ∀ p, H2 p = none → Q (.ref p) (upd H2 p (.tup xs.reverse))
theorem vals_rev : ∀ {xs : List V} {us : List Value}, Vals xs us → Vals xs.reverse us.reverse
  | _, _, .nil => .nil
  | _, _, .cons r t => by
    rw [List.reverse_cons, List.reverse_cons]
    exact (vals_rev t).append (.cons r .nil)
theorem pe_revT (he : PE X e te) (hs : PO X (some st) ts) (hsb : ∀ v u, subscripted (.Slice none none (some st) p2) false v u = operate [v, u] (getItem v u) := by intro _ _; with_unfolding_all rfl) : PE X (.Subscript e (.Slice none none (some st) p2) pos) (tRevT te ts) := by
  refine ⟨fun pins s σ H Q I h => ?_⟩
  refine Subscript_ (thn (he.run pins s σ H _ I h) fun v s1 ⟨x, H1, I1, r1, q1⟩ => ?_)
  refine wpAny_Slice ?_
  rw [evalPart_none]
  refine wpAny_pure (wpAny_pure ?_)
  refine thn (hs.run pins s1 σ H1 _ I1 q1) fun vs s3 ⟨o, H3, I3, po, eo, a, xs, ex, hx, q3⟩ => ?_
  subst eo
  subst ex
  cases r1
  have I4 : Inv X pins σ H3 { s3 with heap := s3.heap.push { cls := .type "slice", data := .fields #[.none, .none, vs] } } := I3.kept (t' := s3.toks) fun b ob q => Heap.get?_push_of_some _ q
  obtain ⟨its, r, ht, hz⟩ := I4.tuple (show SqT X.K H3 a xs from .inl (rd_tpO hx))
  have hl : its.toArray.size = xs.length := by rw [List.size_toArray]; exact r.length.symm
  refine tail_any (ops := [.ref a, .ref s3.heap.objs.size]) ht.typeIs slot_tuple_getitem.lookup (getItem_tuple_rev (sl := s3.heap.objs.size) ht (Heap.IsSliceOf.new ..) po ?_ (by rw [hl]; exact hz)) (hsb _ _)
  have I5 := I4.laid (t' := s3.toks) (h' := (s3.heap.push { cls := .type "slice", data := .fields #[.none, .none, vs] }).push { cls := .type "tuple", data := .seq its.toArray.toList.reverse.toArray }) (o := .tup xs.reverse) (fun b ob q => Heap.get?_push_of_some _ q) (Nat.le_refl _)
    ⟨by rw [List.length_reverse]; exact hz, its.reverse, vals_rev r, ⟨_, by rw [Heap.get?_push_size _ rfl], rfl, 0, by simp⟩⟩
  exact ⟨.ref _, _, I5, rfl, q3 _ (I4.hok.fresh (Nat.le_refl _))⟩
end
end G7

set_option linter.all false
set_option Elab.async false
set_option maxRecDepth 100000
set_option maxHeartbeats 4000000
namespace G7
open PySem PySem.Spec PyProof.Rows L2
section
variable {X : Cx}
/-- t + u, neither empty -/
def rCatH : R2 := fun x y H Q => ∃ a b xs ys, x = .ref a ∧ y = .ref b ∧ tpO (H a) = some xs ∧ tpO (H b) = some ys ∧ xs.length + ys.length ≤ sizeLine ∧ xs ≠ [] ∧ ys ≠ [] ∧ ∀ p, H p = none → Q (.ref p) (upd H p (.tup (xs ++ ys)))
theorem op_catH : OpR X (binaryOp .Add) rCatH := opImp op_catA fun x y H Q ⟨a, b, xs, ys, e1, e2, h1, h2, hz, n1, n2, q⟩ =>
  ⟨a, b, xs, ys, e1, e2, .inl (rd_tpO h1), .inl (rd_tpO h2), hz, fun n => absurd n n1, fun _ n => absurd n n2, fun _ _ => q⟩
/-- x in a tuple of flat items -/
def rInT : R2 := fun x y H Q => ∃ p xs, y = .ref p ∧ tpO (H p) = some xs ∧ flatV x = true ∧ xs.all flatV = true ∧ Q (.bl (inV x xs)) H
theorem op_inT : OpR X (compareOp .In) rInT := opImp op_in_seq fun x y H Q ⟨p, xs, e, h, f1, f2, q⟩ => ⟨p, xs, e, .inr (.inl (rd_tpO h)), f1, f2, q⟩
/-- sorted(d): keys all texts -/
def cSortD : List V → Hp → VK → Prop := fun xs H Q => ∃ (a : Addr) (kvs : List (Key × V)) (ks : List Str), xs = [.ref a] ∧ dkO (H a) = some kvs ∧ kvs.map (·.1) = ks.map Sum.inr ∧ ks.length < 64 ∧
    ∀ (ys : List Str) (p : Addr), ys.Perm ks → H p = none → Q (.ref p) (upd H p (.lst (ys.map V.str)))
theorem sorted_dic (hc : X.calm = true) : CallR X (.builtin "sorted") cSortD := callImp (call_sortedD hc) fun xs H Q ⟨a, kvs, ks, e, h, h2, h3, q⟩ => ⟨a, kvs, ks, e, rd_dkO h, h2, h3, fun ys p h1 _ => q ys p h1⟩
/-- max(xs), min(xs) of a list of ints -/
def cMaxL : List V → Hp → VK → Prop := fun vs H Q => ∃ (a : Addr) (ns : List Int), vs = [V.ref a] ∧ lsO (H a) = some (ns.map V.int) ∧ 0 < ns.length ∧ ∀ m, m ∈ ns → (∀ y, y ∈ ns → y ≤ m) → Q (.int m) H
def cMinL : List V → Hp → VK → Prop := fun vs H Q => ∃ (a : Addr) (ns : List Int), vs = [V.ref a] ∧ lsO (H a) = some (ns.map V.int) ∧ 0 < ns.length ∧ ∀ m, m ∈ ns → (∀ y, y ∈ ns → m ≤ y) → Q (.int m) H
/-- a list of ints != [] -/
def rNeNilI : R2 := fun x y H Q => ∃ (p q : Addr) (ns : List Int), x = .ref p ∧ y = .ref q ∧ lsO (H p) = some (ns.map V.int) ∧ lsO (H q) = some [] ∧ Q (.bl (!ns.isEmpty)) H
end
/-! a list of texts, or of pairs of texts, against [] -/
/-- (table, field) of some -/
abbrev Fd := Addr × Str × Str
structure RF (H : Hp) (a : Addr) (ps : List Fd) : Prop where
  at_ : H a = some (.lst (ps.map fun e => V.ref e.1))
  tups : ∀ e ∈ ps, H e.1 = some (.tup [.str e.2.1, .str e.2.2])
  oks : ∀ e ∈ ps, PyData.strOk e.2.1 = true ∧ PyData.strOk e.2.2 = true
def Fd.dat (e : Fd) : PyData := .tuple [.str e.2.1, .str e.2.2]
theorem RF.same {H H' : Hp} {a : Addr} {ps : List Fd} (R : RF H a ps) (k : Same H H') : RF H' a ps := ⟨k _ _ R.at_, fun e he => k _ _ (R.tups e he), R.oks⟩
theorem RF.keepB {H H' : Hp} {h l a : Addr} {ps : List Fd} (R : RF H a ps) (k : Keep [h, l] H H') (B : BoxB H h l) (n : a ∉ [h, l]) : RF H' a ps :=
  ⟨k _ _ n R.at_, fun e he => k _ _ (B.notin (R.tups e he) (by intro xs q; cases q)) (R.tups e he), R.oks⟩
theorem dpAll_fds {K : PySem.W.Frag} {H : Hp} : ∀ {ps : List Fd}, (∀ e ∈ ps, H e.1 = some (.tup [.str e.2.1, .str e.2.2])) → DpAll K H (ps.map fun e => V.ref e.1) (ps.map Fd.dat)
  | [], _ => .nil
  | e :: r, h => .cons (.tup (.inl (.inl (h e List.mem_cons_self))) (.cons (.str _) (.cons (.str _) .nil))) (dpAll_fds fun e he => h e (List.mem_cons_of_mem _ he))
theorem lay_fds : ∀ {ps : List Fd}, (∀ e ∈ ps, PyData.strOk e.2.1 = true ∧ PyData.strOk e.2.2 = true) → PyData.canLayAll0 (ps.map Fd.dat) = true
  | [], _ => by simp [PyData.canLayAll0]
  | e :: r, h => by
    have h1 := h e List.mem_cons_self
    simp [PyData.canLayAll0, PyData.canLay0, Fd.dat, h1, lay_fds fun e he => h e (List.mem_cons_of_mem _ he)]
theorem depth_fds : ∀ (ps : List Fd), PyData.depthAll (ps.map Fd.dat) ≤ 2
  | [] => by simp [PyData.depthAll]
  | e :: r => by
    have h := depth_fds r
    simp only [List.map_cons, PyData.depthAll, PyData.depth, Fd.dat]
    omega
theorem shaped_fds {ps : List Fd} (h : ∀ e ∈ ps, PyData.strOk e.2.1 = true ∧ PyData.strOk e.2.2 = true) : SeqAt.shaped (.list (ps.map Fd.dat)) = true := by
  have h1 := depth_fds ps
  have h2 : PyData.depth (.list (ps.map Fd.dat)) ≤ 64 := by
    simp only [PyData.depth]
    omega
  unfold SeqAt.shaped
  rw [Bool.and_eq_true]
  exact ⟨by simp only [PyData.canLay0]; exact lay_fds h, decide_eq_true h2⟩
theorem RF.eqNil {K : PySem.W.Frag} {H : Hp} {a q : Addr} {ps : List Fd} {Q : VK} (R : RF H a ps) (hq : H q = some (.lst [])) (k : Q (.bl ps.isEmpty) H) : rEqD K (.ref a) (.ref q) H Q := by
  refine ⟨.list (ps.map Fd.dat), .list [], .lst (.inl (.inl R.at_)) (dpAll_fds R.tups), .lst (.inl (.inl hq)) .nil, shaped_fds R.oks, rfl, ?_⟩
  cases ps with
  | nil => exact k
  | cons n r => exact k
theorem RF.neNil {K : PySem.W.Frag} {H : Hp} {a q : Addr} {ps : List Fd} {Q : VK} (R : RF H a ps) (hq : H q = some (.lst [])) (k : Q (.bl (!ps.isEmpty)) H) : rNeD K (.ref a) (.ref q) H Q := by
  refine ⟨.list (ps.map Fd.dat), .list [], .lst (.inl (.inl R.at_)) (dpAll_fds R.tups), .lst (.inl (.inl hq)) .nil, shaped_fds R.oks, rfl, ?_⟩
  cases ps with
  | nil => exact k
  | cons n r => exact k
end G7

set_option linter.all false
set_option Elab.async false
set_option maxRecDepth 100000
set_option maxHeartbeats 4000000
namespace G7
open PySem PySem.Spec PyProof.Rows L2
/-! ### TURNED, a dict of the module -/
def Wd.turn : Wd → Wd
  | .lt => .gt
  | .gt => .lt
  | .le => .ge
  | .ge => .le
  | c => c
def Wd.isLog : Wd → Bool
  | .and => true
  | .or => true
  | .not => true
  | _ => false
structure TabAt (K : PySem.W.Frag) (w : World) (d : Addr) : Prop where
  kd : ∃ es n, KDict K w d es n
  hit : ∀ c : Wd, c.isCmp = true → ∃ t, PySem.W.nsIn K d c.s = some (some (.str c.turn.s t))
  miss : ∀ c : Wd, c.isLog = true → PySem.W.nsIn K d c.s = some none
def rInTab (d : Addr) : R2 := fun x y H Q => ∃ c : Wd, x = .str c.s ∧ y = .ref d ∧ (c.isCmp || c.isLog) = true ∧ Q (.bl c.isCmp) H
def rIxTab (d : Addr) : R2 := fun x y H Q => ∃ c : Wd, x = .ref d ∧ y = .str c.s ∧ c.isCmp = true ∧ Q (.str c.turn.s) H
section
variable {X : Cx} {d : Addr}
end
/-! ### trees: the first word, how great -/
def Tm.head : Tm → Wd
  | .num _ => .num
  | .fld _ _ => .field
  | .op o _ _ => o
def Tm.lim : Tm → Prop
  | .num n => -1000 ≤ n ∧ n ≤ 1000
  | .fld _ _ => True
  | .op _ a b => a.lim ∧ b.lim
def Cd.lim : Cd → Prop
  | .cmp _ a b => a.lim ∧ b.lim ∧ a.deep ≤ 8 ∧ b.deep ≤ 8
  | .neg c => c.lim
  | .con _ a b => a.lim ∧ b.lim
/-- how many comparisons -/
def Cd.leaves : Cd → Nat
  | .cmp _ _ _ => 1
  | .neg c => c.leaves
  | .con _ a b => a.leaves + b.leaves
/-- how deep and, or, not stand -/
def Cd.high : Cd → Nat
  | .cmp _ _ _ => 0
  | .neg c => c.high + 1
  | .con _ a b => max a.high b.high + 1
def Cd.head : Cd → Wd
  | .cmp c _ _ => c
  | .neg _ => .not
  | .con o _ _ => o
structure Cd.Good (c : Cd) (d m : Nat) : Prop where
  ok : c.ok = true
  lim : c.lim
  high : c.high ≤ d
  few : c.leaves ≤ m
/-- each part is a comparison, an or, a not -/
def Cd.part : Cd → Prop
  | .cmp c a b => c.isCmp = true ∧ a.ok = true ∧ b.ok = true ∧ a.lim ∧ b.lim ∧ a.deep ≤ 8 ∧ b.deep ≤ 8
  | .neg _ => True
  | .con o _ _ => o = .or
/-- a list of conditions at a -/
structure RL (H : Hp) (a : Addr) (es : List (V × Cd)) : Prop where
  at_ : H a = some (.lst (es.map (·.1)))
  each : ∀ e ∈ es, RC H e.1 e.2
/-! ### spans -/
abbrev OI := Option Int
abbrev Sp3 := Str × OI × OI
end G7
namespace G7
open PySem PySem.Spec PyProof.Rows L2
theorem RT.headed {H : Hp} : ∀ {t : Tm} {v : V}, RT H v t → ∃ a r, v = .ref a ∧ H a = some (.tup (.str t.head.s :: r))
  | .num n, _, ⟨a, e, h⟩ => ⟨a, _, e, h⟩
  | .fld t f, _, ⟨a, e, h⟩ => ⟨a, _, e, h⟩
  | .op o x y, _, ⟨a, u, w, e, h, _, _⟩ => ⟨a, _, e, h⟩
theorem RC.headed {H : Hp} : ∀ {t : Cd} {v : V}, RC H v t → ∃ a r, v = .ref a ∧ H a = some (.tup (.str t.head.s :: r))
  | .cmp c x y, _, ⟨a, u, w, e, h, _, _⟩ => ⟨a, _, e, h⟩
  | .neg c, _, ⟨a, u, e, h, _⟩ => ⟨a, _, e, h⟩
  | .con o x y, _, ⟨a, u, w, e, h, _, _⟩ => ⟨a, _, e, h⟩
end G7
namespace G7
open PySem PySem.Spec PyProof.Rows L2
theorem Wd.beq_s (a b : Wd) : (a.s == b.s) = decide (a = b) := by
  have h := Wd.s_inj a b
  by_cases e : a = b
  · rw [decide_eq_true e, e]
    exact beq_self_eq_true _
  · rw [decide_eq_false e]
    exact beq_false_of_ne fun q => e (h.mp q)
theorem sz0 : (0 ≤ sizeLine) = True := eq_true (Nat.zero_le _)
theorem sz1 : (1 ≤ sizeLine) = True := eq_true (szl (by decide))
theorem sz2 : (2 ≤ sizeLine) = True := eq_true (szl (by decide))
theorem sz3 : (3 ≤ sizeLine) = True := eq_true (szl (by decide))
theorem sz4 : (4 ≤ sizeLine) = True := eq_true (szl (by decide))
theorem sz5 : (5 ≤ sizeLine) = True := eq_true (szl (by decide))
theorem sz6 : (6 ≤ sizeLine) = True := eq_true (szl (by decide))
theorem isc_eq : Wd.eq.isCmp = true := rfl
theorem isc_lt : Wd.lt.isCmp = true := rfl
theorem isc_gt : Wd.gt.isCmp = true := rfl
theorem isc_le : Wd.le.isCmp = true := rfl
theorem isc_ge : Wd.ge.isCmp = true := rfl
theorem isc_and : Wd.and.isCmp = false := rfl
theorem isc_or : Wd.or.isCmp = false := rfl
theorem isc_not : Wd.not.isCmp = false := rfl
theorem isl_and : Wd.and.isLog = true := rfl
theorem isl_or : Wd.or.isLog = true := rfl
theorem isl_not : Wd.not.isLog = true := rfl
end G7
namespace G7
open PySem PySem.Spec PyProof.Rows L2
def lcB (J : It) (g : TG) (tt : TT) (te : TE) (vs : List Nat) (σ : L2.St) (H1 : Hp) (Q : VK) : Prop := tLc (fun _ H R => R J H) g tt te vs σ H1 Q
def forB (J : It) (g : TG) (tb : TS) (D : Ends) (σ : L2.St) (H1 : Hp) : Prop := tFor (fun _ H R => R J H) g tb D σ H1
theorem tLc_eq {wi : TI} {g : TG} {tt : TT} {te : TE} {vs : List Nat} {σ : L2.St} {H : Hp} {Q : VK} : tLc wi g tt te vs σ H Q = wi σ H fun J H1 => lcB J g tt te vs σ H1 Q := rfl
theorem tFor_eq {wi : TI} {g : TG} {tb : TS} {D : Ends} {σ : L2.St} {H : Hp} : tFor wi g tb D σ H = wi σ H fun J H1 => forB J g tb D σ H1 := rfl
theorem lcB_it {J : It} {g : TG} {tt : TT} {te : TE} {vs : List Nat} {σ : L2.St} {H1 : Hp} {Q : VK}
    (h : ∀ D, H1 D = none → ∃ W : Nat → Nat → Hp → Prop, (∃ m, W 0 m (upd H1 D (.lst []))) ∧ ∀ i m H, W i m H →
  (J.stop i H ∧ Q (.ref D) H) ∨ (J.go i H ∧ ∃ Nx : Hp → Prop, (∀ H', Nx H' → ∃ m', m' < m ∧ W (i + 1) m' H') ∧ ∀ x H', J.yld i H x H' → g x (wipe σ vs) H' fun σ2 H2 => wipe σ2 vs = wipe σ vs ∧ tt σ2 H2 fun b H3 =>
    if b = true then te σ2 H3 fun y H4 => ∃ acc, H4 D = some (.lst acc) ∧ acc.length < sizeLine ∧ Nx (upd H4 D (.lst (acc ++ [y]))) else Nx H3)) : lcB J g tt te vs σ H1 Q := h
theorem forB_it {J : It} {g : TG} {tb : TS} {D : Ends} {σ : L2.St} {H : Hp} (h : ∃ W : Nat → Nat → L2.St → Hp → Prop, (∃ m, W 0 m σ H) ∧ ∀ i m σ H, W i m σ H →
  (J.stop i H ∧ D.nx σ H) ∨ (J.go i H ∧ ∃ N : L2.St → Hp → Prop, (∀ σ' H', N σ' H' → ∃ m', m' < m ∧ W (i + 1) m' σ' H') ∧ ∀ x H', J.yld i H x H' → g x σ H' fun σ2 H2 => tb { D with nx := N, ct := N, bk := D.nx } σ2 H2)) : forB J g tb D σ H := h
end G7

set_option linter.all false
set_option Elab.async false
set_option maxRecDepth 100000
set_option maxHeartbeats 4000000
namespace G7
open PySem PySem.Spec PyProof.Rows L2
/-! ### dicts of spans -/
abbrev En := Str × Addr × OI × OI
def ent (e : En) : Key × V := (.inr e.1, .ref e.2.1)
def dr (e : En) : Sp3 := (e.1, e.2.2)
abbrev RowG := OI × OI → List V
structure DBg (g : RowG) (H : Hp) (d : Addr) (es : List En) : Prop where
  at_ : H d = some (.dK (es.map ent))
  tups : ∀ e ∈ es, H e.2.1 = some (.tup (g e.2.2))
  oks : ∀ e ∈ es, PyData.strOk e.1 = true
  nd : (es.map (·.1)).Nodup
theorem DBg.same {g : RowG} {H H' : Hp} {d : Addr} {es : List En} (b : DBg g H d es) (k : Same H H') : DBg g H' d es := ⟨k _ _ b.at_, fun e he => k _ _ (b.tups e he), b.oks, b.nd⟩
def putE (es : List En) (f : Str) (p : Addr) (s : OI × OI) : List En := if (es.any fun e => decide (e.1 = f)) = true then es.map (fun e => if e.1 = f then (e.1, p, s) else e) else es ++ [(f, p, s)]
theorem any_ent (es : List En) (f : Str) : ((es.map ent).any fun kv => decide (kv.1 = (Sum.inr f : Key))) = es.any fun e => decide (e.1 = f) := by
  rw [List.any_map]
  congr 1
  funext e
  show decide ((Sum.inr e.1 : Key) = Sum.inr f) = decide (e.1 = f)
  exact decide_eq_decide.mpr ⟨Sum.inr.inj, congrArg _⟩
theorem putE_ent (es : List En) (f : Str) (p : Addr) (s : OI × OI) : putK (es.map ent) (Sum.inr f : Key) (.ref p) = (putE es f p s).map ent := by
  unfold putK putE
  rw [any_ent]
  by_cases h : (es.any fun e => decide (e.1 = f)) = true
  · rw [if_pos h, if_pos h, List.map_map, List.map_map]
    congr 1
    funext e
    show (if (Sum.inr e.1 : Key) = Sum.inr f then ((Sum.inr e.1 : Key), V.ref p) else ent e) = ent (if e.1 = f then (e.1, p, s) else e)
    by_cases q : e.1 = f
    · rw [if_pos q, if_pos (congrArg _ q)]
      rfl
    · rw [if_neg q, if_neg fun z => q (Sum.inr.inj z)]
  · rw [if_neg h, if_neg h, List.map_append]
    rfl
theorem putE_mem {es : List En} {f : Str} {p : Addr} {s : OI × OI} {e : En} (h : e ∈ putE es f p s) : e ∈ es ∨ (e.1 = f ∧ e.2.1 = p ∧ e.2.2 = s) := by
  unfold putE at h
  split at h
  · obtain ⟨e', h1, rfl⟩ := List.mem_map.mp h
    by_cases q : e'.1 = f
    · rw [if_pos q]
      exact .inr ⟨q, rfl, rfl⟩
    · rw [if_neg q]
      exact .inl h1
  · rcases List.mem_append.mp h with h | h
    · exact .inl h
    · cases List.mem_singleton.mp h
      exact .inr ⟨rfl, rfl, rfl⟩
theorem putE_nd {es : List En} {f : Str} {p : Addr} {s : OI × OI} (h : (es.map (·.1)).Nodup) : ((putE es f p s).map (·.1)).Nodup := by
  unfold putE
  split
  · have e : (es.map fun e => if e.1 = f then (e.1, p, s) else e).map (·.1) = es.map (·.1) := by
      rw [List.map_map]
      congr 1
      funext e
      show (if e.1 = f then ((e.1, p, s) : En) else e).1 = e.1
      split <;> rfl
    rw [e]
    exact h
  · rename_i q
    rw [List.map_append, List.nodup_append]
    refine ⟨h, by simp, fun a ha b hb => ?_⟩
    cases List.mem_singleton.mp hb
    rintro rfl
    obtain ⟨e, he, h2⟩ := List.mem_map.mp ha
    exact q (List.any_eq_true.mpr ⟨e, he, decide_eq_true h2⟩)
theorem DBg.put {g : RowG} {H H' : Hp} {d p : Addr} {es : List En} {f : Str} {s : OI × OI} (D : DBg g H d es) (k : Same H H') (hp : H' p = some (.tup (g s))) (hf : PyData.strOk f = true) :
    DBg g (upd H' d (.dK (putK (es.map ent) (Sum.inr f : Key) (.ref p)))) d (putE es f p s) := by
  have D' := D.same k
  have npd : p ≠ d := ne_of hp D'.at_ (by intro z; cases z)
  refine ⟨by rw [upd_same, putE_ent es f p s], fun e he => ?_, fun e he => ?_, putE_nd D.nd⟩
  · rcases putE_mem he with h | ⟨h1, h2, h3⟩
    · have t := D'.tups e h
      rw [upd_ne (ne_of t D'.at_ (by intro z; cases z))]
      exact t
    · rw [h2, upd_ne npd, h3]
      exact hp
  · rcases putE_mem he with h | ⟨h1, h2, h3⟩
    · exact D.oks e h
    · rw [h1]; exact hf
/-! ### numbers within the law's stand-ins -/
/-! ### the first two of a term -/
theorem sh2 {a b : PyData} (h1 : a.canLay0 = true) (h2 : b.canLay0 = true) (d1 : a.depth ≤ 8) (d2 : b.depth ≤ 8) : SeqAt.shaped (.tuple [a, b]) = true := by
  unfold SeqAt.shaped
  rw [Bool.and_eq_true]
  refine ⟨by simp [PyData.canLay0, PyData.canLayAll0, h1, h2], decide_eq_true ?_⟩
  simp only [PyData.depth, PyData.depthAll]
  omega
theorem shS {s : Str} (h : PyData.strOk s = true) : (PyData.str s).canLay0 = true := by simp [PyData.canLay0, h]
theorem dS (s : Str) : (PyData.str s).depth ≤ 8 := by simp [PyData.depth]
end G7

set_option linter.all false
set_option Elab.async false
set_option maxRecDepth 100000
set_option maxHeartbeats 4000000
/-! lambdas as values: made, handed on, called by others -/
namespace Lm
open PySem PySem.Spec PyProof.Rows L2 LamX
/-- a thing that is never written, known to the object -/
def FzO (o : Obj) : HO := .frz o (.ext fun _ => True)
theorem fzO_ne {o : Obj} (ps : Array Value) : FzO o ≠ .tbl ps := fun z => by
  unfold FzO at z
  cases z
theorem fz_ok {P : Program} {w : World} {H : Hp} {h : Heap} {a : Addr} {o : Obj} (e : h.get? a = some o) : ObjOk P w H h a (FzO o) := ⟨e, True.intro, ⟨o, e⟩, fun _ _ _ _ => True.intro⟩
def Fz : HO → Prop
  | .frz _ _ => True
  | .tup _ => True
  | _ => False
/-- what is frozen stays -/
def KeepF (H H' : Hp) : Prop := ∀ b o, H b = some o → Fz o → H' b = some o
theorem KeepF.refl (H : Hp) : KeepF H H := fun _ _ e _ => e
theorem KeepF.trans {H H1 H2 : Hp} (a : KeepF H H1) (b : KeepF H1 H2) : KeepF H H2 := fun c o e z => b c o (a c o e z) z
theorem KeepF.of {H H' : Hp} (e : ∀ b o, H b = some o → H' b = some o) : KeepF H H' := fun b o h _ => e b o h
theorem KeepF.extN {H H' : Hp} (e : ExtN H H') : KeepF H H' := fun b o h z => e b o h fun ps q => by rw [q] at z; exact z
theorem KeepF.un {fs ex : List Addr} {H H' : Hp} {h h' : Heap} (u : Un fs ex H H' h h') : KeepF H H' := fun b o e z => by
  cases o with
  | frz ob v => exact u.frzs b ob v e
  | tup xs => exact u.tups b xs e
  | _ => exact z.elim
theorem KeepF.upd {H : Hp} {a : Addr} {o : HO} (n : ∀ u, H a = some u → ¬ Fz u) : KeepF H (upd H a o) := fun b u e z => by
  rw [upd_ne (show b ≠ a from fun q => n u (by rw [← q]; exact e) z)]
  exact e
/-- tables stay -/
def KeepT (H H' : Hp) : Prop := ∀ b ps, H b = some (.tbl ps) → H' b = some (.tbl ps)
theorem KeepT.refl (H : Hp) : KeepT H H := fun _ _ e => e
theorem KeepT.trans {H H1 H2 : Hp} (a : KeepT H H1) (b : KeepT H1 H2) : KeepT H H2 := fun c o e => b c o (a c o e)
theorem KeepT.of {H H' : Hp} (e : ∀ b o, H b = some o → H' b = some o) : KeepT H H' := fun b o h => e b _ h
theorem KeepT.upd {H : Hp} {a : Addr} {o : HO} (n : ∀ ps, H a ≠ some (.tbl ps)) : KeepT H (upd H a o) := fun b u e => by
  rw [upd_ne (show b ≠ a from fun q => n u (by rw [← q]; exact e))]
  exact e
/-- tables whose code objects bear one name, and are frozen -/
def TabF (T : List (Addr × Str)) (H : Hp) : Prop := ∀ p ∈ T, ∃ ps : Array Value, H p.1 = some (.tbl ps) ∧ TriplesOk ps.toList ∧
  ∀ (pos : Pos) (cv : Value), codeAmong pos ps.toList = some cv → ∃ (c : Addr) (oc : Obj) (vs : Array Value) (t : Tok), cv = .ref c ∧ H c = some (FzO oc) ∧ oc.data = .fields vs ∧ vs[1]? = some (.str p.2 t)
theorem TabF.ext {T : List (Addr × Str)} {H H' : Hp} (t : TabF T H) (e : KeepF H H') (e2 : KeepT H H') : TabF T H' := fun p hp => by
  obtain ⟨ps, h1, h2, h3⟩ := t p hp
  refine ⟨ps, e2 _ _ h1, h2, fun pos cv hc => ?_⟩
  obtain ⟨c, oc, vs, t, e1, e3, e4, e5⟩ := h3 pos cv hc
  exact ⟨c, oc, vs, t, e1, e c _ e3 True.intro, e4, e5⟩
theorem TabF.nil {H : Hp} {T : List (Addr × Str)} (h : ∀ p ∈ T, H p.1 = some (.tbl #[])) : TabF T H := fun p hp => ⟨#[], h p hp, True.intro, fun pos cv hc => by
  have z : codeAmong pos [] = some cv := hc
  simp [codeAmong] at z⟩
section
variable {X : Cx} {pins : List (Addr × Obj)} {σ : L2.St} {H : Hp} {s : Shared}
/-- what is known of a thing that may change is known of it as it is, from now on -/
theorem inv_freeze {c : Addr} {φ : Heap → Prop} {oc : Obj} (I : Inv X pins σ H s) (h1 : H c = some (.ext φ)) (h2 : s.heap.get? c = some oc) : Inv X pins σ (upd H c (FzO oc)) s :=
  I.write (h' := s.heap) (t' := s.toks) (o := FzO oc) (by rw [h1]; exact True.intro) (.inl rfl) (fun _ _ _ q => q) ⟨oc, h2⟩ (fz_ok h2)
/-- a code object new in a table, frozen -/
theorem inv_tableF {P c : Addr} {q : Str} {t : Tok} {vs : Array Value} {ps more : Array Value} {h' : Heap} {t' : Nat} {oc : Obj} (I : Inv X pins σ H s) (hP : H P = some (.tbl ps)) (k : ∀ b o, b ≠ P → s.heap.get? b = some o → h'.get? b = some o)
    (hm : h'.get? P = some { cls := .none, data := .fields (ps ++ more) }) (hc : s.heap.objs.size ≤ c) (ho : h'.get? c = some oc) (hd : oc.data = .fields vs) (hv : vs[1]? = some (.str q t)) :
    Inv X pins σ (upd (upd H P (.tbl (ps ++ more))) c (FzO oc)) { s with heap := h', toks := t' } := by
  have J := LamX.inv_table (t' := t') (q := q) I hP k hm hc ⟨oc, vs, t, ho, hd, hv⟩
  have F := inv_freeze (oc := oc) J (show upd (upd H P (.tbl (ps ++ more))) c (CodeO c q) c = some (.ext _) from upd_same) ho
  rw [upd_upd] at F
  exact F
/-- the lambda's function object -/
def LamObj (q : Str) (params : Arguments) (body : Expr) (scope : Scope) (cl : List (Str × Addr)) (dV : Value) (c : Addr) (o : Obj) : Prop :=
  ∃ (doc pm ctv : Value), o = PySem.W.kdv_obj "<lambda>" q params (.expr body) scope cl dV doc pm c ctv
/-- what stands of a lambda: its function object, its code object -/
def LamAt (q : Str) (params : Arguments) (body : Expr) (scope : Scope) (cl : List (Str × Addr)) (dV : Value) (f : Addr) (H : Hp) : Prop :=
  ∃ (c : Addr) (o oc : Obj) (vs : Array Value) (t : Tok), LamObj q params body scope cl dV c o ∧ H f = some (FzO o) ∧ H c = some (FzO oc) ∧ oc.data = .fields vs ∧ vs[1]? = some (.str q t)
theorem LamAt.keep {q : Str} {params : Arguments} {body : Expr} {scope : Scope} {cl : List (Str × Addr)} {dV : Value} {f : Addr} {H H' : Hp} (l : LamAt q params body scope cl dV f H) (k : KeepF H H') : LamAt q params body scope cl dV f H' := by
  obtain ⟨c, o, oc, vs, t, h1, h2, h3, h4, h5⟩ := l
  exact ⟨c, o, oc, vs, t, h1, k _ _ h2 True.intro, k _ _ h3 True.intro, h4, h5⟩
/-- the function object is laid, where its code object stands -/
theorem lam_lay {T : List (Addr × Str)} {q : Str} {c' : Addr} {params : Arguments} {body : Expr} {scope : Scope} {dV doc pm ctv : Value} {cl : List (Str × Addr)} {h' : Heap} {tk : Nat} {oc : Obj} {vs : Array Value} {t : Tok} (J : Inv X pins σ H { s with heap := h', toks := tk }) (hT : TabF T H)
    (hc : H c' = some (FzO oc)) (hd : oc.data = .fields vs) (hv : vs[1]? = some (.str q t)) :
    ∃ H2, Inv X pins σ H2 { s with heap := h'.push (PySem.W.kdv_obj "<lambda>" q params (.expr body) scope cl dV doc pm c' ctv), toks := tk } ∧ (∀ b o, H b = some o → H2 b = some o) ∧ TabF T H2 ∧ LamAt q params body scope cl dV h'.objs.size H2 := by
  have new : H h'.objs.size = none := J.hok.fresh (Nat.le_refl _)
  have more : ∀ b o, H b = some o → upd H h'.objs.size (FzO (PySem.W.kdv_obj "<lambda>" q params (.expr body) scope cl dV doc pm c' ctv)) b = some o := fun b o e => (upd_ne (ne_of_none e new)).trans e
  refine ⟨_, J.laid (t' := tk) (o := FzO (PySem.W.kdv_obj "<lambda>" q params (.expr body) scope cl dV doc pm c' ctv)) (fun _ _ z => Heap.get?_push_of_some _ z) (Nat.le_refl _) (fz_ok (Heap.get?_push_size _ rfl)), more, hT.ext (KeepF.of more) (KeepT.of more), ?_⟩
  exact ⟨c', _, oc, vs, t, ⟨doc, pm, ctv, rfl⟩, upd_same, more _ _ hc, hd, hv⟩
/-- a table grown by one code object -/
theorem TabF.grow {T : List (Addr × Str)} {P c' : Addr} {q : Str} {pos : Pos} {ps : Array Value} {oc : Obj} {vs : Array Value} {t : Tok} (hT : TabF T H) (hP : H P = some (.tbl ps)) (hm : (P, q) ∈ T) (hu : ∀ p ∈ T, p.1 = P → p.2 = q) (new : H c' = none) (hd : oc.data = .fields vs) (hv : vs[1]? = some (.str q t)) :
    ExtN H (upd (upd H P (.tbl (ps ++ #[rawInt pos.line, rawInt pos.col, .ref c']))) c' (FzO oc)) ∧ TabF T (upd (upd H P (.tbl (ps ++ #[rawInt pos.line, rawInt pos.col, .ref c']))) c' (FzO oc)) := by
  have out : ∀ b o, H b = some o → b ≠ P → upd (upd H P (.tbl (ps ++ #[rawInt pos.line, rawInt pos.col, .ref c']))) c' (FzO oc) b = some o := fun b o e n => by
    rw [upd_ne (ne_of_none e new), upd_ne n]
    exact e
  have ext : ExtN H (upd (upd H P (.tbl (ps ++ #[rawInt pos.line, rawInt pos.col, .ref c']))) c' (FzO oc)) := fun b o e n => out b o e fun z => by
    rw [z, hP] at e
    exact n ps (Option.some.inj e).symm
  refine ⟨ext, fun p hp => ?_⟩
  obtain ⟨qs, a1, a2, a3⟩ := hT p hp
  have old : ∀ (pos : Pos) (cv : Value), codeAmong pos qs.toList = some cv → ∃ (c : Addr) (o : Obj) (ws : Array Value) (u : Tok), cv = .ref c ∧ upd (upd H P (.tbl (ps ++ #[rawInt pos.line, rawInt pos.col, .ref c']))) c' (FzO oc) c = some (FzO o) ∧ o.data = .fields ws ∧ ws[1]? = some (.str p.2 u) := fun pos' cv e => by
    obtain ⟨c, o, ws, u, e1, e2, e3⟩ := a3 pos' cv e
    refine ⟨c, o, ws, u, e1, ?_, e3⟩
    rw [upd_ne (ne_of_none e2 new), upd_ne (fun z => by rw [z, hP] at e2; cases e2)]
    exact e2
  by_cases hb : p.1 = P
  · obtain rfl : qs = ps := by
      rw [hb, hP] at a1
      exact (HO.tbl.inj (Option.some.inj a1)).symm
    have flat : (qs ++ #[rawInt pos.line, rawInt pos.col, .ref c']).toList = qs.toList ++ [rawInt pos.line, rawInt pos.col, .ref c'] := by rw [Array.toList_append]
    refine ⟨qs ++ #[rawInt pos.line, rawInt pos.col, .ref c'], ?_, ?_, fun pos' cv e => ?_⟩
    · rw [hb, upd_ne (ne_of_none hP new)]
      exact upd_same
    · rw [flat]
      exact PySem.TriplesOk_snoc _ _ _ _ a2
    · rw [flat] at e
      cases among_app _ a2 e with
      | inl z =>
        obtain ⟨c, o, ws, u, e1, e2, e3⟩ := a3 pos' cv z
        exact ⟨c, o, ws, u, e1, ext _ _ e2 fzO_ne, e3⟩
      | inr z => exact ⟨c', oc, vs, t, z, upd_same, hd, by rw [hu p hp hb]; exact hv⟩
  · refine ⟨qs, out _ _ a1 hb, a2, fun pos' cv e => ?_⟩
    obtain ⟨c, o, ws, u, e1, e2, e3⟩ := a3 pos' cv e
    exact ⟨c, o, ws, u, e1, ext _ _ e2 fzO_ne, e3⟩
theorem lam_tail {T : List (Addr × Str)} {c P : Addr} {params : Arguments} {body : Expr} {scope : Scope} {pos : Pos} {dV : Value} {E : Value → Shared → Prop} {Q : Value → Shared → Prop} (I : Inv X pins σ H s) (TB : TabB X.base X.mg c P) (hcode : X.env.code = .ref c)
    (hm : (P, X.env.qual ++ "<lambda>") ∈ T) (hu : ∀ p ∈ T, p.1 = P → p.2 = X.env.qual ++ "<lambda>") (hT : TabF T H) (hfree : ∀ y ∈ scope.names, y.2 = .free → ∃ c, X.env.cells.lookup y.1 = some c)
    (h : ∀ (f : Addr) (H1 : Hp) (s' : Shared), Inv X pins σ H1 s' → ExtN H H1 → TabF T H1 → LamAt (X.env.qual ++ "<lambda>") params body scope (cloFrom X.env.cells scope.names []) dV f H1 → Q (.ref f) s') :
    wpAny (model X.prog X.w) X.A (makeTail "<lambda>" (X.env.qual ++ "<lambda>") params (.expr body) scope X.env dV .none none pos pos.line) Q E s := by
  obtain ⟨ps, tab, three, known⟩ := hT _ hm
  have at_ := I.hok P _ tab
  have bas := TB.bm.keeps I.bk
  have hd0 := TB.code.keeps I.bk
  have gl := I.mod.glob.keeps I.bk
  by_cases hit : ∃ cv, codeAmong pos ps.toList = some cv
  · obtain ⟨cv, hit⟩ := hit
    obtain ⟨c', oc, vs, t, rfl, hco, hd, hv⟩ := known pos cv hit
    refine PySem.W.kdv_makeTailHit (closure_ok hfree) I.ok.glob gl hcode hd0 at_ three hit bas fun ctv doc h' tk kp _ => ?_
    obtain ⟨H2, J2, m2, T2, l2⟩ := lam_lay (s := s) (doc := doc) (pm := (X.mg "__name__").getD .none) (ctv := ctv) (I.kept (t' := tk) kp) hT hco hd hv
    exact h _ H2 _ J2 (fun b o e _ => m2 b o e) T2 l2
  · have miss : codeAmong pos ps.toList = none := by
      cases z : codeAmong pos ps.toList with
      | none => rfl
      | some cv => exact absurd ⟨cv, z⟩ hit
    refine PySem.W.kdv_makeTail (closure_ok hfree) I.ok.glob gl hcode hd0 at_ three miss TB.gP bas fun c' ctv doc h' tk but ge lt rec grown => ?_
    obtain ⟨_, oc, vs, t, z, hoc, hd, hv⟩ := rec
    obtain rfl := Value.ref.inj z
    have J := inv_tableF (t' := tk) I tab (fun b o n e => but b o n e) grown ge hoc hd hv
    obtain ⟨ext, T1⟩ := hT.grow (pos := pos) tab hm hu (I.hok.fresh ge) hd hv
    obtain ⟨H2, J2, m2, T2, l2⟩ := lam_lay (s := s) (doc := doc) (pm := (X.mg "__name__").getD .none) (ctv := ctv) J T1 upd_same hd hv
    exact h _ H2 _ J2 (fun b o e n => m2 b o (ext b o e n)) T2 l2
end
/-! ### the lambda's names -/
/-- captured names, globals; parameters that the maker's own names do not hold -/
structure LamG (N : List Str) (sc scope : Scope) : Prop where
  kind : scope.kind = .function
  co : scope.isCoroutine = false
  gen : scope.isGenerator = false
  own : ∀ y ∈ scope.names, y.2 ≠ .cell ∧ (y.2 = .local → y.1 ∉ N)
  free : ∀ y ∈ scope.names, y.2 = .free → sc.names.lookup y.1 = some .cell ∨ sc.names.lookup y.1 = some .free
def lamGB (N : List Str) (sc scope : Scope) : Bool :=
  decide (scope.kind = .function) && !scope.isCoroutine && !scope.isGenerator && scope.names.all fun y => !decide (y.2 = .cell) && (!decide (y.2 = .local) || !N.contains y.1) && (!decide (y.2 = .free) || decide (sc.names.lookup y.1 = some .cell) || decide (sc.names.lookup y.1 = some .free))
theorem lamG_by {N : List Str} {sc scope : Scope} (h : lamGB N sc scope = true) : LamG N sc scope := by
  unfold lamGB at h
  simp only [Bool.and_eq_true, Bool.or_eq_true, Bool.not_eq_true', decide_eq_true_eq, decide_eq_false_iff_not, List.all_eq_true] at h
  obtain ⟨⟨⟨h1, h2⟩, h3⟩, h4⟩ := h
  refine ⟨h1, h2, h3, fun y hy => ⟨(h4 y hy).1.1, fun e hm => ?_⟩, fun y hy e => ?_⟩
  · rcases (h4 y hy).1.2 with z | z
    · exact absurd e z
    · rw [List.contains_iff_mem.mpr hm] at z
      cases z
  · rcases (h4 y hy).2 with (z | z) | z
    · exact absurd e z
    · exact .inl z
    · exact .inr z
theorem LamG.has {X : Cx} {scope : Scope} (L : LamG X.N X.env.scope scope) (ok : X.Ok) : ∀ y ∈ scope.names, y.2 = .free → ∃ c, X.env.cells.lookup y.1 = some c := fun y hy e => by
  rcases L.free y hy e with k | k
  · exact ok.has _ (.inl k)
  · exact ok.has _ (.inr k)
section
variable {X : Cx} {pins : List (Addr × Obj)} {σ : L2.St} {H HZ : Hp} {s s1 : Shared}
/-- the context over a greater ground -/
abbrev onB (X : Cx) (B : Heap) : Cx := { X with base := B }
/-- a ground in which the cells of X's names stand, at the state s -/
structure ExtB (X : Cx) (H : Hp) (s : Shared) (B : Heap) : Prop where
  size : B.objs.size ≤ s.heap.objs.size
  sub : ∀ b o, B.get? b = some o → s.heap.get? b = some o ∧ H b = none
  base : ∀ b o, X.base.get? b = some o → B.get? b = some o
  cell : ∀ x c o, X.env.cells.lookup x = some c → s.heap.get? c = some o → B.get? c = some o
  funs : s.heap.FunFrames B X.stack
open Classical in
theorem extB_ex (I : Inv X pins σ H s) (hfn : ∀ x c, X.env.cells.lookup x = some c → X.fn x = true) : ∃ B, ExtB X H s B := by
  let q : Addr → Bool := fun b => decide ((∃ o, X.base.get? b = some o) ∨ ∃ x, X.env.cells.lookup x = some b)
  let l := (List.range s.heap.objs.size).filter fun b => !q b
  have nl : ∀ b, q b = true → b ∉ l := fun b hb hm => by
    have z := (List.mem_filter.mp hm).2
    rw [hb] at z
    cases z
  have yl : ∀ b, b < s.heap.objs.size → q b = false → b ∈ l := fun b h1 h2 => List.mem_filter.mpr ⟨List.mem_range.mpr h1, by rw [h2]; rfl⟩
  have get : ∀ b o, s.heap.get? b = some o → q b = true → (PySem.W.hideAll s.heap l).get? b = some o := fun b o e hb => PySem.W.hideAll_get _ e (nl b hb)
  have of_ : ∀ b o, (PySem.W.hideAll s.heap l).get? b = some o → s.heap.get? b = some o ∧ q b = true := fun b o e => by
    have e2 := PySem.W.of_hideAll _ e
    refine ⟨e2, ?_⟩
    cases hq : q b with
    | true => rfl
    | false =>
      rw [PySem.W.hideAll_none _ (yl b (Heap.lt_size e2) hq)] at e
      cases e
  have bk : ∀ b o, X.base.get? b = some o → s.heap.get? b = some o ∧ H b = none := I.bs
  refine ⟨PySem.W.hideAll s.heap l, Nat.le_of_eq (PySem.W.hideAll_size _ _), fun b o e => ?_, fun b o e => get b o (bk b o e).1 (decide_eq_true (.inl ⟨o, e⟩)), fun x c o e1 e2 => get c o e2 (decide_eq_true (.inr ⟨x, e1⟩)), funFrames_none I.stack fun b hb => ?_⟩
  · obtain ⟨e2, hq⟩ := of_ b o e
    refine ⟨e2, ?_⟩
    rcases of_decide_eq_true hq with ⟨o', z⟩ | ⟨x, z⟩
    · exact (bk b o' z).2
    · exact I.freeC x b z
  · cases e : (PySem.W.hideAll s.heap l).get? b with
    | none => rfl
    | some o =>
      obtain ⟨e2, hq⟩ := of_ b o e
      rcases of_decide_eq_true hq with ⟨o', z⟩ | ⟨x, z⟩
      · obtain ⟨z2, _⟩ := I.stack.mem hb
        rw [z] at z2
        cases z2
      · rcases List.mem_cons.mp (I.stkSub b hb) with z2 | z2
        · exact absurd z2 (I.cne x b z)
        · obtain ⟨_, o3, e3, _⟩ := I.ok.funs.mem z2
          exact absurd (Nat.lt_of_lt_of_le (Heap.lt_size e3) (I.ok.cab x b (hfn x b z) z)) (Nat.lt_irrefl _)
theorem ExtB.env0 {B : Heap} (x : ExtB X H s B) (I : Inv X pins σ H s) : Env0 X.prog X.w X.K X.mg B X.A X.stack s H := by
  have e := I.env0
  exact ⟨e.frames, ⟨e.mod.kin.keeps x.base, e.mod.glob.keeps x.base, (let ⟨mb, h1, h2⟩ := e.mod.blt; ⟨mb, h1.keeps x.base, h2⟩), e.mod.nolimit.keeps x.base⟩, x.sub, x.size, x.funs, e.frf, e.hok, e.bare⟩
/-- the captured cells, looked up -/
theorem clo_to {cells : List (Str × Addr)} {names : List (Str × NameKind)} {y : Str} {c : Addr} (hf : ∀ z ∈ names, z.2 = .free → ∃ c, cells.lookup z.1 = some c) (e : (cloFrom cells names []).lookup y = some c) : cells.lookup y = some c := by
  cases cloFrom_mem (PySem.mem_of_lookup e) with
  | inl z => exact absurd z List.not_mem_nil
  | inr z =>
    obtain ⟨d, hd⟩ := hf (y, .free) z.1 rfl
    have hd : cells.lookup y = some d := hd
    have e2 := z.2
    rw [hd] at e2
    rw [hd, show c = d from e2]
theorem clo_of {cells : List (Str × Addr)} {names : List (Str × NameKind)} {y : Str} (h : names.lookup y = some .free) : ∃ c, (cloFrom cells names []).lookup y = some c :=
  mem_lookup (cloFrom_has (acc := []) (PySem.mem_of_lookup h))
theorem lam_startB {A : Around} {outer : List Env} {E : XK} {scope : Scope} {f c' : Addr} {h₁ : Heap} {tk : Nat} {m0 : Str → Option Value} {B : Heap} (I : Inv X pins σ H s) (L : LamG X.N X.env.scope scope) (x : ExtB X H s B) (e0 : Env0 X.prog X.w X.K X.mg B A outer s1 HZ) (hd : A.handled = none)
    (hns : h₁.Ns s1.heap.objs.size m0) (kp : ∀ b o, s1.heap.get? b = some o → h₁.get? b = some o) :
    Inv (lamCx (onB X B) A outer s1 HZ E scope f c') [] σ HZ { s1 with heap := h₁, toks := tk } := by
  have back : ∀ {y c}, (cloFrom X.env.cells scope.names []).lookup y = some c → X.env.cells.lookup y = some c := fun e => clo_to (L.has I.ok) e
  have stays : ∀ {y : Str} {c : Addr} {v : Option Value}, X.env.cells.lookup y = some c → s.heap.IsCell c v → h₁.IsCell c v ∧ HZ c = none := fun {y c v} e z => by
    obtain ⟨o, ho, hv⟩ := z
    obtain ⟨w1, w2⟩ := e0.bs c o (x.cell y c o e ho)
    exact ⟨⟨o, kp _ _ w1, hv⟩, w2⟩
  have none_ex : ∀ b : Addr, b ∈ ([] : List Addr) → False := fun b z => List.not_mem_nil z
  exact
    { ok :=
        { mod := e0.mod, kind := L.kind, glob := rfl, blt := rfl, above := Nat.le_refl _, inj := fun y z c h1 h2 => I.ok.inj y z c (back h1) (back h2)
          has := fun y hy => by
            rcases (show scope.names.lookup y = some .cell ∨ scope.names.lookup y = some .free from hy) with z | z
            · exact ((L.own _ (PySem.mem_of_lookup z)).1 rfl).elim
            · exact clo_of z
          cab := fun y c z => nomatch (show false = true from z)
          hd := fun _ => hd, frames := Around.frames_deeper e0.frames, stk := .inr ⟨rfl, rfl⟩, exf := fun b z => (none_ex b z).elim, bs := e0.bs, bsz := e0.bsz, noex := fun b _ _ z => none_ex b z, exfs := fun b z => (none_ex b z).elim, funs := e0.funs, frf := e0.frf }
      os := rfl, bare := e0.bare, base := Un.kept kp
      loc := by
        refine ⟨m0, hns, fun i y v n sl vis => ?_⟩
        obtain ⟨_, _, known⟩ := I.loc
        rcases (show Vis scope y from vis) with z | z | z
        · exact absurd (List.mem_of_getElem? (show X.N[i]? = some y from n)) ((L.own _ (PySem.mem_of_lookup z)).2 rfl)
        · exact ((L.own _ (PySem.mem_of_lookup z)).1 rfl).elim
        · obtain ⟨c, hc⟩ := clo_of (cells := X.env.cells) z
          have up := L.free _ (PySem.mem_of_lookup z) rfl
          obtain ⟨u, rv, w⟩ := known i y v n sl (up.elim (fun q => .inr (.inl q)) fun q => .inr (.inr q))
          refine ⟨u, rv, .inr ⟨.inr z, c, hc, ?_⟩⟩
          rcases w with ⟨loc, _⟩ | ⟨_, d, hd2, cell⟩
          · have loc : X.env.scope.names.lookup y = some .local := loc
            rcases up with q | q <;> exact nomatch (loc.symm.trans (show X.env.scope.names.lookup y = _ from q))
          · obtain rfl : c = d := Option.some.inj ((back hc).symm.trans hd2)
            exact (stays hd2 cell).1
      cell := fun y c e => by
        obtain ⟨v, z⟩ := I.cell y c (back e)
        exact ⟨v, (stays (back e) z).1⟩
      free := e0.hok.fresh (Nat.le_refl _)
      freeC := fun y c e => by
        obtain ⟨v, z⟩ := I.cell y c (back e)
        exact (stays (back e) z).2
      pin := fun q z => nomatch (show q ∈ ([] : List (Addr × Obj)) from z)
      hok := e0.hok.kept kp, len := I.len }
end
/-! ### what a callable does when it is called without arguments, over the ground B, while what is frozen in H0 stays -/
def Act0 (P : Program) (w : World) (K : PySem.W.Frag) (mg : Str → Option Value) (B : Heap) (k : Nat) (H0 : Hp) (f : Addr) (R : XK → Hp → VK → Prop) : Prop :=
  ∀ (A : Around) (outer : List Env) (s1 : Shared) (H1 : Hp) (Q : VK) (E : XK), Room k A → Env0 P w K mg B A outer s1 H1 → KeepF H0 H1 → R E H1 Q →
    (∃ (oc : Value) (od : Option Addr) (fd : FuncData) (osl : Array (Option Value)), s1.heap.get? f = some ⟨oc, od, .func fd, osl⟩) ∧ codeAny (model P w) A (.call (.ref f) ⟨[], []⟩) (CR (L2.CX P w) outer P w H1 s1 Q E) s1
section
variable {P : Program} {w : World} {K : PySem.W.Frag} {mg : Str → Option Value} {B : Heap} {k : Nat} {H H1 : Hp} {f : Addr} {R : XK → Hp → VK → Prop}
theorem Act0.keep (a : Act0 P w K mg B k H f R) (h : KeepF H H1) : Act0 P w K mg B k H1 f R := fun A outer s2 H2 Q E hr e0 k2 => a A outer s2 H2 Q E hr e0 (h.trans k2)
theorem Act0.mono (a : Act0 P w K mg B k H f R) {j : Nat} (h : k ≤ j) : Act0 P w K mg B j H f R := fun A outer s2 H2 Q E hr => a A outer s2 H2 Q E (hr.mono h)
theorem Act0.imp (a : Act0 P w K mg B k H f R) {R' : XK → Hp → VK → Prop} (h : ∀ E H Q, R' E H Q → R E H Q) : Act0 P w K mg B k H f R' := fun A outer s2 H2 Q E hr e0 u r => a A outer s2 H2 Q E hr e0 u (h _ _ _ r)
end
/-- a ground over the state in which X stands -/
def Zb (X : Cx) (σ : L2.St) (H : Hp) (B : Heap) : Prop := ∃ (pins : List (Addr × Obj)) (s : Shared), Inv X pins σ H s ∧ ExtB X H s B
/-- a lambda made in X: whatever X's names hold when it is handed on -/
def Acts (X : Cx) (k : Nat) (R : L2.St → XK → Hp → VK → Prop) (f : Addr) (H : Hp) : Prop :=
  ∀ H2, KeepF H H2 → ∀ (σ : L2.St) (B : Heap), Zb X σ H2 B → Act0 X.prog X.w X.K X.mg B k H2 f (R σ)
theorem Acts.keep {X : Cx} {k : Nat} {R : L2.St → XK → Hp → VK → Prop} {f : Addr} {H H1 : Hp} (a : Acts X k R f H) (h : KeepF H H1) : Acts X k R f H1 := fun H2 h2 => a H2 (h.trans h2)
section
variable {X : Cx}
/-- the reading of a lambda -/
def tLam (X : Cx) (k : Nat) (T : List (Addr × Str)) (t : XK → TE) : TE := fun σ H Q => TabF T H ∧ ∀ (f : Addr) (H1 : Hp), ExtN H H1 → TabF T H1 → Acts X k (fun σ E H Q => t E σ H Q) f H1 → Q (.ref f) H1
end
/-- a call over a greater ground: the callee is handed lambdas -/
def tCallZ (X : Cx) (sp : Heap → Sp) (dvs : List V) (t : TA) : TE := fun σ H Q => t σ H fun vs H1 => ∀ B, Zb X σ H1 B → sp B (vs ++ dvs) H1 Q L2.E0
section
variable {X : Cx} {k : Nat} {f : Addr} {fd : FuncData} {ps : List Str} {sp : Heap → Sp} {dvs : List V} {ds : List Value} {x : Str} {p pos : Pos} {e : Expr} {es : List Expr} {t : TA}
theorem pe_callZ (hfn : ∀ x c, X.env.cells.lookup x = some c → X.fn x = true) (F : ∀ B, FnOk X.prog X.w X.K X.mg B L2.CX0 k f fd ps (sp B)) (hr : Room k X.A) (hg : Gl X x) (hm : X.mg x = some (.ref f)) (hk : PySem.W.keepIn X.K (.ref f) = true) (hb : Binds X.K fd ps ds) (hd : Vals dvs ds)
    (ha : PA X (e :: es) t) (hdb : (x == ("__debug__" : Str)) = false := by decide) (he : starEach (e :: es) X.env = (false, eval e X.env) :: starEach es X.env := by rfl) (hpl : (backTo pos (starEach es X.env)).any (·.1) = false := by rfl) :
    PE X (.Call (.Name x p) (e :: es) [] pos) (tCallZ X sp dvs t) := by
  refine ⟨fun pins s σ H Q I h => ?_⟩
  refine wpAny_Call_Name_kw (ld_glob I hg hm ?_ hdb)
  refine PySem.W.callWith_K (h₀ := X.base) I.ok.mod.kin hk (thn (ha.run pos pins s σ H _ I h) fun us s1 ⟨vs, H1, I1, r, q⟩ => ⟨I1.kIn, ?_⟩) he hpl
  obtain ⟨B, xb⟩ := extB_ex I1 hfn
  have h := q B ⟨pins, s1, I1, xb⟩
  have r2 : Vals (vs ++ dvs) (us ++ ds) := r.append hd
  have hl : (us ++ ds).length = ps.length := by rw [← r2.length]; exact (F B).len _ _ _ _ h
  refine wpAny_call (codeAny_mono ((F B).run X.A X.stack s1 H1 ⟨us, []⟩ (us ++ ds) (vs ++ dvs) Q L2.E0 hr (xb.env0 I1) (hb s1 us I1.kIn hl) r2 h) fun r s' hq => ?_)
  cases r with
  | error e => exact hq.elim
  | ok fl =>
    cases fl with
    | ret u => exact I1.after hq
    | next => exact False.elim hq
    | brk => exact False.elim hq
    | cont => exact False.elim hq
end
section
variable {X : Cx}
/-- the name that the codes of a def's lambdas bear -/
def lamQ (q : Str) : Str := q ++ ".<locals>." ++ "<lambda>"
end
end Lm

set_option linter.all false
set_option Elab.async false
set_option maxRecDepth 100000
set_option maxHeartbeats 4000000
/-! told: what the rows do with a caught error: lists of truths, count, index -/
namespace Td
open PySem PySem.Spec PyProof.Rows L2
section
variable {X : Cx}
end
section
variable {X : Cx} {T : String} {name : Str} {id : String} {r : V → List V → Hp → VK → Prop} {o e : Expr} {es : List Expr} {to : TE} {t : TA} {apos cpos : Pos}
end
/-! ### l += m of lists -/
theorem cutV_to (xs : List V) (k : Nat) : cutV xs none (some (k : Int)) = xs.take k := by
  unfold cutV
  rw [HT.sIx_none, HT.sIx_nat, List.drop_zero, Nat.sub_zero]
  by_cases h : k ≤ xs.length
  · rw [Nat.min_eq_left h]
  · rw [Nat.min_eq_right (by omega), List.take_length, List.take_of_length_le (by omega)]

section
variable {X : Cx}
end
/-! ### the program's own errors -/
/-- an own exception class without own __init__, that is raised -/
structure EKls (K : PySem.W.Frag) (mg : Str → Option Value) (x : Str) (C : Addr) : Prop where
  gC : mg x = some (.ref C)
  kC : PySem.W.keepIn K (.ref C) = true
  ex : PySem.W.excIn K C [.type "ValueError", .type "Exception", .type "BaseException", .type "object"] "ValueError.__new__" = true
  exC : PySem.W.subIn K (.ref C) (.type "BaseException") = some true
  tyC : PySem.W.typeIn K (.ref C) = some (.type "type")
/-- what the class D, the i-th of Cs, says where its errors are caught -/
structure Kind (K : PySem.W.Frag) (CS : Addr) (Cs : List Addr) (i : Nat) (D : Addr) : Prop where
  is : ExcC K D
  st : PySem.W.exmOne K (.ref D) (.ref CS) = some true
  ve : PySem.W.kitOne K (.ref D) (.type "ValueError") = some true
  at_ : ∀ j c, Cs[j]? = some c → PySem.W.kitOne K (.ref D) (.ref c) = some (decide (j = i))
theorem kit_ve {K : PySem.W.Frag} {D : Addr} (h : PySem.W.subIn K (.ref D) (.type "ValueError") = some true) : PySem.W.kitOne K (.ref D) (.type "ValueError") = some true := by
  have e1 : ((Value.ref D : Value) == .type "ValueError") = false := rfl
  have e2 : PySem.W.kitMeta "ValueError" = true := by decide +kernel
  show (if ((Value.ref D : Value) == .type "ValueError") = true then some true else (if PySem.W.kitMeta "ValueError" = true then PySem.W.subIn K (.ref D) (.type "ValueError") else none)) = some true
  rw [if_neg (by rw [e1]; exact Bool.false_ne_true), if_pos e2]
  exact h
theorem exm_of {K : PySem.W.Frag} {D S : Addr} (h1 : PySem.W.subIn K (.ref S) (.type "BaseException") = some true) (h2 : PySem.W.isClsIn K S = true) (h3 : PySem.W.typeIn K (.ref S) = some (.type "type")) (h4 : PySem.W.subIn K (.ref D) (.ref S) = some true) :
    PySem.W.exmOne K (.ref D) (.ref S) = some true := by
  have e1 : (PySem.W.subIn K (.ref S) (.type "BaseException") == some true) = true := by rw [h1] <;> rfl
  have e2 : ((PySem.W.clsIn K S).isSome && PySem.W.typeIn K (.ref S) == some (.type "type")) = true := by
    have h2' : (PySem.W.clsIn K S).isSome = true := h2
    rw [h2', h3] <;> rfl
  show (if (PySem.W.subIn K (.ref S) (.type "BaseException") == some true) = true then (if ((PySem.W.clsIn K S).isSome && PySem.W.typeIn K (.ref S) == some (.type "type")) = true then PySem.W.subIn K (.ref D) (.ref S) else none) else none) = some true
  rw [if_pos e1, if_pos e2]
  exact h4
section
variable {X : Cx} {x : Str} {C : Addr} {p pos pos2 : Pos} {e : Expr} {es : List Expr} {t : TA} {W : WX}
/-- raise X(e, ..) -/
theorem ps_raiseE (hc : X.calm = true) (tk : Takes X W) (c : EKls X.K X.mg x C) (hg : Gl X x) (ha : PA X (e :: es) t) (hdb : (x == ("__debug__" : Str)) = false := by decide)
    (he : starEach (e :: es) X.env = (false, eval e X.env) :: starEach es X.env := by rfl) (hpl : (backTo pos (starEach es X.env)).any (·.1) = false := by rfl) :
    PS X (.Raise (some (.Call (.Name x p) (e :: es) [] pos)) none pos2) (fun _ σ H => t σ H fun vs H1 => vs.length ≤ sizeLine ∧ W (.ref C) none σ H1) :=
  ps_raise hc tk (pmk_ownA PySem.F.excBase_ValueError c.ex c.gC c.kC (raises_own c.exC c.tyC) hg ha hdb he hpl)
def IsB (K : PySem.W.Frag) (D : Addr) (c : V) (b : Bool) : Prop := ∃ cv, (∀ u, RelV c u → u = cv) ∧ PySem.W.kitOne K (.ref D) cv = some b
theorem isb_ref {K : PySem.W.Frag} {D C : Addr} {b : Bool} (h : PySem.W.kitOne K (.ref D) (.ref C) = some b) : IsB K D (.ref C) b := ⟨.ref C, fun _ r => r, h⟩
/-- isinstance(e, c), e the caught error -/
def rIsG (K : PySem.W.Frag) (cls : Value) (d : Option Addr) (a : Addr) : List V → Hp → VK → Prop := fun xs H Q => ∃ D, cls = .ref D ∧ d = none ∧ ExcC K D ∧ ∃ (c : V) (b : Bool), xs = [.ref a, c] ∧ IsB K D c b ∧ Q (.bl b) H
theorem call_isG {a : Addr} {oe : Obj} {cls : Value} {d : Option Addr} {pn : List (Addr × Obj)} (hz : Zc cls d oe) (hf : ∃ vs, oe.data = .fields vs) : CallR (X.suite a ((a, oe) :: pn)) (.builtin "isinstance") (rIsG X.K cls d a) := by
  intro pins s σ H xs us Q I r h
  obtain ⟨D, rfl, rfl, ec, c, b, rfl, ⟨cv, h1, h2⟩, q⟩ := h
  exact call_isE (X := X) ec hz hf pins s σ H _ us Q I r ⟨c, cv, b, rfl, h1, h2, q⟩
end
/-! ### a def whose code object is known -/
theorem _root_.L2.Fun.okL {P : Program} {w : World} {K : PySem.W.Frag} {mg : Str → Option Value} {base : Heap} {x qual : Str} {st : Stmt} {f c : Addr} {fd : FuncData} {N ps : List Str} {k : Nat} {sp : Sp} (F : L2.Fun K x qual st f fd) (hc : fd.code = .ref c) (S : FnScope N ps (defScope st)) (len : ∀ vs H Q E, sp vs H Q E → vs.length = ps.length)
    (hbody : ∀ (A : Around) (outer : List Env) (s : Shared) (H : Hp) (vs : List V) (Q : VK) (E : XK), Room k (A.deeper (envOfC qual (defScope st) s.heap.objs.size f (.ref c))) → sp vs H Q E →
      ∃ t, PSs (cxOf L2.CX0 P w K mg base N qual (defScope st) f (.ref c) A outer s H E).nox (defBody st) t ∧ t { nx := fun _ H' => Q .non H', rt := Q } (L2.start N vs) H) : FnOk P w K mg base L2.CX0 (k + 1) f fd ps sp := by
  obtain ⟨oc, od, kV, doc, pm, an, cdv, ct, osl, rfl, lk, hcd⟩ := F.ex
  have e : cdv = .ref c := hc
  subst e
  refine fn_of lk hcd S len fun A outer s H vs Q E hr hsp => ?_
  obtain ⟨t, h, q⟩ := hbody A outer s H vs Q E hr hsp
  exact ⟨t, h.nox, q⟩
end Td

set_option linter.all false
set_option Elab.async false
set_option maxRecDepth 100000
set_option maxHeartbeats 4000000
/-! instances' fields; dicts whose keys are tuples; tuples of ints compared -/
namespace G7
open PySem PySem.Spec PyProof.Rows L2
section
variable {X : Cx}
theorem pe_fldK (K : PySem.W.Frag) (hK : X.K = K) {e : Expr} {f : Str} {pos : Pos} {ta : TE} (he : PE X e ta) (hb : attributeBase e f X.env (eval e X.env) = eval e X.env) : PE X (.Attribute e f pos) (tFld K ta f) := hK ▸ pe_fld he hb
/-! dicts with tuple keys -/
variable {o e value : Expr} {td ty tv : TE} {pos pos' : Pos}
end
end G7

set_option linter.all false
set_option Elab.async false
set_option maxRecDepth 100000
set_option maxHeartbeats 4000000
/-! pairs of ints, rising: the plain law of an index -/
namespace G7
open PySem PySem.Spec PyProof.Rows L2
/-- k parts a list: those ahead are so, those from there on are not -/
structure Cut {α : Type} (l : List α) (p : α → Bool) (k : Nat) : Prop where
  le : k ≤ l.length
  lo : ∀ i x, i < k → l[i]? = some x → p x = true
  hi : ∀ i x, k ≤ i → l[i]? = some x → p x = false
theorem Cut.take {α : Type} {l : List α} {p : α → Bool} {k : Nat} (c : Cut l p k) {x : α} : x ∈ l.take k ↔ x ∈ l ∧ p x = true := by
  constructor
  · intro h
    obtain ⟨i, hi⟩ := List.mem_iff_getElem?.mp h
    rw [List.getElem?_take] at hi
    split at hi
    · rename_i hk
      exact ⟨List.mem_of_getElem? hi, c.lo i x hk hi⟩
    · cases hi
  · rintro ⟨h, hp⟩
    obtain ⟨i, hi⟩ := List.mem_iff_getElem?.mp h
    refine List.mem_iff_getElem?.mpr ⟨i, ?_⟩
    rw [List.getElem?_take, if_pos, hi]
    by_cases hk : i < k
    · exact hk
    · rw [c.hi i x (by omega) hi] at hp
      cases hp
theorem Cut.drop {α : Type} {l : List α} {p : α → Bool} {k : Nat} (c : Cut l p k) {x : α} : x ∈ l.drop k ↔ x ∈ l ∧ p x = false := by
  constructor
  · intro h
    obtain ⟨i, hi⟩ := List.mem_iff_getElem?.mp h
    rw [List.getElem?_drop] at hi
    exact ⟨List.mem_of_getElem? hi, c.hi _ x (by omega) hi⟩
  · rintro ⟨h, hp⟩
    obtain ⟨i, hi⟩ := List.mem_iff_getElem?.mp h
    by_cases hk : i < k
    · rw [c.lo i x hk hi] at hp
      cases hp
    · exact List.mem_iff_getElem?.mpr ⟨i - k, by rw [List.getElem?_drop, show k + (i - k) = i by omega]; exact hi⟩
theorem Cut.slice {α : Type} {l : List α} {p q : α → Bool} {a b : Nat} (c : Cut l p a) (d : Cut l q b) {x : α} : x ∈ (l.drop a).take (b - a) ↔ x ∈ l ∧ p x = false ∧ q x = true := by
  constructor
  · intro h
    obtain ⟨i, hi⟩ := List.mem_iff_getElem?.mp h
    rw [List.getElem?_take] at hi
    split at hi
    · rename_i hk
      rw [List.getElem?_drop] at hi
      exact ⟨List.mem_of_getElem? hi, c.hi _ x (by omega) hi, d.lo _ x (by omega) hi⟩
    · cases hi
  · rintro ⟨h, hp, hq⟩
    obtain ⟨i, hi⟩ := List.mem_iff_getElem?.mp h
    have h1 : a ≤ i := by
      by_cases hk : i < a
      · rw [c.lo i x hk hi] at hp
        cases hp
      · omega
    have h2 : i < b := by
      by_cases hk : i < b
      · exact hk
      · rw [d.hi i x (by omega) hi] at hq
        cases hq
    exact List.mem_iff_getElem?.mpr ⟨i - a, by rw [List.getElem?_take, if_pos (by omega), List.getElem?_drop, show a + (i - a) = i by omega]; exact hi⟩
/-! room -/
theorem hu65_of {A : Around} {k : Nat} (hr : Room k A) : A.in1.units + 64 < cLine := by have := hr.un; show A.units + 1 + 64 < cLine; omega
theorem seqIx {i : Int} {n : Nat} (h0 : 0 ≤ i) (h1 : i < (n : Int)) : seqIndex? i n = some i.toNat := by
  unfold seqIndex?
  simp only [show ¬ i < 0 by omega, if_false, h0, h1, decide_true, Bool.and_self, if_true]
/-! bounds -/
/-! pairs -/
def lt2 (p q : Int × Int) : Prop := p.1 < q.1 ∨ p.1 = q.1 ∧ p.2 < q.2
instance (p q : Int × Int) : Decidable (lt2 p q) := by unfold lt2; infer_instance
theorem lt2_irrefl {p : Int × Int} (h : lt2 p p) : False := by
  unfold lt2 at h
  omega
/-- a pair as a tuple at an address -/
abbrev Pr := Addr × Int × Int
abbrev Ris2 (l : List Pr) : Prop := l.Pairwise fun p q => lt2 p.2 q.2
theorem Ris2.nd {l : List Pr} (r : Ris2 l) : (l.map (·.2)).Nodup := by
  unfold List.Nodup
  rw [List.pairwise_map]
  exact r.imp fun {p q} h e => by rw [e] at h; exact lt2_irrefl h
abbrev ky2 (q : Int × Int) : List Key := [Sum.inl q.1, Sum.inl q.2]
/-! a list of pairs against [] -/
def Pr.dat (e : Pr) : PyData := .tuple [.int e.2.1, .int e.2.2]
end G7

set_option linter.all false
set_option Elab.async false
set_option maxRecDepth 100000
set_option maxHeartbeats 4000000
namespace G7
open PySem PySem.Spec PyProof.Rows L2
/-! ### data of any depth, in tuples and lists, truth values too -/
inductive Dx where
  | non
  | bl (b : Bool)
  | int (i : Int)
  | str (s : Str)
  | tup (l : List Dx)
  | lst (l : List Dx)
mutual
def RX (H : Hp) : V → Dx → Prop
  | v, .non => v = .non
  | v, .bl b => v = .bl b
  | v, .int i => v = .int i
  | v, .str s => v = .str s
  | v, .tup ds => ∃ a us, v = .ref a ∧ (H a = some (.tup us) ∨ ∃ o : Obj, H a = some (.frz o (.tup us))) ∧ RXs H us ds
  | v, .lst ds => ∃ a us, v = .ref a ∧ H a = some (.lst us) ∧ RXs H us ds
def RXs (H : Hp) : List V → List Dx → Prop
  | [], [] => True
  | u :: us, d :: ds => RX H u d ∧ RXs H us ds
  | _, _ => False
end
mutual
def Dx.fits (m : Nat) : Dx → Prop
  | .tup ds => ds.length ≤ m ∧ Dx.fitsL m ds
  | .lst ds => ds.length ≤ m ∧ Dx.fitsL m ds
  | _ => True
def Dx.fitsL (m : Nat) : List Dx → Prop
  | [] => True
  | d :: r => Dx.fits m d ∧ Dx.fitsL m r
end
mutual
def Dx.deep : Dx → Nat
  | .tup ds => Dx.deepL ds + 1
  | .lst ds => Dx.deepL ds + 1
  | _ => 0
def Dx.deepL : List Dx → Nat
  | [] => 0
  | d :: r => max (Dx.deep d) (Dx.deepL r)
end
theorem RXs.len {H : Hp} : ∀ {us : List V} {ds : List Dx}, RXs H us ds → us.length = ds.length
  | [], [], _ => rfl
  | u :: us, d :: ds, h => by
    have h : RX H u d ∧ RXs H us ds := by simpa only [RXs] using h
    rw [List.length_cons, List.length_cons, RXs.len h.2]
  | [], d :: ds, h => by simp only [RXs] at h
  | u :: us, [], h => by simp only [RXs] at h
theorem RXs.at {H : Hp} : ∀ {us : List V} {ds : List Dx} {i : Nat} {d : Dx}, RXs H us ds → ds[i]? = some d → ∃ u, us[i]? = some u ∧ RX H u d
  | [], [], _, _, _, e => by cases e
  | u :: us, d :: ds, 0, d', h, e => by
    have h : RX H u d ∧ RXs H us ds := by simpa only [RXs] using h
    cases e
    exact ⟨u, rfl, h.1⟩
  | u :: us, d :: ds, i + 1, d', h, e => by
    have h : RX H u d ∧ RXs H us ds := by simpa only [RXs] using h
    exact RXs.at (us := us) (ds := ds) (i := i) h.2 (by simpa using e)
  | [], d :: ds, _, _, h, _ => by simp only [RXs] at h
  | u :: us, [], _, _, h, _ => by simp only [RXs] at h
theorem Dx.fitsL_at {m : Nat} : ∀ {ds : List Dx} {i : Nat} {d : Dx}, Dx.fitsL m ds → ds[i]? = some d → Dx.fits m d
  | [], _, _, _, e => by cases e
  | d :: ds, 0, d', h, e => by
    cases e
    exact h.1
  | d :: ds, i + 1, d', h, e => Dx.fitsL_at h.2 e
theorem Dx.deepL_at : ∀ {ds : List Dx} {i : Nat} {d : Dx}, ds[i]? = some d → Dx.deep d ≤ Dx.deepL ds
  | [], _, _, e => by cases e
  | d :: ds, 0, d', e => by
    cases e
    exact Nat.le_max_left _ _
  | d :: ds, i + 1, d', e => Nat.le_trans (Dx.deepL_at (ds := ds) e) (Nat.le_max_right _ _)
mutual
theorem RX.same {H H' : Hp} (k : Same H H') : ∀ {d : Dx} {v : V}, RX H v d → RX H' v d
  | .non, _, h => by simpa only [RX] using h
  | .bl _, _, h => by simpa only [RX] using h
  | .int _, _, h => by simpa only [RX] using h
  | .str _, _, h => by simpa only [RX] using h
  | .tup ds, v, h => by
    simp only [RX] at h ⊢
    obtain ⟨a, us, e, h1, h2⟩ := h
    exact ⟨a, us, e, h1.imp (fun h => k _ _ h) (fun ⟨o, h⟩ => ⟨o, k _ _ h⟩), RXs.same k h2⟩
  | .lst ds, v, h => by
    simp only [RX] at h ⊢
    obtain ⟨a, us, e, h1, h2⟩ := h
    exact ⟨a, us, e, k _ _ h1, RXs.same k h2⟩
theorem RXs.same {H H' : Hp} (k : Same H H') : ∀ {ds : List Dx} {us : List V}, RXs H us ds → RXs H' us ds
  | [], [], h => by simp only [RXs]
  | d :: ds, u :: us, h => by
    simp only [RXs] at h ⊢
    exact ⟨RX.same k h.1, RXs.same k h.2⟩
  | d :: ds, [], h => by simp only [RXs] at h
  | [], u :: us, h => by simp only [RXs] at h
end
theorem rx_str {H : Hp} (s : Str) : RX H (.str s) (.str s) := by simp only [RX]
theorem rx_int {H : Hp} (s : Int) : RX H (.int s) (.int s) := by simp only [RX]
theorem rx_non {H : Hp} : RX H .non .non := by simp only [RX]
theorem rx_tup {H : Hp} {a : Addr} {us : List V} {ds : List Dx} (h : H a = some (.tup us)) (r : RXs H us ds) : RX H (.ref a) (.tup ds) := by
  simp only [RX]
  exact ⟨a, us, rfl, .inl h, r⟩
theorem rx_tupF {H : Hp} {a : Addr} {o : Obj} {us : List V} {ds : List Dx} (h : H a = some (.frz o (.tup us))) (r : RXs H us ds) : RX H (.ref a) (.tup ds) := by
  simp only [RX]
  exact ⟨a, us, rfl, .inr ⟨o, h⟩, r⟩
theorem rxs_nil {H : Hp} : RXs H [] [] := by simp only [RXs]
theorem rxs_cons {H : Hp} {u : V} {us : List V} {d : Dx} {ds : List Dx} (h : RX H u d) (r : RXs H us ds) : RXs H (u :: us) (d :: ds) := by
  simp only [RXs]
  exact ⟨h, r⟩
theorem rxs_map {α : Type} {H : Hp} {f : α → V} {g : α → Dx} : ∀ {l : List α}, (∀ x ∈ l, RX H (f x) (g x)) → RXs H (l.map f) (l.map g)
  | [], _ => rxs_nil
  | x :: r, h => rxs_cons (h x List.mem_cons_self) (rxs_map fun y hy => h y (List.mem_cons_of_mem _ hy))
/-- a pair of ints -/
def dx2 (q : Int × Int) : Dx := .tup [.int q.1, .int q.2]
/-- an item of a list or of a tuple -/
def rIxLT : R2 := fun x y H Q => ∃ p xs i v, x = .ref p ∧ y = .int i ∧ (lsO (H p) = some xs ∨ tpO (H p) = some xs) ∧ atI xs i = some v ∧ Q v H
theorem ix_lt {X : Cx} : IxR X rIxLT := fun a b p s σ H x y v u Q I rx ry ⟨q, xs, i, w, e1, e2, h, e, k⟩ => by
  rcases h with h | h
  · exact ix_lst a b p s σ H x y v u Q I rx ry ⟨q, xs, i, w, e1, e2, h, e, k⟩
  · exact ix_tp a b p s σ H x y v u Q I rx ry ⟨q, xs, i, w, e1, e2, h, e, k⟩
def cLenLT : List V → Hp → VK → Prop := fun vs H Q => ∃ p xs, vs = [.ref p] ∧ (lsO (H p) = some xs ∨ tpO (H p) = some xs) ∧ Q (.int (xs.length : Int)) H
theorem len_lt {X : Cx} : CallR X (.builtin "len") cLenLT := callImp call_len_seq fun vs H Q ⟨p, xs, e, h, q⟩ => ⟨p, xs, e, h.elim (fun h => .inl (.inl (rd_lsO h))) (fun h => .inr (.inl (rd_tpO h))), q⟩
end G7

set_option linter.all false
set_option Elab.async false
set_option maxRecDepth 100000
set_option maxHeartbeats 4000000
/-! an own error made by keywords alone: C(k = v), C's own __init__ walked; StoreError.__init__(self, x) in it -/
namespace PySem
namespace HandSPX
open Builtin Builtin.ObjectAttr
section
variable {M : Model} {A : Around} {E : Value → Shared → Prop} {h : Heap} {g : Array GenState} {d : Drawn} {t : Nat} {os : OsState}
variable {nm q : Str} {C N : Addr} {bs bm bmB : List Value} {hdct : Bool} {sn : List Str} {sub : List Value} {ab : Bool} {col : Option Bool} {dd : Option Addr} {k0 k1 k2 k3 k5 : Option Value} {B newId initId : String}
theorem check_new_kw (F : ExcBaseFacts B newId initId bmB) (hT : ∀ X : String, bm.contains (.type X) = bmB.contains (.type X)) {rest : List Value} {kws : List (Str × Value)} {Q : Unit → Shared → Prop}
    (hC : h.get? C = some (excClassObj nm q C N bs bm hdct sn sub ab col dd k0 k1 k2 k3 k5 newId)) (hq : Q () ⟨h, g, d, t, os⟩) : wpAny M A (checkBuiltinCall newId ⟨.ref C :: rest, kws⟩) Q E ⟨h, g, d, t, os⟩ := by
  have hcont : (Value.ref C :: bm).contains (.type B) = true := by rw [List.contains_cons, hT, F.hasB, Bool.or_true]
  have hstar := F.noStar
  simp only [checkBuiltinCall, F.newKind, F.newSplit, F.newRow]
  repeat (first | refine wpAny_loadPart_at hC ?_ | (refine wpAny_isSubtype_exc hC ?_; rw [hcont]) | refine wpAny_staticBase_exc hC ?_ | refine wpAny_madeBy_exc hC ?_ | simp only [bne_self_eq_false, Bool.false_eq_true, if_false] | wp_step)
  exact hq
end
section
variable {prog : Program} {w : World} {A : Around} {E : Value → Shared → Prop} {R : Result → Shared → Prop} {h : Heap} {g : Array GenState} {d : Drawn} {t : Nat} {os : OsState}
variable {nm q : Str} {C N : Addr} {bs bm bmB : List Value} {hdct : Bool} {sn : List Str} {sub : List Value} {ab : Bool} {col : Option Bool} {dd : Option Addr} {k0 k1 k2 k3 k5 : Option Value} {B newId initId : String}
theorem new_kw (F : ExcBaseFacts B newId initId bmB) (hT : ∀ X : String, bm.contains (.type X) = bmB.contains (.type X)) {rest : List Value} {kws : List (Str × Value)}
    (hC : h.get? C = some (excClassObj nm q C N bs bm hdct sn sub ab col dd k0 k1 k2 k3 k5 newId))
    (hq : R (.ok (.ret (.ref (h.objs.size + 1)))) ⟨(h.push { cls := .type "tuple", data := .seq rest.toArray }).push
      { cls := .ref C, data := .fields #[.ref h.objs.size, .none, .none, .none, .bool false, .none] }, g, d, t, os⟩) (hrest : rest.length ≤ sizeLine) :
    codeAny (model prog w) A (.builtin newId ⟨.ref C :: rest, kws⟩) R ⟨h, g, d, t, os⟩ := by
  have hends := F.ends
  have hcB : (Value.ref C :: bm).contains (.type B) = true := by rw [List.contains_cons, hT, F.hasB, Bool.or_true]
  have hcA : (Value.ref C :: bm).contains (.type "AttributeError") = false := by rw [List.contains_cons, hT, F.noAttr]; rfl
  have hcN : (Value.ref C :: bm).contains (.type "NameError") = false := by rw [List.contains_cons, hT, F.noName]; rfl
  refine codeAny_builtinAt F.entry ?_
  unfold Builtin.«BaseException.__new__»
  refine wpAt_bind ?_
  show wpAt _ _ _ (stack >>= _) _ _ _
  refine wpAt_bind (wpAt_stack fun p below => wpAt_of_wpAny ?_)
  wp_walk
  refine wpAt_of_wpAny ?_
  rw [F.owner]
  repeat (first | with_reducible refine wpAny_madeHere_exc F.canon hC ?_ | with_reducible refine wpAny_loadPart_at hC ?_ | (with_reducible refine wpAny_isSubtype_exc hC ?_; first | rw [hcB] | rw [hcA] | rw [hcN]) | wp_step)
  show R _ _
  rw [Heap.size_push]
  exact hq
theorem type_call_kw (F : ExcBaseFacts B newId initId bmB) (hT : ∀ X : String, bm.contains (.type X) = bmB.contains (.type X)) {rest : List Value} {kws : List (Str × Value)} {fI : Addr} {Q : Fin → Shared → Prop}
    (hC : h.get? C = some (excClassObj nm q C N bs bm hdct sn sub ab col dd k0 k1 k2 k3 k5 newId))
    (hi : W.Looks (model prog w) h (typeLookup (.ref C) "__init__") (some (.ref fI))) (hb : ∀ self, W.Looks (model prog w) h (bindSpecial (.ref fI) self) (.ref fI, [self])) (hrest : rest.length ≤ sizeLine)
    (hq : codeAny (model prog w) A (.call (.ref fI) ⟨.ref (h.objs.size + 1) :: rest, kws⟩)
      (fun r s' => match r with | .ok (.ret v) => v = .none ∧ Q (.done (.ret (.ref (h.objs.size + 1)))) s' | .ok _ => False | .error e => E e s')
      ⟨(h.push (W.kdv_tup rest)).push (excO C h.objs.size), g, d, t, os⟩) :
    wpAny (model prog w) A (Builtin.«type.__call__» ⟨.ref C :: rest, kws⟩) Q E ⟨h, g, d, t, os⟩ := by
  repeat (first | with_reducible refine wpAny_loadPart_at hC ?_ | with_reducible refine wpAny_madeBy_exc hC ?_ | wp_step)
  refine codeAny_call_builtin_code (Code.quiet_builtin _ F.quiet) (check_new_kw F hT hC ?_)
  refine new_kw F hT hC ?_ hrest
  show wpAny _ _ _ _ _ _
  have k : ∀ b o, h.get? b = some o → ((h.push (W.kdv_tup rest)).push (excO C h.objs.size)).get? b = some o := fun b o e => Heap.get?_push_of_some _ (Heap.get?_push_of_some _ e)
  have hC₁ := k _ _ hC
  have hget : ((h.push (W.kdv_tup rest)).push (excO C h.objs.size)).get? (h.objs.size + 1) = some (excO C h.objs.size) := by heap_get
  have hcC : (Value.ref C :: bm).contains (.ref C) = true := by simp
  have i1 := hi.keeps k
  have b1 := (hb (.ref (h.objs.size + 1))).keeps k
  unfold isInstance
  repeat (first | with_reducible refine wpAny_loadPart_at hget ?_ | (with_reducible refine wpAny_isSubtype_exc hC₁ ?_; rw [hcC]) | wp_step)
  show wpAny _ _ (typeLookup (.ref C) _) _ _ _
  refine i1.at ?_
  refine wpAny_holding (wpAny_bind (b1.at ?_))
  refine wpAny_bind (wpAny_call (codeAny_mono hq fun r s' z => ?_))
  rcases r with e | (v | _ | _ | _) <;> first | exact z | exact z.elim | skip
  obtain ⟨rfl, z⟩ := z
  first
    | exact wpAny_pure (wpAny_pure z)
    | (wp_walk; exact z)
theorem call_kw (F : ExcBaseFacts B newId initId bmB) (hT : ∀ X : String, bm.contains (.type X) = bmB.contains (.type X)) {rest : List Value} {kws : List (Str × Value)} {fI : Addr}
    (hC : h.get? C = some (excClassObj nm q C N bs bm hdct sn sub ab col dd k0 k1 k2 k3 k5 newId))
    (hi : W.Looks (model prog w) h (typeLookup (.ref C) "__init__") (some (.ref fI))) (hb : ∀ self, W.Looks (model prog w) h (bindSpecial (.ref fI) self) (.ref fI, [self])) (hrest : rest.length ≤ sizeLine)
    (hq : codeAny (model prog w) (A.under (.builtin "type.__call__" ⟨.ref C :: rest, kws⟩)) (.call (.ref fI) ⟨.ref (h.objs.size + 1) :: rest, kws⟩) (W.InitBack (h.objs.size + 1) R)
      ⟨(h.push (W.kdv_tup rest)).push (excO C h.objs.size), g, d, t, os⟩) :
    codeAny (model prog w) A (.call (.ref C) ⟨rest, kws⟩) R ⟨h, g, d, t, os⟩ := by
  have f1 := tc_lookup
  have f2 := tc_bind (.ref C)
  have hTy : (⟨h, g, d, t, os⟩ : Shared).TypeIs (.ref C) "type" := ⟨_, hC, rfl⟩
  refine codeAny_of_tree ?_
  show wpAny _ _ (callAny (.ref C) _) _ _ _
  repeat (any_goals (first | assumption | with_reducible refine wpAny_loadPart_at hC ?_ | wp_step))
  refine ⟨rfl, ?_⟩
  refine codeAny_call_builtin_at (Code.quiet_builtin _ (by decide +kernel)) entry_typeCall (wpAny_check_type_call_sub hC (type_call_kw F hT hC hi hb hrest ?_))
  refine codeAny_mono hq fun r s' z => ?_
  rcases r with e | (v | _ | _ | _) <;> exact z
end
end HandSPX
end PySem
namespace G7
open PySem PySem.Spec PyProof.Rows L2
/-- C(k = e, ..), C's own __init__ keeping sp -/
def tMkK (C : Addr) (m : Nat) (sp : Sp) (gV : List V → List V → List V) (tk : TA) : L2.St → Hp → XK → Prop := fun σ H Q => tk σ H fun zs H1 => zs.length = m ∧ ∀ a, H1 a = none → sp (gV [.ref a] zs) (upd H1 a (exo a C none))
  (fun v H2 => v = .non ∧ ∃ (d : Addr) (fs : List (Str × V)), H2 a = some (exo a C (some d)) ∧ H2 d = some (exd d fs) ∧ H1 d = none ∧ Q (.ref C) (some d) (upd (del H2 a) d (.xd fs))) (fun _ _ _ => False)
section
variable {X : Cx} {e : Expr} {es : List Expr} {kws : List Keyword} {ta tk : TA} {p p1 p2 pos : Pos}
theorem pmk_kw {CX : CXT} {x : Str} {C fI : Addr} {k : Nat} {fd : FuncData} {ps ks : List Str} {sp : Sp} {g : List Value → List Value → List Value} {gV : List V → List V → List V} (T : OexC X.K C) (iC : PySem.W.findIn X.K (.ref C) "__init__" = some (some (.ref fI))) (tI : PySem.W.typeIn X.K (.ref fI) = some (.type "function"))
    (F1 : FnOk X.prog X.w X.K X.mg X.base CX k fI fd ps sp) (hr : Room (k + 1) X.A) (hb : KBn X.K fd ps 1 ks g gV) (hx : Passes CX X (fun _ _ _ => False)) (hg : Gl X x) (hm : X.mg x = some (.ref C)) (hkw : PK X kws tk)
    (hall : (backToKw pos (keywordEach kws X.env)).all (·.1.isSome) = true := by rfl) (hks : (backToKw pos (keywordEach kws X.env)).filterMap (·.1) = ks := by rfl) (hdb : (x == ("__debug__" : Str)) = false := by decide)
    (hpl : ((backTo pos (starEach [] X.env)).any (·.1) || (backToKw pos (keywordEach kws X.env)).any (·.1.isNone)) = false := by rfl) :
    PMk X (.Call (.Name x p) [] kws pos) (tMkK C ks.length sp gV tk) := by
  intro pins s σ H Q I h
  obtain ⟨nm, q, N, bs, bm, sn, sub, ab, col, dd, k0, k1, k2, k3, k5, hC, hbm⟩ := T.cls
  refine wpAny_Call_Name_kw (ld_glob I hg hm ?_ hdb)
  refine PySem.W.callWith_KW0 (h₀ := X.base) I.ok.mod.kin T.kC hall ?_ hpl
  refine thn (hkw.run pos pins s σ H _ I h) fun ws s1 ⟨zs, H1, I1, rz, hlz, q1⟩ => ⟨I1.kIn, ?_⟩
  rw [hks]
  show wpAny _ _ (call (.ref C) [] (ks.zip ws)) _ _ _
  obtain ⟨hp, gn, dr, tt, os⟩ := s1
  have hsz : hp.objs.size ≤ hp.objs.size + 1 := Nat.le_succ _
  have hn : H1 (hp.objs.size + 1) = none := I1.hok.fresh hsz
  have hq := q1 (hp.objs.size + 1) hn
  have kk : ∀ b o, hp.get? b = some o → ((hp.push (PySem.W.kdv_tup [])).push (PySem.HandSPX.excO C hp.objs.size)).get? b = some o := fun b o e => Heap.get?_push_of_some _ (Heap.get?_push_of_some _ e)
  have hget : ((hp.push (PySem.W.kdv_tup [])).push (PySem.HandSPX.excO C hp.objs.size)).get? (hp.objs.size + 1) = some (PySem.HandSPX.excO C hp.objs.size) := by heap_get
  have I2 : Inv X pins σ (upd H1 (hp.objs.size + 1) (exo (hp.objs.size + 1) C none)) ⟨(hp.push (PySem.W.kdv_tup [])).push (PySem.HandSPX.excO C hp.objs.size), gn, dr, tt, os⟩ :=
    I1.laid (t' := tt) (a := hp.objs.size + 1) (o := exo (hp.objs.size + 1) C none) (h' := (hp.push (PySem.W.kdv_tup [])).push (PySem.HandSPX.excO C hp.objs.size)) kk hsz (exo_ok hget)
  have r1 : Vals [V.ref (hp.objs.size + 1)] [Value.ref (hp.objs.size + 1)] := .cons rfl .nil
  have r2 := hb.rel r1 rz
  have l2 : ws.length = ks.length := rz.length.symm.trans hlz
  refine wpAny_call (PySem.HandSPX.call_kw F.excBase_ValueError (fun Y => PySem.HandSPX.refsVE_contains Y bm hbm) (I1.kIn _ _ hC) (PySem.W.looks_findIn I1.kIn iC) (fun self => PySem.W.bind_fn I1.kIn self tI) (Nat.zero_le _)
    (codeAny_mono (F1.run _ X.stack _ _ ⟨[Value.ref (hp.objs.size + 1)], ks.zip ws⟩ (g [Value.ref (hp.objs.size + 1)] ws) _ _ (fun _ _ _ => False) (hr.make C [] (ks.zip ws)) (I2.env0.make C [] (ks.zip ws)) (hb.to _ [Value.ref (hp.objs.size + 1)] ws I2.kIn rfl l2) r2 hq) fun r s' hq' => ?_))
  cases r with
  | error er => exact hx pins σ _ _ er s' I2 hq'
  | ok fl =>
    cases fl with
    | ret u =>
      obtain ⟨v, H2, os2, bare2, un2, hok2, rv, ev, d, fs, ea, ed, hd1, q2⟩ := hq'
      subst ev
      obtain ⟨h2, g2, d2, t2, os'⟩ := s'
      exact ⟨rv, mk_end (raises_own T.exC T.tyC) I1 hsz kk un2 hok2 os2 bare2 ea ed hd1 q2⟩
    | next => exact False.elim hq'
    | brk => exact False.elim hq'
    | cont => exact False.elim hq'
/-- D.__init__(self, ..), D an own class above, without an own __init__ -/
theorem pe_sinit {x : Str} {D : Addr} {mc : Value} {pl : Sem Bool} (hg : Gl X x) (hm : X.mg x = some (.ref D)) (R : ClX.CRead X.K D mc) (vV : PySem.W.findCls X.K (.ref D) mc "__init__" = some (.val (.builtin "ValueError.__init__"))) (ha : PA X (e :: es) ta)
    (hc : eval (.Call (.Attribute (.Name x p1) "__init__" p2) (e :: es) [] pos) X.env = (do
      let ov ← eval (.Name x p1) X.env
      standAt p2.atName
      let (f, first) ← holding [ov] (getMethod ov "__init__" pl)
      callWith pos f first (backTo pos (starEach (e :: es) X.env)) (backToKw pos (keywordEach [] X.env))) := by rfl)
    (he : starEach (e :: es) X.env = (false, eval e X.env) :: starEach es X.env := by rfl) (hpl : (backTo pos (starEach es X.env)).any (·.1) = false := by rfl) (hdb : (x == ("__debug__" : Str)) = false := by decide) :
    PE X (.Call (.Attribute (.Name x p1) "__init__" p2) (e :: es) [] pos) (tVeI X.K ta) := by
  refine ⟨fun pins s σ H Q I h => ?_⟩
  refine PySem.W.methodCall_KW (ld_glob I hg hm ?_ hdb) hc
  refine PySem.W.method_cls I.kIn R.ga (PySem.W.cls_value I.kIn R.rd vV (by decide +kernel) ?_)
  show wpAny _ _ (callWith pos (Value.builtin "ValueError.__init__") [] (backTo pos (starEach (e :: es) X.env)) []) _ _ _
  refine PyProof.Rows.callWith_method1 (thn (ha.run pos pins _ σ H _ (I.tok _) h) fun us s1 ⟨vs, H1, I1, r1, a, C, ws, ev, hl, T, ea, q⟩ => ?_) he hpl
  subst ev
  cases r1 with
  | @cons _ u0 _ ur ra rw' =>
    obtain rfl : u0 = Value.ref a := ra
    have hlen : ur.length ≤ sizeLine := by
      rw [← Paired.length rw', sizeLine_eq]
      omega
    exact oinit_ok T I1 ea hlen fun s' J => ⟨.non, H1, J, rfl, q⟩
end
end G7

set_option linter.all false
set_option Elab.async false
set_option maxRecDepth 100000
set_option maxHeartbeats 4000000
/-! isinstance of a caught error that has fields of its own -/
namespace PySem.W
open PySem PySem.Spec PySem.Calls PyProof.Rows
section
variable {prog : Program} {w : World} {A : Around} {E : Value → Shared → Prop} {s : Shared} {K : Frag} {x D : Addr} {ox : Obj} {od : Option Obj}
theorem findObj_dataD {C : Addr} {name : Str} {a g : Value} (hc : (clsIn K C).isSome = true) (ha : findIn K (.ref C) name = some (some a)) (hg : specialIn K a "__get__" = some (some g)) (ht : takesIn K a = some true) : findObj K C od name = some (.bind g a) := by
  obtain ⟨cd, hc⟩ := Option.isSome_iff_exists.mp hc
  unfold findObj
  rw [hc, Option.bind_some, ha, Option.bind_some]
  simp [hg, ht]
theorem kin_classD {Q : Option Value → Shared → Prop} (hga : findIn K (.ref D) "__getattribute__" = some (some (.builtin "BaseException.__getattribute__"))) (hgt : findIn K (.ref D) "__getattr__" = some none) (hsub : subIn K (.ref D) (.type "BaseException") = some true)
    (hdct : hasDictIn K D = true) (ha : findIn K (.ref D) "__class__" = some (some (.builtin "object.__class__")))
    (hn : specialIn K (.builtin "object.__class__") "__get__" = some (some (.builtin "getset_descriptor.__get__"))) (htk : takesIn K (.builtin "object.__class__") = some true) (hm : mroIn K D (.type "object") = some true)
    (X : K.In s.heap) (I : InstAt s.heap x ox D od) (h : Q (some (.ref D)) { s with toks := s.toks + 1 }) : wpAny (model prog w) A (getAttr? (.ref x) "__class__") Q E s := by
  have hf : findObj K D od "__class__" = some (.bind (.builtin "getset_descriptor.__get__") (.builtin "object.__class__")) := findObj_dataD (by obtain ⟨cd, hc, _⟩ := any_some hdct; rw [hc]; rfl) ha hn htk
  obtain ⟨hp, g, d, t, os⟩ := s
  have L0 := I.type (M := model prog w)
  have L1 := looks_findIn (M := model prog w) X hga
  have L2 := looks_findIn (M := model prog w) X hgt
  have L3 := looks_find (M := model prog w) X I hf
  have sub : Looks (model prog w) hp (isInstance (.ref x) (.type "BaseException")) true := L0.andThen (looks_subIn X hsub)
  have hx0 : (false && onTheHeap (Value.builtin "BaseException.__getattribute__")) = false := rfl
  have hx2 : (Value.builtin "BaseException.__getattribute__" == Value.builtin "object.__getattribute__") = false := by decide +kernel
  have hx1 : (onTheHeap (Value.ref D) && Value.builtin "BaseException.__getattribute__" == Value.builtin "object.__getattribute__") = false := by rw [hx2]; rfl
  unfold getAttr? getAttrBy? getAttrBy
  refine wpAny_bind (wpAny_mkText (wpAny_bind (wpAny_attempt (wpAny_holding (wpAny_bind (L0.at (wpAny_bind (L1.at ?_))))))))
  show wpAny _ _ (if (onTheHeap (Value.ref D) && Value.builtin "BaseException.__getattribute__" == Value.builtin "object.__getattribute__") = true then _ else _) _ _ _
  rw [hx1, if_neg Bool.false_ne_true]
  unfold getAttrByItsOwn hookBefore
  refine wpAny_bind ?_
  rw [if_pos (show onTheHeap (Value.ref D) = true from rfl)]
  refine L2.at ?_
  refine wpAny_bind (wpAny_attempt (wpAny_holding ?_))
  unfold callGetattribute
  rw [hx0, if_neg Bool.false_ne_true]
  unfold boundAndCalled
  rw [PySem.F.excAttr_ValueError.ga.bind (.ref x)]
  refine wpAny_bind (wpAny_pure ?_)
  show wpAny _ _ (call (.builtin "BaseException.__getattribute__") [.ref x, .str "__class__" t]) _ _ _
  refine wpAny_call (codeAny_call_builtin PySem.F.excAttr_ValueError.ga.plain PySem.F.entry_bexc_ga ?_)
  refine @check_slot (model prog w) _ _ ⟨hp, g, d, t + 1, os⟩ "BaseException.__getattribute__" "BaseException" "__getattribute__" (.ref x) [.str "__class__" t] [] _ (by decide +kernel) (by decide +kernel) sub (PySem.F.args_bexc_ga (.ref x) (.str "__class__" t)) ?_
  unfold Builtin.«object.__getattribute__»
  refine wpAny_bind (wpAny_of_eq (a := ((Value.ref x : Value), [Value.str "__class__" t])) (by first | rfl | (simp only [slotArgs]; rfl)) ?_)
  refine wpAny_bind (wpAny_pure (wpAny_bind (L0.at (wpAny_bind (L3.at ?_)))))
  show wpAny _ _ (holding [Value.builtin "object.__class__"] (call (.builtin "getset_descriptor.__get__") [.builtin "object.__class__", .ref x, .ref D]) >>= ret) _ _ _
  refine wpAny_bind (wpAny_holding (wpAny_call (class_get (s := ⟨hp, g, d, t + 1, os⟩) (ox := ox) (od := od) X I hm ?_)))
  refine wpAny_pure ?_
  show wpAny _ _ (handedOut (.ref D)) _ _ _
  rw [handedOut_of (v := .ref D) rfl]
  first
    | exact wpAny_pure (wpAny_pure h)
    | exact wpAny_pure h
    | exact wpAny_pure (wpAny_bind (wpAny_pure (wpAny_pure h)))
theorem kitx_excD (hga : findIn K (.ref D) "__getattribute__" = some (some (.builtin "BaseException.__getattribute__"))) (hgt : findIn K (.ref D) "__getattr__" = some none) (hsub : subIn K (.ref D) (.type "BaseException") = some true) (hdct : hasDictIn K D = true) (ha : findIn K (.ref D) "__class__" = some (some (.builtin "object.__class__")))
    (hn : specialIn K (.builtin "object.__class__") "__get__" = some (some (.builtin "getset_descriptor.__get__"))) (htk : takesIn K (.builtin "object.__class__") = some true) (hm : mroIn K D (.type "object") = some true) :
    KitX K (.ref x) (.ref D) (fun h => InstAt h x ox D od) where
  ty := fun _ _ _ I => I.type
  it := fun _ _ X _ => by
    obtain ⟨cdD, hcD, _⟩ := any_some hdct
    unfold clsIn at hcD
    split at hcD
    · rename_i c' d' cd' sl' ho
      intro A' Q' E' s' k q
      unfold isType loadHead
      exact wpAny_bind (wpAny_loadPart (k _ _ (X _ _ ho)) (wpAny_pure q))
    · cases hcD
  ne := fun h tp dd its n sl X htp => by
    obtain ⟨cdD, hcD, _⟩ := any_some hdct
    refine Bool.eq_false_iff.mpr fun q => ?_
    have e : D = tp := Value.ref.inj (beq_iff_eq.mp q)
    subst e
    unfold clsIn at hcD
    split at hcD
    · rename_i c' d' cd' sl' ho
      have z := (X _ _ ho).symm.trans htp
      cases z
    · cases hcD
  ca := fun X I k => kin_classD hga hgt hsub hdct ha hn htk hm X I k
end
end PySem.W
namespace G7
open PySem PySem.Spec PyProof.Rows L2
/-- isinstance(e, c), e the error that the suite holds, which has its dict -/
def rIsD (K : PySem.W.Frag) (cls : Value) (d : Option Addr) (a : Addr) : List V → Hp → VK → Prop := fun xs H Q => ∃ (D dd : Addr) (fs : List (Str × V)), cls = .ref D ∧ d = some dd ∧ H dd = some (.xd fs) ∧ ExcC K D ∧ ∃ (c : V) (cv : Value) (b : Bool), xs = [.ref a, c] ∧ (∀ u, RelV c u → u = cv) ∧ PySem.W.kitOne K (.ref D) cv = some b ∧ Q (.bl b) H
theorem call_isD {X : Cx} {a : Addr} {oe : Obj} {cls : Value} {d : Option Addr} {pn : List (Addr × Obj)} (hz : Zc cls d oe) (hf : ∃ vs, oe.data = .fields vs) : CallR (X.suite a ((a, oe) :: pn)) (.builtin "isinstance") (rIsD X.K cls d a) := by
  intro pins s σ H xs us Q I r h
  obtain ⟨D, dd, fs, rfl, rfl, hd, C, c, cv, b, rfl, hcv, e, q⟩ := h
  cases r with
  | cons rx rr =>
    cases rr with
    | cons rt rr =>
      cases rr
      cases rx
      have ec := hcv _ rt
      subst ec
      obtain ⟨hget, _⟩ := I.pin (a, oe) (List.mem_append.mpr (.inl List.mem_cons_self))
      obtain ⟨vs, hv⟩ := hf
      have hx : ObjOk X.prog X.w H s.heap dd (.xd fs) := I.hok dd _ hd
      obtain ⟨mA, hns, hr⟩ := hx
      obtain ⟨od, ho, hl⟩ := lookIn_ns hns
      have J : PySem.W.InstAt s.heap a oe D (some od) := ⟨hget, hz.1, by unfold PySem.W.notCls; rw [hv] <;> rfl, by rw [hz.2]; exact ho⟩
      exact PySem.W.kia_one (PySem.W.kitx_excD C.hg C.hk C.hs C.hd C.ha C.hn C.ht C.hm) I.kIn J e (fun z => nomatch z) fun tk => ⟨.bl b, H, I.kept (t' := tk) fun _ _ z => z, rfl, q⟩
end G7

set_option linter.all false
set_option Elab.async false
set_option maxRecDepth 100000
set_option maxHeartbeats 4000000
/-! except x as n, several of them -/
namespace Td
open PySem PySem.Spec PyProof.Rows L2
/-- behind a clause its name is gone -/
def noName (i : Nat) (D : Ends) : Ends where
  nx := fun τ G => D.nx (τ.set i none) G
  rt := D.rt
  bk := fun τ G => D.bk (τ.set i none) G
  ct := fun τ G => D.ct (τ.set i none) G
abbrev ClT := Value × Nat × (Addr → Value → Option Addr → TS)
/-- what the clauses wish, in turn -/
def wCl (K : PySem.W.Frag) (W0 : WX) (D : Ends) : List ClT → WX
  | [] => W0
  | q :: r => fun cls d τ G => ∃ y : Bool, PySem.W.exmOne K cls q.1 = some y ∧
      (y = true → ∀ e, G e = none → q.2.2 e cls d (noName q.2.1 D) (τ.set q.2.1 (some (.ref e))) G) ∧
      (y = false → wCl K W0 D r cls d τ G)
inductive ClOk (X : Cx) : List ExceptHandler → List ClT → Prop
  | nil : ClOk X [] []
  | cons {x n : Str} {q : ClT} {s0 : Stmt} {ss : List Stmt} {p1 p2 : Pos} {hh : List ExceptHandler} {l : List ClT} (names : Names X x q.1) (at_ : X.N[q.2.1]? = some n) (loc : X.env.kindOf n = some .local)
      (suite : ∀ (e : Addr) (oe : Obj) (cls : Value) (d : Option Addr) (pn : List (Addr × Obj)), Zc cls d oe → (∃ vs, oe.data = .fields vs) →
        PSs (X.suite e ((e, oe) :: pn)) (s0 :: ss) (q.2.2 e cls d)) (rest : ClOk X hh l) : ClOk X (.ExceptHandler (some (.Name x p1)) (some n) (s0 :: ss) p2 :: hh) (q :: l)
section
variable {X : Cx} {hh : List ExceptHandler} {l : List ClT} {pins : List (Addr × Obj)} {W0 : WX} {D : Ends} {e : Addr} {B : Heap} {sI sx : Shared} {g : Heap} {τ : L2.St} {G : Hp} {cls : Value} {d : Option Addr}
/-- the clauses are asked in turn -/
theorem asked (hst : X.stack = X.env :: X.outer) (hfm : X.env.frame = some X.env.locals) (nd : X.N.Nodup) (tk : Takes X W0) (I : Inv X pins τ G sI)
    (nb : ∀ b o, sI.heap.get? b = some o → b ∉ frs X.stack → B.get? b = some o) (up : sI.heap.UpToSlots g) (fl : HandSPX.FlyingZ B (X.env :: X.outer) e (Zc cls d) g) (os : sx.os = sI.os) (ag : AllBare sx.gens)
    (free : G e = none) (nl : e ≠ X.env.locals) (nf : e ∉ X.fs) (ok : ClOk X hh l) :
    wCl X.K W0 D l cls d τ G → wpAny (model X.prog X.w) X.A (handleBy (.ref e) X.env hh) (SP X pins D) X.xe { sx with heap := g } := by
  have I3 : Inv X pins τ G { sx with heap := g } := I.landed nb fl.1 up os ag
  obtain ⟨oe, fs, ge, ze, de⟩ := fl.there
  have S3 := I3.suite ge de free nl nf
  induction ok with
  | nil =>
    intro wish
    refine wpAny_handleBy_nil ?_
    obtain ⟨_, _, _, oe', fs', Tb, oT, ts, ge', ze', de', f1, _⟩ := id fl
    unfold PySem.passOn
    refine wpAny_bind (wpAny_field ge' de' f1 ?_)
    rw [if_neg (by simp : ¬ ((Value.ref Tb == Value.none) = true))]
    have on_ : wpAny (model X.prog X.w) X.A (setFlight (.ref e) X.env.frame) (fun _ s4 => wpAny (model X.prog X.w) X.A (throw (.ref e) : Sem Flow) (SP X pins D) X.xe s4) X.xe { sx with heap := g } := by
      rw [hfm]
      refine HandSPX.setFlight_upZ fl fun g4 held up4 => wpAny_throw (tk _ _ ⟨e, B, sI, pins, τ, G, cls, d, rfl, I, nb, up.trans up4, ?_, free, os, ag, wish⟩)
      rw [hst]
      exact .inr (.inr held)
    first | exact wpAny_bind on_ | exact wpAny_bind (wpAny_pure (wpAny_bind on_))
  | @cons x n q s0 ss p1 p2 hs2 l2 names at_ loc suite rest ih =>
    intro wish
    obtain ⟨y, em, yes, no⟩ := wish
    refine wpAny_handleBy_cons (codeAny_handlers_test ?_) (by intro z; cases z)
    have ty : PySem.W.Looks (model X.prog X.w) g (typeOf (.ref e)) cls := fun A Q E s k z => wpAny_typeOf_ref (k _ _ ge) (by rw [ze.1]; exact z)
    have named : ∀ {Q E : Value → Shared → Prop}, Q q.1 { sx with heap := g } → wpAny (model X.prog X.w) (X.A.mark (some (.ref e))) (eval (.Name x p1) X.env) Q E { sx with heap := g } := fun {Q E} z => by
      obtain ⟨gl, db, inMg | ⟨noMg, bt, nn⟩⟩ := names
      · exact ld_glob (X := X.suite e ((e, oe) :: (X.pn ++ pins))) S3 gl inMg z db
      · exact ld_blt (X := X.suite e ((e, oe) :: (X.pn ++ pins))) S3 gl noMg bt z nn db
    refine named ((PySem.W.exm_one (M := model X.prog X.w) I3.kIn ty em).here ?_)
    cases y with
    | false => exact ih (no rfl)
    | true =>
      refine codeAny_handlers_suite_as (HandSPX.lands_againZ fl fun g4 fl4 up4 => ?_)
      have I4 : Inv X pins τ G { sx with heap := g4 } := I.landed nb fl4.1 (up.trans up4) os ag
      obtain ⟨oe4, fs4, ge4, ze4, de4⟩ := fl4.there
      have S4 := I4.suite ge4 de4 free nl nf
      refine store_ok (X := X.suite e ((e, oe4) :: (X.pn ++ pins))) (v := .ref e) S4 nd at_ (.inl loc) rfl (fun s5 S5 => ?_) (.inr loc)
      have bye : ∀ {τ6 : L2.St} {G6 : Hp} {s6 : Shared} {Q : Shared → Prop}, Inv (X.suite e ((e, oe4) :: (X.pn ++ pins))) [] τ6 G6 s6 → (∀ s7, Inv X pins (τ6.set q.2.1 none) G6 s7 → Q s7) →
          wpAny (model X.prog X.w) X.A (do bindName X.env n .none; unbindBehindTheSuite X.env n p2) (fun _ s7 => Q s7) X.xe s6 := fun {τ6 G6 s6 Q} S6 z => gone_ok (S6.unsuite I3.ok) nd at_ loc z
      refine wpAny_mono ((suite e oe4 cls d (X.pn ++ pins) ze4 ⟨_, de4⟩).run [] s5 _ G _ S5 (yes rfl e free)) (fun f s6 done => ?_) (fun _ _ z => z.elim)
      cases f with
      | ret u =>
        obtain ⟨v6, τ6, G6, S6, r6, z⟩ := done
        exact bye S6 fun s7 J => ⟨_, _, _, J, r6, z⟩
      | next =>
        obtain ⟨τ6, G6, S6, z⟩ := done
        exact bye S6 fun s7 J => ⟨_, _, J, z⟩
      | brk =>
        obtain ⟨τ6, G6, S6, z⟩ := done
        exact bye S6 fun s7 J => ⟨_, _, J, z⟩
      | cont =>
        obtain ⟨τ6, G6, S6, z⟩ := done
        exact bye S6 fun s7 J => ⟨_, _, J, z⟩
end
section
variable {X : Cx} {body : List Stmt} {h0 : ExceptHandler} {hh : List ExceptHandler} {l : List ClT} {W0 : WX} {tb : WX → TS} {pos : Pos}
/-- try: .. / except x as n: .. / except y as m: .. -/
theorem ps_tryCl (hst : X.stack = X.env :: X.outer) (hfm : X.env.frame = some X.env.locals) (nd : X.N.Nodup) (tk : Takes X W0)
    (hb : ∀ (W : WX) (pn : List (Addr × Obj)) (xe : Value → Shared → Prop), Takes (X.tr pn xe) W → PassesOwn (model X.prog X.w) X.A X.env xe → PSs (X.tr pn xe) body (tb W))
    (ok : ClOk X (h0 :: hh) l) : PS X (.Try body (h0 :: hh) [] [] pos) (fun D τ G => tb (wCl X.K W0 D l) D τ G) := by
  refine ⟨fun pins s τ0 G0 D I wish => ?_⟩
  have okX := I.ok
  have frames : X.A.frames = some (X.env :: X.outer) := by rw [okX.frames, hst]
  refine wpAny_Try_except (wpAny_mono ((hb (wCl X.K W0 D l) (X.pn ++ pins) (fun v s1 => wpAny (model X.prog X.w) X.A (noteFrame v X.env) (fun _ s2 => wpAny (model X.prog X.w) X.A (setFlight v none)
    (fun _ s3 => wpAny (model X.prog X.w) X.A (handleBy v X.env (h0 :: hh)) (SP X pins D) X.xe s3) X.xe s2) X.xe s1) (fun v sx caught => ?_) PassesOwn.looking).run [] s τ0 G0 D (I.toTry _) wish) (fun f s1 done => ?_) fun v s1 z => z)
  · obtain ⟨e, B, sI, pins', τ, G, cls, d, rfl, J', nb, up, sky, free, os, ag, w⟩ := caught
    have J : Inv X pins τ G sI := J'.ofTry okX
    rw [show (X.tr (X.pn ++ pins) _).stack = X.env :: X.outer from hst] at sky
    refine Sky.land Zc.steady frames hfm sky fun g fl up3 => ?_
    obtain ⟨oe, fs, ge, _, de⟩ := fl.there
    have no : e ∉ frs (X.env :: X.outer) := fun hm => by
      obtain ⟨_, o', e', z⟩ := fl.2.2.1.mem hm
      rw [ge] at e'
      cases e'
      exact z _ de
    refine asked hst hfm nd tk J nb (up.trans up3) fl os ag free (fun z => no (List.mem_filterMap.mpr ⟨X.env, List.mem_cons_self, by rw [hfm, z]⟩)) (fun hm => ?_) ok w
    obtain ⟨v, hv, q⟩ := List.mem_filterMap.mp hm
    exact no (List.mem_filterMap.mpr ⟨v, List.mem_cons_of_mem _ hv, q⟩)
  · cases f with
    | ret u =>
      obtain ⟨v, τ, G, J, r, z⟩ := done
      exact ⟨v, τ, G, J.ofTry okX, r, z⟩
    | next =>
      obtain ⟨τ, G, J, z⟩ := done
      exact wpAny_execs_nil ⟨τ, G, J.ofTry okX, z⟩
    | brk =>
      obtain ⟨τ, G, J, z⟩ := done
      exact ⟨τ, G, J.ofTry okX, z⟩
    | cont =>
      obtain ⟨τ, G, J, z⟩ := done
      exact ⟨τ, G, J.ofTry okX, z⟩
end
end Td

set_option linter.all false
set_option Elab.async false
set_option maxRecDepth 100000
set_option maxHeartbeats 4000000
/-! the end's words: keyword-only parameters without defaults; isinstance of a class above -/
namespace G7
open PySem PySem.Spec PyProof.Rows L2
/-- a def all of whose keyword-only parameters are without defaults -/
theorem _root_.L2.Fun.kbn {K : PySem.W.Frag} {x qual : Str} {st : Stmt} {f : Addr} {fd : FuncData} {ps : List Str} (F : L2.Fun K x qual st f fd) (n : Nat) (ks : List Str)
    (h : ∀ (kV doc pm : Value) (an : Option Addr) (cdv ct : Value) (us ws : List Value), us.length = n → ws.length = ks.length → bindArgs (PySem.W.fnOf x qual (defArgs st) (defBody st) (defScope st) .none kV doc pm an cdv ct) ⟨us, ks.zip ws⟩ = pure (ps.zip (us ++ ws))) :
    KBn K fd ps n ks (fun us ws => us ++ ws) (fun vs zs => vs ++ zs) := by
  obtain ⟨oc, od, kV, doc, pm, an, cdv, ct, osl, rfl, lk, hcd⟩ := F.ex
  exact ⟨fun s us ws X l1 l2 => .of_eq (h kV doc pm an cdv ct us ws l1 l2), fun r1 r2 => r1.append r2⟩
/-- isinstance of an own class above -/
theorem kit_sub {K : PySem.W.Frag} {D C : Addr} (h2 : PySem.W.isClsIn K C = true) (h3 : PySem.W.typeIn K (.ref C) = some (.type "type")) (h4 : PySem.W.subIn K (.ref D) (.ref C) = some true) : PySem.W.kitOne K (.ref D) (.ref C) = some true := by
  have e2 : ((PySem.W.clsIn K C).isSome && PySem.W.typeIn K (.ref C) == some (.type "type")) = true := by
    have h2' : (PySem.W.clsIn K C).isSome = true := h2
    rw [h2', h3] <;> rfl
  show (if ((Value.ref D : Value) == .ref C) = true then some true else (if ((PySem.W.clsIn K C).isSome && PySem.W.typeIn K (.ref C) == some (.type "type")) = true then PySem.W.subIn K (.ref D) (.ref C) else none)) = some true
  by_cases e : ((Value.ref D : Value) == .ref C) = true
  · rw [if_pos e]
  · rw [if_neg e, if_pos e2]
    exact h4
end G7

set_option linter.all false
set_option Elab.async false
set_option maxRecDepth 100000
set_option maxHeartbeats 4000000
/-! a clause of an own error, at any own error -/
namespace G7
open PySem PySem.Spec PyProof.Rows L2
theorem exm_is {K : PySem.W.Frag} {D S : Addr} {b : Bool} (h1 : PySem.W.subIn K (.ref S) (.type "BaseException") = some true) (h2 : PySem.W.isClsIn K S = true) (h3 : PySem.W.typeIn K (.ref S) = some (.type "type")) (h4 : PySem.W.subIn K (.ref D) (.ref S) = some b) :
    PySem.W.exmOne K (.ref D) (.ref S) = some b := by
  have e1 : (PySem.W.subIn K (.ref S) (.type "BaseException") == some true) = true := by rw [h1] <;> rfl
  have e2 : ((PySem.W.clsIn K S).isSome && PySem.W.typeIn K (.ref S) == some (.type "type")) = true := by
    have h2' : (PySem.W.clsIn K S).isSome = true := h2
    rw [h2', h3] <;> rfl
  show (if (PySem.W.subIn K (.ref S) (.type "BaseException") == some true) = true then (if ((PySem.W.clsIn K S).isSome && PySem.W.typeIn K (.ref S) == some (.type "type")) = true then PySem.W.subIn K (.ref D) (.ref S) else none) else none) = some b
  rw [if_pos e1, if_pos e2, h4]
end G7

set_option linter.all false
set_option Elab.async false
set_option maxRecDepth 100000
set_option maxHeartbeats 4000000
/-! a() as a statement in a try, a callable of known doing -/
namespace Lm
open PySem PySem.Spec PyProof.Rows L2 LamX
theorem pss_exprA {X : Cx} {H0 : Hp} {k i : Nat} {f : Addr} {R : XK → Hp → VK → Prop} {W : WX} {a : Str} {p1 p2 p3 : Pos} (hA : Act0 X.prog X.w X.K X.mg X.base k H0 f R) (tk : Takes X W)
    (hr : Room k X.A) (hN : X.N[i]? = some a) (hv : Vis X.env.scope a) (hd : (a == ("__debug__" : Str)) = false := by decide) (hcd : (a == ("__classdict__" : Str)) = false := by decide) (hs : swapsWith (.Call (.Name a p1) [] [] p2) none p3.line X.env = pure false := by rfl) :
    PSs X [.Expr (.Call (.Name a p1) [] [] p2) p3] (fun D σ H => σ[i]? = some (some (.ref f)) ∧ KeepF H0 H ∧ R (fun cls d H' => W cls d σ H') H fun _ H1 => D.nx σ H1) := by
  refine pss_one (ps_expr (pos := p3) (te := fun σ H Q => σ[i]? = some (some (.ref f)) ∧ KeepF H0 H ∧ R (fun cls d H' => W cls d σ H') H Q) ?_ hs)
  refine ⟨fun pins s σ H Q I h => ?_⟩
  obtain ⟨hs, hk, hR⟩ := h
  refine wpAny_Call_Name_kw (thn ((pe_var (pos := p1) (i := i) hN hv hd hcd).run pins s σ H (fun v H1 => v = .ref f ∧ H1 = H) I ⟨.ref f, hs, rfl, rfl⟩) fun u s1 ⟨v, H1, I1, r1, q1⟩ => ?_)
  obtain ⟨ev, eH⟩ := q1
  subst ev
  rw [eH] at I1
  obtain rfl : u = Value.ref f := r1
  obtain ⟨fo, rc⟩ := hA X.A X.stack s1 H Q (fun cls d H' => W cls d σ H') hr I1.env0 hk hR
  refine PySem.W.callWith_F0 fo ?_
  refine wpAny_call (codeAny_mono rc fun r s' hq => ?_)
  cases r with
  | error e => exact passAt tk σ pins H s1 e s' I1 hq
  | ok fl =>
    cases fl with
    | ret u => exact I1.after hq
    | next => exact False.elim hq
    | brk => exact False.elim hq
    | cont => exact False.elim hq
end Lm

set_option linter.all false
set_option Elab.async false
set_option maxRecDepth 100000
set_option maxHeartbeats 4000000
/-! sorted(l, key=lambda row: ..) of tuples of ints -/
namespace Lm
open PySem PySem.Spec PyProof.Rows L2 LamX
section
variable {P : Program} {w : World} {A : Around} {s : Shared}
end
abbrev RwI := Addr × List Int
/-- a lambda of one name that looks at one name of its maker's -/
structure RowLam (sc scope : Scope) (r b : Str) : Prop where
  hv : sc.names.lookup b = some .cell
  sk : scope.kind = .function
  co : scope.isCoroutine = false
  gen : scope.isGenerator = false
  nocell : ∀ y ∈ scope.names, y.2 ≠ .cell
  loc : scope.names.lookup r = some .local
  fre : scope.names.lookup b = some .free
  hfree : ∀ y ∈ scope.names, y.2 = .free → sc.names.lookup y.1 = some .cell ∨ sc.names.lookup y.1 = some .free
section
variable {X : Cx}
end
end Lm

set_option linter.all false
set_option Elab.async false
set_option maxRecDepth 100000
set_option maxHeartbeats 4000000
/-! lambdas whose bodies call defs that hold lambdas themselves: the ground of the body holds what the maker's ground holds -/
namespace Lm
open PySem PySem.Spec PyProof.Rows L2 LamX
section
variable {X : Cx}
theorem act_lamB {k : Nat} {params : Arguments} {body : Expr} {scope : Scope} {dV : Value} {f : Addr} {H : Hp} {t : XK → TE} (L : LamG X.N X.env.scope scope) (l : LamAt (X.env.qual ++ "<lambda>") params body scope (cloFrom X.env.cells scope.names []) dV f H)
    (hbind : ∀ (s1 : Shared) (H1 : Hp) (c : Addr) (doc pm ctv : Value), KeepF H H1 → HOk X.prog X.w H1 s1.heap → ∃ binds : List (Str × Value), (∀ y ∈ binds, scope.names.lookup y.1 = some .local) ∧
      BindsTo s1 (PySem.W.kdv_fn "<lambda>" (X.env.qual ++ "<lambda>") params (.expr body) scope (cloFrom X.env.cells scope.names []) dV doc pm (.ref c) ctv) ⟨[], []⟩ binds)
    (hbody : ∀ (B : Heap), (∀ b o, X.base.get? b = some o → B.get? b = some o) → ∀ (A : Around) (outer : List Env) (s : Shared) (H : Hp) (E : XK) (f c' : Addr), Room k (A.deeper (lamEnv X scope s.heap.objs.size f c')) → PE (lamCx (onB X B) A outer s H E scope f c') body (t E)) :
    Acts X (k + 1) (fun σ E H Q => t E σ H Q) f H := by
  rintro H2 kp σ B ⟨pins, s, I, xb⟩ A outer s1 H1 Q E hr e0 kf r
  obtain ⟨c, o, oc, vs, tk, ⟨doc, pm, ctv, rfl⟩, hf, hc, hd, hv⟩ := l.keep (kp.trans kf)
  have of1 := (e0.hok f _ hf).1
  have oc1 := (e0.hok c _ hc).1
  refine ⟨⟨_, _, _, _, of1⟩, ?_⟩
  refine PySem.W.kla_callFunE hr.depth of1 rfl L.co L.gen rfl ⟨c, oc, vs, tk, rfl, oc1, hd, hv⟩ ?_
  obtain ⟨binds, hl, hb⟩ := hbind s1 H1 c doc pm ctv (kp.trans kf) e0.hok
  have lim : s1.heap.NoLimit := e0.mod.nolimit.keeps fun b o e => (e0.bs b o e).1
  refine hb _ _ _ _ (wpAny_newFunctionEnv (fun y hy => (L.own y hy).1) hl (fun h₁ hns hsb => ⟨lim.fresh _ hsb, ?_⟩) L.kind)
  show codeAny _ _ (.expr body (lamEnv X scope s1.heap.objs.size f c)) _ _
  have kp1 : ∀ b o, s1.heap.get? b = some o → h₁.get? b = some o := fun b o e => hsb.extBut b o (Nat.ne_of_lt (Heap.lt_size e)) (Heap.get?_push_of_some _ e)
  have J : Inv (lamCx (onB X B) A outer s1 H1 E scope f c) [] σ H1 { s1 with heap := h₁, toks := s1.toks + binds.length } := lam_startB I L xb e0 hr.hd hns kp1
  refine PySem.W.kla_codeExpr (wpAny_mono ((hbody B xb.base A outer s1 H1 E f c (hr.deeper _)).run [] _ _ H1 Q J r) (fun v s' hq => ?_) fun e s' hq => hq)
  obtain ⟨w', H', J', rv, q⟩ := hq
  exact ⟨w', H', J'.os, J'.bare, J'.base, J'.hok, rv, q⟩
theorem pe_lamB {T : List (Addr × Str)} {c P : Addr} {k : Nat} {params : Arguments} {body : Expr} {scope : Scope} {pos : Pos} {t : XK → TE} (TB : TabB X.base X.mg c P) (hcode : X.env.code = .ref c)
    (hm : (P, X.env.qual ++ "<lambda>") ∈ T) (hu : ∀ p ∈ T, p.1 = P → p.2 = X.env.qual ++ "<lambda>") (L : LamG X.N X.env.scope scope) (hdef : defaultsOf params X.env = ([], []))
    (hbind : ∀ (q : Str) (cl : List (Str × Addr)) (doc pm cv ctv : Value), bindArgs (PySem.W.kdv_fn "<lambda>" q params (.expr body) scope cl .none doc pm cv ctv) ⟨[], []⟩ = pure [])
    (hbody : ∀ (B : Heap), (∀ b o, X.base.get? b = some o → B.get? b = some o) → ∀ (A : Around) (outer : List Env) (s : Shared) (H : Hp) (E : XK) (f c' : Addr), Room k (A.deeper (lamEnv X scope s.heap.objs.size f c')) → PE (lamCx (onB X B) A outer s H E scope f c') body (t E)) :
    PE X (.Lambda params body scope pos) (tLam X (k + 1) T t) := by
  refine ⟨fun pins s σ H Q I h => ?_⟩
  obtain ⟨hT, h⟩ := h
  refine PySem.W.kla_eval hdef ?_
  rw [makeFunction_eq]
  simp only [List.zip_nil_right, List.filterMap_nil, List.isEmpty_nil, if_true, pure_bind]
  refine lam_tail I TB hcode hm hu hT (L.has I.ok) fun f H1 s' I1 eN T1 l => ?_
  exact ⟨.ref f, H1, I1, rfl, h f H1 eN T1 (act_lamB L l (fun s1 H1 c doc pm ctv _ _ => ⟨[], fun y hy => absurd hy (by simp), .of_eq (hbind _ _ _ _ _ _)⟩) hbody)⟩
end
/-! two tables: one of the law's helper, one of a def of the program's -/
def tt2 (P Px : Addr) (q qx : Str) : List (Addr × Str) := [(P, lamQ q), (Px, lamQ qx)]
theorem tt2_l {P Px : Addr} {q qx : Str} : (P, lamQ q) ∈ tt2 P Px q qx := List.mem_cons_self
theorem tt2_r {P Px : Addr} {q qx : Str} : (Px, lamQ qx) ∈ tt2 P Px q qx := List.mem_cons_of_mem _ List.mem_cons_self
theorem tt2_ul {P Px : Addr} {q qx : Str} (n : P ≠ Px) : ∀ p ∈ tt2 P Px q qx, p.1 = P → p.2 = lamQ q := fun p hp e => by
  rcases List.mem_cons.mp hp with rfl | hp
  · rfl
  · rw [List.mem_singleton.mp hp] at e
    exact absurd e.symm n
theorem tt2_ur {P Px : Addr} {q qx : Str} (n : P ≠ Px) : ∀ p ∈ tt2 P Px q qx, p.1 = Px → p.2 = lamQ qx := fun p hp e => by
  rcases List.mem_cons.mp hp with rfl | hp
  · exact absurd e n
  · rw [List.mem_singleton.mp hp]
/-- a def whose code object is known, and whose errors pass on -/
theorem _root_.L2.Fun.okXL {P : Program} {w : World} {K : PySem.W.Frag} {mg : Str → Option Value} {base : Heap} {x qual : Str} {st : Stmt} {f c : Addr} {fd : FuncData} {N ps : List Str} {k : Nat} {sp : Sp} (F : L2.Fun K x qual st f fd) (hc : fd.code = .ref c) (S : FnScope N ps (defScope st)) (len : ∀ vs H Q E, sp vs H Q E → vs.length = ps.length)
    (hbody : ∀ (A : Around) (outer : List Env) (s : Shared) (H : Hp) (vs : List V) (Q : VK) (E : XK), Room k (A.deeper (envOfC qual (defScope st) s.heap.objs.size f (.ref c))) → sp vs H Q E →
      ∃ t, PSs (cxOf (L2.CX P w) P w K mg base N qual (defScope st) f (.ref c) A outer s H E) (defBody st) t ∧ t { nx := fun _ H' => Q .non H', rt := Q } (L2.start N vs) H) : FnOk P w K mg base (L2.CX P w) (k + 1) f fd ps sp := by
  obtain ⟨oc, od, kV, doc, pm, an, cdv, ct, osl, rfl, lk, hcd⟩ := F.ex
  have e : cdv = .ref c := hc
  subst e
  exact fn_of lk hcd S len fun A outer s H vs Q E hr hsp => hbody A outer s H vs Q E hr hsp
end Lm

set_option linter.all false
set_option Elab.async false
set_option maxRecDepth 100000
set_option maxHeartbeats 4000000
/-! slices of tuples, texts in sequences, methods under comprehensions: as Rules3 and Rules4 have them, beside Dat -/
namespace G7
open PySem PySem.Spec PyProof.Rows L2
/-- (table, field) that an index may be of: a list or a tuple -/
def hasP (l : List Fd) (t f : Str) : Bool := l.any fun e => (e.2.1 == t) && (e.2.2 == f)
structure FxAt (H : Hp) (a : Addr) (ps : List Fd) : Prop where
  at_ : lsO (H a) = some (ps.map fun e => V.ref e.1) ∨ tpO (H a) = some (ps.map fun e => V.ref e.1)
  tups : ∀ e ∈ ps, H e.1 = some (.tup [.str e.2.1, .str e.2.2])
  oks : ∀ e ∈ ps, PyData.strOk e.2.1 = true ∧ PyData.strOk e.2.2 = true
theorem FxAt.same {H H' : Hp} {a : Addr} {ps : List Fd} (R : FxAt H a ps) (k : Same H H') : FxAt H' a ps := by
  refine ⟨?_, fun e he => k _ _ (R.tups e he), R.oks⟩
  rcases R.at_ with h | h
  · refine .inl ?_
    cases e : H a with
    | none => rw [e] at h; cases h
    | some o => rw [k a o e, ← e]; exact h
  · refine .inr ?_
    cases e : H a with
    | none => rw [e] at h; cases h
    | some o => rw [k a o e, ← e]; exact h
theorem any_fds (ps : List Fd) (t f : Str) : ((ps.map Fd.dat).any fun z => PyData.eqv z (.tuple [.str t, .str f])) = hasP ps t f := by
  unfold hasP
  rw [List.any_map]
  congr 1
  funext e
  show PyData.eqv (.tuple [.str e.2.1, .str e.2.2]) (.tuple [.str t, .str f]) = _
  simp only [PyData.eqv, PyData.eqvAll, Bool.and_true]
/-- has a text -/
def hasS (l : List Str) (s : Str) : Bool := l.any fun z => z == s
theorem inV_strs (l : List Str) (s : Str) : inV (.str s) (l.map V.str) = hasS l s := by
  unfold inV hasS
  rw [List.any_map]
  rfl
theorem flat_strs (l : List Str) : (l.map V.str).all flatV = true := by
  rw [List.all_eq_true]
  intro v hv
  obtain ⟨s, _, rfl⟩ := List.mem_map.mp hv
  rfl
section
variable {X : Cx}
/-- a tuple's slice, what stands stays -/
def rSlP : V → Option Int → Option Int → Hp → VK → Prop := fun x lo hi H Q => ∃ a xs, x = .ref a ∧ tpO (H a) = some xs ∧ ∀ p H', Same H H' → tpO (H' p) = some (cutV xs lo hi) → Q (.ref p) H'
theorem cutV_whole {xs : List V} {lo hi : Option Int} (h : HT.sIx xs.length 0 lo = 0 ∧ HT.sIx xs.length xs.length hi = xs.length) : cutV xs lo hi = xs := by
  unfold cutV
  rw [h.1, h.2]
  simp
theorem sl_tp : SlR X rSlP := by
  intro pins s σ H x v vl vu lo hi sl Q I rx hs pl pu h
  obtain ⟨a, xs, e, hx, q⟩ := h
  refine sl_tupF pins s σ H x v vl vu lo hi sl Q I rx hs pl pu ⟨a, xs, e, hx, fun w => q a H (Same.refl H) (by rw [cutV_whole w]; exact hx), fun _ p o hp _ _ => q p _ (same_new hp) (by rw [upd_same]; rfl)⟩
/-- t + u, what stands stays -/
def rCatS : R2 := fun x y H Q => ∃ a b xs ys, x = .ref a ∧ y = .ref b ∧ tpO (H a) = some xs ∧ tpO (H b) = some ys ∧ xs.length + ys.length ≤ sizeLine ∧ ∀ p H', Same H H' → tpO (H' p) = some (xs ++ ys) → Q (.ref p) H'
theorem op_catS : OpR X (binaryOp .Add) rCatS := opImp op_catA fun x y H Q ⟨a, b, xs, ys, e1, e2, h1, h2, hz, q⟩ =>
  ⟨a, b, xs, ys, e1, e2, .inl (rd_tpO h1), .inl (rd_tpO h2), hz, fun n => q b H (Same.refl H) (by rw [n]; exact h2), fun _ n => q a H (Same.refl H) (by rw [n, List.append_nil]; exact h1), fun _ _ p hp => q p _ (same_new hp) (by rw [upd_same]; rfl)⟩
/-- a text in a list or tuple of texts -/
def rInS (neg : Bool) : R2 := fun x y H Q => ∃ p s ss, x = .str s ∧ y = .ref p ∧ (lsO (H p) = some (ss.map V.str) ∨ tpO (H p) = some (ss.map V.str)) ∧ Q (.bl (if neg = true then !hasS ss s else hasS ss s)) H
theorem op_inS : OpR X (compareOp .In) (rInS false) := opImp op_in_seq fun x y H Q ⟨p, s, ss, e1, e2, h, q⟩ =>
  ⟨p, ss.map V.str, e2, h.elim (fun h => .inl (.inl (rd_lsO h))) (fun h => .inr (.inl (rd_tpO h))), by rw [e1]; rfl, flat_strs ss, by rw [e1, inV_strs]; exact q⟩
theorem op_notInS : OpR X (compareOp .NotIn) (rInS true) := opImp op_notIn_seq fun x y H Q ⟨p, s, ss, e1, e2, h, q⟩ =>
  ⟨p, ss.map V.str, e2, h.elim (fun h => .inl (.inl (rd_lsO h))) (fun h => .inr (.inl (rd_tpO h))), by rw [e1]; rfl, flat_strs ss, by rw [e1, inV_strs]; exact q⟩
/-- (table, field) in indexes -/
def rInX : R2 := fun x y H Q => ∃ p q ps t f, x = .ref p ∧ y = .ref q ∧ H p = some (.tup [.str t, .str f]) ∧ PyData.strOk t = true ∧ PyData.strOk f = true ∧ FxAt H q ps ∧ Q (.bl (hasP ps t f)) H
theorem op_inX (hu : X.A.units + 65 < cLine) : OpR X (compareOp .In) rInX := by
  intro pins s σ H x y v u Q I rx ry h
  obtain ⟨p, q, ps, t, f, rfl, rfl, hp, ht, hf, R, k⟩ := h
  have hd : Dp X.K H (.ref p) (.tuple [.str t, .str f]) := .tup (.inl (.inl hp)) (.cons (.str _) (.cons (.str _) .nil))
  have sd : SeqAt.shaped (.tuple [.str t, .str f]) = true := sh2 (shS ht) (shS hf) (dS _) (dS _)
  have k' : Q (.bl ((ps.map Fd.dat).any fun z => PyData.eqv z (.tuple [.str t, .str f]))) H := by rw [any_fds]; exact k
  obtain ⟨as, r1⟩ := Dp.reads I _ _ v hd rx
  rcases R.at_ with e | e
  · obtain ⟨bs, r2⟩ := Dp.reads I (.list (ps.map Fd.dat)) _ u (.lst (.inl (rd_lsO e)) (dpAll_fds R.tups)) ry
    exact SeqAt.in_list_reads r2 r1 (SeqAt.canLay_of_shaped (shaped_fds R.oks)) (SeqAt.canLay_of_shaped sd) (room_in_shaped sd hu) ⟨.bl _, H, I, rfl, k'⟩
  · obtain ⟨bs, r2⟩ := Dp.reads I (.tuple (ps.map Fd.dat)) _ u (.tup (.inl (rd_tpO e)) (dpAll_fds R.tups)) ry
    exact SeqAt.in_tuple_reads r2 r1 (SeqAt.canLay_of_shaped (shaped_fds R.oks)) (SeqAt.canLay_of_shaped sd) (room_in_shaped sd hu) ⟨.bl _, H, I, rfl, k'⟩
end
section
variable {X : Cx} {T : String} {name : Str} {id : String} {r : V → List V → Hp → VK → Prop} {o e : Expr} {es : List Expr} {to : TE} {t : TA} {apos cpos : Pos}
theorem pe_bmK (K : PySem.W.Frag) (hK : X.K = K) (pa : PlainAttrs T) (slot : Slot T name id) (hty : typeOf (.builtin id) = pure (.type "method_descriptor")) (hm : MtR X id r) (ho : PE X o to) (ha : PA X (e :: es) t)
    (hbase : attributeBase o name X.env (eval o X.env) = eval o X.env := by rfl)
    (hfew : ((backTo cpos (starEach (e :: es) X.env)).all (fun x => !x.1) && (backToKw cpos (keywordEach [] X.env)).all (fun x => x.1.isSome)
      && decide ((e :: es).length + ([] : List Keyword).length + (if ([] : List Keyword).isEmpty then 0 else 1) < 30)) = true := by rfl)
    (hline : (apos.endLine == cpos.line) = true := by rfl) (hs : starEach (e :: es) X.env = (false, eval e X.env) :: starEach es X.env := by rfl) (hplain : (backTo cpos (starEach es X.env)).any (·.1) = false := by rfl) :
    PE X (.Call (.Attribute o name apos) (e :: es) [] cpos) (tBM K T r to t) := by
  subst hK
  exact pe_bm pa slot hty hm ho ha hbase hfew hline hs hplain
end
end G7

set_option linter.all false
set_option Elab.async false
set_option maxRecDepth 100000
set_option maxHeartbeats 4000000
/-! comprehensions over things that stand, the heap growing -/
namespace G7
open PySem PySem.Spec PyProof.Rows L2
/-- a comprehension walks es: those kept give y with P e y -/
theorem lc_ents {α : Type} {J : It} {n : Nat} {G : Hp → Prop} {Y : Nat → Hp → V → Hp → Prop} (W : Walk J n G Y) {g : TG} {tt : TT} {te : TE} {vs : List Nat} {σ : L2.St} {H1 : Hp} {Qd : VK}
    (es : List α) (keep : α → Bool) (P : α → V → Hp → Prop) (hn : es.length = n) (hz : es.length ≤ 90000) (hG : ∀ H, Same H1 H → G H) (hY : ∀ i H x H', Y i H x H' → Same H H')
    (mono : ∀ D e y H H', P e y H → (∃ ys, H D = some (.lst ys)) → Keep [D] H H' → P e y H')
    (step : ∀ (i : Nat) (e : α) (x : V) (H H' : Hp) (Q : VK) (N : Hp → Prop), es[i]? = some e → Same H1 H → Y i H x H' → (keep e = true → ∀ y H4, Same H' H4 → P e y H4 → Q y H4) → (keep e = false → ∀ H4, Same H' H4 → N H4) →
      g x (wipe σ vs) H' fun σ2 H2 => wipe σ2 vs = wipe σ vs ∧ tt σ2 H2 fun b H3 => if b = true then te σ2 H3 Q else N H3)
    (done : ∀ (D : Addr) (H : Hp) (zs : List (α × V)), H1 D = none → zs.map (·.1) = es.filter keep → Same H1 H → H D = some (.lst (zs.map (·.2))) → (∀ z ∈ zs, P z.1 z.2 H) → Qd (.ref D) H) :
    lcB J g tt te vs σ H1 Qd := lcB_it fun D hD => by
  refine lc_it W (fun i H => Same H1 H ∧ ∃ zs : List (α × V), zs.map (·.1) = (es.take i).filter keep ∧ H D = some (.lst (zs.map (·.2))) ∧ ∀ z ∈ zs, P z.1 z.2 H) ⟨same_new hD, [], rfl, upd_same, fun z hz => by cases hz⟩ (fun i H _ h => hG H h.1) ?_ ?_
  · rintro i x H H' hi ⟨ss, zs, e1, e2, e3⟩ hy
    have he : es[i]? = some es[i] := List.getElem?_eq_getElem (by omega)
    have sy := hY i H x H' hy
    have tk : es.take (i + 1) = es.take i ++ [es[i]] := by rw [List.take_succ, he]; rfl
    have k0 : ∀ {H4 : Hp}, Same H' H4 → ∀ z ∈ zs, P z.1 z.2 H4 := fun s4 z hz => mono D _ _ _ _ (e3 z hz) ⟨_, e2⟩ (Keep.ofSame (sy.trans s4))
    have zl : zs.length ≤ es.length := by
      have a := congrArg List.length e1
      rw [List.length_map] at a
      have b := List.length_filter_le keep (es.take i)
      rw [List.length_take] at b
      omega
    refine step i _ x H H' _ _ he ss hy (fun hk y H4 s4 hp => ?_) (fun hk H4 s4 => ?_)
    · have d4 := s4 _ _ (sy _ _ e2)
      refine ⟨_, d4, by rw [List.length_map]; exact szl' (by omega), Same.updFree (ss.trans (sy.trans s4)) hD, zs ++ [(es[i], y)], ?_, ?_, fun z hz => ?_⟩
      · rw [tk, List.filter_append, List.map_append, e1, List.filter_cons_of_pos hk]
        rfl
      · rw [upd_same, List.map_append]
        rfl
      · rcases List.mem_append.mp hz with h | h
        · exact mono D _ _ _ _ (k0 s4 z h) ⟨_, d4⟩ (Keep.refl.upd (by simp))
        · rw [List.mem_singleton.mp h]
          exact mono D _ _ _ _ hp ⟨_, d4⟩ (Keep.refl.upd (by simp))
    · refine ⟨ss.trans (sy.trans s4), zs, ?_, s4 _ _ (sy _ _ e2), k0 s4⟩
      rw [tk, List.filter_append, e1, List.filter_cons_of_neg (by rw [hk]; simp)]
      simp
  · rintro H ⟨ss, zs, e1, e2, e3⟩
    rw [← hn, List.take_length] at e1
    exact done D H zs hD e1 ss e2 e3
/-- the same of all, nothing left out -/
theorem lc_all {α : Type} {J : It} {n : Nat} {G : Hp → Prop} {Y : Nat → Hp → V → Hp → Prop} (W : Walk J n G Y) {g : TG} {te : TE} {vs : List Nat} {σ : L2.St} {H1 : Hp} {Qd : VK}
    (es : List α) (P : α → V → Hp → Prop) (hn : es.length = n) (hz : es.length ≤ 90000) (hG : ∀ H, Same H1 H → G H) (hY : ∀ i H x H', Y i H x H' → Same H H')
    (mono : ∀ D e y H H', P e y H → (∃ ys, H D = some (.lst ys)) → Keep [D] H H' → P e y H')
    (step : ∀ (i : Nat) (e : α) (x : V) (H H' : Hp) (Q : VK), es[i]? = some e → Same H1 H → Y i H x H' → (∀ y H4, Same H' H4 → P e y H4 → Q y H4) → g x (wipe σ vs) H' fun σ2 H2 => wipe σ2 vs = wipe σ vs ∧ te σ2 H2 Q)
    (done : ∀ (D : Addr) (H : Hp) (zs : List (α × V)), H1 D = none → zs.map (·.1) = es → Same H1 H → H D = some (.lst (zs.map (·.2))) → (∀ z ∈ zs, P z.1 z.2 H) → Qd (.ref D) H) :
    lcB J g tYes te vs σ H1 Qd := by
  refine lc_ents W es (fun _ => true) P hn hz hG hY mono (fun i e x H H' Q N he s1 hy hq _ => ?_) (fun D H zs hD e1 => done D H zs hD (by rw [e1]; exact List.filter_eq_self.mpr fun _ _ => rfl))
  have z := step i e x H H' Q he s1 hy (hq rfl)
  simp only [tYes, if_true]
  exact z
/-- what is told is a known value of each -/
theorem zs_vals {α : Type} {f : α → V} {zs : List (α × V)} {es : List α} (h : zs.map (·.1) = es) (k : ∀ z ∈ zs, z.2 = f z.1) : zs.map (·.2) = es.map f := by
  rw [← h, List.map_map]
  exact List.map_congr_left fun z hz => k z hz
/-- a dict that is told by things with distinct names -/
theorem valV_mem {κ α : Type} [DecidableEq κ] {f : α → κ} {g : α → V} : ∀ {l : List α}, (l.map f).Nodup → ∀ x ∈ l, valV (l.map fun y => (f y, g y)) (f x) = some (g x)
  | [], _, x, h => by cases h
  | a :: l, nd, x, h => by
    rw [List.map_cons, List.nodup_cons] at nd
    unfold valV
    rw [List.map_cons, List.find?_cons]
    by_cases e : f a = f x
    · rcases List.mem_cons.mp h with z | z
      · rw [z]
        simp
      · exact absurd (List.mem_map.mpr ⟨x, z, e.symm⟩) nd.1
    · rw [decide_eq_false e]
      rcases List.mem_cons.mp h with z | z
      · exact absurd (by rw [z]) e
      · exact valV_mem nd.2 x z
theorem nd_inr {α : Type} {f : α → Str} {l : List α} (h : (l.map f).Nodup) : (l.map fun x => (Sum.inr (f x) : Key)).Nodup := by
  unfold List.Nodup at *
  rw [List.pairwise_map] at *
  exact h.imp fun n e => n (Sum.inr.inj e)
end G7

set_option linter.all false
set_option Elab.async false
set_option maxRecDepth 100000
set_option maxHeartbeats 4000000
/-! a store as it is told, without places: what its writes make of it -/
namespace G7
open PySem PySem.Spec PyProof.Rows L2
abbrev RowE := Addr × List Int
inductive Wr where
  | tab (name : Str) (fa : Addr) (fields : List Str)
  | idx (name field : Str)
  | row (name : Str) (key : Int) (r : Option RowE)
abbrev AVer := Int × Option RowE
abbrev AKey := Int × List AVer
structure ATab where
  name : Str
  n : Int
  fields : List Str
  keys : List AKey
structure AIdx where
  tab : Str
  field : Str
  n : Int
  M : List (Int × Int)
structure ASto where
  first : Int
  newest : Int
  tabs : List ATab
  idxs : List AIdx
def ASto.tab? (A : ASto) (nm : Str) : Option ATab := A.tabs.find? fun t => decide (t.name = nm)
def ASto.col (A : ASto) (nm f : Str) : Nat := match A.tab? nm with
  | some t => t.fields.idxOf f
  | none => 0
/-- sizes, and that the indexes' fields are there -/
def verSum (ks : List AKey) : Nat := (ks.map fun e => e.2.length).sum
structure ABd (A : ASto) (N : Nat) : Prop where
  nt : A.tabs.length ≤ 1000
  ni : A.idxs.length ≤ 1000
  nk : ∀ t ∈ A.tabs, t.keys.length ≤ N ∧ verSum t.keys ≤ N
  nM : ∀ x ∈ A.idxs, x.M.length ≤ N
  at_ : ∀ x ∈ A.idxs, ∃ t ∈ A.tabs, t.name = x.tab ∧ x.field ∈ t.fields
/-- and of the heap -/
def TpF (H : Hp) (a : Addr) (xs : List V) : Prop := ∃ o : Obj, H a = some (.frz o (.tup xs)) ∧ o.cls = .type "tuple" ∧ o.dict = none
theorem TpF.tp {H : Hp} {a : Addr} {xs : List V} (h : TpF H a xs) : tpO (H a) = some xs := by
  obtain ⟨o, e, _⟩ := h
  rw [e]
  rfl
def rowV : Option RowE → V
  | none => .non
  | some r => .ref r.1
def wrXs : Wr → List V
  | .tab n fa _ => [.str "table", .str n, .ref fa]
  | .idx n f => [.str "index", .str n, .str f]
  | .row n k r => [.str "row", .str n, .int k, rowV r]
def WrAt (H : Hp) : Wr → Prop
  | .tab _ fa fs => TpF H fa (fs.map V.str)
  | .idx _ _ => True
  | .row _ _ r => ∀ row, r = some row → H row.1 = some (.tup (row.2.map V.int))
/-- no key twice in a table, no table's name twice -/
structure AWell (A : ASto) : Prop where
  names : (A.tabs.map (·.name)).Nodup
  keys : ∀ t ∈ A.tabs, (t.keys.map (·.1)).Nodup
end G7

set_option linter.all false
set_option Elab.async false
set_option maxRecDepth 100000
set_option maxHeartbeats 4000000
/-! tables of sets of any mask on whose round all slots lie: laying all anew does not fail -/
namespace SM
open PySem PySem.Spec PyProof.Rows L2
/-- the round from 0 meets all slots, and ends at 0 -/
structure Full (m : Nat) : Prop where
  hit : ∀ j, j ≤ m → ∃ b, b ≤ m ∧ lcgN m b = j
  end_ : lcgN m (m + 1) = 0
theorem full_of {m : Nat} (h1 : ((List.range (m + 1)).all fun j => (List.range (m + 1)).any fun b => lcgN m b == j) = true) (h2 : lcgN m (m + 1) = 0) : Full m := ⟨fun j hj => by
  obtain ⟨b, hb, eb⟩ := List.any_eq_true.mp (List.all_eq_true.mp h1 j (List.mem_range.mpr (Nat.lt_succ_of_le hj)))
  exact ⟨b, Nat.le_of_lt_succ (List.mem_range.mp hb), beq_iff_eq.mp eb⟩, h2⟩
theorem full_7 : Full 7 := full_of (by decide +kernel) (by decide +kernel)
theorem full_31 : Full 31 := full_of (by decide +kernel) (by decide +kernel)
theorem Full.again {m : Nat} (F : Full m) : ∀ k, lcgN m (m + 1 + k) = lcgN m k
  | 0 => F.end_
  | k + 1 => by
    show (lcgN m (m + 1 + k) * 5 + 1) % (m + 1) = (lcgN m k * 5 + 1) % (m + 1)
    rw [F.again k]
theorem Full.soon {m : Nat} (F : Full m) {i j : Nat} (hi : i ≤ m) (hj : j ≤ m) : ∃ k, k ≤ m ∧ lcgI m i k = j := by
  obtain ⟨a, ha, rfl⟩ := F.hit i hi
  obtain ⟨b, hb, rfl⟩ := F.hit j hj
  by_cases c : a ≤ b
  · exact ⟨b - a, by omega, by rw [lcgN_add]; congr 1; omega⟩
  · refine ⟨b + (m + 1) - a, by omega, ?_⟩
    rw [lcgN_add, show a + (b + (m + 1) - a) = m + 1 + b by omega, F.again]
/-- a free slot is found -/
theorem Full.free {m : Nat} (F : Full m) (owner : Array (Option Nat)) (h : Int) {j : Nat} (hj : j ≤ m) (hf : oAt owner j = none) :
    ∃ y, SetTable.layClean.free m owner (SetTable.turns m) (SetTable.bits h % (m + 1)) (SetTable.bits h) = some y ∧ y ≤ m ∧ oAt owner y = none := by
  obtain ⟨k, hk, e⟩ := F.soon (runI_le m (SetTable.bits h) 12) hj
  have e2 : runI m (SetTable.bits h) (12 + k) = j := by rw [runI_tail (bits_lt h)]; exact e
  have hw : (nth m (runAt m (SetTable.bits h % (m + 1)) (SetTable.bits h)) (off m (SetTable.bits h % (m + 1)) (SetTable.bits h) (12 + k))).j = j := by
    rw [nth_off, itL_run]
    exact e2
  obtain ⟨K, k1, k2, k3⟩ := st_least (p := fun k => oAt owner (nth m (runAt m (SetTable.bits h % (m + 1)) (SetTable.bits h)) k).j = none) _ (by show oAt owner _ = none; rw [hw]; exact hf)
  refine ⟨_, free_spec m owner (SetTable.turns m) (12 + k) _ _ K (by unfold SetTable.turns; omega) k1 (fun q hq => ?_) ?_, ?_, k2⟩
  · have z := k3 q hq
    cases y : oAt owner (nth m (runAt m (SetTable.bits h % (m + 1)) (SetTable.bits h)) q).j with
    | none => exact absurd y z
    | some _ => rfl
  · rw [show oAt owner (nth m (runAt m (SetTable.bits h % (m + 1)) (SetTable.bits h)) K).j = none from k2]
    rfl
  · have hi : SetTable.bits h % (m + 1) ≤ m := Nat.le_of_lt_succ (Nat.mod_lt _ (Nat.succ_pos _))
    have r := runEnd_bd hi
    have q := nth_in (m := m) K (runAt m (SetTable.bits h % (m + 1)) (SetTable.bits h)) (by
      show SetTable.bits h % (m + 1) + (SetTable.runEnd m (SetTable.bits h % (m + 1)) - SetTable.bits h % (m + 1)) ≤ m
      omega)
    omega
/-- who sits where when n are laid -/
structure Sits (m n : Nat) (owner : Array (Option Nat)) : Prop where
  sz : owner.size = m + 1
  lt : ∀ j k, j ≤ m → oAt owner j = some k → k < n
  all : ∀ k, k < n → ∃ j, j ≤ m ∧ oAt owner j = some k
  ps : ∃ ps : List Nat, ps.length = n ∧ ∀ j, j ≤ m → oAt owner j ≠ none → j ∈ ps
theorem Sits.zero (m : Nat) : Sits m 0 (Array.replicate (m + 1) none) :=
  ⟨by simp, fun j k hj e => (by rw [oAt_init hj] at e; cases e), fun k hk => absurd hk (Nat.not_lt_zero _), ⟨[], rfl, fun j hj e => absurd (oAt_init hj) e⟩⟩
theorem Sits.put {m n y : Nat} {owner : Array (Option Nat)} (S : Sits m n owner) (hy : y ≤ m) (hf : oAt owner y = none) : Sits m (n + 1) (owner.setIfInBounds y (some n)) := by
  have hys : y < owner.size := by rw [S.sz]; exact Nat.lt_succ_of_le hy
  have self := oAt_set_self (some n) hys
  obtain ⟨ps, p1, p2⟩ := S.ps
  refine ⟨by rw [Array.size_setIfInBounds]; exact S.sz, fun j k hj e => ?_, fun k hk => ?_, ⟨y :: ps, by rw [List.length_cons, p1], fun j hj e => ?_⟩⟩
  · by_cases c : j = y
    · rw [c, self] at e
      cases e
      exact Nat.lt_succ_self _
    · rw [oAt_set_ne _ c] at e
      exact Nat.lt_succ_of_lt (S.lt j k hj e)
  · by_cases c : k < n
    · obtain ⟨j, hj, e⟩ := S.all k c
      exact ⟨j, hj, by rw [oAt_set_ne _ (fun z => by rw [z, hf] at e; cases e)]; exact e⟩
    · obtain rfl : k = n := by omega
      exact ⟨y, hy, self⟩
  · by_cases c : j = y
    · rw [c]; exact List.mem_cons_self
    · rw [oAt_set_ne _ c] at e
      exact List.mem_cons_of_mem _ (p2 j hj e)
theorem Full.lay {m : Nat} (F : Full m) {hs : Array Int} (hn : hs.size ≤ m) : ∃ owner, SetTable.layClean m hs = some owner ∧ Sits m hs.size owner := by
  have go : ∀ (rest : List Int) (n : Nat) (owner : Array (Option Nat)), Sits m n owner → n + rest.length ≤ m → ∃ o', rest.foldl (stepF m) (some (owner, n)) = some (o', n + rest.length) ∧ Sits m (n + rest.length) o' := by
    intro rest
    induction rest with
    | nil => intro n owner S _; exact ⟨owner, rfl, S⟩
    | cons h rest ih =>
      intro n owner S hl
      rw [List.length_cons] at hl
      obtain ⟨ps, p1, p2⟩ := S.ps
      obtain ⟨j0, h0, n0⟩ := st_missing ps (m + 1) (by omega)
      have f0 : oAt owner j0 = none := by
        cases z : oAt owner j0 with
        | none => rfl
        | some k => exact absurd (p2 j0 (by omega) (by rw [z]; exact fun e => nomatch e)) n0
      obtain ⟨y, e1, e2, e3⟩ := F.free owner h (by omega) f0
      obtain ⟨o', g1, g2⟩ := ih (n + 1) _ (S.put e2 e3) (by omega)
      refine ⟨o', ?_, ?_⟩
      · rw [List.foldl_cons, stepF_some e1, g1, List.length_cons]
        congr 2
        omega
      · rw [List.length_cons, show n + (rest.length + 1) = n + 1 + rest.length by omega]
        exact g2
  obtain ⟨o', g1, g2⟩ := go hs.toList 0 _ (Sits.zero m) (by rw [Array.length_toList]; omega)
  rw [Nat.zero_add, Array.length_toList] at g1 g2
  refine ⟨o', ?_, g2⟩
  rw [layClean_eq, g1]
  rfl
/-- a table laid from nothing: rising, all there -/
theorem Full.laid {m : Nat} (F : Full m) {hs : Array Int} (hn : hs.size ≤ m) (finger moves : Nat) (led plain : Bool) :
    ∃ t order, SetTable.laid m finger moves led plain hs = some (t, order) ∧ order.toList.Perm (List.range hs.size) ∧ Ris t.place.toList ∧ t.place.size = hs.size ∧ t.dummies = #[] ∧ t.mask = m ∧ t.led = led := by
  obtain ⟨owner, e, S⟩ := F.lay hn
  have ris := ris_live (fun j => owner.getD j none) (List.range (m + 1)) (by
    unfold Ris
    first | exact List.pairwise_lt_range | exact List.pairwise_lt_range _)
  have r1 : Ris ((liveOf m owner).map (·.1)) := ris.1
  have nd : ((liveOf m owner).map (·.1)).Nodup := List.Pairwise.imp (fun h => Nat.ne_of_lt h) r1
  have hlen : (liveOf m owner).length = hs.size := by
    obtain ⟨ps, p1, p2⟩ := S.ps
    have a := nat_nodup_len ((liveOf m owner).map (·.1)) ps nd fun x hx => by
      obtain ⟨⟨y, k⟩, hq, rfl⟩ := List.mem_map.mp hx
      obtain ⟨b1, b2⟩ := (mem_live S.sz).1 hq
      exact p2 y b1 (by rw [b2]; exact fun z => nomatch z)
    have b := nat_nodup_len (List.range hs.size) ((liveOf m owner).map (·.2)) List.nodup_range fun k hk => by
      obtain ⟨j, b1, b2⟩ := S.all k (List.mem_range.mp hk)
      exact List.mem_map.mpr ⟨(j, k), (mem_live S.sz).2 ⟨b1, b2⟩, rfl⟩
    rw [List.length_map, p1] at a
    rw [List.length_map, List.length_range] at b
    omega
  refine ⟨{ mask := m, place := ((liveOf m owner).map (·.1)).toArray, dummies := #[], finger, led, moves, plain }, ((liveOf m owner).map (·.2)).toArray, ?_, ?_, r1, ?_, rfl, rfl, rfl⟩
  · unfold SetTable.laid
    rw [e]
    rfl
  · refine perm_range hs.size _ (by show ((liveOf m owner).map (·.2)).length = _; rw [List.length_map]; exact hlen) fun k hk => ?_
    obtain ⟨j, b1, b2⟩ := S.all k hk
    exact List.mem_map.mpr ⟨(j, k), (mem_live S.sz).2 ⟨b1, b2⟩, rfl⟩
  · show ((liveOf m owner).map (·.1)).toArray.size = _
    rw [List.size_toArray, List.length_map]
    exact hlen
end SM

set_option linter.all false
set_option Elab.async false
set_option maxRecDepth 100000
set_option maxHeartbeats 4000000
/-! sets of tuples of ints and texts, each once, of some hundreds -/
namespace SM
open PySem PySem.Spec PyProof.Rows L2
/-- the round's slots as a number's bits -/
def rnd (m : Nat) : Nat → Nat → Nat → Nat
  | 0, _, s => s
  | f + 1, x, s => rnd m f ((x * 5 + 1) % (m + 1)) (s ||| (1 <<< x))
theorem rnd_bit (m j : Nat) : ∀ f n s, (rnd m f (lcgN m n) s).testBit j = true → s.testBit j = true ∨ ∃ b, b < n + f ∧ lcgN m b = j
  | 0, n, s, h => .inl h
  | f + 1, n, s, h => by
    rcases rnd_bit m j f (n + 1) _ h with z | ⟨b, h1, h2⟩
    · rw [Nat.testBit_or, Bool.or_eq_true] at z
      rcases z with z | z
      · exact .inl z
      · rw [Nat.one_shiftLeft, Nat.testBit_two_pow] at z
        exact .inr ⟨n, by omega, by simpa using z⟩
    · exact .inr ⟨b, by omega, h2⟩
theorem full_rnd {m : Nat} (h1 : rnd m (m + 1) 0 0 = 2 ^ (m + 1) - 1) (h2 : lcgN m (m + 1) = 0) : Full m := ⟨fun j hj => by
  have z : (rnd m (m + 1) (lcgN m 0) 0).testBit j = true := by
    show (rnd m (m + 1) 0 0).testBit j = true
    rw [h1, Nat.testBit_two_pow_sub_one]
    exact decide_eq_true (by omega)
  rcases rnd_bit m j _ _ _ z with e | ⟨b, e1, e2⟩
  · simp at e
  · exact ⟨b, by omega, e2⟩, h2⟩
theorem full_127 : Full 127 := full_rnd (by decide +kernel) (by decide +kernel)
theorem full_511 : Full 511 := full_rnd (by decide +kernel) (by decide +kernel)
end SM
namespace KT
open PySem PySem.Spec PyProof.Rows L2
/-- the masks that come -/
def MaskG (m : Nat) : Prop := m = 7 ∨ m = 31 ∨ m = 127 ∨ m = 511
theorem MaskG.full {m : Nat} (h : MaskG m) : SM.Full m := by
  rcases h with e | e | e | e <;> subst e
  · exact SM.full_7
  · exact SM.full_31
  · exact SM.full_127
  · exact SM.full_511
theorem way_in (m : Nat) (h : Int) (k : Nat) : way m h k ≤ m := by
  have hi : SetTable.bits h % (m + 1) ≤ m := Nat.le_of_lt_succ (Nat.mod_lt _ (Nat.succ_pos _))
  have r := runEnd_bd hi
  have q := nth_in (m := m) k (runAt m (SetTable.bits h % (m + 1)) (SetTable.bits h)) (by
    show SetTable.bits h % (m + 1) + (SetTable.runEnd m (SetTable.bits h % (m + 1)) - SetTable.bits h % (m + 1)) ≤ m
    omega)
  unfold way
  omega
/-- each slot is met within the search's bound -/
theorem meets {m : Nat} (F : SM.Full m) (h : Int) {j : Nat} (hj : j ≤ m) : ∃ k, k < 10 * SetTable.turns m ∧ way m h k = j := by
  obtain ⟨k, hk, e⟩ := F.soon (runI_le m (SetTable.bits h) 12) hj
  have e2 : runI m (SetTable.bits h) (12 + k) = j := by rw [runI_tail (bits_lt h)]; exact e
  obtain ⟨k2, h2, e3⟩ := run_nth m (SetTable.bits h) (12 + k)
  refine ⟨k2, by unfold SetTable.turns; omega, ?_⟩
  unfold way
  rw [e3]
  exact e2
/-- the table: rising, all on their ways -/
structure TabF (t : SetTable) (hs : List Int) : Prop where
  ris : Ris t.place.toList
  dm : t.dummies = #[]
  sz : t.place.size = hs.length
  mok : MaskG t.mask
  bd : ∀ x ∈ t.place.toList, x ≤ t.mask
  reach : ∀ (i : Nat) (h : Int) (j : Nat), hs[i]? = some h → t.place.toList[i]? = some j → ∃ k, way t.mask h k = j ∧ ∀ k', k' < k → way t.mask h k' ∈ t.place.toList
theorem odd {m : Nat} (h : MaskG m) : m % 2 = 1 := by
  rcases h with e | e | e | e <;> subst e <;> rfl
theorem TabF.first {t : SetTable} {hs : List Int} (T : TabF t hs) (hl : hs.length ≤ t.mask) (h : Int) : ∃ K, K < 10 * SetTable.turns t.mask ∧ way t.mask h K ∉ t.place.toList ∧ ∀ k, k < K → way t.mask h k ∈ t.place.toList := by
  obtain ⟨j, hj, hn⟩ := st_missing t.place.toList (t.mask + 1) (by rw [Array.length_toList, T.sz]; omega)
  obtain ⟨k, hk, e⟩ := meets T.mok.full h (Nat.le_of_lt_succ hj)
  obtain ⟨K, h1, h2, h3⟩ := st_least (p := fun k => way t.mask h k ∉ t.place.toList) k (by rw [e]; exact hn)
  exact ⟨K, Nat.lt_of_le_of_lt h1 hk, h2, fun k' hk' => Classical.byContradiction fun c => h3 k' hk' c⟩
/-- what is there is met ahead of the first free slot -/
theorem TabF.ahead {t : SetTable} {hs : List Int} (T : TabF t hs) {h : Int} {K i j : Nat} (hK : way t.mask h K ∉ t.place.toList) (hi : hs[i]? = some h) (hj : t.place.toList[i]? = some j) : ∃ k, k < K ∧ way t.mask h k = j := by
  obtain ⟨k, e, hb⟩ := T.reach i h j hi hj
  refine ⟨k, ?_, e⟩
  rcases Nat.lt_trichotomy k K with c | c | c
  · exact c
  · exact absurd (List.mem_of_getElem? hj) (by rw [← e, c]; exact hK)
  · exact absurd (hb K c) hK
/-- one put in at the first free slot of its way -/
theorem TabF.lay1 {t : SetTable} {hs : List Int} (T : TabF t hs) {h : Int} {K j p : Nat} (ej : way t.mask h K = j) (ep : SetTable.below t.place j = p) (hK : j ∉ t.place.toList) (hb : ∀ k, k < K → way t.mask h k ∈ t.place.toList) :
    (t.put j).2 = p ∧ p ≤ hs.length ∧ TabF (t.put j).1 (hs.take p ++ h :: hs.drop p) ∧ (t.put j).1.mask = t.mask ∧ (t.put j).1.led = t.led ∧ (t.put j).1.fill = hs.length + 1 := by
  have c1 := (below_cut T.ris j).1
  rw [ep] at c1
  have hsz : t.place.toList.length = hs.length := by rw [Array.length_toList]; exact T.sz
  have hpl : p ≤ t.place.toList.length := by rw [Array.length_toList]; exact c1
  have hph : p ≤ hs.length := by omega
  have hpp := put_place t j
  rw [ep] at hpp
  have hsize : (t.put j).1.place.size = hs.length + 1 := by rw [← Array.length_toList, hpp, len_ins _ hpl, hsz]
  have hnp : t.place[SetTable.below t.place j]? ≠ some j := fun e => hK (List.mem_of_getElem? (by rw [Array.getElem?_toList]; exact e))
  have up : ∀ {x : Nat}, x ∈ t.place.toList → x ∈ (t.put j).1.place.toList := fun hx => by rw [hpp]; exact mem_ins.2 (.inr hx)
  refine ⟨ep, hph, ⟨ris_insert T.ris hnp, put_dm T.dm j, by rw [len_ins _ hph]; exact hsize, T.mok, fun x hx => ?_, fun i h' j' h1 h2 => ?_⟩, rfl, rfl, ?_⟩
  · rw [hpp] at hx
    rcases mem_ins.1 hx with z | z
    · rw [z, ← ej]; exact way_in _ _ _
    · exact T.bd x z
  · rw [tins_get hs hph] at h1
    rw [hpp, tins_get _ hpl] at h2
    show ∃ k, way t.mask h' k = j' ∧ ∀ k', k' < k → way t.mask h' k' ∈ (t.put j).1.place.toList
    rcases Nat.lt_trichotomy i p with c | c | c
    · rw [if_pos c] at h1 h2
      obtain ⟨k, e, z⟩ := T.reach i h' j' h1 h2
      exact ⟨k, e, fun k' hk' => up (z k' hk')⟩
    · rw [if_neg (by omega), if_pos c] at h1 h2
      cases h1
      cases h2
      exact ⟨K, ej, fun k' hk' => up (hb k' hk')⟩
    · rw [if_neg (by omega), if_neg (by omega)] at h1 h2
      obtain ⟨k, e, z⟩ := T.reach (i - 1) h' j' h1 h2
      exact ⟨k, e, fun k' hk' => up (z k' hk')⟩
  · show (t.put j).1.place.size + (t.put j).1.dummies.size = hs.length + 1
    rw [hsize, put_dm T.dm j]
    rfl
/-- who sits where, each on its way -/
structure Sat (m : Nat) (done : List Int) (owner : Array (Option Nat)) : Prop where
  sits : SM.Sits m done.length owner
  at_ : ∀ j k, j ≤ m → oAt owner j = some k → ∃ h K, done[k]? = some h ∧ way m h K = j ∧ ∀ k', k' < K → oAt owner (way m h k') ≠ none
/-- the first free slot of a way is found -/
theorem free1 {m : Nat} (F : SM.Full m) (owner : Array (Option Nat)) (h : Int) {j : Nat} (hj : j ≤ m) (hf : oAt owner j = none) :
    ∃ K, SetTable.layClean.free m owner (SetTable.turns m) (SetTable.bits h % (m + 1)) (SetTable.bits h) = some (way m h K) ∧ oAt owner (way m h K) = none ∧ ∀ k, k < K → oAt owner (way m h k) ≠ none := by
  obtain ⟨k, hk, e⟩ := F.soon (runI_le m (SetTable.bits h) 12) hj
  have e2 : runI m (SetTable.bits h) (12 + k) = j := by rw [runI_tail (bits_lt h)]; exact e
  have hw : way m h (off m (SetTable.bits h % (m + 1)) (SetTable.bits h) (12 + k)) = j := by
    unfold way
    rw [nth_off, itL_run]
    exact e2
  obtain ⟨K, k1, k2, k3⟩ := st_least (p := fun k => oAt owner (way m h k) = none) _ (by rw [hw]; exact hf)
  refine ⟨K, free_spec m owner (SetTable.turns m) (12 + k) _ _ K (by unfold SetTable.turns; omega) k1 (fun q hq => ?_) ?_, k2, fun q hq => k3 q hq⟩
  · have z := k3 q hq
    show (oAt owner (way m h q)).isNone = false
    cases y : oAt owner (way m h q) with
    | none => exact absurd y z
    | some _ => rfl
  · show (oAt owner (way m h K)).isNone = true
    rw [k2]
    rfl
theorem Sat.more {m : Nat} (F : SM.Full m) {done : List Int} {owner : Array (Option Nat)} (W : Sat m done owner) (hl : done.length ≤ m) (h : Int) :
    ∃ y, SetTable.layClean.free m owner (SetTable.turns m) (SetTable.bits h % (m + 1)) (SetTable.bits h) = some y ∧ Sat m (done ++ [h]) (owner.setIfInBounds y (some done.length)) := by
  obtain ⟨ps, p1, p2⟩ := W.sits.ps
  obtain ⟨j0, h0, n0⟩ := st_missing ps (m + 1) (by omega)
  have f0 : oAt owner j0 = none := by
    cases z : oAt owner j0 with
    | none => rfl
    | some k => exact absurd (p2 j0 (by omega) (by rw [z]; exact fun e => nomatch e)) n0
  obtain ⟨K, e1, e2, e3⟩ := free1 F owner h (by omega) f0
  have hy := way_in m h K
  have hys : way m h K < owner.size := by rw [W.sits.sz]; omega
  have self := oAt_set_self (some done.length) hys
  refine ⟨_, e1, by have z := W.sits.put hy e2; rw [List.length_append]; exact z, fun j k hj e => ?_⟩
  have mono : ∀ {i : Nat}, oAt owner i ≠ none → oAt (owner.setIfInBounds (way m h K) (some done.length)) i ≠ none := fun {i} hi => by
    by_cases c : i = way m h K
    · rw [c, self]; exact fun e => nomatch e
    · rw [oAt_set_ne _ c]; exact hi
  by_cases c : j = way m h K
  · rw [c, self] at e
    cases e
    exact ⟨h, K, by rw [List.getElem?_append_right (Nat.le_refl _), Nat.sub_self]; rfl, c.symm, fun k' hk' => mono (e3 k' hk')⟩
  · rw [oAt_set_ne _ c] at e
    obtain ⟨h', K', a1, a2, a3⟩ := W.at_ j k hj e
    exact ⟨h', K', by rw [List.getElem?_append_left (List.getElem?_eq_some_iff.mp a1).1]; exact a1, a2, fun k' hk' => mono (a3 k' hk')⟩
theorem lay_all {m : Nat} (F : SM.Full m) {hs : Array Int} (hn : hs.size ≤ m) : ∃ owner, SetTable.layClean m hs = some owner ∧ Sat m hs.toList owner := by
  have go : ∀ (rest done : List Int) (owner : Array (Option Nat)), Sat m done owner → done.length + rest.length ≤ m → ∃ o', rest.foldl (stepF m) (some (owner, done.length)) = some (o', (done ++ rest).length) ∧ Sat m (done ++ rest) o' := by
    intro rest
    induction rest with
    | nil => intro done owner S _; rw [List.append_nil]; exact ⟨owner, rfl, S⟩
    | cons h rest ih =>
      intro done owner S hl
      rw [List.length_cons] at hl
      obtain ⟨y, e1, S2⟩ := S.more F (by omega) h
      have el : (done ++ [h]).length = done.length + 1 := by rw [List.length_append]; rfl
      obtain ⟨o', g1, g2⟩ := ih (done ++ [h]) _ S2 (by omega)
      rw [List.append_assoc, List.singleton_append] at g1 g2
      rw [el] at g1
      exact ⟨o', by rw [List.foldl_cons, stepF_some e1]; exact g1, g2⟩
  obtain ⟨o', g1, g2⟩ := go hs.toList [] _ ⟨SM.Sits.zero m, fun j k hj e => by rw [oAt_init hj] at e; cases e⟩ (by rw [Array.length_toList]; simpa using hn)
  refine ⟨o', ?_, g2⟩
  rw [layClean_eq]
  have g1' : hs.toList.foldl (stepF m) (some (Array.replicate (m + 1) none, 0)) = some (o', ([] ++ hs.toList).length) := g1
  rw [g1']
  rfl
theorem anew (t : SetTable) {hs : Array Int} {wanted M : Nat} (hw : SetTable.sizeAbove wanted - 1 = M) (hM : MaskG M) (hn : hs.size ≤ M) :
    ∃ t' order, t.relaid hs wanted = some (t', order) ∧ order.toList.Perm (List.range hs.size) ∧ TabF t' (order.toList.map fun i => hs.getD i 0) ∧ t'.mask = M ∧ t'.led = t.led := by
  obtain ⟨owner, e, W⟩ := lay_all hM.full hn
  have hr : t.relaid hs wanted = some (tabOf t M owner, ((liveOf M owner).map (·.2)).toArray) := by
    rw [relaid_eq, hw, e]
    rfl
  have ris := ris_live (fun j => owner.getD j none) (List.range (M + 1)) (by
    unfold Ris
    first | exact List.pairwise_lt_range | exact List.pairwise_lt_range _)
  have r1 : Ris ((liveOf M owner).map (·.1)) := ris.1
  have nd : ((liveOf M owner).map (·.1)).Nodup := List.Pairwise.imp (fun h => Nat.ne_of_lt h) r1
  have S := W.sits
  rw [Array.length_toList] at S
  have hlen : (liveOf M owner).length = hs.size := by
    obtain ⟨ps, p1, p2⟩ := S.ps
    have a := nat_nodup_len ((liveOf M owner).map (·.1)) ps nd fun x hx => by
      obtain ⟨⟨y, k⟩, hq, rfl⟩ := List.mem_map.mp hx
      obtain ⟨b1, b2⟩ := (mem_live S.sz).1 hq
      exact p2 y b1 (by rw [b2]; exact fun z => nomatch z)
    have b := nat_nodup_len (List.range hs.size) ((liveOf M owner).map (·.2)) List.nodup_range fun k hk => by
      obtain ⟨j, b1, b2⟩ := S.all k (List.mem_range.mp hk)
      exact List.mem_map.mpr ⟨(j, k), (mem_live S.sz).2 ⟨b1, b2⟩, rfl⟩
    rw [List.length_map, p1] at a
    rw [List.length_map, List.length_range] at b
    omega
  refine ⟨_, _, hr, ?_, ⟨r1, rfl, ?_, hM, fun x hx => ?_, fun i h j h1 h2 => ?_⟩, rfl, rfl⟩
  · refine perm_range hs.size _ (by show ((liveOf M owner).map (·.2)).length = _; rw [List.length_map]; exact hlen) fun k hk => ?_
    obtain ⟨j, b1, b2⟩ := S.all k hk
    exact List.mem_map.mpr ⟨(j, k), (mem_live S.sz).2 ⟨b1, b2⟩, rfl⟩
  · show ((liveOf M owner).map (·.1)).toArray.size = (((liveOf M owner).map (·.2)).map fun i => hs.getD i 0).length
    rw [List.size_toArray, List.length_map, List.length_map, List.length_map]
  · exact Nat.le_of_lt_succ (List.mem_range.mp (ris.2 x hx))
  · have h1' : (((liveOf M owner).map (·.2)).map fun i => hs.getD i 0)[i]? = some h := h1
    have h2' : ((liveOf M owner).map (·.1))[i]? = some j := h2
    rw [List.getElem?_map, List.getElem?_map] at h1'
    rw [List.getElem?_map] at h2'
    cases hq : (liveOf M owner)[i]? with
    | none => rw [hq] at h2'; cases h2'
    | some q =>
      obtain ⟨y, k⟩ := q
      rw [hq] at h1' h2'
      obtain rfl : y = j := Option.some.inj h2'
      have eh : hs.getD k 0 = h := Option.some.inj h1'
      obtain ⟨b1, b2⟩ := (mem_live S.sz).1 (List.mem_of_getElem? hq)
      obtain ⟨h0, K, a1, a2, a3⟩ := W.at_ y k b1 b2
      have e0 : hs.getD k 0 = h0 := by
        rw [Array.getD_eq_getD_getElem?, ← Array.getElem?_toList, a1]
        rfl
      rw [e0] at eh
      subst eh
      refine ⟨K, a2, fun k' hk' => ?_⟩
      show way M h0 k' ∈ (liveOf M owner).map (·.1)
      cases z : oAt owner (way M h0 k') with
      | none => exact absurd z (a3 k' hk')
      | some k2 => exact List.mem_map.mpr ⟨(way M h0 k', k2), (mem_live S.sz).2 ⟨way_in _ _ _, z⟩, rfl⟩
end KT

set_option linter.all false
set_option Elab.async false
set_option maxRecDepth 100000
set_option maxHeartbeats 4000000
namespace KT
open PySem PySem.Spec PyProof.Rows L2
abbrev Row := Addr × List Key
abbrev IsX (P : Program) (w : World) (h : Heap) (p : Row) : Prop := IsTupleKey (mixKind P w) h p.2 p.1
abbrev xh (P : Program) (w : World) (p : Row) : Int := tupleKeyHash (mixKind P w) p.2
abbrev ent (P : Program) (w : World) (p : Row) : Int × Value := (xh P w p, .ref p.1)
section
variable {P : Program} {w : World} {A : Around} {E : Value → Shared → Prop} {s : Shared}
def Plain1 (v : Value) : Prop := (∃ x t, v = Value.str x t) ∨ ∃ i t, v = Value.int i t
theorem texts {k : List Key} {vs : List Value} (h : ItemsAre (mixKind P w) k vs) : ∀ v ∈ vs, Plain1 v := by
  induction h with
  | nil => intro v hv; cases hv
  | @cons x v ks vs h1 _ ih =>
    intro u hu
    cases hu with
    | head =>
      rcases keyIs_shape h1 with ⟨i, t, _, e⟩ | ⟨y, t, _, e⟩
      · exact .inr ⟨i, t, e⟩
      · exact .inl ⟨y, t, e⟩
    | tail _ hu => exact ih u hu
theorem cls_txt (n : Nat) {v : Value} (h : Plain1 v) : ofAClassStatement n v = pure false := by
  rcases h with ⟨x, t, rfl⟩ | ⟨x, t, rfl⟩ <;> cases n <;> rfl
theorem val_txt (n : Nat) {v : Value} (h : Plain1 v) : hashByValue n v = pure false ∨ hashByValue n v = pure true := by
  rcases h with ⟨x, t, rfl⟩ | ⟨x, t, rfl⟩
  · left; cases n <;> rfl
  · right; cases n <;> rfl
theorem cls_tup {p : Row} {Q : Bool → Shared → Prop} (hp : IsX P w s.heap p) (h : Q false s) : wpAny (model P w) A (ofAClassStatement 8 (.ref p.1)) Q E s := by
  have hT := hp.typeIs
  obtain ⟨o, items, n, ho, _, hd, hi⟩ := hp
  have hall := texts hi
  unfold ofAClassStatement
  refine wpAny_bind (wpAny_typeOf hT ?_)
  dsimp only
  simp only [show (("tuple" : String) == "tuple") = true by decide, if_true, Bool.not_true, Bool.false_eq_true, if_false]
  try refine wpAny_bind (wpAny_pure ?_)
  try simp only [Bool.not_true, Bool.false_eq_true, if_false]
  show wpAny _ _ (seqItems? (.ref p.1) >>= _) _ _ s
  refine wpAny_bind (wpAny_seqItems ho hd ?_)
  dsimp only
  refine wpAny_bind ?_
  show wpAny _ _ (forIn items _ _) _ _ s
  rw [← Array.forIn_toList]
  refine wpAny_forIn_list _ (fun rest r s' => (r.1 = none ∧ s' = s) ∧ ∀ v ∈ rest, Plain1 v) _ ?_ ?_ _ _ ⟨⟨rfl, rfl⟩, hall⟩
  · rintro v rest r s' ⟨⟨hr, rfl⟩, ha⟩
    rw [cls_txt _ (ha v List.mem_cons_self)]
    refine wpAny_bind (wpAny_pure ?_)
    simp only [Bool.false_eq_true, if_false]
    exact wpAny_pure ⟨⟨rfl, rfl⟩, fun u hu => ha u (List.mem_cons_of_mem _ hu)⟩
  · rintro ⟨r1, r2⟩ s' ⟨⟨hr, rfl⟩, _⟩
    simp only at hr
    subst hr
    exact wpAny_pure h
theorem val_tup {p : Row} {Q : Bool → Shared → Prop} (hp : IsX P w s.heap p) (h : ∀ b, Q b s) : wpAny (model P w) A (hashByValue 8 (.ref p.1)) Q E s := by
  have hT := hp.typeIs
  obtain ⟨o, items, n, ho, _, hd, hi⟩ := hp
  have hall := texts hi
  unfold hashByValue
  refine wpAny_bind (wpAny_specialOf hT F.slot_tuple_hash.lookup ?_)
  show wpAny _ _ (seqItems? (.ref p.1) >>= _) _ _ s
  refine wpAny_bind (wpAny_seqItems ho hd ?_)
  refine wpAny_bind ?_
  show wpAny _ _ (forIn items _ _) _ _ s
  rw [← Array.forIn_toList]
  refine wpAny_forIn_list _ (fun rest r s' => s' = s ∧ (∀ v ∈ rest, Plain1 v)) _ ?_ ?_ _ _ ⟨rfl, hall⟩
  · rintro v rest r s' ⟨rfl, ha⟩
    rcases val_txt 7 (ha v List.mem_cons_self) with e | e
    · rw [e]
      refine wpAny_bind (wpAny_pure ?_)
      simp only [Bool.not_false, if_true]
      refine wpAny_pure ?_
      exact wpAny_pure (h _)
    · rw [e]
      refine wpAny_bind (wpAny_pure ?_)
      simp only [Bool.not_true, Bool.false_eq_true, if_false]
      exact wpAny_pure ⟨rfl, fun u hu => ha u (List.mem_cons_of_mem _ hu)⟩
  · rintro ⟨r1, r2⟩ s' ⟨rfl, _⟩
    cases r1 with
    | none => exact wpAny_pure (h _)
    | some b => exact wpAny_pure (h _)
theorem unseen {p : Row} {Q : Bool → Shared → Prop} (hp : IsX P w s.heap p) {ys : List Value} (hy : ∀ y ∈ ys, ∃ q : Row, y = Value.ref q.1 ∧ IsX P w s.heap q) (h : Q false s) :
    wpAny (model P w) A (searchCouldBeSeen (.ref p.1) ys) Q E s := by
  unfold searchCouldBeSeen
  refine wpAny_bind (wpAny_forIn_list _ (fun rest r s' => (r.1 = none ∧ s' = s) ∧ ∀ y ∈ rest, ∃ q : Row, y = Value.ref q.1 ∧ IsX P w s.heap q) _ ?_ ?_ _ _ ⟨⟨rfl, rfl⟩, hy⟩)
  · rintro v rest r s' ⟨⟨hr, rfl⟩, ha⟩
    obtain ⟨q, rfl, hq⟩ := ha v List.mem_cons_self
    have on : ∀ y ∈ rest, ∃ q : Row, y = Value.ref q.1 ∧ IsX P w s'.heap q := fun u hu => ha u (List.mem_cons_of_mem _ hu)
    dsimp only
    by_cases hv : (p.1 == q.1 || (carriedByValue (.ref p.1) && carriedByValue (.ref q.1))) = true
    · exact wp_if_pos hv (wpAny_pure ⟨⟨rfl, rfl⟩, on⟩)
    · refine wp_if_neg hv (wpAny_bind (wpAny_eqIsQuiet_tuple hp ?_))
      simp only [Bool.not_true, Bool.false_eq_true, if_false]
      refine wpAny_bind (wpAny_eqIsQuiet_tuple hq ?_)
      simp only [Bool.not_true, Bool.false_eq_true, if_false]
      refine wpAny_bind (cls_tup hp ?_)
      simp only [Bool.false_eq_true, if_false]
      refine wpAny_bind (cls_tup hq ?_)
      simp only [Bool.false_eq_true, if_false]
      exact wpAny_pure ⟨⟨rfl, rfl⟩, on⟩
  · rintro ⟨r1, r2⟩ s' ⟨⟨hr, rfl⟩, _⟩
    simp only at hr
    subst hr
    exact wpAny_pure h
/-- a set of tuples of texts -/
structure Tab (P : Program) (w : World) (h : Heap) (a : Addr) (L : List Row) (es : Array (Int × Value)) (ep : Nat) (t : SetTable) : Prop where
  here : ∃ o, h.get? a = some o ∧ o.ExactSet ∧ o.data = .set es ep t
  rows : es.toList = L.map (ent P w)
  tab : TabF t (L.map (xh P w))
  keys : ∀ p ∈ L, IsX P w h p
  led : w.params.followText "set-order" = true ∨ t.led = true
  room : L.length * 5 < t.mask * 3
  nd : (L.map (·.2)).Nodup
variable {a : Addr} {L : List Row} {es : Array (Int × Value)} {ep : Nat} {t : SetTable}
theorem len_rows (h : es.toList = L.map (ent P w)) : es.size = L.length := by
  have e := congrArg List.length h
  rw [Array.length_toList, List.length_map] at e
  exact e
theorem Tab.size {h : Heap} (R : Tab P w h a L es ep t) : es.size = L.length := len_rows R.rows
theorem Tab.place {h : Heap} (R : Tab P w h a L es ep t) : t.place.size = L.length := by
  have e := R.tab.sz
  rw [List.length_map] at e
  exact e
theorem Tab.fits {h : Heap} (R : Tab P w h a L es ep t) : t.fits es.size = true := by
  have h1 := R.place
  have h2 := R.size
  have h3 := R.room
  unfold SetTable.fits SetTable.fill
  rw [R.tab.dm, Bool.and_eq_true, beq_iff_eq, decide_eq_true_eq, show (#[] : Array Nat).size = 0 from rfl]
  omega
theorem Tab.whole {h : Heap} (R : Tab P w h a L es ep t) : ¬ t.gaveWay = true := by
  unfold SetTable.gaveWay
  rw [odd R.tab.mok]
  decide
theorem Tab.at_ {h : Heap} (R : Tab P w h a L es ep t) {i : Nat} {p : Row} (e : L[i]? = some p) : es[i]? = some (ent P w p) := by
  rw [← Array.getElem?_toList, R.rows, List.getElem?_map, e]
  rfl
theorem nodummy (m : Nat) : ∀ (n : Nat) (p : SetTable.Probe), p.dummy = none → (nth m p n).dummy = none
  | 0, _, h => h
  | n + 1, p, h => nodummy m n (adv m p) (by unfold adv; split <;> exact h)
theorem ris_inj {l : List Nat} (r : Ris l) {i j x : Nat} (hi : l[i]? = some x) (hj : l[j]? = some x) : i = j := by
  obtain ⟨h1, e1⟩ := List.getElem?_eq_some_iff.mp hi
  obtain ⟨h2, e2⟩ := List.getElem?_eq_some_iff.mp hj
  rcases Nat.lt_trichotomy i j with c | c | c
  · have z := (List.pairwise_iff_getElem.mp r) i j h1 h2 c
    omega
  · exact c
  · have z := (List.pairwise_iff_getElem.mp r) j i h2 h1 c
    omega
/-- the search: it tells that the key is there, or the first free place -/
theorem seek (R : Tab P w s.heap a L es ep t) {p : Row} (hp : IsX P w s.heap p) (hu : A.units < cLine) {H : Int} {S : SetTable.Probe} (eS : runAt t.mask (SetTable.bits H % (t.mask + 1)) (SetTable.bits H) = S) {K : Nat} (hKf : K < 10 * SetTable.turns t.mask)
    (hK : way t.mask H K ∉ t.place.toList) (hKb : ∀ c, c < K → way t.mask H c ∈ t.place.toList) {Q : SetFound → Shared → Prop}
    (hH : H = xh P w p) (hin : (∃ q ∈ L, q.2 = p.2) → Q (.there none) s) (hout : (∀ q ∈ L, q.2 ≠ p.2) → Q (.free (way t.mask H K) false) s) :
    ∀ (f c : Nat) (stand : Option SetTable.Probe), stand.getD (t.probeStart H) = nth t.mask S c → c ≤ K → K - c < f → (∀ (c' i : Nat) (q : Row), c' < c → t.place.toList[i]? = some (way t.mask H c') → L[i]? = some q → q.2 ≠ p.2) → wpAny (model P w) A (setSearchFrom a (.ref p.1) H true f stand) Q E s
  | 0, _, _, _, _, hf, _ => absurd hf (Nat.not_lt_zero _)
  | f + 1, c, stand, hst, hc, hf, hmet => by
    obtain ⟨o, ho, hex, hd⟩ := R.here
    rw [setSearchFrom_succ]
    refine wpAny_bind (wpAny_setState_of ho hd R.fits ?_)
    dsimp only
    refine wp_if_neg R.whole ?_
    try refine wpAny_bind (wpAny_pure ?_)
    have sh : ∀ q, nth t.mask (nth t.mask S c) q = nth t.mask S (c + q) := fun q => (nth_add t.mask c _ q).symm
    have wj : ∀ q, (nth t.mask (nth t.mask S c) q).j = way t.mask H (c + q) := fun q => by rw [sh q, ← eS]
    have spec := go_spec t R.tab.ris R.tab.dm (fun i => (es[i]?.map (·.1)).getD 0) H (10 * SetTable.turns t.mask) (K - c) (nth t.mask S c) (nodummy _ c S (by rw [← eS]; rfl)) (by omega)
      (fun q hq => by rw [wj]; exact hKb (c + q) (by omega)) (by rw [wj, show c + (K - c) = K by omega]; exact hK)
    have pr : t.probe (fun i => (es[i]?.map (·.1)).getD 0) H (stand.getD (t.probeStart H)) = SetTable.probe.go t (fun i => (es[i]?.map (·.1)).getD 0) H (10 * SetTable.turns t.mask) (nth t.mask S c) := by rw [hst]; rfl
    rw [pr]
    have eh : ∀ (i : Nat) (q : Row), L[i]? = some q → (es[i]?.map (·.1)).getD 0 = xh P w q := fun i q e => by rw [R.at_ e]; rfl
    have hof : ∀ (i : Nat) (q : Row), L[i]? = some q → q.2 = p.2 → (es[i]?.map (·.1)).getD 0 = H := fun i q e e2 => by rw [eh i q e, hH]; show tupleKeyHash _ q.2 = tupleKeyHash _ p.2; rw [e2]
    rcases spec with ⟨q, i, hq, hi, hh, hlow, hpr⟩ | ⟨hlow, hpr⟩
    · rw [hpr]
      dsimp only
      rw [wj] at hi ⊢
      rw [sh]
      have hil : i < L.length := by
        have h1 : i < t.place.toList.length := (List.getElem?_eq_some_iff.mp hi).1
        rw [Array.length_toList, R.place] at h1
        exact h1
      have he : L[i]? = some L[i] := List.getElem?_eq_getElem hil
      have hm : L[i] ∈ L := List.getElem_mem hil
      generalize L[i] = r at he hm
      have rest : wpAny (model P w) A (searchRest a (.ref p.1) H true f es t (way t.mask H (c + q)) i (nth t.mask S (c + (q + 1)))) Q E s := by
        unfold searchRest
        rw [R.at_ he]
        dsimp only
        refine wpAny_bind (wpAny_holding (wpAny_eqBool_tuple hu (R.keys r hm) hp ?_))
        refine wpAny_bind (wpAny_setState_of ho hd R.fits ?_)
        dsimp only
        by_cases hkk : r.2 = p.2
        · exact wp_if_pos (by simp [hkk]) (wpAny_pure (hin ⟨r, hm, hkk⟩))
        · refine wp_if_neg (by simp [hkk]) ?_
          try refine wpAny_bind (wpAny_pure ?_)
          rw [sameMem]
          dsimp only
          have hsl : t.slot (way t.mask H (c + q)) = .live i := slot_live R.tab.ris hi
          simp only [if_true, hsl, R.at_ he]
          refine wpAny_bind (wpAny_isSame_ref_self (wpAny_bind (wpAny_pure ?_)))
          simp only [if_true]
          refine wp_if_neg (by simp [hkk]) ?_
          refine seek R hp hu eS hKf hK hKb hH hin hout f (c + (q + 1)) (some (nth t.mask S (c + (q + 1)))) rfl (by omega) (by omega) fun c' i' q' hc' hi' hq' e' => ?_
          by_cases h1 : c' < c
          · exact hmet c' i' q' h1 hi' hq' e'
          · by_cases h2 : c' = c + q
            · rw [h2] at hi'
              have ei : i' = i := ris_inj R.tab.ris hi' hi
              rw [ei, he] at hq'
              cases hq'
              exact hkk e'
            · exact hlow (c' - c) i' (by omega) (by rw [wj, show c + (c' - c) = c' by omega]; exact hi') (hof i' q' hq' e')
      by_cases hl : t.led = true
      · refine wp_if_neg (by simp [hl]) ?_
        try refine wpAny_bind (wpAny_pure ?_)
        exact rest
      · refine wp_if_pos (by simp [hl]) ?_
        refine wpAny_bind (unseen hp (fun y hy => ?_) ?_)
        · obtain ⟨e, he1, rfl⟩ := List.mem_map.mp hy
          have he2 : e ∈ es.toList := by
            have z : e ∈ es ∧ e.1 = H := by simpa using he1
            simpa using z.1
          rw [R.rows] at he2
          obtain ⟨r2, hr2, rfl⟩ := List.mem_map.mp he2
          exact ⟨r2, rfl, R.keys r2 hr2⟩
        · refine wp_if_neg (by decide) ?_
          try refine wpAny_bind (wpAny_pure ?_)
          exact rest
    · rw [hpr]
      dsimp only
      rw [wj, show c + (K - c) = K by omega]
      refine wpAny_pure (hout fun q hq e => ?_)
      obtain ⟨i, hi⟩ := List.getElem?_of_mem hq
      have hil : i < t.place.toList.length := by
        rw [Array.length_toList, R.place]
        exact (List.getElem?_eq_some_iff.mp hi).1
      obtain ⟨k', hk', ew⟩ := R.tab.ahead (h := H) (by exact hK) (by rw [List.getElem?_map, hi, hH]; show some (tupleKeyHash _ q.2) = some (tupleKeyHash _ p.2); rw [e]) (List.getElem?_eq_getElem hil)
      by_cases h1 : k' < c
      · exact hmet k' i q h1 (by rw [ew]; exact List.getElem?_eq_getElem hil) hi e
      · exact hlow (k' - c) i (by omega) (by rw [wj, show c + (k' - c) = k' by omega, ew]; exact List.getElem?_eq_getElem hil) (hof i q hi e)
/-- the search of an adding -/
theorem seek_all (R : Tab P w s.heap a L es ep t) {p : Row} (hp : IsX P w s.heap p) (hu : A.units < cLine) {Q : SetFound → Shared → Prop} (hin : (∃ q ∈ L, q.2 = p.2) → Q (.there none) s)
    (hout : (∀ q ∈ L, q.2 ≠ p.2) → ∀ K, way t.mask (xh P w p) K ∉ t.place.toList → (∀ c, c < K → way t.mask (xh P w p) c ∈ t.place.toList) → Q (.free (way t.mask (xh P w p) K) false) s) :
    wpAny (model P w) A (setSearch a (.ref p.1) (xh P w p) true) Q E s := by
  have hroom := R.room
  obtain ⟨K, hKf, hK, hKb⟩ := R.tab.first (by rw [List.length_map]; omega) (xh P w p)
  have hbig : 10 * SetTable.turns t.mask < 100000 := by
    unfold SetTable.turns
    rcases R.tab.mok with e | e | e | e <;> omega
  exact seek R hp hu rfl hKf hK hKb rfl hin (fun n => hout n K hK hKb) 100000 0 none rfl (Nat.zero_le _) (by omega) fun c' i q h => absurd h (Nat.not_lt_zero _)
theorem key_same {h h' : Heap} {p : Row} {o : Obj} (hp : IsX P w h p) (ho : h.get? a = some o) (hd : o.data = .set es ep t) (hs : Heap.SameBut a h h') : IsX P w h' p := by
  obtain ⟨o', items, n, ho', hc, hd', hi⟩ := hp
  have hne : p.1 ≠ a := fun e => by
    rw [e, ho] at ho'
    rw [← Option.some.inj ho', hd] at hd'
    exact nomatch hd'
  exact ⟨o', items, n, (hs.2 _ hne).trans ho', hc, hd', hi⟩
theorem key_keep {h h' : Heap} {p : Row} (x : IsX P w h p) (hk : ∀ c o, h.get? c = some o → h'.get? c = some o) : IsX P w h' p := by
  obtain ⟨o, items, n, ho, r⟩ := x
  exact ⟨o, items, n, hk _ o ho, r⟩
theorem range_fm {α : Type} : ∀ L : List α, (List.range L.length).filterMap (fun i => L[i]?) = L
  | [] => rfl
  | a :: r => by
    have e := range_fm r
    have z : ((List.range r.length).map Nat.succ).filterMap (fun i => (a :: r)[i]?) = r := by
      rw [List.filterMap_map]
      exact e
    rw [List.length_cons, List.range_succ_eq_map]
    show a :: ((List.range r.length).map Nat.succ).filterMap (fun i => (a :: r)[i]?) = a :: r
    rw [z]
/-- rows in a new order -/
theorem turn_rows {L : List Row} {es : Array (Int × Value)} {order : Array Nat} (hr : es.toList = L.map (ent P w)) (hp : order.toList.Perm (List.range L.length)) :
    ∃ L2 : List Row, (order.filterMap (es[·]?)).toList = L2.map (ent P w) ∧ L2.Perm L ∧ L2.length = L.length ∧ L2.map (xh P w) = order.toList.map fun i => (es.map (·.1)).getD i 0 := by
  have at_ : ∀ i, es[i]? = (L[i]?).map (ent P w) := fun i => by rw [← Array.getElem?_toList, hr, List.getElem?_map]
  have lt : ∀ i ∈ order.toList, i < L.length := fun i hi => List.mem_range.mp (hp.mem_iff.mp hi)
  refine ⟨order.toList.filterMap fun i => L[i]?, ?_, ?_, ?_, ?_⟩
  · rw [Array.toList_filterMap, List.map_filterMap]
    congr 1
    funext i
    exact at_ i
  · have z := hp.filterMap fun i => L[i]?
    rw [range_fm] at z
    exact z
  · have z : ∀ l : List Nat, (∀ i ∈ l, i < L.length) → (l.filterMap fun i => L[i]?).length = l.length := by
      intro l
      induction l with
      | nil => intro _; rfl
      | cons i l ih =>
        intro h
        rw [List.filterMap_cons_some (List.getElem?_eq_getElem (h i List.mem_cons_self)), List.length_cons, ih fun j hj => h j (List.mem_cons_of_mem _ hj), List.length_cons]
    rw [z _ lt, hp.length_eq, List.length_range]
  · have z : ∀ l : List Nat, (∀ i ∈ l, i < L.length) → (l.filterMap fun i => L[i]?).map (xh P w) = l.map fun i => (es.map (·.1)).getD i 0 := by
      intro l
      induction l with
      | nil => intro _; rfl
      | cons i l ih =>
        intro h
        have hi := h i List.mem_cons_self
        rw [List.filterMap_cons_some (List.getElem?_eq_getElem hi), List.map_cons, List.map_cons, ih fun j hj => h j (List.mem_cons_of_mem _ hj)]
        congr 1
        rw [Array.getD_eq_getD_getElem?, Array.getElem?_map, at_ i, List.getElem?_eq_getElem hi]
        rfl
    exact z _ lt
/-- the table laid anew -/
theorem relay {o : Obj} (ho : s.heap.get? a = some o) (hex : o.ExactSet) (hd : o.data = .set es ep t) (hrows : es.toList = L.map (ent P w)) (hsz : t.place.size = es.size) (hdm : t.dummies = #[]) (hfl : es.size ≤ t.mask)
    (keys : ∀ p ∈ L, IsX P w s.heap p) (ld : w.params.followText "set-order" = true ∨ t.led = true) {wanted M : Nat} (hw : SetTable.sizeAbove wanted - 1 = M) (hM : MaskG M) (hw2 : SetTable.sizeAbove wanted ≤ 512) (hnd : (L.map (·.2)).Nodup) (hn : L.length * 5 < M * 3)
    {Q : Unit → Shared → Prop} (hQ : ∀ h' L' es' ep' t', Heap.SameBut a s.heap h' → Tab P w h' a L' es' ep' t' → L'.Perm L → L'.length = L.length → Q () { s with heap := h' }) : wpAny (model P w) A (setRelay a wanted) Q E s := by
  have hsl := len_rows hrows
  have hfits : t.fits es.size = true := by
    unfold SetTable.fits SetTable.fill
    rw [hdm, Bool.and_eq_true, beq_iff_eq, decide_eq_true_eq, show (#[] : Array Nat).size = 0 from rfl]
    omega
  obtain ⟨t', order, e, hp, T, em, el⟩ := anew t (hs := es.map (·.1)) (wanted := wanted) hw hM (by rw [Array.size_map, hsl]; omega)
  rw [Array.size_map, hsl] at hp
  obtain ⟨L2, r1, r2, r3, r4⟩ := turn_rows hrows hp
  rw [← r4] at T
  have hs2 : (order.filterMap (es[·]?)).size = es.size := by rw [len_rows r1, r3, hsl]
  rw [setRelay_eq]
  refine wpAny_bind (wpAny_setState_of ho hd hfits ?_)
  dsimp only
  refine wp_if_neg (by rw [sizeLine_eq]; omega) ?_
  try refine wpAny_bind (wpAny_pure ?_)
  rw [e]
  dsimp only
  refine wpAny_bind ?_
  refine wp_if_neg (by rw [hs2]; simp) ?_
  try refine wpAny_bind (wpAny_pure ?_)
  refine wpAny_pure ?_
  dsimp only
  have hMle : M ≤ 511 := by rcases hM with e | e | e | e <;> omega
  refine wpAny_storeSet_of ho hd ?_ (by rw [hs2, hsl, sizeLine_eq]; omega)
  have sb : Heap.SameBut a s.heap (s.heap.update a (Obj.putSet (order.filterMap (es[·]?)) t')) := Heap.SameBut.update ..
  refine hQ _ L2 _ (ep + 1) t' sb ⟨⟨_, store_at ho hd, ⟨hex.1, hex.2.1, hex.2.2⟩, rfl⟩, r1, T, fun p hpm => key_same (keys p (r2.mem_iff.mp hpm)) ho hd sb, by rw [el]; exact ld, by rw [r3, em]; exact hn, (r2.map (·.2)).nodup_iff.mpr hnd⟩ r2 r3
theorem size_308 : SetTable.sizeAbove (SetTable.grown 77) = 512 := by decide +kernel
/-- adding -/
theorem add (R : Tab P w s.heap a L es ep t) {p : Row} (hp : IsX P w s.heap p) (hu : A.units < cLine) (hfew : L.length + 1 < 300) {Q : Bool → Shared → Prop}
    (hQ : ∀ b h' L' es' ep' t', Heap.SameBut a s.heap h' → Tab P w h' a L' es' ep' t' → ((L' = L ∧ ∃ q ∈ L, q.2 = p.2) ∨ (L'.Perm (p :: L) ∧ ∀ q ∈ L, q.2 ≠ p.2)) → Q b { s with heap := h' }) :
    wpAny (model P w) A (setAddHashed a (.ref p.1) (xh P w p)) Q E s := by
  obtain ⟨o, ho, hex, hd⟩ := R.here
  have hsl := R.size
  have hroom := R.room
  unfold setAddHashed
  refine wpAny_holding ?_
  rw [show (100000 : Nat) = 99999 + 1 from rfl, setAddHashedIn_succ]
  refine wpAny_bind (wpAny_setState_of ho hd R.fits ?_)
  dsimp only
  refine wp_if_neg (by simp [byScan, Value.scannable]) ?_
  try refine wpAny_bind (wpAny_pure ?_)
  refine wpAny_bind (seek_all R hp hu (fun hm => ?_) fun hno K hK hb => ?_)
  · exact wpAny_pure (hQ false s.heap L es ep t (Heap.SameBut.refl a s.heap) R (.inl ⟨rfl, hm⟩))
  · dsimp only
    refine wpAny_bind (wpAny_setState_of ho hd R.fits ?_)
    dsimp only
    obtain ⟨q1, q2, q3, q4, q5, q9⟩ := R.tab.lay1 rfl rfl hK hb
    generalize t.put (way t.mask (xh P w p) K) = pt at q1 q3 q4 q5 q9 ⊢
    obtain ⟨t1, at1⟩ := pt
    dsimp only at q1 q3 q4 q5 q9 ⊢
    subst q1
    have hin : (SetTable.insertAt es (SetTable.below t.place (way t.mask (xh P w p) K)) (xh P w p, Value.ref p.1)).toList = (L.take (SetTable.below t.place (way t.mask (xh P w p) K)) ++ p :: L.drop (SetTable.below t.place (way t.mask (xh P w p) K))).map (ent P w) := by
      rw [SetTable.toList_insertAt, R.rows, List.map_append, List.map_cons, List.map_take, List.map_drop]
    generalize SetTable.below t.place (way t.mask (xh P w p) K) = at1 at q2 q3 hin ⊢
    have pm : (L.take at1 ++ p :: L.drop at1).Perm (p :: L) := L2.put_perm L at1 p
    have hlen := pm.length_eq
    rw [List.length_cons] at hlen
    have hhs : (L.take at1 ++ p :: L.drop at1).map (xh P w) = (L.map (xh P w)).take at1 ++ xh P w p :: (L.map (xh P w)).drop at1 := by
      rw [List.map_append, List.map_cons, List.map_take, List.map_drop]
    rw [← hhs] at q3
    have hes := len_rows hin
    rw [hlen] at hes
    generalize SetTable.insertAt es at1 (xh P w p, Value.ref p.1) = es1 at hin hes ⊢
    generalize L.take at1 ++ p :: L.drop at1 = L1 at pm hlen q3 hin
    have sub1 : ∀ q ∈ L1, q = p ∨ q ∈ L := fun q hq => List.mem_cons.mp (pm.mem_iff.mp hq)
    have sub2 : ∀ q ∈ L, q ∈ L1 := fun q hq => pm.mem_iff.mpr (List.mem_cons_of_mem _ hq)
    have sub3 : p ∈ L1 := pm.mem_iff.mpr List.mem_cons_self
    have hnd1 : (L1.map (·.2)).Nodup := (pm.map (·.2)).nodup_iff.mpr (List.nodup_cons.mpr ⟨fun z => by
      obtain ⟨q, hq, e⟩ := List.mem_map.mp z
      exact hno q hq e, R.nd⟩)
    -- whatever the word on the order
    have go : ∀ b : Bool, wpAny (model P w) A (do
        storeSet a es1 (if b then t1 else { t1 with plain := false })
        if !false && (if b then t1 else { t1 with plain := false } : SetTable).tooFull then setRelay a (SetTable.grown (es.size + 1))
        return true) Q E s := by
      intro b
      generalize ht2 : (if b then t1 else { t1 with plain := false } : SetTable) = t2
      have e1 : t2.place = t1.place ∧ t2.mask = t1.mask ∧ t2.dummies = t1.dummies ∧ t2.led = t1.led := by
        rw [← ht2]
        cases b <;> exact ⟨rfl, rfl, rfl, rfl⟩
      obtain ⟨ep1, em1, ed1, el1⟩ := e1
      have T2 : TabF t2 (L1.map (xh P w)) := by
        refine ⟨by rw [ep1]; exact q3.ris, by rw [ed1]; exact q3.dm, by rw [ep1]; exact q3.sz, by rw [em1]; exact q3.mok, by rw [ep1, em1]; exact q3.bd, fun i h j h1 h2 => ?_⟩
        rw [ep1] at h2
        rw [ep1, em1]
        exact q3.reach i h j h1 h2
      have fill : t2.fill = L.length + 1 := by
        have z : t2.fill = t1.fill := by unfold SetTable.fill; rw [ep1, ed1]
        rw [z, q9, List.length_map]
      refine wpAny_bind (wpAny_storeSet_of ho hd ?_ (by rw [hes, sizeLine_eq]; omega))
      have sb : Heap.SameBut a s.heap (s.heap.update a (Obj.putSet es1 t2)) := Heap.SameBut.update ..
      have ho1 := store_at (es' := es1) (t' := t2) ho hd
      generalize s.heap.update a (Obj.putSet es1 t2) = h1 at sb ho1 ⊢
      have keys1 : ∀ q ∈ L1, IsX P w h1 q := fun q hq => by
        rcases sub1 q hq with e | e
        · rw [e]; exact key_same hp ho hd sb
        · exact key_same (R.keys q e) ho hd sb
      have ld1 : w.params.followText "set-order" = true ∨ t2.led = true := by rw [el1, q5]; exact R.led
      by_cases hf : t2.tooFull = true
      · have hfull : (L.length + 1) * 5 ≥ t2.mask * 3 := by
          have z := hf
          unfold SetTable.tooFull at z
          rw [decide_eq_true_eq, fill] at z
          exact z
        have hsz1 : t2.place.size = es1.size := by
          have z := T2.sz
          rw [List.length_map, hlen] at z
          rw [z, hes]
        have two : (t.mask = 7 ∧ L.length = 4) ∨ (t.mask = 31 ∧ L.length = 18) ∨ (t.mask = 127 ∧ L.length = 76) := by
          rw [em1, q4] at hfull
          rcases R.tab.mok with e | e | e | e <;> rw [e] at hfull hroom
          · exact .inl ⟨e, by omega⟩
          · exact .inr (.inl ⟨e, by omega⟩)
          · exact .inr (.inr ⟨e, by omega⟩)
          · exfalso; omega
        have lay : ∀ M, SetTable.sizeAbove (SetTable.grown (L.length + 1)) - 1 = M → MaskG M → SetTable.sizeAbove (SetTable.grown (L.length + 1)) ≤ 512 → (L.length + 1) * 5 < M * 3 →
            wpAny (model P w) A (setRelay a (SetTable.grown (L.length + 1))) (fun _ s' => wpAny (model P w) A (pure true) Q E s') E { s with heap := h1 } := fun M h1' h2' h3' h4' => by
          refine relay (s := { s with heap := h1 }) ho1 ⟨hex.1, hex.2.1, hex.2.2⟩ rfl hin hsz1 T2.dm (by rw [hes, em1, q4]; rcases two with ⟨e, e2⟩ | ⟨e, e2⟩ | ⟨e, e2⟩ <;> omega) keys1 ld1 h1' h2' h3' hnd1 (by rw [hlen]; exact h4') ?_
          intro h2 L2 es2 ep2 t3 sb2 R2 m2 l2
          exact wpAny_pure (hQ true h2 L2 es2 ep2 t3 (sb.trans sb2) R2 (.inr ⟨m2.trans pm, hno⟩))
        rw [hsl]
        first
          | (refine wpAny_bind ?_; refine wp_if_pos (by simp [hf]) ?_)
          | (refine wp_if_pos (by simp [hf]) ?_; refine wpAny_bind ?_)
        rcases two with ⟨_, e2⟩ | ⟨_, e2⟩ | ⟨_, e2⟩
        · exact lay 31 (by rw [e2, size_20]) (.inr (.inl rfl)) (by rw [e2, size_20]; decide) (by omega)
        · exact lay 127 (by rw [e2, size_76]) (.inr (.inr (.inl rfl))) (by rw [e2, size_76]; decide) (by omega)
        · exact lay 511 (by rw [e2, size_308]) (.inr (.inr (.inr rfl))) (by rw [e2, size_308]; decide) (by omega)
      · first
          | refine wp_if_neg (by simp [hf]) ?_
          | (refine wpAny_bind ?_; refine wp_if_neg (by simp [hf]) ?_; refine wpAny_pure ?_)
        refine wpAny_pure (hQ true h1 L1 es1 (ep + 1) t2 sb ⟨⟨_, ho1, ⟨hex.1, hex.2.1, hex.2.2⟩, rfl⟩, hin, T2, keys1, ld1, ?_, hnd1⟩ (.inr ⟨pm, hno⟩))
        have z := hf
        unfold SetTable.tooFull at z
        rw [decide_eq_true_eq, fill] at z
        rw [hlen]
        omega
    by_cases hpl : t1.plain = true
    · first
        | (refine wpAny_bind ?_; refine wp_if_pos hpl ?_; refine val_tup hp fun b => ?_)
        | refine wp_if_pos hpl (wpAny_bind (val_tup hp fun b => ?_))
      exact go b
    · first
        | (refine wpAny_bind ?_; refine wp_if_neg hpl ?_; refine wpAny_pure ?_)
        | refine wp_if_neg hpl (wpAny_bind (wpAny_pure ?_))
        | refine wp_if_neg hpl ?_
      exact go true
/-- what the set has of the first i of a list's items -/
structure Has (ks : List Row) (i : Nat) (L : List Row) : Prop where
  sub : ∀ q ∈ L, q ∈ ks.take i
  all : ∀ q ∈ ks.take i, ∃ r ∈ L, r.2 = q.2
  few : L.length ≤ i
theorem Has.next {ks L L' : List Row} {i : Nat} {p : Row} (g : Has ks i L) (h : ks[i]? = some p) (c : (L' = L ∧ ∃ q ∈ L, q.2 = p.2) ∨ (L'.Perm (p :: L) ∧ ∀ q ∈ L, q.2 ≠ p.2)) : Has ks (i + 1) L' := by
  have e : ks.take (i + 1) = ks.take i ++ [p] := L2.take_next h
  have s1 : ∀ q ∈ L', q = p ∨ q ∈ L := fun q hq => by
    rcases c with ⟨e1, _⟩ | ⟨pm, _⟩
    · rw [e1] at hq; exact .inr hq
    · exact List.mem_cons.mp (pm.mem_iff.mp hq)
  have s2 : ∀ q ∈ L, q ∈ L' := fun q hq => by
    rcases c with ⟨e1, _⟩ | ⟨pm, _⟩
    · rw [e1]; exact hq
    · exact pm.mem_iff.mpr (List.mem_cons_of_mem _ hq)
  have s3 : ∃ q ∈ L', q.2 = p.2 := by
    rcases c with ⟨e1, q, hq, e2⟩ | ⟨pm, _⟩
    · rw [e1]; exact ⟨q, hq, e2⟩
    · exact ⟨p, pm.mem_iff.mpr List.mem_cons_self, rfl⟩
  have sl : L'.length ≤ L.length + 1 := by
    rcases c with ⟨e1, _⟩ | ⟨pm, _⟩
    · rw [e1]; omega
    · rw [pm.length_eq, List.length_cons]; exact Nat.le_refl _
  refine ⟨fun q hq => ?_, fun q hq => ?_, Nat.le_trans sl (Nat.succ_le_succ g.few)⟩
  · rw [e]
    rcases s1 q hq with z | z
    · rw [z]; exact List.mem_append_right _ (List.mem_singleton.mpr rfl)
    · exact List.mem_append_left _ (g.sub q z)
  · rw [e] at hq
    rcases List.mem_append.mp hq with z | z
    · obtain ⟨r, hr, er⟩ := g.all q z
      exact ⟨r, s2 r hr, er⟩
    · rw [List.mem_singleton.mp z]; exact s3
theorem Tab.keep {h h' : Heap} (R : Tab P w h a L es ep t) (ha : ∀ o, h.get? a = some o → h'.get? a = some o) (hk : ∀ p ∈ L, IsX P w h' p) : Tab P w h' a L es ep t := by
  obtain ⟨o, ho, r⟩ := R.here
  exact ⟨⟨o, ha o ho, r⟩, R.rows, R.tab, hk, R.led, R.room, R.nd⟩
abbrev noSet (w : World) : Obj := { cls := .type "set", dict := none, data := .set #[] 0 (.fresh 0 0 (!w.params.followText "set-order")) }
end
end KT

set_option linter.all false
set_option Elab.async false
set_option maxRecDepth 100000
set_option maxHeartbeats 4000000
namespace KT
open PySem PySem.Spec PyProof.Rows L2
/-! sorted of such a set -/
def kd : Key → PyData
  | .inl i => .int i
  | .inr s => .str s
abbrev rdat (p : Row) : PyData := .tuple (p.2.map kd)
section
variable {P : Program} {w : World} {A : Around} {E : Value → Shared → Prop} {s : Shared} {a : Addr} {L : List Row} {es : Array (Int × Value)} {ep : Nat} {t : SetTable}
theorem reads_keys {h : Heap} {k : List Key} {vs : List Value} (x : ItemsAre (mixKind P w) k vs) : ReadsAll h vs (k.map kd) [] := by
  induction x with
  | nil => exact .nil
  | @cons x v ks vs h1 _ ih =>
    rcases keyIs_shape h1 with ⟨i, t, rfl, rfl⟩ | ⟨y, t, rfl, rfl⟩
    · exact .cons (as := []) (bs := []) (.int i t) ih
    · exact .cons (as := []) (bs := []) (.str y t) ih
theorem key_reads {h : Heap} {p : Row} (x : IsX P w h p) : Reads h (.ref p.1) (rdat p) [] := by
  obtain ⟨o, items, n, ho, hc, hd, hi⟩ := x
  exact .tuple ho hc hd (reads_keys hi)
theorem depth_keys : ∀ xs : List Key, PyData.depthAll (xs.map kd) = 0
  | [] => by simp [PyData.depthAll]
  | .inl x :: xs => by simp [PyData.depthAll, PyData.depth, kd, depth_keys xs]
  | .inr x :: xs => by simp [PyData.depthAll, PyData.depth, kd, depth_keys xs]
theorem depth_row (p : Row) : (rdat p).depth = 1 := by
  show PyData.depth (.tuple (p.2.map kd)) = 1
  unfold PyData.depth
  rw [depth_keys]
theorem each_refs {R : Value → Row → Prop} : ∀ (L : List Row), (∀ p ∈ L, R (.ref p.1) p) → PySem.W.EachIs R (L.map fun p => Value.ref p.1) L
  | [], _ => .nil
  | p :: L, h => .cons (h p List.mem_cons_self) (each_refs L fun q hq => h q (List.mem_cons_of_mem _ hq))
theorem refs_each : ∀ {vs : List Value} {L : List Row}, PySem.W.EachIs (fun v (p : Row) => v = .ref p.1) vs L → vs = L.map fun p => Value.ref p.1
  | _, _, .nil => rfl
  | _, _, .cons h t => by rw [h, refs_each t]; rfl
end
end KT
namespace G7
open PySem PySem.Spec PyProof.Rows L2
abbrev prRow (e : Pr) : KT.Row := (e.1, ky2 e.2)
section
variable {X : Cx}
end
end G7

set_option linter.all false
set_option Elab.async false
set_option maxRecDepth 100000
set_option maxHeartbeats 4000000
/-! sorted(d), d a dict whose keys are tuples -/
namespace KT
open PySem PySem.Spec PyProof.Rows L2
section
variable {P : Program} {w : World} {A : Around} {E : Value → Shared → Prop} {s : Shared} {d : Addr} {es : Array DictEntry} {ep : Nat}
theorem src_raw (ns : (d == sysModules) = false) : W.KdlSrc P w "dict" d d es.size (fun i v => ∃ en, es[i]? = some en ∧ v = en.key) fun h => DT.Raw h d es ep where
  type := fun s h => h.typeIs
  there := fun h ⟨o, ho, _⟩ => ⟨Heap.lt_size ho, Heap.lt_size ho⟩
  keep := fun h h' ⟨o, ho, r⟩ k => ⟨o, k d (.inl rfl) o ho, r⟩
  notList := rfl
  notTuple := rfl
  hint := fun A E s Q h q => W.kdl_hint_dict h.typeIs q
  iter := fun A s hh h => by
    obtain ⟨o, ho, ex, dat⟩ := id h
    have lt := Heap.lt_size ho
    refine ⟨{ cls := .type "dict_keyiterator", data := .fields #[.ref d, .int 0 0, .int (es.size : Nat) 0, .int (ep : Nat) 0] }, fun i h' => h'.IsKeyIter s.heap.objs.size d i es.size ep ∧ DT.Raw h' d es ep, fun E Q q => iter_keys ns ho ex dat q, ?_, ⟨_, Heap.get?_push_size _ rfl, rfl, rfl⟩, h.push _⟩
    refine ⟨fun b hb => by simp only [List.mem_singleton] at hb; simp [hb], fun i h1 h2 ⟨⟨o1, a1, a2⟩, ⟨o2, b1, b2⟩⟩ k => ⟨⟨o1, k _ (by simp) _ a1, a2⟩, ⟨o2, k _ (by simp) _ b1, b2⟩⟩, ?_, ?_, ?_⟩
    · rintro i s1 Q E hi ⟨it, ⟨o2, b1, b2, b3⟩⟩ q
      refine next_key_item it b1 b3 rfl (Array.getElem?_eq_getElem hi) fun h' it' sb => ?_
      have kp : ∀ b o, b ≠ s.heap.objs.size → s1.heap.get? b = some o → h'.get? b = some o := fun b o n e => sb.extBut b o n e
      exact q _ h' _ ⟨_, Array.getElem?_eq_getElem hi, rfl⟩ ⟨it', ⟨o2, kp d o2 (Nat.ne_of_lt lt) b1, b2, b3⟩⟩ fun b o n e => kp b o (fun z => n (by simp [z])) e
    · rintro s1 Q E ⟨it, ⟨o2, b1, b2, b3⟩⟩ q
      exact next_key_end hh it b1 b3 rfl (Nat.le_refl _) fun h' eb => q h' s1.toks fun b o n e => eb b o (fun z => n (by simp [z])) e
    · rintro i s1 Q E ⟨it, _⟩ q
      exact wpAny_pyIter_keyiter it q
/-- sorted of a dict's keys, each a tuple -/
theorem call_sortedD (ns : (d == sysModules) = false) (R : DT.Raw s.heap d es ep) (L : List Row) (hes : es.toList.map (·.key) = L.map fun q => Value.ref q.1) (keys : ∀ q ∈ L, IsX P w s.heap q) (hh : A.handled = none) (ne : ∀ p ∈ L, p.2 ≠ [])
    (hal : ∀ p ∈ L, ∀ q ∈ L, PySem.W.alike (rdat p) (rdat q) = true) (hfew : L.length < 300) (hu : A.units + 10 < cLine) {Q : Value → Shared → Prop}
    (hQ : ∀ (h' : Heap) (s' : Shared) p (out : Array Value) (c : Nat), (∀ b o, s.heap.get? b = some o → h'.get? b = some o) → (∀ b o, h'.get? b = some o → s'.heap.get? b = some o) → s'.gens = s.gens → s'.os = s.os → h'.objs.size ≤ p → s'.heap.get? p = some (seqObj "list" out c) →
      out.toList = (L.mergeSort (PySem.W.dataLe false rdat)).map (fun q => Value.ref q.1) → Q (.ref p) s') :
    wpAny (model P w) A (call (.builtin "sorted") [.ref d]) Q E s := by
  have hsz : es.size = L.length := by
    have z := congrArg List.length hes
    rw [List.length_map, List.length_map, Array.length_toList] at z
    exact z
  refine Calls.call_function_entry kind_sorted plain_sorted entry_sorted (args_sorted1 _) ?_
  unfold Builtin.«sorted»
  refine wpAny_bind (m := checkCount "sorted" 1 1 _) (wpAny_pure ?_)
  refine wpAny_bind (PySem.W.kdu_collect (A := A.in1) (src_raw (es := es) (ep := ep) ns) hh R (by rw [sizeLine_eq]; omega) fun h' tk acc k1 hacc => ?_)
  have hvs : acc.toList = L.map fun q => Value.ref q.1 := by
    rw [← hes]
    apply List.ext_getElem?
    intro i
    rw [List.getElem?_map, Array.getElem?_toList, Array.getElem?_toList]
    by_cases hi : i < acc.size
    · obtain ⟨en, e1, e2⟩ := hacc.2 i acc[i] (Array.getElem?_eq_getElem hi)
      rw [Array.getElem?_eq_getElem hi, e1, e2]
      rfl
    · have h2 := hacc.1
      rw [Array.getElem?_eq_none (by omega), Array.getElem?_eq_none (by omega)]
      rfl
  rw [hvs]
  have w1 : PySem.W.EachIs (fun v (p : Row) => v = Value.ref p.1) (L.map fun q => Value.ref q.1) L := each_refs L fun p _ => rfl
  have w2 : ∀ (h : Heap) (b : Addr), (∀ q ∈ L, IsX P w h q) → PySem.W.EachIs (fun v (p : Row) => ∃ as, Reads h v (rdat p) as ∧ b ∉ as) (L.map fun q => Value.ref q.1) L := fun h b k => each_refs L fun p hp => ⟨[], key_reads (k p hp), by simp⟩
  refine wpAny_bind (wpAny_newList ?_ (by rw [List.length_map, sizeLine_eq]; omega))
  have hoL : (h'.push (seqObj "list" (L.map fun q => Value.ref q.1).toArray 0)).get? h'.objs.size = some (seqObj "list" (L.map fun q => Value.ref q.1).toArray 0) := Heap.get?_push_size _ rfl
  have tkeys : ∀ q ∈ L, IsX P w (h'.push (seqObj "list" (L.map fun q => Value.ref q.1).toArray 0)) q := fun q hq => key_keep (keys q hq) fun b u e => Heap.get?_push_of_some _ (k1 b u e)
  refine wpAny_bind (wpAny_holding (PySem.W.list_sort_data (β := Row) (bs := L) (enc := rdat) (R := fun v (p : Row) => v = .ref p.1) (s := { s with heap := h'.push (seqObj "list" (L.map fun q => Value.ref q.1).toArray 0), toks := tk }) hoL
    w1 (w2 _ _ tkeys) (fun d hd d' hd' => ?_) (.inl fun d hd => ?_) (by rw [sizeLine_eq]; omega) (fun b _ => ?_) fun out hlen ho => ?_))
  · obtain ⟨p, hp, rfl⟩ := List.mem_map.mp hd
    obtain ⟨q, hq, rfl⟩ := List.mem_map.mp hd'
    exact hal p hp q hq
  · obtain ⟨p, hp, rfl⟩ := List.mem_map.mp hd
    have n := ne p hp
    obtain ⟨a0, k0⟩ := p
    cases k0 with
    | nil => exact absurd rfl n
    | cons x r => exact ⟨_, _, rfl⟩
  · rw [depth_row]
    show A.units + 1 + 1 + 1 < cLine
    omega
  · have eo := refs_each ho
    obtain ⟨c, hc⟩ := sortedHeap_at (vs := L.map fun q => Value.ref q.1) (out := List.toArray out) hoL
    refine wpAny_pure ⟨_, rfl, hQ h' _ h'.objs.size (List.toArray out) c k1 (fun b u q => ?_) rfl rfl (Nat.le_refl _) hc (by simpa using eo)⟩
    have hlt := Heap.lt_size q
    show (sortedHeap (h'.push (seqObj "list" _ 0)) h'.objs.size _ _).get? b = some u
    rw [sortedHeap_old (Nat.ne_of_lt hlt) (by rw [size_push']; exact Nat.lt_succ_of_lt hlt)]
    exact Heap.get?_push_of_some _ q
end
end KT
namespace G7
open PySem PySem.Spec PyProof.Rows L2
abbrev KRow := Addr × List Key
section
variable {X : Cx}
end
end G7

set_option linter.all false
set_option Elab.async false
set_option maxRecDepth 100000
set_option maxHeartbeats 4000000
/-! list(d.values()), d a dict whose keys are tuples; d == {} -/
namespace KT
open PySem PySem.Spec PyProof.Rows L2
section
variable {P : Program} {w : World} {d v : Addr} {es : Array DictEntry} {ep : Nat}
end
end KT
namespace G7
open PySem PySem.Spec PyProof.Rows L2
section
variable {X : Cx}
/-- len(d) -/
def cLenD : List V → Hp → VK → Prop := fun vs H Q => ∃ a kvs, vs = [.ref a] ∧ H a = some (.dK kvs) ∧ Q (.int (kvs.length : Nat)) H
theorem len_dic : CallR X (.builtin "len") cLenD := callImp call_lenD fun vs H Q ⟨a, kvs, e, h, q⟩ => ⟨a, kvs, e, h, q⟩
end
end G7

set_option linter.all false
set_option Elab.async false
set_option maxRecDepth 100000
set_option maxHeartbeats 4000000
/-! the laws' own book of a store: tables, made, states, kept -/
namespace G7
open PySem PySem.Spec PyProof.Rows L2
section
variable {X : Cx}
end
/-! frames: what was made stands, but where mutable things may be written -/
def KeepN (ms : List Addr) (H H' : Hp) : Prop := ∀ (b : Addr) (o : HO), b ∉ ms → (∀ ps, o ≠ .tbl ps) → H b = some o → H' b = some o
theorem KeepN.of {ms : List Addr} {H H' : Hp} (k : Keep ms H H') : KeepN ms H H' := fun b o n _ e => k b o n e
instance {ms : List Addr} {H H' : Hp} : Coe (Keep ms H H') (KeepN ms H H') := ⟨KeepN.of⟩
structure KM (ms : List Addr) (H H' : Hp) : Prop where
  k : KeepN ms H H'
  m : ∀ a ∈ ms, ∀ o, H a = some o → Mut (some o)
theorem KM.get {ms : List Addr} {H H' : Hp} (K : KM ms H H') {b : Addr} {o : HO} (e : H b = some o) (n : b ∉ ms ∨ ¬ Mut (some o)) (t : ∀ ps, o ≠ .tbl ps := by intro _ z; cases z) : H' b = some o := by
  refine K.k b o (fun h => ?_) t e
  rcases n with n | n
  · exact n h
  · exact n (K.m b h o e)
theorem KM.tup {ms : List Addr} {H H' : Hp} (K : KM ms H H') {b : Addr} {xs : List V} (e : H b = some (.tup xs)) : H' b = some (.tup xs) := K.get e (.inr id)
theorem KM.frz {ms : List Addr} {H H' : Hp} (K : KM ms H H') {b : Addr} {q : Obj} {o : HO} (e : H b = some (.frz q o)) : H' b = some (.frz q o) := K.get e (.inr id)
theorem KM.same {H H' : Hp} (k : Same H H') (ms : List Addr := []) (hm : ms = [] := by rfl) : KM ms H H' := ⟨fun b o _ _ e => k b o e, fun a ha => by rw [hm] at ha; cases ha⟩
theorem KM.trans {ms ms' : List Addr} {H H1 H2 : Hp} (a : KM ms H H1) (b : Keep ms' H1 H2) (h : ∀ m ∈ ms', m ∈ ms ∨ H m = none) : KM ms H H2 :=
  ⟨fun c o n t e => b c o (fun z => by
    rcases h c z with z | z
    · exact n z
    · rw [e] at z; cases z) (a.k c o n t e), a.m⟩
theorem KM.mono {ms ms' : List Addr} {H H1 : Hp} (a : KM ms H H1) (s : ∀ b ∈ ms, b ∈ ms') (m : ∀ b ∈ ms', ∀ o, H b = some o → Mut (some o)) : KM ms' H H1 := ⟨fun b o n t e => a.k b o (fun z => n (s b z)) t e, m⟩
theorem KM.one {H : Hp} {D : Addr} {o o' : HO} (e : H D = some o) (m : Mut (some o)) : KM [D] H (upd H D o') := ⟨KeepN.of (Keep.refl.upd (by simp)), fun a ha u eu => by
  rw [List.mem_singleton.mp ha, e] at eu
  cases eu
  exact m⟩
structure TbE where
  name : Str
  n : Int
  ta : Addr
  fa : Addr
  fields : List Str
structure StT where
  name : Str
  ra : Addr
  rows : List (Int × RowE)
structure StE where
  a : Addr
  ts : List StT
structure KpE where
  pa : Addr
  name : Str
  key : Int
  n : Int
  row : Option RowE
structure Bk where
  b : Addr
  td : Addr
  md : Addr
  sl : Addr
  kl : Addr
  tabs : List TbE
  made : List (Str × Str × Int)
  sts : List StE
  kept : List KpE
def StE.muts (s : StE) : List Addr := s.a :: s.ts.map (·.ra)
def Bk.muts (B : Bk) : List Addr := [B.b, B.td, B.md, B.sl, B.kl] ++ B.sts.flatMap StE.muts
def mky (m : Str × Str × Int) : List Key := [Sum.inr m.1, Sum.inr m.2.1]
def bkD (td md sl kl : Addr) : List (Key × V) := [(Sum.inr "tables", .ref td), (Sum.inr "made", .ref md), (Sum.inr "states", .ref sl), (Sum.inr "kept", .ref kl)]
structure StAt (H : Hp) (s : StE) : Prop where
  d : H s.a = some (.dK (s.ts.map fun t => ((Sum.inr t.name : Key), V.ref t.ra)))
  t : ∀ t ∈ s.ts, H t.ra = some (.dK (t.rows.map fun r => ((Sum.inl r.1 : Key), V.ref r.2.1)))
  r : ∀ t ∈ s.ts, ∀ r ∈ t.rows, H r.2.1 = some (.tup (r.2.2.map V.int))
structure BkOk (H : Hp) (B : Bk) : Prop where
  ob : H B.b = some (.dK (bkD B.td B.md B.sl B.kl))
  td : H B.td = some (.dK (B.tabs.map fun t => ((Sum.inr t.name : Key), V.ref t.ta)))
  md : H B.md = some (.dT (B.made.map fun m => (mky m, V.int m.2.2)))
  sl : H B.sl = some (.lst (B.sts.map fun s => V.ref s.a))
  kl : H B.kl = some (.lst (B.kept.map fun k => V.ref k.pa))
  tt : ∀ t ∈ B.tabs, H t.ta = some (.tup [.int t.n, .ref t.fa])
  tf : ∀ t ∈ B.tabs, TpF H t.fa (t.fields.map V.str)
  st : ∀ s ∈ B.sts, StAt H s
  kp : ∀ k ∈ B.kept, H k.pa = some (.tup [.str k.name, .int k.key, .int k.n, rowV k.row])
  nd : B.muts.Nodup
  names : (B.tabs.map (·.name)).Nodup
theorem StAt.km {ms : List Addr} {H H' : Hp} {s : StE} (T : StAt H s) (K : KM ms H H') (n : ∀ m ∈ s.muts, m ∉ ms) : StAt H' s :=
  ⟨K.get T.d (.inl (n _ List.mem_cons_self)), fun t ht => K.get (T.t t ht) (.inl (n _ (List.mem_cons_of_mem _ (List.mem_map.mpr ⟨t, ht, rfl⟩)))), fun t ht r hr => K.tup (T.r t ht r hr)⟩
theorem TpF.km {ms : List Addr} {H H' : Hp} {a : Addr} {xs : List V} (T : TpF H a xs) (K : KM ms H H') : TpF H' a xs := by
  obtain ⟨o, e, c⟩ := T
  exact ⟨o, K.frz e, c⟩
theorem BkOk.km {ms : List Addr} {H H' : Hp} {B : Bk} (O : BkOk H B) (K : KM ms H H') (n : ∀ m ∈ B.muts, m ∉ ms) : BkOk H' B := by
  have n0 : ∀ m, m ∈ [B.b, B.td, B.md, B.sl, B.kl] → m ∉ ms := fun m h => n m (List.mem_append_left _ h)
  exact ⟨K.get O.ob (.inl (n0 _ (by simp))), K.get O.td (.inl (n0 _ (by simp))), K.get O.md (.inl (n0 _ (by simp))), K.get O.sl (.inl (n0 _ (by simp))), K.get O.kl (.inl (n0 _ (by simp))), fun t ht => K.tup (O.tt t ht), fun t ht => (O.tf t ht).km K,
    fun s hs => (O.st s hs).km K fun m hm => n m (List.mem_append_right _ (List.mem_flatMap.mpr ⟨s, hs, hm⟩)), fun k hk => K.tup (O.kp k hk), O.nd, O.names⟩
theorem BkOk.same {H H' : Hp} {B : Bk} (O : BkOk H B) (k : Same H H') : BkOk H' B := O.km (KM.same k) fun _ _ h => by cases h
/-- the box is no part of the book -/
theorem BoxA.km {H H' : Hp} {h l : Addr} (B : BoxA H h l) (k : Keep [h, l] H H') : KM [h, l] H H' := ⟨k, fun a ha o e => by
  obtain ⟨o', e', mu⟩ := B.muts a ha
  rw [e] at e'
  cases e'
  exact mu⟩
/-- a row of small worths -/
def RowGd (key : Int) (n : Nat) (r : List Int) : Prop := r.length = n ∧ (∃ r', r = key :: r' ∧ ∀ x ∈ r', -2 ≤ x ∧ x ≤ 37)
abbrev WrE := Addr × Wr
def WsAt (H : Hp) (wa : Addr) (ws : List WrE) : Prop := H wa = some (.tup (ws.map fun w => V.ref w.1)) ∧ ∀ w ∈ ws, H w.1 = some (.tup (wrXs w.2)) ∧ WrAt H w.2
theorem WrAt.km {ms : List Addr} {H H' : Hp} {wr : Wr} (h : WrAt H wr) (K : KM ms H H') : WrAt H' wr := by
  cases wr with
  | tab nm fa fs =>
    obtain ⟨o, e, c⟩ := h
    exact ⟨o, K.frz e, c⟩
  | idx nm f => trivial
  | row nm key r => exact fun row hr => K.tup (h row hr)
theorem WsAt.km {ms : List Addr} {H H' : Hp} {wa : Addr} {ws : List WrE} (h : WsAt H wa ws) (K : KM ms H H') : WsAt H' wa ws := ⟨K.tup h.1, fun w hw => ⟨K.tup (h.2 w hw).1, WrAt.km (h.2 w hw).2 K⟩⟩
def names4 : List Str := ["a", "bb", "ccc", "d"]
def fields4 : List Str := ["id", "x", "y", "z"]
/-- what the draws make of a record's writes -/
inductive WsGd (ts : List TbE) (md : List (Str × Str × Int)) : List Wr → Prop where
  | tab (nm : Str) (fa : Addr) (k : Nat) (h : nm ∉ ts.map (·.name)) (h4 : nm ∈ names4) (hk : k < 4) : WsGd ts md [.tab nm fa (fields4.take (k + 1))]
  | idx (t : TbE) (f : Str) (ht : t ∈ ts) (hf : f ∈ t.fields) (hm : ∀ m ∈ md, ¬ (m.1 = t.name ∧ m.2.1 = f)) : WsGd ts md [.idx t.name f]
  | rows (ws : List Wr) (hz : ws.length ≤ 20) (hne : ts ≠ []) (h : ∀ w ∈ ws, ∃ t ∈ ts, ∃ key r, w = .row t.name key r ∧ 0 ≤ key ∧ key < 60 ∧ ∀ row : RowE, r = some row → RowGd key t.fields.length row.2) : WsGd ts md ws
theorem BkOk.tab {H : Hp} {B : Bk} (O : BkOk H B) {t : TbE} (ht : t ∈ B.tabs) : valV (B.tabs.map fun t => ((Sum.inr t.name : Key), V.ref t.ta)) (Sum.inr t.name) = some (V.ref t.ta) :=
  valV_mem (f := fun t : TbE => (Sum.inr t.name : Key)) (nd_inr O.names) t ht
/-- rows found, by table and key -/
structure FdE where
  pa : Addr
  t : TbE
  key : Int
  row : Option RowE
def FdE.ky (f : FdE) : List Key := [Sum.inr f.t.name, Sum.inl f.key]
def FdE.ent (f : FdE) : List Key × V := (f.ky, .ref f.pa)
/-- what is found -/
structure FdAt (H : Hp) (d : Addr) (ts : List TbE) (fs : List FdE) : Prop where
  d : H d = some (.dT (fs.map FdE.ent))
  tu : ∀ f ∈ fs, H f.pa = some (.tup [.str "row", .str f.t.name, .int f.key, rowV f.row])
  tb : ∀ f ∈ fs, f.t ∈ ts
  ks : ∀ f ∈ fs, 0 ≤ f.key ∧ f.key < 60
  rw_ : ∀ f ∈ fs, ∀ row : RowE, f.row = some row → H row.1 = some (.tup (row.2.map V.int)) ∧ RowGd f.key f.t.fields.length row.2
theorem FdAt.km {ms : List Addr} {H H' : Hp} {d : Addr} {ts : List TbE} {fs : List FdE} (F : FdAt H d ts fs) (K : KM ms H H') (n : d ∉ ms) : FdAt H' d ts fs :=
  ⟨K.get F.d (.inl n), fun f hf => K.tup (F.tu f hf), F.tb, F.ks, fun f hf row hr => ⟨K.tup (F.rw_ f hf row hr).1, (F.rw_ f hf row hr).2⟩⟩
end G7

set_option linter.all false
set_option Elab.async false
set_option maxRecDepth 100000
set_option maxHeartbeats 4000000
namespace G7
open PySem PySem.Spec PyProof.Rows L2
/-! ### enumerate of a tuple -/
set_option maxHeartbeats 8000000 in
theorem meets_enum_newT (l : Addr) (items : Array Value) (n : Nat) (dct : Option Addr) (sl : Array (Option Value)) :
    Meets (Builtin.«enumerate.__new__» ⟨[.type "enumerate", .ref l], []⟩) (fun _ R s => s.heap.get? l = some { cls := .type "tuple", dict := dct, data := .seq items n, slots := sl } ∧
      R (.ok (.ret (.ref (s.heap.push { cls := .type "tuple_iterator", data := .fields #[.ref l, .int 0 0] }).objs.size)))
        { s with heap := (s.heap.push { cls := .type "tuple_iterator", data := .fields #[.ref l, .int 0 0] }).push { cls := .type "enumerate", data := .fields #[.none, .bool false, .ref s.heap.objs.size, rawInt 0, .none, .none] } }) :=
  .of_wp fun prog w A R s h => by
    obtain ⟨hp, g, d, tk, os⟩ := s; obtain ⟨hl, h⟩ := h
    have hsub := sub_enumerate
    have hL : Heap.IsTuple (Shared.heap ⟨hp, g, d, tk, os⟩) l items := ⟨_, hl, rfl, n, rfl⟩
    wp_walk using AutoSeq1.wpAny_loadPart' hl
    refine wpAny_stack_any fun st => wpAny_pure ?_
    split
    · rename_i c _ _ _ _ _
      cases (c == Value.type "enumerate")
      · wp_walk using AutoSeq1.wpAny_loadPart' hl, wpAny_pyIter_tuple hL
        exact ⟨_, rfl, h⟩
      · wp_walk using AutoSeq1.wpAny_loadPart' hl, wpAny_pyIter_tuple hL
        exact ⟨_, rfl, h⟩
    · wp_walk using AutoSeq1.wpAny_loadPart' hl, wpAny_pyIter_tuple hL
      exact ⟨_, rfl, h⟩
section
variable {prog : Program} {w : World} {A : Around} {E : Value → Shared → Prop} {s : Shared}
theorem call_enum_tuple {l : Addr} {items : Array Value} {Q : Value → Shared → Prop} (hL : s.heap.IsTuple l items)
    (h : ∀ h', IsEnum h' (s.heap.objs.size + 1) s.heap.objs.size 0 .none → h'.IsTupleIter s.heap.objs.size l 0 → h'.objs.size = s.heap.objs.size + 2 →
      (∀ b o, s.heap.get? b = some o → h'.get? b = some o) → Q (.ref (s.heap.objs.size + 1)) { s with heap := h' }) :
    wpAny (model prog w) A (call (.type "enumerate") [.ref l]) Q E s := by
  obtain ⟨⟨c, dct, dt, sl⟩, hl, hc, n, hd⟩ := hL
  replace hc : c = .type "tuple" := hc
  replace hd : dt = .seq items n := hd
  subst hc hd
  refine callType_new F.called_enumerate (by decide) (F.typeCall_enumerate_1 _) (F.newCall_enumerate_1 _) (fun obj => F.args_object_init_2 obj _) F.entry_enumerate_new
    (meets_enum_newT l items n dct sl) ⟨hl, ?_⟩
  have hz : (s.heap.push { cls := .type "tuple_iterator", data := .fields #[.ref l, .int 0 0] }).objs.size = s.heap.objs.size + 1 := Heap.size_push ..
  show _ ∧ _
  rw [hz]
  have he : IsEnum ((s.heap.push { cls := .type "tuple_iterator", data := .fields #[.ref l, .int 0 0] }).push
      { cls := .type "enumerate", data := .fields #[.none, .bool false, .ref s.heap.objs.size, rawInt 0, .none, .none] }) (s.heap.objs.size + 1) s.heap.objs.size 0 .none := by
    have := Heap.get?_push_size (s.heap.push { cls := .type "tuple_iterator", data := .fields #[.ref l, .int 0 0] })
      (o := { cls := .type "enumerate", data := .fields #[.none, .bool false, .ref s.heap.objs.size, rawInt 0, .none, .none] }) rfl
    rw [hz] at this; exact this
  refine ⟨⟨_, he, rfl⟩, h _ he ⟨_, Heap.get?_push_of_some _ (Heap.get?_push_size _ rfl), rfl, rfl⟩ (by rw [Heap.size_push, hz]) fun b o x => Heap.get?_push_of_some _ (Heap.get?_push_of_some _ x)⟩
end
/-- the tuple at a, each item in a new pair -/
def IteT (K : PySem.W.Frag) (a : Addr) : It :=
  ⟨fun i H => ∃ (xs : List V) (x : V), SqT K H a xs ∧ xs[i]? = some x, fun i H v H' => ∃ T x, v = .ref T ∧ H T = none ∧ H' = upd H T (.tup [.int (i : Nat), x]) ∧ ∀ xs, SqT K H a xs → xs[i]? = some x, fun i H => ∃ xs : List V, SqT K H a xs ∧ xs.length = i⟩
theorem turn_enumT {P : Program} {w : World} {K : PySem.W.Frag} {elts : List Expr} {kk : Nat} {tpos : Pos} (a e it : Addr) :
    Turn P w K (.Tuple elts kk tpos) (IteT K a) [e, it] e (fun i h => (∃ old, IsEnum h e it ((i : Nat) : Int) old) ∧ h.IsTupleIter it a i ∧ e ≠ it ∧ a ≠ it ∧ e ≠ a) where
  mem := by simp
  obj := fun i h st b hb => by
    obtain ⟨⟨old, he⟩, ⟨o, ho, hc, hd⟩, _⟩ := st
    have e' : b = e ∨ b = it := by simpa using hb
    rcases e' with z | z
    · rw [z]; exact ⟨_, he, fun v q => nomatch q⟩
    · rw [z]; exact ⟨o, ho, fun v q => by rw [hd] at q; cases q⟩
  keep := fun i h h' st k => let ⟨⟨old, he⟩, hi, hne⟩ := st; ⟨⟨old, k e (by simp) _ he⟩, hi.at fun o q => k it (by simp) o q, hne⟩
  item := by
    intro X hP hw hK hc i pins s σ H E I hf st hg
    subst hP hw hK
    obtain ⟨⟨old, he⟩, hit, hne, hat, hea⟩ := st
    obtain ⟨xs, x, hq, hx⟩ := hg
    obtain ⟨its, rv, p, hz⟩ := I.tuple hq
    obtain ⟨u, hu, ru⟩ := rv.get hx
    have hel : e < s.heap.objs.size := Heap.lt_size he
    have hil : it < s.heap.objs.size := by obtain ⟨_, q, _⟩ := hit; exact Heap.lt_size q
    have hlt : i < its.toArray.size := by
      obtain ⟨z, _⟩ := List.getElem?_eq_some_iff.mp hu
      simpa using z
    refine wpAny_pyNext_enum_itemD (Draws.tuple (A := X.A.in1) (show X.A.in1.handled = none from I.ok.hd hc) it a hat its.toArray) he ⟨hit, show s.heap.IsTuple a its.toArray from p⟩ hlt hne (by simp; exact ⟨hne, hea⟩) fun v h' tk hv ho hst hT hsz hk => ?_
    have ev : v = u := by
      have e1 : its[i]? = some v := by simpa using hv
      rw [hu] at e1
      exact (Option.some.inj e1).symm
    subst ev
    refine ⟨_, rfl, wpAny_letOwnedTupleGo_enum (s := { s with heap := h', toks := tk + 1 }) ho fun h'' he' sb => ?_⟩
    have hT2 : h''.get? s.heap.objs.size = some { cls := .type "tuple", data := .seq #[.int i tk, v] } := (sb.2 _ (Nat.ne_of_gt hel)).trans hT
    have new : ObjOk X.prog X.w (upd H s.heap.objs.size (.tup [.int (i : Nat), x])) h'' s.heap.objs.size (.tup [.int (i : Nat), x]) :=
      ⟨by show 2 ≤ sizeLine; decide, [.int i tk, v], .cons ⟨_, rfl⟩ (.cons ru .nil), ⟨_, hT2, rfl, _, rfl⟩⟩
    have I1 : Inv X pins σ (upd H s.heap.objs.size (.tup [.int (i : Nat), x])) { s with heap := h'', toks := tk + 1 } :=
      I.turnedNew (ch := [e, it]) (fun b ob hb q => (sb.2 b (fun z => hb (by simp [z]))).trans (hk b ob (fun z => hb (by simp [z])) (fun z => hb (by simp [z])) q)) hf (Nat.le_refl _) new
    refine ⟨.ref s.heap.objs.size, _, I1, rfl, ⟨_, x, rfl, I.hok.fresh (Nat.le_refl _), rfl, fun ys hy => by rw [I.tuple_inj hy hq]; exact hx⟩, ⟨⟨v, ?_⟩, hst.1.at fun o q => (sb.2 it (Ne.symm hne)).trans q, hne, hat, hea⟩, fun b hb => ?_⟩
    · have e1 : ((i + 1 : Nat) : Int) = (i : Int) + 1 := by omega
      rw [e1]; exact he'
    · have hb' : b < s.heap.objs.size := by
        have e' : b = e ∨ b = it := by simpa using hb
        rcases e' with z | z
        · rw [z]; exact hel
        · rw [z]; exact hil
      rw [upd_ne (Nat.ne_of_lt hb')]
      exact (hf b hb).1
  done := by
    intro X hP hw hK hc i pins s σ H E I hf st hg
    subst hP hw hK
    obtain ⟨⟨old, he⟩, hit, hne, hat, hea⟩ := st
    obtain ⟨xs, hq, hx⟩ := hg
    obtain ⟨its, rv, p, hz⟩ := I.tuple hq
    obtain ⟨f0, f1, f2, f3, f4, f5⟩ := hf it (by simp)
    have hl := rv.length
    obtain rfl : i = its.toArray.size := by rw [List.size_toArray]; omega
    exact wpAny_pyNext_enum_endD (Draws.tuple (A := X.A.in1) (show X.A.in1.handled = none from I.ok.hd hc) it a hat its.toArray) he ⟨hit, show s.heap.IsTuple a its.toArray from p⟩ fun h' eb => ⟨rfl, I.turned (t' := s.toks) (fun b o hb q => eb b o hb q) f0 f1 f3 f4 f5⟩
  self := fun A i s Q E st h => let ⟨⟨_, he⟩, _⟩ := st; wpAny_pyIter_enum he h
def iEnumT (K : PySem.W.Frag) (ta : TA) : TI := fun σ H R => ta σ H fun vs H1 => ∃ a xs, vs = [.ref a] ∧ tpO (H1 a) = some xs ∧ R (IteT K a) H1
theorem pi_enumT {X : Cx} {e : Expr} {ta : TA} {p pos tpos : Pos} {elts : List Expr} {kk : Nat} (hg : Gl X "enumerate") (hm : X.mg "enumerate" = none) (ha : PA X [e] ta) (hs : starEach [e] X.env = [(false, eval e X.env)] := by rfl) :
    PI X (.Tuple elts kk tpos) (.Call (.Name "enumerate" p) [e] [] pos) (iEnumT X.K ta) := by
  refine ⟨fun pins s σ H R I h => ?_⟩
  refine Call_ (ld_blt I hg hm boot_enumerate (PyProof.Rows.callWith_type1 (thn (ha.run pos pins s σ H _ I h) fun us s1 ⟨vs, H1, I1, r1, q1⟩ => ?_) hs rfl))
  obtain ⟨a, xs, ex, hq0, q⟩ := q1
  have hq : SqT X.K H1 a xs := .inl (rd_tpO hq0)
  subst ex
  cases r1 with
  | cons r rr =>
    cases rr
    cases r
    obtain ⟨its, rv, p', hz⟩ := I1.tuple hq
    have hal : a < s1.heap.objs.size := by
      obtain ⟨o, ho, _⟩ := p'
      exact Heap.lt_size ho
    refine call_enum_tuple (show s1.heap.IsTuple a its.toArray from p') fun h' he hit hsz hk => wpAny_pyIter_enum he ?_
    have I2 : Inv X pins σ H1 { s1 with heap := h' } := I1.kept (t' := s1.toks) hk
    refine ⟨s1.heap.objs.size + 1, [s1.heap.objs.size + 1, s1.heap.objs.size], _, _, H1, rfl, I2, turn_enumT a (s1.heap.objs.size + 1) s1.heap.objs.size, ⟨⟨.none, he⟩, hit, Nat.succ_ne_self _, Nat.ne_of_lt hal, Nat.ne_of_gt (Nat.lt_succ_of_lt hal)⟩, fun b hb => ?_, q⟩
    have e' : b = s1.heap.objs.size + 1 ∨ b = s1.heap.objs.size := by simpa using hb
    have hle : s1.heap.objs.size ≤ b := by
      rcases e' with z | z
      · rw [z]; exact Nat.le_add_right _ _
      · rw [z]; exact Nat.le_refl _
    exact I1.fpOk hle (I1.hok.fresh hle)
theorem walk_enumT {K : PySem.W.Frag} {a : Addr} {xs : List V} : Walk (IteT K a) xs.length (fun H => SqT K H a xs) (YPair (fun i => some (.int (i : Nat))) (fun i => xs[i]?)) := by
  refine ⟨fun i _ hi q => ⟨xs, xs[i], q, by simp [hi]⟩, fun _ q => ⟨xs, q, rfl⟩, fun i H v H' _ q y => ?_⟩
  obtain ⟨T, x, h1, h2, h3, h4⟩ := y
  exact ⟨T, .int (i : Nat), x, h1, h2, h3, rfl, h4 xs q⟩
end G7

set_option linter.all false
set_option Elab.async false
set_option maxRecDepth 100000
set_option maxHeartbeats 4000000
/-! names of statements: the plain law of them -/
namespace Nm
open PySem PySem.Spec PyProof.Rows L2 G7
abbrev Shp := List (Str × List Str)
def flds (S : Shp) (t : Str) : List Str := ((S.find? fun e => decide (e.1 = t)).map (·.2)).getD []
def tabs (S : Shp) : List Str := S.map (·.1)
inductive Tr where
  | num (n : Int)
  | fld (t f : Str)
  | node (w : Str) (ks : List Tr)
def hits (S : Shp) (ts : List Str) (t f : Str) : List Str := ts.filter fun o => decide (f ∈ flds S o) && decide (t = "" ∨ t = o)
/-- a field looked up: the word that is refused, or its table -/
def nameF (S : Shp) (ts : List Str) (t f : Str) : Except Str Str :=
  if t ≠ "" ∧ t ∉ ts then .error t else match hits S ts t f with
    | [o] => .ok o
    | _ => .error f
mutual
def nameT (S : Shp) (ts : List Str) : Tr → Except Str Tr
  | .num n => .ok (.num n)
  | .fld t f => match nameF S ts t f with
    | .ok o => .ok (.fld o f)
    | .error w => .error w
  | .node w ks => match nameL S ts ks with
    | .ok ks' => .ok (.node w ks')
    | .error w => .error w
def nameL (S : Shp) (ts : List Str) : List Tr → Except Str (List Tr)
  | [] => .ok []
  | k :: ks => match nameT S ts k with
    | .error w => .error w
    | .ok k' => match nameL S ts ks with
      | .ok ks' => .ok (k' :: ks')
      | .error w => .error w
end
/-- the law's own: the first word that can't stand there -/
def firstF (S : Shp) (ts : List Str) (t f : Str) : Str := if t ≠ "" ∧ t ∉ ts then t else if (hits S ts t f).length = 1 then "" else f
mutual
def firstT (S : Shp) (ts : List Str) : Tr → Str
  | .num _ => ""
  | .fld t f => firstF S ts t f
  | .node _ ks => firstL S ts ks
def firstL (S : Shp) (ts : List Str) : List Tr → Str
  | [] => ""
  | k :: ks => if firstT S ts k = "" then firstL S ts ks else firstT S ts k
end
/-! no field's name is empty -/
mutual
def Tr.nz : Tr → Prop
  | .num _ => True
  | .fld _ f => f ≠ ""
  | .node _ ks => Tr.nzL ks
def Tr.nzL : List Tr → Prop
  | [] => True
  | k :: ks => k.nz ∧ Tr.nzL ks
end
def errW {α : Type} : Except Str α → Str
  | .ok _ => ""
  | .error w => w
theorem firstF_eq {S : Shp} {ts : List Str} {t f : Str} (h : f ≠ "") : firstF S ts t f = errW (nameF S ts t f) ∧ ∀ w, nameF S ts t f = .error w → w ≠ "" := by
  unfold firstF nameF
  by_cases c : t ≠ "" ∧ t ∉ ts
  · rw [if_pos c, if_pos c]
    exact ⟨rfl, fun w z => by cases z; exact c.1⟩
  · rw [if_neg c, if_neg c]
    match hh : hits S ts t f with
    | [] => exact ⟨rfl, fun w z => by cases z; exact h⟩
    | [o] => exact ⟨rfl, fun w z => by cases z⟩
    | o :: p :: r => exact ⟨by simp [errW], fun w z => by cases z; exact h⟩
mutual
theorem firstT_eq {S : Shp} {ts : List Str} : ∀ t : Tr, t.nz → firstT S ts t = errW (nameT S ts t) ∧ ∀ w, nameT S ts t = .error w → w ≠ ""
  | .num n, _ => ⟨rfl, fun w z => by cases z⟩
  | .fld t f, h => by
    obtain ⟨a, b⟩ := firstF_eq (S := S) (ts := ts) (t := t) (f := f) h
    unfold firstT nameT
    rw [a]
    cases e : nameF S ts t f with
    | ok o => exact ⟨rfl, fun w z => by cases z⟩
    | error w => exact ⟨rfl, fun w' z => by cases z; exact b w e⟩
  | .node w ks, h => by
    obtain ⟨a, b⟩ := firstL_eq (S := S) (ts := ts) ks h
    unfold firstT nameT
    rw [a]
    cases e : nameL S ts ks with
    | ok o => exact ⟨rfl, fun w z => by cases z⟩
    | error w => exact ⟨rfl, fun w' z => by cases z; exact b w e⟩
theorem firstL_eq {S : Shp} {ts : List Str} : ∀ ks : List Tr, Tr.nzL ks → firstL S ts ks = errW (nameL S ts ks) ∧ ∀ w, nameL S ts ks = .error w → w ≠ ""
  | [], _ => ⟨rfl, fun w z => by cases z⟩
  | k :: ks, h => by
    obtain ⟨a, b⟩ := firstT_eq (S := S) (ts := ts) k h.1
    obtain ⟨c, d⟩ := firstL_eq (S := S) (ts := ts) ks h.2
    unfold firstL nameL
    rw [a, c]
    cases e : nameT S ts k with
    | error w =>
      have := b w e
      refine ⟨?_, fun w' z => by cases z; exact this⟩
      show (if w = "" then _ else w) = w
      rw [if_neg this]
    | ok k' =>
      show (if ("" : Str) = "" then _ else _) = _ ∧ _
      rw [if_pos rfl]
      cases e2 : nameL S ts ks with
      | ok o => exact ⟨rfl, fun w z => by cases z⟩
      | error w => exact ⟨rfl, fun w' z => by cases z; exact d w e2⟩
end
/-! statements -/
inductive Sm where
  | alone (w : Str)
  | table (t : Str) (fs : List Str)
  | index (t f : Str)
  | put (t : Str) (ns : List Int)
  | set (t : Str) (ss : List (Str × Tr)) (c : Option Tr)
  | strike (t : Str) (c : Option Tr)
  | ask (how : Str) (tm : List Tr) (ts : List Str) (c : Option Tr) (bys : List Tr) (first : OI)
inductive Er where
  | word (w : Str)
  | row
def Er.s : Er → Str
  | .word w => w
  | .row => "row"
/-- the first of some that is unknown, or there already -/
def badTab (S : Shp) : List Str → List Str → Option Str
  | _, [] => none
  | early, t :: ts => if t ∉ tabs S ∨ t ∈ early then some t else badTab S (early ++ [t]) ts
def twice : List Str → List Str → Option Str
  | _, [] => none
  | early, f :: fs => if f ∈ early then some f else twice (early ++ [f]) fs
def nameO (S : Shp) (ts : List Str) : Option Tr → Except Str (Option Tr)
  | none => .ok none
  | some t => match nameT S ts t with
    | .ok t' => .ok (some t')
    | .error w => .error w
def firstO (S : Shp) (ts : List Str) : Option Tr → Str
  | none => ""
  | some t => firstT S ts t
/-- the sets of a statement, each with the fields ahead of it -/
def nameS (S : Shp) (t : Str) : List Str → List (Str × Tr) → Except Str (List (Str × Tr))
  | _, [] => .ok []
  | early, (f, tm) :: r => if f ∉ (flds S t).tail ∨ f ∈ early then .error f else match nameT S [t] tm with
    | .error w => .error w
    | .ok tm' => match nameS S t (early ++ [f]) r with
      | .error w => .error w
      | .ok r' => .ok ((f, tm') :: r')
def exW {α β : Type} (f : α → β) : Except Str α → Except Er β
  | .ok a => .ok (f a)
  | .error w => .error (.word w)
def chk (S : Shp) (ix : List (Str × Str)) : Sm → Except Er Sm
  | .alone w => .ok (.alone w)
  | .table t fs => if t ∈ tabs S then .error (.word t) else match twice [] fs with
    | some f => .error (.word f)
    | none => .ok (.table t fs)
  | .index t f => if t ∉ tabs S then .error (.word t) else if f ∉ (flds S t).tail ∨ (t, f) ∈ ix then .error (.word f) else .ok (.index t f)
  | .put t ns => if t ∉ tabs S then .error (.word t) else if ns.length ≠ (flds S t).length then .error .row else .ok (.put t ns)
  | .set t ss c => if t ∉ tabs S then .error (.word t) else match nameS S t [] ss with
    | .error w => .error (.word w)
    | .ok ss' => exW (.set t ss') (nameO S [t] c)
  | .strike t c => if t ∉ tabs S then .error (.word t) else exW (.strike t) (nameO S [t] c)
  | .ask how tm ts c bys first => match badTab S [] ts with
    | some t => .error (.word t)
    | none => match nameL S ts tm with
      | .error w => .error (.word w)
      | .ok tm' => match nameO S ts c with
        | .error w => .error (.word w)
        | .ok c' => exW (fun b => .ask how tm' ts c' b first) (nameL S ts bys)
/-- the words of parts in turn: the first that is none -/
def firstW : List Str → Str
  | [] => ""
  | w :: ws => if w = "" then firstW ws else w
def setW (S : Shp) (t : Str) : List Str → List (Str × Tr) → List Str
  | _, [] => []
  | early, (f, tm) :: r => (if f ∉ (flds S t).tail ∨ f ∈ early then f else "") :: firstT S [t] tm :: setW S t (early ++ [f]) r
/-- the law's own -/
def due (S : Shp) (ix : List (Str × Str)) : Sm → Str
  | .alone _ => ""
  | .table t fs => if t ∈ tabs S then t else (twice [] fs).getD ""
  | .index t f => if t ∉ tabs S then t else if f ∉ (flds S t).tail ∨ (t, f) ∈ ix then f else ""
  | .put t ns => if t ∉ tabs S then t else if ns.length ≠ (flds S t).length then "row" else ""
  | .set t ss c => if t ∉ tabs S then t else firstW (setW S t [] ss ++ [firstO S [t] c])
  | .strike t c => if t ∉ tabs S then t else firstW [firstO S [t] c]
  | .ask _ tm ts c bys _ => match badTab S [] ts with
    | some t => t
    | none => firstW (tm.map (firstT S ts) ++ [firstO S ts c] ++ bys.map (firstT S ts))
def nzO : Option Tr → Prop
  | none => True
  | some t => t.nz
def Sm.nz : Sm → Prop
  | .alone _ => True
  | .table t fs => t ≠ "" ∧ ∀ f ∈ fs, f ≠ ""
  | .index t f => t ≠ "" ∧ f ≠ ""
  | .put t _ => t ≠ ""
  | .set t ss c => t ≠ "" ∧ (∀ s ∈ ss, s.1 ≠ "" ∧ s.2.nz) ∧ nzO c
  | .strike t c => t ≠ "" ∧ nzO c
  | .ask _ tm ts c bys _ => Tr.nzL tm ∧ (∀ t ∈ ts, t ≠ "") ∧ nzO c ∧ Tr.nzL bys
theorem firstW_c {w : Str} {ws : List Str} : firstW (w :: ws) = if w = "" then firstW ws else w := rfl
theorem firstW_app : ∀ (a b : List Str), firstW (a ++ b) = if firstW a = "" then firstW b else firstW a
  | [], b => by simp [firstW]
  | w :: a, b => by
    rw [List.cons_append, firstW_c, firstW_c]
    by_cases c : w = ""
    · rw [if_pos c, if_pos c]
      exact firstW_app a b
    · rw [if_neg c, if_neg c, if_neg c]
theorem firstW_map {S : Shp} {ts : List Str} : ∀ ks : List Tr, firstW (ks.map (firstT S ts)) = firstL S ts ks
  | [] => rfl
  | k :: ks => by
    rw [List.map_cons, firstW_c, firstW_map ks]
    rfl
theorem firstO_eq {S : Shp} {ts : List Str} (c : Option Tr) (h : nzO c) : firstO S ts c = errW (nameO S ts c) ∧ ∀ w, nameO S ts c = .error w → w ≠ "" := by
  cases c with
  | none => exact ⟨rfl, fun w z => by cases z⟩
  | some t =>
    obtain ⟨a, b⟩ := firstT_eq (S := S) (ts := ts) t h
    simp only [firstO, nameO]
    rw [a]
    cases e : nameT S ts t with
    | ok o => exact ⟨rfl, fun w z => by cases z⟩
    | error w => exact ⟨rfl, fun w' z => by cases z; exact b w e⟩
theorem setW_eq {S : Shp} {t : Str} : ∀ (ss : List (Str × Tr)) (early : List Str), (∀ s ∈ ss, s.1 ≠ "" ∧ s.2.nz) → firstW (setW S t early ss) = errW (nameS S t early ss) ∧ ∀ w, nameS S t early ss = .error w → w ≠ ""
  | [], _, _ => ⟨rfl, fun w z => by cases z⟩
  | (f, tm) :: r, early, h => by
    obtain ⟨h1, h2⟩ := h (f, tm) List.mem_cons_self
    obtain ⟨a, b⟩ := firstT_eq (S := S) (ts := [t]) tm h2
    obtain ⟨c, d⟩ := setW_eq r (early ++ [f]) fun s hs => h s (List.mem_cons_of_mem _ hs)
    unfold setW nameS
    by_cases q : f ∉ (flds S t).tail ∨ f ∈ early
    · rw [if_pos q, if_pos q]
      exact ⟨by rw [firstW_c, if_neg h1]; rfl, fun w z => by cases z; exact h1⟩
    · rw [if_neg q, if_neg q]
      rw [firstW_c, if_pos rfl, firstW_c, a, c]
      cases e : nameT S [t] tm with
      | error w =>
        have := b w e
        exact ⟨by show (if w = "" then _ else w) = w; rw [if_neg this], fun w' z => by cases z; exact this⟩
      | ok tm' =>
        show (if ("" : Str) = "" then _ else _) = _ ∧ _
        rw [if_pos rfl]
        cases e2 : nameS S t (early ++ [f]) r with
        | ok o => exact ⟨rfl, fun w z => by cases z⟩
        | error w => exact ⟨rfl, fun w' z => by cases z; exact d w e2⟩
def errS {α : Type} : Except Er α → Str
  | .ok _ => ""
  | .error e => e.s
theorem errS_exW {α β : Type} {f : α → β} {x : Except Str α} : errS (exW f x) = errW x := by cases x <;> rfl
theorem due_chk {S : Shp} {ix : List (Str × Str)} (st : Sm) (h : st.nz) : due S ix st = errS (chk S ix st) := by
  cases st with
  | alone w => rfl
  | table t fs =>
    simp only [due, chk]
    by_cases c : t ∈ tabs S
    · rw [if_pos c, if_pos c]; rfl
    · rw [if_neg c, if_neg c]
      cases twice [] fs <;> rfl
  | index t f =>
    simp only [due, chk]
    by_cases c : t ∉ tabs S
    · rw [if_pos c, if_pos c]; rfl
    · rw [if_neg c, if_neg c]
      split <;> rfl
  | put t ns =>
    simp only [due, chk]
    by_cases c : t ∉ tabs S
    · rw [if_pos c, if_pos c]; rfl
    · rw [if_neg c, if_neg c]
      split <;> rfl
  | set t ss c =>
    simp only [due, chk]
    by_cases c1 : t ∉ tabs S
    · rw [if_pos c1, if_pos c1]; rfl
    · rw [if_neg c1, if_neg c1]
      obtain ⟨a, b⟩ := setW_eq (S := S) (t := t) ss [] h.2.1
      obtain ⟨a2, _⟩ := firstO_eq (S := S) (ts := [t]) c h.2.2
      rw [firstW_app, a]
      cases e : nameS S t [] ss with
      | error w => show (if w = "" then _ else w) = w; rw [if_neg (b w e)]
      | ok ss' =>
        show (if ("" : Str) = "" then _ else _) = _
        rw [if_pos rfl]
        show firstW [_] = errS (exW _ _)
        rw [errS_exW, ← a2]
        rw [firstW_c]
        by_cases z : firstO S [t] c = ""
        · rw [if_pos z, z]; rfl
        · rw [if_neg z]
  | strike t c =>
    simp only [due, chk]
    by_cases c1 : t ∉ tabs S
    · rw [if_pos c1, if_pos c1]; rfl
    · rw [if_neg c1, if_neg c1, errS_exW, ← (firstO_eq (S := S) (ts := [t]) c h.2).1]
      rw [firstW_c]
      by_cases z : firstO S [t] c = ""
      · rw [if_pos z, z]; rfl
      · rw [if_neg z]
  | ask how tm ts c bys first =>
    simp only [due, chk]
    obtain ⟨h1, h2, h3, h4⟩ := h
    cases badTab S [] ts with
    | some t => rfl
    | none =>
      obtain ⟨a, b⟩ := firstL_eq (S := S) (ts := ts) tm h1
      obtain ⟨a2, b2⟩ := firstO_eq (S := S) (ts := ts) c h3
      obtain ⟨a3, b3⟩ := firstL_eq (S := S) (ts := ts) bys h4
      show firstW (_ ++ _ ++ _) = _
      rw [firstW_app, firstW_app, firstW_map, firstW_map, a, a3]
      have one : firstW [firstO S ts c] = errW (nameO S ts c) := by
        rw [← a2]
        rw [firstW_c]
        by_cases z : firstO S ts c = ""
        · rw [if_pos z, z]; rfl
        · rw [if_neg z]
      rw [one]
      cases e : nameL S ts tm with
      | error w =>
        have := b w e
        show (if (if w = "" then _ else w) = "" then _ else (if w = "" then _ else w)) = w
        rw [if_neg this, if_neg this]
      | ok tm' =>
        rw [show errW (Except.ok tm' : Except Str (List Tr)) = "" from rfl, if_pos rfl]
        cases e2 : nameO S ts c with
        | error w =>
          have := b2 w e2
          show (if w = "" then _ else w) = w
          rw [if_neg this]
        | ok c' =>
          show (if ("" : Str) = "" then _ else _) = _
          rw [if_pos rfl]
          show _ = errS (exW _ _)
          rw [errS_exW]
end Nm

set_option linter.all false
set_option Elab.async false
set_option maxRecDepth 100000
set_option maxHeartbeats 4000000
/-! statements as data; names exchanged -/
namespace Nm
open PySem PySem.Spec PyProof.Rows L2 G7
mutual
def Tr.dx : Tr → Dx
  | .num n => .tup [.str "num", .int n]
  | .fld t f => .tup [.str "field", .str t, .str f]
  | .node w ks => .tup (.str w :: Tr.dxL ks)
def Tr.dxL : List Tr → List Dx
  | [] => []
  | k :: ks => k.dx :: Tr.dxL ks
end
theorem dxL_map : ∀ ks : List Tr, Tr.dxL ks = ks.map Tr.dx
  | [] => rfl
  | k :: ks => by unfold Tr.dxL; rw [dxL_map ks]; rfl
def dxO : Option Tr → Dx
  | none => .non
  | some t => t.dx
def dxI : OI → Dx
  | none => .non
  | some i => .int i
def dxs (l : List Str) : Dx := .tup (l.map Dx.str)
def Sm.dx : Sm → Dx
  | .alone w => .tup [.str w]
  | .table t fs => .tup [.str "table", .str t, dxs fs]
  | .index t f => .tup [.str "index", .str t, .str f]
  | .put t ns => .tup [.str "put", .str t, .tup (ns.map Dx.int)]
  | .set t ss c => .tup [.str "set", .str t, .tup (ss.map fun s => .tup [.str s.1, s.2.dx]), dxO c]
  | .strike t c => .tup [.str "strike", .str t, dxO c]
  | .ask how tm ts c bys first => .tup [.str "ask", .str how, .tup (tm.map Tr.dx), dxs ts, dxO c, .tup (bys.map Tr.dx), dxI first]
/-- the law's words -/
def lawW : List Str := ["num", "field", "+", "-", "*", "=", "<", ">", "<=", ">=", "not", "and", "or", "ask", "set", "put", "strike", "table", "index"]
def begD : List Dx → Nat
  | .str s :: _ => if s = "ask" then 2 else if s ∈ lawW then 1 else 0
  | _ => 0
mutual
def leavesD : Dx → List (List Nat)
  | .str _ => [[]]
  | .tup ds => leavesL (begD ds) 0 ds
  | _ => []
def leavesL (b : Nat) : Nat → List Dx → List (List Nat)
  | _, [] => []
  | k, d :: ds => (if b ≤ k then (leavesD d).map (k :: ·) else []) ++ leavesL b (k + 1) ds
end
def putD : List Nat → Dx → Str → Dx
  | [], _, w => .str w
  | k :: p, .tup ds, w => .tup (ds.take k ++ putD p (ds.getD k .non) w :: ds.drop (k + 1))
  | _ :: _, d, _ => d
theorem leavesL_mem {b : Nat} : ∀ {ds : List Dx} {k : Nat} {q : List Nat}, q ∈ leavesL b k ds → ∃ i p d, q = (k + i) :: p ∧ b ≤ k + i ∧ ds[i]? = some d ∧ p ∈ leavesD d
  | [], _, _, h => by simp [leavesL] at h
  | d :: ds, k, q, h => by
    unfold leavesL at h
    rcases List.mem_append.mp h with z | z
    · by_cases c : b ≤ k
      · rw [if_pos c] at z
        obtain ⟨p, hp, e⟩ := List.mem_map.mp z
        exact ⟨0, p, d, e.symm, c, rfl, hp⟩
      · rw [if_neg c] at z
        cases z
    · obtain ⟨i, p, d', e, hb, hd, hp⟩ := leavesL_mem z
      exact ⟨i + 1, p, d', by rw [e]; congr 1; omega, by omega, hd, hp⟩
theorem put_at {ds : List Dx} {i : Nat} {p : List Nat} {w : Str} {d : Dx} (h : ds[i]? = some d) : putD (i :: p) (.tup ds) w = .tup (ds.set i (putD p d w)) := by
  obtain ⟨hi, e⟩ := List.getElem?_eq_some_iff.mp h
  show Dx.tup (ds.take i ++ putD p (ds.getD i .non) w :: ds.drop (i + 1)) = _
  rw [List.getD_eq_getElem?_getD, h, Option.getD_some, List.set_eq_take_append_cons_drop, if_pos hi]
/-! a tree's words are the law's -/
mutual
def Tr.wk : Tr → Prop
  | .num _ => True
  | .fld _ _ => True
  | .node w ks => (w ∈ lawW ∧ w ≠ "num" ∧ w ≠ "field" ∧ w ≠ "ask") ∧ Tr.wkL ks
def Tr.wkL : List Tr → Prop
  | [] => True
  | k :: ks => k.wk ∧ Tr.wkL ks
end
theorem wkL_all : ∀ {ks : List Tr}, Tr.wkL ks ↔ ∀ k ∈ ks, k.wk
  | [] => by simp [Tr.wkL]
  | k :: ks => by simp [Tr.wkL, wkL_all (ks := ks)]
theorem nzL_all : ∀ {ks : List Tr}, Tr.nzL ks ↔ ∀ k ∈ ks, k.nz
  | [] => by simp [Tr.nzL]
  | k :: ks => by simp [Tr.nzL, nzL_all (ks := ks)]
/-- one of some is exchanged -/
theorem set_all {α : Type} {P : α → Prop} {l : List α} {i : Nat} {x : α} (h : ∀ a ∈ l, P a) (hx : P x) : ∀ a ∈ l.set i x, P a := fun a ha => by
  rcases List.mem_or_eq_of_mem_set ha with z | z
  · exact h a z
  · rw [z]; exact hx
mutual
theorem bentT {w : Str} (hw : w ≠ "") : ∀ (t : Tr), t.wk → t.nz → ∀ p ∈ leavesD t.dx, ∃ t' : Tr, putD p t.dx w = t'.dx ∧ t'.wk ∧ t'.nz
  | .num n, _, _, p, hp => by
    have z : p ∈ leavesL (begD [.str "num", .int n]) 0 [.str "num", .int n] := by unfold Tr.dx leavesD at hp; exact hp
    obtain ⟨i, q, d, e, hb, hd, hq⟩ := leavesL_mem z
    have hb : 1 ≤ 0 + i := hb
    match i, hb with
    | 1, _ => cases hd; simp [leavesD] at hq
    | i + 2, _ => simp at hd
  | .fld t f, _, hn, p, hp => by
    have z : p ∈ leavesL (begD [.str "field", .str t, .str f]) 0 [.str "field", .str t, .str f] := by unfold Tr.dx leavesD at hp; exact hp
    obtain ⟨i, q, d, e, hb, hd, hq⟩ := leavesL_mem z
    have hb : 1 ≤ 0 + i := hb
    match i, hb with
    | 1, _ =>
      cases hd
      have hq : q = [] := by simpa [leavesD] using hq
      subst hq e
      exact ⟨.fld w f, by unfold Tr.dx; rw [put_at (i := 0 + 1) (d := .str t) rfl]; rfl, trivial, hn⟩
    | 2, _ =>
      cases hd
      have hq : q = [] := by simpa [leavesD] using hq
      subst hq e
      exact ⟨.fld t w, by unfold Tr.dx; rw [put_at (i := 0 + 2) (d := .str f) rfl]; rfl, trivial, hw⟩
    | i + 3, _ => simp at hd
  | .node x ks, hk, hn, p, hp => by
    have z : p ∈ leavesL (begD (.str x :: Tr.dxL ks)) 0 (.str x :: Tr.dxL ks) := by unfold Tr.dx leavesD at hp; exact hp
    obtain ⟨i, q, d, e, hb, hd, hq⟩ := leavesL_mem z
    have hb0 : begD (.str x :: Tr.dxL ks) = 1 := by
      show (if x = "ask" then 2 else if x ∈ lawW then 1 else 0) = 1
      rw [if_neg hk.1.2.2.2, if_pos hk.1.1]
    rw [hb0] at hb
    match i, hb with
    | i + 1, _ =>
      have hd2 : (Tr.dxL ks)[i]? = some d := by simpa using hd
      obtain ⟨ks', e1, w1, n1⟩ := bentL hw ks hk.2 hn i q d hd2 hq
      subst e
      refine ⟨.node x ks', ?_, ⟨hk.1, w1⟩, n1⟩
      unfold Tr.dx
      rw [put_at (i := 0 + (i + 1)) (d := d) (by simpa using hd2), ← e1, show 0 + (i + 1) = i + 1 by omega, List.set_cons_succ]
theorem bentL {w : Str} (hw : w ≠ "") : ∀ (ks : List Tr), Tr.wkL ks → Tr.nzL ks → ∀ (i : Nat) (q : List Nat) (d : Dx), (Tr.dxL ks)[i]? = some d → q ∈ leavesD d → ∃ ks' : List Tr, (Tr.dxL ks).set i (putD q d w) = Tr.dxL ks' ∧ Tr.wkL ks' ∧ Tr.nzL ks'
  | [], _, _, i, q, d, hd, _ => by simp [Tr.dxL] at hd
  | k :: ks, hk, hn, 0, q, d, hd, hq => by
    have e : d = k.dx := by unfold Tr.dxL at hd; simpa using hd.symm
    subst e
    obtain ⟨t', e1, w1, n1⟩ := bentT hw k hk.1 hn.1 q hq
    exact ⟨t' :: ks, by unfold Tr.dxL; rw [List.set_cons_zero, e1], ⟨w1, hk.2⟩, ⟨n1, hn.2⟩⟩
  | k :: ks, hk, hn, i + 1, q, d, hd, hq => by
    have hd2 : (Tr.dxL ks)[i]? = some d := by unfold Tr.dxL at hd; simpa using hd
    obtain ⟨ks', e1, w1, n1⟩ := bentL hw ks hk.2 hn.2 i q d hd2 hq
    exact ⟨k :: ks', by unfold Tr.dxL; rw [List.set_cons_succ, e1], ⟨hk.1, w1⟩, ⟨hn.1, n1⟩⟩
end
theorem bentO {w : Str} (hw : w ≠ "") {c : Option Tr} (hk : ∀ t, c = some t → t.wk) (hn : nzO c) {p : List Nat} (hp : p ∈ leavesD (dxO c)) : ∃ c' : Option Tr, putD p (dxO c) w = dxO c' ∧ (∀ t, c' = some t → t.wk) ∧ nzO c' := by
  cases c with
  | none => simp [dxO, leavesD] at hp
  | some t =>
    obtain ⟨t', e, a, b⟩ := bentT hw t (hk t rfl) hn p hp
    exact ⟨some t', e, fun x hx => by cases hx; exact a, b⟩
theorem leaves_tup {ds : List Dx} {p : List Nat} (h : p ∈ leavesD (.tup ds)) : ∃ i q d, p = i :: q ∧ begD ds ≤ i ∧ ds[i]? = some d ∧ q ∈ leavesD d := by
  unfold leavesD at h
  obtain ⟨i, q, d, e, hb, hd, hq⟩ := leavesL_mem h
  exact ⟨i, q, d, by rw [e, Nat.zero_add], by omega, hd, hq⟩
theorem leaves_str {s : Str} {p : List Nat} (h : p ∈ leavesD (.str s)) : p = [] := by simpa [leavesD] using h
/-- words in a tuple of names -/
theorem bent_names {w : Str} (hw : w ≠ "") {l : List Str} (hn : ∀ x ∈ l, x ≠ "") {p : List Nat} (hp : p ∈ leavesD (dxs l)) : ∃ l' : List Str, putD p (dxs l) w = dxs l' ∧ (∀ x ∈ l', x ≠ "") ∧ l'.length = l.length := by
  obtain ⟨i, q, d, rfl, _, hd, hq⟩ := leaves_tup hp
  rw [List.getElem?_map] at hd
  obtain ⟨s, hs, rfl⟩ := Option.map_eq_some_iff.mp hd
  obtain rfl := leaves_str hq
  refine ⟨l.set i w, ?_, set_all hn hw, List.length_set⟩
  unfold dxs
  rw [put_at (d := .str s) (by rw [List.getElem?_map, hs]; rfl), List.map_set]
  rfl
/-- one of some trees -/
theorem bent_trees {w : Str} (hw : w ≠ "") {l : List Tr} (hk : ∀ t ∈ l, t.wk) (hn : Tr.nzL l) {p : List Nat} (hp : p ∈ leavesD (.tup (l.map Tr.dx))) : ∃ l' : List Tr, putD p (.tup (l.map Tr.dx)) w = .tup (l'.map Tr.dx) ∧ (∀ t ∈ l', t.wk) ∧ Tr.nzL l' := by
  obtain ⟨i, q, d, rfl, _, hd, hq⟩ := leaves_tup hp
  obtain ⟨ks', e, a, b⟩ := bentL hw l (wkL_all.mpr hk) hn i q d (by rw [dxL_map]; exact hd) hq
  refine ⟨ks', ?_, wkL_all.mp a, b⟩
  rw [put_at hd, ← dxL_map, e, dxL_map]
def Sm.wk : Sm → Prop
  | .set _ ss c => (∀ s ∈ ss, s.2.wk) ∧ ∀ t, c = some t → t.wk
  | .strike _ c => ∀ t, c = some t → t.wk
  | .ask _ tm _ c bys _ => (∀ t ∈ tm, t.wk) ∧ (∀ t, c = some t → t.wk) ∧ ∀ t ∈ bys, t.wk
  | _ => True
theorem ints_leaves {l : List Int} {p : List Nat} (h : p ∈ leavesD (.tup (l.map Dx.int))) : False := by
  obtain ⟨i, q, d, _, _, hd, hq⟩ := leaves_tup h
  rw [List.getElem?_map] at hd
  obtain ⟨s, _, rfl⟩ := Option.map_eq_some_iff.mp hd
  simp [leavesD] at hq
/-- a statement with a name exchanged is a statement -/
theorem bent_sm {w : Str} (hw : w ≠ "") (st : Sm) (hk : st.wk) (hn : st.nz) (ha : ∀ x, st ≠ .alone x) {p : List Nat} (hp : p ∈ leavesD st.dx) : ∃ st' : Sm, putD p st.dx w = st'.dx ∧ st'.wk ∧ st'.nz ∧ ∀ x, st' ≠ .alone x := by
  cases st with
  | alone x => exact absurd rfl (ha x)
  | table t fs =>
    obtain ⟨i, q, d, rfl, hb, hd, hq⟩ := leaves_tup hp
    have hb : 1 ≤ i := hb
    match i, hb with
    | 1, _ =>
      cases hd
      obtain rfl := leaves_str hq
      exact ⟨.table w fs, by unfold Sm.dx; rw [put_at (d := .str t) rfl]; rfl, trivial, ⟨hw, hn.2⟩, fun x => by intro z; cases z⟩
    | 2, _ =>
      cases hd
      obtain ⟨l', e, n, _⟩ := bent_names hw hn.2 hq
      exact ⟨.table t l', by unfold Sm.dx; rw [put_at (d := dxs fs) rfl, e]; rfl, trivial, ⟨hn.1, n⟩, fun x => by intro z; cases z⟩
    | i + 3, _ => simp at hd
  | index t f =>
    obtain ⟨i, q, d, rfl, hb, hd, hq⟩ := leaves_tup hp
    have hb : 1 ≤ i := hb
    match i, hb with
    | 1, _ =>
      cases hd
      obtain rfl := leaves_str hq
      exact ⟨.index w f, by unfold Sm.dx; rw [put_at (d := .str t) rfl]; rfl, trivial, ⟨hw, hn.2⟩, fun x => by intro z; cases z⟩
    | 2, _ =>
      cases hd
      obtain rfl := leaves_str hq
      exact ⟨.index t w, by unfold Sm.dx; rw [put_at (d := .str f) rfl]; rfl, trivial, ⟨hn.1, hw⟩, fun x => by intro z; cases z⟩
    | i + 3, _ => simp at hd
  | put t ns =>
    obtain ⟨i, q, d, rfl, hb, hd, hq⟩ := leaves_tup hp
    have hb : 1 ≤ i := hb
    match i, hb with
    | 1, _ =>
      cases hd
      obtain rfl := leaves_str hq
      exact ⟨.put w ns, by unfold Sm.dx; rw [put_at (d := .str t) rfl]; rfl, trivial, hw, fun x => by intro z; cases z⟩
    | 2, _ => cases hd; exact (ints_leaves hq).elim
    | i + 3, _ => simp at hd
  | set t ss c =>
    obtain ⟨i, q, d, rfl, hb, hd, hq⟩ := leaves_tup hp
    have hb : 1 ≤ i := hb
    match i, hb with
    | 1, _ =>
      cases hd
      obtain rfl := leaves_str hq
      exact ⟨.set w ss c, by unfold Sm.dx; rw [put_at (d := .str t) rfl]; rfl, hk, ⟨hw, hn.2⟩, fun x => by intro z; cases z⟩
    | 2, _ =>
      cases hd
      obtain ⟨j, r, d, rfl, _, hd, hr⟩ := leaves_tup hq
      have hd0 := hd
      rw [List.getElem?_map] at hd
      obtain ⟨s, hs, rfl⟩ := Option.map_eq_some_iff.mp hd
      have sm : s ∈ ss := List.mem_of_getElem? hs
      have key : ∀ s' : Str × Tr, s'.1 ≠ "" → s'.2.wk → s'.2.nz → putD r (.tup [.str s.1, s.2.dx]) w = .tup [.str s'.1, s'.2.dx] → ∃ st' : Sm, putD (2 :: j :: r) (Sm.set t ss c).dx w = st'.dx ∧ st'.wk ∧ st'.nz ∧ ∀ x, st' ≠ .alone x := fun s' a1 a2 a3 e => by
        refine ⟨.set t (ss.set j s') c, ?_, ⟨set_all hk.1 a2, hk.2⟩, ⟨hn.1, set_all hn.2.1 ⟨a1, a3⟩, hn.2.2⟩, fun x => by intro z; cases z⟩
        unfold Sm.dx
        rw [put_at (d := .tup (ss.map fun s => .tup [.str s.1, s.2.dx])) rfl, put_at hd0, e]
        show Dx.tup [_, _, .tup ((ss.map fun s => .tup [.str s.1, s.2.dx]).set j (.tup [.str s'.1, s'.2.dx])), _] = Dx.tup [_, _, .tup ((ss.set j s').map fun s => .tup [.str s.1, s.2.dx]), _]
        rw [List.map_set]
      obtain ⟨i2, q2, d2, rfl, hb2, hd2, hq2⟩ := leaves_tup hr
      match i2, hd2 with
      | 0, hd2 =>
        cases hd2
        obtain rfl := leaves_str hq2
        exact key (w, s.2) hw (hk.1 s sm) (hn.2.1 s sm).2 (by rw [put_at (d := .str s.1) rfl]; rfl)
      | 1, hd2 =>
        cases hd2
        obtain ⟨t', e, a, b⟩ := bentT hw s.2 (hk.1 s sm) (hn.2.1 s sm).2 q2 hq2
        exact key (s.1, t') (hn.2.1 s sm).1 a b (by rw [put_at (d := s.2.dx) rfl, e]; rfl)
      | i + 2, hd2 => simp at hd2
    | 3, _ =>
      cases hd
      obtain ⟨c', e, a, b⟩ := bentO hw hk.2 hn.2.2 hq
      exact ⟨.set t ss c', by unfold Sm.dx; rw [put_at (d := dxO c) rfl, e]; rfl, ⟨hk.1, a⟩, ⟨hn.1, hn.2.1, b⟩, fun x => by intro z; cases z⟩
    | i + 4, _ => simp at hd
  | strike t c =>
    obtain ⟨i, q, d, rfl, hb, hd, hq⟩ := leaves_tup hp
    have hb : 1 ≤ i := hb
    match i, hb with
    | 1, _ =>
      cases hd
      obtain rfl := leaves_str hq
      exact ⟨.strike w c, by unfold Sm.dx; rw [put_at (d := .str t) rfl]; rfl, hk, ⟨hw, hn.2⟩, fun x => by intro z; cases z⟩
    | 2, _ =>
      cases hd
      obtain ⟨c', e, a, b⟩ := bentO hw hk hn.2 hq
      exact ⟨.strike t c', by unfold Sm.dx; rw [put_at (d := dxO c) rfl, e]; rfl, a, ⟨hn.1, b⟩, fun x => by intro z; cases z⟩
    | i + 3, _ => simp at hd
  | ask how tm ts c bys first =>
    obtain ⟨i, q, d, rfl, hb, hd, hq⟩ := leaves_tup hp
    have hb : 2 ≤ i := hb
    obtain ⟨n1, n2, n3, n4⟩ := hn
    obtain ⟨k1, k2, k3⟩ := hk
    match i, hb with
    | 2, _ =>
      cases hd
      obtain ⟨l', e, a, b⟩ := bent_trees hw k1 n1 hq
      exact ⟨.ask how l' ts c bys first, by unfold Sm.dx; rw [put_at (d := .tup (tm.map Tr.dx)) rfl, e]; rfl, ⟨a, k2, k3⟩, ⟨b, n2, n3, n4⟩, fun x => by intro z; cases z⟩
    | 3, _ =>
      cases hd
      obtain ⟨l', e, a, _⟩ := bent_names hw n2 hq
      exact ⟨.ask how tm l' c bys first, by unfold Sm.dx; rw [put_at (d := dxs ts) rfl, e]; rfl, ⟨k1, k2, k3⟩, ⟨n1, a, n3, n4⟩, fun x => by intro z; cases z⟩
    | 4, _ =>
      cases hd
      obtain ⟨c', e, a, b⟩ := bentO hw k2 n3 hq
      exact ⟨.ask how tm ts c' bys first, by unfold Sm.dx; rw [put_at (d := dxO c) rfl, e]; rfl, ⟨k1, a, k3⟩, ⟨n1, n2, b, n4⟩, fun x => by intro z; cases z⟩
    | 5, _ =>
      cases hd
      obtain ⟨l', e, a, b⟩ := bent_trees hw k3 n4 hq
      exact ⟨.ask how tm ts c l' first, by unfold Sm.dx; rw [put_at (d := .tup (bys.map Tr.dx)) rfl, e]; rfl, ⟨k1, k2, a⟩, ⟨n1, n2, n3, b⟩, fun x => by intro z; cases z⟩
    | 6, _ =>
      cases hd
      cases first <;> simp [dxI, leavesD] at hq
    | i + 7, _ => simp at hd
end Nm

set_option linter.all false
set_option Elab.async false
set_option maxRecDepth 100000
set_option maxHeartbeats 4000000
/-! fields without their tables: looked up, the tree comes back -/
namespace Nm
open PySem PySem.Spec PyProof.Rows L2 G7
mutual
def Br (S : Shp) (ts : List Str) : Tr → Tr → Prop
  | .num n, b => b = .num n
  | .fld t f, b => b = .fld t f ∨ (b = .fld "" f ∧ (ts.filter fun o => decide (f ∈ flds S o)) = [t])
  | .node w ks, b => ∃ ks', b = .node w ks' ∧ BrL S ts ks ks'
def BrL (S : Shp) (ts : List Str) : List Tr → List Tr → Prop
  | [], b => b = []
  | k :: ks, b => ∃ k' ks', b = k' :: ks' ∧ Br S ts k k' ∧ BrL S ts ks ks'
end
mutual
def Tr.tz : Tr → Prop
  | .num _ => True
  | .fld t _ => t ≠ ""
  | .node _ ks => Tr.tzL ks
def Tr.tzL : List Tr → Prop
  | [] => True
  | k :: ks => k.tz ∧ Tr.tzL ks
end
theorem tzL_all : ∀ {ks : List Tr}, Tr.tzL ks ↔ ∀ k ∈ ks, k.tz
  | [] => by simp [Tr.tzL]
  | k :: ks => by simp [Tr.tzL, tzL_all (ks := ks)]
mutual
theorem br_refl {S : Shp} {ts : List Str} : ∀ t : Tr, Br S ts t t
  | .num n => by unfold Br; rfl
  | .fld t f => by unfold Br; exact .inl rfl
  | .node w ks => by unfold Br; exact ⟨ks, rfl, brL_refl ks⟩
theorem brL_refl {S : Shp} {ts : List Str} : ∀ ks : List Tr, BrL S ts ks ks
  | [] => by unfold BrL; rfl
  | k :: ks => by unfold BrL; exact ⟨k, ks, rfl, br_refl k, brL_refl ks⟩
end
theorem nameF_own {S : Shp} {ts : List Str} {t f o : Str} (h : t ≠ "") (e : nameF S ts t f = .ok o) : o = t := by
  unfold nameF at e
  by_cases c : t ≠ "" ∧ t ∉ ts
  · rw [if_pos c] at e; cases e
  · rw [if_neg c] at e
    match hh : hits S ts t f with
    | [] => rw [hh] at e; cases e
    | [x] =>
      rw [hh] at e
      cases e
      have m : o ∈ hits S ts t f := by rw [hh]; exact List.mem_cons_self
      have z := (List.mem_filter.mp m).2
      simp only [Bool.and_eq_true, decide_eq_true_eq] at z
      rcases z.2 with y | y
      · exact absurd y h
      · exact y.symm
    | x :: y :: r => rw [hh] at e; cases e
theorem nameF_bare {S : Shp} {ts : List Str} {t f o : Str} (h : (ts.filter fun o => decide (f ∈ flds S o)) = [t]) (e : nameF S ts "" f = .ok o) : o = t := by
  unfold nameF at e
  rw [if_neg (fun z => z.1 rfl)] at e
  have hh : hits S ts "" f = [t] := by
    unfold hits
    rw [← h]
    refine List.filter_congr fun x _ => ?_
    simp
  rw [hh] at e
  cases e
  rfl
mutual
theorem name_back {S : Shp} {ts : List Str} : ∀ (t b : Tr), Br S ts t b → t.tz → ∀ t', nameT S ts b = .ok t' → t' = t
  | .num n, b, h, _, t', e => by
    unfold Br at h
    subst h
    unfold nameT at e
    cases e
    rfl
  | .fld t f, b, h, hz, t', e => by
    unfold Br at h
    rcases h with rfl | ⟨rfl, hu⟩
    · unfold nameT at e
      cases hn : nameF S ts t f with
      | error w => rw [hn] at e; cases e
      | ok o =>
        rw [hn] at e
        cases e
        rw [nameF_own hz hn]
    · unfold nameT at e
      cases hn : nameF S ts "" f with
      | error w => rw [hn] at e; cases e
      | ok o =>
        rw [hn] at e
        cases e
        rw [nameF_bare hu hn]
  | .node w ks, b, h, hz, t', e => by
    unfold Br at h
    obtain ⟨ks', rfl, hl⟩ := h
    unfold nameT at e
    cases hn : nameL S ts ks' with
    | error w => rw [hn] at e; cases e
    | ok o =>
      rw [hn] at e
      cases e
      rw [nameL_back ks ks' hl hz o hn]
theorem nameL_back {S : Shp} {ts : List Str} : ∀ (ks b : List Tr), BrL S ts ks b → Tr.tzL ks → ∀ t', nameL S ts b = .ok t' → t' = ks
  | [], b, h, _, t', e => by
    unfold BrL at h
    subst h
    unfold nameL at e
    cases e
    rfl
  | k :: ks, b, h, hz, t', e => by
    unfold BrL at h
    obtain ⟨k', ks', rfl, h1, h2⟩ := h
    unfold nameL at e
    cases hn : nameT S ts k' with
    | error w => rw [hn] at e; cases e
    | ok o =>
      rw [hn] at e
      cases hm : nameL S ts ks' with
      | error w => rw [hm] at e; cases e
      | ok r =>
        rw [hm] at e
        cases e
        rw [name_back k k' h1 hz.1 o hn, nameL_back ks ks' h2 hz.2 r hm]
end
def BrO (S : Shp) (ts : List Str) : Option Tr → Option Tr → Prop
  | none, b => b = none
  | some t, b => ∃ t', b = some t' ∧ Br S ts t t'
def tzO : Option Tr → Prop
  | none => True
  | some t => t.tz
theorem brO_refl {S : Shp} {ts : List Str} (c : Option Tr) : BrO S ts c c := by
  cases c with
  | none => rfl
  | some t => exact ⟨t, rfl, br_refl t⟩
theorem nameO_back {S : Shp} {ts : List Str} (c b : Option Tr) (h : BrO S ts c b) (hz : tzO c) (c' : Option Tr) (e : nameO S ts b = .ok c') : c' = c := by
  cases c with
  | none =>
    have h : b = none := h
    subst h
    cases e
    rfl
  | some t =>
    obtain ⟨b', rfl, hb⟩ := h
    simp only [nameO] at e
    cases hn : nameT S ts b' with
    | error w => rw [hn] at e; cases e
    | ok o =>
      rw [hn] at e
      cases e
      rw [name_back t b' hb hz o hn]
theorem nameS_back {S : Shp} {t : Str} : ∀ (ss : List (Str × Tr)) (early : List Str) (ss' : List (Str × Tr)), (∀ s ∈ ss, s.2.tz) → nameS S t early ss = .ok ss' → ss' = ss
  | [], _, ss', _, e => by unfold nameS at e; cases e; rfl
  | (f, tm) :: r, early, ss', h, e => by
    unfold nameS at e
    by_cases q : f ∉ (flds S t).tail ∨ f ∈ early
    · rw [if_pos q] at e; cases e
    · rw [if_neg q] at e
      cases hn : nameT S [t] tm with
      | error w => rw [hn] at e; cases e
      | ok o =>
        rw [hn] at e
        cases hm : nameS S t (early ++ [f]) r with
        | error w => rw [hm] at e; cases e
        | ok r' =>
          rw [hm] at e
          cases e
          rw [name_back tm tm (br_refl tm) (h (f, tm) List.mem_cons_self) o hn, nameS_back r (early ++ [f]) r' (fun s hs => h s (List.mem_cons_of_mem _ hs)) hm]
def Sm.tz : Sm → Prop
  | .set _ ss c => (∀ s ∈ ss, s.2.tz) ∧ tzO c
  | .strike _ c => tzO c
  | .ask _ tm _ c bys _ => Tr.tzL tm ∧ tzO c ∧ Tr.tzL bys
  | _ => True
/-- a statement, and the same whose fields lack their tables here and there -/
def BrS (S : Shp) : Sm → Sm → Prop
  | .ask how tm ts c bys first, b => ∃ tm' c' bys', b = .ask how tm' ts c' bys' first ∧ BrL S ts tm tm' ∧ BrO S ts c c' ∧ BrL S ts bys bys'
  | st, b => b = st
theorem exW_ok {α β : Type} {f : α → β} {x : Except Str α} {y : β} (h : exW f x = .ok y) : ∃ a, x = .ok a ∧ y = f a := by
  cases x with
  | ok a => cases h; exact ⟨a, rfl, rfl⟩
  | error w => cases h
theorem chk_back {S : Shp} {ix : List (Str × Str)} (st b st' : Sm) (h : BrS S st b) (hz : st.tz) (e : chk S ix b = .ok st') : st' = st := by
  cases st with
  | alone w => have h : b = _ := h; subst h; cases e; rfl
  | table t fs =>
    have h : b = _ := h
    subst h
    simp only [chk] at e
    split at e
    · cases e
    · cases ht : twice [] fs with
      | some f => rw [ht] at e; cases e
      | none => rw [ht] at e; cases e; rfl
  | index t f =>
    have h : b = _ := h
    subst h
    simp only [chk] at e
    split at e
    · cases e
    · split at e
      · cases e
      · cases e; rfl
  | put t ns =>
    have h : b = _ := h
    subst h
    simp only [chk] at e
    split at e
    · cases e
    · split at e
      · cases e
      · cases e; rfl
  | set t ss c =>
    have h : b = _ := h
    subst h
    simp only [chk] at e
    split at e
    · cases e
    · cases hn : nameS S t [] ss with
      | error w => rw [hn] at e; cases e
      | ok ss' =>
        rw [hn] at e
        obtain ⟨c', hc, rfl⟩ := exW_ok e
        rw [nameS_back ss [] ss' hz.1 hn, nameO_back c c (brO_refl c) hz.2 c' hc]
  | strike t c =>
    have h : b = _ := h
    subst h
    simp only [chk] at e
    split at e
    · cases e
    · obtain ⟨c', hc, rfl⟩ := exW_ok e
      rw [nameO_back c c (brO_refl c) hz c' hc]
  | ask how tm ts c bys first =>
    obtain ⟨tm', c', bys', rfl, h1, h2, h3⟩ := h
    obtain ⟨z1, z2, z3⟩ := hz
    simp only [chk] at e
    cases hb : badTab S [] ts with
    | some t => rw [hb] at e; cases e
    | none =>
      rw [hb] at e
      cases hn : nameL S ts tm' with
      | error w => rw [hn] at e; cases e
      | ok r =>
        rw [hn] at e
        cases hc : nameO S ts c' with
        | error w => rw [hc] at e; cases e
        | ok c2 =>
          rw [hc] at e
          obtain ⟨b2, hy, rfl⟩ := exW_ok e
          rw [nameL_back tm tm' h1 z1 r hn, nameO_back c c' h2 z2 c2 hc, nameL_back bys bys' h3 z3 b2 hy]
end Nm

set_option linter.all false
set_option Elab.async false
set_option maxRecDepth 100000
set_option maxHeartbeats 4000000
/-! terms and conditions as trees of names; data without lists stand -/
namespace G7
open PySem PySem.Spec PyProof.Rows L2
def NZ (ps : List Fd) : Prop := ∀ e ∈ ps, e.2.1 ≠ (Str.ofString "") ∧ e.2.2 ≠ (Str.ofString "")
def nzF : G7.Tm → Prop
  | .num _ => True
  | .fld t f => t ≠ (Str.ofString "") ∧ f ≠ (Str.ofString "")
  | .op _ a b => nzF a ∧ nzF b
def nzC : G7.Cd → Prop
  | .cmp _ a b => nzF a ∧ nzF b
  | .neg c => nzC c
  | .con _ a b => nzC a ∧ nzC b
structure GN (c : G7.Cd) (d m : Nat) : Prop where
  ok : c.ok = true
  lim : c.lim
  high : c.high ≤ d
  few : c.leaves ≤ m
  nz : nzC c
  dp : c.deep ≤ d + 3
/-- all that is no list stands -/
def Std (H H' : Hp) : Prop := ∀ a o, H a = some o → (∀ xs, o ≠ .lst xs) → H' a = some o
theorem Std.ofSame {H H' : Hp} (k : Same H H') : Std H H' := fun a o h _ => k a o h
theorem Std.trans {H H1 H2 : Hp} (a : Std H H1) (b : Std H1 H2) : Std H H2 := fun c o h n => b c o (a c o h n) n
mutual
def Dx.noL : Dx → Prop
  | .tup ds => Dx.noLL ds
  | .lst _ => False
  | _ => True
def Dx.noLL : List Dx → Prop
  | [] => True
  | d :: ds => d.noL ∧ Dx.noLL ds
end
theorem noLL_all : ∀ {ds : List Dx}, Dx.noLL ds ↔ ∀ d ∈ ds, d.noL
  | [] => by simp [Dx.noLL]
  | d :: ds => by simp [Dx.noLL, noLL_all (ds := ds)]
mutual
theorem RX.std {H H' : Hp} (k : Std H H') : ∀ {d : Dx} {v : V}, d.noL → RX H v d → RX H' v d
  | .non, _, _, h => by simpa only [RX] using h
  | .bl _, _, _, h => by simpa only [RX] using h
  | .int _, _, _, h => by simpa only [RX] using h
  | .str _, _, _, h => by simpa only [RX] using h
  | .tup ds, v, n, h => by
    simp only [RX] at h ⊢
    obtain ⟨a, us, e, z, r⟩ := h
    refine ⟨a, us, e, ?_, RXs.std k n r⟩
    rcases z with z | ⟨o, z⟩
    · exact .inl (k a _ z (by intro xs q; cases q))
    · exact .inr ⟨o, k a _ z (by intro xs q; cases q)⟩
  | .lst ds, v, n, h => n.elim
theorem RXs.std {H H' : Hp} (k : Std H H') : ∀ {ds : List Dx} {us : List V}, Dx.noLL ds → RXs H us ds → RXs H' us ds
  | [], [], _, h => by simp only [RXs]
  | d :: ds, u :: us, n, h => by
    simp only [RXs] at h ⊢
    exact ⟨RX.std k n.1 h.1, RXs.std k n.2 h.2⟩
  | [], u :: us, _, h => by simp only [RXs] at h
  | d :: ds, [], _, h => by simp only [RXs] at h
end
end G7
namespace Nm
open PySem PySem.Spec PyProof.Rows L2 G7
mutual
theorem trNoL : ∀ t : Tr, t.dx.noL
  | .num n => by unfold Tr.dx Dx.noL; exact ⟨trivial, trivial, trivial⟩
  | .fld t f => by unfold Tr.dx Dx.noL; exact ⟨trivial, trivial, trivial, trivial⟩
  | .node w ks => by unfold Tr.dx Dx.noL; exact ⟨trivial, trNoLL ks⟩
theorem trNoLL : ∀ ks : List Tr, Dx.noLL (Tr.dxL ks)
  | [] => by unfold Tr.dxL; trivial
  | k :: ks => by unfold Tr.dxL; exact ⟨trNoL k, trNoLL ks⟩
end
theorem noL_tup {ds : List Dx} (h : ∀ d ∈ ds, d.noL) : (Dx.tup ds).noL := by
  unfold Dx.noL
  exact noLL_all.mpr h
theorem noL_map {α : Type} {f : α → Dx} {l : List α} (h : ∀ x ∈ l, (f x).noL) : (Dx.tup (l.map f)).noL := noL_tup fun d hd => by
  obtain ⟨x, hx, rfl⟩ := List.mem_map.mp hd
  exact h x hx
theorem noL_o (c : Option Tr) : (dxO c).noL := by cases c with
  | none => exact trivial
  | some t => exact trNoL t
theorem noL_i (i : OI) : (dxI i).noL := by cases i <;> exact trivial
theorem noL_s (l : List Str) : (dxs l).noL := noL_map fun _ _ => trivial
theorem smNoL (st : Sm) : st.dx.noL := by
  cases st with
  | alone w => exact ⟨trivial, trivial⟩
  | table t fs => exact ⟨trivial, trivial, noL_s fs, trivial⟩
  | index t f => exact ⟨trivial, trivial, trivial, trivial⟩
  | put t ns => exact ⟨trivial, trivial, noL_map fun _ _ => trivial, trivial⟩
  | set t ss c => exact ⟨trivial, trivial, noL_map fun s _ => ⟨trivial, trNoL s.2, trivial⟩, noL_o c, trivial⟩
  | strike t c => exact ⟨trivial, trivial, noL_o c, trivial⟩
  | ask how tm ts c bys first => exact ⟨trivial, trivial, noL_map fun t _ => trNoL t, noL_s ts, noL_o c, noL_map fun t _ => trNoL t, noL_i first, trivial⟩
/-! drawn terms and conditions as trees -/
def trT : G7.Tm → Tr
  | .num n => .num n
  | .fld t f => .fld t f
  | .op o a b => .node o.s [trT a, trT b]
def trC : G7.Cd → Tr
  | .cmp c a b => .node c.s [trT a, trT b]
  | .neg c => .node (Wd.s .not) [trC c]
  | .con o a b => .node o.s [trC a, trC b]
theorem rtDx {H : Hp} : ∀ {t : G7.Tm} {v : V}, RT H v t → RX H v (trT t).dx
  | .num n, v, h => by
    obtain ⟨a, rfl, e⟩ := h
    unfold trT Tr.dx
    exact rx_tup e (rxs_cons (rx_str _) (rxs_cons (rx_int _) rxs_nil))
  | .fld t f, v, h => by
    obtain ⟨a, rfl, e⟩ := h
    unfold trT Tr.dx
    exact rx_tup e (rxs_cons (rx_str _) (rxs_cons (rx_str _) (rxs_cons (rx_str _) rxs_nil)))
  | .op o x y, v, h => by
    obtain ⟨a, u, w, rfl, e, h1, h2⟩ := h
    unfold trT Tr.dx Tr.dxL Tr.dxL Tr.dxL
    exact rx_tup e (rxs_cons (rx_str _) (rxs_cons (rtDx h1) (rxs_cons (rtDx h2) rxs_nil)))
theorem rcDx {H : Hp} : ∀ {c : G7.Cd} {v : V}, RC H v c → RX H v (trC c).dx
  | .cmp o x y, v, h => by
    obtain ⟨a, u, w, rfl, e, h1, h2⟩ := h
    unfold trC Tr.dx Tr.dxL Tr.dxL Tr.dxL
    exact rx_tup e (rxs_cons (rx_str _) (rxs_cons (rtDx h1) (rxs_cons (rtDx h2) rxs_nil)))
  | .neg x, v, h => by
    obtain ⟨a, u, rfl, e, h1⟩ := h
    unfold trC Tr.dx Tr.dxL Tr.dxL
    exact rx_tup e (rxs_cons (rx_str _) (rxs_cons (rcDx h1) rxs_nil))
  | .con o x y, v, h => by
    obtain ⟨a, u, w, rfl, e, h1, h2⟩ := h
    unfold trC Tr.dx Tr.dxL Tr.dxL Tr.dxL
    exact rx_tup e (rxs_cons (rx_str _) (rxs_cons (rcDx h1) (rxs_cons (rcDx h2) rxs_nil)))
/-- what is asked of a tree of names: the law's words, names that aren't empty, bounds -/
structure TrOk (t : Tr) (n : Nat) : Prop where
  wk : t.wk
  nz : t.nz
  tz : t.tz
  deep : t.dx.deep ≤ n
  fits : t.dx.fits 8
theorem wd_law : ∀ o : Wd, o ≠ .num → o ≠ .field → (o.s ∈ lawW ∧ o.s ≠ "num" ∧ o.s ≠ "field" ∧ o.s ≠ "ask") := by
  intro o h1 h2
  cases o <;> first | exact absurd rfl h1 | exact absurd rfl h2 | decide +kernel
theorem node2 {w : Str} {a b : Tr} {n : Nat} (hw : w ∈ lawW ∧ w ≠ "num" ∧ w ≠ "field" ∧ w ≠ "ask") (ha : TrOk a n) (hb : TrOk b n) : TrOk (.node w [a, b]) (n + 1) := by
  refine ⟨⟨hw, ha.wk, hb.wk, trivial⟩, ⟨ha.nz, hb.nz, trivial⟩, ⟨ha.tz, hb.tz, trivial⟩, ?_, ?_⟩
  · have := ha.deep
    have := hb.deep
    unfold Tr.dx Tr.dxL Tr.dxL Tr.dxL Dx.deep Dx.deepL Dx.deepL Dx.deepL Dx.deepL
    have z : Dx.deep (.str w) = 0 := by unfold Dx.deep; rfl
    omega
  · unfold Tr.dx Tr.dxL Tr.dxL Tr.dxL Dx.fits
    exact ⟨by simp, by unfold Dx.fitsL; exact ⟨trivial, ha.fits, hb.fits, trivial⟩⟩
theorem node1 {w : Str} {a : Tr} {n : Nat} (hw : w ∈ lawW ∧ w ≠ "num" ∧ w ≠ "field" ∧ w ≠ "ask") (ha : TrOk a n) : TrOk (.node w [a]) (n + 1) := by
  refine ⟨⟨hw, ha.wk, trivial⟩, ⟨ha.nz, trivial⟩, ⟨ha.tz, trivial⟩, ?_, ?_⟩
  · have := ha.deep
    unfold Tr.dx Tr.dxL Tr.dxL Dx.deep Dx.deepL Dx.deepL Dx.deepL
    have z : Dx.deep (.str w) = 0 := by unfold Dx.deep; rfl
    omega
  · unfold Tr.dx Tr.dxL Tr.dxL Dx.fits
    exact ⟨by simp, by unfold Dx.fitsL; exact ⟨trivial, ha.fits, trivial⟩⟩
theorem TrOk.mono {t : Tr} {n m : Nat} (h : TrOk t n) (l : n ≤ m) : TrOk t m := ⟨h.wk, h.nz, h.tz, Nat.le_trans h.deep l, h.fits⟩
theorem trT_ok : ∀ {t : G7.Tm}, t.ok = true → nzF t → TrOk (trT t) t.deep
  | .num n, _, _ => ⟨trivial, trivial, trivial, by unfold trT Tr.dx; simp [Dx.deep, Dx.deepL, Tm.deep], by unfold trT Tr.dx Dx.fits; exact ⟨by simp, trivial, trivial, trivial⟩⟩
  | .fld t f, _, h => ⟨trivial, h.2, h.1, by unfold trT Tr.dx; simp [Dx.deep, Dx.deepL, Tm.deep], by unfold trT Tr.dx Dx.fits; exact ⟨by simp, trivial, trivial, trivial, trivial⟩⟩
  | .op o a b, k, h => by
    simp only [Tm.ok, Bool.and_eq_true] at k
    have wo := wd_law o (by rintro rfl; simp [Wd.isOp] at k) (by rintro rfl; simp [Wd.isOp] at k)
    have := node2 wo ((trT_ok k.1.2 h.1).mono (Nat.le_max_left a.deep b.deep)) ((trT_ok k.2 h.2).mono (Nat.le_max_right a.deep b.deep))
    exact this
theorem trC_ok : ∀ {c : G7.Cd} , c.ok = true → nzC c → TrOk (trC c) c.deep
  | .cmp o a b, k, h => by
    simp only [Cd.ok, Bool.and_eq_true] at k
    have wo := wd_law o (by rintro rfl; simp [Wd.isCmp] at k) (by rintro rfl; simp [Wd.isCmp] at k)
    exact node2 wo ((trT_ok k.1.2 h.1).mono (Nat.le_max_left a.deep b.deep)) ((trT_ok k.2 h.2).mono (Nat.le_max_right a.deep b.deep))
  | .neg c, k, h => node1 (wd_law .not (by intro z; cases z) (by intro z; cases z)) (trC_ok k h)
  | .con o a b, k, h => by
    simp only [Cd.ok, Bool.and_eq_true] at k
    have wo := wd_law o (by rintro rfl; simp [Wd.isCon] at k) (by rintro rfl; simp [Wd.isCon] at k)
    exact node2 wo ((trC_ok k.1.2 h.1).mono (Nat.le_max_left a.deep b.deep)) ((trC_ok k.2 h.2).mono (Nat.le_max_right a.deep b.deep))
end Nm
namespace Nm
open PySem PySem.Spec PyProof.Rows L2 G7
theorem _root_.G7.BoxB.std {H H' : Hp} {h l : Addr} (B : BoxB H h l) (k : Keep [h, l] H H') : Std H H' := fun a o e n => k a o (B.notin e n) e
theorem Std.upd {H : Hp} {p : Addr} {o u : HO} (h : H p = some u) (hu : ∃ xs, u = .lst xs) : Std H (L2.upd H p o) := fun a x e n => by
  obtain ⟨xs, rfl⟩ := hu
  rw [upd_ne (fun z => by rw [z, h] at e; exact n xs (Option.some.inj e).symm)]
  exact e
/-- some trees, as they lie -/
structure TrsAt (H : Hp) (v : V) (trs : List Tr) (n : Nat) : Prop where
  at_ : RX H v (.tup (trs.map Tr.dx))
  few : trs.length ≤ 3
  ok : ∀ t ∈ trs, TrOk t n
theorem TrsAt.std {H H' : Hp} {v : V} {trs : List Tr} {n : Nat} (h : TrsAt H v trs n) (k : Std H H') : TrsAt H' v trs n := ⟨h.at_.std k (noL_map fun t _ => trNoL t), h.few, h.ok⟩
structure TrsL (H : Hp) (xs : List V) (trs : List Tr) (n : Nat) : Prop where
  at_ : RXs H xs (trs.map Tr.dx)
  ok : ∀ t ∈ trs, TrOk t n
theorem TrsL.std {H H' : Hp} {xs : List V} {trs : List Tr} {n : Nat} (h : TrsL H xs trs n) (k : Std H H') : TrsL H' xs trs n := ⟨h.at_.std k (noLL_all.mpr fun d hd => by
  obtain ⟨t, _, rfl⟩ := List.mem_map.mp hd
  exact trNoL t), h.ok⟩
theorem rxs_snoc {H : Hp} : ∀ {us : List V} {ds : List Dx} {u : V} {d : Dx}, RXs H us ds → RX H u d → RXs H (us ++ [u]) (ds ++ [d])
  | [], [], u, d, _, h => rxs_cons h rxs_nil
  | _ :: us, _ :: ds, u, d, r, h => by
    simp only [RXs] at r
    exact rxs_cons r.1 (rxs_snoc r.2 h)
  | [], _ :: ds, u, d, r, h => by simp only [RXs] at r
  | _ :: us, [], u, d, r, h => by simp only [RXs] at r
theorem TrsL.snoc {H : Hp} {xs : List V} {trs : List Tr} {n : Nat} {v : V} {t : Tr} (h : TrsL H xs trs n) (r : RX H v t.dx) (o : TrOk t n) : TrsL H (xs ++ [v]) (trs ++ [t]) n :=
  ⟨by rw [List.map_append]; exact rxs_snoc h.at_ r, fun x hx => (List.mem_append.mp hx).elim (h.ok x) fun z => by cases List.mem_singleton.mp z; exact o⟩
structure CoAt (H : Hp) (v : V) (c : Option Tr) (n : Nat) : Prop where
  at_ : RX H v (dxO c)
  ok : ∀ t, c = some t → TrOk t n
theorem CoAt.std {H H' : Hp} {v : V} {c : Option Tr} {n : Nat} (h : CoAt H v c n) (k : Std H H') : CoAt H' v c n := ⟨h.at_.std k (noL_o c), h.ok⟩
theorem CoAt.none {H : Hp} {n : Nat} : CoAt H .non none n := ⟨rx_non, fun t z => by cases z⟩
theorem CoAt.some {H : Hp} {v : V} {c : G7.Cd} {d m : Nat} (h : RC H v c) (g : GN c d m) : CoAt H v (some (trC c)) (d + 3) := ⟨rcDx h, fun t z => by cases z; exact (trC_ok g.ok g.nz).mono g.dp⟩
/-- a statement within bounds -/
structure SmOk (st : Sm) : Prop where
  wk : st.wk
  nz : st.nz
  tz : st.tz
  deep : st.dx.deep ≤ 8
  fits : st.dx.fits 8
theorem nzO_of {c : Option Tr} {n : Nat} (h : ∀ t, c = some t → TrOk t n) : nzO c := by cases c with
  | none => exact trivial
  | some t => exact (h t rfl).nz
theorem tzO_of {c : Option Tr} {n : Nat} (h : ∀ t, c = some t → TrOk t n) : tzO c := by cases c with
  | none => exact trivial
  | some t => exact (h t rfl).tz
theorem deepL_le {n : Nat} : ∀ {ds : List Dx}, (∀ d ∈ ds, d.deep ≤ n) → Dx.deepL ds ≤ n
  | [], _ => by unfold Dx.deepL; omega
  | d :: ds, h => by
    unfold Dx.deepL
    exact Nat.max_le.mpr ⟨h d List.mem_cons_self, deepL_le fun x hx => h x (List.mem_cons_of_mem _ hx)⟩
theorem fitsL_of {m : Nat} : ∀ {ds : List Dx}, (∀ d ∈ ds, d.fits m) → Dx.fitsL m ds
  | [], _ => trivial
  | d :: ds, h => ⟨h d List.mem_cons_self, fitsL_of fun x hx => h x (List.mem_cons_of_mem _ hx)⟩
theorem deep_tup {n : Nat} {ds : List Dx} (h : ∀ d ∈ ds, d.deep ≤ n) : (Dx.tup ds).deep ≤ n + 1 := by
  unfold Dx.deep
  exact Nat.succ_le_succ (deepL_le h)
theorem fits_tup {m : Nat} {ds : List Dx} (l : ds.length ≤ m) (h : ∀ d ∈ ds, d.fits m) : (Dx.tup ds).fits m := by
  unfold Dx.fits
  exact ⟨l, fitsL_of h⟩
theorem d_str (s : Str) (n : Nat) : (Dx.str s).deep ≤ n := by unfold Dx.deep; omega
theorem d_int (s : Int) (n : Nat) : (Dx.int s).deep ≤ n := by unfold Dx.deep; omega
theorem d_dxO {c : Option Tr} {n m : Nat} (h : ∀ t, c = some t → TrOk t n) (l : n ≤ m) : (dxO c).deep ≤ m := by cases c with
  | none => unfold dxO Dx.deep; omega
  | some t => exact Nat.le_trans (h t rfl).deep l
theorem f_dxO {c : Option Tr} {n : Nat} (h : ∀ t, c = some t → TrOk t n) : (dxO c).fits 8 := by cases c with
  | none => exact trivial
  | some t => exact (h t rfl).fits
theorem d_dxI (i : OI) (n : Nat) : (dxI i).deep ≤ n := by cases i <;> (unfold dxI Dx.deep; omega)
theorem f_dxI (i : OI) : (dxI i).fits 8 := by cases i <;> exact trivial
theorem d_map {α : Type} {f : α → Dx} {l : List α} {n : Nat} (h : ∀ x ∈ l, (f x).deep ≤ n) : (Dx.tup (l.map f)).deep ≤ n + 1 := deep_tup fun d hd => by
  obtain ⟨x, hx, rfl⟩ := List.mem_map.mp hd
  exact h x hx
theorem f_map {α : Type} {f : α → Dx} {l : List α} (n : l.length ≤ 8) (h : ∀ x ∈ l, (f x).fits 8) : (Dx.tup (l.map f)).fits 8 := fits_tup (by rw [List.length_map]; exact n) fun d hd => by
  obtain ⟨x, hx, rfl⟩ := List.mem_map.mp hd
  exact h x hx
theorem d_dxs (l : List Str) (n : Nat) : (dxs l).deep ≤ n + 1 := d_map fun s _ => d_str s n
theorem f_dxs {l : List Str} (n : l.length ≤ 8) : (dxs l).fits 8 := f_map n fun _ _ => trivial
/-- a question within bounds -/
theorem askOk {how : Str} {tm bys : List Tr} {ts : List Str} {c : Option Tr} {first : OI} (h1 : tm.length ≤ 3 ∧ ∀ t ∈ tm, TrOk t 6) (h2 : bys.length ≤ 3 ∧ ∀ t ∈ bys, TrOk t 6) (h3 : ∀ t, c = some t → TrOk t 6) (h4 : ts.length ≤ 3 ∧ ∀ t ∈ ts, t ≠ "") : SmOk (.ask how tm ts c bys first) := by
  refine ⟨⟨fun t ht => (h1.2 t ht).wk, fun t ht => (h3 t ht).wk, fun t ht => (h2.2 t ht).wk⟩, ⟨nzL_all.mpr fun t ht => (h1.2 t ht).nz, h4.2, nzO_of h3, nzL_all.mpr fun t ht => (h2.2 t ht).nz⟩, ⟨tzL_all.mpr fun t ht => (h1.2 t ht).tz, tzO_of h3, tzL_all.mpr fun t ht => (h2.2 t ht).tz⟩, ?_, ?_⟩
  · refine deep_tup fun d hd => ?_
    simp only [List.mem_cons, List.mem_nil_iff, or_false] at hd
    rcases hd with rfl | rfl | rfl | rfl | rfl | rfl | rfl
    · exact d_str _ _
    · exact d_str _ _
    · exact d_map fun t ht => (h1.2 t ht).deep
    · exact Nat.le_trans (d_dxs ts 0) (by omega)
    · exact d_dxO h3 (by omega)
    · exact d_map fun t ht => (h2.2 t ht).deep
    · exact d_dxI _ _
  · refine fits_tup (by simp) fun d hd => ?_
    simp only [List.mem_cons, List.mem_nil_iff, or_false] at hd
    rcases hd with rfl | rfl | rfl | rfl | rfl | rfl | rfl
    · exact trivial
    · exact trivial
    · exact f_map (by omega) fun t ht => (h1.2 t ht).fits
    · exact f_dxs (by omega)
    · exact f_dxO h3
    · exact f_map (by omega) fun t ht => (h2.2 t ht).fits
    · exact f_dxI _
end Nm
namespace Nm
open PySem PySem.Spec PyProof.Rows L2 G7
/-! some trees or other -/
def TrsE (H : Hp) (v : V) (n : Nat) : Prop := ∃ trs, TrsAt H v trs n
theorem TrsE.std {H H' : Hp} {v : V} {n : Nat} (h : TrsE H v n) (k : Std H H') : TrsE H' v n := h.elim fun t q => ⟨t, q.std k⟩
def TrsM (H : Hp) (xs : List V) (n : Nat) : Prop := ∃ trs, TrsL H xs trs n ∧ trs.length = xs.length
theorem TrsM.std {H H' : Hp} {xs : List V} {n : Nat} (h : TrsM H xs n) (k : Std H H') : TrsM H' xs n := h.elim fun t q => ⟨t, q.1.std k, q.2⟩
theorem TrsM.nil {H : Hp} {n : Nat} : TrsM H [] n := ⟨[], ⟨rxs_nil, fun t ht => absurd ht (by simp)⟩, rfl⟩
theorem TrsM.snoc {H : Hp} {xs : List V} {n : Nat} {v : V} {t : Tr} (h : TrsM H xs n) (r : RX H v t.dx) (o : TrOk t n) : TrsM H (xs ++ [v]) n := h.elim fun ts q => ⟨ts ++ [t], q.1.snoc r o, by rw [List.length_append, List.length_append, q.2]; rfl⟩
theorem TrsM.tup {H : Hp} {xs : List V} {n : Nat} {p : Addr} (h : TrsM H xs n) (hp : H p = some (.tup xs)) (l : xs.length ≤ 3) : TrsE H (.ref p) n := h.elim fun ts q => ⟨ts, rx_tup hp q.1.at_, by rw [q.2]; exact l, q.1.ok⟩
def CoE (H : Hp) (v : V) (n : Nat) : Prop := ∃ c, CoAt H v c n
theorem CoE.std {H H' : Hp} {v : V} {n : Nat} (h : CoE H v n) (k : Std H H') : CoE H' v n := h.elim fun t q => ⟨t, q.std k⟩
def FiE (H : Hp) (v : V) : Prop := ∃ f, RX H v (dxI f)
theorem FiE.std {H H' : Hp} {v : V} (h : FiE H v) (k : Std H H') : FiE H' v := h.elim fun t q => ⟨t, q.std k (noL_i t)⟩
end Nm
namespace Nm
open PySem PySem.Spec PyProof.Rows L2 G7
def Sm.full : Sm → Prop
  | .ask _ _ ts _ _ _ => 0 < ts.length ∧ ∀ t ∈ ts, t ∉ lawW
  | .index t f => PyData.strOk t = true ∧ PyData.strOk f = true
  | .alone w => PyData.strOk w = true
  | _ => True
theorem tableOk {t : Str} {fs : List Str} (h : t ≠ "") (n : fs.length ≤ 4) (hf : ∀ f ∈ fs, f ≠ "") : SmOk (.table t fs) := ⟨trivial, ⟨h, hf⟩, trivial, by
  refine deep_tup fun d hd => ?_
  simp only [List.mem_cons, List.mem_nil_iff, or_false] at hd
  rcases hd with rfl | rfl | rfl
  · exact d_str _ _
  · exact d_str _ _
  · exact d_dxs _ 6, fits_tup (by simp) fun d hd => by
  simp only [List.mem_cons, List.mem_nil_iff, or_false] at hd
  rcases hd with rfl | rfl | rfl
  · exact trivial
  · exact trivial
  · exact f_dxs (by omega)⟩
theorem indexOk {t f : Str} (h : t ≠ "") (hf : f ≠ "") : SmOk (.index t f) := ⟨trivial, ⟨h, hf⟩, trivial, by
  refine deep_tup fun d hd => ?_
  simp only [List.mem_cons, List.mem_nil_iff, or_false] at hd
  rcases hd with rfl | rfl | rfl <;> exact d_str _ _, fits_tup (by simp) fun d hd => by
  simp only [List.mem_cons, List.mem_nil_iff, or_false] at hd
  rcases hd with rfl | rfl | rfl <;> exact trivial⟩
theorem aloneOk {w : Str} : SmOk (.alone w) := ⟨trivial, trivial, trivial, by
  refine deep_tup fun d hd => ?_
  cases List.mem_singleton.mp hd
  exact d_str _ _, fits_tup (by simp) fun d hd => by
  cases List.mem_singleton.mp hd
  exact trivial⟩
theorem putOk {t : Str} {ns : List Int} (h : t ≠ "") (n : ns.length ≤ 4) : SmOk (.put t ns) := ⟨trivial, h, trivial, by
  refine deep_tup fun d hd => ?_
  simp only [List.mem_cons, List.mem_nil_iff, or_false] at hd
  rcases hd with rfl | rfl | rfl
  · exact d_str _ _
  · exact d_str _ _
  · exact d_map (n := 6) fun x _ => d_int x _, fits_tup (by simp) fun d hd => by
  simp only [List.mem_cons, List.mem_nil_iff, or_false] at hd
  rcases hd with rfl | rfl | rfl
  · exact trivial
  · exact trivial
  · exact f_map (by omega) fun x _ => trivial⟩
theorem strikeOk {t : Str} {c : Option Tr} (h : t ≠ "") (hc : ∀ x, c = some x → TrOk x 6) : SmOk (.strike t c) := ⟨fun t ht => (hc t ht).wk, ⟨h, nzO_of hc⟩, tzO_of hc, by
  refine deep_tup fun d hd => ?_
  simp only [List.mem_cons, List.mem_nil_iff, or_false] at hd
  rcases hd with rfl | rfl | rfl
  · exact d_str _ _
  · exact d_str _ _
  · exact d_dxO hc (by omega), fits_tup (by simp) fun d hd => by
  simp only [List.mem_cons, List.mem_nil_iff, or_false] at hd
  rcases hd with rfl | rfl | rfl
  · exact trivial
  · exact trivial
  · exact f_dxO hc⟩
theorem setOk {t : Str} {ss : List (Str × Tr)} {c : Option Tr} (h : t ≠ "") (hs : ss.length ≤ 4 ∧ ∀ s ∈ ss, s.1 ≠ "" ∧ TrOk s.2 5) (hc : ∀ x, c = some x → TrOk x 6) : SmOk (.set t ss c) :=
  ⟨⟨fun s hm => (hs.2 s hm).2.wk, fun t ht => (hc t ht).wk⟩, ⟨h, fun s hm => ⟨(hs.2 s hm).1, (hs.2 s hm).2.nz⟩, nzO_of hc⟩, ⟨fun s hm => (hs.2 s hm).2.tz, tzO_of hc⟩, by
  refine deep_tup fun d hd => ?_
  simp only [List.mem_cons, List.mem_nil_iff, or_false] at hd
  rcases hd with rfl | rfl | rfl | rfl
  · exact d_str _ _
  · exact d_str _ _
  · refine d_map (n := 6) fun s hm => deep_tup fun d hd => ?_
    simp only [List.mem_cons, List.mem_nil_iff, or_false] at hd
    rcases hd with rfl | rfl
    · exact d_str _ _
    · exact (hs.2 s hm).2.deep
  · exact d_dxO hc (by omega), fits_tup (by simp) fun d hd => by
  simp only [List.mem_cons, List.mem_nil_iff, or_false] at hd
  rcases hd with rfl | rfl | rfl | rfl
  · exact trivial
  · exact trivial
  · refine f_map (by omega) fun s hm => fits_tup (by simp) fun d hd => ?_
    simp only [List.mem_cons, List.mem_nil_iff, or_false] at hd
    rcases hd with rfl | rfl
    · exact trivial
    · exact (hs.2 s hm).2.fits
  · exact f_dxO hc⟩
end Nm
namespace Nm
open PySem PySem.Spec PyProof.Rows L2 G7
def dxP (s : Str × Tr) : Dx := .tup [.str s.1, s.2.dx]
/-- fields with their terms -/
def SetsM (H : Hp) (xs : List V) : Prop := ∃ ss : List (Str × Tr), RXs H xs (ss.map dxP) ∧ ss.length = xs.length ∧ ∀ s ∈ ss, s.1 ≠ "" ∧ TrOk s.2 5
theorem SetsM.nil {H : Hp} : SetsM H [] := ⟨[], rxs_nil, rfl, fun t ht => absurd ht (by simp)⟩
theorem SetsM.std {H H' : Hp} {xs : List V} (h : SetsM H xs) (k : Std H H') : SetsM H' xs := h.elim fun ss q => ⟨ss, q.1.std k (noLL_all.mpr fun d hd => by
  obtain ⟨s, _, rfl⟩ := List.mem_map.mp hd
  exact ⟨trivial, trNoL s.2, trivial⟩), q.2⟩
theorem SetsM.snoc {H : Hp} {xs : List V} {p : Addr} {v : V} {f : Str} {t : Tr} (h : SetsM H xs) (hp : H p = some (.tup [.str f, v])) (r : RX H v t.dx) (o : TrOk t 5) (hf : f ≠ "") : SetsM H (xs ++ [.ref p]) := h.elim fun ss q =>
  ⟨ss ++ [(f, t)], by rw [List.map_append]; exact rxs_snoc q.1 (rx_tup hp (rxs_cons (rx_str _) (rxs_cons r rxs_nil))), by rw [List.length_append, List.length_append, q.2.1]; rfl,
    fun x hx => (List.mem_append.mp hx).elim (q.2.2 x) fun z => by cases List.mem_singleton.mp z; exact ⟨hf, o⟩⟩
theorem cutV_1 (xs : List V) : cutV xs (some 1) none = xs.drop 1 := by
  have e : (1 : Int) = ((1 : Nat) : Int) := rfl
  unfold cutV
  rw [HT.sIx_none, e, HT.sIx_nat]
  by_cases h : 1 ≤ xs.length
  · rw [Nat.min_eq_left h]
    exact List.take_of_length_le (by rw [List.length_drop]; exact Nat.le_refl _)
  · rw [Nat.min_eq_right (by omega), List.drop_length, List.drop_eq_nil_of_le (by omega)]
    simp
end Nm

set_option linter.all false
set_option Elab.async false
set_option maxRecDepth 100000
set_option maxHeartbeats 4000000
/-! list comprehensions whose elements may raise -/
namespace LX
open PySem PySem.Spec PyProof.Rows L2
section
variable {X : Cx} {pins : List (Addr × Obj)} {σ : L2.St} {W : WX}
/-- an exception that a block's call let out, held by the def's frame, the block's own dict changed: it is in the def's air -/
theorem xe_of_block {s3 s9 s' : Shared} {H3 H9 H' : Hp} {scope : Scope} {ce : Env} {fp : List Addr} {pins9 : List (Addr × Obj)} {σ9 : L2.St} {a : Addr} {B B' h2 : Heap} {cls : Value} {d : Option Addr} (I3 : Inv X pins σ H3 s3) (I9 : Inv (X.blk s3 H3 scope ce fp) pins9 σ9 H9 s9)
    (f3 : ∀ b ∈ fp, FpOk X pins H3 b ∧ b < s3.heap.objs.size) (hC : ce.locals = s3.heap.objs.size) (hok : HOk X.prog X.w H' B) (ub : UB (frs X.stack) H9 H' s9.heap B s'.heap) (na : H' a = none) (os : s'.os = s9.os) (ag : AllBare s'.gens)
    (ff : s'.heap.FunFrames B X.stack) (b1 : ∀ b, b ≠ ce.locals → B'.get? b = B.get? b) (held : HandSPX.HeldZ B' X.stack a (Zc cls d) X.env.locals h2)
    (up2 : ∀ b o, b ≠ ce.locals → s'.heap.get? b = some o → (∀ vs, o.data ≠ .fields vs) → ∃ sl, h2.get? b = some { o with slots := sl }) (hW : W cls d σ H') : XE X W (.ref a) { s' with heap := h2 } := by
  obtain ⟨G, g1, g2⟩ := restrict h2 fun b => (B'.get? b).isSome || decide (b ∈ frs X.stack)
  have st : B'.StaysIn h2 := held.1
  have gB : ∀ b o, B'.get? b = some o → G.get? b = some o := fun b o e => by
    rw [g1 b (by simp [e])]
    exact st b o e
  have gF : ∀ b, b ∈ frs X.stack → G.get? b = h2.get? b := fun b hb => g1 b (by simp [hb])
  have og : ∀ b o, G.get? b = some o → h2.get? b = some o ∧ ((B'.get? b).isSome = true ∨ b ∈ frs X.stack) := fun b o e => by
    cases q : ((B'.get? b).isSome || decide (b ∈ frs X.stack)) with
    | false => rw [g2 b q] at e; cases e
    | true =>
      rw [g1 b q] at e
      exact ⟨e, by simpa [Bool.or_eq_true] using q⟩
  have nC : ∀ {b o}, s3.heap.get? b = some o → b ≠ ce.locals := fun {b o} e z => by
    have := Heap.lt_size e
    rw [z, hC] at this
    exact absurd this (Nat.lt_irrefl _)
  have HC : H' ce.locals = none := by
    obtain ⟨m, ⟨o, es, ep, ho, _⟩, _⟩ := I9.loc
    exact ub.free _ _ ho I9.free
  have any9 : ∀ b o, s3.heap.get? b = some o → b ∉ fp → ∃ o', s9.heap.get? b = some o' := fun b o e hx => I9.base.there b o e hx
  have sl9 : ∀ b o, s3.heap.get? b = some o → H3 b = none → b ∈ frs X.stack → b ∉ fp → ∃ sl, G.get? b = some { o with slots := sl } := fun b o e n hb hx => by
    obtain ⟨sl, q⟩ := I9.base.slot b o e n hb hx
    obtain ⟨sl2, q2⟩ := ub.slot b _ q hb
    obtain ⟨_, o', q3, nf⟩ := ff.mem hb
    rw [q2] at q3
    cases q3
    obtain ⟨sl3, q4⟩ := up2 b _ (nC e) q2 nf
    exact ⟨sl3, by rw [gF b hb]; exact q4⟩
  refine ⟨a, B', { s3 with heap := G, gens := s'.gens, drawn := s'.drawn, toks := s'.toks }, pins, σ, H', cls, d, rfl, ?_, fun b o e hb => ?_, Heap.UpToSlots.of_keeps fun b o e => (og b o e).1, .inr (.inr held), na, os.trans I9.os, ag, hW⟩
  · refine I3.call (ch := fp) ⟨fun b o e n hb hx => ?_, sl9, fun b o e n hx => ?_, fun b o e hx => ?_, fun b xs e => ub.tups _ _ (I9.base.tups _ _ e), fun b o u e => ub.frzs _ _ _ (I9.base.frzs _ _ _ e), fun b ps e => ?_⟩ ?_ ag fun b hb => ⟨(f3 b hb).1.2.2.2.1, (f3 b hb).1.2.1, (f3 b hb).1.2.2.2.2.1, (f3 b hb).1.2.2.2.2.2⟩
    · refine gB b o ?_
      rw [b1 b (nC e)]
      exact ub.keep b o (I9.base.keep b o e n hb hx) (I9.base.free b o e n hx) hb
    · obtain ⟨o', q⟩ := any9 b o e hx
      exact ub.free b o' q (I9.base.free b o e n hx)
    · obtain ⟨o', q⟩ := any9 b o e hx
      by_cases hb : b ∈ frs X.stack
      · obtain ⟨sl2, q2⟩ := ub.slot b _ q hb
        obtain ⟨_, o2, q3, nf⟩ := ff.mem hb
        rw [q2] at q3
        cases q3
        obtain ⟨sl3, q4⟩ := up2 b _ (nC e) q2 nf
        exact ⟨_, by rw [gF b hb]; exact q4⟩
      · obtain ⟨o2, q2⟩ := ub.there b o' q hb
        exact ⟨o2, gB b o2 (by rw [b1 b (nC e)]; exact q2)⟩
    · obtain ⟨m1, q1⟩ := I9.base.tbls b ps e
      obtain ⟨m2, q2⟩ := ub.tbls b _ q1
      exact ⟨m1 ++ m2, by rw [q2, Array.append_assoc]⟩
    · intro b u e
      refine (hok b u e).stay (fun c v hc q => gB c v ?_) (fun _ q => q) fun _ _ q => q
      rw [b1 c]
      · exact q
      · rintro rfl
        rcases hc with z | z
        · rw [← z, HC] at e; cases e
        · rw [HC] at z; cases z
  · obtain ⟨e', h⟩ := og b o e
    rcases h with h | h
    · obtain ⟨o', q⟩ := Option.isSome_iff_exists.mp h
      have z := st b o' q
      rw [e'] at z; cases z
      exact q
    · exact absurd h hb
end
theorem ff_base {h B B' : Heap} (k : ∀ b, B.get? b = none → B'.get? b = none) : ∀ {l : List Env}, h.FunFrames B l → h.FunFrames B' l
  | [], _ => trivial
  | e :: r, ⟨k1, ⟨L, o, e1, e2, e3, e4⟩, q⟩ => ⟨k1, ⟨L, o, e1, k L e2, e3, e4⟩, ff_base k q⟩
theorem ff_eq {h h' B : Heap} : ∀ {l : List Env}, (∀ b ∈ frs l, h'.get? b = h.get? b) → h.FunFrames B l → h'.FunFrames B l
  | [], _, _ => trivial
  | e :: r, k, ⟨k1, ⟨L, o, e1, e2, e3, e4⟩, q⟩ => ⟨k1, ⟨L, o, e1, e2, (k L (by unfold frs; rw [List.filterMap_cons, e1]; exact List.mem_cons_self)).trans e3, e4⟩, ff_eq (fun b hb => k b (by
      unfold frs at hb ⊢
      rw [List.filterMap_cons, e1]
      exact List.mem_cons_of_mem _ hb)) q⟩
/-- what is asked at a block's end: its own env is known -/
def postX (M : Model) (A : Around) (E : Value → Shared → Prop) (Q : Value → Shared → Prop) (acc : Value) (ce : Env) (r : Result) (s' : Shared) : Prop :=
  match r with
  | .ok _ => ∃ m, s'.heap.Ns ce.locals m ∧ ∀ h', Heap.SameBut ce.locals s'.heap h' → Q acc { s' with heap := h' }
  | .error x => ∃ m, s'.heap.Ns ce.locals m ∧ ∀ h', Heap.SameBut ce.locals s'.heap h' → wpAny M A (passOn "comprehension.variables-let-go" x ce : Sem Value) (fun _ _ => False) E { s' with heap := h' }
section
variable {X : Cx} {pins : List (Addr × Obj)} {σ : L2.St} {W : WX} {E : XK}
theorem err_lands {s3 s9 s' : Shared} {H3 H9 : Hp} {scope : Scope} {cl : List (Str × Addr)} {fp : List Addr} {pins9 : List (Addr × Obj)} {σ9 : L2.St} {u acc : Value} {Qf : Value → Shared → Prop} (hs : X.stack = X.env :: X.outer) (hf : X.env.frame = some X.env.locals) (tk : Takes X W) (hW : ∀ cls d σ H, E cls d H → W cls d σ H)
    (I3 : Inv X pins σ H3 s3) (I9 : Inv (X.blk s3 H3 scope (compEnvC scope cl s3.heap.objs.size X.env) fp) pins9 σ9 H9 s9)
    (f3 : ∀ b ∈ fp, FpOk X pins H3 b ∧ b < s3.heap.objs.size) (c : CX X.prog X.w X.stack H9 s9 E u s') :
    notedBy (model X.prog X.w) X.A (compEnvC scope cl s3.heap.objs.size X.env) (fun e s'' => postX (model X.prog X.w) X.A X.xe Qf acc (compEnvC scope cl s3.heap.objs.size X.env) (.error e) s'') u s' := by
  obtain ⟨a, B, H', cls, d, rfl, fl, hok, ub, na, os, ag, hE⟩ := c
  have hfr : X.A.frames = some (X.env :: X.outer) := by rw [I3.ok.frames, hs]
  have fl' : HandSPX.FlyingZ B (X.env :: X.outer) a (Zc cls d) s'.heap := by rw [← hs]; exact fl
  have nst : s3.heap.objs.size ∉ frs X.stack := fun hm => by
    rcases List.mem_cons.mp (I3.stkSub _ hm) with z | z
    · have := I3.lt
      rw [z] at this
      exact absurd this (Nat.lt_irrefl _)
    · exact I3.nofs (Nat.le_refl _) z
  show wpAny _ _ (noteFrame (.ref a) X.env) _ _ _
  refine HandSPX.looks_onZ Zc.steady hfr hf fl' fun h1 held up1 => ?_
  obtain ⟨m, ⟨o, es, ep, ho, r⟩, _⟩ := I9.loc
  have ho : s9.heap.get? s3.heap.objs.size = some o := ho
  have nC9 : H9 s3.heap.objs.size = none := I9.free
  have BC : B.get? s3.heap.objs.size = some o := ub.keep _ o ho nC9 nst
  obtain ⟨k1, k2, k3, k4⟩ := held
  refine ⟨m, ⟨o, es, ep, k1 _ o BC, r⟩, fun h2 sb => ?_⟩
  obtain ⟨B', b1, b2⟩ := restrict B fun b => decide (b ≠ s3.heap.objs.size)
  have b1 : ∀ b, b ≠ s3.heap.objs.size → B'.get? b = B.get? b := fun b hb => b1 b (by simpa using hb)
  have b2 : B'.get? s3.heap.objs.size = none := b2 _ (by simp)
  have bn : ∀ b, B.get? b = none → B'.get? b = none := fun b hb => by
    by_cases z : b = s3.heap.objs.size
    · rw [z, b2]
    · rw [b1 b z, hb]
  have sb : ∀ b, b ≠ s3.heap.objs.size → h2.get? b = h1.get? b := fun b hb => sb.2 b hb
  have nC : ∀ {b}, B.get? b = none → b ≠ s3.heap.objs.size := fun {b} e z => by rw [z, BC] at e; cases e
  have st2 : B'.StaysIn h2 := fun b o e => by
    by_cases z : b = s3.heap.objs.size
    · rw [z, b2] at e; cases e
    · rw [b1 b z] at e
      rw [sb b z]
      exact k1 b o e
  have ff2 : h2.FunFrames B' X.stack := by
    rw [hs]
    refine ff_base bn (ff_eq (fun b hb => sb b fun z => nst ?_) k3)
    rw [← z, hs]
    exact hb
  have tr2 : HandSPX.TracedZ h2 B' a (Zc cls d) (rawInt X.env.locals) := by
    obtain ⟨oe, vs, T, oT, ts, he, hz, hd, hv1, hnT, hTe, hT, hdT, h3⟩ := k4
    exact ⟨oe, vs, T, oT, ts, (sb a (nC k2)).trans he, hz, hd, hv1, bn _ hnT, hTe, (sb T (nC hnT)).trans hT, hdT, h3⟩
  obtain ⟨oe, vs, T, oT, ts, he, hz, hd, hv1, _⟩ := id tr2
  unfold PySem.passOn
  refine wpAny_bind (wpAny_field he hd hv1 ?_)
  rw [if_neg (by simp : ¬ ((Value.ref T == Value.none) = true))]
  have on_ : wpAny (model X.prog X.w) X.A (setFlight (.ref a) (compEnvC scope cl s3.heap.objs.size X.env).frame) (fun _ s4 => wpAny (model X.prog X.w) X.A (throw (.ref a) : Sem Value) (fun _ _ => False) X.xe s4) X.xe { s' with heap := h2 } := by
    rw [show (compEnvC scope cl s3.heap.objs.size X.env).frame = some X.env.locals from hf]
    refine HandSPX.setFlight_anyZ (fr := some X.env.locals) (l := X.stack) st2 ff2 tr2 fun h3 q1 q2 q3 q4 => wpAny_throw (tk _ _ ?_)
    refine xe_of_block (s' := s') (h2 := h3) I3 I9 f3 rfl hok ub na os ag fl.2.2.1 (B' := B') (fun b hb => b1 b hb) ⟨q1, bn _ k2, q2, q3⟩ (fun b o hb e nf => ?_) (hW _ _ _ _ hE)
    obtain ⟨sl, e1⟩ := up1 b o e nf
    have e2 : h2.get? b = some { o with slots := sl } := (sb b hb).trans e1
    obtain ⟨sl2, e3⟩ := q4 b _ e2 nf
    exact ⟨sl2, e3⟩
  first | exact wpAny_bind on_ | exact wpAny_bind (wpAny_pure (wpAny_bind on_))
end
section
variable {M : Model} {A : Around} {E : Value → Shared → Prop} {s : Shared} {env : Env}
/-- a comprehension whose block is known at its end -/
theorem compr_free {e : Expr} {scope : Scope} {pos : Pos} {newAcc first : Sem Value} {g : Comprehension} {gs : List Comprehension} {cl : List (Str × Addr)} {Q : Value → Shared → Prop}
    (hcl : clausesOf e = g :: gs) (hs : ∀ x, foldedSetIterable g.iter env x = pure x) (hclos : closureFor scope env = pure cl) (hkind : scope.kind = .function) (hnames : ∀ x ∈ scope.names, x.2 = .local → scope.names.lookup x.1 = some .local)
    (h : wpAny M A first (fun x s1 => wpAny M A (pyIter x) (fun it s2 => wpAny M A newAcc (fun acc s3 => wpAny M A (newFunctionEnv scope env.globals cl [] env.qual none .none (some env)) (fun ce s4 =>
        codeAny M A (.compStart e 0 it acc { ce with scope := relabel scope env }) (postX M A E Q acc { ce with scope := relabel scope env }) s4) E s3) E s2) E s1) E s) :
    wpAny M A (comprehension e scope env pos newAcc false first none) Q E s := by
  unfold comprehension
  rw [hclos, hcl]
  refine wpAny_bind (wpAny_mono h (fun x s1 h1 => wpAny_bind (wpAny_standAt (wpAny_bind (wpAny_of_eq (hs x) (wpAny_bind (wpAny_holding (wpAny_mono h1 (fun it s2 h2 =>
    wpAny_standIf (wpAny_bind (wpAny_mono h2 (fun acc s3 h3 => wpAny_bind (wpAny_pure (wpAny_bind (wpAny_mono h3 (fun ce s4 h4 => ?_) fun _ _ z => z)))) fun _ _ z => z))) fun _ _ z => z))))))) fun _ _ z => z)
  dsimp only
  have hv : ∀ x ∈ (scope.names.filter fun x => (x.2 == .local || x.2 == .cell) && x.1 != (".0" : Str)).reverse, x.2 = .local → Env.kindOf { ce with scope := relabel scope env } x.1 = some .local := fun x hx hl =>
    lookup_relabel_local (hnames x (List.mem_filter.mp (List.mem_reverse.mp hx)).1 hl)
  refine wpAny_holding (wpAny_bind (wpAny_attempt (wpAny_holding (wpAny_run (codeAny_mono h4 fun r s' hr => ?_)))))
  cases r with
  | ok f =>
    obtain ⟨m, hn, hr⟩ := hr
    exact wpAny_bind (wpAny_holding (wpAny_comp_letGo (cenv := { ce with scope := relabel scope env }) hkind _ s' m hv hn fun h' m' _ hs' => wpAny_pure (hr h' hs')))
  | error x =>
    obtain ⟨m, hn, hr⟩ := hr
    exact wpAny_bind (wpAny_holding (wpAny_comp_letGo (cenv := { ce with scope := relabel scope env }) hkind _ s' m hv hn fun h' m' _ hs' => wpAny_mono (hr h' hs') (fun _ _ f => f.elim) fun _ _ y => y))
end
/-- a block's context, its calls' errors kept as they come -/
abbrev blkX (X : Cx) (E : XK) (s : Shared) (H : Hp) (scope : Scope) (ce : Env) (fp : List Addr) : Cx := (X.blk s H scope ce fp).tr [] fun u s' => ∃ (σ : L2.St) (Hc : Hp) (sc : Shared), Inv (X.blk s H scope ce fp) [] σ Hc sc ∧ CX X.prog X.w X.stack Hc sc E u s'
theorem of_blkX {X : Cx} {E : XK} {s : Shared} {H : Hp} {scope : Scope} {ce : Env} {fp : List Addr} {pins : List (Addr × Obj)} {σ : L2.St} {Hc : Hp} {sc : Shared} (I : Inv (blkX X E s H scope ce fp) pins σ Hc sc) : Inv (X.blk s H scope ce fp) [] σ Hc sc := Inv.ofTry (X := X.blk s H scope ce fp) (pins := []) I (Cx.Ok.ofTry I.ok)
theorem passes_blk {X : Cx} {E : XK} {s : Shared} {H : Hp} {scope : Scope} {ce : Env} {fp : List Addr} : Passes (L2.CX X.prog X.w) (blkX X E s H scope ce fp) E := fun _ _ _ _ _ _ I c => ⟨_, _, _, of_blkX I, c⟩
theorem thnE {α : Type} {t : Sem α} {Q Q' : α → Shared → Prop} {M : Model} {A : Around} {E E' : Value → Shared → Prop} {s : Shared} (h : wpAny M A t Q E s) (hE : ∀ u s, E u s → E' u s) (hQ : ∀ a s, Q a s → Q' a s) : wpAny M A t Q' E' s := wpAny_mono h hQ hE
section
variable {X : Cx} {W : WX} {E : XK}
/-- [elt for target in iter if ..], where elt's calls may raise; its cells are no frames -/
theorem pe_lcF {elt tg iter : Expr} {ifs : List Expr} {scope : Scope} {own : List (Str × Nat)} {pos : Pos} {wi : TI} {g : TG} {tt : TT} {te : TE} (hst : X.stack = X.env :: X.outer) (hfm : X.env.frame = some X.env.locals) (tk : Takes X W) (hW : ∀ cls d σ H, E cls d H → W cls d σ H)
    (hc : X.calm = true) (hN : X.N.Nodup) (hi : PI X tg iter wi) (ok : BlkOk X.N X.env.scope scope own)
    (hg : ∀ (s : Shared) (H : Hp) (C : Addr) (cl : List (Str × Addr)) (fp : List Addr), PG (blkX X E s H scope (compEnvC scope cl C X.env) fp) tg g) (ht : ∀ (s : Shared) (H : Hp) (C : Addr) (cl : List (Str × Addr)) (fp : List Addr), PTs (blkX X E s H scope (compEnvC scope cl C X.env) fp) ifs tt)
    (he : ∀ (s : Shared) (H : Hp) (C : Addr) (cl : List (Str × Addr)) (fp : List Addr), ((∀ x c, X.env.cells.lookup x = some c → X.fn x = true) → ∀ x c, cl.lookup x = some c → c ∉ frs X.stack) → PE (blkX X E s H scope (compEnvC scope cl C X.env) fp) elt te) (hs : ∀ x, foldedSetIterable iter X.env x = pure x := by intro _; rfl) :
    PE X (.ListComp elt [⟨tg, iter, ifs, 0⟩] scope pos) (tLc wi g tt te (own.map (·.2))) := by
  refine ⟨fun pins s σ H Q I h => ?_⟩
  rw [eval_ListComp]
  have hfree : ∀ y ∈ scope.names, y.2 = .free → ∃ c, X.env.cells.lookup y.1 = some c := fun y hy e => (ok.free y hy e).elim (fun k => I.ok.has _ (.inl k)) (fun k => I.ok.has _ (.inr k))
  refine compr_free rfl hs (closure_ok hfree) ok.kind (fun y hy e => by rw [ok.uniq y hy, e]) (thn (hi.run pins s σ H _ I h) fun xv s1 hx => thn hx fun itv s2 h2 => ?_)
  obtain ⟨it, fp, tn, J, H2, e, I2, T, st2, f2, q⟩ := h2
  subst e
  refine wpAny_newObj_type (newEnv_comp ?_) (by show 0 ≤ sizeLine; decide)
  generalize hD : s2.heap.objs.size = D
  have hDn : H2 D = none := I2.hok.fresh (Nat.le_of_eq hD)
  obtain ⟨Wn, ⟨m0, w0⟩, turn⟩ := q D hDn
  generalize hs3 : ({ s2 with heap := s2.heap.push { cls := .type "list", data := .seq ([] : List Value).toArray } } : Shared) = s3
  have I3 : Inv X pins σ (upd H2 D (.lst [])) s3 := by
    rw [← hs3]
    refine I2.laid (t' := s2.toks) (fun b o e => Heap.get?_push_of_some _ e) (Nat.le_of_eq hD) ⟨Nat.zero_le _, [], 0, .nil, ?_⟩
    rw [← hD]
    exact Heap.get?_push_size _ rfl
  have h3 : s3.heap = s2.heap.push { cls := .type "list", data := .seq ([] : List Value).toArray } := by rw [← hs3]
  have f3 : ∀ b ∈ fp, FpOk X pins (upd H2 D (.lst [])) b ∧ b < s3.heap.objs.size := fun b hb => by
    obtain ⟨o, e, _⟩ := T.obj _ _ st2 b hb
    have hlt := Heap.lt_size e
    refine ⟨⟨?_, (f2 b hb).2⟩, by rw [h3, Heap.size_push]; exact Nat.lt_succ_of_lt hlt⟩
    rw [upd_ne (by rw [← hD]; exact Nat.ne_of_lt hlt)]
    exact (f2 b hb).1
  have st3 : tn 0 s3.heap := T.keep _ _ _ st2 fun b _ o e => by rw [h3]; exact Heap.get?_push_of_some _ e
  have I40 := block_start I3 ok hN f3
  have hcf : (∀ x c, X.env.cells.lookup x = some c → X.fn x = true) → ∀ x c, (cellsFrom (s3.heap.objs.size + 1) scope.names (cloFrom X.env.cells scope.names [])).lookup x = some c → c ∉ frs X.stack := fun hfn x c e hm => by
    have old : ∀ {d : Addr}, d ∈ frs X.stack → d < s3.heap.objs.size := fun {d} hd => by
      obtain ⟨_, o, e3, _⟩ := I3.stack.mem hd
      exact Heap.lt_size e3
    rcases cells_mem (h := s3.heap.push { cls := .type "dict", data := .dict #[] }) (by rw [Heap.size_push]; exact PySem.mem_of_lookup e) with hm2 | ⟨_, h2, _⟩
    · rcases cloFrom_mem hm2 with z | ⟨h1, h2⟩
      · cases z
      · obtain ⟨c', hc⟩ := hfree _ h1 rfl
        have hc : X.env.cells.lookup x = some c' := hc
        rw [hc] at h2
        have h2 : c = c' := h2
        subst h2
        rcases List.mem_cons.mp (I3.stkSub c hm) with z | z
        · exact I3.cne x c hc z
        · obtain ⟨_, o3, e3, _⟩ := I3.ok.funs.mem z
          exact absurd (Nat.lt_of_lt_of_le (Heap.lt_size e3) (I3.ok.cab x c (hfn x c hc) hc)) (Nat.lt_irrefl _)
    · rw [Heap.size_push] at h2
      exact absurd (Nat.lt_of_lt_of_le (old hm) (Nat.le_of_succ_le h2)) (Nat.lt_irrefl _)
  generalize hcl : cellsFrom (s3.heap.objs.size + 1) scope.names (cloFrom X.env.cells scope.names []) = cl at I40 hcf
  have pg := hg s3 (upd H2 D (.lst [])) s3.heap.objs.size cl fp
  have pt := ht s3 (upd H2 D (.lst [])) s3.heap.objs.size cl fp
  have pe := he s3 (upd H2 D (.lst [])) s3.heap.objs.size cl fp hcf
  have lands : ∀ {σ9 : L2.St} {H9 : Hp} {s9 s' : Shared} {u : Value}, Inv (X.blk s3 (upd H2 D (.lst [])) scope (compEnvC scope cl s3.heap.objs.size X.env) fp) [] σ9 H9 s9 → CX X.prog X.w X.stack H9 s9 E u s' →
      notedBy (model X.prog X.w) X.A (compEnvC scope cl s3.heap.objs.size X.env) (fun e s'' => postX (model X.prog X.w) X.A X.xe (EP X pins σ Q) (.ref D) (compEnvC scope cl s3.heap.objs.size X.env) (.error e) s'') u s' := fun I9 c => err_lands hst hfm tk hW I3 I9 f3 c
  show codeAny _ _ (.compStart (.ListComp elt [⟨tg, iter, ifs, 0⟩] scope pos) 0 (.ref it) (.ref D) (compEnvC scope cl s3.heap.objs.size X.env)) (postX (model X.prog X.w) X.A X.xe (EP X pins σ Q) (.ref D) (compEnvC scope cl s3.heap.objs.size X.env)) { s3 with heap := pushCells (s3.heap.push { cls := .type "dict", data := .dict #[] }) scope.names }
  have nfp : ∀ b ∈ fp, (upd H2 D (.lst [])) b = none := fun b hb => (f3 b hb).1.1
  have I4 : Inv (blkX X E s3 (upd H2 D (.lst [])) scope (compEnvC scope cl s3.heap.objs.size X.env) fp) [] (wipe σ (own.map (·.2))) (upd H2 D (.lst [])) { s3 with heap := pushCells (s3.heap.push { cls := .type "dict", data := .dict #[] }) scope.names } := Inv.toTry (X := X.blk s3 (upd H2 D (.lst [])) scope (compEnvC scope cl s3.heap.objs.size X.env) fp) (pins := []) I40 _
  generalize hce : compEnvC scope cl s3.heap.objs.size X.env = ce at I4 pg pt pe lands ⊢
  have cL : ce.locals = s3.heap.objs.size := by subst hce; rfl
  generalize hH3 : upd H2 D (.lst []) = H3 at I3 I4 pg pt pe w0 nfp f3 lands
  generalize hs4 : ({ s3 with heap := pushCells (s3.heap.push { cls := .type "dict", data := .dict #[] }) scope.names } : Shared) = s4 at I4 ⊢
  have st4 : tn 0 s4.heap := T.keep _ _ _ st3 fun b _ o e => by rw [← hs4]; exact pushCells_keeps _ _ _ _ (Heap.get?_push_of_some _ e)
  have air : ∀ u s', (blkX X E s3 H3 scope ce fp).xe u s' → notedBy (model X.prog X.w) X.A ce (fun e s'' => postX (model X.prog X.w) X.A X.xe (EP X pins σ Q) (.ref D) ce (.error e) s'') u s' := fun u s' ⟨_, _, _, I9, c⟩ => lands I9 c
  have stat : ∀ {σ' : L2.St} {H' : Hp} {s' : Shared}, Inv (blkX X E s3 H3 scope ce fp) [] σ' H' s' → (∀ b ∈ fp, H' b = none) → ∀ b ∈ fp, FpOk (blkX X E s3 H3 scope ce fp) [] H' b := fun {σ' H' s'} I' hn b hb =>
    ⟨hn b hb, (I'.ok.exf b hb).1, I'.ok.exfs b hb, .inl hb, fun x c e => (I'.ok.exf b hb).2 x c e, fun p hp => absurd (show p ∈ ([] : List (Addr × Obj)) ++ [] from hp) (by simp)⟩
  have loop : codeAny (model X.prog X.w) X.A (.compLoop (.ListComp elt [⟨tg, iter, ifs, 0⟩] scope pos) 0 (.ref it) (.ref D) ce) (postX (model X.prog X.w) X.A X.xe (EP X pins σ Q) (.ref D) ce) s4 := by
    refine compLoop_any (fun n s' => ∃ i H', Inv (blkX X E s3 H3 scope ce fp) [] (wipe σ (own.map (·.2))) H' s' ∧ tn i s'.heap ∧ (∀ b ∈ fp, H' b = none) ∧ Wn i n H') ?_ m0 ⟨0, H3, I4, st4, nfp, w0⟩
    rintro n s5 ⟨i, H5, I5, st5, n5, w5⟩
    rcases turn i n H5 w5 with ⟨stop, qq⟩ | ⟨go, Nx, hNx, step⟩
    · refine thnF (T.done (blkX X E s3 H3 scope ce fp) rfl rfl rfl hc i [] s5 _ H5 (fun _ _ => False) I5 (stat I5 n5) st5 stop) fun r s6 ⟨hr, I6⟩ => ?_
      subst hr
      have I7 : Inv X pins σ H5 s6 := I3.call' (ch := fp) I6.os I6.base I6.hok I6.bare fun b hb => ⟨(f3 b hb).1.2.2.2.1, (f3 b hb).1.2.1, (f3 b hb).1.2.2.2.2.1, (f3 b hb).1.2.2.2.2.2⟩
      have nC : H5 s3.heap.objs.size = none := by
        have z : H5 ce.locals = none := I6.free
        rw [cL] at z
        exact z
      obtain ⟨m, hn, _⟩ := I6.loc
      have hn : s6.heap.Ns ce.locals m := hn
      obtain ⟨f0, f1, f2, f3, f4, f5⟩ := I3.fpOk (Nat.le_refl _) nC
      refine ⟨m, hn, fun h'' sb => ⟨.ref D, H5, I7.turned (t' := s6.toks) (fun b o hb e => (sb.2 b (by rw [cL]; exact hb)).trans e) f0 f1 f3 f4 f5, rfl, qq⟩⟩
    · refine thnF (T.item (blkX X E s3 H3 scope ce fp) rfl rfl rfl hc i [] s5 _ H5 (fun _ _ => False) I5 (stat I5 n5) st5 go) fun r s6 ⟨u, hr, h6⟩ => ?_
      subst hr
      refine thnF h6 fun _ s7 ⟨x, H7, I7, r7, y7, st7, n7⟩ => ?_
      have I7' := I7.pinned (stat I7 n7) (T.obj _ _ st7)
      refine thnE (pg.run _ s7 _ H7 x u _ I7' r7 (step x H7 y7)) air fun _ s8 ⟨σ8, H8, I8, hw8, q8⟩ => ?_
      refine thnE (pt.run _ s8 σ8 H8 _ I8 q8) air fun b s9 ⟨H9, I9, q9⟩ => ?_
      have fin : ∀ {s' : Shared} {H' : Hp}, Inv (blkX X E s3 H3 scope ce fp) ([] ++ pinsAt fp s7.heap) σ8 H' s' → Nx H' → ∃ m, m < n ∧ ∃ i H', Inv (blkX X E s3 H3 scope ce fp) [] (wipe σ (own.map (·.2))) H' s' ∧ tn i s'.heap ∧ (∀ b ∈ fp, H' b = none) ∧ Wn i m H' := fun {s' H'} I' nx => by
        obtain ⟨m', hm, w'⟩ := hNx H' nx
        have pin' : ∀ b ∈ fp, ∀ o, s7.heap.get? b = some o → s'.heap.get? b = some o ∧ H' b = none := fun b hb o e =>
          let z := I'.pin (b, o) (List.mem_append_right _ (List.mem_append_right _ (mem_pinsAt hb e)))
          ⟨z.1, z.2.1⟩
        have hl : (wipe σ (own.map (·.2))).length = σ8.length := by rw [← hw8, wipe_length]
        refine ⟨m', hm, i + 1, H', (I'.unpinned (pins := [])).weak hl (fun j v e => ?_), T.keep _ _ _ st7 fun b hb o e => (pin' b hb o e).1, fun b hb => ?_, w'⟩
        · rw [← hw8] at e
          exact (wipe_some e).1
        · obtain ⟨o, e, _⟩ := T.obj _ _ st7 b hb
          exact (pin' b hb o e).2
      cases b with
      | false =>
        simp only [Bool.false_eq_true, if_false] at q9 ⊢
        exact fin I9 q9
      | true =>
        simp only [if_true] at q9 ⊢
        refine thnE (pe.run _ s9 σ8 H9 _ I9 q9) air fun z s10 ⟨yv, H10, I10, r10, acc, hD10, hz10, nx⟩ => ?_
        exact app_ok (X := blkX X E s3 H3 scope ce fp) I10 hD10 hz10 r10 fun s11 I11 => fin I11 nx
  exact codeAny_compStart_list loop (T.self X.A 0 _ _ _ st4 loop)
/-- [elt for target in iter if ..], where elt's calls may raise -/
theorem pe_lcX {elt tg iter : Expr} {ifs : List Expr} {scope : Scope} {own : List (Str × Nat)} {pos : Pos} {wi : TI} {g : TG} {tt : TT} {te : TE} (hst : X.stack = X.env :: X.outer) (hfm : X.env.frame = some X.env.locals) (tk : Takes X W) (hW : ∀ cls d σ H, E cls d H → W cls d σ H)
    (hc : X.calm = true) (hN : X.N.Nodup) (hi : PI X tg iter wi) (ok : BlkOk X.N X.env.scope scope own)
    (hg : ∀ (s : Shared) (H : Hp) (C : Addr) (cl : List (Str × Addr)) (fp : List Addr), PG (blkX X E s H scope (compEnvC scope cl C X.env) fp) tg g) (ht : ∀ (s : Shared) (H : Hp) (C : Addr) (cl : List (Str × Addr)) (fp : List Addr), PTs (blkX X E s H scope (compEnvC scope cl C X.env) fp) ifs tt)
    (he : ∀ (s : Shared) (H : Hp) (C : Addr) (cl : List (Str × Addr)) (fp : List Addr), PE (blkX X E s H scope (compEnvC scope cl C X.env) fp) elt te) (hs : ∀ x, foldedSetIterable iter X.env x = pure x := by intro _; rfl) :
    PE X (.ListComp elt [⟨tg, iter, ifs, 0⟩] scope pos) (tLc wi g tt te (own.map (·.2))) :=
  pe_lcF hst hfm tk hW hc hN hi ok hg ht (fun s H C cl fp _ => he s H C cl fp) hs
end
end LX

set_option linter.all false
set_option Elab.async false
set_option maxRecDepth 100000
set_option maxHeartbeats 4000000
/-! l != [], whatever stands in l -/
namespace G7
open PySem PySem.Spec PyProof.Rows L2
end G7

set_option linter.all false
set_option Elab.async false
set_option maxRecDepth 100000
set_option maxHeartbeats 4000000
/-! t == (), t != (), whatever stands in t; anything beside a text -/
namespace G7
open PySem PySem.Spec PyProof.Rows L2
theorem tup_isT {h : Heap} {a : Addr} {its : Array Value} (t : IsTup h a its) : h.IsTuple a its := by
  obtain ⟨o, ho, hc, n, hd⟩ := t
  exact ⟨o, ho, hc, n, hd⟩
def rNilT (neg : Bool) : R2 := fun x y H Q => ∃ (p q : Addr) (xs : List V), x = .ref p ∧ y = .ref q ∧ tpO (H p) = some xs ∧ tpO (H q) = some [] ∧ Q (.bl (if neg = true then !xs.isEmpty else xs.isEmpty)) H
theorem nil_end {its its2 : List Value} {xs : List V} (l1 : xs.length = its.length) (l2 : its2.length = 0) : xs.isEmpty = ((List.range (min its.toArray.size its2.toArray.size)).all (fun _ => true) && its.toArray.size == its2.toArray.size) := by
  rw [List.size_toArray, List.size_toArray, l2, Nat.min_zero, ← l1]
  cases xs <;> rfl
theorem op_eqNilT {X : Cx} (hu : X.A.units + 64 < cLine) : OpR X (compareOp .Eq) (rNilT false) := by
  intro pins s σ H x y v u Q I rx ry h
  obtain ⟨p, q, xs, rfl, rfl, h1, h2, k⟩ := h
  obtain rfl : v = Value.ref p := rx
  obtain rfl : u = Value.ref q := ry
  obtain ⟨its, r1, pl1, _⟩ := I.tuple (show SqT X.K H p xs from .inl (rd_tpO h1))
  obtain ⟨its2, r2, pl2, _⟩ := I.tuple (show SqT X.K H q [] from .inl (rd_tpO h2))
  have l2 : its2.length = 0 := r2.length.symm
  refine (SeqAt.RcAt.tuples (e := fun _ => true) (tup_isT pl1) (tup_isT pl2) (by omega) fun j j1 j2 => ?_) _ _ _ _ (fin_bl I k (nil_end r1.length l2))
  rw [List.size_toArray] at j2
  omega
theorem op_neNilT {X : Cx} (hu : X.A.units + 64 < cLine) : OpR X (compareOp .NotEq) (rNilT true) := by
  intro pins s σ H x y v u Q I rx ry h
  obtain ⟨p, q, xs, rfl, rfl, h1, h2, k⟩ := h
  obtain rfl : v = Value.ref p := rx
  obtain rfl : u = Value.ref q := ry
  obtain ⟨its, r1, pl1, _⟩ := I.tuple (show SqT X.K H p xs from .inl (rd_tpO h1))
  obtain ⟨its2, r2, pl2, _⟩ := I.tuple (show SqT X.K H q [] from .inl (rd_tpO h2))
  have l2 : its2.length = 0 := r2.length.symm
  refine (SeqAt.RcNeAt.tuples (e := fun _ => true) (tup_isT pl1) (tup_isT pl2) (by omega) fun j j1 j2 => ?_) _ _ _ _ (fin_bl I k (congrArg Bool.not (nil_end r1.length l2)))
  rw [List.size_toArray] at j2
  omega
/-- anything beside a text -/
def rEqXS : R2 := fun x y H Q => ∃ s, y = .str s ∧ ((scal x y = true ∧ Q (.bl (decide (x = y))) H) ∨ ∃ p xs, x = .ref p ∧ tpO (H p) = some xs ∧ Q (.bl false) H)
theorem op_eqXS {X : Cx} (hu : X.A.units + 64 < cLine) : OpR X (compareOp .Eq) rEqXS := by
  intro pins s σ H x y v u Q I rx ry h
  obtain ⟨t, rfl, ⟨h1, h2⟩ | ⟨p, xs, rfl, h1, h2⟩⟩ := h
  · exact op_eq pins s σ H x _ v u Q I rx ry ⟨h1, h2⟩
  · obtain rfl : v = Value.ref p := rx
    obtain ⟨tk, rfl⟩ := ry
    obtain ⟨its, r1, pl1, _⟩ := I.tuple (show SqT X.K H p xs from .inl (rd_tpO h1))
    exact (SeqAt.RcAt.tuple_str t tk (tup_isT pl1) (by omega)) _ _ _ _ (fin_bl I h2 rfl)
/-- lists of texts -/
def rEqSL : R2 := fun x y H Q => ∃ (p q : Addr) (xs ys : List Str), x = .ref p ∧ y = .ref q ∧ lsO (H p) = some (xs.map V.str) ∧ lsO (H q) = some (ys.map V.str) ∧ Q (.bl (decide (xs = ys))) H
theorem vals_str {xs : List Str} {its : List Value} (r : Vals (xs.map V.str) its) {j : Nat} (h1 : j < its.toArray.size) (h2 : j < xs.length) : ∃ t, its.toArray[j] = .str xs[j] t := by
  obtain ⟨u, hu, ru⟩ := r.get (i := j) (x := .str xs[j]) (by rw [List.getElem?_map, List.getElem?_eq_getElem h2]; rfl)
  obtain ⟨t, rfl⟩ := ru
  refine ⟨t, ?_⟩
  rw [List.getElem_toArray]
  have h3 : j < its.length := by simpa using h1
  rw [List.getElem?_eq_getElem h3] at hu
  exact Option.some.inj hu
theorem op_eqSL {X : Cx} (hu : X.A.units + 64 < cLine) : OpR X (compareOp .Eq) rEqSL := by
  intro pins s σ H x y v u Q I rx ry h
  obtain ⟨p, q, xs, ys, rfl, rfl, h1, h2, k⟩ := h
  obtain rfl : v = Value.ref p := rx
  obtain rfl : u = Value.ref q := ry
  obtain ⟨its, r1, pl1, _⟩ := I.list (show SqL X.K H p (xs.map V.str) from .inl (rd_lsO h1))
  obtain ⟨its2, r2, pl2, _⟩ := I.list (show SqL X.K H q (ys.map V.str) from .inl (rd_lsO h2))
  have l1 : xs.length = its.length := by simpa using r1.length
  have l2 : ys.length = its2.length := by simpa using r2.length
  have hu0 : X.A.units < cLine := by omega
  by_cases c : xs.length = ys.length
  · refine (SeqAt.RcAt.lists (e := fun j => xs.getD j Str.empty == ys.getD j Str.empty) pl1.isList pl2.isList (by rw [List.size_toArray, List.size_toArray]; omega) hu0 fun j j1 j2 => ?_) _ _ _ _ (fin_bl I k ?_)
    · have i1 : j < xs.length := by rw [List.size_toArray] at j1; omega
      have i2 : j < ys.length := by omega
      obtain ⟨t1, e1⟩ := vals_str r1 j1 i1
      obtain ⟨t2, e2⟩ := vals_str r2 j2 i2
      rw [e1, e2]
      have z := SeqAt.EqAt.str_str (A := X.A.in1) (s := s) xs[j] t1 ys[j] t2
      rw [show xs.getD j Str.empty = xs[j] by rw [List.getD_eq_getElem?_getD, List.getElem?_eq_getElem i1, Option.getD_some], show ys.getD j Str.empty = ys[j] by rw [List.getD_eq_getElem?_getD, List.getElem?_eq_getElem i2, Option.getD_some]]
      exact z
    · rw [List.size_toArray, ← l1, Bool.eq_iff_iff, decide_eq_true_iff, List.all_eq_true]
      constructor
      · rintro rfl j _
        exact beq_self_eq_true _
      · intro hall
        refine List.ext_getElem c fun j i1 i2 => ?_
        have z := hall j (List.mem_range.mpr i1)
        rw [show xs.getD j Str.empty = xs[j] by rw [List.getD_eq_getElem?_getD, List.getElem?_eq_getElem i1, Option.getD_some], show ys.getD j Str.empty = ys[j] by rw [List.getD_eq_getElem?_getD, List.getElem?_eq_getElem i2, Option.getD_some]] at z
        exact eq_of_beq z
  · exact (SeqAt.RcAt.lists_lengths pl1.isList pl2.isList (by rw [List.size_toArray, List.size_toArray]; simp; omega) hu0) _ _ _ _ (fin_bl I k (decide_eq_false fun z => c (congrArg List.length z)))
end G7

set_option linter.all false
set_option Elab.async false
set_option maxRecDepth 100000
set_option maxHeartbeats 4000000
/-! a text once or not at all: s * int(..) -/
namespace G7
open PySem PySem.Spec PyProof.Rows L2
def rMulS : R2 := fun x y H Q => ∃ (s : Str) (n : Int), x = .str s ∧ y = .int n ∧ (n = 0 ∨ n = 1) ∧ Q (.str (if n = 1 then s else Str.empty)) H
theorem op_mulS {X : Cx} : OpR X (binaryOp .Mult) rMulS := by
  intro pins s σ H x y v u Q I rx ry h
  obtain ⟨i, n, rfl, rfl, hn, q⟩ := h
  obtain ⟨t, rfl⟩ := rx
  obtain ⟨t', rfl⟩ := ry
  rcases hn with rfl | rfl
  · exact P.mul_str_none (by decide) (by decide) ⟨.str Str.empty, H, I.tok _, ⟨_, rfl⟩, q⟩
  · exact P.mul_str (by decide) (fun _ z => by simp at z) (fun _ z => by simp at z) ⟨.str i, H, I, ⟨_, rfl⟩, q⟩
end G7

set_option linter.all false
set_option Elab.async false
set_option maxRecDepth 100000
set_option maxHeartbeats 4000000
/-! trees looked up one by one -/
namespace Nm
open PySem PySem.Spec PyProof.Rows L2 G7
theorem nameL_app {S : Shp} {ts : List Str} : ∀ (a b : List Tr), nameL S ts (a ++ b) = match nameL S ts a with
    | .error w => .error w
    | .ok a' => match nameL S ts b with
      | .error w => .error w
      | .ok b' => .ok (a' ++ b')
  | [], b => by
    rw [List.nil_append]
    unfold nameL
    cases b with
    | nil => rfl
    | cons k ks =>
      dsimp only
      cases nameT S ts k with
      | error w => rfl
      | ok k' =>
        dsimp only
        cases nameL S ts ks <;> rfl
  | k :: a, b => by
    rw [List.cons_append]
    have ih := nameL_app (S := S) (ts := ts) a b
    rw [nameL, nameL, ih]
    cases nameT S ts k with
    | error w => rfl
    | ok k' =>
      dsimp only
      cases nameL S ts a with
      | error w => rfl
      | ok a' =>
        dsimp only
        cases nameL S ts b <;> rfl
theorem nameL_one {S : Shp} {ts : List Str} (k : Tr) : nameL S ts [k] = match nameT S ts k with
    | .error w => .error w
    | .ok k' => .ok [k'] := by
  rw [nameL]
  cases nameT S ts k <;> (try rw [nameL]) <;> rfl
/-- the first ones, looked up, as they lie -/
def NlAt (H : Hp) (S : Shp) (ts : List Str) (ys : List V) (l : List Tr) : Prop := ∃ l', nameL S ts l = .ok l' ∧ RXs H ys (l'.map Tr.dx) ∧ l'.length = l.length
theorem NlAt.nil {H : Hp} {S : Shp} {ts : List Str} : NlAt H S ts [] [] := ⟨[], by rw [nameL], rxs_nil, rfl⟩
theorem NlAt.std {H H' : Hp} {S : Shp} {ts : List Str} {ys : List V} {l : List Tr} (h : NlAt H S ts ys l) (k : Std H H') : NlAt H' S ts ys l := h.elim fun l' q => ⟨l', q.1, q.2.1.std k (noLL_all.mpr fun d hd => by
  obtain ⟨t, _, rfl⟩ := List.mem_map.mp hd
  exact trNoL t), q.2.2⟩
theorem NlAt.snoc {H : Hp} {S : Shp} {ts : List Str} {ys : List V} {l : List Tr} {k k' : Tr} {v : V} (h : NlAt H S ts ys l) (e : nameT S ts k = .ok k') (r : RX H v k'.dx) : NlAt H S ts (ys ++ [v]) (l ++ [k]) := h.elim fun l' q =>
  ⟨l' ++ [k'], by rw [nameL_app, q.1, nameL_one, e], by rw [List.map_append]; exact rxs_snoc q.2.1 r, by rw [List.length_append, List.length_append, q.2.2]; rfl⟩
theorem NlAt.err {H : Hp} {S : Shp} {ts : List Str} {ys : List V} {l r : List Tr} {k : Tr} {w : Str} (h : NlAt H S ts ys l) (e : nameT S ts k = .error w) : nameL S ts (l ++ k :: r) = .error w := h.elim fun l' q => by
  rw [nameL_app, q.1]
  dsimp only
  rw [nameL, e]
theorem NlAt.len {H : Hp} {S : Shp} {ts : List Str} {ys : List V} {l : List Tr} (h : NlAt H S ts ys l) : ys.length = l.length := h.elim fun l' q => by
  have := RXs.len q.2.1
  rw [List.length_map, q.2.2] at this
  exact this
theorem rx_tpO {H : Hp} {v : V} {ds : List Dx} (h : RX H v (.tup ds)) : ∃ a us, v = .ref a ∧ tpO (H a) = some us ∧ RXs H us ds := by
  simp only [RX] at h
  obtain ⟨a, us, rfl, z, r⟩ := h
  refine ⟨a, us, rfl, ?_, r⟩
  rcases z with z | ⟨o, z⟩ <;> rw [z] <;> rfl
end Nm
namespace Nm
open PySem PySem.Spec PyProof.Rows L2 G7
theorem rxs_un {H : Hp} {us : List V} {d : Dx} {ds : List Dx} (h : RXs H us (d :: ds)) : ∃ u us', us = u :: us' ∧ RX H u d ∧ RXs H us' ds := by
  cases us with
  | nil => simp only [RXs] at h
  | cons u us' =>
    simp only [RXs] at h
    exact ⟨u, us', rfl, h⟩
theorem rxs_no {H : Hp} {us : List V} (h : RXs H us []) : us = [] := by
  cases us with
  | nil => rfl
  | cons u us' => simp only [RXs] at h
theorem rx_s {H : Hp} {u : V} {s : Str} (h : RX H u (.str s)) : u = .str s := by simpa only [RX] using h
theorem rx_i {H : Hp} {u : V} {s : Int} (h : RX H u (.int s)) : u = .int s := by simpa only [RX] using h
end Nm
namespace Nm
open PySem PySem.Spec PyProof.Rows L2 G7
theorem nameO_fld {S : Shp} {ts : List Str} {t f : Str} : nameO S ts (some (.fld t f)) = match nameF S ts t f with
    | .ok o => .ok (some (.fld o f))
    | .error w => .error w := by
  simp only [nameO]
  rw [nameT]
  cases nameF S ts t f <;> rfl
theorem nameO_node {S : Shp} {ts : List Str} {w : Str} {ks : List Tr} : nameO S ts (some (.node w ks)) = match nameL S ts ks with
    | .ok ks' => .ok (some (.node w ks'))
    | .error w => .error w := by
  simp only [nameO]
  rw [nameT]
  cases nameL S ts ks <;> rfl
theorem nameO_some {S : Shp} {ts : List Str} {t : Tr} : nameO S ts (some t) = match nameT S ts t with
    | .ok t' => .ok (some t')
    | .error w => .error w := rfl
end Nm
namespace Nm
open PySem PySem.Spec PyProof.Rows L2 G7
theorem node_deep {w : Str} {ks : List Tr} : (dxO (some (.node w ks))).deep = Dx.deepL (Tr.dxL ks) + 1 := by
  show (Dx.tup (.str w :: Tr.dxL ks)).deep = _
  simp [Dx.deep, Dx.deepL]
end Nm
namespace Nm
open PySem PySem.Spec PyProof.Rows L2 G7
theorem rx_of_tpO {H : Hp} {a : Addr} {us : List V} {ds : List Dx} (h : tpO (H a) = some us) (r : RXs H us ds) : RX H (.ref a) (.tup ds) := by
  cases e : H a with
  | none => rw [e] at h; cases h
  | some o =>
    rw [e] at h
    cases o with
    | tup xs =>
      have h : some xs = some us := h
      cases h
      exact rx_tup e r
    | frz o' u =>
      cases u with
      | tup xs =>
        have h : some xs = some us := h
        cases h
        exact rx_tupF e r
      | _ => cases h
    | _ => cases h
end Nm
namespace Nm
open PySem PySem.Spec PyProof.Rows L2 G7
theorem nameS_app {S : Shp} {t : Str} : ∀ (a b : List (Str × Tr)) (early : List Str), nameS S t early (a ++ b) = match nameS S t early a with
    | .error w => .error w
    | .ok a' => match nameS S t (early ++ a.map (·.1)) b with
      | .error w => .error w
      | .ok b' => .ok (a' ++ b')
  | [], b, early => by
    rw [List.nil_append, List.map_nil, List.append_nil, nameS]
    cases nameS S t early b <;> rfl
  | (f, tm) :: a, b, early => by
    have ih := nameS_app (S := S) (t := t) a b (early ++ [f])
    rw [List.cons_append, nameS, nameS]
    by_cases q : f ∉ (flds S t).tail ∨ f ∈ early
    · rw [if_pos q, if_pos q]
    · rw [if_neg q, if_neg q]
      cases nameT S [t] tm with
      | error w => rfl
      | ok tm' =>
        dsimp only
        rw [ih, List.map_cons, List.append_assoc, List.singleton_append]
        cases nameS S t (early ++ [f]) a with
        | error w => rfl
        | ok a' =>
          dsimp only
          cases nameS S t (early ++ f :: a.map (·.1)) b <;> rfl
/-- the first sets, looked up, as they lie -/
def NsAt (H : Hp) (S : Shp) (t : Str) (ys : List V) (l : List (Str × Tr)) : Prop := ∃ l', nameS S t [] l = .ok l' ∧ RXs H ys (l'.map dxP) ∧ l'.map (·.1) = l.map (·.1)
theorem NsAt.nil {H : Hp} {S : Shp} {t : Str} : NsAt H S t [] [] := ⟨[], by rw [nameS], rxs_nil, rfl⟩
theorem NsAt.std {H H' : Hp} {S : Shp} {t : Str} {ys : List V} {l : List (Str × Tr)} (h : NsAt H S t ys l) (k : Std H H') : NsAt H' S t ys l := h.elim fun l' q => ⟨l', q.1, q.2.1.std k (noLL_all.mpr fun d hd => by
  obtain ⟨s, _, rfl⟩ := List.mem_map.mp hd
  exact ⟨trivial, trNoL s.2, trivial⟩), q.2.2⟩
theorem NsAt.len {H : Hp} {S : Shp} {t : Str} {ys : List V} {l : List (Str × Tr)} (h : NsAt H S t ys l) : ys.length = l.length := h.elim fun l' q => by
  have e1 := RXs.len q.2.1
  have e2 := congrArg List.length q.2.2
  rw [List.length_map] at e1
  rw [List.length_map, List.length_map] at e2
  omega
theorem NsAt.bad {H : Hp} {S : Shp} {t : Str} {ys : List V} {l r : List (Str × Tr)} {f : Str} {tm : Tr} (h : NsAt H S t ys l) (q : f ∉ (flds S t).tail ∨ f ∈ l.map (·.1)) : nameS S t [] (l ++ (f, tm) :: r) = .error f := h.elim fun l' k => by
  rw [nameS_app, k.1]
  dsimp only
  rw [List.nil_append, nameS, if_pos q]
theorem NsAt.err {H : Hp} {S : Shp} {t : Str} {ys : List V} {l r : List (Str × Tr)} {f w : Str} {tm : Tr} (h : NsAt H S t ys l) (q : ¬ (f ∉ (flds S t).tail ∨ f ∈ l.map (·.1))) (e : nameT S [t] tm = .error w) : nameS S t [] (l ++ (f, tm) :: r) = .error w := h.elim fun l' k => by
  rw [nameS_app, k.1]
  dsimp only
  rw [List.nil_append, nameS, if_neg q, e]
theorem NsAt.snoc {H : Hp} {S : Shp} {t : Str} {ys : List V} {l : List (Str × Tr)} {f : Str} {tm tm' : Tr} {p : Addr} {v : V} (h : NsAt H S t ys l) (q : ¬ (f ∉ (flds S t).tail ∨ f ∈ l.map (·.1))) (e : nameT S [t] tm = .ok tm') (hp : H p = some (.tup [.str f, v])) (r : RX H v tm'.dx) :
    NsAt H S t (ys ++ [.ref p]) (l ++ [(f, tm)]) := h.elim fun l' k => ⟨l' ++ [(f, tm')], by
  rw [nameS_app, k.1]
  dsimp only
  rw [List.nil_append, nameS, if_neg q, e]
  dsimp only
  rw [nameS], by rw [List.map_append]; exact rxs_snoc k.2.1 (rx_tup hp (rxs_cons (rx_str _) (rxs_cons r rxs_nil))), by rw [List.map_append, List.map_append, k.2.2]; rfl⟩
end Nm

set_option linter.all false
set_option Elab.async false
set_option maxRecDepth 100000
set_option maxHeartbeats 4000000
/-! bounds of statements bent, and of such whose fields lack their tables -/
namespace Nm
open PySem PySem.Spec PyProof.Rows L2 G7
/-- a statement within bounds, its fields perhaps without their tables -/
structure SmW (st : Sm) : Prop where
  wk : st.wk
  nz : st.nz
  deep : st.dx.deep ≤ 8
  fits : st.dx.fits 8
theorem SmOk.w {st : Sm} (h : SmOk st) : SmW st := ⟨h.wk, h.nz, h.deep, h.fits⟩
theorem deepL_set {n : Nat} {x : Dx} (hx : x.deep ≤ n) : ∀ {ds : List Dx} {i : Nat}, Dx.deepL ds ≤ n → Dx.deepL (ds.set i x) ≤ n
  | [], _, h => h
  | d :: ds, 0, h => by
    unfold Dx.deepL at h
    rw [List.set_cons_zero]
    unfold Dx.deepL
    omega
  | d :: ds, i + 1, h => by
    unfold Dx.deepL at h
    rw [List.set_cons_succ]
    unfold Dx.deepL
    have := deepL_set hx (ds := ds) (i := i) (by omega)
    omega
theorem fitsL_set {m : Nat} {x : Dx} (hx : x.fits m) : ∀ {ds : List Dx} {i : Nat}, Dx.fitsL m ds → Dx.fitsL m (ds.set i x)
  | [], _, h => h
  | d :: ds, 0, h => by
    rw [List.set_cons_zero]
    exact ⟨hx, h.2⟩
  | d :: ds, i + 1, h => by
    rw [List.set_cons_succ]
    exact ⟨h.1, fitsL_set hx h.2⟩
/-- a word put at a name's place: no deeper, no wider -/
theorem put_ok {w : Str} {m : Nat} : ∀ (n : Nat) (d : Dx), d.deep ≤ n → d.fits m → ∀ p ∈ leavesD d, (putD p d w).deep ≤ n ∧ (putD p d w).fits m
  | n, .non, _, _, p, hp => by simp [leavesD] at hp
  | n, .bl _, _, _, p, hp => by simp [leavesD] at hp
  | n, .int _, _, _, p, hp => by simp [leavesD] at hp
  | n, .lst _, _, _, p, hp => by simp [leavesD] at hp
  | n, .str s, _, _, p, hp => by
    obtain rfl := leaves_str hp
    exact ⟨d_str w n, trivial⟩
  | 0, .tup ds, h, _, p, hp => by unfold Dx.deep at h; omega
  | n + 1, .tup ds, h, f, p, hp => by
    obtain ⟨i, q, d, rfl, _, hd, hq⟩ := leaves_tup hp
    unfold Dx.deep at h
    unfold Dx.fits at f
    have hdd := Dx.deepL_at hd
    obtain ⟨a, b⟩ := put_ok n d (by omega) (Dx.fitsL_at f.2 hd) q hq
    rw [put_at hd]
    unfold Dx.deep Dx.fits
    have z := deepL_set (i := i) a (show Dx.deepL ds ≤ n by omega)
    exact ⟨by omega, by rw [List.length_set]; exact f.1, fitsL_set b f.2⟩
/-- the first word stays where a name is exchanged -/
theorem put_head {s w : Str} {ds : List Dx} {p : List Nat} (hb : 1 ≤ begD (.str s :: ds)) (hp : p ∈ leavesD (.tup (.str s :: ds))) : ∃ ds', putD p (.tup (.str s :: ds)) w = .tup (.str s :: ds') := by
  obtain ⟨i, q, d, rfl, h, hd, hq⟩ := leaves_tup hp
  rw [put_at hd]
  match i, h with
  | 0, h => omega
  | i + 1, _ => exact ⟨_, by rw [List.set_cons_succ]⟩
theorem bent_full {w : Str} {st st' : Sm} (ha : ∀ x, st ≠ .alone x) (hf : st.full) (ow : PyData.strOk w = true) {p : List Nat} (hp : p ∈ leavesD st.dx) (e : putD p st.dx w = st'.dx) : ∀ t f, st' = .index t f → PyData.strOk t = true ∧ PyData.strOk f = true := by
  rintro t f rfl
  have no : ∀ {s : Str} {ds : List Dx}, st.dx = .tup (.str s :: ds) → 1 ≤ begD (.str s :: ds) → s ≠ "index" → False := fun {s ds} ed hb n => by
    rw [ed] at hp e
    obtain ⟨ds', e2⟩ := put_head (w := w) hb hp
    rw [e2] at e
    cases e
    exact n rfl
  cases st with
  | alone x => exact absurd rfl (ha x)
  | table t0 fs => exact (no rfl (Nat.le_refl 1) (by decide +kernel)).elim
  | put t0 ns => exact (no rfl (Nat.le_refl 1) (by decide +kernel)).elim
  | set t0 ss c => exact (no rfl (Nat.le_refl 1) (by decide +kernel)).elim
  | strike t0 c => exact (no rfl (Nat.le_refl 1) (by decide +kernel)).elim
  | ask how tm ts c bys first => exact (no rfl (show (1 : Nat) ≤ 2 by decide) (by decide +kernel)).elim
  | index t0 f0 =>
    obtain ⟨i, q, d, rfl, hb, hd, hq⟩ := leaves_tup hp
    have hb : 1 ≤ i := hb
    match i, hb with
    | 1, _ =>
      cases hd
      obtain rfl := leaves_str hq
      have e : putD [1] (.tup [.str "index", .str t0, .str f0]) w = _ := e
      rw [put_at (d := .str t0) rfl] at e
      cases e
      exact ⟨ow, hf.2⟩
    | 2, _ =>
      cases hd
      obtain rfl := leaves_str hq
      have e : putD [2] (.tup [.str "index", .str t0, .str f0]) w = _ := e
      rw [put_at (d := .str f0) rfl] at e
      cases e
      exact ⟨hf.1, ow⟩
    | i + 3, _ => simp at hd
/-! fields without their tables: the same bounds -/
mutual
theorem br_ok {S : Shp} {ts : List Str} {m : Nat} : ∀ (t b : Tr), Br S ts t b → (t.wk → b.wk) ∧ (t.nz → b.nz) ∧ b.dx.deep = t.dx.deep ∧ (t.dx.fits m → b.dx.fits m)
  | .num n, b, h => by
    unfold Br at h
    subst h
    exact ⟨id, id, rfl, id⟩
  | .fld t f, b, h => by
    unfold Br at h
    rcases h with rfl | ⟨rfl, _⟩
    · exact ⟨id, id, rfl, id⟩
    · refine ⟨id, id, ?_, ?_⟩
      · unfold Tr.dx
        simp [Dx.deep, Dx.deepL]
      · unfold Tr.dx
        simp [Dx.fits, Dx.fitsL]
  | .node w ks, b, h => by
    unfold Br at h
    obtain ⟨ks', rfl, hl⟩ := h
    obtain ⟨h1, h2, h3, h4, h5⟩ := brL_ok (m := m) ks ks' hl
    refine ⟨fun z => ⟨z.1, h1 z.2⟩, h2, ?_, ?_⟩
    · unfold Tr.dx Dx.deep Dx.deepL
      rw [h3]
    · unfold Tr.dx Dx.fits Dx.fitsL
      rintro ⟨z1, z2, z3⟩
      exact ⟨by rw [List.length_cons, h5] ; exact z1, z2, h4 z3⟩
theorem brL_ok {S : Shp} {ts : List Str} {m : Nat} : ∀ (ks b : List Tr), BrL S ts ks b → (Tr.wkL ks → Tr.wkL b) ∧ (Tr.nzL ks → Tr.nzL b) ∧ Dx.deepL (Tr.dxL b) = Dx.deepL (Tr.dxL ks) ∧ (Dx.fitsL m (Tr.dxL ks) → Dx.fitsL m (Tr.dxL b)) ∧ (Tr.dxL b).length = (Tr.dxL ks).length
  | [], b, h => by
    unfold BrL at h
    subst h
    exact ⟨id, id, rfl, id, rfl⟩
  | k :: ks, b, h => by
    unfold BrL at h
    obtain ⟨k', ks', rfl, h1, h2⟩ := h
    obtain ⟨a1, a2, a3, a4⟩ := br_ok (m := m) k k' h1
    obtain ⟨b1, b2, b3, b4, b5⟩ := brL_ok (m := m) ks ks' h2
    refine ⟨fun z => ⟨a1 z.1, b1 z.2⟩, fun z => ⟨a2 z.1, b2 z.2⟩, ?_, ?_, ?_⟩
    · unfold Tr.dxL Dx.deepL
      rw [a3, b3]
    · unfold Tr.dxL Dx.fitsL
      rintro ⟨z1, z2⟩
      exact ⟨a4 z1, b4 z2⟩
    · unfold Tr.dxL
      rw [List.length_cons, List.length_cons, b5]
end
theorem brL_len {S : Shp} {ts : List Str} {ks b : List Tr} (h : BrL S ts ks b) : b.length = ks.length := by
  have := (brL_ok (m := 0) ks b h).2.2.2.2
  rw [dxL_map, dxL_map, List.length_map, List.length_map] at this
  exact this
theorem brL_snoc {S : Shp} {ts : List Str} {k k' : Tr} (hk : Br S ts k k') : ∀ {ks b : List Tr}, BrL S ts ks b → BrL S ts (ks ++ [k]) (b ++ [k'])
  | [], b, h => by
    unfold BrL at h
    subst h
    rw [List.nil_append, List.nil_append]
    unfold BrL
    exact ⟨k', [], rfl, hk, by unfold BrL; rfl⟩
  | x :: ks, b, h => by
    unfold BrL at h
    obtain ⟨x', ks', rfl, h1, h2⟩ := h
    rw [List.cons_append, List.cons_append]
    unfold BrL
    exact ⟨x', _, rfl, h1, brL_snoc hk h2⟩
theorem brO_ok {S : Shp} {ts : List Str} {m : Nat} {c b : Option Tr} (h : BrO S ts c b) : ((∀ t, c = some t → t.wk) → ∀ t, b = some t → t.wk) ∧ (nzO c → nzO b) ∧ (dxO b).deep = (dxO c).deep ∧ ((dxO c).fits m → (dxO b).fits m) := by
  cases c with
  | none =>
    have h : b = none := h
    subst h
    exact ⟨id, id, rfl, id⟩
  | some t =>
    obtain ⟨t', rfl, ht⟩ := h
    obtain ⟨a1, a2, a3, a4⟩ := br_ok (m := m) t t' ht
    exact ⟨fun z x hx => by cases hx; exact a1 (z t rfl), a2, a3, a4⟩
theorem brS_ok {S : Shp} {st b : Sm} (h : BrS S st b) (w : SmW st) : SmW b := by
  cases st with
  | ask how tm ts c bys first =>
    obtain ⟨tm', c', bys', rfl, h1, h2, h3⟩ := h
    obtain ⟨⟨k1, k2, k3⟩, ⟨n1, n2, n3, n4⟩, dp, ft⟩ := w
    obtain ⟨a1, a2, a3, a4, a5⟩ := brL_ok (m := 8) tm tm' h1
    obtain ⟨b1, b2, b3, b4⟩ := brO_ok (m := 8) h2
    obtain ⟨c1, c2, c3, c4, c5⟩ := brL_ok (m := 8) bys bys' h3
    refine ⟨⟨wkL_all.mp (a1 (wkL_all.mpr k1)), b1 k2, wkL_all.mp (c1 (wkL_all.mpr k3))⟩, ⟨a2 n1, n2, b2 n3, c2 n4⟩, ?_, ?_⟩
    · simp only [Sm.dx, ← dxL_map, Dx.deep, Dx.deepL] at dp ⊢
      rw [a3, b3, c3]
      exact dp
    · simp only [Sm.dx, ← dxL_map, Dx.fits, Dx.fitsL] at ft ⊢
      obtain ⟨f1, f2, f3, f4, f5, f6, f7, f8⟩ := ft
      exact ⟨f1, f2, f3, ⟨by rw [a5]; exact f4.1, a4 f4.2⟩, f5, b4 f6, ⟨by rw [c5]; exact f7.1, c4 f7.2⟩, f8⟩
  | alone w0 => have h : b = _ := h; subst h; exact w
  | table t fs => have h : b = _ := h; subst h; exact w
  | index t f => have h : b = _ := h; subst h; exact w
  | put t ns => have h : b = _ := h; subst h; exact w
  | set t ss c => have h : b = _ := h; subst h; exact w
  | strike t c => have h : b = _ := h; subst h; exact w
mutual
theorem fits_mono {m n : Nat} (h : m ≤ n) : ∀ d : Dx, d.fits m → d.fits n
  | .tup ds, f => by unfold Dx.fits at f ⊢; exact ⟨Nat.le_trans f.1 h, fitsL_mono h ds f.2⟩
  | .lst ds, f => by unfold Dx.fits at f ⊢; exact ⟨Nat.le_trans f.1 h, fitsL_mono h ds f.2⟩
  | .non, _ => trivial
  | .bl _, _ => trivial
  | .int _, _ => trivial
  | .str _, _ => trivial
theorem fitsL_mono {m n : Nat} (h : m ≤ n) : ∀ ds : List Dx, Dx.fitsL m ds → Dx.fitsL n ds
  | [], _ => trivial
  | d :: ds, f => ⟨fits_mono h d f.1, fitsL_mono h ds f.2⟩
end
theorem rxs_strs {H : Hp} : ∀ {ws : List V} {fs : List Str}, RXs H ws (fs.map Dx.str) → ws = fs.map V.str
  | ws, [], h => rxs_no h
  | ws, f :: r, h => by
    obtain ⟨x, xs, rfl, hx, rr⟩ := rxs_un h
    rw [rx_s hx, rxs_strs rr]
    rfl
theorem badTab_one {S : Shp} {t : Str} : badTab S [] [t] = if t ∉ tabs S then some t else none := by
  show (if t ∉ tabs S ∨ t ∈ [] then some t else none) = _
  by_cases c : t ∉ tabs S
  · rw [if_pos c, if_pos (.inl c)]
  · rw [if_neg c, if_neg (fun z => z.elim c (by simp))]
theorem badTab_none {S : Shp} : ∀ {ts early : List Str}, badTab S early ts = none → ∀ t ∈ ts, t ∈ tabs S
  | [], _, _, t, ht => by cases ht
  | a :: ts, early, h, t, ht => by
    unfold badTab at h
    by_cases c : a ∉ tabs S ∨ a ∈ early
    · rw [if_pos c] at h; cases h
    · rw [if_neg c] at h
      rcases List.mem_cons.mp ht with rfl | ht
      · exact Classical.not_not.mp fun z => c (.inl z)
      · exact badTab_none h t ht
end Nm
namespace Nm
open PySem PySem.Spec PyProof.Rows L2 G7
def Sm.ts : Sm → List Str
  | .alone _ => []
  | .table t _ => [t]
  | .index t _ => [t]
  | .put t _ => [t]
  | .set t _ _ => [t]
  | .strike t _ => [t]
  | .ask _ _ ts _ _ _ => ts
def Sm.wd : Sm → Str
  | .alone w => w
  | .table _ _ => Str.ofString "table"
  | .index _ _ => Str.ofString "index"
  | .put _ _ => Str.ofString "put"
  | .set _ _ _ => Str.ofString "set"
  | .strike _ _ => Str.ofString "strike"
  | .ask _ _ _ _ _ _ => Str.ofString "ask"
def Sm.t1 : Sm → Str
  | .alone w => w
  | .table t _ => t
  | .index t _ => t
  | .put t _ => t
  | .set t _ _ => t
  | .strike t _ => t
  | .ask how _ _ _ _ _ => how
theorem sm_two (st : Sm) (h : ∀ x, st ≠ .alone x) : ∃ ds, st.dx = .tup (.str st.wd :: .str st.t1 :: ds) := by
  cases st with
  | alone x => exact absurd rfl (h x)
  | _ => exact ⟨_, rfl⟩
theorem due_bad {S : Shp} {ix : List (Str × Str)} {st : Sm} (h : ∀ x, st ≠ .alone x) (h2 : ∀ t fs, st ≠ .table t fs) {t : Str} (e : badTab S [] st.ts = some t) : due S ix st = t := by
  have one : ∀ {t0 : Str}, badTab S [] [t0] = some t → t0 ∉ tabs S ∧ t0 = t := fun {t0} z => by
    rw [badTab_one] at z
    by_cases c : t0 ∉ tabs S
    · rw [if_pos c] at z
      exact ⟨c, Option.some.inj z⟩
    · rw [if_neg c] at z
      cases z
  cases st with
  | alone x => exact absurd rfl (h x)
  | table t fs => exact absurd rfl (h2 t fs)
  | ask how tm ts c bys first =>
    have e : badTab S [] ts = some t := e
    simp only [due]
    rw [e]
  | _ =>
    obtain ⟨a, rfl⟩ := one e
    simp only [due]
    rw [if_pos a]
theorem tab_ok {S : Shp} {t : Str} (e : badTab S [] [t] = none) : ¬ t ∉ tabs S := by
  rw [badTab_one] at e
  intro c
  rw [if_pos c] at e
  cases e
/-- doubled ones, by their places -/
theorem twice_at : ∀ (fs early : List Str), twice early fs = (((List.range fs.length).filter fun k => decide (fs.getD k Str.empty ∈ early ++ fs.take k)).map fun k => fs.getD k Str.empty).head?
  | [], early => rfl
  | f :: fs, early => by
    unfold twice
    rw [List.length_cons, List.range_succ_eq_map, List.filter_cons]
    have z : decide ((f :: fs).getD 0 Str.empty ∈ early ++ (f :: fs).take 0) = decide (f ∈ early) := by
      rw [List.take_zero, List.append_nil]
      rfl
    rw [z]
    by_cases c : f ∈ early
    · rw [if_pos c, if_pos (decide_eq_true c)]
      rfl
    · rw [if_neg c, if_neg (by simpa using c), twice_at fs (early ++ [f]), List.filter_map, List.map_map]
      congr 1
      have e : ((fun k => decide ((f :: fs).getD k Str.empty ∈ early ++ (f :: fs).take k)) ∘ Nat.succ) = fun k => decide (fs.getD k Str.empty ∈ early ++ [f] ++ fs.take k) := by
        funext k
        show decide ((f :: fs).getD (k + 1) Str.empty ∈ early ++ (f :: fs).take (k + 1)) = _
        rw [List.getD_cons_succ, List.take_succ_cons, List.append_assoc]
        rfl
      rw [e]
      rfl
end Nm
namespace Nm
open PySem PySem.Spec PyProof.Rows L2 G7
theorem setW_snoc {S : Shp} {t f : Str} {tm : Tr} : ∀ (l : List (Str × Tr)) (early : List Str), setW S t early (l ++ [(f, tm)]) = setW S t early l ++ [if f ∉ (flds S t).tail ∨ f ∈ early ++ l.map (·.1) then f else "", firstT S [t] tm]
  | [], early => by
    rw [List.nil_append, List.map_nil, List.append_nil, setW, setW, setW]
    rfl
  | (f0, tm0) :: l, early => by
    rw [List.cons_append, setW, setW, setW_snoc l (early ++ [f0]), List.map_cons, List.append_assoc]
    rfl
theorem setW_len {S : Shp} {t : Str} : ∀ (l : List (Str × Tr)) (early : List Str), (setW S t early l).length = 2 * l.length
  | [], early => by rw [setW]; rfl
  | (f0, tm0) :: l, early => by
    rw [setW, List.length_cons, List.length_cons, setW_len l, List.length_cons]
    omega
end Nm

set_option linter.all false
set_option Elab.async false
set_option maxRecDepth 100000
set_option maxHeartbeats 4000000
/-! data stands where tables of code objects alone may grow -/
namespace G7
open PySem PySem.Spec PyProof.Rows L2 LamX
/-- all that is neither list nor table stands -/
def Stn (H H' : Hp) : Prop := ∀ a o, H a = some o → (∀ xs, o ≠ .lst xs) → (∀ ps, o ≠ .tbl ps) → H' a = some o
theorem Stn.ofSame {H H' : Hp} (k : Same H H') : Stn H H' := fun a o h _ _ => k a o h
theorem Stn.ofStd {H H' : Hp} (k : Std H H') : Stn H H' := fun a o h n _ => k a o h n
theorem Stn.ofExt {H H' : Hp} (k : ExtN H H') : Stn H H' := fun a o h _ n => k a o h n
theorem Stn.trans {H H1 H2 : Hp} (a : Stn H H1) (b : Stn H1 H2) : Stn H H2 := fun c o h n m => b c o (a c o h n m) n m
mutual
theorem RX.stn {H H' : Hp} (k : Stn H H') : ∀ {d : Dx} {v : V}, d.noL → RX H v d → RX H' v d
  | .non, _, _, h => by simpa only [RX] using h
  | .bl _, _, _, h => by simpa only [RX] using h
  | .int _, _, _, h => by simpa only [RX] using h
  | .str _, _, _, h => by simpa only [RX] using h
  | .tup ds, v, n, h => by
    simp only [RX] at h ⊢
    obtain ⟨a, us, e, z, r⟩ := h
    refine ⟨a, us, e, ?_, RXs.stn k n r⟩
    rcases z with z | ⟨o, z⟩
    · exact .inl (k a _ z (by intro xs q; cases q) (by intro xs q; cases q))
    · exact .inr ⟨o, k a _ z (by intro xs q; cases q) (by intro xs q; cases q)⟩
  | .lst ds, v, n, h => n.elim
theorem RXs.stn {H H' : Hp} (k : Stn H H') : ∀ {ds : List Dx} {us : List V}, Dx.noLL ds → RXs H us ds → RXs H' us ds
  | [], [], _, h => by simp only [RXs]
  | d :: ds, u :: us, n, h => by
    simp only [RXs] at h ⊢
    exact ⟨RX.stn k n.1 h.1, RXs.stn k n.2 h.2⟩
  | [], u :: us, _, h => by simp only [RXs] at h
  | d :: ds, [], _, h => by simp only [RXs] at h
end
theorem tpO_stn {H H' : Hp} {a : Addr} {xs : List V} (h : tpO (H a) = some xs) (k : Stn H H') : tpO (H' a) = some xs := by
  cases e : H a with
  | none => rw [e] at h; cases h
  | some o =>
    rw [k a o e (fun ps z => by rw [e, z] at h; cases h) (fun ps z => by rw [e, z] at h; cases h), ← e]
    exact h
/-- the indexes' tuple -/
structure FxS (H : Hp) (a : Addr) (ps : List Fd) : Prop where
  at_ : tpO (H a) = some (ps.map fun e => V.ref e.1)
  tups : ∀ e ∈ ps, H e.1 = some (.tup [.str e.2.1, .str e.2.2])
  oks : ∀ e ∈ ps, PyData.strOk e.2.1 = true ∧ PyData.strOk e.2.2 = true
theorem FxS.fx {H : Hp} {a : Addr} {ps : List Fd} (R : FxS H a ps) : FxAt H a ps := ⟨.inr R.at_, R.tups, R.oks⟩
theorem FxS.stn {H H' : Hp} {a : Addr} {ps : List Fd} (R : FxS H a ps) (k : Stn H H') : FxS H' a ps := ⟨tpO_stn R.at_ k, fun e he => k _ _ (R.tups e he) (by intro xs q; cases q) (by intro xs q; cases q), R.oks⟩
mutual
theorem RX.extN {H H' : Hp} (k : ExtN H H') : ∀ {d : Dx} {v : V}, RX H v d → RX H' v d
  | .non, _, h => by simpa only [RX] using h
  | .bl _, _, h => by simpa only [RX] using h
  | .int _, _, h => by simpa only [RX] using h
  | .str _, _, h => by simpa only [RX] using h
  | .tup ds, v, h => by
    simp only [RX] at h ⊢
    obtain ⟨a, us, e, z, r⟩ := h
    refine ⟨a, us, e, ?_, RXs.extN k r⟩
    rcases z with z | ⟨o, z⟩
    · exact .inl (k a _ z (by intro xs q; cases q))
    · exact .inr ⟨o, k a _ z (by intro xs q; cases q)⟩
  | .lst ds, v, h => by
    simp only [RX] at h ⊢
    obtain ⟨a, us, e, z, r⟩ := h
    exact ⟨a, us, e, k a _ z (by intro xs q; cases q), RXs.extN k r⟩
theorem RXs.extN {H H' : Hp} (k : ExtN H H') : ∀ {ds : List Dx} {us : List V}, RXs H us ds → RXs H' us ds
  | [], [], h => by simp only [RXs]
  | d :: ds, u :: us, h => by
    simp only [RXs] at h ⊢
    exact ⟨RX.extN k h.1, RXs.extN k h.2⟩
  | [], u :: us, h => by simp only [RXs] at h
  | d :: ds, [], h => by simp only [RXs] at h
end
theorem tpO_ext {H H' : Hp} {a : Addr} {xs : List V} (h : tpO (H a) = some xs) (k : ExtN H H') : tpO (H' a) = some xs := by
  cases e : H a with
  | none => rw [e] at h; cases h
  | some o =>
    rw [k a o e (fun ps z => by rw [e, z] at h; cases h), ← e]
    exact h
theorem lsO_ext {H H' : Hp} {a : Addr} {xs : List V} (h : lsO (H a) = some xs) (k : ExtN H H') : lsO (H' a) = some xs := by
  cases e : H a with
  | none => rw [e] at h; cases h
  | some o =>
    rw [k a o e (fun ps z => by rw [e, z] at h; cases h), ← e]
    exact h
theorem FxAt.extN {H H' : Hp} {a : Addr} {ps : List Fd} (R : FxAt H a ps) (k : ExtN H H') : FxAt H' a ps :=
  ⟨R.at_.elim (fun h => .inl (lsO_ext h k)) (fun h => .inr (tpO_ext h k)), fun e he => k _ _ (R.tups e he) (by intro ps q; cases q), R.oks⟩
theorem BoxB.extN {H H' : Hp} {h l : Addr} (B : BoxB H h l) (k : ExtN H H') : BoxB H' h l := by
  obtain ⟨m, ns, p, b1, b2, b3⟩ := B
  exact ⟨m, ns, p, k _ _ b1 (by intro ps q; cases q), k _ _ b2 (by intro ps q; cases q), b3⟩
end G7

set_option linter.all false
set_option Elab.async false
set_option maxRecDepth 100000
set_option maxHeartbeats 4000000
/-! defs handed lambdas, called under a comprehension -/
namespace Lm
open PySem PySem.Spec PyProof.Rows L2 LamX
open Classical in
theorem extB_exC {X : Cx} {pins : List (Addr × Obj)} {σ : L2.St} {H : Hp} {s : Shared} (I : Inv X pins σ H s) (hcf : ∀ x c, X.env.cells.lookup x = some c → c ∉ X.fs) : ∃ B, ExtB X H s B := by
  let q : Addr → Bool := fun b => decide ((∃ o, X.base.get? b = some o) ∨ ∃ x, X.env.cells.lookup x = some b)
  let l := (List.range s.heap.objs.size).filter fun b => !q b
  have nl : ∀ b, q b = true → b ∉ l := fun b hb hm => by
    have z := (List.mem_filter.mp hm).2
    rw [hb] at z
    cases z
  have yl : ∀ b, b < s.heap.objs.size → q b = false → b ∈ l := fun b h1 h2 => List.mem_filter.mpr ⟨List.mem_range.mpr h1, by rw [h2]; rfl⟩
  have get : ∀ b o, s.heap.get? b = some o → q b = true → (PySem.W.hideAll s.heap l).get? b = some o := fun b o e hb => PySem.W.hideAll_get _ e (nl b hb)
  have of_ : ∀ b o, (PySem.W.hideAll s.heap l).get? b = some o → s.heap.get? b = some o ∧ q b = true := fun b o e => by
    have e2 := PySem.W.of_hideAll _ e
    refine ⟨e2, ?_⟩
    cases hq : q b with
    | true => rfl
    | false =>
      rw [PySem.W.hideAll_none _ (yl b (Heap.lt_size e2) hq)] at e
      cases e
  have bk : ∀ b o, X.base.get? b = some o → s.heap.get? b = some o ∧ H b = none := I.bs
  refine ⟨PySem.W.hideAll s.heap l, Nat.le_of_eq (PySem.W.hideAll_size _ _), fun b o e => ?_, fun b o e => get b o (bk b o e).1 (decide_eq_true (.inl ⟨o, e⟩)), fun x c o e1 e2 => get c o e2 (decide_eq_true (.inr ⟨x, e1⟩)), funFrames_none I.stack fun b hb => ?_⟩
  · obtain ⟨e2, hq⟩ := of_ b o e
    refine ⟨e2, ?_⟩
    rcases of_decide_eq_true hq with ⟨o', z⟩ | ⟨x, z⟩
    · exact (bk b o' z).2
    · exact I.freeC x b z
  · cases e : (PySem.W.hideAll s.heap l).get? b with
    | none => rfl
    | some o =>
      obtain ⟨e2, hq⟩ := of_ b o e
      rcases of_decide_eq_true hq with ⟨o', z⟩ | ⟨x, z⟩
      · obtain ⟨z2, _⟩ := I.stack.mem hb
        rw [z] at z2
        cases z2
      · rcases List.mem_cons.mp (I.stkSub b hb) with z2 | z2
        · exact absurd z2 (I.cne x b z)
        · exact absurd z2 (hcf x b z)
section
variable {X : Cx} {k : Nat} {f : Addr} {fd : FuncData} {ps : List Str} {sp : Heap → Sp} {dvs : List V} {ds : List Value} {x : Str} {p pos : Pos} {e : Expr} {es : List Expr} {t : TA}
theorem pe_callZC (hcf : ∀ x c, X.env.cells.lookup x = some c → c ∉ X.fs) (F : ∀ B, FnOk X.prog X.w X.K X.mg B L2.CX0 k f fd ps (sp B)) (hr : Room k X.A) (hg : Gl X x) (hm : X.mg x = some (.ref f)) (hk : PySem.W.keepIn X.K (.ref f) = true) (hb : Binds X.K fd ps ds) (hd : Vals dvs ds)
    (ha : PA X (e :: es) t) (hdb : (x == ("__debug__" : Str)) = false := by decide) (he : starEach (e :: es) X.env = (false, eval e X.env) :: starEach es X.env := by rfl) (hpl : (backTo pos (starEach es X.env)).any (·.1) = false := by rfl) :
    PE X (.Call (.Name x p) (e :: es) [] pos) (tCallZ X sp dvs t) := by
  refine ⟨fun pins s σ H Q I h => ?_⟩
  refine wpAny_Call_Name_kw (ld_glob I hg hm ?_ hdb)
  refine PySem.W.callWith_K (h₀ := X.base) I.ok.mod.kin hk (thn (ha.run pos pins s σ H _ I h) fun us s1 ⟨vs, H1, I1, r, q⟩ => ⟨I1.kIn, ?_⟩) he hpl
  obtain ⟨B, xb⟩ := extB_exC I1 hcf
  have h := q B ⟨pins, s1, I1, xb⟩
  have r2 : Vals (vs ++ dvs) (us ++ ds) := r.append hd
  have hl : (us ++ ds).length = ps.length := by rw [← r2.length]; exact (F B).len _ _ _ _ h
  refine wpAny_call (codeAny_mono ((F B).run X.A X.stack s1 H1 ⟨us, []⟩ (us ++ ds) (vs ++ dvs) Q L2.E0 hr (xb.env0 I1) (hb s1 us I1.kIn hl) r2 h) fun r s' hq => ?_)
  cases r with
  | error e => exact hq.elim
  | ok fl =>
    cases fl with
    | ret u => exact I1.after hq
    | next => exact False.elim hq
    | brk => exact False.elim hq
    | cont => exact False.elim hq
end
end Lm

set_option linter.all false
set_option Elab.async false
set_option maxRecDepth 100000
set_option maxHeartbeats 4000000
/-! words that are told are none that are empty -/
namespace Nm
open PySem PySem.Spec PyProof.Rows L2 G7
theorem twice_mem : ∀ (fs early : List Str) {f : Str}, twice early fs = some f → f ∈ fs
  | [], _, f, e => by cases e
  | a :: fs, early, f, e => by
    unfold twice at e
    by_cases c : a ∈ early
    · rw [if_pos c] at e
      cases e
      exact List.mem_cons_self
    · rw [if_neg c] at e
      exact List.mem_cons_of_mem _ (twice_mem fs _ e)
theorem badTab_mem {S : Shp} : ∀ (ts early : List Str) {t : Str}, badTab S early ts = some t → t ∈ ts
  | [], _, t, e => by cases e
  | a :: ts, early, t, e => by
    unfold badTab at e
    by_cases c : a ∉ tabs S ∨ a ∈ early
    · rw [if_pos c] at e
      cases e
      exact List.mem_cons_self
    · rw [if_neg c] at e
      exact List.mem_cons_of_mem _ (badTab_mem ts _ e)
theorem exW_err {α β : Type} {f : α → β} {x : Except Str α} {w : Str} (h : exW f x = .error (.word w)) : x = .error w := by
  cases x with
  | ok a => cases h
  | error v => cases h; rfl
/-- a word that is told is none that is empty -/
theorem chk_ne {S : Shp} {ix : List (Str × Str)} (st : Sm) (h : st.nz) {x : Str} (e : chk S ix st = .error (.word x)) : x ≠ "" := by
  cases st with
  | alone w => cases e
  | table t fs =>
    simp only [chk] at e
    by_cases c : t ∈ tabs S
    · rw [if_pos c] at e
      cases e
      exact h.1
    · rw [if_neg c] at e
      cases ht : twice [] fs with
      | none => rw [ht] at e; cases e
      | some f =>
        rw [ht] at e
        cases e
        exact h.2 _ (twice_mem _ _ ht)
  | index t f =>
    simp only [chk] at e
    by_cases c : t ∉ tabs S
    · rw [if_pos c] at e
      cases e
      exact h.1
    · rw [if_neg c] at e
      by_cases c2 : f ∉ (flds S t).tail ∨ (t, f) ∈ ix
      · rw [if_pos c2] at e
        cases e
        exact h.2
      · rw [if_neg c2] at e
        cases e
  | put t ns =>
    simp only [chk] at e
    by_cases c : t ∉ tabs S
    · rw [if_pos c] at e
      cases e
      exact h
    · rw [if_neg c] at e
      by_cases c2 : ns.length ≠ (flds S t).length
      · rw [if_pos c2] at e
        cases e
      · rw [if_neg c2] at e
        cases e
  | set t ss c =>
    simp only [chk] at e
    by_cases c1 : t ∉ tabs S
    · rw [if_pos c1] at e
      cases e
      exact h.1
    · rw [if_neg c1] at e
      cases hn : nameS S t [] ss with
      | error w =>
        rw [hn] at e
        cases e
        exact (setW_eq (S := S) (t := t) ss [] h.2.1).2 _ hn
      | ok ss' =>
        rw [hn] at e
        exact (firstO_eq (S := S) (ts := [t]) c h.2.2).2 _ (exW_err e)
  | strike t c =>
    simp only [chk] at e
    by_cases c1 : t ∉ tabs S
    · rw [if_pos c1] at e
      cases e
      exact h.1
    · rw [if_neg c1] at e
      exact (firstO_eq (S := S) (ts := [t]) c h.2).2 _ (exW_err e)
  | ask how tm ts c bys first =>
    simp only [chk] at e
    obtain ⟨h1, h2, h3, h4⟩ := h
    cases hb : badTab S [] ts with
    | some t =>
      rw [hb] at e
      cases e
      exact h2 _ (badTab_mem _ _ hb)
    | none =>
      rw [hb] at e
      cases hn : nameL S ts tm with
      | error w =>
        rw [hn] at e
        cases e
        exact (firstL_eq (S := S) (ts := ts) tm h1).2 _ hn
      | ok tm' =>
        rw [hn] at e
        cases hc : nameO S ts c with
        | error w =>
          rw [hc] at e
          cases e
          exact (firstO_eq (S := S) (ts := ts) c h3).2 _ hc
        | ok c' =>
          rw [hc] at e
          exact (firstL_eq (S := S) (ts := ts) bys h4).2 _ (exW_err e)
end Nm
namespace Nm
open PySem PySem.Spec PyProof.Rows L2 G7
theorem bent_full' {w : Str} {st st' : Sm} (ha : ∀ x, st ≠ .alone x) (hf : ∀ t f, st = .index t f → PyData.strOk t = true ∧ PyData.strOk f = true) (ow : PyData.strOk w = true) {p : List Nat} (hp : p ∈ leavesD st.dx) (e : putD p st.dx w = st'.dx) : ∀ t f, st' = .index t f → PyData.strOk t = true ∧ PyData.strOk f = true := by
  rintro t f rfl
  have no : ∀ {s : Str} {ds : List Dx}, st.dx = .tup (.str s :: ds) → 1 ≤ begD (.str s :: ds) → s ≠ "index" → False := fun {s ds} ed hb n => by
    rw [ed] at hp e
    obtain ⟨ds', e2⟩ := put_head (w := w) hb hp
    rw [e2] at e
    cases e
    exact n rfl
  cases st with
  | alone x => exact absurd rfl (ha x)
  | table t0 fs => exact (no rfl (Nat.le_refl 1) (by decide +kernel)).elim
  | put t0 ns => exact (no rfl (Nat.le_refl 1) (by decide +kernel)).elim
  | set t0 ss c => exact (no rfl (Nat.le_refl 1) (by decide +kernel)).elim
  | strike t0 c => exact (no rfl (Nat.le_refl 1) (by decide +kernel)).elim
  | ask how tm ts c bys first => exact (no rfl (show (1 : Nat) ≤ 2 by decide) (by decide +kernel)).elim
  | index t0 f0 => exact bent_full (st := .index t0 f0) ha (hf t0 f0 rfl) ow hp e t f rfl
end Nm

namespace K03
open PySem PySem.Spec PyProof.Rows L2 G7
local macro_rules | `(tactic| simp? only [$ls,*]) => `(tactic| simp only [tVar, tC, tOp, rI, rI0, rU, tTest, tB, tAnd, tOr, tNot, tAndV, tOrV, tNotV, tIf, tNil, tCons, tTup, tLst, tCB, tSeq, tAsg, gName, tRet, tRetN, tIfS, tNext, tDrop, tCall, tUn, tPar, CMul, CDiv, V.int.injEq, V.bl.injEq, V.ref.injEq, V.str.injEq, Option.some.injEq, List.cons.injEq, and_true, true_and, and_false, false_and, or_false, false_or, or_true, true_or, exists_eq_left', exists_eq_left, exists_and_left, exists_and_right, exists_eq', exists_eq, exists_false, exists_const, List.getElem?_cons_succ, List.getElem?_cons_zero, List.set_cons_succ, List.set_cons_zero, List.length_cons, List.length_nil, List.cons_append, List.nil_append, List.append_nil, reduceCtorEq, Int.reduceLT, Int.reduceLE, Int.reduceNeg, Int.reducePow, Int.reduceSub, Int.reduceAdd, Nat.reduceAdd, Nat.reduceLeDiff, Bool.not_true, Bool.not_false, decide_true, decide_false, Bool.false_eq_true, ↓reduceIte, upd_same, not_true_eq_false, not_false_eq_true, lsO_l, lsO_f, tpO_t, tpO_f, dkO_d, dkO_f, keyO_i, keyO_s, rIxH, rIxU, cLenL, cLenT, cListL, cListT, cTupL, cIntB, cAll, rEqNilI, rEq, rNe, scal_ii, scal_ss, scal_bb, scal_nn, scal_ni, scal_in, scal_ns, scal_sn, gSub, rSetL, ixs0, ixs1, ixs2, seq0, at0, at1, at2, at3, tBM, tBM0, rAppend, rPopAt, tyV_list, tGet2, tGetI, sPut, tMG, rTIdx, tyTup, tTupF, cx_K, cx_w, ex_map_int, ex_nil_int, ex_cons_int, List.map_cons, List.map_nil, List.isEmpty_nil, List.isEmpty_cons, List.eraseIdx_zero, List.tail_cons, List.eraseIdx_cons_zero, HO.lst.injEq, HO.tup.injEq, HO.dK.injEq, HO.frz.injEq, ne_eq, gTupH, gCons, gNil, wipe, tYes, upd_upd, and_assoc, List.getElem?_map, Option.map_some, isn_non_bool, isn_non_int, isn_non_str, isn_non_tuple, isn_non_list, isn_non_dict, isn_bl_bool, isn_bl_int, isn_bl_str, isn_bl_tuple, isn_bl_list, isn_bl_dict, isn_int_bool, isn_int_int, isn_int_str, isn_int_tuple, isn_int_list, isn_int_dict, isn_str_bool, isn_str_int, isn_str_str, isn_str_tuple, isn_str_list, isn_str_dict, isn_lst_bool, isn_lst_int, isn_lst_str, isn_lst_tuple, isn_lst_list, isn_lst_dict, isn_tup_bool, isn_tup_int, isn_tup_str, isn_tup_tuple, isn_tup_list, isn_tup_dict, isn_dct_bool, isn_dct_int, isn_dct_str, isn_dct_tuple, isn_dct_list, isn_dct_dict, okn_bool, okn_int, okn_str, okn_tuple, okn_list, okn_dict, cIsi, tyT_n, tyT_b, tyT_i, tyT_s, tyT_r, V.ty.injEq, tSl, tPart, tNoPart, rSlF, gName, List.length_map, Int.reduceToNat, cpow18, Wd.s_inj, ws_num, ws_field, ws_add, ws_sub, ws_mul, ws_eq, ws_lt, ws_gt, ws_le, ws_ge, ws_and, ws_or, ws_not, rInTab, rIxTab, rCatH, rCat, rInT, cSortD, cMaxL, cMinL, rNeNilI, inV, flatV, List.any_cons, List.any_nil, List.all_cons, List.all_nil, eqV, Bool.and_true, Bool.and_false, Bool.true_and, Bool.false_and, Bool.or_false, Bool.false_or, Bool.or_true, Bool.true_or, Wd.beq_s, sz0, sz1, sz2, sz3, sz4, sz5, sz6, isc_eq, isc_lt, isc_gt, isc_le, isc_ge, isc_and, isc_or, isc_not, isl_and, isl_or, isl_not, rSlP, rInX, rCatS, rInS, cTupL, tM1, rNewStrs, cLenD, tFld, sFld, tMeth, tMake, HO.ins.injEq, rIxLT, cLenLT, Td.rIsG, Lm.tCallZ, Lm.tLam, tMkK, rEqSL, rNilT, rEqXS, rMulS, $ls,*])
def top (i : Nat) : Stmt := PySem.Challenge.pw_granary_k03_names_looked_up.main.body.getD i (.Pass ⟨0, 0, 0, 0⟩)
abbrev s_BadName_init : Stmt := inClass (top 2) 0
abbrev N_BadName_init : List Str := ["self", "word"]
theorem sc_BadName_init : FnScope N_BadName_init ["self", "word"] (defScope s_BadName_init) := ⟨rfl, rfl, rfl, by decide +kernel, rfl, by decide +kernel, by decide +kernel⟩
abbrev s_Names_init : Stmt := inClass (top 5) 0
abbrev N_Names_init : List Str := ["self", "shapes", "tables", "at", "table"]
theorem sc_Names_init : FnScope N_Names_init ["self", "shapes", "tables"] (defScope s_Names_init) := ⟨rfl, rfl, rfl, by decide +kernel, rfl, by decide +kernel, by decide +kernel⟩
abbrev s_Names_field : Stmt := inClass (top 5) 1
abbrev N_Names_field : List Str := ["self", "table", "name", "some", "other"]
theorem sc_Names_field : FnScope N_Names_field ["self", "table", "name"] (defScope s_Names_field) := ⟨rfl, rfl, rfl, by decide +kernel, rfl, by decide +kernel, by decide +kernel⟩
abbrev s_Names_tree : Stmt := inClass (top 5) 2
abbrev N_Names_tree : List Str := ["self", "tree", "one"]
theorem sc_Names_tree : FnScope N_Names_tree ["self", "tree"] (defScope s_Names_tree) := ⟨rfl, rfl, rfl, by decide +kernel, rfl, by decide +kernel, by decide +kernel⟩
abbrev s_Names_trees : Stmt := inClass (top 5) 3
abbrev N_Names_trees : List Str := ["self", "some", "one"]
theorem sc_Names_trees : FnScope N_Names_trees ["self", "some"] (defScope s_Names_trees) := ⟨rfl, rfl, rfl, by decide +kernel, rfl, by decide +kernel, by decide +kernel⟩
abbrev s_checked_table : Stmt := top 6
abbrev N_checked_table : List Str := ["tree", "shapes", "word", "table", "fields", "at", "field"]
theorem sc_checked_table : FnScope N_checked_table ["tree", "shapes"] (defScope s_checked_table) := ⟨rfl, rfl, rfl, by decide +kernel, rfl, by decide +kernel, by decide +kernel⟩
abbrev s_checked_index : Stmt := top 7
abbrev N_checked_index : List Str := ["tree", "names", "indexes", "word", "table", "field"]
theorem sc_checked_index : FnScope N_checked_index ["tree", "names", "indexes"] (defScope s_checked_index) := ⟨rfl, rfl, rfl, by decide +kernel, rfl, by decide +kernel, by decide +kernel⟩
abbrev s_checked_set : Stmt := top 8
abbrev N_checked_set : List Str := ["tree", "names", "word", "table", "sets", "cond", "found", "field", "term", "other", "worth"]
theorem sc_checked_set : FnScope N_checked_set ["tree", "names"] (defScope s_checked_set) := ⟨rfl, rfl, rfl, by decide +kernel, rfl, by decide +kernel, by decide +kernel⟩
abbrev s_checked : Stmt := top 9
abbrev N_checked : List Str := ["tree", "shapes", "indexes", "word", "names", "how", "terms", "tables", "cond", "by", "first"]
theorem sc_checked : FnScope N_checked ["tree", "shapes", "indexes"] (defScope s_checked) := ⟨rfl, rfl, rfl, by decide +kernel, rfl, by decide +kernel, by decide +kernel⟩
abbrev s_l_mix : Stmt := top 11
abbrev N_l_mix : List Str := ["_law_script", "_law_seed", "_law_mixed", "_law_cell"]
theorem sc_l_mix : FnScope N_l_mix ["_law_script", "_law_seed"] (defScope s_l_mix) := ⟨rfl, rfl, rfl, by decide +kernel, rfl, by decide +kernel, by decide +kernel⟩
abbrev s_l_next : Stmt := top 12
abbrev N_l_next : List Str := ["_law_h", "_law_many", "_law_cell"]
theorem sc_l_next : FnScope N_l_next ["_law_h", "_law_many"] (defScope s_l_next) := ⟨rfl, rfl, rfl, by decide +kernel, rfl, by decide +kernel, by decide +kernel⟩
abbrev s_l_alike : Stmt := top 13
abbrev N_l_alike : List Str := ["_law_found", "_law_due_here", "_law_k"]
theorem sc_l_alike : FnScope N_l_alike ["_law_found", "_law_due_here"] (defScope s_l_alike) := ⟨rfl, rfl, rfl, by decide +kernel, rfl, by decide +kernel, by decide +kernel⟩
abbrev s_l_shapes : Stmt := top 14
abbrev N_l_shapes : List Str := ["_law_h", "_law_many", "_law_found", "_law_k"]
theorem sc_l_shapes : FnScope N_l_shapes ["_law_h", "_law_many"] (defScope s_l_shapes) := ⟨rfl, rfl, rfl, by decide +kernel, rfl, by decide +kernel, by decide +kernel⟩
abbrev s_l_number : Stmt := top 15
abbrev N_l_number : List Str := ["_law_h"]
theorem sc_l_number : FnScope N_l_number ["_law_h"] (defScope s_l_number) := ⟨rfl, rfl, rfl, by decide +kernel, rfl, by decide +kernel, by decide +kernel⟩
abbrev s_l_term : Stmt := top 16
abbrev N_l_term : List Str := ["_law_h", "_law_fields", "_law_deep", "_law_way"]
theorem sc_l_term : FnScope N_l_term ["_law_h", "_law_fields", "_law_deep"] (defScope s_l_term) := ⟨rfl, rfl, rfl, by decide +kernel, rfl, by decide +kernel, by decide +kernel⟩
abbrev s_l_cond : Stmt := top 17
abbrev N_l_cond : List Str := ["_law_h", "_law_fields", "_law_deep", "_law_way", "_law_word_here", "_law_some_here", "_law_field", "_law_pair", "_law_k"]
theorem sc_l_cond : FnScope N_l_cond ["_law_h", "_law_fields", "_law_deep"] (defScope s_l_cond) := ⟨rfl, rfl, rfl, by decide +kernel, rfl, by decide +kernel, by decide +kernel⟩
abbrev s_l_some : Stmt := top 18
abbrev N_l_some : List Str := ["_law_h", "_law_shapes_here", "_law_tables", "_law_found", "_law_table", "_law_field"]
theorem sc_l_some : FnScope N_l_some ["_law_h", "_law_shapes_here", "_law_tables"] (defScope s_l_some) := ⟨rfl, rfl, rfl, by decide +kernel, rfl, by decide +kernel, by decide +kernel⟩
abbrev s_l_ask : Stmt := top 19
abbrev N_l_ask : List Str := ["_law_h", "_law_shapes_here", "_law_names", "_law_tables", "_law_fields", "_law_how", "_law_many", "_law_terms", "_law_cond_here", "_law_by", "_law_first_here", "_law_k"]
theorem sc_l_ask : FnScope N_l_ask ["_law_h", "_law_shapes_here"] (defScope s_l_ask) := ⟨rfl, rfl, rfl, by decide +kernel, rfl, by decide +kernel, by decide +kernel⟩
abbrev s_l_statement : Stmt := top 20
abbrev N_l_statement : List Str := ["_law_h", "_law_shapes_here", "_law_way", "_law_table", "_law_fields", "_law_cond_here", "_law_names", "_law_some_here", "_law_field", "_law_k"]
theorem sc_l_statement : FnScope N_l_statement ["_law_h", "_law_shapes_here"] (defScope s_l_statement) := ⟨rfl, rfl, rfl, by decide +kernel, rfl, by decide +kernel, by decide +kernel⟩
abbrev s_l_word : Stmt := top 21
abbrev N_l_word : List Str := ["_law_call", "e"]
theorem sc_l_word : FnScope N_l_word ["_law_call"] (defScope s_l_word) := ⟨rfl, rfl, rfl, by decide +kernel, rfl, by decide +kernel, by decide +kernel⟩
abbrev s_l_bare : Stmt := top 22
abbrev N_l_bare : List Str := ["_law_h", "_law_tree", "_law_shapes_here", "_law_tables", "_law_some_here", "_law_table", "_law_one"]
theorem sc_l_bare : FnScope N_l_bare ["_law_h", "_law_tree", "_law_shapes_here", "_law_tables"] (defScope s_l_bare) := ⟨rfl, rfl, rfl, by decide +kernel, rfl, by decide +kernel, by decide +kernel⟩
abbrev s_l_first : Stmt := top 23
abbrev N_l_first : List Str := ["_law_tree", "_law_shapes_here", "_law_tables", "_law_some_here", "_law_words", "_law_table", "_law_one", "_law_word_here"]
theorem sc_l_first : FnScope N_l_first ["_law_tree", "_law_shapes_here", "_law_tables"] (defScope s_l_first) := ⟨rfl, rfl, rfl, by decide +kernel, rfl, by decide +kernel, by decide +kernel⟩
abbrev s_l_due : Stmt := top 24
abbrev N_l_due : List Str := ["_law_tree", "_law_shapes_here", "_law_indexes", "_law_word_here", "_law_table", "_law_k", "_law_twice", "_law_tables", "_law_parts", "_law_words", "_law_field", "_law_term_here", "_law_early", "_law_bad", "_law_part", "_law_one"]
theorem sc_l_due : FnScope N_l_due ["_law_tree", "_law_shapes_here", "_law_indexes"] (defScope s_l_due) := ⟨rfl, rfl, rfl, by decide +kernel, rfl, by decide +kernel, by decide +kernel⟩
abbrev s_l_leaves : Stmt := top 25
abbrev N_l_leaves : List Str := ["_law_one", "_law_path", "_law_words", "_law_found", "_law_begin", "_law_k"]
theorem sc_l_leaves : FnScope N_l_leaves ["_law_one", "_law_path"] (defScope s_l_leaves) := ⟨rfl, rfl, rfl, by decide +kernel, rfl, by decide +kernel, by decide +kernel⟩
abbrev s_l_put : Stmt := top 26
abbrev N_l_put : List Str := ["_law_one", "_law_path", "_law_word_here", "_law_at"]
theorem sc_l_put : FnScope N_l_put ["_law_one", "_law_path", "_law_word_here"] (defScope s_l_put) := ⟨rfl, rfl, rfl, by decide +kernel, rfl, by decide +kernel, by decide +kernel⟩
abbrev s_l_bent : Stmt := top 27
abbrev N_l_bent : List Str := ["_law_h", "_law_tree", "_law_some_here"]
theorem sc_l_bent : FnScope N_l_bent ["_law_h", "_law_tree"] (defScope s_l_bent) := ⟨rfl, rfl, rfl, by decide +kernel, rfl, by decide +kernel, by decide +kernel⟩
abbrev s_l_known : Stmt := top 28
abbrev N_l_known : List Str := ["_law_head", "_law_bad", "_law_good", "_law_trees", "_law_shapes_here", "_law_tree"]
theorem sc_l_known : FnScope N_l_known [] (defScope s_l_known) := ⟨rfl, rfl, rfl, by decide +kernel, rfl, by decide +kernel, by decide +kernel⟩
abbrev s_law : Stmt := top 29
abbrev N_law : List Str := ["_law_script", "_law_h", "_law_turn", "_law_tree", "_law_tables", "_law_terms", "_law_by", "_law_cond_here", "_law_due_here", "_law_found", "_law_bare_here", "_law_bent_here", "_law_indexes", "_law_shapes_here", "_law_table", "_law_one"]
theorem sc_law : FnScope N_law ["_law_script"] (defScope s_law) := ⟨rfl, rfl, rfl, by decide +kernel, rfl, by decide +kernel, by decide +kernel⟩
def fsNames (v0 v1 : V) : List (Str × V) := [("known_shapes", v0), ("tables", v1)]
def fpNames1 (v0 : V) : List (Str × V) := [("known_shapes", v0)]
theorem lkNames_known_shapes {v0 v1 : V} : (fsNames v0 v1).lookup ("known_shapes" : Str) = some v0 := by unfold fsNames; rw [List.lookup_cons, show (("known_shapes" : Str) == "known_shapes") = true from by decide +kernel]
theorem lkNames_tables {v0 v1 : V} : (fsNames v0 v1).lookup ("tables" : Str) = some v1 := by unfold fsNames; rw [List.lookup_cons, show (("tables" : Str) == "known_shapes") = false from by decide +kernel]; dsimp only; rw [List.lookup_cons, show (("tables" : Str) == "tables") = true from by decide +kernel]
theorem noNames_field {v0 v1 : V} : (fsNames v0 v1).lookup ("field" : Str) = none := by unfold fsNames; rw [List.lookup_cons, show (("field" : Str) == "known_shapes") = false from by decide +kernel]; dsimp only; rw [List.lookup_cons, show (("field" : Str) == "tables") = false from by decide +kernel]; dsimp only; rfl
theorem noNames_tree {v0 v1 : V} : (fsNames v0 v1).lookup ("tree" : Str) = none := by unfold fsNames; rw [List.lookup_cons, show (("tree" : Str) == "known_shapes") = false from by decide +kernel]; dsimp only; rw [List.lookup_cons, show (("tree" : Str) == "tables") = false from by decide +kernel]; dsimp only; rfl
theorem noNames_trees {v0 v1 : V} : (fsNames v0 v1).lookup ("trees" : Str) = none := by unfold fsNames; rw [List.lookup_cons, show (("trees" : Str) == "known_shapes") = false from by decide +kernel]; dsimp only; rw [List.lookup_cons, show (("trees" : Str) == "tables") = false from by decide +kernel]; dsimp only; rfl
theorem inNames_known_shapes {v0 : V} : putF ("known_shapes" : Str) v0 [] = (fpNames1 v0) := by unfold fpNames1; rfl
theorem inNames_tables {v0 v1 : V} : putF ("tables" : Str) v1 (fpNames1 v0) = fsNames v0 v1 := by unfold fpNames1; unfold fsNames; rw [putF, if_neg (show ¬ (("known_shapes" : Str) = "tables") from by decide +kernel)]; rfl
theorem puNames_known_shapes {v0 v1 y : V} : putF ("known_shapes" : Str) y (fsNames v0 v1) = fsNames y v1 := by unfold fsNames; rw [putF, if_pos rfl]
theorem puNames_tables {v0 v1 y : V} : putF ("tables" : Str) y (fsNames v0 v1) = fsNames v0 y := by unfold fsNames; rw [putF, if_neg (show ¬ (("known_shapes" : Str) = "tables") from by decide +kernel)]; rw [putF, if_pos rfl]
theorem lnNames {v0 v1 : V} : (fsNames v0 v1).length < 1000 := by unfold fsNames; simp
theorem lpNames1 {v0 : V} : (fpNames1 v0).length < 1000 := by unfold fpNames1; simp
theorem l0Names : (0 : Nat) < 1000 := by decide

set_option genInjectivity false in
set_option genSizeOfSpec false in
structure Txt (K : PySem.W.Frag) (mg : Str → Option Value) where
  f_BadName_init : Addr
  fd_BadName_init : FuncData
  F_BadName_init : Fun K "__init__" "BadName.__init__" s_BadName_init f_BadName_init fd_BadName_init
  kb_BadName_init : KBn K fd_BadName_init ["self", "word"] 1 ["word"] (fun us ws => us ++ ws) (fun vs zs => vs ++ zs)
  f_Names_init : Addr
  fd_Names_init : FuncData
  F_Names_init : Fun K "__init__" "Names.__init__" s_Names_init f_Names_init fd_Names_init
  b_Names_init : Binds K fd_Names_init ["self", "shapes", "tables"] []
  f_Names_field : Addr
  fd_Names_field : FuncData
  F_Names_field : Fun K "field" "Names.field" s_Names_field f_Names_field fd_Names_field
  b_Names_field : Binds K fd_Names_field ["self", "table", "name"] []
  f_Names_tree : Addr
  fd_Names_tree : FuncData
  F_Names_tree : Fun K "tree" "Names.tree" s_Names_tree f_Names_tree fd_Names_tree
  b_Names_tree : Binds K fd_Names_tree ["self", "tree"] []
  f_Names_trees : Addr
  fd_Names_trees : FuncData
  F_Names_trees : Fun K "trees" "Names.trees" s_Names_trees f_Names_trees fd_Names_trees
  b_Names_trees : Binds K fd_Names_trees ["self", "some"] []
  f_checked_table : Addr
  fd_checked_table : FuncData
  F_checked_table : Fun K "checked_table" "checked_table" s_checked_table f_checked_table fd_checked_table
  b_checked_table : Binds K fd_checked_table ["tree", "shapes"] []
  mg_checked_table : mg "checked_table" = some (.ref f_checked_table)
  f_checked_index : Addr
  fd_checked_index : FuncData
  F_checked_index : Fun K "checked_index" "checked_index" s_checked_index f_checked_index fd_checked_index
  b_checked_index : Binds K fd_checked_index ["tree", "names", "indexes"] []
  mg_checked_index : mg "checked_index" = some (.ref f_checked_index)
  f_checked_set : Addr
  fd_checked_set : FuncData
  F_checked_set : Fun K "checked_set" "checked_set" s_checked_set f_checked_set fd_checked_set
  b_checked_set : Binds K fd_checked_set ["tree", "names"] []
  mg_checked_set : mg "checked_set" = some (.ref f_checked_set)
  f_checked : Addr
  fd_checked : FuncData
  e1_checked : Addr
  F_checked : FunD K "checked" "checked" (defArgs s_checked) (defBody s_checked) (defScope s_checked) [V.ref e1_checked] [] f_checked fd_checked
  s1_checked : List Value
  d1_checked : Vals [V.ref e1_checked] s1_checked
  b1_checked : Binds K fd_checked ["tree", "shapes", "indexes"] s1_checked
  b_checked : Binds K fd_checked ["tree", "shapes", "indexes"] []
  mg_checked : mg "checked" = some (.ref f_checked)
  f_l_mix : Addr
  fd_l_mix : FuncData
  F_l_mix : Fun K "_law_mix" "_law_mix" s_l_mix f_l_mix fd_l_mix
  b_l_mix : Binds K fd_l_mix ["_law_script", "_law_seed"] []
  mg_l_mix : mg "_law_mix" = some (.ref f_l_mix)
  f_l_next : Addr
  fd_l_next : FuncData
  F_l_next : Fun K "_law_next" "_law_next" s_l_next f_l_next fd_l_next
  b_l_next : Binds K fd_l_next ["_law_h", "_law_many"] []
  mg_l_next : mg "_law_next" = some (.ref f_l_next)
  f_l_alike : Addr
  fd_l_alike : FuncData
  F_l_alike : Fun K "_law_alike" "_law_alike" s_l_alike f_l_alike fd_l_alike
  b_l_alike : Binds K fd_l_alike ["_law_found", "_law_due_here"] []
  mg_l_alike : mg "_law_alike" = some (.ref f_l_alike)
  f_l_shapes : Addr
  fd_l_shapes : FuncData
  F_l_shapes : Fun K "_law_shapes" "_law_shapes" s_l_shapes f_l_shapes fd_l_shapes
  b_l_shapes : Binds K fd_l_shapes ["_law_h", "_law_many"] []
  mg_l_shapes : mg "_law_shapes" = some (.ref f_l_shapes)
  f_l_number : Addr
  fd_l_number : FuncData
  F_l_number : Fun K "_law_number" "_law_number" s_l_number f_l_number fd_l_number
  b_l_number : Binds K fd_l_number ["_law_h"] []
  mg_l_number : mg "_law_number" = some (.ref f_l_number)
  f_l_term : Addr
  fd_l_term : FuncData
  F_l_term : Fun K "_law_term" "_law_term" s_l_term f_l_term fd_l_term
  b_l_term : Binds K fd_l_term ["_law_h", "_law_fields", "_law_deep"] []
  mg_l_term : mg "_law_term" = some (.ref f_l_term)
  f_l_cond : Addr
  fd_l_cond : FuncData
  F_l_cond : Fun K "_law_cond" "_law_cond" s_l_cond f_l_cond fd_l_cond
  b_l_cond : Binds K fd_l_cond ["_law_h", "_law_fields", "_law_deep"] []
  mg_l_cond : mg "_law_cond" = some (.ref f_l_cond)
  f_l_some : Addr
  fd_l_some : FuncData
  F_l_some : Fun K "_law_some" "_law_some" s_l_some f_l_some fd_l_some
  b_l_some : Binds K fd_l_some ["_law_h", "_law_shapes_here", "_law_tables"] []
  mg_l_some : mg "_law_some" = some (.ref f_l_some)
  f_l_ask : Addr
  fd_l_ask : FuncData
  F_l_ask : Fun K "_law_ask" "_law_ask" s_l_ask f_l_ask fd_l_ask
  b_l_ask : Binds K fd_l_ask ["_law_h", "_law_shapes_here"] []
  mg_l_ask : mg "_law_ask" = some (.ref f_l_ask)
  f_l_statement : Addr
  fd_l_statement : FuncData
  F_l_statement : Fun K "_law_statement" "_law_statement" s_l_statement f_l_statement fd_l_statement
  b_l_statement : Binds K fd_l_statement ["_law_h", "_law_shapes_here"] []
  mg_l_statement : mg "_law_statement" = some (.ref f_l_statement)
  f_l_word : Addr
  fd_l_word : FuncData
  F_l_word : Fun K "_law_word" "_law_word" s_l_word f_l_word fd_l_word
  b_l_word : Binds K fd_l_word ["_law_call"] []
  mg_l_word : mg "_law_word" = some (.ref f_l_word)
  f_l_bare : Addr
  fd_l_bare : FuncData
  F_l_bare : Fun K "_law_bare" "_law_bare" s_l_bare f_l_bare fd_l_bare
  b_l_bare : Binds K fd_l_bare ["_law_h", "_law_tree", "_law_shapes_here", "_law_tables"] []
  mg_l_bare : mg "_law_bare" = some (.ref f_l_bare)
  f_l_first : Addr
  fd_l_first : FuncData
  F_l_first : Fun K "_law_first" "_law_first" s_l_first f_l_first fd_l_first
  b_l_first : Binds K fd_l_first ["_law_tree", "_law_shapes_here", "_law_tables"] []
  mg_l_first : mg "_law_first" = some (.ref f_l_first)
  f_l_due : Addr
  fd_l_due : FuncData
  F_l_due : Fun K "_law_due" "_law_due" s_l_due f_l_due fd_l_due
  b_l_due : Binds K fd_l_due ["_law_tree", "_law_shapes_here", "_law_indexes"] []
  mg_l_due : mg "_law_due" = some (.ref f_l_due)
  f_l_leaves : Addr
  fd_l_leaves : FuncData
  F_l_leaves : Fun K "_law_leaves" "_law_leaves" s_l_leaves f_l_leaves fd_l_leaves
  b_l_leaves : Binds K fd_l_leaves ["_law_one", "_law_path"] []
  mg_l_leaves : mg "_law_leaves" = some (.ref f_l_leaves)
  f_l_put : Addr
  fd_l_put : FuncData
  F_l_put : Fun K "_law_put" "_law_put" s_l_put f_l_put fd_l_put
  b_l_put : Binds K fd_l_put ["_law_one", "_law_path", "_law_word_here"] []
  mg_l_put : mg "_law_put" = some (.ref f_l_put)
  f_l_bent : Addr
  fd_l_bent : FuncData
  F_l_bent : Fun K "_law_bent" "_law_bent" s_l_bent f_l_bent fd_l_bent
  b_l_bent : Binds K fd_l_bent ["_law_h", "_law_tree"] []
  mg_l_bent : mg "_law_bent" = some (.ref f_l_bent)
  f_l_known : Addr
  fd_l_known : FuncData
  F_l_known : Fun K "_law_known" "_law_known" s_l_known f_l_known fd_l_known
  b_l_known : Binds K fd_l_known [] []
  mg_l_known : mg "_law_known" = some (.ref f_l_known)
  f_law : Addr
  fd_law : FuncData
  F_law : Fun K "law" "law" s_law f_law fd_law
  b_law : Binds K fd_law ["_law_script"] []
  mg_law : mg "law" = some (.ref f_law)
  C_Names : Addr
  cl_Names : Cls K C_Names
  mg_Names : mg "Names" = some (.ref C_Names)
  mk_Names : Mk K C_Names f_Names_init
  na_Names_known_shapes : NoAttr K C_Names "known_shapes"
  na_Names_tables : NoAttr K C_Names "tables"
  me_Names_field : Meth K C_Names "field" f_Names_field
  me_Names_tree : Meth K C_Names "tree" f_Names_tree
  me_Names_trees : Meth K C_Names "trees" f_Names_trees
  n_ValueError : mg "ValueError" = none
  n_enumerate : mg "enumerate" = none
  n_len : mg "len" = none
  n_tuple : mg "tuple" = none
  n_list : mg "list" = none
  n_max : mg "max" = none
  n_isinstance : mg "isinstance" = none
  n_range : mg "range" = none
  n_str : mg "str" = none
  n_int : mg "int" = none
  n_bool : mg "bool" = none
  n_sorted : mg "sorted" = none
  C_StoreError : Addr
  mg_StoreError : mg "StoreError" = some (.ref C_StoreError)
  R_StoreError : ClX.CRead K C_StoreError (.type "type")
  v_StoreError : PySem.W.findCls K (.ref C_StoreError) (.type "type") "__init__" = some (.val (.builtin "ValueError.__init__"))
  C_BadName : Addr
  X_BadName : XfC K C_BadName
  E_BadName : ExcC K C_BadName
  m_BadName : PySem.W.exmOne K (.ref C_BadName) (.ref C_BadName) = some true
  kV_BadName : PySem.W.kitOne K (.ref C_BadName) (.type "ValueError") = some true
  kS_BadName : PySem.W.kitOne K (.ref C_BadName) (.ref C_StoreError) = some true
  mg_BadName : mg "BadName" = some (.ref C_BadName)
  O_BadName : OexC K C_BadName
  iO_BadName : PySem.W.findIn K (.ref C_BadName) "__init__" = some (some (.ref f_BadName_init))
  tO_BadName : PySem.W.typeIn K (.ref f_BadName_init) = some (.type "function")
  n_BadName_word : PySem.W.findIn K (.ref C_BadName) "word" = some none
  C_BadRow : Addr
  X_BadRow : Td.EKls K mg "BadRow" C_BadRow
  mg_BadRow : mg "BadRow" = some (.ref C_BadRow)
  E_BadRow : ExcC K C_BadRow
  m_RN : PySem.W.exmOne K (.ref C_BadRow) (.ref C_BadName) = some false
  m_RR : PySem.W.exmOne K (.ref C_BadRow) (.ref C_BadRow) = some true
  kS_BadRow : PySem.W.kitOne K (.ref C_BadRow) (.ref C_StoreError) = some true
  c_law : Addr
  P_law : Addr
  hc_law : fd_law.code = .ref c_law
  c_ix : Addr
  P_ix : Addr
  hc_ix : fd_l_known.code = .ref c_ix
  nPP : P_law ≠ P_ix

local macro_rules | `(tactic| dsimp? only [$ls,*]) => `(tactic| simp only [tVar, tC, tOp, rI, rI0, rU, tTest, tB, tAnd, tOr, tNot, tAndV, tOrV, tNotV, tIf, tNil, tCons, tTup, tLst, tCB, tSeq, tAsg, gName, tRet, tRetN, tIfS, tNext, tDrop, tCall, tUn, tPar, CMul, CDiv, V.int.injEq, V.bl.injEq, V.ref.injEq, V.str.injEq, Option.some.injEq, List.cons.injEq, and_true, true_and, and_false, false_and, or_false, false_or, or_true, true_or, exists_eq_left', exists_eq_left, exists_and_left, exists_and_right, exists_eq', exists_eq, exists_false, exists_const, List.getElem?_cons_succ, List.getElem?_cons_zero, List.set_cons_succ, List.set_cons_zero, List.length_cons, List.length_nil, List.cons_append, List.nil_append, List.append_nil, reduceCtorEq, Int.reduceLT, Int.reduceLE, Int.reduceNeg, Int.reducePow, Int.reduceSub, Int.reduceAdd, Nat.reduceAdd, Nat.reduceLeDiff, Bool.not_true, Bool.not_false, decide_true, decide_false, Bool.false_eq_true, ↓reduceIte, upd_same, not_true_eq_false, not_false_eq_true, lsO_l, lsO_f, tpO_t, tpO_f, dkO_d, dkO_f, keyO_i, keyO_s, rIxH, rIxU, cLenL, cLenT, cListL, cListT, cTupL, cIntB, cAll, rEqNilI, rEq, rNe, scal_ii, scal_ss, scal_bb, scal_nn, scal_ni, scal_in, scal_ns, scal_sn, gSub, rSetL, ixs0, ixs1, ixs2, seq0, at0, at1, at2, at3, tBM, tBM0, rAppend, rPopAt, tyV_list, tGet2, tGetI, sPut, tMG, rTIdx, tyTup, tTupF, cx_K, cx_w, ex_map_int, ex_nil_int, ex_cons_int, List.map_cons, List.map_nil, List.isEmpty_nil, List.isEmpty_cons, List.eraseIdx_zero, List.tail_cons, List.eraseIdx_cons_zero, HO.lst.injEq, HO.tup.injEq, HO.dK.injEq, HO.frz.injEq, ne_eq, gTupH, gCons, gNil, wipe, tYes, upd_upd, and_assoc, List.getElem?_map, Option.map_some, isn_non_bool, isn_non_int, isn_non_str, isn_non_tuple, isn_non_list, isn_non_dict, isn_bl_bool, isn_bl_int, isn_bl_str, isn_bl_tuple, isn_bl_list, isn_bl_dict, isn_int_bool, isn_int_int, isn_int_str, isn_int_tuple, isn_int_list, isn_int_dict, isn_str_bool, isn_str_int, isn_str_str, isn_str_tuple, isn_str_list, isn_str_dict, isn_lst_bool, isn_lst_int, isn_lst_str, isn_lst_tuple, isn_lst_list, isn_lst_dict, isn_tup_bool, isn_tup_int, isn_tup_str, isn_tup_tuple, isn_tup_list, isn_tup_dict, isn_dct_bool, isn_dct_int, isn_dct_str, isn_dct_tuple, isn_dct_list, isn_dct_dict, okn_bool, okn_int, okn_str, okn_tuple, okn_list, okn_dict, cIsi, tyT_n, tyT_b, tyT_i, tyT_s, tyT_r, V.ty.injEq, tSl, tPart, tNoPart, rSlF, gName, List.length_map, Int.reduceToNat, cpow18, Wd.s_inj, ws_num, ws_field, ws_add, ws_sub, ws_mul, ws_eq, ws_lt, ws_gt, ws_le, ws_ge, ws_and, ws_or, ws_not, rInTab, rIxTab, rCatH, rCat, rInT, cSortD, cMaxL, cMinL, rNeNilI, inV, flatV, List.any_cons, List.any_nil, List.all_cons, List.all_nil, eqV, Bool.and_true, Bool.and_false, Bool.true_and, Bool.false_and, Bool.or_false, Bool.false_or, Bool.or_true, Bool.true_or, Wd.beq_s, sz0, sz1, sz2, sz3, sz4, sz5, sz6, isc_eq, isc_lt, isc_gt, isc_le, isc_ge, isc_and, isc_or, isc_not, isl_and, isl_or, isl_not, rSlP, rInX, rCatS, rInS, cTupL, tM1, rNewStrs, cLenD, tFld, sFld, tMeth, tMake, HO.ins.injEq, rIxLT, cLenLT, Td.rIsG, Lm.tCallZ, Lm.tLam, tMkK, rEqSL, rNilT, rEqXS, rMulS, lkNames_known_shapes, lkNames_tables, noNames_field, noNames_tree, noNames_trees, inNames_known_shapes, inNames_tables, puNames_known_shapes, puNames_tables, lnNames, lpNames1, l0Names, Txt.cl_Names, Txt.na_Names_known_shapes, Txt.na_Names_tables, $ls,*])
section
variable {P : Program} {w : World} {K : PySem.W.Frag} {mg : Str → Option Value} {base : Heap}
theorem ok_l_mix (T : Txt K mg) : FnOk P w K mg base CX0 1 T.f_l_mix T.fd_l_mix ["_law_script", "_law_seed"] (spMix K) := by
  refine T.F_l_mix.ok sc_l_mix (fun vs H Q E h => ?_) (fun cdv A outer s H vs Q E hr h => ?_)
  · obtain ⟨a, ns, z, rfl, _⟩ := h
    rfl
  · obtain ⟨a, ns, z, rfl, hS, hlen, k⟩ := h
    refine ⟨_, (pss_cons (ps_set (i := 2) sc_l_mix.nd rfl (Or.inl rfl) (pv 1))
      (pss_cons (ps_for PassesOwn.never rfl (pi_list (pv 0)) (pg_name (i := 3) sc_l_mix.nd rfl (Or.inl rfl)) (pss_one (ps_set (i := 2) sc_l_mix.nd rfl (Or.inl rfl) (pe_op op_mod (pe_op op_add (pe_op op_add (pe_op op_mul (pv 2) pe_int) (pe_op op_mod (pv 3) pe_int)) pe_int) pe_int))))
      (pss_one (ps_ret (pe_lst (pa_cons (pv 2) (pa_cons (pe_callTy call_list_of (by rfl) T.n_list (by decide +kernel) (pa_cons (pv 0) pa_nil)) (pa_cons pe_int pa_nil)))))))), ?_⟩
    rw [show L2.start N_l_mix [V.ref a, V.int z] = [some (V.ref a), some (V.int z), none, none] from rfl]
    simp? only []
    refine ⟨_, rfl, a, rfl, ⟨_, hS⟩, for_list (K := K) (a := a) (xs := ns.map V.int) (fun i σ H2 => ∃ (y : Int) (v : Option V), σ = [some (.ref a), some (.int z), some (.int y), v] ∧ H2 = H) ⟨z, none, rfl, rfl⟩ (fun i σ H2 _ ⟨_, _, _, e⟩ => by rw [e]; exact hS) ?_ ?_⟩
    · rintro i y σ H2 hi ⟨z, v, rfl, rfl⟩
      obtain ⟨c, _, rfl⟩ := int_at hi
      simp? only []
    · rintro σ H2 ⟨y, v, rfl, rfl⟩
      simp? only []
      refine ⟨_, .inl hS, fun l hl p hp => ?_⟩
      have nlp : l ≠ p := ne_of_none (H := upd H2 l (.lst (ns.map V.int))) upd_same hp
      refine k _ _ l ((same_new hl).free hp) hl ((same_new hl).trans (same_new hp)) ⟨y, ns, 0, upd_same, ?_, hlen⟩
      rw [upd_ne nlp, upd_same]
theorem ok_l_next (T : Txt K mg) : FnOk P w K mg base CX0 1 T.f_l_next T.fd_l_next ["_law_h", "_law_many"] spNext := by
  refine T.F_l_next.ok sc_l_next (fun vs H Q E h => ?_) (fun cdv A outer s H vs Q E hr h => ?_)
  · obtain ⟨h, l, n, rfl, _⟩ := h
    rfl
  · obtain ⟨h, l, n, rfl, B, n0, n1, k⟩ := h
    have nhl := B.ne
    obtain ⟨m, ns, pl, e1, e2, hlen⟩ := id B
    refine ⟨_, (pss_cons (ps_set (i := 2) sc_l_next.nd rfl (Or.inl rfl) (pe_ix ix_lst (pe_op op_cat (pe_ix ix_lst (pv 0) pe_int (fun _ _ => rfl)) (pe_lst (pa_cons pe_int pa_nil))) (pe_op op_mod (pe_ix ix_lst (pv 0) pe_int (fun _ _ => rfl)) (pe_callB (call_max2 rfl) (by rfl) T.n_max (by decide +kernel) (pa_cons pe_int (pa_cons (pe_callB len_lst (by rfl) T.n_len PySem.boot_len (pa_cons (pe_ix ix_lst (pv 0) pe_int (fun _ _ => rfl)) pa_nil)) pa_nil)))) (fun _ _ => rfl)))
      (pss_cons (ps_if (pt_cmpR op_ge (pv 2) (pe_op op_pow pe_int pe_int) (nomark _)) (pss_cons (ps_asg (pe_op op_fdiv (pv 2) (pv 1)) (pg_sub (pe_ix ix_lst (pv 0) pe_int (fun _ _ => rfl)) (pe_op op_mod (pe_ix ix_lst (pv 0) pe_int (fun _ _ => rfl)) (pe_callB len_lst (by rfl) T.n_len PySem.boot_len (pa_cons (pe_ix ix_lst (pv 0) pe_int (fun _ _ => rfl)) pa_nil))) set_list))
        (pss_one (ps_ret (pe_op op_mod (pv 2) (pv 1))))) pss_nil)
      (pss_cons (ps_asg (pe_op op_mod (pe_op op_add (pe_op op_add (pe_op op_mul (pe_ix ix_lst (pv 0) pe_int (fun _ _ => rfl)) pe_int) (pe_op op_mul (pv 2) pe_int)) pe_int) pe_int) (pg_sub (pv 0) pe_int set_list))
      (pss_cons (ps_asg (pe_op op_add (pe_ix ix_lst (pv 0) pe_int (fun _ _ => rfl)) pe_int) (pg_sub (pv 0) pe_int set_list))
      (pss_one (ps_ret (pe_op op_mod (pe_op op_fdiv (pe_ix ix_lst (pv 0) pe_int (fun _ _ => rfl)) pe_int) (pv 1)))))))), ?_⟩
    rw [show L2.start N_l_next [V.ref h, V.int n] = [some (V.ref h), some (V.int n), none] from rfl]
    simp? only [rCat, e1]
    intro p hp
    have nh : h ≠ p := ne_of_none e1 hp
    have nl : l ≠ p := ne_of_none e2 hp
    simp? only [e1, upd_ne nl, e2]
    refine ⟨szl (by omega), fun q hq => ?_⟩
    have f1 : upd H p (.lst [V.int 0]) h = _ := (upd_ne nh).trans e1
    have f2 : upd H p (.lst [V.int 0]) l = _ := (upd_ne nl).trans e2
    have nhq : h ≠ q := ne_of_none f1 hq
    have nlq : l ≠ q := ne_of_none f2 hq
    obtain ⟨c, hc, hcj⟩ := cell_at ns pl
    have kp : Keep [h, l] H (upd (upd H p (.lst [V.int 0])) q (.lst (ns.map V.int ++ [V.int 0]))) := (Keep.new hp).thenNew hq
    simp? only [upd_ne nhq, upd_ne nlq, f1, f2, hc]
    refine ⟨by split <;> omega, ?_⟩
    by_cases hbig : 1000000000000000000 ≤ c
    · obtain ⟨g0, j, g1, g2, g3⟩ := hcj (by omega)
      have hix : ixN ns.length (pl % (ns.length : Int)) = some j := ixN_j g2 g1
      simp? only [hbig, hix]
      refine ⟨n0, n1, g0, n0, k _ _ (Int.emod_nonneg _ (by omega)) (Int.emod_lt_of_pos _ n0) ⟨m, ns.set j (c / n), pl, ?_, ?_, by rw [List.length_set]; exact hlen⟩ (kp.upd (by simp))⟩
      · rw [upd_ne nhl, upd_ne nhq, f1]
      · rw [upd_same, List.map_set]
    · simp? only [hbig]
      exact ⟨n0, k _ _ (Int.emod_nonneg _ (by omega)) (Int.emod_lt_of_pos _ n0) ⟨_, ns, _, upd_same, by rw [upd_ne nhl.symm, upd_ne nlq, f2], hlen⟩ (kp.upd (by simp))⟩
end

def spNumber : Sp := fun vs H Q _ => ∃ (h l : Addr), vs = [.ref h] ∧ BoxB H h l ∧ ∀ r H', -1000 ≤ r → r ≤ 1000 → BoxB H' h l → Keep [h, l] H H' → Q (.int r) H'
section
variable {P : Program} {w : World} {K : PySem.W.Frag} {mg : Str → Option Value} {base : Heap}
theorem ok_l_number (T : Txt K mg) : FnOk P w K mg base CX0 2 T.f_l_number T.fd_l_number ["_law_h"] spNumber := by
  have G_l_next : FnOk P w K mg base CX0 1 T.f_l_next T.fd_l_next ["_law_h", "_law_many"] spNext := ok_l_next T
  refine T.F_l_number.ok sc_l_number (fun vs H Q E h => ?_) (fun cdv A outer s H vs Q E hr h => ?_)
  · obtain ⟨h, l, rfl, _⟩ := h
    rfl
  · obtain ⟨h, l, rfl, B, k⟩ := h
    refine ⟨_, (pss_one (ps_ret (pe_ix ix_lst (pe_lst (pa_cons (pe_call G_l_next (hr.mono (by decide)) rfl T.mg_l_next T.F_l_next.kp T.b_l_next .nil pass0 (pa_cons (pv 0) (pa_cons pe_int pa_nil))) (pa_cons (pe_op op_sub (pe_call G_l_next (hr.mono (by decide)) rfl T.mg_l_next T.F_l_next.kp T.b_l_next .nil pass0 (pa_cons (pv 0) (pa_cons pe_int pa_nil))) pe_int) (pa_cons (pe_op op_sub (pe_call G_l_next (hr.mono (by decide)) rfl T.mg_l_next T.F_l_next.kp T.b_l_next .nil pass0 (pa_cons (pv 0) (pa_cons pe_int pa_nil))) pe_int) pa_nil)))) (pe_op op_fdiv (pe_call G_l_next (hr.mono (by decide)) rfl T.mg_l_next T.F_l_next.kp T.b_l_next .nil pass0 (pa_cons (pv 0) (pa_cons pe_int pa_nil))) pe_int) (fun _ _ => rfl)))), ?_⟩
    rw [show L2.start N_l_number [V.ref h] = [some (V.ref h)] from rfl]
    simp? only []
    refine ⟨h, l, 6, rfl, B, by decide, by decide, fun r1 H1 a0 a1 B1 k1 => ?_⟩
    refine ⟨h, l, 13, rfl, B1, by decide, by decide, fun r2 H2 b0 b1 B2 k2 => ?_⟩
    simp? only []
    refine ⟨h, l, 2000, rfl, B2, by decide, by decide, fun r3 H3 c0 c1 B3 k3 => ?_⟩
    simp? only []
    intro p hp
    have np : p ∉ [h, l] := (B3.free hp)
    refine ⟨h, l, 7, rfl, B3.same (same_new hp), by decide, by decide, fun r4 H4 d0 d1 B4 k4 => ?_⟩
    have e4 := k4 _ _ np upd_same
    have kk : Keep [h, l] H H4 := ((((k1.trans k2).trans k3).thenNew hp).trans k4)
    simp? only [e4]
    have hd : r4 / 3 = 0 ∨ r4 / 3 = 1 ∨ r4 / 3 = 2 := by omega
    rcases hd with e | e | e <;> rw [e] <;> simp? only []
    · exact k _ _ (by omega) (by omega) B4 kk
    · exact k _ _ (by omega) (by omega) B4 kk
    · exact k _ _ (by omega) (by omega) B4 kk
end

/-! ### tables and fields -/
abbrev Sh := Str × Addr × List Str
structure SH (H : Hp) (d : Addr) (es : List Sh) : Prop where
  at_ : H d = some (.dK (es.map fun e => (Sum.inr e.1, V.ref e.2.1)))
  tups : ∀ e ∈ es, tpO (H e.2.1) = some (e.2.2.map V.str)
  oks : ∀ e ∈ es, PyData.strOk e.1 = true ∧ ∀ s ∈ e.2.2, PyData.strOk s = true
  few : es.length ≤ 3 ∧ ∀ e ∈ es, e.2.2.length ≤ 4 ∧ 0 < e.2.2.length
  nd : (es.map (·.1)).Nodup
  zz : ∀ e ∈ es, (e.1 ≠ (Str.ofString "") ∧ e.1 ∉ Nm.lawW) ∧ ∀ s ∈ e.2.2, s ≠ (Str.ofString "")
theorem tpO_keep {H H' : Hp} {ms : List Addr} {a : Addr} {xs : List V} (h : tpO (H a) = some xs) (k : Keep ms H H') (n : a ∉ ms) : tpO (H' a) = some xs := by
  cases e : H a with
  | none => rw [e] at h; cases h
  | some o => rw [k a o n e, ← e]; exact h
theorem tpO_same {H H' : Hp} {a : Addr} {xs : List V} (h : tpO (H a) = some xs) (k : Same H H') : tpO (H' a) = some xs := tpO_keep (ms := []) h (Keep.ofSame k) (by simp)
theorem tpO_notin {H : Hp} {h l a : Addr} {xs : List V} (B : BoxB H h l) (e : tpO (H a) = some xs) : a ∉ [h, l] := fun m => by
  obtain ⟨m0, ns, st, b1, b2, _⟩ := B
  simp only [List.mem_cons, List.mem_nil_iff, or_false] at m
  rcases m with rfl | rfl
  · rw [b1] at e; cases e
  · rw [b2] at e; cases e
theorem tpO_ne {H : Hp} {a p : Addr} {xs : List V} (e : tpO (H a) = some xs) (h : H p = none) : a ≠ p := fun z => by rw [z, h] at e; cases e
theorem SH.keepB {H H' : Hp} {h l d : Addr} {es : List Sh} (S : SH H d es) (B : BoxB H h l) (k : Keep [h, l] H H') : SH H' d es :=
  ⟨k _ _ (B.notin S.at_ (by intro xs q; cases q)) S.at_, fun e he => tpO_keep (S.tups e he) k (tpO_notin B (S.tups e he)), S.oks, S.few, S.nd, S.zz⟩
theorem SH.same {H H' : Hp} {d : Addr} {es : List Sh} (S : SH H d es) (k : Same H H') : SH H' d es :=
  ⟨k _ _ S.at_, fun e he => tpO_same (S.tups e he) k, S.oks, S.few, S.nd, S.zz⟩
theorem SH.look {H : Hp} {d : Addr} {es : List Sh} (S : SH H d es) : ∀ {t : Str}, t ∈ es.map (·.1) → ∃ e ∈ es, e.1 = t ∧ valV (es.map fun e => ((Sum.inr e.1 : Key), V.ref e.2.1)) (Sum.inr t) = some (.ref e.2.1) := by
  intro t ht
  clear S
  induction es with
  | nil => simp at ht
  | cons a r ih =>
    by_cases e : a.1 = t
    · exact ⟨a, List.mem_cons_self, e, valV_pos (congrArg Sum.inr e)⟩
    · rw [List.map_cons] at ht
      rcases List.mem_cons.mp ht with z | z
      · exact absurd z.symm e
      · obtain ⟨b, hb, h1, h2⟩ := ih z
        exact ⟨b, List.mem_cons_of_mem _ hb, h1, by rw [List.map_cons, valV_neg (fun q => e (Sum.inr.inj q))]; exact h2⟩
def nmT : Nat → Str
  | 0 => "ta"
  | 1 => "tb"
  | _ => "tc"
theorem nmT_at : ∀ k : Nat, k < 3 → ∃ c, atI (Str.ofString "abc").cps.toList (k : Int) = some c ∧ Str.ofString "t" ++ (⟨#[c]⟩ : Str) = nmT k
  | 0, _ => ⟨_, rfl, rfl⟩
  | 1, _ => ⟨_, rfl, rfl⟩
  | 2, _ => ⟨_, rfl, rfl⟩
  | n + 3, h => absurd h (by omega)
theorem len_tc (c) : (Str.ofString "t").length + (⟨#[c]⟩ : Str).length ≤ sizeLine := szl (Nat.le_of_ble_eq_true rfl)
theorem nmT_inj : ∀ a b : Nat, a < 3 → b < 3 → nmT a = nmT b → a = b := by
  intro a b ha hb h
  match a, b, ha, hb with
  | 0, 0, _, _ => rfl
  | 1, 1, _, _ => rfl
  | 2, 2, _, _ => rfl
  | 0, 1, _, _ => exact absurd h (by decide +kernel)
  | 0, 2, _, _ => exact absurd h (by decide +kernel)
  | 1, 0, _, _ => exact absurd h (by decide +kernel)
  | 1, 2, _, _ => exact absurd h (by decide +kernel)
  | 2, 0, _, _ => exact absurd h (by decide +kernel)
  | 2, 1, _, _ => exact absurd h (by decide +kernel)
theorem nmT_ok : ∀ a : Nat, PyData.strOk (nmT a) = true
  | 0 => by decide +kernel
  | 1 => by decide +kernel
  | n + 2 => by show PyData.strOk "tc" = true; decide +kernel
theorem nmT_zz : ∀ a : Nat, nmT a ≠ (Str.ofString "") ∧ nmT a ∉ Nm.lawW
  | 0 => by decide +kernel
  | 1 => by decide +kernel
  | n + 2 => by show (Str.ofString "tc") ≠ Str.ofString "" ∧ (Str.ofString "tc") ∉ Nm.lawW; decide +kernel
theorem nmT_nd : ∀ n : Nat, n ≤ 3 → ((List.range n).map nmT).Nodup
  | 0, _ => by decide +kernel
  | 1, _ => by decide +kernel
  | 2, _ => by decide +kernel
  | 3, _ => by decide +kernel
  | n + 4, h => absurd h (by omega)
def spShapes : Sp := fun vs H Q _ => ∃ (h l : Addr) (n : Int), vs = [.ref h, .int n] ∧ BoxB H h l ∧ 0 < n ∧ n ≤ 3 ∧ ∀ d es H', SH H' d es → 0 < es.length → H d = none → BoxB H' h l → Keep [h, l] H H' → Q (.ref d) H'
def spSome : Sp := fun vs H Q _ => ∃ (h d ta : Addr) (es : List Sh) (ts : List Str), vs = [.ref h, .ref d, .ref ta] ∧ SH H d es ∧ H ta = some (.lst (ts.map V.str)) ∧ ts.length ≤ 3 ∧ (∀ t ∈ ts, t ∈ es.map (·.1)) ∧
  ∀ a ps H', RF H' a ps → NZ ps → ps.length ≤ 100 → H a = none → Same H H' → Q (.ref a) H'
def spTerm (d : Nat) : Sp := fun vs H Q _ => ∃ (h l fa : Addr) (ps : List Fd), vs = [.ref h, .ref fa, .int d] ∧ BoxB H h l ∧ RF H fa ps ∧ NZ ps ∧ ps.length ≤ 100 ∧ fa ∉ [h, l] ∧
  ∀ v t H', RT H' v t → t.ok = true → nzF t → t.lim → t.deep ≤ d + 1 → BoxB H' h l → Keep [h, l] H H' → Q v H'
def spCond (d : Nat) : Sp := fun vs H Q _ => ∃ (h l fa : Addr) (ps : List Fd), vs = [.ref h, .ref fa, .int d] ∧ BoxB H h l ∧ RF H fa ps ∧ NZ ps ∧ ps.length ≤ 100 ∧ fa ∉ [h, l] ∧
  ∀ v t H', RC H' v t → GN t d (2 ^ d) → BoxB H' h l → Keep [h, l] H H' → Q v H'
section
variable {P : Program} {w : World} {K : PySem.W.Frag} {mg : Str → Option Value} {base : Heap}
theorem ok_l_shapes (T : Txt K mg) : FnOk P w K mg base CX0 2 T.f_l_shapes T.fd_l_shapes ["_law_h", "_law_many"] spShapes := by
  have G_l_next : FnOk P w K mg base CX0 1 T.f_l_next T.fd_l_next ["_law_h", "_law_many"] spNext := ok_l_next T
  refine T.F_l_shapes.ok sc_l_shapes (fun vs H Q E h => ?_) (fun cdv A outer s H vs Q E hr h => ?_)
  · obtain ⟨h, l, n, rfl, _⟩ := h
    rfl
  · have hu := hu_of hr
    obtain ⟨h, l, n, rfl, B, n0, n1, k⟩ := h
    refine ⟨_, (pss_cons (ps_set (i := 2) sc_l_shapes.nd rfl (Or.inl rfl) pe_dnewK)
      (pss_cons (ps_for PassesOwn.never rfl (pi_range1 rfl T.n_range (pa_cons (pe_op op_add pe_int (pe_call G_l_next (hr.mono (by decide)) rfl T.mg_l_next T.F_l_next.kp T.b_l_next .nil pass0 (pa_cons (pv 0) (pa_cons (pv 1) pa_nil)))) pa_nil)) (pg_name (i := 3) sc_l_shapes.nd rfl (Or.inl rfl)) (pss_one (ps_put hu (pv 2) (pe_op op_add_str pe_str (pe_ix ix_str pe_str (pv 3) (fun _ _ => rfl))) (pe_slice sl_tupF (pe_tup (pa_cons pe_str (pa_cons pe_str (pa_cons pe_str (pa_cons pe_str pa_nil))))) po_none (po_some (pe_op op_add pe_int (pe_call G_l_next (hr.mono (by decide)) rfl T.mg_l_next T.F_l_next.kp T.b_l_next .nil pass0 (pa_cons (pv 0) (pa_cons pe_int pa_nil)))))) rfl)))
      (pss_one (ps_ret (pv 2))))), ?_⟩
    rw [show L2.start N_l_shapes [V.ref h, V.int n] = [some (V.ref h), some (V.int n), none, none] from rfl]
    simp? only [tDNewK]
    intro d hd
    have nd : d ∉ [h, l] := B.free hd
    simp? only [tFor_eq, iRng1]
    refine ⟨h, l, n, rfl, B.same (same_new hd), n0, by omega, fun r H1 r0 r1 B1 k1 => ?_⟩
    have e1 := k1 _ _ nd upd_same
    simp? only []
    refine ⟨by omega, by omega, forB_it (for_it walk_range (fun i σ H2 => ∃ es x3, σ = [some (.ref h), some (.int n), some (.ref d), x3] ∧ es.map (·.1) = (List.range i).map nmT ∧ SH H2 d es ∧ BoxB H2 h l ∧ Keep [h, l] H H2)
      ⟨[], none, rfl, rfl, ⟨e1, fun e he => absurd he (by simp), fun e he => absurd he (by simp), by simp, List.nodup_nil, fun e he => absurd he (by simp)⟩, B1, (Keep.new hd).trans k1⟩ (fun _ _ _ _ _ => trivial) ?_ ?_)⟩
    · rintro i x σ H2 H3 hi ⟨es, x3, rfl, en, S, B2, k2⟩ ⟨rfl, rfl⟩
      have hi3 : i < 3 := by omega
      obtain ⟨ch, hc1, hc2⟩ := nmT_at i hi3
      have nv : valV (es.map fun e => ((Sum.inr e.1 : Key), V.ref e.2.1)) (Sum.inr (nmT i)) = none := by
        cases hv : valV (es.map fun e => ((Sum.inr e.1 : Key), V.ref e.2.1)) (Sum.inr (nmT i)) with
        | none => rfl
        | some z =>
          have q := valV_in hv
          rw [List.map_map] at q
          obtain ⟨e, he, hq⟩ := List.mem_map.mp q
          have hm : e.1 ∈ es.map (·.1) := List.mem_map.mpr ⟨e, he, rfl⟩
          rw [en] at hm
          obtain ⟨j, hj, hj2⟩ := List.mem_map.mp hm
          have hj := List.mem_range.mp hj
          have := nmT_inj j i (by omega) hi3 (hj2.trans (Sum.inr.inj hq))
          omega
      have el : es.length = i := by have := congrArg List.length en; simpa using this
      have fin : ∀ (H5 : Hp) (q : Addr) (fs : List Str), tpO (H5 q) = some (fs.map V.str) → (∀ s ∈ fs, PyData.strOk s = true ∧ s ≠ (Str.ofString "")) → (fs.length ≤ 4 ∧ 0 < fs.length) → Keep [h, l] H3 H5 → BoxB H5 h l →
          (es.map fun e => ((Sum.inr e.1 : Key), V.ref e.2.1)).length < sizeLine ∧ ∃ es', es'.map (·.1) = (List.range (i + 1)).map nmT ∧ SH (upd H5 d (.dK (putK (es.map fun e => (Sum.inr e.1, V.ref e.2.1)) (Sum.inr (nmT i)) (.ref q)))) d es' ∧
            BoxB (upd H5 d (.dK (putK (es.map fun e => (Sum.inr e.1, V.ref e.2.1)) (Sum.inr (nmT i)) (.ref q)))) h l ∧ Keep [h, l] H (upd H5 d (.dK (putK (es.map fun e => (Sum.inr e.1, V.ref e.2.1)) (Sum.inr (nmT i)) (.ref q)))) := by
        intro H5 q fs hq ho hf k5 B5
        have S5 := S.keepB B2 k5
        rw [putK_new _ nv]
        have nqd : q ≠ d := fun z => by rw [z, S5.at_] at hq; cases hq
        refine ⟨by rw [List.length_map]; exact szl' (by omega), es ++ [(nmT i, q, fs)], ?_, ⟨?_, ?_, ?_, ⟨?_, ?_⟩, ?_, ?_⟩, B5.updNot nd, (k2.trans k5).updFree hd⟩
        · rw [List.map_append, en, List.range_succ, List.map_append]; rfl
        · rw [upd_same, List.map_append]; rfl
        · intro e he
          rcases List.mem_append.mp he with he | he
          · have t5 := S5.tups e he
            have ne : e.2.1 ≠ d := fun z => by rw [z, S5.at_] at t5; cases t5
            rw [upd_ne ne]; exact t5
          · cases List.mem_singleton.mp he
            rw [upd_ne nqd]; exact hq
        · intro e he
          rcases List.mem_append.mp he with he | he
          · exact S.oks e he
          · cases List.mem_singleton.mp he
            exact ⟨nmT_ok i, fun s hs => (ho s hs).1⟩
        · rw [List.length_append, el]; simp; omega
        · intro e he
          rcases List.mem_append.mp he with he | he
          · exact S.few.2 e he
          · cases List.mem_singleton.mp he
            exact hf
        · have z : (es ++ [((nmT i, q, fs) : Sh)]).map (·.1) = (List.range (i + 1)).map nmT := by rw [List.map_append, en, List.range_succ, List.map_append]; rfl
          rw [z]
          exact nmT_nd (i + 1) (by omega)
        · intro e he
          rcases List.mem_append.mp he with he | he
          · exact S.zz e he
          · cases List.mem_singleton.mp he
            exact ⟨nmT_zz i, fun s hs => (ho s hs).2⟩
      have fok : ∀ s ∈ (["k", "x", "y", "z"] : List Str), PyData.strOk s = true ∧ s ≠ (Str.ofString "") := by decide +kernel
      simp? only [gName]
      intro p hp
      have np := B2.free hp
      refine ⟨h, l, 4, rfl, B2.same (same_new hp), by decide, by decide, fun r2 H4 c0 c1 B4 k4 => ?_⟩
      have e4 := k4 _ _ np upd_same
      have k34 : Keep [h, l] H3 H4 := (Keep.new hp).trans k4
      have d4 := (S.keepB B2 k34).at_
      simp? only [e4]
      refine ⟨fun _ => ⟨_, _, ch, rfl, rfl, szl (by decide +kernel), by rw [Int.zero_add]; exact hc1, _, rfl, len_tc ch, ?_⟩, fun _ q oq hq qc qd => ⟨_, _, ch, rfl, rfl, szl (by decide +kernel), by rw [Int.zero_add]; exact hc1, _, rfl, len_tc ch, ?_⟩⟩
      · rw [hc2]
        exact ⟨_, d4, fin H4 p ["k", "x", "y", "z"] (by rw [e4]; rfl) fok (by decide) k34 B4⟩
      · rw [hc2]
        have nqd : d ≠ q := ne_of_none d4 hq
        refine ⟨_, (upd_ne nqd).trans d4, fin _ q ((["k", "x", "y", "z"] : List Str).take (1 + r2).toNat) ?_ (fun s hs => fok s (List.mem_of_mem_take hs)) (by rw [List.length_take]; refine ⟨Nat.min_le_right _ _, ?_⟩; show 0 < min (1 + r2).toNat 4; omega) (k34.thenNew hq) (B4.same (same_new hq))⟩
        have hsx : HT.sIx 4 4 (some (1 + r2)) = (1 + r2).toNat := by
          unfold HT.sIx
          dsimp only
          rw [if_neg (by omega)]
          omega
        rw [upd_same]
        unfold cutV
        rw [HT.sIx_none]
        show some (List.take (HT.sIx 4 4 (some (1 + r2)) - 0) [V.str "k", V.str "x", V.str "y", V.str "z"]) = _
        rw [hsx, List.map_take]
        rfl
    · rintro σ H2 ⟨es, x3, rfl, en, S, B2, k2⟩
      simp? only []
      have el := congrArg List.length en
      rw [List.length_map, List.length_map, List.length_range] at el
      exact k _ es _ S (by omega) hd B2 k2
theorem ok_l_some (T : Txt K mg) : FnOk P w K mg base CX0 1 T.f_l_some T.fd_l_some ["_law_h", "_law_shapes_here", "_law_tables"] spSome := by
  refine T.F_l_some.ok sc_l_some (fun vs H Q E h => ?_) (fun cdv A outer s H vs Q E hr h => ?_)
  · obtain ⟨h, d, ta, es, ts, rfl, _⟩ := h
    rfl
  · have hu := hu_of hr
    obtain ⟨h, d, ta, es, ts, rfl, S, hta, hl, hts, k⟩ := h
    refine ⟨_, (pss_cons (ps_set (i := 3) sc_l_some.nd rfl (Or.inl rfl) (pe_lst pa_nil))
      (pss_cons (ps_for PassesOwn.never rfl (pi_listK K rfl (pv 2)) (pg_name (i := 4) sc_l_some.nd rfl (Or.inr rfl)) (pss_one (ps_set (i := 3) sc_l_some.nd rfl (Or.inl rfl) (pe_op op_cat (pv 3) (pe_lc (own := [("_law_field", 5)]) (g := gName 5) (tt := tYes) rfl sc_l_some.nd (pi_tupK K rfl (pe_getI hu (pv 1) (pv 4) (fun _ _ => rfl))) (blkOk_by (N := N_l_some) (sc := defScope s_l_some) (by decide +kernel)) (fun _ _ _ _ _ => (pg_name (i := 5) sc_l_some.nd rfl (Or.inl rfl))) (fun _ _ _ _ _ => pts_nil) (fun _ _ _ _ _ => (pe_tup (pa_cons (pv 4) (pa_cons (pv 5) pa_nil)))))))))
      (pss_one (ps_ret (pv 3))))), ?_⟩
    rw [show L2.start N_l_some [V.ref h, V.ref d, V.ref ta] = [some (V.ref h), some (V.ref d), some (V.ref ta), none, none, none] from rfl]
    simp? only []
    intro a ha
    simp? only [tFor_eq, iList]
    refine ⟨⟨_, .inl (.inl (same_new ha _ _ hta))⟩, forB_it (for_it (walk_list (xs := ts.map V.str)) (fun i σ H2 => ∃ f ps x4, σ = [some (.ref h), some (.ref d), some (.ref ta), some (.ref f), x4, none] ∧ RF H2 f ps ∧ NZ ps ∧ ps.length ≤ 4 * i ∧ Same H H2 ∧ H f = none)
      ⟨a, [], none, rfl, ⟨upd_same, fun e he => absurd he (by simp), fun e he => absurd he (by simp)⟩, fun e he => absurd he (by simp), by simp, same_new ha, ha⟩ (fun _ _ H2 _ ⟨_, _, _, _, _, _, _, S2, _⟩ => .inl (.inl (S2 _ _ hta))) ?_ ?_)⟩
    · rintro i x σ H2 H3 hi ⟨f, ps, x4, rfl, R, nzs, hlen, S2, hf⟩ ⟨rfl, hx⟩
      obtain ⟨t, ht, rfl⟩ := str_at hx
      obtain ⟨e, he, het, hev⟩ := (S.same S2).look (hts t (List.mem_of_getElem? ht))
      have hd2 := (S.same S2).at_
      have hev' := (S.same S2).tups e he
      simp? only [gName, tLc_eq, iTup, hd2, hev]
      refine ⟨⟨_, .inl (rd_tpO hev')⟩, lcB_it fun D hD => lc_it (walk_tup (xs := e.2.2.map V.str)) (fun j H5 => ∃ qs : List Fd, RF H5 D qs ∧ NZ qs ∧ qs.length = j ∧ Same H3 H5) ⟨[], ⟨upd_same, fun e he => absurd he (by simp), fun e he => absurd he (by simp)⟩, fun e he => absurd he (by simp), rfl, same_new hD⟩
        (fun _ H5 _ ⟨_, _, _, _, S5⟩ => .inl (rd_tpO (tpO_same hev' S5))) ?_ ?_⟩
      · rintro j x H5 H6 hj ⟨qs, RQ, nq, ql, S5⟩ ⟨rfl, hx⟩
        obtain ⟨s0, hs0, rfl⟩ := str_at hx
        rw [List.length_map] at hj
        simp? only [gName]
        intro p hp
        have nDp : D ≠ p := ne_of_none RQ.at_ hp
        simp? only [upd_ne nDp, RQ.at_]
        have e4 := (S.few.2 e he).1
        refine ⟨szl' (by omega), qs ++ [(p, t, s0)], ⟨?_, ?_, ?_⟩, fun e' he' => (List.mem_append.mp he').elim (nq e') (fun z => by cases List.mem_singleton.mp z; exact ⟨het ▸ (S.zz e he).1.1, (S.zz e he).2 s0 (List.mem_of_getElem? hs0)⟩), by rw [List.length_append, ql]; rfl, Same.updFree (S5.trans (same_new hp)) hD⟩
        · rw [upd_same, List.map_append]; rfl
        · intro e' he'
          rcases List.mem_append.mp he' with he' | he'
          · have t5 := RQ.tups e' he'
            rw [upd_ne (fun z => by rw [z, RQ.at_] at t5; cases t5), upd_ne (ne_of_none t5 hp)]
            exact t5
          · cases List.mem_singleton.mp he'
            rw [upd_ne nDp.symm, upd_same]
        · intro e' he'
          rcases List.mem_append.mp he' with he' | he'
          · exact RQ.oks e' he'
          · cases List.mem_singleton.mp he'
            exact ⟨het ▸ (S.oks e he).1, (S.oks e he).2 s0 (List.mem_of_getElem? hs0)⟩
      · rintro H5 ⟨qs, RQ, nq, ql, S5⟩
        rw [List.length_map] at ql
        have R5 := R.same S5
        simp? only [R5.at_, RQ.at_]
        have e4 := (S.few.2 e he).1
        rw [List.length_map] at hi
        refine ⟨szl (by omega), fun p hp => ⟨ps ++ qs, ⟨?_, ?_, ?_⟩, fun e' he' => (List.mem_append.mp he').elim (nzs e') (nq e'), by rw [List.length_append]; omega, (S2.trans S5).trans (same_new hp), (S2.trans S5).free hp⟩⟩
        · rw [upd_same, List.map_append]
        · intro e' he'
          rcases List.mem_append.mp he' with he' | he'
          · exact (R5.same (same_new hp)).tups e' he'
          · exact (RQ.same (same_new hp)).tups e' he'
        · intro e' he'
          rcases List.mem_append.mp he' with he' | he'
          · exact R.oks e' he'
          · exact RQ.oks e' he'

    · rintro σ H2 ⟨f, ps, x4, rfl, R, nzs, hlen, S2, hf⟩
      rw [List.length_map] at hlen
      simp? only []
      exact k _ ps _ R nzs (by omega) hf S2
theorem _root_.G7.RF.pick {H : Hp} {a : Addr} {ps : List Fd} {j : Int} (R : RF H a ps) (h0 : 0 ≤ j) (h1 : j < (ps.length : Int)) : ∃ f ∈ ps, atI (ps.map fun e => V.ref e.1) j = some (.ref f.1) := by
  have hl : j.toNat < ps.length := by omega
  refine ⟨ps[j.toNat], List.getElem_mem hl, ?_⟩
  rw [atN h0, List.getElem?_map, List.getElem?_eq_getElem hl]
  rfl
theorem pm_at : ∀ r : Int, 0 ≤ r → r < 3 → ∃ o : Wd, o.isOp = true ∧ ∃ c, atI (Str.ofString "+-*").cps.toList r = some c ∧ (⟨#[c]⟩ : Str) = o.s := by
  intro r h0 h1
  have e : r = 0 ∨ r = 1 ∨ r = 2 := by omega
  rcases e with rfl | rfl | rfl
  · exact ⟨.add, rfl, _, rfl, rfl⟩
  · exact ⟨.sub, rfl, _, rfl, rfl⟩
  · exact ⟨.mul, rfl, _, rfl, rfl⟩
theorem l_term_step (T : Txt K mg) (d : Nat) (sp0 : Sp) (G_l_term : FnOk P w K mg base CX0 (d + 2) T.f_l_term T.fd_l_term ["_law_h", "_law_fields", "_law_deep"] sp0) (h0 : ∀ e, d = e + 1 → sp0 = spTerm e) :
    FnOk P w K mg base CX0 (d + 3) T.f_l_term T.fd_l_term ["_law_h", "_law_fields", "_law_deep"] (spTerm d) := by
  have G_l_next : FnOk P w K mg base CX0 1 T.f_l_next T.fd_l_next ["_law_h", "_law_many"] spNext := ok_l_next T
  have G_l_number : FnOk P w K mg base CX0 2 T.f_l_number T.fd_l_number ["_law_h"] spNumber := ok_l_number T
  refine T.F_l_term.ok sc_l_term (fun vs H Q E h => ?_) (fun cdv A outer s H vs Q E hr h => ?_)
  · obtain ⟨h, l, fa, ps, rfl, _⟩ := h
    rfl
  · have hu64 := hu64_of hr
    obtain ⟨h, l, fa, ps, rfl, B, R, hz0, hps, nfa, k⟩ := h
    refine ⟨_, (pss_cons (ps_set (i := 3) sc_l_term.nd rfl (Or.inl rfl) (pe_call G_l_next (hr.mono (by show _ ≤ d + 2; omega)) rfl T.mg_l_next T.F_l_next.kp T.b_l_next .nil pass0 (pa_cons (pv 0) (pa_cons pe_int pa_nil))))
      (pss_cons (ps_if (PW.pt (pw_and (pt_cmpR op_lt (pv 3) pe_int (nomark _)) (pw_and1 (pt_cmpR op_gt (pv 2) pe_int (nomark _))))) (pss_one (ps_ret (pe_tup (pa_cons (pe_ix ix_str pe_str (pv 3) (fun _ _ => rfl)) (pa_cons (pe_call G_l_term (hr.mono (by show _ ≤ d + 2; omega)) rfl T.mg_l_term T.F_l_term.kp T.b_l_term .nil pass0 (pa_cons (pv 0) (pa_cons (pv 1) (pa_cons (pe_op op_sub (pv 2) pe_int) pa_nil)))) (pa_cons (pe_call G_l_term (hr.mono (by show _ ≤ d + 2; omega)) rfl T.mg_l_term T.F_l_term.kp T.b_l_term .nil pass0 (pa_cons (pv 0) (pa_cons (pv 1) (pa_cons (pe_op op_sub (pv 2) pe_int) pa_nil)))) pa_nil)))))) pss_nil)
      (pss_cons (ps_if (PW.pt (pw_or (pt_cmpR op_lt (pv 3) pe_int (nomark _)) (pw_or1 (pt_cmpR (op_eqDK K rfl hu64) (pv 1) (pe_lst pa_nil) (nomark _))))) (pss_one (ps_ret (pe_tup (pa_cons pe_str (pa_cons (pe_call G_l_number (hr.mono (by show _ ≤ d + 2; omega)) rfl T.mg_l_number T.F_l_number.kp T.b_l_number .nil pass0 (pa_cons (pv 0) pa_nil)) pa_nil))))) pss_nil)
      (pss_one (ps_ret (pe_op op_catH (pe_tup (pa_cons pe_str pa_nil)) (pe_ix ix_lst (pv 1) (pe_call G_l_next (hr.mono (by show _ ≤ d + 2; omega)) rfl T.mg_l_next T.F_l_next.kp T.b_l_next .nil pass0 (pa_cons (pv 0) (pa_cons (pe_callB len_lst (by rfl) T.n_len PySem.boot_len (pa_cons (pv 1) pa_nil)) pa_nil))) (fun _ _ => rfl)))))))), ?_⟩
    rw [show L2.start N_l_term [V.ref h, V.ref fa, V.int (d : Int)] = [some (V.ref h), some (V.ref fa), some (V.int (d : Int)), none] from rfl]
    simp? only []
    refine ⟨h, l, 8, rfl, B, by decide, by decide, fun r H1 r0 r1 B1 k1 => ?_⟩
    have R1 := R.keepB k1 B nfa
    simp? only []
    by_cases c : r < 3 ∧ 0 < (d : Int)
    · simp? only [c.1, c.2]
      obtain ⟨e, rfl⟩ : ∃ e, d = e + 1 := ⟨d - 1, by omega⟩
      cases h0 e rfl
      obtain ⟨o, ho, ch, hc1, hc2⟩ := pm_at r r0 c.1
      refine ⟨_, _, ch, rfl, rfl, szl (by decide +kernel), hc1, ?_⟩
      have ee : ((e + 1 : Nat) : Int) - 1 = e := by omega
      rw [hc2, ee]
      refine ⟨h, l, fa, ps, rfl, B1, R1, hz0, hps, nfa, fun v1 t1 H2 x1 o1 z1 l1 d1 B2 k2 => ?_⟩
      refine ⟨h, l, fa, ps, rfl, B2, R1.keepB k2 B1 nfa, hz0, hps, nfa, fun v2 t2 H3 x2 o2 z2 l2 d2 B3 k3 => ?_⟩
      simp? only []
      intro p hp
      have s3 := same_new (o := .tup [.str o.s, v1, v2]) hp
      refine k _ (.op o t1 t2) _ ⟨p, v1, v2, rfl, upd_same, (x1.tups (B2.tups k3)).tups (TupS.ofSame s3), x2.tups (TupS.ofSame s3)⟩ ?_ ⟨z1, z2⟩ ⟨l1, l2⟩ ?_ (B3.same s3) (((k1.trans k2).trans k3).thenNew hp)
      · simp only [Tm.ok, ho, o1, o2, Bool.and_true]
      · simp only [Tm.deep]; omega
    · have num : ∀ H2, BoxB H2 h l → Keep [h, l] H H2 → spNumber [V.ref h] H2 (fun x H1 => ∀ (p : Addr), H1 p = none → Q (V.ref p) (upd H1 p (HO.tup [V.str Wd.num.s, x]))) E0 := fun H2 B2 k2 =>
        ⟨h, l, rfl, B2, fun z H3 z0 z1 B3 k3 p hp => k _ (.num z) _ ⟨p, rfl, upd_same⟩ rfl trivial ⟨z0, z1⟩ (by simp [Tm.deep]) (B3.same (same_new hp)) ((k2.trans k3).thenNew hp)⟩
      have c' : ¬ r < 3 ∨ ¬ 0 < (d : Int) := by omega
      rcases c' with c | c
      all_goals
        simp? only [c, ite_self]
        by_cases c5 : r < 5
        · simp? only [c5]
          exact num _ B1 k1
        · simp? only [c5]
          intro p hp
          have R2 := R1.same (same_new (o := .lst []) hp)
          have B2 := B1.same (same_new (o := .lst []) hp)
          have k2 : Keep [h, l] H (upd H1 p (.lst [])) := k1.thenNew hp
          refine R2.eqNil upd_same ?_
          cases hps0 : ps.isEmpty with
          | true =>
            simp? only []
            exact num _ B2 k2
          | false =>
            simp? only []
            have pos : 0 < ps.length := by
              cases ps with
              | nil => cases hps0
              | cons _ _ => simp
            intro q hq
            have R3 := R2.same (same_new (o := .tup [V.str Wd.field.s]) hq)
            have B3 := B2.same (same_new (o := .tup [V.str Wd.field.s]) hq)
            have e3 := R3.at_
            simp? only [e3]
            refine ⟨h, l, _, rfl, B3, by omega, by omega, fun j H4 j0 j1 B4 k4 => ?_⟩
            have R4 := R3.keepB k4 B3 nfa
            have e4 := R4.at_
            have q4 := k4 _ _ (B2.free hq) upd_same
            obtain ⟨f, hf, hat⟩ := R4.pick j0 j1
            have t4 := R4.tups f hf
            simp? only [e4, q4, hat, t4]
            intro p hp
            exact k _ (.fld f.2.1 f.2.2) _ ⟨p, rfl, upd_same⟩ (by simp only [Tm.ok, (R4.oks f hf).1, (R4.oks f hf).2, Bool.and_true]) (hz0 f hf) trivial (by simp [Tm.deep]) (B4.same (same_new hp)) (((k2.thenNew hq).trans k4).thenNew hp)
theorem ok_l_term (T : Txt K mg) : ∀ d : Nat, FnOk P w K mg base CX0 (d + 3) T.f_l_term T.fd_l_term ["_law_h", "_law_fields", "_law_deep"] (spTerm d)
  | 0 => l_term_step T 0 (fun _ _ _ _ => False) (T.F_l_term.ok sc_l_term (fun vs H Q E h => h.elim) (fun cdv A outer s H vs Q E hr h => h.elim)) (fun e h => absurd h (by omega))
  | d + 1 => l_term_step T (d + 1) (spTerm d) (ok_l_term T d) (fun e h => by cases h; rfl)
theorem l_cond_step (T : Txt K mg) (d : Nat) (sp0 : Sp) (G_l_cond : FnOk P w K mg base CX0 (d + 5) T.f_l_cond T.fd_l_cond ["_law_h", "_law_fields", "_law_deep"] sp0) (h0 : ∀ e, d = e + 1 → sp0 = spCond e) :
    FnOk P w K mg base CX0 (d + 6) T.f_l_cond T.fd_l_cond ["_law_h", "_law_fields", "_law_deep"] (spCond d) := by
  have G_l_next : FnOk P w K mg base CX0 1 T.f_l_next T.fd_l_next ["_law_h", "_law_many"] spNext := ok_l_next T
  have G_l_term : FnOk P w K mg base CX0 4 T.f_l_term T.fd_l_term ["_law_h", "_law_fields", "_law_deep"] (spTerm 1) := ok_l_term T 1
  refine T.F_l_cond.ok sc_l_cond (fun vs H Q E h => ?_) (fun cdv A outer s H vs Q E hr h => ?_)
  · obtain ⟨h, l, fa, ps, rfl, _⟩ := h
    rfl
  · have hu64 := hu64_of hr
    obtain ⟨h, l, fa, ps, rfl, B, R, hz0, hps, nfa, k⟩ := h
    refine ⟨_, (pss_cons (ps_set (i := 3) sc_l_cond.nd rfl (Or.inl rfl) (pe_call G_l_next (hr.mono (by show _ ≤ d + 5; omega)) rfl T.mg_l_next T.F_l_next.kp T.b_l_next .nil pass0 (pa_cons (pv 0) (pa_cons pe_int pa_nil))))
      (Evl.pss_cut (ps_if (PW.pt (pw_and (pt_cmpR op_lt (pv 3) pe_int (nomark _)) (pw_and1 (pt_cmpR op_gt (pv 2) pe_int (nomark _))))) (Evl.pss_cut (ps_set (i := 4) sc_l_cond.nd rfl (Or.inl rfl) (pe_ix ix_lst (pe_lst (pa_cons pe_str (pa_cons pe_str (pa_cons pe_str (pa_cons pe_str pa_nil))))) (pv 3) (fun _ _ => rfl)))
        (Evl.pss_cut (ps_set (i := 5) sc_l_cond.nd rfl (Or.inl rfl) (pe_callTy tuple_lst (by rfl) T.n_tuple (by decide +kernel) (pa_cons (pe_lc (own := [("_law_k", 8)]) (g := gName 8) (tt := tYes) rfl sc_l_cond.nd (pi_range1 rfl T.n_range (pa_cons (pe_ifExp (pt_cmpR op_eq (pv 4) pe_str (nomark _)) pe_int pe_int) pa_nil)) (blkOk_by (N := N_l_cond) (sc := defScope s_l_cond) (by decide +kernel)) (fun _ _ _ _ _ => (pg_name (i := 8) sc_l_cond.nd rfl (Or.inl rfl))) (fun _ _ _ _ _ => pts_nil) (fun _ _ _ _ _ => (pe_call G_l_cond (hr.mono (by show _ ≤ d + 5; omega)) rfl T.mg_l_cond T.F_l_cond.kp T.b_l_cond .nil pass0 (pa_cons (pv 0) (pa_cons (pv 1) (pa_cons (pe_op op_sub (pv 2) pe_int) pa_nil)))))) pa_nil)))
        (pss_one (ps_ret (pe_op op_catH (pe_tup (pa_cons (pv 4) pa_nil)) (pv 5)))))) pss_nil)
      (Evl.pss_cut (ps_set (i := 4) sc_l_cond.nd rfl (Or.inl rfl) (pe_ix ix_lst (pe_lst (pa_cons pe_str (pa_cons pe_str (pa_cons pe_str (pa_cons pe_str (pa_cons pe_str pa_nil)))))) (pe_call G_l_next (hr.mono (by show _ ≤ d + 5; omega)) rfl T.mg_l_next T.F_l_next.kp T.b_l_next .nil pass0 (pa_cons (pv 0) (pa_cons pe_int pa_nil))) (fun _ _ => rfl)))
      (Evl.pss_cut (ps_if (PW.pt (pw_and (pt_cmpR op_gt (pe_call G_l_next (hr.mono (by show _ ≤ d + 5; omega)) rfl T.mg_l_next T.F_l_next.kp T.b_l_next .nil pass0 (pa_cons (pv 0) (pa_cons pe_int pa_nil))) pe_int (nomark _)) (pw_and1 (pt_cmpR (op_neDK K rfl hu64) (pv 1) (pe_lst pa_nil) (nomark _))))) (Evl.pss_cut (ps_set (i := 6) sc_l_cond.nd rfl (Or.inl rfl) (pe_op op_catH (pe_tup (pa_cons pe_str pa_nil)) (pe_ix ix_lst (pv 1) (pe_call G_l_next (hr.mono (by show _ ≤ d + 5; omega)) rfl T.mg_l_next T.F_l_next.kp T.b_l_next .nil pass0 (pa_cons (pv 0) (pa_cons (pe_callB len_lst (by rfl) T.n_len PySem.boot_len (pa_cons (pv 1) pa_nil)) pa_nil))) (fun _ _ => rfl))))
        (pss_cons (ps_set (i := 7) sc_l_cond.nd rfl (Or.inl rfl) (pe_tup (pa_cons (pv 6) (pa_cons (pe_tup (pa_cons pe_str (pa_cons (pe_call G_l_next (hr.mono (by show _ ≤ d + 5; omega)) rfl T.mg_l_next T.F_l_next.kp T.b_l_next .nil pass0 (pa_cons (pv 0) (pa_cons pe_int pa_nil))) pa_nil))) pa_nil))))
        (pss_one (ps_ret (pe_op op_catH (pe_tup (pa_cons (pv 4) pa_nil)) (pe_ifExp (pt_cmpR op_eq (pe_call G_l_next (hr.mono (by show _ ≤ d + 5; omega)) rfl T.mg_l_next T.F_l_next.kp T.b_l_next .nil pass0 (pa_cons (pv 0) (pa_cons pe_int pa_nil))) pe_int (nomark _)) (pv 7) (pe_revT (pv 7) (po_some (pe_un un_neg pe_int))))))))) pss_nil)
      (pss_one (ps_ret (pe_tup (pa_cons (pv 4) (pa_cons (pe_call G_l_term (hr.mono (by show _ ≤ d + 5; omega)) rfl T.mg_l_term T.F_l_term.kp T.b_l_term .nil pass0 (pa_cons (pv 0) (pa_cons (pv 1) (pa_cons pe_int pa_nil)))) (pa_cons (pe_call G_l_term (hr.mono (by show _ ≤ d + 5; omega)) rfl T.mg_l_term T.F_l_term.kp T.b_l_term .nil pass0 (pa_cons (pv 0) (pa_cons (pv 1) (pa_cons pe_int pa_nil)))) pa_nil)))))))))), ?_⟩
    rw [show L2.start N_l_cond [V.ref h, V.ref fa, V.int (d : Int)] = [some (V.ref h), some (V.ref fa), some (V.int (d : Int)), none, none, none, none, none, none] from rfl]
    simp? only []
    refine ⟨h, l, 8, rfl, B, by decide, by decide, fun r H1 r0 r1 B1 k1 => ?_⟩
    have R1 := R.keepB k1 B nfa
    simp? only []
    refine ⟨fun σ' H2 => σ' = [some (.ref h), some (.ref fa), some (.int (d : Int)), some (.int r), none, none, none, none, none] ∧ H2 = H1, ?_, ?_⟩
    · simp? only []
      by_cases c : r < 4
      · simp? only [c]
        by_cases c2 : 0 < (d : Int)
        · simp? only [c2]
          obtain ⟨e, rfl⟩ : ∃ e, d = e + 1 := ⟨d - 1, by omega⟩
          cases h0 e rfl
          have ee : ((e + 1 : Nat) : Int) - 1 = e := by omega
          refine ⟨fun σ' H2 => ∃ o : Wd, σ' = [some (.ref h), some (.ref fa), some (.int ((e + 1 : Nat) : Int)), some (.int r), some (.str o.s), none, none, none, none] ∧ (o = .not ∨ o.isCon = true) ∧ BoxB H2 h l ∧ Keep [h, l] H H2, ?_, ?_⟩
          · simp? only []
            intro p hp
            have B2 := B1.same (same_new (o := .lst [.str Wd.and.s, .str Wd.and.s, .str Wd.or.s, .str Wd.not.s]) hp)
            have k2 := k1.thenNew (o := .lst [.str Wd.and.s, .str Wd.and.s, .str Wd.or.s, .str Wd.not.s]) hp
            have er : r = 0 ∨ r = 1 ∨ r = 2 ∨ r = 3 := by omega
            rcases er with rfl | rfl | rfl | rfl
            · exact ⟨_, rfl, .and, rfl, .inr rfl, B2, k2⟩
            · exact ⟨_, rfl, .and, rfl, .inr rfl, B2, k2⟩
            · exact ⟨_, rfl, .or, rfl, .inr rfl, B2, k2⟩
            · exact ⟨_, rfl, .not, rfl, .inl rfl, B2, k2⟩
          rintro σ' H2 ⟨o, rfl, ho, B2, k2⟩
          have R2 := R.keepB k2 B nfa
          have main : ∀ n : Nat, n ≤ 2 → ∀ (Q' : VK), (∀ D H5 (es : List (V × G7.Cd)), es.length = n → (∀ e' ∈ es, RC H5 e'.1 e'.2 ∧ GN e'.2 e (2 ^ e)) → H5 D = some (.lst (es.map (·.1))) → BoxB H5 h l → Keep [h, l] H H5 → Q' (.ref D) H5) →
              lcB (Itr 0 n) (gName 8) tYes (tCall (spCond e) [] E0 (tCons (tVar 0) (tCons (tVar 1) (tCons (tOp (rI0 fun i j => V.int (i - j)) (tVar 2) (tC (V.int 1))) tNil)))) [8]
                [some (.ref h), some (.ref fa), some (.int ((e + 1 : Nat) : Int)), some (.int r), some (.str o.s), none, none, none, none] H2 Q' := by
            intro n hn Q' kq
            refine lcB_it fun D hD => ?_
            have nD := B2.free hD
            refine lc_it walk_range (fun i H5 => ∃ es : List (V × G7.Cd), es.length = i ∧ (∀ e' ∈ es, RC H5 e'.1 e'.2 ∧ GN e'.2 e (2 ^ e)) ∧ H5 D = some (.lst (es.map (·.1))) ∧ BoxB H5 h l ∧ Keep [h, l] H H5)
              ⟨[], rfl, fun e' he => absurd he (by simp), upd_same, B2.same (same_new hD), k2.thenNew hD⟩ (fun _ _ _ _ => trivial) ?_ ?_
            · rintro i x H5 H6 hi ⟨es, el, hes, eD, B5, k5⟩ ⟨rfl, rfl⟩
              simp? only [gName]
              rw [ee]
              refine ⟨h, l, fa, ps, rfl, B5, R.keepB k5 B nfa, hz0, hps, nfa, fun v t H6 xt gt B6 k6 => ?_⟩
              have e6 := k6 _ _ nD eD
              simp? only [e6]
              have hup : ∀ u, Mut (some u) → True := fun _ _ => trivial
              refine ⟨szl' (by omega), es ++ [(v, t)], by rw [List.length_append, el]; rfl, ?_, by rw [List.map_append]; rfl, B6.updNot nD, (k5.trans k6).updFree (free_keep k2 nD hD)⟩
              have ts : TupS H6 (upd H6 D (.lst (es.map (·.1) ++ [v]))) := TupS.refl.upd e6 (by intro xs q; cases q)
              intro e' he'
              rcases List.mem_append.mp he' with he' | he'
              · exact ⟨((hes e' he').1.tups (B5.tups k6)).tups ts, (hes e' he').2⟩
              · cases List.mem_singleton.mp he'
                exact ⟨xt.tups ts, gt⟩
            · rintro H5 ⟨es, el, hes, eD, B5, k5⟩
              exact kq D H5 es el hes eD B5 k5
          refine ⟨fun σ' H5 => ∃ (q : Addr) (es : List (V × G7.Cd)), σ' = [some (.ref h), some (.ref fa), some (.int ((e + 1 : Nat) : Int)), some (.int r), some (.str o.s), some (.ref q), none, none, none] ∧ es.length = (if o = .not then 1 else 2) ∧
            (∀ e' ∈ es, RC H5 e'.1 e'.2 ∧ GN e'.2 e (2 ^ e)) ∧ H5 q = some (.tup (es.map (·.1))) ∧ BoxB H5 h l ∧ Keep [h, l] H H5, ?_, ?_⟩
          · have fin : ∀ n : Nat, n = (if o = .not then 1 else 2) → ∀ D H5 (es : List (V × G7.Cd)), es.length = n → (∀ e' ∈ es, RC H5 e'.1 e'.2 ∧ GN e'.2 e (2 ^ e)) → H5 D = some (.lst (es.map (·.1))) → BoxB H5 h l → Keep [h, l] H H5 → ∀ q, H5 q = none →
                ∃ (es' : List (V × G7.Cd)), es'.length = (if o = .not then 1 else 2) ∧ (∀ e' ∈ es', RC (upd H5 q (.tup (es.map (·.1)))) e'.1 e'.2 ∧ GN e'.2 e (2 ^ e)) ∧ es.map (·.1) = es'.map (·.1) ∧ BoxB (upd H5 q (.tup (es.map (·.1)))) h l ∧ Keep [h, l] H (upd H5 q (.tup (es.map (·.1)))) :=
              fun n hn D H5 es el hes eD B5 k5 q hq => ⟨es, el.trans hn, fun e' he' => ⟨(hes e' he').1.tups (TupS.ofSame (same_new hq)), (hes e' he').2⟩, rfl, B5.same (same_new hq), k5.thenNew hq⟩
            simp? only [tLc_eq, iRng1]
            by_cases hn : o = .not
            · simp? only [hn]
              subst hn
              refine main 1 (by decide) _ fun D H5 es el hes eD B5 k5 => ?_
              simp? only [eD]
              intro q hq
              exact fin 1 rfl D H5 es el hes eD B5 k5 q hq
            · simp? only [hn]
              refine main 2 (by decide) _ fun D H5 es el hes eD B5 k5 => ?_
              simp? only [eD]
              intro q hq
              have q' := fin 2 (by rw [if_neg hn]) D H5 es el hes eD B5 k5 q hq
              rw [if_neg hn] at q'
              exact q'
          rintro σ' H5 ⟨q, es, rfl, el, hes, hq, B5, k5⟩
          simp? only []
          intro p hp
          have nq : q ≠ p := ne_of_none hq hp
          simp? only [upd_ne nq, hq]
          rcases ho with rfl | ho
          · rw [if_pos rfl] at el
            obtain ⟨e1, rfl⟩ : ∃ e1, es = [e1] := by
              match es, el with
              | [e1], _ => exact ⟨e1, rfl⟩
            simp? only []
            intro z hz
            obtain ⟨x1, g1⟩ := hes e1 (by simp)
            refine k _ (.neg e1.2) _ ⟨z, _, rfl, upd_same, x1.tups (TupS.ofSame ((same_new hp).trans (same_new hz)))⟩ ⟨g1.ok, g1.lim, Nat.succ_le_succ g1.high, Nat.le_trans g1.few (Nat.pow_le_pow_right (by decide) (Nat.le_succ e)), g1.nz, by have := g1.dp; simp only [Cd.deep]; omega⟩ ((B5.same (same_new hp)).same (same_new hz)) ((k5.thenNew hp).thenNew hz)
          · have hn : o ≠ .not := by rintro rfl; cases ho
            rw [if_neg hn] at el
            obtain ⟨e1, e2, rfl⟩ : ∃ e1 e2, es = [e1, e2] := by
              match es, el with
              | [e1, e2], _ => exact ⟨e1, e2, rfl⟩
            simp? only []
            intro z hz
            obtain ⟨x1, g1⟩ := hes e1 (by simp)
            obtain ⟨x2, g2⟩ := hes e2 (by simp)
            have st := TupS.ofSame ((same_new (o := .tup [.str o.s]) hp).trans (same_new (o := .tup [.str o.s, e1.1, e2.1]) hz))
            refine k _ (.con o e1.2 e2.2) _ ⟨z, _, _, rfl, upd_same, x1.tups st, x2.tups st⟩ ⟨?_, ⟨g1.lim, g2.lim⟩, ?_, ?_, ⟨g1.nz, g2.nz⟩, by have := g1.dp; have := g2.dp; simp only [Cd.deep]; omega⟩ ((B5.same (same_new hp)).same (same_new hz)) ((k5.thenNew hp).thenNew hz)
            · simp only [Cd.ok, ho, g1.ok, g2.ok, Bool.and_true]
            · have := g1.high
              have := g2.high
              simp only [Cd.high]; omega
            · have := g1.few
              have := g2.few
              simp only [Cd.leaves, Nat.pow_succ]; omega
        · simp? only [c2]
      · simp? only [c]
    rintro σ' H2 ⟨rfl, rfl⟩
    refine ⟨fun σ' H2 => ∃ o : Wd, σ' = [some (.ref h), some (.ref fa), some (.int (d : Int)), some (.int r), some (.str o.s), none, none, none, none] ∧ o.isCmp = true ∧ BoxB H2 h l ∧ Keep [h, l] H H2, ?_, ?_⟩
    · simp? only []
      intro p hp
      refine ⟨h, l, 5, rfl, B1.same (same_new hp), by decide, by decide, fun r2 H3 a0 a1 B3 k3 => ?_⟩
      have e3 := k3 _ _ (B1.free hp) upd_same
      simp? only [e3]
      have kk := (k1.thenNew (o := .lst [V.str Wd.eq.s, V.str Wd.lt.s, V.str Wd.gt.s, V.str Wd.le.s, V.str Wd.ge.s]) hp).trans k3
      have er : r2 = 0 ∨ r2 = 1 ∨ r2 = 2 ∨ r2 = 3 ∨ r2 = 4 := by omega
      rcases er with rfl | rfl | rfl | rfl | rfl
      · exact ⟨_, rfl, .eq, rfl, rfl, B3, kk⟩
      · exact ⟨_, rfl, .lt, rfl, rfl, B3, kk⟩
      · exact ⟨_, rfl, .gt, rfl, rfl, B3, kk⟩
      · exact ⟨_, rfl, .le, rfl, rfl, B3, kk⟩
      · exact ⟨_, rfl, .ge, rfl, rfl, B3, kk⟩
    rintro σ' H2 ⟨o, rfl, ho, B2, k2⟩
    have R2 := R.keepB k2 B nfa
    refine ⟨fun σ' H3 => σ' = [some (.ref h), some (.ref fa), some (.int (d : Int)), some (.int r), some (.str o.s), none, none, none, none] ∧ BoxB H3 h l ∧ Keep [h, l] H H3, ?_, ?_⟩
    · simp? only []
      refine ⟨h, l, 3, rfl, B2, by decide, by decide, fun r2 H3 a0 a1 B3 k3 => ?_⟩
      have R3 := R2.keepB k3 B2 nfa
      simp? only []
      by_cases c : 0 < r2
      · simp? only [c]
        intro p hp
        have R4 := R3.same (same_new (o := .lst []) hp)
        have B4 := B3.same (same_new (o := .lst []) hp)
        have k4 : Keep [h, l] H (upd H3 p (.lst [])) := (k2.trans k3).thenNew hp
        refine R4.neNil upd_same ?_
        cases hps0 : ps.isEmpty with
        | true =>
          simp? only []
          exact ⟨B4, k4⟩
        | false =>
          simp? only []
          have pos : 0 < ps.length := by
            cases ps with
            | nil => cases hps0
            | cons _ _ => simp
          refine ⟨fun σ' H5 => ∃ (q : Addr) (t f : Str), σ' = [some (.ref h), some (.ref fa), some (.int (d : Int)), some (.int r), some (.str o.s), none, some (.ref q), none, none] ∧ H5 q = some (.tup [.str Wd.field.s, .str t, .str f]) ∧ PyData.strOk t = true ∧ PyData.strOk f = true ∧ (t ≠ (Str.ofString "") ∧ f ≠ (Str.ofString "")) ∧ BoxB H5 h l ∧ Keep [h, l] H H5, ?_, ?_⟩
          · simp? only []
            intro q hq
            have R5 := R4.same (same_new (o := .tup [V.str Wd.field.s]) hq)
            have B5 := B4.same (same_new (o := .tup [V.str Wd.field.s]) hq)
            have k5 := k4.thenNew (o := .tup [V.str Wd.field.s]) hq
            have e5 := R5.at_
            simp? only [e5]
            refine ⟨h, l, _, rfl, B5, by omega, by omega, fun j H6 j0 j1 B6 k6 => ?_⟩
            have R6 := R5.keepB k6 B5 nfa
            have e6 := R6.at_
            have q6 := k6 _ _ (B4.free hq) upd_same
            obtain ⟨f, hf, hat⟩ := R6.pick j0 j1
            have t6 := R6.tups f hf
            simp? only [e6, q6, hat, t6]
            intro p' hp'
            exact ⟨(R6.oks f hf).1, (R6.oks f hf).2, (hz0 f hf).1, (hz0 f hf).2, B6.same (same_new hp'), (k5.trans k6).thenNew hp'⟩
          rintro σ' H5 ⟨q, t, f, rfl, hq, ht, hf, hnz, B5, k5⟩
          simp? only []
          refine ⟨h, l, 8, rfl, B5, by decide, by decide, fun n H6 n0 n1 B6 k6 => ?_⟩
          have q6 := k6 _ _ (B5.notin hq (by intro xs z; cases z)) hq
          simp? only []
          intro p1 hp1 p2 hp2 p3 hp3
          have nq1 : q ≠ p1 := ne_of_none q6 hp1
          have e1 := (upd_ne (o := .tup [.str Wd.num.s, .int n]) nq1).trans q6
          have nq2 : q ≠ p2 := ne_of_none e1 hp2
          have e2 := (upd_ne (o := .tup [.ref q, .ref p1]) nq2).trans e1
          have nq3 : q ≠ p3 := ne_of_none e2 hp3
          have e3 := (upd_ne (o := .tup [.str o.s]) nq3).trans e2
          have n12 : p1 ≠ p2 := ne_of_none upd_same hp2
          have f2 : upd (upd H6 p1 (.tup [.str Wd.num.s, .int n])) p2 (.tup [.ref q, .ref p1]) p1 = some (.tup [.str Wd.num.s, .int n]) := by rw [upd_ne n12, upd_same]
          have n13 : p1 ≠ p3 := ne_of_none f2 hp3
          have f3 := (upd_ne (o := .tup [.str o.s]) n13).trans f2
          have n23 : p2 ≠ p3 := ne_of_none upd_same hp3
          have g3 : upd (upd (upd H6 p1 (.tup [.str Wd.num.s, .int n])) p2 (.tup [.ref q, .ref p1])) p3 (.tup [.str o.s]) p2 = some (.tup [.ref q, .ref p1]) := by rw [upd_ne n23, upd_same]
          have sx := ((same_new (o := .tup [.str Wd.num.s, .int n]) hp1).trans (same_new (o := .tup [.ref q, .ref p1]) hp2)).trans (same_new (o := .tup [.str o.s]) hp3)
          have Bx := B6.same sx
          refine ⟨h, l, 2, rfl, Bx, by decide, by decide, fun m H7 m0 m1 B7 k7 => ?_⟩
          have kx := ((k5.trans k6).trans (Keep.ofSame sx)).trans k7
          have q7 := k7 _ _ (Bx.notin e3 (by intro xs z; cases z)) e3
          have p17 := k7 _ _ (Bx.notin f3 (by intro xs z; cases z)) f3
          have p27 := k7 _ _ (Bx.notin g3 (by intro xs z; cases z)) g3
          have p37 : H7 p3 = some (.tup [.str o.s]) := k7 _ _ (Bx.notin upd_same (by intro xs z; cases z)) upd_same
          simp? only []
          have bn : -1000 ≤ n ∧ n ≤ 1000 := by omega
          by_cases hm : m = 0
          · simp? only [hm, p37, p27]
            intro z hz
            have st := TupS.ofSame (same_new (o := .tup [.str o.s, .ref q, .ref p1]) hz)
            refine k _ (.cmp o (.fld t f) (.num n)) _ ⟨z, _, _, rfl, upd_same, ⟨q, rfl, st _ _ q7⟩, ⟨p1, rfl, st _ _ p17⟩⟩ ⟨?_, ⟨trivial, bn, by simp [Tm.deep], by simp [Tm.deep]⟩, Nat.zero_le _, Nat.one_le_two_pow, ⟨hnz, trivial⟩, by simp only [Cd.deep, Tm.deep]; omega⟩ (B7.same (same_new hz)) (kx.thenNew hz)
            simp only [Cd.ok, Tm.ok, ho, ht, hf, Bool.and_true]
          · simp? only [hm, tRevT, tUn, rU, p37, p27]
            rw [show [V.ref q, V.ref p1].reverse = [V.ref p1, V.ref q] from rfl]
            intro y hy
            have n3y : p3 ≠ y := ne_of_none p37 hy
            simp? only [upd_ne n3y, p37]
            intro z hz
            have st := TupS.ofSame ((same_new (o := .tup [.ref p1, .ref q]) hy).trans (same_new (o := .tup [.str o.s, .ref p1, .ref q]) hz))
            refine k _ (.cmp o (.num n) (.fld t f)) _ ⟨z, _, _, rfl, upd_same, ⟨p1, rfl, st _ _ p17⟩, ⟨q, rfl, st _ _ q7⟩⟩ ⟨?_, ⟨bn, trivial, by simp [Tm.deep], by simp [Tm.deep]⟩, Nat.zero_le _, Nat.one_le_two_pow, ⟨trivial, hnz⟩, by simp only [Cd.deep, Tm.deep]; omega⟩ ((B7.same (same_new hy)).same (same_new hz)) ((kx.thenNew hy).thenNew hz)
            simp only [Cd.ok, Tm.ok, ho, ht, hf, Bool.and_true]
      · simp? only [c]
        exact ⟨B3, k2.trans k3⟩
    rintro σ' H3 ⟨rfl, B3, k3⟩
    have R3 := R.keepB k3 B nfa
    simp? only []
    refine ⟨h, l, fa, ps, rfl, B3, R3, hz0, hps, nfa, fun v1 t1 H4 x1 o1 z1 l1 d1 B4 k4 => ?_⟩
    refine ⟨h, l, fa, ps, rfl, B4, R3.keepB k4 B3 nfa, hz0, hps, nfa, fun v2 t2 H5 x2 o2 z2 l2 d2 B5 k5 => ?_⟩
    simp? only []
    intro p hp
    have s3 := same_new (o := .tup [.str o.s, v1, v2]) hp
    refine k _ (.cmp o t1 t2) _ ⟨p, v1, v2, rfl, upd_same, (x1.tups (B4.tups k5)).tups (TupS.ofSame s3), x2.tups (TupS.ofSame s3)⟩ ⟨?_, ⟨l1, l2, by omega, by omega⟩, Nat.zero_le _, Nat.one_le_two_pow, ⟨z1, z2⟩, by simp only [Cd.deep, Tm.deep]; omega⟩ (B5.same s3) (((k3.trans k4).trans k5).thenNew hp)
    simp only [Cd.ok, ho, o1, o2, Bool.and_true]
theorem ok_l_cond (T : Txt K mg) : ∀ d : Nat, FnOk P w K mg base CX0 (d + 6) T.f_l_cond T.fd_l_cond ["_law_h", "_law_fields", "_law_deep"] (spCond d)
  | 0 => l_cond_step T 0 (fun _ _ _ _ => False) (T.F_l_cond.ok sc_l_cond (fun vs H Q E h => h.elim) (fun cdv A outer s H vs Q E hr h => h.elim)) (fun e h => absurd h (by omega))
  | d + 1 => l_cond_step T (d + 1) (spCond d) (ok_l_cond T d) (fun e h => by cases h; rfl)
end

theorem keys_str (es : List Sh) : (es.map fun e => ((Sum.inr e.1 : Key), V.ref e.2.1)).map (·.1) = (es.map (·.1)).map Sum.inr := by
  rw [List.map_map, List.map_map]
  rfl
def spAsk : Sp := fun vs H Q _ => ∃ (h l d : Addr) (es : List Sh), vs = [.ref h, .ref d] ∧ BoxB H h l ∧ SH H d es ∧ 0 < es.length ∧
  ∀ (a : Addr) (how : Str) (tm bys : List Nm.Tr) (ts : List Str) (co : Option Nm.Tr) (first : OI) (H' : Hp), RX H' (.ref a) (Nm.Sm.ask how tm ts co bys first).dx → Nm.SmOk (.ask how tm ts co bys first) → 0 < ts.length → (∀ t ∈ ts, t ∈ es.map (·.1)) → ts.Nodup →
    BoxB H' h l → Keep [h, l] H H' → Q (.ref a) H'
theorem _root_.G7.RF.updL {H : Hp} {a d : Addr} {ps : List Fd} {xs ys : List V} (R : RF H a ps) (h : H d = some (.lst xs)) (n : a ≠ d) : RF (upd H d (.lst ys)) a ps :=
  ⟨by rw [upd_ne n]; exact R.at_, fun e he => by rw [upd_ne (ne_of (R.tups e he) h (by intro z; cases z))]; exact R.tups e he, R.oks⟩
theorem eraseIdx_mapV {α β : Type} (f : α → β) : ∀ (l : List α) (i : Nat), (l.map f).eraseIdx i = (l.eraseIdx i).map f
  | [], _ => by simp
  | a :: r, 0 => rfl
  | a :: r, i + 1 => by
    show f a :: (r.map f).eraseIdx i = f a :: (r.eraseIdx i).map f
    rw [eraseIdx_mapV f r i]
theorem perm_erase {α : Type} : ∀ (l : List α) (i : Nat) (h : i < l.length), (l[i] :: l.eraseIdx i).Perm l
  | a :: r, 0, _ => List.Perm.refl _
  | a :: r, i + 1, h => (List.Perm.swap a (r[i]'(Nat.lt_of_succ_lt_succ h)) (r.eraseIdx i)).trans ((perm_erase r i (Nat.lt_of_succ_lt_succ h)).cons a)
theorem sz7 : 7 ≤ sizeLine := szl (by decide)
def spTermA : Sp := fun vs H Q E => ∃ d, d ≤ 2 ∧ spTerm d vs H Q E
section
variable {P : Program} {w : World} {K : PySem.W.Frag} {mg : Str → Option Value} {base : Heap}
theorem ok_l_ask (T : Txt K mg) : FnOk P w K mg base CX0 10 T.f_l_ask T.fd_l_ask ["_law_h", "_law_shapes_here"] spAsk := by
  have G_l_next : FnOk P w K mg base CX0 1 T.f_l_next T.fd_l_next ["_law_h", "_law_many"] spNext := ok_l_next T
  have G_l_some : FnOk P w K mg base CX0 1 T.f_l_some T.fd_l_some ["_law_h", "_law_shapes_here", "_law_tables"] spSome := ok_l_some T
  have G_l_term : FnOk P w K mg base CX0 5 T.f_l_term T.fd_l_term ["_law_h", "_law_fields", "_law_deep"] spTermA :=
    ⟨fun vs H Q E ⟨d, hd, q⟩ => (ok_l_term (P := P) (w := w) (base := base) T d).len vs H Q E q, fun A outer s H args us vs Q E hr he hb hv ⟨d, hd, hs⟩ => ((ok_l_term (P := P) (w := w) (base := base) T d).mono (show d + 3 ≤ 5 by omega)).run A outer s H args us vs Q E hr he hb hv hs⟩
  have G_l_cond : FnOk P w K mg base CX0 9 T.f_l_cond T.fd_l_cond ["_law_h", "_law_fields", "_law_deep"] (spCond 3) := ok_l_cond T 3
  refine T.F_l_ask.ok sc_l_ask (fun vs H Q E h => ?_) (fun cdv A outer s H vs Q E hr h => ?_)
  · obtain ⟨h, l, d, es, rfl, _⟩ := h
    rfl
  · have hu := hu_of hr
    have hu64 := hu64_of hr
    obtain ⟨h, l, d, es, rfl, B, S, el0, k⟩ := h
    refine ⟨_, (pss_cons (ps_set (i := 2) sc_l_ask.nd rfl (Or.inr rfl) (pe_callB (sorted_dic rfl) (by rfl) T.n_sorted (by decide +kernel) (pa_cons (pv 1) pa_nil)))
      (Evl.pss_cut (ps_setLc (i := 3) (own := [("_law_k", 11)]) (g := gName 11) (tt := tYes) rfl sc_l_ask.nd rfl rfl (sw_true rfl rfl rfl (by decide +kernel)) (pi_range1 rfl T.n_range (pa_cons (pe_op op_add pe_int (pe_call G_l_next (hr.mono (by decide)) rfl T.mg_l_next T.F_l_next.kp T.b_l_next .nil pass0 (pa_cons (pv 0) (pa_cons (pe_callB len_lst (by rfl) T.n_len PySem.boot_len (pa_cons (pv 2) pa_nil)) pa_nil)))) pa_nil)) (blkOk_by (N := N_l_ask) (sc := defScope s_l_ask) (by decide +kernel)) (fun _ _ _ _ _ => (pg_name (i := 11) sc_l_ask.nd rfl (Or.inl rfl))) (fun _ _ _ _ _ => pts_nil) (fun _ _ _ _ _ => (pe_bmK K rfl PySem.F.plainAttrs_list PySem.F.slot_list_pop PySem.F.type_list_pop mt_popAt (pv 2) (pa_cons (pe_call G_l_next (hr.mono (by decide)) rfl T.mg_l_next T.F_l_next.kp T.b_l_next .nil pass0 (pa_cons (pv 0) (pa_cons (pe_callB len_lst (by rfl) T.n_len PySem.boot_len (pa_cons (pv 2) pa_nil)) pa_nil))) pa_nil))))
      (pss_cons (ps_set (i := 4) sc_l_ask.nd rfl (Or.inr rfl) (pe_call G_l_some (hr.mono (by decide)) rfl T.mg_l_some T.F_l_some.kp T.b_l_some .nil pass0 (pa_cons (pv 0) (pa_cons (pv 1) (pa_cons (pv 3) pa_nil)))))
      (Evl.pss_cut (ps_set (i := 5) sc_l_ask.nd rfl (Or.inl rfl) (pe_ix ix_lst (pe_lst (pa_cons pe_str (pa_cons pe_str (pa_cons pe_str (pa_cons pe_str (pa_cons pe_str (pa_cons pe_str (pa_cons pe_str pa_nil)))))))) (pe_call G_l_next (hr.mono (by decide)) rfl T.mg_l_next T.F_l_next.kp T.b_l_next .nil pass0 (pa_cons (pv 0) (pa_cons pe_int pa_nil))) (fun _ _ => rfl)))
      (Evl.pss_cut (ps_set (i := 6) sc_l_ask.nd rfl (Or.inl rfl) (pe_ifExp (pt_cmpR op_eq (pv 5) pe_str (nomark _)) (pe_op op_add pe_int (pe_call G_l_next (hr.mono (by decide)) rfl T.mg_l_next T.F_l_next.kp T.b_l_next .nil pass0 (pa_cons (pv 0) (pa_cons pe_int pa_nil)))) (pe_callTy int_bl (by rfl) T.n_int (by decide +kernel) (pa_cons (pe_cmpR op_ne (pv 5) pe_str (nomark _)) pa_nil))))
      (Evl.pss_cut (ps_set (i := 7) sc_l_ask.nd rfl (Or.inl rfl) (pe_callTy tuple_lst (by rfl) T.n_tuple (by decide +kernel) (pa_cons (pe_lc (own := [("_law_k", 11)]) (g := gName 11) (tt := tYes) rfl sc_l_ask.nd (pi_range1 rfl T.n_range (pa_cons (pv 6) pa_nil)) (blkOk_by (N := N_l_ask) (sc := defScope s_l_ask) (by decide +kernel)) (fun _ _ _ _ _ => (pg_name (i := 11) sc_l_ask.nd rfl (Or.inl rfl))) (fun _ _ _ _ _ => pts_nil) (fun _ _ _ _ _ => (pe_call G_l_term (hr.mono (by decide)) rfl T.mg_l_term T.F_l_term.kp T.b_l_term .nil pass0 (pa_cons (pv 0) (pa_cons (pv 4) (pa_cons pe_int pa_nil)))))) pa_nil)))
      (Evl.pss_cut (ps_set (i := 8) sc_l_ask.nd rfl (Or.inl rfl) (pe_ifExp (pt_cmpR op_gt (pe_call G_l_next (hr.mono (by decide)) rfl T.mg_l_next T.F_l_next.kp T.b_l_next .nil pass0 (pa_cons (pv 0) (pa_cons pe_int pa_nil))) pe_int (nomark _)) (pe_call G_l_cond (hr.mono (by decide)) rfl T.mg_l_cond T.F_l_cond.kp T.b_l_cond .nil pass0 (pa_cons (pv 0) (pa_cons (pv 4) (pa_cons pe_int pa_nil)))) pe_non))
      (pss_cons (ps_asg (pe_tup (pa_cons (pe_tup pa_nil) (pa_cons pe_non pa_nil))) (pg_tupH (n := 2) rfl (pgs_cons (pg_name (i := 9) sc_l_ask.nd rfl (Or.inl rfl)) (pgs_cons (pg_name (i := 10) sc_l_ask.nd rfl (Or.inl rfl)) pgs_nil))))
      (Evl.pss_cut (ps_if (pt_cmpR op_eq (pv 5) pe_str (nomark _)) (pss_cons (ps_set (i := 9) sc_l_ask.nd rfl (Or.inl rfl) (pe_callTy tuple_lst (by rfl) T.n_tuple (by decide +kernel) (pa_cons (pe_lc (own := [("_law_k", 11)]) (g := gName 11) (tt := tYes) rfl sc_l_ask.nd (pi_range1 rfl T.n_range (pa_cons (pe_call G_l_next (hr.mono (by decide)) rfl T.mg_l_next T.F_l_next.kp T.b_l_next .nil pass0 (pa_cons (pv 0) (pa_cons pe_int pa_nil))) pa_nil)) (blkOk_by (N := N_l_ask) (sc := defScope s_l_ask) (by decide +kernel)) (fun _ _ _ _ _ => (pg_name (i := 11) sc_l_ask.nd rfl (Or.inl rfl))) (fun _ _ _ _ _ => pts_nil) (fun _ _ _ _ _ => (pe_call G_l_term (hr.mono (by decide)) rfl T.mg_l_term T.F_l_term.kp T.b_l_term .nil pass0 (pa_cons (pv 0) (pa_cons (pv 4) (pa_cons pe_int pa_nil)))))) pa_nil)))
        (pss_one (ps_set (i := 10) sc_l_ask.nd rfl (Or.inl rfl) (pe_ix ix_lst (pe_lst (pa_cons pe_non (pa_cons (pe_call G_l_next (hr.mono (by decide)) rfl T.mg_l_next T.F_l_next.kp T.b_l_next .nil pass0 (pa_cons (pv 0) (pa_cons pe_int pa_nil))) pa_nil))) (pe_call G_l_next (hr.mono (by decide)) rfl T.mg_l_next T.F_l_next.kp T.b_l_next .nil pass0 (pa_cons (pv 0) (pa_cons pe_int pa_nil))) (fun _ _ => rfl))))) pss_nil)
      (pss_one (ps_ret (pe_tup (pa_cons pe_str (pa_cons (pv 5) (pa_cons (pv 7) (pa_cons (pe_callTy tuple_lst (by rfl) T.n_tuple (by decide +kernel) (pa_cons (pv 3) pa_nil)) (pa_cons (pv 8) (pa_cons (pv 9) (pa_cons (pv 10) pa_nil))))))))))))))))))), ?_⟩
    rw [show L2.start N_l_ask [V.ref h, V.ref d] = [some (V.ref h), some (V.ref d), none, none, none, none, none, none, none, none, none, none] from rfl]
    have hd0 := S.at_
    simp? only [hd0]
    refine ⟨es.map (·.1), keys_str es, by rw [List.length_map]; have := S.few.1; omega, fun ys na perm hna => ?_⟩
    have yk : ∀ y ∈ ys, y ∈ es.map (·.1) := fun y hy => perm.mem_iff.mp hy
    have yl : ys.length ≤ 3 := by rw [perm.length_eq, List.length_map]; exact S.few.1
    have yl0 : 0 < ys.length := by rw [perm.length_eq, List.length_map]; exact el0
    have ynd : ys.Nodup := perm.nodup_iff.mpr S.nd
    have s1 := same_new (o := .lst (ys.map V.str)) hna
    have hna1 : upd H na (.lst (ys.map V.str)) na = some (.lst (ys.map V.str)) := upd_same
    have B1 := B.same s1
    have S1 := S.same s1
    have nna := B.free hna
    generalize upd H na (.lst (ys.map V.str)) = H1 at *
    refine ⟨fun σ' H2 => ∃ (tb : Addr) (ts : List Str), σ' = [some (.ref h), some (.ref d), some (.ref na), some (.ref tb), none, none, none, none, none, none, none, none] ∧ H2 tb = some (.lst (ts.map V.str)) ∧ 0 < ts.length ∧ ts.length ≤ 3 ∧ (∀ t ∈ ts, t ∈ es.map (·.1)) ∧ ts.Nodup ∧ H tb = none ∧ BoxB H2 h l ∧ Keep [h, l] H H2, ?_, ?_⟩
    · simp? only [hna1, tLc_eq, iRng1]
      refine ⟨h, l, ys.length, rfl, B1, by omega, by omega, fun r0 H2 a0 a1 B2 k2 => ?_⟩
      have hna2 := k2 _ _ nna hna1
      simp? only []
      refine ⟨by omega, by omega, lcB_it fun D hD => ?_⟩
      have nD := B2.free hD
      have nnaD : na ≠ D := ne_of_none hna2 hD
      refine lc_it walk_range (fun j H5 => ∃ ts rem : List Str, H5 na = some (.lst (rem.map V.str)) ∧ H5 D = some (.lst (ts.map V.str)) ∧ (ts ++ rem).Perm ys ∧ ts.length = j ∧ BoxB H5 h l ∧ Keep [h, l] H H5)
        ⟨[], ys, by rw [upd_ne nnaD]; exact hna2, upd_same, List.Perm.refl _, rfl, B2.same (same_new hD), ((Keep.ofSame s1).trans k2).thenNew hD⟩ (fun _ _ _ _ => trivial) ?_ ?_
      · rintro j x H5 H6 hj ⟨ts, rem, en, eD, pm, tl, B5, k5⟩ ⟨rfl, rfl⟩
        have lsum := pm.length_eq
        rw [List.length_append] at lsum
        have rpos : 0 < rem.length := by omega
        simp? only [gName, en]
        refine ⟨h, l, rem.length, rfl, B5, by omega, by omega, fun r7 H7 c0 c1 B7 k7 => ?_⟩
        have en7 := k7 _ _ nna en
        have eD7 := k7 _ _ nD eD
        have hlt : r7.toNat < rem.length := by omega
        have six : seqIndex? r7 rem.length = some r7.toNat := seqIx c0 c1
        have hgt : rem[r7.toNat]? = some rem[r7.toNat] := List.getElem?_eq_getElem hlt
        simp? only [en7, six, hgt]
        refine ⟨by omega, by omega, ?_⟩
        have eD8 : upd H7 na (.lst ((rem.map V.str).eraseIdx r7.toNat)) D = some (.lst (ts.map V.str)) := by rw [upd_ne nnaD.symm]; exact eD7
        simp? only [eD8]
        refine ⟨szl' (by omega), ts ++ [rem[r7.toNat]], rem.eraseIdx r7.toNat, ?_, by rw [List.map_append]; rfl, ?_, by rw [List.length_append, tl]; rfl, (B7.updNot nna).updNot nD, ((k5.trans k7).updFree hna).updFree (free_keep ((Keep.ofSame s1).trans k2) nD hD)⟩
        · rw [upd_ne nnaD, upd_same, eraseIdx_mapV]
        · rw [List.append_assoc]
          exact (List.Perm.append_left ts (perm_erase rem r7.toNat hlt)).trans pm
      · rintro H5 ⟨ts, rem, en, eD, pm, tl, B5, k5⟩
        have tin : ∀ t ∈ ts, t ∈ ys := fun t ht => pm.mem_iff.mp (List.mem_append_left _ ht)
        have tnd : ts.Nodup := (List.nodup_append.mp (pm.nodup_iff.mpr ynd)).1
        have lsum := pm.length_eq
        rw [List.length_append] at lsum
        exact ⟨D, rfl, ts, eD, by omega, by omega, fun t ht => yk t (tin t ht), tnd, free_keep ((Keep.ofSame s1).trans k2) nD hD, B5, k5⟩
    rintro σ' H2 ⟨tb, ts, rfl, htb, tl0, tl3, tin, tnd, ftb, B2, k2⟩
    have S2 := S.keepB B k2
    have ntb := B.free ftb
    simp? only []
    refine ⟨h, d, tb, es, ts, rfl, S2, htb, tl3, tin, fun fa ps H3 R3 nz pl fa0 s3 => ?_⟩
    have nfa : fa ∉ [h, l] := B2.free fa0
    have B3 := B2.same s3
    have k3 := k2.trans (Keep.ofSame s3)
    have htb3 := s3 _ _ htb
    simp? only []
    refine ⟨fun σ' H4 => ∃ hw : Str, σ' = [some (.ref h), some (.ref d), some (.ref na), some (.ref tb), some (.ref fa), some (.str hw), none, none, none, none, none, none] ∧ H4 tb = some (.lst (ts.map V.str)) ∧ RF H4 fa ps ∧ BoxB H4 h l ∧ Keep [h, l] H H4, ?_, ?_⟩
    · simp? only []
      refine ⟨szl (by decide), fun p hp => ?_⟩
      refine ⟨h, l, 7, rfl, B3.same (same_new hp), by decide, by decide, fun r H4 c0 c1 B4 k4 => ?_⟩
      have e4 := k4 _ _ (B3.free hp) upd_same
      have kk := (k3.thenNew (o := .lst [.str "pick", .str "pick", .str "pick", .str "count", .str "sum", .str "least", .str "most"]) hp).trans k4
      have R4 := (R3.same (same_new (o := .lst [.str "pick", .str "pick", .str "pick", .str "count", .str "sum", .str "least", .str "most"]) hp)).keepB k4 (B3.same (same_new hp)) nfa
      have htb4 := k4 _ _ ntb (same_new (o := .lst [.str "pick", .str "pick", .str "pick", .str "count", .str "sum", .str "least", .str "most"]) hp _ _ htb3)
      simp? only [e4]
      have hat : ∃ s : Str, atI [V.str (Str.ofString "pick"), V.str (Str.ofString "pick"), V.str (Str.ofString "pick"), V.str (Str.ofString "count"), V.str (Str.ofString "sum"), V.str (Str.ofString "least"), V.str (Str.ofString "most")] r = some (.str s) := by
        rw [atN c0]
        have : r.toNat = 0 ∨ r.toNat = 1 ∨ r.toNat = 2 ∨ r.toNat = 3 ∨ r.toNat = 4 ∨ r.toNat = 5 ∨ r.toNat = 6 := by omega
        rcases this with z | z | z | z | z | z | z <;> rw [z] <;> exact ⟨_, rfl⟩
      obtain ⟨s, hs⟩ := hat
      simp? only [hs]
      exact ⟨htb4, R4, B4, kk⟩
    rintro σ' H4 ⟨hw, rfl, htb4, R4, B4, k4⟩
    refine ⟨fun σ' H5 => ∃ mn : Nat, σ' = [some (.ref h), some (.ref d), some (.ref na), some (.ref tb), some (.ref fa), some (.str hw), some (.int mn), none, none, none, none, none] ∧ mn ≤ 3 ∧ H5 tb = some (.lst (ts.map V.str)) ∧ RF H5 fa ps ∧ BoxB H5 h l ∧ Keep [h, l] H H5, ?_, ?_⟩
    · simp? only []
      by_cases c : hw = Str.ofString "pick"
      · rw [if_pos (decide_eq_true c)]
        refine ⟨h, l, 3, rfl, B4, by decide, by decide, fun r H5 c0 c1 B5 k5 => ?_⟩
        exact ⟨r, rfl, (1 + r).toNat, by omega, by omega, k5 _ _ ntb htb4, R4.keepB k5 B4 nfa, B5, k4.trans k5⟩
      · rw [if_neg (by simpa using c)]
        refine ⟨(if (!decide (hw = Str.ofString "count")) = true then 1 else 0), ?_, ?_, htb4, R4, B4, k4⟩ <;> split <;> simp
    rintro σ' H5 ⟨mn, rfl, hmn, htb5, R5, B5, k5⟩
    have terms : ∀ (n : Nat) (dp : Nat) (dpi : Int), dpi = dp → n ≤ 3 → dp ≤ 2 → ∀ (H6 : Hp) (x5 x6 x7 x8 x9 x10 : Option V) (Q' : VK), H6 tb = some (.lst (ts.map V.str)) → RF H6 fa ps → BoxB H6 h l → Keep [h, l] H H6 →
        (∀ D xs H7, H7 D = some (.lst xs) → xs.length = n → Nm.TrsM H7 xs 6 → H7 tb = some (.lst (ts.map V.str)) → RF H7 fa ps → BoxB H7 h l → Keep [h, l] H6 H7 → Q' (.ref D) H7) →
        lcB (Itr 0 n) (gName 11) tYes (tCall spTermA [] E0 (tCons (tVar 0) (tCons (tVar 4) (tCons (tC (V.int dpi)) tNil)))) [11] [some (.ref h), some (.ref d), some (.ref na), some (.ref tb), some (.ref fa), x5, x6, x7, x8, x9, x10, none] H6 Q' := by
      intro n dp dpi edp hn hdp H6 x5 x6 x7 x8 x9 x10 Q' htb6 R6 B6 k6 kq
      subst edp
      refine lcB_it fun D hD => ?_
      have nD := B6.free hD
      have ntD := ne_of_none htb6 hD
      have nfD := ne_of_none R6.at_ hD
      refine lc_it walk_range (fun j H7 => ∃ (xs : List V), H7 D = some (.lst xs) ∧ xs.length = j ∧ Nm.TrsM H7 xs 6 ∧ H7 tb = some (.lst (ts.map V.str)) ∧ RF H7 fa ps ∧ BoxB H7 h l ∧ Keep [h, l] H6 H7)
        ⟨[], upd_same, rfl, Nm.TrsM.nil, same_new hD _ _ htb6, R6.same (same_new hD), B6.same (same_new hD), Keep.new hD⟩ (fun _ _ _ _ => trivial) ?_ ?_
      · rintro j x H7 H8 hj ⟨xs, eD, xl, TL7, htb7, R7, B7, k7⟩ ⟨rfl, rfl⟩
        simp? only [gName]
        refine ⟨dp, hdp, h, l, fa, ps, rfl, B7, R7, nz, pl, nfa, fun v t H9 Rt ot zt _ dt B9 k9 => ?_⟩
        have eD9 := k9 _ _ nD eD
        have R9 := R7.keepB k9 B7 nfa
        have htb9 := k9 _ _ ntb htb7
        simp? only [eD9]
        have sd : Std H9 (upd H9 D (.lst (xs ++ [v]))) := Nm.Std.upd eD9 ⟨_, rfl⟩
        refine ⟨szl' (by omega), by rw [List.length_append, xl]; rfl, ((TL7.std (B7.std k9)).snoc (Nm.rtDx Rt) ((Nm.trT_ok ot zt).mono (by omega))).std sd, by rw [upd_ne ntD]; exact htb9, R9.updL eD9 nfD, B9.updNot nD, (k7.trans k9).updFree hD⟩
      · rintro H7 ⟨xs, eD, xl, TL7, htb7, R7, B7, k7⟩
        exact kq D xs H7 eD xl TL7 htb7 R7 B7 k7
    refine ⟨fun σ' H6 => ∃ (tm : Addr), σ' = [some (.ref h), some (.ref d), some (.ref na), some (.ref tb), some (.ref fa), some (.str hw), some (.int mn), some (.ref tm), none, none, none, none] ∧ Nm.TrsE H6 (.ref tm) 6 ∧ H6 tb = some (.lst (ts.map V.str)) ∧ RF H6 fa ps ∧ BoxB H6 h l ∧ Keep [h, l] H H6, ?_, ?_⟩
    · simp? only [tLc_eq, iRng1]
      refine ⟨by omega, by omega, ?_⟩
      rw [Int.toNat_natCast]
      refine terms mn 2 _ rfl hmn (by decide) _ _ _ _ _ _ _ _ htb5 R5 B5 k5 fun D xs H7 eD xl TL7 htb7 R7 B7 k7 => ?_
      simp? only [eD]
      intro p hp
      exact ⟨(TL7.std (Std.ofSame (same_new hp))).tup upd_same (by omega), same_new hp _ _ htb7, R7.same (same_new hp), B7.same (same_new hp), (k5.trans k7).thenNew hp⟩
    rintro σ' H6 ⟨tm, rfl, TM6, htb6, R6, B6, k6⟩
    refine ⟨fun σ' H7 => ∃ (vc : V), σ' = [some (.ref h), some (.ref d), some (.ref na), some (.ref tb), some (.ref fa), some (.str hw), some (.int mn), some (.ref tm), some vc, none, none, none] ∧ Nm.CoE H7 vc 6 ∧ Nm.TrsE H7 (.ref tm) 6 ∧ H7 tb = some (.lst (ts.map V.str)) ∧ RF H7 fa ps ∧ BoxB H7 h l ∧ Keep [h, l] H H7, ?_, ?_⟩
    · simp? only []
      refine ⟨h, l, 4, rfl, B6, by decide, by decide, fun r H7 c0 c1 B7 k7 => ?_⟩
      have R7 := R6.keepB k7 B6 nfa
      have htb7 := k7 _ _ ntb htb6
      simp? only []
      by_cases c : 0 < r
      · simp? only [c]
        refine ⟨h, l, fa, ps, rfl, B7, R7, nz, pl, nfa, fun v t H8 Rt gt B8 k8 => ?_⟩
        exact ⟨⟨_, Nm.CoAt.some Rt gt⟩, (TM6.std (B6.std k7)).std (B7.std k8), k8 _ _ ntb htb7, R7.keepB k8 B7 nfa, B8, (k6.trans k7).trans k8⟩
      · simp? only [c]
        exact ⟨⟨none, Nm.CoAt.none⟩, TM6.std (B6.std k7), htb7, R7, B7, k6.trans k7⟩
    rintro σ' H7 ⟨vc, rfl, Rc, TM7, htb7, R7, B7, k7⟩
    simp? only []
    intro p hp q hq
    have sq := (same_new (o := .tup []) hp).trans (same_new (o := .tup [.ref p, .non]) hq)
    have R8 := R7.same sq
    have B8 := B7.same sq
    have htb8 := sq _ _ htb7
    have Rc8 := Rc.std (Std.ofSame sq)
    have TM8 := TM7.std (Std.ofSame sq)
    have E8 : Nm.TrsE (upd (upd H7 p (.tup [])) q (.tup [.ref p, .non])) (.ref p) 6 := ⟨[], rx_tup (us := []) (by rw [upd_ne (ne_of_none upd_same hq), upd_same]) rxs_nil, by simp, fun t ht => absurd ht (by simp)⟩
    have k8 := k7.trans (Keep.ofSame sq)
    generalize upd (upd H7 p (.tup [])) q (.tup [.ref p, .non]) = H8 at *
    refine ⟨fun σ' H9 => ∃ (x9 x10 : V), σ' = [some (.ref h), some (.ref d), some (.ref na), some (.ref tb), some (.ref fa), some (.str hw), some (.int mn), some (.ref tm), some vc, some x9, some x10, none] ∧ Nm.CoE H9 vc 6 ∧ Nm.TrsE H9 (.ref tm) 6 ∧ Nm.TrsE H9 x9 6 ∧ Nm.FiE H9 x10 ∧ H9 tb = some (.lst (ts.map V.str)) ∧ BoxB H9 h l ∧ Keep [h, l] H H9, ?_, ?_⟩
    · simp? only []
      by_cases c : hw = Str.ofString "pick"
      · rw [if_pos (decide_eq_true c)]
        simp? only [tLc_eq, iRng1]
        refine ⟨h, l, 4, rfl, B8, by decide, by decide, fun r H9 c0 c1 B9 k9 => ?_⟩
        have R9 := R8.keepB k9 B8 nfa
        have htb9 := k9 _ _ ntb htb8
        have Rc9 := Rc8.std (B8.std k9)
        have TM9 := TM8.std (B8.std k9)
        simp? only []
        refine ⟨by omega, by omega, ?_⟩
        refine terms r.toNat 1 _ rfl (by omega) (by decide) _ _ _ _ _ _ _ _ htb9 R9 B9 (k8.trans k9) fun D xs H10 eD xl TL10 htb10 R10 B10 k10 => ?_
        have Rc10 := Rc9.std (B9.std k10)
        have TM10 := TM9.std (B9.std k10)
        simp? only [eD]
        intro p2 hp2
        have s2 := same_new (o := .tup xs) hp2
        have TY11 : Nm.TrsE (upd H10 p2 (.tup xs)) (.ref p2) 6 := (TL10.std (Std.ofSame s2)).tup upd_same (by omega)
        have R11 := R10.same s2
        have B11 := B10.same s2
        refine ⟨h, l, 5, rfl, B11, by decide, by decide, fun r2 H12 d0 d1 B12 k12 => ?_⟩
        have htb12 := k12 _ _ ntb (s2 _ _ htb10)
        have Rc12 := (Rc10.std (Std.ofSame s2)).std (B11.std k12)
        have TM12 := (TM10.std (Std.ofSame s2)).std (B11.std k12)
        have TY12 := TY11.std (B11.std k12)
        have kk12 : Keep [h, l] H H12 := (((k8.trans k9).trans k10).trans (Keep.ofSame s2)).trans k12
        simp? only []
        intro p3 hp3
        have s3 := same_new (o := .lst [.non, .int r2]) hp3
        have B13 := B12.same s3
        refine ⟨h, l, 2, rfl, B13, by decide, by decide, fun r3 H14 e0 e1 B14 k14 => ?_⟩
        have e3 := k14 _ _ (B12.free hp3) upd_same
        have htb14 := k14 _ _ ntb (s3 _ _ htb12)
        have Rc14 := (Rc12.std (Std.ofSame s3)).std (B13.std k14)
        have TM14 := (TM12.std (Std.ofSame s3)).std (B13.std k14)
        have TY14 := (TY12.std (Std.ofSame s3)).std (B13.std k14)
        have kk14 := (kk12.trans (Keep.ofSame s3)).trans k14
        simp? only [e3]
        have er : r3 = 0 ∨ r3 = 1 := by omega
        rcases er with rfl | rfl
        · simp? only []
          exact ⟨Rc14, TM14, TY14, ⟨none, rx_non⟩, htb14, B14, kk14⟩
        · simp? only []
          exact ⟨Rc14, TM14, TY14, ⟨some r2, rx_int _⟩, htb14, B14, kk14⟩
      · rw [if_neg (by simpa using c)]
        exact ⟨Rc8, TM8, E8, ⟨none, rx_non⟩, htb8, B8, k8⟩
    rintro σ' H9 ⟨x9, x10, rfl, Rc9, TM9, TY9, FI9, htb9, B9, k9⟩
    obtain ⟨co, Rc9⟩ := Rc9
    obtain ⟨tms, TM9⟩ := TM9
    obtain ⟨bys, TY9⟩ := TY9
    obtain ⟨first, FI9⟩ := FI9
    simp? only [htb9]
    intro p1 hp1
    refine ⟨sz7, fun p2 hp2 => ?_⟩
    have n1 : p1 ≠ p2 := ne_of_none upd_same hp2
    have s9 := (same_new (o := .tup (ts.map V.str)) hp1).trans (same_new (o := .tup [.str "ask", .str hw, .ref tm, .ref p1, vc, x9, x10]) hp2)
    have sd := Std.ofSame s9
    refine k p2 hw tms bys ts co first _ ?_ (Nm.askOk ⟨TM9.few, TM9.ok⟩ ⟨TY9.few, TY9.ok⟩ Rc9.ok ⟨tl3, fun t ht => ?_⟩) tl0 tin tnd (B9.same s9) (k9.trans (Keep.ofSame s9))
    · exact rx_tup upd_same (rxs_cons (rx_str _) (rxs_cons (rx_str _) (rxs_cons (TM9.std sd).at_ (rxs_cons (rx_tup (by rw [upd_ne n1, upd_same]) (rxs_map fun s _ => rx_str s)) (rxs_cons (Rc9.std sd).at_ (rxs_cons (TY9.std sd).at_ (rxs_cons (FI9.std sd (Nm.noL_i first)) rxs_nil)))))))
    · obtain ⟨e, he, rfl⟩ := List.mem_map.mp (tin t ht)
      exact (S.zz e he).1.1
end

/-! any statement, drawn -/
def spStm : Sp := fun vs H Q _ => ∃ (h l d : Addr) (es : List Sh), vs = [.ref h, .ref d] ∧ BoxB H h l ∧ SH H d es ∧ 0 < es.length ∧
  ∀ (a : Addr) (st : Nm.Sm) (H' : Hp), RX H' (.ref a) st.dx → Nm.SmOk st → st.full → BoxB H' h l → Keep [h, l] H H' → Q (.ref a) H'
section
variable {P : Program} {w : World} {K : PySem.W.Frag} {mg : Str → Option Value} {base : Heap}
theorem ok_l_statement (T : Txt K mg) : FnOk P w K mg base CX0 11 T.f_l_statement T.fd_l_statement ["_law_h", "_law_shapes_here"] spStm := by
  have G_l_next : FnOk P w K mg base CX0 1 T.f_l_next T.fd_l_next ["_law_h", "_law_many"] spNext := ok_l_next T
  have G_l_number : FnOk P w K mg base CX0 2 T.f_l_number T.fd_l_number ["_law_h"] spNumber := ok_l_number T
  have G_l_some : FnOk P w K mg base CX0 1 T.f_l_some T.fd_l_some ["_law_h", "_law_shapes_here", "_law_tables"] spSome := ok_l_some T
  have G_l_term : FnOk P w K mg base CX0 5 T.f_l_term T.fd_l_term ["_law_h", "_law_fields", "_law_deep"] (spTerm 2) := ok_l_term T 2
  have G_l_cond : FnOk P w K mg base CX0 9 T.f_l_cond T.fd_l_cond ["_law_h", "_law_fields", "_law_deep"] (spCond 3) := ok_l_cond T 3
  have G_l_ask : FnOk P w K mg base CX0 10 T.f_l_ask T.fd_l_ask ["_law_h", "_law_shapes_here"] spAsk := ok_l_ask T
  refine T.F_l_statement.ok sc_l_statement (fun vs H Q E h => ?_) (fun cdv A outer s H vs Q E hr h => ?_)
  · obtain ⟨h, l, d, es, rfl, _⟩ := h
    rfl
  · have hu := hu_of hr
    have hu64 := hu64_of hr
    obtain ⟨h, l, d, es, rfl, B, S, el0, k⟩ := h
    refine ⟨_, (pss_cons (ps_par (i := 2) (j := 3) rfl sc_l_statement.nd rfl rfl (by decide) rfl rfl (pa_cons (pe_call G_l_next (hr.mono (by decide)) rfl T.mg_l_next T.F_l_next.kp T.b_l_next .nil pass0 (pa_cons (pv 0) (pa_cons pe_int pa_nil))) (pa_cons (pe_ix ix_lst (pe_callB (sorted_dic rfl) (by rfl) T.n_sorted (by decide +kernel) (pa_cons (pv 1) pa_nil)) (pe_call G_l_next (hr.mono (by decide)) rfl T.mg_l_next T.F_l_next.kp T.b_l_next .nil pass0 (pa_cons (pv 0) (pa_cons (pe_callB len_dic (by rfl) T.n_len PySem.boot_len (pa_cons (pv 1) pa_nil)) pa_nil))) (fun _ _ => rfl)) pa_nil)) (by rfl))
      (pss_cons (ps_set (i := 4) sc_l_statement.nd rfl (Or.inr rfl) (pe_call G_l_some (hr.mono (by decide)) rfl T.mg_l_some T.F_l_some.kp T.b_l_some .nil pass0 (pa_cons (pv 0) (pa_cons (pv 1) (pa_cons (pe_lst (pa_cons (pv 3) pa_nil)) pa_nil)))))
      (Evl.pss_cut (ps_set (i := 5) sc_l_statement.nd rfl (Or.inl rfl) (pe_ifExp (pt_cmpR op_gt (pe_call G_l_next (hr.mono (by decide)) rfl T.mg_l_next T.F_l_next.kp T.b_l_next .nil pass0 (pa_cons (pv 0) (pa_cons pe_int pa_nil))) pe_int (nomark _)) (pe_call G_l_cond (hr.mono (by decide)) rfl T.mg_l_cond T.F_l_cond.kp T.b_l_cond .nil pass0 (pa_cons (pv 0) (pa_cons (pv 4) (pa_cons pe_int pa_nil)))) pe_non))
      (pss_cons (ps_if (pt_cmpR op_lt (pv 2) pe_int (nomark _)) (pss_one (ps_ret (pe_call G_l_ask (hr.mono (by decide)) rfl T.mg_l_ask T.F_l_ask.kp T.b_l_ask .nil pass0 (pa_cons (pv 0) (pa_cons (pv 1) pa_nil))))) pss_nil)
      (pss_cons (ps_if (pt_cmpR op_lt (pv 2) pe_int (nomark _)) (pss_one (ps_ret (pe_tup (pa_cons pe_str (pa_cons (pv 3) (pa_cons (pe_callTy tuple_lst (by rfl) T.n_tuple (by decide +kernel) (pa_cons (pe_lc (own := [("_law_field", 8)]) (g := gName 8) (tt := tYes) rfl sc_l_statement.nd (pi_tupK K rfl (pe_getI hu (pv 1) (pv 3) (fun _ _ => rfl))) (blkOk_by (N := N_l_statement) (sc := defScope s_l_statement) (by decide +kernel)) (fun _ _ _ _ _ => (pg_name (i := 8) sc_l_statement.nd rfl (Or.inl rfl))) (fun _ _ _ _ _ => pts_nil) (fun _ _ _ _ _ => (pe_call G_l_number (hr.mono (by decide)) rfl T.mg_l_number T.F_l_number.kp T.b_l_number .nil pass0 (pa_cons (pv 0) pa_nil)))) pa_nil)) pa_nil)))))) pss_nil)
      (pss_cons (ps_if (PW.pt (pw_and (pt_cmpR op_eq (pv 2) pe_int (nomark _)) (pw_and1 (pt_cmpR op_gt (pe_callB len_tp (by rfl) T.n_len PySem.boot_len (pa_cons (pe_getI hu (pv 1) (pv 3) (fun _ _ => rfl)) pa_nil)) pe_int (nomark _))))) (pss_cons (ps_set (i := 6) sc_l_statement.nd rfl (Or.inr rfl) (pe_callTy list_tp (by rfl) T.n_list (by decide +kernel) (pa_cons (pe_slice sl_tp (pe_getI hu (pv 1) (pv 3) (fun _ _ => rfl)) (po_some pe_int) po_none) pa_nil)))
        (Evl.pss_cut (ps_setLc (i := 7) (own := [("_law_k", 9)]) (g := gName 9) (tt := tYes) rfl sc_l_statement.nd rfl rfl (sw_true rfl rfl rfl (by decide +kernel)) (pi_range1 rfl T.n_range (pa_cons (pe_op op_add pe_int (pe_call G_l_next (hr.mono (by decide)) rfl T.mg_l_next T.F_l_next.kp T.b_l_next .nil pass0 (pa_cons (pv 0) (pa_cons (pe_callB len_lst (by rfl) T.n_len PySem.boot_len (pa_cons (pv 6) pa_nil)) pa_nil)))) pa_nil)) (blkOk_by (N := N_l_statement) (sc := defScope s_l_statement) (by decide +kernel)) (fun _ _ _ _ _ => (pg_name (i := 9) sc_l_statement.nd rfl (Or.inl rfl))) (fun _ _ _ _ _ => pts_nil) (fun _ _ _ _ _ => (pe_bmK K rfl PySem.F.plainAttrs_list PySem.F.slot_list_pop PySem.F.type_list_pop mt_popAt (pv 6) (pa_cons (pe_call G_l_next (hr.mono (by decide)) rfl T.mg_l_next T.F_l_next.kp T.b_l_next .nil pass0 (pa_cons (pv 0) (pa_cons (pe_callB len_lst (by rfl) T.n_len PySem.boot_len (pa_cons (pv 6) pa_nil)) pa_nil))) pa_nil))))
        (pss_one (ps_ret (pe_tup (pa_cons pe_str (pa_cons (pv 3) (pa_cons (pe_callTy tuple_lst (by rfl) T.n_tuple (by decide +kernel) (pa_cons (pe_lc (own := [("_law_field", 8)]) (g := gName 8) (tt := tYes) rfl sc_l_statement.nd (pi_listK K rfl (pv 7)) (blkOk_by (N := N_l_statement) (sc := defScope s_l_statement) (by decide +kernel)) (fun _ _ _ _ _ => (pg_name (i := 8) sc_l_statement.nd rfl (Or.inl rfl))) (fun _ _ _ _ _ => pts_nil) (fun _ _ _ _ _ => (pe_tup (pa_cons (pv 8) (pa_cons (pe_call G_l_term (hr.mono (by decide)) rfl T.mg_l_term T.F_l_term.kp T.b_l_term .nil pass0 (pa_cons (pv 0) (pa_cons (pv 4) (pa_cons pe_int pa_nil)))) pa_nil))))) pa_nil)) (pa_cons (pv 5) pa_nil))))))))) pss_nil)
      (pss_cons (ps_if (pt_cmpR op_eq (pv 2) pe_int (nomark _)) (pss_one (ps_ret (pe_tup (pa_cons pe_str (pa_cons (pv 3) (pa_cons (pv 5) pa_nil)))))) pss_nil)
      (pss_cons (ps_if (pt_cmpR op_eq (pv 2) pe_int (nomark _)) (pss_one (ps_ret (pe_ix ix_lst (pe_lst (pa_cons (pe_tup (pa_cons pe_str pa_nil)) (pa_cons (pe_tup (pa_cons pe_str pa_nil)) (pa_cons (pe_tup (pa_cons pe_str pa_nil)) pa_nil)))) (pe_call G_l_next (hr.mono (by decide)) rfl T.mg_l_next T.F_l_next.kp T.b_l_next .nil pass0 (pa_cons (pv 0) (pa_cons pe_int pa_nil))) (fun _ _ => rfl)))) pss_nil)
      (pss_one (ps_ret (pe_ix ix_lst (pe_lst (pa_cons (pe_tup (pa_cons pe_str (pa_cons pe_str (pa_cons (pe_tup (pa_cons pe_str (pa_cons pe_str pa_nil))) pa_nil)))) (pa_cons (pe_tup (pa_cons pe_str (pa_cons (pv 3) (pa_cons pe_str pa_nil)))) pa_nil))) (pe_call G_l_next (hr.mono (by decide)) rfl T.mg_l_next T.F_l_next.kp T.b_l_next .nil pass0 (pa_cons (pv 0) (pa_cons pe_int pa_nil))) (fun _ _ => rfl)))))))))))), ?_⟩
    rw [show L2.start N_l_statement [V.ref h, V.ref d] = [some (V.ref h), some (V.ref d), none, none, none, none, none, none, none, none] from rfl]
    have hd0 := S.at_
    simp? only [hd0]
    refine ⟨h, l, 9, rfl, B, by decide, by decide, fun way H1 w0 w1 B1 k1 => ?_⟩
    have S1 := S.keepB B k1
    have hd1 := S1.at_
    simp? only [hd1]
    refine ⟨es.map (·.1), keys_str es, by rw [List.length_map]; have := S.few.1; omega, fun ys na perm hna => ?_⟩
    have yk : ∀ y ∈ ys, y ∈ es.map (·.1) := fun y hy => perm.mem_iff.mp hy
    have yl : ys.length = es.length := by rw [perm.length_eq, List.length_map]
    have s1 := same_new (o := .lst (ys.map V.str)) hna
    have hna1 : upd H1 na (.lst (ys.map V.str)) na = some (.lst (ys.map V.str)) := upd_same
    have B2 := B1.same s1
    have S2 := S1.same s1
    have nna := B1.free hna
    have k2 := k1.trans (Keep.ofSame s1)
    generalize upd H1 na (.lst (ys.map V.str)) = H2 at *
    have hd2 := S2.at_
    have e3 := S.few.1
    simp? only [hd2]
    refine ⟨h, l, es.length, by first | rfl | simp, B2, by omega, by omega, fun r H3 r0 r1 B3 k3 => ?_⟩
    have hna3 := k3 _ _ nna hna1
    have S3 := S2.keepB B2 k3
    have k3' := k2.trans k3
    have hlt : r.toNat < ys.length := by omega
    obtain ⟨t, ht⟩ : ∃ t, ys[r.toNat]? = some t := ⟨_, List.getElem?_eq_getElem hlt⟩
    have tes : t ∈ es.map (·.1) := yk t (List.mem_of_getElem? ht)
    have hat : atI (ys.map V.str) r = some (.str t) := by rw [atN r0, List.getElem?_map, ht]; rfl
    obtain ⟨et, het, rfl, hev⟩ := S3.look tes
    have tz := S.zz et het
    simp? only [hna3, hat]
    intro p hp
    have s4 := same_new (o := .lst [V.str et.1]) hp
    refine ⟨h, d, p, es, [et.1], rfl, S3.same s4, upd_same, by simp, by simpa using tes, fun fa ps H4 R4 nz pl fa0 s5 => ?_⟩
    have sx := s4.trans s5
    have B4 := B3.same sx
    have S4 := S3.same sx
    have k4 := k3'.trans (Keep.ofSame sx)
    have nfa : fa ∉ [h, l] := (B3.same s4).free fa0
    refine ⟨fun σ' H5 => ∃ vc : V, σ' = [some (.ref h), some (.ref d), some (.int way), some (.str et.1), some (.ref fa), some vc, none, none, none, none] ∧ Nm.CoE H5 vc 6 ∧ RF H5 fa ps ∧ BoxB H5 h l ∧ Keep [h, l] H H5, ?_, ?_⟩
    · simp? only []
      refine ⟨h, l, 4, rfl, B4, by decide, by decide, fun r5 H5 c0 c1 B5 k5 => ?_⟩
      have R5 := R4.keepB k5 B4 nfa
      simp? only []
      by_cases c : 0 < r5
      · simp? only [c]
        refine ⟨h, l, fa, ps, rfl, B5, R5, nz, pl, nfa, fun v t H6 Rt gt B6 k6 => ?_⟩
        exact ⟨⟨_, Nm.CoAt.some Rt gt⟩, R5.keepB k6 B5 nfa, B6, (k4.trans k5).trans k6⟩
      · simp? only [c]
        exact ⟨⟨none, Nm.CoAt.none⟩, R5, B5, k4.trans k5⟩
    rintro σ' H5 ⟨vc, rfl, C5, R5, B5, k5⟩
    have S5 := S.keepB B k5
    have hd5 := S5.at_
    have hev5 : valV (es.map fun e => ((Sum.inr e.1 : Key), V.ref e.2.1)) (Sum.inr et.1) = some (.ref et.2.1) := hev
    have tp5 := S5.tups et het
    have fl := S.few.2 et het
    by_cases c3 : way < 3
    · simp? only [c3]
      refine ⟨h, l, d, es, rfl, B5, S5, el0, fun a how tm bys ts co first H6 RX6 ok6 t0 hin _ B6 k6 => ?_⟩
      exact k a _ H6 RX6 ok6 ⟨t0, fun t ht => by
        obtain ⟨e, he, rfl⟩ := List.mem_map.mp (hin t ht)
        exact (S.zz e he).1.2⟩ B6 (k5.trans k6)
    have nte : et.2.1 ∉ [h, l] := tpO_notin B5 tp5
    by_cases c5 : way < 5
    · simp? only [c3, c5, tLc_eq, iTup, hd5, hev5]
      refine ⟨⟨_, .inl (rd_tpO tp5)⟩, lcB_it fun D hD => ?_⟩
      have nD := B5.free hD
      have nDt : et.2.1 ≠ D := tpO_ne tp5 hD
      refine lc_it (walk_tup (xs := et.2.2.map V.str)) (fun j H7 => ∃ ns : List Int, H7 D = some (.lst (ns.map V.int)) ∧ ns.length = j ∧ tpO (H7 et.2.1) = some (et.2.2.map V.str) ∧ BoxB H7 h l ∧ Keep [h, l] H H7) ⟨[], upd_same, rfl, tpO_same tp5 (same_new hD), B5.same (same_new hD), k5.thenNew hD⟩ (fun _ H7 _ ⟨_, _, _, e, _⟩ => .inl (rd_tpO e)) ?_ ?_
      · rintro j x H7 H8 hj ⟨ns, eD, nl, e7, B7, k7⟩ ⟨rfl, hx⟩
        obtain ⟨f, _, rfl⟩ := str_at hx
        rw [List.length_map] at hj
        simp? only [gName]
        refine ⟨h, l, rfl, B7, fun n H9 n0 n1 B9 k9 => ?_⟩
        have eD9 := k9 _ _ nD eD
        simp? only [eD9]
        have fl4 := fl.1
        refine ⟨szl' (by omega), ns ++ [n], by rw [List.map_append]; rfl, by rw [List.length_append, nl]; rfl, by rw [upd_ne nDt]; exact tpO_keep e7 k9 nte, B9.updNot nD, (k7.trans k9).updFree (free_keep k5 nD hD)⟩
      · rintro H7 ⟨ns, eD, nl, e7, B7, k7⟩
        rw [List.length_map] at nl
        simp? only [eD]
        intro p1 hp1 p2 hp2
        have n1 : p1 ≠ p2 := ne_of_none upd_same hp2
        have sq := (same_new (o := .tup (ns.map V.int)) hp1).trans (same_new (o := .tup [.str "put", .str et.1, .ref p1]) hp2)
        exact k p2 (.put et.1 ns) _ (rx_tup upd_same (rxs_cons (rx_str _) (rxs_cons (rx_str _) (rxs_cons (rx_tup (by rw [upd_ne n1, upd_same]) (rxs_map fun x _ => rx_int x)) rxs_nil)))) (Nm.putOk tz.1.1 (by omega)) trivial (B7.same sq) (k7.trans (Keep.ofSame sq))
    by_cases c6 : way = 5 ∧ 1 < et.2.2.length
    · obtain ⟨rfl, cl⟩ := c6
      simp? only [c3, c5, hd5, hev5, tp5]
      rw [if_pos (decide_eq_true (by omega))]
      intro q H6 s6 e6
      rw [Nm.cutV_1, ← List.map_drop] at e6
      refine ⟨_, e6, fun nb hnb => ?_⟩
      have dl : (et.2.2.drop 1).length = et.2.2.length - 1 := List.length_drop
      have dz : ∀ f ∈ et.2.2.drop 1, f ≠ (Str.ofString "") := fun f hf => tz.2 f (List.mem_of_mem_drop hf)
      generalize et.2.2.drop 1 = fs at *
      have fl4 := fl.1
      have sb := s6.trans (same_new (o := .lst (fs.map V.str)) hnb)
      have nb7 : upd H6 nb (.lst (fs.map V.str)) nb = some (.lst (fs.map V.str)) := upd_same
      have B7 := B5.same sb
      have R7 := R5.same sb
      have C7 := C5.std (Std.ofSame sb)
      have k7 := k5.trans (Keep.ofSame sb)
      have nnb := (B5.same s6).free hnb
      have fnb : H nb = none := free_keep (k5.trans (Keep.ofSame s6)) nnb hnb
      generalize upd H6 nb (.lst (fs.map V.str)) = H7 at *
      refine ⟨fun σ' H8 => ∃ (tb : Addr) (ss : List Str), σ' = [some (.ref h), some (.ref d), some (.int 5), some (.str et.1), some (.ref fa), some vc, some (.ref nb), some (.ref tb), none, none] ∧ H8 tb = some (.lst (ss.map V.str)) ∧ ss.length ≤ 4 ∧ (∀ f ∈ ss, f ≠ (Str.ofString "")) ∧ H tb = none ∧ Nm.CoE H8 vc 6 ∧ RF H8 fa ps ∧ BoxB H8 h l ∧ Keep [h, l] H H8, ?_, ?_⟩
      · simp? only [nb7, tLc_eq, iRng1]
        refine ⟨h, l, fs.length, by first | rfl | simp, B7, by omega, by omega, fun r8 H8 a0 a1 B8 k8 => ?_⟩
        have nb8 := k8 _ _ nnb nb7
        have C8 := C7.std (B7.std k8)
        have R8 := R7.keepB k8 B7 nfa
        simp? only []
        refine ⟨by omega, by omega, lcB_it fun D hD => ?_⟩
        have nD := B8.free hD
        have nnD : nb ≠ D := ne_of_none nb8 hD
        have kh8 := k7.trans k8
        refine lc_it walk_range (fun j H9 => ∃ ts rem : List Str, H9 nb = some (.lst (rem.map V.str)) ∧ H9 D = some (.lst (ts.map V.str)) ∧ (ts ++ rem).Perm fs ∧ ts.length = j ∧ Nm.CoE H9 vc 6 ∧ RF H9 fa ps ∧ BoxB H9 h l ∧ Keep [h, l] H H9)
          ⟨[], fs, by rw [upd_ne nnD]; exact nb8, upd_same, List.Perm.refl _, rfl, C8.std (Std.ofSame (same_new hD)), R8.same (same_new hD), B8.same (same_new hD), kh8.thenNew hD⟩ (fun _ _ _ _ => trivial) ?_ ?_
        · rintro j x H9 H10 hj ⟨ts, rem, en, eD, pm, tl, C9, R9, B9, k9⟩ ⟨rfl, rfl⟩
          have lsum := pm.length_eq
          rw [List.length_append] at lsum
          simp? only [gName, en]
          refine ⟨h, l, rem.length, by first | rfl | simp, B9, by omega, by omega, fun r11 H11 c0 c1 B11 k11 => ?_⟩
          have en11 := k11 _ _ nnb en
          have eD11 := k11 _ _ nD eD
          have C11 := C9.std (B9.std k11)
          have R11 := R9.keepB k11 B9 nfa
          have hlt : r11.toNat < rem.length := by omega
          have six : seqIndex? r11 rem.length = some r11.toNat := seqIx c0 c1
          have hgt : rem[r11.toNat]? = some rem[r11.toNat] := List.getElem?_eq_getElem hlt
          simp? only [en11, six, hgt]
          refine ⟨by omega, by omega, ?_⟩
          have eD12 : upd H11 nb (.lst ((rem.map V.str).eraseIdx r11.toNat)) D = some (.lst (ts.map V.str)) := by rw [upd_ne nnD.symm]; exact eD11
          simp? only [eD12]
          have nfb : fa ≠ nb := fun z => by
            have := R11.at_
            rw [z, en11] at this
            cases rem with
            | nil => simp at hlt
            | cons _ _ => cases ps <;> simp at this
          have nfD : fa ≠ D := fun z => ne_of_none R8.at_ hD z
          have sd : Std H11 (upd (upd H11 nb (.lst ((rem.map V.str).eraseIdx r11.toNat))) D (.lst (ts.map V.str ++ [V.str rem[r11.toNat]]))) := (Nm.Std.upd en11 ⟨_, rfl⟩).trans (Nm.Std.upd eD12 ⟨_, rfl⟩)
          refine ⟨szl' (by omega), ts ++ [rem[r11.toNat]], rem.eraseIdx r11.toNat, ?_, by rw [List.map_append]; rfl, ?_, by rw [List.length_append, tl]; rfl, C11.std sd, (R11.updL en11 nfb).updL eD12 nfD, (B11.updNot nnb).updNot nD, ((k9.trans k11).updFree fnb).updFree (free_keep kh8 nD hD)⟩
          · rw [upd_ne nnD, upd_same, eraseIdx_mapV]
          · rw [List.append_assoc]
            exact (List.Perm.append_left ts (perm_erase rem r11.toNat hlt)).trans pm
        · rintro H9 ⟨ts, rem, en, eD, pm, tl, C9, R9, B9, k9⟩
          have lsum := pm.length_eq
          rw [List.length_append] at lsum
          exact ⟨D, rfl, ts, eD, by omega, fun f hf => dz f (pm.mem_iff.mp (List.mem_append_left _ hf)), free_keep kh8 nD hD, C9, R9, B9, k9⟩
      rintro σ' H8 ⟨tb, ss, rfl, etb, sl, sz, ftb, C8, R8, B8, k8⟩
      have ntb := B.free ftb
      simp? only [tLc_eq, iList, etb]
      refine ⟨⟨_, .inl (.inl etb)⟩, lcB_it fun D hD => ?_⟩
      have nD := B8.free hD
      have ntD : tb ≠ D := ne_of_none etb hD
      have nfD : fa ≠ D := fun z => ne_of_none R8.at_ hD z
      refine lc_it (walk_list (xs := ss.map V.str)) (fun j H9 => ∃ xs : List V, H9 D = some (.lst xs) ∧ xs.length = j ∧ Nm.SetsM H9 xs ∧ H9 tb = some (.lst (ss.map V.str)) ∧ Nm.CoE H9 vc 6 ∧ RF H9 fa ps ∧ BoxB H9 h l ∧ Keep [h, l] H H9)
        ⟨[], upd_same, rfl, Nm.SetsM.nil, by rw [upd_ne ntD]; exact etb, C8.std (Std.ofSame (same_new hD)), R8.same (same_new hD), B8.same (same_new hD), k8.thenNew hD⟩ (fun _ H9 _ ⟨_, _, _, _, e, _⟩ => .inl (.inl e)) ?_ ?_
      · rintro j x H9 H10 hj ⟨xs, eD, xl, SM, e9, C9, R9, B9, k9⟩ ⟨rfl, hx⟩
        obtain ⟨f, hf, rfl⟩ := str_at hx
        rw [List.length_map] at hj
        simp? only [gName]
        refine ⟨h, l, fa, ps, rfl, B9, R9, nz, pl, nfa, fun v t H11 Rt ot zt _ dt B11 k11 => ?_⟩
        have eD11 := k11 _ _ nD eD
        have R11 := R9.keepB k11 B9 nfa
        have e11 := k11 _ _ ntb e9
        intro p1 hp1
        have n1 : D ≠ p1 := ne_of_none eD11 hp1
        have eD12 : upd H11 p1 (.tup [.str f, v]) D = some (.lst xs) := (upd_ne n1).trans eD11
        simp? only [eD12]
        have s1 := same_new (o := .tup [.str f, v]) hp1
        have sd : Std (upd H11 p1 (.tup [.str f, v])) (upd (upd H11 p1 (.tup [.str f, v])) D (.lst (xs ++ [.ref p1]))) := Nm.Std.upd eD12 ⟨_, rfl⟩
        refine ⟨szl' (by omega), by rw [List.length_append, xl]; rfl, ?_, by rw [upd_ne ntD, upd_ne (ne_of_none e11 hp1)]; exact e11, ((C9.std (B9.std k11)).std (Std.ofSame s1)).std sd, (R11.same s1).updL eD12 nfD, (B11.same s1).updNot nD, ((k9.trans k11).thenNew hp1).updFree (free_keep k8 nD hD)⟩
        exact (((SM.std (B9.std k11)).std (Std.ofSame s1)).snoc upd_same ((Nm.rtDx Rt).std (Std.ofSame s1) (Nm.trNoL _)) ((Nm.trT_ok ot zt).mono (by omega)) (sz f (List.mem_of_getElem? hf))).std sd
      · rintro H9 ⟨xs, eD, xl, SM, e9, C9, R9, B9, k9⟩
        rw [List.length_map] at xl
        simp? only [eD]
        intro p1 hp1 p2 hp2
        have n1 : p1 ≠ p2 := ne_of_none upd_same hp2
        have sq := (same_new (o := .tup xs) hp1).trans (same_new (o := .tup [.str "set", .str et.1, .ref p1, vc]) hp2)
        obtain ⟨sts, q1, q2, q3⟩ := SM.std (Std.ofSame sq)
        obtain ⟨co, C9⟩ := C9.std (Std.ofSame sq)
        exact k p2 (.set et.1 sts co) _ (rx_tup upd_same (rxs_cons (rx_str _) (rxs_cons (rx_str _) (rxs_cons (rx_tup (by rw [upd_ne n1, upd_same]) q1) (rxs_cons C9.at_ rxs_nil))))) (Nm.setOk tz.1.1 ⟨by omega, q3⟩ C9.ok) trivial (B9.same sq) (k9.trans (Keep.ofSame sq))
    by_cases w6 : way = 6
    · subst w6
      simp? only []
      intro p1 hp1
      have s1 := same_new (o := .tup [.str "strike", .str et.1, vc]) hp1
      obtain ⟨co, C9⟩ := C5.std (Std.ofSame s1)
      exact k p1 (.strike et.1 co) _ (rx_tup upd_same (rxs_cons (rx_str _) (rxs_cons (rx_str _) (rxs_cons C9.at_ rxs_nil)))) (Nm.strikeOk tz.1.1 C9.ok) trivial (B5.same s1) (k5.trans (Keep.ofSame s1))
    have last : ∀ p, H5 p = none → ∀ p1, upd H5 p (.tup [.str "k", .str "x"]) p1 = none → ∀ p2, upd (upd H5 p (.tup [.str "k", .str "x"])) p1 (.tup [.str "table", .str "td", .ref p]) p2 = none →
        ∀ p3, upd (upd (upd H5 p (.tup [.str "k", .str "x"])) p1 (.tup [.str "table", .str "td", .ref p])) p2 (.tup [.str "index", .str et.1, .str "x"]) p3 = none →
        spNext [.ref h, .int 2] (upd (upd (upd (upd H5 p (.tup [.str "k", .str "x"])) p1 (.tup [.str "table", .str "td", .ref p])) p2 (.tup [.str "index", .str et.1, .str "x"])) p3 (.lst [.ref p1, .ref p2]))
          (fun y H2 => ∃ x x_1, y = V.int x_1 ∧ lsO (H2 p3) = some x ∧ ∃ x_2, atI x x_1 = some x_2 ∧ Q x_2 H2) E0 := by
      intro p hp p1 hp1 p2 hp2 p3 hp3
      have n01 : p ≠ p1 := ne_of_none upd_same hp1
      have s0 := same_new (o := .tup [.str "k", .str "x"]) hp
      have s1 := same_new (o := .tup [.str "table", .str "td", .ref p]) hp1
      have s2 := same_new (o := .tup [.str "index", .str et.1, .str "x"]) hp2
      have s3 := same_new (o := .lst [.ref p1, .ref p2]) hp3
      have a1 : upd (upd H5 p (.tup [.str "k", .str "x"])) p1 (.tup [.str "table", .str "td", .ref p]) p = some (.tup [.str "k", .str "x"]) := by rw [upd_ne n01, upd_same]
      have t1 : RX (upd (upd H5 p (.tup [.str "k", .str "x"])) p1 (.tup [.str "table", .str "td", .ref p])) (.ref p1) (Nm.Sm.table "td" ["k", "x"]).dx :=
        rx_tup upd_same (rxs_cons (rx_str _) (rxs_cons (rx_str _) (rxs_cons (rx_tup a1 (rxs_cons (rx_str _) (rxs_cons (rx_str _) rxs_nil))) rxs_nil)))
      have t2 : RX (upd (upd (upd H5 p (.tup [.str "k", .str "x"])) p1 (.tup [.str "table", .str "td", .ref p])) p2 (.tup [.str "index", .str et.1, .str "x"])) (.ref p2) (Nm.Sm.index et.1 "x").dx :=
        rx_tup upd_same (rxs_cons (rx_str _) (rxs_cons (rx_str _) (rxs_cons (rx_str _) rxs_nil)))
      have sq := ((s0.trans s1).trans s2).trans s3
      have B9 := B5.same sq
      refine ⟨h, l, 2, rfl, B9, by decide, by decide, fun r10 H10 r0 r1 B10 k10 => ?_⟩
      have e3 : H10 p3 = some (.lst [.ref p1, .ref p2]) := k10 _ _ ((B5.same ((s0.trans s1).trans s2)).free hp3) upd_same
      have T1 := ((t1.same s2).same s3).std (B9.std k10) (Nm.smNoL _)
      have T2 := (t2.same s3).std (B9.std k10) (Nm.smNoL _)
      have kk := (k5.trans (Keep.ofSame sq)).trans k10
      have hr2 : r10 = 0 ∨ r10 = 1 := by omega
      rcases hr2 with rfl | rfl
      · exact ⟨_, 0, rfl, by rw [e3]; rfl, _, rfl, k p1 _ H10 T1 (Nm.tableOk (by decide +kernel) (by simp) (by decide +kernel)) trivial B10 kk⟩
      · exact ⟨_, 1, rfl, by rw [e3]; rfl, _, rfl, k p2 _ H10 T2 (Nm.indexOk tz.1.1 (by decide +kernel)) ⟨(S.oks et het).1, by decide +kernel⟩ B10 kk⟩
    by_cases w7 : way = 7
    · subst w7
      simp? only []
      rw [if_neg (by decide), if_neg (by decide)]
      intro p hp p1 hp1 p2 hp2 p3 hp3
      have s0 := same_new (o := .tup [.str "begin"]) hp
      have s1 := same_new (o := .tup [.str "done"]) hp1
      have s2 := same_new (o := .tup [.str "undo"]) hp2
      have s3 := same_new (o := .lst [.ref p, .ref p1, .ref p2]) hp3
      have one : ∀ {G : Hp} {q : Addr} {x : Str}, RX (upd G q (.tup [.str x])) (.ref q) (Nm.Sm.alone x).dx := fun {G q x} => rx_tup upd_same (rxs_cons (rx_str _) rxs_nil)
      have t0 : RX (upd H5 p (.tup [.str "begin"])) (.ref p) (Nm.Sm.alone "begin").dx := one
      have t1 : RX (upd (upd H5 p (.tup [.str "begin"])) p1 (.tup [.str "done"])) (.ref p1) (Nm.Sm.alone "done").dx := one
      have t2 : RX (upd (upd (upd H5 p (.tup [.str "begin"])) p1 (.tup [.str "done"])) p2 (.tup [.str "undo"])) (.ref p2) (Nm.Sm.alone "undo").dx := one
      have sq := ((s0.trans s1).trans s2).trans s3
      have B9 := B5.same sq
      refine ⟨h, l, 3, rfl, B9, by decide, by decide, fun r10 H10 r0 r1 B10 k10 => ?_⟩
      have e3 : H10 p3 = some (.lst [.ref p, .ref p1, .ref p2]) := k10 _ _ ((B5.same ((s0.trans s1).trans s2)).free hp3) upd_same
      have T0 := (((t0.same s1).same s2).same s3).std (B9.std k10) (Nm.smNoL _)
      have T1 := ((t1.same s2).same s3).std (B9.std k10) (Nm.smNoL _)
      have T2 := (t2.same s3).std (B9.std k10) (Nm.smNoL _)
      have kk := (k5.trans (Keep.ofSame sq)).trans k10
      have hr3 : r10 = 0 ∨ r10 = 1 ∨ r10 = 2 := by omega
      rcases hr3 with rfl | rfl | rfl
      · exact ⟨_, 0, rfl, by rw [e3]; rfl, _, rfl, k p _ H10 T0 Nm.aloneOk (by show PyData.strOk _ = true; decide +kernel) B10 kk⟩
      · exact ⟨_, 1, rfl, by rw [e3]; rfl, _, rfl, k p1 _ H10 T1 Nm.aloneOk (by show PyData.strOk _ = true; decide +kernel) B10 kk⟩
      · exact ⟨_, 2, rfl, by rw [e3]; rfl, _, rfl, k p2 _ H10 T2 Nm.aloneOk (by show PyData.strOk _ = true; decide +kernel) B10 kk⟩
    by_cases w5 : way = 5
    · subst w5
      have cl : ¬ 1 < et.2.2.length := fun z => c6 ⟨rfl, z⟩
      simp? only [hd5, hev5, tp5]
      rw [if_neg (by simp; omega), if_neg (by decide), if_neg (by decide)]
      exact last
    · simp? only [c3, c5, w6, w7]
      rw [if_neg (by simpa using w5)]
      exact last
end

/-! names looked up: BadName(word = ..), Names(..), field -/
def spBadName (C : Addr) : Sp := fun vs H Q _ => ∃ (a : Addr) (n : Str), vs = [.ref a, .str n] ∧ H a = some (exo a C none) ∧ ∀ dx, H dx = none → dx ≠ a → Q .non (upd (upd H dx (exd dx [("word", .str n)])) a (exo a C (some dx)))
/-- a BadName of a word, nothing else changed but ms -/
def BnE (C : Addr) (ms : List Addr) (H : Hp) (E : XK) (w : Str) : Prop := ∀ H' d, Keep ms H H' → H' d = some (.xd [("word", .str w)]) → E (.ref C) (some d) H'
def shp (es : List Sh) : Nm.Shp := es.map fun e => (e.1, e.2.2)
theorem shp_tabs (es : List Sh) : Nm.tabs (shp es) = es.map (·.1) := by
  unfold Nm.tabs shp
  rw [List.map_map]
  rfl
theorem shp_flds : ∀ {es : List Sh}, (es.map (·.1)).Nodup → ∀ e ∈ es, Nm.flds (shp es) e.1 = e.2.2
  | a :: r, nd, e, he => by
    unfold Nm.flds shp
    rw [List.map_cons, List.find?_cons]
    rw [List.map_cons] at nd
    by_cases c : a.1 = e.1
    · have : e = a := by
        rcases List.mem_cons.mp he with z | z
        · exact z
        · exact absurd (List.mem_map.mpr ⟨e, z, c.symm⟩) (List.nodup_cons.mp nd).1
      subst this
      simp
    · have z : e ∈ r := (List.mem_cons.mp he).resolve_left fun z => c (by rw [z])
      have := shp_flds (List.nodup_cons.mp nd).2 e z
      unfold Nm.flds shp at this
      simp only [c, decide_false]
      exact this
theorem valV_notin {es : List Sh} {t : Str} (h : t ∉ es.map (·.1)) : valV (es.map fun e => ((Sum.inr e.1 : Key), V.ref e.2.1)) (Sum.inr t) = none := by
  cases hv : valV (es.map fun e => ((Sum.inr e.1 : Key), V.ref e.2.1)) (Sum.inr t) with
  | none => rfl
  | some z =>
    have q := valV_in hv
    rw [List.map_map] at q
    obtain ⟨e, he, hq⟩ := List.mem_map.mp q
    exact absurd (List.mem_map.mpr ⟨e, he, Sum.inr.inj hq⟩) h
theorem hasS_iff {l : List Str} {s : Str} : hasS l s = decide (s ∈ l) := by
  unfold hasS
  induction l with
  | nil => rfl
  | cons a r ih =>
    rw [List.any_cons, ih]
    by_cases c : a = s
    · subst c
      simp
    · simp [c, Ne.symm c]
def spNInit (C CB : Addr) : Sp := fun vs H Q E => ∃ (p dx d ta : Addr) (es : List Sh) (ts : List Str), vs = [.ref p, .ref d, .ref ta] ∧ H p = some (.ins C dx []) ∧ SH H d es ∧ tpO (H ta) = some (ts.map V.str) ∧ ts.length ≤ 8 ∧
  (Nm.badTab (shp es) [] ts = none → ∀ H', Keep [p] H H' → H' p = some (.ins C dx (fsNames (.ref d) (.ref ta))) → Q .non H') ∧ ∀ w, Nm.badTab (shp es) [] ts = some w → BnE CB [p] H E w
section
variable {P : Program} {w : World} {K : PySem.W.Frag} {mg : Str → Option Value} {base : Heap}
theorem ok_BadName_init (T : Txt K mg) : FnOk P w K mg base CX0 1 T.f_BadName_init T.fd_BadName_init ["self", "word"] (spBadName T.C_BadName) := by
  refine T.F_BadName_init.ok sc_BadName_init (fun vs H Q E h => ?_) (fun cdv Ar outer s0 H vs Q E hr h => ?_)
  · obtain ⟨a, n, rfl, _⟩ := h
    rfl
  · obtain ⟨a, n, rfl, ha, k⟩ := h
    have hu := hu_of hr
    have hu64 := hu64_of hr
    refine ⟨_, (pss_cons (ps_expr (pe_sinit rfl T.mg_StoreError T.R_StoreError T.v_StoreError (pa_cons (pv 0) (pa_cons (pv 1) pa_nil))))
      (pss_one (ps_ost (pv 0) (pv 1) rfl))), ?_⟩
    rw [show L2.start N_BadName_init [V.ref a, V.str n] = [some (V.ref a), some (V.str n)] from rfl]
    simp? only [tVeI, tOst]
    exact ⟨T.C_BadName, T.O_BadName, ha, T.C_BadName, T.O_BadName, T.n_BadName_word, .inl ⟨ha, k⟩⟩
/-- raise BadName(word = s): what is asked -/
theorem bn_raise {C : Addr} {ms : List Addr} {H0 H : Hp} {E : XK} {s : Str} (k : BnE C ms H0 E s) (km : Keep ms H0 H) (a : Addr) (ha : H a = none) : spBadName C [.ref a, .str s] (upd H a (exo a C none)) (fun v H2 => v = .non ∧ ∃ d : Addr, H2 a = some (exo a C (some d)) ∧ ∃ fs : List (Str × V), H2 d = some (exd d fs) ∧ H d = none ∧ E (.ref C) (some d) (upd (del H2 a) d (.xd fs))) (fun _ _ _ => False) := by
  refine ⟨a, s, rfl, upd_same, fun dx hdx hda => ⟨rfl, dx, upd_same, _, by rw [upd_ne hda, upd_same], ?_, ?_⟩⟩
  · rw [upd_ne hda] at hdx
    exact hdx
  · have hd : H dx = none := by rw [upd_ne hda] at hdx; exact hdx
    refine k _ dx (fun b o nb hb => ?_) upd_same
    have hb := km b o nb hb
    have nd : b ≠ dx := fun z => by rw [z, hd] at hb; cases hb
    have na : b ≠ a := fun z => by rw [z, ha] at hb; cases hb
    rw [upd_ne nd, del_ne na, upd_ne na, upd_ne nd, upd_ne na]
    exact hb
theorem ok_Names_init (T : Txt K mg) : FnOk P w K mg base (L2.CX P w) 3 T.f_Names_init T.fd_Names_init ["self", "shapes", "tables"] (spNInit T.C_Names T.C_BadName) := by
  have G_BadName_init : FnOk P w K mg base CX0 1 T.f_BadName_init T.fd_BadName_init ["self", "word"] (spBadName T.C_BadName) := ok_BadName_init T
  refine T.F_Names_init.okX sc_Names_init (fun vs H Q E h => ?_) (fun cdv A outer s H vs Q E hr h => ?_)
  · obtain ⟨p, dx, d, ta, es, ts, rfl, _⟩ := h
    rfl
  · obtain ⟨p, dx, d, ta, es, ts, rfl, hp, S, tt, tl, k0, k1⟩ := h
    have hu := hu_of hr
    have hu64 := hu64_of hr
    refine ⟨_, (pss_cons (ps_fld (pv 0) (pv 1) rfl)
      (pss_cons (ps_fld (pv 0) (pv 2) rfl)
      (pss_one (ps_for PassesOwn.leaving rfl (pi_enumT rfl T.n_enumerate (pa_cons (pv 2) pa_nil)) (pg_tupH (n := 2) rfl (pgs_cons (pg_name (i := 3) sc_Names_init.nd rfl (Or.inl rfl)) (pgs_cons (pg_name (i := 4) sc_Names_init.nd rfl (Or.inl rfl)) pgs_nil))) (pss_one (ps_if (PW.pt (pw_or (pt_cmp (pc_dnotin hu (pv 4) (pv 1)) (by rfl)) (pw_or1 (pt_cmpR op_inS (pv 4) (pe_slice sl_tp (pv 2) po_none (po_some (pv 3))) (by rfl))))) (pss_one (ps_raise rfl (takes_of rfl rfl rfl rfl) (pmk_kw T.O_BadName T.iO_BadName T.tO_BadName G_BadName_init (hr.mono (by decide)) T.kb_BadName_init pass0 rfl T.mg_BadName (pk_cons (pv 4) pk_nil)))) pss_nil)))))), ?_⟩
    rw [show L2.start N_Names_init [V.ref p, V.ref d, V.ref ta] = [some (V.ref p), some (V.ref d), some (V.ref ta), none, none] from rfl]
    have npd : d ≠ p := ne_of S.at_ hp (by intro z; cases z)
    have npt : ta ≠ p := fun z => by rw [z, hp] at tt; cases tt
    dsimp? only [hp, tFor_eq, iEnumT]
    have d0 : ∀ {H2 : Hp}, Keep [p] (upd H p (.ins T.C_Names dx (fsNames (.ref d) (.ref ta)))) H2 → Keep [p] H H2 := fun k => (Keep.refl.upd (by simp)).trans k
    refine ⟨⟨_, by rw [upd_ne npt]; exact tt⟩, forB_it (for_it (walk_enumT (xs := ts.map V.str)) (fun i σ H2 => ∃ (x3 x4 : Option V), σ = [some (.ref p), some (.ref d), some (.ref ta), x3, x4] ∧ Keep [p] H H2 ∧ H2 p = some (.ins T.C_Names dx (fsNames (.ref d) (.ref ta))) ∧ Nm.badTab (shp es) [] ts = Nm.badTab (shp es) (ts.take i) (ts.drop i))
      ⟨none, none, rfl, Keep.refl.upd (by simp), upd_same, rfl⟩ (fun _ _ _ _ ⟨_, _, _, km, _⟩ => .inl (rd_tpO (tpO_keep tt km (by simpa using npt)))) ?_ ?_)⟩
    · rintro i y σ H2 H3 hi ⟨x3, x4, rfl, km, e2, eb⟩ ⟨t, u, v, rfl, ht, rfl, hu', hv⟩
      rw [List.length_map] at hi
      cases hu'
      obtain ⟨s0, hs, rfl⟩ := str_at hv
      have hi2 : ts[i]? = some s0 := hs
      have st := same_new (o := .tup [V.int (i : Nat), V.str s0]) ht
      have et := upd_same (H := H2) (a := t) (o := .tup [V.int (i : Nat), V.str s0])
      have S3 : SH (upd H2 t (.tup [V.int (i : Nat), V.str s0])) d es := by
        refine SH.same ?_ st
        refine ⟨km _ _ (by simpa using npd) S.at_, fun e he => tpO_keep (S.tups e he) km ?_, S.oks, S.few, S.nd, S.zz⟩
        intro z
        have := S.tups e he
        rw [List.mem_singleton.mp z, hp] at this
        cases this
      have tt3 := tpO_same (tpO_keep tt km (by simpa using npt)) st
      have km3 := km.trans (Keep.ofSame st)
      have e3 := st _ _ e2
      generalize upd H2 t (.tup [V.int (i : Nat), V.str s0]) = H4 at *
      have hd := S3.at_
      dsimp? only [gTupH, gCons, gNil, gName, et, hd, tt3]
      have dec : Nm.badTab (shp es) [] ts = if s0 ∉ Nm.tabs (shp es) ∨ s0 ∈ ts.take i then some s0 else Nm.badTab (shp es) (ts.take (i + 1)) (ts.drop (i + 1)) := by
        rw [eb, List.drop_eq_getElem_cons (by omega)]
        have e : ts[i]'(by omega) = s0 := by
          have := List.getElem?_eq_getElem (l := ts) (i := i) (by omega)
          rw [this] at hi2
          exact Option.some.inj hi2
        rw [e]
        rw [List.take_add_one, hi2]
        rfl
      rw [shp_tabs] at dec
      simp? only [tDNotIn]
      refine ⟨_, .inl ⟨_, Sum.inr s0, .inl hd, rfl, rfl⟩, ?_⟩
      by_cases c : s0 ∈ es.map (·.1)
      · obtain ⟨e, he, _, hev⟩ := S3.look c
        rw [hev, if_neg (by simp)]
        refine ⟨_, tt3, ?_⟩
        intro q H5 s5 e5
        rw [Td.cutV_to, ← List.map_take] at e5
        refine ⟨ts.take i, .inr e5, ?_⟩
        rw [hasS_iff]
        by_cases c2 : s0 ∈ ts.take i
        · rw [if_pos (decide_eq_true c2)]
          intro a ha
          exact bn_raise (k1 s0 (by rw [dec, if_pos (.inr c2)])) (km3.trans (Keep.ofSame s5)) a ha
        · rw [if_neg (by simpa using c2)]
          exact ⟨km3.trans (Keep.ofSame s5), s5 _ _ e3, by rw [dec, if_neg (fun z => z.elim (fun y => y c) c2)]⟩
      · rw [valV_notin c, if_pos (by simp)]
        intro a ha
        exact bn_raise (k1 s0 (by rw [dec, if_pos (.inl c)])) km3 a ha
    · rintro σ H2 ⟨x3, x4, rfl, km, e2, eb⟩
      rw [List.length_map] at eb
      simp? only []
      exact k0 (by rw [eb, List.drop_length]; rfl) _ km e2
end

/-! a field looked up -/
structure NmO (C : Addr) (H : Hp) (a d ta : Addr) (es : List Sh) (ts : List Str) : Prop where
  ob : ∃ dx, H a = some (.ins C dx (fsNames (.ref d) (.ref ta)))
  S : SH H d es
  tt : tpO (H ta) = some (ts.map V.str)
  tin : ∀ t ∈ ts, t ∈ es.map (·.1)
  tl : ts.length ≤ 8
theorem NmO.same {C : Addr} {H H' : Hp} {a d ta : Addr} {es : List Sh} {ts : List Str} (N : NmO C H a d ta es ts) (k : Same H H') : NmO C H' a d ta es ts := ⟨N.ob.elim fun dx e => ⟨dx, k _ _ e⟩, N.S.same k, tpO_same N.tt k, N.tin, N.tl⟩
def spField (C CB : Addr) : Sp := fun vs H Q E => ∃ (a d ta : Addr) (es : List Sh) (ts : List Str) (t f : Str), vs = [.ref a, .str t, .str f] ∧ NmO C H a d ta es ts ∧
  (∀ o, Nm.nameF (shp es) ts t f = .ok o → ∀ H' p, Same H H' → H' p = some (.tup [.str "field", .str o, .str f]) → Q (.ref p) H') ∧ ∀ x, Nm.nameF (shp es) ts t f = .error x → BnE CB [] H E x
section
variable {P : Program} {w : World} {K : PySem.W.Frag} {mg : Str → Option Value} {base : Heap}
theorem ok_Names_field (T : Txt K mg) : FnOk P w K mg base (L2.CX P w) 3 T.f_Names_field T.fd_Names_field ["self", "table", "name"] (spField T.C_Names T.C_BadName) := by
  have G_BadName_init : FnOk P w K mg base CX0 1 T.f_BadName_init T.fd_BadName_init ["self", "word"] (spBadName T.C_BadName) := ok_BadName_init T
  refine T.F_Names_field.okX sc_Names_field (fun vs H Q E h => ?_) (fun cdv A outer s H vs Q E hr h => ?_)
  · obtain ⟨a, d, ta, es, ts, t, f, rfl, _⟩ := h
    rfl
  · obtain ⟨a, d, ta, es, ts, t, f, rfl, N, k0, k1⟩ := h
    have hu := hu_of hr
    have hu64 := hu64_of hr
    refine ⟨_, (Evl.pss_cut (ps_if (PW.pt (pw_and (pt_cmpR op_ne (pv 1) pe_str (nomark _)) (pw_and1 (pt_cmpR op_notInS (pv 1) (pe_fldK K rfl (pv 0) rfl) (by rfl))))) (pss_one (ps_raise rfl (takes_of rfl rfl rfl rfl) (pmk_kw T.O_BadName T.iO_BadName T.tO_BadName G_BadName_init (hr.mono (by decide)) T.kb_BadName_init pass0 rfl T.mg_BadName (pk_cons (pv 1) pk_nil)))) pss_nil)
      (Evl.pss_cut (ps_setLc (i := 3) (own := [("other", 4)]) (g := gName 4) rfl sc_Names_field.nd rfl rfl (sw_true rfl rfl rfl (by decide +kernel)) (pi_tupK K rfl (pe_fldK K rfl (pv 0) rfl)) (blkOk_by (N := N_Names_field) (sc := defScope s_Names_field) (by decide +kernel)) (fun _ _ _ _ _ => (pg_name (i := 4) sc_Names_field.nd rfl (Or.inl rfl))) (fun _ _ _ _ _ => pts_one (PW.pt (pw_and (pt_cmpR op_inS (pv 2) (pe_getI hu (pe_fldK K rfl (pv 0) rfl) (pv 4) (fun _ _ => rfl)) (by rfl)) (pw_and1 (pt_cmpR op_inT (pv 1) (pe_tup (pa_cons pe_str (pa_cons (pv 4) pa_nil))) (by rfl)))))) (fun _ _ _ _ _ => (pv 4)))
      (Evl.pss_cut (ps_if (pt_cmpR op_ne (pe_callB len_lst (by rfl) T.n_len PySem.boot_len (pa_cons (pv 3) pa_nil)) pe_int (nomark _)) (pss_one (ps_raise rfl (takes_of rfl rfl rfl rfl) (pmk_kw T.O_BadName T.iO_BadName T.tO_BadName G_BadName_init (hr.mono (by decide)) T.kb_BadName_init pass0 rfl T.mg_BadName (pk_cons (pv 2) pk_nil)))) pss_nil)
      (pss_one (ps_ret (pe_tup (pa_cons pe_str (pa_cons (pe_ix ix_lst (pv 3) pe_int (fun _ _ => rfl)) (pa_cons (pv 2) pa_nil))))))))), ?_⟩
    rw [show L2.start N_Names_field [V.ref a, V.str t, V.str f] = [some (V.ref a), some (V.str t), some (V.str f), none, none] from rfl]
    obtain ⟨dx, hob⟩ := N.ob
    have htt := N.tt
    have hd := N.S.at_
    refine ⟨fun σ' H2 => σ' = [some (.ref a), some (.str t), some (.str f), none, none] ∧ H2 = H ∧ ¬ (t ≠ Str.ofString "" ∧ t ∉ ts), ?_, ?_⟩
    · dsimp? only [hob, htt]
      by_cases c : t = Str.ofString ""
      · rw [if_neg (by simp [c])]
        exact fun z => absurd c z.1
      · rw [if_pos (by simp [c])]
        refine ⟨ts, .inr rfl, ?_⟩
        rw [hasS_iff]
        by_cases c2 : t ∈ ts
        · rw [if_neg (by simp [c2])]
          exact fun z => absurd c2 z.2
        · rw [if_pos (by simp [c2])]
          intro b hb
          exact bn_raise (k1 t (by unfold Nm.nameF; rw [if_pos ⟨c, c2⟩])) Keep.refl b hb
    rintro σ' H2 ⟨rfl, rfl, nc⟩
    refine ⟨fun σ' H3 => ∃ L : Addr, σ' = [some (.ref a), some (.str t), some (.str f), some (.ref L), none] ∧ Same H2 H3 ∧ H3 L = some (.lst ((Nm.hits (shp es) ts t f).map V.str)), ?_, ?_⟩
    · dsimp? only [tLc_eq, iTup, hob, htt]
      refine ⟨⟨_, .inl (rd_tpO htt)⟩, lcB_it fun D hD => ?_⟩
      refine lc_it (walk_tup (xs := ts.map V.str)) (fun j H4 => Same H2 H4 ∧ H4 D = some (.lst ((Nm.hits (shp es) (ts.take j) t f).map V.str))) ⟨same_new hD, upd_same⟩ (fun _ H4 _ ⟨s4, _⟩ => .inl (rd_tpO (tpO_same htt s4))) ?_ ?_
      · rintro j x H4 H5 hj ⟨s4, eD⟩ ⟨rfl, hx⟩
        obtain ⟨o, ho, rfl⟩ := str_at hx
        rw [List.length_map] at hj
        have S4 := N.S.same s4
        obtain ⟨e, he, rfl, hev⟩ := S4.look (N.tin o (List.mem_of_getElem? ho))
        have hd4 := S4.at_
        have ob4 := s4 _ _ hob
        have tp4 := S4.tups e he
        have hs : Nm.hits (shp es) (ts.take (j + 1)) t f = Nm.hits (shp es) (ts.take j) t f ++ (if f ∈ e.2.2 ∧ (t = Str.ofString "" ∨ t = e.1) then [e.1] else []) := by
          rw [List.take_add_one, ho]
          unfold Nm.hits
          rw [List.filter_append, Option.toList_some, List.filter_cons, List.filter_nil, shp_flds N.S.nd e he]
          congr 1
          by_cases c1 : f ∈ e.2.2 <;> by_cases c2 : (t = Str.ofString "" ∨ t = e.1) <;> simp [c1, c2]
        have hl : (Nm.hits (shp es) (ts.take j) t f).length ≤ 8 := by
          have := N.tl
          unfold Nm.hits
          exact Nat.le_trans (List.length_filter_le _ _) (by rw [List.length_take]; omega)
        dsimp? only [gName, ob4, hd4, hev]
        refine ⟨e.2.2, .inr tp4, ?_⟩
        rw [hasS_iff]
        by_cases c1 : f ∈ e.2.2
        · rw [if_pos (decide_eq_true c1)]
          intro p hp
          have nDp : D ≠ p := ne_of_none eD hp
          by_cases c2 : (t = Str.ofString "" ∨ t = e.1)
          · rw [if_pos (by rcases c2 with z | z <;> simp [z])]
            refine ⟨_, by rw [upd_ne nDp]; exact eD, szl' (by rw [List.length_map]; omega), Same.updFree (s4.trans (same_new hp)) hD, by rw [hs, if_pos ⟨c1, c2⟩, List.map_append]; rfl⟩
          · rw [if_neg (by
              intro z
              rcases Bool.or_eq_true_iff.mp z with y | y
              · exact c2 (.inl (eq_of_beq y).symm)
              · exact c2 (.inr (eq_of_beq y).symm))]
            exact ⟨s4.trans (same_new hp), by rw [upd_ne nDp, hs, if_neg (fun z => c2 z.2), List.append_nil]; exact eD⟩
        · rw [if_neg (by simpa using c1)]
          exact ⟨s4, by rw [hs, if_neg (fun z => c1 z.1), List.append_nil]; exact eD⟩
      · rintro H4 ⟨s4, eD⟩
        rw [List.length_map, List.take_length] at eD
        exact ⟨D, rfl, s4, eD⟩
    rintro σ' H3 ⟨L, rfl, s3, eL⟩
    refine ⟨fun σ' H4 => ∃ o : Str, σ' = [some (.ref a), some (.str t), some (.str f), some (.ref L), none] ∧ H4 = H3 ∧ Nm.hits (shp es) ts t f = [o], ?_, ?_⟩
    · simp? only [eL]
      match hh : Nm.hits (shp es) ts t f with
      | [] =>
        rw [if_pos (by simp)]
        intro b hb
        exact bn_raise (k1 f (by unfold Nm.nameF; rw [if_neg nc, hh])) (Keep.ofSame s3) b hb
      | [o] =>
        rw [if_neg (by simp)]
        exact ⟨o, rfl⟩
      | o :: o2 :: r =>
        rw [if_pos (by simp; omega)]
        intro b hb
        exact bn_raise (k1 f (by unfold Nm.nameF; rw [if_neg nc, hh])) (Keep.ofSame s3) b hb
    rintro σ' H4 ⟨o, rfl, rfl, hh⟩
    rw [hh] at eL
    simp? only [eL]
    intro p hp
    exact k0 o (by unfold Nm.nameF; rw [if_neg nc, hh]) _ p (s3.trans (same_new hp)) upd_same
end

/-! a term or a condition looked up; several -/
def spTree (C CB : Addr) (n : Nat) : Sp := fun vs H Q E => ∃ (a d ta : Addr) (es : List Sh) (ts : List Str) (v : V) (c : Option Nm.Tr), vs = [.ref a, v] ∧ NmO C H a d ta es ts ∧ RX H v (Nm.dxO c) ∧ (Nm.dxO c).deep ≤ n ∧ (Nm.dxO c).fits 8 ∧ (∀ t, c = some t → t.wk) ∧
  (∀ c', Nm.nameO (shp es) ts c = .ok c' → ∀ H' v', Same H H' → RX H' v' (Nm.dxO c') → Q v' H') ∧ ∀ x, Nm.nameO (shp es) ts c = .error x → BnE CB [] H E x
section
variable {P : Program} {w : World} {K : PySem.W.Frag} {mg : Str → Option Value} {base : Heap}
theorem Names_tree_step (T : Txt K mg) (n : Nat) (sp0 : Sp) (G_Names_tree : FnOk P w K mg base (L2.CX P w) (n + 3) T.f_Names_tree T.fd_Names_tree ["self", "tree"] sp0) (h0 : ∀ e, n = e + 1 → sp0 = spTree T.C_Names T.C_BadName e) :
    FnOk P w K mg base (L2.CX P w) (n + 4) T.f_Names_tree T.fd_Names_tree ["self", "tree"] (spTree T.C_Names T.C_BadName n) := by
  have G_Names_field : FnOk P w K mg base (L2.CX P w) 3 T.f_Names_field T.fd_Names_field ["self", "table", "name"] (spField T.C_Names T.C_BadName) := ok_Names_field T
  refine T.F_Names_tree.okX sc_Names_tree (fun vs H Q E h => ?_) (fun cdv A outer s H vs Q E hr h => ?_)
  · obtain ⟨a, d, ta, es, ts, v, c, rfl, _⟩ := h
    rfl
  · have hu := hu_of hr
    have hu64 := hu64_of hr
    obtain ⟨a, d, ta, es, ts, v, c, rfl, N, R, dp, ft, wk, k0, k1⟩ := h
    refine ⟨_, (pss_cons (ps_if (PW.pt (pw_or (pt_cmpR op_isN (pv 1) pe_non (nomark _)) (pw_or1 (pt_cmpR op_eq (pe_ix ix_tp (pv 1) pe_int (fun _ _ => rfl)) pe_str (nomark _))))) (pss_one (ps_ret (pv 1))) pss_nil)
      (pss_cons (ps_if (pt_cmpR op_eq (pe_ix ix_tp (pv 1) pe_int (fun _ _ => rfl)) pe_str (nomark _)) (pss_one (ps_ret (pe_meth (pv 0) T.cl_Names T.me_Names_field G_Names_field (hr.mono (by show _ ≤ n + 3; omega)) T.b_Names_field .nil (passes_call (takes_of rfl rfl rfl rfl) (fun _ _ _ _ z => z)) (pa_cons (pe_ix ix_tp (pv 1) pe_int (fun _ _ => rfl)) (pa_cons (pe_ix ix_tp (pv 1) pe_int (fun _ _ => rfl)) pa_nil))))) pss_nil)
      (pss_one (ps_ret (pe_op op_catS (pe_tup (pa_cons (pe_ix ix_tp (pv 1) pe_int (fun _ _ => rfl)) pa_nil)) (pe_callTy tuple_lst (by rfl) T.n_tuple (by decide +kernel) (pa_cons (LX.pe_lcX (own := [("one", 2)]) (g := gName 2) (tt := tYes) rfl rfl (takes_of rfl rfl rfl rfl) (fun _ _ _ _ z => z) rfl sc_Names_tree.nd (pi_tupK K rfl (pe_slice sl_tp (pv 1) (po_some pe_int) po_none)) (blkOk_by (N := N_Names_tree) (sc := defScope s_Names_tree) (by decide +kernel)) (fun _ _ _ _ _ => (pg_name (i := 2) sc_Names_tree.nd rfl (Or.inl rfl))) (fun _ _ _ _ _ => pts_nil) (fun _ _ _ _ _ => (pe_meth (pv 0) T.cl_Names T.me_Names_tree G_Names_tree (hr.mono (by show _ ≤ n + 3; omega)) T.b_Names_tree .nil LX.passes_blk (pa_cons (pv 2) pa_nil)))) pa_nil))))))), ?_⟩
    rw [show L2.start N_Names_tree [V.ref a, v] = [some (V.ref a), some (v), none] from rfl]
    obtain ⟨dx, hob⟩ := N.ob
    cases c with
    | none =>
      have R : v = .non := by simpa only [Nm.dxO, RX] using R
      subst R
      simp? only []
      exact k0 none rfl H .non (Same.refl H) rx_non
    | some t =>
      have wk := wk t rfl
      have R : RX H v t.dx := R
      cases t with
      | num z =>
        unfold Nm.Tr.dx at R
        obtain ⟨b, us, rfl, hb, r⟩ := Nm.rx_tpO R
        obtain ⟨u0, us, rfl, h0, r⟩ := Nm.rxs_un r
        obtain ⟨u1, us, rfl, h1, r⟩ := Nm.rxs_un r
        obtain rfl := Nm.rxs_no r
        obtain rfl := Nm.rx_s h0
        obtain rfl := Nm.rx_i h1
        simp? only [hb]
        exact k0 (some (.num z)) rfl H _ (Same.refl H) (by unfold Nm.dxO Nm.Tr.dx; exact R)
      | fld tt f =>
        unfold Nm.Tr.dx at R
        obtain ⟨b, us, rfl, hb, r⟩ := Nm.rx_tpO R
        obtain ⟨u0, us, rfl, h0, r⟩ := Nm.rxs_un r
        obtain ⟨u1, us, rfl, h1, r⟩ := Nm.rxs_un r
        obtain ⟨u2, us, rfl, h2, r⟩ := Nm.rxs_un r
        obtain rfl := Nm.rxs_no r
        obtain rfl := Nm.rx_s h0
        obtain rfl := Nm.rx_s h1
        obtain rfl := Nm.rx_s h2
        dsimp? only [hb, hob]
        refine ⟨noNames_field, a, d, ta, es, ts, tt, f, rfl, N, fun o ho H' p s' hp => ?_, fun x hx => k1 x (by rw [Nm.nameO_fld, hx])⟩
        refine k0 (some (.fld o f)) (by rw [Nm.nameO_fld, ho]) H' _ s' ?_
        unfold Nm.dxO Nm.Tr.dx
        exact rx_tup hp (rxs_cons (rx_str _) (rxs_cons (rx_str _) (rxs_cons (rx_str _) rxs_nil)))
      | node w ks =>
        obtain ⟨⟨wl, w1, w2, _⟩, wks⟩ := wk
        have R0 := R
        unfold Nm.Tr.dx at R
        obtain ⟨b, us, rfl, hb, r⟩ := Nm.rx_tpO R
        obtain ⟨u0, us, rfl, g0, r2⟩ := Nm.rxs_un r
        obtain rfl := Nm.rx_s g0
        rw [Nm.dxL_map] at r2
        have w1 : ¬ w = Str.ofString "num" := w1
        have w2 : ¬ w = Str.ofString "field" := w2
        have ul := r2.len
        have ul : us.length = ks.length := by simpa using ul
        dsimp? only [hb, hob, w1, w2, tLc_eq, iTup]
        have i1 : ¬ w = Wd.num.s := w1
        have i2 : ¬ w = Wd.field.s := w2
        rw [if_neg (by simpa using i1), if_neg (by simpa using i2)]
        have kd : ∀ k ∈ ks, k.dx.deep + 1 ≤ n ∧ k.dx.fits 8 ∧ k.wk := fun k hk => by
          have hm : k.dx ∈ Nm.Tr.dxL ks := by rw [Nm.dxL_map]; exact List.mem_map.mpr ⟨k, hk, rfl⟩
          obtain ⟨i, hi⟩ := List.getElem?_of_mem hm
          have e1 : Dx.deep k.dx ≤ Dx.deepL (Nm.Tr.dxL ks) := Dx.deepL_at hi
          have e0 := Nm.node_deep (w := w) (ks := ks)
          have f0 : (Nm.Tr.dx (.node w ks)).fits 8 := ft
          rw [Nm.Tr.dx, Dx.fits, Dx.fitsL] at f0
          refine ⟨by rw [e0] at dp; omega, Dx.fitsL_at f0.2.2 hi, Nm.wkL_all.mp wks k hk⟩
        have kl : ks.length ≤ 7 := by
          have f0 : (Nm.Tr.dx (.node w ks)).fits 8 := ft
          rw [Nm.Tr.dx, Dx.fits] at f0
          have := f0.1
          rw [Nm.dxL_map, List.length_cons, List.length_map] at this
          omega
        intro p0 hp0
        have n0 : b ≠ p0 := fun z => by rw [z, hp0] at hb; cases hb
        refine ⟨_, (by rw [upd_ne n0]; exact hb), fun q H1 s1 e1 => ?_⟩
        rw [Nm.cutV_1, List.drop_succ_cons, List.drop_zero] at e1
        have s01 := (same_new (o := .tup [.str w]) hp0).trans s1
        have ep0 : H1 p0 = some (.tup [.str w]) := s1 _ _ upd_same
        have r1 := RXs.same s01 r2
        refine ⟨⟨_, .inl (rd_tpO e1)⟩, lcB_it fun D hD => ?_⟩
        have hn : n = (n - 1) + 1 := by
          have e0 := Nm.node_deep (w := w) (ks := ks)
          omega
        have hsp := h0 (n - 1) hn
        subst hsp
        refine lc_it (walk_tup (xs := us)) (fun j H4 => Same H1 H4 ∧ ∃ ys, H4 D = some (.lst ys) ∧ Nm.NlAt H4 (shp es) ts ys (ks.take j)) ⟨same_new hD, [], upd_same, Nm.NlAt.nil⟩ (fun _ H4 _ ⟨s4, _⟩ => .inl (rd_tpO (tpO_same e1 s4))) ?_ ?_
        · rintro j x H4 H5 hj ⟨s4, ys, eD, NL⟩ ⟨rfl, hx⟩
          obtain ⟨kj, hkj⟩ : ∃ kj, ks[j]? = some kj := ⟨_, List.getElem?_eq_getElem (by omega)⟩
          have ob4 := s4 _ _ (s01 _ _ hob)
          dsimp? only [gName, ob4]
          have hdj : (ks.map Nm.Tr.dx)[j]? = some kj.dx := by rw [List.getElem?_map, hkj]; rfl
          obtain ⟨u, hu1, ru⟩ := RXs.at r1 hdj
          rw [hx] at hu1
          cases hu1
          obtain ⟨kd1, kd2, kd3⟩ := kd kj (List.mem_of_getElem? hkj)
          have tk1 : ks.take (j + 1) = ks.take j ++ [kj] := by rw [List.take_add_one, hkj]; rfl
          have yl := NL.len
          rw [List.length_take] at yl
          refine ⟨a, d, ta, es, ts, x, some kj, rfl, N.same (s01.trans s4), RX.same s4 ru, (by show kj.dx.deep ≤ n - 1; omega), kd2, fun t ht => by cases ht; exact kd3, fun c' hc H6 v' s6 r6 => ?_, fun x' hx' => ?_⟩
          · rw [Nm.nameO_some] at hc
            cases hT : Nm.nameT (shp es) ts kj with
            | error w => rw [hT] at hc; cases hc
            | ok k' =>
              rw [hT] at hc
              cases hc
              have eD6 := s6 _ _ eD
              exact ⟨ys, eD6, szl' (by omega), Same.updFree (s4.trans s6) hD, by rw [tk1]; exact ((NL.std (Std.ofSame s6)).snoc hT r6).std (Nm.Std.upd eD6 ⟨_, rfl⟩)⟩
          · rw [Nm.nameO_some] at hx'
            cases hT : Nm.nameT (shp es) ts kj with
            | ok k' => rw [hT] at hx'; cases hx'
            | error w' =>
              rw [hT] at hx'
              cases hx'
              have hh := NL.err (r := ks.drop (j + 1)) hT
              have e2 : ks.take j ++ kj :: ks.drop (j + 1) = ks := by
                have := List.take_append_drop (j + 1) ks
                rw [tk1, List.append_assoc] at this
                exact this
              rw [e2] at hh
              have kk := k1 x' (by rw [Nm.nameO_node, hh])
              exact fun H' d' km e' => kk H' d' ((Keep.ofSame (s01.trans s4)).trans km) e'
        · rintro H4 ⟨s4, ys, eD, NL⟩
          have ep4 := s4 _ _ ep0
          rw [ul, List.take_length] at NL
          obtain ⟨ks', nk, ry, kl'⟩ := id NL
          have yl := NL.len
          simp? only [eD]
          intro l hl
          refine ⟨[.str w], (by rw [upd_ne (ne_of_none ep4 hl), ep4]; rfl), szl (show [V.str w].length + ys.length ≤ 100000 by rw [List.length_singleton]; omega), fun p H' s' e' => ?_⟩
          have sa := s4.trans ((same_new (o := .tup ys) hl).trans s')
          refine k0 (some (.node w ks')) (by rw [Nm.nameO_node, nk]) H' (.ref p) (s01.trans sa) ?_
          show RX H' (.ref p) (Nm.Tr.dx (.node w ks'))
          rw [Nm.Tr.dx, Nm.dxL_map]
          exact Nm.rx_of_tpO e' (rxs_cons (rx_str w) (RXs.same ((same_new (o := .tup ys) hl).trans s') ry))
theorem ok_Names_tree (T : Txt K mg) : ∀ n : Nat, FnOk P w K mg base (L2.CX P w) (n + 4) T.f_Names_tree T.fd_Names_tree ["self", "tree"] (spTree T.C_Names T.C_BadName n)
  | 0 => Names_tree_step T 0 (fun _ _ _ _ => False) (T.F_Names_tree.okX sc_Names_tree (fun vs H Q E h => h.elim) (fun cdv A outer s H vs Q E hr h => h.elim)) (fun e h => absurd h (by omega))
  | n + 1 => Names_tree_step T (n + 1) (spTree T.C_Names T.C_BadName n) (ok_Names_tree T n) (fun e h => by cases h; rfl)
end

/-! several trees looked up -/
theorem BnE.imp {C : Addr} {H H1 : Hp} {E : XK} {x : Str} (k : BnE C [] H E x) (s : Same H H1) : BnE C [] H1 E x := fun H' d km e => k H' d ((Keep.ofSame s).trans km) e
def spTrees (C CB : Addr) (n : Nat) : Sp := fun vs H Q E => ∃ (a d ta : Addr) (es : List Sh) (ts : List Str) (v : V) (l : List Nm.Tr), vs = [.ref a, v] ∧ NmO C H a d ta es ts ∧ RX H v (.tup (l.map Nm.Tr.dx)) ∧ l.length ≤ 8 ∧ (∀ t ∈ l, t.dx.deep ≤ n ∧ t.dx.fits 8 ∧ t.wk) ∧
  (∀ l', Nm.nameL (shp es) ts l = .ok l' → ∀ H' p, Same H H' → RX H' (.ref p) (.tup (l'.map Nm.Tr.dx)) → Q (.ref p) H') ∧ ∀ x, Nm.nameL (shp es) ts l = .error x → BnE CB [] H E x
section
variable {P : Program} {w : World} {K : PySem.W.Frag} {mg : Str → Option Value} {base : Heap}
theorem ok_Names_trees (T : Txt K mg) (n : Nat) : FnOk P w K mg base (L2.CX P w) (n + 5) T.f_Names_trees T.fd_Names_trees ["self", "some"] (spTrees T.C_Names T.C_BadName n) := by
  have G_Names_tree : FnOk P w K mg base (L2.CX P w) (n + 4) T.f_Names_tree T.fd_Names_tree ["self", "tree"] (spTree T.C_Names T.C_BadName n) := ok_Names_tree T n
  refine T.F_Names_trees.okX sc_Names_trees (fun vs H Q E h => ?_) (fun cdv A outer s H vs Q E hr h => ?_)
  · obtain ⟨a, d, ta, es, ts, v, c, rfl, _⟩ := h
    rfl
  · have hu := hu_of hr
    have hu64 := hu64_of hr
    obtain ⟨a, d, ta, es, ts, v, ks, rfl, N, R, kl, kd, k0, k1⟩ := h
    refine ⟨_, (pss_one (ps_ret (pe_callTy tuple_lst (by rfl) T.n_tuple (by decide +kernel) (pa_cons (LX.pe_lcX (own := [("one", 2)]) (g := gName 2) (tt := tYes) rfl rfl (takes_of rfl rfl rfl rfl) (fun _ _ _ _ z => z) rfl sc_Names_trees.nd (pi_tupK K rfl (pv 1)) (blkOk_by (N := N_Names_trees) (sc := defScope s_Names_trees) (by decide +kernel)) (fun _ _ _ _ _ => (pg_name (i := 2) sc_Names_trees.nd rfl (Or.inl rfl))) (fun _ _ _ _ _ => pts_nil) (fun _ _ _ _ _ => (pe_meth (pv 0) T.cl_Names T.me_Names_tree G_Names_tree (hr.mono (by show _ ≤ n + 4; omega)) T.b_Names_tree .nil LX.passes_blk (pa_cons (pv 2) pa_nil)))) pa_nil)))), ?_⟩
    rw [show L2.start N_Names_trees [V.ref a, v] = [some (V.ref a), some (v), none] from rfl]
    obtain ⟨dx, hob⟩ := N.ob
    obtain ⟨b, us, rfl, hb, r⟩ := Nm.rx_tpO R
    have ul : us.length = ks.length := by simpa using r.len
    dsimp? only [hb, hob, tLc_eq, iTup]
    refine ⟨⟨_, .inl (rd_tpO hb)⟩, lcB_it fun D hD => ?_⟩
    refine lc_it (walk_tup (xs := us)) (fun j H4 => Same H H4 ∧ ∃ ys, H4 D = some (.lst ys) ∧ Nm.NlAt H4 (shp es) ts ys (ks.take j)) ⟨same_new hD, [], upd_same, Nm.NlAt.nil⟩ (fun _ H4 _ ⟨s4, _⟩ => .inl (rd_tpO (tpO_same hb s4))) ?_ ?_
    · rintro j x H4 H5 hj ⟨s4, ys, eD, NL⟩ ⟨rfl, hx⟩
      obtain ⟨kj, hkj⟩ : ∃ kj, ks[j]? = some kj := ⟨_, List.getElem?_eq_getElem (by omega)⟩
      have ob4 := s4 _ _ hob
      dsimp? only [gName, ob4]
      have hdj : (ks.map Nm.Tr.dx)[j]? = some kj.dx := by rw [List.getElem?_map, hkj]; rfl
      obtain ⟨u, hu1, ru⟩ := RXs.at r hdj
      rw [hx] at hu1
      cases hu1
      obtain ⟨kd1, kd2, kd3⟩ := kd kj (List.mem_of_getElem? hkj)
      have tk1 : ks.take (j + 1) = ks.take j ++ [kj] := by rw [List.take_add_one, hkj]; rfl
      have yl := NL.len
      rw [List.length_take] at yl
      refine ⟨a, d, ta, es, ts, x, some kj, rfl, N.same s4, RX.same s4 ru, kd1, kd2, fun t ht => by cases ht; exact kd3, fun c' hc H6 v' s6 r6 => ?_, fun x' hx' => ?_⟩
      · rw [Nm.nameO_some] at hc
        cases hT : Nm.nameT (shp es) ts kj with
        | error w => rw [hT] at hc; cases hc
        | ok k' =>
          rw [hT] at hc
          cases hc
          have eD6 := s6 _ _ eD
          exact ⟨ys, eD6, szl' (by omega), Same.updFree (s4.trans s6) hD, by rw [tk1]; exact ((NL.std (Std.ofSame s6)).snoc hT r6).std (Nm.Std.upd eD6 ⟨_, rfl⟩)⟩
      · rw [Nm.nameO_some] at hx'
        cases hT : Nm.nameT (shp es) ts kj with
        | ok k' => rw [hT] at hx'; cases hx'
        | error w' =>
          rw [hT] at hx'
          cases hx'
          have hh := NL.err (r := ks.drop (j + 1)) hT
          have e2 : ks.take j ++ kj :: ks.drop (j + 1) = ks := by
            have := List.take_append_drop (j + 1) ks
            rw [tk1, List.append_assoc] at this
            exact this
          rw [e2] at hh
          exact (k1 x' hh).imp s4
    · rintro H4 ⟨s4, ys, eD, NL⟩
      rw [ul, List.take_length] at NL
      obtain ⟨ks', nk, ry, kl'⟩ := id NL
      simp? only [eD]
      intro l hl
      exact k0 ks' nk _ l (s4.trans (same_new hl)) (rx_tup upd_same (RXs.same (same_new hl) ry))
end

/-! statements that make tables and indexes, looked at -/
def spCTable (CB : Addr) : Sp := fun vs H Q E => ∃ (a d : Addr) (es : List Sh) (t : Str) (fs : List Str), vs = [.ref a, .ref d] ∧ SH H d es ∧ RX H (.ref a) (Nm.Sm.table t fs).dx ∧ fs.length ≤ 8 ∧
  (t ∉ es.map (·.1) → Nm.twice [] fs = none → ∀ H', Same H H' → Q (.ref a) H') ∧ (t ∈ es.map (·.1) → BnE CB [] H E t) ∧ ∀ f, t ∉ es.map (·.1) → Nm.twice [] fs = some f → BnE CB [] H E f
section
variable {P : Program} {w : World} {K : PySem.W.Frag} {mg : Str → Option Value} {base : Heap}
theorem ok_checked_table (T : Txt K mg) : FnOk P w K mg base (L2.CX P w) 3 T.f_checked_table T.fd_checked_table ["tree", "shapes"] (spCTable T.C_BadName) := by
  have G_BadName_init : FnOk P w K mg base CX0 1 T.f_BadName_init T.fd_BadName_init ["self", "word"] (spBadName T.C_BadName) := ok_BadName_init T
  refine T.F_checked_table.okX sc_checked_table (fun vs H Q E h => ?_) (fun cdv A outer s H vs Q E hr h => ?_)
  · obtain ⟨a, d, es, t, fs, rfl, _⟩ := h
    rfl
  · have hu := hu_of hr
    have hu64 := hu64_of hr
    obtain ⟨a, d, es, t, fs, rfl, S, R, fl, k0, k1, k2⟩ := h
    refine ⟨_, (pss_cons (ps_asg (pv 0) (pg_tupH (n := 3) rfl (pgs_cons (pg_name (i := 2) sc_checked_table.nd rfl (Or.inl rfl)) (pgs_cons (pg_name (i := 3) sc_checked_table.nd rfl (Or.inl rfl)) (pgs_cons (pg_name (i := 4) sc_checked_table.nd rfl (Or.inl rfl)) pgs_nil)))))
      (pss_cons (ps_if (pt_cmp (pc_din hu (pv 3) (pv 1)) (by rfl)) (pss_one (ps_raise rfl (takes_of rfl rfl rfl rfl) (pmk_kw T.O_BadName T.iO_BadName T.tO_BadName G_BadName_init (hr.mono (by decide)) T.kb_BadName_init pass0 rfl T.mg_BadName (pk_cons (pv 3) pk_nil)))) pss_nil)
      (pss_cons (ps_for PassesOwn.leaving rfl (pi_enumT rfl T.n_enumerate (pa_cons (pv 4) pa_nil)) (pg_tupH (n := 2) rfl (pgs_cons (pg_name (i := 5) sc_checked_table.nd rfl (Or.inl rfl)) (pgs_cons (pg_name (i := 6) sc_checked_table.nd rfl (Or.inl rfl)) pgs_nil))) (pss_one (ps_if (pt_cmpR op_inS (pv 6) (pe_slice sl_tp (pv 4) po_none (po_some (pv 5))) (by rfl)) (pss_one (ps_raise rfl (takes_of rfl rfl rfl rfl) (pmk_kw T.O_BadName T.iO_BadName T.tO_BadName G_BadName_init (hr.mono (by decide)) T.kb_BadName_init pass0 rfl T.mg_BadName (pk_cons (pv 6) pk_nil)))) pss_nil)))
      (pss_one (ps_ret (pv 0)))))), ?_⟩
    rw [show L2.start N_checked_table [V.ref a, V.ref d] = [some (V.ref a), some (V.ref d), none, none, none, none, none] from rfl]
    obtain ⟨b, us, eb, hb, r⟩ := Nm.rx_tpO R
    cases eb
    obtain ⟨u0, us, rfl, h0, r1⟩ := Nm.rxs_un r
    obtain ⟨u1, us, rfl, h1, r2⟩ := Nm.rxs_un r1
    obtain ⟨u2, us, rfl, h2, r3⟩ := Nm.rxs_un r2
    obtain rfl := Nm.rxs_no r3
    obtain rfl := Nm.rx_s h0
    obtain rfl := Nm.rx_s h1
    obtain ⟨c, ws, rfl, hc, rw0⟩ := Nm.rx_tpO h2
    have hws : ws = fs.map V.str := by
      clear hc h2 r1 r2 r hb R k0 k1 k2 fl
      induction fs generalizing ws with
      | nil => exact Nm.rxs_no rw0
      | cons f r ih =>
        obtain ⟨x, xs, rfl, hx, rr⟩ := Nm.rxs_un rw0
        rw [Nm.rx_s hx, ih _ rr]
        rfl
    subst hws
    have hd := S.at_
    dsimp? only [gTupH, gCons, gNil, gName, hb, tDIn, hd, tFor_eq, iEnumT]
    refine ⟨_, .inl ⟨_, Sum.inr t, .inl hd, rfl, rfl⟩, ?_⟩
    by_cases c0 : t ∈ es.map (·.1)
    · obtain ⟨e, he, _, hev⟩ := S.look c0
      rw [hev, if_pos (by simp)]
      intro b0 hb0
      exact bn_raise (k1 c0) Keep.refl b0 hb0
    · rw [valV_notin c0, if_neg (by simp)]
      refine ⟨⟨_, hc⟩, forB_it (for_it (walk_enumT (xs := fs.map V.str)) (fun i σ H2 => ∃ (x5 x6 : Option V), σ = [some (.ref a), some (.ref d), some (.str (Str.ofString "table")), some (.str t), some (.ref c), x5, x6] ∧ Same H H2 ∧ Nm.twice [] fs = Nm.twice (fs.take i) (fs.drop i))
        ⟨none, none, rfl, Same.refl H, rfl⟩ (fun _ _ _ _ ⟨_, _, _, km, _⟩ => .inl (rd_tpO (tpO_same hc km))) ?_ ?_)⟩
      · rintro i y σ H2 H3 hi ⟨x5, x6, rfl, km, eb⟩ ⟨q, u, v, rfl, hq, rfl, hu', hv⟩
        rw [List.length_map] at hi
        cases hu'
        obtain ⟨s0, hs, rfl⟩ := str_at hv
        have hi2 : fs[i]? = some s0 := hs
        have st := same_new (o := .tup [V.int (i : Nat), V.str s0]) hq
        have et := upd_same (H := H2) (a := q) (o := .tup [V.int (i : Nat), V.str s0])
        have tc := tpO_same (tpO_same hc km) st
        have km3 := km.trans st
        generalize upd H2 q (.tup [V.int (i : Nat), V.str s0]) = H4 at *
        dsimp? only [gTupH, gCons, gNil, gName, et, tc]
        have dec : Nm.twice [] fs = if s0 ∈ fs.take i then some s0 else Nm.twice (fs.take (i + 1)) (fs.drop (i + 1)) := by
          rw [eb, List.drop_eq_getElem_cons (by omega)]
          have e : fs[i]'(by omega) = s0 := by
            have := List.getElem?_eq_getElem (l := fs) (i := i) (by omega)
            rw [this] at hi2
            exact Option.some.inj hi2
          rw [e]
          rw [List.take_add_one, hi2]
          rfl
        intro z H5 s5 e5
        rw [Td.cutV_to, ← List.map_take] at e5
        refine ⟨fs.take i, .inr e5, ?_⟩
        rw [hasS_iff]
        by_cases c2 : s0 ∈ fs.take i
        · rw [if_pos (decide_eq_true c2)]
          intro b0 hb0
          exact bn_raise (k2 s0 c0 (by rw [dec, if_pos c2])) (Keep.ofSame (km3.trans s5)) b0 hb0
        · rw [if_neg (by simpa using c2)]
          exact ⟨km3.trans s5, by rw [dec, if_neg c2]⟩
      · rintro σ H2 ⟨x5, x6, rfl, km, eb⟩
        rw [List.length_map] at eb
        simp? only []
        exact k0 c0 (by rw [eb, List.drop_length]; rfl) _ km
end
/-- the indexes that are there -/
def ixs (ps : List Fd) : List (Str × Str) := ps.map (·.2)
theorem hasP_iff {ps : List Fd} {t f : Str} : hasP ps t f = decide ((t, f) ∈ ixs ps) := by
  unfold hasP ixs
  induction ps with
  | nil => rfl
  | cons e r ih =>
    rw [List.any_cons, ih, List.map_cons]
    obtain ⟨p, x, y⟩ := e
    by_cases c : (t, f) = (x, y)
    · cases c
      simp
    · have : ((x == t) && (y == f)) = false := by
        cases h : ((x == t) && (y == f)) with
        | false => rfl
        | true =>
          rw [Bool.and_eq_true] at h
          exact absurd (by rw [eq_of_beq h.1, eq_of_beq h.2]) c
      show (((x == t) && (y == f)) || decide ((t, f) ∈ r.map (·.2))) = _
      rw [this, Bool.false_or]
      simp [c]
def spCIndex (C CB : Addr) : Sp := fun vs H Q E => ∃ (a n d ta q : Addr) (es : List Sh) (ts : List Str) (ps : List Fd) (t f : Str), vs = [.ref a, .ref n, .ref q] ∧ NmO C H n d ta es ts ∧ FxAt H q ps ∧ RX H (.ref a) (Nm.Sm.index t f).dx ∧ t ∈ es.map (·.1) ∧ PyData.strOk t = true ∧ PyData.strOk f = true ∧
  (¬ (f ∉ (Nm.flds (shp es) t).tail ∨ (t, f) ∈ ixs ps) → ∀ H', Same H H' → Q (.ref a) H') ∧ ((f ∉ (Nm.flds (shp es) t).tail ∨ (t, f) ∈ ixs ps) → BnE CB [] H E f)
section
variable {P : Program} {w : World} {K : PySem.W.Frag} {mg : Str → Option Value} {base : Heap}
theorem ok_checked_index (T : Txt K mg) : FnOk P w K mg base (L2.CX P w) 3 T.f_checked_index T.fd_checked_index ["tree", "names", "indexes"] (spCIndex T.C_Names T.C_BadName) := by
  have G_BadName_init : FnOk P w K mg base CX0 1 T.f_BadName_init T.fd_BadName_init ["self", "word"] (spBadName T.C_BadName) := ok_BadName_init T
  refine T.F_checked_index.okX sc_checked_index (fun vs H Q E h => ?_) (fun cdv A outer s H vs Q E hr h => ?_)
  · obtain ⟨a, n, d, ta, q, es, ts, ps, t, f, rfl, _⟩ := h
    rfl
  · have hu := hu_of hr
    have hu64 := hu64_of hr
    have hu65 := hu65_of hr
    obtain ⟨a, n, d, ta, q, es, ts, ps, t, f, rfl, N, F, R, tin, ot, of_, k0, k1⟩ := h
    refine ⟨_, (pss_cons (ps_asg (pv 0) (pg_tupH (n := 3) rfl (pgs_cons (pg_name (i := 3) sc_checked_index.nd rfl (Or.inl rfl)) (pgs_cons (pg_name (i := 4) sc_checked_index.nd rfl (Or.inl rfl)) (pgs_cons (pg_name (i := 5) sc_checked_index.nd rfl (Or.inl rfl)) pgs_nil)))))
      (pss_cons (ps_if (PW.pt (pw_or (pt_cmpR op_notInS (pv 5) (pe_slice sl_tp (pe_getI hu (pe_fldK K rfl (pv 1) rfl) (pv 4) (fun _ _ => rfl)) (po_some pe_int) po_none) (by rfl)) (pw_or1 (pt_cmpR (op_inX hu65) (pe_tup (pa_cons (pv 4) (pa_cons (pv 5) pa_nil))) (pv 2) (by rfl))))) (pss_one (ps_raise rfl (takes_of rfl rfl rfl rfl) (pmk_kw T.O_BadName T.iO_BadName T.tO_BadName G_BadName_init (hr.mono (by decide)) T.kb_BadName_init pass0 rfl T.mg_BadName (pk_cons (pv 5) pk_nil)))) pss_nil)
      (pss_one (ps_ret (pv 0))))), ?_⟩
    rw [show L2.start N_checked_index [V.ref a, V.ref n, V.ref q] = [some (V.ref a), some (V.ref n), some (V.ref q), none, none, none] from rfl]
    obtain ⟨b, us, eb, hb, r⟩ := Nm.rx_tpO R
    cases eb
    obtain ⟨u0, us, rfl, h0, r1⟩ := Nm.rxs_un r
    obtain ⟨u1, us, rfl, h1, r2⟩ := Nm.rxs_un r1
    obtain ⟨u2, us, rfl, h2, r3⟩ := Nm.rxs_un r2
    obtain rfl := Nm.rxs_no r3
    obtain rfl := Nm.rx_s h0
    obtain rfl := Nm.rx_s h1
    obtain rfl := Nm.rx_s h2
    obtain ⟨dx, hob⟩ := N.ob
    have hd := N.S.at_
    obtain ⟨e, he, rfl, hev⟩ := N.S.look tin
    have htp := N.S.tups e he
    rw [shp_flds N.S.nd e he] at k0 k1
    dsimp? only [gTupH, gCons, gNil, gName, hb, hob, hd, hev, htp]
    intro z H5 s5 e5
    rw [Nm.cutV_1, ← List.map_drop, List.drop_one] at e5
    refine ⟨e.2.2.tail, .inr e5, ?_⟩
    rw [hasS_iff]
    by_cases c1 : f ∈ e.2.2.tail
    · rw [if_neg (by simp [c1])]
      intro p0 hp0
      refine ⟨ot, of_, ps, (F.same s5).same (same_new hp0), ?_⟩
      rw [hasP_iff]
      by_cases c2 : (e.1, f) ∈ ixs ps
      · rw [if_pos (decide_eq_true c2)]
        intro b0 hb0
        exact bn_raise (k1 (.inr c2)) (Keep.ofSame (s5.trans (same_new hp0))) b0 hb0
      · rw [if_neg (by simpa using c2)]
        exact k0 (fun y => y.elim (fun y => y c1) c2) _ (s5.trans (same_new hp0))
    · rw [if_pos (by simp [c1])]
      intro b0 hb0
      exact bn_raise (k1 (.inl c1)) (Keep.ofSame s5) b0 hb0
end

/-! a statement that sets, looked at -/
def spCSet (C CB : Addr) (m : Nat) : Sp := fun vs H Q E => ∃ (a n d ta : Addr) (es : List Sh) (t : Str) (ss : List (Str × Nm.Tr)) (c : Option Nm.Tr), vs = [.ref a, .ref n] ∧ NmO C H n d ta es [t] ∧ RX H (.ref a) (Nm.Sm.set t ss c).dx ∧ ss.length ≤ 8 ∧
  (∀ s ∈ ss, s.2.dx.deep ≤ m ∧ s.2.dx.fits 8 ∧ s.2.wk) ∧ ((Nm.dxO c).deep ≤ m ∧ (Nm.dxO c).fits 8 ∧ ∀ t, c = some t → t.wk) ∧
  (∀ ss' c', Nm.nameS (shp es) t [] ss = .ok ss' → Nm.nameO (shp es) [t] c = .ok c' → ∀ H' p, Same H H' → RX H' (.ref p) (Nm.Sm.set t ss' c').dx → Q (.ref p) H') ∧
  (∀ x, Nm.nameS (shp es) t [] ss = .error x → BnE CB [] H E x) ∧ ∀ ss' x, Nm.nameS (shp es) t [] ss = .ok ss' → Nm.nameO (shp es) [t] c = .error x → BnE CB [] H E x
section
variable {P : Program} {w : World} {K : PySem.W.Frag} {mg : Str → Option Value} {base : Heap}
theorem ok_checked_set (T : Txt K mg) (n : Nat) : FnOk P w K mg base (L2.CX P w) (n + 5) T.f_checked_set T.fd_checked_set ["tree", "names"] (spCSet T.C_Names T.C_BadName n) := by
  have G_BadName_init : FnOk P w K mg base CX0 1 T.f_BadName_init T.fd_BadName_init ["self", "word"] (spBadName T.C_BadName) := ok_BadName_init T
  have G_Names_tree : FnOk P w K mg base (L2.CX P w) (n + 4) T.f_Names_tree T.fd_Names_tree ["self", "tree"] (spTree T.C_Names T.C_BadName n) := ok_Names_tree T n
  refine T.F_checked_set.okX sc_checked_set (fun vs H Q E h => ?_) (fun cdv A outer s H vs Q E hr h => ?_)
  · obtain ⟨a, n, d, ta, es, t, ss, c, rfl, _⟩ := h
    rfl
  · have hu := hu_of hr
    have hu64 := hu64_of hr
    obtain ⟨a, o, d, ta, es, t, ss, c, rfl, N, R, sl, sk, ck, k0, k1, k2⟩ := h
    refine ⟨_, (pss_cons (ps_asg (pv 0) (pg_tupH (n := 4) rfl (pgs_cons (pg_name (i := 2) sc_checked_set.nd rfl (Or.inl rfl)) (pgs_cons (pg_name (i := 3) sc_checked_set.nd rfl (Or.inl rfl)) (pgs_cons (pg_name (i := 4) sc_checked_set.nd rfl (Or.inl rfl)) (pgs_cons (pg_name (i := 5) sc_checked_set.nd rfl (Or.inl rfl)) pgs_nil))))))
      (pss_cons (ps_set (i := 6) sc_checked_set.nd rfl (Or.inl rfl) (pe_lst pa_nil))
      (pss_cons (ps_for PassesOwn.leaving rfl (pi_tupK K rfl (pv 4)) (pg_tupH (n := 2) rfl (pgs_cons (pg_name (i := 7) sc_checked_set.nd rfl (Or.inl rfl)) (pgs_cons (pg_name (i := 8) sc_checked_set.nd rfl (Or.inl rfl)) pgs_nil))) (pss_cons (ps_if (PW.pt (pw_or (pt_cmpR op_notInS (pv 7) (pe_slice sl_tp (pe_getI hu (pe_fldK K rfl (pv 1) rfl) (pv 3) (fun _ _ => rfl)) (po_some pe_int) po_none) (by rfl)) (pw_or1 (pt_cmpR op_inS (pv 7) (pe_lc (own := [("other", 9), ("worth", 10)]) (tt := tYes) rfl sc_checked_set.nd (pi_listK K rfl (pv 6)) (blkOk_by (N := N_checked_set) (sc := defScope s_checked_set) (by decide +kernel)) (fun _ _ _ _ _ => (pg_tupH (n := 2) rfl (pgs_cons (pg_name (i := 9) sc_checked_set.nd rfl (Or.inl rfl)) (pgs_cons (pg_name (i := 10) sc_checked_set.nd rfl (Or.inl rfl)) pgs_nil)))) (fun _ _ _ _ _ => pts_nil) (fun _ _ _ _ _ => (pv 9))) (by rfl))))) (pss_one (ps_raise rfl (takes_of rfl rfl rfl rfl) (pmk_kw T.O_BadName T.iO_BadName T.tO_BadName G_BadName_init (hr.mono (by show _ ≤ n + 4; omega)) T.kb_BadName_init pass0 rfl T.mg_BadName (pk_cons (pv 7) pk_nil)))) pss_nil)
        (pss_one (ps_expr (pe_bm PySem.F.plainAttrs_list PySem.F.slot_list_append PySem.F.type_list_append mt_append (pv 6) (pa_cons (pe_tup (pa_cons (pv 7) (pa_cons (pe_meth (pv 1) T.cl_Names T.me_Names_tree G_Names_tree (hr.mono (by show _ ≤ n + 4; omega)) T.b_Names_tree .nil (passes_call (takes_of rfl rfl rfl rfl) (fun _ _ _ _ z => z)) (pa_cons (pv 8) pa_nil)) pa_nil))) pa_nil))))))
      (pss_one (ps_ret (pe_tup (pa_cons (pv 2) (pa_cons (pv 3) (pa_cons (pe_callTy tuple_lst (by rfl) T.n_tuple (by decide +kernel) (pa_cons (pv 6) pa_nil)) (pa_cons (pe_meth (pv 1) T.cl_Names T.me_Names_tree G_Names_tree (hr.mono (by show _ ≤ n + 4; omega)) T.b_Names_tree .nil (passes_call (takes_of rfl rfl rfl rfl) (fun _ _ _ _ z => z)) (pa_cons (pv 5) pa_nil)) pa_nil)))))))))), ?_⟩
    rw [show L2.start N_checked_set [V.ref a, V.ref o] = [some (V.ref a), some (V.ref o), none, none, none, none, none, none, none, none, none] from rfl]
    obtain ⟨b, us, eb, hb, r⟩ := Nm.rx_tpO R
    cases eb
    obtain ⟨u0, us, rfl, h0, r1⟩ := Nm.rxs_un r
    obtain ⟨u1, us, rfl, h1, r2⟩ := Nm.rxs_un r1
    obtain ⟨u2, us, rfl, h2, r3⟩ := Nm.rxs_un r2
    obtain ⟨u3, us, rfl, h3, r4⟩ := Nm.rxs_un r3
    obtain rfl := Nm.rxs_no r4
    obtain rfl := Nm.rx_s h0
    obtain rfl := Nm.rx_s h1
    obtain ⟨e, ws, rfl, he, rw0⟩ := Nm.rx_tpO h2
    dsimp? only [gTupH, gCons, gNil, gName, hb]
    intro L hL
    obtain ⟨dx, hob⟩ := N.ob
    have rws : RXs H ws (ss.map Nm.dxP) := rw0
    have wl : ws.length = ss.length := by simpa using rws.len
    have tin : t ∈ es.map (·.1) := N.tin t (by simp)
    simp? only [tFor_eq, iTup]
    refine ⟨⟨_, .inl (rd_tpO (tpO_same he (same_new hL)))⟩, forB_it (for_it (walk_tup (xs := ws)) (fun i σ H2 => ∃ (x7 x8 : Option V), σ = [some (.ref a), some (.ref o), some (.str (Str.ofString "set")), some (.str t), some (.ref e), some u3, some (.ref L), x7, x8, none, none] ∧ Same H H2 ∧ ∃ ys, H2 L = some (.lst ys) ∧ Nm.NsAt H2 (shp es) t ys (ss.take i))
      ⟨none, none, rfl, same_new hL, [], upd_same, Nm.NsAt.nil⟩ (fun _ _ _ _ ⟨_, _, _, km, _⟩ => .inl (rd_tpO (tpO_same he km))) ?_ ?_)⟩
    · rintro i x σ H2 H3 hi ⟨x7, x8, rfl, km, ys, eL, NA⟩ ⟨rfl, hx⟩
      obtain ⟨sj, hsj⟩ : ∃ sj, ss[i]? = some sj := ⟨_, List.getElem?_eq_getElem (by omega)⟩
      obtain ⟨f, tm⟩ := sj
      obtain ⟨u, hu1, ru⟩ := RXs.at rws (show (ss.map Nm.dxP)[i]? = some (Nm.dxP (f, tm)) by rw [List.getElem?_map, hsj]; rfl)
      rw [hx] at hu1
      cases hu1
      obtain ⟨g, vs, rfl, hg, rg⟩ := Nm.rx_tpO ru
      obtain ⟨v0, vs, rfl, g0, rg1⟩ := Nm.rxs_un rg
      obtain ⟨v1, vs, rfl, g1, rg2⟩ := Nm.rxs_un rg1
      obtain rfl := Nm.rxs_no rg2
      obtain rfl := Nm.rx_s g0
      have hg3 := tpO_same hg km
      obtain ⟨e2, he2, rfl, hev⟩ := N.S.look tin
      have S3 := N.S.same km
      have hd3 := S3.at_
      have htp3 := S3.tups e2 he2
      have ob3 := km _ _ hob
      dsimp? only [gTupH, gCons, gNil, gName, hg3, ob3, hd3, hev, htp3]
      have tk1 : ss.take (i + 1) = ss.take i ++ [(f, tm)] := by rw [List.take_add_one, hsj]; rfl
      have spl : ss.take i ++ (f, tm) :: ss.drop (i + 1) = ss := by
        have := List.take_append_drop (i + 1) ss
        rw [tk1, List.append_assoc] at this
        exact this
      have hfl : (Nm.flds (shp es) e2.1).tail = e2.2.2.tail := by rw [shp_flds N.S.nd e2 he2]
      obtain ⟨sk1, sk2, sk3⟩ := sk (f, tm) (List.mem_of_getElem? hsj)
      intro z H4 s4 e4
      rw [Nm.cutV_1, ← List.map_drop, List.drop_one] at e4
      refine ⟨e2.2.2.tail, .inr e4, ?_⟩
      rw [hasS_iff]
      by_cases c1 : f ∈ e2.2.2.tail
      · rw [if_neg (by simp [c1])]
        have eL4 := s4 _ _ eL
        have NA4 := NA.std (Std.ofSame s4)
        obtain ⟨ss', ns, ry, kl⟩ := id NA4
        have yl := NA4.len
        rw [List.length_take] at yl
        have ryl := ry.len
        rw [List.length_map] at ryl
        simp? only [tLc_eq, iList, eL4]
        refine ⟨⟨_, .inl (.inl eL4)⟩, lcB_it fun D hD => ?_⟩
        refine lc_it (walk_list (xs := ys)) (fun j H5 => Same H4 H5 ∧ H5 D = some (.lst (((ss'.map (·.1)).take j).map V.str))) ⟨same_new hD, upd_same⟩ (fun _ H5 _ ⟨s5, _⟩ => .inl (.inl (s5 _ _ eL4))) ?_ ?_
        · rintro j x H5 H6 hj ⟨s5, eD⟩ ⟨rfl, hx5⟩
          obtain ⟨sq, hsq⟩ : ∃ sq, ss'[j]? = some sq := ⟨_, List.getElem?_eq_getElem (by omega)⟩
          obtain ⟨u5, hu5, ru5⟩ := RXs.at (RXs.same s5 ry) (show (ss'.map Nm.dxP)[j]? = some (Nm.dxP sq) by rw [List.getElem?_map, hsq]; rfl)
          rw [hx5] at hu5
          cases hu5
          obtain ⟨g5, vs5, rfl, hg5, rg5⟩ := Nm.rx_tpO ru5
          obtain ⟨w0, vs5, rfl, q0, rg6⟩ := Nm.rxs_un rg5
          obtain ⟨w1, vs5, rfl, q1, rg7⟩ := Nm.rxs_un rg6
          obtain rfl := Nm.rxs_no rg7
          obtain rfl := Nm.rx_s q0
          dsimp? only [gTupH, gCons, gNil, gName, hg5]
          refine ⟨_, eD, szl' (by rw [List.length_map, List.length_take, List.length_map]; omega), Same.updFree s5 hD, ?_⟩
          rw [List.take_add_one, List.getElem?_map, hsq, List.map_append]
          rfl
        · rintro H5 ⟨s5, eD⟩
          have eL5 := s5 _ _ eL4
          have k5 := (km.trans s4).trans s5
          have ob5 := k5 _ _ hob
          refine ⟨D, rfl, ss'.map (·.1), .inl (by rw [eD, List.take_of_length_le (by rw [List.length_map]; omega)]; rfl), ?_⟩
          rw [hasS_iff, kl]
          by_cases c2 : f ∈ (ss.take i).map (·.1)
          · rw [if_pos (decide_eq_true c2)]
            intro b0 hb0
            have hbad := NA.bad (r := ss.drop (i + 1)) (tm := tm) (f := f) (.inr c2)
            rw [spl] at hbad
            exact bn_raise (k1 f hbad) (Keep.ofSame k5) b0 hb0
          · rw [if_neg (by simpa using c2)]
            have okc : ¬ (f ∉ (Nm.flds (shp es) e2.1).tail ∨ f ∈ (ss.take i).map (·.1)) := fun y => y.elim (fun y => y (by rw [hfl]; exact c1)) c2
            dsimp? only [eL5, ob5]
            refine ⟨o, d, ta, es, [e2.1], v1, some tm, rfl, N.same k5, RX.same k5 g1, sk1, sk2, fun t ht => by cases ht; exact sk3, fun c' hc H6 v' s6 r6 => ?_, fun x' hx' => ?_⟩
            · rw [Nm.nameO_some] at hc
              cases hT : Nm.nameT (shp es) [e2.1] tm with
              | error w => rw [hT] at hc; cases hc
              | ok k' =>
                rw [hT] at hc
                cases hc
                intro p hp
                have sp := same_new (o := .tup [.str f, v']) hp
                have eL7 := sp _ _ (s6 _ _ eL5)
                refine ⟨ys, eL7, szl' (by omega), Same.updFree ((k5.trans s6).trans sp) hL, ?_⟩
                rw [tk1]
                exact ((((NA4.std (Std.ofSame s5)).std (Std.ofSame s6)).std (Std.ofSame sp)).snoc okc hT upd_same (RX.same sp r6)).std (Nm.Std.upd eL7 ⟨_, rfl⟩)
            · rw [Nm.nameO_some] at hx'
              cases hT : Nm.nameT (shp es) [e2.1] tm with
              | ok k' => rw [hT] at hx'; cases hx'
              | error w' =>
                rw [hT] at hx'
                cases hx'
                have hbad := NA.err (r := ss.drop (i + 1)) okc hT
                rw [spl] at hbad
                exact (k1 x' hbad).imp k5
      · rw [if_pos (by simp [c1])]
        intro b0 hb0
        have hbad := NA.bad (r := ss.drop (i + 1)) (tm := tm) (f := f) (.inl (by rw [hfl]; exact c1))
        rw [spl] at hbad
        exact bn_raise (k1 f hbad) (Keep.ofSame (km.trans s4)) b0 hb0
    · rintro σ H2 ⟨x7, x8, rfl, km, ys, eL, NA⟩
      rw [wl, List.take_length] at NA
      obtain ⟨ss', ns, ry, kl⟩ := id NA
      have yl := NA.len
      have ob2 := km _ _ hob
      dsimp? only [eL]
      intro l hl
      have s2 := same_new (o := .tup ys) hl
      have ob3 := s2 _ _ ob2
      dsimp? only [ob3]
      refine ⟨o, d, ta, es, [t], u3, c, rfl, N.same (km.trans s2), RX.same (km.trans s2) h3, ck.1, ck.2.1, ck.2.2, fun c' hc H6 v' s6 r6 => ?_, fun x' hx' => (k2 ss' x' ns hx').imp (km.trans s2)⟩
      intro p hp
      have sp := same_new (o := .tup [.str "set", .str t, .ref l, v']) hp
      refine k0 ss' c' ns hc _ p (((km.trans s2).trans s6).trans sp) ?_
      exact rx_tup upd_same (rxs_cons (rx_str _) (rxs_cons (rx_str _) (rxs_cons (rx_tup (sp _ _ (s6 _ _ upd_same)) (RXs.same ((s2.trans s6).trans sp) ry)) (rxs_cons (RX.same sp r6) rxs_nil))))
end

/-! any statement looked at -/
/-- a BadRow, nothing else changed -/
def BrE (C : Addr) (H : Hp) (E : XK) : Prop := ∀ H', Same H H' → E (.ref C) none H'
def spChecked (C CB CR : Addr) : Sp := fun vs H Q E => ∃ (a d : Addr) (iv : V) (es : List Sh) (ps : List Fd) (st : Nm.Sm), vs = [.ref a, .ref d, iv] ∧ SH H d es ∧ RX H (.ref a) st.dx ∧ Nm.SmW st ∧
  (∀ t f, st = .index t f → PyData.strOk t = true ∧ PyData.strOk f = true ∧ ∃ q, iv = .ref q ∧ FxAt H q ps) ∧
  (∀ st', Nm.chk (shp es) (ixs ps) st = .ok st' → ∀ H' b, Same H H' → RX H' (.ref b) st'.dx → Q (.ref b) H') ∧ (∀ x, Nm.chk (shp es) (ixs ps) st = .error (.word x) → BnE CB [] H E x) ∧
  (Nm.chk (shp es) (ixs ps) st = .error .row → BrE CR H E)
/-- names of a statement's tables, made -/
theorem init_any {C CB : Addr} {H H' : Hp} {E : XK} {x dx d p : Addr} {es : List Sh} {ts : List Str} {W : Hp → Prop} (S : SH H d es) (s : Same H H') (e : tpO (H' p) = some (ts.map V.str)) (tl : ts.length ≤ 8) (hx : H' x = none) (hdx : H' dx = none) (ne : ¬ dx = x)
    (k0 : Nm.badTab (shp es) [] ts = none → ∀ H2, Same H' H2 → NmO C H2 x d p es ts → W H2) (k1 : ∀ w, Nm.badTab (shp es) [] ts = some w → BnE CB [] H E w) :
    spNInit C CB [.ref x, .ref d, .ref p] (upd (upd H' dx (.own x)) x (.ins C dx [])) (fun v H2 => v = .non ∧ W H2) E := by
  have s1 : Same H' (upd (upd H' dx (.own x)) x (.ins C dx [])) := Same.updFree (same_new hdx) hx
  have S1 := S.same (s.trans s1)
  have e1 := tpO_same e s1
  have up : ∀ {H2 : Hp}, Keep [x] (upd (upd H' dx (.own x)) x (.ins C dx [])) H2 → Same H' H2 := fun {H2} km b o hb => by
    have nb : b ≠ x := fun z => by rw [z, hx] at hb; cases hb
    exact km b o (by simpa using nb) (s1 _ _ hb)
  refine ⟨x, dx, d, p, es, ts, rfl, upd_same, S1, e1, tl, fun hb H2 km e2 => ⟨rfl, k0 hb H2 (up km) ⟨⟨dx, e2⟩, S.same (s.trans (up km)), tpO_same e (up km), fun t ht => ?_, tl⟩⟩, fun w hw H2 d2 km e2 => k1 w hw H2 d2 (Keep.ofSame (s.trans (up km))) e2⟩
  have := Nm.badTab_none hb t ht
  rwa [shp_tabs] at this
theorem init_one {C CB : Addr} {H H' : Hp} {E : XK} {x dx d p : Addr} {es : List Sh} {t : Str} {W : Hp → Prop} (S : SH H d es) (s : Same H H') (e : tpO (H' p) = some [.str t]) (hx : H' x = none) (hdx : H' dx = none) (ne : ¬ dx = x)
    (k0 : t ∈ Nm.tabs (shp es) → ∀ H2, Same H' H2 → NmO C H2 x d p es [t] → W H2) (k1 : t ∉ Nm.tabs (shp es) → BnE CB [] H E t) :
    spNInit C CB [.ref x, .ref d, .ref p] (upd (upd H' dx (.own x)) x (.ins C dx [])) (fun v H2 => v = .non ∧ W H2) E :=
  init_any (ts := [t]) S s e (by simp) hx hdx ne (fun hb => k0 (by
    rw [Nm.badTab_one] at hb
    by_cases c : t ∈ Nm.tabs (shp es)
    · exact c
    · rw [if_pos c] at hb; cases hb)) (fun w hw => by
    rw [Nm.badTab_one] at hw
    by_cases c : t ∈ Nm.tabs (shp es)
    · rw [if_neg (by simpa using c)] at hw; cases hw
    · rw [if_pos c] at hw
      cases hw
      exact k1 c)
theorem cut12 {u v : V} {r : List V} : cutV (u :: v :: r) (some 1) (some 2) = [v] := by
  have e1 : (1 : Int) = ((1 : Nat) : Int) := rfl
  have e2 : (2 : Int) = ((2 : Nat) : Int) := rfl
  unfold cutV
  rw [e1, e2, HT.sIx_nat, HT.sIx_nat]
  simp only [List.length_cons]
  rw [Nat.min_eq_left (by omega), Nat.min_eq_left (by omega)]
  rfl
theorem e_table_table : decide (Str.ofString "table" = Str.ofString "table") = true := by decide +kernel
theorem e_table_index : decide (Str.ofString "table" = Str.ofString "index") = false := by decide +kernel
theorem e_table_put : decide (Str.ofString "table" = Str.ofString "put") = false := by decide +kernel
theorem e_table_set : decide (Str.ofString "table" = Str.ofString "set") = false := by decide +kernel
theorem e_table_strike : decide (Str.ofString "table" = Str.ofString "strike") = false := by decide +kernel
theorem e_table_ask : decide (Str.ofString "table" = Str.ofString "ask") = false := by decide +kernel
theorem e_index_table : decide (Str.ofString "index" = Str.ofString "table") = false := by decide +kernel
theorem e_index_index : decide (Str.ofString "index" = Str.ofString "index") = true := by decide +kernel
theorem e_index_put : decide (Str.ofString "index" = Str.ofString "put") = false := by decide +kernel
theorem e_index_set : decide (Str.ofString "index" = Str.ofString "set") = false := by decide +kernel
theorem e_index_strike : decide (Str.ofString "index" = Str.ofString "strike") = false := by decide +kernel
theorem e_index_ask : decide (Str.ofString "index" = Str.ofString "ask") = false := by decide +kernel
theorem e_put_table : decide (Str.ofString "put" = Str.ofString "table") = false := by decide +kernel
theorem e_put_index : decide (Str.ofString "put" = Str.ofString "index") = false := by decide +kernel
theorem e_put_put : decide (Str.ofString "put" = Str.ofString "put") = true := by decide +kernel
theorem e_put_set : decide (Str.ofString "put" = Str.ofString "set") = false := by decide +kernel
theorem e_put_strike : decide (Str.ofString "put" = Str.ofString "strike") = false := by decide +kernel
theorem e_put_ask : decide (Str.ofString "put" = Str.ofString "ask") = false := by decide +kernel
theorem e_set_table : decide (Str.ofString "set" = Str.ofString "table") = false := by decide +kernel
theorem e_set_index : decide (Str.ofString "set" = Str.ofString "index") = false := by decide +kernel
theorem e_set_put : decide (Str.ofString "set" = Str.ofString "put") = false := by decide +kernel
theorem e_set_set : decide (Str.ofString "set" = Str.ofString "set") = true := by decide +kernel
theorem e_set_strike : decide (Str.ofString "set" = Str.ofString "strike") = false := by decide +kernel
theorem e_set_ask : decide (Str.ofString "set" = Str.ofString "ask") = false := by decide +kernel
theorem e_strike_table : decide (Str.ofString "strike" = Str.ofString "table") = false := by decide +kernel
theorem e_strike_index : decide (Str.ofString "strike" = Str.ofString "index") = false := by decide +kernel
theorem e_strike_put : decide (Str.ofString "strike" = Str.ofString "put") = false := by decide +kernel
theorem e_strike_set : decide (Str.ofString "strike" = Str.ofString "set") = false := by decide +kernel
theorem e_strike_strike : decide (Str.ofString "strike" = Str.ofString "strike") = true := by decide +kernel
theorem e_strike_ask : decide (Str.ofString "strike" = Str.ofString "ask") = false := by decide +kernel
theorem e_ask_table : decide (Str.ofString "ask" = Str.ofString "table") = false := by decide +kernel
theorem e_ask_index : decide (Str.ofString "ask" = Str.ofString "index") = false := by decide +kernel
theorem e_ask_put : decide (Str.ofString "ask" = Str.ofString "put") = false := by decide +kernel
theorem e_ask_set : decide (Str.ofString "ask" = Str.ofString "set") = false := by decide +kernel
theorem e_ask_strike : decide (Str.ofString "ask" = Str.ofString "strike") = false := by decide +kernel
theorem e_ask_ask : decide (Str.ofString "ask" = Str.ofString "ask") = true := by decide +kernel
section
variable {P : Program} {w : World} {K : PySem.W.Frag} {mg : Str → Option Value} {base : Heap}
theorem ok_checked (T : Txt K mg) : FnOk P w K mg base (L2.CX P w) 13 T.f_checked T.fd_checked ["tree", "shapes", "indexes"] (spChecked T.C_Names T.C_BadName T.C_BadRow) := by
  have G_Names_init : FnOk P w K mg base (L2.CX P w) 3 T.f_Names_init T.fd_Names_init ["self", "shapes", "tables"] (spNInit T.C_Names T.C_BadName) := ok_Names_init T
  have G_Names_tree : FnOk P w K mg base (L2.CX P w) (7 + 4) T.f_Names_tree T.fd_Names_tree ["self", "tree"] (spTree T.C_Names T.C_BadName 7) := ok_Names_tree T 7
  have G_Names_trees : FnOk P w K mg base (L2.CX P w) (7 + 5) T.f_Names_trees T.fd_Names_trees ["self", "some"] (spTrees T.C_Names T.C_BadName 7) := ok_Names_trees T 7
  have G_checked_table : FnOk P w K mg base (L2.CX P w) 3 T.f_checked_table T.fd_checked_table ["tree", "shapes"] (spCTable T.C_BadName) := ok_checked_table T
  have G_checked_index : FnOk P w K mg base (L2.CX P w) 3 T.f_checked_index T.fd_checked_index ["tree", "names", "indexes"] (spCIndex T.C_Names T.C_BadName) := ok_checked_index T
  have G_checked_set : FnOk P w K mg base (L2.CX P w) (7 + 5) T.f_checked_set T.fd_checked_set ["tree", "names"] (spCSet T.C_Names T.C_BadName 7) := ok_checked_set T 7
  refine T.F_checked.ok sc_checked (fun vs H Q E h => ?_) (fun cdv A outer s H vs Q E hr h => ?_)
  · obtain ⟨a, d, iv, es, ps, st, rfl, _⟩ := h
    rfl
  · have hu := hu_of hr
    have hu64 := hu64_of hr
    obtain ⟨a, d, iv, es, ps, st, rfl, S, R, ok, ix, k0, k1, k2⟩ := h
    refine ⟨_, (pss_cons (ps_set (i := 3) sc_checked.nd rfl (Or.inl rfl) (pe_ix ix_tp (pv 0) pe_int (fun _ _ => rfl)))
      (pss_cons (ps_if (pt_cmpR op_eq (pe_callB len_tp (by rfl) T.n_len PySem.boot_len (pa_cons (pv 0) pa_nil)) pe_int (nomark _)) (pss_one (ps_ret (pv 0))) pss_nil)
      (pss_cons (ps_if (pt_cmpR op_eq (pv 3) pe_str (nomark _)) (pss_one (ps_ret (pe_call G_checked_table (hr.mono (by decide)) rfl T.mg_checked_table T.F_checked_table.kp T.b_checked_table .nil (passes_call (takes_of rfl rfl rfl rfl) (fun _ _ _ _ z => z)) (pa_cons (pv 0) (pa_cons (pv 1) pa_nil))))) pss_nil)
      (pss_cons (ps_set (i := 4) sc_checked.nd rfl (Or.inl rfl) (pe_make T.mk_Names G_Names_init (hr.mono (by decide)) rfl T.mg_Names T.b_Names_init .nil (passes_call (takes_of rfl rfl rfl rfl) (fun _ _ _ _ z => z)) (pa_cons (pv 1) (pa_cons (pe_ifExp (pt_cmpR op_eq (pv 3) pe_str (nomark _)) (pe_ix ix_tp (pv 0) pe_int (fun _ _ => rfl)) (pe_slice sl_tp (pv 0) (po_some pe_int) (po_some pe_int))) pa_nil))))
      (pss_cons (ps_if (pt_cmpR op_eq (pv 3) pe_str (nomark _)) (pss_one (ps_ret (pe_call G_checked_index (hr.mono (by decide)) rfl T.mg_checked_index T.F_checked_index.kp T.b_checked_index .nil (passes_call (takes_of rfl rfl rfl rfl) (fun _ _ _ _ z => z)) (pa_cons (pv 0) (pa_cons (pv 4) (pa_cons (pv 2) pa_nil)))))) pss_nil)
      (pss_cons (ps_if (pt_cmpR op_eq (pv 3) pe_str (nomark _)) (pss_cons (ps_if (pt_cmpR op_ne (pe_callB len_tp (by rfl) T.n_len PySem.boot_len (pa_cons (pe_ix ix_tp (pv 0) pe_int (fun _ _ => rfl)) pa_nil)) (pe_callB len_tp (by rfl) T.n_len PySem.boot_len (pa_cons (pe_getI hu (pv 1) (pe_ix ix_tp (pv 0) pe_int (fun _ _ => rfl)) (fun _ _ => rfl)) pa_nil)) (nomark _)) (pss_one (Td.ps_raiseE rfl (takes_of rfl rfl rfl rfl) T.X_BadRow rfl (pa_cons pe_str pa_nil))) pss_nil)
        (pss_one (ps_ret (pv 0)))) pss_nil)
      (pss_cons (ps_if (pt_cmpR op_eq (pv 3) pe_str (nomark _)) (pss_one (ps_ret (pe_call G_checked_set (hr.mono (by decide)) rfl T.mg_checked_set T.F_checked_set.kp T.b_checked_set .nil (passes_call (takes_of rfl rfl rfl rfl) (fun _ _ _ _ z => z)) (pa_cons (pv 0) (pa_cons (pv 4) pa_nil))))) pss_nil)
      (pss_cons (ps_if (pt_cmpR op_eq (pv 3) pe_str (nomark _)) (pss_one (ps_ret (pe_tup (pa_cons (pv 3) (pa_cons (pe_ix ix_tp (pv 0) pe_int (fun _ _ => rfl)) (pa_cons (pe_meth (pv 4) T.cl_Names T.me_Names_tree G_Names_tree (hr.mono (by decide)) T.b_Names_tree .nil (passes_call (takes_of rfl rfl rfl rfl) (fun _ _ _ _ z => z)) (pa_cons (pe_ix ix_tp (pv 0) pe_int (fun _ _ => rfl)) pa_nil)) pa_nil)))))) pss_nil)
      (pss_cons (ps_asg (pv 0) (pg_tupH (n := 7) rfl (pgs_cons (pg_name (i := 3) sc_checked.nd rfl (Or.inl rfl)) (pgs_cons (pg_name (i := 5) sc_checked.nd rfl (Or.inl rfl)) (pgs_cons (pg_name (i := 6) sc_checked.nd rfl (Or.inl rfl)) (pgs_cons (pg_name (i := 7) sc_checked.nd rfl (Or.inl rfl)) (pgs_cons (pg_name (i := 8) sc_checked.nd rfl (Or.inl rfl)) (pgs_cons (pg_name (i := 9) sc_checked.nd rfl (Or.inl rfl)) (pgs_cons (pg_name (i := 10) sc_checked.nd rfl (Or.inl rfl)) pgs_nil)))))))))
      (pss_one (ps_ret (pe_tup (pa_cons (pv 3) (pa_cons (pv 5) (pa_cons (pe_meth (pv 4) T.cl_Names T.me_Names_trees G_Names_trees (hr.mono (by decide)) T.b_Names_trees .nil (passes_call (takes_of rfl rfl rfl rfl) (fun _ _ _ _ z => z)) (pa_cons (pv 6) pa_nil)) (pa_cons (pv 7) (pa_cons (pe_meth (pv 4) T.cl_Names T.me_Names_tree G_Names_tree (hr.mono (by decide)) T.b_Names_tree .nil (passes_call (takes_of rfl rfl rfl rfl) (fun _ _ _ _ z => z)) (pa_cons (pv 8) pa_nil)) (pa_cons (pe_meth (pv 4) T.cl_Names T.me_Names_trees G_Names_trees (hr.mono (by decide)) T.b_Names_trees .nil (passes_call (takes_of rfl rfl rfl rfl) (fun _ _ _ _ z => z)) (pa_cons (pv 9) pa_nil)) (pa_cons (pv 10) pa_nil))))))))))))))))))), ?_⟩
    rw [show L2.start N_checked [V.ref a, V.ref d, iv] = [some (V.ref a), some (V.ref d), some (iv), none, none, none, none, none, none, none, none] from rfl]
    cases st with
    | alone w =>
      have R0 := R
      obtain ⟨b, us, eb, hb, r⟩ := Nm.rx_tpO R
      cases eb
      obtain ⟨u0, us, rfl, h0, r⟩ := Nm.rxs_un r
      obtain rfl := Nm.rxs_no r
      obtain rfl := Nm.rx_s h0
      dsimp? only [hb]
      exact k0 _ rfl H a (Same.refl H) R0
    | table t fs =>
      have R0 := R
      obtain ⟨b, us, eb, hb, r⟩ := Nm.rx_tpO R
      cases eb
      obtain ⟨u0, us, rfl, h0, r⟩ := Nm.rxs_un r
      obtain ⟨u1, us, rfl, h1, r⟩ := Nm.rxs_un r
      obtain ⟨u2, us, rfl, h2, r⟩ := Nm.rxs_un r
      obtain rfl := Nm.rxs_no r
      obtain rfl := Nm.rx_s h0
      obtain rfl := Nm.rx_s h1
      dsimp? only [hb, e_table_table, e_table_index, e_table_put, e_table_set, e_table_strike, e_table_ask]
      refine ⟨a, d, es, t, _, rfl, S, R0, ?_, fun c1 c2 H' s' => ?_, fun c1 => ?_, fun f c1 c2 => ?_⟩
      · have := ok.fits
        simp only [Nm.Sm.dx, Nm.dxs, Dx.fits, Dx.fitsL, List.length_map] at this
        exact this.2.2.2.1.1
      · rw [← shp_tabs] at c1
        exact k0 (.table t fs) (by simp only [Nm.chk]; rw [if_neg c1, c2]) H' a s' (RX.same s' R0)
      · rw [← shp_tabs] at c1
        exact k1 t (by simp only [Nm.chk]; rw [if_pos c1])
      · rw [← shp_tabs] at c1
        exact k1 f (by simp only [Nm.chk]; rw [if_neg c1, c2])
    | index t f =>
      have R0 := R
      obtain ⟨b, us, eb, hb, r⟩ := Nm.rx_tpO R
      cases eb
      obtain ⟨u0, us, rfl, h0, r⟩ := Nm.rxs_un r
      obtain ⟨u1, us, rfl, h1, r⟩ := Nm.rxs_un r
      obtain ⟨u2, us, rfl, h2, r⟩ := Nm.rxs_un r
      obtain rfl := Nm.rxs_no r
      obtain rfl := Nm.rx_s h0
      obtain rfl := Nm.rx_s h1
      obtain rfl := Nm.rx_s h2
      dsimp? only [hb, e_index_table, e_index_index, e_index_put, e_index_set, e_index_strike, e_index_ask]
      obtain ⟨ot, of_, q, rfl, F⟩ := ix t f rfl
      intro p H1 s1 ep x dx hx hdx ne
      rw [cut12] at ep
      refine init_one (W := fun H2 => spCIndex T.C_Names T.C_BadName [V.ref a, V.ref x, V.ref q] H2 Q E) S s1 ep hx hdx ne (fun tin H2 s2 N => ?_) fun tn => k1 t (by simp only [Nm.chk]; rw [if_pos tn])
      have s12 := s1.trans s2
      refine ⟨a, x, d, p, q, es, [t], ps, t, f, rfl, N, F.same s12, RX.same s12 R0, N.tin t (by simp), ot, of_, fun c1 H3 s3 => ?_, fun c1 => BnE.imp ?_ s12⟩
      · exact k0 (.index t f) (by simp only [Nm.chk]; rw [if_neg (by simpa using tin), if_neg c1]) H3 a (s12.trans s3) (RX.same (s12.trans s3) R0)
      · exact k1 f (by simp only [Nm.chk]; rw [if_neg (by simpa using tin), if_pos c1])
    | put t ns =>
      have R0 := R
      obtain ⟨b, us, eb, hb, r⟩ := Nm.rx_tpO R
      cases eb
      obtain ⟨u0, us, rfl, h0, r⟩ := Nm.rxs_un r
      obtain ⟨u1, us, rfl, h1, r⟩ := Nm.rxs_un r
      obtain ⟨u2, us, rfl, h2, r⟩ := Nm.rxs_un r
      obtain rfl := Nm.rxs_no r
      obtain rfl := Nm.rx_s h0
      obtain rfl := Nm.rx_s h1
      dsimp? only [hb, e_put_table, e_put_index, e_put_put, e_put_set, e_put_strike, e_put_ask]
      intro p H1 s1 ep x dx hx hdx ne
      rw [cut12] at ep
      refine init_one S s1 ep hx hdx ne (fun tin H2 s2 N => ?_) fun tn => k1 t (by simp only [Nm.chk]; rw [if_pos tn])
      have s12 := s1.trans s2
      obtain ⟨c, ws, rfl, hc, rw0⟩ := Nm.rx_tpO h2
      have wl : ws.length = ns.length := by simpa using rw0.len
      obtain ⟨e, he, rfl, hev⟩ := S.look (N.tin t (by simp))
      have hd2 := (S.same s12).at_
      have htp := (S.same s12).tups e he
      have hb2 := tpO_same hb s12
      have hc2 := tpO_same hc s12
      dsimp? only [hd2, htp, hb2, hc2, hev]
      have fl := shp_flds S.nd e he
      by_cases c1 : ns.length = e.2.2.length
      · rw [if_neg (by simp [wl, c1])]
        exact k0 (.put e.1 ns) (by simp only [Nm.chk]; rw [if_neg (by simpa using tin), if_neg (by rw [fl]; exact fun z => z c1)]) H2 a s12 (RX.same s12 R0)
      · rw [if_pos (by simp [wl]; omega)]
        exact k2 (by simp only [Nm.chk]; rw [if_neg (by simpa using tin), if_pos (by rw [fl]; exact c1)]) H2 s12
    | set t ss c =>
      have R0 := R
      obtain ⟨b, us, eb, hb, r⟩ := Nm.rx_tpO R
      cases eb
      obtain ⟨u0, us, rfl, h0, r⟩ := Nm.rxs_un r
      obtain ⟨u1, us, rfl, h1, r⟩ := Nm.rxs_un r
      obtain ⟨u2, us, rfl, h2, r⟩ := Nm.rxs_un r
      obtain ⟨u3, us, rfl, h3, r⟩ := Nm.rxs_un r
      obtain rfl := Nm.rxs_no r
      obtain rfl := Nm.rx_s h0
      obtain rfl := Nm.rx_s h1
      dsimp? only [hb, e_set_table, e_set_index, e_set_put, e_set_set, e_set_strike, e_set_ask]
      intro p H1 s1 ep x dx hx hdx ne
      rw [cut12] at ep
      refine init_one (W := fun H2 => spCSet T.C_Names T.C_BadName 7 [V.ref a, V.ref x] H2 Q E) S s1 ep hx hdx ne (fun tin H2 s2 N => ?_) fun tn => k1 t (by simp only [Nm.chk]; rw [if_pos tn])
      have s12 := s1.trans s2
      have dp := ok.deep
      have ft := ok.fits
      have wk := ok.wk
      simp only [Nm.Sm.dx, Dx.deep, Dx.deepL] at dp
      simp only [Nm.Sm.dx, Dx.fits, Dx.fitsL, List.length_map] at ft
      refine ⟨a, x, d, p, es, t, ss, c, rfl, N, RX.same s12 R0, ft.2.2.2.1.1, fun s hs => ?_, ⟨by omega, ft.2.2.2.2.1, wk.2⟩, fun ss' c' e1 e2 H3 b s3 r3 => ?_, fun w hw => BnE.imp ?_ s12, fun ss' w e1 hw => BnE.imp ?_ s12⟩
      · obtain ⟨i, hi⟩ := List.getElem?_of_mem (List.mem_map.mpr ⟨s, hs, rfl⟩ : (Dx.tup [.str s.1, s.2.dx]) ∈ ss.map fun s : Str × Nm.Tr => Dx.tup [.str s.1, s.2.dx])
        have e1 := Dx.deepL_at hi
        have e2 := Dx.fitsL_at ft.2.2.2.1.2 hi
        simp only [Dx.deep, Dx.deepL] at e1
        simp only [Dx.fits, Dx.fitsL] at e2
        exact ⟨by omega, e2.2.2.1, wk.1 s hs⟩
      · exact k0 (.set t ss' c') (by simp only [Nm.chk]; rw [if_neg (by simpa using tin), e1, e2]; rfl) H3 b (s12.trans s3) r3
      · exact k1 w (by simp only [Nm.chk]; rw [if_neg (by simpa using tin), hw])
      · exact k1 w (by simp only [Nm.chk]; rw [if_neg (by simpa using tin), e1, hw]; rfl)
    | strike t c =>
      have R0 := R
      obtain ⟨b, us, eb, hb, r⟩ := Nm.rx_tpO R
      cases eb
      obtain ⟨u0, us, rfl, h0, r⟩ := Nm.rxs_un r
      obtain ⟨u1, us, rfl, h1, r⟩ := Nm.rxs_un r
      obtain ⟨u2, us, rfl, h2, r⟩ := Nm.rxs_un r
      obtain rfl := Nm.rxs_no r
      obtain rfl := Nm.rx_s h0
      obtain rfl := Nm.rx_s h1
      dsimp? only [hb, e_strike_table, e_strike_index, e_strike_put, e_strike_set, e_strike_strike, e_strike_ask]
      intro p H1 s1 ep x dx hx hdx ne
      rw [cut12] at ep
      refine init_one S s1 ep hx hdx ne (fun tin H2 s2 N => ?_) fun tn => k1 t (by simp only [Nm.chk]; rw [if_pos tn])
      have s12 := s1.trans s2
      obtain ⟨dx2, hob⟩ := N.ob
      have hb2 := tpO_same hb s12
      have dp := ok.deep
      have ft := ok.fits
      have wk := ok.wk
      simp only [Nm.Sm.dx, Dx.deep, Dx.deepL] at dp
      simp only [Nm.Sm.dx, Dx.fits, Dx.fitsL] at ft
      dsimp? only [hb2, hob]
      refine ⟨x, d, p, es, [t], u2, c, rfl, N, RX.same s12 h2, by omega, ft.2.2.2.1, wk, fun c' e2 H3 v3 s3 r3 => ?_, fun w hw => BnE.imp ?_ s12⟩
      · intro q hq
        have sq := same_new (o := .tup [.str "strike", .str t, v3]) hq
        exact k0 (.strike t c') (by simp only [Nm.chk]; rw [if_neg (by simpa using tin), e2]; rfl) _ q ((s12.trans s3).trans sq) (rx_tup upd_same (rxs_cons (rx_str _) (rxs_cons (rx_str _) (rxs_cons (RX.same sq r3) rxs_nil))))
      · exact k1 w (by simp only [Nm.chk]; rw [if_neg (by simpa using tin), hw]; rfl)
    | ask how tm ts c bys first =>
      have R0 := R
      obtain ⟨b, us, eb, hb, r⟩ := Nm.rx_tpO R
      cases eb
      obtain ⟨u0, us, rfl, h0, r⟩ := Nm.rxs_un r
      obtain ⟨u1, us, rfl, h1, r⟩ := Nm.rxs_un r
      obtain ⟨u2, us, rfl, h2, r⟩ := Nm.rxs_un r
      obtain ⟨u3, us, rfl, h3, r⟩ := Nm.rxs_un r
      obtain ⟨u4, us, rfl, h4, r⟩ := Nm.rxs_un r
      obtain ⟨u5, us, rfl, h5, r⟩ := Nm.rxs_un r
      obtain ⟨u6, us, rfl, h6, r⟩ := Nm.rxs_un r
      obtain rfl := Nm.rxs_no r
      obtain rfl := Nm.rx_s h0
      obtain rfl := Nm.rx_s h1
      dsimp? only [hb, e_ask_table, e_ask_index, e_ask_put, e_ask_set, e_ask_strike, e_ask_ask]
      obtain ⟨ta, ws, rfl, hta, rw0⟩ := Nm.rx_tpO h3
      have hws : ws = ts.map V.str := Nm.rxs_strs rw0
      subst hws
      have dp := ok.deep
      have ft := ok.fits
      have wk := ok.wk
      simp only [Nm.Sm.dx, Nm.dxs, Dx.deep, Dx.deepL] at dp
      simp only [Nm.Sm.dx, Nm.dxs, Dx.fits, Dx.fitsL, List.length_map] at ft
      obtain ⟨f1, f2, f3, f4, f5, f6, f7, f8⟩ := ft
      have tr : ∀ {l : List Nm.Tr}, Dx.deepL (l.map Nm.Tr.dx) ≤ 7 → Dx.fitsL 8 (l.map Nm.Tr.dx) → (∀ t ∈ l, t.wk) → ∀ t ∈ l, t.dx.deep ≤ 7 ∧ t.dx.fits 8 ∧ t.wk := fun {l} a1 a2 a3 t ht => by
        obtain ⟨i, hi⟩ := List.getElem?_of_mem (List.mem_map.mpr ⟨t, ht, rfl⟩ : t.dx ∈ l.map Nm.Tr.dx)
        have e1 := Dx.deepL_at hi
        exact ⟨by omega, Dx.fitsL_at a2 hi, a3 t ht⟩
      intro x dx hx hdx ne
      refine init_any S (Same.refl H) hta f5.1 hx hdx ne (fun hbt H2 s2 N => ?_) fun w hw => k1 w (by simp only [Nm.chk]; rw [hw])
      obtain ⟨dx2, hob⟩ := N.ob
      have hb2 := tpO_same hb s2
      dsimp? only [gTupH, gCons, gNil, gName, hb2, hob]
      refine ⟨x, d, ta, es, ts, u2, tm, rfl, N, RX.same s2 h2, f4.1, tr (by omega) f4.2 wk.1, fun tm' e1 H3 q3 s3 r3 => ?_, fun w hw => BnE.imp (k1 w (by simp only [Nm.chk]; rw [hbt, hw])) s2⟩
      have ob3 := s3 _ _ hob
      dsimp? only [ob3]
      refine ⟨x, d, ta, es, ts, u4, c, rfl, N.same s3, RX.same (s2.trans s3) h4, by omega, f6, wk.2.1, fun c' e2 H4 v4 s4 r4 => ?_, fun w hw => BnE.imp (k1 w (by simp only [Nm.chk]; rw [hbt, e1, hw])) (s2.trans s3)⟩
      have ob4 := s4 _ _ ob3
      have s24 := (s2.trans s3).trans s4
      dsimp? only [ob4]
      refine ⟨x, d, ta, es, ts, u5, bys, rfl, (N.same s3).same s4, RX.same s24 h5, f7.1, tr (by omega) f7.2 wk.2.2, fun b' e3 H5 q5 s5 r5 => ?_, fun w hw => BnE.imp (k1 w (by simp only [Nm.chk]; rw [hbt, e1, e2, hw]; rfl)) s24⟩
      refine ⟨szl (by decide), fun q hq => ?_⟩
      have s25 := s24.trans s5
      have sq := same_new (o := .tup [.str "ask", .str how, .ref q3, .ref ta, v4, .ref q5, u6]) hq
      have sa := s25.trans sq
      exact k0 (.ask how tm' ts c' b' first) (by simp only [Nm.chk]; rw [hbt, e1, e2, e3]; rfl) _ q sa (rx_tup upd_same (rxs_cons (rx_str _) (rxs_cons (rx_str _) (rxs_cons (RX.same ((s4.trans s5).trans sq) r3) (rxs_cons (RX.same sa h3) (rxs_cons (RX.same (s5.trans sq) r4) (rxs_cons (RX.same sq r5) (rxs_cons (RX.same sa h6) rxs_nil))))))))
end

/-! the word of a BadName, row for a BadRow, none -/
def spWord (P : Program) (w : World) (K : PySem.W.Frag) (mg : Str → Option Value) (CB CR : Addr) (k : Nat) (B : Heap) : Sp := fun vs H Q _ => ∃ (f : Addr) (R : XK → Hp → VK → Prop), vs = [.ref f] ∧ Lm.Act0 P w K mg B k H f R ∧
  ∀ (E : XK) (Qn : VK), (∀ (x : Str) (d : Addr) (H' : Hp), H' d = some (.xd [("word", .str x)]) → Q (.str x) H' → E (.ref CB) (some d) H') → (∀ H', Q (.str "row") H' → E (.ref CR) none H') → (∀ v H', Q (.str "") H' → Qn v H') → R E H Qn
section
variable {P : Program} {w : World} {K : PySem.W.Frag} {mg : Str → Option Value} {base : Heap}
theorem ok_l_word (T : Txt K mg) : FnOk P w K mg base CX0 15 T.f_l_word T.fd_l_word ["_law_call"] (spWord P w K mg T.C_BadName T.C_BadRow 14 base) := by
  refine T.F_l_word.ok sc_l_word (fun vs H Q E h => ?_) (fun cdv A outer s H vs Q E hr h => ?_)
  · obtain ⟨f, R, rfl, _⟩ := h
    rfl
  · obtain ⟨f, R, rfl, hA, hR⟩ := h
    refine ⟨_, (pss_cons (Td.ps_tryCl rfl rfl sc_l_word.nd L2.takes0 (fun W pn xe tk _ => (Lm.pss_exprA (i := 0) hA tk (hr.mono (by decide)) rfl (Or.inl rfl))) (by exact (Td.ClOk.cons (q := (.ref T.C_BadName, 1, _)) ⟨rfl, rfl, .inl T.mg_BadName⟩ rfl rfl (fun a oe cls d pn hz hf => (pss_one (ps_ret (pe_ifExp (pt_val (pe_callB (call_isD hz hf) (by rfl) T.n_isinstance (by decide +kernel) (pa_cons (pv 1) (pa_cons (by exact pe_glob rfl T.mg_StoreError (v := .ref T.C_StoreError) rfl) pa_nil)))) (pe_xf T.X_BadName T.n_BadName_word hz hf (pv 1)) pe_str)))) (Td.ClOk.cons (q := (.ref T.C_BadRow, 1, _)) ⟨rfl, rfl, .inl T.mg_BadRow⟩ rfl rfl (fun a oe cls d pn hz hf => (pss_one (ps_ret (pe_ifExp (pt_val (pe_callB (Td.call_isG hz hf) (by rfl) T.n_isinstance (by decide +kernel) (pa_cons (pv 1) (pa_cons (by exact pe_glob rfl T.mg_StoreError (v := .ref T.C_StoreError) rfl) pa_nil)))) pe_str pe_str)))) Td.ClOk.nil))))
      (pss_one (ps_ret pe_str))), ?_⟩
    rw [show L2.start N_l_word [V.ref f] = [some (V.ref f), none] from rfl]
    refine ⟨rfl, Lm.KeepF.refl H, hR _ _ (fun x d H' hd q => ⟨true, T.m_BadName, fun _ a ha => ?_, fun z => by cases z⟩) (fun H' q => ⟨false, T.m_RN, (fun z => by cases z), fun _ => ⟨true, T.m_RR, fun _ a ha => ?_, fun z => by cases z⟩⟩) fun v H' q => ?_⟩
    · simp? only []
      refine ⟨T.C_BadName, d, _, rfl, rfl, hd, T.E_BadName, _, _, true, rfl, fun u e => e, T.kS_BadName, ?_⟩
      exact ⟨_, rfl, by rw [if_pos rfl]; exact ⟨_, rfl, rfl, rfl, d, _, _, rfl, hd, rfl, q⟩⟩
    · simp? only []
      refine ⟨T.C_BadRow, rfl, T.E_BadRow, true, Td.isb_ref T.kS_BadRow, ?_⟩
      rw [if_pos rfl]
      exact q
    · simp? only []
      exact q
end

/-! the first word of a tree that can't stand there -/
def spFirst (n : Nat) : Sp := fun vs H Q _ => ∃ (d ta : Addr) (v : V) (es : List Sh) (ts : List Str) (c : Option Nm.Tr), vs = [v, .ref d, .ref ta] ∧ SH H d es ∧ tpO (H ta) = some (ts.map V.str) ∧ ts.length ≤ 8 ∧ (∀ t ∈ ts, t ∈ es.map (·.1)) ∧ RX H v (Nm.dxO c) ∧ (Nm.dxO c).deep ≤ n ∧ (Nm.dxO c).fits 8 ∧ (∀ t, c = some t → t.wk) ∧
  ∀ (H' : Hp), Same H H' → Q (.str (Nm.firstO (shp es) ts c)) H'
theorem first_at : ∀ ws : List Str, atI (((ws.filter fun o => !decide (o = Str.ofString "")).map V.str) ++ [V.str (Str.ofString "")]) 0 = some (.str (Nm.firstW ws))
  | [] => rfl
  | w :: ws => by
    rw [Nm.firstW_c]
    by_cases c : w = Str.ofString ""
    · rw [List.filter_cons_of_neg (by simp [c]), if_pos c]
      exact first_at ws
    · rw [List.filter_cons_of_pos (by simp [c]), if_neg c]
      exact at0
section
variable {P : Program} {w : World} {K : PySem.W.Frag} {mg : Str → Option Value} {base : Heap}
theorem first_step (T : Txt K mg) (n : Nat) (sp0 : Sp) (G_l_first : FnOk P w K mg base CX0 (n + 1) T.f_l_first T.fd_l_first ["_law_tree", "_law_shapes_here", "_law_tables"] sp0) (h0 : ∀ e, n = e + 1 → sp0 = spFirst e) :
    FnOk P w K mg base CX0 (n + 2) T.f_l_first T.fd_l_first ["_law_tree", "_law_shapes_here", "_law_tables"] (spFirst n) := by
  refine T.F_l_first.ok sc_l_first (fun vs H Q E h => ?_) (fun cdv A outer s H vs Q E hr h => ?_)
  · obtain ⟨d, ta, v, es, ts, c, rfl, _⟩ := h
    rfl
  · have hu := hu_of hr
    have hu64 := hu64_of hr
    obtain ⟨d, ta, v, es, ts, c, rfl, S, tt, tl, tin, R, dp, ft, wk, k⟩ := h
    refine ⟨_, (pss_cons (ps_if (PW.pt (pw_or (pt_cmpR op_isN (pv 0) pe_non (nomark _)) (pw_or1 (pt_cmpR op_eq (pe_ix ix_tp (pv 0) pe_int (fun _ _ => rfl)) pe_str (nomark _))))) (pss_one (ps_ret pe_str)) pss_nil)
      (pss_cons (ps_if (pt_cmpR op_eq (pe_ix ix_tp (pv 0) pe_int (fun _ _ => rfl)) pe_str (nomark _)) (pss_cons (ps_if (PW.pt (pw_and (pt_cmpR op_ne (pe_ix ix_tp (pv 0) pe_int (fun _ _ => rfl)) pe_str (nomark _)) (pw_and1 (pt_cmpR op_notInS (pe_ix ix_tp (pv 0) pe_int (fun _ _ => rfl)) (pv 2) (by rfl))))) (pss_one (ps_ret (pe_ix ix_tp (pv 0) pe_int (fun _ _ => rfl)))) pss_nil)
        (pss_cons (ps_setLc (i := 3) (own := [("_law_table", 5)]) (g := gName 5) rfl sc_l_first.nd rfl rfl (sw_true rfl rfl rfl (by decide +kernel)) (pi_tupK K rfl (pv 2)) (blkOk_by (N := N_l_first) (sc := defScope s_l_first) (by decide +kernel)) (fun _ _ _ _ _ => (pg_name (i := 5) sc_l_first.nd rfl (Or.inl rfl))) (fun _ _ _ _ _ => pts_one (PW.pt (pw_and (pt_cmpR op_inS (pe_ix ix_tp (pv 0) pe_int (fun _ _ => rfl)) (pe_getI hu (pv 1) (pv 5) (fun _ _ => rfl)) (by rfl)) (pw_and1 (pt_cmpR op_inT (pe_ix ix_tp (pv 0) pe_int (fun _ _ => rfl)) (pe_tup (pa_cons pe_str (pa_cons (pv 5) pa_nil))) (by rfl)))))) (fun _ _ _ _ _ => (pv 5)))
        (pss_one (ps_ret (pe_ifExp (pt_cmpR op_eq (pe_callB len_lst (by rfl) T.n_len PySem.boot_len (pa_cons (pv 3) pa_nil)) pe_int (nomark _)) pe_str (pe_ix ix_tp (pv 0) pe_int (fun _ _ => rfl))))))) pss_nil)
      (pss_cons (ps_setLc (i := 4) (own := [("_law_one", 6)]) (g := gName 6) (tt := tYes) rfl sc_l_first.nd rfl rfl (sw_true rfl rfl rfl (by decide +kernel)) (pi_tupK K rfl (pe_slice sl_tp (pv 0) (po_some pe_int) po_none)) (blkOk_by (N := N_l_first) (sc := defScope s_l_first) (by decide +kernel)) (fun _ _ _ _ _ => (pg_name (i := 6) sc_l_first.nd rfl (Or.inl rfl))) (fun _ _ _ _ _ => pts_nil) (fun _ _ _ _ _ => (pe_call G_l_first (hr.mono (by show _ ≤ n + 1; omega)) rfl T.mg_l_first T.F_l_first.kp T.b_l_first .nil pass0 (pa_cons (pv 6) (pa_cons (pv 1) (pa_cons (pv 2) pa_nil))))))
      (pss_one (ps_ret (pe_ix ix_lst (pe_op op_cat (pe_lc (own := [("_law_word_here", 7)]) (g := gName 7) rfl sc_l_first.nd (pi_listK K rfl (pv 4)) (blkOk_by (N := N_l_first) (sc := defScope s_l_first) (by decide +kernel)) (fun _ _ _ _ _ => (pg_name (i := 7) sc_l_first.nd rfl (Or.inl rfl))) (fun _ _ _ _ _ => pts_one (pt_cmpR op_ne (pv 7) pe_str (nomark _))) (fun _ _ _ _ _ => (pv 7))) (pe_lst (pa_cons pe_str pa_nil))) pe_int (fun _ _ => rfl))))))), ?_⟩
    rw [show L2.start N_l_first [v, V.ref d, V.ref ta] = [some (v), some (V.ref d), some (V.ref ta), none, none, none, none, none] from rfl]
    cases c with
    | none =>
      have R : v = .non := by simpa only [Nm.dxO, RX] using R
      subst R
      simp? only []
      exact k H (Same.refl H)
    | some t =>
      have wk := wk t rfl
      have R : RX H v t.dx := R
      cases t with
      | num z =>
        unfold Nm.Tr.dx at R
        obtain ⟨b, us, rfl, hb, r⟩ := Nm.rx_tpO R
        obtain ⟨u0, us, rfl, h0, r⟩ := Nm.rxs_un r
        obtain ⟨u1, us, rfl, h1, r⟩ := Nm.rxs_un r
        obtain rfl := Nm.rxs_no r
        obtain rfl := Nm.rx_s h0
        obtain rfl := Nm.rx_i h1
        simp? only [hb]
        exact k H (Same.refl H)
      | fld tt0 f =>
        unfold Nm.Tr.dx at R
        obtain ⟨b, us, rfl, hb, r⟩ := Nm.rx_tpO R
        obtain ⟨u0, us, rfl, h0, r⟩ := Nm.rxs_un r
        obtain ⟨u1, us, rfl, h1, r⟩ := Nm.rxs_un r
        obtain ⟨u2, us, rfl, h2, r⟩ := Nm.rxs_un r
        obtain rfl := Nm.rxs_no r
        obtain rfl := Nm.rx_s h0
        obtain rfl := Nm.rx_s h1
        obtain rfl := Nm.rx_s h2
        simp? only [hb, tt, tLc_eq, iTup]
        have fin : ∀ (c0 : ¬ (tt0 ≠ Str.ofString "" ∧ tt0 ∉ ts)) , (∃ xs, SqT K H ta xs) ∧ lcB (Itt K ta) (gName 5) (tAnd (tTest (tOp (rInS false) (tOp rIxU (tVar 0) (tC (V.int 2))) (tGetI (tVar 1) (tVar 5)))) (tTest (tOp rInT (tOp rIxU (tVar 0) (tC (V.int 1))) (tTup (tCons (tC (V.str (Str.ofString ""))) (tCons (tVar 5) tNil)))))) (tVar 5) [5] [some (V.ref b), some (V.ref d), some (V.ref ta), none, none, none, none, none] H fun x H1 =>
            ∃ p, x = V.ref p ∧ ∃ x, lsO (H1 p) = some x ∧ if decide ((x.length : Int) = 1) = true then Q (V.str (Str.ofString "")) H1 else ∃ x, tpO (H1 b) = some x ∧ ∃ x_1, atI x 2 = some x_1 ∧ Q x_1 H1 := fun c0 => by
          refine ⟨⟨_, .inl (rd_tpO tt)⟩, ?_⟩
          refine lc_ents (walk_tup (xs := ts.map V.str)) ts (fun o => decide (f ∈ Nm.flds (shp es) o) && decide (tt0 = Str.ofString "" ∨ tt0 = o)) (fun o y _ => y = .str o) (by rw [List.length_map]) (by omega) (fun H' s => .inl (rd_tpO (tpO_same tt s))) (fun i H x H' h => by rw [h.1]; exact Same.refl _) (fun _ _ _ _ _ h _ _ => h) (fun j o x H6 H7 Q2 N he s6 hy g1 g2 => ?_) fun D H6 zs hD e1 s6 e2 e3 => ?_
          · obtain ⟨rfl, hx⟩ := hy
            rw [List.getElem?_map, he] at hx
            cases hx
            obtain ⟨e, hes, rfl, hev⟩ := S.look (tin o (List.mem_of_getElem? he))
            have S6 := S.same s6
            have hd6 := S6.at_
            have htp6 := S6.tups e hes
            have hb6 := tpO_same hb s6
            rw [shp_flds S.nd e hes] at g1 g2
            dsimp? only [gName, hb6, hd6, hev]
            refine ⟨e.2.2, .inr htp6, ?_⟩
            rw [hasS_iff]
            by_cases c1 : f ∈ e.2.2
            · rw [if_pos (decide_eq_true c1)]
              intro p hp
              have sp := same_new (o := .tup [V.str (Str.ofString ""), V.str e.1]) hp
              by_cases c2 : (tt0 = Str.ofString "" ∨ tt0 = e.1)
              · rw [if_pos (by rcases c2 with z | z <;> simp [z])]
                exact g1 (by rw [decide_eq_true c1, decide_eq_true c2]; rfl) _ _ sp rfl
              · rw [if_neg (by
                  intro z
                  rcases Bool.or_eq_true_iff.mp z with y | y
                  · exact c2 (.inl (eq_of_beq y).symm)
                  · exact c2 (.inr (eq_of_beq y).symm))]
                exact g2 (by rw [decide_eq_false c2, Bool.and_false]) _ sp
            · rw [if_neg (by simpa using c1)]
              exact g2 (by rw [decide_eq_false c1, Bool.false_and]) _ (Same.refl _)
          · rw [zs_vals (f := V.str) e1 e3] at e2
            have hb6 := tpO_same hb s6
            dsimp? only [hb6, e2]
            have kk := k H6 s6
            have e4 : Nm.firstO (shp es) ts (some (.fld tt0 f)) = Nm.firstF (shp es) ts tt0 f := by show Nm.firstT _ _ (.fld tt0 f) = _; rw [Nm.firstT]
            rw [e4] at kk
            unfold Nm.firstF at kk
            rw [if_neg c0] at kk
            change if decide (((Nm.hits (shp es) ts tt0 f).length : Int) = 1) = true then Q (V.str (Str.ofString "")) H6 else Q (V.str f) H6
            by_cases c1 : (Nm.hits (shp es) ts tt0 f).length = 1
            · rw [if_pos (decide_eq_true (show ((Nm.hits (shp es) ts tt0 f).length : Int) = 1 by omega))]
              rw [if_pos c1] at kk
              exact kk
            · rw [if_neg (fun z => c1 (by have z2 : ((Nm.hits (shp es) ts tt0 f).length : Int) = 1 := of_decide_eq_true z; omega))]
              rw [if_neg c1] at kk
              exact kk
        by_cases c0 : tt0 = Str.ofString ""
        · rw [if_neg (by simp [c0])]
          exact fin fun z => z.1 c0
        · rw [if_pos (by simp [c0])]
          refine ⟨ts, .inr rfl, ?_⟩
          rw [hasS_iff]
          by_cases c1 : tt0 ∈ ts
          · rw [if_neg (by simp [c1])]
            exact fin fun z => z.2 c1
          · rw [if_pos (by simp [c1])]
            have kk := k H (Same.refl H)
            have e4 : Nm.firstO (shp es) ts (some (.fld tt0 f)) = Nm.firstF (shp es) ts tt0 f := by show Nm.firstT _ _ (.fld tt0 f) = _; rw [Nm.firstT]
            rw [e4] at kk
            unfold Nm.firstF at kk
            rw [if_pos ⟨c0, c1⟩] at kk
            exact kk
      | node w ks =>
        obtain ⟨⟨wl, w1, w2, _⟩, wks⟩ := wk
        have R0 := R
        unfold Nm.Tr.dx at R
        obtain ⟨b, us, rfl, hb, r⟩ := Nm.rx_tpO R
        obtain ⟨u0, us, rfl, g0, r2⟩ := Nm.rxs_un r
        obtain rfl := Nm.rx_s g0
        rw [Nm.dxL_map] at r2
        simp? only [hb, tLc_eq, iTup]
        have w1 : ¬ w = Wd.num.s := w1
        have w2 : ¬ w = Wd.field.s := w2
        rw [if_neg (by simpa using w1), if_neg (by simpa using w2)]
        have ul : us.length = ks.length := by simpa using r2.len
        have kd : ∀ k ∈ ks, k.dx.deep + 1 ≤ n ∧ k.dx.fits 8 ∧ k.wk := fun k hk => by
          have hm : k.dx ∈ Nm.Tr.dxL ks := by rw [Nm.dxL_map]; exact List.mem_map.mpr ⟨k, hk, rfl⟩
          obtain ⟨i, hi⟩ := List.getElem?_of_mem hm
          have e1 : Dx.deep k.dx ≤ Dx.deepL (Nm.Tr.dxL ks) := Dx.deepL_at hi
          have e0 := Nm.node_deep (w := w) (ks := ks)
          have f0 : (Nm.Tr.dx (.node w ks)).fits 8 := ft
          rw [Nm.Tr.dx, Dx.fits, Dx.fitsL] at f0
          refine ⟨by rw [e0] at dp; omega, Dx.fitsL_at f0.2.2 hi, Nm.wkL_all.mp wks k hk⟩
        have kl : ks.length ≤ 7 := by
          have f0 : (Nm.Tr.dx (.node w ks)).fits 8 := ft
          rw [Nm.Tr.dx, Dx.fits] at f0
          have := f0.1
          rw [Nm.dxL_map, List.length_cons, List.length_map] at this
          omega
        intro q H1 s1 e1
        rw [Nm.cutV_1, List.drop_succ_cons, List.drop_zero] at e1
        have r1 := RXs.same s1 r2
        have hn : n = (n - 1) + 1 := by
          have e0 := Nm.node_deep (w := w) (ks := ks)
          omega
        have hsp := h0 (n - 1) hn
        subst hsp
        refine ⟨⟨_, .inl (rd_tpO e1)⟩, ?_⟩
        refine lc_all (walk_tup (xs := us)) ks (fun o y _ => y = .str (Nm.firstT (shp es) ts o)) (by omega) (by omega) (fun H' s => .inl (rd_tpO (tpO_same e1 s))) (fun i H x H' h => by rw [h.1]; exact Same.refl _) (fun _ _ _ _ _ h _ _ => h) (fun j kj x H6 H7 Q2 he s6 hy g1 => ?_) fun D H6 zs hD e4 s6 e2 e3 => ?_
        · obtain ⟨rfl, hx⟩ := hy
          have hdj : (ks.map Nm.Tr.dx)[j]? = some kj.dx := by rw [List.getElem?_map, he]; rfl
          obtain ⟨u, hu1, ru⟩ := RXs.at r1 hdj
          rw [hx] at hu1
          cases hu1
          obtain ⟨kd1, kd2, kd3⟩ := kd kj (List.mem_of_getElem? he)
          have s7 := s1.trans s6
          simp? only [gName]
          exact ⟨d, ta, x, es, ts, some kj, rfl, S.same s7, tpO_same tt s7, tl, tin, RX.same s6 ru, (by show kj.dx.deep ≤ n - 1; omega), kd2, fun t ht => by cases ht; exact kd3, fun H8 s8 => g1 _ _ s8 rfl⟩
        · rw [zs_vals (f := fun o => V.str (Nm.firstT (shp es) ts o)) e4 e3] at e2
          have e2 : H6 D = some (.lst ((ks.map (Nm.firstT (shp es) ts)).map V.str)) := by rw [e2, List.map_map]; rfl
          simp? only [tLc_eq, iList, e2]
          refine ⟨⟨_, .inl (.inl e2)⟩, ?_⟩
          refine lc_ents (walk_list (xs := (ks.map (Nm.firstT (shp es) ts)).map V.str)) (ks.map (Nm.firstT (shp es) ts)) (fun o => !decide (o = Str.ofString "")) (fun o y _ => y = .str o) (by rw [List.length_map, List.length_map, List.length_map]) (by rw [List.length_map]; omega) (fun H' s => .inl (.inl (s _ _ e2))) (fun i H x H' h => by rw [h.1]; exact Same.refl _) (fun _ _ _ _ _ h _ _ => h) (fun j o x H7 H8 Q2 N he s7 hy g1 g2 => ?_) fun D2 H7 zs2 hD2 f1 s7 f2 f3 => ?_
          · obtain ⟨rfl, hx⟩ := hy
            obtain ⟨o2, ho2, rfl⟩ := str_at hx
            rw [he] at ho2
            cases ho2
            simp? only [gName]
            by_cases c1 : o = Str.ofString ""
            · rw [if_neg (by simp [c1])]
              exact g2 (by simp [c1]) _ (Same.refl _)
            · rw [if_pos (by simp [c1])]
              exact g1 (by simp [c1]) _ _ (Same.refl _) rfl
          · rw [zs_vals (f := V.str) f1 f3] at f2
            intro p hp
            have sp := same_new (o := .lst [V.str (Str.ofString "")]) hp
            have hlen : ((ks.map (Nm.firstT (shp es) ts)).filter fun o => !decide (o = Str.ofString "")).length ≤ 7 := Nat.le_trans (List.length_filter_le _ _) (by rw [List.length_map]; exact kl)
            refine ⟨D2, rfl, _, sp _ _ f2, szl' (by rw [List.length_map]; omega), fun p2 hp2 => ⟨_, first_at _, ?_⟩⟩
            have e5 : Nm.firstO (shp es) ts (some (.node w ks)) = Nm.firstL (shp es) ts ks := by show Nm.firstT _ _ (.node w ks) = _; rw [Nm.firstT]
            rw [e5, ← Nm.firstW_map] at k
            exact k _ (((s1.trans s6).trans s7).trans (sp.trans (same_new hp2)))
theorem ok_l_first (T : Txt K mg) : ∀ n : Nat, FnOk P w K mg base CX0 (n + 2) T.f_l_first T.fd_l_first ["_law_tree", "_law_shapes_here", "_law_tables"] (spFirst n)
  | 0 => first_step T 0 (fun _ _ _ _ => False) (T.F_l_first.ok sc_l_first (fun vs H Q E h => h.elim) (fun cdv A outer s H vs Q E hr h => h.elim)) (fun e h => absurd h (by omega))
  | n + 1 => first_step T (n + 1) (spFirst n) (ok_l_first T n) (fun e h => by cases h; rfl)
end

/-! the places of all names in a tree -/
/-- lists of places, as they lie -/
def PthAt (H : Hp) (v : V) (p : List Nat) : Prop := ∃ a, v = .ref a ∧ tpO (H a) = some (p.map fun n : Nat => V.int n)
theorem PthAt.same {H H' : Hp} {v : V} {p : List Nat} (h : PthAt H v p) (k : Same H H') : PthAt H' v p := h.elim fun a q => ⟨a, q.1, tpO_same q.2 k⟩
def PthsAt (H : Hp) (xs : List V) (ps : List (List Nat)) : Prop := xs.length = ps.length ∧ ∀ (i : Nat) (x : V) (p : List Nat), xs[i]? = some x → ps[i]? = some p → PthAt H x p
theorem PthsAt.nil {H : Hp} : PthsAt H [] [] := ⟨rfl, fun i x p h => by cases h⟩
theorem PthsAt.same {H H' : Hp} {xs : List V} {ps : List (List Nat)} (h : PthsAt H xs ps) (k : Same H H') : PthsAt H' xs ps := ⟨h.1, fun i x p a b => (h.2 i x p a b).same k⟩
theorem PthsAt.app {H : Hp} {xs ys : List V} {ps qs : List (List Nat)} (h : PthsAt H xs ps) (g : PthsAt H ys qs) : PthsAt H (xs ++ ys) (ps ++ qs) := by
  refine ⟨by rw [List.length_append, List.length_append, h.1, g.1], fun i x p a b => ?_⟩
  by_cases c : i < xs.length
  · rw [List.getElem?_append_left c] at a
    rw [List.getElem?_append_left (by rw [← h.1]; exact c)] at b
    exact h.2 i x p a b
  · rw [List.getElem?_append_right (by omega)] at a
    rw [List.getElem?_append_right (by rw [← h.1]; omega)] at b
    rw [← h.1] at b
    exact g.2 _ x p a b
theorem PthsAt.one {H : Hp} {x : V} {p : List Nat} (h : PthAt H x p) : PthsAt H [x] [p] := ⟨rfl, fun i y q a b => by
  match i with
  | 0 =>
    cases a
    cases b
    exact h
  | i + 1 => cases a⟩
/-- how many leaves -/
def lvN : Nat → Nat
  | 0 => 1
  | n + 1 => 8 * lvN n
theorem lv_len : ∀ (n : Nat) (d : Dx), d.deep ≤ n → d.fits 8 → (Nm.leavesD d).length ≤ lvN n
  | n, .str s, _, _ => by
    unfold Nm.leavesD
    have : ∀ n, 1 ≤ lvN n := fun n => by induction n with
      | zero => exact Nat.le_refl 1
      | succ n ih => unfold lvN; omega
    exact this n
  | n, .non, _, _ => by unfold Nm.leavesD; exact Nat.zero_le _
  | n, .bl _, _, _ => by unfold Nm.leavesD; exact Nat.zero_le _
  | n, .int _, _, _ => by unfold Nm.leavesD; exact Nat.zero_le _
  | n, .lst _, _, _ => by unfold Nm.leavesD; exact Nat.zero_le _
  | 0, .tup ds, h, _ => by unfold Dx.deep at h; omega
  | n + 1, .tup ds, h, f => by
    unfold Nm.leavesD
    unfold Dx.deep at h
    unfold Dx.fits at f
    have all : ∀ (ds : List Dx) (b k : Nat), Dx.deepL ds ≤ n → Dx.fitsL 8 ds → (Nm.leavesL b k ds).length ≤ ds.length * lvN n := fun ds => by
      induction ds with
      | nil => intro b k _ _; unfold Nm.leavesL; exact Nat.zero_le _
      | cons d ds ih =>
        intro b k h1 h2
        unfold Nm.leavesL
        unfold Dx.deepL at h1
        have i1 := lv_len n d (by omega) h2.1
        have i2 := ih b (k + 1) (by omega) h2.2
        rw [List.length_append, List.length_cons, Nat.succ_mul]
        split
        · rw [List.length_map]; omega
        · rw [List.length_nil]; omega
    have z := all ds (Nm.begD ds) 0 (by omega) f.2
    unfold lvN
    exact Nat.le_trans z (Nat.mul_le_mul_right _ f.1)
theorem lvN_small : ∀ n, n ≤ 8 → lvN n ≤ 16777216 := by decide
theorem leavesL_app {b : Nat} : ∀ (x y : List Dx) (k : Nat), Nm.leavesL b k (x ++ y) = Nm.leavesL b k x ++ Nm.leavesL b (k + x.length) y
  | [], y, k => by
    rw [List.nil_append, show Nm.leavesL b k [] = [] by rw [Nm.leavesL], List.nil_append, List.length_nil, Nat.add_zero]
  | d :: x, y, k => by
    rw [List.cons_append, Nm.leavesL, leavesL_app x y (k + 1), Nm.leavesL, List.append_assoc, List.length_cons, Nat.add_assoc, Nat.add_comm 1]
theorem leavesL_low {b : Nat} : ∀ (x : List Dx) (k : Nat), k + x.length ≤ b → Nm.leavesL b k x = []
  | [], k, _ => by unfold Nm.leavesL; rfl
  | d :: x, k, h => by
    rw [List.length_cons] at h
    unfold Nm.leavesL
    rw [if_neg (by omega), leavesL_low x (k + 1) (by omega)]
    rfl
theorem leavesL_snoc {b k : Nat} {ds : List Dx} {d : Dx} (hd : ds[k]? = some d) (h : b ≤ k) : Nm.leavesL b 0 (ds.take (k + 1)) = Nm.leavesL b 0 (ds.take k) ++ (Nm.leavesD d).map (k :: ·) := by
  rw [List.take_add_one, hd, Option.toList_some, leavesL_app]
  have hk : k < ds.length := (List.getElem?_eq_some_iff.mp hd).1
  rw [List.length_take, Nat.min_eq_left (by omega), Nat.zero_add]
  unfold Nm.leavesL
  rw [if_pos h]
  unfold Nm.leavesL
  rw [List.append_nil]
theorem leavesL_le {b : Nat} (ds : List Dx) (k : Nat) : (Nm.leavesL b 0 (ds.take k)).length ≤ (Nm.leavesL b 0 ds).length := by
  have z := leavesL_app (b := b) (ds.take k) (ds.drop k) 0
  rw [List.take_append_drop] at z
  rw [z, List.length_append]
  omega
theorem tyT_tpO {a : Addr} {H : Hp} {us : List V} (h : tpO (H a) = some us) : tyT (.ref a) H = some .tup := by
  rw [tyT_r]
  cases e : H a with
  | none => rw [e] at h; cases h
  | some o =>
    rw [e] at h
    cases o with
    | tup xs => rfl
    | frz o' u => cases u <;> first | rfl | cases h
    | _ => cases h
def beg0 : Dx → Nat
  | .str s => if s ∈ Nm.lawW then 1 else 0
  | _ => 0
def isAsk : Dx → Bool
  | .str s => decide (s = Str.ofString "ask")
  | _ => false
theorem begD_eq (d : Dx) (ds : List Dx) : Nm.begD (d :: ds) = if isAsk d = true then 2 else beg0 d := by
  cases d with
  | str s =>
    show (if s = Str.ofString "ask" then 2 else if s ∈ Nm.lawW then 1 else 0) = if decide (s = Str.ofString "ask") = true then 2 else if s ∈ Nm.lawW then 1 else 0
    by_cases c : s = Str.ofString "ask"
    · rw [if_pos c, if_pos (decide_eq_true c)]
    · rw [if_neg c, show decide (s = Str.ofString "ask") = false from decide_eq_false c]
      rfl
  | _ => rfl
theorem beg0_le (d : Dx) : beg0 d ≤ 2 := by
  cases d with
  | str s =>
    show (if s ∈ Nm.lawW then 1 else 0) ≤ 2
    by_cases c : s ∈ Nm.lawW
    · rw [if_pos c]; omega
    · rw [if_neg c]; omega
  | _ => exact Nat.zero_le _
theorem begD_le (d : Dx) (ds : List Dx) : Nm.begD (d :: ds) ≤ 2 := by
  rw [begD_eq]
  have := beg0_le d
  by_cases c : isAsk d = true
  · rw [if_pos c]; omega
  · rw [if_neg c]; exact this
def spLeaves (n : Nat) : Sp := fun vs H Q _ => ∃ (v : V) (pa : Addr) (d : Dx) (p : List Nat), vs = [v, .ref pa] ∧ RX H v d ∧ d.deep ≤ n ∧ d.fits 8 ∧ d.noL ∧ n ≤ 8 ∧ tpO (H pa) = some (p.map fun k : Nat => V.int k) ∧ p.length + n ≤ 20 ∧
  ∀ (H' : Hp) (q : Addr) (xs : List V), H q = none → Same H H' → H' q = some (.lst xs) → PthsAt H' xs ((Nm.leavesD d).map (p ++ ·)) → Q (.ref q) H'
section
variable {P : Program} {w : World} {K : PySem.W.Frag} {mg : Str → Option Value} {base : Heap}
theorem leaves_step (T : Txt K mg) (n : Nat) (sp0 : Sp) (G_l_leaves : FnOk P w K mg base CX0 (n + 1) T.f_l_leaves T.fd_l_leaves ["_law_one", "_law_path"] sp0) (h0 : ∀ e, n = e + 1 → sp0 = spLeaves e) :
    FnOk P w K mg base CX0 (n + 2) T.f_l_leaves T.fd_l_leaves ["_law_one", "_law_path"] (spLeaves n) := by
  refine T.F_l_leaves.ok sc_l_leaves (fun vs H Q E h => ?_) (fun cdv A outer s H vs Q E hr h => ?_)
  · obtain ⟨v, pa, d, p, rfl, _⟩ := h
    rfl
  · have hu := hu_of hr
    have hu64 := hu64_of hr
    obtain ⟨v, pa, d, p, rfl, R, dp, ft, nol, n8, tp, pl, k⟩ := h
    refine ⟨_, (Evl.pss_cut (ps_if (pt_val (pe_callB isi_h (by rfl) T.n_isinstance (by decide +kernel) (pa_cons (pv 0) (pa_cons (pe_bltn (by rfl) T.n_str (by decide +kernel) (v := .ty "str") rfl) pa_nil)))) (pss_one (ps_ret (pe_lst (pa_cons (pv 1) pa_nil)))) pss_nil)
      (Evl.pss_cut (ps_set (i := 2) sc_l_leaves.nd rfl (Or.inl rfl) (pe_lst (pa_cons pe_str (pa_cons pe_str (pa_cons pe_str (pa_cons pe_str (pa_cons pe_str (pa_cons pe_str (pa_cons pe_str (pa_cons pe_str (pa_cons pe_str (pa_cons pe_str (pa_cons pe_str (pa_cons pe_str (pa_cons pe_str (pa_cons pe_str (pa_cons pe_str (pa_cons pe_str pa_nil))))))))))))))))))
      (pss_cons (ps_par (i := 3) (j := 2) rfl sc_l_leaves.nd rfl rfl (by decide) rfl rfl (pa_cons (pe_lst pa_nil) (pa_cons (pe_op op_cat (pv 2) (pe_lst (pa_cons pe_str (pa_cons pe_str (pa_cons pe_str pa_nil))))) pa_nil)) (by rfl))
      (Evl.pss_cut (ps_if (PW.pt (pw_and (pt_val (pe_callB isi_h (by rfl) T.n_isinstance (by decide +kernel) (pa_cons (pv 0) (pa_cons (pe_bltn (by rfl) T.n_tuple (by decide +kernel) (v := .ty "tuple") rfl) pa_nil)))) (pw_and1 (pt_cmpR (op_neNilT hu64) (pv 0) (pe_tup pa_nil) (nomark _))))) (Evl.pss_cut (ps_set (i := 4) sc_l_leaves.nd rfl (Or.inl rfl) (pe_callTy int_bl (by rfl) T.n_int (by decide +kernel) (pa_cons (pe_and (pe_callB isi_h (by rfl) T.n_isinstance (by decide +kernel) (pa_cons (pe_ix ix_tp (pv 0) pe_int (fun _ _ => rfl)) (pa_cons (pe_bltn (by rfl) T.n_str (by decide +kernel) (v := .ty "str") rfl) pa_nil))) (pe_one (pe_cmpR op_inS (pe_ix ix_tp (pv 0) pe_int (fun _ _ => rfl)) (pv 2) (by rfl)))) pa_nil)))
        (Evl.pss_cut (ps_set (i := 4) sc_l_leaves.nd rfl (Or.inl rfl) (pe_ifExp (pt_cmpR (op_eqXS hu64) (pe_ix ix_tp (pv 0) pe_int (fun _ _ => rfl)) pe_str (nomark _)) pe_int (pv 4)))
        (pss_one (ps_for PassesOwn.never rfl (pi_range2 rfl T.n_range (pa_cons (pv 4) (pa_cons (pe_callB len_tp (by rfl) T.n_len PySem.boot_len (pa_cons (pv 0) pa_nil)) pa_nil))) (pg_name (i := 5) sc_l_leaves.nd rfl (Or.inl rfl)) (pss_one (ps_set (i := 3) sc_l_leaves.nd rfl (Or.inl rfl) (pe_op op_cat (pv 3) (pe_call G_l_leaves (hr.mono (by show _ ≤ n + 1; omega)) rfl T.mg_l_leaves T.F_l_leaves.kp T.b_l_leaves .nil pass0 (pa_cons (pe_ix ix_tp (pv 0) (pv 5) (fun _ _ => rfl)) (pa_cons (pe_op op_catS (pv 1) (pe_tup (pa_cons (pv 5) pa_nil))) pa_nil)))))))))) pss_nil)
      (pss_one (ps_ret (pv 3))))))), ?_⟩
    rw [show L2.start N_l_leaves [v, V.ref pa] = [some (v), some (V.ref pa), none, none, none, none] from rfl]
    have R0 := R
    refine ⟨fun σ' H2 => σ' = [some v, some (.ref pa), none, none, none, none] ∧ H2 = H ∧ ∀ s, d ≠ .str s, ?_, ?_⟩
    · cases d with
      | str s =>
        have R := Nm.rx_s R
        subst R
        simp? only []
        intro q hq
        have sq := same_new (o := .lst [V.ref pa]) hq
        refine k _ q _ hq sq upd_same ?_
        unfold Nm.leavesD
        rw [List.map_cons, List.map_nil, List.append_nil]
        exact PthsAt.one ⟨pa, rfl, tpO_same tp sq⟩
      | non =>
        simp only [RX] at R
        subst R
        simp? only []
        exact fun _ => trivial
      | bl _ =>
        simp only [RX] at R
        subst R
        simp? only []
        exact fun _ => trivial
      | int _ =>
        simp only [RX] at R
        subst R
        simp? only []
        exact fun _ => trivial
      | tup ds =>
        simp only [RX] at R
        obtain ⟨a, us, rfl, ha, Ru⟩ := R
        rcases ha with ha | ⟨oa, ha⟩
        all_goals
          simp? only [ha]
          exact fun _ => trivial
      | lst ds =>
        simp only [RX] at R
        obtain ⟨a, us, rfl, ha, Ru⟩ := R
        simp? only [ha]
        exact fun _ => trivial
    rintro σ' H2 ⟨rfl, rfl, nos⟩
    refine ⟨fun σ' H3 => ∃ w, σ' = [some v, some (.ref pa), some (.ref w), none, none, none] ∧ Same H2 H3 ∧ H3 w = some (.lst ((Nm.lawW.take 16).map V.str)), ?_, ?_⟩
    · simp? only []
      exact ⟨szl (by decide), fun p hp => ⟨same_new hp, rfl⟩⟩
    rintro σ' H3 ⟨w0, rfl, s3, e3⟩
    simp? only [e3]
    intro fo hfo p3 hp3
    have nf3 : fo ≠ p3 := fun z => by rw [z, upd_same] at hp3; cases hp3
    have nw : w0 ≠ fo := ne_of_none e3 hfo
    have nw3 : w0 ≠ p3 := fun z => by rw [← z, upd_ne nw, e3] at hp3; cases hp3
    refine ⟨_, by rw [upd_ne nw3, upd_ne nw]; exact e3, szl (by rw [List.length_map]; decide), fun w1 hw1 => ?_⟩
    have hp3' : H3 p3 = none := by rw [upd_ne nf3.symm] at hp3; exact hp3
    have nfw : fo ≠ w1 := fun z => by rw [← z, upd_ne nf3, upd_same] at hw1; cases hw1
    have n3w : p3 ≠ w1 := fun z => by rw [← z, upd_same] at hw1; cases hw1
    have hw1' : H3 w1 = none := by rw [upd_ne n3w.symm, upd_ne nfw.symm] at hw1; exact hw1
    have s4 : Same H2 (upd (upd (upd H3 fo (HO.lst [])) p3 (HO.lst [V.str (Str.ofString "strike"), V.str (Str.ofString "table"), V.str (Str.ofString "index")])) w1 (HO.lst ((Nm.lawW.take 16).map V.str ++ [V.str (Str.ofString "strike"), V.str (Str.ofString "table"), V.str (Str.ofString "index")]))) :=
      s3.trans (Same.updFree (Same.updFree (same_new hfo) hp3') hw1')
    have e4 : upd (upd (upd H3 fo (HO.lst [])) p3 (HO.lst [V.str (Str.ofString "strike"), V.str (Str.ofString "table"), V.str (Str.ofString "index")])) w1 (HO.lst ((Nm.lawW.take 16).map V.str ++ [V.str (Str.ofString "strike"), V.str (Str.ofString "table"), V.str (Str.ofString "index")])) w1 = some (.lst (Nm.lawW.map V.str)) := by
      rw [upd_same]
      rfl
    have ef4 : upd (upd (upd H3 fo (HO.lst [])) p3 (HO.lst [V.str (Str.ofString "strike"), V.str (Str.ofString "table"), V.str (Str.ofString "index")])) w1 (HO.lst ((Nm.lawW.take 16).map V.str ++ [V.str (Str.ofString "strike"), V.str (Str.ofString "table"), V.str (Str.ofString "index")])) fo = some (.lst []) := by
      rw [upd_ne nfw, upd_ne nf3, upd_same]
    generalize upd (upd (upd H3 fo (HO.lst [])) p3 (HO.lst [V.str (Str.ofString "strike"), V.str (Str.ofString "table"), V.str (Str.ofString "index")])) w1 (HO.lst ((Nm.lawW.take 16).map V.str ++ [V.str (Str.ofString "strike"), V.str (Str.ofString "table"), V.str (Str.ofString "index")])) = H4 at *
    have hfo := s3.free hfo
    clear hp3 hw1 hw1' hp3' nfw n3w nf3 nw nw3 e3 s3
    refine ⟨fun σ' H5 => ∃ (f5 : Addr) (x4 x5 : Option V) (xs : List V), σ' = [some v, some (.ref pa), some (.ref w1), some (.ref f5), x4, x5] ∧ H2 f5 = none ∧ Same H2 H5 ∧ H5 f5 = some (.lst xs) ∧ PthsAt H5 xs ((Nm.leavesD d).map (p ++ ·)), ?_, ?_⟩
    · have none_ : Nm.leavesD d = [] → H2 fo = none ∧ Same H2 H4 ∧ ∃ (xs : List V), H4 fo = some (.lst xs) ∧ PthsAt H4 xs ((Nm.leavesD d).map (p ++ ·)) := fun z => ⟨hfo, s4, [], ef4, by rw [z]; exact PthsAt.nil⟩
      cases d with
      | str s => exact absurd rfl (nos s)
      | non =>
        simp only [RX] at R
        subst R
        simp? only []
        exact none_ (by unfold Nm.leavesD; rfl)
      | bl _ =>
        simp only [RX] at R
        subst R
        simp? only []
        exact none_ (by unfold Nm.leavesD; rfl)
      | int _ =>
        simp only [RX] at R
        subst R
        simp? only []
        exact none_ (by unfold Nm.leavesD; rfl)
      | lst ds =>
        simp only [RX] at R
        obtain ⟨a, us, rfl, ha, Ru⟩ := R
        have ha4 := s4 _ _ ha
        simp? only [ha4]
        exact none_ (by unfold Nm.leavesD; rfl)
      | tup ds =>
        obtain ⟨a, us, rfl, ha, Ru⟩ := Nm.rx_tpO R
        have ha4 := tpO_same ha s4
        have hty : tyT (.ref a) H4 = some .tup := tyT_tpO ha4
        simp? only [hty]
        intro q hq
        have sq := same_new (o := .tup []) hq
        have ha5 := tpO_same ha4 sq
        have s5 := s4.trans sq
        have ef5 := sq _ _ ef4
        have e5 := sq _ _ e4
        refine ⟨us, ha5, ?_⟩
        have ft' := ft
        simp only [Dx.fits] at ft
        have nolc : Dx.noLL ds := nol
        have lu := Ru.len
        cases ds with
        | nil =>
          obtain rfl := Nm.rxs_no Ru
          rw [if_neg (by simp)]
          exact ⟨hfo, s5, [], ef5, by unfold Nm.leavesD Nm.leavesL; exact PthsAt.nil⟩
        | cons d0 ds =>
          obtain ⟨u0, us, rfl, h0', Ru'⟩ := Nm.rxs_un Ru
          rw [if_pos (by simp)]
          have begB := begD_le d0 ds
          generalize upd H4 q (.tup []) = H5 at *
          clear hq sq
          refine ⟨fun σ' H6 => σ' = [some (.ref a), some (.ref pa), some (.ref w1), some (.ref fo), some (.int (beg0 d0 : Nat)), none] ∧ H6 = H5, ?_, ?_⟩
          · have h0' := RX.same s5 h0'
            cases d0 with
            | str s =>
              have h0' := Nm.rx_s h0'
              subst h0'
              simp? only [ha5, e5]
              refine ⟨Nm.lawW, .inl rfl, ?_⟩
              rw [hasS_iff]
              by_cases c : s ∈ Nm.lawW
              · rw [decide_eq_true c, if_pos rfl, beg0, if_pos c]
                rfl
              · rw [decide_eq_false c, if_neg (by simp), beg0, if_neg c]
                rfl
            | non =>
              simp only [RX] at h0'
              subst h0'
              simp? only [ha5, e5]
              rfl
            | bl _ =>
              simp only [RX] at h0'
              subst h0'
              simp? only [ha5, e5]
              rfl
            | int _ =>
              simp only [RX] at h0'
              subst h0'
              simp? only [ha5, e5]
              rfl
            | lst _ => exact nol.1.elim
            | tup _ =>
              simp only [RX] at h0'
              obtain ⟨b, zs, rfl, hb, _⟩ := h0'
              rcases hb with hb | ⟨ob, hb⟩ <;> (simp? only [ha5, e5, hb]; rfl)
          rintro σ' H6 ⟨rfl, rfl⟩
          refine ⟨fun σ' H7 => σ' = [some (.ref a), some (.ref pa), some (.ref w1), some (.ref fo), some (.int ((Nm.begD (d0 :: ds) : Nat) : Int)), none] ∧ H7 = H6, ?_, ?_⟩
          · rw [begD_eq]
            have h0' := RX.same s5 h0'
            cases d0 with
            | str s =>
              have h0' := Nm.rx_s h0'
              subst h0'
              simp? only [ha5]
              by_cases c : s = Str.ofString "ask"
              · rw [if_pos (decide_eq_true c), if_pos (show isAsk (.str s) = true from decide_eq_true c)]
                rfl
              · rw [if_neg (by simpa using c), if_neg (show ¬ isAsk (.str s) = true from by simpa [isAsk] using c)]
            | non =>
              simp only [RX] at h0'
              subst h0'
              simp? only [ha5]
              rfl
            | bl _ =>
              simp only [RX] at h0'
              subst h0'
              simp? only [ha5]
              exact ⟨rfl, rfl⟩
            | int _ =>
              simp only [RX] at h0'
              subst h0'
              simp? only [ha5]
              exact ⟨rfl, rfl⟩
            | lst _ => exact nol.1.elim
            | tup _ =>
              obtain ⟨b, zs, rfl, hb, _⟩ := Nm.rx_tpO h0'
              simp? only [ha5, hb]
              exact .inr rfl
          rintro σ' H7 ⟨rfl, rfl⟩
          simp? only [ha5, tFor_eq, iRng2]
          have lus : us.length = ds.length := by simpa using lu
          have ds7 : ds.length ≤ 7 := by have := ft.1; rw [List.length_cons] at this; omega
          refine ⟨by omega, by omega, by omega, by omega, ?_⟩
          have hn : n = (n - 1) + 1 := by
            unfold Dx.deep at dp
            omega
          have hsp := h0 (n - 1) hn
          subst hsp
          have bb : Nm.leavesD (.tup (d0 :: ds)) = Nm.leavesL (Nm.begD (d0 :: ds)) 0 (d0 :: ds) := by rw [Nm.leavesD]
          have lall := lv_len n (.tup (d0 :: ds)) dp ft'
          rw [bb] at lall ⊢
          generalize hb0 : Nm.begD (d0 :: ds) = b at *
          have lsm := lvN_small n n8
          have RS := RXs.same s5 Ru
          refine forB_it (for_it walk_range (fun i σ H8 => ∃ (f8 : Addr) (x5 : Option V) (xs : List V), σ = [some (.ref a), some (.ref pa), some (.ref w1), some (.ref f8), some (.int (b : Nat)), x5] ∧ H2 f8 = none ∧ Same H7 H8 ∧ H8 f8 = some (.lst xs) ∧ PthsAt H8 xs ((Nm.leavesL b 0 ((d0 :: ds).take (b + i))).map (p ++ ·)))
            ⟨fo, none, [], rfl, hfo, Same.refl _, ef5, by rw [leavesL_low _ 0 (by rw [List.length_take]; omega)]; exact PthsAt.nil⟩ (fun _ _ _ _ _ => trivial) ?_ ?_)
          · rintro i y σ H8 H9 hi ⟨f8, x5, xs, rfl, hf8, s8, e8, pt8⟩ ⟨rfl, rfl⟩
            have hi2 : b + i < (d0 :: ds).length := by rw [List.length_cons]; omega
            obtain ⟨di, hdi⟩ : ∃ di, (d0 :: ds)[b + i]? = some di := ⟨_, List.getElem?_eq_getElem hi2⟩
            obtain ⟨u, hu1, ru⟩ := RXs.at RS hdi
            have ha8 := tpO_same ha5 s8
            have tp8 := tpO_same (tpO_same tp s5) s8
            have hat : atI (u0 :: us) ((b : Int) + (i : Int)) = some u := by
              have := atI_nat hu1
              rwa [Int.natCast_add] at this
            simp? only [gName, e8, ha8, hat, tp8]
            intro q1 hq1
            have sq1 := same_new (o := .tup [V.int ((b : Int) + (i : Int))]) hq1
            refine ⟨_, tpO_same tp8 sq1, szl (by rw [List.length_map]; omega), fun pa2 H10 s10 tp10 => ?_⟩
            have s18 := sq1.trans s10
            have ddi := Dx.deepL_at hdi
            have dp2 : (Dx.tup (d0 :: ds)).deep = Dx.deepL (d0 :: ds) + 1 := by rw [Dx.deep]
            refine ⟨u, pa2, di, p ++ [b + i], rfl, RX.same (s8.trans s18) ru, by omega, Dx.fitsL_at ft.2 hdi, noLL_all.mp nolc di (List.mem_of_getElem? hdi), by omega, by rw [tp10, List.map_append]; rfl, by rw [List.length_append, List.length_singleton]; omega, fun H11 f11 ys _ s11 e11 pt11 => ?_⟩
            have e8' := s11 _ _ (s18 _ _ e8)
            have sn := leavesL_snoc (b := b) hdi (Nat.le_add_right b i)
            have lx : xs.length = (Nm.leavesL b 0 ((d0 :: ds).take (b + i))).length := by rw [pt8.1, List.length_map]
            have ly : ys.length = (Nm.leavesD di).length := by rw [pt11.1, List.length_map]
            have lle := leavesL_le (b := b) (d0 :: ds) (b + i + 1)
            rw [sn, List.length_append, List.length_map] at lle
            refine ⟨f11, rfl, xs, e8', ys, e11, Nat.le_trans (show xs.length + ys.length ≤ 16777216 by omega) (by decide), fun q2 hq2 => ?_⟩
            have sq2 := same_new (o := .lst (xs ++ ys)) hq2
            refine ⟨(s5.trans (s8.trans (s18.trans s11))).free hq2, s8.trans ((s18.trans s11).trans sq2), ?_⟩
            rw [← Nat.add_assoc, sn, List.map_append]
            refine (pt8.same ((s18.trans s11).trans sq2)).app ?_
            have z := pt11.same sq2
            rw [List.map_map]
            have e12 : ((fun x => p ++ x) ∘ fun x => (b + i) :: x) = fun x => (p ++ [b + i]) ++ x := by
              funext x
              show p ++ (b + i) :: x = _
              rw [List.append_assoc]
              rfl
            rw [e12]
            exact z
          · rintro σ H8 ⟨f8, x5, xs, rfl, hf8, s8, e8, pt8⟩
            rw [List.take_of_length_le (by rw [List.length_cons]; omega)] at pt8
            exact ⟨f8, ⟨_, _, rfl⟩, hf8, s5.trans s8, xs, e8, pt8⟩
    rintro σ' H5 ⟨f5, x4, x5, xs, rfl, hf5, s5, e5, pt⟩
    simp? only []
    exact k H5 f5 xs hf5 s5 e5 pt
theorem ok_l_leaves (T : Txt K mg) : ∀ n : Nat, FnOk P w K mg base CX0 (n + 2) T.f_l_leaves T.fd_l_leaves ["_law_one", "_law_path"] (spLeaves n)
  | 0 => leaves_step T 0 (fun _ _ _ _ => False) (T.F_l_leaves.ok sc_l_leaves (fun vs H Q E h => h.elim) (fun cdv A outer s H vs Q E hr h => h.elim)) (fun e h => absurd h (by omega))
  | n + 1 => leaves_step T (n + 1) (spLeaves n) (ok_l_leaves T n) (fun e h => by cases h; rfl)
end

/-! a tree with a word at a name's place -/
theorem cutV_to_nat {xs : List V} (i : Nat) : cutV xs none (some (i : Int)) = xs.take i := Td.cutV_to xs i
theorem cutV_frN (xs : List V) (k : Nat) : cutV xs (some (k : Int)) none = xs.drop k := by
  unfold cutV
  rw [HT.sIx_none, HT.sIx_nat]
  by_cases h : k ≤ xs.length
  · rw [Nat.min_eq_left h]
    exact List.take_of_length_le (by rw [List.length_drop]; exact Nat.le_refl _)
  · rw [Nat.min_eq_right (by omega), List.drop_length, List.drop_eq_nil_of_le (by omega)]
    simp
theorem rxs_set {H : Hp} {u : V} {d : Dx} : ∀ {us : List V} {ds : List Dx} {i : Nat}, RXs H us ds → RX H u d → RXs H (us.set i u) (ds.set i d)
  | [], [], i, h, r => by
    rw [List.set_nil, List.set_nil]
    exact h
  | _ :: us, _ :: ds, 0, h, r => by
    simp only [RXs] at h
    exact rxs_cons r h.2
  | _ :: us, _ :: ds, i + 1, h, r => by
    simp only [RXs] at h
    exact rxs_cons h.1 (rxs_set (i := i) h.2 r)
  | [], _ :: ds, i, h, r => by simp only [RXs] at h
  | _ :: us, [], i, h, r => by simp only [RXs] at h
def spPut (n : Nat) : Sp := fun vs H Q _ => ∃ (v : V) (pa : Addr) (w : Str) (d : Dx) (p : List Nat), vs = [v, .ref pa, .str w] ∧ RX H v d ∧ d.deep ≤ n ∧ d.fits 8 ∧ tpO (H pa) = some (p.map fun k : Nat => V.int k) ∧ p ∈ Nm.leavesD d ∧
  ∀ (H' : Hp) (v' : V), Same H H' → RX H' v' (Nm.putD p d w) → Q v' H'
section
variable {P : Program} {w : World} {K : PySem.W.Frag} {mg : Str → Option Value} {base : Heap}
theorem put_step (T : Txt K mg) (n : Nat) (sp0 : Sp) (G_l_put : FnOk P w K mg base CX0 (n + 1) T.f_l_put T.fd_l_put ["_law_one", "_law_path", "_law_word_here"] sp0) (h0 : ∀ e, n = e + 1 → sp0 = spPut e) :
    FnOk P w K mg base CX0 (n + 2) T.f_l_put T.fd_l_put ["_law_one", "_law_path", "_law_word_here"] (spPut n) := by
  refine T.F_l_put.ok sc_l_put (fun vs H Q E h => ?_) (fun cdv A outer s H vs Q E hr h => ?_)
  · obtain ⟨v, pa, w, d, p, rfl, _⟩ := h
    rfl
  · have hu := hu_of hr
    have hu64 := hu64_of hr
    obtain ⟨v, pa, w, d, p, rfl, R, dp, ft, tp, hp, k⟩ := h
    refine ⟨_, (pss_cons (ps_if (pt_cmpR (op_eqNilT hu64) (pv 1) (pe_tup pa_nil) (nomark _)) (pss_one (ps_ret (pv 2))) pss_nil)
      (pss_cons (ps_set (i := 3) sc_l_put.nd rfl (Or.inl rfl) (pe_ix ix_tp (pv 1) pe_int (fun _ _ => rfl)))
      (pss_one (ps_ret (pe_op op_catS (pe_op op_catS (pe_slice sl_tp (pv 0) po_none (po_some (pv 3))) (pe_tup (pa_cons (pe_call G_l_put (hr.mono (by show _ ≤ n + 1; omega)) rfl T.mg_l_put T.F_l_put.kp T.b_l_put .nil pass0 (pa_cons (pe_ix ix_tp (pv 0) (pv 3) (fun _ _ => rfl)) (pa_cons (pe_slice sl_tp (pv 1) (po_some pe_int) po_none) (pa_cons (pv 2) pa_nil)))) pa_nil))) (pe_slice sl_tp (pv 0) (po_some (pe_op op_add (pv 3) pe_int)) po_none)))))), ?_⟩
    rw [show L2.start N_l_put [v, V.ref pa, V.str w] = [some (v), some (V.ref pa), some (V.str w), none] from rfl]
    simp? only []
    intro q0 hq0
    have s0 := same_new (o := .tup []) hq0
    refine ⟨_, tpO_same tp s0, ?_⟩
    have tp0 := tpO_same tp s0
    have R := RX.same s0 R
    generalize upd H q0 (.tup []) = H0 at *
    cases p with
    | nil =>
      rw [if_pos (by simp)]
      exact k H0 (.str w) s0 (rx_str w)
    | cons i p =>
      rw [if_neg (by simp)]
      cases d with
      | tup ds =>
        obtain ⟨i2, p2, di, e2, _, hdi, hpi⟩ := Nm.leaves_tup hp
        cases e2
        obtain ⟨a, us, rfl, ha, Ru⟩ := Nm.rx_tpO R
        have lu := Ru.len
        have hi : i < ds.length := (List.getElem?_eq_some_iff.mp hdi).1
        obtain ⟨u, hu1, ru⟩ := RXs.at Ru hdi
        have hn : n = (n - 1) + 1 := by
          unfold Dx.deep at dp
          omega
        have hsp := h0 (n - 1) hn
        subst hsp
        have hat : atI us (i : Int) = some u := atI_nat hu1
        simp? only [tp0, ha]
        intro p1 H1 s1 e1
        rw [cutV_to_nat] at e1
        have ha1 := tpO_same ha s1
        have tp1 := tpO_same tp0 s1
        simp? only [ha1, tp1, hat]
        intro p2 H2 s2 e2
        have e2 : tpO (H2 p2) = some (p.map fun k : Nat => V.int k) := by
          rw [e2, Nm.cutV_1]
          rfl
        unfold Dx.fits at ft
        have ddi := Dx.deepL_at hdi
        refine ⟨u, p2, w, di, p, rfl, RX.same (s1.trans s2) ru, by unfold Dx.deep at dp; omega, Dx.fitsL_at ft.2 hdi, e2, hpi, fun H3 v3 s3 r3 => ?_⟩
        intro p4 hp4
        have s4 := same_new (o := .tup [v3]) hp4
        have s14 := (s2.trans s3).trans s4
        have ul8 : us.length ≤ 8 := by omega
        refine ⟨_, tpO_same e1 s14, szl (by rw [List.length_take]; omega), fun p5 H5 s5 e5 => ?_⟩
        have s15 := (s1.trans s14).trans s5
        have ha5 := tpO_same ha s15
        simp? only [ha5]
        intro p6 H6 s6 e6
        have e7 : cutV us (some ((i : Int) + 1)) none = us.drop (i + 1) := by
          have := cutV_frN us (i + 1)
          rwa [Int.natCast_add] at this
        rw [e7] at e6
        refine ⟨_, tpO_same e5 s6, _, e6, szl (by rw [List.length_append, List.length_take, List.length_drop, List.length_singleton]; omega), fun p7 H7 s7 e8 => ?_⟩
        refine k H7 _ (s0.trans ((s15.trans s6).trans s7)) ?_
        rw [Nm.put_at hdi]
        refine Nm.rx_of_tpO e8 ?_
        have R7 := RXs.same ((s15.trans s6).trans s7) Ru
        have r7 := RX.same ((s4.trans s5).trans (s6.trans s7)) r3
        have e9 : us.take i ++ [v3] ++ us.drop (i + 1) = us.set i v3 := by
          rw [List.set_eq_take_append_cons_drop, if_pos (by omega), List.append_assoc]
          rfl
        rw [e9]
        exact rxs_set R7 r7
      | _ => simp [Nm.leavesD] at hp
theorem ok_l_put (T : Txt K mg) : ∀ n : Nat, FnOk P w K mg base CX0 (n + 2) T.f_l_put T.fd_l_put ["_law_one", "_law_path", "_law_word_here"] (spPut n)
  | 0 => put_step T 0 (fun _ _ _ _ => False) (T.F_l_put.ok sc_l_put (fun vs H Q E h => h.elim) (fun cdv A outer s H vs Q E hr h => h.elim)) (fun e h => absurd h (by omega))
  | n + 1 => put_step T (n + 1) (spPut n) (ok_l_put T n) (fun e h => by cases h; rfl)
end

/-! a statement with one name exchanged -/
def bentW : List Str := ["k", "x", "zz", "ta", "tb", "q"]
theorem bentW_ok : ∀ w ∈ bentW, w ≠ (Str.ofString "") ∧ PyData.strOk w = true := by decide +kernel
def spBent : Sp := fun vs H Q _ => ∃ (h l a : Addr) (d : Dx), vs = [.ref h, .ref a] ∧ BoxB H h l ∧ RX H (.ref a) d ∧ d.deep ≤ 8 ∧ d.fits 8 ∧ d.noL ∧ 0 < (Nm.leavesD d).length ∧ (∀ p ∈ Nm.leavesD d, p ≠ []) ∧
  ∀ (H' : Hp) (b : Addr) (p : List Nat) (w : Str), p ∈ Nm.leavesD d → w ∈ bentW → RX H' (.ref b) (Nm.putD p d w) → BoxB H' h l → Keep [h, l] H H' → Q (.ref b) H'
section
variable {P : Program} {w : World} {K : PySem.W.Frag} {mg : Str → Option Value} {base : Heap}
theorem ok_l_bent (T : Txt K mg) : FnOk P w K mg base CX0 11 T.f_l_bent T.fd_l_bent ["_law_h", "_law_tree"] spBent := by
  have G_l_next : FnOk P w K mg base CX0 1 T.f_l_next T.fd_l_next ["_law_h", "_law_many"] spNext := ok_l_next T
  have G_l_leaves : FnOk P w K mg base CX0 (8 + 2) T.f_l_leaves T.fd_l_leaves ["_law_one", "_law_path"] (spLeaves 8) := ok_l_leaves T 8
  have G_l_put : FnOk P w K mg base CX0 (8 + 2) T.f_l_put T.fd_l_put ["_law_one", "_law_path", "_law_word_here"] (spPut 8) := ok_l_put T 8
  refine T.F_l_bent.ok sc_l_bent (fun vs H Q E h => ?_) (fun cdv A outer s H vs Q E hr h => ?_)
  · obtain ⟨h, l, a, d, rfl, _⟩ := h
    rfl
  · have hu := hu_of hr
    have hu64 := hu64_of hr
    obtain ⟨h, l, a, d, rfl, B, R, dp, ft, nol, l0, ne, k⟩ := h
    refine ⟨_, (pss_cons (ps_set (i := 2) sc_l_bent.nd rfl (Or.inl rfl) (pe_call G_l_leaves (hr.mono (by decide)) rfl T.mg_l_leaves T.F_l_leaves.kp T.b_l_leaves .nil pass0 (pa_cons (pv 1) (pa_cons (pe_tup pa_nil) pa_nil))))
      (pss_one (ps_ret (pe_call G_l_put (hr.mono (by decide)) rfl T.mg_l_put T.F_l_put.kp T.b_l_put .nil pass0 (pa_cons (pv 1) (pa_cons (pe_ix ix_lst (pv 2) (pe_call G_l_next (hr.mono (by decide)) rfl T.mg_l_next T.F_l_next.kp T.b_l_next .nil pass0 (pa_cons (pv 0) (pa_cons (pe_callB len_lst (by rfl) T.n_len PySem.boot_len (pa_cons (pv 2) pa_nil)) pa_nil))) (fun _ _ => rfl)) (pa_cons (pe_ix ix_lst (pe_lst (pa_cons pe_str (pa_cons pe_str (pa_cons pe_str (pa_cons pe_str (pa_cons pe_str (pa_cons pe_str pa_nil))))))) (pe_call G_l_next (hr.mono (by decide)) rfl T.mg_l_next T.F_l_next.kp T.b_l_next .nil pass0 (pa_cons (pv 0) (pa_cons pe_int pa_nil))) (fun _ _ => rfl)) pa_nil))))))), ?_⟩
    rw [show L2.start N_l_bent [V.ref h, V.ref a] = [some (V.ref h), some (V.ref a), none] from rfl]
    simp? only []
    intro q hq
    have sq := same_new (o := .tup []) hq
    refine ⟨.ref a, q, d, [], rfl, RX.same sq R, dp, ft, nol, Nat.le_refl 8, by rw [upd_same]; rfl, by decide, fun H1 L xs hL s1 eL pt => ?_⟩
    have s01 := sq.trans s1
    have B1 := B.same s01
    have hx : xs.length = (Nm.leavesD d).length := by rw [pt.1, List.length_map]
    have lb := lv_len 8 d dp ft
    have lb2 : lvN 8 ≤ 16777216 := by decide
    simp? only [eL]
    refine ⟨h, l, xs.length, rfl, B1, by omega, by omega, fun r H2 r0 r1 B2 k2 => ?_⟩
    have nL := (B.same sq).free hL
    have eL2 := k2 _ _ nL eL
    have hr : r.toNat < xs.length := by omega
    obtain ⟨x, hx2⟩ : ∃ x, xs[r.toNat]? = some x := ⟨_, List.getElem?_eq_getElem hr⟩
    obtain ⟨p, hp⟩ : ∃ p, (Nm.leavesD d)[r.toNat]? = some p := ⟨_, List.getElem?_eq_getElem (by omega)⟩
    obtain ⟨pa, rfl, tp⟩ := pt.2 r.toNat x p hx2 (by rw [List.getElem?_map, hp]; rfl)
    have hat : atI xs r = some (.ref pa) := by
      have := atI_nat hx2
      rwa [show ((r.toNat : Nat) : Int) = r by omega] at this
    have tp2 := tpO_keep tp k2 (tpO_notin B1 tp)
    have R2 := (RX.same s01 R).std (B1.std k2) nol
    have kk := (Keep.ofSame s01).trans k2
    have mp : p ∈ Nm.leavesD d := List.mem_of_getElem? hp
    simp? only [eL2, hat]
    refine fun q3 hq3 => ?_
    have s3 := same_new (o := .lst (bentW.map V.str)) hq3
    have e3 : upd H2 q3 (.lst (bentW.map V.str)) q3 = some (.lst (bentW.map V.str)) := upd_same
    have n3 := B2.free hq3
    change spNext [V.ref h, V.int 6] (upd H2 q3 (.lst (bentW.map V.str))) _ _
    refine ⟨h, l, 6, rfl, B2.same s3, by decide, by decide, fun r2 H4 t0 t1 B4 k4 => ?_⟩
    have e4 := k4 _ _ n3 e3
    obtain ⟨wd, hwd⟩ : ∃ wd, bentW[r2.toNat]? = some wd := ⟨_, List.getElem?_eq_getElem (show r2.toNat < 6 by omega)⟩
    have hat2 : atI (bentW.map V.str) r2 = some (.str wd) := by
      have := atI_nat (show (bentW.map V.str)[r2.toNat]? = some (.str wd) by rw [List.getElem?_map, hwd]; rfl)
      rwa [show ((r2.toNat : Nat) : Int) = r2 by omega] at this
    have R4 := (RX.same s3 R2).std ((B2.same s3).std k4) nol
    have tp3 := tpO_same tp2 s3
    have tp4 := tpO_keep tp3 k4 (tpO_notin (B2.same s3) tp3)
    refine ⟨_, r2, rfl, by rw [e4]; rfl, _, hat2, .ref a, pa, wd, d, p, rfl, R4, dp, ft, by simpa using tp4, mp, fun H5 v5 s5 r5 => ?_⟩
    obtain ⟨i, q, di, rfl, _, hdi, _⟩ : ∃ i q di, p = i :: q ∧ True ∧ (∃ ds, d = .tup ds ∧ ds[i]? = some di) ∧ True := by
      cases d with
      | tup ds =>
        obtain ⟨i, q, di, e, _, hdi, _⟩ := Nm.leaves_tup mp
        exact ⟨i, q, di, e, trivial, ⟨ds, rfl, hdi⟩, trivial⟩
      | str s =>
        obtain rfl := Nm.leaves_str mp
        exact absurd rfl (ne _ mp)
      | _ => simp [Nm.leavesD] at mp
    obtain ⟨ds, rfl, hdi⟩ := hdi
    have r6 := r5
    rw [Nm.put_at hdi] at r6
    obtain ⟨b, _, rfl, _, _⟩ := Nm.rx_tpO r6
    exact k H5 b _ wd mp (List.mem_of_getElem? hwd) r5 (B4.same s5) ((kk.trans (Keep.ofSame s3)).trans (k4.trans (Keep.ofSame s5)))
end

/-! the word that is due -/
def spDue : Sp := fun vs H Q _ => ∃ (a d q : Addr) (es : List Sh) (ps : List Fd) (st : Nm.Sm), vs = [.ref a, .ref d, .ref q] ∧ SH H d es ∧ RX H (.ref a) st.dx ∧ Nm.SmW st ∧ (∀ x, st ≠ .alone x) ∧ FxAt H q ps ∧ (∀ t f, st = .index t f → PyData.strOk t = true ∧ PyData.strOk f = true) ∧
  ∀ H', Same H H' → Q (.str (Nm.due (shp es) (ixs ps) st)) H'
theorem at4 {α : Type} {a b c d e : α} {r : List α} : atI (a :: b :: c :: d :: e :: r) 4 = some e := atI_nat (show (a :: b :: c :: d :: e :: r)[4]? = some e from rfl)
theorem at5 {α : Type} {a b c d e f : α} {r : List α} : atI (a :: b :: c :: d :: e :: f :: r) 5 = some f := atI_nat (show (a :: b :: c :: d :: e :: f :: r)[5]? = some f from rfl)
section
variable {K : PySem.W.Frag}
theorem due_words {a d q ta p : Addr} {wd t1 : Str} {x5 x6 x9 x10 x11 x12 x13 : Option V} {H6 : Hp} {es : List Sh} {ts : List Str} {vs : List V} {cs : List (Option Nm.Tr)} {Qd : VK} (S : SH H6 d es) (eta : tpO (H6 ta) = some (ts.map V.str)) (tl : ts.length ≤ 8) (tin : ∀ t ∈ ts, t ∈ es.map (·.1))
    (ep : H6 p = some (.lst vs)) (rv : RXs H6 vs (cs.map Nm.dxO)) (cl : cs.length ≤ 20) (ok : ∀ c ∈ cs, (Nm.dxO c).deep ≤ 7 ∧ (Nm.dxO c).fits 8 ∧ ∀ t, c = some t → t.wk)
    (k : ∀ L H7, H6 L = none → Same H6 H7 → H7 L = some (.lst ((cs.map (Nm.firstO (shp es) ts)).map V.str)) → Qd (.ref L) H7) :
    tLc (iList K (tVar 8)) (gName 14) tYes (tCall (spFirst 7) [] E0 (tCons (tVar 14) (tCons (tVar 1) (tCons (tVar 7) tNil)))) [14]
      [some (V.ref a), some (V.ref d), some (V.ref q), some (V.str wd), some (V.str t1), x5, x6, some (V.ref ta), some (V.ref p), x9, x10, x11, x12, x13, none, none] H6 Qd := by
  have vl : vs.length = cs.length := by simpa using rv.len
  simp? only [tLc_eq, iList, ep]
  refine ⟨⟨_, .inl (.inl ep)⟩, ?_⟩
  refine lc_all (walk_list (xs := vs)) cs (fun o y _ => y = .str (Nm.firstO (shp es) ts o)) (by omega) (by omega) (fun H' s => .inl (.inl (s _ _ ep))) (fun i H x H' h => by rw [h.1]; exact Same.refl _) (fun _ _ _ _ _ h _ _ => h) (fun j c x H7 H8 Q2 he s7 hy g1 => ?_) fun D H7 zs hD f1 s7 f2 f3 => ?_
  · obtain ⟨rfl, hx⟩ := hy
    obtain ⟨u, hu1, ru⟩ := RXs.at rv (show (cs.map Nm.dxO)[j]? = some (Nm.dxO c) by rw [List.getElem?_map, he]; rfl)
    rw [hx] at hu1
    cases hu1
    obtain ⟨o1, o2, o3⟩ := ok c (List.mem_of_getElem? he)
    simp? only [gName]
    exact ⟨d, ta, x, es, ts, c, rfl, S.same s7, tpO_same eta s7, tl, tin, RX.same s7 ru, o1, o2, o3, fun H9 s9 => g1 _ _ s9 rfl⟩
  · have hv := zs_vals (f := fun c => V.str (Nm.firstO (shp es) ts c)) f1 f3
    refine k D H7 hD s7 ?_
    rw [f2, hv, List.map_map]
    rfl
theorem rxs_app {H : Hp} : ∀ {us ws : List V} {ds es : List Dx}, RXs H us ds → RXs H ws es → RXs H (us ++ ws) (ds ++ es)
  | [], ws, [], es, _, h => h
  | _ :: us, ws, _ :: ds, es, h, g => by
    simp only [RXs] at h
    exact rxs_cons h.1 (rxs_app h.2 g)
  | [], _, _ :: _, _, h, _ => by simp only [RXs] at h
  | _ :: _, _, [], _, h, _ => by simp only [RXs] at h
theorem due_fin {a d q ta L : Addr} {wd t1 : Str} {x5 x6 x8 x10 x11 x12 x13 : Option V} {H6 : Hp} {ws : List Str} {Q : VK} (eL : H6 L = some (.lst (ws.map V.str))) (wl : ws.length ≤ 40) (k : ∀ H7, Same H6 H7 → Q (.str (Nm.firstW ws)) H7) :
    tLc (iList K (tVar 9)) (gName 15) (tTest (tOp rNe (tVar 15) (tC (V.str (Str.ofString ""))))) (tVar 15) [15]
      [some (V.ref a), some (V.ref d), some (V.ref q), some (V.str wd), some (V.str t1), x5, x6, some (V.ref ta), x8, some (V.ref L), x10, x11, x12, x13, none, none] H6 fun x H1 =>
      ∀ (p : Addr), H1 p = none → ∃ l, x = V.ref l ∧ ∃ x, upd H1 p (HO.lst [V.str (Str.ofString "")]) l = some (HO.lst x) ∧ x.length + 1 ≤ sizeLine ∧
        ∀ (p_1 : Addr), upd H1 p (HO.lst [V.str (Str.ofString "")]) p_1 = none → ∃ x_2, atI (x ++ [V.str (Str.ofString "")]) 0 = some x_2 ∧ Q x_2 (upd (upd H1 p (HO.lst [V.str (Str.ofString "")])) p_1 (HO.lst (x ++ [V.str (Str.ofString "")]))) := by
  simp? only [tLc_eq, iList, eL]
  refine ⟨⟨_, .inl (.inl eL)⟩, ?_⟩
  refine lc_ents (walk_list (xs := ws.map V.str)) ws (fun o => !decide (o = Str.ofString "")) (fun o y _ => y = .str o) (by rw [List.length_map]) (by omega) (fun H' s => .inl (.inl (s _ _ eL))) (fun i H x H' h => by rw [h.1]; exact Same.refl _) (fun _ _ _ _ _ h _ _ => h) (fun j o x H7 H8 Q2 N he s7 hy g1 g2 => ?_) fun D2 H7 zs2 hD2 f1 s7 f2 f3 => ?_
  · obtain ⟨rfl, hx⟩ := hy
    obtain ⟨o2, ho2, rfl⟩ := str_at hx
    rw [he] at ho2
    cases ho2
    simp? only [gName]
    by_cases c1 : o = Str.ofString ""
    · rw [if_neg (by simp [c1])]
      exact g2 (by simp [c1]) _ (Same.refl _)
    · rw [if_pos (by simp [c1])]
      exact g1 (by simp [c1]) _ _ (Same.refl _) rfl
  · rw [zs_vals (f := V.str) f1 f3] at f2
    intro p hp
    have sp := same_new (o := .lst [V.str (Str.ofString "")]) hp
    have hlen : (ws.filter fun o => !decide (o = Str.ofString "")).length ≤ 40 := Nat.le_trans (List.length_filter_le _ _) wl
    exact ⟨D2, rfl, _, sp _ _ f2, szl (by rw [List.length_map]; omega), fun p2 hp2 => ⟨_, first_at _, k _ (s7.trans (sp.trans (same_new hp2)))⟩⟩
end
section
variable {P : Program} {w : World} {K : PySem.W.Frag} {mg : Str → Option Value} {base : Heap}
theorem ok_l_due (T : Txt K mg) : FnOk P w K mg base CX0 11 T.f_l_due T.fd_l_due ["_law_tree", "_law_shapes_here", "_law_indexes"] spDue := by
  have G_l_first : FnOk P w K mg base CX0 (7 + 2) T.f_l_first T.fd_l_first ["_law_tree", "_law_shapes_here", "_law_tables"] (spFirst 7) := ok_l_first T 7
  refine T.F_l_due.ok sc_l_due (fun vs H Q E h => ?_) (fun cdv A outer s H vs Q E hr h => ?_)
  · obtain ⟨a, d, q, es, ps, st, rfl, _⟩ := h
    rfl
  · have hu := hu_of hr
    have hu64 := hu64_of hr
    have hu65 := hu65_of hr
    obtain ⟨a, d, q, es, ps, st, rfl, S, R, ok, nal, F, six, k⟩ := h
    refine ⟨_, (pss_cons (ps_par (i := 3) (j := 4) rfl sc_l_due.nd rfl rfl (by decide) rfl rfl (pa_cons (pe_ix ix_tp (pv 0) pe_int (fun _ _ => rfl)) (pa_cons (pe_ix ix_tp (pv 0) pe_int (fun _ _ => rfl)) pa_nil)) (by rfl))
      (pss_cons (ps_if (pt_cmpR op_eq (pv 3) pe_str (nomark _)) (pss_cons (ps_setLc (i := 6) (own := [("_law_k", 5)]) (g := gName 5) rfl sc_l_due.nd rfl rfl (sw_true rfl rfl rfl (by decide +kernel)) (pi_range1 rfl T.n_range (pa_cons (pe_callB len_tp (by rfl) T.n_len PySem.boot_len (pa_cons (pe_ix ix_tp (pv 0) pe_int (fun _ _ => rfl)) pa_nil)) pa_nil)) (blkOk_by (N := N_l_due) (sc := defScope s_l_due) (by decide +kernel)) (fun _ _ _ _ _ => (pg_name (i := 5) sc_l_due.nd rfl (Or.inl rfl))) (fun _ _ _ _ _ => pts_one (pt_cmpR op_inS (pe_ix ix_tp (pe_ix ix_tp (pv 0) pe_int (fun _ _ => rfl)) (pv 5) (fun _ _ => rfl)) (pe_slice sl_tp (pe_ix ix_tp (pv 0) pe_int (fun _ _ => rfl)) po_none (po_some (pv 5))) (by rfl))) (fun _ _ _ _ _ => (pe_ix ix_tp (pe_ix ix_tp (pv 0) pe_int (fun _ _ => rfl)) (pv 5) (fun _ _ => rfl))))
        (pss_one (ps_ret (pe_ifExp (pt_cmp (pc_din hu (pv 4) (pv 1)) (by rfl)) (pv 4) (pe_ix ix_lst (pe_op op_cat (pv 6) (pe_lst (pa_cons pe_str pa_nil))) pe_int (fun _ _ => rfl)))))) pss_nil)
      (Evl.pss_cut (ps_set (i := 7) sc_l_due.nd rfl (Or.inr rfl) (pe_ifExp (pt_cmpR op_eq (pv 3) pe_str (nomark _)) (pe_ix ix_tp (pv 0) pe_int (fun _ _ => rfl)) (pe_tup (pa_cons (pv 4) pa_nil))))
      (Evl.pss_cut (ps_for PassesOwn.never rfl (pi_range1 rfl T.n_range (pa_cons (pe_callB len_tp (by rfl) T.n_len PySem.boot_len (pa_cons (pv 7) pa_nil)) pa_nil)) (pg_name (i := 5) sc_l_due.nd rfl (Or.inl rfl)) (pss_one (ps_if (PW.pt (pw_or (pt_cmp (pc_dnotin hu (pe_ix ix_tp (pv 7) (pv 5) (fun _ _ => rfl)) (pv 1)) (by rfl)) (pw_or1 (pt_cmpR op_inS (pe_ix ix_tp (pv 7) (pv 5) (fun _ _ => rfl)) (pe_slice sl_tp (pv 7) po_none (po_some (pv 5))) (by rfl))))) (pss_one (ps_ret (pe_ix ix_tp (pv 7) (pv 5) (fun _ _ => rfl)))) pss_nil)))
      (pss_cons (ps_if (pt_cmpR op_eq (pv 3) pe_str (nomark _)) (pss_one (ps_ret (pe_op op_mulS pe_str (pe_callTy int_bl (by rfl) T.n_int (by decide +kernel) (pa_cons (pe_cmpR op_ne (pe_callB len_tp (by rfl) T.n_len PySem.boot_len (pa_cons (pe_ix ix_tp (pv 0) pe_int (fun _ _ => rfl)) pa_nil)) (pe_callB len_tp (by rfl) T.n_len PySem.boot_len (pa_cons (pe_getI hu (pv 1) (pv 4) (fun _ _ => rfl)) pa_nil)) (nomark _)) pa_nil))))) pss_nil)
      (pss_cons (ps_if (pt_cmpR op_eq (pv 3) pe_str (nomark _)) (pss_one (ps_ret (pe_op op_mulS (pe_ix ix_tp (pv 0) pe_int (fun _ _ => rfl)) (pe_callTy int_bl (by rfl) T.n_int (by decide +kernel) (pa_cons (pe_or (pe_cmpR op_notInS (pe_ix ix_tp (pv 0) pe_int (fun _ _ => rfl)) (pe_slice sl_tp (pe_getI hu (pv 1) (pv 4) (fun _ _ => rfl)) (po_some pe_int) po_none) (by rfl)) (pe_one (pe_cmpR (op_inX hu65) (pe_tup (pa_cons (pv 4) (pa_cons (pe_ix ix_tp (pv 0) pe_int (fun _ _ => rfl)) pa_nil))) (pv 2) (by rfl)))) pa_nil))))) pss_nil)
      (pss_cons (ps_set (i := 8) sc_l_due.nd rfl (Or.inl rfl) (pe_ifExp (pt_cmpR op_eq (pv 3) pe_str (nomark _)) (pe_lst (pa_cons (pe_ix ix_tp (pv 0) pe_int (fun _ _ => rfl)) pa_nil)) (pe_lst pa_nil)))
      (pss_cons (ps_if (pt_cmpR op_eq (pv 3) pe_str (nomark _)) (pss_one (ps_set (i := 8) sc_l_due.nd rfl (Or.inl rfl) (pe_op op_cat (pe_op op_cat (pe_callTy list_tp (by rfl) T.n_list (by decide +kernel) (pa_cons (pe_ix ix_tp (pv 0) pe_int (fun _ _ => rfl)) pa_nil)) (pe_lst (pa_cons (pe_ix ix_tp (pv 0) pe_int (fun _ _ => rfl)) pa_nil))) (pe_callTy list_tp (by rfl) T.n_list (by decide +kernel) (pa_cons (pe_ix ix_tp (pv 0) pe_int (fun _ _ => rfl)) pa_nil))))) pss_nil)
      (pss_cons (ps_setLc (i := 9) (own := [("_law_part", 14)]) (g := gName 14) (tt := tYes) rfl sc_l_due.nd rfl rfl (sw_true rfl rfl rfl (by decide +kernel)) (pi_listK K rfl (pv 8)) (blkOk_by (N := N_l_due) (sc := defScope s_l_due) (by decide +kernel)) (fun _ _ _ _ _ => (pg_name (i := 14) sc_l_due.nd rfl (Or.inl rfl))) (fun _ _ _ _ _ => pts_nil) (fun _ _ _ _ _ => (pe_call G_l_first (hr.mono (by decide)) rfl T.mg_l_first T.F_l_first.kp T.b_l_first .nil pass0 (pa_cons (pv 14) (pa_cons (pv 1) (pa_cons (pv 7) pa_nil))))))
      (pss_cons (ps_if (pt_cmpR op_eq (pv 3) pe_str (nomark _)) (Evl.pss_cut (ps_for PassesOwn.never rfl (pi_range1 rfl T.n_range (pa_cons (pe_callB len_tp (by rfl) T.n_len PySem.boot_len (pa_cons (pe_ix ix_tp (pv 0) pe_int (fun _ _ => rfl)) pa_nil)) pa_nil)) (pg_name (i := 5) sc_l_due.nd rfl (Or.inl rfl)) (pss_cons (ps_asg (pe_ix ix_tp (pe_ix ix_tp (pv 0) pe_int (fun _ _ => rfl)) (pv 5) (fun _ _ => rfl)) (pg_tupH (n := 2) rfl (pgs_cons (pg_name (i := 10) sc_l_due.nd rfl (Or.inl rfl)) (pgs_cons (pg_name (i := 11) sc_l_due.nd rfl (Or.inl rfl)) pgs_nil))))
          (pss_cons (ps_setLc (i := 12) (own := [("_law_one", 15)]) (g := gName 15) (tt := tYes) rfl sc_l_due.nd rfl rfl (sw_true rfl rfl rfl (by decide +kernel)) (pi_tupK K rfl (pe_slice sl_tp (pe_ix ix_tp (pv 0) pe_int (fun _ _ => rfl)) po_none (po_some (pv 5)))) (blkOk_by (N := N_l_due) (sc := defScope s_l_due) (by decide +kernel)) (fun _ _ _ _ _ => (pg_name (i := 15) sc_l_due.nd rfl (Or.inl rfl))) (fun _ _ _ _ _ => pts_nil) (fun _ _ _ _ _ => (pe_ix ix_tp (pv 15) pe_int (fun _ _ => rfl))))
          (pss_cons (ps_set (i := 13) sc_l_due.nd rfl (Or.inl rfl) (pe_or (pe_cmpR op_notInS (pv 10) (pe_slice sl_tp (pe_getI hu (pv 1) (pv 4) (fun _ _ => rfl)) (po_some pe_int) po_none) (by rfl)) (pe_one (pe_cmpR op_inS (pv 10) (pv 12) (by rfl)))))
          (pss_one (ps_set (i := 9) sc_l_due.nd rfl (Or.inl rfl) (pe_op op_cat (pv 9) (pe_lst (pa_cons (pe_op op_mulS (pv 10) (pe_callTy int_bl (by rfl) T.n_int (by decide +kernel) (pa_cons (pv 13) pa_nil))) (pa_cons (pe_call G_l_first (hr.mono (by decide)) rfl T.mg_l_first T.F_l_first.kp T.b_l_first .nil pass0 (pa_cons (pv 11) (pa_cons (pv 1) (pa_cons (pv 7) pa_nil)))) pa_nil))))))))))
        (pss_one (ps_expr (pe_bm PySem.F.plainAttrs_list PySem.F.slot_list_append PySem.F.type_list_append mt_append (pv 9) (pa_cons (pe_call G_l_first (hr.mono (by decide)) rfl T.mg_l_first T.F_l_first.kp T.b_l_first .nil pass0 (pa_cons (pe_ix ix_tp (pv 0) pe_int (fun _ _ => rfl)) (pa_cons (pv 1) (pa_cons (pv 7) pa_nil)))) pa_nil))))) pss_nil)
      (pss_one (ps_ret (pe_ix ix_lst (pe_op op_cat (pe_lc (own := [("_law_one", 15)]) (g := gName 15) rfl sc_l_due.nd (pi_listK K rfl (pv 9)) (blkOk_by (N := N_l_due) (sc := defScope s_l_due) (by decide +kernel)) (fun _ _ _ _ _ => (pg_name (i := 15) sc_l_due.nd rfl (Or.inl rfl))) (fun _ _ _ _ _ => pts_one (pt_cmpR op_ne (pv 15) pe_str (nomark _))) (fun _ _ _ _ _ => (pv 15))) (pe_lst (pa_cons pe_str pa_nil))) pe_int (fun _ _ => rfl)))))))))))))), ?_⟩
    rw [show L2.start N_l_due [V.ref a, V.ref d, V.ref q] = [some (V.ref a), some (V.ref d), some (V.ref q), none, none, none, none, none, none, none, none, none, none, none, none, none] from rfl]
    have hd := S.at_
    by_cases ntab : ∃ t fs, st = .table t fs
    · obtain ⟨t, fs, rfl⟩ := ntab
      obtain ⟨b, us, eb, hb, r⟩ := Nm.rx_tpO R
      cases eb
      obtain ⟨u0, us, rfl, h0, r⟩ := Nm.rxs_un r
      obtain ⟨u1, us, rfl, h1, r⟩ := Nm.rxs_un r
      obtain ⟨u2, us, rfl, h2, r⟩ := Nm.rxs_un r
      obtain rfl := Nm.rxs_no r
      obtain rfl := Nm.rx_s h0
      obtain rfl := Nm.rx_s h1
      obtain ⟨c, ws, rfl, hc, rw0⟩ := Nm.rx_tpO h2
      have hws : ws = fs.map V.str := Nm.rxs_strs rw0
      subst hws
      have ft := ok.fits
      simp only [Nm.Sm.dx, Nm.dxs, Dx.fits, Dx.fitsL, List.length_map] at ft
      have fl : fs.length ≤ 8 := ft.2.2.2.1.1
      simp? only [hb, hc, tLc_eq, iRng1]
      refine ⟨by omega, by omega, ?_⟩
      rw [Int.toNat_natCast]
      have gd : ∀ k, k < fs.length → fs[k]? = some (fs.getD k Str.empty) := fun k hk => by rw [List.getD_eq_getElem?_getD, List.getElem?_eq_getElem hk, Option.getD_some]
      refine lc_ents walk_range (List.range fs.length) (fun k => decide (fs.getD k Str.empty ∈ [] ++ fs.take k)) (fun k y _ => y = .str (fs.getD k Str.empty)) (by rw [List.length_range]) (by rw [List.length_range]; omega) (fun _ _ => trivial) (fun i H x H' h => by rw [h.1]; exact Same.refl _) (fun _ _ _ _ _ h _ _ => h) (fun j k0 v H6 H7 Q2 N he s6 hy g1 g2 => ?_) fun D H6 zs hD f1 s6 f2 f3 => ?_
      · obtain ⟨rfl, rfl⟩ := hy
        have hj : j < fs.length := by
          have z := (List.getElem?_eq_some_iff.mp he).1
          rw [List.length_range] at z
          exact z
        obtain rfl : j = k0 := by
          rw [List.getElem?_range hj] at he
          exact Option.some.inj he
        have hb6 := tpO_same hb s6
        have hc6 := tpO_same hc s6
        have hat : atI (fs.map V.str) (0 + (j : Int)) = some (.str (fs.getD j Str.empty)) := by
          rw [Int.zero_add]
          exact atI_nat (by rw [List.getElem?_map, gd j hj]; rfl)
        simp? only [gName, hb6, hc6, hat]
        intro p1 H8 s8 e8
        rw [Int.zero_add, cutV_to_nat, ← List.map_take] at e8
        refine ⟨fs.take j, .inr e8, ?_⟩
        rw [hasS_iff]
        rw [List.nil_append] at g1 g2
        have hb8 := tpO_same hb6 s8
        have hc8 := tpO_same hc6 s8
        by_cases c1 : fs.getD j Str.empty ∈ fs.take j
        · rw [if_pos (decide_eq_true c1)]
          simp? only [hb8, hc8, hat]
          exact g1 (decide_eq_true c1) _ _ s8 rfl
        · rw [if_neg (by simpa using c1)]
          exact g2 (decide_eq_false c1) _ s8
      · have hv := zs_vals (f := fun k => V.str (fs.getD k Str.empty)) f1 f3
        have tw := Nm.twice_at fs []
        have hd6 := (S.same s6).at_
        have hdue : Nm.due (shp es) (ixs ps) (.table t fs) = if t ∈ es.map (·.1) then t else (Nm.twice [] fs).getD (Str.ofString "") := by
          simp only [Nm.due]
          rw [shp_tabs]
        rw [hdue] at k
        simp? only [tDIn, hd6]
        refine ⟨_, .inl ⟨_, Sum.inr t, .inl hd6, rfl, rfl⟩, ?_⟩
        by_cases c0 : t ∈ es.map (·.1)
        · obtain ⟨e, he, _, hev⟩ := S.look c0
          rw [hev, if_pos (by simp)]
          rw [if_pos c0] at k
          exact k H6 s6
        · rw [valV_notin c0, if_neg (by simp)]
          rw [if_neg c0] at k
          intro p1 hp1
          have s7 := same_new (o := .lst [V.str (Str.ofString "")]) hp1
          refine ⟨_, s7 _ _ f2, ?_, fun p2 hp2 => ⟨.str ((Nm.twice [] fs).getD (Str.ofString "")), ?_, k _ ((s6.trans s7).trans (same_new hp2))⟩⟩
          · rw [hv, List.length_map]
            have := List.length_filter_le (fun k => decide (fs.getD k Str.empty ∈ [] ++ fs.take k)) (List.range fs.length)
            rw [List.length_range] at this
            exact szl (by omega)
          · rw [hv, tw]
            cases (List.range fs.length).filter fun k => decide (fs.getD k Str.empty ∈ [] ++ fs.take k) with
            | nil => rfl
            | cons x r => exact at0
    · obtain ⟨ds, e2⟩ := Nm.sm_two st nal
      have R0 := R
      rw [e2] at R
      obtain ⟨b, us, eb, hb, r⟩ := Nm.rx_tpO R
      cases eb
      obtain ⟨u0, us, rfl, h0, r⟩ := Nm.rxs_un r
      obtain ⟨u1, us, rfl, h1, r⟩ := Nm.rxs_un r
      obtain rfl := Nm.rx_s h0
      obtain rfl := Nm.rx_s h1
      have nt : decide (st.wd = Str.ofString "table") = false := by
        cases st with
        | alone x => exact absurd rfl (nal x)
        | table t fs => exact absurd ⟨t, fs, rfl⟩ ntab
        | index t f => exact e_index_table
        | put t ns => exact e_put_table
        | set t ss c => exact e_set_table
        | strike t c => exact e_strike_table
        | ask how tm ts c bys first => exact e_ask_table
      simp? only [hb, nt]
      refine ⟨fun σ' H2 => ∃ (ta : Addr) (x5 x6 : Option V), σ' = [some (.ref a), some (.ref d), some (.ref q), some (.str st.wd), some (.str st.t1), x5, x6, some (.ref ta), none, none, none, none, none, none, none, none] ∧ Same H H2 ∧ tpO (H2 ta) = some (st.ts.map V.str), ?_, ?_⟩
      · cases st with
        | alone x => exact absurd rfl (nal x)
        | table t fs => exact absurd ⟨t, fs, rfl⟩ ntab
        | ask how tm ts c bys first =>
          obtain ⟨b2, us2, eb, hb2, r2⟩ := Nm.rx_tpO R0
          cases eb
          obtain ⟨u0, us2, rfl, _, r2⟩ := Nm.rxs_un r2
          obtain ⟨u1, us2, rfl, _, r2⟩ := Nm.rxs_un r2
          obtain ⟨u2, us2, rfl, h2, r2⟩ := Nm.rxs_un r2
          obtain ⟨u3, us2, rfl, h3, r2⟩ := Nm.rxs_un r2
          obtain ⟨ta, ws, rfl, hta, rw0⟩ := Nm.rx_tpO h3
          obtain rfl := Nm.rxs_strs rw0
          have e1 : decide (Nm.Sm.wd (.ask how tm ts c bys first) = Str.ofString "ask") = true := e_ask_ask
          simp? only [hb2, e1]
          exact ⟨Same.refl H, hta⟩
        | index t f =>
          have e1 : decide (Nm.Sm.wd (.index t f) = Str.ofString "ask") = false := e_index_ask
          simp? only [e1]
          exact fun p hp => ⟨same_new hp, rfl⟩
        | put t f =>
          have e1 : decide (Nm.Sm.wd (.put t f) = Str.ofString "ask") = false := e_put_ask
          simp? only [e1]
          exact fun p hp => ⟨same_new hp, rfl⟩
        | set t f c =>
          have e1 : decide (Nm.Sm.wd (.set t f c) = Str.ofString "ask") = false := e_set_ask
          simp? only [e1]
          exact fun p hp => ⟨same_new hp, rfl⟩
        | strike t f =>
          have e1 : decide (Nm.Sm.wd (.strike t f) = Str.ofString "ask") = false := e_strike_ask
          simp? only [e1]
          exact fun p hp => ⟨same_new hp, rfl⟩
      rintro σ' H2 ⟨ta, x5, x6, rfl, s2, eta⟩
      have tl : st.ts.length ≤ 8 := by
        cases st with
        | ask how tm ts c bys first =>
          have ft := ok.fits
          simp only [Nm.Sm.dx, Nm.dxs, Dx.fits, Dx.fitsL, List.length_map] at ft
          exact ft.2.2.2.2.1.1
        | _ => simp [Nm.Sm.ts]
      have hd2 := (S.same s2).at_
      refine ⟨fun σ' H3 => ∃ (x5 : Option V), σ' = [some (.ref a), some (.ref d), some (.ref q), some (.str st.wd), some (.str st.t1), x5, x6, some (.ref ta), none, none, none, none, none, none, none, none] ∧ Same H2 H3 ∧ Nm.badTab (shp es) [] st.ts = none, ?_, ?_⟩
      · simp? only [tFor_eq, iRng1, eta]
        refine ⟨by omega, by omega, ?_⟩
        rw [Int.toNat_natCast]
        refine forB_it (for_it walk_range (fun i σ H3 => ∃ (x5 : Option V), σ = [some (.ref a), some (.ref d), some (.ref q), some (.str st.wd), some (.str st.t1), x5, x6, some (.ref ta), none, none, none, none, none, none, none, none] ∧ Same H2 H3 ∧ Nm.badTab (shp es) [] st.ts = Nm.badTab (shp es) (st.ts.take i) (st.ts.drop i))
          ⟨x5, rfl, Same.refl H2, rfl⟩ (fun _ _ _ _ _ => trivial) ?_ ?_)
        · rintro i y σ H3 H4 hi ⟨x5, rfl, s3, eb⟩ ⟨rfl, rfl⟩
          have hi2 : st.ts[i]? = some st.ts[i] := List.getElem?_eq_getElem hi
          have hat : atI (st.ts.map V.str) (0 + (i : Int)) = some (.str st.ts[i]) := by
            rw [Int.zero_add]
            exact atI_nat (by rw [List.getElem?_map, hi2]; rfl)
          have hd3 := ((S.same s2).same s3).at_
          have eta3 := tpO_same eta s3
          have dec : Nm.badTab (shp es) [] st.ts = if st.ts[i] ∉ es.map (·.1) ∨ st.ts[i] ∈ st.ts.take i then some st.ts[i] else Nm.badTab (shp es) (st.ts.take (i + 1)) (st.ts.drop (i + 1)) := by
            rw [eb, List.drop_eq_getElem_cons hi, ← shp_tabs, List.take_add_one, hi2]
            rfl
          simp? only [gName, eta3, hat, tDNotIn, hd3]
          refine ⟨_, .inl ⟨_, Sum.inr st.ts[i], .inl hd3, rfl, rfl⟩, ?_⟩
          by_cases c0 : st.ts[i] ∈ es.map (·.1)
          · obtain ⟨e, he, _, hev⟩ := S.look c0
            rw [hev, if_neg (by simp)]
            intro p1 H5 s5 e5
            rw [Int.zero_add, cutV_to_nat, ← List.map_take] at e5
            refine ⟨st.ts.take i, .inr e5, ?_⟩
            rw [hasS_iff]
            have eta5 := tpO_same eta3 s5
            by_cases c1 : st.ts[i] ∈ st.ts.take i
            · rw [if_pos (decide_eq_true c1)]
              simp? only [eta5, hat]
              have := k H5 ((s2.trans s3).trans s5)
              rw [Nm.due_bad nal (fun t fs e => ntab ⟨t, fs, e⟩) (by rw [dec, if_pos (.inr c1)])] at this
              exact this
            · rw [if_neg (by simpa using c1)]
              exact ⟨s3.trans s5, by rw [dec, if_neg (fun z => z.elim (fun y => y c0) c1)]⟩
          · rw [valV_notin c0, if_pos (by simp)]
            have := k H4 (s2.trans s3)
            rw [Nm.due_bad nal (fun t fs e => ntab ⟨t, fs, e⟩) (by rw [dec, if_pos (.inl c0)])] at this
            exact this
        · rintro σ H3 ⟨x5, rfl, s3, eb⟩
          rw [List.drop_length] at eb
          exact ⟨⟨x5, rfl⟩, s3, eb⟩
      rintro σ' H3 ⟨x5, rfl, s3, bt⟩
      have s23 := s2.trans s3
      have eta3 := tpO_same eta s3
      have S3 := S.same s23
      have hd3 := S3.at_
      have hb3 := tpO_same hb s23
      have tin : ∀ t ∈ st.ts, t ∈ es.map (·.1) := fun t ht => by
        have := Nm.badTab_none bt t ht
        rwa [shp_tabs] at this
      cases st with
      | alone x => exact absurd rfl (nal x)
      | table t fs => exact absurd ⟨t, fs, rfl⟩ ntab
      | put t ns =>
        have w1 : decide (Nm.Sm.wd (.put t ns) = Str.ofString "put") = true := e_put_put
        simp? only [w1]
        obtain ⟨b2, us2, eb, hb2, r2⟩ := Nm.rx_tpO R0
        cases eb
        obtain ⟨u0, us2, rfl, _, r2⟩ := Nm.rxs_un r2
        obtain ⟨u1, us2, rfl, _, r2⟩ := Nm.rxs_un r2
        obtain ⟨u2, us2, rfl, h2, r2⟩ := Nm.rxs_un r2
        obtain ⟨c, ws, rfl, hc, rw0⟩ := Nm.rx_tpO h2
        have wl : ws.length = ns.length := by simpa using rw0.len
        have hb4 := tpO_same hb2 s23
        have hc4 := tpO_same hc s23
        obtain ⟨e, he, et, hev⟩ := S.look (tin t (by simp [Nm.Sm.ts]))
        have htp := S3.tups e he
        have hev : valV (es.map fun e => ((Sum.inr e.1 : Key), V.ref e.2.1)) (Sum.inr (Nm.Sm.put t ns).t1) = some (.ref e.2.1) := hev
        have fl := shp_flds S.nd e he
        rw [et] at fl
        have tn : ¬ t ∉ Nm.tabs (shp es) := Nm.tab_ok bt
        have kk := k H3 s23
        simp only [Nm.due] at kk
        rw [if_neg tn, fl] at kk
        simp? only [hb4, hc4, hd3, hev, htp]
        by_cases c1 : ns.length = e.2.2.length
        · rw [if_neg (by simp [wl, c1])]
          rw [if_neg (by simpa using c1)] at kk
          exact ⟨.inl rfl, by rw [if_neg (by decide)]; exact kk⟩
        · rw [if_pos (by simp [wl]; omega)]
          rw [if_pos c1] at kk
          exact ⟨.inr rfl, by rw [if_pos rfl]; exact kk⟩
      | index t f =>
        have w1 : decide (Nm.Sm.wd (.index t f) = Str.ofString "put") = false := e_index_put
        have w2 : decide (Nm.Sm.wd (.index t f) = Str.ofString "index") = true := e_index_index
        simp? only [w1, w2]
        obtain ⟨b2, us2, eb, hb2, r2⟩ := Nm.rx_tpO R0
        cases eb
        obtain ⟨u0, us2, rfl, _, r2⟩ := Nm.rxs_un r2
        obtain ⟨u1, us2, rfl, _, r2⟩ := Nm.rxs_un r2
        obtain ⟨u2, us2, rfl, h2, r2⟩ := Nm.rxs_un r2
        obtain rfl := Nm.rx_s h2
        have hb4 := tpO_same hb2 s23
        obtain ⟨e, he, et, hev⟩ := S.look (tin t (by simp [Nm.Sm.ts]))
        have htp := S3.tups e he
        have hev : valV (es.map fun e => ((Sum.inr e.1 : Key), V.ref e.2.1)) (Sum.inr (Nm.Sm.index t f).t1) = some (.ref e.2.1) := hev
        have fl := shp_flds S.nd e he
        rw [et] at fl
        have tn : ¬ t ∉ Nm.tabs (shp es) := Nm.tab_ok bt
        simp only [Nm.due] at k
        rw [if_neg tn, fl] at k
        obtain ⟨ot, of_⟩ := six t f rfl
        simp? only [hb4, hd3, hev, htp]
        intro p1 H4 s4 e4
        rw [Nm.cutV_1, ← List.map_drop, List.drop_one] at e4
        refine ⟨e.2.2.tail, .inr e4, ?_⟩
        rw [hasS_iff]
        have s24 := s23.trans s4
        by_cases c1 : f ∈ e.2.2.tail
        · rw [if_neg (by simp [c1])]
          have hb5 := tpO_same hb4 s4
          simp? only [hb5]
          intro p2 hp2
          have s5 := same_new (o := .tup [V.str (Nm.Sm.index t f).t1, V.str f]) hp2
          refine ⟨ot, of_, ps, F.same (s24.trans s5), ?_⟩
          have kk := k _ (s24.trans s5)
          rw [show hasP ps (Nm.Sm.index t f).t1 f = decide ((t, f) ∈ ixs ps) from hasP_iff]
          by_cases c2 : (t, f) ∈ ixs ps
          · rw [if_pos (decide_eq_true c2)]
            rw [if_pos (.inr c2)] at kk
            exact ⟨.inr rfl, by rw [if_pos rfl]; exact kk⟩
          · rw [if_neg (by simpa using c2)]
            rw [if_neg (fun z => z.elim (fun y => y c1) c2)] at kk
            exact ⟨.inl rfl, by rw [if_neg (by decide)]; exact kk⟩
        · rw [if_pos (by simp [c1])]
          have kk := k H4 s24
          rw [if_pos (.inl c1)] at kk
          exact kk
      | strike t c =>
        have w1 : decide (Nm.Sm.wd (.strike t c) = Str.ofString "put") = false := e_strike_put
        have w2 : decide (Nm.Sm.wd (.strike t c) = Str.ofString "index") = false := e_strike_index
        have w3 : decide (Nm.Sm.wd (.strike t c) = Str.ofString "strike") = true := e_strike_strike
        have w4 : decide (Nm.Sm.wd (.strike t c) = Str.ofString "ask") = false := e_strike_ask
        have w5 : decide (Nm.Sm.wd (.strike t c) = Str.ofString "set") = false := e_strike_set
        simp? only [w1, w2, w3, w4, w5]
        obtain ⟨b2, us2, eb, hb2, r2⟩ := Nm.rx_tpO R0
        cases eb
        obtain ⟨u0, us2, rfl, _, r2⟩ := Nm.rxs_un r2
        obtain ⟨u1, us2, rfl, _, r2⟩ := Nm.rxs_un r2
        obtain ⟨u2, us2, rfl, h2, r2⟩ := Nm.rxs_un r2
        have hb4 := tpO_same hb2 s23
        have tn : ¬ t ∉ Nm.tabs (shp es) := Nm.tab_ok bt
        simp only [Nm.due] at k
        rw [if_neg tn] at k
        have dp := ok.deep
        have ft := ok.fits
        have wk := ok.wk
        simp only [Nm.Sm.dx, Dx.deep, Dx.deepL] at dp
        simp only [Nm.Sm.dx, Dx.fits, Dx.fitsL] at ft
        simp? only [hb4]
        intro p hp
        have sp := same_new (o := .lst [u2]) hp
        refine due_words (S3.same sp) (tpO_same eta3 sp) tl tin upd_same (cs := [c]) (rxs_cons (RX.same (s23.trans sp) h2) rxs_nil) (by simp) (fun c2 hc2 => ?_) fun L H7 _ s7 eL => ?_
        · rw [List.mem_singleton.mp hc2]
          exact ⟨by omega, ft.2.2.2.1, wk⟩
        · exact due_fin (ws := [Nm.firstO (shp es) [t] c]) eL (by simp) fun H8 s8 => k H8 (((s23.trans sp).trans s7).trans s8)
      | ask how tm ts c bys first =>
        have w1 : decide (Nm.Sm.wd (.ask how tm ts c bys first) = Str.ofString "put") = false := e_ask_put
        have w2 : decide (Nm.Sm.wd (.ask how tm ts c bys first) = Str.ofString "index") = false := e_ask_index
        have w3 : decide (Nm.Sm.wd (.ask how tm ts c bys first) = Str.ofString "strike") = false := e_ask_strike
        have w4 : decide (Nm.Sm.wd (.ask how tm ts c bys first) = Str.ofString "ask") = true := e_ask_ask
        have w5 : decide (Nm.Sm.wd (.ask how tm ts c bys first) = Str.ofString "set") = false := e_ask_set
        simp? only [w1, w2, w3, w4, w5]
        obtain ⟨b2, us2, eb, hb2, r2⟩ := Nm.rx_tpO R0
        cases eb
        obtain ⟨u0, us2, rfl, _, r2⟩ := Nm.rxs_un r2
        obtain ⟨u1, us2, rfl, _, r2⟩ := Nm.rxs_un r2
        obtain ⟨u2, us2, rfl, h2, r2⟩ := Nm.rxs_un r2
        obtain ⟨u3, us2, rfl, h3, r2⟩ := Nm.rxs_un r2
        obtain ⟨u4, us2, rfl, h4, r2⟩ := Nm.rxs_un r2
        obtain ⟨u5, us2, rfl, h5, r2⟩ := Nm.rxs_un r2
        obtain ⟨a2, vs2, rfl, ha2, rv2⟩ := Nm.rx_tpO h2
        obtain ⟨a5, vs5, rfl, ha5, rv5⟩ := Nm.rx_tpO h5
        have hb4 := tpO_same hb2 s23
        simp only [Nm.due] at k
        rw [show Nm.badTab (shp es) [] ts = none from bt] at k
        have dp := ok.deep
        have ft := ok.fits
        have wk := ok.wk
        simp only [Nm.Sm.dx, Nm.dxs, Dx.deep, Dx.deepL] at dp
        simp only [Nm.Sm.dx, Nm.dxs, Dx.fits, Dx.fitsL, List.length_map] at ft
        obtain ⟨f1, f2, f3, f4, f5, f6, f7, f8⟩ := ft
        have tr : ∀ {l : List Nm.Tr}, Dx.deepL (l.map Nm.Tr.dx) ≤ 7 → Dx.fitsL 8 (l.map Nm.Tr.dx) → (∀ t ∈ l, t.wk) → ∀ t ∈ l, t.dx.deep ≤ 7 ∧ t.dx.fits 8 ∧ t.wk := fun {l} a1 a2 a3 t ht => by
          obtain ⟨i, hi⟩ := List.getElem?_of_mem (List.mem_map.mpr ⟨t, ht, rfl⟩ : t.dx ∈ l.map Nm.Tr.dx)
          have e1 := Dx.deepL_at hi
          exact ⟨by omega, Dx.fitsL_at a2 hi, a3 t ht⟩
        have l2 : vs2.length = tm.length := by simpa using rv2.len
        have l5 : vs5.length = bys.length := by simpa using rv5.len
        intro p0 hp0
        have q0 := same_new (o := .lst []) hp0
        refine ⟨_, tpO_same hb4 q0, _, at2, a2, rfl, vs2, tpO_same (tpO_same ha2 s23) q0, fun p1 hp1 => ?_⟩
        have q1 := q0.trans (same_new (o := .lst vs2) hp1)
        refine ⟨_, tpO_same hb4 q1, u4, at4, fun p2 hp2 => ?_⟩
        have q12 := same_new (o := .lst [u4]) hp2
        have q2 := q1.trans q12
        refine ⟨vs2, q12 _ _ upd_same, szl (by omega), fun p3 hp3 => ?_⟩
        have q23 := same_new (o := .lst (vs2 ++ [u4])) hp3
        have q3 := q2.trans q23
        refine ⟨_, tpO_same hb4 q3, _, at5, a5, rfl, vs5, tpO_same (tpO_same ha5 s23) q3, fun p4 hp4 => ?_⟩
        have q34 := same_new (o := .lst vs5) hp4
        refine ⟨_, q34 _ _ upd_same, szl (by rw [List.length_append, List.length_singleton]; omega), fun p5 hp5 => ?_⟩
        have q5 := (q3.trans q34).trans (same_new (o := .lst (vs2 ++ [u4] ++ vs5)) hp5)
        have sA := s23.trans q5
        refine due_words (S3.same q5) (tpO_same eta3 q5) tl tin upd_same (cs := tm.map some ++ [c] ++ bys.map some) ?_ (by rw [List.length_append, List.length_append, List.length_map, List.length_map, List.length_singleton]; omega) (fun c2 hc2 => ?_) fun L H7 _ s7 eL => ?_
        · rw [List.map_append, List.map_append, List.map_map, List.map_map]
          exact rxs_app (rxs_app (RXs.same sA rv2) (rxs_cons (RX.same sA h4) rxs_nil)) (RXs.same sA rv5)
        · rcases List.mem_append.mp hc2 with z | z
          · rcases List.mem_append.mp z with z | z
            · obtain ⟨t, ht, rfl⟩ := List.mem_map.mp z
              obtain ⟨y1, y2, y3⟩ := tr (by omega) f4.2 wk.1 t ht
              exact ⟨y1, y2, fun t' e => by cases e; exact y3⟩
            · rw [List.mem_singleton.mp z]
              exact ⟨by omega, f6, wk.2.1⟩
          · obtain ⟨t, ht, rfl⟩ := List.mem_map.mp z
            obtain ⟨y1, y2, y3⟩ := tr (by omega) f7.2 wk.2.2 t ht
            exact ⟨y1, y2, fun t' e => by cases e; exact y3⟩
        · refine due_fin (ws := tm.map (Nm.firstT (shp es) ts) ++ [Nm.firstO (shp es) ts c] ++ bys.map (Nm.firstT (shp es) ts)) ?_ (by rw [List.length_append, List.length_append, List.length_map, List.length_map, List.length_singleton]; omega) fun H8 s8 => k H8 ((sA.trans s7).trans s8)
          have ew : (tm.map some ++ [c] ++ bys.map some).map (Nm.firstO (shp es) ts) = tm.map (Nm.firstT (shp es) ts) ++ [Nm.firstO (shp es) ts c] ++ bys.map (Nm.firstT (shp es) ts) := by
            rw [List.map_append, List.map_append, List.map_map, List.map_map]
            rfl
          rw [← ew]
          exact eL
      | set t ss c =>
        have w1 : decide (Nm.Sm.wd (.set t ss c) = Str.ofString "put") = false := e_set_put
        have w2 : decide (Nm.Sm.wd (.set t ss c) = Str.ofString "index") = false := e_set_index
        have w3 : decide (Nm.Sm.wd (.set t ss c) = Str.ofString "strike") = false := e_set_strike
        have w4 : decide (Nm.Sm.wd (.set t ss c) = Str.ofString "ask") = false := e_set_ask
        have w5 : decide (Nm.Sm.wd (.set t ss c) = Str.ofString "set") = true := e_set_set
        simp? only [w1, w2, w3, w4, w5]
        obtain ⟨b2, us2, eb, hb2, r2⟩ := Nm.rx_tpO R0
        cases eb
        obtain ⟨u0, us2, rfl, _, r2⟩ := Nm.rxs_un r2
        obtain ⟨u1, us2, rfl, _, r2⟩ := Nm.rxs_un r2
        obtain ⟨u2, us2, rfl, h2, r2⟩ := Nm.rxs_un r2
        obtain ⟨u3, us2, rfl, h3, r2⟩ := Nm.rxs_un r2
        obtain ⟨a2, vs2, rfl, ha2, rv2⟩ := Nm.rx_tpO h2
        have hb4 := tpO_same hb2 s23
        have ha4 := tpO_same ha2 s23
        have l2 : vs2.length = ss.length := by simpa using rv2.len
        have tn : ¬ t ∉ Nm.tabs (shp es) := Nm.tab_ok bt
        simp only [Nm.due] at k
        rw [if_neg tn] at k
        have dp := ok.deep
        have ft := ok.fits
        have wk := ok.wk
        simp only [Nm.Sm.dx, Dx.deep, Dx.deepL] at dp
        simp only [Nm.Sm.dx, Dx.fits, Dx.fitsL, List.length_map] at ft
        have sl : ss.length ≤ 8 := ft.2.2.2.1.1
        obtain ⟨e, he', et, hev⟩ := S.look (tin t (by simp [Nm.Sm.ts]))
        have hev : valV (es.map fun e => ((Sum.inr e.1 : Key), V.ref e.2.1)) (Sum.inr (Nm.Sm.set t ss c).t1) = some (.ref e.2.1) := hev
        have fl := shp_flds S.nd e he'
        rw [et] at fl
        intro p hp
        have sp := same_new (o := .lst []) hp
        refine due_words (S3.same sp) (tpO_same eta3 sp) tl tin upd_same (cs := []) rxs_nil (by simp) (fun c2 hc2 => by cases hc2) fun L H7 nL s7 eL => ?_
        have eL : H7 L = some (.lst []) := eL
        have s07 := (s23.trans sp).trans s7
        have nL : H L = none := (s23.trans sp).free nL
        refine ⟨fun σ' H8 => ∃ (x5 x10 x11 x12 x13 : Option V) (L8 : Addr), σ' = [some (.ref a), some (.ref d), some (.ref q), some (.str (Nm.Sm.set t ss c).wd), some (.str (Nm.Sm.set t ss c).t1), x5, x6, some (.ref ta), some (.ref p), some (.ref L8), x10, x11, x12, x13, none, none] ∧ Same H3 H8 ∧ H L8 = none ∧ H8 L8 = some (.lst ((Nm.setW (shp es) t [] ss).map V.str)), ?_, ?_⟩
        · have hb7 := tpO_same hb2 s07
          have ha7 := tpO_same ha2 s07
          simp? only [tFor_eq, iRng1, hb7, ha7]
          refine ⟨by omega, by omega, ?_⟩
          rw [Int.toNat_natCast]
          refine forB_it (for_it walk_range (fun i σ H8 => ∃ (x5 x10 x11 x12 x13 : Option V) (L8 : Addr), σ = [some (.ref a), some (.ref d), some (.ref q), some (.str (Nm.Sm.set t ss c).wd), some (.str (Nm.Sm.set t ss c).t1), x5, x6, some (.ref ta), some (.ref p), some (.ref L8), x10, x11, x12, x13, none, none] ∧ Same H3 H8 ∧ H L8 = none ∧ H8 L8 = some (.lst ((Nm.setW (shp es) t [] (ss.take i)).map V.str)))
            ⟨x5, none, none, none, none, L, rfl, sp.trans s7, nL, by rw [eL, List.take_zero, Nm.setW]; rfl⟩ (fun _ _ _ _ _ => trivial) ?_ ?_)
          · rintro i y σ H8 H9 hi ⟨y5, y10, y11, y12, y13, L8, rfl, s38, nL8, eL8⟩ ⟨rfl, rfl⟩
            have s8 := s23.trans s38
            obtain ⟨sj, hsj⟩ : ∃ sj, ss[i]? = some sj := ⟨_, List.getElem?_eq_getElem (by omega)⟩
            obtain ⟨f, tm⟩ := sj
            obtain ⟨u, hu1, ru⟩ := RXs.at rv2 (show (ss.map fun s : Str × Nm.Tr => Dx.tup [.str s.1, s.2.dx])[i]? = some (.tup [.str f, tm.dx]) by rw [List.getElem?_map, hsj]; rfl)
            obtain ⟨g, ws, rfl, hg, rg⟩ := Nm.rx_tpO ru
            obtain ⟨v0, ws, rfl, g0, rg⟩ := Nm.rxs_un rg
            obtain ⟨v1, ws, rfl, g1, rg⟩ := Nm.rxs_un rg
            obtain rfl := Nm.rxs_no rg
            obtain rfl := Nm.rx_s g0
            have hb8 := tpO_same hb2 s8
            have ha8 := tpO_same ha2 s8
            have hg8 := tpO_same hg s8
            have hat : atI vs2 (0 + (i : Int)) = some (.ref g) := by
              rw [Int.zero_add]
              exact atI_nat hu1
            have S8 := S.same s8
            have hd8 := S8.at_
            simp? only [gName, gTupH, gCons, gNil, hb8, ha8, hg8, hat, tLc_eq, iTup]
            intro p1 H10 s10 e10
            rw [Int.zero_add, cutV_to_nat] at e10
            refine ⟨⟨_, .inl (rd_tpO e10)⟩, ?_⟩
            have s8' := s8
            refine lc_all (walk_tup (xs := vs2.take i)) (ss.take i) (fun o y _ => y = .str o.1) (by rw [List.length_take, List.length_take, l2]) (by rw [List.length_take]; omega) (fun H' s => .inl (rd_tpO (tpO_same e10 s))) (fun i H x H' h => by rw [h.1]; exact Same.refl _) (fun _ _ _ _ _ h _ _ => h) (fun j o x H11 H12 Q2 he s11 hy z1 => ?_) fun D H11 zs hD f1 s11 f2 f3 => ?_
            · obtain ⟨rfl, hx⟩ := hy
              have hj : j < i := by
                have := (List.getElem?_eq_some_iff.mp he).1
                rw [List.length_take] at this
                omega
              rw [List.getElem?_take_of_lt hj] at he hx
              obtain ⟨u5, hu5, ru5⟩ := RXs.at rv2 (show (ss.map fun s : Str × Nm.Tr => Dx.tup [.str s.1, s.2.dx])[j]? = some (.tup [.str o.1, o.2.dx]) by rw [List.getElem?_map, he]; rfl)
              rw [hx] at hu5
              cases hu5
              obtain ⟨g5, ws5, rfl, hg5, rg5⟩ := Nm.rx_tpO ru5
              obtain ⟨w0, ws5, rfl, q0, rg5⟩ := Nm.rxs_un rg5
              obtain rfl := Nm.rx_s q0
              have hg6 := tpO_same hg5 ((s8.trans s10).trans s11)
              simp? only [gName, hg6]
              exact z1 _ _ (Same.refl _) rfl
            · have hv := zs_vals (f := fun o : Str × Nm.Tr => V.str o.1) f1 f3
              rw [hv] at f2
              have f2 : H11 D = some (.lst (((ss.take i).map (·.1)).map V.str)) := by rw [f2, List.map_map]; rfl
              have sB := (s8.trans s10).trans s11
              have SB := S.same sB
              have hdB := SB.at_
              have htpB := SB.tups e he'
              have snoc := Nm.setW_snoc (S := shp es) (t := t) (f := f) (tm := tm) (ss.take i) []
              have tk : ss.take (i + 1) = ss.take i ++ [(f, tm)] := by rw [List.take_add_one, hsj]; rfl
              rw [← tk, fl, List.nil_append] at snoc
              obtain ⟨o1, o2, o3⟩ : tm.dx.deep ≤ 7 ∧ tm.dx.fits 8 ∧ tm.wk := by
                obtain ⟨i2, hi2⟩ := List.getElem?_of_mem (List.mem_map.mpr ⟨(f, tm), List.mem_of_getElem? hsj, rfl⟩ : (Dx.tup [.str f, tm.dx]) ∈ ss.map fun s : Str × Nm.Tr => Dx.tup [.str s.1, s.2.dx])
                have e1 := Dx.deepL_at hi2
                have e2 := Dx.fitsL_at ft.2.2.2.1.2 hi2
                simp only [Dx.deep, Dx.deepL] at e1
                simp only [Dx.fits, Dx.fitsL] at e2
                exact ⟨by omega, e2.2.2.1, wk.1 (f, tm) (List.mem_of_getElem? hsj)⟩
              -- the last part, whatever the bad word is
              have last : ∀ (bw : Str) (H13 : Hp), Same H11 H13 → bw = (if f ∉ e.2.2.tail ∨ f ∈ (ss.take i).map (·.1) then f else Str.ofString "") → spFirst 7 [v1, V.ref d, V.ref ta] H13 (fun x H1 => ∀ (p : Addr), H1 p = none → ∃ x_5, upd H1 p (HO.lst [V.str bw, x]) L8 = some (HO.lst x_5) ∧ x_5.length + 2 ≤ sizeLine ∧
                  ∀ (p_2 : Addr), upd H1 p (HO.lst [V.str bw, x]) p_2 = none → Same H3 (upd (upd H1 p (HO.lst [V.str bw, x])) p_2 (HO.lst (x_5 ++ [V.str bw, x]))) ∧ H p_2 = none ∧ x_5 ++ [V.str bw, x] = List.map V.str (Nm.setW (shp es) t [] (List.take (i + 1) ss))) E0 := fun bw H13 s13 hbw => by
                have sC := sB.trans s13
                have s3C := ((s38.trans s10).trans s11).trans s13
                refine ⟨d, ta, v1, es, [t], some tm, rfl, S.same sC, tpO_same eta3 s3C, by simp, tin, RX.same sC g1, o1, o2, fun t' e => by cases e; exact o3, fun H14 s14 => fun p5 hp5 => ?_⟩
                have sD := s3C.trans s14
                have eL14 := s14 _ _ (((s10.trans s11).trans s13) _ _ eL8)
                have q5 := same_new (o := .lst [V.str bw, V.str (Nm.firstO (shp es) [t] (some tm))]) hp5
                refine ⟨_, q5 _ _ eL14, szl (by rw [List.length_map, Nm.setW_len, List.length_take]; omega), fun p6 hp6 => ⟨sD.trans (q5.trans (same_new hp6)), (s23.trans (sD.trans q5)).free hp6, ?_⟩⟩
                rw [snoc, List.map_append, hbw]
                rfl
              simp? only [hdB, hev, htpB]
              intro p7 H15 s15 e15
              rw [Nm.cutV_1, ← List.map_drop, List.drop_one] at e15
              refine ⟨e.2.2.tail, .inr e15, ?_⟩
              rw [hasS_iff]
              by_cases c1 : f ∈ e.2.2.tail
              · rw [if_neg (by simp [c1])]
                have f15 := s15 _ _ f2
                refine ⟨(ss.take i).map (·.1), .inl (by rw [f15]; rfl), ?_⟩
                rw [hasS_iff]
                by_cases c2 : f ∈ (ss.take i).map (·.1)
                · rw [if_pos (decide_eq_true c2)]
                  exact ⟨.inr rfl, last (if (1 : Int) = 1 then f else Str.empty) H15 s15 (by rw [if_pos rfl, if_pos (.inr c2)])⟩
                · rw [if_neg (by simpa using c2)]
                  exact ⟨.inl rfl, last (if (0 : Int) = 1 then f else Str.empty) H15 s15 (by rw [if_neg (by decide), if_neg (fun z => z.elim (fun y => y c1) c2)]; rfl)⟩
              · rw [if_pos (by simp [c1])]
                exact last f H15 s15 (by rw [if_pos (.inl c1)])
          · rintro σ H8 ⟨y5, y10, y11, y12, y13, L8, rfl, s38, nL8, eL8⟩
            rw [l2, List.take_length] at eL8
            exact ⟨y5, y10, y11, y12, y13, L8, rfl, s38, nL8, eL8⟩
        · rintro σ' H8 ⟨y5, y10, y11, y12, y13, L8, rfl, s38, nL8, eL8⟩
          have s8 := s23.trans s38
          have hb8 := tpO_same hb2 s8
          simp? only [hb8]
          refine ⟨by rw [tyV_list (by rw [eL8]; exact fun z => by cases z)]; trivial, ?_⟩
          refine ⟨d, ta, u3, es, [t], c, rfl, S.same s8, tpO_same eta3 s38, by simp, tin, RX.same s8 h3, by omega, ft.2.2.2.2.1, wk.2, fun H9 s9 => ?_⟩
          have eL9 := s9 _ _ eL8
          refine ⟨_, eL9, szl' (by rw [List.length_map, Nm.setW_len]; omega), ?_⟩
          refine due_fin (ws := Nm.setW (shp es) t [] ss ++ [Nm.firstO (shp es) [t] c]) (by rw [upd_same, List.map_append]; rfl) (by rw [List.length_append, Nm.setW_len, List.length_singleton]; omega) fun H10 s10 => k H10 (Same.trans (Same.updFree (s8.trans s9) nL8) s10)
end

/-! days as texts: _law_alike -/
def cIsiT : List V → Hp → VK → Prop := fun xs H Q => ∃ x tp n1 n2 a, xs = [x, .ref tp] ∧ H tp = some (.tup [.ty n1, .ty n2]) ∧ okN n1 ∧ okN n2 ∧ tyT x H = some a ∧ Q (.bl (isN a n1 || isN a n2)) H
theorem isi_t2 {X : Cx} : CallR X (.builtin "isinstance") cIsiT := callImp call_isiT fun xs H Q ⟨x, tp, n1, n2, a, e, h, ok1, ok2, t, q⟩ =>
  ⟨x, tp, [.ty n1, .ty n2], _, [.type n1, .type n2], _, e, h, .cons (.ty n1) (.cons (.ty n2) .nil), tyT_ok t, kitAny_cons (kit_ty (kit_isN ok1)) (fun e1 => kitAny_cons (kit_ty (kit_isN ok2)) (fun e2 => by rw [kitAny_nil, e1, e2]; rfl) (fun e2 => by rw [e2, Bool.or_true])) (fun e1 => by rw [e1, Bool.true_or]), q⟩
def spAlike (n : Nat) : Sp := fun vs H Q _ => ∃ (x y : V) (d : Dx), vs = [x, y] ∧ RX H x d ∧ RX H y d ∧ d.deep ≤ n ∧ d.fits 93750 ∧ ∀ H', Same H H' → Q (.bl true) H'
section
variable {P : Program} {w : World} {K : PySem.W.Frag} {mg : Str → Option Value} {base : Heap}
theorem alike_step (T : Txt K mg) (d : Nat) (sp0 : Sp) (G_l_alike : FnOk P w K mg base CX0 (d + 1) T.f_l_alike T.fd_l_alike ["_law_found", "_law_due_here"] sp0) (h0 : ∀ e, d = e + 1 → sp0 = spAlike e) :
    FnOk P w K mg base CX0 (d + 2) T.f_l_alike T.fd_l_alike ["_law_found", "_law_due_here"] (spAlike d) := by
  refine T.F_l_alike.ok sc_l_alike (fun vs H Q E h => ?_) (fun cdv A outer s H vs Q E hr h => ?_)
  · obtain ⟨x, y, dd, rfl, _⟩ := h
    rfl
  · have hu64 := hu64_of hr
    obtain ⟨x, y, dd, rfl, Rx, Ry, dp, ft, k⟩ := h
    refine ⟨_, (pss_cons (ps_if (pt_val (pe_callB isi_t2 (by rfl) T.n_isinstance (by decide +kernel) (pa_cons (pv 1) (pa_cons (pe_tup (pa_cons (pe_bltn (by rfl) T.n_tuple (by decide +kernel) (v := .ty "tuple") rfl) (pa_cons (pe_bltn (by rfl) T.n_list (by decide +kernel) (v := .ty "list") rfl) pa_nil))) pa_nil)))) (pss_cons (ps_if (PW.pt (pw_or (pt_not (pt_val (pe_callB isi_t2 (by rfl) T.n_isinstance (by decide +kernel) (pa_cons (pv 0) (pa_cons (pe_tup (pa_cons (pe_bltn (by rfl) T.n_tuple (by decide +kernel) (v := .ty "tuple") rfl) (pa_cons (pe_bltn (by rfl) T.n_list (by decide +kernel) (v := .ty "list") rfl) pa_nil))) pa_nil))))) (pw_or1 (pt_cmpR op_ne (pe_callB isi_h (by rfl) T.n_isinstance (by decide +kernel) (pa_cons (pv 0) (pa_cons (pe_bltn (by rfl) T.n_list (by decide +kernel) (v := .ty "list") rfl) pa_nil))) (pe_callB isi_h (by rfl) T.n_isinstance (by decide +kernel) (pa_cons (pv 1) (pa_cons (pe_bltn (by rfl) T.n_list (by decide +kernel) (v := .ty "list") rfl) pa_nil))) (nomark _))))) (pss_one (ps_ret pe_bl)) pss_nil)
        (pss_cons (ps_if (pt_cmpR op_ne (pe_callB len_lt (by rfl) T.n_len PySem.boot_len (pa_cons (pv 0) pa_nil)) (pe_callB len_lt (by rfl) T.n_len PySem.boot_len (pa_cons (pv 1) pa_nil)) (nomark _)) (pss_one (ps_ret pe_bl)) pss_nil)
        (pss_one (ps_ret (pe_cmpR (op_eqNilI hu64) (pe_lc (own := [("_law_k", 2)]) (g := gName 2) rfl sc_l_alike.nd (pi_range1 rfl T.n_range (pa_cons (pe_callB len_lt (by rfl) T.n_len PySem.boot_len (pa_cons (pv 1) pa_nil)) pa_nil)) (blkOk_by (N := N_l_alike) (sc := defScope s_l_alike) (by decide +kernel)) (fun _ _ _ _ _ => (pg_name (i := 2) sc_l_alike.nd rfl (Or.inl rfl))) (fun _ _ _ _ _ => pts_one (pt_not (pt_val (pe_call G_l_alike (hr.mono (by show _ ≤ d + 1; omega)) rfl T.mg_l_alike T.F_l_alike.kp T.b_l_alike .nil pass0 (pa_cons (pe_ix ix_lt (pv 0) (pv 2) (fun _ _ => rfl)) (pa_cons (pe_ix ix_lt (pv 1) (pv 2) (fun _ _ => rfl)) pa_nil)))))) (fun _ _ _ _ _ => (pv 2))) (pe_lst pa_nil) (nomark _)))))) pss_nil)
      (pss_cons (ps_if (PW.pt (pw_or (pt_cmpR op_isN (pv 1) pe_non (nomark _)) (pw_or1 (pt_val (pe_callB isi_h (by rfl) T.n_isinstance (by decide +kernel) (pa_cons (pv 1) (pa_cons (pe_bltn (by rfl) T.n_str (by decide +kernel) (v := .ty "str") rfl) pa_nil))))))) (pss_one (ps_ret (pe_and (pe_cmpR op_eq (pv 0) (pv 1) (nomark _)) (pe_one (pe_cmpR op_eq (pe_callB isi_h (by rfl) T.n_isinstance (by decide +kernel) (pa_cons (pv 0) (pa_cons (pe_bltn (by rfl) T.n_str (by decide +kernel) (v := .ty "str") rfl) pa_nil))) (pe_callB isi_h (by rfl) T.n_isinstance (by decide +kernel) (pa_cons (pv 1) (pa_cons (pe_bltn (by rfl) T.n_str (by decide +kernel) (v := .ty "str") rfl) pa_nil))) (nomark _)))))) pss_nil)
      (pss_one (ps_ret (pe_and (pe_callB isi_h (by rfl) T.n_isinstance (by decide +kernel) (pa_cons (pv 0) (pa_cons (pe_bltn (by rfl) T.n_int (by decide +kernel) (v := .ty "int") rfl) pa_nil))) (pe_and (pe_cmpR op_eq (pe_callB isi_h (by rfl) T.n_isinstance (by decide +kernel) (pa_cons (pv 0) (pa_cons (pe_bltn (by rfl) T.n_bool (by decide +kernel) (v := .ty "bool") rfl) pa_nil))) (pe_callB isi_h (by rfl) T.n_isinstance (by decide +kernel) (pa_cons (pv 1) (pa_cons (pe_bltn (by rfl) T.n_bool (by decide +kernel) (v := .ty "bool") rfl) pa_nil))) (nomark _)) (pe_one (pe_cmpR op_eq (pv 0) (pv 1) (nomark _))))))))), ?_⟩
    rw [show L2.start N_l_alike [x, y] = [some (x), some (y), none] from rfl]
    cases dd with
    | non =>
      simp only [RX] at Rx Ry
      subst Rx Ry
      simp? only [cIsiT, Bool.or_self]
      intro p hp
      exact k _ (same_new hp)
    | bl i =>
      simp only [RX] at Rx Ry
      subst Rx Ry
      simp? only [cIsiT, Bool.or_self]
      intro p hp
      exact k _ (same_new hp)
    | int i =>
      simp only [RX] at Rx Ry
      subst Rx Ry
      simp? only [cIsiT, Bool.or_self]
      intro p hp
      exact k _ (same_new hp)
    | str i =>
      simp only [RX] at Rx Ry
      subst Rx Ry
      simp? only [cIsiT, Bool.or_self]
      intro p hp
      exact k _ (same_new hp)
    | tup ds =>
      simp only [RX] at Rx Ry
      obtain ⟨a, us, rfl, ha, Ru⟩ := Rx
      obtain ⟨b, zs, rfl, hb, Rz⟩ := Ry
      have lu := Ru.len
      have lz := Rz.len
      simp only [Dx.fits] at ft
      obtain ⟨e, rfl⟩ : ∃ e, d = e + 1 := ⟨d - 1, by simp only [Dx.deep] at dp; omega⟩
      cases h0 e rfl
      simp only [Dx.deep] at dp
      rcases ha with ha | ⟨oa, ha⟩ <;> rcases hb with hb | ⟨ob, hb⟩
      all_goals
        simp? only [cIsiT, ha, hb, Bool.or_self]
        intro p1 hp1
        have s1 := same_new (o := .tup [.ty "tuple", .ty "list"]) hp1
        have ha1 := s1 _ _ ha
        have hb1 := s1 _ _ hb
        simp? only [cIsiT, ha1, hb1, Bool.or_self]
        intro p2 hp2
        have s2 := same_new (o := .tup [.ty "tuple", .ty "list"]) hp2
        have ha2 := s2 _ _ ha1
        have hb2 := s2 _ _ hb1
        simp? only [cIsiT, ha2, hb2, Bool.or_self, cLenLT]
        refine ⟨us, .inr rfl, zs, .inr rfl, ?_⟩
        rw [if_neg (by rw [lu, lz]; simp)]
        have S2 := s1.trans s2
        generalize upd (upd H p1 (.tup [.ty "tuple", .ty "list"])) p2 (.tup [.ty "tuple", .ty "list"]) = H2 at *
        simp? only [tLc_eq, iRng1, cLenLT, hb2]
        refine ⟨zs, .inr rfl, by omega, by omega, ?_⟩
        rw [Int.toNat_natCast]
        refine lcB_it fun D hD => ?_
        refine lc_it walk_range (fun i H3 => Same H2 H3 ∧ H3 D = some (.lst [])) ⟨same_new hD, upd_same⟩ (fun _ _ _ _ => trivial) ?_ ?_
        · rintro i x H3 H4 hi ⟨S3, eD⟩ ⟨rfl, rfl⟩
          have ha3 := S3 _ _ ha2
          have hb3 := S3 _ _ hb2
          have hid : i < ds.length := by omega
          have hdi : ds[i]? = some ds[i] := List.getElem?_eq_getElem hid
          obtain ⟨u, hu, Ru1⟩ := (RXs.same (S2.trans S3) Ru).at hdi
          obtain ⟨z, hz, Rz1⟩ := (RXs.same (S2.trans S3) Rz).at hdi
          have au : atI us (0 + (i : Int)) = some u := by rw [Int.zero_add]; exact atI_nat hu
          have az : atI zs (0 + (i : Int)) = some z := by rw [Int.zero_add]; exact atI_nat hz
          simp? only [gName, rIxLT, ha3, hb3]
          refine ⟨us, .inr rfl, u, au, zs, .inr rfl, z, az, u, z, ds[i], rfl, Ru1, Rz1, ?_, Dx.fitsL_at ft.2 hdi, fun H5 s5 => ?_⟩
          · have := Dx.deepL_at hdi
            omega
          · simp? only []
            exact ⟨S3.trans s5, s5 _ _ eD⟩
        · rintro H3 ⟨S3, eD⟩
          intro q hq
          have sq := same_new (o := .lst []) hq
          refine ⟨D, rfl, [], by rw [sq _ _ eD]; rfl, k _ ((S2.trans S3).trans sq)⟩
    | lst ds =>
      simp only [RX] at Rx Ry
      obtain ⟨a, us, rfl, ha, Ru⟩ := Rx
      obtain ⟨b, zs, rfl, hb, Rz⟩ := Ry
      have lu := Ru.len
      have lz := Rz.len
      simp only [Dx.fits] at ft
      obtain ⟨e, rfl⟩ : ∃ e, d = e + 1 := ⟨d - 1, by simp only [Dx.deep] at dp; omega⟩
      cases h0 e rfl
      simp only [Dx.deep] at dp
      simp? only [cIsiT, ha, hb, Bool.or_self]
      intro p1 hp1
      have s1 := same_new (o := .tup [.ty "tuple", .ty "list"]) hp1
      have ha1 := s1 _ _ ha
      have hb1 := s1 _ _ hb
      simp? only [cIsiT, ha1, hb1, Bool.or_self]
      intro p2 hp2
      have s2 := same_new (o := .tup [.ty "tuple", .ty "list"]) hp2
      have ha2 := s2 _ _ ha1
      have hb2 := s2 _ _ hb1
      simp? only [cIsiT, ha2, hb2, Bool.or_self, cLenLT]
      refine ⟨us, .inl rfl, zs, .inl rfl, ?_⟩
      rw [if_neg (by rw [lu, lz]; simp)]
      have S2 := s1.trans s2
      generalize upd (upd H p1 (.tup [.ty "tuple", .ty "list"])) p2 (.tup [.ty "tuple", .ty "list"]) = H2 at *
      simp? only [tLc_eq, iRng1, cLenLT, hb2]
      refine ⟨zs, .inl rfl, by omega, by omega, ?_⟩
      rw [Int.toNat_natCast]
      refine lcB_it fun D hD => ?_
      refine lc_it walk_range (fun i H3 => Same H2 H3 ∧ H3 D = some (.lst [])) ⟨same_new hD, upd_same⟩ (fun _ _ _ _ => trivial) ?_ ?_
      · rintro i x H3 H4 hi ⟨S3, eD⟩ ⟨rfl, rfl⟩
        have ha3 := S3 _ _ ha2
        have hb3 := S3 _ _ hb2
        have hid : i < ds.length := by omega
        have hdi : ds[i]? = some ds[i] := List.getElem?_eq_getElem hid
        obtain ⟨u, hu, Ru1⟩ := (RXs.same (S2.trans S3) Ru).at hdi
        obtain ⟨z, hz, Rz1⟩ := (RXs.same (S2.trans S3) Rz).at hdi
        have au : atI us (0 + (i : Int)) = some u := by rw [Int.zero_add]; exact atI_nat hu
        have az : atI zs (0 + (i : Int)) = some z := by rw [Int.zero_add]; exact atI_nat hz
        simp? only [gName, rIxLT, ha3, hb3]
        refine ⟨us, .inl rfl, u, au, zs, .inl rfl, z, az, u, z, ds[i], rfl, Ru1, Rz1, ?_, Dx.fitsL_at ft.2 hdi, fun H5 s5 => ?_⟩
        · have := Dx.deepL_at hdi
          omega
        · simp? only []
          exact ⟨S3.trans s5, s5 _ _ eD⟩
      · rintro H3 ⟨S3, eD⟩
        intro q hq
        have sq := same_new (o := .lst []) hq
        refine ⟨D, rfl, [], by rw [sq _ _ eD]; rfl, k _ ((S2.trans S3).trans sq)⟩
theorem ok_l_alike (T : Txt K mg) : ∀ d : Nat, FnOk P w K mg base CX0 (d + 2) T.f_l_alike T.fd_l_alike ["_law_found", "_law_due_here"] (spAlike d)
  | 0 => alike_step T 0 (fun _ _ _ _ => False) (T.F_l_alike.ok sc_l_alike (fun vs H Q E h => h.elim) (fun cdv A outer s H vs Q E hr h => h.elim)) (fun e h => absurd h (by omega))
  | d + 1 => alike_step T (d + 1) (spAlike d) (ok_l_alike T d) (fun e h => by cases h; rfl)
end

/-! known words -/
abbrev TT {K : PySem.W.Frag} {mg : Str → Option Value} (T : Txt K mg) : List (Addr × Str) := Lm.tt2 T.P_law T.P_ix "law" "_law_known"
/-- _law_word of a lambda, read without a word of where it is made (under a comprehension) -/
def tWL (CB CR : Addr) (Tl : List (Addr × Str)) (tb : XK → TE) : TE := fun σ H Q => Lm.TabF Tl H ∧ ∀ H1, LamX.ExtN H H1 → Lm.TabF Tl H1 → ∀ (E : XK) (Qn : VK), (∀ (x : Str) (d : Addr) (H' : Hp), H' d = some (.xd [("word", .str x)]) → Q (.str x) H' → E (.ref CB) (some d) H') → (∀ H', Q (.str "row") H' → E (.ref CR) none H') → (∀ v H', Q (.str "") H' → Qn v H') → tb E σ H1 Qn
theorem wl_imp {X : Cx} {CB CR : Addr} {Tl : List (Addr × Str)} {tb : XK → TE} {σ : L2.St} {H : Hp} {Q : VK} (h : tWL CB CR Tl tb σ H Q) : Lm.tCallZ X (fun B => spWord X.prog X.w X.K X.mg CB CR 14 B) [] (tCons (Lm.tLam X 14 Tl tb) tNil) σ H Q := by
  obtain ⟨hT, k⟩ := h
  exact ⟨hT, fun f H1 e1 T1 acts => fun B zb => ⟨f, _, rfl, acts H1 (Lm.KeepF.refl _) _ B zb, fun E Qn h1 h2 h3 => k H1 e1 T1 E Qn h1 h2 h3⟩⟩
structure KnS (H H2 : Hp) (hd d t1 t2 : Addr) : Prop where
  same : Same H H2
  hd : H2 hd = some (.tup [.str "ask", .str "pick"])
  d : H2 d = some (.dK [(Sum.inr (Str.ofString "ta"), .ref t1), (Sum.inr (Str.ofString "tb"), .ref t2)])
  t1 : H2 t1 = some (.tup [.str "k", .str "x"])
  t2 : H2 t2 = some (.tup [.str "k", .str "y"])
def kT1 : Nm.Sm := .ask "pick" [.fld "" "x"] ["ta", "tb", "tb"] none [] none
def kT2 : Nm.Sm := .ask "pick" [.fld "tb" "k"] ["ta"] none [] none
def kT3 : Nm.Sm := .ask "pick" [.fld "" "q"] ["ta"] none [.fld "" "zz"] none
def kT4 : Nm.Sm := .ask "pick" [.fld "" "x"] ["ta"] (some (.node "=" [.fld "" "q", .fld "" "x"])) [.fld "" "zz"] none
def kDue : List Str := ["tb", "tb", "q", "q"]
def kS : Nm.Shp := [(Str.ofString "ta", [Str.ofString "k", Str.ofString "x"]), (Str.ofString "tb", [Str.ofString "k", Str.ofString "y"])]
theorem fldOk {t f : Str} (h : f ≠ "") : (Nm.Tr.fld t f).wk ∧ (Nm.Tr.fld t f).nz ∧ (Nm.Tr.fld t f).dx.deep ≤ 6 ∧ (Nm.Tr.fld t f).dx.fits 8 := ⟨trivial, h, by unfold Nm.Tr.dx; simp [Dx.deep, Dx.deepL], by unfold Nm.Tr.dx Dx.fits; exact ⟨by simp, trivial, trivial, trivial, trivial⟩⟩
theorem SH.extN {H H' : Hp} {d : Addr} {es : List Sh} (S : SH H d es) (k : LamX.ExtN H H') : SH H' d es := ⟨k _ _ S.at_ (by intro ps z; cases z), fun e he => tpO_ext (S.tups e he) k, S.oks, S.few, S.nd, S.zz⟩
theorem kT_ok {how : Str} {ts : List Str} {tm bys : List Nm.Tr} {c : Option Nm.Tr} (h1 : tm.length ≤ 3 ∧ ∀ t ∈ tm, t.wk ∧ t.nz ∧ t.dx.deep ≤ 6 ∧ t.dx.fits 8) (h2 : bys.length ≤ 3 ∧ ∀ t ∈ bys, t.wk ∧ t.nz ∧ t.dx.deep ≤ 6 ∧ t.dx.fits 8) (h3 : ∀ t, c = some t → t.wk ∧ t.nz ∧ t.dx.deep ≤ 6 ∧ t.dx.fits 8) (h4 : ts.length ≤ 3 ∧ ∀ t ∈ ts, t ≠ "") : Nm.SmW (.ask how tm ts c bys none) := by
  refine ⟨⟨fun t ht => (h1.2 t ht).1, fun t ht => (h3 t ht).1, fun t ht => (h2.2 t ht).1⟩, ⟨Nm.nzL_all.mpr fun t ht => (h1.2 t ht).2.1, h4.2, by cases c with | none => exact trivial | some t => exact (h3 t rfl).2.1, Nm.nzL_all.mpr fun t ht => (h2.2 t ht).2.1⟩, ?_, ?_⟩
  · refine Nm.deep_tup fun d hd => ?_
    simp only [List.mem_cons, List.mem_nil_iff, or_false] at hd
    rcases hd with rfl | rfl | rfl | rfl | rfl | rfl | rfl
    · exact Nm.d_str _ _
    · exact Nm.d_str _ _
    · exact Nm.d_map fun t ht => (h1.2 t ht).2.2.1
    · exact Nat.le_trans (Nm.d_dxs ts 0) (by omega)
    · cases c with
      | none => exact Nat.zero_le _
      | some t => exact Nat.le_trans (h3 t rfl).2.2.1 (by omega)
    · exact Nm.d_map fun t ht => (h2.2 t ht).2.2.1
    · exact Nm.d_dxI none _
  · refine Nm.fits_tup (by simp) fun d hd => ?_
    simp only [List.mem_cons, List.mem_nil_iff, or_false] at hd
    rcases hd with rfl | rfl | rfl | rfl | rfl | rfl | rfl
    · exact trivial
    · exact trivial
    · exact Nm.f_map (by omega) fun t ht => (h1.2 t ht).2.2.2
    · exact Nm.f_dxs (by omega)
    · cases c with
      | none => exact trivial
      | some t => exact (h3 t rfl).2.2.2
    · exact Nm.f_map (by omega) fun t ht => (h2.2 t ht).2.2.2
    · exact Nm.f_dxI none
theorem oneF {t f : Str} (h : f ≠ "") : [Nm.Tr.fld t f].length ≤ 3 ∧ ∀ x ∈ [Nm.Tr.fld t f], x.wk ∧ x.nz ∧ x.dx.deep ≤ 6 ∧ x.dx.fits 8 := ⟨by simp, fun x hx => by rw [List.mem_singleton.mp hx]; exact fldOk h⟩
theorem kT1_ok : Nm.SmW kT1 := kT_ok (oneF (by decide +kernel)) ⟨by simp, fun t ht => by cases ht⟩ (fun t z => by cases z) (by decide +kernel)
theorem kT2_ok : Nm.SmW kT2 := kT_ok (oneF (by decide +kernel)) ⟨by simp, fun t ht => by cases ht⟩ (fun t z => by cases z) (by decide +kernel)
theorem kT3_ok : Nm.SmW kT3 := kT_ok (oneF (by decide +kernel)) (oneF (by decide +kernel)) (fun t z => by cases z) (by decide +kernel)
theorem kT4_ok : Nm.SmW kT4 := kT_ok (oneF (by decide +kernel)) (oneF (by decide +kernel)) (fun t z => by
  cases z
  refine ⟨⟨by decide +kernel, trivial, trivial, trivial⟩, ⟨(by decide +kernel : (Str.ofString "q") ≠ Str.ofString ""), (by decide +kernel : (Str.ofString "x") ≠ Str.ofString ""), trivial⟩, ?_, ?_⟩
  · unfold Nm.Tr.dx Nm.Tr.dxL Nm.Tr.dxL Nm.Tr.dxL Nm.Tr.dx
    simp [Dx.deep, Dx.deepL]
  · unfold Nm.Tr.dx Nm.Tr.dxL Nm.Tr.dxL Nm.Tr.dxL Nm.Tr.dx
    simp [Dx.fits, Dx.fitsL]) (by decide +kernel)
def spKnown (Tl : List (Addr × Str)) : Sp := fun vs H Q _ => vs = [] ∧ Lm.TabF Tl H ∧ ∀ H', LamX.ExtN H H' → Lm.TabF Tl H' → Q (.bl true) H'
section
variable {P : Program} {w : World} {K : PySem.W.Frag} {mg : Str → Option Value} {base : Heap}
theorem ok_l_known (T : Txt K mg) (TBx : LamX.TabB base mg T.c_ix T.P_ix) : FnOk P w K mg base CX0 17 T.f_l_known T.fd_l_known [] (spKnown (TT T)) := by
  refine Fun.okL T.F_l_known T.hc_ix sc_l_known (fun vs H Q E h => ?_) (fun A outer s H vs Q E hr h => ?_)
  · obtain ⟨rfl, _⟩ := h
    rfl
  · have hu64 := hu64_of hr
    obtain ⟨rfl, hT, k⟩ := h
    refine ⟨_, (Evl.pss_cut (ps_asg (pe_tup (pa_cons (pe_disp (pps_cons pe_str (pe_tup (pa_cons pe_str (pa_cons pe_str pa_nil))) (pps_cons pe_str (pe_tup (pa_cons pe_str (pa_cons pe_str pa_nil))) pps_nil)) rfl rfl (by intro q; cases q) (by decide)) (pa_cons (pe_tup (pa_cons pe_str (pa_cons pe_str pa_nil))) pa_nil))) (pg_tupH (n := 2) rfl (pgs_cons (pg_name (i := 4) sc_l_known.nd rfl (Or.inr rfl)) (pgs_cons (pg_name (i := 0) sc_l_known.nd rfl (Or.inl rfl)) pgs_nil))))
      (Evl.pss_cut (ps_asg (pe_tup (pa_cons (pe_tup (pa_cons pe_str (pa_cons pe_str (pa_cons pe_str pa_nil)))) (pa_cons (pe_tup (pa_cons pe_str (pa_cons pe_str (pa_cons pe_str pa_nil)))) pa_nil))) (pg_tupH (n := 2) rfl (pgs_cons (pg_name (i := 1) sc_l_known.nd rfl (Or.inl rfl)) (pgs_cons (pg_name (i := 2) sc_l_known.nd rfl (Or.inl rfl)) pgs_nil))))
      (Evl.pss_cut (ps_set (i := 3) sc_l_known.nd rfl (Or.inl rfl) (pe_lst (pa_cons (pe_op op_catS (pv 0) (pe_tup (pa_cons (pe_tup (pa_cons (pv 2) pa_nil)) (pa_cons (pe_tup (pa_cons pe_str (pa_cons pe_str (pa_cons pe_str pa_nil)))) (pa_cons pe_non (pa_cons (pe_tup pa_nil) (pa_cons pe_non pa_nil))))))) pa_nil)))
      (Evl.pss_cut (ps_expr (pe_bm PySem.F.plainAttrs_list PySem.F.slot_list_append PySem.F.type_list_append mt_append (pv 3) (pa_cons (pe_op op_catS (pv 0) (pe_tup (pa_cons (pe_tup (pa_cons (pe_tup (pa_cons pe_str (pa_cons pe_str (pa_cons pe_str pa_nil)))) pa_nil)) (pa_cons (pe_tup (pa_cons pe_str pa_nil)) (pa_cons pe_non (pa_cons (pe_tup pa_nil) (pa_cons pe_non pa_nil))))))) pa_nil)))
      (Evl.pss_cut (ps_set (i := 3) sc_l_known.nd rfl (Or.inl rfl) (pe_op op_cat (pv 3) (pe_lst (pa_cons (pe_op op_catS (pv 0) (pe_tup (pa_cons (pe_tup (pa_cons (pv 1) pa_nil)) (pa_cons (pe_tup (pa_cons pe_str pa_nil)) (pa_cons pe_non (pa_cons (pe_tup (pa_cons (pe_tup (pa_cons pe_str (pa_cons pe_str (pa_cons pe_str pa_nil)))) pa_nil)) (pa_cons pe_non pa_nil))))))) pa_nil))))
      (Evl.pss_cut (ps_set (i := 3) sc_l_known.nd rfl (Or.inl rfl) (pe_op op_cat (pv 3) (pe_lst (pa_cons (pe_op op_catS (pv 0) (pe_tup (pa_cons (pe_tup (pa_cons (pv 2) pa_nil)) (pa_cons (pe_tup (pa_cons pe_str pa_nil)) (pa_cons (pe_tup (pa_cons pe_str (pa_cons (pv 1) (pa_cons (pv 2) pa_nil)))) (pa_cons (pe_tup (pa_cons (pe_tup (pa_cons pe_str (pa_cons pe_str (pa_cons pe_str pa_nil)))) pa_nil)) (pa_cons pe_non pa_nil))))))) pa_nil))))
      (pss_one (ps_ret (pe_cmpR (op_eqSL hu64) (LX.pe_lcF (E := L2.E0) (own := [("_law_tree", 5)]) (g := gName 5) (tt := tYes) rfl rfl L2.takes0 (fun _ _ _ _ z => z) rfl sc_l_known.nd (pi_listK K rfl (pv 3)) (blkOk_by (N := N_l_known) (sc := defScope s_l_known) (by decide +kernel)) (fun _ _ _ _ _ => (pg_name (i := 5) sc_l_known.nd rfl (Or.inr rfl))) (fun _ _ _ _ _ => pts_nil) (fun _ _ _ _ _ hcf => (PE.imp' (t' := tWL T.C_BadName T.C_BadRow (Lm.tt2 T.P_law T.P_ix "law" "_law_known") _) (by exact (Lm.pe_callZC (hcf (fun _ _ _ => rfl)) (fun B => ok_l_word T) (hr.mono (by decide)) rfl T.mg_l_word T.F_l_word.kp T.b_l_word .nil (pa_cons (Lm.pe_lamB (k := 13) (T := Lm.tt2 T.P_law T.P_ix "law" "_law_known") TBx rfl Lm.tt2_r (Lm.tt2_ur T.nPP) (Lm.lamG_by (N := N_l_known) (sc := { kind := .function, names := [(PySem.Str.ofString ".0", .local), (PySem.Str.ofString "_law_tree", .cell), (PySem.Str.ofString "_law_word", .globalImplicit), (PySem.Str.ofString "_law_shapes_here", .cell)], isGenerator := false, isCoroutine := false, more := [] }) (by decide +kernel)) rfl (fun _ _ _ _ _ _ => rfl) (fun B hB A outer s H E f c' hr => (pe_call (ok_checked T) (hr.mono (by decide)) rfl T.mg_checked T.F_checked.kp T.b1_checked T.d1_checked (passes_call (takes_of rfl rfl rfl rfl) (fun _ _ _ _ z => z)) (pa_cons (pv 5) (pa_cons (pv 4) pa_nil))))) pa_nil))) (fun _ _ _ h => wl_imp h)))) (pe_lst (pa_cons pe_str (pa_cons pe_str (pa_cons pe_str (pa_cons pe_str pa_nil))))) (nomark _)))))))))), ?_⟩
    rw [show L2.start N_l_known [] = [none, none, none, none, none, none] from rfl]
    refine ⟨fun σ' H2 => ∃ hd d t1 t2, σ' = [some (.ref hd), none, none, none, some (.ref d), none] ∧ KnS H H2 hd d t1 t2, ?_, ?_⟩
    · simp? only [tDisp, tPairs]
      intro p hp p1 hp1 p2 hp2
      have np1 : p ≠ p1 := fun z => by rw [z, upd_same] at hp1; cases hp1
      have np2 : p ≠ p2 := fun z => by rw [← z, upd_ne np1, upd_same] at hp2; cases hp2
      have n12 : p1 ≠ p2 := fun z => by rw [z, upd_same] at hp2; cases hp2
      have hp1' : H p1 = none := by rw [upd_ne np1.symm] at hp1; exact hp1
      have hp2' : H p2 = none := by rw [upd_ne n12.symm, upd_ne np2.symm] at hp2; exact hp2
      refine ⟨by rw [upd_ne np2, upd_ne np1, upd_same], [(Sum.inr (Str.ofString "ta"), .ref p1), (Sum.inr (Str.ofString "tb"), .ref p2)], rfl, by simp, ?_⟩
      rw [show mergeK [] [((Sum.inr (Str.ofString "ta") : Key), V.ref p1), (Sum.inr (Str.ofString "tb"), .ref p2)] = [(Sum.inr (Str.ofString "ta"), .ref p1), (Sum.inr (Str.ofString "tb"), .ref p2)] from rfl]
      have sA : Same H (upd (upd (upd (upd H p (HO.dK [])) p1 (HO.tup [V.str (Str.ofString "k"), V.str (Str.ofString "x")])) p2 (HO.tup [V.str (Str.ofString "k"), V.str (Str.ofString "y")])) p (.dK [(Sum.inr (Str.ofString "ta"), .ref p1), (Sum.inr (Str.ofString "tb"), .ref p2)])) :=
        Same.updFree (Same.updFree (Same.updFree (same_new hp) hp1') hp2') hp
      have ed : upd (upd (upd (upd H p (HO.dK [])) p1 (HO.tup [V.str (Str.ofString "k"), V.str (Str.ofString "x")])) p2 (HO.tup [V.str (Str.ofString "k"), V.str (Str.ofString "y")])) p (.dK [(Sum.inr (Str.ofString "ta"), .ref p1), (Sum.inr (Str.ofString "tb"), .ref p2)]) p = some (.dK [(Sum.inr (Str.ofString "ta"), .ref p1), (Sum.inr (Str.ofString "tb"), .ref p2)]) := upd_same
      have e1 : upd (upd (upd (upd H p (HO.dK [])) p1 (HO.tup [V.str (Str.ofString "k"), V.str (Str.ofString "x")])) p2 (HO.tup [V.str (Str.ofString "k"), V.str (Str.ofString "y")])) p (.dK [(Sum.inr (Str.ofString "ta"), .ref p1), (Sum.inr (Str.ofString "tb"), .ref p2)]) p1 = some (HO.tup [V.str (Str.ofString "k"), V.str (Str.ofString "x")]) := by rw [upd_ne np1.symm, upd_ne n12, upd_same]
      have e2 : upd (upd (upd (upd H p (HO.dK [])) p1 (HO.tup [V.str (Str.ofString "k"), V.str (Str.ofString "x")])) p2 (HO.tup [V.str (Str.ofString "k"), V.str (Str.ofString "y")])) p (.dK [(Sum.inr (Str.ofString "ta"), .ref p1), (Sum.inr (Str.ofString "tb"), .ref p2)]) p2 = some (HO.tup [V.str (Str.ofString "k"), V.str (Str.ofString "y")]) := by rw [upd_ne np2.symm, upd_same]
      generalize upd (upd (upd (upd H p (HO.dK [])) p1 (HO.tup [V.str (Str.ofString "k"), V.str (Str.ofString "x")])) p2 (HO.tup [V.str (Str.ofString "k"), V.str (Str.ofString "y")])) p (.dK [(Sum.inr (Str.ofString "ta"), .ref p1), (Sum.inr (Str.ofString "tb"), .ref p2)]) = G at *
      intro p3 hp3 p4 hp4
      have s3 := same_new (o := .tup [V.str (Str.ofString "ask"), V.str (Str.ofString "pick")]) hp3
      have s4 := same_new (o := .tup [V.ref p, V.ref p3]) hp4
      have s34 := s3.trans s4
      exact ⟨p1, p2, ⟨sA.trans s34, s4 _ _ upd_same, s34 _ _ ed, s34 _ _ e1, s34 _ _ e2⟩⟩
    rintro σ' H2 ⟨hd, d, t1, t2, rfl, k2⟩
    refine ⟨fun σ' H3 => ∃ b g, σ' = [some (.ref hd), some (.ref b), some (.ref g), none, some (.ref d), none] ∧ Same H2 H3 ∧ RX H3 (.ref b) (Nm.Tr.dx (.fld "" "q")) ∧ RX H3 (.ref g) (Nm.Tr.dx (.fld "" "x")), ?_, ?_⟩
    · simp? only []
      intro p0 hp0
      have s_p0 := same_new (o := .tup [V.str Wd.field.s, V.str (Str.ofString ""), V.str (Str.ofString "q")]) hp0
      have e_p0 := upd_same (H := H2) (a := p0) (o := .tup [V.str Wd.field.s, V.str (Str.ofString ""), V.str (Str.ofString "q")])
      generalize upd H2 p0 (.tup [V.str Wd.field.s, V.str (Str.ofString ""), V.str (Str.ofString "q")]) = G0 at s_p0 e_p0 ⊢
      intro p1 hp1
      have s_p1 := same_new (o := .tup [V.str Wd.field.s, V.str (Str.ofString ""), V.str (Str.ofString "x")]) hp1
      have e_p1 := upd_same (H := G0) (a := p1) (o := .tup [V.str Wd.field.s, V.str (Str.ofString ""), V.str (Str.ofString "x")])
      generalize upd G0 p1 (.tup [V.str Wd.field.s, V.str (Str.ofString ""), V.str (Str.ofString "x")]) = G1 at s_p1 e_p1 ⊢
      intro p2 hp2
      have s_p2 := same_new (o := .tup [V.ref p0, V.ref p1]) hp2
      have e_p2 := upd_same (H := G1) (a := p2) (o := .tup [V.ref p0, V.ref p1])
      generalize upd G1 p2 (.tup [V.ref p0, V.ref p1]) = G2 at s_p2 e_p2 ⊢
      exact ⟨(s_p0.trans s_p1).trans s_p2, RX.same (s_p1.trans s_p2) (by unfold Nm.Tr.dx; exact rx_tup e_p0 (rxs_cons (rx_str _) (rxs_cons (rx_str _) (rxs_cons (rx_str _) rxs_nil)))), RX.same s_p2 (by unfold Nm.Tr.dx; exact rx_tup e_p1 (rxs_cons (rx_str _) (rxs_cons (rx_str _) (rxs_cons (rx_str _) rxs_nil))))⟩
    rintro σ' H3 ⟨b, g, rfl, s3, rb, rg⟩
    have ehd := s3 _ _ k2.hd
    refine ⟨fun σ' H4 => ∃ L v1, σ' = [some (.ref hd), some (.ref b), some (.ref g), some (.ref L), some (.ref d), none] ∧ Same H3 H4 ∧ H3 L = none ∧ H4 L = some (.lst [v1]) ∧ RX H4 v1 kT1.dx, ?_, ?_⟩
    · simp? only [ehd]
      intro p0 hp0
      have s_p0 := same_new (o := .tup [V.ref g]) hp0
      have e_p0 := upd_same (H := H3) (a := p0) (o := .tup [V.ref g])
      generalize upd H3 p0 (.tup [V.ref g]) = G0 at s_p0 e_p0 ⊢
      intro p1 hp1
      have s_p1 := same_new (o := .tup [V.str (Str.ofString "ta"), V.str (Str.ofString "tb"), V.str (Str.ofString "tb")]) hp1
      have e_p1 := upd_same (H := G0) (a := p1) (o := .tup [V.str (Str.ofString "ta"), V.str (Str.ofString "tb"), V.str (Str.ofString "tb")])
      generalize upd G0 p1 (.tup [V.str (Str.ofString "ta"), V.str (Str.ofString "tb"), V.str (Str.ofString "tb")]) = G1 at s_p1 e_p1 ⊢
      intro p2 hp2
      have s_p2 := same_new (o := .tup []) hp2
      have e_p2 := upd_same (H := G1) (a := p2) (o := .tup [])
      generalize upd G1 p2 (.tup []) = G2 at s_p2 e_p2 ⊢
      intro pf hpf
      have s_pf := same_new (o := .tup [V.ref p0, V.ref p1, V.non, V.ref p2, V.non]) hpf
      have e_pf := upd_same (H := G2) (a := pf) (o := .tup [V.ref p0, V.ref p1, V.non, V.ref p2, V.non])
      generalize upd G2 pf (.tup [V.ref p0, V.ref p1, V.non, V.ref p2, V.non]) = G3 at s_pf e_pf ⊢
      refine ⟨_, (by rw [show G3 hd = some (.tup [.str "ask", .str "pick"]) from s_pf _ _ ( s_p2 _ _ ( s_p1 _ _ ( s_p0 _ _ (ehd))))]; rfl), szl (by decide), fun q G s_q e_q => ?_⟩
      have rq : RX G (.ref q) kT1.dx := Nm.rx_of_tpO e_q (rxs_cons (rx_str _) (rxs_cons (rx_str _) (rxs_cons (rx_tup ((s_p1.trans (s_p2.trans (s_pf.trans s_q))) _ _ e_p0) (rxs_cons (RX.same (s_p0.trans (s_p1.trans (s_p2.trans (s_pf.trans s_q)))) rg) rxs_nil)) (rxs_cons (rx_tup ((s_p2.trans (s_pf.trans s_q)) _ _ e_p1) (rxs_cons (rx_str _) (rxs_cons (rx_str _) (rxs_cons (rx_str _) rxs_nil)))) (rxs_cons rx_non (rxs_cons (rx_tup ((s_pf.trans s_q) _ _ e_p2) rxs_nil) (rxs_cons rx_non rxs_nil)))))))
      have sq := (s_p0.trans (s_p1.trans (s_p2.trans (s_pf.trans s_q))))
      intro L hL
      have sL := same_new (o := .lst [V.ref q]) hL
      exact ⟨sq.trans sL, sq.free hL, RX.same sL rq⟩
    rintro σ' H4 ⟨L, v1, rfl, s4, nL, eL, r1⟩
    have ehd := s4 _ _ ehd
    refine ⟨fun σ' H5 => ∃ v2, σ' = [some (.ref hd), some (.ref b), some (.ref g), some (.ref L), some (.ref d), none] ∧ Keep [L] H4 H5 ∧ H5 L = some (.lst [v1, v2]) ∧ RX H5 v2 kT2.dx, ?_, ?_⟩
    · simp? only [ehd]
      refine ⟨by rw [tyV_list (by rw [eL]; exact fun z => by cases z)]; trivial, ?_⟩
      intro p0 hp0
      have s_p0 := same_new (o := .tup [V.str Wd.field.s, V.str (Str.ofString "tb"), V.str (Str.ofString "k")]) hp0
      have e_p0 := upd_same (H := H4) (a := p0) (o := .tup [V.str Wd.field.s, V.str (Str.ofString "tb"), V.str (Str.ofString "k")])
      generalize upd H4 p0 (.tup [V.str Wd.field.s, V.str (Str.ofString "tb"), V.str (Str.ofString "k")]) = G0 at s_p0 e_p0 ⊢
      intro p1 hp1
      have s_p1 := same_new (o := .tup [V.ref p0]) hp1
      have e_p1 := upd_same (H := G0) (a := p1) (o := .tup [V.ref p0])
      generalize upd G0 p1 (.tup [V.ref p0]) = G1 at s_p1 e_p1 ⊢
      intro p2 hp2
      have s_p2 := same_new (o := .tup [V.str (Str.ofString "ta")]) hp2
      have e_p2 := upd_same (H := G1) (a := p2) (o := .tup [V.str (Str.ofString "ta")])
      generalize upd G1 p2 (.tup [V.str (Str.ofString "ta")]) = G2 at s_p2 e_p2 ⊢
      intro p3 hp3
      have s_p3 := same_new (o := .tup []) hp3
      have e_p3 := upd_same (H := G2) (a := p3) (o := .tup [])
      generalize upd G2 p3 (.tup []) = G3 at s_p3 e_p3 ⊢
      intro pf hpf
      have s_pf := same_new (o := .tup [V.ref p1, V.ref p2, V.non, V.ref p3, V.non]) hpf
      have e_pf := upd_same (H := G3) (a := pf) (o := .tup [V.ref p1, V.ref p2, V.non, V.ref p3, V.non])
      generalize upd G3 pf (.tup [V.ref p1, V.ref p2, V.non, V.ref p3, V.non]) = G4 at s_pf e_pf ⊢
      refine ⟨_, (by rw [show G4 hd = some (.tup [.str "ask", .str "pick"]) from s_pf _ _ ( s_p3 _ _ ( s_p2 _ _ ( s_p1 _ _ ( s_p0 _ _ (ehd)))))]; rfl), szl (by decide), fun q G s_q e_q => ?_⟩
      have rq : RX G (.ref q) kT2.dx := Nm.rx_of_tpO e_q (rxs_cons (rx_str _) (rxs_cons (rx_str _) (rxs_cons (rx_tup ((s_p2.trans (s_p3.trans (s_pf.trans s_q))) _ _ e_p1) (rxs_cons (RX.same (s_p1.trans (s_p2.trans (s_p3.trans (s_pf.trans s_q)))) (by unfold Nm.Tr.dx; exact rx_tup e_p0 (rxs_cons (rx_str _) (rxs_cons (rx_str _) (rxs_cons (rx_str _) rxs_nil))))) rxs_nil)) (rxs_cons (rx_tup ((s_p3.trans (s_pf.trans s_q)) _ _ e_p2) (rxs_cons (rx_str _) rxs_nil)) (rxs_cons rx_non (rxs_cons (rx_tup ((s_pf.trans s_q) _ _ e_p3) rxs_nil) (rxs_cons rx_non rxs_nil)))))))
      have sq := (s_p0.trans (s_p1.trans (s_p2.trans (s_p3.trans (s_pf.trans s_q)))))
      have eL5 := sq _ _ eL
      have sd : Std G (upd G L (.lst ([v1] ++ [V.ref q]))) := Nm.Std.upd eL5 ⟨_, rfl⟩
      exact ⟨_, eL5, szl' (by simp), Keep.upd (Keep.ofSame sq) (by simp), _, rfl, rq.std sd (Nm.smNoL _)⟩
    rintro σ' H5 ⟨v2, rfl, kL, eL5, r2⟩
    have d5 : Std H4 H5 := fun b o e n => kL b o (fun z => by rw [List.mem_singleton.mp z, eL] at e; exact n _ (Option.some.inj e).symm) e
    have ehd := d5 _ _ ehd (by intro xs z; cases z)
    have rb5 := (RX.same s4 rb).std d5 (Nm.trNoL _)
    have rg5 := (RX.same s4 rg).std d5 (Nm.trNoL _)
    have r15 := r1.std d5 (Nm.smNoL _)
    refine ⟨fun σ' H6 => ∃ L3 v3, σ' = [some (.ref hd), some (.ref b), some (.ref g), some (.ref L3), some (.ref d), none] ∧ Same H5 H6 ∧ H6 L3 = some (.lst [v1, v2, v3]) ∧ RX H6 v3 kT3.dx, ?_, ?_⟩
    · simp? only [ehd]
      intro p0 hp0
      have s_p0 := same_new (o := .tup [V.ref b]) hp0
      have e_p0 := upd_same (H := H5) (a := p0) (o := .tup [V.ref b])
      generalize upd H5 p0 (.tup [V.ref b]) = G0 at s_p0 e_p0 ⊢
      intro p1 hp1
      have s_p1 := same_new (o := .tup [V.str (Str.ofString "ta")]) hp1
      have e_p1 := upd_same (H := G0) (a := p1) (o := .tup [V.str (Str.ofString "ta")])
      generalize upd G0 p1 (.tup [V.str (Str.ofString "ta")]) = G1 at s_p1 e_p1 ⊢
      intro p2 hp2
      have s_p2 := same_new (o := .tup [V.str Wd.field.s, V.str (Str.ofString ""), V.str (Str.ofString "zz")]) hp2
      have e_p2 := upd_same (H := G1) (a := p2) (o := .tup [V.str Wd.field.s, V.str (Str.ofString ""), V.str (Str.ofString "zz")])
      generalize upd G1 p2 (.tup [V.str Wd.field.s, V.str (Str.ofString ""), V.str (Str.ofString "zz")]) = G2 at s_p2 e_p2 ⊢
      intro p3 hp3
      have s_p3 := same_new (o := .tup [V.ref p2]) hp3
      have e_p3 := upd_same (H := G2) (a := p3) (o := .tup [V.ref p2])
      generalize upd G2 p3 (.tup [V.ref p2]) = G3 at s_p3 e_p3 ⊢
      intro pf hpf
      have s_pf := same_new (o := .tup [V.ref p0, V.ref p1, V.non, V.ref p3, V.non]) hpf
      have e_pf := upd_same (H := G3) (a := pf) (o := .tup [V.ref p0, V.ref p1, V.non, V.ref p3, V.non])
      generalize upd G3 pf (.tup [V.ref p0, V.ref p1, V.non, V.ref p3, V.non]) = G4 at s_pf e_pf ⊢
      refine ⟨_, (by rw [show G4 hd = some (.tup [.str "ask", .str "pick"]) from s_pf _ _ ( s_p3 _ _ ( s_p2 _ _ ( s_p1 _ _ ( s_p0 _ _ (ehd)))))]; rfl), szl (by decide), fun q G s_q e_q => ?_⟩
      have rq : RX G (.ref q) kT3.dx := Nm.rx_of_tpO e_q (rxs_cons (rx_str _) (rxs_cons (rx_str _) (rxs_cons (rx_tup ((s_p1.trans (s_p2.trans (s_p3.trans (s_pf.trans s_q)))) _ _ e_p0) (rxs_cons (RX.same (s_p0.trans (s_p1.trans (s_p2.trans (s_p3.trans (s_pf.trans s_q))))) rb5) rxs_nil)) (rxs_cons (rx_tup ((s_p2.trans (s_p3.trans (s_pf.trans s_q))) _ _ e_p1) (rxs_cons (rx_str _) rxs_nil)) (rxs_cons rx_non (rxs_cons (rx_tup ((s_pf.trans s_q) _ _ e_p3) (rxs_cons (RX.same (s_p3.trans (s_pf.trans s_q)) (by unfold Nm.Tr.dx; exact rx_tup e_p2 (rxs_cons (rx_str _) (rxs_cons (rx_str _) (rxs_cons (rx_str _) rxs_nil))))) rxs_nil)) (rxs_cons rx_non rxs_nil)))))))
      have sq := (s_p0.trans (s_p1.trans (s_p2.trans (s_p3.trans (s_pf.trans s_q)))))
      intro p9 hp9
      have s9 := same_new (o := .lst [V.ref q]) hp9
      refine ⟨_, s9 _ _ (sq _ _ eL5), szl (by simp), fun p8 hp8 => ?_⟩
      have s8 := same_new (o := .lst ([v1, v2] ++ [V.ref q])) hp8
      exact ⟨sq.trans (s9.trans s8), _, rfl, RX.same (s9.trans s8) rq⟩
    rintro σ' H6 ⟨L3, v3, rfl, s6, eL6, r3⟩
    have ehd := s6 _ _ ehd
    have rb6 := RX.same s6 rb5
    have rg6 := RX.same s6 rg5
    refine ⟨fun σ' H7 => ∃ L4 v4, σ' = [some (.ref hd), some (.ref b), some (.ref g), some (.ref L4), some (.ref d), none] ∧ Same H6 H7 ∧ H7 L4 = some (.lst [v1, v2, v3, v4]) ∧ RX H7 v4 kT4.dx, ?_, ?_⟩
    · simp? only [ehd]
      intro p0 hp0
      have s_p0 := same_new (o := .tup [V.ref g]) hp0
      have e_p0 := upd_same (H := H6) (a := p0) (o := .tup [V.ref g])
      generalize upd H6 p0 (.tup [V.ref g]) = G0 at s_p0 e_p0 ⊢
      intro p1 hp1
      have s_p1 := same_new (o := .tup [V.str (Str.ofString "ta")]) hp1
      have e_p1 := upd_same (H := G0) (a := p1) (o := .tup [V.str (Str.ofString "ta")])
      generalize upd G0 p1 (.tup [V.str (Str.ofString "ta")]) = G1 at s_p1 e_p1 ⊢
      intro p2 hp2
      have s_p2 := same_new (o := .tup [V.str Wd.eq.s, V.ref b, V.ref g]) hp2
      have e_p2 := upd_same (H := G1) (a := p2) (o := .tup [V.str Wd.eq.s, V.ref b, V.ref g])
      generalize upd G1 p2 (.tup [V.str Wd.eq.s, V.ref b, V.ref g]) = G2 at s_p2 e_p2 ⊢
      intro p3 hp3
      have s_p3 := same_new (o := .tup [V.str Wd.field.s, V.str (Str.ofString ""), V.str (Str.ofString "zz")]) hp3
      have e_p3 := upd_same (H := G2) (a := p3) (o := .tup [V.str Wd.field.s, V.str (Str.ofString ""), V.str (Str.ofString "zz")])
      generalize upd G2 p3 (.tup [V.str Wd.field.s, V.str (Str.ofString ""), V.str (Str.ofString "zz")]) = G3 at s_p3 e_p3 ⊢
      intro p4 hp4
      have s_p4 := same_new (o := .tup [V.ref p3]) hp4
      have e_p4 := upd_same (H := G3) (a := p4) (o := .tup [V.ref p3])
      generalize upd G3 p4 (.tup [V.ref p3]) = G4 at s_p4 e_p4 ⊢
      intro pf hpf
      have s_pf := same_new (o := .tup [V.ref p0, V.ref p1, V.ref p2, V.ref p4, V.non]) hpf
      have e_pf := upd_same (H := G4) (a := pf) (o := .tup [V.ref p0, V.ref p1, V.ref p2, V.ref p4, V.non])
      generalize upd G4 pf (.tup [V.ref p0, V.ref p1, V.ref p2, V.ref p4, V.non]) = G5 at s_pf e_pf ⊢
      refine ⟨_, (by rw [show G5 hd = some (.tup [.str "ask", .str "pick"]) from s_pf _ _ ( s_p4 _ _ ( s_p3 _ _ ( s_p2 _ _ ( s_p1 _ _ ( s_p0 _ _ (ehd))))))]; rfl), szl (by decide), fun q G s_q e_q => ?_⟩
      have rq : RX G (.ref q) kT4.dx := Nm.rx_of_tpO e_q (rxs_cons (rx_str _) (rxs_cons (rx_str _) (rxs_cons (rx_tup ((s_p1.trans (s_p2.trans (s_p3.trans (s_p4.trans (s_pf.trans s_q))))) _ _ e_p0) (rxs_cons (RX.same (s_p0.trans (s_p1.trans (s_p2.trans (s_p3.trans (s_p4.trans (s_pf.trans s_q)))))) rg6) rxs_nil)) (rxs_cons (rx_tup ((s_p2.trans (s_p3.trans (s_p4.trans (s_pf.trans s_q)))) _ _ e_p1) (rxs_cons (rx_str _) rxs_nil)) (rxs_cons (by show RX _ _ (Nm.Tr.dx (.node "=" [.fld "" "q", .fld "" "x"])); unfold Nm.Tr.dx Nm.Tr.dxL Nm.Tr.dxL Nm.Tr.dxL; exact rx_tup ((s_p3.trans (s_p4.trans (s_pf.trans s_q))) _ _ e_p2) (rxs_cons (rx_str _) (rxs_cons (RX.same (s_p0.trans (s_p1.trans (s_p2.trans (s_p3.trans (s_p4.trans (s_pf.trans s_q)))))) rb6) (rxs_cons (RX.same (s_p0.trans (s_p1.trans (s_p2.trans (s_p3.trans (s_p4.trans (s_pf.trans s_q)))))) rg6) rxs_nil)))) (rxs_cons (rx_tup ((s_pf.trans s_q) _ _ e_p4) (rxs_cons (RX.same (s_p4.trans (s_pf.trans s_q)) (by unfold Nm.Tr.dx; exact rx_tup e_p3 (rxs_cons (rx_str _) (rxs_cons (rx_str _) (rxs_cons (rx_str _) rxs_nil))))) rxs_nil)) (rxs_cons rx_non rxs_nil)))))))
      have sq := (s_p0.trans (s_p1.trans (s_p2.trans (s_p3.trans (s_p4.trans (s_pf.trans s_q))))))
      intro p9 hp9
      have s9 := same_new (o := .lst [V.ref q]) hp9
      refine ⟨_, s9 _ _ (sq _ _ eL6), szl (by simp), fun p8 hp8 => ?_⟩
      have s8 := same_new (o := .lst ([v1, v2, v3] ++ [V.ref q])) hp8
      exact ⟨sq.trans (s9.trans s8), _, rfl, RX.same (s9.trans s8) rq⟩
    rintro σ' H7 ⟨L4, v4, rfl, s7, eL7, r4⟩
    simp? only [tLc_eq, iList, eL7, tWL]
    have std27 : Std H2 H7 := ((((Std.ofSame s3).trans (Std.ofSame s4)).trans d5).trans (Std.ofSame s6)).trans (Std.ofSame s7)
    have S7 : SH H7 d [(Str.ofString "ta", t1, [Str.ofString "k", Str.ofString "x"]), (Str.ofString "tb", t2, [Str.ofString "k", Str.ofString "y"])] := by
      refine ⟨std27 _ _ k2.d (by intro xs z; cases z), fun e he => ?_, fun e he => ?_, ⟨by simp, fun e he => ?_⟩, (by decide +kernel : ([Str.ofString "ta", Str.ofString "tb"] : List Str).Nodup), fun e he => ?_⟩
      all_goals
        simp only [List.mem_cons, List.mem_nil_iff, or_false] at he
      · rcases he with rfl | rfl
        · rw [std27 _ _ k2.t1 (by intro xs z; cases z)]; rfl
        · rw [std27 _ _ k2.t2 (by intro xs z; cases z)]; rfl
      · rcases he with rfl | rfl <;> (dsimp only; exact ⟨by decide +kernel, by decide +kernel⟩)
      · rcases he with rfl | rfl <;> (dsimp only; exact ⟨by simp, by simp⟩)
      · rcases he with rfl | rfl <;> (dsimp only; exact ⟨by decide +kernel, by decide +kernel⟩)
    have hT7 : Lm.TabF (TT T) H7 := hT.ext (fun b o e z => std27 b o (k2.same b o e) (fun xs q => by rw [q] at z; exact z)) (fun b ps e => std27 b _ (k2.same b _ e) (by intro xs q; cases q))
    have R1 : RX H7 v1 kT1.dx := RX.same s7 (RX.same s6 r15)
    have R2 : RX H7 v2 kT2.dx := RX.same s7 (RX.same s6 r2)
    have R3 : RX H7 v3 kT3.dx := RX.same s7 r3
    have e07 : LamX.ExtN H H7 := fun b o e n => by
      have e3 := s3 _ _ (k2.same b o e)
      have nb : b ∉ [L] := fun z => by rw [List.mem_singleton.mp z, nL] at e3; cases e3
      exact s7 _ _ (s6 _ _ (kL _ _ nb (s4 _ _ e3)))
    refine ⟨⟨_, .inl (.inl eL7)⟩, lcB_it fun D hD => ?_⟩
    refine lc_it (walk_list (xs := [v1, v2, v3, v4])) (fun j H8 => LamX.ExtN H7 H8 ∧ Lm.TabF (TT T) H8 ∧ H8 D = some (.lst ((kDue.take j).map V.str)))
      ⟨LamX.ExtN.of (same_new hD), hT7.ext (Lm.KeepF.of (same_new hD)) (Lm.KeepT.of (same_new hD)), upd_same⟩ (fun _ H8 _ ⟨e8, _, _⟩ => .inl (.inl (e8 _ _ eL7 (by intro ps z; cases z)))) ?_ ?_
    · rintro j x H8 H9 hj ⟨e8, T8, eD⟩ ⟨rfl, hx⟩
      simp? only [gName, tWL]
      refine ⟨T8, fun H10 e10 T10 E2 Qn h1 h2 h3 => ?_⟩
      have e80 := e8.trans e10
      have eD10 := e10 _ _ eD (by intro ps z; cases z)
      have S10 := S7.extN e80
      have one : ∀ (st : Nm.Sm) (w : Str), RX H7 x st.dx → kDue[j]? = some w → Nm.SmW st → (∀ t f, st ≠ .index t f) → Nm.chk kS [] st = .error (.word w) → spChecked T.C_Names T.C_BadName T.C_BadRow [x, V.ref d, V.ref T.e1_checked] H10 Qn E2 := fun st w r hw ok nix hc => by
        obtain ⟨a, us, rfl, _, _⟩ : ∃ a us, x = .ref a ∧ tpO (H7 a) = some us ∧ True := by
          obtain ⟨ds, hds⟩ : ∃ ds, st.dx = .tup ds := by cases st <;> exact ⟨_, rfl⟩
          rw [hds] at r
          obtain ⟨a, us, e, h, _⟩ := Nm.rx_tpO r
          exact ⟨a, us, e, h, trivial⟩
        refine ⟨a, d, _, _, [], st, rfl, S10, r.extN e80, ok, fun t f e => absurd e (nix t f), fun st' e => ?_, fun y e => ?_, fun e => ?_⟩
        · change Nm.chk kS [] st = _ at e
          rw [hc] at e
          cases e
        · change Nm.chk kS [] st = _ at e
          rw [hc] at e
          cases e
          intro H11 d2 km ed
          have s11 : Same H10 H11 := km.same
          refine h1 w d2 H11 ed ?_
          have eD11 := s11 _ _ eD10
          refine ⟨_, eD11, szl' (by rw [List.length_map, List.length_take]; have : kDue.length = 4 := rfl; omega), ?_, ?_, ?_⟩
          · exact fun b o e n => by
              rw [upd_ne (ne_of_none e hD)]
              exact s11 _ _ (e80 b o e n)
          · exact (T10.ext (Lm.KeepF.of s11) (Lm.KeepT.of s11)).ext (Lm.KeepF.upd (fun u e => by rw [eD11] at e; cases e; exact fun z => z)) (Lm.KeepT.upd (fun ps e => by rw [eD11] at e; cases e))
          · rw [List.take_add_one, hw, List.map_append]
            rfl
        · change Nm.chk kS [] st = _ at e
          rw [hc] at e
          cases e
      match j, hj, hx with
      | 0, _, hx => cases hx; exact one kT1 "tb" R1 rfl kT1_ok (fun _ _ => by intro z; cases z) rfl
      | 1, _, hx => cases hx; exact one kT2 "tb" R2 rfl kT2_ok (fun _ _ => by intro z; cases z) rfl
      | 2, _, hx => cases hx; exact one kT3 "q" R3 rfl kT3_ok (fun _ _ => by intro z; cases z) rfl
      | 3, _, hx => cases hx; exact one kT4 "q" r4 rfl kT4_ok (fun _ _ => by intro z; cases z) rfl
    · rintro H8 ⟨e8, T8, eD⟩
      intro p hp
      have sp := same_new (o := .lst (kDue.map V.str)) hp
      refine ⟨D, rfl, kDue, by rw [show upd H8 p (HO.lst [V.str (Str.ofString "tb"), V.str (Str.ofString "tb"), V.str (Str.ofString "q"), V.str (Str.ofString "q")]) = upd H8 p (.lst (kDue.map V.str)) from rfl, sp _ _ eD]; rfl, kDue, rfl, ?_⟩
      rw [decide_eq_true rfl]
      exact k _ ((e07.trans e8).trans (LamX.ExtN.of sp)) (T8.ext (Lm.KeepF.of sp) (Lm.KeepT.of sp))
end

/-! fields without their tables, here and there -/
def spBare (n : Nat) : Sp := fun vs H Q _ => ∃ (h l d ta : Addr) (v : V) (es : List Sh) (ts : List Str) (c : Option Nm.Tr), vs = [.ref h, v, .ref d, .ref ta] ∧ BoxB H h l ∧ SH H d es ∧ tpO (H ta) = some (ts.map V.str) ∧ ts.length ≤ 8 ∧ RX H v (Nm.dxO c) ∧ (Nm.dxO c).deep ≤ n ∧ (Nm.dxO c).fits 8 ∧ (∀ t, c = some t → t.wk) ∧
  ∀ (v' : V) (c' : Option Nm.Tr) (H' : Hp), Nm.BrO (shp es) ts c c' → RX H' v' (Nm.dxO c') → BoxB H' h l → Keep [h, l] H H' → Q v' H'
theorem flds_notin {es : List Sh} {o : Str} (h : o ∉ es.map (·.1)) : Nm.flds (shp es) o = [] := by
  unfold Nm.flds
  have z : (shp es).find? (fun e => decide (e.1 = o)) = none := by
    rw [List.find?_eq_none]
    intro x hx
    unfold shp at hx
    obtain ⟨e, he, rfl⟩ := List.mem_map.mp hx
    intro q
    exact h (List.mem_map.mpr ⟨e, he, of_decide_eq_true q⟩)
  rw [z]
  rfl
section
variable {P : Program} {w : World} {K : PySem.W.Frag} {mg : Str → Option Value} {base : Heap}
theorem bare_step (T : Txt K mg) (n : Nat) (sp0 : Sp) (G_l_bare : FnOk P w K mg base CX0 (n + 1) T.f_l_bare T.fd_l_bare ["_law_h", "_law_tree", "_law_shapes_here", "_law_tables"] sp0) (h0 : ∀ e, n = e + 1 → sp0 = spBare e) :
    FnOk P w K mg base CX0 (n + 2) T.f_l_bare T.fd_l_bare ["_law_h", "_law_tree", "_law_shapes_here", "_law_tables"] (spBare n) := by
  have G_l_next : FnOk P w K mg base CX0 1 T.f_l_next T.fd_l_next ["_law_h", "_law_many"] spNext := ok_l_next T
  refine T.F_l_bare.ok sc_l_bare (fun vs H Q E h => ?_) (fun cdv A outer s H vs Q E hr h => ?_)
  · obtain ⟨h, l, d, ta, v, es, ts, c, rfl, _⟩ := h
    rfl
  · have hu := hu_of hr
    have hu64 := hu64_of hr
    obtain ⟨h, l, d, ta, v, es, ts, c, rfl, B, S, tt, tl, R, dp, ft, wk, k⟩ := h
    refine ⟨_, (pss_cons (ps_if (PW.pt (pw_or (pt_cmpR op_isN (pv 1) pe_non (nomark _)) (pw_or1 (pt_cmpR op_eq (pe_ix ix_tp (pv 1) pe_int (fun _ _ => rfl)) pe_str (nomark _))))) (pss_one (ps_ret (pv 1))) pss_nil)
      (pss_cons (ps_if (pt_cmpR op_eq (pe_ix ix_tp (pv 1) pe_int (fun _ _ => rfl)) pe_str (nomark _)) (pss_cons (ps_setLc (i := 4) (own := [("_law_table", 5)]) (g := gName 5) rfl sc_l_bare.nd rfl rfl (sw_true rfl rfl rfl (by decide +kernel)) (pi_tupK K rfl (pv 3)) (blkOk_by (N := N_l_bare) (sc := defScope s_l_bare) (by decide +kernel)) (fun _ _ _ _ _ => (pg_name (i := 5) sc_l_bare.nd rfl (Or.inl rfl))) (fun _ _ _ _ _ => pts_one (pt_cmpR op_inS (pe_ix ix_tp (pv 1) pe_int (fun _ _ => rfl)) (pe_get2 hu (pv 2) (pv 5) (pe_tup pa_nil)) (by rfl))) (fun _ _ _ _ _ => (pv 5)))
        (pss_one (ps_ret (pe_tup (pa_cons pe_str (pa_cons (pe_ifExp (PW.pt (pw_and (pt_cmpR (op_eqSL hu64) (pv 4) (pe_lst (pa_cons (pe_ix ix_tp (pv 1) pe_int (fun _ _ => rfl)) pa_nil)) (nomark _)) (pw_and1 (pt_cmpR op_eq (pe_call G_l_next (hr.mono (by show _ ≤ n + 1; omega)) rfl T.mg_l_next T.F_l_next.kp T.b_l_next .nil pass0 (pa_cons (pv 0) (pa_cons pe_int pa_nil))) pe_int (nomark _))))) pe_str (pe_ix ix_tp (pv 1) pe_int (fun _ _ => rfl))) (pa_cons (pe_ix ix_tp (pv 1) pe_int (fun _ _ => rfl)) pa_nil))))))) pss_nil)
      (pss_one (ps_ret (pe_op op_catS (pe_tup (pa_cons (pe_ix ix_tp (pv 1) pe_int (fun _ _ => rfl)) pa_nil)) (pe_callTy tuple_lst (by rfl) T.n_tuple (by decide +kernel) (pa_cons (pe_lc (own := [("_law_one", 6)]) (g := gName 6) (tt := tYes) rfl sc_l_bare.nd (pi_tupK K rfl (pe_slice sl_tp (pv 1) (po_some pe_int) po_none)) (blkOk_by (N := N_l_bare) (sc := defScope s_l_bare) (by decide +kernel)) (fun _ _ _ _ _ => (pg_name (i := 6) sc_l_bare.nd rfl (Or.inl rfl))) (fun _ _ _ _ _ => pts_nil) (fun _ _ _ _ _ => (pe_call G_l_bare (hr.mono (by show _ ≤ n + 1; omega)) rfl T.mg_l_bare T.F_l_bare.kp T.b_l_bare .nil pass0 (pa_cons (pv 0) (pa_cons (pv 6) (pa_cons (pv 2) (pa_cons (pv 3) pa_nil))))))) pa_nil))))))), ?_⟩
    rw [show L2.start N_l_bare [V.ref h, v, V.ref d, V.ref ta] = [some (V.ref h), some (v), some (V.ref d), some (V.ref ta), none, none, none] from rfl]
    cases c with
    | none =>
      have R : v = .non := by simpa only [Nm.dxO, RX] using R
      subst R
      simp? only []
      exact k .non none H rfl rx_non B Keep.refl
    | some t =>
      have wk := wk t rfl
      have R : RX H v t.dx := R
      cases t with
      | num z =>
        have R0 := R
        unfold Nm.Tr.dx at R
        obtain ⟨b, us, rfl, hb, r⟩ := Nm.rx_tpO R
        obtain ⟨u0, us, rfl, h0, r⟩ := Nm.rxs_un r
        obtain ⟨u1, us, rfl, h1, r⟩ := Nm.rxs_un r
        obtain rfl := Nm.rxs_no r
        obtain rfl := Nm.rx_s h0
        obtain rfl := Nm.rx_i h1
        simp? only [hb]
        exact k _ _ H (Nm.brO_refl (some (.num z))) R0 B Keep.refl
      | fld tt0 f =>
        unfold Nm.Tr.dx at R
        obtain ⟨b, us, rfl, hb, r⟩ := Nm.rx_tpO R
        obtain ⟨u0, us, rfl, h0, r⟩ := Nm.rxs_un r
        obtain ⟨u1, us, rfl, h1, r⟩ := Nm.rxs_un r
        obtain ⟨u2, us, rfl, h2, r⟩ := Nm.rxs_un r
        obtain rfl := Nm.rxs_no r
        obtain rfl := Nm.rx_s h0
        obtain rfl := Nm.rx_s h1
        obtain rfl := Nm.rx_s h2
        simp? only [hb, tLc_eq, iTup]
        refine ⟨⟨_, .inl (rd_tpO tt)⟩, ?_⟩
        refine lc_ents (walk_tup (xs := ts.map V.str)) ts (fun o => decide (f ∈ Nm.flds (shp es) o)) (fun o y _ => y = .str o) (by rw [List.length_map]) (by omega) (fun H' s => .inl (rd_tpO (tpO_same tt s))) (fun i H x H' h => by rw [h.1]; exact Same.refl _) (fun _ _ _ _ _ h _ _ => h) (fun j o x H6 H7 Q2 N he s6 hy g1 g2 => ?_) fun D H6 zs hD e1 s6 e2 e3 => ?_
        · obtain ⟨rfl, hx⟩ := hy
          rw [List.getElem?_map, he] at hx
          cases hx
          have S6 := S.same s6
          have hd6 := S6.at_
          have hb6 := tpO_same hb s6
          by_cases oin : o ∈ es.map (·.1)
          · obtain ⟨e, hes, rfl, hev⟩ := S.look oin
            have htp6 := S6.tups e hes
            rw [shp_flds S.nd e hes] at g1 g2
            dsimp? only [gName, hb6, hd6, hev, Option.getD_some]
            intro p hp
            have sp := same_new (o := .tup []) hp
            have hd7 := sp _ _ hd6
            dsimp? only [hd7, hev, Option.getD_some]
            refine ⟨e.2.2, .inr (tpO_same htp6 sp), ?_⟩
            rw [hasS_iff]
            by_cases c1 : f ∈ e.2.2
            · rw [if_pos (decide_eq_true c1)]
              exact g1 (decide_eq_true c1) _ _ sp rfl
            · rw [if_neg (by simpa using c1)]
              exact g2 (decide_eq_false c1) _ sp
          · have hev := valV_notin oin
            have hf : Nm.flds (shp es) o = [] := flds_notin oin
            rw [hf] at g1 g2
            dsimp? only [gName, hb6, hd6, hev, Option.getD_none]
            intro p hp
            have sp := same_new (o := .tup []) hp
            have hd7 := sp _ _ hd6
            dsimp? only [hd7, hev, Option.getD_none]
            refine ⟨[], .inr rfl, ?_⟩
            rw [if_neg (by simp [hasS])]
            exact g2 (by simp) _ sp
        · rw [zs_vals (f := V.str) e1 e3] at e2
          have hb6 := tpO_same hb s6
          dsimp? only [hb6, e2]
          intro p hp
          have sp := same_new (o := .lst [V.str tt0]) hp
          have B7 := (B.same s6).same sp
          refine ⟨ts.filter fun o => decide (f ∈ Nm.flds (shp es) o), by rw [sp _ _ e2]; rfl, [tt0], rfl, ?_⟩
          have hb7 := tpO_same hb6 sp
          have fin : ∀ {H7 : Hp} {x : Str}, Keep [h, l] H H7 → BoxB H7 h l → Nm.Br (shp es) ts (.fld tt0 f) (.fld x f) → ∀ q, H7 q = none → Q (.ref q) (upd H7 q (.tup [.str Wd.field.s, .str x, .str f])) := fun {H7 x} k7 B7 hbr q hq => by
            have sq := same_new (o := .tup [.str Wd.field.s, .str x, .str f]) hq
            refine k _ (some (.fld x f)) _ ⟨_, rfl, hbr⟩ ?_ (B7.same sq) (k7.trans (Keep.ofSame sq))
            show RX _ _ (Nm.Tr.dx (.fld x f))
            unfold Nm.Tr.dx
            exact rx_tup upd_same (rxs_cons (rx_str _) (rxs_cons (rx_str _) (rxs_cons (rx_str _) rxs_nil)))
          have k7 : Keep [h, l] H _ := Keep.ofSame (s6.trans sp)
          by_cases c1 : (ts.filter fun o => decide (f ∈ Nm.flds (shp es) o)) = [tt0]
          · rw [if_pos (decide_eq_true c1)]
            refine ⟨h, l, 2, rfl, B7, by decide, by decide, fun r H8 r0 r1 B8 k8 => ⟨rfl, ?_⟩⟩
            have hb8 := tpO_keep hb7 k8 (tpO_notin B7 hb7)
            dsimp? only [hb8]
            by_cases c2 : r = 0
            · rw [if_pos (by simp [c2])]
              exact fin (k7.trans k8) B8 (by unfold Nm.Br; exact .inr ⟨rfl, c1⟩)
            · rw [if_neg (by simp [c2])]
              exact fin (k7.trans k8) B8 (by unfold Nm.Br; exact .inl rfl)
          · rw [if_neg (by simpa using c1)]
            dsimp? only [hb7]
            exact fin k7 B7 (by unfold Nm.Br; exact .inl rfl)
      | node w ks =>
        obtain ⟨⟨wl, w1, w2, _⟩, wks⟩ := wk
        have R0 := R
        unfold Nm.Tr.dx at R
        obtain ⟨b, us, rfl, hb, r⟩ := Nm.rx_tpO R
        obtain ⟨u0, us, rfl, g0, r2⟩ := Nm.rxs_un r
        obtain rfl := Nm.rx_s g0
        rw [Nm.dxL_map] at r2
        simp? only [hb, tLc_eq, iTup]
        have w1 : ¬ w = Wd.num.s := w1
        have w2 : ¬ w = Wd.field.s := w2
        rw [if_neg (by simpa using w1), if_neg (by simpa using w2)]
        have ul : us.length = ks.length := by simpa using r2.len
        have kd : ∀ k ∈ ks, k.dx.deep + 1 ≤ n ∧ k.dx.fits 8 ∧ k.wk := fun k hk => by
          have hm : k.dx ∈ Nm.Tr.dxL ks := by rw [Nm.dxL_map]; exact List.mem_map.mpr ⟨k, hk, rfl⟩
          obtain ⟨i, hi⟩ := List.getElem?_of_mem hm
          have e1 : Dx.deep k.dx ≤ Dx.deepL (Nm.Tr.dxL ks) := Dx.deepL_at hi
          have e0 := Nm.node_deep (w := w) (ks := ks)
          have f0 : (Nm.Tr.dx (.node w ks)).fits 8 := ft
          rw [Nm.Tr.dx, Dx.fits, Dx.fitsL] at f0
          refine ⟨by rw [e0] at dp; omega, Dx.fitsL_at f0.2.2 hi, Nm.wkL_all.mp wks k hk⟩
        have kl : ks.length ≤ 7 := by
          have f0 : (Nm.Tr.dx (.node w ks)).fits 8 := ft
          rw [Nm.Tr.dx, Dx.fits] at f0
          have := f0.1
          rw [Nm.dxL_map, List.length_cons, List.length_map] at this
          omega
        intro p0 hp0
        have n0 : b ≠ p0 := fun z => by rw [z, hp0] at hb; cases hb
        refine ⟨_, (by rw [upd_ne n0]; exact hb), fun q H1 s1 e1 => ?_⟩
        rw [Nm.cutV_1, List.drop_succ_cons, List.drop_zero] at e1
        have s01 := (same_new (o := .tup [.str w]) hp0).trans s1
        have ep0 : H1 p0 = some (.tup [.str w]) := s1 _ _ upd_same
        have r1 := RXs.same s01 r2
        have B1 := B.same s01
        refine ⟨⟨_, .inl (rd_tpO e1)⟩, lcB_it fun D hD => ?_⟩
        have hn : n = (n - 1) + 1 := by
          have e0 := Nm.node_deep (w := w) (ks := ks)
          omega
        have hsp := h0 (n - 1) hn
        subst hsp
        have nD := B1.free hD
        have nl := noLL_all.mpr fun d hd => by
          obtain ⟨t, _, rfl⟩ := List.mem_map.mp (show d ∈ ks.map Nm.Tr.dx from hd)
          exact Nm.trNoL t
        refine lc_it (walk_tup (xs := us)) (fun j H4 => Keep [h, l] H1 H4 ∧ BoxB H4 h l ∧ ∃ ys ks', H4 D = some (.lst ys) ∧ RXs H4 ys (ks'.map Nm.Tr.dx) ∧ Nm.BrL (shp es) ts (ks.take j) ks') ⟨Keep.ofSame (same_new hD), B1.same (same_new hD), [], [], upd_same, rxs_nil, by unfold Nm.BrL; rfl⟩ (fun _ H4 _ ⟨k4, _⟩ => .inl (rd_tpO (tpO_keep e1 k4 (tpO_notin B1 e1)))) ?_ ?_
        · rintro j x H4 H5 hj ⟨k4, B4, ys, ks', eD, ry, hbr⟩ ⟨rfl, hx⟩
          obtain ⟨kj, hkj⟩ : ∃ kj, ks[j]? = some kj := ⟨_, List.getElem?_eq_getElem (by omega)⟩
          simp? only [gName]
          have hdj : (ks.map Nm.Tr.dx)[j]? = some kj.dx := by rw [List.getElem?_map, hkj]; rfl
          obtain ⟨u, hu1, ru⟩ := RXs.at r1 hdj
          rw [hx] at hu1
          cases hu1
          obtain ⟨kd1, kd2, kd3⟩ := kd kj (List.mem_of_getElem? hkj)
          have tk1 : ks.take (j + 1) = ks.take j ++ [kj] := by rw [List.take_add_one, hkj]; rfl
          have std4 := B1.std k4
          have S4 := (S.same s01).keepB B1 k4
          have tt1 := tpO_same tt s01
          have tt4 := tpO_keep tt1 k4 (tpO_notin B1 tt1)
          have yl : ys.length ≤ 7 := by
            have e := ry.len
            rw [List.length_map, Nm.brL_len hbr, List.length_take] at e
            omega
          refine ⟨h, l, d, ta, x, es, ts, some kj, rfl, B4, S4, tt4, tl, ru.std std4 (Nm.trNoL kj), (by show kj.dx.deep ≤ n - 1; omega), kd2, fun t ht => by cases ht; exact kd3, fun v' c' H6 hc r6 B6 k6 => ?_⟩
          obtain ⟨t', rfl, ht'⟩ := hc
          have std6 := B4.std k6
          have eD6 := k6 _ _ nD eD
          have r6 : RX H6 v' t'.dx := r6
          have ry6 : RXs H6 ys (ks'.map Nm.Tr.dx) := ry.std std6 (noLL_all.mpr fun d hd => by
            obtain ⟨t, _, rfl⟩ := List.mem_map.mp hd
            exact Nm.trNoL t)
          have sD : Std H6 (upd H6 D (.lst (ys ++ [v']))) := Nm.Std.upd eD6 ⟨_, rfl⟩
          refine ⟨ys, eD6, szl' (by omega), (k4.trans k6).updFree hD, B6.updNot nD, ks' ++ [t'], ?_, by rw [tk1]; exact Nm.brL_snoc ht' hbr⟩
          have := Nm.rxs_snoc ry6 r6
          rw [List.map_append]
          exact this.std sD (noLL_all.mpr fun d hd => by
            rcases List.mem_append.mp hd with z | z
            · obtain ⟨t, _, rfl⟩ := List.mem_map.mp z
              exact Nm.trNoL t
            · rw [List.mem_singleton.mp z]
              exact Nm.trNoL t')
        · rintro H4 ⟨k4, B4, ys, ks', eD, ry, hbr⟩
          have ep4 := k4 _ _ (B1.notin ep0 (by intro xs z; cases z)) ep0
          rw [ul, List.take_length] at hbr
          have yl : ys.length = ks.length := by
            have e := ry.len
            rw [List.length_map, Nm.brL_len hbr] at e
            exact e
          simp? only [eD]
          intro l0 hl0
          refine ⟨[.str w], (by rw [upd_ne (ne_of_none ep4 hl0), ep4]; rfl), szl (show [V.str w].length + ys.length ≤ 100000 by rw [List.length_singleton]; omega), fun p H' s' e' => ?_⟩
          have sa := (same_new (o := .tup ys) hl0).trans s'
          refine k (.ref p) (some (.node w ks')) H' ⟨_, rfl, by unfold Nm.Br; exact ⟨ks', rfl, hbr⟩⟩ ?_ (B4.same sa) ((Keep.ofSame s01).trans (k4.trans (Keep.ofSame sa)))
          show RX H' (.ref p) (Nm.Tr.dx (.node w ks'))
          rw [Nm.Tr.dx, Nm.dxL_map]
          exact Nm.rx_of_tpO e' (rxs_cons (rx_str w) (RXs.same sa ry))
theorem ok_l_bare (T : Txt K mg) : ∀ n : Nat, FnOk P w K mg base CX0 (n + 2) T.f_l_bare T.fd_l_bare ["_law_h", "_law_tree", "_law_shapes_here", "_law_tables"] (spBare n)
  | 0 => bare_step T 0 (fun _ _ _ _ => False) (T.F_l_bare.ok sc_l_bare (fun vs H Q E h => h.elim) (fun cdv A outer s H vs Q E hr h => h.elim)) (fun e h => absurd h (by omega))
  | n + 1 => bare_step T (n + 1) (spBare n) (ok_l_bare T n) (fun e h => by cases h; rfl)
end

/-! the law: names looked up -/
def spLaw (K : PySem.W.Frag) (P Px : Addr) : Sp := fun vs H Q _ => ∃ (a : Addr) (ns : List Int), vs = [.ref a] ∧ SqL K H a (ns.map V.int) ∧ ns.length ≤ 63 ∧ H P = some (.tbl #[]) ∧ H Px = some (.tbl #[]) ∧ ∀ H', Q (.bl true) H'
theorem at6 {α : Type} {a b c d e f g : α} {r : List α} : atI (a :: b :: c :: d :: e :: f :: g :: r) 6 = some g := atI_nat (show (a :: b :: c :: d :: e :: f :: g :: r)[6]? = some g from rfl)
/-- what is neither frozen nor a table -/
def NF (o : HO) : Prop := ¬ Lm.Fz o ∧ ∀ ps, o ≠ .tbl ps
theorem nf_lst {xs : List V} : NF (.lst xs) := ⟨fun z => z, fun _ z => by cases z⟩
theorem kf_keep {ms : List Addr} {H H' : Hp} (k : Keep ms H H') (n : ∀ m ∈ ms, ∃ o, H m = some o ∧ NF o) : Lm.KeepF H H' ∧ Lm.KeepT H H' := by
  constructor
  · intro b o e z
    refine k b o (fun hm => ?_) e
    obtain ⟨u, hu, h1, _⟩ := n b hm
    rw [e] at hu; cases hu
    exact h1 z
  · intro b ps e
    refine k b _ (fun hm => ?_) e
    obtain ⟨u, hu, _, h2⟩ := n b hm
    rw [e] at hu; cases hu
    exact h2 ps rfl
theorem SH.stn {H H' : Hp} {d : Addr} {es : List Sh} (S : SH H d es) (k : Stn H H') : SH H' d es := ⟨k _ _ S.at_ (by intro ps z; cases z) (by intro ps z; cases z), fun e he => tpO_stn (S.tups e he) k, S.oks, S.few, S.nd, S.zz⟩
/-- what stands amid a turn: the box, the tables of codes -/
structure S03 (Tl : List (Addr × Str)) (h l : Addr) (H : Hp) : Prop where
  B : BoxB H h l
  tab : Lm.TabF Tl H
theorem S03.box {Tl : List (Addr × Str)} {h l : Addr} {H H' : Hp} (S : S03 Tl h l H) (B' : BoxB H' h l) (k : Keep [h, l] H H') : S03 Tl h l H' := by
  obtain ⟨k1, k2⟩ := kf_keep k fun m hm => by
    obtain ⟨ns, st, pl, b1, b2, _⟩ := id S.B
    rcases List.mem_cons.mp hm with rfl | hm
    · exact ⟨_, b1, nf_lst⟩
    · rw [List.mem_singleton.mp hm]
      exact ⟨_, b2, nf_lst⟩
  exact ⟨B', S.tab.ext k1 k2⟩
theorem S03.same {Tl : List (Addr × Str)} {h l : Addr} {H H' : Hp} (S : S03 Tl h l H) (k : Same H H') : S03 Tl h l H' := ⟨S.B.same k, S.tab.ext (Lm.KeepF.of k) (Lm.KeepT.of k)⟩
theorem S03.ext {Tl : List (Addr × Str)} {h l : Addr} {H H' : Hp} (S : S03 Tl h l H) (k : LamX.ExtN H H') (T : Lm.TabF Tl H') : S03 Tl h l H' := ⟨S.B.extN k, T⟩
structure Tn (Tl : List (Addr × Str)) (h l d q : Addr) (es : List Sh) (ps : List Fd) (H : Hp) : Prop where
  S : S03 Tl h l H
  sh : SH H d es
  fx : FxS H q ps
theorem Tn.box {Tl : List (Addr × Str)} {h l d q : Addr} {es : List Sh} {ps : List Fd} {H H' : Hp} (t : Tn Tl h l d q es ps H) (B' : BoxB H' h l) (k : Keep [h, l] H H') : Tn Tl h l d q es ps H' := ⟨t.S.box B' k, t.sh.stn (Stn.ofStd (t.S.B.std k)), t.fx.stn (Stn.ofStd (t.S.B.std k))⟩
theorem Tn.same {Tl : List (Addr × Str)} {h l d q : Addr} {es : List Sh} {ps : List Fd} {H H' : Hp} (t : Tn Tl h l d q es ps H) (k : Same H H') : Tn Tl h l d q es ps H' := ⟨t.S.same k, t.sh.same k, t.fx.stn (Stn.ofSame k)⟩
theorem Tn.ext {Tl : List (Addr × Str)} {h l d q : Addr} {es : List Sh} {ps : List Fd} {H H' : Hp} (t : Tn Tl h l d q es ps H) (k : LamX.ExtN H H') (T : Lm.TabF Tl H') : Tn Tl h l d q es ps H' := ⟨t.S.ext k T, t.sh.stn (Stn.ofExt k), t.fx.stn (Stn.ofExt k)⟩
structure W1 (Tl : List (Addr × Str)) (h l d : Addr) (es : List Sh) (H : Hp) : Prop where
  S : S03 Tl h l H
  sh : SH H d es
  el : 0 < es.length
structure W2 (Tl : List (Addr × Str)) (h l d na D : Addr) (es : List Sh) (ys : List Str) (j : Nat) (ps : List Fd) (H : Hp) : Prop where
  S : S03 Tl h l H
  sh : SH H d es
  en : H na = some (.lst (ys.map V.str))
  eD : H D = some (.lst (ps.map fun e => V.ref e.1))
  pl : ps.length ≤ j
  pt : ∀ e ∈ ps, H e.1 = some (.tup [.str e.2.1, .str e.2.2]) ∧ PyData.strOk e.2.1 = true ∧ PyData.strOk e.2.2 = true
/-- a statement beside the turn's tables -/
structure W3 (Tl : List (Addr × Str)) (h l d q : Addr) (es : List Sh) (ps : List Fd) (a : Addr) (st : Nm.Sm) (H : Hp) : Prop where
  t : Tn Tl h l d q es ps H
  r : RX H (.ref a) st.dx
structure W4 (Tl : List (Addr × Str)) (h l d q : Addr) (es : List Sh) (ps : List Fd) (a : Addr) (st : Nm.Sm) (ta : Addr) (H : Hp) : Prop where
  w : W3 Tl h l d q es ps a st H
  eta : tpO (H ta) = some (st.ts.map V.str)
structure W5 (Tl : List (Addr × Str)) (h l d q : Addr) (es : List Sh) (ps : List Fd) (a : Addr) (st : Nm.Sm) (b : Addr) (bst : Nm.Sm) (H : Hp) : Prop where
  w : W3 Tl h l d q es ps a st H
  rb : RX H (.ref b) bst.dx
structure W6 (Tl : List (Addr × Str)) (h l d q : Addr) (es : List Sh) (ps : List Fd) (a : Addr) (st : Nm.Sm) (b : Addr) (bst : Nm.Sm) (H : Hp) : Prop where
  w : W5 Tl h l d q es ps a st b bst H
  br : Nm.BrS (shp es) st bst
theorem W5.same {Tl : List (Addr × Str)} {h l d q : Addr} {es : List Sh} {ps : List Fd} {a b : Addr} {st bst : Nm.Sm} {H H' : Hp} (w : W5 Tl h l d q es ps a st b bst H) (k : Same H H') : W5 Tl h l d q es ps a st b bst H' := ⟨⟨w.w.t.same k, w.w.r.same k⟩, w.rb.same k⟩
theorem W5.ext {Tl : List (Addr × Str)} {h l d q : Addr} {es : List Sh} {ps : List Fd} {a b : Addr} {st bst : Nm.Sm} {H H' : Hp} (w : W5 Tl h l d q es ps a st b bst H) (k : LamX.ExtN H H') (T : Lm.TabF Tl H') : W5 Tl h l d q es ps a st b bst H' := ⟨⟨w.w.t.ext k T, w.w.r.extN k⟩, w.rb.extN k⟩
theorem W5.box {Tl : List (Addr × Str)} {h l d q : Addr} {es : List Sh} {ps : List Fd} {a b : Addr} {st bst : Nm.Sm} {H H' : Hp} (w : W5 Tl h l d q es ps a st b bst H) (B' : BoxB H' h l) (k : Keep [h, l] H H') : W5 Tl h l d q es ps a st b bst H' := ⟨⟨w.w.t.box B' k, w.w.r.std (w.w.t.S.B.std k) (Nm.smNoL _)⟩, w.rb.std (w.w.t.S.B.std k) (Nm.smNoL _)⟩
theorem trsNoLL (ks : List Nm.Tr) : Dx.noLL (ks.map Nm.Tr.dx) := noLL_all.mpr fun d hd => by
  obtain ⟨t, _, rfl⟩ := List.mem_map.mp hd
  exact Nm.trNoL t
section
variable {K : PySem.W.Frag}
/-- several trees, fields without their tables here and there -/
theorem bare_lc {h l d ta a2 : Addr} {es : List Sh} {ts : List Str} {us : List V} {ks : List Nm.Tr} {H6 : Hp} {Qd : VK} {v0 x2 x3 x5 x6 x7 x8 x9 x10 x11 x12 : Option V} (B : BoxB H6 h l) (S : SH H6 d es) (eta : tpO (H6 ta) = some (ts.map V.str)) (tl : ts.length ≤ 8)
    (ha2 : tpO (H6 a2) = some us) (R : RXs H6 us (ks.map Nm.Tr.dx)) (kl : ks.length ≤ 8) (ok : ∀ t ∈ ks, t.dx.deep ≤ 7 ∧ t.dx.fits 8 ∧ t.wk)
    (k : ∀ D H7 ys ks', H6 D = none → Keep [h, l] H6 H7 → BoxB H7 h l → H7 D = some (.lst ys) → RXs H7 ys (ks'.map Nm.Tr.dx) → Nm.BrL (shp es) ts ks ks' → Qd (.ref D) H7) :
    lcB (Itt K a2) (gName 15) tYes (tCall (spBare 7) [] E0 (tCons (tVar 1) (tCons (tVar 15) (tCons (tVar 13) (tCons (tVar 4) tNil))))) [15]
      [v0, some (.ref h), x2, x3, some (.ref ta), x5, x6, x7, x8, x9, x10, x11, x12, some (.ref d), none, none] H6 Qd := by
  have ul : us.length = ks.length := by simpa using R.len
  refine lcB_it fun D hD => ?_
  have nD := B.free hD
  refine lc_it (walk_tup (xs := us)) (fun j H4 => Keep [h, l] H6 H4 ∧ BoxB H4 h l ∧ ∃ ys ks', H4 D = some (.lst ys) ∧ RXs H4 ys (ks'.map Nm.Tr.dx) ∧ Nm.BrL (shp es) ts (ks.take j) ks') ⟨Keep.ofSame (same_new hD), B.same (same_new hD), [], [], upd_same, rxs_nil, by unfold Nm.BrL; rfl⟩ (fun _ H4 _ ⟨k4, _⟩ => .inl (rd_tpO (tpO_keep ha2 k4 (tpO_notin B ha2)))) ?_ ?_
  · rintro j x H4 H5 hj ⟨k4, B4, ys, ks', eD, ry, hbr⟩ ⟨rfl, hx⟩
    obtain ⟨kj, hkj⟩ : ∃ kj, ks[j]? = some kj := ⟨_, List.getElem?_eq_getElem (by omega)⟩
    simp? only [gName]
    have hdj : (ks.map Nm.Tr.dx)[j]? = some kj.dx := by rw [List.getElem?_map, hkj]; rfl
    obtain ⟨u, hu1, ru⟩ := RXs.at R hdj
    rw [hx] at hu1
    cases hu1
    obtain ⟨kd1, kd2, kd3⟩ := ok kj (List.mem_of_getElem? hkj)
    have tk1 : ks.take (j + 1) = ks.take j ++ [kj] := by rw [List.take_add_one, hkj]; rfl
    have yl : ys.length ≤ 8 := by
      have e := ry.len
      rw [List.length_map, Nm.brL_len hbr, List.length_take] at e
      omega
    refine ⟨h, l, d, ta, x, es, ts, some kj, rfl, B4, S.keepB B k4, tpO_keep eta k4 (tpO_notin B eta), tl, ru.std (B.std k4) (Nm.trNoL kj), kd1, kd2, fun t ht => by cases ht; exact kd3, fun v' c' H7 hc r7 B7 k7 => ?_⟩
    obtain ⟨t', rfl, ht'⟩ := hc
    have std7 := B4.std k7
    have eD7 := k7 _ _ nD eD
    have r7 : RX H7 v' t'.dx := r7
    have sD : Std H7 (upd H7 D (.lst (ys ++ [v']))) := Nm.Std.upd eD7 ⟨_, rfl⟩
    refine ⟨ys, eD7, szl' (by omega), (k4.trans k7).updFree hD, B7.updNot nD, ks' ++ [t'], ?_, by rw [tk1]; exact Nm.brL_snoc ht' hbr⟩
    have := Nm.rxs_snoc (ry.std std7 (trsNoLL ks')) r7
    rw [show (ks'.map Nm.Tr.dx) ++ [t'.dx] = (ks' ++ [t']).map Nm.Tr.dx by rw [List.map_append]; rfl] at this
    exact this.std sD (trsNoLL _)
  · rintro H4 ⟨k4, B4, ys, ks', eD, ry, hbr⟩
    rw [ul, List.take_length] at hbr
    exact k D H4 ys ks' hD k4 B4 eD ry hbr
end
theorem bare_back {S : Nm.Shp} {ix : List (Str × Str)} {st b st' : Nm.Sm} (h : Nm.BrS S st b) (ok : Nm.SmOk st) (e : Nm.chk S ix b = .ok st') : st' = st := Nm.chk_back st b st' h ok.tz e
theorem brS_index {S : Nm.Shp} {st b : Nm.Sm} (h : Nm.BrS S st b) (f : st.full) : ∀ t x, b = .index t x → PyData.strOk t = true ∧ PyData.strOk x = true := fun t x e => by
  subst e
  cases st with
  | ask how tm ts c bys first =>
    obtain ⟨_, _, _, e, _⟩ := h
    cases e
  | index t0 x0 =>
    have h : Nm.Sm.index t x = .index t0 x0 := h
    cases h
    exact f
  | _ => cases (show Nm.Sm.index t x = _ from h)
theorem brS_al {S : Nm.Shp} {st b : Nm.Sm} (h : Nm.BrS S st b) (n : ∀ x, st ≠ .alone x) : ∀ x, b ≠ .alone x := fun x e => by
  subst e
  cases st with
  | ask how tm ts c bys first =>
    obtain ⟨_, _, _, e, _⟩ := h
    cases e
  | alone w => exact n w rfl
  | _ => cases (show Nm.Sm.alone x = _ from h)
theorem brS_same {S : Nm.Shp} {st : Nm.Sm} (n : ∀ how tm ts c bys first, st ≠ .ask how tm ts c bys first) : Nm.BrS S st st := by
  cases st with
  | ask how tm ts c bys first => exact absurd rfl (n how tm ts c bys first)
  | _ => rfl
theorem brS_full {S : Nm.Shp} {st b : Nm.Sm} (h : Nm.BrS S st b) (f : st.full) : ∀ how tm ts c bys first, b = .ask how tm ts c bys first → ∃ t r, ts = t :: r ∧ t ∉ Nm.lawW := fun how tm ts c bys first e => by
  subst e
  cases st with
  | ask how0 tm0 ts0 c0 bys0 first0 =>
    obtain ⟨_, _, _, e, _⟩ := h
    cases e
    obtain ⟨f1, f2⟩ := f
    cases ts with
    | nil => simp at f1
    | cons t r => exact ⟨t, r, rfl, f2 t List.mem_cons_self⟩
  | _ => cases (show Nm.Sm.ask how tm ts c bys first = _ from h)
theorem lv_ne {st : Nm.Sm} (n : ∀ x, st ≠ .alone x) (f : ∀ how tm ts c bys first, st = .ask how tm ts c bys first → ∃ t r, ts = t :: r ∧ t ∉ Nm.lawW) : 0 < (Nm.leavesD st.dx).length ∧ ∀ p ∈ Nm.leavesD st.dx, p ≠ [] := by
  refine ⟨?_, fun p hp => ?_⟩
  · have some_ : ∀ {ds : List Dx} {i : Nat} {d : Dx}, ds[i]? = some d → Nm.begD ds ≤ i → 0 < (Nm.leavesD d).length → 0 < (Nm.leavesD (.tup ds)).length := fun {ds i d} hd hb hl => by
      rw [Nm.leavesD]
      have z := leavesL_le (b := Nm.begD ds) ds (i + 1)
      rw [leavesL_snoc hd hb, List.length_append, List.length_map] at z
      omega
    have one : ∀ s : Str, 0 < (Nm.leavesD (.str s)).length := fun s => by rw [Nm.leavesD]; exact Nat.one_pos
    cases st with
    | alone x => exact absurd rfl (n x)
    | ask how tm ts c bys first =>
      obtain ⟨t, r, rfl, ht⟩ := f how tm ts c bys first rfl
      refine some_ (i := 3) (d := Nm.dxs (t :: r)) rfl (show (2 : Nat) ≤ 3 by decide) (some_ (i := 0) (d := .str t) rfl ?_ (one t))
      show (if t = Str.ofString "ask" then 2 else if t ∈ Nm.lawW then 1 else 0) ≤ 0
      rw [if_neg (fun z => ht (by rw [z]; decide +kernel)), if_neg ht]
      exact Nat.le_refl 0
    | _ => exact some_ (i := 1) rfl (show (1 : Nat) ≤ 1 by decide) (one _)
  · obtain ⟨ds, e⟩ : ∃ ds, st.dx = .tup ds := by cases st <;> exact ⟨_, rfl⟩
    rw [e] at hp
    obtain ⟨i, q, d, rfl, _⟩ := Nm.leaves_tup hp
    exact fun z => by cases z
section
variable {C CB CR : Addr}
/-- checked, where its errors are told by their words -/
theorem word_checked {H9 : Hp} {b d q : Addr} {es : List Sh} {ps : List Fd} {st : Nm.Sm} {E : XK} {Q Qn : VK} (S : SH H9 d es) (F : FxS H9 q ps) (R : RX H9 (.ref b) st.dx) (ok : Nm.SmW st) (six : ∀ t f, st = .index t f → PyData.strOk t = true ∧ PyData.strOk f = true)
    (h1 : ∀ (x : Str) (d : Addr) (H' : Hp), H' d = some (.xd [("word", .str x)]) → Q (.str x) H' → E (.ref CB) (some d) H') (h2 : ∀ H', Q (.str "row") H' → E (.ref CR) none H') (h3 : ∀ v H', Q (.str "") H' → Qn v H')
    (k : ∀ H10, Same H9 H10 → Q (.str (Nm.due (shp es) (ixs ps) st)) H10) : spChecked C CB CR [.ref b, .ref d, .ref q] H9 Qn E := by
  have dc := Nm.due_chk (S := shp es) (ix := ixs ps) st ok.nz
  rw [dc] at k
  refine ⟨b, d, _, es, ps, st, rfl, S, R, ok, fun t f e => ⟨(six t f e).1, (six t f e).2, q, rfl, F.fx⟩, fun st' e H' b' s' r' => ?_, fun x e H' d' km ed => ?_, fun e H' s' => ?_⟩
  · rw [e] at k
    exact h3 _ H' (k H' s')
  · rw [e] at k
    exact h1 x d' H' ed (k H' km.same)
  · rw [e] at k
    exact h2 H' (k H' s')
end
section
variable {P : Program} {w : World} {K : PySem.W.Frag} {mg : Str → Option Value} {base : Heap}
theorem ok_law (T : Txt K mg) (TB : LamX.TabB base mg T.c_law T.P_law) (TBx : LamX.TabB base mg T.c_ix T.P_ix) : FnOk P w K mg base CX0 18 T.f_law T.fd_law ["_law_script"] (spLaw K T.P_law T.P_ix) := by
  have G_l_mix : FnOk P w K mg base CX0 1 T.f_l_mix T.fd_l_mix ["_law_script", "_law_seed"] (spMix K) := ok_l_mix T
  have G_l_next : FnOk P w K mg base CX0 1 T.f_l_next T.fd_l_next ["_law_h", "_law_many"] spNext := ok_l_next T
  have G_l_known : FnOk P w K mg base CX0 17 T.f_l_known T.fd_l_known [] (spKnown (TT T)) := ok_l_known T TBx
  have G_l_shapes : FnOk P w K mg base CX0 2 T.f_l_shapes T.fd_l_shapes ["_law_h", "_law_many"] spShapes := ok_l_shapes T
  have G_l_statement : FnOk P w K mg base CX0 11 T.f_l_statement T.fd_l_statement ["_law_h", "_law_shapes_here"] spStm := ok_l_statement T
  have G_l_bare : FnOk P w K mg base CX0 (7 + 2) T.f_l_bare T.fd_l_bare ["_law_h", "_law_tree", "_law_shapes_here", "_law_tables"] (spBare 7) := ok_l_bare T 7
  have G_l_due : FnOk P w K mg base CX0 11 T.f_l_due T.fd_l_due ["_law_tree", "_law_shapes_here", "_law_indexes"] spDue := ok_l_due T
  have G_checked : FnOk P w K mg base (L2.CX P w) 13 T.f_checked T.fd_checked ["tree", "shapes", "indexes"] (spChecked T.C_Names T.C_BadName T.C_BadRow) := ok_checked T
  have G_l_alike : FnOk P w K mg base CX0 (8 + 2) T.f_l_alike T.fd_l_alike ["_law_found", "_law_due_here"] (spAlike 8) := ok_l_alike T 8
  have G_l_bent : FnOk P w K mg base CX0 11 T.f_l_bent T.fd_l_bent ["_law_h", "_law_tree"] spBent := ok_l_bent T
  refine Fun.okL T.F_law T.hc_law sc_law (fun vs H Q E h => ?_) (fun A outer s H vs Q E hr h => ?_)
  · obtain ⟨a, ns, rfl, _⟩ := h
    rfl
  · have hu64 := hu64_of hr
    obtain ⟨a0, ns, rfl, hS, hlen, hP, hPx, k⟩ := h
    refine ⟨_, (Evl.pss_cut (ps_set (i := 1) sc_law.nd rfl (Or.inr rfl) (pe_call G_l_mix (hr.mono (by decide)) rfl T.mg_l_mix T.F_l_mix.kp T.b_l_mix .nil pass0 (pa_cons (pv 0) (pa_cons pe_int pa_nil))))
      (Evl.pss_cut (ps_if (pt_not (pt_val (pe_call0 G_l_known (hr.mono (by decide)) rfl T.mg_l_known T.F_l_known.kp T.b_l_known .nil pass0))) (pss_one (ps_ret pe_bl)) pss_nil)
      (pss_cons (ps_for PassesOwn.never rfl (pi_range1 rfl T.n_range (pa_cons pe_int pa_nil)) (pg_name (i := 2) sc_law.nd rfl (Or.inl rfl)) (Evl.pss_cut (ps_set (i := 13) sc_law.nd rfl (Or.inr rfl) (pe_call G_l_shapes (hr.mono (by decide)) rfl T.mg_l_shapes T.F_l_shapes.kp T.b_l_shapes .nil pass0 (pa_cons (pv 1) (pa_cons pe_int pa_nil))))
        (Evl.pss_cut (ps_set (i := 12) sc_law.nd rfl (Or.inr rfl) (pe_callTy tuple_lst (by rfl) T.n_tuple (by decide +kernel) (pa_cons (pe_lc (own := [("_law_table", 14)]) (g := gName 14) rfl sc_law.nd (pi_listK K rfl (pe_callB (sorted_dic rfl) (by rfl) T.n_sorted (by decide +kernel) (pa_cons (pv 13) pa_nil))) (blkOk_by (N := N_law) (sc := defScope s_law) (by decide +kernel)) (fun _ _ _ _ _ => (pg_name (i := 14) sc_law.nd rfl (Or.inl rfl))) (fun _ _ _ _ _ => pts_one (pt_cmpR op_eq (pe_call G_l_next (hr.mono (by decide)) rfl T.mg_l_next T.F_l_next.kp T.b_l_next .nil pass0 (pa_cons (pv 1) (pa_cons pe_int pa_nil))) pe_int (nomark _))) (fun _ _ _ _ _ => (pe_tup (pa_cons (pv 14) (pa_cons pe_str pa_nil))))) pa_nil)))
        (Evl.pss_cut (ps_set (i := 3) sc_law.nd rfl (Or.inl rfl) (pe_call G_l_statement (hr.mono (by decide)) rfl T.mg_l_statement T.F_l_statement.kp T.b_l_statement .nil pass0 (pa_cons (pv 1) (pa_cons (pv 13) pa_nil))))
        (pss_one (ps_if (pt_cmpR op_gt (pe_callB len_tp (by rfl) T.n_len PySem.boot_len (pa_cons (pv 3) pa_nil)) pe_int (nomark _)) (Evl.pss_cut (ps_set (i := 4) sc_law.nd rfl (Or.inr rfl) (pe_ifExp (pt_cmpR op_eq (pe_ix ix_tp (pv 3) pe_int (fun _ _ => rfl)) pe_str (nomark _)) (pe_ix ix_tp (pv 3) pe_int (fun _ _ => rfl)) (pe_tup (pa_cons (pe_ix ix_tp (pv 3) pe_int (fun _ _ => rfl)) pa_nil))))
          (Evl.pss_cut (ps_set (i := 10) sc_law.nd rfl (Or.inr rfl) (pv 3))
          (Evl.pss_cut (ps_if (pt_cmpR op_eq (pe_ix ix_tp (pv 3) pe_int (fun _ _ => rfl)) pe_str (nomark _)) (pss_cons (ps_set (i := 5) sc_law.nd rfl (Or.inl rfl) (pe_callTy tuple_lst (by rfl) T.n_tuple (by decide +kernel) (pa_cons (pe_lc (own := [("_law_one", 15)]) (g := gName 15) (tt := tYes) rfl sc_law.nd (pi_tupK K rfl (pe_ix ix_tp (pv 3) pe_int (fun _ _ => rfl))) (blkOk_by (N := N_law) (sc := defScope s_law) (by decide +kernel)) (fun _ _ _ _ _ => (pg_name (i := 15) sc_law.nd rfl (Or.inl rfl))) (fun _ _ _ _ _ => pts_nil) (fun _ _ _ _ _ => (pe_call G_l_bare (hr.mono (by decide)) rfl T.mg_l_bare T.F_l_bare.kp T.b_l_bare .nil pass0 (pa_cons (pv 1) (pa_cons (pv 15) (pa_cons (pv 13) (pa_cons (pv 4) pa_nil))))))) pa_nil)))
            (pss_cons (ps_set (i := 6) sc_law.nd rfl (Or.inl rfl) (pe_callTy tuple_lst (by rfl) T.n_tuple (by decide +kernel) (pa_cons (pe_lc (own := [("_law_one", 15)]) (g := gName 15) (tt := tYes) rfl sc_law.nd (pi_tupK K rfl (pe_ix ix_tp (pv 3) pe_int (fun _ _ => rfl))) (blkOk_by (N := N_law) (sc := defScope s_law) (by decide +kernel)) (fun _ _ _ _ _ => (pg_name (i := 15) sc_law.nd rfl (Or.inl rfl))) (fun _ _ _ _ _ => pts_nil) (fun _ _ _ _ _ => (pe_call G_l_bare (hr.mono (by decide)) rfl T.mg_l_bare T.F_l_bare.kp T.b_l_bare .nil pass0 (pa_cons (pv 1) (pa_cons (pv 15) (pa_cons (pv 13) (pa_cons (pv 4) pa_nil))))))) pa_nil)))
            (pss_cons (ps_set (i := 7) sc_law.nd rfl (Or.inl rfl) (pe_call G_l_bare (hr.mono (by decide)) rfl T.mg_l_bare T.F_l_bare.kp T.b_l_bare .nil pass0 (pa_cons (pv 1) (pa_cons (pe_ix ix_tp (pv 3) pe_int (fun _ _ => rfl)) (pa_cons (pv 13) (pa_cons (pv 4) pa_nil))))))
            (pss_one (ps_set (i := 10) sc_law.nd rfl (Or.inr rfl) (pe_op op_catS (pe_slice sl_tp (pv 3) po_none (po_some pe_int)) (pe_tup (pa_cons (pv 5) (pa_cons (pv 4) (pa_cons (pv 7) (pa_cons (pv 6) (pa_cons (pe_ix ix_tp (pv 3) pe_int (fun _ _ => rfl)) pa_nil)))))))))))) pss_nil)
          (Evl.pss_cut (ps_set (i := 8) sc_law.nd rfl (Or.inl rfl) (pe_call G_l_due (hr.mono (by decide)) rfl T.mg_l_due T.F_l_due.kp T.b_l_due .nil pass0 (pa_cons (pv 10) (pa_cons (pv 13) (pa_cons (pv 12) pa_nil)))))
          (Evl.pss_cut (ps_if (pt_cmpR op_ne (Lm.pe_callZ (fun _ _ _ => rfl) (fun B => ok_l_word T) (hr.mono (by decide)) rfl T.mg_l_word T.F_l_word.kp T.b_l_word .nil (pa_cons (Lm.pe_lamB (k := 13) (T := Lm.tt2 T.P_law T.P_ix "law" "_law_known") TB rfl Lm.tt2_l (Lm.tt2_ul T.nPP) (Lm.lamG_by (N := N_law) (sc := defScope s_law) (by decide +kernel)) rfl (fun _ _ _ _ _ _ => rfl) (fun B hB A outer s H E f c' hr => (pe_call (ok_checked T) (hr.mono (by decide)) rfl T.mg_checked T.F_checked.kp T.b_checked .nil (passes_call (takes_of rfl rfl rfl rfl) (fun _ _ _ _ z => z)) (pa_cons (pv 10) (pa_cons (pv 13) (pa_cons (pv 12) pa_nil)))))) pa_nil)) (pv 8) (nomark _)) (pss_one (ps_ret pe_bl)) pss_nil)
          (Evl.pss_cut (ps_set (i := 9) sc_law.nd rfl (Or.inl rfl) (pe_ifExp (pt_cmpR op_eq (pv 8) pe_str (nomark _)) (pe_call G_checked (hr.mono (by decide)) rfl T.mg_checked T.F_checked.kp T.b_checked .nil (passes_call L2.takes0 (fun _ _ _ _ z => z)) (pa_cons (pv 10) (pa_cons (pv 13) (pa_cons (pv 12) pa_nil)))) (pv 3)))
          (Evl.pss_cut (ps_if (pt_not (pt_val (pe_call G_l_alike (hr.mono (by decide)) rfl T.mg_l_alike T.F_l_alike.kp T.b_l_alike .nil pass0 (pa_cons (pv 9) (pa_cons (pv 3) pa_nil))))) (pss_one (ps_ret pe_bl)) pss_nil)
          (Evl.pss_cut (ps_set (i := 11) sc_law.nd rfl (Or.inr rfl) (pe_call G_l_bent (hr.mono (by decide)) rfl T.mg_l_bent T.F_l_bent.kp T.b_l_bent .nil pass0 (pa_cons (pv 1) (pa_cons (pv 10) pa_nil))))
          (Evl.pss_cut (ps_set (i := 8) sc_law.nd rfl (Or.inl rfl) (pe_call G_l_due (hr.mono (by decide)) rfl T.mg_l_due T.F_l_due.kp T.b_l_due .nil pass0 (pa_cons (pv 11) (pa_cons (pv 13) (pa_cons (pv 12) pa_nil)))))
          (pss_one (ps_if (pt_cmpR op_ne (Lm.pe_callZ (fun _ _ _ => rfl) (fun B => ok_l_word T) (hr.mono (by decide)) rfl T.mg_l_word T.F_l_word.kp T.b_l_word .nil (pa_cons (Lm.pe_lamB (k := 13) (T := Lm.tt2 T.P_law T.P_ix "law" "_law_known") TB rfl Lm.tt2_l (Lm.tt2_ul T.nPP) (Lm.lamG_by (N := N_law) (sc := defScope s_law) (by decide +kernel)) rfl (fun _ _ _ _ _ _ => rfl) (fun B hB A outer s H E f c' hr => (pe_call (ok_checked T) (hr.mono (by decide)) rfl T.mg_checked T.F_checked.kp T.b_checked .nil (passes_call (takes_of rfl rfl rfl rfl) (fun _ _ _ _ z => z)) (pa_cons (pv 11) (pa_cons (pv 13) (pa_cons (pv 12) pa_nil)))))) pa_nil)) (pv 8) (nomark _)) (pss_one (ps_ret pe_bl)) pss_nil))))))))))) (pss_one (ps_if (pt_cmpR (op_neDK K rfl hu64) (pe_call G_checked (hr.mono (by decide)) rfl T.mg_checked T.F_checked.kp T.b1_checked T.d1_checked (passes_call L2.takes0 (fun _ _ _ _ z => z)) (pa_cons (pv 3) (pa_cons (pv 13) pa_nil))) (pv 3) (nomark _)) (pss_one (ps_ret pe_bl)) pss_nil))))))))
      (pss_one (ps_ret pe_bl))))), ?_⟩
    rw [show L2.start N_law [V.ref a0] = [some (V.ref a0), none, none, none, none, none, none, none, none, none, none, none, none, none, none, none] from rfl]
    refine ⟨fun σ' H1 => ∃ h l, σ' = [some (.ref a0), some (.ref h), none, none, none, none, none, none, none, none, none, none, none, none, none, none] ∧ S03 (TT T) h l H1, ?_, ?_⟩
    · simp? only []
      refine ⟨a0, ns, 7, rfl, hS, hlen, fun H1 h l nh nl s1 B1 => ⟨h, rfl, l, B1, ?_⟩⟩
      refine Lm.TabF.nil fun p hp => ?_
      rcases List.mem_cons.mp hp with rfl | hp
      · exact s1 _ _ hP
      · rw [List.mem_singleton.mp hp]
        exact s1 _ _ hPx
    rintro σ' H1 ⟨h, l, rfl, S1⟩
    refine ⟨fun σ' H2 => σ' = [some (.ref a0), some (.ref h), none, none, none, none, none, none, none, none, none, none, none, none, none, none] ∧ S03 (TT T) h l H2, ?_, ?_⟩
    · simp? only []
      refine ⟨rfl, S1.tab, fun H2 e2 T2 => ⟨true, rfl, ?_⟩⟩
      rw [if_neg (by decide)]
      exact S1.ext e2 T2
    rintro σ' H2 ⟨rfl, S2⟩
    simp? only [tFor_eq, iRng1]
    refine forB_it (for_it walk_range (fun i σ H3 => ∃ (x2 x3 x4 x5 x6 x7 x8 x9 x10 x11 x12 x13 : Option V), S03 (TT T) h l H3 ∧ σ = [some (.ref a0), some (.ref h), x2, x3, x4, x5, x6, x7, x8, x9, x10, x11, x12, x13, none, none])
      ⟨_, _, _, _, _, _, _, _, _, _, _, _, S2, rfl⟩ (fun _ _ _ _ _ => trivial) ?_ ?_)
    · rintro i y σ H3 H4 hi ⟨x2, x3, x4, x5, x6, x7, x8, x9, x10, x11, x12, x13, S3, rfl⟩ ⟨rfl, rfl⟩
      simp? only [gName]
      refine ⟨fun σ' H5 => ∃ (d : Addr) (es : List Sh), W1 (TT T) h l d es H5 ∧ σ' = [some (.ref a0), some (.ref h), some (.int (0 + (i : Int))), x3, x4, x5, x6, x7, x8, x9, x10, x11, x12, some (.ref d), none, none], ?_, ?_⟩
      · simp? only []
        refine ⟨h, l, 3, rfl, S3.B, by decide, by decide, fun d es H5 Sh5 el _ B5 k5 => ⟨d, ⟨es, ⟨S3.box B5 k5, Sh5, el⟩⟩, rfl⟩⟩
      rintro σ' H5 ⟨d, es, ⟨S5, Sh5, el⟩, rfl⟩
      refine ⟨fun σ' H6 => ∃ (q : Addr) (ps : List Fd), Tn (TT T) h l d q es ps H6 ∧ σ' = [some (.ref a0), some (.ref h), some (.int (0 + (i : Int))), x3, x4, x5, x6, x7, x8, x9, x10, x11, some (.ref q), some (.ref d), none, none], ?_, ?_⟩
      · have hd5 := Sh5.at_
        simp? only [hd5, tLc_eq, iList]
        have e3 := Sh5.few.1
        refine ⟨es.map (·.1), keys_str es, by rw [List.length_map]; omega, fun ys na perm hna => ?_⟩
        have yk : ∀ y ∈ ys, y ∈ es.map (·.1) := fun y hy => perm.mem_iff.mp hy
        have yl : ys.length = es.length := by rw [perm.length_eq, List.length_map]
        have s1 := same_new (o := .lst (ys.map V.str)) hna
        have hna1 : upd H5 na (.lst (ys.map V.str)) na = some (.lst (ys.map V.str)) := upd_same
        have S6 := S5.same s1
        have Sh6 := Sh5.same s1
        have nna := S5.B.free hna
        generalize upd H5 na (.lst (ys.map V.str)) = H6 at *
        refine ⟨⟨_, .inl (.inl hna1)⟩, lcB_it fun D hD => ?_⟩
        have nD := S6.B.free hD
        have nnD : na ≠ D := ne_of_none hna1 hD
        refine lc_it (walk_list (xs := ys.map V.str)) (fun j H7 => ∃ ps : List Fd, W2 (TT T) h l d na D es ys j ps H7)
          ⟨[], S6.same (same_new hD), Sh6.same (same_new hD), by rw [upd_ne nnD]; exact hna1, upd_same, Nat.le_refl _, fun e he => by cases he⟩ (fun _ H7 _ ⟨_, w⟩ => .inl (.inl w.en)) ?_ ?_
        · rintro j x H7 H8 hj ⟨ps, ⟨S7, Sh7, en, eD, pl, pt⟩⟩ ⟨rfl, hx⟩
          obtain ⟨t, ht, rfl⟩ := str_at hx
          rw [List.length_map] at hj
          obtain ⟨e0, he0, et, _⟩ := Sh7.look (yk t (List.mem_of_getElem? ht))
          simp? only [gName]
          refine ⟨h, l, 2, rfl, S7.B, by decide, by decide, fun r H9 r0 r1 B9 k9 => ⟨rfl, ?_⟩⟩
          have S9 := S7.box B9 k9
          have std := S7.B.std k9
          have Sh9 := Sh7.stn (Stn.ofStd std)
          have en9 := k9 _ _ nna en
          have eD9 := k9 _ _ nD eD
          have pt9 : ∀ e ∈ ps, H9 e.1 = some (.tup [.str e.2.1, .str e.2.2]) ∧ PyData.strOk e.2.1 = true ∧ PyData.strOk e.2.2 = true := fun e he => ⟨std _ _ (pt e he).1 (by intro xs z; cases z), (pt e he).2⟩
          by_cases c : r = 0
          · rw [if_pos (by simp [c])]
            intro p hp
            have sp := same_new (o := .tup [.str t, .str (Str.ofString "x")]) hp
            have eD10 := sp _ _ eD9
            have ep : upd H9 p (.tup [.str t, .str (Str.ofString "x")]) p = some (.tup [.str t, .str (Str.ofString "x")]) := upd_same
            have S10 := S9.same sp
            have Sh10 := Sh9.same sp
            have en10 := sp _ _ en9
            have pt10 : ∀ e ∈ ps, upd H9 p (.tup [.str t, .str (Str.ofString "x")]) e.1 = some (.tup [.str e.2.1, .str e.2.2]) ∧ PyData.strOk e.2.1 = true ∧ PyData.strOk e.2.2 = true := fun e he => ⟨sp _ _ (pt9 e he).1, (pt9 e he).2⟩
            generalize upd H9 p (.tup [.str t, .str (Str.ofString "x")]) = H10 at *
            have kk : Keep [D] H10 (upd H10 D (.lst (ps.map (fun e => V.ref e.1) ++ [V.ref p]))) := Keep.refl.upd (by simp)
            have st : Std H10 (upd H10 D (.lst (ps.map (fun e => V.ref e.1) ++ [V.ref p]))) := Nm.Std.upd eD10 ⟨_, rfl⟩
            refine ⟨_, eD10, szl' (by rw [List.length_map]; omega), ps ++ [(p, t, Str.ofString "x")], ⟨⟨S10.B.updNot nD, S10.tab.ext (Lm.KeepF.upd (fun u e => by rw [eD10] at e; cases e; exact fun z => z)) (Lm.KeepT.upd (fun qs e => by rw [eD10] at e; cases e))⟩, Sh10.stn (Stn.ofStd st), by rw [upd_ne nnD]; exact en10, by rw [upd_same, List.map_append]; rfl, by rw [List.length_append, List.length_singleton]; omega, fun e he => ?_⟩⟩
            rcases List.mem_append.mp he with z | z
            · exact ⟨st _ _ (pt10 e z).1 (by intro xs q; cases q), (pt10 e z).2⟩
            · rw [List.mem_singleton.mp z]
              exact ⟨st _ _ ep (by intro xs q; cases q), et ▸ (Sh9.oks e0 he0).1, (by decide +kernel : PyData.strOk (Str.ofString "x") = true)⟩
          · rw [if_neg (by simp [c])]
            exact ⟨ps, ⟨S9, Sh9, en9, eD9, by omega, pt9⟩⟩
        · rintro H7 ⟨ps, ⟨S7, Sh7, en, eD, pl, pt⟩⟩
          simp? only [eD]
          intro q hq
          have sq := same_new (o := .tup (ps.map fun e => V.ref e.1)) hq
          exact ⟨q, ⟨ps, S7.same sq, Sh7.same sq, ⟨by rw [upd_same]; rfl, fun e he => sq _ _ (pt e he).1, fun e he => (pt e he).2⟩⟩, rfl⟩
      rintro σ' H6 ⟨q, ps, t6, rfl⟩
      refine ⟨fun σ' H7 => ∃ (a : Addr) (st : Nm.Sm), W3 (TT T) h l d q es ps a st H7 ∧ Nm.SmOk st ∧ st.full ∧ σ' = [some (.ref a0), some (.ref h), some (.int (0 + (i : Int))), some (.ref a), x4, x5, x6, x7, x8, x9, x10, x11, some (.ref q), some (.ref d), none, none], ?_, ?_⟩
      · simp? only []
        exact ⟨h, l, d, es, rfl, t6.S.B, t6.sh, el, fun a st H7 r7 ok7 f7 B7 k7 => ⟨a, st, ⟨t6.box B7 k7, r7⟩, ok7, f7, rfl⟩⟩
      rintro σ' H7 ⟨a, st, ⟨t7, r7⟩, ok7, f7, rfl⟩
      by_cases al : ∃ x, st = .alone x
      · obtain ⟨x, rfl⟩ := al
        have R := r7
        obtain ⟨b, us, eb, hb, r⟩ := Nm.rx_tpO R
        cases eb
        obtain ⟨u0, us, rfl, h0, r⟩ := Nm.rxs_un r
        obtain rfl := Nm.rxs_no r
        obtain rfl := Nm.rx_s h0
        simp? only [hb]
        rw [if_neg (by simp)]
        refine ⟨a, d, _, es, [], .alone x, rfl, t7.sh, r7, ok7.w, (fun t f e => by cases e), fun st' e H8 b' s8 r8 => ?_, (fun x' e => by cases e), fun e => by cases e⟩
        cases e
        have fx : PyData.strOk x = true := f7
        obtain ⟨b3, us3, eb3, hb3, r3⟩ := Nm.rx_tpO r8
        cases eb3
        obtain ⟨v0, us3, rfl, g0, r3⟩ := Nm.rxs_un r3
        obtain rfl := Nm.rxs_no r3
        obtain rfl := Nm.rx_s g0
        have hb8 := tpO_same hb s8
        have sh1 : SeqAt.shaped (.tuple [.str x]) = true := by
          unfold SeqAt.shaped
          rw [Bool.and_eq_true]
          exact ⟨by simp [PyData.canLay0, PyData.canLayAll0, fx], by simp [PyData.depth, PyData.depthAll]⟩
        refine ⟨.tuple [.str x], .tuple [.str x], .tup (.inl (rd_tpO hb3)) (.cons (.str _) .nil), .tup (.inl (rd_tpO hb8)) (.cons (.str _) .nil), sh1, sh1, _, rfl, ?_⟩
        rw [show PyData.eqv (.tuple [.str x]) (.tuple [.str x]) = true by simp [PyData.eqv, PyData.eqvAll], if_neg (by decide)]
        exact t7.S.same s8
      have nal : ∀ x, st ≠ .alone x := fun x e => al ⟨x, e⟩
      obtain ⟨ds, e2⟩ := Nm.sm_two st nal
      have r7' := r7
      rw [e2] at r7'
      obtain ⟨b, us, eb, hb, r⟩ := Nm.rx_tpO r7'
      cases eb
      obtain ⟨u0, us, rfl, h0, r⟩ := Nm.rxs_un r
      obtain ⟨u1, us, rfl, h1, r⟩ := Nm.rxs_un r
      obtain rfl := Nm.rx_s h0
      obtain rfl := Nm.rx_s h1
      have ul : (2 : Int) ≤ ((us.length + 1 + 1 : Nat) : Int) := by omega
      simp? only [hb]
      rw [if_pos (decide_eq_true (by omega))]
      refine ⟨fun σ' H8 => ∃ (ta : Addr), W4 (TT T) h l d q es ps a st ta H8 ∧ σ' = [some (.ref a0), some (.ref h), some (.int (0 + (i : Int))), some (.ref a), some (.ref ta), x5, x6, x7, x8, x9, x10, x11, some (.ref q), some (.ref d), none, none], ?_, ?_⟩
      · cases st with
        | alone x => exact absurd rfl (nal x)
        | ask how tm ts c bys first =>
          obtain ⟨b2, us2, eb, hb2, r2⟩ := Nm.rx_tpO r7
          cases eb
          obtain ⟨u0, us2, rfl, g0, r2⟩ := Nm.rxs_un r2
          obtain ⟨u1, us2, rfl, _, r2⟩ := Nm.rxs_un r2
          obtain ⟨u2, us2, rfl, h2, r2⟩ := Nm.rxs_un r2
          obtain ⟨u3, us2, rfl, h3, r2⟩ := Nm.rxs_un r2
          obtain ⟨ta, ws, rfl, hta, rw0⟩ := Nm.rx_tpO h3
          obtain rfl := Nm.rxs_strs rw0
          obtain rfl := Nm.rx_s g0
          simp? only [hb2, e_ask_ask]
          exact ⟨ta, ⟨⟨t7, r7⟩, hta⟩, rfl⟩
        | index t f =>
          have e1 : decide (Nm.Sm.wd (.index t f) = Str.ofString "ask") = false := e_index_ask
          simp? only [hb, e1]
          exact fun p hp => ⟨p, ⟨⟨t7.same (same_new hp), r7.same (same_new hp)⟩, by rw [upd_same]; rfl⟩, rfl⟩
        | put t f =>
          have e1 : decide (Nm.Sm.wd (.put t f) = Str.ofString "ask") = false := e_put_ask
          simp? only [hb, e1]
          exact fun p hp => ⟨p, ⟨⟨t7.same (same_new hp), r7.same (same_new hp)⟩, by rw [upd_same]; rfl⟩, rfl⟩
        | set t f c =>
          have e1 : decide (Nm.Sm.wd (.set t f c) = Str.ofString "ask") = false := e_set_ask
          simp? only [hb, e1]
          exact fun p hp => ⟨p, ⟨⟨t7.same (same_new hp), r7.same (same_new hp)⟩, by rw [upd_same]; rfl⟩, rfl⟩
        | strike t f =>
          have e1 : decide (Nm.Sm.wd (.strike t f) = Str.ofString "ask") = false := e_strike_ask
          simp? only [hb, e1]
          exact fun p hp => ⟨p, ⟨⟨t7.same (same_new hp), r7.same (same_new hp)⟩, by rw [upd_same]; rfl⟩, rfl⟩
        | table t f =>
          have e1 : decide (Nm.Sm.wd (.table t f) = Str.ofString "ask") = false := e_table_ask
          simp? only [hb, e1]
          exact fun p hp => ⟨p, ⟨⟨t7.same (same_new hp), r7.same (same_new hp)⟩, by rw [upd_same]; rfl⟩, rfl⟩
      clear hb h0 h1 r r7' r7 t7
      rintro σ' H8 ⟨ta, ⟨w8, eta⟩, rfl⟩
      refine ⟨fun σ' H9 => σ' = [some (.ref a0), some (.ref h), some (.int (0 + (i : Int))), some (.ref a), some (.ref ta), x5, x6, x7, x8, x9, some (.ref a), x11, some (.ref q), some (.ref d), none, none] ∧ H9 = H8, ?_, ?_⟩
      · simp? only []
      rintro σ' H9 ⟨rfl, rfl⟩
      refine ⟨fun σ' H10 => ∃ (b : Addr) (bst : Nm.Sm) (x5 x6 x7 : Option V), W6 (TT T) h l d q es ps a st b bst H10 ∧ σ' = [some (.ref a0), some (.ref h), some (.int (0 + (i : Int))), some (.ref a), some (.ref ta), x5, x6, x7, x8, x9, some (.ref b), x11, some (.ref q), some (.ref d), none, none], ?_, ?_⟩
      · by_cases ia : ∃ how tm ts c bys first, st = .ask how tm ts c bys first
        · obtain ⟨how, tm, ts, c, bys, first, rfl⟩ := ia
          have R0 := w8.r
          obtain ⟨b2, us2, eb, hb2, r2⟩ := Nm.rx_tpO R0
          cases eb
          obtain ⟨u0, us2, rfl, g0, r2⟩ := Nm.rxs_un r2
          obtain ⟨u1, us2, rfl, g1, r2⟩ := Nm.rxs_un r2
          obtain ⟨u2, us2, rfl, g2, r2⟩ := Nm.rxs_un r2
          obtain ⟨u3, us2, rfl, g3, r2⟩ := Nm.rxs_un r2
          obtain ⟨u4, us2, rfl, g4, r2⟩ := Nm.rxs_un r2
          obtain ⟨u5, us2, rfl, g5, r2⟩ := Nm.rxs_un r2
          obtain ⟨u6, us2, rfl, g6, r2⟩ := Nm.rxs_un r2
          obtain rfl := Nm.rxs_no r2
          obtain rfl := Nm.rx_s g0
          obtain rfl := Nm.rx_s g1
          obtain ⟨a2, vs2, rfl, ha2, rv2⟩ := Nm.rx_tpO g2
          obtain ⟨a5, vs5, rfl, ha5, rv5⟩ := Nm.rx_tpO g5
          simp? only [hb2, e_ask_ask, tLc_eq, iTup]
          have dp := ok7.deep
          have ft := ok7.fits
          have wk := ok7.wk
          simp only [Nm.Sm.dx, Nm.dxs, Dx.deep, Dx.deepL] at dp
          simp only [Nm.Sm.dx, Nm.dxs, Dx.fits, Dx.fitsL, List.length_map] at ft
          obtain ⟨f1, f2, f3, f4, f5, f6, f7', f8⟩ := ft
          have tr : ∀ {l : List Nm.Tr}, Dx.deepL (l.map Nm.Tr.dx) ≤ 7 → Dx.fitsL 8 (l.map Nm.Tr.dx) → (∀ t ∈ l, t.wk) → ∀ t ∈ l, t.dx.deep ≤ 7 ∧ t.dx.fits 8 ∧ t.wk := fun {l} a1 a2 a3 t ht => by
            obtain ⟨i, hi⟩ := List.getElem?_of_mem (List.mem_map.mpr ⟨t, ht, rfl⟩ : t.dx ∈ l.map Nm.Tr.dx)
            have e1 := Dx.deepL_at hi
            exact ⟨by omega, Dx.fitsL_at a2 hi, a3 t ht⟩
          have B8 := w8.t.S.B
          refine ⟨⟨_, .inl (rd_tpO ha2)⟩, bare_lc B8 w8.t.sh eta f5.1 ha2 rv2 f4.1 (tr (by omega) f4.2 wk.1) fun D H10 ys ks' hD k10 B10 eD ry hbr => ?_⟩
          have std10 := B8.std k10
          refine ⟨D, rfl, ys, by rw [eD]; rfl, fun p1 hp1 => ?_⟩
          have s1 := same_new (o := .tup ys) hp1
          have std11 := std10.trans (Std.ofSame s1)
          have e_p1 : upd H10 p1 (.tup ys) p1 = some (.tup ys) := upd_same
          have w11 : W4 (TT T) h l d q es ps a (.ask how tm ts c bys first) ta (upd H10 p1 (.tup ys)) := ⟨⟨(w8.t.box B10 k10).same s1, (w8.r.std std10 (Nm.smNoL _)).same s1⟩, tpO_stn eta (Stn.ofStd std11)⟩
          have ha5_11 := tpO_stn ha5 (Stn.ofStd std11)
          have hb11 := tpO_stn hb2 (Stn.ofStd std11)
          have rv5_11 := rv5.std std11 (trsNoLL _)
          have ry11 := RXs.same s1 ry
          have g4_11 := g4.std std11 (Nm.noL_o c)
          have g6_11 := g6.std std11 (Nm.noL_i first)
          generalize upd H10 p1 (.tup ys) = H11 at *
          refine ⟨_, hb11, _, at5, a5, rfl, ⟨_, .inl (rd_tpO ha5_11)⟩, bare_lc w11.w.t.S.B w11.w.t.sh w11.eta f5.1 ha5_11 rv5_11 f7'.1 (tr (by omega) f7'.2 wk.2.2) fun D2 H12 ys2 ks2 hD2 k12 B12 eD2 ry2 hbr2 => ?_⟩
          have std12 := w11.w.t.S.B.std k12
          refine ⟨D2, rfl, ys2, by rw [eD2]; rfl, fun p2 hp2 => ?_⟩
          have s2 := same_new (o := .tup ys2) hp2
          have std13 := std12.trans (Std.ofSame s2)
          have e_p2 : upd H12 p2 (.tup ys2) p2 = some (.tup ys2) := upd_same
          have w13 : W4 (TT T) h l d q es ps a (.ask how tm ts c bys first) ta (upd H12 p2 (.tup ys2)) := ⟨⟨(w11.w.t.box B12 k12).same s2, (w11.w.r.std std12 (Nm.smNoL _)).same s2⟩, tpO_stn w11.eta (Stn.ofStd std13)⟩
          have hb13 := tpO_stn hb11 (Stn.ofStd std13)
          have e13 := std13 _ _ e_p1 (by intro xs z; cases z)
          have ry13 := ry11.std std13 (trsNoLL _)
          have ry2_13 := RXs.same s2 ry2
          have g4_13 := g4_11.std std13 (Nm.noL_o c)
          have g6_13 := g6_11.std std13 (Nm.noL_i first)
          generalize upd H12 p2 (.tup ys2) = H13 at *
          refine ⟨_, hb13, _, at4, ?_⟩
          refine ⟨h, l, d, ta, u4, es, ts, c, rfl, w13.w.t.S.B, w13.w.t.sh, w13.eta, f5.1, g4_13, by omega, f6, wk.2.1, fun v4 c' H14 hc r14 B14 k14 => ?_⟩
          have std14 := w13.w.t.S.B.std k14
          have hb14 := tpO_stn hb13 (Stn.ofStd std14)
          have w14 : W3 (TT T) h l d q es ps a (.ask how tm ts c bys first) H14 := ⟨w13.w.t.box B14 k14, w13.w.r.std std14 (Nm.smNoL _)⟩
          have eta14 := tpO_stn w13.eta (Stn.ofStd std14)
          have e14 := std14 _ _ e13 (by intro xs z; cases z)
          have e2_14 := std14 _ _ e_p2 (by intro xs z; cases z)
          have ry14 := ry13.std std14 (trsNoLL _)
          have ry2_14 := ry2_13.std std14 (trsNoLL _)
          have g6_14 := g6_13.std std14 (Nm.noL_i first)
          refine ⟨_, hb14, fun p3 H15 s15 e15 => ?_⟩
          have hb15 := tpO_same hb14 s15
          refine ⟨_, hb15, _, at6, fun p4 hp4 => ?_⟩
          have s16 := same_new (o := .tup [V.ref p1, V.ref ta, v4, V.ref p2, u6]) hp4
          have e15' : tpO (H15 p3) = some [.str (Str.ofString "ask"), .str how] := e15
          refine ⟨_, tpO_same e15' s16, szl (by simp), fun p5 H17 s17 e17 => ?_⟩
          have s147 := s15.trans (s16.trans s17)
          refine ⟨p5, ⟨.ask how ks' ts c' ks2 first, ⟨⟨w14.t.same s147, w14.r.same s147⟩, ?_⟩, ks', c', ks2, rfl, hbr, hc, hbr2⟩, rfl⟩
          refine Nm.rx_of_tpO e17 (rxs_cons (rx_str _) (rxs_cons (rx_str _) (rxs_cons ?_ (rxs_cons ?_ (rxs_cons (RX.same s147 r14) (rxs_cons ?_ (rxs_cons (RX.same s147 g6_14) rxs_nil)))))))
          · exact rx_tup (s147 _ _ e14) (RXs.same s147 ry14)
          · exact Nm.rx_of_tpO (tpO_same eta14 s147) (rxs_map fun s _ => rx_str s)
          · exact rx_tup (s147 _ _ e2_14) (RXs.same s147 ry2_14)
        · have e1 : decide (st.wd = Str.ofString "ask") = false := by
            cases st with
            | alone x => exact absurd rfl (nal x)
            | ask how tm ts c bys first => exact absurd ⟨how, tm, ts, c, bys, first, rfl⟩ ia
            | index t f => exact e_index_ask
            | put t f => exact e_put_ask
            | set t f c => exact e_set_ask
            | strike t f => exact e_strike_ask
            | table t f => exact e_table_ask
          have r8 := w8.r
          rw [e2] at r8
          obtain ⟨b2, us2, eb, hb2, r2⟩ := Nm.rx_tpO r8
          cases eb
          obtain ⟨u0, us2, rfl, g0, r2⟩ := Nm.rxs_un r2
          obtain rfl := Nm.rx_s g0
          simp? only [hb2, e1]
          exact ⟨a, ⟨st, ⟨⟨w8, w8.r⟩, brS_same (fun how tm ts c bys first e => ia ⟨how, tm, ts, c, bys, first, e⟩)⟩⟩, rfl⟩
      rintro σ' H10 ⟨b, bst, y5, y6, y7, ⟨w10, br⟩, rfl⟩
      have okb := Nm.brS_ok br ok7.w
      have alb := brS_al br nal
      have sixb := brS_index br f7
      refine ⟨fun σ' H11 => W5 (TT T) h l d q es ps a st b bst H11 ∧ σ' = [some (.ref a0), some (.ref h), some (.int (0 + (i : Int))), some (.ref a), some (.ref ta), y5, y6, y7, some (.str (Nm.due (shp es) (ixs ps) bst)), x9, some (.ref b), x11, some (.ref q), some (.ref d), none, none], ?_, ?_⟩
      · simp? only []
        exact ⟨b, d, q, es, ps, bst, rfl, w10.w.t.sh, w10.rb, okb, alb, w10.w.t.fx.fx, sixb, fun H11 s11 => ⟨w10.same s11, rfl⟩⟩
      rintro σ' H11 ⟨w11, rfl⟩
      refine ⟨fun σ' H12 => W5 (TT T) h l d q es ps a st b bst H12 ∧ σ' = [some (.ref a0), some (.ref h), some (.int (0 + (i : Int))), some (.ref a), some (.ref ta), y5, y6, y7, some (.str (Nm.due (shp es) (ixs ps) bst)), x9, some (.ref b), x11, some (.ref q), some (.ref d), none, none], ?_, ?_⟩
      · dsimp? only [Lm.tCallZ, Lm.tLam]
        refine ⟨w11.w.t.S.tab, fun f H12 e12 T12 A12 B zb => ?_⟩
        have w12 := w11.ext e12 T12
        refine ⟨f, _, rfl, A12 H12 (Lm.KeepF.refl _) _ B zb, fun E Qn h1 h2 h3 => ?_⟩
        refine ⟨_, rfl, _, rfl, _, rfl, word_checked (Q := fun x H1 => scal x (V.str (Nm.due (shp es) (ixs ps) bst)) = true ∧ if (!decide (x = V.str (Nm.due (shp es) (ixs ps) bst))) = true then Q (V.bl false) H1 else W5 (TT T) h l d q es ps a st b bst H1) w12.w.t.sh w12.w.t.fx w12.rb okb sixb h1 h2 h3 fun H13 s13 => ⟨rfl, ?_⟩⟩
        rw [if_neg (by simp)]
        exact w12.same s13
      rintro σ' H12 ⟨w12, rfl⟩
      refine ⟨fun σ' H13 => ∃ (v : V), (W5 (TT T) h l d q es ps a st b bst H13 ∧ RX H13 v st.dx) ∧ σ' = [some (.ref a0), some (.ref h), some (.int (0 + (i : Int))), some (.ref a), some (.ref ta), y5, y6, y7, some (.str (Nm.due (shp es) (ixs ps) bst)), some v, some (.ref b), x11, some (.ref q), some (.ref d), none, none], ?_, ?_⟩
      · simp? only []
        by_cases cd : Nm.due (shp es) (ixs ps) bst = Str.ofString ""
        · rw [if_pos (decide_eq_true cd)]
          have dc := Nm.due_chk (S := shp es) (ix := ixs ps) bst okb.nz
          rw [cd] at dc
          refine ⟨b, d, _, es, ps, bst, rfl, w12.w.t.sh, w12.rb, okb, (fun t f e => ⟨(sixb t f e).1, (sixb t f e).2, q, rfl, w12.w.t.fx.fx⟩), fun st' e H' b' s' r' => ?_, fun x e => ?_, fun e => ?_⟩
          · rw [bare_back br ok7 e] at r'
            exact ⟨w12.same s', _, r', rfl⟩
          · rw [e] at dc
            exact absurd dc.symm (Nm.chk_ne bst okb.nz e)
          · rw [e] at dc
            exact absurd dc.symm (by show (Str.ofString "row") ≠ _; decide +kernel)
        · rw [if_neg (by simpa using cd)]
          exact ⟨w12, _, w12.w.r, rfl⟩
      rintro σ' H13 ⟨v, ⟨w13, rv⟩, rfl⟩
      refine ⟨fun σ' H14 => W5 (TT T) h l d q es ps a st b bst H14 ∧ σ' = [some (.ref a0), some (.ref h), some (.int (0 + (i : Int))), some (.ref a), some (.ref ta), y5, y6, y7, some (.str (Nm.due (shp es) (ixs ps) bst)), some v, some (.ref b), x11, some (.ref q), some (.ref d), none, none], ?_, ?_⟩
      · simp? only []
        refine ⟨v, .ref a, st.dx, rfl, rv, w13.w.r, ok7.deep, Nm.fits_mono (by decide) _ ok7.fits, fun H14 s14 => ⟨true, rfl, ?_⟩⟩
        rw [if_neg (by decide)]
        exact w13.same s14
      rintro σ' H14 ⟨w14, rfl⟩
      obtain ⟨lv0, lvn⟩ := lv_ne alb (brS_full br f7)
      refine ⟨fun σ' H15 => ∃ (c : Addr) (cst : Nm.Sm), (W5 (TT T) h l d q es ps a st c cst H15 ∧ Nm.SmW cst ∧ (∀ x, cst ≠ .alone x) ∧ ∀ t f, cst = .index t f → PyData.strOk t = true ∧ PyData.strOk f = true) ∧ σ' = [some (.ref a0), some (.ref h), some (.int (0 + (i : Int))), some (.ref a), some (.ref ta), y5, y6, y7, some (.str (Nm.due (shp es) (ixs ps) bst)), some v, some (.ref b), some (.ref c), some (.ref q), some (.ref d), none, none], ?_, ?_⟩
      · simp? only []
        refine ⟨h, l, b, bst.dx, rfl, w14.w.t.S.B, w14.rb, okb.deep, okb.fits, Nm.smNoL _, lv0, lvn, fun H15 c p wd hp hw r15 B15 k15 => ?_⟩
        obtain ⟨w0, ow⟩ := bentW_ok wd hw
        obtain ⟨cst, ec, cwk, cnz, cal⟩ := Nm.bent_sm w0 bst okb.wk okb.nz alb hp
        obtain ⟨pd, pf⟩ := Nm.put_ok (w := wd) 8 bst.dx okb.deep okb.fits p hp
        have w15 := w14.box B15 k15
        refine ⟨c, cst, ⟨w15.w, by rw [← ec]; exact r15⟩, ⟨cwk, cnz, by rw [← ec]; exact pd, by rw [← ec]; exact pf⟩, cal, ?_, rfl⟩
        exact Nm.bent_full' alb sixb ow hp ec
      rintro σ' H15 ⟨c, cst, ⟨w15, okc, alc, sixc⟩, rfl⟩
      refine ⟨fun σ' H16 => W5 (TT T) h l d q es ps a st c cst H16 ∧ σ' = [some (.ref a0), some (.ref h), some (.int (0 + (i : Int))), some (.ref a), some (.ref ta), y5, y6, y7, some (.str (Nm.due (shp es) (ixs ps) cst)), some v, some (.ref b), some (.ref c), some (.ref q), some (.ref d), none, none], ?_, ?_⟩
      · simp? only []
        exact ⟨c, d, q, es, ps, cst, rfl, w15.w.t.sh, w15.rb, okc, alc, w15.w.t.fx.fx, sixc, fun H16 s16 => ⟨w15.same s16, rfl⟩⟩
      rintro σ' H16 ⟨w16, rfl⟩
      dsimp? only [Lm.tCallZ, Lm.tLam]
      refine ⟨w16.w.t.S.tab, fun f H17 e17 T17 A17 B zb => ?_⟩
      have w17 := w16.ext e17 T17
      refine ⟨f, _, rfl, A17 H17 (Lm.KeepF.refl _) _ B zb, fun E Qn h1 h2 h3 => ?_⟩
      refine ⟨_, rfl, _, rfl, _, rfl, word_checked (Q := fun x H1 => scal x (V.str (Nm.due (shp es) (ixs ps) cst)) = true ∧ if (!decide (x = V.str (Nm.due (shp es) (ixs ps) cst))) = true then Q (V.bl false) H1 else S03 (TT T) h l H1) w17.w.t.sh w17.w.t.fx w17.rb okc sixc h1 h2 h3 fun H18 s18 => ⟨rfl, ?_⟩⟩
      rw [if_neg (by simp)]
      exact (w17.same s18).w.t.S
    · rintro σ H3 ⟨x2, x3, x4, x5, x6, x7, x8, x9, x10, x11, x12, x13, S3, rfl⟩
      simp? only []
      exact k H3
end

theorem ok_all {P : Program} {w : World} {K : PySem.W.Frag} {mg : Str → Option Value} {base : Heap} (T : Txt K mg) (TB : LamX.TabB base mg T.c_law T.P_law) (TBx : LamX.TabB base mg T.c_ix T.P_ix) : FnOk P w K mg base CX0 18 T.f_law T.fd_law ["_law_script"] (spLaw K T.P_law T.P_ix) := ok_law T TB TBx
theorem all_mk {l : PySem.W.OpenLaw} {w : World} {K : PySem.W.Frag} {h : Heap} {mg : Str → Option Value} {D8 E8 fa f0 f1 f2 f3 f4 f5 f6 f7 f8 f9 f10 f11 f12 f13 f14 f15 f16 f17 f18 f19 f20 f21 f22 f23 f24 f25 f26 f27 CNames CBadName : Addr} (X : K.In h) (G : h.Ns mainGlobals mg) (hfa : mg "law" = some (.ref fa))
    {od0 an0 od1 an1 od2 an2 od3 an3 od4 an4 od5 an5 od6 an6 od7 an7 od8 an8 od9 an9 od10 an10 od11 an11 od12 an12 od13 an13 od14 an14 od15 an15 od16 an16 od17 an17 od18 an18 od19 an19 od20 an20 od21 an21 od22 an22 od23 an23 od24 an24 od25 an25 od26 an26 od27 an27 : Option Addr} {sl0 sl1 sl2 sl3 sl4 sl5 sl6 sl7 sl8 sl9 sl10 sl11 sl12 sl13 sl14 sl15 sl16 sl17 sl18 sl19 sl20 sl21 sl22 sl23 sl24 sl25 sl26 sl27 : Array (Option Value)} {oc0 kV0 dc0 pm0 cd0 ct0 oc1 kV1 dc1 pm1 cd1 ct1 oc2 kV2 dc2 pm2 cd2 ct2 oc3 kV3 dc3 pm3 cd3 ct3 oc4 kV4 dc4 pm4 cd4 ct4 oc5 kV5 dc5 pm5 cd5 ct5 oc6 kV6 dc6 pm6 cd6 ct6 oc7 kV7 dc7 pm7 cd7 ct7 oc8 kV8 dc8 pm8 cd8 ct8 oc9 kV9 dc9 pm9 cd9 ct9 oc10 kV10 dc10 pm10 cd10 ct10 oc11 kV11 dc11 pm11 cd11 ct11 oc12 kV12 dc12 pm12 cd12 ct12 oc13 kV13 dc13 pm13 cd13 ct13 oc14 kV14 dc14 pm14 cd14 ct14 oc15 kV15 dc15 pm15 cd15 ct15 oc16 kV16 dc16 pm16 cd16 ct16 oc17 kV17 dc17 pm17 cd17 ct17 oc18 kV18 dc18 pm18 cd18 ct18 oc19 kV19 dc19 pm19 cd19 ct19 oc20 kV20 dc20 pm20 cd20 ct20 oc21 kV21 dc21 pm21 cd21 ct21 oc22 kV22 dc22 pm22 cd22 ct22 oc23 kV23 dc23 pm23 cd23 ct23 oc24 kV24 dc24 pm24 cd24 ct24 oc25 kV25 dc25 pm25 cd25 ct25 oc26 kV26 dc26 pm26 ct26 oc27 kV27 dc27 pm27 ct27 : Value}
    (a0 : PySem.W.findIn K (.ref CBadName) "__init__" = some (some (.ref f0))) (i0 : PySem.W.isFn K (.ref f0) = true) (ty0 : PySem.W.typeIn K (.ref f0) = some (.type "function"))
    (l0 : K.lookup f0 = some ⟨oc0, od0, .func (PySem.W.fnOf "__init__" "BadName.__init__" (defArgs s_BadName_init) (defBody s_BadName_init) (defScope s_BadName_init) .none kV0 dc0 pm0 an0 cd0 ct0), sl0⟩) (c0 : PySem.W.codeIn K cd0 "BadName.__init__" = true) (k0 : PySem.W.keepIn K (.ref f0) = true)
    (a1 : PySem.W.findIn K (.ref CNames) "__init__" = some (some (.ref f1))) (i1 : PySem.W.isFn K (.ref f1) = true)
    (l1 : K.lookup f1 = some ⟨oc1, od1, .func (PySem.W.fnOf "__init__" "Names.__init__" (defArgs s_Names_init) (defBody s_Names_init) (defScope s_Names_init) .none kV1 dc1 pm1 an1 cd1 ct1), sl1⟩) (c1 : PySem.W.codeIn K cd1 "Names.__init__" = true) (k1 : PySem.W.keepIn K (.ref f1) = true)
    (a2 : PySem.W.findIn K (.ref CNames) "field" = some (some (.ref f2))) (i2 : PySem.W.isFn K (.ref f2) = true)
    (l2 : K.lookup f2 = some ⟨oc2, od2, .func (PySem.W.fnOf "field" "Names.field" (defArgs s_Names_field) (defBody s_Names_field) (defScope s_Names_field) .none kV2 dc2 pm2 an2 cd2 ct2), sl2⟩) (c2 : PySem.W.codeIn K cd2 "Names.field" = true) (k2 : PySem.W.keepIn K (.ref f2) = true)
    (a3 : PySem.W.findIn K (.ref CNames) "tree" = some (some (.ref f3))) (i3 : PySem.W.isFn K (.ref f3) = true)
    (l3 : K.lookup f3 = some ⟨oc3, od3, .func (PySem.W.fnOf "tree" "Names.tree" (defArgs s_Names_tree) (defBody s_Names_tree) (defScope s_Names_tree) .none kV3 dc3 pm3 an3 cd3 ct3), sl3⟩) (c3 : PySem.W.codeIn K cd3 "Names.tree" = true) (k3 : PySem.W.keepIn K (.ref f3) = true)
    (a4 : PySem.W.findIn K (.ref CNames) "trees" = some (some (.ref f4))) (i4 : PySem.W.isFn K (.ref f4) = true)
    (l4 : K.lookup f4 = some ⟨oc4, od4, .func (PySem.W.fnOf "trees" "Names.trees" (defArgs s_Names_trees) (defBody s_Names_trees) (defScope s_Names_trees) .none kV4 dc4 pm4 an4 cd4 ct4), sl4⟩) (c4 : PySem.W.codeIn K cd4 "Names.trees" = true) (k4 : PySem.W.keepIn K (.ref f4) = true)
    (a5 : PySem.W.nsIn K mainGlobals "checked_table" = some (some (.ref f5)))
    (l5 : K.lookup f5 = some ⟨oc5, od5, .func (PySem.W.fnOf "checked_table" "checked_table" (defArgs s_checked_table) (defBody s_checked_table) (defScope s_checked_table) .none kV5 dc5 pm5 an5 cd5 ct5), sl5⟩) (c5 : PySem.W.codeIn K cd5 "checked_table" = true) (k5 : PySem.W.keepIn K (.ref f5) = true)
    (a6 : PySem.W.nsIn K mainGlobals "checked_index" = some (some (.ref f6)))
    (l6 : K.lookup f6 = some ⟨oc6, od6, .func (PySem.W.fnOf "checked_index" "checked_index" (defArgs s_checked_index) (defBody s_checked_index) (defScope s_checked_index) .none kV6 dc6 pm6 an6 cd6 ct6), sl6⟩) (c6 : PySem.W.codeIn K cd6 "checked_index" = true) (k6 : PySem.W.keepIn K (.ref f6) = true)
    (a7 : PySem.W.nsIn K mainGlobals "checked_set" = some (some (.ref f7)))
    (l7 : K.lookup f7 = some ⟨oc7, od7, .func (PySem.W.fnOf "checked_set" "checked_set" (defArgs s_checked_set) (defBody s_checked_set) (defScope s_checked_set) .none kV7 dc7 pm7 an7 cd7 ct7), sl7⟩) (c7 : PySem.W.codeIn K cd7 "checked_set" = true) (k7 : PySem.W.keepIn K (.ref f7) = true)
    (a8 : PySem.W.nsIn K mainGlobals "checked" = some (some (.ref f8)))
    (l8 : K.lookup f8 = some ⟨oc8, od8, .func (PySem.W.fnOf "checked" "checked" (defArgs s_checked) (defBody s_checked) (defScope s_checked) (.ref D8) kV8 dc8 pm8 an8 cd8 ct8), sl8⟩) (c8 : PySem.W.codeIn K cd8 "checked" = true) (k8 : PySem.W.keepIn K (.ref f8) = true)
    {oq8 : Value} {oe8 : Option Addr} {nq8 : Nat} {sq8 : Array (Option Value)} (lq8 : K.lookup D8 = some ⟨oq8, oe8, .seq #[.ref E8] nq8, sq8⟩)
    (a9 : PySem.W.nsIn K mainGlobals "_law_mix" = some (some (.ref f9)))
    (l9 : K.lookup f9 = some ⟨oc9, od9, .func (PySem.W.fnOf "_law_mix" "_law_mix" (defArgs s_l_mix) (defBody s_l_mix) (defScope s_l_mix) .none kV9 dc9 pm9 an9 cd9 ct9), sl9⟩) (c9 : PySem.W.codeIn K cd9 "_law_mix" = true) (k9 : PySem.W.keepIn K (.ref f9) = true)
    (a10 : PySem.W.nsIn K mainGlobals "_law_next" = some (some (.ref f10)))
    (l10 : K.lookup f10 = some ⟨oc10, od10, .func (PySem.W.fnOf "_law_next" "_law_next" (defArgs s_l_next) (defBody s_l_next) (defScope s_l_next) .none kV10 dc10 pm10 an10 cd10 ct10), sl10⟩) (c10 : PySem.W.codeIn K cd10 "_law_next" = true) (k10 : PySem.W.keepIn K (.ref f10) = true)
    (a11 : PySem.W.nsIn K mainGlobals "_law_alike" = some (some (.ref f11)))
    (l11 : K.lookup f11 = some ⟨oc11, od11, .func (PySem.W.fnOf "_law_alike" "_law_alike" (defArgs s_l_alike) (defBody s_l_alike) (defScope s_l_alike) .none kV11 dc11 pm11 an11 cd11 ct11), sl11⟩) (c11 : PySem.W.codeIn K cd11 "_law_alike" = true) (k11 : PySem.W.keepIn K (.ref f11) = true)
    (a12 : PySem.W.nsIn K mainGlobals "_law_shapes" = some (some (.ref f12)))
    (l12 : K.lookup f12 = some ⟨oc12, od12, .func (PySem.W.fnOf "_law_shapes" "_law_shapes" (defArgs s_l_shapes) (defBody s_l_shapes) (defScope s_l_shapes) .none kV12 dc12 pm12 an12 cd12 ct12), sl12⟩) (c12 : PySem.W.codeIn K cd12 "_law_shapes" = true) (k12 : PySem.W.keepIn K (.ref f12) = true)
    (a13 : PySem.W.nsIn K mainGlobals "_law_number" = some (some (.ref f13)))
    (l13 : K.lookup f13 = some ⟨oc13, od13, .func (PySem.W.fnOf "_law_number" "_law_number" (defArgs s_l_number) (defBody s_l_number) (defScope s_l_number) .none kV13 dc13 pm13 an13 cd13 ct13), sl13⟩) (c13 : PySem.W.codeIn K cd13 "_law_number" = true) (k13 : PySem.W.keepIn K (.ref f13) = true)
    (a14 : PySem.W.nsIn K mainGlobals "_law_term" = some (some (.ref f14)))
    (l14 : K.lookup f14 = some ⟨oc14, od14, .func (PySem.W.fnOf "_law_term" "_law_term" (defArgs s_l_term) (defBody s_l_term) (defScope s_l_term) .none kV14 dc14 pm14 an14 cd14 ct14), sl14⟩) (c14 : PySem.W.codeIn K cd14 "_law_term" = true) (k14 : PySem.W.keepIn K (.ref f14) = true)
    (a15 : PySem.W.nsIn K mainGlobals "_law_cond" = some (some (.ref f15)))
    (l15 : K.lookup f15 = some ⟨oc15, od15, .func (PySem.W.fnOf "_law_cond" "_law_cond" (defArgs s_l_cond) (defBody s_l_cond) (defScope s_l_cond) .none kV15 dc15 pm15 an15 cd15 ct15), sl15⟩) (c15 : PySem.W.codeIn K cd15 "_law_cond" = true) (k15 : PySem.W.keepIn K (.ref f15) = true)
    (a16 : PySem.W.nsIn K mainGlobals "_law_some" = some (some (.ref f16)))
    (l16 : K.lookup f16 = some ⟨oc16, od16, .func (PySem.W.fnOf "_law_some" "_law_some" (defArgs s_l_some) (defBody s_l_some) (defScope s_l_some) .none kV16 dc16 pm16 an16 cd16 ct16), sl16⟩) (c16 : PySem.W.codeIn K cd16 "_law_some" = true) (k16 : PySem.W.keepIn K (.ref f16) = true)
    (a17 : PySem.W.nsIn K mainGlobals "_law_ask" = some (some (.ref f17)))
    (l17 : K.lookup f17 = some ⟨oc17, od17, .func (PySem.W.fnOf "_law_ask" "_law_ask" (defArgs s_l_ask) (defBody s_l_ask) (defScope s_l_ask) .none kV17 dc17 pm17 an17 cd17 ct17), sl17⟩) (c17 : PySem.W.codeIn K cd17 "_law_ask" = true) (k17 : PySem.W.keepIn K (.ref f17) = true)
    (a18 : PySem.W.nsIn K mainGlobals "_law_statement" = some (some (.ref f18)))
    (l18 : K.lookup f18 = some ⟨oc18, od18, .func (PySem.W.fnOf "_law_statement" "_law_statement" (defArgs s_l_statement) (defBody s_l_statement) (defScope s_l_statement) .none kV18 dc18 pm18 an18 cd18 ct18), sl18⟩) (c18 : PySem.W.codeIn K cd18 "_law_statement" = true) (k18 : PySem.W.keepIn K (.ref f18) = true)
    (a19 : PySem.W.nsIn K mainGlobals "_law_word" = some (some (.ref f19)))
    (l19 : K.lookup f19 = some ⟨oc19, od19, .func (PySem.W.fnOf "_law_word" "_law_word" (defArgs s_l_word) (defBody s_l_word) (defScope s_l_word) .none kV19 dc19 pm19 an19 cd19 ct19), sl19⟩) (c19 : PySem.W.codeIn K cd19 "_law_word" = true) (k19 : PySem.W.keepIn K (.ref f19) = true)
    (a20 : PySem.W.nsIn K mainGlobals "_law_bare" = some (some (.ref f20)))
    (l20 : K.lookup f20 = some ⟨oc20, od20, .func (PySem.W.fnOf "_law_bare" "_law_bare" (defArgs s_l_bare) (defBody s_l_bare) (defScope s_l_bare) .none kV20 dc20 pm20 an20 cd20 ct20), sl20⟩) (c20 : PySem.W.codeIn K cd20 "_law_bare" = true) (k20 : PySem.W.keepIn K (.ref f20) = true)
    (a21 : PySem.W.nsIn K mainGlobals "_law_first" = some (some (.ref f21)))
    (l21 : K.lookup f21 = some ⟨oc21, od21, .func (PySem.W.fnOf "_law_first" "_law_first" (defArgs s_l_first) (defBody s_l_first) (defScope s_l_first) .none kV21 dc21 pm21 an21 cd21 ct21), sl21⟩) (c21 : PySem.W.codeIn K cd21 "_law_first" = true) (k21 : PySem.W.keepIn K (.ref f21) = true)
    (a22 : PySem.W.nsIn K mainGlobals "_law_due" = some (some (.ref f22)))
    (l22 : K.lookup f22 = some ⟨oc22, od22, .func (PySem.W.fnOf "_law_due" "_law_due" (defArgs s_l_due) (defBody s_l_due) (defScope s_l_due) .none kV22 dc22 pm22 an22 cd22 ct22), sl22⟩) (c22 : PySem.W.codeIn K cd22 "_law_due" = true) (k22 : PySem.W.keepIn K (.ref f22) = true)
    (a23 : PySem.W.nsIn K mainGlobals "_law_leaves" = some (some (.ref f23)))
    (l23 : K.lookup f23 = some ⟨oc23, od23, .func (PySem.W.fnOf "_law_leaves" "_law_leaves" (defArgs s_l_leaves) (defBody s_l_leaves) (defScope s_l_leaves) .none kV23 dc23 pm23 an23 cd23 ct23), sl23⟩) (c23 : PySem.W.codeIn K cd23 "_law_leaves" = true) (k23 : PySem.W.keepIn K (.ref f23) = true)
    (a24 : PySem.W.nsIn K mainGlobals "_law_put" = some (some (.ref f24)))
    (l24 : K.lookup f24 = some ⟨oc24, od24, .func (PySem.W.fnOf "_law_put" "_law_put" (defArgs s_l_put) (defBody s_l_put) (defScope s_l_put) .none kV24 dc24 pm24 an24 cd24 ct24), sl24⟩) (c24 : PySem.W.codeIn K cd24 "_law_put" = true) (k24 : PySem.W.keepIn K (.ref f24) = true)
    (a25 : PySem.W.nsIn K mainGlobals "_law_bent" = some (some (.ref f25)))
    (l25 : K.lookup f25 = some ⟨oc25, od25, .func (PySem.W.fnOf "_law_bent" "_law_bent" (defArgs s_l_bent) (defBody s_l_bent) (defScope s_l_bent) .none kV25 dc25 pm25 an25 cd25 ct25), sl25⟩) (c25 : PySem.W.codeIn K cd25 "_law_bent" = true) (k25 : PySem.W.keepIn K (.ref f25) = true)
    (a26 : PySem.W.nsIn K mainGlobals "_law_known" = some (some (.ref f26)))
    (l26 : K.lookup f26 = some ⟨oc26, od26, .func (PySem.W.fnOf "_law_known" "_law_known" (defArgs s_l_known) (defBody s_l_known) (defScope s_l_known) .none kV26 dc26 pm26 an26 (.ref cM) ct26), sl26⟩) (c26 : PySem.W.codeIn K (.ref cM) "_law_known" = true) (k26 : PySem.W.keepIn K (.ref f26) = true)
    (a27 : PySem.W.nsIn K mainGlobals "law" = some (some (.ref f27)))
    (l27 : K.lookup f27 = some ⟨oc27, od27, .func (PySem.W.fnOf "law" "law" (defArgs s_law) (defBody s_law) (defScope s_law) .none kV27 dc27 pm27 an27 (.ref cL) ct27), sl27⟩) (c27 : PySem.W.codeIn K (.ref cL) "law" = true) (k27 : PySem.W.keepIn K (.ref f27) = true)
    (aCNames : PySem.W.nsIn K mainGlobals "Names" = some (some (.ref CNames))) (pgNames : PySem.W.plainGet K CNames Str.empty = true) (hdNames : PySem.W.hasDictIn K CNames = true) (poNames : PySem.W.plainOver K CNames = true) (saNames : PySem.W.findIn K (.ref CNames) "__setattr__" = some (some (.builtin "object.__setattr__"))) (mkNames : PySem.W.makesIn K CNames = true) (kcNames : PySem.W.keepIn K (.ref CNames) = true)
    (nNames_known_shapes : PySem.W.findIn K (.ref CNames) "known_shapes" = some none)
    (nNames_tables : PySem.W.findIn K (.ref CNames) "tables" = some none)
    (z_ValueError : PySem.W.nsIn K mainGlobals "ValueError" = some none)
    (z_enumerate : PySem.W.nsIn K mainGlobals "enumerate" = some none)
    (z_len : PySem.W.nsIn K mainGlobals "len" = some none)
    (z_tuple : PySem.W.nsIn K mainGlobals "tuple" = some none)
    (z_list : PySem.W.nsIn K mainGlobals "list" = some none)
    (z_max : PySem.W.nsIn K mainGlobals "max" = some none)
    (z_isinstance : PySem.W.nsIn K mainGlobals "isinstance" = some none)
    (z_range : PySem.W.nsIn K mainGlobals "range" = some none)
    (z_str : PySem.W.nsIn K mainGlobals "str" = some none)
    (z_int : PySem.W.nsIn K mainGlobals "int" = some none)
    (z_bool : PySem.W.nsIn K mainGlobals "bool" = some none)
    (z_sorted : PySem.W.nsIn K mainGlobals "sorted" = some none)
    {CStoreError : Addr}
    (aE_StoreError : PySem.W.nsIn K mainGlobals "StoreError" = some (some (.ref CStoreError)))
    (ei_StoreError : PySem.W.isClsIn K CStoreError = true)
    (et_StoreError : PySem.W.typeIn K (.ref CStoreError) = some (.type "type"))
    (er_StoreError : PySem.W.readsIn K CStoreError (.type "type") = true)
    (eu_StoreError : PySem.W.specialIn K (.ref CStoreError) "__getattribute__" = some (some (.builtin "type.__getattribute__")))
    (evi_StoreError : PySem.W.findCls K (.ref CStoreError) (.type "type") "__init__" = some (.val (.builtin "ValueError.__init__")))
    (en : PySem.W.specialIn K (.builtin "object.__class__") "__get__" = some (some (.builtin "getset_descriptor.__get__")))
    (ey : PySem.W.takesIn K (.builtin "object.__class__") = some true)
    {nm_BadName qn_BadName : Str} {N_BadName : Addr} {bs_BadName bm_BadName sb_BadName : List Value} {sn_BadName : List Str} {ab_BadName : Bool} {col_BadName : Option Bool} {dd_BadName : Option Addr} {k0_BadName k1_BadName k2_BadName k3_BadName k5_BadName : Option Value}
    (aE_BadName : PySem.W.nsIn K mainGlobals "BadName" = some (some (.ref CBadName)))
    (lk_BadName : K.lookup CBadName = some (excClassObj nm_BadName qn_BadName CBadName N_BadName bs_BadName bm_BadName true sn_BadName sb_BadName ab_BadName col_BadName dd_BadName k0_BadName k1_BadName k2_BadName k3_BadName k5_BadName "ValueError.__new__"))
    (rv_BadName : PySem.HandSPX.refsVE bm_BadName = true)
    (sa_BadName : PySem.W.findIn K (.ref CBadName) "__setattr__" = some (some (.builtin "object.__setattr__")))
    (es_BadName : PySem.W.subIn K (.ref CBadName) (.type "BaseException") = some true)
    (et_BadName : PySem.W.typeIn K (.ref CBadName) = some (.type "type"))
    (ek_BadName : PySem.W.keepIn K (.ref CBadName) = true)
    (eg_BadName : PySem.W.findIn K (.ref CBadName) "__getattribute__" = some (some (.builtin "BaseException.__getattribute__")))
    (eh_BadName : PySem.W.findIn K (.ref CBadName) "__getattr__" = some none)
    (ed_BadName : PySem.W.hasDictIn K CBadName = true)
    (ec_BadName : PySem.W.findIn K (.ref CBadName) "__class__" = some (some (.builtin "object.__class__")))
    (em_BadName : PySem.W.mroIn K CBadName (.type "object") = some true)
    (ei_BadName : PySem.W.isClsIn K CBadName = true)
    (eq_BadName : PySem.W.subIn K (.ref CBadName) (.ref CBadName) = some true)
    (eb_BadName : PySem.W.subIn K (.ref CBadName) (.ref CStoreError) = some true)
    (ev_BadName : PySem.W.subIn K (.ref CBadName) (.type "ValueError") = some true)
    (np_BadName : PySem.W.findIn K (.ref CBadName) "word" = some none)
    {EBadRow : Addr}
    (aE_BadRow : PySem.W.nsIn K mainGlobals "BadRow" = some (some (.ref EBadRow)))
    (ek_BadRow : PySem.W.keepIn K (.ref EBadRow) = true)
    (ex_BadRow : PySem.W.excIn K EBadRow [.type "ValueError", .type "Exception", .type "BaseException", .type "object"] "ValueError.__new__" = true)
    (es_BadRow : PySem.W.subIn K (.ref EBadRow) (.type "BaseException") = some true)
    (et_BadRow : PySem.W.typeIn K (.ref EBadRow) = some (.type "type"))
    (ei_BadRow : PySem.W.isClsIn K EBadRow = true)
    (eg_BadRow : PySem.W.findIn K (.ref EBadRow) "__getattribute__" = some (some (.builtin "BaseException.__getattribute__")))
    (eh_BadRow : PySem.W.findIn K (.ref EBadRow) "__getattr__" = some none)
    (ed_BadRow : PySem.W.hasDictIn K EBadRow = true)
    (ec_BadRow : PySem.W.findIn K (.ref EBadRow) "__class__" = some (some (.builtin "object.__class__")))
    (em_BadRow : PySem.W.mroIn K EBadRow (.type "object") = some true)
    (eq_BadRow : PySem.W.subIn K (.ref EBadRow) (.ref EBadRow) = some true)
    (eb_BadRow : PySem.W.subIn K (.ref EBadRow) (.ref CStoreError) = some true)
    (e0_BadRow : PySem.W.subIn K (.ref EBadRow) (.ref CBadName) = some false)
    {eL : Value} {dL : Option Addr} {vL : Array Value} {sL : Array (Option Value)} (lcL : K.lookup cL = some ⟨eL, dL, .fields vL, sL⟩) (vPL : vL[11]? = some (.ref PL)) (nPL : K.lookup PL = none) (hCL : PySem.W.codeHdIn K cL PL = true) (atL : h.get? PL = some { cls := .none, data := .fields #[] })
    {eM : Value} {dM : Option Addr} {vM : Array Value} {sM : Array (Option Value)} (lcM : K.lookup cM = some ⟨eM, dM, .fields vM, sM⟩) (vPM : vM[11]? = some (.ref PM)) (nPM : K.lookup PM = none) (hCM : PySem.W.codeHdIn K cM PM = true) (atM : h.get? PM = some { cls := .none, data := .fields #[] })
    (nPP : PL ≠ PM)
    : LamX.LawAtS l w K CX0 18 63 "_law_script" mg fa h := by
  have e := hfa.symm.trans (PySem.W.mg_of X G a27)
  cases e
  have F0 := fun_mk (st := s_BadName_init) l0 c0 k0
  have F1 := fun_mk (st := s_Names_init) l1 c1 k1
  have F2 := fun_mk (st := s_Names_field) l2 c2 k2
  have F3 := fun_mk (st := s_Names_tree) l3 c3 k3
  have F4 := fun_mk (st := s_Names_trees) l4 c4 k4
  have F5 := fun_mk (st := s_checked_table) l5 c5 k5
  have F6 := fun_mk (st := s_checked_index) l6 c6 k6
  have F7 := fun_mk (st := s_checked_set) l7 c7 k7
  have F8 : FunD K "checked" "checked" (defArgs s_checked) (defBody s_checked) (defScope s_checked) [V.ref E8] [] f8 _ := ⟨⟨_, _, _, _, _, _, _, _, _, _, rfl, l8, c8, .inr ⟨by simp, D8, _, [.ref E8], _, rfl, lq8, rfl, .cons rfl .nil⟩, .inl rfl⟩, k8⟩
  obtain ⟨ds8, dr8, bd8⟩ := F8.binds1 (ps := ["tree", "shapes", "indexes"]) 2 0 (by simp) rfl fun _ _ _ _ _ _ _ us its hu hi => match us, hu, its, hi with | [_, _], _, [_], _ => ⟨_, rfl, rfl⟩
  obtain ⟨dz8, dy8, be8⟩ := F8.binds1 (ps := ["tree", "shapes", "indexes"]) 3 1 (by simp) rfl fun _ _ _ _ _ _ _ us its hu hi => match us, hu, its, hi with | [_, _, _], _, [_], _ => ⟨_, rfl, rfl⟩
  cases dy8
  have F9 := fun_mk (st := s_l_mix) l9 c9 k9
  have F10 := fun_mk (st := s_l_next) l10 c10 k10
  have F11 := fun_mk (st := s_l_alike) l11 c11 k11
  have F12 := fun_mk (st := s_l_shapes) l12 c12 k12
  have F13 := fun_mk (st := s_l_number) l13 c13 k13
  have F14 := fun_mk (st := s_l_term) l14 c14 k14
  have F15 := fun_mk (st := s_l_cond) l15 c15 k15
  have F16 := fun_mk (st := s_l_some) l16 c16 k16
  have F17 := fun_mk (st := s_l_ask) l17 c17 k17
  have F18 := fun_mk (st := s_l_statement) l18 c18 k18
  have F19 := fun_mk (st := s_l_word) l19 c19 k19
  have F20 := fun_mk (st := s_l_bare) l20 c20 k20
  have F21 := fun_mk (st := s_l_first) l21 c21 k21
  have F22 := fun_mk (st := s_l_due) l22 c22 k22
  have F23 := fun_mk (st := s_l_leaves) l23 c23 k23
  have F24 := fun_mk (st := s_l_put) l24 c24 k24
  have F25 := fun_mk (st := s_l_bent) l25 c25 k25
  have F26 := fun_mk (st := s_l_known) l26 c26 k26
  have F27 := fun_mk (st := s_law) l27 c27 k27
  have T : ∃ T : Txt K mg, T.f_law = fa ∧ T.fd_law = PySem.W.fnOf "law" "law" (defArgs s_law) (defBody s_law) (defScope s_law) .none kV27 dc27 pm27 an27 (.ref cL) ct27 ∧ T.c_law = cL ∧ T.P_law = PL ∧ T.c_ix = cM ∧ T.P_ix = PM := ⟨{ f_BadName_init := f0, fd_BadName_init := _, F_BadName_init := F0, kb_BadName_init := (F0.kbn (ps := ["self", "word"]) 1 ["word"] fun _ _ _ _ _ _ us ws hu hw => match us, hu, ws, hw with | [_], _, [_], _ => rfl), iO_BadName := a0, tO_BadName := ty0, f_Names_init := f1, fd_Names_init := _, F_Names_init := F1, b_Names_init := (F1.binds (ps := ["self", "shapes", "tables"]) fun _ _ _ _ _ _ us hl => match us, hl with | [_, _, _], _ => rfl), f_Names_field := f2, fd_Names_field := _, F_Names_field := F2, b_Names_field := (F2.binds (ps := ["self", "table", "name"]) fun _ _ _ _ _ _ us hl => match us, hl with | [_, _, _], _ => rfl), f_Names_tree := f3, fd_Names_tree := _, F_Names_tree := F3, b_Names_tree := (F3.binds (ps := ["self", "tree"]) fun _ _ _ _ _ _ us hl => match us, hl with | [_, _], _ => rfl), f_Names_trees := f4, fd_Names_trees := _, F_Names_trees := F4, b_Names_trees := (F4.binds (ps := ["self", "some"]) fun _ _ _ _ _ _ us hl => match us, hl with | [_, _], _ => rfl), f_checked_table := f5, fd_checked_table := _, F_checked_table := F5, b_checked_table := (F5.binds (ps := ["tree", "shapes"]) fun _ _ _ _ _ _ us hl => match us, hl with | [_, _], _ => rfl), mg_checked_table := PySem.W.mg_of X G a5, f_checked_index := f6, fd_checked_index := _, F_checked_index := F6, b_checked_index := (F6.binds (ps := ["tree", "names", "indexes"]) fun _ _ _ _ _ _ us hl => match us, hl with | [_, _, _], _ => rfl), mg_checked_index := PySem.W.mg_of X G a6, f_checked_set := f7, fd_checked_set := _, F_checked_set := F7, b_checked_set := (F7.binds (ps := ["tree", "names"]) fun _ _ _ _ _ _ us hl => match us, hl with | [_, _], _ => rfl), mg_checked_set := PySem.W.mg_of X G a7, f_checked := f8, fd_checked := _, e1_checked := E8, F_checked := F8, s1_checked := ds8, d1_checked := dr8, b1_checked := bd8, b_checked := be8, mg_checked := PySem.W.mg_of X G a8, f_l_mix := f9, fd_l_mix := _, F_l_mix := F9, b_l_mix := (F9.binds (ps := ["_law_script", "_law_seed"]) fun _ _ _ _ _ _ us hl => match us, hl with | [_, _], _ => rfl), mg_l_mix := PySem.W.mg_of X G a9, f_l_next := f10, fd_l_next := _, F_l_next := F10, b_l_next := (F10.binds (ps := ["_law_h", "_law_many"]) fun _ _ _ _ _ _ us hl => match us, hl with | [_, _], _ => rfl), mg_l_next := PySem.W.mg_of X G a10, f_l_alike := f11, fd_l_alike := _, F_l_alike := F11, b_l_alike := (F11.binds (ps := ["_law_found", "_law_due_here"]) fun _ _ _ _ _ _ us hl => match us, hl with | [_, _], _ => rfl), mg_l_alike := PySem.W.mg_of X G a11, f_l_shapes := f12, fd_l_shapes := _, F_l_shapes := F12, b_l_shapes := (F12.binds (ps := ["_law_h", "_law_many"]) fun _ _ _ _ _ _ us hl => match us, hl with | [_, _], _ => rfl), mg_l_shapes := PySem.W.mg_of X G a12, f_l_number := f13, fd_l_number := _, F_l_number := F13, b_l_number := (F13.binds (ps := ["_law_h"]) fun _ _ _ _ _ _ us hl => match us, hl with | [_], _ => rfl), mg_l_number := PySem.W.mg_of X G a13, f_l_term := f14, fd_l_term := _, F_l_term := F14, b_l_term := (F14.binds (ps := ["_law_h", "_law_fields", "_law_deep"]) fun _ _ _ _ _ _ us hl => match us, hl with | [_, _, _], _ => rfl), mg_l_term := PySem.W.mg_of X G a14, f_l_cond := f15, fd_l_cond := _, F_l_cond := F15, b_l_cond := (F15.binds (ps := ["_law_h", "_law_fields", "_law_deep"]) fun _ _ _ _ _ _ us hl => match us, hl with | [_, _, _], _ => rfl), mg_l_cond := PySem.W.mg_of X G a15, f_l_some := f16, fd_l_some := _, F_l_some := F16, b_l_some := (F16.binds (ps := ["_law_h", "_law_shapes_here", "_law_tables"]) fun _ _ _ _ _ _ us hl => match us, hl with | [_, _, _], _ => rfl), mg_l_some := PySem.W.mg_of X G a16, f_l_ask := f17, fd_l_ask := _, F_l_ask := F17, b_l_ask := (F17.binds (ps := ["_law_h", "_law_shapes_here"]) fun _ _ _ _ _ _ us hl => match us, hl with | [_, _], _ => rfl), mg_l_ask := PySem.W.mg_of X G a17, f_l_statement := f18, fd_l_statement := _, F_l_statement := F18, b_l_statement := (F18.binds (ps := ["_law_h", "_law_shapes_here"]) fun _ _ _ _ _ _ us hl => match us, hl with | [_, _], _ => rfl), mg_l_statement := PySem.W.mg_of X G a18, f_l_word := f19, fd_l_word := _, F_l_word := F19, b_l_word := (F19.binds (ps := ["_law_call"]) fun _ _ _ _ _ _ us hl => match us, hl with | [_], _ => rfl), mg_l_word := PySem.W.mg_of X G a19, f_l_bare := f20, fd_l_bare := _, F_l_bare := F20, b_l_bare := (F20.binds (ps := ["_law_h", "_law_tree", "_law_shapes_here", "_law_tables"]) fun _ _ _ _ _ _ us hl => match us, hl with | [_, _, _, _], _ => rfl), mg_l_bare := PySem.W.mg_of X G a20, f_l_first := f21, fd_l_first := _, F_l_first := F21, b_l_first := (F21.binds (ps := ["_law_tree", "_law_shapes_here", "_law_tables"]) fun _ _ _ _ _ _ us hl => match us, hl with | [_, _, _], _ => rfl), mg_l_first := PySem.W.mg_of X G a21, f_l_due := f22, fd_l_due := _, F_l_due := F22, b_l_due := (F22.binds (ps := ["_law_tree", "_law_shapes_here", "_law_indexes"]) fun _ _ _ _ _ _ us hl => match us, hl with | [_, _, _], _ => rfl), mg_l_due := PySem.W.mg_of X G a22, f_l_leaves := f23, fd_l_leaves := _, F_l_leaves := F23, b_l_leaves := (F23.binds (ps := ["_law_one", "_law_path"]) fun _ _ _ _ _ _ us hl => match us, hl with | [_, _], _ => rfl), mg_l_leaves := PySem.W.mg_of X G a23, f_l_put := f24, fd_l_put := _, F_l_put := F24, b_l_put := (F24.binds (ps := ["_law_one", "_law_path", "_law_word_here"]) fun _ _ _ _ _ _ us hl => match us, hl with | [_, _, _], _ => rfl), mg_l_put := PySem.W.mg_of X G a24, f_l_bent := f25, fd_l_bent := _, F_l_bent := F25, b_l_bent := (F25.binds (ps := ["_law_h", "_law_tree"]) fun _ _ _ _ _ _ us hl => match us, hl with | [_, _], _ => rfl), mg_l_bent := PySem.W.mg_of X G a25, f_l_known := f26, fd_l_known := _, F_l_known := F26, b_l_known := (F26.binds (ps := []) fun _ _ _ _ _ _ us hl => match us, hl with | [], _ => rfl), mg_l_known := PySem.W.mg_of X G a26, f_law := fa, fd_law := _, F_law := F27, b_law := (F27.binds (ps := ["_law_script"]) fun _ _ _ _ _ _ us hl => match us, hl with | [_], _ => rfl), mg_law := PySem.W.mg_of X G a27, C_Names := CNames, cl_Names := ⟨pgNames, hdNames, poNames, saNames⟩, mg_Names := PySem.W.mg_of X G aCNames, mk_Names := ⟨mkNames, a1, i1, kcNames⟩, na_Names_known_shapes := nNames_known_shapes, na_Names_tables := nNames_tables, me_Names_field := ⟨a2, i2, k2⟩, me_Names_tree := ⟨a3, i3, k3⟩, me_Names_trees := ⟨a4, i4, k4⟩, n_ValueError := PySem.W.mg_none_of X G z_ValueError, n_enumerate := PySem.W.mg_none_of X G z_enumerate, n_len := PySem.W.mg_none_of X G z_len, n_tuple := PySem.W.mg_none_of X G z_tuple, n_list := PySem.W.mg_none_of X G z_list, n_max := PySem.W.mg_none_of X G z_max, n_isinstance := PySem.W.mg_none_of X G z_isinstance, n_range := PySem.W.mg_none_of X G z_range, n_str := PySem.W.mg_none_of X G z_str, n_int := PySem.W.mg_none_of X G z_int, n_bool := PySem.W.mg_none_of X G z_bool, n_sorted := PySem.W.mg_none_of X G z_sorted, C_StoreError := CStoreError, mg_StoreError := PySem.W.mg_of X G aE_StoreError, R_StoreError := ⟨er_StoreError, eu_StoreError⟩, v_StoreError := evi_StoreError, C_BadName := CBadName, X_BadName := ⟨eg_BadName, eh_BadName, es_BadName, ed_BadName⟩, E_BadName := ⟨eg_BadName, eh_BadName, es_BadName, ed_BadName, ec_BadName, en, ey, em_BadName⟩, m_BadName := Td.exm_of es_BadName ei_BadName et_BadName eq_BadName, kV_BadName := Td.kit_ve ev_BadName, kS_BadName := kit_sub ei_StoreError et_StoreError eb_BadName, mg_BadName := PySem.W.mg_of X G aE_BadName, O_BadName := ⟨⟨_, _, _, _, _, _, _, _, _, _, _, _, _, _, _, lk_BadName, rv_BadName⟩, sa_BadName, es_BadName, et_BadName, ek_BadName⟩, n_BadName_word := np_BadName, C_BadRow := EBadRow, mg_BadRow := PySem.W.mg_of X G aE_BadRow, X_BadRow := ⟨PySem.W.mg_of X G aE_BadRow, ek_BadRow, ex_BadRow, es_BadRow, et_BadRow⟩, E_BadRow := ⟨eg_BadRow, eh_BadRow, es_BadRow, ed_BadRow, ec_BadRow, en, ey, em_BadRow⟩, m_RN := exm_is es_BadName ei_BadName et_BadName e0_BadRow, m_RR := exm_is es_BadRow ei_BadRow et_BadRow eq_BadRow, kS_BadRow := kit_sub ei_StoreError et_StoreError eb_BadRow, c_law := cL, P_law := PL, hc_law := rfl, c_ix := cM, P_ix := PM, hc_ix := rfl, nPP := nPP }, rfl, rfl, rfl, rfl, rfl, rfl⟩
  obtain ⟨T, t1, t2, t3, t4, t5, t6⟩ := T
  have two : ∀ p ∈ [(cL, PL), (cM, PM)], p = (cL, PL) ∨ p = (cM, PM) := fun p hp => by
    rcases List.mem_cons.mp hp with q | q
    · exact .inl q
    · exact .inr (List.mem_singleton.mp q)
  have inM : (cM, PM) ∈ [(cL, PL), (cM, PM)] := List.mem_cons_of_mem _ List.mem_cons_self
  refine ⟨PySem.W.fnOf "law" "law" (defArgs s_law) (defBody s_law) (defScope s_law) .none kV27 dc27 pm27 an27 (.ref cL) ct27, [(cL, PL), (cM, PM)], spLaw K PL PM, fun p hp => ?_, fun p hp => ?_, fun p hp => ?_, fun s v => .of_eq rfl, fun H a ns hl _ hH hS => ⟨a, ns, rfl, hS, hl, hH (cL, PL) List.mem_cons_self, hH (cM, PM) inM, fun _ => rfl⟩, fun base _ _ hTB => ?_⟩
  · rcases two p hp with q | q <;> rw [q]
    · exact atL
    · exact atM
  · rcases two p hp with q | q <;> rw [q]
    · exact nPL
    · exact nPM
  · rcases two p hp with q | q <;> rw [q]
    · exact PySem.W.codeHd_of_K X hCL
    · exact PySem.W.codeHd_of_K X hCM
  have TB := hTB (cL, PL) List.mem_cons_self
  have TBx := hTB (cM, PM) inM
  rw [← t1, ← t2, ← t4, ← t6]
  rw [← t3, ← t4] at TB
  rw [← t5, ← t6] at TBx
  exact ok_all T TB TBx
theorem walk {l : PySem.W.OpenLaw} {q : Program} {loose : List Str} {XP : (Str → Option Value) → Heap → Prop} {YP : World → Heap → Prop} {d : DefRec} {K : Params → PySem.W.Frag} (hn : l.most = some 63) (hdf : d.params.defaults = [])
    (hY : ∀ (w : World) (h : Heap), YP w h → (K w.params).In h)
    (F : ∀ (w : World) (mg : Str → Option Value) (fa : Addr) (h : Heap), YP w h → (K w.params).In h → h.Ns mainGlobals mg → mg d.name = some (.ref fa) → LamX.LawAtS l w (K w.params) CX0 18 63 "_law_script" mg fa h) :
    PySem.W.WalkO q loose XP YP l.row.toRowW d [] (fun f vs => PySem.call f vs) :=
  LamX.walk_ofTs (n := 63) (k := 18) (x := "_law_script") (CX := fun _ => CX0) hn (by decide) hdf ⟨rfl, by decide, by decide⟩ hY F fun _ _ _ _ _ z => z
end K03
open PySem PySem.W PyProof.Rows
set_option maxRecDepth 100000 in
set_option maxHeartbeats 0 in
theorem PySem.Challenge.cw_granary_k03_names_looked_up_holds : PySem.Challenge.rw_granary_k03_names_looked_up.Holds := by
  w_on; o_law; k_head; (case hw => w_witness2)
  k_fill
  refine K03.walk (l := PySem.Challenge.rw_granary_k03_names_looked_up) rfl rfl (fun w h Y => PySem.W.km_in_of Y) ?F
  case F =>
    intro w mg fa h Y KX G hmg
    refine' K03.all_mk KX G hmg ?i0 ?ty0 ?a0 ?l0 ?c0 ?k0 ?i1 ?a1 ?l1 ?c1 ?k1 ?i2 ?a2 ?l2 ?c2 ?k2 ?i3 ?a3 ?l3 ?c3 ?k3 ?i4 ?a4 ?l4 ?c4 ?k4 ?a5 ?l5 ?c5 ?k5 ?a6 ?l6 ?c6 ?k6 ?a7 ?l7 ?c7 ?k7 ?a8 ?l8 ?c8 ?k8 ?lq8 ?a9 ?l9 ?c9 ?k9 ?a10 ?l10 ?c10 ?k10 ?a11 ?l11 ?c11 ?k11 ?a12 ?l12 ?c12 ?k12 ?a13 ?l13 ?c13 ?k13 ?a14 ?l14 ?c14 ?k14 ?a15 ?l15 ?c15 ?k15 ?a16 ?l16 ?c16 ?k16 ?a17 ?l17 ?c17 ?k17 ?a18 ?l18 ?c18 ?k18 ?a19 ?l19 ?c19 ?k19 ?a20 ?l20 ?c20 ?k20 ?a21 ?l21 ?c21 ?k21 ?a22 ?l22 ?c22 ?k22 ?a23 ?l23 ?c23 ?k23 ?a24 ?l24 ?c24 ?k24 ?a25 ?l25 ?c25 ?k25 ?a26 ?l26 ?c26 ?k26 ?a27 ?l27 ?c27 ?k27 ?aCNames ?pgNames ?hdNames ?poNames ?saNames ?mkNames ?kcNames ?nNames_known_shapes ?nNames_tables ?z_ValueError ?z_enumerate ?z_len ?z_tuple ?z_list ?z_max ?z_isinstance ?z_range ?z_str ?z_int ?z_bool ?z_sorted ?aE_StoreError ?ei_StoreError ?et_StoreError ?er_StoreError ?eu_StoreError ?evi_StoreError ?en ?ey ?aE_BadName ?lk_BadName ?rv_BadName ?sa_BadName ?es_BadName ?et_BadName ?ek_BadName ?eg_BadName ?eh_BadName ?ed_BadName ?ec_BadName ?em_BadName ?ei_BadName ?eq_BadName ?eb_BadName ?ev_BadName ?np_BadName ?aE_BadRow ?ek_BadRow ?ex_BadRow ?es_BadRow ?et_BadRow ?ei_BadRow ?eg_BadRow ?eh_BadRow ?ed_BadRow ?ec_BadRow ?em_BadRow ?eq_BadRow ?eb_BadRow ?e0_BadRow ?lcL ?vPL ?nPL ?hCL ?atL ?lcM ?vPM ?nPM ?hCM ?atM ?nPP
    (case aCNames => k_is)
    (case aE_StoreError => k_is)
    (case aE_BadName => k_is)
    (case aE_BadRow => k_is)
    (case i0 => k_is)
    (case ty0 => k_is)
    (case a0 => k_is)
    (case l0 => k_is)
    (case c0 => k_is)
    (case k0 => k_is)
    (case i1 => k_is)
    (case a1 => k_is)
    (case l1 => k_is)
    (case c1 => k_is)
    (case k1 => k_is)
    (case i2 => k_is)
    (case a2 => k_is)
    (case l2 => k_is)
    (case c2 => k_is)
    (case k2 => k_is)
    (case i3 => k_is)
    (case a3 => k_is)
    (case l3 => k_is)
    (case c3 => k_is)
    (case k3 => k_is)
    (case i4 => k_is)
    (case a4 => k_is)
    (case l4 => k_is)
    (case c4 => k_is)
    (case k4 => k_is)
    (case a5 => k_is)
    (case l5 => k_is)
    (case c5 => k_is)
    (case k5 => k_is)
    (case a6 => k_is)
    (case l6 => k_is)
    (case c6 => k_is)
    (case k6 => k_is)
    (case a7 => k_is)
    (case l7 => k_is)
    (case c7 => k_is)
    (case k7 => k_is)
    (case a8 => k_is)
    (case l8 => k_is)
    (case c8 => k_is)
    (case k8 => k_is)
    (case lq8 => k_is)
    (case a9 => k_is)
    (case l9 => k_is)
    (case c9 => k_is)
    (case k9 => k_is)
    (case a10 => k_is)
    (case l10 => k_is)
    (case c10 => k_is)
    (case k10 => k_is)
    (case a11 => k_is)
    (case l11 => k_is)
    (case c11 => k_is)
    (case k11 => k_is)
    (case a12 => k_is)
    (case l12 => k_is)
    (case c12 => k_is)
    (case k12 => k_is)
    (case a13 => k_is)
    (case l13 => k_is)
    (case c13 => k_is)
    (case k13 => k_is)
    (case a14 => k_is)
    (case l14 => k_is)
    (case c14 => k_is)
    (case k14 => k_is)
    (case a15 => k_is)
    (case l15 => k_is)
    (case c15 => k_is)
    (case k15 => k_is)
    (case a16 => k_is)
    (case l16 => k_is)
    (case c16 => k_is)
    (case k16 => k_is)
    (case a17 => k_is)
    (case l17 => k_is)
    (case c17 => k_is)
    (case k17 => k_is)
    (case a18 => k_is)
    (case l18 => k_is)
    (case c18 => k_is)
    (case k18 => k_is)
    (case a19 => k_is)
    (case l19 => k_is)
    (case c19 => k_is)
    (case k19 => k_is)
    (case a20 => k_is)
    (case l20 => k_is)
    (case c20 => k_is)
    (case k20 => k_is)
    (case a21 => k_is)
    (case l21 => k_is)
    (case c21 => k_is)
    (case k21 => k_is)
    (case a22 => k_is)
    (case l22 => k_is)
    (case c22 => k_is)
    (case k22 => k_is)
    (case a23 => k_is)
    (case l23 => k_is)
    (case c23 => k_is)
    (case k23 => k_is)
    (case a24 => k_is)
    (case l24 => k_is)
    (case c24 => k_is)
    (case k24 => k_is)
    (case a25 => k_is)
    (case l25 => k_is)
    (case c25 => k_is)
    (case k25 => k_is)
    (case a26 => k_is)
    (case l26 => k_is)
    (case c26 => k_is)
    (case k26 => k_is)
    (case a27 => k_is)
    (case l27 => k_is)
    (case c27 => k_is)
    (case k27 => k_is)
    (case pgNames => k_is)
    (case hdNames => k_is)
    (case poNames => k_is)
    (case saNames => k_is)
    (case mkNames => k_is)
    (case kcNames => k_is)
    (case nNames_known_shapes => k_is)
    (case nNames_tables => k_is)
    (case z_ValueError => k_is)
    (case z_enumerate => k_is)
    (case z_len => k_is)
    (case z_tuple => k_is)
    (case z_list => k_is)
    (case z_max => k_is)
    (case z_isinstance => k_is)
    (case z_range => k_is)
    (case z_str => k_is)
    (case z_int => k_is)
    (case z_bool => k_is)
    (case z_sorted => k_is)
    (case ei_StoreError => k_is)
    (case et_StoreError => k_is)
    (case er_StoreError => k_is)
    (case eu_StoreError => k_is)
    (case evi_StoreError => k_is)
    (case en => k_is)
    (case ey => k_is)
    (case lk_BadName => k_is)
    (case rv_BadName => rfl)
    (case sa_BadName => k_is)
    (case es_BadName => k_is)
    (case et_BadName => k_is)
    (case ek_BadName => k_is)
    (case eg_BadName => k_is)
    (case eh_BadName => k_is)
    (case ed_BadName => k_is)
    (case ec_BadName => k_is)
    (case em_BadName => k_is)
    (case ei_BadName => k_is)
    (case eq_BadName => k_is)
    (case eb_BadName => k_is)
    (case ev_BadName => k_is)
    (case np_BadName => k_is)
    (case ek_BadRow => k_is)
    (case ex_BadRow => k_exc)
    (case es_BadRow => k_is)
    (case et_BadRow => k_is)
    (case ei_BadRow => k_is)
    (case eg_BadRow => k_is)
    (case eh_BadRow => k_is)
    (case ed_BadRow => k_is)
    (case ec_BadRow => k_is)
    (case em_BadRow => k_is)
    (case eq_BadRow => k_is)
    (case eb_BadRow => k_is)
    (case e0_BadRow => k_is)
    (case lcL => k_is)
    (case vPL => rfl)
    (case nPL => first | rfl | decide +kernel)
    (case hCL => first | rfl | decide +kernel)
    (case atL => exact PySem.W.km_tabs_of Y _ (by decide))
    (case lcM => k_is)
    (case vPM => rfl)
    (case nPM => first | rfl | decide +kernel)
    (case hCM => first | rfl | decide +kernel)
    (case atM => exact PySem.W.km_tabs_of Y _ (by decide))
    (case nPP => decide)

