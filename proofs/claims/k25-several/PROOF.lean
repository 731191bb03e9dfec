import PyProof.Rows.All
import Wide.All
import OpenK.AllK
import Wide.FinOn
import HandS.ForMost
import HandS.Strs
import HandS.TupAny
import HandS.IsInst
import HandS.More
import HandS.Walk
import HandS.ReCall
import HandS.Evl
import HandS.Style
import KE.GoesMore
import HandS.TupSets
import KE.SortData
import HandS.DeepEq
import PySem.Challenge.RW_granary_k25_whole_what_several_condition
set_option Elab.async false
set_option linter.all false
set_option maxRecDepth 100000
set_option maxHeartbeats 4000000
namespace G7
open PySem PySem.Spec PyProof.Rows L2

/-! ### heaps: all that was tracked stands, but at some addresses -/
def Keep (ms : List Addr) (H H' : Hp) : Prop := ∀ b o, b ∉ ms → H b = some o → H' b = some o
theorem Keep.refl {ms : List Addr} {H : Hp} : Keep ms H H := fun _ _ _ h => h
theorem Keep.trans {ms : List Addr} {H H1 H2 : Hp} (a : Keep ms H H1) (b : Keep ms H1 H2) : Keep ms H H2 := fun c o n h => b c o n (a c o n h)
theorem Keep.mono {ms ms' : List Addr} {H H1 : Hp} (a : Keep ms H H1) (s : ∀ b, b ∈ ms → b ∈ ms') : Keep ms' H H1 := fun c o n h => a c o (fun m => n (s c m)) h
theorem Keep.same {H H1 : Hp} (a : Keep [] H H1) : Same H H1 := fun c o h => a c o (by simp) h
theorem Keep.ofSame {ms : List Addr} {H H1 : Hp} (a : Same H H1) : Keep ms H H1 := fun c o _ h => a c o h
theorem Keep.new {ms : List Addr} {H : Hp} {p : Addr} {o : HO} (h : H p = none) : Keep ms H (upd H p o) := fun a u _ e => by
  rw [upd_ne (ne_of_none e h)]
  exact e
theorem Keep.thenNew {ms : List Addr} {H H1 : Hp} {p : Addr} {o : HO} (k : Keep ms H H1) (h : H1 p = none) : Keep ms H (upd H1 p o) := k.trans (Keep.new h)
theorem Keep.upd {ms : List Addr} {H H1 : Hp} {p : Addr} {o : HO} (k : Keep ms H H1) (h : p ∈ ms) : Keep ms H (L2.upd H1 p o) := fun a u n e => by
  rw [upd_ne (fun z => n (by rw [z]; exact h))]
  exact k a u n e
/-- an address that H does not know may change -/
theorem Keep.updFree {ms : List Addr} {H H1 : Hp} {p : Addr} {o : HO} (k : Keep ms H H1) (h : H p = none) : Keep ms H (L2.upd H1 p o) := fun a u n e => by
  rw [upd_ne (ne_of_none e h)]
  exact k a u n e
theorem Keep.free {H H1 : Hp} {p : Addr} (k : Keep [] H H1) (h : H1 p = none) : H p = none := k.same.free h
theorem same_new {H : Hp} {p : Addr} {o : HO} (h : H p = none) : Same H (upd H p o) := fun a u e => by
  rw [upd_ne (ne_of_none e h)]
  exact e
theorem Same.updFree {H H1 : Hp} {p : Addr} {o : HO} (k : Same H H1) (h : H p = none) : Same H (L2.upd H1 p o) := fun a u e => by
  rw [upd_ne (ne_of_none e h)]
  exact k a u e
theorem free_keep {ms : List Addr} {H H1 : Hp} {p : Addr} (k : Keep ms H H1) (n : p ∉ ms) (h : H1 p = none) : H p = none := by
  cases q : H p with
  | none => rfl
  | some o =>
    rw [k p o n q] at h
    cases h
theorem Keep.rd {ms : List Addr} {H H1 : Hp} {a : Addr} {u : HO} (k : Keep ms H H1) (n : a ∉ ms) (h : Rd H a u) : Rd H1 a u := by
  rcases h with h | ⟨o, h⟩
  · exact .inl (k _ _ n h)
  · exact .inr ⟨o, k _ _ n h⟩
theorem Keep.sqL {K : PySem.W.Frag} {ms : List Addr} {H H1 : Hp} {a : Addr} {xs : List V} (k : Keep ms H H1) (n : a ∉ ms) (h : SqL K H a xs) : SqL K H1 a xs := by
  rcases h with h | h
  · exact .inl (k.rd n h)
  · exact .inr h
theorem Keep.sqT {K : PySem.W.Frag} {ms : List Addr} {H H1 : Hp} {a : Addr} {xs : List V} (k : Keep ms H H1) (n : ∀ m, m ∈ ms → ∃ o, H m = some o ∧ Mut (some o)) (h : SqT K H a xs) : SqT K H1 a xs := by
  rcases h with (h | ⟨o, h⟩) | h
  · exact .inl (.inl (k _ _ (fun m => by obtain ⟨u, e, mu⟩ := n _ m; rw [h] at e; cases e; exact mu) h))
  · exact .inl (.inr ⟨o, k _ _ (fun m => by obtain ⟨u, e, mu⟩ := n _ m; rw [h] at e; cases e; exact mu) h⟩)
  · exact .inr h
theorem same_sqT {K : PySem.W.Frag} {H H1 : Hp} {a : Addr} {xs : List V} (k : Same H H1) (h : SqT K H a xs) : SqT K H1 a xs :=
  (Keep.ofSame (ms := []) k).sqT (fun m hm => absurd hm (by simp)) h
theorem int_at {ns : List Int} {i : Nat} {y : V} (h : (ns.map V.int)[i]? = some y) : ∃ z, ns[i]? = some z ∧ y = V.int z := by
  rw [List.getElem?_map] at h
  cases e : ns[i]? with
  | none => rw [e] at h; cases h
  | some z => rw [e] at h; exact ⟨z, rfl, (Option.some.inj h).symm⟩
theorem str_at {ns : List Str} {i : Nat} {y : V} (h : (ns.map V.str)[i]? = some y) : ∃ z, ns[i]? = some z ∧ y = V.str z := by
  rw [List.getElem?_map] at h
  cases e : ns[i]? with
  | none => rw [e] at h; cases h
  | some z => rw [e] at h; exact ⟨z, rfl, (Option.some.inj h).symm⟩
theorem szl {n : Nat} (h : n ≤ 100000) : n ≤ sizeLine := Nat.le_trans h (by decide)
theorem szl' {n : Nat} (h : n < 100000) : n < sizeLine := Nat.lt_of_lt_of_le h (by decide)
theorem hu64_of {A : Around} {k : Nat} (hr : Room k A) : A.units + 64 < cLine := by have := hr.un; omega
theorem map_int_inj {a b : List Int} (h : a.map V.int = b.map V.int) : a = b := by
  induction a generalizing b with
  | nil => cases b with
    | nil => rfl
    | cons _ _ => cases h
  | cons x r ih => cases b with
    | nil => cases h
    | cons y s =>
      injection h with h1 h2
      injection h1 with h1
      rw [h1, ih h2]

/-! ### data -/
theorem dpAll_ints (K : PySem.W.Frag) (H : Hp) : ∀ ns : List Int, DpAll K H (ns.map V.int) (ns.map PyData.int)
  | [] => .nil
  | n :: r => .cons (.int n) (dpAll_ints K H r)

/-! ### the draw box of the laws: [cells, stirred] -/
def BoxA (H : Hp) (h l : Addr) : Prop := ∃ (ns : List Int) (st : Int), H h = some (.lst [.ref l, .int st]) ∧ H l = some (.lst (ns.map V.int)) ∧ ns.length ≤ 100000
theorem BoxA.ne {H : Hp} {h l : Addr} (b : BoxA H h l) : h ≠ l := by
  obtain ⟨ns, st, e1, e2, _⟩ := b
  rintro rfl
  rw [e1] at e2
  injection e2 with e2
  injection e2 with e2
  cases ns with
  | nil => cases e2
  | cons n r => injection e2 with e3 _; cases e3
theorem BoxA.muts {H : Hp} {h l : Addr} (b : BoxA H h l) : ∀ m, m ∈ [h, l] → ∃ o, H m = some o ∧ Mut (some o) := by
  obtain ⟨ns, st, e1, e2, _⟩ := b
  intro m hm
  simp only [List.mem_cons, List.mem_nil_iff, or_false] at hm
  rcases hm with rfl | rfl
  · exact ⟨_, e1, trivial⟩
  · exact ⟨_, e2, trivial⟩
theorem BoxA.keep {ms : List Addr} {H H' : Hp} {h l : Addr} (b : BoxA H h l) (k : Keep ms H H') (n1 : h ∉ ms) (n2 : l ∉ ms) : BoxA H' h l := by
  obtain ⟨ns, st, e1, e2, e3⟩ := b
  exact ⟨ns, st, k _ _ n1 e1, k _ _ n2 e2, e3⟩
theorem BoxA.same {H H' : Hp} {h l : Addr} (b : BoxA H h l) (k : Same H H') : BoxA H' h l := b.keep (ms := []) (Keep.ofSame k) (by simp) (by simp)
end G7

set_option linter.all false
set_option Elab.async false
set_option maxRecDepth 100000
set_option maxHeartbeats 4000000
namespace G7
open PySem PySem.Spec PyProof.Rows L2
/-! ### rules of our own, by what stands in the abstract heap -/
/-- what may be read as a list, a tuple, a dict -/
def lsO : Option HO → Option (List V)
  | some (.lst xs) => some xs
  | some (.frz _ (.lst xs)) => some xs
  | _ => none
def tpO : Option HO → Option (List V)
  | some (.tup xs) => some xs
  | some (.frz _ (.tup xs)) => some xs
  | _ => none
def dkO : Option HO → Option (List (Key × V))
  | some (.dK xs) => some xs
  | some (.frz _ (.dK xs)) => some xs
  | _ => none
theorem rd_lsO {H : Hp} {a : Addr} {xs : List V} (h : lsO (H a) = some xs) : Rd H a (.lst xs) := by
  unfold lsO at h
  split at h
  · rename_i e; cases h; exact .inl e
  · rename_i o _ e; cases h; exact .inr ⟨o, e⟩
  · cases h
theorem rd_tpO {H : Hp} {a : Addr} {xs : List V} (h : tpO (H a) = some xs) : Rd H a (.tup xs) := by
  unfold tpO at h
  split at h
  · rename_i e; cases h; exact .inl e
  · rename_i o _ e; cases h; exact .inr ⟨o, e⟩
  · cases h
theorem rd_dkO {H : Hp} {a : Addr} {xs : List (Key × V)} (h : dkO (H a) = some xs) : Rd H a (.dK xs) := by
  unfold dkO at h
  split at h
  · rename_i e; cases h; exact .inl e
  · rename_i o _ e; cases h; exact .inr ⟨o, e⟩
  · cases h
theorem lsO_l {xs : List V} : lsO (some (.lst xs)) = some xs := rfl
theorem lsO_f {o : Obj} {xs : List V} : lsO (some (.frz o (.lst xs))) = some xs := rfl
theorem tpO_t {xs : List V} : tpO (some (.tup xs)) = some xs := rfl
theorem tpO_f {o : Obj} {xs : List V} : tpO (some (.frz o (.tup xs))) = some xs := rfl
theorem dkO_d {xs : List (Key × V)} : dkO (some (.dK xs)) = some xs := rfl
theorem dkO_f {o : Obj} {xs : List (Key × V)} : dkO (some (.frz o (.dK xs))) = some xs := rfl
theorem lay_ints : ∀ ns : List Int, PyData.canLayAll0 (ns.map PyData.int) = true
  | [] => by simp [PyData.canLayAll0]
  | n :: r => by simp [PyData.canLayAll0, PyData.canLay0, lay_ints r]
theorem depth_ints : ∀ ns : List Int, PyData.depthAll (ns.map PyData.int) ≤ 1
  | [] => by simp [PyData.depthAll]
  | n :: r => by
    have h := depth_ints r
    simp only [List.map_cons, PyData.depthAll, PyData.depth]
    omega
theorem shaped_ints (ns : List Int) : SeqAt.shaped (.list (ns.map PyData.int)) = true := by
  have h1 := depth_ints ns
  have h2 : PyData.depth (.list (ns.map PyData.int)) ≤ 64 := by
    simp only [PyData.depth]
    omega
  unfold SeqAt.shaped
  rw [Bool.and_eq_true]
  exact ⟨by simp only [PyData.canLay0]; exact lay_ints ns, decide_eq_true h2⟩
section
variable {X : Cx}
theorem ixImp {r r' : R2} (h : IxR X r) (i : ∀ x y H Q, r' x y H Q → r x y H Q) : IxR X r' := fun a b p s σ H x y v u Q I rx ry q e => h a b p s σ H x y v u Q I rx ry (i _ _ _ _ q) e
theorem opImp {f : Value → Value → Sem Value} {r r' : R2} (h : OpR X f r) (i : ∀ x y H Q, r' x y H Q → r x y H Q) : OpR X f r' := fun p s σ H x y v u Q I rx ry q => h p s σ H x y v u Q I rx ry (i _ _ _ _ q)
theorem callImp {f : Value} {r r' : List V → Hp → VK → Prop} (h : CallR X f r) (i : ∀ x H Q, r' x H Q → r x H Q) : CallR X f r' := fun p s σ H x u Q I rx q => h p s σ H x u Q I rx (i _ _ _ q)
theorem mtImp {id : String} {r r' : V → List V → Hp → VK → Prop} (h : MtR X id r) (i : ∀ x y H Q, r' x y H Q → r x y H Q) : MtR X id r' := fun p s σ H x xs v us Q I rx rs q => h p s σ H x xs v us Q I rx rs (i _ _ _ _ q)
def rIxH : R2 := fun x y H Q => ∃ p xs i v, x = .ref p ∧ y = .int i ∧ lsO (H p) = some xs ∧ atI xs i = some v ∧ Q v H
def rIxU : R2 := fun x y H Q => ∃ p xs i v, x = .ref p ∧ y = .int i ∧ tpO (H p) = some xs ∧ atI xs i = some v ∧ Q v H
theorem ix_lst : IxR X rIxH := ixImp ix_list fun x y H Q ⟨p, xs, i, v, e1, e2, h, a, q⟩ => ⟨p, xs, i, v, e1, e2, .inl (rd_lsO h), a, q⟩
theorem ix_tp : IxR X rIxU := ixImp ix_tup fun x y H Q ⟨p, xs, i, v, e1, e2, h, a, q⟩ => ⟨p, xs, i, v, e1, e2, .inl (rd_tpO h), a, q⟩
def cLenL : List V → Hp → VK → Prop := fun vs H Q => ∃ p xs, vs = [.ref p] ∧ lsO (H p) = some xs ∧ Q (.int (xs.length : Int)) H
def cLenT : List V → Hp → VK → Prop := fun vs H Q => ∃ p xs, vs = [.ref p] ∧ tpO (H p) = some xs ∧ Q (.int (xs.length : Int)) H
theorem len_lst : CallR X (.builtin "len") cLenL := callImp call_len_seq fun vs H Q ⟨p, xs, e, h, q⟩ => ⟨p, xs, e, .inl (.inl (rd_lsO h)), q⟩
theorem len_tp : CallR X (.builtin "len") cLenT := callImp call_len_seq fun vs H Q ⟨p, xs, e, h, q⟩ => ⟨p, xs, e, .inr (.inl (rd_tpO h)), q⟩
def cListL : List V → Hp → VK → Prop := fun vs H Q => ∃ p xs, vs = [.ref p] ∧ lsO (H p) = some xs ∧ ∀ l, H l = none → Q (.ref l) (upd H l (.lst xs))
def cListT : List V → Hp → VK → Prop := fun vs H Q => ∃ p xs, vs = [.ref p] ∧ tpO (H p) = some xs ∧ ∀ l, H l = none → Q (.ref l) (upd H l (.lst xs))
theorem list_lst : CallR X (.type "list") cListL := callImp call_list_of fun vs H Q ⟨p, xs, e, h, q⟩ => ⟨p, xs, e, .inl (.inl (rd_lsO h)), q⟩
theorem list_tp : CallR X (.type "list") cListT := callImp call_list_of fun vs H Q ⟨p, xs, e, h, q⟩ => ⟨p, xs, e, .inr (.inl (rd_tpO h)), q⟩
def cTupL : List V → Hp → VK → Prop := fun vs H Q => ∃ p xs, vs = [.ref p] ∧ lsO (H p) = some xs ∧ ∀ l, H l = none → Q (.ref l) (upd H l (.tup xs))
theorem tuple_lst : CallR X (.type "tuple") cTupL := callImp call_tuple_of fun vs H Q ⟨p, xs, e, h, q⟩ => ⟨p, xs, e, .inl ⟨.inl (rd_lsO h), q⟩⟩
/-- int of a bool, of an int -/
def cIntB : List V → Hp → VK → Prop := fun vs H Q => ∃ b, vs = [.bl b] ∧ Q (.int (if b then 1 else 0)) H
theorem int_bl : CallR X (.type "int") cIntB := callImp call_int1 fun vs H Q ⟨b, e, q⟩ => .inr ⟨b, e, q⟩
/-- all(..) of a list of bools -/
def cAll : List V → Hp → VK → Prop := fun vs H Q => ∃ (p : Addr) (bs : List Bool), vs = [.ref p] ∧ lsO (H p) = some (bs.map V.bl) ∧ Q (.bl (bs.all id)) H
theorem all_lst (hc : X.calm = true) : CallR X (.builtin "all") cAll := callImp (cr_all hc) fun vs H Q ⟨p, bs, e, h, q⟩ => ⟨p, bs, e, .inl (rd_lsO h), q⟩
/-- a list of ints against [] -/
def rEqNilI : R2 := fun x y H Q => ∃ (p q : Addr) (ns : List Int), x = .ref p ∧ y = .ref q ∧ lsO (H p) = some (ns.map V.int) ∧ lsO (H q) = some [] ∧ Q (.bl ns.isEmpty) H
theorem op_eqNilI (hu : X.A.units + 64 < cLine) : OpR X (compareOp .Eq) rEqNilI := opImp (op_eqD hu) fun x y H Q ⟨p, q, ns, e1, e2, h1, h2, k⟩ => by
  refine ⟨.list (ns.map PyData.int), .list [], e1 ▸ .lst (.inl (rd_lsO h1)) (dpAll_ints X.K H ns), e2 ▸ .lst (.inl (rd_lsO h2)) .nil, ?_, rfl, ?_⟩
  · exact shaped_ints ns
  · cases ns with
    | nil => exact k
    | cons n r => exact k
/-! a reading that lets what follows be weaker -/
def tM (t : TE) : TE := fun σ H Q => ∃ Q0 : VK, t σ H Q0 ∧ ∀ x H1, Q0 x H1 → Q x H1
theorem pe_m {e : Expr} {t : TE} (h : PE X e t) : PE X e (tM t) := ⟨fun pins s σ H Q I ⟨Q0, h0, q⟩ => thn (h.run pins s σ H Q0 I h0) fun u s' ⟨v, H', I', r, k⟩ => ⟨v, H', I', r, q v H' k⟩⟩
theorem tM_of {t : TE} {σ : L2.St} {H : Hp} {Q Q' : VK} (h : t σ H Q) (i : ∀ x H1, Q x H1 → Q' x H1) : tM t σ H Q' := ⟨Q, h, i⟩
theorem PE.imp' {e : Expr} {t t' : TE} (h : PE X e t) (i : ∀ σ H Q, t' σ H Q → t σ H Q) : PE X e t' := ⟨fun pins s σ H Q I q => h.run pins s σ H Q I (i σ H Q q)⟩
theorem PS.imp' {e : Stmt} {t t' : TS} (h : PS X e t) (i : ∀ D σ H, t' D σ H → t D σ H) : PS X e t' := ⟨fun pins s σ H D I q => h.run pins s σ H D I (i D σ H q)⟩
def keyO : V → Option Key
  | .int i => some (.inl i)
  | .str s => some (.inr s)
  | _ => none
theorem keyO_eq {y : V} {k : Key} (h : keyO y = some k) : y = kV k := by
  cases y <;> cases h <;> rfl
theorem keyO_i {i : Int} : keyO (.int i) = some (.inl i) := rfl
theorem keyO_s {s : Str} : keyO (.str s) = some (.inr s) := rfl
theorem dget_of {H : Hp} {a : Addr} {y : V} {kvs : List (Key × V)} {k : Key} (h : dkO (H a) = some kvs) (e : keyO y = some k) : DGet H a y (valV kvs k) := .inl ⟨kvs, k, rd_dkO h, keyO_eq e, rfl⟩
/-- d.get(k, x) -/
def tGet2 (td ty tx : TE) : TE := fun σ H Q => td σ H fun x H1 => ∃ a kvs, x = .ref a ∧ dkO (H1 a) = some kvs ∧ ty σ H1 fun y H2 => tx σ H2 fun z H3 => ∃ kvs k, dkO (H3 a) = some kvs ∧ keyO y = some k ∧ Q ((valV kvs k).getD z) H3
theorem pe_get2 {o e f : Expr} {td ty tx : TE} {apos cpos : Pos} (hu : X.A.units + 1 < cLine) (ho : PE X o td) (he : PE X e ty) (hf : PE X f tx)
    (h1 : attributeBase o "get" X.env (eval o X.env) = eval o X.env := by rfl)
    (h2 : ((backTo cpos (starEach [e, f] X.env)).all (fun x => !x.1) && (backToKw cpos (keywordEach [] X.env)).all (fun x => x.1.isSome) && decide (([e, f] : List Expr).length + ([] : List Keyword).length + (if ([] : List Keyword).isEmpty then 0 else 1) < 30)) = true := by rfl)
    (h3 : (apos.endLine == cpos.line) = true := by rfl) (h4 : backTo cpos (starEach [e, f] X.env) = [(false, eval e X.env), (false, eval f X.env)] := by rfl) :
    PE X (.Call (.Attribute o "get" apos) [e, f] [] cpos) (tGet2 td ty tx) :=
  PE.imp' (pe_dget2 hu (pe_m ho) (pe_m he) (pe_m hf) ⟨h1, h2, h3, h4⟩) fun σ H Q h => by
    refine tM_of h fun x H1 h => ?_
    obtain ⟨a, kvs, e1, e2, q⟩ := h
    refine ⟨a, e1, .inl ⟨kvs, rd_dkO e2⟩, tM_of q fun y H2 q => tM_of q fun z H3 q => ?_⟩
    obtain ⟨kvs, k, e3, e4, q⟩ := q
    exact ⟨_, dget_of e3 e4, q⟩
/-- d[k] -/
def tGetI (td ty : TE) : TE := fun σ H Q => td σ H fun x H1 => ty σ H1 fun y H2 => ∃ a kvs k v, x = .ref a ∧ dkO (H2 a) = some kvs ∧ keyO y = some k ∧ valV kvs k = some v ∧ Q v H2
theorem pe_getI {o i : Expr} {td ty : TE} {pos : Pos} (hu : X.A.units + 1 < cLine) (ho : PE X o td) (hi : PE X i ty) (hs : NoSl i) : PE X (.Subscript o i pos) (tGetI td ty) :=
  PE.imp' (pe_dget hu (pe_m ho) (pe_m hi) hs) fun σ H Q h => by
    refine tM_of h fun x H1 q => tM_of q fun y H2 q => ?_
    obtain ⟨a, kvs, k, v, e1, e2, e3, e4, q⟩ := q
    exact ⟨a, v, e1, by rw [← e4]; exact dget_of e2 e3, q⟩
/-- d[k] = v -/
def sPut (td ty tv : TE) : TS := fun D σ H => tv σ H fun v H1 => td σ H1 fun x H2 => ty σ H2 fun y H3 => ∃ a kvs k, x = .ref a ∧ H3 a = some (.dK kvs) ∧ keyO y = some k ∧ kvs.length < sizeLine ∧ D.nx σ (upd H3 a (.dK (putK kvs k v)))
theorem ps_put {o i value : Expr} {td ty tv : TE} {pos pos' : Pos} (hu : X.A.units + 1 < cLine) (ho : PE X o td) (hi : PE X i ty) (hv : PE X value tv) (hs : swapsWith value (some (.Subscript o i pos')) pos.line X.env = pure false) :
    PS X (.Assign [.Subscript o i pos'] value pos) (sPut td ty tv) :=
  PS.imp' (ps_dput hu (pe_m ho) (pe_m hi) (pe_m hv) hs) fun D σ H h => by
    refine tM_of h fun v H1 q => tM_of q fun x H2 q => tM_of q fun y H3 q => ?_
    obtain ⟨a, kvs, k, e1, e2, e3, e4, q⟩ := q
    exact ⟨a, _, e1, .inl ⟨kvs, k, e2, keyO_eq e3, e4, rfl⟩, q⟩
/-! tuples whose object is known: their methods may be called -/
def TupF (H : Hp) (p : Addr) (xs : List V) : Prop := ∃ o : Obj, H p = some (.frz o (.tup xs)) ∧ o.cls = .type "tuple" ∧ o.dict = none
def tTupF (t : TA) : TE := fun σ H Q => t σ H fun xs H1 => xs.length ≤ sizeLine ∧ ∀ p o, H1 p = none → o.cls = .type "tuple" → o.dict = none → Q (.ref p) (upd H1 p (.frz o (.tup xs)))
theorem pe_tupF {es : List Expr} {t : TA} {x1 : Nat} {pos : Pos} (h : PA X es t) : PE X (.Tuple es x1 pos) (tTupF t) := by
  refine ⟨fun pins s σ H Q I hq => ?_⟩
  refine wpAny_Tuple_spliced (thn (h.run pos pins s σ H _ I hq) fun us s1 ⟨xs, H1, I1, r, z, q⟩ => ⟨by rw [← r.length]; exact z, ?_⟩)
  have hf : H1 s1.heap.objs.size = none := I1.hok.fresh (Nat.le_refl _)
  refine ⟨.ref s1.heap.objs.size, _, I1.laid (o := .frz { cls := .type "tuple", data := .seq us.toArray } (.tup xs)) (t' := s1.toks) (fun b u e => Heap.get?_push_of_some _ e) (Nat.le_refl _) ?_, rfl, q _ _ hf rfl rfl⟩
  exact ⟨Heap.get?_push_size _ rfl, z, us, r, ⟨_, Heap.get?_push_size _ rfl, rfl, _, rfl⟩⟩
/-- a slice of a tuple; the whole of it is the tuple itself -/
def rSlF : V → Option Int → Option Int → Hp → VK → Prop := fun x lo hi H Q => ∃ a xs, x = .ref a ∧ tpO (H a) = some xs ∧
  (HT.sIx xs.length 0 lo = 0 ∧ HT.sIx xs.length xs.length hi = xs.length → Q (.ref a) H) ∧
  (¬ (HT.sIx xs.length 0 lo = 0 ∧ HT.sIx xs.length xs.length hi = xs.length) → ∀ p o, H p = none → o.cls = .type "tuple" → o.dict = none → Q (.ref p) (upd H p (.frz o (.tup (cutV xs lo hi)))))
theorem sl_tupF : SlR X rSlF := by
  intro pins s σ H x v vl vu lo hi sl Q I rx hs pl pu h
  obtain ⟨a, xs, rfl, hx, q1, q2⟩ := h
  by_cases hw : HT.sIx xs.length 0 lo = 0 ∧ HT.sIx xs.length xs.length hi = xs.length
  · exact sl_tupA pins s σ H _ v vl vu lo hi sl Q I rx hs pl pu ⟨a, xs, rfl, .inl (rd_tpO hx), q1, fun n => absurd hw n⟩
  · cases rx
    obtain ⟨its, r, ht, hz⟩ := I.tuple (show SqT X.K H a xs from .inl (rd_tpO hx))
    have hlen : its.toArray.size = xs.length := by rw [List.size_toArray]; exact r.length.symm
    refine ⟨"tuple", _, PyProof.Rows.slot_tuple_getitem.lookup, ht.typeIs, ?_⟩
    refine HT.getItem_tuple_cut ht hs pl pu (by rw [hlen]; exact hw) ?_ (by rw [hlen]; exact hz)
    rw [hlen]
    refine ⟨.ref s.heap.objs.size, _, I.laid (t' := s.toks) (o := .frz { cls := .type "tuple", data := .seq ((its.toArray.toList.drop (HT.sIx xs.length 0 lo)).take (HT.sIx xs.length xs.length hi - HT.sIx xs.length 0 lo)).toArray } (.tup (cutV xs lo hi))) (fun b ob q => Heap.get?_push_of_some _ q) (Nat.le_refl _) ?_, rfl, q2 hw _ _ (I.hok.fresh (Nat.le_refl _)) rfl rfl⟩
    · exact ⟨Heap.get?_push_size _ rfl, Nat.le_trans (cutV_length xs lo hi) hz, _, (r.drop (HT.sIx xs.length 0 lo)).take (HT.sIx xs.length xs.length hi - HT.sIx xs.length 0 lo), IsTup.new _ _⟩
/-- fields.index(word): fields a tuple of texts, its object known -/
def tyTup : V → Hp → Prop := fun x H => ∃ p o ys, x = .ref p ∧ H p = some (.frz o (.tup ys)) ∧ o.cls = .type "tuple" ∧ o.dict = none
theorem ty_tup : TyOk X "tuple" tyTup := by
  intro pins σ H s x v I r h
  obtain ⟨p, o, ys, rfl, h, hc, hd⟩ := h
  cases r
  obtain ⟨g1, _⟩ := I.hok p _ h
  exact ⟨⟨o, g1, hc⟩, fun a e => by cases e; exact ⟨o, g1, hd⟩⟩
def rTIdx : V → List V → Hp → VK → Prop := fun x xs H Q => ∃ (p : Addr) (fs : List Str) (z : Str) (j : Nat), x = .ref p ∧ xs = [.str z] ∧ tpO (H p) = some (fs.map V.str) ∧ fs[j]? = some z ∧ (∀ m, m < j → fs[m]? ≠ some z) ∧ Q (.int (j : Nat)) H
theorem mt_tidx : MtR X "tuple.index" rTIdx := mtImp mt_tup_index fun x xs H Q ⟨p, fs, z, j, e1, e2, h1, h2, h3, q⟩ => ⟨p, fs, z, j, e1, e2, .inl (rd_tpO h1), h2, h3, q⟩
/-- a, b = t -/
def gTupH (n : Nat) (t : TGs) : TG := fun v σ H Q => ∃ a xs, v = .ref a ∧ tpO (H a) = some xs ∧ xs.length = n ∧ t xs σ H Q
theorem pg_tupH {es : List Expr} {k : Nat} {t : TGs} {n : Nat} {pos : Pos} (hc : X.calm = true) (h : PGs X es t)
    (hn : (assignEach es X.env).length = n := by rfl) (hst : (assignEach es X.env).findIdx? (·.1) = none := by rfl) : PG X (.Tuple es k pos) (gTupH n t) :=
  ⟨fun pins s σ H v u Q I r ⟨a, xs, e1, e2, e3, e4⟩ => (pg_tup hc h hn hst).run pins s σ H v u Q I r ⟨a, xs, e1, .inl (rd_tpO e2), e3, e4⟩⟩
/-! the same with the written part by name (under a comprehension's block) -/
theorem pi_tupK (K : PySem.W.Frag) (hK : X.K = K) {tg l : Expr} {tl : TE} (h : PE X l tl) : PI X tg l (iTup K tl) := hK ▸ pi_tup h
theorem pi_listK (K : PySem.W.Frag) (hK : X.K = K) {tg l : Expr} {tl : TE} (h : PE X l tl) : PI X tg l (iList K tl) := hK ▸ pi_list h
theorem op_eqDK (K : PySem.W.Frag) (hK : X.K = K) (hu : X.A.units + 64 < cLine) : OpR X (compareOp .Eq) (rEqD K) := hK ▸ op_eqD hu
theorem op_neDK (K : PySem.W.Frag) (hK : X.K = K) (hu : X.A.units + 64 < cLine) : OpR X (compareOp .NotEq) (rNeD K) := hK ▸ op_neD hu
theorem op_in_seqK (K : PySem.W.Frag) (hK : X.K = K) : OpR X (compareOp .In) (rIn K false) := hK ▸ op_in_seq
theorem op_notIn_seqK (K : PySem.W.Frag) (hK : X.K = K) : OpR X (compareOp .NotIn) (rIn K true) := hK ▸ op_notIn_seq
theorem cx_K {CX : CXT} {P : Program} {w : World} {K : PySem.W.Frag} {mg : Str → Option Value} {base : Heap} {N : List Str} {q : Str} {sc : Scope} {f : Addr} {cd : Value} {A : Around} {outer : List Env} {s : Shared} {H : Hp} {E : XK} :
    (cxOf CX P w K mg base N q sc f cd A outer s H E).K = K := rfl
theorem cx_w {CX : CXT} {P : Program} {w : World} {K : PySem.W.Frag} {mg : Str → Option Value} {base : Heap} {N : List Str} {q : Str} {sc : Scope} {f : Addr} {cd : Value} {A : Around} {outer : List Env} {s : Shared} {H : Hp} {E : XK} :
    (cxOf CX P w K mg base N q sc f cd A outer s H E).w = w := rfl
theorem at0 {α : Type} {a : α} {r : List α} : atI (a :: r) 0 = some a := by
  unfold atI ixN
  rw [if_pos (by decide), if_pos (by rw [List.length_cons]; omega)]
  rfl
theorem at1 {α : Type} {a b : α} {r : List α} : atI (a :: b :: r) 1 = some b := by
  unfold atI ixN
  rw [if_pos (by decide), if_pos (by rw [List.length_cons, List.length_cons]; omega)]
  rfl
theorem at2 {α : Type} {a b c : α} {r : List α} : atI (a :: b :: c :: r) 2 = some c := by
  unfold atI ixN
  rw [if_pos (by decide), if_pos (by rw [List.length_cons, List.length_cons, List.length_cons]; omega)]
  rfl
theorem at3 {α : Type} {a b c d : α} {r : List α} : atI (a :: b :: c :: d :: r) 3 = some d := by
  unfold atI ixN
  rw [if_pos (by decide), if_pos (by rw [List.length_cons, List.length_cons, List.length_cons, List.length_cons]; omega)]
  rfl
theorem atN {α : Type} {xs : List α} {i : Int} (h0 : 0 ≤ i) : atI xs i = xs[i.toNat]? := by
  unfold atI ixN
  rw [if_pos h0]
  by_cases h : i < xs.length
  · rw [if_pos h]
    rfl
  · rw [if_neg h, List.getElem?_eq_none (by omega)]
    rfl
theorem ixs0 {n : Nat} : ixN (n + 1) 0 = some 0 := by
  unfold ixN
  rw [if_pos (by decide), if_pos (by omega)]
  rfl
theorem ixs1 {n : Nat} : ixN (n + 2) 1 = some 1 := by
  unfold ixN
  rw [if_pos (by decide), if_pos (by omega)]
  rfl
theorem ixs2 {n : Nat} : ixN (n + 3) 2 = some 2 := by
  unfold ixN
  rw [if_pos (by decide), if_pos (by omega)]
  rfl
theorem seq0 {n : Nat} : seqIndex? 0 (n + 1) = some 0 := by
  simp [seqIndex?]
theorem scal_ii {a b : Int} : scal (.int a) (.int b) = true := rfl
theorem scal_ss {a b : Str} : scal (.str a) (.str b) = true := rfl
theorem scal_bb {a b : Bool} : scal (.bl a) (.bl b) = true := rfl
theorem scal_nn : scal .non .non = true := rfl
theorem scal_ni {a : Int} : scal .non (.int a) = true := rfl
theorem scal_in {a : Int} : scal (.int a) .non = true := rfl
theorem scal_ns {a : Str} : scal .non (.str a) = true := rfl
theorem scal_sn {a : Str} : scal (.str a) .non = true := rfl
theorem tyV_list {K : PySem.W.Frag} {l : Addr} {H : Hp} (h : lsO (H l) ≠ none) : tyV K "list" (.ref l) H = True := by
  refine eq_true (.inl ⟨rfl, ?_⟩)
  cases e : lsO (H l) with
  | none => exact absurd e h
  | some xs => exact ⟨xs, .inl (rd_lsO e)⟩
theorem ex_map_int {ns : List Int} {P : List Int → Prop} : (∃ ms : List Int, ns.map V.int = ms.map V.int ∧ P ms) ↔ P ns :=
  ⟨fun ⟨ms, e, p⟩ => by rw [map_int_inj e]; exact p, fun p => ⟨ns, rfl, p⟩⟩
theorem ex_nil_int {P : List Int → Prop} : (∃ ms : List Int, [] = ms.map V.int ∧ P ms) ↔ P [] :=
  ⟨fun ⟨ms, e, p⟩ => (by
    cases ms with
    | nil => exact p
    | cons _ _ => cases e), fun p => ⟨[], rfl, p⟩⟩
theorem ex_cons_int {n : Int} {ns : List Int} {P : List Int → Prop} : (∃ ms : List Int, V.int n :: ns.map V.int = ms.map V.int ∧ P ms) ↔ P (n :: ns) := ex_map_int (ns := n :: ns)
end
/-! ### isinstance of a built-in class, by what stands in the heap -/
inductive TN where
  | non | bl | int | str | lst | tup | dct
def TN.nm : TN → String
  | .non => "NoneType"
  | .bl => "bool"
  | .int => "int"
  | .str => "str"
  | .lst => "list"
  | .tup => "tuple"
  | .dct => "dict"
def tyT : V → Hp → Option TN
  | .non, _ => some .non
  | .bl _, _ => some .bl
  | .int _, _ => some .int
  | .str _, _ => some .str
  | .ref p, H => match H p with
    | some (.lst _) => some .lst
    | some (.tup _) => some .tup
    | some (.dK _) => some .dct
    | some (.dT _) => some .dct
    | _ => none
  | _, _ => none
theorem tyT_ok {K : PySem.W.Frag} {x : V} {H : Hp} {a : TN} (h : tyT x H = some a) : TyX K H x (.type a.nm) := by
  cases x with
  | non => cases h; exact .base .non
  | bl b => cases h; exact .base (.bl b)
  | int b => cases h; exact .base (.int b)
  | str b => cases h; exact .base (.str b)
  | ref p =>
    unfold tyT at h
    dsimp only at h
    split at h
    · rename_i e; cases h; exact .base (.lst e)
    · rename_i e; cases h; exact .base (.tup e)
    · rename_i e; cases h; exact .base (.dK e)
    · rename_i e; cases h; exact .base (.dT e)
    · cases h
  | _ => cases h
theorem tyT_n {H : Hp} : tyT .non H = some .non := rfl
theorem tyT_b {b : Bool} {H : Hp} : tyT (.bl b) H = some .bl := rfl
theorem tyT_i {b : Int} {H : Hp} : tyT (.int b) H = some .int := rfl
theorem tyT_s {b : Str} {H : Hp} : tyT (.str b) H = some .str := rfl
theorem tyT_r {p : Addr} {H : Hp} : tyT (.ref p) H = match H p with
    | some (.lst _) => some .lst
    | some (.tup _) => some .tup
    | some (.dK _) => some .dct
    | some (.dT _) => some .dct
    | _ => none := rfl
def isN (a : TN) (n : String) : Bool := (kitB a.nm n).getD false
theorem isn_non_bool : isN .non "bool" = false := by decide +kernel
theorem isn_non_int : isN .non "int" = false := by decide +kernel
theorem isn_non_str : isN .non "str" = false := by decide +kernel
theorem isn_non_tuple : isN .non "tuple" = false := by decide +kernel
theorem isn_non_list : isN .non "list" = false := by decide +kernel
theorem isn_non_dict : isN .non "dict" = false := by decide +kernel
theorem isn_bl_bool : isN .bl "bool" = true := by decide +kernel
theorem isn_bl_int : isN .bl "int" = true := by decide +kernel
theorem isn_bl_str : isN .bl "str" = false := by decide +kernel
theorem isn_bl_tuple : isN .bl "tuple" = false := by decide +kernel
theorem isn_bl_list : isN .bl "list" = false := by decide +kernel
theorem isn_bl_dict : isN .bl "dict" = false := by decide +kernel
theorem isn_int_bool : isN .int "bool" = false := by decide +kernel
theorem isn_int_int : isN .int "int" = true := by decide +kernel
theorem isn_int_str : isN .int "str" = false := by decide +kernel
theorem isn_int_tuple : isN .int "tuple" = false := by decide +kernel
theorem isn_int_list : isN .int "list" = false := by decide +kernel
theorem isn_int_dict : isN .int "dict" = false := by decide +kernel
theorem isn_str_bool : isN .str "bool" = false := by decide +kernel
theorem isn_str_int : isN .str "int" = false := by decide +kernel
theorem isn_str_str : isN .str "str" = true := by decide +kernel
theorem isn_str_tuple : isN .str "tuple" = false := by decide +kernel
theorem isn_str_list : isN .str "list" = false := by decide +kernel
theorem isn_str_dict : isN .str "dict" = false := by decide +kernel
theorem isn_lst_bool : isN .lst "bool" = false := by decide +kernel
theorem isn_lst_int : isN .lst "int" = false := by decide +kernel
theorem isn_lst_str : isN .lst "str" = false := by decide +kernel
theorem isn_lst_tuple : isN .lst "tuple" = false := by decide +kernel
theorem isn_lst_list : isN .lst "list" = true := by decide +kernel
theorem isn_lst_dict : isN .lst "dict" = false := by decide +kernel
theorem isn_tup_bool : isN .tup "bool" = false := by decide +kernel
theorem isn_tup_int : isN .tup "int" = false := by decide +kernel
theorem isn_tup_str : isN .tup "str" = false := by decide +kernel
theorem isn_tup_tuple : isN .tup "tuple" = true := by decide +kernel
theorem isn_tup_list : isN .tup "list" = false := by decide +kernel
theorem isn_tup_dict : isN .tup "dict" = false := by decide +kernel
theorem isn_dct_bool : isN .dct "bool" = false := by decide +kernel
theorem isn_dct_int : isN .dct "int" = false := by decide +kernel
theorem isn_dct_str : isN .dct "str" = false := by decide +kernel
theorem isn_dct_tuple : isN .dct "tuple" = false := by decide +kernel
theorem isn_dct_list : isN .dct "list" = false := by decide +kernel
theorem isn_dct_dict : isN .dct "dict" = true := by decide +kernel
def okN (n : String) : Prop := n = "bool" ∨ n = "int" ∨ n = "str" ∨ n = "tuple" ∨ n = "list" ∨ n = "dict"
theorem okn_bool : okN "bool" = True := eq_true (by unfold okN; simp)
theorem okn_int : okN "int" = True := eq_true (by unfold okN; simp)
theorem okn_str : okN "str" = True := eq_true (by unfold okN; simp)
theorem okn_tuple : okN "tuple" = True := eq_true (by unfold okN; simp)
theorem okn_list : okN "list" = True := eq_true (by unfold okN; simp)
theorem okn_dict : okN "dict" = True := eq_true (by unfold okN; simp)
theorem kit_isN {a : TN} {n : String} (h : okN n) : kitB a.nm n = some (isN a n) := by
  rcases h with rfl | rfl | rfl | rfl | rfl | rfl <;> cases a <;> decide +kernel
def cIsi : List V → Hp → VK → Prop := fun xs H Q => ∃ x n a, xs = [x, .ty n] ∧ okN n ∧ tyT x H = some a ∧ Q (.bl (isN a n)) H
theorem isi_h {X : Cx} : CallR X (.builtin "isinstance") cIsi := callImp call_isi fun xs H Q ⟨x, n, a, e, ok, t, q⟩ => ⟨x, .ty n, _, _, _, e, .ty n, tyT_ok t, kit_ty (kit_isN ok), q⟩
end G7

namespace G7
open PySem PySem.Spec PyProof.Rows L2
/-! ### promises of the draws -/
def spBegun (K : PySem.W.Frag) : Sp := fun vs H Q _ => ∃ (a : Addr) (ns : List Int), vs = [.ref a] ∧ SqL K H a (ns.map V.int) ∧ ns.length ≤ 63 ∧ ∀ H' h l, H h = none → H l = none → Same H H' → BoxA H' h l → Q (.ref h) H'
def spTake : Sp := fun vs H Q _ => ∃ (h l : Addr) (n : Int), vs = [.ref h, .int n] ∧ BoxA H h l ∧ 0 < n ∧ n < 1073741824 ∧ ∀ r H', 0 ≤ r → r < n → BoxA H' h l → Keep [h, l] H H' → Q (.int r) H'
theorem cut_ne {α : Type} {a b : α} {P : Prop} (h : a = b → False) : a ≠ b := h
end G7

set_option linter.all false
set_option Elab.async false
set_option maxRecDepth 100000
set_option maxHeartbeats 4000000
namespace G7
open PySem PySem.Spec PyProof.Rows L2
theorem cpow18 : CPow 10 18 = True := eq_true ⟨by decide, by decide, by decide⟩
/-! ### words of the statements' trees -/
inductive Wd where
  | num | field | add | sub | mul | eq | lt | gt | le | ge | and | or | not
  deriving DecidableEq
def Wd.s : Wd → Str
  | .num => "num"
  | .field => "field"
  | .add => "+"
  | .sub => "-"
  | .mul => "*"
  | .eq => "="
  | .lt => "<"
  | .gt => ">"
  | .le => "<="
  | .ge => ">="
  | .and => "and"
  | .or => "or"
  | .not => "not"
def Wd.all : List Wd := [.num, .field, .add, .sub, .mul, .eq, .lt, .gt, .le, .ge, .and, .or, .not]
theorem Wd.s_inj : ∀ a b : Wd, (a.s = b.s) = (a = b) := by
  intro a b
  cases a <;> cases b <;> first | rfl | (apply propext; constructor <;> intro h <;> first | (revert h; decide +kernel) | cases h)
theorem ws_num : (Str.ofString "num" : Str) = Wd.s .num := rfl
theorem ws_field : (Str.ofString "field" : Str) = Wd.s .field := rfl
theorem ws_add : (Str.ofString "+" : Str) = Wd.s .add := rfl
theorem ws_sub : (Str.ofString "-" : Str) = Wd.s .sub := rfl
theorem ws_mul : (Str.ofString "*" : Str) = Wd.s .mul := rfl
theorem ws_eq : (Str.ofString "=" : Str) = Wd.s .eq := rfl
theorem ws_lt : (Str.ofString "<" : Str) = Wd.s .lt := rfl
theorem ws_gt : (Str.ofString ">" : Str) = Wd.s .gt := rfl
theorem ws_le : (Str.ofString "<=" : Str) = Wd.s .le := rfl
theorem ws_ge : (Str.ofString ">=" : Str) = Wd.s .ge := rfl
theorem ws_and : (Str.ofString "and" : Str) = Wd.s .and := rfl
theorem ws_or : (Str.ofString "or" : Str) = Wd.s .or := rfl
theorem ws_not : (Str.ofString "not" : Str) = Wd.s .not := rfl
theorem ex_wd {a : Wd} {P : Wd → Prop} : (∃ b, a = b ∧ P b) ↔ P a := ⟨fun ⟨b, e, p⟩ => by rw [e]; exact p, fun p => ⟨a, rfl, p⟩⟩
/-! ### terms and conditions -/
inductive Tm where
  | num (n : Int)
  | fld (t f : Str)
  | op (o : Wd) (a b : Tm)
inductive Cd where
  | cmp (c : Wd) (a b : Tm)
  | neg (c : Cd)
  | con (o : Wd) (a b : Cd)
/-- the words stand where they may -/
def Wd.isOp : Wd → Bool
  | .add => true
  | .sub => true
  | .mul => true
  | _ => false
def Wd.isCmp : Wd → Bool
  | .eq => true
  | .lt => true
  | .gt => true
  | .le => true
  | .ge => true
  | _ => false
def Wd.isCon : Wd → Bool
  | .and => true
  | .or => true
  | _ => false
def Tm.ok : Tm → Bool
  | .num _ => true
  | .fld t f => PyData.strOk t && PyData.strOk f
  | .op o a b => o.isOp && a.ok && b.ok
def Cd.ok : Cd → Bool
  | .cmp c a b => c.isCmp && a.ok && b.ok
  | .neg c => c.ok
  | .con o a b => o.isCon && a.ok && b.ok
def Tm.deep : Tm → Nat
  | .op _ a b => max a.deep b.deep + 1
  | _ => 1
def Cd.deep : Cd → Nat
  | .cmp _ a b => max a.deep b.deep + 1
  | .neg c => c.deep + 1
  | .con _ a b => max a.deep b.deep + 1
def Tm.enc : Tm → PyData
  | .num n => .tuple [.str (Wd.s .num), .int n]
  | .fld t f => .tuple [.str (Wd.s .field), .str t, .str f]
  | .op o a b => .tuple [.str o.s, a.enc, b.enc]
def Cd.enc : Cd → PyData
  | .cmp c a b => .tuple [.str c.s, a.enc, b.enc]
  | .neg c => .tuple [.str (Wd.s .not), c.enc]
  | .con o a b => .tuple [.str o.s, a.enc, b.enc]
/-- v is the term in H -/
def RT (H : Hp) : V → Tm → Prop
  | v, .num n => ∃ a, v = .ref a ∧ H a = some (.tup [.str (Wd.s .num), .int n])
  | v, .fld t f => ∃ a, v = .ref a ∧ H a = some (.tup [.str (Wd.s .field), .str t, .str f])
  | v, .op o x y => ∃ a u w, v = .ref a ∧ H a = some (.tup [.str o.s, u, w]) ∧ RT H u x ∧ RT H w y
def RC (H : Hp) : V → Cd → Prop
  | v, .cmp c x y => ∃ a u w, v = .ref a ∧ H a = some (.tup [.str c.s, u, w]) ∧ RT H u x ∧ RT H w y
  | v, .neg c => ∃ a u, v = .ref a ∧ H a = some (.tup [.str (Wd.s .not), u]) ∧ RC H u c
  | v, .con o x y => ∃ a u w, v = .ref a ∧ H a = some (.tup [.str o.s, u, w]) ∧ RC H u x ∧ RC H w y
/-- None or a condition -/
def RCo (H : Hp) (v : V) : Option Cd → Prop
  | none => v = .non
  | some c => RC H v c
/-- tuples stand -/
def TupS (H H' : Hp) : Prop := ∀ a xs, H a = some (.tup xs) → H' a = some (.tup xs)
theorem TupS.refl {H : Hp} : TupS H H := fun _ _ h => h
theorem TupS.trans {H H1 H2 : Hp} (a : TupS H H1) (b : TupS H1 H2) : TupS H H2 := fun c o h => b c o (a c o h)
theorem TupS.ofSame {H H1 : Hp} (a : Same H H1) : TupS H H1 := fun c o h => a c _ h
theorem TupS.ofKeep {H H1 : Hp} {ms : List Addr} (n : ∀ m, m ∈ ms → ∃ o, H m = some o ∧ Mut (some o)) (a : Keep ms H H1) : TupS H H1 := fun c o h =>
  a c _ (fun m => by obtain ⟨u, e, mu⟩ := n c m; rw [h] at e; cases e; exact mu) h
theorem TupS.upd {H H1 : Hp} {p : Addr} {o u : HO} (a : TupS H H1) (h : H1 p = some u) (hu : ∀ xs, u ≠ .tup xs) : TupS H (L2.upd H1 p o) := fun c xs e => by
  have e1 := a c xs e
  rw [upd_ne (fun z => by rw [z, h] at e1; cases e1; exact hu _ rfl)]
  exact e1
theorem RT.tups {H H' : Hp} (s : TupS H H') : ∀ {t : Tm} {v : V}, RT H v t → RT H' v t
  | .num n, v, ⟨a, e, h⟩ => ⟨a, e, s _ _ h⟩
  | .fld t f, v, ⟨a, e, h⟩ => ⟨a, e, s _ _ h⟩
  | .op o x y, v, ⟨a, u, w, e, h, h1, h2⟩ => ⟨a, u, w, e, s _ _ h, RT.tups s h1, RT.tups s h2⟩
theorem RC.tups {H H' : Hp} (s : TupS H H') : ∀ {t : Cd} {v : V}, RC H v t → RC H' v t
  | .cmp o x y, v, ⟨a, u, w, e, h, h1, h2⟩ => ⟨a, u, w, e, s _ _ h, RT.tups s h1, RT.tups s h2⟩
  | .neg c, v, ⟨a, u, e, h, h1⟩ => ⟨a, u, e, s _ _ h, RC.tups s h1⟩
  | .con o x y, v, ⟨a, u, w, e, h, h1, h2⟩ => ⟨a, u, w, e, s _ _ h, RC.tups s h1, RC.tups s h2⟩
theorem RCo.tups {H H' : Hp} (s : TupS H H') {v : V} : ∀ {o : Option Cd}, RCo H v o → RCo H' v o
  | none, h => h
  | some c, h => RC.tups s h
theorem RT.dp {K : PySem.W.Frag} {H : Hp} : ∀ {t : Tm} {v : V}, RT H v t → Dp K H v t.enc
  | .num n, v, ⟨a, e, h⟩ => by rw [e]; exact .tup (.inl (.inl h)) (.cons (.str _) (.cons (.int _) .nil))
  | .fld t f, v, ⟨a, e, h⟩ => by rw [e]; exact .tup (.inl (.inl h)) (.cons (.str _) (.cons (.str _) (.cons (.str _) .nil)))
  | .op o x y, v, ⟨a, u, w, e, h, h1, h2⟩ => by rw [e]; exact .tup (.inl (.inl h)) (.cons (.str _) (.cons (RT.dp h1) (.cons (RT.dp h2) .nil)))
theorem RC.dp {K : PySem.W.Frag} {H : Hp} : ∀ {t : Cd} {v : V}, RC H v t → Dp K H v t.enc
  | .cmp o x y, v, ⟨a, u, w, e, h, h1, h2⟩ => by rw [e]; exact .tup (.inl (.inl h)) (.cons (.str _) (.cons (RT.dp h1) (.cons (RT.dp h2) .nil)))
  | .neg c, v, ⟨a, u, e, h, h1⟩ => by rw [e]; exact .tup (.inl (.inl h)) (.cons (.str _) (.cons (RC.dp h1) .nil))
  | .con o x y, v, ⟨a, u, w, e, h, h1, h2⟩ => by rw [e]; exact .tup (.inl (.inl h)) (.cons (.str _) (.cons (RC.dp h1) (.cons (RC.dp h2) .nil)))
theorem Wd.strOk (o : Wd) : PyData.strOk o.s = true := by cases o <;> decide +kernel
theorem Tm.lay : ∀ t : Tm, t.ok = true → t.enc.canLay0 = true
  | .num n, _ => by simp [Tm.enc, PyData.canLay0, PyData.canLayAll0, Wd.strOk]
  | .fld t f, h => by
    simp only [Tm.ok, Bool.and_eq_true] at h
    simp [Tm.enc, PyData.canLay0, PyData.canLayAll0, Wd.strOk, h]
  | .op o a b, h => by
    simp only [Tm.ok, Bool.and_eq_true] at h
    simp [Tm.enc, PyData.canLay0, PyData.canLayAll0, Tm.lay a h.1.2, Tm.lay b h.2, Wd.strOk]
theorem Tm.depth : ∀ t : Tm, t.enc.depth ≤ t.deep
  | .num n => by simp [Tm.enc, PyData.depth, PyData.depthAll, Tm.deep]
  | .fld t f => by simp [Tm.enc, PyData.depth, PyData.depthAll, Tm.deep]
  | .op o a b => by
    have h1 := Tm.depth a
    have h2 := Tm.depth b
    simp only [Tm.enc, PyData.depth, PyData.depthAll, Tm.deep]
    omega
end G7

set_option linter.all false
set_option Elab.async false
set_option maxRecDepth 100000
set_option maxHeartbeats 4000000
namespace G7
open PySem PySem.Spec PyProof.Rows L2
/-! ### the second draw box: [mixed, cells, place] -/
def BoxB (H : Hp) (h l : Addr) : Prop := ∃ (m : Int) (ns : List Int) (p : Int), H h = some (.lst [.int m, .ref l, .int p]) ∧ H l = some (.lst (ns.map V.int)) ∧ ns.length ≤ 63
theorem BoxB.muts {H : Hp} {h l : Addr} (b : BoxB H h l) : ∀ m, m ∈ [h, l] → ∃ o, H m = some o ∧ Mut (some o) := by
  obtain ⟨m0, ns, st, e1, e2, _⟩ := b
  intro m hm
  simp only [List.mem_cons, List.mem_nil_iff, or_false] at hm
  rcases hm with rfl | rfl
  · exact ⟨_, e1, trivial⟩
  · exact ⟨_, e2, trivial⟩
theorem BoxB.keep {ms : List Addr} {H H' : Hp} {h l : Addr} (b : BoxB H h l) (k : Keep ms H H') (n1 : h ∉ ms) (n2 : l ∉ ms) : BoxB H' h l := by
  obtain ⟨m, ns, st, e1, e2, e3⟩ := b
  exact ⟨m, ns, st, k _ _ n1 e1, k _ _ n2 e2, e3⟩
theorem BoxB.same {H H' : Hp} {h l : Addr} (b : BoxB H h l) (k : Same H H') : BoxB H' h l := b.keep (ms := []) (Keep.ofSame k) (by simp) (by simp)
theorem BoxB.ne {H : Hp} {h l : Addr} (b : BoxB H h l) : h ≠ l := by
  obtain ⟨m, ns, st, e1, e2, _⟩ := b
  rintro rfl
  rw [e1] at e2
  injection e2 with e2
  injection e2 with e2
  rcases ns with _ | ⟨n, _ | ⟨n2, r⟩⟩
  · cases e2
  · injection e2 with _ e3; cases e3
  · injection e2 with _ e3
    injection e3 with e4 _
    cases e4
theorem BoxB.tups {H H' : Hp} {h l : Addr} (b : BoxB H h l) (k : Keep [h, l] H H') : TupS H H' := TupS.ofKeep b.muts k
/-- what is no list is not the box -/
theorem BoxB.notin {H : Hp} {h l q : Addr} {o : HO} (B : BoxB H h l) (e : H q = some o) (n : ∀ xs, o ≠ .lst xs) : q ∉ [h, l] := fun m => by
  obtain ⟨m0, ns, st, b1, b2, _⟩ := B
  simp only [List.mem_cons, List.mem_nil_iff, or_false] at m
  rcases m with rfl | rfl
  · rw [b1] at e; cases e; exact n _ rfl
  · rw [b2] at e; cases e; exact n _ rfl
/-- an address that is free now is not the box -/
theorem BoxB.free {H : Hp} {h l q : Addr} (B : BoxB H h l) (e : H q = none) : q ∉ [h, l] := fun m => by
  obtain ⟨m0, ns, st, b1, b2, _⟩ := B
  simp only [List.mem_cons, List.mem_nil_iff, or_false] at m
  rcases m with rfl | rfl
  · rw [b1] at e; cases e
  · rw [b2] at e; cases e
theorem BoxB.updNot {H : Hp} {h l q : Addr} {o : HO} (B : BoxB H h l) (n : q ∉ [h, l]) : BoxB (L2.upd H q o) h l :=
  B.keep (ms := [q]) (Keep.upd Keep.refl (by simp)) (fun z => n (by simp at z; simp [z])) (fun z => n (by simp at z; simp [z]))
/-- the cell that is drawn from -/
theorem cell_at (ns : List Int) (pl : Int) : ∃ c : Int, atI (ns.map V.int ++ [V.int 0]) (pl % (if (ns.length : Int) > 1 then (ns.length : Int) else 1)) = some (.int c) ∧
    (c ≠ 0 → 0 < (ns.length : Int) ∧ ∃ j : Nat, j < ns.length ∧ pl % (ns.length : Int) = j ∧ (if (ns.length : Int) > 1 then (ns.length : Int) else 1) = ns.length) := by
  have hd : 0 < (if (ns.length : Int) > 1 then (ns.length : Int) else 1) := by split <;> omega
  have h0 := Int.emod_nonneg pl (show (if (ns.length : Int) > 1 then (ns.length : Int) else 1) ≠ 0 by omega)
  have h1 := Int.emod_lt_of_pos pl hd
  rw [atN h0]
  by_cases hl : 0 < ns.length
  · have e : (if (ns.length : Int) > 1 then (ns.length : Int) else 1) = ns.length := by split <;> omega
    rw [e] at h0 h1 ⊢
    have hj : (pl % (ns.length : Int)).toNat < ns.length := by omega
    refine ⟨ns[(pl % (ns.length : Int)).toNat], ?_, fun _ => ⟨by omega, (pl % (ns.length : Int)).toNat, hj, by omega, rfl⟩⟩
    rw [List.getElem?_append_left (by rw [List.length_map]; exact hj), List.getElem?_map, List.getElem?_eq_getElem hj]
    rfl
  · have e0 : ns = [] := List.eq_nil_of_length_eq_zero (by omega)
    subst e0
    refine ⟨0, ?_, fun n => absurd rfl n⟩
    have : (pl % (if ((([] : List Int).length : Nat) : Int) > 1 then ((([] : List Int).length : Nat) : Int) else 1)).toNat = 0 := by
      have h2 : (if ((([] : List Int).length : Nat) : Int) > 1 then ((([] : List Int).length : Nat) : Int) else 1) = 1 := rfl
      rw [h2] at h1 ⊢
      omega
    rw [this]
    rfl
theorem ixN_j {n j : Nat} {i : Int} (h : i = j) (hj : j < n) : ixN n i = some j := by
  subst h
  unfold ixN
  rw [if_pos (by omega), if_pos (by omega)]
  simp
def spMix (K : PySem.W.Frag) : Sp := fun vs H Q _ => ∃ (a : Addr) (ns : List Int) (z : Int), vs = [.ref a, .int z] ∧ SqL K H a (ns.map V.int) ∧ ns.length ≤ 63 ∧ ∀ H' h l, H h = none → H l = none → Same H H' → BoxB H' h l → Q (.ref h) H'
def spNext : Sp := fun vs H Q _ => ∃ (h l : Addr) (n : Int), vs = [.ref h, .int n] ∧ BoxB H h l ∧ 0 < n ∧ n < 1073741824 ∧ ∀ r H', 0 ≤ r → r < n → BoxB H' h l → Keep [h, l] H H' → Q (.int r) H'
end G7

set_option linter.all false
set_option Elab.async false
set_option maxRecDepth 100000
set_option maxHeartbeats 4000000
namespace G7
open PySem PySem.Spec PyProof.Rows L2 HT
/-! ### t[::-1] of a tuple -/
theorem places_rev (n : Nat) : Builtin.Slice.sliceAdjust none none (-1) (n : Int) = ((n : Int) - 1, -1) ∧ Builtin.Slice.slicePlaces ((n : Int) - 1) (-1) (-1) = n := by
  refine ⟨rfl, ?_⟩
  unfold Builtin.Slice.slicePlaces
  rw [if_neg (by decide)]
  by_cases h : (n : Int) - 1 > -1
  · rw [if_pos h]
    have : ((n : Int) - 1 - -1 - 1) / (-(-1)) + 1 = n := by
      show ((n : Int) - 1 - -1 - 1) / 1 + 1 = n
      omega
    rw [this]
    simp
  · rw [if_neg h]
    omega
theorem range_rev (n : Nat) : (List.range n).map (fun k => n - 1 - k) = (List.range n).reverse := by
  refine List.ext_getElem (by simp) fun i h1 h2 => ?_
  simp at h1 h2
  simp [List.getElem_reverse]
theorem pick_all {α : Type} (xs : Array α) : (List.range xs.size).filterMap (xs[·]?) = xs.toList := by
  have e : (List.range xs.size).filterMap (xs[·]?) = (List.range xs.toList.length).filterMap (xs.toList[·]?) := by simp
  rw [e]
  generalize xs.toList = l
  induction l with
  | nil => rfl
  | cons a r ih =>
    rw [List.length_cons, List.range_succ_eq_map, List.filterMap_cons]
    show a :: _ = _
    rw [List.filterMap_map]
    exact congrArg (a :: ·) ih
theorem fm_congr {α β : Type} {f g : α → Option β} : ∀ {l : List α}, (∀ a ∈ l, f a = g a) → l.filterMap f = l.filterMap g
  | [], _ => rfl
  | a :: r, h => by
    rw [List.filterMap_cons, List.filterMap_cons, h a (List.mem_cons_self), fm_congr fun b hb => h b (List.mem_cons_of_mem _ hb)]
theorem pick_rev (xs : Array Value) : ((List.range xs.size).filterMap fun (m : Nat) => xs[(((xs.size : Int) - 1) + (m : Int) * -1).toNat]?).toArray = xs.toList.reverse.toArray := by
  congr 1
  have e : (List.range xs.size).filterMap (fun (m : Nat) => xs[(((xs.size : Int) - 1) + (m : Int) * -1).toNat]?) = ((List.range xs.size).map fun k => xs.size - 1 - k).filterMap (xs[·]?) := by
    rw [List.filterMap_map]
    refine fm_congr fun m hm => ?_
    have hm := List.mem_range.mp hm
    have : (((xs.size : Int) - 1) + (m : Int) * -1).toNat = xs.size - 1 - m := by omega
    show xs[(((xs.size : Int) - 1) + (m : Int) * -1).toNat]? = xs[xs.size - 1 - m]?
    rw [this]
  rw [e, range_rev, List.filterMap_reverse, pick_all]
section
variable {prog : Program} {w : World} {A : Around} {E : Value → Shared → Prop} {s : Shared}
theorem getItem_tuple_rev {t sl : Addr} {items : Array Value} {st : Value} {Q : Value → Shared → Prop} (ht : IsTup s.heap t items) (hs : s.heap.IsSliceOf sl .none .none st) (ps : IsPart st (some (-1)))
    (h : Q (.ref s.heap.objs.size) { s with heap := s.heap.push { cls := .type "tuple", data := .seq items.toList.reverse.toArray } })
    (hsz : items.size ≤ sizeLine) : wpAny (model prog w) A (getItem (.ref t) (.ref sl)) Q E s := by
  have hok : sizeOk (.seq items.toList.reverse.toArray) := by
    show items.toList.reverse.toArray.size ≤ sizeLine
    simpa using hsz
  obtain ⟨os, hos, hcs, hds⟩ := id hs
  have tys : s.TypeIs (.ref sl) "slice" := ⟨os, hos, hcs⟩
  unfold getItem
  refine wpAny_holding ?_
  refine wpAny_bind (wpAny_sequenceKey ht.typeIs (by decide) ?_)
  refine wpAny_bind (wpAny_callSpecial?_slot (name := Str.ofString "__getitem__") ht.typeIs slot_tuple_getitem (wpAny_call_entry slot_tuple_getitem ht.typeIs entry_tuple_getitem ?_ (args_tuple_getitem _ _)))
  show wpAny _ _ (Builtin.Tuple.tupleItemsOf (.ref t) >>= _) _ _ s
  refine wpAny_bind (tupleItemsOf_ ht (wpAny_bind (wpAny_typeOf tys ?_)))
  rw [if_pos (by decide)]
  have hap : ∀ {A' : Around} {E' : Value → Shared → Prop} {Q' : Int × Int × Nat → Shared → Prop}, Q' ((items.size : Int) - 1, -1, items.size) s → wpAny (model prog w) A' (Builtin.Slice.sliceApplied (.ref sl) (pure (items.size : Int))) Q' E' s := fun {A' E' Q'} hq => by
    unfold Builtin.Slice.sliceApplied Builtin.Slice.sliceFields
    refine wpAny_bind (wpAny_bind (wpAny_field hos hds (x := .none) rfl (wpAny_bind (wpAny_field hos hds (x := .none) rfl (wpAny_bind (wpAny_field hos hds (x := st) rfl (wpAny_pure ?_)))))))
    refine wpAny_bind (slicePart_ ps ?_)
    show wpAny _ _ (if ((-1 : Int) == 0) = true then _ else _) _ _ s
    rw [if_neg (by decide)]
    refine wpAny_bind (slicePart_none (wpAny_bind (slicePart_none (wpAny_bind (wpAny_pure ?_)))))
    show wpAny _ _ (match Builtin.Slice.sliceAdjust none none (-1) (items.size : Int) with | (lo, hi) => pure (lo, (-1 : Int), Builtin.Slice.slicePlaces lo hi (-1))) _ _ s
    rw [(places_rev items.size).1]
    show wpAny _ _ (pure ((items.size : Int) - 1, (-1 : Int), Builtin.Slice.slicePlaces ((items.size : Int) - 1) (-1) (-1))) _ _ s
    rw [(places_rev items.size).2]
    exact wpAny_pure hq
  refine wpAny_bind (hap ?_)
  show wpAny _ _ (if (((items.size : Int) - 1) == 0 && (-1 : Int) == 1 && items.size == items.size) = true then _ else _) _ _ s
  rw [if_neg (by simp), pick_rev]
  first
    | exact wpAny_bind (m := Builtin.Tuple.tupleExact _) (wpAny_newObj_type (wpAny_pure ⟨_, rfl, wpAny_pure h⟩) hok)
    | exact wpAny_bind (m := Builtin.Tuple.tupleExact _) (wpAny_newObj_type (wpAny_bind (wpAny_pure (wpAny_pure ⟨_, rfl, wpAny_pure h⟩))) hok)
    | exact wpAny_bind (wpAny_bind (m := Builtin.Tuple.tupleExact _) (wpAny_newObj_type (wpAny_pure (wpAny_pure ⟨_, rfl, wpAny_pure h⟩)) hok))
    | exact wpAny_bind (wpAny_bind (m := Builtin.Tuple.tupleExact _) (wpAny_newObj_type (wpAny_pure ⟨_, rfl, wpAny_pure h⟩) hok))
end
section
variable {X : Cx} {e st : Expr} {te : TE} {ts : TO} {p2 pos : Pos}
def tRevT (te : TE) (ts : TO) : TE := fun σ H Q => te σ H fun x H1 => ts σ H1 fun o H2 => o = some (-1) ∧ ∃ a xs, x = .ref a ∧ tpO (H2 a) = some xs ∧ ∀ p, H2 p = none → Q (.ref p) (upd H2 p (.tup xs.reverse))
theorem vals_rev : ∀ {xs : List V} {us : List Value}, Vals xs us → Vals xs.reverse us.reverse
  | _, _, .nil => .nil
  | _, _, .cons r t => by
    rw [List.reverse_cons, List.reverse_cons]
    exact (vals_rev t).append (.cons r .nil)
theorem pe_revT (he : PE X e te) (hs : PO X (some st) ts) (hsb : ∀ v u, subscripted (.Slice none none (some st) p2) false v u = operate [v, u] (getItem v u) := by intro _ _; with_unfolding_all rfl) : PE X (.Subscript e (.Slice none none (some st) p2) pos) (tRevT te ts) := by
  refine ⟨fun pins s σ H Q I h => ?_⟩
  refine Subscript_ (thn (he.run pins s σ H _ I h) fun v s1 ⟨x, H1, I1, r1, q1⟩ => ?_)
  refine wpAny_Slice ?_
  rw [evalPart_none]
  refine wpAny_pure (wpAny_pure ?_)
  refine thn (hs.run pins s1 σ H1 _ I1 q1) fun vs s3 ⟨o, H3, I3, po, eo, a, xs, ex, hx, q3⟩ => ?_
  subst eo
  subst ex
  cases r1
  have I4 : Inv X pins σ H3 { s3 with heap := s3.heap.push { cls := .type "slice", data := .fields #[.none, .none, vs] } } := I3.kept (t' := s3.toks) fun b ob q => Heap.get?_push_of_some _ q
  obtain ⟨its, r, ht, hz⟩ := I4.tuple (show SqT X.K H3 a xs from .inl (rd_tpO hx))
  have hl : its.toArray.size = xs.length := by rw [List.size_toArray]; exact r.length.symm
  refine tail_any (ops := [.ref a, .ref s3.heap.objs.size]) ht.typeIs slot_tuple_getitem.lookup (getItem_tuple_rev (sl := s3.heap.objs.size) ht (Heap.IsSliceOf.new ..) po ?_ (by rw [hl]; exact hz)) (hsb _ _)
  have I5 := I4.laid (t' := s3.toks) (h' := (s3.heap.push { cls := .type "slice", data := .fields #[.none, .none, vs] }).push { cls := .type "tuple", data := .seq its.toArray.toList.reverse.toArray }) (o := .tup xs.reverse) (fun b ob q => Heap.get?_push_of_some _ q) (Nat.le_refl _)
    ⟨by rw [List.length_reverse]; exact hz, its.reverse, vals_rev r, ⟨_, by rw [Heap.get?_push_size _ rfl], rfl, 0, by simp⟩⟩
  exact ⟨.ref _, _, I5, rfl, q3 _ (I4.hok.fresh (Nat.le_refl _))⟩
end
end G7

set_option linter.all false
set_option Elab.async false
set_option maxRecDepth 100000
set_option maxHeartbeats 4000000
namespace G7
open PySem PySem.Spec PyProof.Rows L2
section
variable {X : Cx}
/-- t + u, neither empty -/
def rCatH : R2 := fun x y H Q => ∃ a b xs ys, x = .ref a ∧ y = .ref b ∧ tpO (H a) = some xs ∧ tpO (H b) = some ys ∧ xs.length + ys.length ≤ sizeLine ∧ xs ≠ [] ∧ ys ≠ [] ∧ ∀ p, H p = none → Q (.ref p) (upd H p (.tup (xs ++ ys)))
theorem op_catH : OpR X (binaryOp .Add) rCatH := opImp op_catA fun x y H Q ⟨a, b, xs, ys, e1, e2, h1, h2, hz, n1, n2, q⟩ =>
  ⟨a, b, xs, ys, e1, e2, .inl (rd_tpO h1), .inl (rd_tpO h2), hz, fun n => absurd n n1, fun _ n => absurd n n2, fun _ _ => q⟩
/-- l + m of lists -/
def rCatL : R2 := fun x y H Q => ∃ l b xs zs, x = .ref l ∧ y = .ref b ∧ H l = some (.lst xs) ∧ H b = some (.lst zs) ∧ xs.length + zs.length ≤ sizeLine ∧ ∀ p, H p = none → Q (.ref p) (upd H p (.lst (xs ++ zs)))
/-- x in a tuple of flat items -/
def rInT : R2 := fun x y H Q => ∃ p xs, y = .ref p ∧ tpO (H p) = some xs ∧ flatV x = true ∧ xs.all flatV = true ∧ Q (.bl (inV x xs)) H
theorem op_inT : OpR X (compareOp .In) rInT := opImp op_in_seq fun x y H Q ⟨p, xs, e, h, f1, f2, q⟩ => ⟨p, xs, e, .inr (.inl (rd_tpO h)), f1, f2, q⟩
/-- d != e of dicts: unlike lengths, or the same data at each key -/
def rNeDic (K : PySem.W.Frag) : R2 := fun x y H Q => ∃ a b ks ls, x = .ref a ∧ y = .ref b ∧ H a = some (.dK ks) ∧ H b = some (.dK ls) ∧ ks.length = ls.length ∧
  (∀ p ∈ ks, ∃ v d, valV ls p.1 = some v ∧ Dp K H p.2 d ∧ Dp K H v d ∧ SeqAt.shaped d = true) ∧ Q (.bl false) H
theorem hits_dp {A : Around} {pins : List (Addr × Obj)} {σ : L2.St} {H : Hp} {s : Shared} (I : Inv X pins σ H s) (hu : A.in1.units + 64 < cLine) {kvs : List (Key × V)} {vb : List (Key × Value)} (rb : KV kvs vb) {ks : List (Key × V)} {va : List (Key × Value)} (ra : KV ks va) :
    (∀ p ∈ ks, ∃ v d, valV kvs p.1 = some v ∧ Dp X.K H p.2 d ∧ Dp X.K H v d ∧ SeqAt.shaped d = true) → PySem.W.KeqHits A.in1 s vb va true := by
  unfold KV at ra
  induction ra with
  | nil => intro _; exact .nil
  | @cons p q ps qs h t ih =>
    intro hp
    obtain ⟨h1, h2⟩ := h
    obtain ⟨v0, d, e, d1, d2, sh⟩ := hp p List.mem_cons_self
    have rr : RelO (some v0) (valueAt vb p.1) := by rw [← e]; exact rb.val p.1
    obtain ⟨y, hy, ry⟩ := rr.some_of
    obtain ⟨k, v⟩ := q
    have h1' : p.1 = k := h1
    rw [h1'] at hy
    obtain ⟨as, r1⟩ := Dp.reads I d _ v d1 h2
    obtain ⟨bs, r2⟩ := Dp.reads I d _ y d2 ry
    have q := PySem.W.keq_at (A := A) r1 r2 sh sh hu
    rw [SeqAt.eqv_refl d (SeqAt.canLay_of_shaped sh)] at q
    show PySem.W.KeqHits A.in1 s vb ((k, v) :: qs) (true && true)
    exact .hit hy q (ih fun p' hm => hp p' (List.mem_cons_of_mem _ hm))
theorem op_ne_dicD (hu : X.A.in1.units + 64 < cLine) (hu0 : X.A.units < cLine) : OpR X (compareOp .NotEq) (rNeDic X.K) := by
  intro pins s σ H x y v u Q I rx ry h
  obtain ⟨a, b, ks, ls, rfl, rfl, ea, eb, hlen, hp, q⟩ := h
  obtain rfl : v = Value.ref a := rx
  obtain rfl : u = Value.ref b := ry
  obtain ⟨_, ya, va, ra, da⟩ := (show ObjOk X.prog X.w H s.heap a (.dK ks) from I.hok a _ ea)
  obtain ⟨_, yb, vb, rb, db⟩ := (show ObjOk X.prog X.w H s.heap b (.dK ls) from I.hok b _ eb)
  have hl : va.length = vb.length := by rw [← ra.length, ← rb.length]; exact hlen
  exact PySem.W.keq_ne (knd := mixKind X.prog X.w) (r := true) ya yb da db hu0 (fun _ => hits_dp I hu rb ra hp) (fin_bl I q (by simp [hl]))
/-- .. or None against a flat value -/
def rNeDicO (K : PySem.W.Frag) : R2 := fun x y H Q => (x = .non ∧ y = .non ∧ Q (.bl false) H) ∨ rNeDic K x y H Q
theorem op_ne_dicO (hu : X.A.in1.units + 64 < cLine) (hu0 : X.A.units < cLine) : OpR X (compareOp .NotEq) (rNeDicO X.K) := OpR.or (opImp op_ne fun x y H Q ⟨e1, e2, q⟩ => by
    subst e1 e2
    exact ⟨rfl, q⟩) (op_ne_dicD hu hu0)
/-- sorted(d): keys all texts -/
def cSortD : List V → Hp → VK → Prop := fun xs H Q => ∃ (a : Addr) (kvs : List (Key × V)) (ks : List Str), xs = [.ref a] ∧ dkO (H a) = some kvs ∧ kvs.map (·.1) = ks.map Sum.inr ∧ ks.length < 64 ∧
    ∀ (ys : List Str) (p : Addr), ys.Perm ks → H p = none → Q (.ref p) (upd H p (.lst (ys.map V.str)))
theorem sorted_dic (hc : X.calm = true) : CallR X (.builtin "sorted") cSortD := callImp (call_sortedD hc) fun xs H Q ⟨a, kvs, ks, e, h, h2, h3, q⟩ => ⟨a, kvs, ks, e, rd_dkO h, h2, h3, fun ys p h1 _ => q ys p h1⟩
/-- max(xs), min(xs) of a list of ints -/
def cMaxL : List V → Hp → VK → Prop := fun vs H Q => ∃ (a : Addr) (ns : List Int), vs = [V.ref a] ∧ lsO (H a) = some (ns.map V.int) ∧ 0 < ns.length ∧ ∀ m, m ∈ ns → (∀ y, y ∈ ns → y ≤ m) → Q (.int m) H
def cMinL : List V → Hp → VK → Prop := fun vs H Q => ∃ (a : Addr) (ns : List Int), vs = [V.ref a] ∧ lsO (H a) = some (ns.map V.int) ∧ 0 < ns.length ∧ ∀ m, m ∈ ns → (∀ y, y ∈ ns → m ≤ y) → Q (.int m) H
theorem max_lst (hc : X.calm = true) : CallR X (.builtin "max") cMaxL := callImp (cr_max hc) fun vs H Q ⟨a, ns, e, h, q⟩ => ⟨a, ns, e, .inl (rd_lsO h), q⟩
theorem min_lst (hc : X.calm = true) : CallR X (.builtin "min") cMinL := callImp (cr_min hc) fun vs H Q ⟨a, ns, e, h, q⟩ => ⟨a, ns, e, .inl (rd_lsO h), q⟩
/-- a list of ints != [] -/
def rNeNilI : R2 := fun x y H Q => ∃ (p q : Addr) (ns : List Int), x = .ref p ∧ y = .ref q ∧ lsO (H p) = some (ns.map V.int) ∧ lsO (H q) = some [] ∧ Q (.bl (!ns.isEmpty)) H
theorem op_neNilI (hu : X.A.units + 64 < cLine) : OpR X (compareOp .NotEq) rNeNilI := opImp (op_neD hu) fun x y H Q ⟨p, q, ns, e1, e2, h1, h2, k⟩ => by
  refine ⟨.list (ns.map PyData.int), .list [], e1 ▸ .lst (.inl (rd_lsO h1)) (dpAll_ints X.K H ns), e2 ▸ .lst (.inl (rd_lsO h2)) .nil, ?_, rfl, ?_⟩
  · exact shaped_ints ns
  · cases ns with
    | nil => exact k
    | cons n r => exact k
end
/-! a list of texts, or of pairs of texts, against [] -/
theorem lay_strs : ∀ ns : List Str, (∀ s ∈ ns, PyData.strOk s = true) → PyData.canLayAll0 (ns.map PyData.str) = true
  | [], _ => by simp [PyData.canLayAll0]
  | n :: r, h => by
    have h1 := h n List.mem_cons_self
    simp [PyData.canLayAll0, PyData.canLay0, h1, lay_strs r fun s hs => h s (List.mem_cons_of_mem _ hs)]
theorem depth_strs : ∀ ns : List Str, PyData.depthAll (ns.map PyData.str) ≤ 1
  | [] => by simp [PyData.depthAll]
  | n :: r => by
    have h := depth_strs r
    simp only [List.map_cons, PyData.depthAll, PyData.depth]
    omega
theorem shaped_strs (ns : List Str) (h : ∀ s ∈ ns, PyData.strOk s = true) : SeqAt.shaped (.list (ns.map PyData.str)) = true := by
  have h1 := depth_strs ns
  have h2 : PyData.depth (.list (ns.map PyData.str)) ≤ 64 := by
    simp only [PyData.depth]
    omega
  unfold SeqAt.shaped
  rw [Bool.and_eq_true]
  exact ⟨by simp only [PyData.canLay0]; exact lay_strs ns h, decide_eq_true h2⟩
theorem dpAll_strs (K : PySem.W.Frag) (H : Hp) : ∀ ns : List Str, DpAll K H (ns.map V.str) (ns.map PyData.str)
  | [] => .nil
  | n :: r => .cons (.str n) (dpAll_strs K H r)
/-- (table, field) of some -/
abbrev Fd := Addr × Str × Str
structure RF (H : Hp) (a : Addr) (ps : List Fd) : Prop where
  at_ : H a = some (.lst (ps.map fun e => V.ref e.1))
  tups : ∀ e ∈ ps, H e.1 = some (.tup [.str e.2.1, .str e.2.2])
  oks : ∀ e ∈ ps, PyData.strOk e.2.1 = true ∧ PyData.strOk e.2.2 = true
def Fd.dat (e : Fd) : PyData := .tuple [.str e.2.1, .str e.2.2]
theorem RF.same {H H' : Hp} {a : Addr} {ps : List Fd} (R : RF H a ps) (k : Same H H') : RF H' a ps := ⟨k _ _ R.at_, fun e he => k _ _ (R.tups e he), R.oks⟩
theorem RF.keepB {H H' : Hp} {h l a : Addr} {ps : List Fd} (R : RF H a ps) (k : Keep [h, l] H H') (B : BoxB H h l) (n : a ∉ [h, l]) : RF H' a ps :=
  ⟨k _ _ n R.at_, fun e he => k _ _ (B.notin (R.tups e he) (by intro xs q; cases q)) (R.tups e he), R.oks⟩
theorem dpAll_fds {K : PySem.W.Frag} {H : Hp} : ∀ {ps : List Fd}, (∀ e ∈ ps, H e.1 = some (.tup [.str e.2.1, .str e.2.2])) → DpAll K H (ps.map fun e => V.ref e.1) (ps.map Fd.dat)
  | [], _ => .nil
  | e :: r, h => .cons (.tup (.inl (.inl (h e List.mem_cons_self))) (.cons (.str _) (.cons (.str _) .nil))) (dpAll_fds fun e he => h e (List.mem_cons_of_mem _ he))
theorem lay_fds : ∀ {ps : List Fd}, (∀ e ∈ ps, PyData.strOk e.2.1 = true ∧ PyData.strOk e.2.2 = true) → PyData.canLayAll0 (ps.map Fd.dat) = true
  | [], _ => by simp [PyData.canLayAll0]
  | e :: r, h => by
    have h1 := h e List.mem_cons_self
    simp [PyData.canLayAll0, PyData.canLay0, Fd.dat, h1, lay_fds fun e he => h e (List.mem_cons_of_mem _ he)]
theorem depth_fds : ∀ (ps : List Fd), PyData.depthAll (ps.map Fd.dat) ≤ 2
  | [] => by simp [PyData.depthAll]
  | e :: r => by
    have h := depth_fds r
    simp only [List.map_cons, PyData.depthAll, PyData.depth, Fd.dat]
    omega
theorem shaped_fds {ps : List Fd} (h : ∀ e ∈ ps, PyData.strOk e.2.1 = true ∧ PyData.strOk e.2.2 = true) : SeqAt.shaped (.list (ps.map Fd.dat)) = true := by
  have h1 := depth_fds ps
  have h2 : PyData.depth (.list (ps.map Fd.dat)) ≤ 64 := by
    simp only [PyData.depth]
    omega
  unfold SeqAt.shaped
  rw [Bool.and_eq_true]
  exact ⟨by simp only [PyData.canLay0]; exact lay_fds h, decide_eq_true h2⟩
theorem RF.eqNil {K : PySem.W.Frag} {H : Hp} {a q : Addr} {ps : List Fd} {Q : VK} (R : RF H a ps) (hq : H q = some (.lst [])) (k : Q (.bl ps.isEmpty) H) : rEqD K (.ref a) (.ref q) H Q := by
  refine ⟨.list (ps.map Fd.dat), .list [], .lst (.inl (.inl R.at_)) (dpAll_fds R.tups), .lst (.inl (.inl hq)) .nil, shaped_fds R.oks, rfl, ?_⟩
  cases ps with
  | nil => exact k
  | cons n r => exact k
theorem RF.neNil {K : PySem.W.Frag} {H : Hp} {a q : Addr} {ps : List Fd} {Q : VK} (R : RF H a ps) (hq : H q = some (.lst [])) (k : Q (.bl (!ps.isEmpty)) H) : rNeD K (.ref a) (.ref q) H Q := by
  refine ⟨.list (ps.map Fd.dat), .list [], .lst (.inl (.inl R.at_)) (dpAll_fds R.tups), .lst (.inl (.inl hq)) .nil, shaped_fds R.oks, rfl, ?_⟩
  cases ps with
  | nil => exact k
  | cons n r => exact k
end G7

set_option linter.all false
set_option Elab.async false
set_option maxRecDepth 100000
set_option maxHeartbeats 4000000
namespace G7
open PySem PySem.Spec PyProof.Rows L2
/-! ### TURNED, a dict of the module -/
def Wd.turn : Wd → Wd
  | .lt => .gt
  | .gt => .lt
  | .le => .ge
  | .ge => .le
  | c => c
def Wd.isLog : Wd → Bool
  | .and => true
  | .or => true
  | .not => true
  | _ => false
structure TabAt (K : PySem.W.Frag) (w : World) (d : Addr) : Prop where
  kd : ∃ es n, KDict K w d es n
  hit : ∀ c : Wd, c.isCmp = true → ∃ t, PySem.W.nsIn K d c.s = some (some (.str c.turn.s t))
  miss : ∀ c : Wd, c.isLog = true → PySem.W.nsIn K d c.s = some none
def rInTab (d : Addr) : R2 := fun x y H Q => ∃ c : Wd, x = .str c.s ∧ y = .ref d ∧ (c.isCmp || c.isLog) = true ∧ Q (.bl c.isCmp) H
def rIxTab (d : Addr) : R2 := fun x y H Q => ∃ c : Wd, x = .ref d ∧ y = .str c.s ∧ c.isCmp = true ∧ Q (.str c.turn.s) H
section
variable {X : Cx} {d : Addr}
theorem op_inTab (D : TabAt X.K X.w d) : OpR X (compareOp .In) (rInTab d) := by
  obtain ⟨es, n, kd⟩ := D.kd
  refine opImp (op_in_kd kd) fun x y H Q ⟨c, e1, e2, e3, q⟩ => ?_
  cases hc : c.isCmp with
  | true =>
    obtain ⟨t, ht⟩ := D.hit c hc
    exact ⟨_, _, e1, e2, ht, by rw [hc] at q; exact q⟩
  | false =>
    rw [hc, Bool.false_or] at e3
    exact ⟨_, _, e1, e2, D.miss c e3, by rw [hc] at q; exact q⟩
theorem ix_tab (D : TabAt X.K X.w d) : IxR X (rIxTab d) := by
  obtain ⟨es, n, kd⟩ := D.kd
  refine ixImp ix_kdict fun x y H Q ⟨c, e1, e2, e3, q⟩ => ?_
  obtain ⟨t, ht⟩ := D.hit c e3
  exact ⟨_, _, .str c.turn.s, e1, e2, ⟨es, n, _, kd.at_, kd.lit, ht, ⟨t, rfl⟩⟩, q⟩
end
theorem tab_mk {K : PySem.W.Frag} {w : World} {d : Addr} {es : Array DictEntry} {n : Nat} (h1 : K.lookup d = some ⟨.type "dict", none, .dict es n, #[]⟩) (h2 : PySem.W.KeysLit w.params es.toList) (h3 : (d == sysModules) = false)
    {t1 t2 t3 t4 t5 : Tok} (k1 : PySem.W.nsIn K d "=" = some (some (.str "=" t1))) (k2 : PySem.W.nsIn K d "<" = some (some (.str ">" t2))) (k3 : PySem.W.nsIn K d ">" = some (some (.str "<" t3)))
    (k4 : PySem.W.nsIn K d "<=" = some (some (.str ">=" t4))) (k5 : PySem.W.nsIn K d ">=" = some (some (.str "<=" t5)))
    (m1 : PySem.W.nsIn K d "and" = some none) (m2 : PySem.W.nsIn K d "or" = some none) (m3 : PySem.W.nsIn K d "not" = some none) : TabAt K w d :=
  ⟨⟨es, n, h1, h2, h3⟩, fun c hc => by cases c <;> first | exact ⟨_, k1⟩ | exact ⟨_, k2⟩ | exact ⟨_, k3⟩ | exact ⟨_, k4⟩ | exact ⟨_, k5⟩ | (cases hc),
    fun c hc => by cases c <;> first | exact m1 | exact m2 | exact m3 | (cases hc)⟩
/-! ### trees: the first word, how great -/
def Tm.head : Tm → Wd
  | .num _ => .num
  | .fld _ _ => .field
  | .op o _ _ => o
def Tm.lim : Tm → Prop
  | .num n => -1000 ≤ n ∧ n ≤ 1000
  | .fld _ _ => True
  | .op _ a b => a.lim ∧ b.lim
def Cd.lim : Cd → Prop
  | .cmp _ a b => a.lim ∧ b.lim ∧ a.deep ≤ 8 ∧ b.deep ≤ 8
  | .neg c => c.lim
  | .con _ a b => a.lim ∧ b.lim
/-- how many comparisons -/
def Cd.leaves : Cd → Nat
  | .cmp _ _ _ => 1
  | .neg c => c.leaves
  | .con _ a b => a.leaves + b.leaves
/-- how deep and, or, not stand -/
def Cd.high : Cd → Nat
  | .cmp _ _ _ => 0
  | .neg c => c.high + 1
  | .con _ a b => max a.high b.high + 1
def Cd.head : Cd → Wd
  | .cmp c _ _ => c
  | .neg _ => .not
  | .con o _ _ => o
structure Cd.Good (c : Cd) (d m : Nat) : Prop where
  ok : c.ok = true
  lim : c.lim
  high : c.high ≤ d
  few : c.leaves ≤ m
def CoGood : Option Cd → Nat → Nat → Prop
  | none, _, _ => True
  | some c, d, m => c.Good d m
def partsC : Cd → List Cd
  | .con .and a b => partsC a ++ partsC b
  | c => [c]
def partsO : Option Cd → List Cd
  | none => []
  | some c => partsC c
def Cd.isCmpC : Cd → Bool
  | .cmp _ _ _ => true
  | _ => false
theorem partsC_len : ∀ c : Cd, (partsC c).length ≤ c.leaves
  | .cmp _ _ _ => by simp [partsC, Cd.leaves]
  | .neg c => by
    have : ∀ c : Cd, 1 ≤ c.leaves := by
      intro c
      induction c with
      | cmp => simp [Cd.leaves]
      | neg c ih => simpa [Cd.leaves] using ih
      | con o a b i1 i2 => simp [Cd.leaves]; omega
    simp [partsC, Cd.leaves, this c]
  | .con o a b => by
    have h1 := partsC_len a
    have h2 := partsC_len b
    have : ∀ c : Cd, 1 ≤ c.leaves := by
      intro c
      induction c with
      | cmp => simp [Cd.leaves]
      | neg c ih => simpa [Cd.leaves] using ih
      | con o a b i1 i2 => simp [Cd.leaves]; omega
    have l1 := this a
    cases o <;> simp [partsC, Cd.leaves] <;> omega
/-- each part is a comparison, an or, a not -/
def Cd.part : Cd → Prop
  | .cmp c a b => c.isCmp = true ∧ a.ok = true ∧ b.ok = true ∧ a.lim ∧ b.lim ∧ a.deep ≤ 8 ∧ b.deep ≤ 8
  | .neg _ => True
  | .con o _ _ => o = .or
theorem partsC_part : ∀ c : Cd, c.ok = true → c.lim → ∀ p ∈ partsC c, p.part
  | .cmp c a b, h, l => by
    intro p hp
    cases List.mem_singleton.mp hp
    simp only [Cd.ok, Bool.and_eq_true] at h
    exact ⟨h.1.1, h.1.2, h.2, l⟩
  | .neg c, h, l => by
    intro p hp
    cases List.mem_singleton.mp hp
    trivial
  | .con o a b, h, l => by
    simp only [Cd.ok, Bool.and_eq_true] at h
    intro p hp
    cases o with
    | and =>
      rcases List.mem_append.mp hp with hp | hp
      · exact partsC_part a h.1.2 l.1 p hp
      · exact partsC_part b h.2 l.2 p hp
    | or =>
      cases List.mem_singleton.mp hp
      rfl
    | _ => exact absurd h.1.1 (by simp [Wd.isCon])
theorem partsO_part : ∀ {c : Option Cd} {d m : Nat}, CoGood c d m → ∀ p ∈ partsO c, p.part
  | none, _, _, _, p, hp => absurd hp (by simp [partsO])
  | some c, _, _, g, p, hp => partsC_part c g.ok g.lim p hp
theorem partsO_len : ∀ {c : Option Cd} {d m : Nat}, CoGood c d m → (partsO c).length ≤ m
  | none, _, _, _ => Nat.zero_le _
  | some c, _, _, g => Nat.le_trans (partsC_len c) g.few
/-- a list of conditions at a -/
structure RL (H : Hp) (a : Addr) (es : List (V × Cd)) : Prop where
  at_ : H a = some (.lst (es.map (·.1)))
  each : ∀ e ∈ es, RC H e.1 e.2
/-! ### spans -/
abbrev OI := Option Int
def tru (c : Wd) (a b : Int) : Bool := match c with
  | .eq => decide (a = b)
  | .lt => decide (a < b)
  | .gt => decide (b < a)
  | .le => decide (a ≤ b)
  | .ge => decide (b ≤ a)
  | _ => false
def spanOf (c : Wd) (n : Int) : OI × OI := match c with
  | .eq => (some n, some n)
  | .lt => (none, some (n - 1))
  | .le => (none, some n)
  | .gt => (some (n + 1), none)
  | .ge => (some n, none)
  | _ => (none, none)
def maxO : OI → OI → OI
  | none, o => o
  | some a, none => some a
  | some a, some b => some (max a b)
def minO : OI → OI → OI
  | none, o => o
  | some a, none => some a
  | some a, some b => some (min a b)
def narrow (s t : OI × OI) : OI × OI := (maxO s.1 t.1, minO s.2 t.2)
def emptyS (s : OI × OI) : Bool := match s with
  | (some a, some b) => decide (b < a)
  | _ => false
abbrev Sp3 := Str × OI × OI
def lookS (es : List Sp3) (f : Str) : OI × OI := ((es.find? fun e => decide (e.1 = f)).map (·.2)).getD (none, none)
def putS (es : List Sp3) (f : Str) (s : OI × OI) : List Sp3 := if (es.any fun e => decide (e.1 = f)) = true then es.map (fun e => if e.1 = f then (e.1, s) else e) else es ++ [(f, s)]
/-- one comparison, its field on the left -/
def step2 (t : Str) (es : List Sp3) (c : Wd) (x y : Tm) : List Sp3 := match x, y with
  | .fld t' f, .num a => if t' = t then putS es f (narrow (lookS es f) (spanOf c a)) else es
  | _, _ => es
def truT (c : Wd) (x y : Tm) : Bool := match x, y with
  | .num a, .num b => tru c a b
  | _, _ => true
/-- none where numbers compare falsely -/
def stepC (t : Str) (es : List Sp3) : Cd → Option (List Sp3)
  | .cmp c x y => if truT c x y = true then some (if x.head = .num then step2 t es c.turn y x else step2 t es c x y) else none
  | _ => some es
def foldC (t : Str) : List Sp3 → List Cd → Option (List Sp3)
  | es, [] => some es
  | es, c :: r => match stepC t es c with
    | none => none
    | some es' => foldC t es' r
def boundsM (t : Str) (co : Option Cd) : Option (List Sp3) := match foldC t [] (partsO co) with
  | none => none
  | some es => if es.any fun e => emptyS e.2 then none else some es
end G7
namespace G7
open PySem PySem.Spec PyProof.Rows L2
def oi : OI → V
  | none => .non
  | some i => .int i
theorem oi_n : oi none = .non := rfl
theorem oi_s {i : Int} : oi (some i) = .int i := rfl
def knownC : Cd → Bool
  | .cmp _ a b => decide (a.head = .num) && decide (b.head = .num)
  | _ => false
theorem RT.headed {H : Hp} : ∀ {t : Tm} {v : V}, RT H v t → ∃ a r, v = .ref a ∧ H a = some (.tup (.str t.head.s :: r))
  | .num n, _, ⟨a, e, h⟩ => ⟨a, _, e, h⟩
  | .fld t f, _, ⟨a, e, h⟩ => ⟨a, _, e, h⟩
  | .op o x y, _, ⟨a, u, w, e, h, _, _⟩ => ⟨a, _, e, h⟩
theorem RC.headed {H : Hp} : ∀ {t : Cd} {v : V}, RC H v t → ∃ a r, v = .ref a ∧ H a = some (.tup (.str t.head.s :: r))
  | .cmp c x y, _, ⟨a, u, w, e, h, _, _⟩ => ⟨a, _, e, h⟩
  | .neg c, _, ⟨a, u, e, h, _⟩ => ⟨a, _, e, h⟩
  | .con o x y, _, ⟨a, u, w, e, h, _, _⟩ => ⟨a, _, e, h⟩
end G7
namespace G7
open PySem PySem.Spec PyProof.Rows L2
theorem Wd.beq_s (a b : Wd) : (a.s == b.s) = decide (a = b) := by
  have h := Wd.s_inj a b
  by_cases e : a = b
  · rw [decide_eq_true e, e]
    exact beq_self_eq_true _
  · rw [decide_eq_false e]
    exact beq_false_of_ne fun q => e (h.mp q)
theorem sz0 : (0 ≤ sizeLine) = True := eq_true (Nat.zero_le _)
theorem sz1 : (1 ≤ sizeLine) = True := eq_true (szl (by decide))
theorem sz2 : (2 ≤ sizeLine) = True := eq_true (szl (by decide))
theorem sz3 : (3 ≤ sizeLine) = True := eq_true (szl (by decide))
theorem sz4 : (4 ≤ sizeLine) = True := eq_true (szl (by decide))
theorem sz5 : (5 ≤ sizeLine) = True := eq_true (szl (by decide))
theorem sz6 : (6 ≤ sizeLine) = True := eq_true (szl (by decide))
theorem isc_num : Wd.num.isCmp = false := rfl
theorem isc_field : Wd.field.isCmp = false := rfl
theorem isc_eq : Wd.eq.isCmp = true := rfl
theorem isc_lt : Wd.lt.isCmp = true := rfl
theorem isc_gt : Wd.gt.isCmp = true := rfl
theorem isc_le : Wd.le.isCmp = true := rfl
theorem isc_ge : Wd.ge.isCmp = true := rfl
theorem isc_and : Wd.and.isCmp = false := rfl
theorem isc_or : Wd.or.isCmp = false := rfl
theorem isc_not : Wd.not.isCmp = false := rfl
theorem isl_and : Wd.and.isLog = true := rfl
theorem isl_or : Wd.or.isLog = true := rfl
theorem isl_not : Wd.not.isLog = true := rfl
end G7
namespace G7
open PySem PySem.Spec PyProof.Rows L2
def lcB (J : It) (g : TG) (tt : TT) (te : TE) (vs : List Nat) (σ : L2.St) (H1 : Hp) (Q : VK) : Prop := tLc (fun _ H R => R J H) g tt te vs σ H1 Q
def forB (J : It) (g : TG) (tb : TS) (D : Ends) (σ : L2.St) (H1 : Hp) : Prop := tFor (fun _ H R => R J H) g tb D σ H1
theorem tLc_eq {wi : TI} {g : TG} {tt : TT} {te : TE} {vs : List Nat} {σ : L2.St} {H : Hp} {Q : VK} : tLc wi g tt te vs σ H Q = wi σ H fun J H1 => lcB J g tt te vs σ H1 Q := rfl
theorem tFor_eq {wi : TI} {g : TG} {tb : TS} {D : Ends} {σ : L2.St} {H : Hp} : tFor wi g tb D σ H = wi σ H fun J H1 => forB J g tb D σ H1 := rfl
theorem lcB_it {J : It} {g : TG} {tt : TT} {te : TE} {vs : List Nat} {σ : L2.St} {H1 : Hp} {Q : VK}
    (h : ∀ D, H1 D = none → ∃ W : Nat → Nat → Hp → Prop, (∃ m, W 0 m (upd H1 D (.lst []))) ∧ ∀ i m H, W i m H →
  (J.stop i H ∧ Q (.ref D) H) ∨ (J.go i H ∧ ∃ Nx : Hp → Prop, (∀ H', Nx H' → ∃ m', m' < m ∧ W (i + 1) m' H') ∧ ∀ x H', J.yld i H x H' → g x (wipe σ vs) H' fun σ2 H2 => wipe σ2 vs = wipe σ vs ∧ tt σ2 H2 fun b H3 =>
    if b = true then te σ2 H3 fun y H4 => ∃ acc, H4 D = some (.lst acc) ∧ acc.length < sizeLine ∧ Nx (upd H4 D (.lst (acc ++ [y]))) else Nx H3)) : lcB J g tt te vs σ H1 Q := h
theorem forB_it {J : It} {g : TG} {tb : TS} {D : Ends} {σ : L2.St} {H : Hp} (h : ∃ W : Nat → Nat → L2.St → Hp → Prop, (∃ m, W 0 m σ H) ∧ ∀ i m σ H, W i m σ H →
  (J.stop i H ∧ D.nx σ H) ∨ (J.go i H ∧ ∃ N : L2.St → Hp → Prop, (∀ σ' H', N σ' H' → ∃ m', m' < m ∧ W (i + 1) m' σ' H') ∧ ∀ x H', J.yld i H x H' → g x σ H' fun σ2 H2 => tb { D with nx := N, ct := N, bk := D.nx } σ2 H2)) : forB J g tb D σ H := h
/-- what stands in both lists of ends -/
def somes : List OI → List Int
  | [] => []
  | none :: r => somes r
  | some a :: r => a :: somes r
theorem somes_append : ∀ a b : List OI, somes (a ++ b) = somes a ++ somes b
  | [], b => rfl
  | none :: r, b => somes_append r b
  | some a :: r, b => by
    show a :: somes (r ++ b) = a :: (somes r ++ somes b)
    rw [somes_append r b]
end G7

set_option linter.all false
set_option Elab.async false
set_option maxRecDepth 100000
set_option maxHeartbeats 4000000
namespace G7
open PySem PySem.Spec PyProof.Rows L2
/-! ### dicts of spans -/
abbrev En := Str × Addr × OI × OI
def ent (e : En) : Key × V := (.inr e.1, .ref e.2.1)
def dr (e : En) : Sp3 := (e.1, e.2.2)
abbrev RowG := OI × OI → List V
def gO : RowG := fun s => [oi s.1, oi s.2]
def loI : OI → Int
  | none => -1000000000
  | some a => a
def hiI : OI → Int
  | none => 1000000000
  | some a => a
def gI : RowG := fun s => [.int (loI s.1), .int (hiI s.2)]
structure DBg (g : RowG) (H : Hp) (d : Addr) (es : List En) : Prop where
  at_ : H d = some (.dK (es.map ent))
  tups : ∀ e ∈ es, H e.2.1 = some (.tup (g e.2.2))
  oks : ∀ e ∈ es, PyData.strOk e.1 = true
  nd : (es.map (·.1)).Nodup
theorem DBg.same {g : RowG} {H H' : Hp} {d : Addr} {es : List En} (b : DBg g H d es) (k : Same H H') : DBg g H' d es := ⟨k _ _ b.at_, fun e he => k _ _ (b.tups e he), b.oks, b.nd⟩
theorem look_ent : ∀ (es : List En) (f : Str), (valV (es.map ent) (Sum.inr f : Key) = none ∧ lookS (es.map dr) f = (none, none)) ∨ ∃ e ∈ es, valV (es.map ent) (Sum.inr f : Key) = some (.ref e.2.1) ∧ lookS (es.map dr) f = e.2.2 ∧ e.1 = f
  | [], f => .inl ⟨rfl, rfl⟩
  | e :: r, f => by
    by_cases h : e.1 = f
    · refine .inr ⟨e, List.mem_cons_self, valV_pos (congrArg Sum.inr h), ?_, h⟩
      unfold lookS
      rw [List.map_cons, List.find?_cons, show decide ((dr e).1 = f) = true from decide_eq_true h]
      rfl
    · have e1 : valV ((e :: r).map ent) (Sum.inr f : Key) = valV (r.map ent) (Sum.inr f : Key) := valV_neg fun q => h (Sum.inr.inj q)
      have e2 : lookS ((e :: r).map dr) f = lookS (r.map dr) f := by
        unfold lookS
        rw [List.map_cons, List.find?_cons, show decide ((dr e).1 = f) = false from decide_eq_false h]
      rw [e1, e2]
      rcases look_ent r f with q | ⟨e', h1, h2⟩
      · exact .inl q
      · exact .inr ⟨e', List.mem_cons_of_mem _ h1, h2⟩
def putE (es : List En) (f : Str) (p : Addr) (s : OI × OI) : List En := if (es.any fun e => decide (e.1 = f)) = true then es.map (fun e => if e.1 = f then (e.1, p, s) else e) else es ++ [(f, p, s)]
theorem any_ent (es : List En) (f : Str) : ((es.map ent).any fun kv => decide (kv.1 = (Sum.inr f : Key))) = es.any fun e => decide (e.1 = f) := by
  rw [List.any_map]
  congr 1
  funext e
  show decide ((Sum.inr e.1 : Key) = Sum.inr f) = decide (e.1 = f)
  exact decide_eq_decide.mpr ⟨Sum.inr.inj, congrArg _⟩
theorem any_dr (es : List En) (f : Str) : ((es.map dr).any fun e => decide (e.1 = f)) = es.any fun e => decide (e.1 = f) := by
  rw [List.any_map]
  rfl
theorem putE_ent (es : List En) (f : Str) (p : Addr) (s : OI × OI) : putK (es.map ent) (Sum.inr f : Key) (.ref p) = (putE es f p s).map ent := by
  unfold putK putE
  rw [any_ent]
  by_cases h : (es.any fun e => decide (e.1 = f)) = true
  · rw [if_pos h, if_pos h, List.map_map, List.map_map]
    congr 1
    funext e
    show (if (Sum.inr e.1 : Key) = Sum.inr f then ((Sum.inr e.1 : Key), V.ref p) else ent e) = ent (if e.1 = f then (e.1, p, s) else e)
    by_cases q : e.1 = f
    · rw [if_pos q, if_pos (congrArg _ q)]
      rfl
    · rw [if_neg q, if_neg fun z => q (Sum.inr.inj z)]
  · rw [if_neg h, if_neg h, List.map_append]
    rfl
theorem putE_dr (es : List En) (f : Str) (p : Addr) (s : OI × OI) : (putE es f p s).map dr = putS (es.map dr) f s := by
  unfold putS putE
  rw [any_dr]
  by_cases h : (es.any fun e => decide (e.1 = f)) = true
  · rw [if_pos h, if_pos h, List.map_map, List.map_map]
    congr 1
    funext e
    show dr (if e.1 = f then (e.1, p, s) else e) = (if e.1 = f then (e.1, s) else dr e)
    by_cases q : e.1 = f
    · rw [if_pos q, if_pos q]
      rfl
    · rw [if_neg q, if_neg q]
  · rw [if_neg h, if_neg h, List.map_append]
    rfl
theorem putE_len (es : List En) (f : Str) (p : Addr) (s : OI × OI) : (putE es f p s).length ≤ es.length + 1 := by
  unfold putE
  split
  · rw [List.length_map]; omega
  · rw [List.length_append]; exact Nat.le_refl _
theorem putE_mem {es : List En} {f : Str} {p : Addr} {s : OI × OI} {e : En} (h : e ∈ putE es f p s) : e ∈ es ∨ (e.1 = f ∧ e.2.1 = p ∧ e.2.2 = s) := by
  unfold putE at h
  split at h
  · obtain ⟨e', h1, rfl⟩ := List.mem_map.mp h
    by_cases q : e'.1 = f
    · rw [if_pos q]
      exact .inr ⟨q, rfl, rfl⟩
    · rw [if_neg q]
      exact .inl h1
  · rcases List.mem_append.mp h with h | h
    · exact .inl h
    · cases List.mem_singleton.mp h
      exact .inr ⟨rfl, rfl, rfl⟩
theorem putE_nd {es : List En} {f : Str} {p : Addr} {s : OI × OI} (h : (es.map (·.1)).Nodup) : ((putE es f p s).map (·.1)).Nodup := by
  unfold putE
  split
  · have e : (es.map fun e => if e.1 = f then (e.1, p, s) else e).map (·.1) = es.map (·.1) := by
      rw [List.map_map]
      congr 1
      funext e
      show (if e.1 = f then ((e.1, p, s) : En) else e).1 = e.1
      split <;> rfl
    rw [e]
    exact h
  · rename_i q
    rw [List.map_append, List.nodup_append]
    refine ⟨h, by simp, fun a ha b hb => ?_⟩
    cases List.mem_singleton.mp hb
    rintro rfl
    obtain ⟨e, he, h2⟩ := List.mem_map.mp ha
    exact q (List.any_eq_true.mpr ⟨e, he, decide_eq_true h2⟩)
theorem DBg.put {g : RowG} {H H' : Hp} {d p : Addr} {es : List En} {f : Str} {s : OI × OI} (D : DBg g H d es) (k : Same H H') (hp : H' p = some (.tup (g s))) (hf : PyData.strOk f = true) :
    DBg g (upd H' d (.dK (putK (es.map ent) (Sum.inr f : Key) (.ref p)))) d (putE es f p s) := by
  have D' := D.same k
  have npd : p ≠ d := ne_of hp D'.at_ (by intro z; cases z)
  refine ⟨by rw [upd_same, putE_ent es f p s], fun e he => ?_, fun e he => ?_, putE_nd D.nd⟩
  · rcases putE_mem he with h | ⟨h1, h2, h3⟩
    · have t := D'.tups e h
      rw [upd_ne (ne_of t D'.at_ (by intro z; cases z))]
      exact t
    · rw [h2, upd_ne npd, h3]
      exact hp
  · rcases putE_mem he with h | ⟨h1, h2, h3⟩
    · exact D.oks e h
    · rw [h1]; exact hf
/-! ### numbers within the law's stand-ins -/
def okS (s : OI × OI) : Prop := (∀ a, s.1 = some a → -1001 ≤ a ∧ a ≤ 1001) ∧ ∀ a, s.2 = some a → -1001 ≤ a ∧ a ≤ 1001
theorem okS_span {c : Wd} {n : Int} (h : -1000 ≤ n ∧ n ≤ 1000) : okS (spanOf c n) := by
  cases c <;> (refine ⟨fun a e => ?_, fun a e => ?_⟩ <;> simp only [spanOf, Option.some.injEq, reduceCtorEq] at e <;> omega)
theorem okS_narrow {s t : OI × OI} (h1 : okS s) (h2 : okS t) : okS (narrow s t) := by
  obtain ⟨s1, s2⟩ := s
  obtain ⟨t1, t2⟩ := t
  refine ⟨fun a e => ?_, fun a e => ?_⟩
  · cases s1 with
    | none => exact h2.1 a e
    | some x =>
      cases t1 with
      | none => exact h1.1 a e
      | some y =>
        have hx := h1.1 x rfl
        have hy := h2.1 y rfl
        have e := Option.some.inj e
        omega
  · cases s2 with
    | none => exact h2.2 a e
    | some x =>
      cases t2 with
      | none => exact h1.2 a e
      | some y =>
        have hx := h1.2 x rfl
        have hy := h2.2 y rfl
        have e := Option.some.inj e
        omega
def pick5 (c : Wd) (a1 a2 a3 a4 a5 : V) : V := match c with
  | .eq => a1
  | .lt => a2
  | .gt => a3
  | .le => a4
  | .ge => a5
  | _ => .non
theorem val5 (c : Wd) (h : c.isCmp = true) (a1 a2 a3 a4 a5 : V) : valV (mergeK [] [((Sum.inr Wd.eq.s : Key), a1), (Sum.inr Wd.lt.s, a2), (Sum.inr Wd.gt.s, a3), (Sum.inr Wd.le.s, a4), (Sum.inr Wd.ge.s, a5)]) (Sum.inr c.s : Key) = some (pick5 c a1 a2 a3 a4 a5) := by
  cases c <;> first | (cases h; done) | (with_unfolding_all rfl)
/-! ### the first two of a term -/
def isF (t : Str) : Tm → Bool
  | .fld t' _ => decide (t' = t)
  | _ => false
theorem sh2 {a b : PyData} (h1 : a.canLay0 = true) (h2 : b.canLay0 = true) (d1 : a.depth ≤ 8) (d2 : b.depth ≤ 8) : SeqAt.shaped (.tuple [a, b]) = true := by
  unfold SeqAt.shaped
  rw [Bool.and_eq_true]
  refine ⟨by simp [PyData.canLay0, PyData.canLayAll0, h1, h2], decide_eq_true ?_⟩
  simp only [PyData.depth, PyData.depthAll]
  omega
theorem shS {s : Str} (h : PyData.strOk s = true) : (PyData.str s).canLay0 = true := by simp [PyData.canLay0, h]
theorem dS (s : Str) : (PyData.str s).depth ≤ 8 := by simp [PyData.depth]
def rSlX : V → Option Int → Option Int → Hp → VK → Prop := rSlF
theorem sl_tupX {X : Cx} : SlR X rSlX := sl_tupF
theorem sl_eqF {K : PySem.W.Frag} {H : Hp} {v : V} {x : Tm} {t : Str} {Q : VK} (R : RT H v x) (ok : x.ok = true) (dp : x.deep ≤ 8) (ht : PyData.strOk t = true) (k : ∀ H', Same H H' → Q (.bl (isF t x)) H') :
    rSlX v none (some 2) H fun y H1 => ∀ q, H1 q = none → rEqD K y (.ref q) (upd H1 q (.tup [.str Wd.field.s, .str t])) Q := by
  have two : HT.sIx 2 2 (some 2) = 2 := HT.sIx_nat 2 2 2
  have thr : HT.sIx 3 3 (some 2) = 2 := HT.sIx_nat 3 3 2
  have shq : SeqAt.shaped (.tuple [.str Wd.field.s, .str t]) = true := sh2 (shS (Wd.strOk _)) (shS ht) (dS _) (dS _)
  have nofield : ∀ (c : Wd) (X : PyData), c ≠ .field → PyData.eqv (.tuple [.str c.s, X]) (.tuple [.str Wd.field.s, .str t]) = false := fun c X hc => by
    simp only [PyData.eqv, PyData.eqvAll, Wd.beq_s, decide_eq_false hc, Bool.false_and]
  cases x with
  | num n =>
    obtain ⟨a, rfl, h⟩ := R
    refine ⟨a, [.str Wd.num.s, .int n], rfl, by rw [h]; rfl, fun _ q hq => ?_, fun nw => absurd (show HT.sIx 2 0 none = 0 ∧ HT.sIx 2 2 (some 2) = 2 from ⟨HT.sIx_none _ _, two⟩) nw⟩
    refine ⟨.tuple [.str Wd.num.s, .int n], .tuple [.str Wd.field.s, .str t], .tup (.inl (.inl (same_new hq _ _ h))) (.cons (.str _) (.cons (.int _) .nil)), .tup (.inl (.inl upd_same)) (.cons (.str _) (.cons (.str _) .nil)),
      sh2 (shS (Wd.strOk _)) (by simp [PyData.canLay0]) (dS _) (by simp [PyData.depth]), shq, ?_⟩
    rw [nofield _ _ (by decide)]
    exact k _ (same_new hq)
  | fld t' f =>
    simp only [Tm.ok, Bool.and_eq_true] at ok
    obtain ⟨a, rfl, h⟩ := R
    refine ⟨a, _, rfl, by rw [h]; rfl, fun hw => absurd hw.2 (by show ¬ HT.sIx 3 3 (some 2) = 3; rw [thr]; decide), fun _ p o hp _ _ q hq => ?_⟩
    have ec : cutV [V.str Wd.field.s, V.str t', V.str f] none (some 2) = [V.str Wd.field.s, V.str t'] := by
      unfold cutV
      rw [HT.sIx_none]
      show List.take (HT.sIx 3 3 (some 2) - 0) [V.str Wd.field.s, V.str t', V.str f] = _
      rw [thr]
      rfl
    refine ⟨.tuple [.str Wd.field.s, .str t'], .tuple [.str Wd.field.s, .str t], .tup (.inl (.inr ⟨o, same_new hq _ _ (by rw [upd_same, ec])⟩)) (.cons (.str _) (.cons (.str _) .nil)), .tup (.inl (.inl upd_same)) (.cons (.str _) (.cons (.str _) .nil)),
      sh2 (shS (Wd.strOk _)) (shS ok.1) (dS _) (dS _), shq, ?_⟩
    have e : PyData.eqv (.tuple [.str Wd.field.s, .str t']) (.tuple [.str Wd.field.s, .str t]) = decide (t' = t) := by
      simp only [PyData.eqv, PyData.eqvAll, Bool.and_true, beq_self_eq_true, Bool.true_and]
      by_cases z : t' = t
      · rw [z, decide_eq_true rfl]; exact beq_self_eq_true _
      · rw [decide_eq_false z]; exact beq_false_of_ne z
    rw [e]
    exact k _ ((same_new hp).trans (same_new hq))
  | op c x y =>
    have okk := ok
    simp only [Tm.ok, Bool.and_eq_true] at ok
    obtain ⟨a, u, w, rfl, h, hx, hy⟩ := R
    refine ⟨a, _, rfl, by rw [h]; rfl, fun hw => absurd hw.2 (by show ¬ HT.sIx 3 3 (some 2) = 3; rw [thr]; decide), fun _ p o hp _ _ q hq => ?_⟩
    have ec : cutV [V.str c.s, u, w] none (some 2) = [V.str c.s, u] := by
      unfold cutV
      rw [HT.sIx_none]
      show List.take (HT.sIx 3 3 (some 2) - 0) [V.str c.s, u, w] = _
      rw [thr]
      rfl
    have dx := Tm.depth x
    have dd : x.deep ≤ 8 := by simp only [Tm.deep] at dp; omega
    refine ⟨.tuple [.str c.s, x.enc], .tuple [.str Wd.field.s, .str t], .tup (.inl (.inr ⟨o, same_new hq _ _ (by rw [upd_same, ec])⟩)) (.cons (.str _) (.cons ((hx.tups (TupS.ofSame ((same_new hp).trans (same_new hq)))).dp) .nil)), .tup (.inl (.inl upd_same)) (.cons (.str _) (.cons (.str _) .nil)),
      sh2 (shS (Wd.strOk _)) (Tm.lay x ok.1.2) (dS _) (by omega), shq, ?_⟩
    rw [nofield _ _ (by rintro rfl; exact absurd ok.1.1 (by decide))]
    exact k _ ((same_new hp).trans (same_new hq))
theorem foldC_append (t : Str) : ∀ (es : List Sp3) (a b : List Cd), foldC t es (a ++ b) = match foldC t es a with
    | none => none
    | some e => foldC t e b
  | es, [], b => rfl
  | es, c :: r, b => by
    show (match stepC t es c with | none => none | some es' => foldC t es' (r ++ b)) = match (match stepC t es c with | none => none | some es' => foldC t es' r) with | none => none | some e => foldC t e b
    cases stepC t es c with
    | none => rfl
    | some e => exact foldC_append t e r b
theorem foldC_one {t : Str} {es : List Sp3} {c : Cd} : foldC t es [c] = stepC t es c := by
  show (match stepC t es c with | none => none | some es' => foldC t es' []) = stepC t es c
  cases stepC t es c <;> rfl
theorem foldC_take {t : Str} {l : List Cd} {i : Nat} {c : Cd} {es : List Sp3} (h : l[i]? = some c) (f : foldC t [] (l.take i) = some es) : foldC t [] (l.take (i + 1)) = stepC t es c := by
  rw [List.take_add_one, h, foldC_append, f]
  exact foldC_one
theorem foldC_none {t : Str} {l : List Cd} {i : Nat} (f : foldC t [] (l.take i) = none) : foldC t [] l = none := by
  have e := foldC_append t [] (l.take i) (l.drop i)
  rw [List.take_append_drop, f] at e
  exact e
theorem boundsM_none {t : Str} {co : Option Cd} {i : Nat} (f : foldC t [] ((partsO co).take i) = none) : boundsM t co = none := by
  unfold boundsM
  rw [foldC_none f]
theorem boundsM_some {t : Str} {co : Option Cd} {es : List En} (f : foldC t [] (partsO co) = some (es.map dr)) : boundsM t co = if (es.any fun e => emptyS e.2.2) = true then none else some (es.map dr) := by
  unfold boundsM
  rw [f]
  show (if ((es.map dr).any fun e => emptyS e.2) = true then none else some (es.map dr)) = _
  rw [List.any_map]
  rfl
theorem head_num {x : Tm} (ok : x.ok = true) (h : x.head = .num) : ∃ n, x = .num n := by
  cases x with
  | num n => exact ⟨n, rfl⟩
  | fld a b => cases h
  | op o a b =>
    simp only [Tm.ok, Bool.and_eq_true] at ok
    obtain rfl : o = .num := h
    cases ok.1.1
theorem isF_fld {t : Str} {x : Tm} (h : isF t x = true) : ∃ f, x = .fld t f := by
  cases x with
  | fld a b => exact ⟨b, by rw [of_decide_eq_true h]⟩
  | _ => cases h
theorem step2_no1 {t : Str} {es : List Sp3} {c : Wd} {x y : Tm} (h : isF t x = false) : step2 t es c x y = es := by
  cases x with
  | fld a b =>
    cases y with
    | num n => exact if_neg (of_decide_eq_false h)
    | _ => rfl
  | _ => rfl
theorem step2_no2 {t : Str} {es : List Sp3} {c : Wd} {x y : Tm} (h : ¬ y.head = .num) : step2 t es c x y = es := by
  cases y with
  | num n => exact absurd rfl h
  | _ => cases x <;> rfl
theorem step2_yes {t f : Str} {es : List Sp3} {c : Wd} {n : Int} : step2 t es c (.fld t f) (.num n) = putS es f (narrow (lookS es f) (spanOf c n)) := if_pos rfl
theorem nd_ent {es : List En} (h : (es.map (·.1)).Nodup) : ((es.map ent).map (·.1)).Nodup := by
  have e : (es.map ent).map (·.1) = (es.map (·.1)).map (Sum.inr : Str → Key) := by
    rw [List.map_map, List.map_map]
    rfl
  rw [e]
  generalize es.map (·.1) = l at h
  induction l with
  | nil => exact List.nodup_nil
  | cons a r ih =>
    rw [List.nodup_cons] at h
    rw [List.map_cons, List.nodup_cons]
    refine ⟨fun m => ?_, ih h.2⟩
    obtain ⟨b, hb, q⟩ := List.mem_map.mp m
    exact h.1 (Sum.inr.inj q ▸ hb)
theorem val_ent {es : List En} (h : (es.map (·.1)).Nodup) {e : En} (he : e ∈ es) : valV (es.map ent) (Sum.inr e.1 : Key) = some (.ref e.2.1) :=
  val_nodup (nd_ent h) (ent e) (List.mem_map.mpr ⟨e, he, rfl⟩)
theorem strs_neNil {K : PySem.W.Frag} {H : Hp} {a q : Addr} {ss : List Str} {Q : VK} (h : H a = some (.lst (ss.map V.str))) (ho : ∀ s ∈ ss, PyData.strOk s = true) (hq : H q = some (.lst [])) (k : Q (.bl (!ss.isEmpty)) H) : rNeD K (.ref a) (.ref q) H Q := by
  refine ⟨.list (ss.map PyData.str), .list [], .lst (.inl (.inl h)) (dpAll_strs K H ss), .lst (.inl (.inl hq)) .nil, shaped_strs ss ho, rfl, ?_⟩
  cases ss with
  | nil => exact k
  | cons n r => exact k
theorem filter_map_empty {es : List En} {p : En → Bool} {α : Type} {f : En → α} : ((es.filter p).map f).isEmpty = !es.any p := by
  induction es with
  | nil => rfl
  | cons a r ih =>
    rw [List.filter_cons, List.any_cons]
    cases h : p a with
    | true => rfl
    | false => rw [if_neg (by simp), Bool.false_or]; exact ih
theorem cpow9 : CPow 10 9 = True := eq_true ⟨by decide, by decide, by decide⟩
theorem foldC_filter (t : Str) : ∀ (l : List Cd) (es : List Sp3), foldC t es (l.filter Cd.isCmpC) = foldC t es l
  | [], _ => rfl
  | .cmp c x y :: r, es => by
    show foldC t es (.cmp c x y :: r.filter Cd.isCmpC) = _
    show (match stepC t es (.cmp c x y) with | none => none | some es' => foldC t es' (r.filter Cd.isCmpC)) = (match stepC t es (.cmp c x y) with | none => none | some es' => foldC t es' r)
    cases stepC t es (.cmp c x y) with
    | none => rfl
    | some e => exact foldC_filter t r e
  | .neg c :: r, es => foldC_filter t r es
  | .con o a b :: r, es => foldC_filter t r es
theorem putS_new {es : List Sp3} {f : Str} {s : OI × OI} (h : f ∉ es.map (·.1)) : putS es f s = es ++ [(f, s)] := by
  unfold putS
  rw [if_neg]
  intro q
  obtain ⟨e, he, h2⟩ := List.any_eq_true.mp q
  exact h (List.mem_map.mpr ⟨e, he, of_decide_eq_true h2⟩)
def turnL : List (Key × V) := mergeK [] [((Sum.inr Wd.eq.s : Key), V.str Wd.eq.s), (Sum.inr Wd.lt.s, .str Wd.gt.s), (Sum.inr Wd.gt.s, .str Wd.lt.s), (Sum.inr Wd.le.s, .str Wd.ge.s), (Sum.inr Wd.ge.s, .str Wd.le.s)]
theorem valV_turn {c : Wd} (h : c.isCmp = true) : valV turnL (Sum.inr c.s : Key) = some (.str c.turn.s) := by
  unfold turnL
  rw [val5 c h]
  cases c <;> first | (cases h; done) | rfl
theorem lowMax {lo : OI} {m : Int} (h : ∀ a, lo = some a → -1001 ≤ a ∧ a ≤ 1001) (h1 : -1001 ≤ m) : (if m > loI lo then m else loI lo) = loI (maxO lo (some m)) := by
  cases lo with
  | none => exact if_pos (by show (-1000000000 : Int) < m; omega)
  | some a =>
    show (if m > a then m else a) = max a m
    by_cases q : m > a
    · rw [if_pos q]; omega
    · rw [if_neg q]; omega
theorem lowNo {lo : OI} : loI lo = loI (maxO lo none) := by cases lo <;> rfl
theorem hiMin {lo : OI} {m : Int} (h : ∀ a, lo = some a → -1001 ≤ a ∧ a ≤ 1001) (h1 : m ≤ 1001) : (if m < hiI lo then m else hiI lo) = hiI (minO lo (some m)) := by
  cases lo with
  | none => exact if_pos (by show m < (1000000000 : Int); omega)
  | some a =>
    show (if m < a then m else a) = min a m
    by_cases q : m < a
    · rw [if_pos q]; omega
    · rw [if_neg q]; omega
theorem hiNo {lo : OI} : hiI lo = hiI (minO lo none) := by cases lo <;> rfl
theorem emI {s : OI × OI} (h : okS s) : decide (hiI s.2 < loI s.1) = emptyS s := by
  obtain ⟨s1, s2⟩ := s
  cases s1 with
  | none =>
    cases s2 with
    | none => exact decide_eq_false (by show ¬ (1000000000 : Int) < -1000000000; decide)
    | some b =>
      have q := h.2 b rfl
      exact decide_eq_false (by show ¬ b < -1000000000; omega)
  | some a =>
    cases s2 with
    | none =>
      have q := h.1 a rfl
      exact decide_eq_false (by show ¬ (1000000000 : Int) < a; omega)
    | some b => rfl
end G7

set_option linter.all false
set_option Elab.async false
set_option maxRecDepth 100000
set_option maxHeartbeats 4000000
namespace G7
open PySem PySem.Spec PyProof.Rows L2
/-! ### enumerate of a tuple -/
set_option maxHeartbeats 8000000 in
theorem meets_enum_newT (l : Addr) (items : Array Value) (n : Nat) (dct : Option Addr) (sl : Array (Option Value)) :
    Meets (Builtin.«enumerate.__new__» ⟨[.type "enumerate", .ref l], []⟩) (fun _ R s => s.heap.get? l = some { cls := .type "tuple", dict := dct, data := .seq items n, slots := sl } ∧
      R (.ok (.ret (.ref (s.heap.push { cls := .type "tuple_iterator", data := .fields #[.ref l, .int 0 0] }).objs.size)))
        { s with heap := (s.heap.push { cls := .type "tuple_iterator", data := .fields #[.ref l, .int 0 0] }).push { cls := .type "enumerate", data := .fields #[.none, .bool false, .ref s.heap.objs.size, rawInt 0, .none, .none] } }) :=
  .of_wp fun prog w A R s h => by
    obtain ⟨hp, g, d, tk, os⟩ := s; obtain ⟨hl, h⟩ := h
    have hsub := sub_enumerate
    have hL : Heap.IsTuple (Shared.heap ⟨hp, g, d, tk, os⟩) l items := ⟨_, hl, rfl, n, rfl⟩
    wp_walk using AutoSeq1.wpAny_loadPart' hl
    refine wpAny_stack_any fun st => wpAny_pure ?_
    split
    · rename_i c _ _ _ _ _
      cases (c == Value.type "enumerate")
      · wp_walk using AutoSeq1.wpAny_loadPart' hl, wpAny_pyIter_tuple hL
        exact ⟨_, rfl, h⟩
      · wp_walk using AutoSeq1.wpAny_loadPart' hl, wpAny_pyIter_tuple hL
        exact ⟨_, rfl, h⟩
    · wp_walk using AutoSeq1.wpAny_loadPart' hl, wpAny_pyIter_tuple hL
      exact ⟨_, rfl, h⟩
section
variable {prog : Program} {w : World} {A : Around} {E : Value → Shared → Prop} {s : Shared}
theorem call_enum_tuple {l : Addr} {items : Array Value} {Q : Value → Shared → Prop} (hL : s.heap.IsTuple l items)
    (h : ∀ h', IsEnum h' (s.heap.objs.size + 1) s.heap.objs.size 0 .none → h'.IsTupleIter s.heap.objs.size l 0 → h'.objs.size = s.heap.objs.size + 2 →
      (∀ b o, s.heap.get? b = some o → h'.get? b = some o) → Q (.ref (s.heap.objs.size + 1)) { s with heap := h' }) :
    wpAny (model prog w) A (call (.type "enumerate") [.ref l]) Q E s := by
  obtain ⟨⟨c, dct, dt, sl⟩, hl, hc, n, hd⟩ := hL
  replace hc : c = .type "tuple" := hc
  replace hd : dt = .seq items n := hd
  subst hc hd
  refine callType_new F.called_enumerate (by decide) (F.typeCall_enumerate_1 _) (F.newCall_enumerate_1 _) (fun obj => F.args_object_init_2 obj _) F.entry_enumerate_new
    (meets_enum_newT l items n dct sl) ⟨hl, ?_⟩
  have hz : (s.heap.push { cls := .type "tuple_iterator", data := .fields #[.ref l, .int 0 0] }).objs.size = s.heap.objs.size + 1 := Heap.size_push ..
  show _ ∧ _
  rw [hz]
  have he : IsEnum ((s.heap.push { cls := .type "tuple_iterator", data := .fields #[.ref l, .int 0 0] }).push
      { cls := .type "enumerate", data := .fields #[.none, .bool false, .ref s.heap.objs.size, rawInt 0, .none, .none] }) (s.heap.objs.size + 1) s.heap.objs.size 0 .none := by
    have := Heap.get?_push_size (s.heap.push { cls := .type "tuple_iterator", data := .fields #[.ref l, .int 0 0] })
      (o := { cls := .type "enumerate", data := .fields #[.none, .bool false, .ref s.heap.objs.size, rawInt 0, .none, .none] }) rfl
    rw [hz] at this; exact this
  refine ⟨⟨_, he, rfl⟩, h _ he ⟨_, Heap.get?_push_of_some _ (Heap.get?_push_size _ rfl), rfl, rfl⟩ (by rw [Heap.size_push, hz]) fun b o x => Heap.get?_push_of_some _ (Heap.get?_push_of_some _ x)⟩
end
/-- the tuple at a, each item in a new pair -/
def IteT (K : PySem.W.Frag) (a : Addr) : It :=
  ⟨fun i H => ∃ (xs : List V) (x : V), SqT K H a xs ∧ xs[i]? = some x, fun i H v H' => ∃ T x, v = .ref T ∧ H T = none ∧ H' = upd H T (.tup [.int (i : Nat), x]) ∧ ∀ xs, SqT K H a xs → xs[i]? = some x, fun i H => ∃ xs : List V, SqT K H a xs ∧ xs.length = i⟩
theorem turn_enumT {P : Program} {w : World} {K : PySem.W.Frag} {elts : List Expr} {kk : Nat} {tpos : Pos} (a e it : Addr) :
    Turn P w K (.Tuple elts kk tpos) (IteT K a) [e, it] e (fun i h => (∃ old, IsEnum h e it ((i : Nat) : Int) old) ∧ h.IsTupleIter it a i ∧ e ≠ it ∧ a ≠ it ∧ e ≠ a) where
  mem := by simp
  obj := fun i h st b hb => by
    obtain ⟨⟨old, he⟩, ⟨o, ho, hc, hd⟩, _⟩ := st
    have e' : b = e ∨ b = it := by simpa using hb
    rcases e' with z | z
    · rw [z]; exact ⟨_, he, fun v q => nomatch q⟩
    · rw [z]; exact ⟨o, ho, fun v q => by rw [hd] at q; cases q⟩
  keep := fun i h h' st k => let ⟨⟨old, he⟩, hi, hne⟩ := st; ⟨⟨old, k e (by simp) _ he⟩, hi.at fun o q => k it (by simp) o q, hne⟩
  item := by
    intro X hP hw hK hc i pins s σ H E I hf st hg
    subst hP hw hK
    obtain ⟨⟨old, he⟩, hit, hne, hat, hea⟩ := st
    obtain ⟨xs, x, hq, hx⟩ := hg
    obtain ⟨its, rv, p, hz⟩ := I.tuple hq
    obtain ⟨u, hu, ru⟩ := rv.get hx
    have hel : e < s.heap.objs.size := Heap.lt_size he
    have hil : it < s.heap.objs.size := by obtain ⟨_, q, _⟩ := hit; exact Heap.lt_size q
    have hlt : i < its.toArray.size := by
      obtain ⟨z, _⟩ := List.getElem?_eq_some_iff.mp hu
      simpa using z
    refine wpAny_pyNext_enum_itemD (Draws.tuple (A := X.A.in1) (show X.A.in1.handled = none from I.ok.hd hc) it a hat its.toArray) he ⟨hit, show s.heap.IsTuple a its.toArray from p⟩ hlt hne (by simp; exact ⟨hne, hea⟩) fun v h' tk hv ho hst hT hsz hk => ?_
    have ev : v = u := by
      have e1 : its[i]? = some v := by simpa using hv
      rw [hu] at e1
      exact (Option.some.inj e1).symm
    subst ev
    refine ⟨_, rfl, wpAny_letOwnedTupleGo_enum (s := { s with heap := h', toks := tk + 1 }) ho fun h'' he' sb => ?_⟩
    have hT2 : h''.get? s.heap.objs.size = some { cls := .type "tuple", data := .seq #[.int i tk, v] } := (sb.2 _ (Nat.ne_of_gt hel)).trans hT
    have new : ObjOk X.prog X.w (upd H s.heap.objs.size (.tup [.int (i : Nat), x])) h'' s.heap.objs.size (.tup [.int (i : Nat), x]) :=
      ⟨by show 2 ≤ sizeLine; decide, [.int i tk, v], .cons ⟨_, rfl⟩ (.cons ru .nil), ⟨_, hT2, rfl, _, rfl⟩⟩
    have I1 : Inv X pins σ (upd H s.heap.objs.size (.tup [.int (i : Nat), x])) { s with heap := h'', toks := tk + 1 } :=
      I.turnedNew (ch := [e, it]) (fun b ob hb q => (sb.2 b (fun z => hb (by simp [z]))).trans (hk b ob (fun z => hb (by simp [z])) (fun z => hb (by simp [z])) q)) hf (Nat.le_refl _) new
    refine ⟨.ref s.heap.objs.size, _, I1, rfl, ⟨_, x, rfl, I.hok.fresh (Nat.le_refl _), rfl, fun ys hy => by rw [I.tuple_inj hy hq]; exact hx⟩, ⟨⟨v, ?_⟩, hst.1.at fun o q => (sb.2 it (Ne.symm hne)).trans q, hne, hat, hea⟩, fun b hb => ?_⟩
    · have e1 : ((i + 1 : Nat) : Int) = (i : Int) + 1 := by omega
      rw [e1]; exact he'
    · have hb' : b < s.heap.objs.size := by
        have e' : b = e ∨ b = it := by simpa using hb
        rcases e' with z | z
        · rw [z]; exact hel
        · rw [z]; exact hil
      rw [upd_ne (Nat.ne_of_lt hb')]
      exact (hf b hb).1
  done := by
    intro X hP hw hK hc i pins s σ H E I hf st hg
    subst hP hw hK
    obtain ⟨⟨old, he⟩, hit, hne, hat, hea⟩ := st
    obtain ⟨xs, hq, hx⟩ := hg
    obtain ⟨its, rv, p, hz⟩ := I.tuple hq
    obtain ⟨f0, f1, f2, f3, f4, f5⟩ := hf it (by simp)
    have hl := rv.length
    obtain rfl : i = its.toArray.size := by rw [List.size_toArray]; omega
    exact wpAny_pyNext_enum_endD (Draws.tuple (A := X.A.in1) (show X.A.in1.handled = none from I.ok.hd hc) it a hat its.toArray) he ⟨hit, show s.heap.IsTuple a its.toArray from p⟩ fun h' eb => ⟨rfl, I.turned (t' := s.toks) (fun b o hb q => eb b o hb q) f0 f1 f3 f4 f5⟩
  self := fun A i s Q E st h => let ⟨⟨_, he⟩, _⟩ := st; wpAny_pyIter_enum he h
def iEnumT (K : PySem.W.Frag) (ta : TA) : TI := fun σ H R => ta σ H fun vs H1 => ∃ a xs, vs = [.ref a] ∧ tpO (H1 a) = some xs ∧ R (IteT K a) H1
theorem pi_enumT {X : Cx} {e : Expr} {ta : TA} {p pos tpos : Pos} {elts : List Expr} {kk : Nat} (hg : Gl X "enumerate") (hm : X.mg "enumerate" = none) (ha : PA X [e] ta) (hs : starEach [e] X.env = [(false, eval e X.env)] := by rfl) :
    PI X (.Tuple elts kk tpos) (.Call (.Name "enumerate" p) [e] [] pos) (iEnumT X.K ta) := by
  refine ⟨fun pins s σ H R I h => ?_⟩
  refine Call_ (ld_blt I hg hm boot_enumerate (PyProof.Rows.callWith_type1 (thn (ha.run pos pins s σ H _ I h) fun us s1 ⟨vs, H1, I1, r1, q1⟩ => ?_) hs rfl))
  obtain ⟨a, xs, ex, hq0, q⟩ := q1
  have hq : SqT X.K H1 a xs := .inl (rd_tpO hq0)
  subst ex
  cases r1 with
  | cons r rr =>
    cases rr
    cases r
    obtain ⟨its, rv, p', hz⟩ := I1.tuple hq
    have hal : a < s1.heap.objs.size := by
      obtain ⟨o, ho, _⟩ := p'
      exact Heap.lt_size ho
    refine call_enum_tuple (show s1.heap.IsTuple a its.toArray from p') fun h' he hit hsz hk => wpAny_pyIter_enum he ?_
    have I2 : Inv X pins σ H1 { s1 with heap := h' } := I1.kept (t' := s1.toks) hk
    refine ⟨s1.heap.objs.size + 1, [s1.heap.objs.size + 1, s1.heap.objs.size], _, _, H1, rfl, I2, turn_enumT a (s1.heap.objs.size + 1) s1.heap.objs.size, ⟨⟨.none, he⟩, hit, Nat.succ_ne_self _, Nat.ne_of_lt hal, Nat.ne_of_gt (Nat.lt_succ_of_lt hal)⟩, fun b hb => ?_, q⟩
    have e' : b = s1.heap.objs.size + 1 ∨ b = s1.heap.objs.size := by simpa using hb
    have hle : s1.heap.objs.size ≤ b := by
      rcases e' with z | z
      · rw [z]; exact Nat.le_add_right _ _
      · rw [z]; exact Nat.le_refl _
    exact I1.fpOk hle (I1.hok.fresh hle)
theorem walk_enumT {K : PySem.W.Frag} {a : Addr} {xs : List V} : Walk (IteT K a) xs.length (fun H => SqT K H a xs) (YPair (fun i => some (.int (i : Nat))) (fun i => xs[i]?)) := by
  refine ⟨fun i _ hi q => ⟨xs, xs[i], q, by simp [hi]⟩, fun _ q => ⟨xs, q, rfl⟩, fun i H v H' _ q y => ?_⟩
  obtain ⟨T, x, h1, h2, h3, h4⟩ := y
  exact ⟨T, .int (i : Nat), x, h1, h2, h3, rfl, h4 xs q⟩
end G7

set_option linter.all false
set_option Elab.async false
set_option maxRecDepth 100000
set_option maxHeartbeats 4000000
namespace G7
open PySem PySem.Spec PyProof.Rows L2
theorem hu65_of {A : Around} {k : Nat} (hr : Room k A) : A.units + 65 < cLine := by have := hr.un; omega
/-- has a text -/
def hasS (l : List Str) (s : Str) : Bool := l.any fun z => z == s
theorem inV_strs (l : List Str) (s : Str) : inV (.str s) (l.map V.str) = hasS l s := by
  unfold inV hasS
  rw [List.any_map]
  rfl
theorem flat_strs (l : List Str) : (l.map V.str).all flatV = true := by
  rw [List.all_eq_true]
  intro v hv
  obtain ⟨s, _, rfl⟩ := List.mem_map.mp hv
  rfl
/-- (table, field) that an index may be of: a list or a tuple -/
def hasP (l : List Fd) (t f : Str) : Bool := l.any fun e => (e.2.1 == t) && (e.2.2 == f)
structure RX (H : Hp) (a : Addr) (ps : List Fd) : Prop where
  at_ : lsO (H a) = some (ps.map fun e => V.ref e.1) ∨ tpO (H a) = some (ps.map fun e => V.ref e.1)
  tups : ∀ e ∈ ps, H e.1 = some (.tup [.str e.2.1, .str e.2.2])
  oks : ∀ e ∈ ps, PyData.strOk e.2.1 = true ∧ PyData.strOk e.2.2 = true
theorem RX.same {H H' : Hp} {a : Addr} {ps : List Fd} (R : RX H a ps) (k : Same H H') : RX H' a ps := by
  refine ⟨?_, fun e he => k _ _ (R.tups e he), R.oks⟩
  rcases R.at_ with h | h
  · refine .inl ?_
    cases e : H a with
    | none => rw [e] at h; cases h
    | some o => rw [k a o e, ← e]; exact h
  · refine .inr ?_
    cases e : H a with
    | none => rw [e] at h; cases h
    | some o => rw [k a o e, ← e]; exact h
theorem RF.rx {H : Hp} {a : Addr} {ps : List Fd} (R : RF H a ps) : RX H a ps := ⟨.inl (by rw [R.at_]; rfl), R.tups, R.oks⟩
theorem any_fds (ps : List Fd) (t f : Str) : ((ps.map Fd.dat).any fun z => PyData.eqv z (.tuple [.str t, .str f])) = hasP ps t f := by
  unfold hasP
  rw [List.any_map]
  congr 1
  funext e
  show PyData.eqv (.tuple [.str e.2.1, .str e.2.2]) (.tuple [.str t, .str f]) = _
  simp only [PyData.eqv, PyData.eqvAll, Bool.and_true]
section
variable {X : Cx}
theorem ip_mul : PIp X .Mult (fun x y H Q => ∃ i j, x = .int i ∧ y = .int j ∧ CMul i j ∧ Q (.int (i * j)) H) := by
  intro pins s σ H x y v u Q I r1 r2 h
  obtain ⟨i, j, e1, e2, c, q⟩ := h
  subst e1; subst e2
  obtain ⟨t, rfl⟩ := r1
  obtain ⟨t', rfl⟩ := r2
  exact PyProof.Rows.imul_int (hm := c.ok) ⟨.int _, H, I.tok _, ⟨_, rfl⟩, q⟩
/-- a tuple's slice, what stands stays -/
def rSlP : V → Option Int → Option Int → Hp → VK → Prop := fun x lo hi H Q => ∃ a xs, x = .ref a ∧ tpO (H a) = some xs ∧ ∀ p H', Same H H' → tpO (H' p) = some (cutV xs lo hi) → Q (.ref p) H'
theorem cutV_whole {xs : List V} {lo hi : Option Int} (h : HT.sIx xs.length 0 lo = 0 ∧ HT.sIx xs.length xs.length hi = xs.length) : cutV xs lo hi = xs := by
  unfold cutV
  rw [h.1, h.2]
  simp
theorem sl_tp : SlR X rSlP := by
  intro pins s σ H x v vl vu lo hi sl Q I rx hs pl pu h
  obtain ⟨a, xs, e, hx, q⟩ := h
  refine sl_tupF pins s σ H x v vl vu lo hi sl Q I rx hs pl pu ⟨a, xs, e, hx, fun w => q a H (Same.refl H) (by rw [cutV_whole w]; exact hx), fun _ p o hp _ _ => q p _ (same_new hp) (by rw [upd_same]; rfl)⟩
/-- t + u, what stands stays -/
def rCatS : R2 := fun x y H Q => ∃ a b xs ys, x = .ref a ∧ y = .ref b ∧ tpO (H a) = some xs ∧ tpO (H b) = some ys ∧ xs.length + ys.length ≤ sizeLine ∧ ∀ p H', Same H H' → tpO (H' p) = some (xs ++ ys) → Q (.ref p) H'
theorem op_catS : OpR X (binaryOp .Add) rCatS := opImp op_catA fun x y H Q ⟨a, b, xs, ys, e1, e2, h1, h2, hz, q⟩ =>
  ⟨a, b, xs, ys, e1, e2, .inl (rd_tpO h1), .inl (rd_tpO h2), hz, fun n => q b H (Same.refl H) (by rw [n]; exact h2), fun _ n => q a H (Same.refl H) (by rw [n, List.append_nil]; exact h1), fun _ _ p hp => q p _ (same_new hp) (by rw [upd_same]; rfl)⟩
/-- .. the left one's own tuple -/
def rCatW : R2 := fun x y H Q => ∃ a b xs ys, x = .ref a ∧ y = .ref b ∧ H a = some (.tup xs) ∧ tpO (H b) = some ys ∧ xs.length + ys.length ≤ sizeLine ∧ xs ≠ [] ∧ ∀ p H', Same H H' → H' p = some (.tup (xs ++ ys)) → Q (.ref p) H'
theorem op_catW : OpR X (binaryOp .Add) rCatW := opImp op_catA fun x y H Q ⟨a, b, xs, ys, e1, e2, h1, h2, hz, nx, q⟩ =>
  ⟨a, b, xs, ys, e1, e2, .inl (.inl h1), .inl (rd_tpO h2), hz, fun n => absurd n nx, fun _ n => q a H (Same.refl H) (by rw [n, List.append_nil]; exact h1), fun _ _ p hp => q p _ (same_new hp) upd_same⟩
/-- a text in a list or tuple of texts -/
def rInS (neg : Bool) : R2 := fun x y H Q => ∃ p s ss, x = .str s ∧ y = .ref p ∧ (lsO (H p) = some (ss.map V.str) ∨ tpO (H p) = some (ss.map V.str)) ∧ Q (.bl (if neg = true then !hasS ss s else hasS ss s)) H
theorem op_inS : OpR X (compareOp .In) (rInS false) := opImp op_in_seq fun x y H Q ⟨p, s, ss, e1, e2, h, q⟩ =>
  ⟨p, ss.map V.str, e2, h.elim (fun h => .inl (.inl (rd_lsO h))) (fun h => .inr (.inl (rd_tpO h))), by rw [e1]; rfl, flat_strs ss, by rw [e1, inV_strs]; exact q⟩
theorem op_notInS : OpR X (compareOp .NotIn) (rInS true) := opImp op_notIn_seq fun x y H Q ⟨p, s, ss, e1, e2, h, q⟩ =>
  ⟨p, ss.map V.str, e2, h.elim (fun h => .inl (.inl (rd_lsO h))) (fun h => .inr (.inl (rd_tpO h))), by rw [e1]; rfl, flat_strs ss, by rw [e1, inV_strs]; exact q⟩
/-- (table, field) in indexes -/
def rInX : R2 := fun x y H Q => ∃ p q ps t f, x = .ref p ∧ y = .ref q ∧ H p = some (.tup [.str t, .str f]) ∧ PyData.strOk t = true ∧ PyData.strOk f = true ∧ RX H q ps ∧ Q (.bl (hasP ps t f)) H
theorem op_inX (hu : X.A.units + 65 < cLine) : OpR X (compareOp .In) rInX := by
  intro pins s σ H x y v u Q I rx ry h
  obtain ⟨p, q, ps, t, f, rfl, rfl, hp, ht, hf, R, k⟩ := h
  have hd : Dp X.K H (.ref p) (.tuple [.str t, .str f]) := .tup (.inl (.inl hp)) (.cons (.str _) (.cons (.str _) .nil))
  have sd : SeqAt.shaped (.tuple [.str t, .str f]) = true := sh2 (shS ht) (shS hf) (dS _) (dS _)
  have k' : Q (.bl ((ps.map Fd.dat).any fun z => PyData.eqv z (.tuple [.str t, .str f]))) H := by rw [any_fds]; exact k
  obtain ⟨as, r1⟩ := Dp.reads I _ _ v hd rx
  rcases R.at_ with e | e
  · obtain ⟨bs, r2⟩ := Dp.reads I (.list (ps.map Fd.dat)) _ u (.lst (.inl (rd_lsO e)) (dpAll_fds R.tups)) ry
    exact SeqAt.in_list_reads r2 r1 (SeqAt.canLay_of_shaped (shaped_fds R.oks)) (SeqAt.canLay_of_shaped sd) (room_in_shaped sd hu) ⟨.bl _, H, I, rfl, k'⟩
  · obtain ⟨bs, r2⟩ := Dp.reads I (.tuple (ps.map Fd.dat)) _ u (.tup (.inl (rd_tpO e)) (dpAll_fds R.tups)) ry
    exact SeqAt.in_tuple_reads r2 r1 (SeqAt.canLay_of_shaped (shaped_fds R.oks)) (SeqAt.canLay_of_shaped sd) (room_in_shaped sd hu) ⟨.bl _, H, I, rfl, k'⟩
/-- tuple(t) of a tuple -/
def cTupT : List V → Hp → VK → Prop := fun vs H Q => ∃ p xs, vs = [.ref p] ∧ tpO (H p) = some xs ∧ Q (.ref p) H
theorem tuple_tp : CallR X (.type "tuple") cTupT := callImp call_tuple_of fun vs H Q ⟨p, xs, e, h, q⟩ => ⟨p, xs, e, .inr ⟨.inl (rd_tpO h), q⟩⟩
/-- l.index(n) of ints -/
def rIndexI : V → List V → Hp → VK → Prop := fun x xs H Q => ∃ (a : Addr) (ns : List Int) (n : Int), x = .ref a ∧ xs = [.int n] ∧ lsO (H a) = some (ns.map V.int) ∧ n ∈ ns ∧
  ∀ j : Nat, ns[j]? = some n → (∀ m : Nat, m < j → ns[m]? ≠ some n) → Q (.int (j : Nat)) H
theorem first_at : ∀ (ns : List Int) (n : Int), n ∈ ns → ∃ j : Nat, ns[j]? = some n ∧ ∀ m : Nat, m < j → ns[m]? ≠ some n
  | [], n, h => absurd h (by simp)
  | a :: r, n, h => by
    by_cases e : a = n
    · exact ⟨0, by rw [e]; rfl, fun m hm => absurd hm (by omega)⟩
    · have h' : n ∈ r := by
        rcases List.mem_cons.mp h with z | z
        · exact absurd z.symm e
        · exact z
      obtain ⟨j, h1, h2⟩ := first_at r n h'
      refine ⟨j + 1, h1, fun m hm => ?_⟩
      cases m with
      | zero => intro z; exact e (Option.some.inj z)
      | succ m => exact h2 m (by omega)
theorem mt_indexI : MtR X "list.index" rIndexI := mtImp mt_index fun x xs H Q ⟨a, ns, n, e1, e2, h, hn, q⟩ => by
  obtain ⟨j, h1, h2⟩ := first_at ns n hn
  refine ⟨a, ns.map V.int, .int n, j, .int n, e1, e2, .inl (rd_lsO h), rfl, ?_, by rw [List.getElem?_map, h1]; rfl, beq_self_eq_true n, fun m z' hm hz => ?_, q j h1 h2⟩
  · rw [List.all_eq_true]
    intro v hv
    obtain ⟨s, _, rfl⟩ := List.mem_map.mp hv
    rfl
  · obtain ⟨z, hz', rfl⟩ := int_at hz
    exact beq_false_of_ne fun e => h2 m hm (by rw [hz', e])
end
/-- a tuple of texts against () -/
theorem strsT_eqNil {K : PySem.W.Frag} {H : Hp} {a q : Addr} {ss : List Str} {Q : VK} (h : tpO (H a) = some (ss.map V.str)) (ho : ∀ s ∈ ss, PyData.strOk s = true) (hq : tpO (H q) = some []) (k : Q (.bl ss.isEmpty) H) : rEqD K (.ref a) (.ref q) H Q := by
  refine ⟨.tuple (ss.map PyData.str), .tuple [], .tup (.inl (rd_tpO h)) (dpAll_strs K H ss), .tup (.inl (rd_tpO hq)) .nil, shaped_strs ss ho, rfl, ?_⟩
  cases ss with
  | nil => exact k
  | cons n r => exact k
theorem strs_eqNil {K : PySem.W.Frag} {H : Hp} {a q : Addr} {ss : List Str} {Q : VK} (h : H a = some (.lst (ss.map V.str))) (ho : ∀ s ∈ ss, PyData.strOk s = true) (hq : H q = some (.lst [])) (k : Q (.bl ss.isEmpty) H) : rEqD K (.ref a) (.ref q) H Q := by
  refine ⟨.list (ss.map PyData.str), .list [], .lst (.inl (.inl h)) (dpAll_strs K H ss), .lst (.inl (.inl hq)) .nil, shaped_strs ss ho, rfl, ?_⟩
  cases ss with
  | nil => exact k
  | cons n r => exact k
/-! ### comprehensions with two sources -/
def inB (J1 : It) (g1 : TG) (tt1 : TT) (te : TE) (vs1 : List Nat) (D : Addr) (σ2 : L2.St) (H4 : Hp) (Nx : Hp → Prop) : Prop :=
  ∃ W1 : Nat → Nat → Hp → Prop, (∃ m, W1 0 m H4) ∧ ∀ j k H, W1 j k H →
      (J1.stop j H ∧ Nx H) ∨ (J1.go j H ∧ ∃ Nx1 : Hp → Prop, (∀ H', Nx1 H' → ∃ k', k' < k ∧ W1 (j + 1) k' H') ∧ ∀ x H', J1.yld j H x H' → g1 x (wipe σ2 vs1) H' fun σ3 H5 => wipe σ3 vs1 = wipe σ2 vs1 ∧ tt1 σ3 H5 fun b H6 =>
        if b = true then te σ3 H6 fun y H7 => ∃ acc, H7 D = some (.lst acc) ∧ acc.length < sizeLine ∧ Nx1 (upd H7 D (.lst (acc ++ [y]))) else Nx1 H6)
def lc2B (J : It) (g : TG) (tt : TT) (wi1 : TI) (g1 : TG) (tt1 : TT) (te : TE) (vs vs1 : List Nat) (σ : L2.St) (H1 : Hp) (Q : VK) : Prop :=
  ∀ D, H1 D = none → ∃ W : Nat → Nat → Hp → Prop, (∃ m, W 0 m (upd H1 D (.lst []))) ∧ ∀ i m H, W i m H →
  (J.stop i H ∧ Q (.ref D) H) ∨ (J.go i H ∧ ∃ Nx : Hp → Prop, (∀ H', Nx H' → ∃ m', m' < m ∧ W (i + 1) m' H') ∧ ∀ x H', J.yld i H x H' → g x (wipe σ vs) H' fun σ2 H2 => wipe σ2 vs = wipe σ vs ∧ tt σ2 H2 fun b H3 =>
    if b = true then wi1 σ2 H3 fun J1 H4 => inB J1 g1 tt1 te vs1 D σ2 H4 Nx else Nx H3)
theorem tLc2_eq {wi : TI} {g : TG} {tt : TT} {wi1 : TI} {g1 : TG} {tt1 : TT} {te : TE} {vs vs1 : List Nat} {σ : L2.St} {H : Hp} {Q : VK} : tLc2 wi g tt wi1 g1 tt1 te vs vs1 σ H Q = wi σ H fun J H1 => lc2B J g tt wi1 g1 tt1 te vs vs1 σ H1 Q := rfl
theorem lc2_it {J : It} {n : Nat} {G : Hp → Prop} {Y : Nat → Hp → V → Hp → Prop} (w : Walk J n G Y) {g : TG} {tt : TT} {wi1 : TI} {g1 : TG} {tt1 : TT} {te : TE} {vs vs1 : List Nat} {σ : L2.St} {H1 : Hp} {Q : VK} (Pv : Addr → Nat → Hp → Prop)
    (h0 : ∀ D, H1 D = none → Pv D 0 (upd H1 D (.lst []))) (hG : ∀ D i H, H1 D = none → i ≤ n → Pv D i H → G H)
    (hs : ∀ D i x H H', H1 D = none → i < n → Pv D i H → Y i H x H' → g x (wipe σ vs) H' fun σ2 H2 => wipe σ2 vs = wipe σ vs ∧ tt σ2 H2 fun b H3 =>
      if b = true then wi1 σ2 H3 fun J1 H4 => inB J1 g1 tt1 te vs1 D σ2 H4 (Pv D (i + 1)) else Pv D (i + 1) H3) (hd : ∀ D H, H1 D = none → Pv D n H → Q (.ref D) H) : lc2B J g tt wi1 g1 tt1 te vs vs1 σ H1 Q := by
  intro D hD
  refine ⟨fun i m H => m = n - i ∧ i ≤ n ∧ Pv D i H, ⟨n, by simp, Nat.zero_le _, h0 D hD⟩, ?_⟩
  rintro i m H ⟨rfl, hi, p⟩
  have q := hG D i H hD hi p
  by_cases hlt : i < n
  · refine .inr ⟨w.goes i H hlt q, Pv D (i + 1), fun H' p' => ⟨n - (i + 1), by omega, rfl, hlt, p'⟩, fun x H' y => hs D i x H H' hD hlt p (w.yields i H x H' hlt q y)⟩
  · have e : i = n := by omega
    subst e
    exact .inl ⟨w.stops H q, hd D H hD p⟩
theorem in_it {J : It} {n : Nat} {G : Hp → Prop} {Y : Nat → Hp → V → Hp → Prop} (w : Walk J n G Y) {g1 : TG} {tt1 : TT} {te : TE} {vs1 : List Nat} {D : Addr} {σ2 : L2.St} {H4 : Hp} {Nx : Hp → Prop} (Pv : Nat → Hp → Prop)
    (h0 : Pv 0 H4) (hG : ∀ i H, i ≤ n → Pv i H → G H)
    (hs : ∀ i x H H', i < n → Pv i H → Y i H x H' → g1 x (wipe σ2 vs1) H' fun σ3 H5 => wipe σ3 vs1 = wipe σ2 vs1 ∧ tt1 σ3 H5 fun b H6 =>
        if b = true then te σ3 H6 fun y H7 => ∃ acc, H7 D = some (.lst acc) ∧ acc.length < sizeLine ∧ Pv (i + 1) (upd H7 D (.lst (acc ++ [y]))) else Pv (i + 1) H6) (hd : ∀ H, Pv n H → Nx H) : inB J g1 tt1 te vs1 D σ2 H4 Nx := by
  refine ⟨fun i m H => m = n - i ∧ i ≤ n ∧ Pv i H, ⟨n, by simp, Nat.zero_le _, h0⟩, ?_⟩
  rintro i m H ⟨rfl, hi, p⟩
  have q := hG i H hi p
  by_cases hlt : i < n
  · refine .inr ⟨w.goes i H hlt q, Pv (i + 1), fun H' p' => ⟨n - (i + 1), by omega, rfl, hlt, p'⟩, fun x H' y => hs i x H H' hlt p (w.yields i H x H' hlt q y)⟩
  · have e : i = n := by omega
    subst e
    exact .inl ⟨w.stops H q, hd H p⟩
end G7
namespace G7
open PySem PySem.Spec PyProof.Rows L2
theorem cutV_from (xs : List V) (k : Nat) : cutV xs (some (k : Int)) none = xs.drop k := by
  unfold cutV
  rw [HT.sIx_none, HT.sIx_nat]
  by_cases h : k ≤ xs.length
  · rw [Nat.min_eq_left h]
    exact List.take_of_length_le (by rw [List.length_drop]; omega)
  · rw [Nat.min_eq_right (by omega), List.drop_length, List.drop_eq_nil_of_le (by omega)]
    simp
theorem cutV_to (xs : List V) (k : Nat) : cutV xs none (some (k : Int)) = xs.take k := by
  unfold cutV
  rw [HT.sIx_none, HT.sIx_nat, List.drop_zero, Nat.sub_zero]
  by_cases h : k ≤ xs.length
  · rw [Nat.min_eq_left h]
  · rw [Nat.min_eq_right (by omega), List.take_length, List.take_of_length_le (by omega)]
end G7

set_option linter.all false
set_option Elab.async false
set_option maxRecDepth 100000
set_option maxHeartbeats 4000000
namespace G7
open PySem PySem.Spec PyProof.Rows L2
/-! ### words of the plans -/
inductive Pw where
  | all | key | by | non | keyof | byof
  deriving DecidableEq
def Pw.s : Pw → Str
  | .all => "all"
  | .key => "key"
  | .by => "by"
  | .non => "none"
  | .keyof => "keyof"
  | .byof => "byof"
theorem Pw.s_inj : ∀ a b : Pw, (a.s = b.s) = (a = b) := by
  intro a b
  cases a <;> cases b <;> first | rfl | (apply propext; constructor <;> intro h <;> first | (revert h; decide +kernel) | cases h)
theorem pw_all : (Str.ofString "all" : Str) = Pw.s .all := rfl
theorem pw_key : (Str.ofString "key" : Str) = Pw.s .key := rfl
theorem pw_by : (Str.ofString "by" : Str) = Pw.s .by := rfl
theorem pw_non : (Str.ofString "none" : Str) = Pw.s .non := rfl
theorem pw_keyof : (Str.ofString "keyof" : Str) = Pw.s .keyof := rfl
theorem pw_byof : (Str.ofString "byof" : Str) = Pw.s .byof := rfl
theorem Pw.strOk (o : Pw) : PyData.strOk o.s = true := by cases o <;> decide +kernel
/-! ### tables of terms, links -/
def tabsT : Tm → List Str
  | .num _ => []
  | .fld t _ => [t]
  | .op _ a b => tabsT a ++ tabsT b
def Tm.size : Tm → Nat
  | .op _ a b => a.size + b.size
  | _ => 1
theorem tabsT_len : ∀ t : Tm, (tabsT t).length ≤ 2 ^ (t.deep - 1)
  | .num _ => by simp [tabsT]
  | .fld _ _ => by simp [tabsT, Tm.deep]
  | .op _ a b => by
    have h1 := tabsT_len a
    have h2 := tabsT_len b
    have p : ∀ t : Tm, 1 ≤ t.deep := by intro t; cases t <;> simp [Tm.deep]
    have pa := p a
    have pb := p b
    have q1 : 2 ^ (a.deep - 1) ≤ 2 ^ (max a.deep b.deep - 1) := Nat.pow_le_pow_right (by decide) (by omega)
    have q2 : 2 ^ (b.deep - 1) ≤ 2 ^ (max a.deep b.deep - 1) := Nat.pow_le_pow_right (by decide) (by omega)
    have e : 2 ^ (max a.deep b.deep + 1 - 1) = 2 ^ (max a.deep b.deep - 1) + 2 ^ (max a.deep b.deep - 1) := by
      rw [show max a.deep b.deep + 1 - 1 = (max a.deep b.deep - 1) + 1 by omega, Nat.pow_succ]; omega
    show (tabsT a ++ tabsT b).length ≤ 2 ^ (max a.deep b.deep + 1 - 1)
    rw [List.length_append, e]
    omega
theorem tabsT_ok : ∀ t : Tm, t.ok = true → ∀ s ∈ tabsT t, PyData.strOk s = true
  | .num _, _, s, h => absurd h (by simp [tabsT])
  | .fld t f, h, s, hs => by
    cases List.mem_singleton.mp hs
    simp only [Tm.ok, Bool.and_eq_true] at h
    exact h.1
  | .op o a b, h, s, hs => by
    simp only [Tm.ok, Bool.and_eq_true] at h
    rcases List.mem_append.mp hs with z | z
    · exact tabsT_ok a h.1.2 s z
    · exact tabsT_ok b h.2 s z
abbrev Lk := Str × Tm
def linkOk (c : Wd) (t t' : Str) (ahead : List Str) (b : Tm) : Bool := decide (c = .eq) && decide (t' = t) && (!(tabsT b).isEmpty) && (tabsT b).all (hasS ahead)
def link1 (t : Str) (ahead : List Str) (c : Wd) (a b : Tm) : List Lk := match a with
  | .fld t' f => if linkOk c t t' ahead b = true then [(f, b)] else []
  | _ => []
def linksC (t : Str) (ahead : List Str) : Cd → List Lk
  | .cmp c a b => link1 t ahead c a b ++ link1 t ahead c.turn b a
  | _ => []
def linksL (t : Str) (ahead : List Str) (l : List Cd) : List Lk := l.flatMap (linksC t ahead)
def linksO (t : Str) (ahead : List Str) (co : Option Cd) : List Lk := linksL t ahead (partsO co)
theorem link1_len (t : Str) (ahead : List Str) (c : Wd) (a b : Tm) : (link1 t ahead c a b).length ≤ 1 := by
  unfold link1
  split
  · split <;> simp
  · simp
theorem linksC_len (t : Str) (ahead : List Str) (c : Cd) : (linksC t ahead c).length ≤ 2 := by
  cases c with
  | cmp c a b =>
    have h1 := link1_len t ahead c a b
    have h2 := link1_len t ahead c.turn b a
    show (link1 t ahead c a b ++ link1 t ahead c.turn b a).length ≤ 2
    rw [List.length_append]; omega
  | _ => simp [linksC]
theorem linksL_len (t : Str) (ahead : List Str) : ∀ l : List Cd, (linksL t ahead l).length ≤ 2 * l.length
  | [] => by simp [linksL]
  | c :: r => by
    have h1 := linksC_len t ahead c
    have h2 := linksL_len t ahead r
    unfold linksL at h2 ⊢
    rw [List.flatMap_cons, List.length_append, List.length_cons]; omega
theorem linksO_len {t : Str} {ahead : List Str} {co : Option Cd} {d m : Nat} (g : CoGood co d m) : (linksO t ahead co).length ≤ 2 * m := by
  have h1 := linksL_len t ahead (partsO co)
  have h2 := partsO_len g
  unfold linksO
  omega
/-- a link's term is a side of a part -/
theorem linksL_ok {t : Str} {ahead : List Str} : ∀ {l : List Cd}, (∀ p ∈ l, p.part) → ∀ e ∈ linksL t ahead l, PyData.strOk e.1 = true ∧ e.2.ok = true ∧ e.2.deep ≤ 8
  | [], _, e, he => absurd he (by simp [linksL])
  | c :: r, h, e, he => by
    unfold linksL at he
    rw [List.flatMap_cons] at he
    rcases List.mem_append.mp he with he | he
    · cases c with
      | cmp c a b =>
        have p := h _ List.mem_cons_self
        have one : ∀ (c : Wd) (a b : Tm), a.ok = true → b.ok = true → b.deep ≤ 8 → e ∈ link1 t ahead c a b → PyData.strOk e.1 = true ∧ e.2.ok = true ∧ e.2.deep ≤ 8 := by
          intro c a b ha hb db h
          unfold link1 at h
          split at h
          · split at h
            · cases List.mem_singleton.mp h
              simp only [Tm.ok, Bool.and_eq_true] at ha
              exact ⟨ha.2, hb, db⟩
            · cases h
          · cases h
        obtain ⟨_, p1, p2, _, _, p3, p4⟩ := p
        rcases List.mem_append.mp he with he | he
        · exact one c a b p1 p2 p4 he
        · exact one c.turn b a p2 p1 p3 he
      | _ => cases he
    · exact linksL_ok (fun p hp => h p (List.mem_cons_of_mem _ hp)) e (by unfold linksL; exact he)
/-! ### ways -/
inductive Way where
  | non (t : Str)
  | all (t : Str)
  | key (t : Str) (s : OI × OI)
  | by (t f : Str) (s : OI × OI)
  | keyof (t : Str) (x : Tm)
  | byof (t f : Str) (x : Tm)
def Way.tab : Way → Str
  | .non t => t
  | .all t => t
  | .key t _ => t
  | .by t _ _ => t
  | .keyof t _ => t
  | .byof t _ _ => t
/-- its texts may stand, its span is not empty -/
def Way.ok : Way → Prop
  | .non t => PyData.strOk t = true
  | .all t => PyData.strOk t = true
  | .key t s => PyData.strOk t = true ∧ emptyS s = false
  | .by t f s => PyData.strOk t = true ∧ PyData.strOk f = true ∧ emptyS s = false
  | .keyof t x => PyData.strOk t = true ∧ x.ok = true ∧ x.deep ≤ 8
  | .byof t f x => PyData.strOk t = true ∧ PyData.strOk f = true ∧ x.ok = true ∧ x.deep ≤ 8
def RWy (H : Hp) (v : V) : Way → Prop
  | .non t => ∃ a, v = .ref a ∧ H a = some (.tup [.str (Pw.s .non), .str t])
  | .all t => ∃ a, v = .ref a ∧ H a = some (.tup [.str (Pw.s .all), .str t])
  | .key t s => ∃ a, v = .ref a ∧ H a = some (.tup [.str (Pw.s .key), .str t, oi s.1, oi s.2])
  | .by t f s => ∃ a, v = .ref a ∧ H a = some (.tup [.str (Pw.s .by), .str t, .str f, oi s.1, oi s.2])
  | .keyof t x => ∃ a u, v = .ref a ∧ H a = some (.tup [.str (Pw.s .keyof), .str t, u]) ∧ RT H u x
  | .byof t f x => ∃ a u, v = .ref a ∧ H a = some (.tup [.str (Pw.s .byof), .str t, .str f, u]) ∧ RT H u x
theorem RWy.tups {H H' : Hp} (s : TupS H H') {v : V} : ∀ {w : Way}, RWy H v w → RWy H' v w
  | .non t, ⟨a, e, h⟩ => ⟨a, e, s _ _ h⟩
  | .all t, ⟨a, e, h⟩ => ⟨a, e, s _ _ h⟩
  | .key t x, ⟨a, e, h⟩ => ⟨a, e, s _ _ h⟩
  | .by t f x, ⟨a, e, h⟩ => ⟨a, e, s _ _ h⟩
  | .keyof t x, ⟨a, u, e, h, r⟩ => ⟨a, u, e, s _ _ h, r.tups s⟩
  | .byof t f x, ⟨a, u, e, h, r⟩ => ⟨a, u, e, s _ _ h, r.tups s⟩
/-- a plan: a tuple of ways -/
def RPl (H : Hp) (v : V) (ws : List Way) : Prop := ∃ (a : Addr) (es : List (V × Way)), v = .ref a ∧ H a = some (.tup (es.map (·.1))) ∧ es.map (·.2) = ws ∧ ∀ e ∈ es, RWy H e.1 e.2
theorem RPl.tups {H H' : Hp} (s : TupS H H') {v : V} {ws : List Way} (R : RPl H v ws) : RPl H' v ws := by
  obtain ⟨a, es, e, h, m, r⟩ := R
  exact ⟨a, es, e, s _ _ h, m, fun e he => (r e he).tups s⟩
/-- a list of ways, of plans, of orders, of links -/
structure RWs (H : Hp) (a : Addr) (es : List (V × Way)) : Prop where
  at_ : H a = some (.lst (es.map (·.1)))
  each : ∀ e ∈ es, RWy H e.1 e.2
structure RPs (H : Hp) (a : Addr) (es : List (V × List Way)) : Prop where
  at_ : H a = some (.lst (es.map (·.1)))
  each : ∀ e ∈ es, RPl H e.1 e.2
def ROr (H : Hp) (v : V) (o : List Str) : Prop := ∃ a, v = .ref a ∧ H a = some (.tup (o.map V.str))
theorem ROr.tups {H H' : Hp} (s : TupS H H') {v : V} {o : List Str} (R : ROr H v o) : ROr H' v o := by
  obtain ⟨a, e, h⟩ := R
  exact ⟨a, e, s _ _ h⟩
structure ROs (H : Hp) (a : Addr) (es : List (V × List Str)) : Prop where
  at_ : H a = some (.lst (es.map (·.1)))
  each : ∀ e ∈ es, ROr H e.1 e.2
def RLk (H : Hp) (v : V) (k : Lk) : Prop := ∃ a u, v = .ref a ∧ H a = some (.tup [.str k.1, u]) ∧ RT H u k.2
theorem RLk.tups {H H' : Hp} (s : TupS H H') {v : V} {k : Lk} (R : RLk H v k) : RLk H' v k := by
  obtain ⟨a, u, e, h, r⟩ := R
  exact ⟨a, u, e, s _ _ h, r.tups s⟩
structure RLs (H : Hp) (a : Addr) (es : List (V × Lk)) : Prop where
  at_ : H a = some (.lst (es.map (·.1)))
  each : ∀ e ∈ es, RLk H e.1 e.2
theorem RWs.same {H H' : Hp} {a : Addr} {es : List (V × Way)} (R : RWs H a es) (k : Same H H') : RWs H' a es := ⟨k _ _ R.at_, fun e he => (R.each e he).tups (TupS.ofSame k)⟩
theorem RPs.same {H H' : Hp} {a : Addr} {es : List (V × List Way)} (R : RPs H a es) (k : Same H H') : RPs H' a es := ⟨k _ _ R.at_, fun e he => (R.each e he).tups (TupS.ofSame k)⟩
theorem ROs.same {H H' : Hp} {a : Addr} {es : List (V × List Str)} (R : ROs H a es) (k : Same H H') : ROs H' a es := ⟨k _ _ R.at_, fun e he => (R.each e he).tups (TupS.ofSame k)⟩
theorem RLs.same {H H' : Hp} {a : Addr} {es : List (V × Lk)} (R : RLs H a es) (k : Same H H') : RLs H' a es := ⟨k _ _ R.at_, fun e he => (R.each e he).tups (TupS.ofSame k)⟩
/-- one more at the list's end -/
theorem tupS_push {H : Hp} {a : Addr} {xs ys : List V} (h : H a = some (.lst xs)) : TupS H (L2.upd H a (.lst ys)) := TupS.refl.upd h (by intro xs q; cases q)
theorem RWs.push {H : Hp} {a : Addr} {es : List (V × Way)} (R : RWs H a es) {v : V} {w : Way} (r : RWy H v w) : RWs (upd H a (.lst (es.map (·.1) ++ [v]))) a (es ++ [(v, w)]) := by
  have ts := tupS_push (ys := es.map (·.1) ++ [v]) R.at_
  refine ⟨by rw [upd_same, List.map_append]; rfl, fun e he => ?_⟩
  rcases List.mem_append.mp he with he | he
  · exact (R.each e he).tups ts
  · cases List.mem_singleton.mp he
    exact r.tups ts
theorem RPs.push {H : Hp} {a : Addr} {es : List (V × List Way)} (R : RPs H a es) {v : V} {w : List Way} (r : RPl H v w) : RPs (upd H a (.lst (es.map (·.1) ++ [v]))) a (es ++ [(v, w)]) := by
  have ts := tupS_push (ys := es.map (·.1) ++ [v]) R.at_
  refine ⟨by rw [upd_same, List.map_append]; rfl, fun e he => ?_⟩
  rcases List.mem_append.mp he with he | he
  · exact (R.each e he).tups ts
  · cases List.mem_singleton.mp he
    exact r.tups ts
theorem ROs.push {H : Hp} {a : Addr} {es : List (V × List Str)} (R : ROs H a es) {v : V} {w : List Str} (r : ROr H v w) : ROs (upd H a (.lst (es.map (·.1) ++ [v]))) a (es ++ [(v, w)]) := by
  have ts := tupS_push (ys := es.map (·.1) ++ [v]) R.at_
  refine ⟨by rw [upd_same, List.map_append]; rfl, fun e he => ?_⟩
  rcases List.mem_append.mp he with he | he
  · exact (R.each e he).tups ts
  · cases List.mem_singleton.mp he
    exact r.tups ts
theorem RLs.push {H : Hp} {a : Addr} {es : List (V × Lk)} (R : RLs H a es) {v : V} {w : Lk} (r : RLk H v w) : RLs (upd H a (.lst (es.map (·.1) ++ [v]))) a (es ++ [(v, w)]) := by
  have ts := tupS_push (ys := es.map (·.1) ++ [v]) R.at_
  refine ⟨by rw [upd_same, List.map_append]; rfl, fun e he => ?_⟩
  rcases List.mem_append.mp he with he | he
  · exact (R.each e he).tups ts
  · cases List.mem_singleton.mp he
    exact r.tups ts
/-- the list grows by another list -/
theorem RPs.ext {H : Hp} {a b : Addr} {es fs : List (V × List Way)} (R : RPs H a es) (R2 : RPs H b fs) : RPs (upd H a (.lst (es.map (·.1) ++ fs.map (·.1)))) a (es ++ fs) := by
  have ts := tupS_push (ys := es.map (·.1) ++ fs.map (·.1)) R.at_
  refine ⟨by rw [upd_same, List.map_append], fun e he => ?_⟩
  rcases List.mem_append.mp he with he | he
  · exact (R.each e he).tups ts
  · exact (R2.each e he).tups ts
theorem ROs.ext {H : Hp} {a b : Addr} {es fs : List (V × List Str)} (R : ROs H a es) (R2 : ROs H b fs) : ROs (upd H a (.lst (es.map (·.1) ++ fs.map (·.1)))) a (es ++ fs) := by
  have ts := tupS_push (ys := es.map (·.1) ++ fs.map (·.1)) R.at_
  refine ⟨by rw [upd_same, List.map_append], fun e he => ?_⟩
  rcases List.mem_append.mp he with he | he
  · exact (R.each e he).tups ts
  · exact (R2.each e he).tups ts
/-! what the program's functions tell -/
def lookO (es : List Sp3) (f : Str) : Option (OI × OI) := (es.find? fun e => decide (e.1 = f)).map (·.2)
theorem look_o : ∀ (es : List En) (f : Str), (valV (es.map ent) (Sum.inr f : Key) = none ∧ lookO (es.map dr) f = none) ∨ ∃ e ∈ es, valV (es.map ent) (Sum.inr f : Key) = some (.ref e.2.1) ∧ lookO (es.map dr) f = some e.2.2 ∧ e.1 = f
  | [], f => .inl ⟨rfl, rfl⟩
  | e :: r, f => by
    by_cases h : e.1 = f
    · refine .inr ⟨e, List.mem_cons_self, valV_pos (congrArg Sum.inr h), ?_, h⟩
      unfold lookO
      rw [List.map_cons, List.find?_cons, show decide ((dr e).1 = f) = true from decide_eq_true h]
      rfl
    · have e1 : valV ((e :: r).map ent) (Sum.inr f : Key) = valV (r.map ent) (Sum.inr f : Key) := valV_neg fun q => h (Sum.inr.inj q)
      have e2 : lookO ((e :: r).map dr) f = lookO (r.map dr) f := by
        unfold lookO
        rw [List.map_cons, List.find?_cons, show decide ((dr e).1 = f) = false from decide_eq_false h]
      rw [e1, e2]
      rcases look_o r f with q | ⟨e', h1, h2⟩
      · exact .inl q
      · exact .inr ⟨e', List.mem_cons_of_mem _ h1, h2⟩
def keyW (t k : Str) (es : List Sp3) : List Way := match lookO es k with
  | none => []
  | some s => [.key t s]
def byW (t : Str) (ixs : List Fd) (es : List Sp3) (f : Str) : List Way := match lookO es f with
  | none => []
  | some s => if hasP ixs t f = true then [.by t f s] else []
def linkW (t k : Str) (ixs : List Fd) (e : Lk) : List Way := if e.1 = k then [.keyof t e.2] else if hasP ixs t e.1 = true then [.byof t e.1 e.2] else []
def waysM (t : Str) (fs : List Str) (ixs : List Fd) (ahead : List Str) (co : Option Cd) : List Way := match boundsM t co with
  | none => [.non t]
  | some es => (.all t :: keyW t (fs.headD "") es) ++ (fs.tail.flatMap (byW t ixs es) ++ (linksO t ahead co).flatMap (linkW t (fs.headD "") ixs))
def ordersM : Nat → List Str → List (List Str)
  | 0, _ => [[]]
  | n + 1, ts => (List.range ts.length).flatMap fun i => (ordersM n (ts.eraseIdx i)).map fun o => ts.getD i "" :: o
def plansM (sh : Str → List Str) (ixs : List Fd) (co : Option Cd) : List Str → List Str → List (List Way)
  | _, [] => [[]]
  | ahead, t :: r => (waysM t (sh t) ixs ahead co).flatMap fun w => (plansM sh ixs co (ahead ++ [t]) r).map (w :: ·)
def allM (sh : Str → List Str) (ixs : List Fd) (co : Option Cd) (ts : List Str) : List (List Way) := (ordersM ts.length ts).flatMap (plansM sh ixs co [])
theorem flatMap_len {α β : Type} {f : α → List β} {m : Nat} : ∀ {l : List α}, (∀ a ∈ l, (f a).length ≤ m) → (l.flatMap f).length ≤ l.length * m
  | [], _ => by simp
  | a :: r, h => by
    have h1 := h a List.mem_cons_self
    have h2 := flatMap_len (fun b hb => h b (List.mem_cons_of_mem _ hb)) (l := r)
    rw [List.flatMap_cons, List.length_append, List.length_cons, Nat.add_mul, Nat.one_mul]
    omega
theorem byW_len (t : Str) (ixs : List Fd) (es : List Sp3) (f : Str) : (byW t ixs es f).length ≤ 1 := by
  unfold byW
  split
  · simp
  · split <;> simp
theorem linkW_len (t k : Str) (ixs : List Fd) (e : Lk) : (linkW t k ixs e).length ≤ 1 := by
  unfold linkW
  split
  · simp
  · split <;> simp
theorem waysM_len {t : Str} {fs : List Str} {ixs : List Fd} {ahead : List Str} {co : Option Cd} {d : Nat} (hf : fs.length ≤ 4) (g : CoGood co d 10) : (waysM t fs ixs ahead co).length ≤ 25 := by
  unfold waysM
  split
  · simp
  · rename_i es _
    have h1 : (keyW t (fs.headD "") es).length ≤ 1 := by unfold keyW; split <;> simp
    have h2 := flatMap_len (f := byW t ixs es) (m := 1) (l := fs.tail) fun a _ => byW_len t ixs es a
    have h3 := flatMap_len (f := linkW t (fs.headD "") ixs) (m := 1) (l := linksO t ahead co) fun a _ => linkW_len t _ ixs a
    have h4 := linksO_len (t := t) (ahead := ahead) g
    have h5 : fs.tail.length ≤ 3 := by rw [List.length_tail]; omega
    rw [List.length_append, List.length_append, List.length_cons]
    omega
theorem waysM_ne {t : Str} {fs : List Str} {ixs : List Fd} {ahead : List Str} {co : Option Cd} : waysM t fs ixs ahead co ≠ [] := by
  unfold waysM
  split <;> simp
theorem plansM_len {sh : Str → List Str} {ixs : List Fd} {co : Option Cd} {d : Nat} (hs : ∀ t, (sh t).length ≤ 4) (g : CoGood co d 10) : ∀ (r ahead : List Str), (plansM sh ixs co ahead r).length ≤ 25 ^ r.length
  | [], _ => by simp [plansM]
  | t :: r, ahead => by
    have h1 := plansM_len (ixs := ixs) hs g r (ahead ++ [t])
    have h2 := waysM_len (t := t) (ixs := ixs) (ahead := ahead) (hs t) g
    have h3 := flatMap_len (f := fun w => (plansM sh ixs co (ahead ++ [t]) r).map (w :: ·)) (m := 25 ^ r.length) (l := waysM t (sh t) ixs ahead co) fun a _ => by rw [List.length_map]; exact h1
    unfold plansM
    rw [List.length_cons, Nat.pow_succ, Nat.mul_comm (25 ^ r.length)]
    exact Nat.le_trans h3 (Nat.mul_le_mul_right _ h2)
theorem plansM_ne {sh : Str → List Str} {ixs : List Fd} {co : Option Cd} : ∀ (r ahead : List Str), plansM sh ixs co ahead r ≠ []
  | [], _ => by simp [plansM]
  | t :: r, ahead => by
    have h1 := plansM_ne (sh := sh) (ixs := ixs) (co := co) r (ahead ++ [t])
    have h2 := waysM_ne (t := t) (fs := sh t) (ixs := ixs) (ahead := ahead) (co := co)
    unfold plansM
    intro h
    obtain ⟨w, hw⟩ := List.exists_mem_of_ne_nil _ h2
    have := List.flatMap_eq_nil_iff.mp h w hw
    exact h1 (List.map_eq_nil_iff.mp this)
theorem ordersM_each : ∀ (n : Nat) (ts : List Str), ts.length = n → ∀ o ∈ ordersM n ts, o.length = n ∧ ∀ s ∈ o, s ∈ ts
  | 0, ts, _, o, h => by
    cases List.mem_singleton.mp h
    exact ⟨rfl, fun s hs => absurd hs (by simp)⟩
  | n + 1, ts, e, o, h => by
    obtain ⟨i, hi, h2⟩ := List.mem_flatMap.mp h
    obtain ⟨p, hp, rfl⟩ := List.mem_map.mp h2
    have hi := List.mem_range.mp hi
    have q := ordersM_each n (ts.eraseIdx i) (by rw [List.length_eraseIdx, if_pos hi]; omega) p hp
    refine ⟨by rw [List.length_cons, q.1], fun s hs => ?_⟩
    rcases List.mem_cons.mp hs with z | z
    · rw [z, List.getD_eq_getElem?_getD, List.getElem?_eq_getElem hi]
      exact List.getElem_mem hi
    · exact List.mem_of_mem_eraseIdx (q.2 s z)
theorem ordersM_ne : ∀ (n : Nat) (ts : List Str), ts.length = n → ordersM n ts ≠ []
  | 0, _, _ => by simp [ordersM]
  | n + 1, ts, e => by
    have h := ordersM_ne n (ts.eraseIdx 0) (by rw [List.length_eraseIdx, if_pos (by omega)]; omega)
    obtain ⟨o, ho⟩ := List.exists_mem_of_ne_nil _ h
    intro q
    have := List.flatMap_eq_nil_iff.mp q 0 (List.mem_range.mpr (by omega))
    exact h (List.map_eq_nil_iff.mp this)
def fac : Nat → Nat
  | 0 => 1
  | n + 1 => (n + 1) * fac n
theorem ordersM_len : ∀ (n : Nat) (ts : List Str), ts.length = n → (ordersM n ts).length ≤ fac n
  | 0, _, _ => by simp [ordersM, fac]
  | n + 1, ts, e => by
    have h := flatMap_len (f := fun i => (ordersM n (ts.eraseIdx i)).map fun o => ts.getD i "" :: o) (m := fac n) (l := List.range ts.length) fun i hi => by
      have hi := List.mem_range.mp hi
      rw [List.length_map]
      exact ordersM_len n (ts.eraseIdx i) (by rw [List.length_eraseIdx, if_pos hi]; omega)
    unfold ordersM fac
    rw [List.length_range, e] at h
    rw [e]
    exact h
theorem allM_len {sh : Str → List Str} {ixs : List Fd} {co : Option Cd} {ts : List Str} {d : Nat} (hs : ∀ t, (sh t).length ≤ 4) (g : CoGood co d 10) (h3 : ts.length ≤ 3) : (allM sh ixs co ts).length ≤ 93750 := by
  have h1 := ordersM_len ts.length ts rfl
  have h2 := flatMap_len (f := plansM sh ixs co []) (m := 25 ^ 3) (l := ordersM ts.length ts) fun o ho => by
    have e := (ordersM_each ts.length ts rfl o ho).1
    exact Nat.le_trans (plansM_len hs g o []) (Nat.pow_le_pow_right (by decide) (by omega))
  have h4 : fac ts.length ≤ 6 := by
    have : ts.length = 0 ∨ ts.length = 1 ∨ ts.length = 2 ∨ ts.length = 3 := by omega
    rcases this with z | z | z | z <;> rw [z] <;> decide
  unfold allM
  have h5 := Nat.mul_le_mul_right (25 ^ 3) (Nat.le_trans h1 h4)
  have h6 : (6 * 25 ^ 3 : Nat) = 93750 := by decide
  omega
theorem allM_ne {sh : Str → List Str} {ixs : List Fd} {co : Option Cd} {ts : List Str} : allM sh ixs co ts ≠ [] := by
  intro h
  obtain ⟨o, ho⟩ := List.exists_mem_of_ne_nil _ (ordersM_ne ts.length ts rfl)
  exact plansM_ne o [] (List.flatMap_eq_nil_iff.mp h o ho)
/-! all ways are ok -/
theorem boundsM_full {t : Str} {co : Option Cd} {es : List Sp3} (h : boundsM t co = some es) : ∀ e ∈ es, emptyS e.2 = false := by
  unfold boundsM at h
  split at h
  · cases h
  · rename_i es' _
    split at h
    · cases h
    · rename_i q
      cases h
      intro e he
      cases z : emptyS e.2 with
      | false => rfl
      | true => exact absurd (List.any_eq_true.mpr ⟨e, he, z⟩) q
theorem lookO_mem {es : List Sp3} {f : Str} {s : OI × OI} (h : lookO es f = some s) : ∃ e ∈ es, e.2 = s ∧ e.1 = f := by
  unfold lookO at h
  cases q : es.find? (fun e => decide (e.1 = f)) with
  | none => rw [q] at h; cases h
  | some e =>
    rw [q] at h
    exact ⟨e, List.mem_of_find?_eq_some q, Option.some.inj h, of_decide_eq_true (List.find?_some (p := fun (e : Sp3) => decide (e.1 = f)) q)⟩
theorem waysM_ok {t : Str} {fs : List Str} {ixs : List Fd} {ahead : List Str} {co : Option Cd} {d m : Nat} (ht : PyData.strOk t = true) (hf : ∀ s ∈ fs, PyData.strOk s = true) (g : CoGood co d m) : ∀ w ∈ waysM t fs ixs ahead co, w.ok ∧ w.tab = t := by
  intro w hw
  unfold waysM at hw
  split at hw
  · cases List.mem_singleton.mp hw
    exact ⟨ht, rfl⟩
  · rename_i es hb
    rcases List.mem_append.mp hw with hw | hw
    · rcases List.mem_cons.mp hw with rfl | hw
      · exact ⟨ht, rfl⟩
      · unfold keyW at hw
        split at hw
        · cases hw
        · rename_i s hs
          cases List.mem_singleton.mp hw
          obtain ⟨e, he, rfl, _⟩ := lookO_mem hs
          exact ⟨⟨ht, boundsM_full hb e he⟩, rfl⟩
    · rcases List.mem_append.mp hw with hw | hw
      · obtain ⟨f, hfm, hw⟩ := List.mem_flatMap.mp hw
        unfold byW at hw
        split at hw
        · cases hw
        · rename_i s hs
          split at hw
          · cases List.mem_singleton.mp hw
            obtain ⟨e, he, rfl, _⟩ := lookO_mem hs
            exact ⟨⟨ht, hf f (List.mem_of_mem_tail hfm), boundsM_full hb e he⟩, rfl⟩
          · cases hw
      · obtain ⟨e, he, hw⟩ := List.mem_flatMap.mp hw
        obtain ⟨o1, o2, o3⟩ := linksL_ok (partsO_part g) e he
        unfold linkW at hw
        split at hw
        · cases List.mem_singleton.mp hw
          exact ⟨⟨ht, o2, o3⟩, rfl⟩
        · split at hw
          · cases List.mem_singleton.mp hw
            exact ⟨⟨ht, o1, o2, o3⟩, rfl⟩
          · cases hw
theorem plansM_ok {sh : Str → List Str} {ixs : List Fd} {co : Option Cd} {d m : Nat} (hs : ∀ t, ∀ s ∈ sh t, PyData.strOk s = true) (g : CoGood co d m) : ∀ (r ahead : List Str), (∀ t ∈ r, PyData.strOk t = true) → ∀ p ∈ plansM sh ixs co ahead r, p.length = r.length ∧ ∀ w ∈ p, w.ok ∧ w.tab ∈ r
  | [], _, _, p, hp => by
    cases List.mem_singleton.mp hp
    exact ⟨rfl, fun w hw => absurd hw (by simp)⟩
  | t :: r, ahead, ht, p, hp => by
    unfold plansM at hp
    obtain ⟨w, hw, hp⟩ := List.mem_flatMap.mp hp
    obtain ⟨q, hq, rfl⟩ := List.mem_map.mp hp
    have h1 := waysM_ok (ht t List.mem_cons_self) (hs t) g w hw
    have h2 := plansM_ok hs g r (ahead ++ [t]) (fun s hs => ht s (List.mem_cons_of_mem _ hs)) q hq
    refine ⟨by rw [List.length_cons, List.length_cons, h2.1], fun x hx => ?_⟩
    rcases List.mem_cons.mp hx with rfl | hx
    · exact ⟨h1.1, by rw [h1.2]; exact List.mem_cons_self⟩
    · exact ⟨(h2.2 x hx).1, List.mem_cons_of_mem _ (h2.2 x hx).2⟩
theorem allM_ok {sh : Str → List Str} {ixs : List Fd} {co : Option Cd} {d m : Nat} {ts : List Str} (hs : ∀ t, ∀ s ∈ sh t, PyData.strOk s = true) (g : CoGood co d m) (ht : ∀ t ∈ ts, PyData.strOk t = true) : ∀ p ∈ allM sh ixs co ts, p.length = ts.length ∧ ∀ w ∈ p, w.ok ∧ w.tab ∈ ts := by
  intro p hp
  obtain ⟨o, ho, hp⟩ := List.mem_flatMap.mp hp
  have e := ordersM_each ts.length ts rfl o ho
  have q := plansM_ok hs g o [] (fun t hh => ht t (e.2 t hh)) p hp
  exact ⟨q.1.trans e.1, fun w hw => ⟨(q.2 w hw).1, e.2 _ (q.2 w hw).2⟩⟩
/-! plans as data -/
def oiD : OI → PyData
  | none => .none
  | some i => .int i
def Way.enc : Way → PyData
  | .non t => .tuple [.str (Pw.s .non), .str t]
  | .all t => .tuple [.str (Pw.s .all), .str t]
  | .key t s => .tuple [.str (Pw.s .key), .str t, oiD s.1, oiD s.2]
  | .by t f s => .tuple [.str (Pw.s .by), .str t, .str f, oiD s.1, oiD s.2]
  | .keyof t x => .tuple [.str (Pw.s .keyof), .str t, x.enc]
  | .byof t f x => .tuple [.str (Pw.s .byof), .str t, .str f, x.enc]
theorem dp_oi (K : PySem.W.Frag) (H : Hp) : ∀ o : OI, Dp K H (oi o) (oiD o)
  | none => .non
  | some i => .int i
theorem RWy.dp {K : PySem.W.Frag} {H : Hp} {v : V} : ∀ {w : Way}, RWy H v w → Dp K H v w.enc
  | .non t, ⟨a, e, h⟩ => by rw [e]; exact .tup (.inl (.inl h)) (.cons (.str _) (.cons (.str _) .nil))
  | .all t, ⟨a, e, h⟩ => by rw [e]; exact .tup (.inl (.inl h)) (.cons (.str _) (.cons (.str _) .nil))
  | .key t s, ⟨a, e, h⟩ => by rw [e]; exact .tup (.inl (.inl h)) (.cons (.str _) (.cons (.str _) (.cons (dp_oi K H _) (.cons (dp_oi K H _) .nil))))
  | .by t f s, ⟨a, e, h⟩ => by rw [e]; exact .tup (.inl (.inl h)) (.cons (.str _) (.cons (.str _) (.cons (.str _) (.cons (dp_oi K H _) (.cons (dp_oi K H _) .nil)))))
  | .keyof t x, ⟨a, u, e, h, r⟩ => by rw [e]; exact .tup (.inl (.inl h)) (.cons (.str _) (.cons (.str _) (.cons (RT.dp r) .nil)))
  | .byof t f x, ⟨a, u, e, h, r⟩ => by rw [e]; exact .tup (.inl (.inl h)) (.cons (.str _) (.cons (.str _) (.cons (.str _) (.cons (RT.dp r) .nil))))
theorem oiD_lay (o : OI) : (oiD o).canLay0 = true := by cases o <;> simp [oiD, PyData.canLay0]
theorem oiD_dep (o : OI) : (oiD o).depth = 0 := by cases o <;> simp [oiD, PyData.depth]
theorem Way.lay : ∀ w : Way, w.ok → w.enc.canLay0 = true
  | .non t, h => by simp [Way.enc, PyData.canLay0, PyData.canLayAll0, Pw.strOk, (show PyData.strOk t = true from h)]
  | .all t, h => by simp [Way.enc, PyData.canLay0, PyData.canLayAll0, Pw.strOk, (show PyData.strOk t = true from h)]
  | .key t s, h => by simp [Way.enc, PyData.canLay0, PyData.canLayAll0, Pw.strOk, h.1, oiD_lay]
  | .by t f s, h => by simp [Way.enc, PyData.canLay0, PyData.canLayAll0, Pw.strOk, h.1, h.2.1, oiD_lay]
  | .keyof t x, h => by simp [Way.enc, PyData.canLay0, PyData.canLayAll0, Pw.strOk, h.1, Tm.lay x h.2.1]
  | .byof t f x, h => by simp [Way.enc, PyData.canLay0, PyData.canLayAll0, Pw.strOk, h.1, h.2.1, Tm.lay x h.2.2.1]
theorem Way.dep : ∀ w : Way, w.ok → w.enc.depth ≤ 9
  | .non t, h => by simp [Way.enc, PyData.depth, PyData.depthAll]
  | .all t, h => by simp [Way.enc, PyData.depth, PyData.depthAll]
  | .key t s, h => by simp [Way.enc, PyData.depth, PyData.depthAll, oiD_dep]
  | .by t f s, h => by simp [Way.enc, PyData.depth, PyData.depthAll, oiD_dep]
  | .keyof t x, h => by
    have q := Tm.depth x
    have z := h.2.2
    simp only [Way.enc, PyData.depth, PyData.depthAll]
    omega
  | .byof t f x, h => by
    have q := Tm.depth x
    have z := h.2.2.2
    simp only [Way.enc, PyData.depth, PyData.depthAll]
    omega
theorem RPl.dp {K : PySem.W.Frag} {H : Hp} {v : V} {ws : List Way} (R : RPl H v ws) : Dp K H v (.tuple (ws.map Way.enc)) := by
  obtain ⟨a, es, rfl, h, rfl, r⟩ := R
  refine .tup (.inl (.inl h)) ?_
  clear h
  induction es with
  | nil => exact .nil
  | cons e t ih => exact .cons (RWy.dp (r e List.mem_cons_self)) (ih fun e he => r e (List.mem_cons_of_mem _ he))
theorem plan_shaped {ws : List Way} (h : ∀ w ∈ ws, w.ok) : SeqAt.shaped (.tuple (ws.map Way.enc)) = true := by
  have l : PyData.canLayAll0 (ws.map Way.enc) = true ∧ PyData.depthAll (ws.map Way.enc) ≤ 9 := by
    induction ws with
    | nil => exact ⟨by simp [PyData.canLayAll0], by simp [PyData.depthAll]⟩
    | cons w r ih =>
      have q := ih fun w hw => h w (List.mem_cons_of_mem _ hw)
      have h1 := Way.lay w (h w List.mem_cons_self)
      have h2 := Way.dep w (h w List.mem_cons_self)
      refine ⟨by simp [PyData.canLayAll0, h1, q.1], ?_⟩
      simp only [List.map_cons, PyData.depthAll]
      omega
  unfold SeqAt.shaped
  rw [Bool.and_eq_true]
  refine ⟨by simp only [PyData.canLay0]; exact l.1, decide_eq_true ?_⟩
  simp only [PyData.depth]
  omega
/-- two of the same plan are not unlike -/
theorem plan_ne {K : PySem.W.Frag} {H : Hp} {v u : V} {ws : List Way} {Q : VK} (h1 : RPl H v ws) (h2 : RPl H u ws) (ok : ∀ w ∈ ws, w.ok) (k : Q (.bl false) H) : rNeD K v u H Q := by
  have s := plan_shaped ok
  refine ⟨_, _, h1.dp, h2.dp, s, s, ?_⟩
  rw [SeqAt.eqv_refl _ (SeqAt.canLay_of_shaped s)]
  exact k
/-! ### costs -/
def mn (a b : Int) : Int := if b < a then b else a
def wideM (s : OI × OI) (many : Int) : Int := match s with
  | (some l, some h) => mn many (h - l + 1)
  | (none, none) => many
  | _ => (many + 2) / 3
def rowsM (w : Way) (many : Int) : Int := match w with
  | .non _ => 0
  | .all _ => many
  | .key _ s => wideM s many
  | .by _ _ s => mn many (1 + wideM s many)
  | .keyof _ _ => mn many 1
  | .byof _ _ _ => (many + 3) / 4
theorem wideM_lim {s : OI × OI} {n : Int} (h : emptyS s = false) (h0 : 0 ≤ n) (h1 : n ≤ 1000) : 0 ≤ wideM s n ∧ wideM s n ≤ 1000 := by
  obtain ⟨a, b⟩ := s
  cases a with
  | none => cases b <;> simp only [wideM] <;> omega
  | some a =>
    cases b with
    | none => simp only [wideM]; omega
    | some b =>
      have q : ¬ b < a := of_decide_eq_false h
      simp only [wideM, mn]
      split <;> omega
theorem rowsM_lim {w : Way} {n : Int} (h : w.ok) (h0 : 0 ≤ n) (h1 : n ≤ 1000) : 0 ≤ rowsM w n ∧ rowsM w n ≤ 1000 := by
  cases w with
  | non t => simp [rowsM]
  | all t => exact ⟨h0, h1⟩
  | key t s => exact wideM_lim h.2 h0 h1
  | «by» t f s =>
    have q := wideM_lim h.2.2 h0 h1
    simp only [rowsM, mn]
    split <;> omega
  | keyof t x => simp only [rowsM, mn]; split <;> omega
  | byof t f x => simp only [rowsM]; omega
def costM (c : Str → Int) : Int → Int → List Way → Int
  | f, _, [] => f
  | f, t, w :: r => costM c (f + t * rowsM w (c w.tab)) (t * rowsM w (c w.tab)) r
def cost0 (c : Str → Int) (ws : List Way) : Int := costM c 0 1 ws
end G7

set_option linter.all false
set_option Elab.async false
set_option maxRecDepth 100000
set_option maxHeartbeats 4000000
namespace G7
open PySem PySem.Spec PyProof.Rows L2
section
variable {X : Cx} {T : String} {name : Str} {id : String} {r : V → List V → Hp → VK → Prop} {o e : Expr} {es : List Expr} {to : TE} {t : TA} {apos cpos : Pos}
theorem pe_bmK (K : PySem.W.Frag) (hK : X.K = K) (pa : PlainAttrs T) (slot : Slot T name id) (hty : typeOf (.builtin id) = pure (.type "method_descriptor")) (hm : MtR X id r) (ho : PE X o to) (ha : PA X (e :: es) t)
    (hbase : attributeBase o name X.env (eval o X.env) = eval o X.env := by rfl)
    (hfew : ((backTo cpos (starEach (e :: es) X.env)).all (fun x => !x.1) && (backToKw cpos (keywordEach [] X.env)).all (fun x => x.1.isSome)
      && decide ((e :: es).length + ([] : List Keyword).length + (if ([] : List Keyword).isEmpty then 0 else 1) < 30)) = true := by rfl)
    (hline : (apos.endLine == cpos.line) = true := by rfl) (hs : starEach (e :: es) X.env = (false, eval e X.env) :: starEach es X.env := by rfl) (hplain : (backTo cpos (starEach es X.env)).any (·.1) = false := by rfl) :
    PE X (.Call (.Attribute o name apos) (e :: es) [] cpos) (tBM K T r to t) := by
  subst hK
  exact pe_bm pa slot hty hm ho ha hbase hfew hline hs hplain
end
theorem seqIx {i : Int} {n : Nat} (h0 : 0 ≤ i) (h1 : i < (n : Int)) : seqIndex? i n = some i.toNat := by
  unfold seqIndex?
  simp only [show ¬ i < 0 by omega, if_false, h0, h1, decide_true, Bool.and_self, if_true]
theorem at4 {α : Type} {a b c d e : α} {r : List α} : atI (a :: b :: c :: d :: e :: r) 4 = some e := by
  unfold atI ixN
  rw [if_pos (by decide), if_pos (by simp only [List.length_cons]; omega)]
  rfl
end G7

set_option linter.all false
set_option Elab.async false
set_option maxRecDepth 100000
set_option maxHeartbeats 4000000
/-! tables of sets of any mask on whose round all slots lie: laying all anew does not fail -/
namespace SM
open PySem PySem.Spec PyProof.Rows L2
/-- the round from 0 meets all slots, and ends at 0 -/
structure Full (m : Nat) : Prop where
  hit : ∀ j, j ≤ m → ∃ b, b ≤ m ∧ lcgN m b = j
  end_ : lcgN m (m + 1) = 0
theorem full_of {m : Nat} (h1 : ((List.range (m + 1)).all fun j => (List.range (m + 1)).any fun b => lcgN m b == j) = true) (h2 : lcgN m (m + 1) = 0) : Full m := ⟨fun j hj => by
  obtain ⟨b, hb, eb⟩ := List.any_eq_true.mp (List.all_eq_true.mp h1 j (List.mem_range.mpr (Nat.lt_succ_of_le hj)))
  exact ⟨b, Nat.le_of_lt_succ (List.mem_range.mp hb), beq_iff_eq.mp eb⟩, h2⟩
theorem full_7 : Full 7 := full_of (by decide +kernel) (by decide +kernel)
theorem full_15 : Full 15 := full_of (by decide +kernel) (by decide +kernel)
theorem full_31 : Full 31 := full_of (by decide +kernel) (by decide +kernel)
theorem full_63 : Full 63 := full_of (by decide +kernel) (by decide +kernel)
theorem Full.again {m : Nat} (F : Full m) : ∀ k, lcgN m (m + 1 + k) = lcgN m k
  | 0 => F.end_
  | k + 1 => by
    show (lcgN m (m + 1 + k) * 5 + 1) % (m + 1) = (lcgN m k * 5 + 1) % (m + 1)
    rw [F.again k]
theorem Full.soon {m : Nat} (F : Full m) {i j : Nat} (hi : i ≤ m) (hj : j ≤ m) : ∃ k, k ≤ m ∧ lcgI m i k = j := by
  obtain ⟨a, ha, rfl⟩ := F.hit i hi
  obtain ⟨b, hb, rfl⟩ := F.hit j hj
  by_cases c : a ≤ b
  · exact ⟨b - a, by omega, by rw [lcgN_add]; congr 1; omega⟩
  · refine ⟨b + (m + 1) - a, by omega, ?_⟩
    rw [lcgN_add, show a + (b + (m + 1) - a) = m + 1 + b by omega, F.again]
/-- a free slot is found -/
theorem Full.free {m : Nat} (F : Full m) (owner : Array (Option Nat)) (h : Int) {j : Nat} (hj : j ≤ m) (hf : oAt owner j = none) :
    ∃ y, SetTable.layClean.free m owner (SetTable.turns m) (SetTable.bits h % (m + 1)) (SetTable.bits h) = some y ∧ y ≤ m ∧ oAt owner y = none := by
  obtain ⟨k, hk, e⟩ := F.soon (runI_le m (SetTable.bits h) 12) hj
  have e2 : runI m (SetTable.bits h) (12 + k) = j := by rw [runI_tail (bits_lt h)]; exact e
  have hw : (nth m (runAt m (SetTable.bits h % (m + 1)) (SetTable.bits h)) (off m (SetTable.bits h % (m + 1)) (SetTable.bits h) (12 + k))).j = j := by
    rw [nth_off, itL_run]
    exact e2
  obtain ⟨K, k1, k2, k3⟩ := st_least (p := fun k => oAt owner (nth m (runAt m (SetTable.bits h % (m + 1)) (SetTable.bits h)) k).j = none) _ (by show oAt owner _ = none; rw [hw]; exact hf)
  refine ⟨_, free_spec m owner (SetTable.turns m) (12 + k) _ _ K (by unfold SetTable.turns; omega) k1 (fun q hq => ?_) ?_, ?_, k2⟩
  · have z := k3 q hq
    cases y : oAt owner (nth m (runAt m (SetTable.bits h % (m + 1)) (SetTable.bits h)) q).j with
    | none => exact absurd y z
    | some _ => rfl
  · rw [show oAt owner (nth m (runAt m (SetTable.bits h % (m + 1)) (SetTable.bits h)) K).j = none from k2]
    rfl
  · have hi : SetTable.bits h % (m + 1) ≤ m := Nat.le_of_lt_succ (Nat.mod_lt _ (Nat.succ_pos _))
    have r := runEnd_bd hi
    have q := nth_in (m := m) K (runAt m (SetTable.bits h % (m + 1)) (SetTable.bits h)) (by
      show SetTable.bits h % (m + 1) + (SetTable.runEnd m (SetTable.bits h % (m + 1)) - SetTable.bits h % (m + 1)) ≤ m
      omega)
    omega
/-- who sits where when n are laid -/
structure Sits (m n : Nat) (owner : Array (Option Nat)) : Prop where
  sz : owner.size = m + 1
  lt : ∀ j k, j ≤ m → oAt owner j = some k → k < n
  all : ∀ k, k < n → ∃ j, j ≤ m ∧ oAt owner j = some k
  ps : ∃ ps : List Nat, ps.length = n ∧ ∀ j, j ≤ m → oAt owner j ≠ none → j ∈ ps
theorem Sits.zero (m : Nat) : Sits m 0 (Array.replicate (m + 1) none) :=
  ⟨by simp, fun j k hj e => (by rw [oAt_init hj] at e; cases e), fun k hk => absurd hk (Nat.not_lt_zero _), ⟨[], rfl, fun j hj e => absurd (oAt_init hj) e⟩⟩
theorem Sits.put {m n y : Nat} {owner : Array (Option Nat)} (S : Sits m n owner) (hy : y ≤ m) (hf : oAt owner y = none) : Sits m (n + 1) (owner.setIfInBounds y (some n)) := by
  have hys : y < owner.size := by rw [S.sz]; exact Nat.lt_succ_of_le hy
  have self := oAt_set_self (some n) hys
  obtain ⟨ps, p1, p2⟩ := S.ps
  refine ⟨by rw [Array.size_setIfInBounds]; exact S.sz, fun j k hj e => ?_, fun k hk => ?_, ⟨y :: ps, by rw [List.length_cons, p1], fun j hj e => ?_⟩⟩
  · by_cases c : j = y
    · rw [c, self] at e
      cases e
      exact Nat.lt_succ_self _
    · rw [oAt_set_ne _ c] at e
      exact Nat.lt_succ_of_lt (S.lt j k hj e)
  · by_cases c : k < n
    · obtain ⟨j, hj, e⟩ := S.all k c
      exact ⟨j, hj, by rw [oAt_set_ne _ (fun z => by rw [z, hf] at e; cases e)]; exact e⟩
    · obtain rfl : k = n := by omega
      exact ⟨y, hy, self⟩
  · by_cases c : j = y
    · rw [c]; exact List.mem_cons_self
    · rw [oAt_set_ne _ c] at e
      exact List.mem_cons_of_mem _ (p2 j hj e)
theorem Full.lay {m : Nat} (F : Full m) {hs : Array Int} (hn : hs.size ≤ m) : ∃ owner, SetTable.layClean m hs = some owner ∧ Sits m hs.size owner := by
  have go : ∀ (rest : List Int) (n : Nat) (owner : Array (Option Nat)), Sits m n owner → n + rest.length ≤ m → ∃ o', rest.foldl (stepF m) (some (owner, n)) = some (o', n + rest.length) ∧ Sits m (n + rest.length) o' := by
    intro rest
    induction rest with
    | nil => intro n owner S _; exact ⟨owner, rfl, S⟩
    | cons h rest ih =>
      intro n owner S hl
      rw [List.length_cons] at hl
      obtain ⟨ps, p1, p2⟩ := S.ps
      obtain ⟨j0, h0, n0⟩ := st_missing ps (m + 1) (by omega)
      have f0 : oAt owner j0 = none := by
        cases z : oAt owner j0 with
        | none => rfl
        | some k => exact absurd (p2 j0 (by omega) (by rw [z]; exact fun e => nomatch e)) n0
      obtain ⟨y, e1, e2, e3⟩ := F.free owner h (by omega) f0
      obtain ⟨o', g1, g2⟩ := ih (n + 1) _ (S.put e2 e3) (by omega)
      refine ⟨o', ?_, ?_⟩
      · rw [List.foldl_cons, stepF_some e1, g1, List.length_cons]
        congr 2
        omega
      · rw [List.length_cons, show n + (rest.length + 1) = n + 1 + rest.length by omega]
        exact g2
  obtain ⟨o', g1, g2⟩ := go hs.toList 0 _ (Sits.zero m) (by rw [Array.length_toList]; omega)
  rw [Nat.zero_add, Array.length_toList] at g1 g2
  refine ⟨o', ?_, g2⟩
  rw [layClean_eq, g1]
  rfl
/-- a table laid from nothing: rising, all there -/
theorem Full.laid {m : Nat} (F : Full m) {hs : Array Int} (hn : hs.size ≤ m) (finger moves : Nat) (led plain : Bool) :
    ∃ t order, SetTable.laid m finger moves led plain hs = some (t, order) ∧ order.toList.Perm (List.range hs.size) ∧ Ris t.place.toList ∧ t.place.size = hs.size ∧ t.dummies = #[] ∧ t.mask = m ∧ t.led = led := by
  obtain ⟨owner, e, S⟩ := F.lay hn
  have ris := ris_live (fun j => owner.getD j none) (List.range (m + 1)) (by
    unfold Ris
    first | exact List.pairwise_lt_range | exact List.pairwise_lt_range _)
  have r1 : Ris ((liveOf m owner).map (·.1)) := ris.1
  have nd : ((liveOf m owner).map (·.1)).Nodup := List.Pairwise.imp (fun h => Nat.ne_of_lt h) r1
  have hlen : (liveOf m owner).length = hs.size := by
    obtain ⟨ps, p1, p2⟩ := S.ps
    have a := nat_nodup_len ((liveOf m owner).map (·.1)) ps nd fun x hx => by
      obtain ⟨⟨y, k⟩, hq, rfl⟩ := List.mem_map.mp hx
      obtain ⟨b1, b2⟩ := (mem_live S.sz).1 hq
      exact p2 y b1 (by rw [b2]; exact fun z => nomatch z)
    have b := nat_nodup_len (List.range hs.size) ((liveOf m owner).map (·.2)) List.nodup_range fun k hk => by
      obtain ⟨j, b1, b2⟩ := S.all k (List.mem_range.mp hk)
      exact List.mem_map.mpr ⟨(j, k), (mem_live S.sz).2 ⟨b1, b2⟩, rfl⟩
    rw [List.length_map, p1] at a
    rw [List.length_map, List.length_range] at b
    omega
  refine ⟨{ mask := m, place := ((liveOf m owner).map (·.1)).toArray, dummies := #[], finger, led, moves, plain }, ((liveOf m owner).map (·.2)).toArray, ?_, ?_, r1, ?_, rfl, rfl, rfl⟩
  · unfold SetTable.laid
    rw [e]
    rfl
  · refine perm_range hs.size _ (by show ((liveOf m owner).map (·.2)).length = _; rw [List.length_map]; exact hlen) fun k hk => ?_
    obtain ⟨j, b1, b2⟩ := S.all k hk
    exact List.mem_map.mpr ⟨(j, k), (mem_live S.sz).2 ⟨b1, b2⟩, rfl⟩
  · show ((liveOf m owner).map (·.1)).toArray.size = _
    rw [List.size_toArray, List.length_map]
    exact hlen
end SM

set_option linter.all false
set_option Elab.async false
set_option maxRecDepth 100000
set_option maxHeartbeats 4000000
/-! sets of texts: of a dict's keys, the union of two, what they hold; no word of the order -/
namespace TU
open PySem PySem.Spec PyProof.Rows L2
def txOf (e : Int × Value) : Str := match e.2 with
  | .str x _ => x
  | _ => Str.empty
def GoodT (w : World) (e : Int × Value) : Prop := ∃ x tk, e = (hashStr w x, Value.str x tk)
abbrev txs (es : Array (Int × Value)) : List Str := es.toList.map txOf
structure TSt (w : World) (h : Heap) (a : Addr) (es : Array (Int × Value)) (ep : Nat) (t : SetTable) : Prop where
  here : ∃ o, h.get? a = some o ∧ o.ExactSet ∧ o.data = .set es ep t
  good : ∀ e ∈ es.toList, GoodT w e
  few : es.size < 64
  fits : t.fits es.size = true
  ris : Ris t.place.toList
  led : w.params.followText "set-order" = true ∨ t.led = true
section
variable {P : Program} {w : World} {A : Around} {E : Value → Shared → Prop} {s : Shared} {a : Addr} {es : Array (Int × Value)} {ep : Nat} {t : SetTable}
theorem good_elems {l : List (Int × Value)} (g : ∀ e ∈ l, GoodT w e) : ElemsOf (strKind P w) l := fun e he => by
  obtain ⟨x, tk, rfl⟩ := g e he
  exact ⟨⟨x, strKind_is _ _ _ _, rfl⟩, rfl⟩
theorem bound {n : Nat} (h : n < 64) : n < scanBound := by unfold scanBound; omega
theorem perm_size {es es' : Array (Int × Value)} (p : es'.toList.Perm es.toList) : es'.size = es.size := by rw [← Array.length_toList, p.length_eq, Array.length_toList]
/-- what follows when one text more is laid -/
theorem addTail {g : Bool → Sem Unit} (hg : ∀ (b : Bool) (s₁ : Shared) (Q' : Unit → Shared → Prop), Q' () s₁ → wpAny (model P w) A (g b) Q' E s₁)
    {o : Obj} (ho : s.heap.get? a = some o) (hex : o.ExactSet) (hd : o.data = .set es ep t) {es1 : Array (Int × Value)} {t2 : SetTable} (g1 : ∀ e ∈ es1.toList, GoodT w e) (hb1 : es1.size < 64) (hf2 : t2.fits es1.size = true)
    (hr : Ris t2.place.toList) (hl : w.params.followText "set-order" = true ∨ t2.led = true) {wasDummy : Bool} {R : Option Bool → Shared → Prop}
    (hR : ∀ h' es' ep' t', Heap.SameBut a s.heap h' → TSt w h' a es' ep' t' → es'.toList.Perm es1.toList → R (some true) { s with heap := h' }) :
    wpAny (model P w) A (do
        storeSet a es1 t2
        if (!wasDummy && t2.tooFull) = true then do
            g (relayAll t2 es1 (SetTable.grown es1.size)).2.2
            storeSet a (relayAll t2 es1 (SetTable.grown es1.size)).1 (relayAll t2 es1 (SetTable.grown es1.size)).2.1
            pure (some true)
          else pure (some true)) R E s := by
  refine wpAny_bind (wpAny_storeSet_of ho hd ?_ (by rw [sizeLine_eq]; omega))
  have ho1 := store_at (es' := es1) (t' := t2) ho hd
  have sb1 := Heap.SameBut.update s.heap a (Obj.putSet es1 t2)
  split
  · have pm := relayAll_perm t2 es1 (SetTable.grown es1.size)
    have hf3 := relayAll_fits t2 es1 (SetTable.grown es1.size)
    have hr3 := relayAll_ris t2 es1 (SetTable.grown es1.size)
    have hl3 := relayAll_led t2 es1 (SetTable.grown es1.size)
    generalize relayAll t2 es1 (SetTable.grown es1.size) = Z at pm hf3 hr3 hl3 ⊢
    obtain ⟨es2, t3, gave⟩ := Z
    dsimp only at pm hf3 hr3 hl3 ⊢
    have hsz := perm_size pm
    refine wpAny_bind (hg _ _ _ (wpAny_bind (wpAny_storeSet_of ho1 rfl ?_ (by rw [hsz, sizeLine_eq]; omega))))
    have ho2 := store_at (es' := es2) (t' := t3) ho1 rfl
    exact wpAny_pure (hR _ es2 _ t3 (sb1.trans (Heap.SameBut.update _ a _)) ⟨⟨_, ho2, hex, rfl⟩, fun e he => g1 e (pm.mem_iff.mp he), by rw [hsz]; exact hb1, hf3, hr3, hl.imp id fun z => by rw [hl3]; exact z⟩ pm)
  · exact wpAny_pure (hR _ es1 _ t2 sb1 ⟨⟨_, ho1, hex, rfl⟩, g1, hb1, hf2, hr, hl⟩ (List.Perm.refl _))
/-- a text is put in -/
theorem addT (R : TSt w s.heap a es ep t) (x : Str) (tk : Tok) (room : es.size + 1 < 64) {Q : Bool → Shared → Prop}
    (hQ : ∀ b h' es' ep' t', Heap.SameBut a s.heap h' → TSt w h' a es' ep' t' → (∀ y, y ∈ txs es' ↔ y = x ∨ y ∈ txs es) → es'.size ≤ es.size + 1 → Q b { s with heap := h' }) :
    wpAny (model P w) A (setAddHashed a (.str x tk) (hashStr w x)) Q E s := by
  obtain ⟨o, ho, hex, hd⟩ := R.here
  have hkey : (strKind P w).is x (.str x tk) = true := strKind_is _ _ _ _
  have hsc : (Value.str x tk).scannable = true := rfl
  have hel : ElemsOf (strKind P w) es.toList := good_elems R.good
  show wpAny _ _ (setAddHashed a (.str x tk) ((strKind P w).hash x)) _ _ _
  unfold setAddHashed setAddHashedIn
  refine wpAny_holding (wpAny_bind (wpAny_setState_of ho hd R.fits ?_))
  dsimp only
  rw [byScan_of hsc (bound R.few) hel]
  simp only [↓reduceIte]
  unfold setAddByScan
  refine wpAny_bind (wpAny_bind (wpAny_rule ?_))
  refine wpAny_bind (wpAny_setScan_of hkey ho hd R.fits hel ?_)
  cases hfi : List.findIdx? (fun e => (strKind P w).is x e.2) es.toList with
  | some j =>
    dsimp only
    obtain ⟨hj, pj, _⟩ := List.findIdx?_eq_some_iff_getElem.mp hfi
    have hm : x ∈ txs es := by
      have me := List.getElem_mem hj
      obtain ⟨y, tk', e⟩ := R.good _ me
      refine List.mem_map.mpr ⟨_, me, ?_⟩
      rw [e] at pj ⊢
      exact ((strKind P w).inj _ x y pj (strKind_is _ _ _ _)).symm
    exact wpAny_pure (wpAny_pure (hQ _ s.heap es ep t (Heap.SameBut.refl a s.heap) R (fun y => ⟨.inr, fun z => z.elim (fun e => e ▸ hm) id⟩) (Nat.le_succ _)))
  | none =>
    dsimp only
    have hgw : ∀ (b : Bool) {s₁ : Shared} {Q' : Unit → Shared → Prop}, Q' () s₁ → wpAny (model P w) A (match b with | true => rule "set.scan.the-table-gave-way" | false => pure ()) Q' E s₁ :=
      fun b s₁ Q' q => by cases b <;> first | exact wpAny_pure q | exact wpAny_rule q
    have pm := layNew_perm t es ((strKind P w).hash x) (.str x tk)
    have hf1 := layNew_fits t es ((strKind P w).hash x) (.str x tk)
    have hr1 := layNew_ris t es ((strKind P w).hash x) (.str x tk) R.ris
    have hl1 := layNew_led t es ((strKind P w).hash x) (.str x tk)
    generalize layNew t es ((strKind P w).hash x) (.str x tk) = Z at pm hf1 hr1 hl1 ⊢
    obtain ⟨es1, t1, wasDummy, gave⟩ := Z
    dsimp only at pm hf1 hr1 hl1 ⊢
    rw [Array.toList_push] at pm
    have pc : es1.toList.Perm ((hashStr w x, Value.str x tk) :: es.toList) := pm.trans (List.perm_append_singleton _ _)
    have g1 : ∀ e ∈ es1.toList, GoodT w e := fun e he => by
      rcases List.mem_cons.mp (pc.mem_iff.mp he) with z | z
      · exact ⟨x, tk, z⟩
      · exact R.good e z
    have hsz : es1.size = es.size + 1 := by rw [← Array.length_toList, pc.length_eq, List.length_cons, Array.length_toList]
    have hb1 : es1.size < 64 := by omega
    have hled : w.params.followText "set-order" = true ∨ t1.led = true := R.led.imp id fun z => by rw [hl1]; exact z
    have fin : ∀ h' es' ep' t', Heap.SameBut a s.heap h' → TSt w h' a es' ep' t' → es'.toList.Perm es1.toList → Q true { s with heap := h' } := fun h' es' ep' t' sb r p =>
      hQ true h' es' ep' t' sb r (fun y => by
        rw [((p.trans pc).map txOf).mem_iff, List.map_cons, List.mem_cons]
        rfl) (by rw [perm_size p, hsz]; exact Nat.le_refl _)
    refine wpAny_bind (hgw _ ?_)
    split
    · refine wpAny_bind ?_
      rw [hashByValue_scannable 8 hsc]
      refine wpAny_pure ?_
      refine addTail ?_ ho hex hd g1 hb1 ?_ ?_ ?_ ?_
      · intro b s₁ Q' q; cases b <;> first | exact wpAny_pure q | exact wpAny_rule q
      · first | (split <;> first | exact hf1 | exact SetTable.fits_plain_off hf1) | exact hf1 | exact SetTable.fits_plain_off hf1
      · first | (split <;> exact hr1) | exact hr1
      · first | (split <;> exact hled) | exact hled
      · intro h' es' ep' t' sb r p; dsimp only; exact wpAny_pure (fin h' es' ep' t' sb r p)
    · refine wpAny_bind (wpAny_pure ?_)
      simp only [↓reduceIte]
      refine addTail ?_ ho hex hd g1 hb1 hf1 hr1 hled ?_
      · intro b s₁ Q' q; cases b <;> first | exact wpAny_pure q | exact wpAny_rule q
      · intro h' es' ep' t' sb r p; dsimp only; exact wpAny_pure (fin h' es' ep' t' sb r p)
abbrev noSet (w : World) : Obj := { cls := .type "set", dict := none, data := .set #[] 0 (.fresh 0 0 (!w.params.followText "set-order")) }
theorem tst_new {h : Heap} (ho : h.get? a = some (noSet w)) : TSt w h a #[] 0 (.fresh 0 0 (!w.params.followText "set-order")) where
  here := ⟨_, ho, ⟨rfl, rfl, rfl⟩, rfl⟩
  good := fun e he => (by simp at he)
  few := by decide
  fits := by rfl
  ris := List.Pairwise.nil
  led := by
    show _ ∨ (!w.params.followText "set-order") = true
    cases w.params.followText "set-order"
    · exact .inr rfl
    · exact .inl rfl
theorem TSt.keep {h h' : Heap} (R : TSt w h a es ep t) (k : ∀ o, h.get? a = some o → h'.get? a = some o) : TSt w h' a es ep t := by
  obtain ⟨o, ho, r⟩ := R.here
  exact ⟨⟨o, k o ho, r⟩, R.good, R.few, R.fits, R.ris, R.led⟩
/-- room is made: the table may be laid anew -/
theorem roomed {n : Nat} (R : TSt w s.heap a es ep t) {m : Nat} (hn : es.size + n < 64) (hfull : ∀ wanted, t.roomFor n = some wanted → ∃ m, SM.Full m ∧ SetTable.sizeAbove wanted - 1 = m ∧ es.size ≤ m ∧ SetTable.sizeAbove wanted ≤ 128) {Q : Unit → Shared → Prop}
    (hQ : ∀ h' es' ep' t', Heap.SameBut a s.heap h' → TSt w h' a es' ep' t' → (∀ y, y ∈ txs es' ↔ y ∈ txs es) → es'.size = es.size → (t'.mask = t.mask ∧ t.roomFor n = none ∧ t'.dummies = t.dummies ∨ (∃ wanted, t.roomFor n = some wanted ∧ t'.mask = SetTable.sizeAbove wanted - 1 ∧ t'.dummies = #[])) → Q () { s with heap := h' }) :
    wpAny (model P w) A (setRoomFor a n) Q E s := by
  obtain ⟨o, ho, hex, hd⟩ := R.here
  unfold setRoomFor
  refine wpAny_bind (wpAny_setState_of ho hd R.fits ?_)
  dsimp only
  cases e : t.roomFor n with
  | none => exact wpAny_pure (hQ s.heap es ep t (Heap.SameBut.refl a s.heap) R (fun y => Iff.rfl) rfl (.inl ⟨rfl, e, rfl⟩))
  | some wanted =>
    dsimp only
    obtain ⟨m, F, em, hem, hw⟩ := hfull wanted e
    obtain ⟨t', order, e1, pm, r1, r2, r3, r4, r5⟩ := F.laid (hs := es.map (·.1)) (by rw [Array.size_map]; exact hem) t.finger (t.movedTo (SetTable.sizeAbove wanted - 1)) t.led t.plain
    rw [Array.size_map] at pm r2
    have er : t.relaid (es.map (·.1)) wanted = some (t', order) := by
      unfold SetTable.relaid
      rw [em] at e1 ⊢
      exact e1
    have pe : (order.filterMap (es[·]?)).toList.Perm es.toList := by
      rw [Array.toList_filterMap]
      have q := pm.filterMap (fun i => es[i]?)
      rw [filterMap_getElem?_range] at q
      exact q
    have hs2 := perm_size pe
    rw [setRelay_eq]
    refine wpAny_bind (wpAny_setState_of ho hd R.fits ?_)
    dsimp only
    refine wp_if_neg (by rw [sizeLine_eq]; omega) ?_
    try refine wpAny_bind (wpAny_pure ?_)
    rw [er]
    dsimp only
    refine wpAny_bind ?_
    refine wp_if_neg (by rw [hs2]; simp) ?_
    try refine wpAny_bind (wpAny_pure ?_)
    refine wpAny_pure ?_
    dsimp only
    have few := R.few
    refine wpAny_storeSet_of ho hd ?_ (by rw [hs2, sizeLine_eq]; omega)
    refine hQ _ (order.filterMap (es[·]?)) (ep + 1) t' (Heap.SameBut.update ..) ⟨⟨_, store_at ho hd, ⟨hex.1, hex.2.1, hex.2.2⟩, rfl⟩, fun x hx => R.good x (pe.mem_iff.mp hx), by rw [hs2]; exact R.few, ?_, r1, by rw [r5]; exact R.led⟩ (fun y => (pe.map txOf).mem_iff) hs2 (.inr ⟨wanted, e, by rw [r4, em], r3⟩)
    unfold SetTable.fits SetTable.fill
    rw [r3, hs2, r4, Bool.and_eq_true, beq_iff_eq, decide_eq_true_eq, show (#[] : Array Nat).size = 0 from rfl]
    omega
theorem cond_false {c : Bool} (h : c = false) : ¬ (c = true) := by rw [h]; decide
/-- an empty set takes a dict's keys -/
theorem takeKeys {d : Addr} {id : String} {od : Obj} {ds : Array DictEntry} {epd : Nat} (R : TSt w s.heap a #[] ep t) (hm : t.mask = 7) (hdm : t.dummies = #[]) (hpl : t.place = #[]) (hne : d ≠ a) (hod : s.heap.get? d = some od) (hcd : od.cls = .type "dict") (hdd : od.data = .dict ds epd) (hsys : (d == sysModules) = false)
    (hkeys : ∀ e ∈ ds.toList, ∃ x tk, e.key = Value.str x tk ∧ e.hash = hashStr w x) (hfew : ds.size ≤ 8) {Q : Unit → Shared → Prop}
    (hQ : ∀ h' es' ep' t', Heap.SameBut a s.heap h' → TSt w h' a es' ep' t' → (∀ y, y ∈ txs es' ↔ ∃ e ∈ ds.toList, ∃ tk, e.key = Value.str y tk) → es'.size ≤ ds.size → Q () { s with heap := h' }) :
    wpAny (model P w) A (Builtin.Frozenset.updateFrom id a (.ref d)) Q E s := by
  have hT : s.TypeIs (.ref d) "dict" := ⟨od, hod, hcd⟩
  unfold Builtin.Frozenset.updateFrom Builtin.Frozenset.isAnySet
  have e1 : wpAny (model P w) A (isInstance (.ref d) (.type "set") <||> isInstance (.ref d) (.type "frozenset")) (fun b s' => b = false ∧ s' = s) E s := by
    refine wpAny_bind (wpAny_isInstance hT PySem.F.sub_dict_set ?_)
    exact wpAny_isInstance hT PySem.F.sub_dict_frozenset ⟨rfl, rfl⟩
  refine wpAny_bind (wpAny_mono e1 (fun b s' ⟨hb, hs⟩ => ?_) fun _ _ z => z)
  rw [hb, hs]
  refine wp_if_neg (by decide) ?_
  try refine wpAny_bind (wpAny_pure ?_)
  refine wpAny_bind (wpAny_typeOf hT ?_)
  refine wp_if_pos (by decide) ?_
  refine wpAny_bind (wpAny_rule ?_)
  unfold Builtin.Frozenset.addrOf
  refine wpAny_bind (wpAny_pure ?_)
  dsimp only
  refine wp_if_neg (cond_false hsys) ?_
  try refine wpAny_bind (wpAny_pure ?_)
  refine wpAny_bind (wpAny_dictEpoch hod hdd ?_)
  refine wpAny_bind (wpAny_dictEntries hod hdd ?_)
  have hroom : ∀ wanted, t.roomFor ds.size = some wanted → ∃ m, SM.Full m ∧ SetTable.sizeAbove wanted - 1 = m ∧ (#[] : Array (Int × Value)).size ≤ m ∧ SetTable.sizeAbove wanted ≤ 128 := by
    intro wanted e
    unfold SetTable.roomFor SetTable.fill at e
    rw [hpl, hdm, hm] at e
    have : wanted = ds.size * 2 := by
      split at e
      · have q := Option.some.inj e
        rw [← q]
        simp
      · cases e
    have h8 : ds.size = 0 ∨ ds.size = 1 ∨ ds.size = 2 ∨ ds.size = 3 ∨ ds.size = 4 ∨ ds.size = 5 ∨ ds.size = 6 ∨ ds.size = 7 ∨ ds.size = 8 := by omega
    rw [this]
    rcases h8 with z | z | z | z | z | z | z | z | z <;> rw [z]
    · exact ⟨7, SM.full_7, by decide +kernel, by decide, by decide +kernel⟩
    · exact ⟨7, SM.full_7, by decide +kernel, by decide, by decide +kernel⟩
    · exact ⟨7, SM.full_7, by decide +kernel, by decide, by decide +kernel⟩
    · exact ⟨7, SM.full_7, by decide +kernel, by decide, by decide +kernel⟩
    · exact ⟨15, SM.full_15, by decide +kernel, by decide, by decide +kernel⟩
    · exact ⟨15, SM.full_15, by decide +kernel, by decide, by decide +kernel⟩
    · exact ⟨15, SM.full_15, by decide +kernel, by decide, by decide +kernel⟩
    · exact ⟨15, SM.full_15, by decide +kernel, by decide, by decide +kernel⟩
    · exact ⟨31, SM.full_31, by decide +kernel, by decide, by decide +kernel⟩
  refine wpAny_bind (roomed (m := 0) R (by show 0 + ds.size < 64; omega) hroom fun h1 es1 ep1 t1 sb1 R1 m1 z1 _ => ?_)
  have hod1 : h1.get? d = some od := (sb1.2 d hne).trans hod
  refine wpAny_bind (wpAny_dictEntries (s := { s with heap := h1 }) hod1 hdd ?_)
  refine wpAny_bind ?_
  refine TI.forIn_rng _ (fun rest b s' => ∃ i h' es' ep' t', rest = List.range' i (ds.size - i) ∧ i ≤ ds.size ∧ s' = { s with heap := h' } ∧ Heap.SameBut a s.heap h' ∧ TSt w h' a es' ep' t' ∧ (∀ y, y ∈ txs es' ↔ ∃ e ∈ ds.toList.take i, ∃ tk, e.key = Value.str y tk) ∧ es'.size ≤ i) _ ?_ ?_ _
    ⟨0, h1, es1, ep1, t1, rfl, Nat.zero_le _, rfl, sb1, R1, fun y => by rw [m1 y]; simp, by rw [z1]; exact Nat.le_refl 0⟩
  · rintro i0 rest b s' ⟨i, h', es', ep', t', er, hi, rfl, sb', R', mm, zz⟩
    have hlt : i < ds.size := by
      by_cases c : i < ds.size
      · exact c
      · rw [show ds.size - i = 0 by omega] at er
        cases er
    have er2 : i0 :: rest = i :: List.range' (i + 1) (ds.size - (i + 1)) := by
      rw [er, show ds.size - i = (ds.size - (i + 1)) + 1 by omega]
      rfl
    injection er2 with e1 e2
    subst e1
    have hod2 : h'.get? d = some od := (sb'.2 d hne).trans hod
    refine wpAny_bind (wpAny_dictEntries (s := { s with heap := h' }) hod2 hdd ?_)
    have hget : ds[i0]? = some ds[i0] := Array.getElem?_eq_getElem hlt
    have hmem : ds[i0] ∈ ds.toList := by simp
    generalize ds[i0] = e at hget hmem
    obtain ⟨x, tk, ek, eh⟩ := hkeys e hmem
    rw [hget]
    dsimp only
    rw [ek, eh]
    refine wpAny_bind (wpAny_holding (addT (s := { s with heap := h' }) R' x tk (by omega) fun b2 h2 es2 ep2 t2 sb2 R2 m2 z2 => ?_))
    have sb3 := sb'.trans sb2
    refine wpAny_bind (wpAny_dictEpoch (s := { s with heap := h2 }) ((sb3.2 d hne).trans hod) hdd ?_)
    refine wp_if_neg (by simp) ?_
    have fin : ∃ i h' es' ep' t', rest = List.range' i (ds.size - i) ∧ i ≤ ds.size ∧ ({ s with heap := h2 } : Shared) = { s with heap := h' } ∧ Heap.SameBut a s.heap h' ∧ TSt w h' a es' ep' t' ∧ (∀ y, y ∈ txs es' ↔ ∃ e ∈ ds.toList.take i, ∃ tk, e.key = Value.str y tk) ∧ es'.size ≤ i := by
      refine ⟨i0 + 1, h2, es2, ep2, t2, e2, hlt, rfl, sb3, R2, fun y => ?_, by omega⟩
      have ht : ds.toList.take (i0 + 1) = ds.toList.take i0 ++ [e] := by
        rw [List.take_add_one, Array.getElem?_toList, hget]
        rfl
      rw [m2 y, mm y, ht]
      constructor
      · rintro (z | ⟨e', he', q⟩)
        · exact ⟨e, List.mem_append_right _ (List.mem_singleton.mpr rfl), tk, z ▸ ek⟩
        · exact ⟨e', List.mem_append_left _ he', q⟩
      · rintro ⟨e', he', tk', q⟩
        rcases List.mem_append.mp he' with z | z
        · exact .inr ⟨e', z, tk', q⟩
        · rw [List.mem_singleton.mp z, ek] at q
          injection q with q1 _
          exact .inl q1.symm
    exact wpAny_pure fin
  · rintro b s' ⟨i, h', es', ep', t', er, hi, rfl, sb', R', mm, zz⟩
    have hi2 : i = ds.size := by
      by_cases c : i < ds.size
      · rw [show ds.size - i = (ds.size - (i + 1)) + 1 by omega] at er
        cases er
      · omega
    subst hi2
    rw [List.take_of_length_le (by rw [Array.length_toList]; exact Nat.le_refl _)] at mm
    exact wpAny_pure (hQ h' es' ep' t' sb' R' mm zz)
theorem room_masks : ∀ k : Fin 17, (SetTable.sizeAbove (k.val * 2) - 1 = 7 ∨ SetTable.sizeAbove (k.val * 2) - 1 = 15 ∨ SetTable.sizeAbove (k.val * 2) - 1 = 31 ∨ SetTable.sizeAbove (k.val * 2) - 1 = 63) ∧ k.val ≤ SetTable.sizeAbove (k.val * 2) - 1 ∧ SetTable.sizeAbove (k.val * 2) ≤ 128 := by decide +kernel
theorem full_room {k : Nat} (h : k ≤ 16) : SM.Full (SetTable.sizeAbove (k * 2) - 1) ∧ k ≤ SetTable.sizeAbove (k * 2) - 1 ∧ SetTable.sizeAbove (k * 2) ≤ 128 := by
  obtain ⟨a, b, c⟩ := room_masks ⟨k, by omega⟩
  refine ⟨?_, b, c⟩
  rcases a with a | a | a | a <;> rw [show SetTable.sizeAbove (k * 2) - 1 = _ from a]
  · exact SM.full_7
  · exact SM.full_15
  · exact SM.full_31
  · exact SM.full_63
theorem TSt.place {h : Heap} (R : TSt w h a es ep t) : t.place.size = es.size := by
  have f := R.fits
  unfold SetTable.fits at f
  rw [Bool.and_eq_true, beq_iff_eq] at f
  exact f.1
theorem room_some {n wanted : Nat} {h : Heap} (R : TSt w h a es ep t) (e : t.roomFor n = some wanted) : wanted = (es.size + n) * 2 := by
  unfold SetTable.roomFor at e
  rw [R.place] at e
  split at e
  · exact (Option.some.inj e).symm
  · cases e
theorem setMerge_eq (s o : Addr) (each : Sem Unit) : setMerge s o each = (do
    if s == o then return
    let (eo, epoch, to) ← setState o
    if eo.isEmpty then return
    setRoomFor s eo.size
    let (_, _, ts) ← setState s
    match ts.road to with
    | .slotForSlot => storeSet s eo { to with finger := ts.finger, led := ts.led && to.led, moves := ts.moves, plain := ts.plain && to.plain }
    | .clean =>
      let (es, t) ← (do
        let some (t, order) := SetTable.laid ts.mask ts.finger ts.moves (ts.led && to.led) (ts.plain && to.plain) (eo.map (·.1)) | unsupported "internal:set-table-without-room"
        let es' := order.filterMap (eo[·]?)
        if es'.size != eo.size then unsupported "internal:set-table-lost-an-element"
        pure (es', t) : Sem (Array (Int × Value) × SetTable))
      storeSet s es t
    | .oneByOne =>
      for (h, x) in ← setWalkUnseen o [s] (some s) do
        let _ ← holding [x] (setAddHashed s x h)
        each
        if (← setState o).2.1 != epoch then unsupported "set.changed-during-merge") := by rfl
theorem setWalk_eq (a : Addr) : setWalk a = (do
    let (es, epoch, t) ← setState a
    if ← setsByText then return pickOrder ((← ask).params.setOrder a epoch) es
    if !t.plain && es.size > 1 then return (← drawOrder es.size es.toList).toArray
    (do if !t.led && es.size > 1 then unsupported "set:maker-not-led" : Sem Unit)
    return es) := by rfl
/-- the walk of a set that nobody sees -/
theorem walkUnseen {S O : Addr} {eo : Array (Int × Value)} {epo : Nat} {to : SetTable} (RO : TSt w s.heap O eo epo to) (RS : TSt w s.heap S es ep t) {Q : Array (Int × Value) → Shared → Prop}
    (hQ : ∀ h' ep' t' (out : Array (Int × Value)), Heap.SameBut S s.heap h' → TSt w h' S es ep' t' → out.toList.Perm eo.toList → Q out { s with heap := h' }) : wpAny (model P w) A (setWalkUnseen O [S] (some S)) Q E s := by
  obtain ⟨oo, hoo, hexo, hdo⟩ := RO.here
  obtain ⟨os, hos, hexs, hds⟩ := RS.here
  have plain : ∀ out : Array (Int × Value), out.toList.Perm eo.toList → Q out s := fun out p => hQ s.heap ep t out (Heap.SameBut.refl S s.heap) RS p
  unfold setWalkUnseen
  refine wpAny_bind (wpAny_setState_of hoo hdo RO.fits ?_)
  dsimp only
  refine wpAny_bind (wpAny_byText ?_)
  by_cases c : (w.params.followText "set-order" || (to.led && to.plain) || decide (eo.size ≤ 1)) = true
  · refine wp_if_pos c ?_
    rw [setWalk_eq]
    refine wpAny_bind (wpAny_setState_of hoo hdo RO.fits ?_)
    dsimp only
    refine wpAny_bind (wpAny_byText ?_)
    by_cases b : w.params.followText "set-order" = true
    · refine wp_if_pos b ?_
      refine wpAny_bind (wpAny_askSetting ?_)
      exact wpAny_pure (plain _ (pick_perm _ _))
    · refine wp_if_neg b ?_
      rw [Bool.or_eq_true, Bool.or_eq_true, Bool.and_eq_true, decide_eq_true_eq] at c
      have d1 : (!to.plain && decide (eo.size > 1)) = false := by
        rcases c with (c | c) | c
        · exact absurd c b
        · rw [c.2]; rfl
        · rw [decide_eq_false (by omega), Bool.and_false]
      have d2 : (!to.led && decide (eo.size > 1)) = false := by
        rcases c with (c | c) | c
        · exact absurd c b
        · rw [c.1]; rfl
        · rw [decide_eq_false (by omega), Bool.and_false]
      refine wp_if_neg (cond_false d1) ?_
      refine wpAny_bind (wp_if_neg (cond_false d2) (wpAny_pure ?_))
      exact wpAny_pure (plain _ (List.Perm.refl _))
  · refine wp_if_neg c ?_
    have quiet : wpAny (model P w) A (setsQuiet [O, S]) (fun b s' => b = true ∧ s' = s) E s := by
      have inner : ∀ (es : Array (Int × Value)), (∀ e ∈ es.toList, GoodT w e) → ∀ (f : Int × Value → Option Bool × Unit → Sem (ForInStep (Option Bool × Unit))), (∀ e r, GoodT w e → f e r = pure (ForInStep.yield (none, ()))) →
          wpAny (model P w) A (forIn es (none, ()) f) (fun r s' => r.1 = none ∧ s' = s) E s := by
        intro es g f hf
        rw [← Array.forIn_toList]
        refine wpAny_forIn_list _ (fun rest r s' => (r.1 = none ∧ s' = s) ∧ ∀ e ∈ rest, GoodT w e) _ ?_ ?_ _ _ ⟨⟨rfl, rfl⟩, g⟩
        · rintro e rest r s' ⟨⟨_, hs⟩, ha⟩
          rw [hf e r (ha e List.mem_cons_self)]
          exact wpAny_pure ⟨⟨rfl, hs⟩, fun u hu => ha u (List.mem_cons_of_mem _ hu)⟩
        · rintro r s' ⟨h, _⟩
          exact h
      unfold setsQuiet
      refine wpAny_bind (wpAny_forIn_list _ (fun rest r s' => (r.1 = none ∧ s' = s) ∧ ∀ b ∈ rest, b = O ∨ b = S) _ ?_ ?_ _ _ ⟨⟨rfl, rfl⟩, fun b hb => by simpa using hb⟩)
      · rintro b rest r s' ⟨⟨hr, hs⟩, ha⟩
        rw [hs]
        have hb : ∃ es ep t, TSt w s.heap b es ep t := by
          rcases ha b List.mem_cons_self with e | e
          · rw [e]; exact ⟨_, _, _, RO⟩
          · rw [e]; exact ⟨_, _, _, RS⟩
        obtain ⟨es2, ep2, t2, R2⟩ := hb
        obtain ⟨oo, h1, h2, h3⟩ := R2.here
        refine wpAny_bind (wpAny_setEntries_of h1 h3 R2.fits ?_)
        refine wpAny_bind (wpAny_mono (inner es2 R2.good _ ?_) (fun r s' ⟨h1, h2⟩ => ?_) fun _ _ z => z)
        · intro e r g
          obtain ⟨x, tk, rfl⟩ := g
          rfl
        · dsimp only
          rw [h1, h2]
          exact wpAny_pure ⟨⟨rfl, rfl⟩, fun u hu => ha u (List.mem_cons_of_mem _ hu)⟩
      · rintro r s' ⟨⟨h1, h2⟩, _⟩
        dsimp only
        rw [h1, h2]
        exact wpAny_pure ⟨rfl, rfl⟩
    refine wpAny_bind (wpAny_mono quiet (fun b s' ⟨hb, hs⟩ => ?_) fun _ _ z => z)
    rw [hb, hs]
    refine wp_if_neg (by decide) ?_
    try refine wpAny_bind (wpAny_pure ?_)
    refine wpAny_bind (wpAny_rule ?_)
    refine wpAny_bind (wpAny_setState_of hos hds RS.fits ?_)
    dsimp only
    rw [Bool.or_eq_true, Bool.or_eq_true] at c
    have nt : ¬ w.params.followText "set-order" = true := fun z => c (.inl (.inl z))
    have l1 : t.led = true := RS.led.resolve_left nt
    have l2 : to.led = true := RO.led.resolve_left nt
    by_cases q : (t.led && !to.led || t.plain && !to.plain) = true
    · refine wp_if_pos q ?_
      have few := RS.few
      refine wpAny_bind (wpAny_storeSet_of hos hds ?_ (by rw [sizeLine_eq]; omega))
      exact wpAny_pure (hQ _ _ _ eo (Heap.SameBut.update ..) ⟨⟨_, store_at hos hds, ⟨hexs.1, hexs.2.1, hexs.2.2⟩, rfl⟩, RS.good, RS.few, RS.fits, RS.ris, .inr (by show (t.led && to.led) = true; rw [l1, l2]; rfl)⟩ (List.Perm.refl _))
    · exact wp_if_neg q (wpAny_pure (plain _ (List.Perm.refl _)))
/-- one set's texts are put into another -/
theorem merge {S O : Addr} {eo : Array (Int × Value)} {epo : Nat} {to : SetTable} {each : Sem Unit} (RO : TSt w s.heap O eo epo to) (RS : TSt w s.heap S es ep t) (hne : S ≠ O) (hsum : es.size + eo.size ≤ 16) (hz : es.size = 0 → t.mask = 7 ∧ t.dummies = #[])
    (hE : ∀ (h' : Heap) (Q' : Unit → Shared → Prop), (∀ o, s.heap.get? O = some o → h'.get? O = some o) → Q' () { s with heap := h' } → wpAny (model P w) A each Q' E { s with heap := h' }) {Q : Unit → Shared → Prop}
    (hQ : ∀ h' es' ep' t', Heap.SameBut S s.heap h' → TSt w h' S es' ep' t' → (∀ y, y ∈ txs es' ↔ y ∈ txs es ∨ y ∈ txs eo) → es'.size ≤ es.size + eo.size → (es'.size = 0 → t'.mask = 7 ∧ t'.dummies = #[]) → Q () { s with heap := h' }) : wpAny (model P w) A (setMerge S O each) Q E s := by
  obtain ⟨oo, hoo, hexo, hdo⟩ := RO.here
  rw [setMerge_eq]
  refine wp_if_neg (by simpa using hne) ?_
  refine wpAny_bind (wpAny_setState_of hoo hdo RO.fits ?_)
  dsimp only
  by_cases em : eo.isEmpty = true
  · have e0 : eo = #[] := by simpa using em
    refine wp_if_pos em (wpAny_pure (hQ s.heap es ep t (Heap.SameBut.refl S s.heap) RS (fun y => ?_) (Nat.le_add_right _ _) hz))
    rw [e0]
    simp
  · refine wp_if_neg em ?_
    have nz : ∀ (es' : Array (Int × Value)) (t' : SetTable), (∀ y, y ∈ txs es' ↔ y ∈ txs es ∨ y ∈ txs eo) → es'.size = 0 → t'.mask = 7 ∧ t'.dummies = #[] := fun es' t' mm z => by
      exfalso
      have e0 : es' = #[] := Array.eq_empty_of_size_eq_zero z
      have ne : txs eo ≠ [] := fun q => em (by
        have q2 : eo.toList = [] := List.map_eq_nil_iff.mp q
        have q3 : eo = #[] := by rw [← Array.toArray_toList (xs := eo), q2]
        rw [q3]; rfl)
      obtain ⟨y, hy⟩ := List.exists_mem_of_ne_nil _ ne
      have q := (mm y).mpr (.inr hy)
      rw [e0] at q
      simp at q
    have hroom : ∀ wanted, t.roomFor eo.size = some wanted → ∃ m, SM.Full m ∧ SetTable.sizeAbove wanted - 1 = m ∧ es.size ≤ m ∧ SetTable.sizeAbove wanted ≤ 128 := fun wanted e => by
      rw [room_some RS e]
      obtain ⟨a, b, c⟩ := full_room hsum
      exact ⟨_, a, rfl, by omega, c⟩
    refine wpAny_bind (roomed (m := 0) RS (by omega) hroom fun h1 es1 ep1 t1 sb1 R1 m1 z1 msk => ?_)
    have ko : ∀ o, s.heap.get? O = some o → h1.get? O = some o := fun o e => (sb1.2 O (Ne.symm hne)).trans e
    obtain ⟨os1, hos1, hexs1, hds1⟩ := R1.here
    have RO1 : TSt w h1 O eo epo to := RO.keep ko
    refine wpAny_bind (wpAny_setState_of (s := { s with heap := h1 }) hos1 hds1 R1.fits ?_)
    dsimp only
    have led1 : ∀ b : Bool, (w.params.followText "set-order" = true ∨ (t1.led && to.led) = true) := fun _ => by
      rcases R1.led with z | z
      · exact .inl z
      · rcases RO.led with y | y
        · exact .inl y
        · exact .inr (by rw [z, y]; rfl)
    have few1 := R1.few
    have fewo := RO.few
    by_cases f0 : t1.fill = 0
    · -- an empty set
      have p1 := R1.place
      have es0 : es1.size = 0 := by
        unfold SetTable.fill at f0
        omega
      have esz : es.size = 0 := by omega
      have et : es1 = #[] := Array.eq_empty_of_size_eq_zero es0
      have et0 : es = #[] := Array.eq_empty_of_size_eq_zero esz
      have mask1 : SM.Full t1.mask ∧ eo.size ≤ t1.mask := by
        rcases msk with ⟨a, b, _⟩ | ⟨wanted, e, a, _⟩
        · rw [a, (hz esz).1]
          refine ⟨SM.full_7, ?_⟩
          unfold SetTable.roomFor SetTable.fill at b
          rw [RS.place, esz, (hz esz).1, (hz esz).2, show (#[] : Array Nat).size = 0 from rfl] at b
          split at b
          · cases b
          · omega
        · rw [a, room_some RS e, esz, Nat.zero_add]
          obtain ⟨x, y, _⟩ := full_room (k := eo.size) (by omega)
          exact ⟨x, y⟩
      have mem0 : ∀ (es' : Array (Int × Value)), es'.toList.Perm eo.toList → (∀ y, y ∈ txs es' ↔ y ∈ txs es ∨ y ∈ txs eo) := fun es' p y => by
        rw [(p.map txOf).mem_iff, et0]
        simp
      cases r : t1.road to with
      | oneByOne =>
        unfold SetTable.road at r
        rw [f0] at r
        simp only [bne_self_eq_false, Bool.false_eq_true, if_false] at r
        split at r <;> cases r
      | slotForSlot =>
        dsimp only
        refine wpAny_storeSet_of hos1 hds1 ?_ (by rw [sizeLine_eq]; omega)
        exact hQ _ eo _ _ (sb1.trans (Heap.SameBut.update ..)) ⟨⟨_, store_at hos1 hds1, ⟨hexs1.1, hexs1.2.1, hexs1.2.2⟩, rfl⟩, RO.good, RO.few, RO.fits, RO.ris, led1 true⟩ (mem0 eo (List.Perm.refl _)) (by omega) (nz _ _ (mem0 eo (List.Perm.refl _)))
      | clean =>
        dsimp only
        obtain ⟨t', order, e1, pm, r1, r2, r3, r4, r5⟩ := mask1.1.laid (hs := eo.map (·.1)) (by rw [Array.size_map]; exact mask1.2) t1.finger t1.moves (t1.led && to.led) (t1.plain && to.plain)
        rw [Array.size_map] at pm r2
        have pe : (order.filterMap (eo[·]?)).toList.Perm eo.toList := by
          rw [Array.toList_filterMap]
          have q := pm.filterMap (fun i => eo[i]?)
          rw [filterMap_getElem?_range] at q
          exact q
        have hs2 := perm_size pe
        rw [e1]
        dsimp only
        refine wpAny_bind ?_
        refine wp_if_neg (by rw [hs2]; simp) ?_
        refine wpAny_pure ?_
        dsimp only
        refine wpAny_storeSet_of hos1 hds1 ?_ (by rw [hs2, sizeLine_eq]; omega)
        refine hQ _ _ _ t' (sb1.trans (Heap.SameBut.update ..)) ⟨⟨_, store_at hos1 hds1, ⟨hexs1.1, hexs1.2.1, hexs1.2.2⟩, rfl⟩, fun x hx => RO.good x (pe.mem_iff.mp hx), by rw [hs2]; exact RO.few, ?_, r1, by rw [r5]; exact led1 true⟩ (mem0 _ pe) (by rw [hs2]; omega) (nz _ _ (mem0 _ pe))
        have q2 := mask1.2
        unfold SetTable.fits SetTable.fill
        rw [r3, hs2, r4, Bool.and_eq_true, beq_iff_eq, decide_eq_true_eq, show (#[] : Array Nat).size = 0 from rfl]
        omega
    · have r : t1.road to = .oneByOne := by
        unfold SetTable.road
        rw [if_pos (by simpa using f0)]
      rw [r]
      dsimp only
      refine wpAny_bind (walkUnseen (s := { s with heap := h1 }) RO1 R1 fun h2 ep2 t2 out sb2 R2 pm => ?_)
      have sb12 := sb1.trans sb2
      have pe := perm_size pm
      refine wpAny_bind ?_
      rw [← Array.forIn_toList]
      refine wpAny_forIn_list _ (fun rest _ s' => ∃ h' es' ep' t', s' = { s with heap := h' } ∧ Heap.SameBut S s.heap h' ∧ TSt w h' S es' ep' t' ∧ (∀ e ∈ rest, GoodT w e) ∧ (∀ y, (y ∈ txs es' ∨ y ∈ rest.map txOf) ↔ y ∈ txs es ∨ y ∈ txs eo) ∧ es'.size + rest.length ≤ es.size + eo.size) _ ?_ ?_ _ _
        ⟨h2, es1, ep2, t2, rfl, sb12, R2, fun e he => RO.good e (pm.mem_iff.mp he), fun y => by rw [m1 y, (pm.map txOf).mem_iff], by rw [Array.length_toList, pe, z1]; exact Nat.le_refl _⟩
      · rintro e rest _ s' ⟨h', es', ep', t', e0, sb', R', g, mm, zz⟩
        rw [e0]
        obtain ⟨x, tk, ex⟩ := g e List.mem_cons_self
        rw [List.length_cons] at zz
        rw [ex]
        refine wpAny_bind (wpAny_holding (addT (s := { s with heap := h' }) R' x tk (by omega) fun b h3 es3 ep3 t3 sb3 R3 m3 z3 => ?_))
        have sb4 := sb'.trans sb3
        have ko4 : ∀ o, s.heap.get? O = some o → h3.get? O = some o := fun o e => (sb4.2 O (Ne.symm hne)).trans e
        refine wpAny_bind (hE h3 _ ko4 ?_)
        refine wpAny_bind (wpAny_setState_of (s := { s with heap := h3 }) (ko4 _ hoo) hdo RO.fits ?_)
        refine wp_if_neg (by simp) ?_
        have fin : ∃ h' es' ep' t', ({ s with heap := h3 } : Shared) = { s with heap := h' } ∧ Heap.SameBut S s.heap h' ∧ TSt w h' S es' ep' t' ∧ (∀ e ∈ rest, GoodT w e) ∧ (∀ y, (y ∈ txs es' ∨ y ∈ rest.map txOf) ↔ y ∈ txs es ∨ y ∈ txs eo) ∧ es'.size + rest.length ≤ es.size + eo.size := by
          refine ⟨h3, es3, ep3, t3, rfl, sb4, R3, fun u hu => g u (List.mem_cons_of_mem _ hu), fun y => ?_, by omega⟩
          rw [← mm y, m3 y, List.map_cons, List.mem_cons, show txOf e = x by rw [ex]; rfl]
          constructor
          · rintro ((z | z) | z)
            · exact .inr (.inl z)
            · exact .inl z
            · exact .inr (.inr z)
          · rintro (z | z | z)
            · exact .inl (.inr z)
            · exact .inl (.inl z)
            · exact .inr z
        exact wpAny_pure fin
      · rintro _ s' ⟨h', es', ep', t', rfl, sb', R', g, mm, zz⟩
        have m9 : ∀ y, y ∈ txs es' ↔ y ∈ txs es ∨ y ∈ txs eo := fun y => by rw [← mm y]; simp
        exact wpAny_pure (hQ h' es' ep' t' sb' R' m9 (by simpa using zz) (nz _ _ m9))
theorem entry_or : entryFor table "set.__or__" = some Builtin.«frozenset.__or__» := entryFor_alias (id' := "frozenset.__or__") (by kernel_rfl) rfl (by decide +kernel) (by kernel_rfl)
theorem args_or (a b : Value) : argsOk "set.__or__" ⟨[a, b], []⟩ := by
  unfold argsOk; rw [signature?_of (id := "set.__or__") (n := ['_', '_', 'r', 'o', '_', '_']) (o := ['t', 'e', 's']) (by kernel_rfl) PySem.F.owner_set]; kernel_rfl
theorem or_eq (args : Args) : Builtin.«frozenset.__or__» args = (do
    let (self, other) ← Builtin.Frozenset.slot1 "__or__" args
    let (l, r) := if false then (other, self) else (self, other)
    if !(← Builtin.Frozenset.isAnySet l <&&> Builtin.Frozenset.isAnySet r) then rule s!"frozenset.{"__or__"}.declined"; return ← ret .notImplemented
    ret (← (fun (id : String) (l : Addr) (r : Value) => (do
      let result ← Builtin.Frozenset.copyOf l
      if r != .ref l then holding [result] (Builtin.Frozenset.updateFrom id (← Builtin.Frozenset.addrOf result) r)
      return result : Sem Value)) s!"frozenset.{"__or__"}" (← Builtin.Frozenset.addrOf l) r)) := by rfl
theorem any_set {v : Value} {Q : Bool → Shared → Prop} (T : s.TypeIs v "set") (h : Q true s) : wpAny (model P w) A (Builtin.Frozenset.isAnySet v) Q E s := by
  unfold Builtin.Frozenset.isAnySet
  exact wpAny_bind (wpAny_isInstance T sub_set_self (wpAny_pure h))
theorem new_set {Q : Value → Shared → Prop} (h : Q (.ref s.heap.objs.size) { s with heap := s.heap.push (noSet w) }) : wpAny (model P w) A (newSet (.type "set")) Q E s := by
  unfold newSet setsByText
  refine wpAny_bind (wpAny_bind (wpAny_askSetting (wpAny_pure ?_)))
  dsimp only
  simp only [newObj]
  exact wpAny_bind (wpAny_alloc (wpAny_pure h))
theorem push_keep {h h' : Heap} {o : Obj} (sb : Heap.SameBut h.objs.size (h.push o) h') : ∀ c q, h.get? c = some q → h'.get? c = some q := fun c q e => (sb.2 c (Nat.ne_of_lt (Heap.lt_size e))).trans (Heap.get?_push_of_some _ e)
/-- a copy -/
theorem copy_at (R : TSt w s.heap a es ep t) (hsz : es.size ≤ 16) {Q : Value → Shared → Prop}
    (hQ : ∀ h' es' ep' t', (∀ c o, s.heap.get? c = some o → h'.get? c = some o) → TSt w h' s.heap.objs.size es' ep' t' → (∀ y, y ∈ txs es' ↔ y ∈ txs es) → es'.size ≤ es.size → (es'.size = 0 → t'.mask = 7 ∧ t'.dummies = #[]) → Q (.ref s.heap.objs.size) { s with heap := h' }) :
    wpAny (model P w) A (Builtin.Frozenset.copyOf a) Q E s := by
  obtain ⟨oa, hoa, hexa, hda⟩ := R.here
  have Ta : s.TypeIs (.ref a) "set" := ⟨oa, hoa, hexa.1⟩
  have hlt : a < s.heap.objs.size := Heap.lt_size hoa
  unfold Builtin.Frozenset.copyOf Builtin.Frozenset.baseOf
  refine wpAny_bind (wpAny_bind (wpAny_isInstance Ta sub_set_self (wpAny_pure ?_)))
  refine wpAny_bind (new_set ?_)
  unfold Builtin.Frozenset.addrOf
  refine wpAny_bind (wpAny_pure ?_)
  have kp : ∀ c o, s.heap.get? c = some o → (s.heap.push (noSet w)).get? c = some o := fun c o e => Heap.get?_push_of_some _ e
  refine wpAny_bind (merge (s := { s with heap := s.heap.push (noSet w) }) (R.keep (kp a)) (tst_new (Heap.get?_push_size _ rfl)) (Nat.ne_of_gt hlt) (by show 0 + es.size ≤ 16; omega) (fun _ => ⟨rfl, rfl⟩) (fun h' Q' _ q => wpAny_pure q) fun h' es' ep' t' sb R' mm zz nz => ?_)
  exact wpAny_pure (hQ h' es' ep' t' (push_keep sb) R' (fun y => by rw [mm y]; simp) (by simpa using zz) nz)
/-- a | b -/
theorem union_at {b : Addr} {eb : Array (Int × Value)} {epb : Nat} {tb : SetTable} (RA : TSt w s.heap a es ep t) (RB : TSt w s.heap b eb epb tb) (hne : a ≠ b) (hsum : es.size + eb.size ≤ 16) {Q : Value → Shared → Prop}
    (hQ : ∀ h' es' ep' t', (∀ c o, s.heap.get? c = some o → h'.get? c = some o) → TSt w h' s.heap.objs.size es' ep' t' → (∀ y, y ∈ txs es' ↔ y ∈ txs es ∨ y ∈ txs eb) → es'.size ≤ es.size + eb.size → Q (.ref s.heap.objs.size) { s with heap := h' }) :
    wpAny (model P w) A (binaryOp .BitOr (.ref a) (.ref b)) Q E s := by
  obtain ⟨oa, hoa, hexa, hda⟩ := RA.here
  obtain ⟨ob, hob, hexb, hdb⟩ := RB.here
  have Ta : s.TypeIs (.ref a) "set" := ⟨oa, hoa, hexa.1⟩
  have Tb : s.TypeIs (.ref b) "set" := ⟨ob, hob, hexb.1⟩
  refine wpAny_binaryOp_same (op := .BitOr) Ta Tb PySem.F.fills_set_or PySem.F.slot_set_or ?_
  refine wpAny_call_entry PySem.F.slot_set_or Ta entry_or ?_ (args_or _ _)
  rw [or_eq]
  unfold Builtin.Frozenset.slot1 slotArgs
  refine wpAny_bind (wpAny_bind ?_)
  show wpAny _ _ (pure (Value.ref a, [Value.ref b])) _ _ _
  refine wpAny_pure ?_
  show wpAny _ _ (pure (Value.ref a, Value.ref b)) _ _ _
  refine wpAny_pure ?_
  have both : ∀ (Q' : Bool → Shared → Prop), Q' true s → wpAny (model P w) A.in1 (Builtin.Frozenset.isAnySet (.ref a) <&&> Builtin.Frozenset.isAnySet (.ref b)) Q' E s := fun Q' q => wpAny_bind (any_set Ta (any_set Tb q))
  refine wpAny_bind (both _ ?_)
  refine wp_if_neg (by decide) ?_
  refine wpAny_bind (wpAny_pure ?_)
  refine wpAny_bind (wpAny_bind (copy_at RA (by omega) fun h1 es1 ep1 t1 k1 R1 m1 z1 nz1 => ?_))
  refine wp_if_pos (by simpa using fun e : b = a => hne e.symm) ?_
  refine wpAny_bind (wpAny_pure ?_)
  have kb := RB.keep (h' := h1) (k1 b)
  obtain ⟨ob1, hob1, hexb1, hdb1⟩ := kb.here
  have Tb1 : Shared.TypeIs { s with heap := h1 } (.ref b) "set" := ⟨ob1, hob1, hexb1.1⟩
  have ltb : b < s.heap.objs.size := Heap.lt_size hob
  refine wpAny_bind (wpAny_holding ?_)
  unfold Builtin.Frozenset.updateFrom
  refine wpAny_bind (any_set (s := { s with heap := h1 }) Tb1 ?_)
  refine wp_if_pos rfl ?_
  refine wpAny_bind (wpAny_pure ?_)
  unfold Builtin.Frozenset.merge
  refine wpAny_bind (wpAny_setEpoch_of (s := { s with heap := h1 }) hob1 hdb1 kb.fits ?_)
  refine TU.merge (s := { s with heap := h1 }) kb R1 (Nat.ne_of_gt ltb) (by omega) nz1 (fun h' Q' k q => ?_) fun h' es' ep' t' sb R' mm zz nz => ?_
  · unfold Builtin.Frozenset.unchanged
    refine wpAny_bind (wpAny_setEpoch_of (s := { s with heap := h' }) (k _ hob1) hdb1 kb.fits ?_)
    exact wp_if_neg (by simp) (wpAny_pure q)
  · refine wpAny_pure ?_
    refine wpAny_pure ⟨_, rfl, by simp, hQ h' es' ep' t' (fun c o e => (sb.2 c (Nat.ne_of_lt (Heap.lt_size e))).trans (k1 c o e)) R' (fun y => by rw [mm y, m1 y]) (by omega)⟩
/-- set(d), d a dict with texts for keys -/
theorem call_setD {d : Addr} {od : Obj} {ds : Array DictEntry} {epd : Nat} (hh : A.handled = none) (hod : s.heap.get? d = some od) (hcd : od.cls = .type "dict") (hdd : od.data = .dict ds epd) (hsys : (d == sysModules) = false)
    (hkeys : ∀ e ∈ ds.toList, ∃ x tk, e.key = Value.str x tk ∧ e.hash = hashStr w x) (hfew : ds.size ≤ 8) {Q : Value → Shared → Prop}
    (h : ∀ h' es ep t, (∀ c o, s.heap.get? c = some o → h'.get? c = some o) → TSt w h' s.heap.objs.size es ep t → (∀ y, y ∈ txs es ↔ ∃ e ∈ ds.toList, ∃ tk, e.key = Value.str y tk) → es.size ≤ ds.size → Q (.ref s.heap.objs.size) { s with heap := h' }) :
    wpAny (model P w) A (call (.type "set") [.ref d]) Q E s := by
  obtain ⟨c, tl, hmro⟩ := F.called_set.mro
  have hmade := F.called_set.made
  have hsub := F.called_set.sub
  have hlt : d < s.heap.objs.size := Heap.lt_size hod
  refine wpAny_call (codeAny_of_tree ?_)
  show wpAny _ _ (callAny (.type "set") _) _ _ _
  refine wpAny_pure ⟨Code.quiet_builtin _ (by decide +kernel), codeAny_builtin F.entry_type_call ?_⟩
  rw [Around.under_plain (weight_type_call_type "set" [.ref d] []) rfl]
  have h1 := F.called_set.notType
  have h2 := F.called_set.canCreate
  have hct := F.typeCall_set_1 (.ref d)
  repeat (any_goals (first | assumption | wp_step))
  refine codeAny_mono (code_set_led1 (.ref d) (E := E) (Q₁ := fun obj s₁ => obj = .ref s.heap.objs.size ∧ s₁ = { s with heap := s.heap.push (noSet w) }) ⟨rfl, rfl⟩) fun r s₁ hr => ?_
  cases r with
  | error e => exact hr
  | ok fl =>
    cases fl with
    | ret obj =>
      obtain ⟨rfl, rfl⟩ := hr
      have hS : (s.heap.push (noSet w)).get? s.heap.objs.size = some (noSet w) := Heap.get?_push_size _ rfl
      have hT : Shared.TypeIs { s with heap := s.heap.push (noSet w) } (.ref s.heap.objs.size) "set" := ⟨_, hS, rfl⟩
      have hli := F.called_set.init.lookup
      have hbi := F.called_set.init.bind (.ref s.heap.objs.size)
      repeat (any_goals (first | assumption | wp_step))
      refine codeAny_mono (codeAny_call_builtin (R := wants (fun r s₂ => r = .none ∧ ∃ h' es ep t, s₂ = { s with heap := h' } ∧ (∀ c o, s.heap.get? c = some o → h'.get? c = some o) ∧ TSt w h' s.heap.objs.size es ep t ∧ (∀ y, y ∈ txs es ↔ ∃ e ∈ ds.toList, ∃ tk, e.key = Value.str y tk) ∧ es.size ≤ ds.size) E) F.called_set.init.plain F.entry_set_init (check_set_init_1 hT ?_)) fun r₂ s₂ hr₂ => ?_
      · unfold Builtin.«set.__init__» noKeywords
        generalize hPI : Builtin.Frozenset.updateFrom = PI
        wp_walk
        subst hPI
        refine takeKeys (s := { s with heap := s.heap.push (noSet w) }) (tst_new hS) rfl rfl rfl (Nat.ne_of_lt hlt) (Heap.get?_push_of_some _ hod) hcd hdd hsys hkeys hfew fun h' es' ep' t' sb R mm zz => ?_
        show wpAny _ _ (ret Value.none) _ _ _
        exact wpAny_pure ⟨rfl, h', es', ep', t', rfl, push_keep sb, R, mm, zz⟩
      · cases r₂ with
        | error e => exact hr₂
        | ok fl₂ =>
          cases fl₂ with
          | ret r =>
            obtain ⟨rfl, h', es, ep, t, rfl, kp, R, mm, zz⟩ := hr₂
            repeat (any_goals (first | assumption | wp_step))
            exact h _ _ _ _ kp R mm zz
          | _ => exact hr₂.elim
    | _ => exact hr.elim
/-! sorted of a set of texts -/
theorem each_good {w : World} : ∀ (l : List (Int × Value)), (∀ e ∈ l, GoodT w e) → PySem.W.EachIs (fun v (e : Int × Value) => v = e.2) (l.map (·.2)) l
  | [], _ => .nil
  | e :: l, h => .cons rfl (each_good l fun q hq => h q (List.mem_cons_of_mem _ hq))
theorem good_each {vs : List Value} {l : List (Int × Value)} (h : PySem.W.EachIs (fun v (e : Int × Value) => v = e.2) vs l) : vs = l.map (·.2) := by
  induction h with
  | nil => rfl
  | cons h _ ih => rw [h, ih]; rfl
abbrev edat (e : Int × Value) : PyData := .str (txOf e)
theorem call_sorted (R : TSt w s.heap a es ep t) (hh : A.handled = none) (hu : A.units + 10 < cLine) {Q : Value → Shared → Prop}
    (hQ : ∀ s' p (out : Array Value) (c : Nat) (l : List (Int × Value)), (∀ b o, s.heap.get? b = some o → s'.heap.get? b = some o) → s'.gens = s.gens → s'.os = s.os → s.heap.objs.size ≤ p → s'.heap.get? p = some (seqObj "list" out c) →
      out.toList = l.map (·.2) → l.Perm es.toList → Q (.ref p) s') :
    wpAny (model P w) A (call (.builtin "sorted") [.ref a]) Q E s := by
  obtain ⟨o, ho, hex, hd⟩ := R.here
  have hfew := R.few
  refine Calls.call_function_entry kind_sorted plain_sorted entry_sorted (args_sorted1 _) ?_
  unfold Builtin.«sorted»
  refine wpAny_bind (m := checkCount "sorted" 1 1 _) (wpAny_pure ?_)
  refine wpAny_bind (collect_set (A := A.in1) hh ⟨o, ho, hex.1, hd⟩ R.fits (by unfold scanBound; omega) R.ris R.led fun s1 vs k1 hz g1 o1 pm => ?_)
  have ord : ∀ us : List Value, (∀ v ∈ us, ∃ e ∈ es.toList, v = e.2) → ∃ l : List (Int × Value), us = l.map (·.2) ∧ ∀ e ∈ l, e ∈ es.toList := by
    intro us
    induction us with
    | nil => intro _; exact ⟨[], rfl, fun q hq => (by cases hq)⟩
    | cons v us ih =>
      intro hv
      obtain ⟨q, hq, e⟩ := hv v List.mem_cons_self
      obtain ⟨L1, e1, hs⟩ := ih fun u hu => hv u (List.mem_cons_of_mem _ hu)
      exact ⟨q :: L1, by rw [List.map_cons, e, e1], fun r hr => (List.mem_cons.mp hr).elim (fun z => z ▸ hq) (hs r)⟩
  -- the values tell the entries
  have inj : ∀ e ∈ es.toList, ∀ e' ∈ es.toList, e.2 = e'.2 → e = e' := fun e he e' he' q => by
    obtain ⟨x, tk, rfl⟩ := R.good e he
    obtain ⟨y, tk', rfl⟩ := R.good e' he'
    injection q with q1 q2
    rw [q1, q2]
  obtain ⟨L1, e1, sub1⟩ := ord vs fun v hv => by
    obtain ⟨q, hq, e⟩ := List.mem_map.mp (pm.mem_iff.mp hv)
    exact ⟨q, hq, e.symm⟩
  have pL : L1.Perm es.toList := by
    rw [e1] at pm
    have key : ∀ (l m : List (Int × Value)), (∀ e ∈ l, e ∈ es.toList) → (∀ e ∈ m, e ∈ es.toList) → (l.map (·.2)).Perm (m.map (·.2)) → l.Perm m := by
      intro l
      induction l with
      | nil =>
        intro m _ _ p
        have : m = [] := List.map_eq_nil_iff.mp (List.nil_perm.mp p)
        rw [this]
      | cons e l ih =>
        intro m hl hm p
        have he : e.2 ∈ m.map (·.2) := p.mem_iff.mp List.mem_cons_self
        obtain ⟨e', he', q⟩ := List.mem_map.mp he
        have ee := inj e' (hm e' he') e (hl e List.mem_cons_self) q
        subst ee
        have p2 := List.perm_cons_erase he'
        have p3 : (l.map (·.2)).Perm ((m.erase e').map (·.2)) := by
          have p4 := p.trans (p2.map (·.2))
          rw [List.map_cons, List.map_cons] at p4
          exact List.Perm.cons_inv p4
        exact ((ih (m.erase e') (fun x hx => hl x (List.mem_cons_of_mem _ hx)) (fun x hx => hm x (List.mem_of_mem_erase hx)) p3).cons e').trans p2.symm
    exact key L1 es.toList sub1 (fun e he => he) pm
  have len1 : L1.length = es.size := by rw [pL.length_eq, Array.length_toList]
  have good1 : ∀ e ∈ L1, GoodT w e := fun e he => R.good e (sub1 e he)
  have w1 : PySem.W.EachIs (fun v (e : Int × Value) => v = e.2) vs L1 := by
    rw [e1]
    exact each_good L1 good1
  have w2 : ∀ (h : Heap) (b : Addr), PySem.W.EachIs (fun v (e : Int × Value) => ∃ as, Reads h v (edat e) as ∧ b ∉ as) vs L1 := fun h b => by
    rw [e1]
    clear e1 len1 pL sub1 w1
    induction L1 with
    | nil => exact .nil
    | cons e l ih =>
      refine .cons ⟨[], ?_, by simp⟩ (ih fun x hx => good1 x (List.mem_cons_of_mem _ hx))
      obtain ⟨x, tk, rfl⟩ := good1 e List.mem_cons_self
      exact .str x tk
  have hvl : vs.length = L1.length := by rw [e1, List.length_map]
  refine wpAny_bind (wpAny_newList ?_ (by rw [sizeLine_eq]; omega))
  have hoL : (s1.heap.push (seqObj "list" vs.toArray 0)).get? s1.heap.objs.size = some (seqObj "list" vs.toArray 0) := Heap.get?_push_size _ rfl
  refine wpAny_bind (wpAny_holding (PySem.W.list_sort_data (β := Int × Value) (bs := L1) (enc := edat) (R := fun v (e : Int × Value) => v = e.2) (s := { s1 with heap := s1.heap.push (seqObj "list" vs.toArray 0) }) hoL
    w1 (w2 _ _) (PySem.W.AllAlike.of fun b b' => rfl) (PySem.W.Sortable.others fun b => ⟨fun z => (by cases z), fun xs z => (by cases z)⟩) (by rw [sizeLine_eq]; omega) (fun b _ => ?_) fun out hlen ho => ?_))
  · show A.units + 1 + 1 + 0 < cLine
    omega
  · have eo := good_each ho
    obtain ⟨c, hc⟩ := sortedHeap_at (vs := vs) (out := List.toArray out) hoL
    have pm2 := List.mergeSort_perm L1 (PySem.W.dataLe false edat)
    refine wpAny_pure ⟨_, rfl, hQ _ s1.heap.objs.size (List.toArray out) c (L1.mergeSort (PySem.W.dataLe false edat)) (fun b u e => ?_) g1 o1 hz hc (by simpa using eo) (pm2.trans pL)⟩
    have q := k1 b u e
    have hlt := Heap.lt_size q
    show (sortedHeap (s1.heap.push (seqObj "list" vs.toArray 0)) s1.heap.objs.size vs _).get? b = some u
    rw [sortedHeap_old (Nat.ne_of_lt hlt) (by rw [size_push']; exact Nat.lt_succ_of_lt hlt)]
    exact Heap.get?_push_of_some _ q
end
end TU
namespace G7
open PySem PySem.Spec PyProof.Rows L2
/-- the set at a has just these texts -/
def HasT (w : World) (h : Heap) (a : Addr) (L : List Str) : Prop := ∃ es ep t, TU.TSt w h a es ep t ∧ (∀ y, y ∈ TU.txs es ↔ y ∈ L) ∧ es.size ≤ L.length
def SetUO (w : World) (a : Addr) (L : List Str) : HO := .ext fun h => HasT w h a L
theorem setUO_new {P : Program} {w : World} {H : Hp} {h : Heap} {a : Addr} {L : List Str} (R : HasT w h a L) : ObjOk P w H h a (SetUO w a L) := by
  have ⟨es, ep, t, r, q⟩ := R
  have ⟨o, ho, _⟩ := r.here
  refine ⟨R, ⟨o, ho⟩, fun h1 h2 p k => ?_⟩
  have ⟨es', ep', t', r', q'⟩ := p
  exact ⟨es', ep', t', r'.keep (k), q'⟩
def keyTx : Key → Str
  | .inr x => x
  | .inl _ => Str.empty
section
variable {X : Cx}
def rSetD (w : World) : List V → Hp → VK → Prop := fun vs H Q => ∃ (d : Addr) (kvs : List (Key × V)), vs = [V.ref d] ∧ H d = some (.dK kvs) ∧ (∀ p ∈ kvs, ∃ x : Str, p.1 = Sum.inr x) ∧ kvs.length ≤ 8 ∧
  ∀ a, H a = none → Q (.ref a) (upd H a (SetUO w a (kvs.map fun p => keyTx p.1)))
theorem pairs_has {P : Program} {w : World} : ∀ {es : List DictEntry} {vs : List (Key × Value)}, Pairs (mixKind P w) es vs → ∀ k, k ∈ vs.map (·.1) → ∃ e ∈ es, (mixKind P w).is k e.key = true
  | _, _, .nil, k, h => absurd h (by simp)
  | _, _, .cons h1 h2 t, k, h => by
    rw [List.map_cons] at h
    rcases List.mem_cons.mp h with z | z
    · exact ⟨_, List.mem_cons_self, z ▸ h1⟩
    · obtain ⟨e, he, q⟩ := pairs_has t k z
      exact ⟨e, List.mem_cons_of_mem _ he, q⟩
theorem pairs_len {P : Program} {w : World} : ∀ {es : List DictEntry} {vs : List (Key × Value)}, Pairs (mixKind P w) es vs → es.length = vs.length
  | _, _, .nil => rfl
  | _, _, .cons _ _ t => by rw [List.length_cons, List.length_cons, pairs_len t]
theorem pairs_fst {P : Program} {w : World} : ∀ {es : List DictEntry} {vs : List (Key × Value)}, Pairs (mixKind P w) es vs → ∀ e ∈ es, ∃ k ∈ vs.map (·.1), (mixKind P w).is k e.key = true
  | _, _, .nil, e, h => absurd h (by simp)
  | _, _, .cons h1 h2 t, e, h => by
    rw [List.map_cons]
    rcases List.mem_cons.mp h with z | z
    · exact ⟨_, List.mem_cons_self, z ▸ h1⟩
    · obtain ⟨k, hk, q⟩ := pairs_fst t e z
      exact ⟨k, List.mem_cons_of_mem _ hk, q⟩
theorem cr_setD (hc : X.calm = true) : CallR X (.type "set") (rSetD X.w) := by
  intro pins s σ H vs us Q I r h
  obtain ⟨d, kvs, rfl, hd, hkeys, hfew, q⟩ := h
  rw [Vals.ref1 r]
  obtain ⟨_, hsys, vs, rel, dof⟩ := dk_of I.hok hd
  obtain ⟨o, es, ep, ho, hex, hdat, hko, hpr, hnd⟩ := dof
  have hks : vs.map (·.1) = kvs.map (·.1) := (KV.keys rel).symm
  have hl : es.size = kvs.length := by
    have e1 := pairs_len hpr
    have e2 := congrArg List.length hks
    rw [List.length_map, List.length_map] at e2
    rw [← Array.length_toList, e1, e2]
  have isx : ∀ (x : Str) (v : Value), (mixKind X.prog X.w).is (Sum.inr x) v = true → ∃ t, v = Value.str x t := fun x v hv => by
    rcases keyIs_shape (show keyIs (Sum.inr x) v = true from hv) with ⟨i, t, e, _⟩ | ⟨y, t, e, e1⟩
    · cases e
    · cases e
      exact ⟨t, e1⟩
  have ent : ∀ e ∈ es.toList, ∃ x tk, e.key = Value.str x tk ∧ e.hash = hashStr X.w x ∧ x ∈ kvs.map fun p => keyTx p.1 := fun e he => by
    obtain ⟨k, hk, hi⟩ := pairs_fst hpr e he
    rw [hks] at hk
    obtain ⟨p, hp, rfl⟩ := List.mem_map.mp hk
    obtain ⟨x, ex⟩ := hkeys p hp
    rw [ex] at hi
    obtain ⟨tk, et⟩ := isx x _ hi
    obtain ⟨k2, h2, hh⟩ := hko e (by simpa using he)
    have ek : k2 = Sum.inr x := (mixKind X.prog X.w).inj _ _ _ h2 hi
    subst ek
    exact ⟨x, tk, et, hh, List.mem_map.mpr ⟨p, hp, by rw [ex]; rfl⟩⟩
  have hn : H s.heap.objs.size = none := I.hok.fresh (Nat.le_refl _)
  refine TU.call_setD (P := X.prog) (w := X.w) (I.ok.hd hc) ho hex.1 hdat hsys (fun e he => by obtain ⟨x, tk, a, b, _⟩ := ent e he; exact ⟨x, tk, a, b⟩) (by omega) fun h' es2 ep2 t2 kp R mm zz => ?_
  have HT : HasT X.w h' s.heap.objs.size (kvs.map fun p => keyTx p.1) := by
    refine ⟨es2, ep2, t2, R, fun y => ?_, by rw [List.length_map]; omega⟩
    rw [mm y]
    constructor
    · rintro ⟨e, he, tk, q⟩
      obtain ⟨x, tk', a, _, c⟩ := ent e he
      rw [a] at q
      injection q with q1 _
      rw [← q1]
      exact c
    · intro hy
      obtain ⟨p, hp, rfl⟩ := List.mem_map.mp hy
      obtain ⟨x, ex⟩ := hkeys p hp
      obtain ⟨e, he, hi⟩ := pairs_has hpr p.1 (by rw [hks]; exact List.mem_map.mpr ⟨p, hp, rfl⟩)
      rw [ex] at hi ⊢
      obtain ⟨tk, et⟩ := isx x _ hi
      exact ⟨e, he, tk, et⟩
  exact ⟨.ref s.heap.objs.size, _, I.laid (t' := s.toks) kp (Nat.le_refl _) (setUO_new HT), rfl, q _ hn⟩
def rUnion (w : World) : R2 := fun x y H Q => ∃ a b L1 L2, x = .ref a ∧ y = .ref b ∧ H a = some (SetUO w a L1) ∧ H b = some (SetUO w b L2) ∧ a ≠ b ∧ L1.length + L2.length ≤ 16 ∧ ∀ c, H c = none → Q (.ref c) (upd H c (SetUO w c (L1 ++ L2)))
theorem op_union : OpR X (binaryOp .BitOr) (rUnion X.w) := by
  intro pins s σ H x y v u Q I rx ry h
  obtain ⟨a, b, L1, L2, rfl, rfl, ha, hb, hne, hsum, q⟩ := h
  cases rx
  cases ry
  obtain ⟨⟨ea, epa, ta, RA, ma, za⟩, _⟩ := I.hok a _ ha
  obtain ⟨⟨eb, epb, tb, RB, mb, zb⟩, _⟩ := I.hok b _ hb
  have hn : H s.heap.objs.size = none := I.hok.fresh (Nat.le_refl _)
  refine TU.union_at (P := X.prog) (w := X.w) RA RB hne (by omega) fun h' es' ep' t' kp R mm zz => ?_
  have HT : HasT X.w h' s.heap.objs.size (L1 ++ L2) := ⟨es', ep', t', R, fun y => by rw [mm y, ma y, mb y, List.mem_append], by rw [List.length_append]; omega⟩
  exact ⟨.ref s.heap.objs.size, _, I.laid (t' := s.toks) kp (Nat.le_refl _) (setUO_new HT), rfl, q _ hn⟩
def rSortTx (w : World) : List V → Hp → VK → Prop := fun vs H Q => ∃ (a : Addr) (L : List Str), vs = [V.ref a] ∧ H a = some (SetUO w a L) ∧ L.length ≤ 16 ∧
  ∀ (p : Addr) (ys : List Str), H p = none → (∀ y, y ∈ ys ↔ y ∈ L) → ys.length ≤ L.length → Q (.ref p) (upd H p (.lst (ys.map V.str)))
theorem vals_txt {w : World} : ∀ (l : List (Int × Value)), (∀ e ∈ l, TU.GoodT w e) → Vals ((l.map TU.txOf).map V.str) (l.map (·.2))
  | [], _ => .nil
  | e :: l, h => by
    obtain ⟨x, tk, rfl⟩ := h e List.mem_cons_self
    exact .cons ⟨tk, rfl⟩ (vals_txt l fun q hq => h q (List.mem_cons_of_mem _ hq))
theorem cr_sortU (hc : X.calm = true) (hu : X.A.units + 64 < cLine) : CallR X (.builtin "sorted") (rSortTx X.w) := by
  intro pins s σ H vs us Q I r h
  obtain ⟨a, L, rfl, ha, hL, q⟩ := h
  rw [Vals.ref1 r]
  obtain ⟨⟨es, ep, t, R, mm, zz⟩, _⟩ := I.hok a _ ha
  refine TU.call_sorted (P := X.prog) (w := X.w) R (I.ok.hd hc) (by omega) fun s' p out c l k g o hp hg hout pm => ?_
  have hn : H p = none := I.hok.fresh hp
  have hv : Vals ((l.map TU.txOf).map V.str) out.toList := by
    rw [hout]
    exact vals_txt l fun e he => R.good e (pm.mem_iff.mp he)
  have hlen : l.length = es.size := by rw [pm.length_eq, Array.length_toList]
  have J : Inv X pins σ (upd H p (.lst ((l.map TU.txOf).map V.str))) { s with heap := s'.heap, gens := s'.gens, drawn := s'.drawn, toks := s'.toks } :=
    I.call (ch := []) (Un.laid k hp hn) (I.hok.laid k hp ⟨by rw [List.length_map, List.length_map, sizeLine_eq]; omega, out.toList, c, hv, hg⟩) (by rw [g]; exact I.bare) (fun _ z => nomatch z)
  have e : s' = { s with heap := s'.heap, gens := s'.gens, drawn := s'.drawn, toks := s'.toks } := by
    cases s'
    cases s
    cases o
    rfl
  rw [e]
  exact ⟨.ref p, _, J, rfl, q p _ hn (fun y => by rw [(pm.map TU.txOf).mem_iff, mm y]) (by rw [List.length_map]; omega)⟩
end
end G7

set_option linter.all false
set_option Elab.async false
set_option maxRecDepth 100000
set_option maxHeartbeats 4000000
namespace G7
open PySem PySem.Spec PyProof.Rows L2
/-! lists of empty dicts -/
def rNeEm : R2 := fun x y H Q => ∃ (a b : Addr) (ds fs : List Addr), x = .ref a ∧ y = .ref b ∧ H a = some (.lst (ds.map V.ref)) ∧ H b = some (.lst (fs.map V.ref)) ∧ ds.length = fs.length ∧ (∀ d ∈ ds, H d = some (.dK [])) ∧ (∀ d ∈ fs, H d = some (.dK [])) ∧ Q (.bl false) H
theorem dict_empty {P : Program} {w : World} {H : Hp} {h : Heap} {d : Addr} (ok : HOk P w H h) (e : H d = some (.dK [])) : (d == sysModules) = false ∧ ∀ (P' : Program) (w' : World), h.DictOf (mixKind P' w') d [] := by
  obtain ⟨_, hsys, vs, rel, o, es, ep, ho, hex, hd, hko, hpr, hnd⟩ := dk_of ok e
  cases rel
  cases he : es.toList with
  | nil =>
    have e0 : es = #[] := by rw [← Array.toArray_toList (xs := es), he]
    subst e0
    exact ⟨hsys, fun P' w' => ⟨o, #[], ep, ho, hex, hd, fun e he => (by simp at he), .nil, List.nodup_nil⟩⟩
  | cons q r =>
    rw [he] at hpr
    cases hpr
theorem refs_of : ∀ {ds : List Addr} {us : List Value}, Vals (ds.map V.ref) us → us = ds.map Value.ref
  | [], _, .nil => rfl
  | d :: ds, _, .cons r t => by
    cases r
    rw [refs_of t]
    rfl
section
variable {X : Cx}
theorem op_neEm (hu : X.A.units + 64 < cLine) : OpR X (compareOp .NotEq) rNeEm := by
  intro pins s σ H x y v u Q I rx ry h
  obtain ⟨a, b, ds, fs, rfl, rfl, ha, hb, hl, hds, hfs, q⟩ := h
  cases rx
  cases ry
  obtain ⟨us, r1, p1, _⟩ := I.list (show SqL X.K H a _ from .inl (.inl ha))
  obtain ⟨ws, r2, p2, _⟩ := I.list (show SqL X.K H b _ from .inl (.inl hb))
  have e1 := refs_of r1
  have e2 := refs_of r2
  subst e1 e2
  refine SeqAt.RcNeAt.lists (A := X.A) (e := fun _ => true) p1.isList p2.isList (by simp [hl]) (by omega) (fun j h1 h2 => ?_) X.prog X.w _ _ ?_
  · have i1 : j < ds.length := by simpa using h1
    have i2 : j < fs.length := by simpa using h2
    have g1 : (ds.map Value.ref).toArray[j] = Value.ref ds[j] := by simp
    have g2 : (fs.map Value.ref).toArray[j] = Value.ref fs[j] := by simp
    rw [g1, g2]
    obtain ⟨y1, d1⟩ := dict_empty I.hok (hds _ (List.getElem_mem i1))
    obtain ⟨y2, d2⟩ := dict_empty I.hok (hfs _ (List.getElem_mem i2))
    by_cases c : ds[j] = fs[j]
    · rw [c]
      exact SeqAt.EqAt.same _
    · refine SeqAt.EqAt.of_refs c fun P' w' E' Q' q' => ?_
      refine PySem.W.rcP_dicts (knd := mixKind P' w') (ka := []) (kb := []) (r := true) y1 y2 (d1 P' w') (d2 P' w') (by show X.A.units + 1 < cLine; omega) (fun _ => .nil) E' Q' q'
  · rw [show ((List.range (ds.map Value.ref).toArray.size).all fun _ => true) = true from List.all_eq_true.mpr fun _ _ => rfl]
    exact ⟨.bl false, H, I, rfl, q⟩
end
end G7
namespace G7
open PySem PySem.Spec PyProof.Rows L2
/-! ### the plain law: what two conditions say together -/
theorem maxO_comm (a b : OI) : maxO a b = maxO b a := by
  cases a <;> cases b <;> simp only [maxO] <;> first | rfl | (congr 1; omega)
theorem minO_comm (a b : OI) : minO a b = minO b a := by
  cases a <;> cases b <;> simp only [minO] <;> first | rfl | (congr 1; omega)
theorem maxO_assoc (a b c : OI) : maxO (maxO a b) c = maxO a (maxO b c) := by
  cases a <;> cases b <;> cases c <;> simp only [maxO] <;> first | rfl | (congr 1; omega)
theorem minO_assoc (a b c : OI) : minO (minO a b) c = minO a (minO b c) := by
  cases a <;> cases b <;> cases c <;> simp only [minO] <;> first | rfl | (congr 1; omega)
theorem narrow_comm (s t : OI × OI) : narrow s t = narrow t s := by
  unfold narrow
  rw [maxO_comm, minO_comm]
theorem narrow_assoc (s t u : OI × OI) : narrow (narrow s t) u = narrow s (narrow t u) := by
  unfold narrow
  simp only [maxO_assoc, minO_assoc]
theorem narrow_none (s : OI × OI) : narrow (none, none) s = s := by
  obtain ⟨a, b⟩ := s
  rfl
theorem narrow_empty {s : OI × OI} (t : OI × OI) (h : emptyS s = true) : emptyS (narrow s t) = true := by
  obtain ⟨a, b⟩ := s
  obtain ⟨c, d⟩ := t
  cases a with
  | none => cases h
  | some a =>
    cases b with
    | none => cases h
    | some b =>
      have h : b < a := of_decide_eq_true h
      cases c <;> cases d <;> simp only [narrow, maxO, minO, emptyS] <;> exact decide_eq_true (by omega)
def nmS (es : List Sp3) : List Str := es.map (·.1)
theorem put_nm (es : List Sp3) (f : Str) (s : OI × OI) (g : Str) : g ∈ nmS (putS es f s) ↔ g = f ∨ g ∈ nmS es := by
  unfold putS nmS
  by_cases c : (es.any fun e => decide (e.1 = f)) = true
  · rw [if_pos c, List.map_map]
    have e : ((fun x : Sp3 => x.1) ∘ fun e : Sp3 => if e.1 = f then (e.1, s) else e) = fun x : Sp3 => x.1 := by
      funext x
      show (if x.1 = f then (x.1, s) else x).1 = x.1
      split <;> rfl
    rw [e]
    constructor
    · exact .inr
    · rintro (z | z)
      · obtain ⟨e, he, q⟩ := List.any_eq_true.mp c
        exact List.mem_map.mpr ⟨e, he, (of_decide_eq_true q).trans z.symm⟩
      · exact z
  · rw [if_neg c, List.map_append, List.mem_append]
    simp only [List.map_cons, List.map_nil, List.mem_singleton]
    exact Or.comm
theorem put_look : ∀ (es : List Sp3) (f : Str) (s : OI × OI) (g : Str), lookS (putS es f s) g = if g = f then s else lookS es g := by
  intro es f s g
  have upd : ∀ l : List Sp3, ((l.map fun e => if e.1 = f then (e.1, s) else e).find? fun e => decide (e.1 = g)) = (l.find? fun e => decide (e.1 = g)).map fun e => if e.1 = f then (e.1, s) else e := by
    intro l
    induction l with
    | nil => rfl
    | cons e r ih =>
      rw [List.map_cons, List.find?_cons, List.find?_cons]
      have e1 : (if e.1 = f then (e.1, s) else e).1 = e.1 := by split <;> rfl
      rw [e1]
      by_cases q : e.1 = g
      · rw [decide_eq_true q]; rfl
      · rw [decide_eq_false q]; exact ih
  unfold putS lookS
  by_cases c : (es.any fun e => decide (e.1 = f)) = true
  · rw [if_pos c, upd]
    by_cases q : g = f
    · subst q
      rw [if_pos rfl]
      obtain ⟨e, he, q2⟩ := List.any_eq_true.mp c
      cases h : es.find? fun e => decide (e.1 = g) with
      | none => exact absurd q2 (by simpa using List.find?_eq_none.mp h e he)
      | some e2 =>
        have := of_decide_eq_true (List.find?_some (p := fun (e : Sp3) => decide (e.1 = g)) h)
        show (if e2.1 = g then (e2.1, s) else e2).2 = s
        rw [if_pos this]
    · rw [if_neg q]
      cases h : es.find? fun e => decide (e.1 = g) with
      | none => rfl
      | some e2 =>
        have := of_decide_eq_true (List.find?_some (p := fun (e : Sp3) => decide (e.1 = g)) h)
        show (if e2.1 = f then (e2.1, s) else e2).2 = e2.2
        rw [if_neg fun z => q (this.symm.trans z)]
  · rw [if_neg c, List.find?_append]
    by_cases q : g = f
    · subst q
      rw [if_pos rfl]
      have h : es.find? (fun e => decide (e.1 = g)) = none := List.find?_eq_none.mpr fun e he z => c (List.any_eq_true.mpr ⟨e, he, z⟩)
      rw [h]
      simp
    · rw [if_neg q]
      have z : decide (f = g) = false := decide_eq_false fun z => q z.symm
      cases h : es.find? fun e => decide (e.1 = g) with
      | none => simp [z]
      | some e2 => simp
theorem put_nd {es : List Sp3} (f : Str) (s : OI × OI) (h : (nmS es).Nodup) : (nmS (putS es f s)).Nodup := by
  unfold putS
  by_cases c : (es.any fun e => decide (e.1 = f)) = true
  · rw [if_pos c]
    have e : nmS (es.map fun e => if e.1 = f then (e.1, s) else e) = nmS es := by
      unfold nmS
      rw [List.map_map]
      congr 1
      funext x
      show (if x.1 = f then (x.1, s) else x).1 = x.1
      split <;> rfl
    rw [e]
    exact h
  · rw [if_neg c]
    unfold nmS at h ⊢
    rw [List.map_append, List.nodup_append]
    refine ⟨h, by simp, fun a ha b hb => ?_⟩
    rintro rfl
    have hb : a = f := by simpa using hb
    obtain ⟨e, he, q⟩ := List.mem_map.mp ha
    exact c (List.any_eq_true.mpr ⟨e, he, decide_eq_true (q.trans hb)⟩)
theorem put_len (es : List Sp3) (f : Str) (s : OI × OI) : (putS es f s).length ≤ es.length + 1 := by
  unfold putS
  split
  · rw [List.length_map]; omega
  · rw [List.length_append]; exact Nat.le_refl _
/-- what a part does: nothing lets by; nothing; a field is narrowed -/
def act2 (t : Str) (c : Wd) (x y : Tm) : Option (Str × (OI × OI)) := match x, y with
  | .fld t' f, .num a => if t' = t then some (f, spanOf c a) else none
  | _, _ => none
def act (t : Str) : Cd → Option (Option (Str × (OI × OI)))
  | .cmp c x y => if truT c x y = true then some (if x.head = .num then act2 t c.turn y x else act2 t c x y) else none
  | _ => some none
theorem step2_act (t : Str) (es : List Sp3) (c : Wd) (x y : Tm) : step2 t es c x y = match act2 t c x y with
    | none => es
    | some (f, s) => putS es f (narrow (lookS es f) s) := by
  cases x <;> cases y <;> simp only [step2, act2] <;> (split <;> rfl)
theorem stepC_act (t : Str) (es : List Sp3) (c : Cd) : stepC t es c = match act t c with
    | none => none
    | some none => some es
    | some (some (f, s)) => some (putS es f (narrow (lookS es f) s)) := by
  cases c with
  | cmp c x y =>
    simp only [stepC, act]
    by_cases h : truT c x y = true
    · rw [if_pos h, if_pos h]
      by_cases g : x.head = .num
      · rw [if_pos g, if_pos g, step2_act]
        cases act2 t c.turn y x <;> rfl
      · rw [if_neg g, if_neg g, step2_act]
        cases act2 t c x y <;> rfl
    · rw [if_neg h, if_neg h]
  | neg c => rfl
  | con o a b => rfl
def spF (t f : Str) (c : Cd) : OI × OI := match act t c with
  | some (some (g, s)) => if f = g then s else (none, none)
  | _ => (none, none)
def Hit (t f : Str) (l : List Cd) : Prop := ∃ c ∈ l, ∃ s, act t c = some (some (f, s))
def SP (t f : Str) (l : List Cd) : OI × OI := l.foldl (fun a c => narrow a (spF t f c)) (none, none)
theorem fold_narrow (t f : Str) : ∀ (l : List Cd) (a : OI × OI), l.foldl (fun a c => narrow a (spF t f c)) a = narrow a (SP t f l)
  | [], a => by
    show a = narrow a (none, none)
    rw [narrow_comm, narrow_none]
  | c :: l, a => by
    show l.foldl _ (narrow a (spF t f c)) = narrow a (l.foldl _ (narrow (none, none) (spF t f c)))
    rw [fold_narrow t f l (narrow a (spF t f c)), fold_narrow t f l (narrow (none, none) (spF t f c)), narrow_none, narrow_assoc]
theorem SP_append (t f : Str) (l m : List Cd) : SP t f (l ++ m) = narrow (SP t f l) (SP t f m) := by
  show (l ++ m).foldl _ _ = _
  rw [List.foldl_append, fold_narrow]
  rfl
theorem foldC_says (t : Str) : ∀ (l : List Cd) (es : List Sp3), (nmS es).Nodup → match foldC t es l with
    | none => ∃ c ∈ l, act t c = none
    | some b => (∀ c ∈ l, act t c ≠ none) ∧ (∀ f, lookS b f = narrow (lookS es f) (SP t f l)) ∧ (∀ f, f ∈ nmS b ↔ f ∈ nmS es ∨ Hit t f l) ∧ (nmS b).Nodup ∧ b.length ≤ es.length + l.length
  | [], es, nd => by
    refine ⟨fun c hc => absurd hc (by simp), fun f => ?_, fun f => ?_, nd, Nat.le_refl _⟩
    · show _ = narrow _ (none, none)
      rw [narrow_comm, narrow_none]
    · constructor
      · exact .inl
      · rintro (z | ⟨c, hc, _⟩)
        · exact z
        · exact absurd hc (by simp)
  | c :: l, es, nd => by
    show match (match stepC t es c with | none => none | some es' => foldC t es' l) with
      | none => _
      | some b => _
    rw [stepC_act]
    have SPc : ∀ f, SP t f (c :: l) = narrow (spF t f c) (SP t f l) := fun f => by
      show l.foldl _ (narrow (none, none) (spF t f c)) = _
      rw [fold_narrow, narrow_none]
    cases a : act t c with
    | none => exact ⟨c, List.mem_cons_self, a⟩
    | some o =>
      cases o with
      | none =>
        dsimp only
        have ih := foldC_says t l es nd
        have s0 : ∀ f, spF t f c = (none, none) := fun f => by unfold spF; rw [a]
        cases h : foldC t es l with
        | none =>
          rw [h] at ih
          obtain ⟨c', hc', q⟩ := ih
          exact ⟨c', List.mem_cons_of_mem _ hc', q⟩
        | some b =>
          rw [h] at ih
          obtain ⟨h1, h2, h3, h4, h5⟩ := ih
          refine ⟨fun c' hc' => ?_, fun f => by rw [h2 f, SPc f, s0 f, narrow_none], fun f => ?_, h4, by rw [List.length_cons]; omega⟩
          · rcases List.mem_cons.mp hc' with z | z
            · rw [z, a]; exact fun z => nomatch z
            · exact h1 c' z
          · rw [h3 f]
            constructor
            · rintro (z | ⟨c', hc', s, q⟩)
              · exact .inl z
              · exact .inr ⟨c', List.mem_cons_of_mem _ hc', s, q⟩
            · rintro (z | ⟨c', hc', s, q⟩)
              · exact .inl z
              · rcases List.mem_cons.mp hc' with y | y
                · rw [y, a] at q; cases q
                · exact .inr ⟨c', y, s, q⟩
      | some p =>
        obtain ⟨g, s⟩ := p
        dsimp only
        have ih := foldC_says t l (putS es g (narrow (lookS es g) s)) (put_nd _ _ nd)
        have s0 : ∀ f, spF t f c = if f = g then s else (none, none) := fun f => by unfold spF; rw [a]
        cases h : foldC t (putS es g (narrow (lookS es g) s)) l with
        | none =>
          rw [h] at ih
          obtain ⟨c', hc', q⟩ := ih
          exact ⟨c', List.mem_cons_of_mem _ hc', q⟩
        | some b =>
          rw [h] at ih
          obtain ⟨h1, h2, h3, h4, h5⟩ := ih
          have pl := put_len es g (narrow (lookS es g) s)
          refine ⟨fun c' hc' => ?_, fun f => ?_, fun f => ?_, h4, by rw [List.length_cons]; omega⟩
          · rcases List.mem_cons.mp hc' with z | z
            · rw [z, a]; exact fun z => nomatch z
            · exact h1 c' z
          · rw [h2 f, SPc f, s0 f, put_look]
            by_cases q : f = g
            · rw [if_pos q, if_pos q, q, narrow_assoc]
            · rw [if_neg q, if_neg q, narrow_none]
          · rw [h3 f, put_nm]
            constructor
            · rintro ((z | z) | ⟨c', hc', s, q⟩)
              · exact .inr ⟨c, List.mem_cons_self, s, z ▸ a⟩
              · exact .inl z
              · exact .inr ⟨c', List.mem_cons_of_mem _ hc', s, q⟩
            · rintro (z | ⟨c', hc', s', q⟩)
              · exact .inl (.inr z)
              · rcases List.mem_cons.mp hc' with y | y
                · rw [y, a] at q
                  cases q
                  exact .inl (.inl rfl)
                · exact .inr ⟨c', y, s', q⟩
/-- what bounds say -/
def Says (t : Str) (l : List Cd) (b : Option (List Sp3)) : Prop := match b with
  | none => (∃ c ∈ l, act t c = none) ∨ ∃ f, Hit t f l ∧ emptyS (SP t f l) = true
  | some es => (∀ c ∈ l, act t c ≠ none) ∧ (∀ f, lookS es f = SP t f l) ∧ (∀ f, f ∈ nmS es ↔ Hit t f l) ∧ (∀ f, emptyS (SP t f l) = false) ∧ es.length ≤ l.length
theorem look_in {es : List Sp3} (nd : (nmS es).Nodup) {e : Sp3} (he : e ∈ es) : lookS es e.1 = e.2 := by
  induction es with
  | nil => cases he
  | cons a r ih =>
    unfold lookS
    rw [List.find?_cons]
    have nd' : (a.1 :: nmS r).Nodup := nd
    rw [List.nodup_cons] at nd'
    rcases List.mem_cons.mp he with z | z
    · rw [z, decide_eq_true rfl]; rfl
    · have n : ¬ a.1 = e.1 := fun q => nd'.1 (q ▸ List.mem_map.mpr ⟨e, z, rfl⟩)
      rw [decide_eq_false n]
      exact ih nd'.2 z
theorem look_out {es : List Sp3} {f : Str} (h : f ∉ nmS es) : lookS es f = (none, none) := by
  unfold lookS
  have e : es.find? (fun e => decide (e.1 = f)) = none := List.find?_eq_none.mpr fun e he z => h (List.mem_map.mpr ⟨e, he, of_decide_eq_true z⟩)
  rw [e]
  rfl
theorem boundsM_says (t : Str) (co : Option Cd) : Says t (partsO co) (boundsM t co) := by
  have h := foldC_says t (partsO co) [] List.nodup_nil
  unfold boundsM
  cases q : foldC t [] (partsO co) with
  | none =>
    rw [q] at h
    exact .inl h
  | some es =>
    rw [q] at h
    obtain ⟨h1, h2, h3, h4, h5⟩ := h
    have h2' : ∀ f, lookS es f = SP t f (partsO co) := fun f => by rw [h2 f]; exact narrow_none _
    have h3' : ∀ f, f ∈ nmS es ↔ Hit t f (partsO co) := fun f => by rw [h3 f]; simp [nmS]
    dsimp only
    by_cases c : (es.any fun e => emptyS e.2) = true
    · rw [if_pos c]
      obtain ⟨e, he, z⟩ := List.any_eq_true.mp c
      exact .inr ⟨e.1, (h3' _).mp (List.mem_map.mpr ⟨e, he, rfl⟩), by rw [← h2', look_in h4 he]; exact z⟩
    · rw [if_neg c]
      refine ⟨h1, h2', h3', fun f => ?_, by simpa using h5⟩
      by_cases m : f ∈ nmS es
      · obtain ⟨e, he, rfl⟩ := List.mem_map.mp m
        rw [← h2', look_in h4 he]
        cases z : emptyS e.2 with
        | false => rfl
        | true => exact absurd (List.any_eq_true.mpr ⟨e, he, z⟩) c
      · rw [← h2', look_out m]
        rfl
theorem Hit_append {t f : Str} {l m : List Cd} : Hit t f (l ++ m) ↔ Hit t f l ∨ Hit t f m := by
  constructor
  · rintro ⟨c, hc, q⟩
    rcases List.mem_append.mp hc with z | z
    · exact .inl ⟨c, z, q⟩
    · exact .inr ⟨c, z, q⟩
  · rintro (⟨c, hc, q⟩ | ⟨c, hc, q⟩)
    · exact ⟨c, List.mem_append_left _ hc, q⟩
    · exact ⟨c, List.mem_append_right _ hc, q⟩
/-- the spans that two bounds have -/
def BothM (b1 b2 b : Option (List Sp3)) : Prop := match b1, b2 with
  | some e1, some e2 => (match b with
    | none => ∃ f, (f ∈ nmS e1 ∨ f ∈ nmS e2) ∧ emptyS (narrow (lookS e1 f) (lookS e2 f)) = true
    | some e => (∀ f, f ∈ nmS e ↔ f ∈ nmS e1 ∨ f ∈ nmS e2) ∧ (∀ f ∈ nmS e, lookS e f = narrow (lookS e1 f) (lookS e2 f)) ∧ ∀ f ∈ nmS e, emptyS (narrow (lookS e1 f) (lookS e2 f)) = false)
  | _, _ => b = none
theorem BothM.symm {b1 b2 b : Option (List Sp3)} (h : BothM b1 b2 b) : BothM b2 b1 b := by
  cases b1 with
  | none => cases b2 <;> exact h
  | some e1 =>
    cases b2 with
    | none => exact h
    | some e2 =>
      cases b with
      | none =>
        obtain ⟨f, h1, h2⟩ := h
        exact ⟨f, h1.symm, by rw [narrow_comm]; exact h2⟩
      | some e =>
        obtain ⟨h1, h2, h3⟩ := h
        exact ⟨fun f => (h1 f).trans Or.comm, fun f hf => by rw [h2 f hf, narrow_comm], fun f hf => by rw [narrow_comm]; exact h3 f hf⟩
/-- the same spans, whatever their turn -/
def AlikeS (b b' : Option (List Sp3)) : Prop := match b, b' with
  | none, none => True
  | some e, some e' => (∀ f, f ∈ nmS e ↔ f ∈ nmS e') ∧ ∀ f, lookS e f = lookS e' f
  | _, _ => False
theorem law_and {t : Str} {c1 c2 : Cd} {b : Option (List Sp3)} (h : BothM (boundsM t (some c1)) (boundsM t (some c2)) b) : AlikeS (boundsM t (some (.con .and c1 c2))) b := by
  have s1 := boundsM_says t (some c1)
  have s2 := boundsM_says t (some c2)
  have s3 := boundsM_says t (some (.con .and c1 c2))
  have e : partsO (some (.con .and c1 c2)) = partsO (some c1) ++ partsO (some c2) := rfl
  rw [e] at s3
  generalize boundsM t (some c1) = b1 at *
  generalize boundsM t (some c2) = b2 at *
  generalize boundsM t (some (.con .and c1 c2)) = b3 at *
  generalize partsO (some c1) = l1 at *
  generalize partsO (some c2) = l2 at *
  -- one lets nothing by
  have dead : (∃ c ∈ l1, act t c = none) ∨ (∃ f, Hit t f l1 ∧ emptyS (SP t f l1) = true) ∨ (∃ c ∈ l2, act t c = none) ∨ (∃ f, Hit t f l2 ∧ emptyS (SP t f l2) = true) → b3 = none := by
    intro d
    cases b3 with
    | none => rfl
    | some e3 =>
      exfalso
      obtain ⟨g1, g2, g3, g4, _⟩ := s3
      rcases d with ⟨c, hc, q⟩ | ⟨f, _, q⟩ | ⟨c, hc, q⟩ | ⟨f, _, q⟩
      · exact g1 c (List.mem_append_left _ hc) q
      · have z := g4 f
        rw [SP_append, narrow_empty _ q] at z
        cases z
      · exact g1 c (List.mem_append_right _ hc) q
      · have z := g4 f
        rw [SP_append, narrow_comm, narrow_empty _ q] at z
        cases z
  cases b1 with
  | none =>
    rw [dead (s1.elim .inl fun z => .inr (.inl z))]
    have hb : b = none := by cases b2 <;> exact h
    rw [hb]
    trivial
  | some e1 =>
    cases b2 with
    | none =>
      rw [dead (s2.elim (fun z => .inr (.inr (.inl z))) fun z => .inr (.inr (.inr z)))]
      rw [show b = none from h]
      trivial
    | some e2 =>
      obtain ⟨p1, p2, p3, p4, _⟩ := s1
      obtain ⟨q1, q2, q3, q4, _⟩ := s2
      cases b with
      | none =>
        obtain ⟨f, hf, em⟩ := h
        cases b3 with
        | none => trivial
        | some e3 =>
          obtain ⟨g1, g2, g3, g4, _⟩ := s3
          have z := g4 f
          rw [SP_append, ← p2, ← q2, em] at z
          cases z
      | some e =>
        obtain ⟨h1, h2, h3⟩ := h
        cases b3 with
        | none =>
          rcases s3 with ⟨c, hc, q⟩ | ⟨f, hf, q⟩
          · rcases List.mem_append.mp hc with z | z
            · exact (p1 c z q).elim
            · exact (q1 c z q).elim
          · have m : f ∈ nmS e := (h1 f).mpr ((Hit_append.mp hf).imp (p3 f).mpr (q3 f).mpr)
            have z := h3 f m
            rw [p2, q2, ← SP_append, q] at z
            cases z
        | some e3 =>
          obtain ⟨g1, g2, g3, g4, _⟩ := s3
          have mm : ∀ f, f ∈ nmS e3 ↔ f ∈ nmS e := fun f => by rw [g3 f, Hit_append, h1 f, p3 f, q3 f]
          refine ⟨mm, fun f => ?_⟩
          by_cases m : f ∈ nmS e
          · rw [h2 f m, g2 f, SP_append, p2, q2]
          · rw [look_out m, look_out (fun z => m ((mm f).mp z))]
theorem bounds_len {t : Str} {c : Cd} {es : List Sp3} {d m : Nat} (g : c.Good d m) (h : boundsM t (some c) = some es) : es.length ≤ m := by
  have s := boundsM_says t (some c)
  rw [h] at s
  obtain ⟨_, _, _, _, l⟩ := s
  exact Nat.le_trans l (partsO_len (c := some c) g)
theorem bounds_or (t : Str) (a b : Cd) : boundsM t (some (.con .or a b)) = some [] := rfl
theorem bounds_neg (t : Str) (a : Cd) : boundsM t (some (.neg a)) = some [] := rfl
theorem bounds_no (t : Str) : boundsM t none = some [] := rfl
theorem bounds_or_and (t : Str) (a b c : Cd) : boundsM t (some (.con .and (.con .or a b) c)) = boundsM t (some c) := rfl
end G7
namespace G7
open PySem PySem.Spec PyProof.Rows L2
theorem nm_dr (es : List En) : nmS (es.map dr) = es.map (·.1) := by
  unfold nmS
  rw [List.map_map]
  rfl
/-- d != e of dicts of the same spans, in whatever turn -/
theorem ne_alike {K : PySem.W.Frag} {H : Hp} {d1 d2 : Addr} {e1 e2 : List En} {Q : VK} (D1 : DBg gO H d1 e1) (D2 : DBg gO H d2 e2) (a : AlikeS (some (e1.map dr)) (some (e2.map dr))) (k : Q (.bl false) H) : rNeDicO K (.ref d1) (.ref d2) H Q := by
  obtain ⟨a1, a2⟩ := a
  rw [nm_dr, nm_dr] at a1
  have len : e1.length = e2.length := by
    have p : (e1.map (·.1)).Perm (e2.map (·.1)) := (List.perm_ext_iff_of_nodup D1.nd D2.nd).mpr a1
    have q := p.length_eq
    rw [List.length_map, List.length_map] at q
    exact q
  refine .inr ⟨d1, d2, _, _, rfl, rfl, D1.at_, D2.at_, by rw [List.length_map, List.length_map, len], fun p hp => ?_, k⟩
  obtain ⟨e, hm, rfl⟩ := List.mem_map.mp hp
  obtain ⟨e', hm', q1⟩ := List.mem_map.mp ((a1 e.1).mp (List.mem_map.mpr ⟨e, hm, rfl⟩))
  have l1 : lookS (e1.map dr) e.1 = e.2.2 := look_in (e := dr e) (by rw [nm_dr]; exact D1.nd) (List.mem_map.mpr ⟨e, hm, rfl⟩)
  have l2 : lookS (e2.map dr) e'.1 = e'.2.2 := look_in (e := dr e') (by rw [nm_dr]; exact D2.nd) (List.mem_map.mpr ⟨e', hm', rfl⟩)
  have q2 : e'.2.2 = e.2.2 := by rw [← l1, ← l2, q1, a2]
  have hv := val_ent D2.nd hm'
  rw [q1] at hv
  have t1 := D1.tups e hm
  have t2 := D2.tups e' hm'
  rw [q2] at t2
  exact ⟨_, .tuple [oiD e.2.2.1, oiD e.2.2.2], hv, .tup (.inl (.inl t1)) (.cons (dp_oi _ _ _) (.cons (dp_oi _ _ _) .nil)), .tup (.inl (.inl t2)) (.cons (dp_oi _ _ _) (.cons (dp_oi _ _ _) .nil)), sh2 (oiD_lay _) (oiD_lay _) (by rw [oiD_dep]; omega) (by rw [oiD_dep]; omega)⟩
/-- None, or a dict of spans -/
def RBd (H : Hp) (v : V) : Option (List En) → Prop
  | none => v = .non
  | some es => ∃ d, v = .ref d ∧ DBg gO H d es
abbrev spans (b : Option (List En)) : Option (List Sp3) := b.map fun es => es.map dr
theorem RBd.same {H H' : Hp} {v : V} (k : Same H H') : ∀ {b : Option (List En)}, RBd H v b → RBd H' v b
  | none, h => h
  | some es, ⟨d, e, D⟩ => ⟨d, e, D.same k⟩
theorem ne_bd {K : PySem.W.Frag} {H : Hp} {v u : V} {b b' : Option (List En)} {Q : VK} (R : RBd H v b) (R' : RBd H u b') (a : AlikeS (spans b) (spans b')) (k : Q (.bl false) H) : rNeDicO K v u H Q := by
  cases b with
  | none =>
    cases b' with
    | none => exact .inl ⟨R, R', k⟩
    | some e' => exact a.elim
  | some e =>
    cases b' with
    | none => exact a.elim
    | some e' =>
      obtain ⟨d, rfl, D⟩ := R
      obtain ⟨d', rfl, D'⟩ := R'
      exact ne_alike D D' a k
theorem AlikeS.refl : ∀ b : Option (List Sp3), AlikeS b b
  | none => trivial
  | some e => ⟨fun _ => Iff.rfl, fun _ => rfl⟩
end G7

namespace K25
open PySem PySem.Spec PyProof.Rows L2 G7
def top (i : Nat) : Stmt := PySem.Challenge.pw_granary_k25_whole_what_several_condition.main.body.getD i (.Pass ⟨0, 0, 0, 0⟩)
abbrev s_parts_of : Stmt := top 2
abbrev N_parts_of : List Str := ["cond"]
theorem sc_parts_of : FnScope N_parts_of ["cond"] (defScope s_parts_of) := ⟨rfl, rfl, rfl, by decide +kernel, rfl, by decide +kernel, by decide +kernel⟩
abbrev s_turned : Stmt := top 3
abbrev N_turned : List Str := ["cond"]
theorem sc_turned : FnScope N_turned ["cond"] (defScope s_turned) := ⟨rfl, rfl, rfl, by decide +kernel, rfl, by decide +kernel, by decide +kernel⟩
abbrev s_is_known : Stmt := top 4
abbrev N_is_known : List Str := ["cond"]
theorem sc_is_known : FnScope N_is_known ["cond"] (defScope s_is_known) := ⟨rfl, rfl, rfl, by decide +kernel, rfl, by decide +kernel, by decide +kernel⟩
abbrev s_is_true : Stmt := top 5
abbrev N_is_true : List Str := ["word", "one", "other"]
theorem sc_is_true : FnScope N_is_true ["word", "one", "other"] (defScope s_is_true) := ⟨rfl, rfl, rfl, by decide +kernel, rfl, by decide +kernel, by decide +kernel⟩
abbrev s_span_of : Stmt := top 6
abbrev N_span_of : List Str := ["word", "number"]
theorem sc_span_of : FnScope N_span_of ["word", "number"] (defScope s_span_of) := ⟨rfl, rfl, rfl, by decide +kernel, rfl, by decide +kernel, by decide +kernel⟩
abbrev s_narrowed : Stmt := top 7
abbrev N_narrowed : List Str := ["span", "other", "lows", "highs", "one"]
theorem sc_narrowed : FnScope N_narrowed ["span", "other"] (defScope s_narrowed) := ⟨rfl, rfl, rfl, by decide +kernel, rfl, by decide +kernel, by decide +kernel⟩
abbrev s_is_none : Stmt := top 8
abbrev N_is_none : List Str := ["span"]
theorem sc_is_none : FnScope N_is_none ["span"] (defScope s_is_none) := ⟨rfl, rfl, rfl, by decide +kernel, rfl, by decide +kernel, by decide +kernel⟩
abbrev s_bounds : Stmt := top 9
abbrev N_bounds : List Str := ["cond", "table", "found", "part", "field"]
theorem sc_bounds : FnScope N_bounds ["cond", "table"] (defScope s_bounds) := ⟨rfl, rfl, rfl, by decide +kernel, rfl, by decide +kernel, by decide +kernel⟩
abbrev s_l_mix : Stmt := top 11
abbrev N_l_mix : List Str := ["_law_script", "_law_seed", "_law_mixed", "_law_cell"]
theorem sc_l_mix : FnScope N_l_mix ["_law_script", "_law_seed"] (defScope s_l_mix) := ⟨rfl, rfl, rfl, by decide +kernel, rfl, by decide +kernel, by decide +kernel⟩
abbrev s_l_next : Stmt := top 12
abbrev N_l_next : List Str := ["_law_h", "_law_many", "_law_cell"]
theorem sc_l_next : FnScope N_l_next ["_law_h", "_law_many"] (defScope s_l_next) := ⟨rfl, rfl, rfl, by decide +kernel, rfl, by decide +kernel, by decide +kernel⟩
abbrev s_l_shapes : Stmt := top 13
abbrev N_l_shapes : List Str := ["_law_h", "_law_many", "_law_found", "_law_k"]
theorem sc_l_shapes : FnScope N_l_shapes ["_law_h", "_law_many"] (defScope s_l_shapes) := ⟨rfl, rfl, rfl, by decide +kernel, rfl, by decide +kernel, by decide +kernel⟩
abbrev s_l_number : Stmt := top 14
abbrev N_l_number : List Str := ["_law_h"]
theorem sc_l_number : FnScope N_l_number ["_law_h"] (defScope s_l_number) := ⟨rfl, rfl, rfl, by decide +kernel, rfl, by decide +kernel, by decide +kernel⟩
abbrev s_l_term : Stmt := top 15
abbrev N_l_term : List Str := ["_law_h", "_law_fields", "_law_deep", "_law_way"]
theorem sc_l_term : FnScope N_l_term ["_law_h", "_law_fields", "_law_deep"] (defScope s_l_term) := ⟨rfl, rfl, rfl, by decide +kernel, rfl, by decide +kernel, by decide +kernel⟩
abbrev s_l_cond : Stmt := top 16
abbrev N_l_cond : List Str := ["_law_h", "_law_fields", "_law_deep", "_law_way", "_law_word", "_law_some_here", "_law_field", "_law_pair", "_law_k"]
theorem sc_l_cond : FnScope N_l_cond ["_law_h", "_law_fields", "_law_deep"] (defScope s_l_cond) := ⟨rfl, rfl, rfl, by decide +kernel, rfl, by decide +kernel, by decide +kernel⟩
abbrev s_l_some : Stmt := top 17
abbrev N_l_some : List Str := ["_law_h", "_law_shapes_here", "_law_tables", "_law_found", "_law_table", "_law_field"]
theorem sc_l_some : FnScope N_l_some ["_law_h", "_law_shapes_here", "_law_tables"] (defScope s_l_some) := ⟨rfl, rfl, rfl, by decide +kernel, rfl, by decide +kernel, by decide +kernel⟩
abbrev s_l_both : Stmt := top 20
abbrev N_l_both : List Str := ["_law_one", "_law_other", "_law_found", "_law_field", "_law_low", "_law_high", "_law_least", "_law_most", "_law_lows", "_law_highs", "_law_end"]
theorem sc_l_both : FnScope N_l_both ["_law_one", "_law_other"] (defScope s_l_both) := ⟨rfl, rfl, rfl, by decide +kernel, rfl, by decide +kernel, by decide +kernel⟩
abbrev s_law : Stmt := top 21
abbrev N_law : List Str := ["_law_script", "_law_h", "_law_turn", "_law_shapes_here", "_law_fields", "_law_one", "_law_other", "_law_table", "_law_due"]
theorem sc_law : FnScope N_law ["_law_script"] (defScope s_law) := ⟨rfl, rfl, rfl, by decide +kernel, rfl, by decide +kernel, by decide +kernel⟩
structure Txt (K : PySem.W.Frag) (mg : Str → Option Value) (w : World) where
  f_parts_of : Addr
  fd_parts_of : FuncData
  F_parts_of : Fun K "parts_of" "parts_of" s_parts_of f_parts_of fd_parts_of
  b_parts_of : Binds K fd_parts_of ["cond"] []
  mg_parts_of : mg "parts_of" = some (.ref f_parts_of)
  f_turned : Addr
  fd_turned : FuncData
  F_turned : Fun K "turned" "turned" s_turned f_turned fd_turned
  b_turned : Binds K fd_turned ["cond"] []
  mg_turned : mg "turned" = some (.ref f_turned)
  f_is_known : Addr
  fd_is_known : FuncData
  F_is_known : Fun K "is_known" "is_known" s_is_known f_is_known fd_is_known
  b_is_known : Binds K fd_is_known ["cond"] []
  mg_is_known : mg "is_known" = some (.ref f_is_known)
  f_is_true : Addr
  fd_is_true : FuncData
  F_is_true : Fun K "is_true" "is_true" s_is_true f_is_true fd_is_true
  b_is_true : Binds K fd_is_true ["word", "one", "other"] []
  mg_is_true : mg "is_true" = some (.ref f_is_true)
  f_span_of : Addr
  fd_span_of : FuncData
  F_span_of : Fun K "span_of" "span_of" s_span_of f_span_of fd_span_of
  b_span_of : Binds K fd_span_of ["word", "number"] []
  mg_span_of : mg "span_of" = some (.ref f_span_of)
  f_narrowed : Addr
  fd_narrowed : FuncData
  F_narrowed : Fun K "narrowed" "narrowed" s_narrowed f_narrowed fd_narrowed
  b_narrowed : Binds K fd_narrowed ["span", "other"] []
  mg_narrowed : mg "narrowed" = some (.ref f_narrowed)
  f_is_none : Addr
  fd_is_none : FuncData
  F_is_none : Fun K "is_none" "is_none" s_is_none f_is_none fd_is_none
  b_is_none : Binds K fd_is_none ["span"] []
  mg_is_none : mg "is_none" = some (.ref f_is_none)
  f_bounds : Addr
  fd_bounds : FuncData
  F_bounds : Fun K "bounds" "bounds" s_bounds f_bounds fd_bounds
  b_bounds : Binds K fd_bounds ["cond", "table"] []
  mg_bounds : mg "bounds" = some (.ref f_bounds)
  f_l_mix : Addr
  fd_l_mix : FuncData
  F_l_mix : Fun K "_law_mix" "_law_mix" s_l_mix f_l_mix fd_l_mix
  b_l_mix : Binds K fd_l_mix ["_law_script", "_law_seed"] []
  mg_l_mix : mg "_law_mix" = some (.ref f_l_mix)
  f_l_next : Addr
  fd_l_next : FuncData
  F_l_next : Fun K "_law_next" "_law_next" s_l_next f_l_next fd_l_next
  b_l_next : Binds K fd_l_next ["_law_h", "_law_many"] []
  mg_l_next : mg "_law_next" = some (.ref f_l_next)
  f_l_shapes : Addr
  fd_l_shapes : FuncData
  F_l_shapes : Fun K "_law_shapes" "_law_shapes" s_l_shapes f_l_shapes fd_l_shapes
  b_l_shapes : Binds K fd_l_shapes ["_law_h", "_law_many"] []
  mg_l_shapes : mg "_law_shapes" = some (.ref f_l_shapes)
  f_l_number : Addr
  fd_l_number : FuncData
  F_l_number : Fun K "_law_number" "_law_number" s_l_number f_l_number fd_l_number
  b_l_number : Binds K fd_l_number ["_law_h"] []
  mg_l_number : mg "_law_number" = some (.ref f_l_number)
  f_l_term : Addr
  fd_l_term : FuncData
  F_l_term : Fun K "_law_term" "_law_term" s_l_term f_l_term fd_l_term
  b_l_term : Binds K fd_l_term ["_law_h", "_law_fields", "_law_deep"] []
  mg_l_term : mg "_law_term" = some (.ref f_l_term)
  f_l_cond : Addr
  fd_l_cond : FuncData
  F_l_cond : Fun K "_law_cond" "_law_cond" s_l_cond f_l_cond fd_l_cond
  b_l_cond : Binds K fd_l_cond ["_law_h", "_law_fields", "_law_deep"] []
  mg_l_cond : mg "_law_cond" = some (.ref f_l_cond)
  f_l_some : Addr
  fd_l_some : FuncData
  F_l_some : Fun K "_law_some" "_law_some" s_l_some f_l_some fd_l_some
  b_l_some : Binds K fd_l_some ["_law_h", "_law_shapes_here", "_law_tables"] []
  mg_l_some : mg "_law_some" = some (.ref f_l_some)
  f_l_both : Addr
  fd_l_both : FuncData
  F_l_both : Fun K "_law_both" "_law_both" s_l_both f_l_both fd_l_both
  b_l_both : Binds K fd_l_both ["_law_one", "_law_other"] []
  mg_l_both : mg "_law_both" = some (.ref f_l_both)
  f_law : Addr
  fd_law : FuncData
  F_law : Fun K "law" "law" s_law f_law fd_law
  b_law : Binds K fd_law ["_law_script"] []
  mg_law : mg "law" = some (.ref f_law)
  n_max : mg "max" = none
  n_min : mg "min" = none
  n_list : mg "list" = none
  n_len : mg "len" = none
  n_range : mg "range" = none
  n_tuple : mg "tuple" = none
  n_sorted : mg "sorted" = none
  n_int : mg "int" = none
  n_set : mg "set" = none
  a_TURNED : Addr
  mg_TURNED : mg "TURNED" = some (.ref a_TURNED)
  D_TURNED : TabAt K w a_TURNED

section
variable {P : Program} {w : World} {K : PySem.W.Frag} {mg : Str → Option Value} {base : Heap}
theorem ok_l_mix (T : Txt K mg w) : FnOk P w K mg base CX0 1 T.f_l_mix T.fd_l_mix ["_law_script", "_law_seed"] (spMix K) := by
  refine T.F_l_mix.ok sc_l_mix (fun vs H Q E h => ?_) (fun cdv A outer s H vs Q E hr h => ?_)
  · obtain ⟨a, ns, z, rfl, _⟩ := h
    rfl
  · obtain ⟨a, ns, z, rfl, hS, hlen, k⟩ := h
    refine ⟨_, (pss_cons (ps_set (i := 2) sc_l_mix.nd rfl (Or.inl rfl) (pv 1))
      (pss_cons (ps_for PassesOwn.never rfl (pi_list (pv 0)) (pg_name (i := 3) sc_l_mix.nd rfl (Or.inl rfl)) (pss_one (ps_set (i := 2) sc_l_mix.nd rfl (Or.inl rfl) (pe_op op_mod (pe_op op_add (pe_op op_add (pe_op op_mul (pv 2) pe_int) (pe_op op_mod (pv 3) pe_int)) pe_int) pe_int))))
      (pss_one (ps_ret (pe_lst (pa_cons (pv 2) (pa_cons (pe_callTy call_list_of (by rfl) T.n_list (by decide +kernel) (pa_cons (pv 0) pa_nil)) (pa_cons pe_int pa_nil)))))))), ?_⟩
    rw [show L2.start N_l_mix [V.ref a, V.int z] = [some (V.ref a), some (V.int z), none, none] from rfl]
    simp only [tVar, tC, tOp, rI, rI0, rU, tTest, tB, tAnd, tOr, tNot, tAndV, tOrV, tNotV, tIf, tNil, tCons, tTup, tLst, tCB, tSeq, tAsg, gName, tRet, tRetN, tIfS, tNext, tDrop, tCall, tUn, tPar, CMul, CDiv, V.int.injEq, V.bl.injEq, V.ref.injEq, V.str.injEq, Option.some.injEq, List.cons.injEq, and_true, true_and, and_false, false_and, or_false, false_or, or_true, true_or, exists_eq_left', exists_eq_left, exists_and_left, exists_and_right, exists_eq', exists_eq, exists_false, exists_const, List.getElem?_cons_succ, List.getElem?_cons_zero, List.set_cons_succ, List.set_cons_zero, List.length_cons, List.length_nil, List.cons_append, List.nil_append, List.append_nil, reduceCtorEq, Int.reduceLT, Int.reduceLE, Int.reduceNeg, Int.reducePow, Int.reduceSub, Int.reduceAdd, Nat.reduceAdd, Nat.reduceLeDiff, Bool.not_true, Bool.not_false, decide_true, decide_false, Bool.false_eq_true, ↓reduceIte, upd_same, not_true_eq_false, not_false_eq_true, lsO_l, lsO_f, tpO_t, tpO_f, dkO_d, dkO_f, keyO_i, keyO_s, rIxH, rIxU, cLenL, cLenT, cListL, cListT, cTupL, cIntB, cAll, rEqNilI, rEq, rNe, scal_ii, scal_ss, scal_bb, scal_nn, scal_ni, scal_in, scal_ns, scal_sn, gSub, rSetL, ixs0, ixs1, ixs2, seq0, at0, at1, at2, at3, tBM, tBM0, rAppend, rPopAt, tyV_list, tGet2, tGetI, sPut, tMG, rTIdx, tyTup, tTupF, cx_K, cx_w, ex_map_int, ex_nil_int, ex_cons_int, List.map_cons, List.map_nil, List.isEmpty_nil, List.isEmpty_cons, List.eraseIdx_zero, List.tail_cons, List.eraseIdx_cons_zero, HO.lst.injEq, HO.tup.injEq, HO.dK.injEq, HO.frz.injEq, ne_eq, gTupH, gCons, gNil, wipe, tYes, upd_upd, and_assoc, List.getElem?_map, Option.map_some, isn_non_bool, isn_non_int, isn_non_str, isn_non_tuple, isn_non_list, isn_non_dict, isn_bl_bool, isn_bl_int, isn_bl_str, isn_bl_tuple, isn_bl_list, isn_bl_dict, isn_int_bool, isn_int_int, isn_int_str, isn_int_tuple, isn_int_list, isn_int_dict, isn_str_bool, isn_str_int, isn_str_str, isn_str_tuple, isn_str_list, isn_str_dict, isn_lst_bool, isn_lst_int, isn_lst_str, isn_lst_tuple, isn_lst_list, isn_lst_dict, isn_tup_bool, isn_tup_int, isn_tup_str, isn_tup_tuple, isn_tup_list, isn_tup_dict, isn_dct_bool, isn_dct_int, isn_dct_str, isn_dct_tuple, isn_dct_list, isn_dct_dict, okn_bool, okn_int, okn_str, okn_tuple, okn_list, okn_dict, cIsi, tyT_n, tyT_b, tyT_i, tyT_s, tyT_r, V.ty.injEq, tSl, tPart, tNoPart, rSlF, gName, List.length_map, Int.reduceToNat, cpow18, Wd.s_inj, ws_num, ws_field, ws_add, ws_sub, ws_mul, ws_eq, ws_lt, ws_gt, ws_le, ws_ge, ws_and, ws_or, ws_not, rInTab, rIxTab, rCatH, rCat, rInT, cSortD, cMaxL, cMinL, rNeNilI, inV, flatV, List.any_cons, List.any_nil, List.all_cons, List.all_nil, eqV, Bool.and_true, Bool.and_false, Bool.true_and, Bool.false_and, Bool.or_false, Bool.false_or, Bool.or_true, Bool.true_or, Wd.beq_s, sz0, sz1, sz2, sz3, sz4, sz5, sz6, isc_eq, isc_lt, isc_gt, isc_le, isc_ge, isc_and, isc_or, isc_not, isl_and, isl_or, isl_not, rSetD, rUnion, rSortTx, rRep]
    refine ⟨_, rfl, a, rfl, ⟨_, hS⟩, for_list (K := K) (a := a) (xs := ns.map V.int) (fun i σ H2 => ∃ (y : Int) (v : Option V), σ = [some (.ref a), some (.int z), some (.int y), v] ∧ H2 = H) ⟨z, none, rfl, rfl⟩ (fun i σ H2 _ ⟨_, _, _, e⟩ => by rw [e]; exact hS) ?_ ?_⟩
    · rintro i y σ H2 hi ⟨z, v, rfl, rfl⟩
      obtain ⟨c, _, rfl⟩ := int_at hi
      simp only [tVar, tC, tOp, rI, rI0, rU, tTest, tB, tAnd, tOr, tNot, tAndV, tOrV, tNotV, tIf, tNil, tCons, tTup, tLst, tCB, tSeq, tAsg, gName, tRet, tRetN, tIfS, tNext, tDrop, tCall, tUn, tPar, CMul, CDiv, V.int.injEq, V.bl.injEq, V.ref.injEq, V.str.injEq, Option.some.injEq, List.cons.injEq, and_true, true_and, and_false, false_and, or_false, false_or, or_true, true_or, exists_eq_left', exists_eq_left, exists_and_left, exists_and_right, exists_eq', exists_eq, exists_false, exists_const, List.getElem?_cons_succ, List.getElem?_cons_zero, List.set_cons_succ, List.set_cons_zero, List.length_cons, List.length_nil, List.cons_append, List.nil_append, List.append_nil, reduceCtorEq, Int.reduceLT, Int.reduceLE, Int.reduceNeg, Int.reducePow, Int.reduceSub, Int.reduceAdd, Nat.reduceAdd, Nat.reduceLeDiff, Bool.not_true, Bool.not_false, decide_true, decide_false, Bool.false_eq_true, ↓reduceIte, upd_same, not_true_eq_false, not_false_eq_true, lsO_l, lsO_f, tpO_t, tpO_f, dkO_d, dkO_f, keyO_i, keyO_s, rIxH, rIxU, cLenL, cLenT, cListL, cListT, cTupL, cIntB, cAll, rEqNilI, rEq, rNe, scal_ii, scal_ss, scal_bb, scal_nn, scal_ni, scal_in, scal_ns, scal_sn, gSub, rSetL, ixs0, ixs1, ixs2, seq0, at0, at1, at2, at3, tBM, tBM0, rAppend, rPopAt, tyV_list, tGet2, tGetI, sPut, tMG, rTIdx, tyTup, tTupF, cx_K, cx_w, ex_map_int, ex_nil_int, ex_cons_int, List.map_cons, List.map_nil, List.isEmpty_nil, List.isEmpty_cons, List.eraseIdx_zero, List.tail_cons, List.eraseIdx_cons_zero, HO.lst.injEq, HO.tup.injEq, HO.dK.injEq, HO.frz.injEq, ne_eq, gTupH, gCons, gNil, wipe, tYes, upd_upd, and_assoc, List.getElem?_map, Option.map_some, isn_non_bool, isn_non_int, isn_non_str, isn_non_tuple, isn_non_list, isn_non_dict, isn_bl_bool, isn_bl_int, isn_bl_str, isn_bl_tuple, isn_bl_list, isn_bl_dict, isn_int_bool, isn_int_int, isn_int_str, isn_int_tuple, isn_int_list, isn_int_dict, isn_str_bool, isn_str_int, isn_str_str, isn_str_tuple, isn_str_list, isn_str_dict, isn_lst_bool, isn_lst_int, isn_lst_str, isn_lst_tuple, isn_lst_list, isn_lst_dict, isn_tup_bool, isn_tup_int, isn_tup_str, isn_tup_tuple, isn_tup_list, isn_tup_dict, isn_dct_bool, isn_dct_int, isn_dct_str, isn_dct_tuple, isn_dct_list, isn_dct_dict, okn_bool, okn_int, okn_str, okn_tuple, okn_list, okn_dict, cIsi, tyT_n, tyT_b, tyT_i, tyT_s, tyT_r, V.ty.injEq, tSl, tPart, tNoPart, rSlF, gName, List.length_map, Int.reduceToNat, cpow18, Wd.s_inj, ws_num, ws_field, ws_add, ws_sub, ws_mul, ws_eq, ws_lt, ws_gt, ws_le, ws_ge, ws_and, ws_or, ws_not, rInTab, rIxTab, rCatH, rCat, rInT, cSortD, cMaxL, cMinL, rNeNilI, inV, flatV, List.any_cons, List.any_nil, List.all_cons, List.all_nil, eqV, Bool.and_true, Bool.and_false, Bool.true_and, Bool.false_and, Bool.or_false, Bool.false_or, Bool.or_true, Bool.true_or, Wd.beq_s, sz0, sz1, sz2, sz3, sz4, sz5, sz6, isc_eq, isc_lt, isc_gt, isc_le, isc_ge, isc_and, isc_or, isc_not, isl_and, isl_or, isl_not, rSetD, rUnion, rSortTx, rRep]
    · rintro σ H2 ⟨y, v, rfl, rfl⟩
      simp only [tVar, tC, tOp, rI, rI0, rU, tTest, tB, tAnd, tOr, tNot, tAndV, tOrV, tNotV, tIf, tNil, tCons, tTup, tLst, tCB, tSeq, tAsg, gName, tRet, tRetN, tIfS, tNext, tDrop, tCall, tUn, tPar, CMul, CDiv, V.int.injEq, V.bl.injEq, V.ref.injEq, V.str.injEq, Option.some.injEq, List.cons.injEq, and_true, true_and, and_false, false_and, or_false, false_or, or_true, true_or, exists_eq_left', exists_eq_left, exists_and_left, exists_and_right, exists_eq', exists_eq, exists_false, exists_const, List.getElem?_cons_succ, List.getElem?_cons_zero, List.set_cons_succ, List.set_cons_zero, List.length_cons, List.length_nil, List.cons_append, List.nil_append, List.append_nil, reduceCtorEq, Int.reduceLT, Int.reduceLE, Int.reduceNeg, Int.reducePow, Int.reduceSub, Int.reduceAdd, Nat.reduceAdd, Nat.reduceLeDiff, Bool.not_true, Bool.not_false, decide_true, decide_false, Bool.false_eq_true, ↓reduceIte, upd_same, not_true_eq_false, not_false_eq_true, lsO_l, lsO_f, tpO_t, tpO_f, dkO_d, dkO_f, keyO_i, keyO_s, rIxH, rIxU, cLenL, cLenT, cListL, cListT, cTupL, cIntB, cAll, rEqNilI, rEq, rNe, scal_ii, scal_ss, scal_bb, scal_nn, scal_ni, scal_in, scal_ns, scal_sn, gSub, rSetL, ixs0, ixs1, ixs2, seq0, at0, at1, at2, at3, tBM, tBM0, rAppend, rPopAt, tyV_list, tGet2, tGetI, sPut, tMG, rTIdx, tyTup, tTupF, cx_K, cx_w, ex_map_int, ex_nil_int, ex_cons_int, List.map_cons, List.map_nil, List.isEmpty_nil, List.isEmpty_cons, List.eraseIdx_zero, List.tail_cons, List.eraseIdx_cons_zero, HO.lst.injEq, HO.tup.injEq, HO.dK.injEq, HO.frz.injEq, ne_eq, gTupH, gCons, gNil, wipe, tYes, upd_upd, and_assoc, List.getElem?_map, Option.map_some, isn_non_bool, isn_non_int, isn_non_str, isn_non_tuple, isn_non_list, isn_non_dict, isn_bl_bool, isn_bl_int, isn_bl_str, isn_bl_tuple, isn_bl_list, isn_bl_dict, isn_int_bool, isn_int_int, isn_int_str, isn_int_tuple, isn_int_list, isn_int_dict, isn_str_bool, isn_str_int, isn_str_str, isn_str_tuple, isn_str_list, isn_str_dict, isn_lst_bool, isn_lst_int, isn_lst_str, isn_lst_tuple, isn_lst_list, isn_lst_dict, isn_tup_bool, isn_tup_int, isn_tup_str, isn_tup_tuple, isn_tup_list, isn_tup_dict, isn_dct_bool, isn_dct_int, isn_dct_str, isn_dct_tuple, isn_dct_list, isn_dct_dict, okn_bool, okn_int, okn_str, okn_tuple, okn_list, okn_dict, cIsi, tyT_n, tyT_b, tyT_i, tyT_s, tyT_r, V.ty.injEq, tSl, tPart, tNoPart, rSlF, gName, List.length_map, Int.reduceToNat, cpow18, Wd.s_inj, ws_num, ws_field, ws_add, ws_sub, ws_mul, ws_eq, ws_lt, ws_gt, ws_le, ws_ge, ws_and, ws_or, ws_not, rInTab, rIxTab, rCatH, rCat, rInT, cSortD, cMaxL, cMinL, rNeNilI, inV, flatV, List.any_cons, List.any_nil, List.all_cons, List.all_nil, eqV, Bool.and_true, Bool.and_false, Bool.true_and, Bool.false_and, Bool.or_false, Bool.false_or, Bool.or_true, Bool.true_or, Wd.beq_s, sz0, sz1, sz2, sz3, sz4, sz5, sz6, isc_eq, isc_lt, isc_gt, isc_le, isc_ge, isc_and, isc_or, isc_not, isl_and, isl_or, isl_not, rSetD, rUnion, rSortTx, rRep]
      refine ⟨_, .inl hS, fun l hl p hp => ?_⟩
      have nlp : l ≠ p := ne_of_none (H := upd H2 l (.lst (ns.map V.int))) upd_same hp
      refine k _ _ l ((same_new hl).free hp) hl ((same_new hl).trans (same_new hp)) ⟨y, ns, 0, upd_same, ?_, hlen⟩
      rw [upd_ne nlp, upd_same]
theorem ok_l_next (T : Txt K mg w) : FnOk P w K mg base CX0 1 T.f_l_next T.fd_l_next ["_law_h", "_law_many"] spNext := by
  refine T.F_l_next.ok sc_l_next (fun vs H Q E h => ?_) (fun cdv A outer s H vs Q E hr h => ?_)
  · obtain ⟨h, l, n, rfl, _⟩ := h
    rfl
  · obtain ⟨h, l, n, rfl, B, n0, n1, k⟩ := h
    have nhl := B.ne
    obtain ⟨m, ns, pl, e1, e2, hlen⟩ := id B
    refine ⟨_, (pss_cons (ps_set (i := 2) sc_l_next.nd rfl (Or.inl rfl) (pe_ix ix_lst (pe_op op_cat (pe_ix ix_lst (pv 0) pe_int (fun _ _ => rfl)) (pe_lst (pa_cons pe_int pa_nil))) (pe_op op_mod (pe_ix ix_lst (pv 0) pe_int (fun _ _ => rfl)) (pe_callB (call_max2 rfl) (by rfl) T.n_max (by decide +kernel) (pa_cons pe_int (pa_cons (pe_callB len_lst (by rfl) T.n_len PySem.boot_len (pa_cons (pe_ix ix_lst (pv 0) pe_int (fun _ _ => rfl)) pa_nil)) pa_nil)))) (fun _ _ => rfl)))
      (pss_cons (ps_if (pt_cmpR op_ge (pv 2) (pe_op op_pow pe_int pe_int) (nomark _)) (pss_cons (ps_asg (pe_op op_fdiv (pv 2) (pv 1)) (pg_sub (pe_ix ix_lst (pv 0) pe_int (fun _ _ => rfl)) (pe_op op_mod (pe_ix ix_lst (pv 0) pe_int (fun _ _ => rfl)) (pe_callB len_lst (by rfl) T.n_len PySem.boot_len (pa_cons (pe_ix ix_lst (pv 0) pe_int (fun _ _ => rfl)) pa_nil))) set_list))
        (pss_one (ps_ret (pe_op op_mod (pv 2) (pv 1))))) pss_nil)
      (pss_cons (ps_asg (pe_op op_mod (pe_op op_add (pe_op op_add (pe_op op_mul (pe_ix ix_lst (pv 0) pe_int (fun _ _ => rfl)) pe_int) (pe_op op_mul (pv 2) pe_int)) pe_int) pe_int) (pg_sub (pv 0) pe_int set_list))
      (pss_cons (ps_asg (pe_op op_add (pe_ix ix_lst (pv 0) pe_int (fun _ _ => rfl)) pe_int) (pg_sub (pv 0) pe_int set_list))
      (pss_one (ps_ret (pe_op op_mod (pe_op op_fdiv (pe_ix ix_lst (pv 0) pe_int (fun _ _ => rfl)) pe_int) (pv 1)))))))), ?_⟩
    rw [show L2.start N_l_next [V.ref h, V.int n] = [some (V.ref h), some (V.int n), none] from rfl]
    simp only [tVar, tC, tOp, rI, rI0, rU, tTest, tB, tAnd, tOr, tNot, tAndV, tOrV, tNotV, tIf, tNil, tCons, tTup, tLst, tCB, tSeq, tAsg, gName, tRet, tRetN, tIfS, tNext, tDrop, tCall, tUn, tPar, CMul, CDiv, V.int.injEq, V.bl.injEq, V.ref.injEq, V.str.injEq, Option.some.injEq, List.cons.injEq, and_true, true_and, and_false, false_and, or_false, false_or, or_true, true_or, exists_eq_left', exists_eq_left, exists_and_left, exists_and_right, exists_eq', exists_eq, exists_false, exists_const, List.getElem?_cons_succ, List.getElem?_cons_zero, List.set_cons_succ, List.set_cons_zero, List.length_cons, List.length_nil, List.cons_append, List.nil_append, List.append_nil, reduceCtorEq, Int.reduceLT, Int.reduceLE, Int.reduceNeg, Int.reducePow, Int.reduceSub, Int.reduceAdd, Nat.reduceAdd, Nat.reduceLeDiff, Bool.not_true, Bool.not_false, decide_true, decide_false, Bool.false_eq_true, ↓reduceIte, upd_same, not_true_eq_false, not_false_eq_true, lsO_l, lsO_f, tpO_t, tpO_f, dkO_d, dkO_f, keyO_i, keyO_s, rIxH, rIxU, cLenL, cLenT, cListL, cListT, cTupL, cIntB, cAll, rEqNilI, rEq, rNe, scal_ii, scal_ss, scal_bb, scal_nn, scal_ni, scal_in, scal_ns, scal_sn, gSub, rSetL, ixs0, ixs1, ixs2, seq0, at0, at1, at2, at3, tBM, tBM0, rAppend, rPopAt, tyV_list, tGet2, tGetI, sPut, tMG, rTIdx, tyTup, tTupF, cx_K, cx_w, ex_map_int, ex_nil_int, ex_cons_int, List.map_cons, List.map_nil, List.isEmpty_nil, List.isEmpty_cons, List.eraseIdx_zero, List.tail_cons, List.eraseIdx_cons_zero, HO.lst.injEq, HO.tup.injEq, HO.dK.injEq, HO.frz.injEq, ne_eq, gTupH, gCons, gNil, wipe, tYes, upd_upd, and_assoc, List.getElem?_map, Option.map_some, isn_non_bool, isn_non_int, isn_non_str, isn_non_tuple, isn_non_list, isn_non_dict, isn_bl_bool, isn_bl_int, isn_bl_str, isn_bl_tuple, isn_bl_list, isn_bl_dict, isn_int_bool, isn_int_int, isn_int_str, isn_int_tuple, isn_int_list, isn_int_dict, isn_str_bool, isn_str_int, isn_str_str, isn_str_tuple, isn_str_list, isn_str_dict, isn_lst_bool, isn_lst_int, isn_lst_str, isn_lst_tuple, isn_lst_list, isn_lst_dict, isn_tup_bool, isn_tup_int, isn_tup_str, isn_tup_tuple, isn_tup_list, isn_tup_dict, isn_dct_bool, isn_dct_int, isn_dct_str, isn_dct_tuple, isn_dct_list, isn_dct_dict, okn_bool, okn_int, okn_str, okn_tuple, okn_list, okn_dict, cIsi, tyT_n, tyT_b, tyT_i, tyT_s, tyT_r, V.ty.injEq, tSl, tPart, tNoPart, rSlF, gName, List.length_map, Int.reduceToNat, cpow18, Wd.s_inj, ws_num, ws_field, ws_add, ws_sub, ws_mul, ws_eq, ws_lt, ws_gt, ws_le, ws_ge, ws_and, ws_or, ws_not, rInTab, rIxTab, rCatH, rCat, rInT, cSortD, cMaxL, cMinL, rNeNilI, inV, flatV, List.any_cons, List.any_nil, List.all_cons, List.all_nil, eqV, Bool.and_true, Bool.and_false, Bool.true_and, Bool.false_and, Bool.or_false, Bool.false_or, Bool.or_true, Bool.true_or, Wd.beq_s, sz0, sz1, sz2, sz3, sz4, sz5, sz6, isc_eq, isc_lt, isc_gt, isc_le, isc_ge, isc_and, isc_or, isc_not, isl_and, isl_or, isl_not, rSetD, rUnion, rSortTx, rRep, rCat, e1]
    intro p hp
    have nh : h ≠ p := ne_of_none e1 hp
    have nl : l ≠ p := ne_of_none e2 hp
    simp only [tVar, tC, tOp, rI, rI0, rU, tTest, tB, tAnd, tOr, tNot, tAndV, tOrV, tNotV, tIf, tNil, tCons, tTup, tLst, tCB, tSeq, tAsg, gName, tRet, tRetN, tIfS, tNext, tDrop, tCall, tUn, tPar, CMul, CDiv, V.int.injEq, V.bl.injEq, V.ref.injEq, V.str.injEq, Option.some.injEq, List.cons.injEq, and_true, true_and, and_false, false_and, or_false, false_or, or_true, true_or, exists_eq_left', exists_eq_left, exists_and_left, exists_and_right, exists_eq', exists_eq, exists_false, exists_const, List.getElem?_cons_succ, List.getElem?_cons_zero, List.set_cons_succ, List.set_cons_zero, List.length_cons, List.length_nil, List.cons_append, List.nil_append, List.append_nil, reduceCtorEq, Int.reduceLT, Int.reduceLE, Int.reduceNeg, Int.reducePow, Int.reduceSub, Int.reduceAdd, Nat.reduceAdd, Nat.reduceLeDiff, Bool.not_true, Bool.not_false, decide_true, decide_false, Bool.false_eq_true, ↓reduceIte, upd_same, not_true_eq_false, not_false_eq_true, lsO_l, lsO_f, tpO_t, tpO_f, dkO_d, dkO_f, keyO_i, keyO_s, rIxH, rIxU, cLenL, cLenT, cListL, cListT, cTupL, cIntB, cAll, rEqNilI, rEq, rNe, scal_ii, scal_ss, scal_bb, scal_nn, scal_ni, scal_in, scal_ns, scal_sn, gSub, rSetL, ixs0, ixs1, ixs2, seq0, at0, at1, at2, at3, tBM, tBM0, rAppend, rPopAt, tyV_list, tGet2, tGetI, sPut, tMG, rTIdx, tyTup, tTupF, cx_K, cx_w, ex_map_int, ex_nil_int, ex_cons_int, List.map_cons, List.map_nil, List.isEmpty_nil, List.isEmpty_cons, List.eraseIdx_zero, List.tail_cons, List.eraseIdx_cons_zero, HO.lst.injEq, HO.tup.injEq, HO.dK.injEq, HO.frz.injEq, ne_eq, gTupH, gCons, gNil, wipe, tYes, upd_upd, and_assoc, List.getElem?_map, Option.map_some, isn_non_bool, isn_non_int, isn_non_str, isn_non_tuple, isn_non_list, isn_non_dict, isn_bl_bool, isn_bl_int, isn_bl_str, isn_bl_tuple, isn_bl_list, isn_bl_dict, isn_int_bool, isn_int_int, isn_int_str, isn_int_tuple, isn_int_list, isn_int_dict, isn_str_bool, isn_str_int, isn_str_str, isn_str_tuple, isn_str_list, isn_str_dict, isn_lst_bool, isn_lst_int, isn_lst_str, isn_lst_tuple, isn_lst_list, isn_lst_dict, isn_tup_bool, isn_tup_int, isn_tup_str, isn_tup_tuple, isn_tup_list, isn_tup_dict, isn_dct_bool, isn_dct_int, isn_dct_str, isn_dct_tuple, isn_dct_list, isn_dct_dict, okn_bool, okn_int, okn_str, okn_tuple, okn_list, okn_dict, cIsi, tyT_n, tyT_b, tyT_i, tyT_s, tyT_r, V.ty.injEq, tSl, tPart, tNoPart, rSlF, gName, List.length_map, Int.reduceToNat, cpow18, Wd.s_inj, ws_num, ws_field, ws_add, ws_sub, ws_mul, ws_eq, ws_lt, ws_gt, ws_le, ws_ge, ws_and, ws_or, ws_not, rInTab, rIxTab, rCatH, rCat, rInT, cSortD, cMaxL, cMinL, rNeNilI, inV, flatV, List.any_cons, List.any_nil, List.all_cons, List.all_nil, eqV, Bool.and_true, Bool.and_false, Bool.true_and, Bool.false_and, Bool.or_false, Bool.false_or, Bool.or_true, Bool.true_or, Wd.beq_s, sz0, sz1, sz2, sz3, sz4, sz5, sz6, isc_eq, isc_lt, isc_gt, isc_le, isc_ge, isc_and, isc_or, isc_not, isl_and, isl_or, isl_not, rSetD, rUnion, rSortTx, rRep, e1, upd_ne nl, e2]
    refine ⟨szl (by omega), fun q hq => ?_⟩
    have f1 : upd H p (.lst [V.int 0]) h = _ := (upd_ne nh).trans e1
    have f2 : upd H p (.lst [V.int 0]) l = _ := (upd_ne nl).trans e2
    have nhq : h ≠ q := ne_of_none f1 hq
    have nlq : l ≠ q := ne_of_none f2 hq
    obtain ⟨c, hc, hcj⟩ := cell_at ns pl
    have kp : Keep [h, l] H (upd (upd H p (.lst [V.int 0])) q (.lst (ns.map V.int ++ [V.int 0]))) := (Keep.new hp).thenNew hq
    simp only [tVar, tC, tOp, rI, rI0, rU, tTest, tB, tAnd, tOr, tNot, tAndV, tOrV, tNotV, tIf, tNil, tCons, tTup, tLst, tCB, tSeq, tAsg, gName, tRet, tRetN, tIfS, tNext, tDrop, tCall, tUn, tPar, CMul, CDiv, V.int.injEq, V.bl.injEq, V.ref.injEq, V.str.injEq, Option.some.injEq, List.cons.injEq, and_true, true_and, and_false, false_and, or_false, false_or, or_true, true_or, exists_eq_left', exists_eq_left, exists_and_left, exists_and_right, exists_eq', exists_eq, exists_false, exists_const, List.getElem?_cons_succ, List.getElem?_cons_zero, List.set_cons_succ, List.set_cons_zero, List.length_cons, List.length_nil, List.cons_append, List.nil_append, List.append_nil, reduceCtorEq, Int.reduceLT, Int.reduceLE, Int.reduceNeg, Int.reducePow, Int.reduceSub, Int.reduceAdd, Nat.reduceAdd, Nat.reduceLeDiff, Bool.not_true, Bool.not_false, decide_true, decide_false, Bool.false_eq_true, ↓reduceIte, upd_same, not_true_eq_false, not_false_eq_true, lsO_l, lsO_f, tpO_t, tpO_f, dkO_d, dkO_f, keyO_i, keyO_s, rIxH, rIxU, cLenL, cLenT, cListL, cListT, cTupL, cIntB, cAll, rEqNilI, rEq, rNe, scal_ii, scal_ss, scal_bb, scal_nn, scal_ni, scal_in, scal_ns, scal_sn, gSub, rSetL, ixs0, ixs1, ixs2, seq0, at0, at1, at2, at3, tBM, tBM0, rAppend, rPopAt, tyV_list, tGet2, tGetI, sPut, tMG, rTIdx, tyTup, tTupF, cx_K, cx_w, ex_map_int, ex_nil_int, ex_cons_int, List.map_cons, List.map_nil, List.isEmpty_nil, List.isEmpty_cons, List.eraseIdx_zero, List.tail_cons, List.eraseIdx_cons_zero, HO.lst.injEq, HO.tup.injEq, HO.dK.injEq, HO.frz.injEq, ne_eq, gTupH, gCons, gNil, wipe, tYes, upd_upd, and_assoc, List.getElem?_map, Option.map_some, isn_non_bool, isn_non_int, isn_non_str, isn_non_tuple, isn_non_list, isn_non_dict, isn_bl_bool, isn_bl_int, isn_bl_str, isn_bl_tuple, isn_bl_list, isn_bl_dict, isn_int_bool, isn_int_int, isn_int_str, isn_int_tuple, isn_int_list, isn_int_dict, isn_str_bool, isn_str_int, isn_str_str, isn_str_tuple, isn_str_list, isn_str_dict, isn_lst_bool, isn_lst_int, isn_lst_str, isn_lst_tuple, isn_lst_list, isn_lst_dict, isn_tup_bool, isn_tup_int, isn_tup_str, isn_tup_tuple, isn_tup_list, isn_tup_dict, isn_dct_bool, isn_dct_int, isn_dct_str, isn_dct_tuple, isn_dct_list, isn_dct_dict, okn_bool, okn_int, okn_str, okn_tuple, okn_list, okn_dict, cIsi, tyT_n, tyT_b, tyT_i, tyT_s, tyT_r, V.ty.injEq, tSl, tPart, tNoPart, rSlF, gName, List.length_map, Int.reduceToNat, cpow18, Wd.s_inj, ws_num, ws_field, ws_add, ws_sub, ws_mul, ws_eq, ws_lt, ws_gt, ws_le, ws_ge, ws_and, ws_or, ws_not, rInTab, rIxTab, rCatH, rCat, rInT, cSortD, cMaxL, cMinL, rNeNilI, inV, flatV, List.any_cons, List.any_nil, List.all_cons, List.all_nil, eqV, Bool.and_true, Bool.and_false, Bool.true_and, Bool.false_and, Bool.or_false, Bool.false_or, Bool.or_true, Bool.true_or, Wd.beq_s, sz0, sz1, sz2, sz3, sz4, sz5, sz6, isc_eq, isc_lt, isc_gt, isc_le, isc_ge, isc_and, isc_or, isc_not, isl_and, isl_or, isl_not, rSetD, rUnion, rSortTx, rRep, upd_ne nhq, upd_ne nlq, f1, f2, hc]
    refine ⟨by split <;> omega, ?_⟩
    by_cases hbig : 1000000000000000000 ≤ c
    · obtain ⟨g0, j, g1, g2, g3⟩ := hcj (by omega)
      have hix : ixN ns.length (pl % (ns.length : Int)) = some j := ixN_j g2 g1
      simp only [tVar, tC, tOp, rI, rI0, rU, tTest, tB, tAnd, tOr, tNot, tAndV, tOrV, tNotV, tIf, tNil, tCons, tTup, tLst, tCB, tSeq, tAsg, gName, tRet, tRetN, tIfS, tNext, tDrop, tCall, tUn, tPar, CMul, CDiv, V.int.injEq, V.bl.injEq, V.ref.injEq, V.str.injEq, Option.some.injEq, List.cons.injEq, and_true, true_and, and_false, false_and, or_false, false_or, or_true, true_or, exists_eq_left', exists_eq_left, exists_and_left, exists_and_right, exists_eq', exists_eq, exists_false, exists_const, List.getElem?_cons_succ, List.getElem?_cons_zero, List.set_cons_succ, List.set_cons_zero, List.length_cons, List.length_nil, List.cons_append, List.nil_append, List.append_nil, reduceCtorEq, Int.reduceLT, Int.reduceLE, Int.reduceNeg, Int.reducePow, Int.reduceSub, Int.reduceAdd, Nat.reduceAdd, Nat.reduceLeDiff, Bool.not_true, Bool.not_false, decide_true, decide_false, Bool.false_eq_true, ↓reduceIte, upd_same, not_true_eq_false, not_false_eq_true, lsO_l, lsO_f, tpO_t, tpO_f, dkO_d, dkO_f, keyO_i, keyO_s, rIxH, rIxU, cLenL, cLenT, cListL, cListT, cTupL, cIntB, cAll, rEqNilI, rEq, rNe, scal_ii, scal_ss, scal_bb, scal_nn, scal_ni, scal_in, scal_ns, scal_sn, gSub, rSetL, ixs0, ixs1, ixs2, seq0, at0, at1, at2, at3, tBM, tBM0, rAppend, rPopAt, tyV_list, tGet2, tGetI, sPut, tMG, rTIdx, tyTup, tTupF, cx_K, cx_w, ex_map_int, ex_nil_int, ex_cons_int, List.map_cons, List.map_nil, List.isEmpty_nil, List.isEmpty_cons, List.eraseIdx_zero, List.tail_cons, List.eraseIdx_cons_zero, HO.lst.injEq, HO.tup.injEq, HO.dK.injEq, HO.frz.injEq, ne_eq, gTupH, gCons, gNil, wipe, tYes, upd_upd, and_assoc, List.getElem?_map, Option.map_some, isn_non_bool, isn_non_int, isn_non_str, isn_non_tuple, isn_non_list, isn_non_dict, isn_bl_bool, isn_bl_int, isn_bl_str, isn_bl_tuple, isn_bl_list, isn_bl_dict, isn_int_bool, isn_int_int, isn_int_str, isn_int_tuple, isn_int_list, isn_int_dict, isn_str_bool, isn_str_int, isn_str_str, isn_str_tuple, isn_str_list, isn_str_dict, isn_lst_bool, isn_lst_int, isn_lst_str, isn_lst_tuple, isn_lst_list, isn_lst_dict, isn_tup_bool, isn_tup_int, isn_tup_str, isn_tup_tuple, isn_tup_list, isn_tup_dict, isn_dct_bool, isn_dct_int, isn_dct_str, isn_dct_tuple, isn_dct_list, isn_dct_dict, okn_bool, okn_int, okn_str, okn_tuple, okn_list, okn_dict, cIsi, tyT_n, tyT_b, tyT_i, tyT_s, tyT_r, V.ty.injEq, tSl, tPart, tNoPart, rSlF, gName, List.length_map, Int.reduceToNat, cpow18, Wd.s_inj, ws_num, ws_field, ws_add, ws_sub, ws_mul, ws_eq, ws_lt, ws_gt, ws_le, ws_ge, ws_and, ws_or, ws_not, rInTab, rIxTab, rCatH, rCat, rInT, cSortD, cMaxL, cMinL, rNeNilI, inV, flatV, List.any_cons, List.any_nil, List.all_cons, List.all_nil, eqV, Bool.and_true, Bool.and_false, Bool.true_and, Bool.false_and, Bool.or_false, Bool.false_or, Bool.or_true, Bool.true_or, Wd.beq_s, sz0, sz1, sz2, sz3, sz4, sz5, sz6, isc_eq, isc_lt, isc_gt, isc_le, isc_ge, isc_and, isc_or, isc_not, isl_and, isl_or, isl_not, rSetD, rUnion, rSortTx, rRep, hbig, hix]
      refine ⟨n0, n1, g0, n0, k _ _ (Int.emod_nonneg _ (by omega)) (Int.emod_lt_of_pos _ n0) ⟨m, ns.set j (c / n), pl, ?_, ?_, by rw [List.length_set]; exact hlen⟩ (kp.upd (by simp))⟩
      · rw [upd_ne nhl, upd_ne nhq, f1]
      · rw [upd_same, List.map_set]
    · simp only [tVar, tC, tOp, rI, rI0, rU, tTest, tB, tAnd, tOr, tNot, tAndV, tOrV, tNotV, tIf, tNil, tCons, tTup, tLst, tCB, tSeq, tAsg, gName, tRet, tRetN, tIfS, tNext, tDrop, tCall, tUn, tPar, CMul, CDiv, V.int.injEq, V.bl.injEq, V.ref.injEq, V.str.injEq, Option.some.injEq, List.cons.injEq, and_true, true_and, and_false, false_and, or_false, false_or, or_true, true_or, exists_eq_left', exists_eq_left, exists_and_left, exists_and_right, exists_eq', exists_eq, exists_false, exists_const, List.getElem?_cons_succ, List.getElem?_cons_zero, List.set_cons_succ, List.set_cons_zero, List.length_cons, List.length_nil, List.cons_append, List.nil_append, List.append_nil, reduceCtorEq, Int.reduceLT, Int.reduceLE, Int.reduceNeg, Int.reducePow, Int.reduceSub, Int.reduceAdd, Nat.reduceAdd, Nat.reduceLeDiff, Bool.not_true, Bool.not_false, decide_true, decide_false, Bool.false_eq_true, ↓reduceIte, upd_same, not_true_eq_false, not_false_eq_true, lsO_l, lsO_f, tpO_t, tpO_f, dkO_d, dkO_f, keyO_i, keyO_s, rIxH, rIxU, cLenL, cLenT, cListL, cListT, cTupL, cIntB, cAll, rEqNilI, rEq, rNe, scal_ii, scal_ss, scal_bb, scal_nn, scal_ni, scal_in, scal_ns, scal_sn, gSub, rSetL, ixs0, ixs1, ixs2, seq0, at0, at1, at2, at3, tBM, tBM0, rAppend, rPopAt, tyV_list, tGet2, tGetI, sPut, tMG, rTIdx, tyTup, tTupF, cx_K, cx_w, ex_map_int, ex_nil_int, ex_cons_int, List.map_cons, List.map_nil, List.isEmpty_nil, List.isEmpty_cons, List.eraseIdx_zero, List.tail_cons, List.eraseIdx_cons_zero, HO.lst.injEq, HO.tup.injEq, HO.dK.injEq, HO.frz.injEq, ne_eq, gTupH, gCons, gNil, wipe, tYes, upd_upd, and_assoc, List.getElem?_map, Option.map_some, isn_non_bool, isn_non_int, isn_non_str, isn_non_tuple, isn_non_list, isn_non_dict, isn_bl_bool, isn_bl_int, isn_bl_str, isn_bl_tuple, isn_bl_list, isn_bl_dict, isn_int_bool, isn_int_int, isn_int_str, isn_int_tuple, isn_int_list, isn_int_dict, isn_str_bool, isn_str_int, isn_str_str, isn_str_tuple, isn_str_list, isn_str_dict, isn_lst_bool, isn_lst_int, isn_lst_str, isn_lst_tuple, isn_lst_list, isn_lst_dict, isn_tup_bool, isn_tup_int, isn_tup_str, isn_tup_tuple, isn_tup_list, isn_tup_dict, isn_dct_bool, isn_dct_int, isn_dct_str, isn_dct_tuple, isn_dct_list, isn_dct_dict, okn_bool, okn_int, okn_str, okn_tuple, okn_list, okn_dict, cIsi, tyT_n, tyT_b, tyT_i, tyT_s, tyT_r, V.ty.injEq, tSl, tPart, tNoPart, rSlF, gName, List.length_map, Int.reduceToNat, cpow18, Wd.s_inj, ws_num, ws_field, ws_add, ws_sub, ws_mul, ws_eq, ws_lt, ws_gt, ws_le, ws_ge, ws_and, ws_or, ws_not, rInTab, rIxTab, rCatH, rCat, rInT, cSortD, cMaxL, cMinL, rNeNilI, inV, flatV, List.any_cons, List.any_nil, List.all_cons, List.all_nil, eqV, Bool.and_true, Bool.and_false, Bool.true_and, Bool.false_and, Bool.or_false, Bool.false_or, Bool.or_true, Bool.true_or, Wd.beq_s, sz0, sz1, sz2, sz3, sz4, sz5, sz6, isc_eq, isc_lt, isc_gt, isc_le, isc_ge, isc_and, isc_or, isc_not, isl_and, isl_or, isl_not, rSetD, rUnion, rSortTx, rRep, hbig]
      exact ⟨n0, k _ _ (Int.emod_nonneg _ (by omega)) (Int.emod_lt_of_pos _ n0) ⟨_, ns, _, upd_same, by rw [upd_ne nhl.symm, upd_ne nlq, f2], hlen⟩ (kp.upd (by simp))⟩
end

def spNumber : Sp := fun vs H Q _ => ∃ (h l : Addr), vs = [.ref h] ∧ BoxB H h l ∧ ∀ r H', -1000 ≤ r → r ≤ 1000 → BoxB H' h l → Keep [h, l] H H' → Q (.int r) H'
def spTrue : Sp := fun vs H Q _ => ∃ (c : Wd) (a b : Int), vs = [.str c.s, .int a, .int b] ∧ c.isCmp = true ∧ ∀ H', Same H H' → Q (.bl (tru c a b)) H'
def spSpan : Sp := fun vs H Q _ => ∃ (c : Wd) (n : Int), vs = [.str c.s, .int n] ∧ c.isCmp = true ∧ ∀ p H', Same H H' → H' p = some (.tup [oi (spanOf c n).1, oi (spanOf c n).2]) → Q (.ref p) H'
def spIsNone : Sp := fun vs H Q _ => ∃ (a : Addr) (lo hi : OI), vs = [.ref a] ∧ H a = some (.tup [oi lo, oi hi]) ∧ Q (.bl (emptyS (lo, hi))) H
def spKnown : Sp := fun vs H Q _ => ∃ (v : V) (c : Cd), vs = [v] ∧ RC H v c ∧ c.part ∧ Q (.bl (knownC c)) H
def spTurned : Sp := fun vs H Q _ => ∃ (a : Addr) (c : Wd) (u w : V), vs = [.ref a] ∧ H a = some (.tup [.str c.s, u, w]) ∧ c.isCmp = true ∧ ∀ p, H p = none → Q (.ref p) (upd H p (.tup [.str c.turn.s, w, u]))
def spNarrowed : Sp := fun vs H Q _ => ∃ (a b : Addr) (s t : OI × OI), vs = [.ref a, .ref b] ∧ H a = some (.tup [oi s.1, oi s.2]) ∧ H b = some (.tup [oi t.1, oi t.2]) ∧ ∀ p H', Same H H' → H' p = some (.tup [oi (narrow s t).1, oi (narrow s t).2]) → Q (.ref p) H'
section
variable {P : Program} {w : World} {K : PySem.W.Frag} {mg : Str → Option Value} {base : Heap}
theorem ok_l_number (T : Txt K mg w) : FnOk P w K mg base CX0 2 T.f_l_number T.fd_l_number ["_law_h"] spNumber := by
  have G_l_next : FnOk P w K mg base CX0 1 T.f_l_next T.fd_l_next ["_law_h", "_law_many"] spNext := ok_l_next T
  refine T.F_l_number.ok sc_l_number (fun vs H Q E h => ?_) (fun cdv A outer s H vs Q E hr h => ?_)
  · obtain ⟨h, l, rfl, _⟩ := h
    rfl
  · obtain ⟨h, l, rfl, B, k⟩ := h
    refine ⟨_, (pss_one (ps_ret (pe_ix ix_lst (pe_lst (pa_cons (pe_call G_l_next (hr.mono (by decide)) rfl T.mg_l_next T.F_l_next.kp T.b_l_next .nil pass0 (pa_cons (pv 0) (pa_cons pe_int pa_nil))) (pa_cons (pe_op op_sub (pe_call G_l_next (hr.mono (by decide)) rfl T.mg_l_next T.F_l_next.kp T.b_l_next .nil pass0 (pa_cons (pv 0) (pa_cons pe_int pa_nil))) pe_int) (pa_cons (pe_op op_sub (pe_call G_l_next (hr.mono (by decide)) rfl T.mg_l_next T.F_l_next.kp T.b_l_next .nil pass0 (pa_cons (pv 0) (pa_cons pe_int pa_nil))) pe_int) pa_nil)))) (pe_op op_fdiv (pe_call G_l_next (hr.mono (by decide)) rfl T.mg_l_next T.F_l_next.kp T.b_l_next .nil pass0 (pa_cons (pv 0) (pa_cons pe_int pa_nil))) pe_int) (fun _ _ => rfl)))), ?_⟩
    rw [show L2.start N_l_number [V.ref h] = [some (V.ref h)] from rfl]
    simp only [tVar, tC, tOp, rI, rI0, rU, tTest, tB, tAnd, tOr, tNot, tAndV, tOrV, tNotV, tIf, tNil, tCons, tTup, tLst, tCB, tSeq, tAsg, gName, tRet, tRetN, tIfS, tNext, tDrop, tCall, tUn, tPar, CMul, CDiv, V.int.injEq, V.bl.injEq, V.ref.injEq, V.str.injEq, Option.some.injEq, List.cons.injEq, and_true, true_and, and_false, false_and, or_false, false_or, or_true, true_or, exists_eq_left', exists_eq_left, exists_and_left, exists_and_right, exists_eq', exists_eq, exists_false, exists_const, List.getElem?_cons_succ, List.getElem?_cons_zero, List.set_cons_succ, List.set_cons_zero, List.length_cons, List.length_nil, List.cons_append, List.nil_append, List.append_nil, reduceCtorEq, Int.reduceLT, Int.reduceLE, Int.reduceNeg, Int.reducePow, Int.reduceSub, Int.reduceAdd, Nat.reduceAdd, Nat.reduceLeDiff, Bool.not_true, Bool.not_false, decide_true, decide_false, Bool.false_eq_true, ↓reduceIte, upd_same, not_true_eq_false, not_false_eq_true, lsO_l, lsO_f, tpO_t, tpO_f, dkO_d, dkO_f, keyO_i, keyO_s, rIxH, rIxU, cLenL, cLenT, cListL, cListT, cTupL, cIntB, cAll, rEqNilI, rEq, rNe, scal_ii, scal_ss, scal_bb, scal_nn, scal_ni, scal_in, scal_ns, scal_sn, gSub, rSetL, ixs0, ixs1, ixs2, seq0, at0, at1, at2, at3, tBM, tBM0, rAppend, rPopAt, tyV_list, tGet2, tGetI, sPut, tMG, rTIdx, tyTup, tTupF, cx_K, cx_w, ex_map_int, ex_nil_int, ex_cons_int, List.map_cons, List.map_nil, List.isEmpty_nil, List.isEmpty_cons, List.eraseIdx_zero, List.tail_cons, List.eraseIdx_cons_zero, HO.lst.injEq, HO.tup.injEq, HO.dK.injEq, HO.frz.injEq, ne_eq, gTupH, gCons, gNil, wipe, tYes, upd_upd, and_assoc, List.getElem?_map, Option.map_some, isn_non_bool, isn_non_int, isn_non_str, isn_non_tuple, isn_non_list, isn_non_dict, isn_bl_bool, isn_bl_int, isn_bl_str, isn_bl_tuple, isn_bl_list, isn_bl_dict, isn_int_bool, isn_int_int, isn_int_str, isn_int_tuple, isn_int_list, isn_int_dict, isn_str_bool, isn_str_int, isn_str_str, isn_str_tuple, isn_str_list, isn_str_dict, isn_lst_bool, isn_lst_int, isn_lst_str, isn_lst_tuple, isn_lst_list, isn_lst_dict, isn_tup_bool, isn_tup_int, isn_tup_str, isn_tup_tuple, isn_tup_list, isn_tup_dict, isn_dct_bool, isn_dct_int, isn_dct_str, isn_dct_tuple, isn_dct_list, isn_dct_dict, okn_bool, okn_int, okn_str, okn_tuple, okn_list, okn_dict, cIsi, tyT_n, tyT_b, tyT_i, tyT_s, tyT_r, V.ty.injEq, tSl, tPart, tNoPart, rSlF, gName, List.length_map, Int.reduceToNat, cpow18, Wd.s_inj, ws_num, ws_field, ws_add, ws_sub, ws_mul, ws_eq, ws_lt, ws_gt, ws_le, ws_ge, ws_and, ws_or, ws_not, rInTab, rIxTab, rCatH, rCat, rInT, cSortD, cMaxL, cMinL, rNeNilI, inV, flatV, List.any_cons, List.any_nil, List.all_cons, List.all_nil, eqV, Bool.and_true, Bool.and_false, Bool.true_and, Bool.false_and, Bool.or_false, Bool.false_or, Bool.or_true, Bool.true_or, Wd.beq_s, sz0, sz1, sz2, sz3, sz4, sz5, sz6, isc_eq, isc_lt, isc_gt, isc_le, isc_ge, isc_and, isc_or, isc_not, isl_and, isl_or, isl_not, rSetD, rUnion, rSortTx, rRep]
    refine ⟨h, l, 6, rfl, B, by decide, by decide, fun r1 H1 a0 a1 B1 k1 => ?_⟩
    refine ⟨h, l, 13, rfl, B1, by decide, by decide, fun r2 H2 b0 b1 B2 k2 => ?_⟩
    simp only [tVar, tC, tOp, rI, rI0, rU, tTest, tB, tAnd, tOr, tNot, tAndV, tOrV, tNotV, tIf, tNil, tCons, tTup, tLst, tCB, tSeq, tAsg, gName, tRet, tRetN, tIfS, tNext, tDrop, tCall, tUn, tPar, CMul, CDiv, V.int.injEq, V.bl.injEq, V.ref.injEq, V.str.injEq, Option.some.injEq, List.cons.injEq, and_true, true_and, and_false, false_and, or_false, false_or, or_true, true_or, exists_eq_left', exists_eq_left, exists_and_left, exists_and_right, exists_eq', exists_eq, exists_false, exists_const, List.getElem?_cons_succ, List.getElem?_cons_zero, List.set_cons_succ, List.set_cons_zero, List.length_cons, List.length_nil, List.cons_append, List.nil_append, List.append_nil, reduceCtorEq, Int.reduceLT, Int.reduceLE, Int.reduceNeg, Int.reducePow, Int.reduceSub, Int.reduceAdd, Nat.reduceAdd, Nat.reduceLeDiff, Bool.not_true, Bool.not_false, decide_true, decide_false, Bool.false_eq_true, ↓reduceIte, upd_same, not_true_eq_false, not_false_eq_true, lsO_l, lsO_f, tpO_t, tpO_f, dkO_d, dkO_f, keyO_i, keyO_s, rIxH, rIxU, cLenL, cLenT, cListL, cListT, cTupL, cIntB, cAll, rEqNilI, rEq, rNe, scal_ii, scal_ss, scal_bb, scal_nn, scal_ni, scal_in, scal_ns, scal_sn, gSub, rSetL, ixs0, ixs1, ixs2, seq0, at0, at1, at2, at3, tBM, tBM0, rAppend, rPopAt, tyV_list, tGet2, tGetI, sPut, tMG, rTIdx, tyTup, tTupF, cx_K, cx_w, ex_map_int, ex_nil_int, ex_cons_int, List.map_cons, List.map_nil, List.isEmpty_nil, List.isEmpty_cons, List.eraseIdx_zero, List.tail_cons, List.eraseIdx_cons_zero, HO.lst.injEq, HO.tup.injEq, HO.dK.injEq, HO.frz.injEq, ne_eq, gTupH, gCons, gNil, wipe, tYes, upd_upd, and_assoc, List.getElem?_map, Option.map_some, isn_non_bool, isn_non_int, isn_non_str, isn_non_tuple, isn_non_list, isn_non_dict, isn_bl_bool, isn_bl_int, isn_bl_str, isn_bl_tuple, isn_bl_list, isn_bl_dict, isn_int_bool, isn_int_int, isn_int_str, isn_int_tuple, isn_int_list, isn_int_dict, isn_str_bool, isn_str_int, isn_str_str, isn_str_tuple, isn_str_list, isn_str_dict, isn_lst_bool, isn_lst_int, isn_lst_str, isn_lst_tuple, isn_lst_list, isn_lst_dict, isn_tup_bool, isn_tup_int, isn_tup_str, isn_tup_tuple, isn_tup_list, isn_tup_dict, isn_dct_bool, isn_dct_int, isn_dct_str, isn_dct_tuple, isn_dct_list, isn_dct_dict, okn_bool, okn_int, okn_str, okn_tuple, okn_list, okn_dict, cIsi, tyT_n, tyT_b, tyT_i, tyT_s, tyT_r, V.ty.injEq, tSl, tPart, tNoPart, rSlF, gName, List.length_map, Int.reduceToNat, cpow18, Wd.s_inj, ws_num, ws_field, ws_add, ws_sub, ws_mul, ws_eq, ws_lt, ws_gt, ws_le, ws_ge, ws_and, ws_or, ws_not, rInTab, rIxTab, rCatH, rCat, rInT, cSortD, cMaxL, cMinL, rNeNilI, inV, flatV, List.any_cons, List.any_nil, List.all_cons, List.all_nil, eqV, Bool.and_true, Bool.and_false, Bool.true_and, Bool.false_and, Bool.or_false, Bool.false_or, Bool.or_true, Bool.true_or, Wd.beq_s, sz0, sz1, sz2, sz3, sz4, sz5, sz6, isc_eq, isc_lt, isc_gt, isc_le, isc_ge, isc_and, isc_or, isc_not, isl_and, isl_or, isl_not, rSetD, rUnion, rSortTx, rRep]
    refine ⟨h, l, 2000, rfl, B2, by decide, by decide, fun r3 H3 c0 c1 B3 k3 => ?_⟩
    simp only [tVar, tC, tOp, rI, rI0, rU, tTest, tB, tAnd, tOr, tNot, tAndV, tOrV, tNotV, tIf, tNil, tCons, tTup, tLst, tCB, tSeq, tAsg, gName, tRet, tRetN, tIfS, tNext, tDrop, tCall, tUn, tPar, CMul, CDiv, V.int.injEq, V.bl.injEq, V.ref.injEq, V.str.injEq, Option.some.injEq, List.cons.injEq, and_true, true_and, and_false, false_and, or_false, false_or, or_true, true_or, exists_eq_left', exists_eq_left, exists_and_left, exists_and_right, exists_eq', exists_eq, exists_false, exists_const, List.getElem?_cons_succ, List.getElem?_cons_zero, List.set_cons_succ, List.set_cons_zero, List.length_cons, List.length_nil, List.cons_append, List.nil_append, List.append_nil, reduceCtorEq, Int.reduceLT, Int.reduceLE, Int.reduceNeg, Int.reducePow, Int.reduceSub, Int.reduceAdd, Nat.reduceAdd, Nat.reduceLeDiff, Bool.not_true, Bool.not_false, decide_true, decide_false, Bool.false_eq_true, ↓reduceIte, upd_same, not_true_eq_false, not_false_eq_true, lsO_l, lsO_f, tpO_t, tpO_f, dkO_d, dkO_f, keyO_i, keyO_s, rIxH, rIxU, cLenL, cLenT, cListL, cListT, cTupL, cIntB, cAll, rEqNilI, rEq, rNe, scal_ii, scal_ss, scal_bb, scal_nn, scal_ni, scal_in, scal_ns, scal_sn, gSub, rSetL, ixs0, ixs1, ixs2, seq0, at0, at1, at2, at3, tBM, tBM0, rAppend, rPopAt, tyV_list, tGet2, tGetI, sPut, tMG, rTIdx, tyTup, tTupF, cx_K, cx_w, ex_map_int, ex_nil_int, ex_cons_int, List.map_cons, List.map_nil, List.isEmpty_nil, List.isEmpty_cons, List.eraseIdx_zero, List.tail_cons, List.eraseIdx_cons_zero, HO.lst.injEq, HO.tup.injEq, HO.dK.injEq, HO.frz.injEq, ne_eq, gTupH, gCons, gNil, wipe, tYes, upd_upd, and_assoc, List.getElem?_map, Option.map_some, isn_non_bool, isn_non_int, isn_non_str, isn_non_tuple, isn_non_list, isn_non_dict, isn_bl_bool, isn_bl_int, isn_bl_str, isn_bl_tuple, isn_bl_list, isn_bl_dict, isn_int_bool, isn_int_int, isn_int_str, isn_int_tuple, isn_int_list, isn_int_dict, isn_str_bool, isn_str_int, isn_str_str, isn_str_tuple, isn_str_list, isn_str_dict, isn_lst_bool, isn_lst_int, isn_lst_str, isn_lst_tuple, isn_lst_list, isn_lst_dict, isn_tup_bool, isn_tup_int, isn_tup_str, isn_tup_tuple, isn_tup_list, isn_tup_dict, isn_dct_bool, isn_dct_int, isn_dct_str, isn_dct_tuple, isn_dct_list, isn_dct_dict, okn_bool, okn_int, okn_str, okn_tuple, okn_list, okn_dict, cIsi, tyT_n, tyT_b, tyT_i, tyT_s, tyT_r, V.ty.injEq, tSl, tPart, tNoPart, rSlF, gName, List.length_map, Int.reduceToNat, cpow18, Wd.s_inj, ws_num, ws_field, ws_add, ws_sub, ws_mul, ws_eq, ws_lt, ws_gt, ws_le, ws_ge, ws_and, ws_or, ws_not, rInTab, rIxTab, rCatH, rCat, rInT, cSortD, cMaxL, cMinL, rNeNilI, inV, flatV, List.any_cons, List.any_nil, List.all_cons, List.all_nil, eqV, Bool.and_true, Bool.and_false, Bool.true_and, Bool.false_and, Bool.or_false, Bool.false_or, Bool.or_true, Bool.true_or, Wd.beq_s, sz0, sz1, sz2, sz3, sz4, sz5, sz6, isc_eq, isc_lt, isc_gt, isc_le, isc_ge, isc_and, isc_or, isc_not, isl_and, isl_or, isl_not, rSetD, rUnion, rSortTx, rRep]
    intro p hp
    have np : p ∉ [h, l] := (B3.free hp)
    refine ⟨h, l, 7, rfl, B3.same (same_new hp), by decide, by decide, fun r4 H4 d0 d1 B4 k4 => ?_⟩
    have e4 := k4 _ _ np upd_same
    have kk : Keep [h, l] H H4 := ((((k1.trans k2).trans k3).thenNew hp).trans k4)
    simp only [tVar, tC, tOp, rI, rI0, rU, tTest, tB, tAnd, tOr, tNot, tAndV, tOrV, tNotV, tIf, tNil, tCons, tTup, tLst, tCB, tSeq, tAsg, gName, tRet, tRetN, tIfS, tNext, tDrop, tCall, tUn, tPar, CMul, CDiv, V.int.injEq, V.bl.injEq, V.ref.injEq, V.str.injEq, Option.some.injEq, List.cons.injEq, and_true, true_and, and_false, false_and, or_false, false_or, or_true, true_or, exists_eq_left', exists_eq_left, exists_and_left, exists_and_right, exists_eq', exists_eq, exists_false, exists_const, List.getElem?_cons_succ, List.getElem?_cons_zero, List.set_cons_succ, List.set_cons_zero, List.length_cons, List.length_nil, List.cons_append, List.nil_append, List.append_nil, reduceCtorEq, Int.reduceLT, Int.reduceLE, Int.reduceNeg, Int.reducePow, Int.reduceSub, Int.reduceAdd, Nat.reduceAdd, Nat.reduceLeDiff, Bool.not_true, Bool.not_false, decide_true, decide_false, Bool.false_eq_true, ↓reduceIte, upd_same, not_true_eq_false, not_false_eq_true, lsO_l, lsO_f, tpO_t, tpO_f, dkO_d, dkO_f, keyO_i, keyO_s, rIxH, rIxU, cLenL, cLenT, cListL, cListT, cTupL, cIntB, cAll, rEqNilI, rEq, rNe, scal_ii, scal_ss, scal_bb, scal_nn, scal_ni, scal_in, scal_ns, scal_sn, gSub, rSetL, ixs0, ixs1, ixs2, seq0, at0, at1, at2, at3, tBM, tBM0, rAppend, rPopAt, tyV_list, tGet2, tGetI, sPut, tMG, rTIdx, tyTup, tTupF, cx_K, cx_w, ex_map_int, ex_nil_int, ex_cons_int, List.map_cons, List.map_nil, List.isEmpty_nil, List.isEmpty_cons, List.eraseIdx_zero, List.tail_cons, List.eraseIdx_cons_zero, HO.lst.injEq, HO.tup.injEq, HO.dK.injEq, HO.frz.injEq, ne_eq, gTupH, gCons, gNil, wipe, tYes, upd_upd, and_assoc, List.getElem?_map, Option.map_some, isn_non_bool, isn_non_int, isn_non_str, isn_non_tuple, isn_non_list, isn_non_dict, isn_bl_bool, isn_bl_int, isn_bl_str, isn_bl_tuple, isn_bl_list, isn_bl_dict, isn_int_bool, isn_int_int, isn_int_str, isn_int_tuple, isn_int_list, isn_int_dict, isn_str_bool, isn_str_int, isn_str_str, isn_str_tuple, isn_str_list, isn_str_dict, isn_lst_bool, isn_lst_int, isn_lst_str, isn_lst_tuple, isn_lst_list, isn_lst_dict, isn_tup_bool, isn_tup_int, isn_tup_str, isn_tup_tuple, isn_tup_list, isn_tup_dict, isn_dct_bool, isn_dct_int, isn_dct_str, isn_dct_tuple, isn_dct_list, isn_dct_dict, okn_bool, okn_int, okn_str, okn_tuple, okn_list, okn_dict, cIsi, tyT_n, tyT_b, tyT_i, tyT_s, tyT_r, V.ty.injEq, tSl, tPart, tNoPart, rSlF, gName, List.length_map, Int.reduceToNat, cpow18, Wd.s_inj, ws_num, ws_field, ws_add, ws_sub, ws_mul, ws_eq, ws_lt, ws_gt, ws_le, ws_ge, ws_and, ws_or, ws_not, rInTab, rIxTab, rCatH, rCat, rInT, cSortD, cMaxL, cMinL, rNeNilI, inV, flatV, List.any_cons, List.any_nil, List.all_cons, List.all_nil, eqV, Bool.and_true, Bool.and_false, Bool.true_and, Bool.false_and, Bool.or_false, Bool.false_or, Bool.or_true, Bool.true_or, Wd.beq_s, sz0, sz1, sz2, sz3, sz4, sz5, sz6, isc_eq, isc_lt, isc_gt, isc_le, isc_ge, isc_and, isc_or, isc_not, isl_and, isl_or, isl_not, rSetD, rUnion, rSortTx, rRep, e4]
    have hd : r4 / 3 = 0 ∨ r4 / 3 = 1 ∨ r4 / 3 = 2 := by omega
    rcases hd with e | e | e <;> rw [e] <;> simp only [tVar, tC, tOp, rI, rI0, rU, tTest, tB, tAnd, tOr, tNot, tAndV, tOrV, tNotV, tIf, tNil, tCons, tTup, tLst, tCB, tSeq, tAsg, gName, tRet, tRetN, tIfS, tNext, tDrop, tCall, tUn, tPar, CMul, CDiv, V.int.injEq, V.bl.injEq, V.ref.injEq, V.str.injEq, Option.some.injEq, List.cons.injEq, and_true, true_and, and_false, false_and, or_false, false_or, or_true, true_or, exists_eq_left', exists_eq_left, exists_and_left, exists_and_right, exists_eq', exists_eq, exists_false, exists_const, List.getElem?_cons_succ, List.getElem?_cons_zero, List.set_cons_succ, List.set_cons_zero, List.length_cons, List.length_nil, List.cons_append, List.nil_append, List.append_nil, reduceCtorEq, Int.reduceLT, Int.reduceLE, Int.reduceNeg, Int.reducePow, Int.reduceSub, Int.reduceAdd, Nat.reduceAdd, Nat.reduceLeDiff, Bool.not_true, Bool.not_false, decide_true, decide_false, Bool.false_eq_true, ↓reduceIte, upd_same, not_true_eq_false, not_false_eq_true, lsO_l, lsO_f, tpO_t, tpO_f, dkO_d, dkO_f, keyO_i, keyO_s, rIxH, rIxU, cLenL, cLenT, cListL, cListT, cTupL, cIntB, cAll, rEqNilI, rEq, rNe, scal_ii, scal_ss, scal_bb, scal_nn, scal_ni, scal_in, scal_ns, scal_sn, gSub, rSetL, ixs0, ixs1, ixs2, seq0, at0, at1, at2, at3, tBM, tBM0, rAppend, rPopAt, tyV_list, tGet2, tGetI, sPut, tMG, rTIdx, tyTup, tTupF, cx_K, cx_w, ex_map_int, ex_nil_int, ex_cons_int, List.map_cons, List.map_nil, List.isEmpty_nil, List.isEmpty_cons, List.eraseIdx_zero, List.tail_cons, List.eraseIdx_cons_zero, HO.lst.injEq, HO.tup.injEq, HO.dK.injEq, HO.frz.injEq, ne_eq, gTupH, gCons, gNil, wipe, tYes, upd_upd, and_assoc, List.getElem?_map, Option.map_some, isn_non_bool, isn_non_int, isn_non_str, isn_non_tuple, isn_non_list, isn_non_dict, isn_bl_bool, isn_bl_int, isn_bl_str, isn_bl_tuple, isn_bl_list, isn_bl_dict, isn_int_bool, isn_int_int, isn_int_str, isn_int_tuple, isn_int_list, isn_int_dict, isn_str_bool, isn_str_int, isn_str_str, isn_str_tuple, isn_str_list, isn_str_dict, isn_lst_bool, isn_lst_int, isn_lst_str, isn_lst_tuple, isn_lst_list, isn_lst_dict, isn_tup_bool, isn_tup_int, isn_tup_str, isn_tup_tuple, isn_tup_list, isn_tup_dict, isn_dct_bool, isn_dct_int, isn_dct_str, isn_dct_tuple, isn_dct_list, isn_dct_dict, okn_bool, okn_int, okn_str, okn_tuple, okn_list, okn_dict, cIsi, tyT_n, tyT_b, tyT_i, tyT_s, tyT_r, V.ty.injEq, tSl, tPart, tNoPart, rSlF, gName, List.length_map, Int.reduceToNat, cpow18, Wd.s_inj, ws_num, ws_field, ws_add, ws_sub, ws_mul, ws_eq, ws_lt, ws_gt, ws_le, ws_ge, ws_and, ws_or, ws_not, rInTab, rIxTab, rCatH, rCat, rInT, cSortD, cMaxL, cMinL, rNeNilI, inV, flatV, List.any_cons, List.any_nil, List.all_cons, List.all_nil, eqV, Bool.and_true, Bool.and_false, Bool.true_and, Bool.false_and, Bool.or_false, Bool.false_or, Bool.or_true, Bool.true_or, Wd.beq_s, sz0, sz1, sz2, sz3, sz4, sz5, sz6, isc_eq, isc_lt, isc_gt, isc_le, isc_ge, isc_and, isc_or, isc_not, isl_and, isl_or, isl_not, rSetD, rUnion, rSortTx, rRep]
    · exact k _ _ (by omega) (by omega) B4 kk
    · exact k _ _ (by omega) (by omega) B4 kk
    · exact k _ _ (by omega) (by omega) B4 kk
theorem ok_is_true (T : Txt K mg w) : FnOk P w K mg base CX0 1 T.f_is_true T.fd_is_true ["word", "one", "other"] spTrue := by
  refine T.F_is_true.ok sc_is_true (fun vs H Q E h => ?_) (fun cdv A outer s H vs Q E hr h => ?_)
  · obtain ⟨c, a, b, rfl, _⟩ := h
    rfl
  · obtain ⟨c, a, b, rfl, hc, k⟩ := h
    refine ⟨_, (pss_cons (ps_if (pt_cmpR op_eq (pv 0) pe_str (nomark _)) (pss_one (ps_ret (pe_cmpR op_eq (pv 1) (pv 2) (nomark _)))) pss_nil)
      (pss_cons (ps_if (pt_cmpR op_inT (pv 0) (pe_tup (pa_cons pe_str (pa_cons pe_str pa_nil))) (by rfl)) (pss_one (ps_ret (pe_or (pe_cmpR op_lt (pv 1) (pv 2) (nomark _)) (pe_one (pe_and (pe_cmpR op_eq (pv 0) pe_str (nomark _)) (pe_one (pe_cmpR op_eq (pv 1) (pv 2) (nomark _)))))))) pss_nil)
      (pss_one (ps_ret (pe_or (pe_cmpR op_gt (pv 1) (pv 2) (nomark _)) (pe_one (pe_and (pe_cmpR op_eq (pv 0) pe_str (nomark _)) (pe_one (pe_cmpR op_eq (pv 1) (pv 2) (nomark _)))))))))), ?_⟩
    rw [show L2.start N_is_true [V.str c.s, V.int a, V.int b] = [some (V.str c.s), some (V.int a), some (V.int b)] from rfl]
    have ke := k H (Same.refl H)
    have kk := fun p o (hp : H p = none) => k (upd H p o) (same_new hp)
    cases c <;> simp only [Wd.isCmp, reduceCtorEq, Bool.false_eq_true] at hc
    all_goals simp only [tVar, tC, tOp, rI, rI0, rU, tTest, tB, tAnd, tOr, tNot, tAndV, tOrV, tNotV, tIf, tNil, tCons, tTup, tLst, tCB, tSeq, tAsg, gName, tRet, tRetN, tIfS, tNext, tDrop, tCall, tUn, tPar, CMul, CDiv, V.int.injEq, V.bl.injEq, V.ref.injEq, V.str.injEq, Option.some.injEq, List.cons.injEq, and_true, true_and, and_false, false_and, or_false, false_or, or_true, true_or, exists_eq_left', exists_eq_left, exists_and_left, exists_and_right, exists_eq', exists_eq, exists_false, exists_const, List.getElem?_cons_succ, List.getElem?_cons_zero, List.set_cons_succ, List.set_cons_zero, List.length_cons, List.length_nil, List.cons_append, List.nil_append, List.append_nil, reduceCtorEq, Int.reduceLT, Int.reduceLE, Int.reduceNeg, Int.reducePow, Int.reduceSub, Int.reduceAdd, Nat.reduceAdd, Nat.reduceLeDiff, Bool.not_true, Bool.not_false, decide_true, decide_false, Bool.false_eq_true, ↓reduceIte, upd_same, not_true_eq_false, not_false_eq_true, lsO_l, lsO_f, tpO_t, tpO_f, dkO_d, dkO_f, keyO_i, keyO_s, rIxH, rIxU, cLenL, cLenT, cListL, cListT, cTupL, cIntB, cAll, rEqNilI, rEq, rNe, scal_ii, scal_ss, scal_bb, scal_nn, scal_ni, scal_in, scal_ns, scal_sn, gSub, rSetL, ixs0, ixs1, ixs2, seq0, at0, at1, at2, at3, tBM, tBM0, rAppend, rPopAt, tyV_list, tGet2, tGetI, sPut, tMG, rTIdx, tyTup, tTupF, cx_K, cx_w, ex_map_int, ex_nil_int, ex_cons_int, List.map_cons, List.map_nil, List.isEmpty_nil, List.isEmpty_cons, List.eraseIdx_zero, List.tail_cons, List.eraseIdx_cons_zero, HO.lst.injEq, HO.tup.injEq, HO.dK.injEq, HO.frz.injEq, ne_eq, gTupH, gCons, gNil, wipe, tYes, upd_upd, and_assoc, List.getElem?_map, Option.map_some, isn_non_bool, isn_non_int, isn_non_str, isn_non_tuple, isn_non_list, isn_non_dict, isn_bl_bool, isn_bl_int, isn_bl_str, isn_bl_tuple, isn_bl_list, isn_bl_dict, isn_int_bool, isn_int_int, isn_int_str, isn_int_tuple, isn_int_list, isn_int_dict, isn_str_bool, isn_str_int, isn_str_str, isn_str_tuple, isn_str_list, isn_str_dict, isn_lst_bool, isn_lst_int, isn_lst_str, isn_lst_tuple, isn_lst_list, isn_lst_dict, isn_tup_bool, isn_tup_int, isn_tup_str, isn_tup_tuple, isn_tup_list, isn_tup_dict, isn_dct_bool, isn_dct_int, isn_dct_str, isn_dct_tuple, isn_dct_list, isn_dct_dict, okn_bool, okn_int, okn_str, okn_tuple, okn_list, okn_dict, cIsi, tyT_n, tyT_b, tyT_i, tyT_s, tyT_r, V.ty.injEq, tSl, tPart, tNoPart, rSlF, gName, List.length_map, Int.reduceToNat, cpow18, Wd.s_inj, ws_num, ws_field, ws_add, ws_sub, ws_mul, ws_eq, ws_lt, ws_gt, ws_le, ws_ge, ws_and, ws_or, ws_not, rInTab, rIxTab, rCatH, rCat, rInT, cSortD, cMaxL, cMinL, rNeNilI, inV, flatV, List.any_cons, List.any_nil, List.all_cons, List.all_nil, eqV, Bool.and_true, Bool.and_false, Bool.true_and, Bool.false_and, Bool.or_false, Bool.false_or, Bool.or_true, Bool.true_or, Wd.beq_s, sz0, sz1, sz2, sz3, sz4, sz5, sz6, isc_eq, isc_lt, isc_gt, isc_le, isc_ge, isc_and, isc_or, isc_not, isl_and, isl_or, isl_not, rSetD, rUnion, rSortTx, rRep, Bool.or_self]
    · exact ke
    all_goals
      intro p hp
      have q := kk p (.tup [V.str Wd.lt.s, V.str Wd.le.s]) hp
      simp only [tru] at q
      (repeat' split) <;> rename_i h <;> simp only [decide_eq_true_eq] at h <;> first | (rw [decide_eq_true (by omega)] at q; exact q) | (rw [decide_eq_false (by omega)] at q; exact q) | (rw [show decide (a ≤ b) = decide (a = b) from decide_eq_decide.mpr (by omega)] at q; exact q) | (rw [show decide (b ≤ a) = decide (a = b) from decide_eq_decide.mpr (by omega)] at q; exact q)
theorem ok_span_of (T : Txt K mg w) : FnOk P w K mg base CX0 1 T.f_span_of T.fd_span_of ["word", "number"] spSpan := by
  refine T.F_span_of.ok sc_span_of (fun vs H Q E h => ?_) (fun cdv A outer s H vs Q E hr h => ?_)
  · obtain ⟨c, a, rfl, _⟩ := h
    rfl
  · obtain ⟨c, a, rfl, hc, k⟩ := h
    refine ⟨_, (pss_cons (ps_if (pt_cmpR op_eq (pv 0) pe_str (nomark _)) (pss_one (ps_ret (pe_tup (pa_cons (pv 1) (pa_cons (pv 1) pa_nil))))) pss_nil)
      (pss_cons (ps_if (pt_cmpR op_inT (pv 0) (pe_tup (pa_cons pe_str (pa_cons pe_str pa_nil))) (by rfl)) (pss_one (ps_ret (pe_tup (pa_cons pe_non (pa_cons (pe_ifExp (pt_cmpR op_eq (pv 0) pe_str (nomark _)) (pv 1) (pe_op op_sub (pv 1) pe_int)) pa_nil))))) pss_nil)
      (pss_one (ps_ret (pe_tup (pa_cons (pe_ifExp (pt_cmpR op_eq (pv 0) pe_str (nomark _)) (pv 1) (pe_op op_add (pv 1) pe_int)) (pa_cons pe_non pa_nil))))))), ?_⟩
    rw [show L2.start N_span_of [V.str c.s, V.int a] = [some (V.str c.s), some (V.int a)] from rfl]
    cases c <;> simp only [Wd.isCmp, reduceCtorEq, Bool.false_eq_true] at hc
    all_goals simp only [tVar, tC, tOp, rI, rI0, rU, tTest, tB, tAnd, tOr, tNot, tAndV, tOrV, tNotV, tIf, tNil, tCons, tTup, tLst, tCB, tSeq, tAsg, gName, tRet, tRetN, tIfS, tNext, tDrop, tCall, tUn, tPar, CMul, CDiv, V.int.injEq, V.bl.injEq, V.ref.injEq, V.str.injEq, Option.some.injEq, List.cons.injEq, and_true, true_and, and_false, false_and, or_false, false_or, or_true, true_or, exists_eq_left', exists_eq_left, exists_and_left, exists_and_right, exists_eq', exists_eq, exists_false, exists_const, List.getElem?_cons_succ, List.getElem?_cons_zero, List.set_cons_succ, List.set_cons_zero, List.length_cons, List.length_nil, List.cons_append, List.nil_append, List.append_nil, reduceCtorEq, Int.reduceLT, Int.reduceLE, Int.reduceNeg, Int.reducePow, Int.reduceSub, Int.reduceAdd, Nat.reduceAdd, Nat.reduceLeDiff, Bool.not_true, Bool.not_false, decide_true, decide_false, Bool.false_eq_true, ↓reduceIte, upd_same, not_true_eq_false, not_false_eq_true, lsO_l, lsO_f, tpO_t, tpO_f, dkO_d, dkO_f, keyO_i, keyO_s, rIxH, rIxU, cLenL, cLenT, cListL, cListT, cTupL, cIntB, cAll, rEqNilI, rEq, rNe, scal_ii, scal_ss, scal_bb, scal_nn, scal_ni, scal_in, scal_ns, scal_sn, gSub, rSetL, ixs0, ixs1, ixs2, seq0, at0, at1, at2, at3, tBM, tBM0, rAppend, rPopAt, tyV_list, tGet2, tGetI, sPut, tMG, rTIdx, tyTup, tTupF, cx_K, cx_w, ex_map_int, ex_nil_int, ex_cons_int, List.map_cons, List.map_nil, List.isEmpty_nil, List.isEmpty_cons, List.eraseIdx_zero, List.tail_cons, List.eraseIdx_cons_zero, HO.lst.injEq, HO.tup.injEq, HO.dK.injEq, HO.frz.injEq, ne_eq, gTupH, gCons, gNil, wipe, tYes, upd_upd, and_assoc, List.getElem?_map, Option.map_some, isn_non_bool, isn_non_int, isn_non_str, isn_non_tuple, isn_non_list, isn_non_dict, isn_bl_bool, isn_bl_int, isn_bl_str, isn_bl_tuple, isn_bl_list, isn_bl_dict, isn_int_bool, isn_int_int, isn_int_str, isn_int_tuple, isn_int_list, isn_int_dict, isn_str_bool, isn_str_int, isn_str_str, isn_str_tuple, isn_str_list, isn_str_dict, isn_lst_bool, isn_lst_int, isn_lst_str, isn_lst_tuple, isn_lst_list, isn_lst_dict, isn_tup_bool, isn_tup_int, isn_tup_str, isn_tup_tuple, isn_tup_list, isn_tup_dict, isn_dct_bool, isn_dct_int, isn_dct_str, isn_dct_tuple, isn_dct_list, isn_dct_dict, okn_bool, okn_int, okn_str, okn_tuple, okn_list, okn_dict, cIsi, tyT_n, tyT_b, tyT_i, tyT_s, tyT_r, V.ty.injEq, tSl, tPart, tNoPart, rSlF, gName, List.length_map, Int.reduceToNat, cpow18, Wd.s_inj, ws_num, ws_field, ws_add, ws_sub, ws_mul, ws_eq, ws_lt, ws_gt, ws_le, ws_ge, ws_and, ws_or, ws_not, rInTab, rIxTab, rCatH, rCat, rInT, cSortD, cMaxL, cMinL, rNeNilI, inV, flatV, List.any_cons, List.any_nil, List.all_cons, List.all_nil, eqV, Bool.and_true, Bool.and_false, Bool.true_and, Bool.false_and, Bool.or_false, Bool.false_or, Bool.or_true, Bool.true_or, Wd.beq_s, sz0, sz1, sz2, sz3, sz4, sz5, sz6, isc_eq, isc_lt, isc_gt, isc_le, isc_ge, isc_and, isc_or, isc_not, isl_and, isl_or, isl_not, rSetD, rUnion, rSortTx, rRep, Bool.or_self]
    · exact fun p hp => k p _ (same_new hp) upd_same
    all_goals
      intro p hp q hq
      exact k q _ ((same_new hp).trans (same_new hq)) upd_same
theorem ok_is_none (T : Txt K mg w) : FnOk P w K mg base CX0 1 T.f_is_none T.fd_is_none ["span"] spIsNone := by
  refine T.F_is_none.ok sc_is_none (fun vs H Q E h => ?_) (fun cdv A outer s H vs Q E hr h => ?_)
  · obtain ⟨a, lo, hi, rfl, _⟩ := h
    rfl
  · obtain ⟨a, lo, hi, rfl, ha, k⟩ := h
    refine ⟨_, (pss_one (ps_ret (pe_and (pe_cmpR op_notN (pe_ix ix_tp (pv 0) pe_int (fun _ _ => rfl)) pe_non (nomark _)) (pe_and (pe_cmpR op_notN (pe_ix ix_tp (pv 0) pe_int (fun _ _ => rfl)) pe_non (nomark _)) (pe_one (pe_cmpR op_gt (pe_ix ix_tp (pv 0) pe_int (fun _ _ => rfl)) (pe_ix ix_tp (pv 0) pe_int (fun _ _ => rfl)) (nomark _))))))), ?_⟩
    rw [show L2.start N_is_none [V.ref a] = [some (V.ref a)] from rfl]
    simp only [tVar, tC, tOp, rI, rI0, rU, tTest, tB, tAnd, tOr, tNot, tAndV, tOrV, tNotV, tIf, tNil, tCons, tTup, tLst, tCB, tSeq, tAsg, gName, tRet, tRetN, tIfS, tNext, tDrop, tCall, tUn, tPar, CMul, CDiv, V.int.injEq, V.bl.injEq, V.ref.injEq, V.str.injEq, Option.some.injEq, List.cons.injEq, and_true, true_and, and_false, false_and, or_false, false_or, or_true, true_or, exists_eq_left', exists_eq_left, exists_and_left, exists_and_right, exists_eq', exists_eq, exists_false, exists_const, List.getElem?_cons_succ, List.getElem?_cons_zero, List.set_cons_succ, List.set_cons_zero, List.length_cons, List.length_nil, List.cons_append, List.nil_append, List.append_nil, reduceCtorEq, Int.reduceLT, Int.reduceLE, Int.reduceNeg, Int.reducePow, Int.reduceSub, Int.reduceAdd, Nat.reduceAdd, Nat.reduceLeDiff, Bool.not_true, Bool.not_false, decide_true, decide_false, Bool.false_eq_true, ↓reduceIte, upd_same, not_true_eq_false, not_false_eq_true, lsO_l, lsO_f, tpO_t, tpO_f, dkO_d, dkO_f, keyO_i, keyO_s, rIxH, rIxU, cLenL, cLenT, cListL, cListT, cTupL, cIntB, cAll, rEqNilI, rEq, rNe, scal_ii, scal_ss, scal_bb, scal_nn, scal_ni, scal_in, scal_ns, scal_sn, gSub, rSetL, ixs0, ixs1, ixs2, seq0, at0, at1, at2, at3, tBM, tBM0, rAppend, rPopAt, tyV_list, tGet2, tGetI, sPut, tMG, rTIdx, tyTup, tTupF, cx_K, cx_w, ex_map_int, ex_nil_int, ex_cons_int, List.map_cons, List.map_nil, List.isEmpty_nil, List.isEmpty_cons, List.eraseIdx_zero, List.tail_cons, List.eraseIdx_cons_zero, HO.lst.injEq, HO.tup.injEq, HO.dK.injEq, HO.frz.injEq, ne_eq, gTupH, gCons, gNil, wipe, tYes, upd_upd, and_assoc, List.getElem?_map, Option.map_some, isn_non_bool, isn_non_int, isn_non_str, isn_non_tuple, isn_non_list, isn_non_dict, isn_bl_bool, isn_bl_int, isn_bl_str, isn_bl_tuple, isn_bl_list, isn_bl_dict, isn_int_bool, isn_int_int, isn_int_str, isn_int_tuple, isn_int_list, isn_int_dict, isn_str_bool, isn_str_int, isn_str_str, isn_str_tuple, isn_str_list, isn_str_dict, isn_lst_bool, isn_lst_int, isn_lst_str, isn_lst_tuple, isn_lst_list, isn_lst_dict, isn_tup_bool, isn_tup_int, isn_tup_str, isn_tup_tuple, isn_tup_list, isn_tup_dict, isn_dct_bool, isn_dct_int, isn_dct_str, isn_dct_tuple, isn_dct_list, isn_dct_dict, okn_bool, okn_int, okn_str, okn_tuple, okn_list, okn_dict, cIsi, tyT_n, tyT_b, tyT_i, tyT_s, tyT_r, V.ty.injEq, tSl, tPart, tNoPart, rSlF, gName, List.length_map, Int.reduceToNat, cpow18, Wd.s_inj, ws_num, ws_field, ws_add, ws_sub, ws_mul, ws_eq, ws_lt, ws_gt, ws_le, ws_ge, ws_and, ws_or, ws_not, rInTab, rIxTab, rCatH, rCat, rInT, cSortD, cMaxL, cMinL, rNeNilI, inV, flatV, List.any_cons, List.any_nil, List.all_cons, List.all_nil, eqV, Bool.and_true, Bool.and_false, Bool.true_and, Bool.false_and, Bool.or_false, Bool.false_or, Bool.or_true, Bool.true_or, Wd.beq_s, sz0, sz1, sz2, sz3, sz4, sz5, sz6, isc_eq, isc_lt, isc_gt, isc_le, isc_ge, isc_and, isc_or, isc_not, isl_and, isl_or, isl_not, rSetD, rUnion, rSortTx, rRep, ha]
    cases lo <;> cases hi <;> simp only [tVar, tC, tOp, rI, rI0, rU, tTest, tB, tAnd, tOr, tNot, tAndV, tOrV, tNotV, tIf, tNil, tCons, tTup, tLst, tCB, tSeq, tAsg, gName, tRet, tRetN, tIfS, tNext, tDrop, tCall, tUn, tPar, CMul, CDiv, V.int.injEq, V.bl.injEq, V.ref.injEq, V.str.injEq, Option.some.injEq, List.cons.injEq, and_true, true_and, and_false, false_and, or_false, false_or, or_true, true_or, exists_eq_left', exists_eq_left, exists_and_left, exists_and_right, exists_eq', exists_eq, exists_false, exists_const, List.getElem?_cons_succ, List.getElem?_cons_zero, List.set_cons_succ, List.set_cons_zero, List.length_cons, List.length_nil, List.cons_append, List.nil_append, List.append_nil, reduceCtorEq, Int.reduceLT, Int.reduceLE, Int.reduceNeg, Int.reducePow, Int.reduceSub, Int.reduceAdd, Nat.reduceAdd, Nat.reduceLeDiff, Bool.not_true, Bool.not_false, decide_true, decide_false, Bool.false_eq_true, ↓reduceIte, upd_same, not_true_eq_false, not_false_eq_true, lsO_l, lsO_f, tpO_t, tpO_f, dkO_d, dkO_f, keyO_i, keyO_s, rIxH, rIxU, cLenL, cLenT, cListL, cListT, cTupL, cIntB, cAll, rEqNilI, rEq, rNe, scal_ii, scal_ss, scal_bb, scal_nn, scal_ni, scal_in, scal_ns, scal_sn, gSub, rSetL, ixs0, ixs1, ixs2, seq0, at0, at1, at2, at3, tBM, tBM0, rAppend, rPopAt, tyV_list, tGet2, tGetI, sPut, tMG, rTIdx, tyTup, tTupF, cx_K, cx_w, ex_map_int, ex_nil_int, ex_cons_int, List.map_cons, List.map_nil, List.isEmpty_nil, List.isEmpty_cons, List.eraseIdx_zero, List.tail_cons, List.eraseIdx_cons_zero, HO.lst.injEq, HO.tup.injEq, HO.dK.injEq, HO.frz.injEq, ne_eq, gTupH, gCons, gNil, wipe, tYes, upd_upd, and_assoc, List.getElem?_map, Option.map_some, isn_non_bool, isn_non_int, isn_non_str, isn_non_tuple, isn_non_list, isn_non_dict, isn_bl_bool, isn_bl_int, isn_bl_str, isn_bl_tuple, isn_bl_list, isn_bl_dict, isn_int_bool, isn_int_int, isn_int_str, isn_int_tuple, isn_int_list, isn_int_dict, isn_str_bool, isn_str_int, isn_str_str, isn_str_tuple, isn_str_list, isn_str_dict, isn_lst_bool, isn_lst_int, isn_lst_str, isn_lst_tuple, isn_lst_list, isn_lst_dict, isn_tup_bool, isn_tup_int, isn_tup_str, isn_tup_tuple, isn_tup_list, isn_tup_dict, isn_dct_bool, isn_dct_int, isn_dct_str, isn_dct_tuple, isn_dct_list, isn_dct_dict, okn_bool, okn_int, okn_str, okn_tuple, okn_list, okn_dict, cIsi, tyT_n, tyT_b, tyT_i, tyT_s, tyT_r, V.ty.injEq, tSl, tPart, tNoPart, rSlF, gName, List.length_map, Int.reduceToNat, cpow18, Wd.s_inj, ws_num, ws_field, ws_add, ws_sub, ws_mul, ws_eq, ws_lt, ws_gt, ws_le, ws_ge, ws_and, ws_or, ws_not, rInTab, rIxTab, rCatH, rCat, rInT, cSortD, cMaxL, cMinL, rNeNilI, inV, flatV, List.any_cons, List.any_nil, List.all_cons, List.all_nil, eqV, Bool.and_true, Bool.and_false, Bool.true_and, Bool.false_and, Bool.or_false, Bool.false_or, Bool.or_true, Bool.true_or, Wd.beq_s, sz0, sz1, sz2, sz3, sz4, sz5, sz6, isc_eq, isc_lt, isc_gt, isc_le, isc_ge, isc_and, isc_or, isc_not, isl_and, isl_or, isl_not, rSetD, rUnion, rSortTx, rRep, oi_n, oi_s]
    all_goals exact k
theorem ok_is_known (T : Txt K mg w) : FnOk P w K mg base CX0 1 T.f_is_known T.fd_is_known ["cond"] spKnown := by
  refine T.F_is_known.ok sc_is_known (fun vs H Q E h => ?_) (fun cdv A outer s H vs Q E hr h => ?_)
  · obtain ⟨v, c, rfl, _⟩ := h
    rfl
  · obtain ⟨v, c, rfl, R, hp, k⟩ := h
    refine ⟨_, (pss_one (ps_ret (pe_and (pe_cmpR (op_inTab T.D_TURNED) (pe_ix ix_tp (pv 0) pe_int (fun _ _ => rfl)) (pe_glob rfl T.mg_TURNED (v := .ref T.a_TURNED) rfl) (by rfl)) (pe_and (pe_cmpR op_eq (pe_ix ix_tp (pe_ix ix_tp (pv 0) pe_int (fun _ _ => rfl)) pe_int (fun _ _ => rfl)) pe_str (nomark _)) (pe_one (pe_cmpR op_eq (pe_ix ix_tp (pe_ix ix_tp (pv 0) pe_int (fun _ _ => rfl)) pe_int (fun _ _ => rfl)) pe_str (nomark _))))))), ?_⟩
    rw [show L2.start N_is_known [v] = [some (v)] from rfl]
    cases c with
    | cmp c x y =>
      obtain ⟨a, u, z, rfl, ha, hx, hy⟩ := R
      obtain ⟨ax, rx, rfl, hax⟩ := hx.headed
      obtain ⟨ay, ry, rfl, hay⟩ := hy.headed
      simp only [tVar, tC, tOp, rI, rI0, rU, tTest, tB, tAnd, tOr, tNot, tAndV, tOrV, tNotV, tIf, tNil, tCons, tTup, tLst, tCB, tSeq, tAsg, gName, tRet, tRetN, tIfS, tNext, tDrop, tCall, tUn, tPar, CMul, CDiv, V.int.injEq, V.bl.injEq, V.ref.injEq, V.str.injEq, Option.some.injEq, List.cons.injEq, and_true, true_and, and_false, false_and, or_false, false_or, or_true, true_or, exists_eq_left', exists_eq_left, exists_and_left, exists_and_right, exists_eq', exists_eq, exists_false, exists_const, List.getElem?_cons_succ, List.getElem?_cons_zero, List.set_cons_succ, List.set_cons_zero, List.length_cons, List.length_nil, List.cons_append, List.nil_append, List.append_nil, reduceCtorEq, Int.reduceLT, Int.reduceLE, Int.reduceNeg, Int.reducePow, Int.reduceSub, Int.reduceAdd, Nat.reduceAdd, Nat.reduceLeDiff, Bool.not_true, Bool.not_false, decide_true, decide_false, Bool.false_eq_true, ↓reduceIte, upd_same, not_true_eq_false, not_false_eq_true, lsO_l, lsO_f, tpO_t, tpO_f, dkO_d, dkO_f, keyO_i, keyO_s, rIxH, rIxU, cLenL, cLenT, cListL, cListT, cTupL, cIntB, cAll, rEqNilI, rEq, rNe, scal_ii, scal_ss, scal_bb, scal_nn, scal_ni, scal_in, scal_ns, scal_sn, gSub, rSetL, ixs0, ixs1, ixs2, seq0, at0, at1, at2, at3, tBM, tBM0, rAppend, rPopAt, tyV_list, tGet2, tGetI, sPut, tMG, rTIdx, tyTup, tTupF, cx_K, cx_w, ex_map_int, ex_nil_int, ex_cons_int, List.map_cons, List.map_nil, List.isEmpty_nil, List.isEmpty_cons, List.eraseIdx_zero, List.tail_cons, List.eraseIdx_cons_zero, HO.lst.injEq, HO.tup.injEq, HO.dK.injEq, HO.frz.injEq, ne_eq, gTupH, gCons, gNil, wipe, tYes, upd_upd, and_assoc, List.getElem?_map, Option.map_some, isn_non_bool, isn_non_int, isn_non_str, isn_non_tuple, isn_non_list, isn_non_dict, isn_bl_bool, isn_bl_int, isn_bl_str, isn_bl_tuple, isn_bl_list, isn_bl_dict, isn_int_bool, isn_int_int, isn_int_str, isn_int_tuple, isn_int_list, isn_int_dict, isn_str_bool, isn_str_int, isn_str_str, isn_str_tuple, isn_str_list, isn_str_dict, isn_lst_bool, isn_lst_int, isn_lst_str, isn_lst_tuple, isn_lst_list, isn_lst_dict, isn_tup_bool, isn_tup_int, isn_tup_str, isn_tup_tuple, isn_tup_list, isn_tup_dict, isn_dct_bool, isn_dct_int, isn_dct_str, isn_dct_tuple, isn_dct_list, isn_dct_dict, okn_bool, okn_int, okn_str, okn_tuple, okn_list, okn_dict, cIsi, tyT_n, tyT_b, tyT_i, tyT_s, tyT_r, V.ty.injEq, tSl, tPart, tNoPart, rSlF, gName, List.length_map, Int.reduceToNat, cpow18, Wd.s_inj, ws_num, ws_field, ws_add, ws_sub, ws_mul, ws_eq, ws_lt, ws_gt, ws_le, ws_ge, ws_and, ws_or, ws_not, rInTab, rIxTab, rCatH, rCat, rInT, cSortD, cMaxL, cMinL, rNeNilI, inV, flatV, List.any_cons, List.any_nil, List.all_cons, List.all_nil, eqV, Bool.and_true, Bool.and_false, Bool.true_and, Bool.false_and, Bool.or_false, Bool.false_or, Bool.or_true, Bool.true_or, Wd.beq_s, sz0, sz1, sz2, sz3, sz4, sz5, sz6, isc_eq, isc_lt, isc_gt, isc_le, isc_ge, isc_and, isc_or, isc_not, isl_and, isl_or, isl_not, rSetD, rUnion, rSortTx, rRep, ha, hax, hay, hp.1]
      rw [knownC] at k
      split
      · rename_i e
        rw [e, Bool.true_and] at k
        exact k
      · rename_i e
        rw [eq_false_of_ne_true e, Bool.false_and] at k
        exact k
    | neg c =>
      obtain ⟨a, u, rfl, ha, hx⟩ := R
      simp only [tVar, tC, tOp, rI, rI0, rU, tTest, tB, tAnd, tOr, tNot, tAndV, tOrV, tNotV, tIf, tNil, tCons, tTup, tLst, tCB, tSeq, tAsg, gName, tRet, tRetN, tIfS, tNext, tDrop, tCall, tUn, tPar, CMul, CDiv, V.int.injEq, V.bl.injEq, V.ref.injEq, V.str.injEq, Option.some.injEq, List.cons.injEq, and_true, true_and, and_false, false_and, or_false, false_or, or_true, true_or, exists_eq_left', exists_eq_left, exists_and_left, exists_and_right, exists_eq', exists_eq, exists_false, exists_const, List.getElem?_cons_succ, List.getElem?_cons_zero, List.set_cons_succ, List.set_cons_zero, List.length_cons, List.length_nil, List.cons_append, List.nil_append, List.append_nil, reduceCtorEq, Int.reduceLT, Int.reduceLE, Int.reduceNeg, Int.reducePow, Int.reduceSub, Int.reduceAdd, Nat.reduceAdd, Nat.reduceLeDiff, Bool.not_true, Bool.not_false, decide_true, decide_false, Bool.false_eq_true, ↓reduceIte, upd_same, not_true_eq_false, not_false_eq_true, lsO_l, lsO_f, tpO_t, tpO_f, dkO_d, dkO_f, keyO_i, keyO_s, rIxH, rIxU, cLenL, cLenT, cListL, cListT, cTupL, cIntB, cAll, rEqNilI, rEq, rNe, scal_ii, scal_ss, scal_bb, scal_nn, scal_ni, scal_in, scal_ns, scal_sn, gSub, rSetL, ixs0, ixs1, ixs2, seq0, at0, at1, at2, at3, tBM, tBM0, rAppend, rPopAt, tyV_list, tGet2, tGetI, sPut, tMG, rTIdx, tyTup, tTupF, cx_K, cx_w, ex_map_int, ex_nil_int, ex_cons_int, List.map_cons, List.map_nil, List.isEmpty_nil, List.isEmpty_cons, List.eraseIdx_zero, List.tail_cons, List.eraseIdx_cons_zero, HO.lst.injEq, HO.tup.injEq, HO.dK.injEq, HO.frz.injEq, ne_eq, gTupH, gCons, gNil, wipe, tYes, upd_upd, and_assoc, List.getElem?_map, Option.map_some, isn_non_bool, isn_non_int, isn_non_str, isn_non_tuple, isn_non_list, isn_non_dict, isn_bl_bool, isn_bl_int, isn_bl_str, isn_bl_tuple, isn_bl_list, isn_bl_dict, isn_int_bool, isn_int_int, isn_int_str, isn_int_tuple, isn_int_list, isn_int_dict, isn_str_bool, isn_str_int, isn_str_str, isn_str_tuple, isn_str_list, isn_str_dict, isn_lst_bool, isn_lst_int, isn_lst_str, isn_lst_tuple, isn_lst_list, isn_lst_dict, isn_tup_bool, isn_tup_int, isn_tup_str, isn_tup_tuple, isn_tup_list, isn_tup_dict, isn_dct_bool, isn_dct_int, isn_dct_str, isn_dct_tuple, isn_dct_list, isn_dct_dict, okn_bool, okn_int, okn_str, okn_tuple, okn_list, okn_dict, cIsi, tyT_n, tyT_b, tyT_i, tyT_s, tyT_r, V.ty.injEq, tSl, tPart, tNoPart, rSlF, gName, List.length_map, Int.reduceToNat, cpow18, Wd.s_inj, ws_num, ws_field, ws_add, ws_sub, ws_mul, ws_eq, ws_lt, ws_gt, ws_le, ws_ge, ws_and, ws_or, ws_not, rInTab, rIxTab, rCatH, rCat, rInT, cSortD, cMaxL, cMinL, rNeNilI, inV, flatV, List.any_cons, List.any_nil, List.all_cons, List.all_nil, eqV, Bool.and_true, Bool.and_false, Bool.true_and, Bool.false_and, Bool.or_false, Bool.false_or, Bool.or_true, Bool.true_or, Wd.beq_s, sz0, sz1, sz2, sz3, sz4, sz5, sz6, isc_eq, isc_lt, isc_gt, isc_le, isc_ge, isc_and, isc_or, isc_not, isl_and, isl_or, isl_not, rSetD, rUnion, rSortTx, rRep, ha]
      exact k
    | con o x y =>
      obtain ⟨a, u, z, rfl, ha, hx, hy⟩ := R
      obtain rfl : o = .or := hp
      simp only [tVar, tC, tOp, rI, rI0, rU, tTest, tB, tAnd, tOr, tNot, tAndV, tOrV, tNotV, tIf, tNil, tCons, tTup, tLst, tCB, tSeq, tAsg, gName, tRet, tRetN, tIfS, tNext, tDrop, tCall, tUn, tPar, CMul, CDiv, V.int.injEq, V.bl.injEq, V.ref.injEq, V.str.injEq, Option.some.injEq, List.cons.injEq, and_true, true_and, and_false, false_and, or_false, false_or, or_true, true_or, exists_eq_left', exists_eq_left, exists_and_left, exists_and_right, exists_eq', exists_eq, exists_false, exists_const, List.getElem?_cons_succ, List.getElem?_cons_zero, List.set_cons_succ, List.set_cons_zero, List.length_cons, List.length_nil, List.cons_append, List.nil_append, List.append_nil, reduceCtorEq, Int.reduceLT, Int.reduceLE, Int.reduceNeg, Int.reducePow, Int.reduceSub, Int.reduceAdd, Nat.reduceAdd, Nat.reduceLeDiff, Bool.not_true, Bool.not_false, decide_true, decide_false, Bool.false_eq_true, ↓reduceIte, upd_same, not_true_eq_false, not_false_eq_true, lsO_l, lsO_f, tpO_t, tpO_f, dkO_d, dkO_f, keyO_i, keyO_s, rIxH, rIxU, cLenL, cLenT, cListL, cListT, cTupL, cIntB, cAll, rEqNilI, rEq, rNe, scal_ii, scal_ss, scal_bb, scal_nn, scal_ni, scal_in, scal_ns, scal_sn, gSub, rSetL, ixs0, ixs1, ixs2, seq0, at0, at1, at2, at3, tBM, tBM0, rAppend, rPopAt, tyV_list, tGet2, tGetI, sPut, tMG, rTIdx, tyTup, tTupF, cx_K, cx_w, ex_map_int, ex_nil_int, ex_cons_int, List.map_cons, List.map_nil, List.isEmpty_nil, List.isEmpty_cons, List.eraseIdx_zero, List.tail_cons, List.eraseIdx_cons_zero, HO.lst.injEq, HO.tup.injEq, HO.dK.injEq, HO.frz.injEq, ne_eq, gTupH, gCons, gNil, wipe, tYes, upd_upd, and_assoc, List.getElem?_map, Option.map_some, isn_non_bool, isn_non_int, isn_non_str, isn_non_tuple, isn_non_list, isn_non_dict, isn_bl_bool, isn_bl_int, isn_bl_str, isn_bl_tuple, isn_bl_list, isn_bl_dict, isn_int_bool, isn_int_int, isn_int_str, isn_int_tuple, isn_int_list, isn_int_dict, isn_str_bool, isn_str_int, isn_str_str, isn_str_tuple, isn_str_list, isn_str_dict, isn_lst_bool, isn_lst_int, isn_lst_str, isn_lst_tuple, isn_lst_list, isn_lst_dict, isn_tup_bool, isn_tup_int, isn_tup_str, isn_tup_tuple, isn_tup_list, isn_tup_dict, isn_dct_bool, isn_dct_int, isn_dct_str, isn_dct_tuple, isn_dct_list, isn_dct_dict, okn_bool, okn_int, okn_str, okn_tuple, okn_list, okn_dict, cIsi, tyT_n, tyT_b, tyT_i, tyT_s, tyT_r, V.ty.injEq, tSl, tPart, tNoPart, rSlF, gName, List.length_map, Int.reduceToNat, cpow18, Wd.s_inj, ws_num, ws_field, ws_add, ws_sub, ws_mul, ws_eq, ws_lt, ws_gt, ws_le, ws_ge, ws_and, ws_or, ws_not, rInTab, rIxTab, rCatH, rCat, rInT, cSortD, cMaxL, cMinL, rNeNilI, inV, flatV, List.any_cons, List.any_nil, List.all_cons, List.all_nil, eqV, Bool.and_true, Bool.and_false, Bool.true_and, Bool.false_and, Bool.or_false, Bool.false_or, Bool.or_true, Bool.true_or, Wd.beq_s, sz0, sz1, sz2, sz3, sz4, sz5, sz6, isc_eq, isc_lt, isc_gt, isc_le, isc_ge, isc_and, isc_or, isc_not, isl_and, isl_or, isl_not, rSetD, rUnion, rSortTx, rRep, ha]
      exact k
theorem ok_turned (T : Txt K mg w) : FnOk P w K mg base CX0 1 T.f_turned T.fd_turned ["cond"] spTurned := by
  refine T.F_turned.ok sc_turned (fun vs H Q E h => ?_) (fun cdv A outer s H vs Q E hr h => ?_)
  · obtain ⟨a, c, u, z, rfl, _⟩ := h
    rfl
  · obtain ⟨a, c, u, z, rfl, ha, hc, k⟩ := h
    refine ⟨_, (pss_one (ps_ret (pe_tup (pa_cons (pe_ix (ix_tab T.D_TURNED) (pe_glob rfl T.mg_TURNED (v := .ref T.a_TURNED) rfl) (pe_ix ix_tp (pv 0) pe_int (fun _ _ => rfl)) (fun _ _ => rfl)) (pa_cons (pe_ix ix_tp (pv 0) pe_int (fun _ _ => rfl)) (pa_cons (pe_ix ix_tp (pv 0) pe_int (fun _ _ => rfl)) pa_nil)))))), ?_⟩
    rw [show L2.start N_turned [V.ref a] = [some (V.ref a)] from rfl]
    simp only [tVar, tC, tOp, rI, rI0, rU, tTest, tB, tAnd, tOr, tNot, tAndV, tOrV, tNotV, tIf, tNil, tCons, tTup, tLst, tCB, tSeq, tAsg, gName, tRet, tRetN, tIfS, tNext, tDrop, tCall, tUn, tPar, CMul, CDiv, V.int.injEq, V.bl.injEq, V.ref.injEq, V.str.injEq, Option.some.injEq, List.cons.injEq, and_true, true_and, and_false, false_and, or_false, false_or, or_true, true_or, exists_eq_left', exists_eq_left, exists_and_left, exists_and_right, exists_eq', exists_eq, exists_false, exists_const, List.getElem?_cons_succ, List.getElem?_cons_zero, List.set_cons_succ, List.set_cons_zero, List.length_cons, List.length_nil, List.cons_append, List.nil_append, List.append_nil, reduceCtorEq, Int.reduceLT, Int.reduceLE, Int.reduceNeg, Int.reducePow, Int.reduceSub, Int.reduceAdd, Nat.reduceAdd, Nat.reduceLeDiff, Bool.not_true, Bool.not_false, decide_true, decide_false, Bool.false_eq_true, ↓reduceIte, upd_same, not_true_eq_false, not_false_eq_true, lsO_l, lsO_f, tpO_t, tpO_f, dkO_d, dkO_f, keyO_i, keyO_s, rIxH, rIxU, cLenL, cLenT, cListL, cListT, cTupL, cIntB, cAll, rEqNilI, rEq, rNe, scal_ii, scal_ss, scal_bb, scal_nn, scal_ni, scal_in, scal_ns, scal_sn, gSub, rSetL, ixs0, ixs1, ixs2, seq0, at0, at1, at2, at3, tBM, tBM0, rAppend, rPopAt, tyV_list, tGet2, tGetI, sPut, tMG, rTIdx, tyTup, tTupF, cx_K, cx_w, ex_map_int, ex_nil_int, ex_cons_int, List.map_cons, List.map_nil, List.isEmpty_nil, List.isEmpty_cons, List.eraseIdx_zero, List.tail_cons, List.eraseIdx_cons_zero, HO.lst.injEq, HO.tup.injEq, HO.dK.injEq, HO.frz.injEq, ne_eq, gTupH, gCons, gNil, wipe, tYes, upd_upd, and_assoc, List.getElem?_map, Option.map_some, isn_non_bool, isn_non_int, isn_non_str, isn_non_tuple, isn_non_list, isn_non_dict, isn_bl_bool, isn_bl_int, isn_bl_str, isn_bl_tuple, isn_bl_list, isn_bl_dict, isn_int_bool, isn_int_int, isn_int_str, isn_int_tuple, isn_int_list, isn_int_dict, isn_str_bool, isn_str_int, isn_str_str, isn_str_tuple, isn_str_list, isn_str_dict, isn_lst_bool, isn_lst_int, isn_lst_str, isn_lst_tuple, isn_lst_list, isn_lst_dict, isn_tup_bool, isn_tup_int, isn_tup_str, isn_tup_tuple, isn_tup_list, isn_tup_dict, isn_dct_bool, isn_dct_int, isn_dct_str, isn_dct_tuple, isn_dct_list, isn_dct_dict, okn_bool, okn_int, okn_str, okn_tuple, okn_list, okn_dict, cIsi, tyT_n, tyT_b, tyT_i, tyT_s, tyT_r, V.ty.injEq, tSl, tPart, tNoPart, rSlF, gName, List.length_map, Int.reduceToNat, cpow18, Wd.s_inj, ws_num, ws_field, ws_add, ws_sub, ws_mul, ws_eq, ws_lt, ws_gt, ws_le, ws_ge, ws_and, ws_or, ws_not, rInTab, rIxTab, rCatH, rCat, rInT, cSortD, cMaxL, cMinL, rNeNilI, inV, flatV, List.any_cons, List.any_nil, List.all_cons, List.all_nil, eqV, Bool.and_true, Bool.and_false, Bool.true_and, Bool.false_and, Bool.or_false, Bool.false_or, Bool.or_true, Bool.true_or, Wd.beq_s, sz0, sz1, sz2, sz3, sz4, sz5, sz6, isc_eq, isc_lt, isc_gt, isc_le, isc_ge, isc_and, isc_or, isc_not, isl_and, isl_or, isl_not, rSetD, rUnion, rSortTx, rRep, ha, hc]
    exact k
theorem somes_len : ∀ os : List OI, (somes os).length ≤ os.length
  | [] => Nat.le_refl _
  | none :: r => Nat.le_succ_of_le (somes_len r)
  | some a :: r => Nat.succ_le_succ (somes_len r)
theorem somes_lc {H : Hp} {p : Addr} {os : List OI} {a0 a1 a2 a3 : Option V} {Q : VK} (hp : H p = some (.tup (os.map oi))) (hl : os.length ≤ 2) (k : ∀ D H', Same H H' → H' D = some (.lst ((somes os).map V.int)) → Q (.ref D) H') :
    lcB (Itt K p) (gName 4) (tTest (tOp (fun x y H Q => y = V.non ∧ Q (V.bl !decide (x = V.non)) H) (tVar 4) (tC V.non))) (tVar 4) [4] [a0, a1, a2, a3, none] H Q := by
  refine fun D hD => lc_it (walk_tup (xs := os.map oi)) (fun i H' => Same H H' ∧ H' D = some (.lst ((somes (os.take i)).map V.int))) ⟨same_new hD, upd_same⟩ (fun i H' _ ⟨S, _⟩ => .inl (.inl (S _ _ hp))) ?_ ?_
  · rintro i x H2 H3 hi ⟨S, e⟩ ⟨rfl, hx⟩
    rw [List.length_map] at hi
    obtain ⟨o, ho⟩ : ∃ o, os[i]? = some o := ⟨os[i], List.getElem?_eq_getElem hi⟩
    rw [List.getElem?_map, ho] at hx
    obtain rfl : oi o = x := Option.some.inj hx
    have et : somes (os.take (i + 1)) = somes (os.take i) ++ somes [o] := by rw [List.take_add_one, ho, somes_append]; rfl
    cases o with
    | none =>
      simp only [tVar, tC, tOp, rI, rI0, rU, tTest, tB, tAnd, tOr, tNot, tAndV, tOrV, tNotV, tIf, tNil, tCons, tTup, tLst, tCB, tSeq, tAsg, gName, tRet, tRetN, tIfS, tNext, tDrop, tCall, tUn, tPar, CMul, CDiv, V.int.injEq, V.bl.injEq, V.ref.injEq, V.str.injEq, Option.some.injEq, List.cons.injEq, and_true, true_and, and_false, false_and, or_false, false_or, or_true, true_or, exists_eq_left', exists_eq_left, exists_and_left, exists_and_right, exists_eq', exists_eq, exists_false, exists_const, List.getElem?_cons_succ, List.getElem?_cons_zero, List.set_cons_succ, List.set_cons_zero, List.length_cons, List.length_nil, List.cons_append, List.nil_append, List.append_nil, reduceCtorEq, Int.reduceLT, Int.reduceLE, Int.reduceNeg, Int.reducePow, Int.reduceSub, Int.reduceAdd, Nat.reduceAdd, Nat.reduceLeDiff, Bool.not_true, Bool.not_false, decide_true, decide_false, Bool.false_eq_true, ↓reduceIte, upd_same, not_true_eq_false, not_false_eq_true, lsO_l, lsO_f, tpO_t, tpO_f, dkO_d, dkO_f, keyO_i, keyO_s, rIxH, rIxU, cLenL, cLenT, cListL, cListT, cTupL, cIntB, cAll, rEqNilI, rEq, rNe, scal_ii, scal_ss, scal_bb, scal_nn, scal_ni, scal_in, scal_ns, scal_sn, gSub, rSetL, ixs0, ixs1, ixs2, seq0, at0, at1, at2, at3, tBM, tBM0, rAppend, rPopAt, tyV_list, tGet2, tGetI, sPut, tMG, rTIdx, tyTup, tTupF, cx_K, cx_w, ex_map_int, ex_nil_int, ex_cons_int, List.map_cons, List.map_nil, List.isEmpty_nil, List.isEmpty_cons, List.eraseIdx_zero, List.tail_cons, List.eraseIdx_cons_zero, HO.lst.injEq, HO.tup.injEq, HO.dK.injEq, HO.frz.injEq, ne_eq, gTupH, gCons, gNil, wipe, tYes, upd_upd, and_assoc, List.getElem?_map, Option.map_some, isn_non_bool, isn_non_int, isn_non_str, isn_non_tuple, isn_non_list, isn_non_dict, isn_bl_bool, isn_bl_int, isn_bl_str, isn_bl_tuple, isn_bl_list, isn_bl_dict, isn_int_bool, isn_int_int, isn_int_str, isn_int_tuple, isn_int_list, isn_int_dict, isn_str_bool, isn_str_int, isn_str_str, isn_str_tuple, isn_str_list, isn_str_dict, isn_lst_bool, isn_lst_int, isn_lst_str, isn_lst_tuple, isn_lst_list, isn_lst_dict, isn_tup_bool, isn_tup_int, isn_tup_str, isn_tup_tuple, isn_tup_list, isn_tup_dict, isn_dct_bool, isn_dct_int, isn_dct_str, isn_dct_tuple, isn_dct_list, isn_dct_dict, okn_bool, okn_int, okn_str, okn_tuple, okn_list, okn_dict, cIsi, tyT_n, tyT_b, tyT_i, tyT_s, tyT_r, V.ty.injEq, tSl, tPart, tNoPart, rSlF, gName, List.length_map, Int.reduceToNat, cpow18, Wd.s_inj, ws_num, ws_field, ws_add, ws_sub, ws_mul, ws_eq, ws_lt, ws_gt, ws_le, ws_ge, ws_and, ws_or, ws_not, rInTab, rIxTab, rCatH, rCat, rInT, cSortD, cMaxL, cMinL, rNeNilI, inV, flatV, List.any_cons, List.any_nil, List.all_cons, List.all_nil, eqV, Bool.and_true, Bool.and_false, Bool.true_and, Bool.false_and, Bool.or_false, Bool.false_or, Bool.or_true, Bool.true_or, Wd.beq_s, sz0, sz1, sz2, sz3, sz4, sz5, sz6, isc_eq, isc_lt, isc_gt, isc_le, isc_ge, isc_and, isc_or, isc_not, isl_and, isl_or, isl_not, rSetD, rUnion, rSortTx, rRep, oi_n]
      rw [et]
      exact ⟨S, by rw [e]; simp [somes]⟩
    | some z =>
      simp only [tVar, tC, tOp, rI, rI0, rU, tTest, tB, tAnd, tOr, tNot, tAndV, tOrV, tNotV, tIf, tNil, tCons, tTup, tLst, tCB, tSeq, tAsg, gName, tRet, tRetN, tIfS, tNext, tDrop, tCall, tUn, tPar, CMul, CDiv, V.int.injEq, V.bl.injEq, V.ref.injEq, V.str.injEq, Option.some.injEq, List.cons.injEq, and_true, true_and, and_false, false_and, or_false, false_or, or_true, true_or, exists_eq_left', exists_eq_left, exists_and_left, exists_and_right, exists_eq', exists_eq, exists_false, exists_const, List.getElem?_cons_succ, List.getElem?_cons_zero, List.set_cons_succ, List.set_cons_zero, List.length_cons, List.length_nil, List.cons_append, List.nil_append, List.append_nil, reduceCtorEq, Int.reduceLT, Int.reduceLE, Int.reduceNeg, Int.reducePow, Int.reduceSub, Int.reduceAdd, Nat.reduceAdd, Nat.reduceLeDiff, Bool.not_true, Bool.not_false, decide_true, decide_false, Bool.false_eq_true, ↓reduceIte, upd_same, not_true_eq_false, not_false_eq_true, lsO_l, lsO_f, tpO_t, tpO_f, dkO_d, dkO_f, keyO_i, keyO_s, rIxH, rIxU, cLenL, cLenT, cListL, cListT, cTupL, cIntB, cAll, rEqNilI, rEq, rNe, scal_ii, scal_ss, scal_bb, scal_nn, scal_ni, scal_in, scal_ns, scal_sn, gSub, rSetL, ixs0, ixs1, ixs2, seq0, at0, at1, at2, at3, tBM, tBM0, rAppend, rPopAt, tyV_list, tGet2, tGetI, sPut, tMG, rTIdx, tyTup, tTupF, cx_K, cx_w, ex_map_int, ex_nil_int, ex_cons_int, List.map_cons, List.map_nil, List.isEmpty_nil, List.isEmpty_cons, List.eraseIdx_zero, List.tail_cons, List.eraseIdx_cons_zero, HO.lst.injEq, HO.tup.injEq, HO.dK.injEq, HO.frz.injEq, ne_eq, gTupH, gCons, gNil, wipe, tYes, upd_upd, and_assoc, List.getElem?_map, Option.map_some, isn_non_bool, isn_non_int, isn_non_str, isn_non_tuple, isn_non_list, isn_non_dict, isn_bl_bool, isn_bl_int, isn_bl_str, isn_bl_tuple, isn_bl_list, isn_bl_dict, isn_int_bool, isn_int_int, isn_int_str, isn_int_tuple, isn_int_list, isn_int_dict, isn_str_bool, isn_str_int, isn_str_str, isn_str_tuple, isn_str_list, isn_str_dict, isn_lst_bool, isn_lst_int, isn_lst_str, isn_lst_tuple, isn_lst_list, isn_lst_dict, isn_tup_bool, isn_tup_int, isn_tup_str, isn_tup_tuple, isn_tup_list, isn_tup_dict, isn_dct_bool, isn_dct_int, isn_dct_str, isn_dct_tuple, isn_dct_list, isn_dct_dict, okn_bool, okn_int, okn_str, okn_tuple, okn_list, okn_dict, cIsi, tyT_n, tyT_b, tyT_i, tyT_s, tyT_r, V.ty.injEq, tSl, tPart, tNoPart, rSlF, gName, List.length_map, Int.reduceToNat, cpow18, Wd.s_inj, ws_num, ws_field, ws_add, ws_sub, ws_mul, ws_eq, ws_lt, ws_gt, ws_le, ws_ge, ws_and, ws_or, ws_not, rInTab, rIxTab, rCatH, rCat, rInT, cSortD, cMaxL, cMinL, rNeNilI, inV, flatV, List.any_cons, List.any_nil, List.all_cons, List.all_nil, eqV, Bool.and_true, Bool.and_false, Bool.true_and, Bool.false_and, Bool.or_false, Bool.false_or, Bool.or_true, Bool.true_or, Wd.beq_s, sz0, sz1, sz2, sz3, sz4, sz5, sz6, isc_eq, isc_lt, isc_gt, isc_le, isc_ge, isc_and, isc_or, isc_not, isl_and, isl_or, isl_not, rSetD, rUnion, rSortTx, rRep, oi_s]
      refine ⟨_, e, ?_, Same.updFree S hD, ?_⟩
      · rw [List.length_map]
        have q := somes_len (os.take i)
        rw [List.length_take] at q
        exact szl' (by omega)
      · rw [et, List.map_append]
        rfl
  · rintro H' ⟨S, e⟩
    rw [List.length_map, List.take_of_length_le (Nat.le_refl _)] at e
    exact k D H' S e
theorem somes_pos {x y : OI} (h : (!(somes [x, y]).isEmpty) = true) : 0 < (somes [x, y]).length := by
  cases x <;> cases y <;> simp [somes] at *
theorem maxS_int {x y : OI} {m : Int} (hm : m ∈ somes [x, y]) (hx : ∀ z, z ∈ somes [x, y] → z ≤ m) : oi (maxO x y) = .int m := by
  cases x <;> cases y <;> simp [somes, maxO, oi] at * <;> omega
theorem minS_int {x y : OI} {m : Int} (hm : m ∈ somes [x, y]) (hx : ∀ z, z ∈ somes [x, y] → m ≤ z) : oi (minO x y) = .int m := by
  cases x <;> cases y <;> simp [somes, minO, oi] at * <;> omega
theorem maxS_non {x y : OI} (h : ¬ (!(somes [x, y]).isEmpty) = true) : oi (maxO x y) = .non := by
  cases x <;> cases y <;> simp [somes, maxO, oi] at *
theorem minS_non {x y : OI} (h : ¬ (!(somes [x, y]).isEmpty) = true) : oi (minO x y) = .non := by
  cases x <;> cases y <;> simp [somes, minO, oi] at *
theorem ok_narrowed (T : Txt K mg w) : FnOk P w K mg base CX0 1 T.f_narrowed T.fd_narrowed ["span", "other"] spNarrowed := by
  refine T.F_narrowed.ok sc_narrowed (fun vs H Q E h => ?_) (fun cdv A outer s H vs Q E hr h => ?_)
  · obtain ⟨a, b, s, t, rfl, _⟩ := h
    rfl
  · have hu64 := hu64_of hr
    obtain ⟨a, b, s, t, rfl, ha, hb, k⟩ := h
    refine ⟨_, (Evl.pss_cut (ps_setLc (i := 2) (own := [("one", 4)]) (g := gName 4) rfl sc_narrowed.nd rfl rfl (sw_true rfl rfl rfl (by decide +kernel)) (pi_tupK K rfl (pe_tup (pa_cons (pe_ix ix_tp (pv 0) pe_int (fun _ _ => rfl)) (pa_cons (pe_ix ix_tp (pv 1) pe_int (fun _ _ => rfl)) pa_nil)))) (blkOk_by (N := N_narrowed) (sc := defScope s_narrowed) (by decide +kernel)) (fun _ _ _ _ _ => (pg_name (i := 4) sc_narrowed.nd rfl (Or.inl rfl))) (fun _ _ _ _ _ => pts_one (pt_cmpR op_notN (pv 4) pe_non (nomark _))) (fun _ _ _ _ _ => (pv 4)))
      (Evl.pss_cut (ps_setLc (i := 3) (own := [("one", 4)]) (g := gName 4) rfl sc_narrowed.nd rfl rfl (sw_true rfl rfl rfl (by decide +kernel)) (pi_tupK K rfl (pe_tup (pa_cons (pe_ix ix_tp (pv 0) pe_int (fun _ _ => rfl)) (pa_cons (pe_ix ix_tp (pv 1) pe_int (fun _ _ => rfl)) pa_nil)))) (blkOk_by (N := N_narrowed) (sc := defScope s_narrowed) (by decide +kernel)) (fun _ _ _ _ _ => (pg_name (i := 4) sc_narrowed.nd rfl (Or.inl rfl))) (fun _ _ _ _ _ => pts_one (pt_cmpR op_notN (pv 4) pe_non (nomark _))) (fun _ _ _ _ _ => (pv 4)))
      (pss_one (ps_ret (pe_tup (pa_cons (pe_ifExp (pt_cmpR (op_neNilI hu64) (pv 2) (pe_lst pa_nil) (nomark _)) (pe_callB (max_lst rfl) (by rfl) T.n_max (by decide +kernel) (pa_cons (pv 2) pa_nil)) pe_non) (pa_cons (pe_ifExp (pt_cmpR (op_neNilI hu64) (pv 3) (pe_lst pa_nil) (nomark _)) (pe_callB (min_lst rfl) (by rfl) T.n_min (by decide +kernel) (pa_cons (pv 3) pa_nil)) pe_non) pa_nil))))))), ?_⟩
    rw [show L2.start N_narrowed [V.ref a, V.ref b] = [some (V.ref a), some (V.ref b), none, none, none] from rfl]
    obtain ⟨s1, s2⟩ := s
    obtain ⟨t1, t2⟩ := t
    refine ⟨fun σ' H1 => ∃ D, σ' = [some (.ref a), some (.ref b), some (.ref D), none, none] ∧ Same H H1 ∧ H1 D = some (.lst ((somes [s1, t1]).map V.int)), ?_, ?_⟩
    · simp only [tVar, tC, tOp, rI, rI0, rU, tTest, tB, tAnd, tOr, tNot, tAndV, tOrV, tNotV, tIf, tNil, tCons, tTup, tLst, tCB, tSeq, tAsg, gName, tRet, tRetN, tIfS, tNext, tDrop, tCall, tUn, tPar, CMul, CDiv, V.int.injEq, V.bl.injEq, V.ref.injEq, V.str.injEq, Option.some.injEq, List.cons.injEq, and_true, true_and, and_false, false_and, or_false, false_or, or_true, true_or, exists_eq_left', exists_eq_left, exists_and_left, exists_and_right, exists_eq', exists_eq, exists_false, exists_const, List.getElem?_cons_succ, List.getElem?_cons_zero, List.set_cons_succ, List.set_cons_zero, List.length_cons, List.length_nil, List.cons_append, List.nil_append, List.append_nil, reduceCtorEq, Int.reduceLT, Int.reduceLE, Int.reduceNeg, Int.reducePow, Int.reduceSub, Int.reduceAdd, Nat.reduceAdd, Nat.reduceLeDiff, Bool.not_true, Bool.not_false, decide_true, decide_false, Bool.false_eq_true, ↓reduceIte, upd_same, not_true_eq_false, not_false_eq_true, lsO_l, lsO_f, tpO_t, tpO_f, dkO_d, dkO_f, keyO_i, keyO_s, rIxH, rIxU, cLenL, cLenT, cListL, cListT, cTupL, cIntB, cAll, rEqNilI, rEq, rNe, scal_ii, scal_ss, scal_bb, scal_nn, scal_ni, scal_in, scal_ns, scal_sn, gSub, rSetL, ixs0, ixs1, ixs2, seq0, at0, at1, at2, at3, tBM, tBM0, rAppend, rPopAt, tyV_list, tGet2, tGetI, sPut, tMG, rTIdx, tyTup, tTupF, cx_K, cx_w, ex_map_int, ex_nil_int, ex_cons_int, List.map_cons, List.map_nil, List.isEmpty_nil, List.isEmpty_cons, List.eraseIdx_zero, List.tail_cons, List.eraseIdx_cons_zero, HO.lst.injEq, HO.tup.injEq, HO.dK.injEq, HO.frz.injEq, ne_eq, gTupH, gCons, gNil, wipe, tYes, upd_upd, and_assoc, List.getElem?_map, Option.map_some, isn_non_bool, isn_non_int, isn_non_str, isn_non_tuple, isn_non_list, isn_non_dict, isn_bl_bool, isn_bl_int, isn_bl_str, isn_bl_tuple, isn_bl_list, isn_bl_dict, isn_int_bool, isn_int_int, isn_int_str, isn_int_tuple, isn_int_list, isn_int_dict, isn_str_bool, isn_str_int, isn_str_str, isn_str_tuple, isn_str_list, isn_str_dict, isn_lst_bool, isn_lst_int, isn_lst_str, isn_lst_tuple, isn_lst_list, isn_lst_dict, isn_tup_bool, isn_tup_int, isn_tup_str, isn_tup_tuple, isn_tup_list, isn_tup_dict, isn_dct_bool, isn_dct_int, isn_dct_str, isn_dct_tuple, isn_dct_list, isn_dct_dict, okn_bool, okn_int, okn_str, okn_tuple, okn_list, okn_dict, cIsi, tyT_n, tyT_b, tyT_i, tyT_s, tyT_r, V.ty.injEq, tSl, tPart, tNoPart, rSlF, gName, List.length_map, Int.reduceToNat, cpow18, Wd.s_inj, ws_num, ws_field, ws_add, ws_sub, ws_mul, ws_eq, ws_lt, ws_gt, ws_le, ws_ge, ws_and, ws_or, ws_not, rInTab, rIxTab, rCatH, rCat, rInT, cSortD, cMaxL, cMinL, rNeNilI, inV, flatV, List.any_cons, List.any_nil, List.all_cons, List.all_nil, eqV, Bool.and_true, Bool.and_false, Bool.true_and, Bool.false_and, Bool.or_false, Bool.false_or, Bool.or_true, Bool.true_or, Wd.beq_s, sz0, sz1, sz2, sz3, sz4, sz5, sz6, isc_eq, isc_lt, isc_gt, isc_le, isc_ge, isc_and, isc_or, isc_not, isl_and, isl_or, isl_not, rSetD, rUnion, rSortTx, rRep, tLc_eq, iTup, ha, hb]
      intro p hp
      refine ⟨⟨_, .inl (.inl upd_same)⟩, somes_lc (os := [s1, t1]) upd_same (by simp) fun D H' S e => ⟨D, rfl, (same_new hp).trans S, e⟩⟩
    rintro σ' H1 ⟨D, rfl, S1, e1⟩
    have ha1 := S1 _ _ ha
    have hb1 := S1 _ _ hb
    refine ⟨fun σ' H2 => ∃ E, σ' = [some (.ref a), some (.ref b), some (.ref D), some (.ref E), none] ∧ Same H1 H2 ∧ H2 E = some (.lst ((somes [s2, t2]).map V.int)), ?_, ?_⟩
    · simp only [tVar, tC, tOp, rI, rI0, rU, tTest, tB, tAnd, tOr, tNot, tAndV, tOrV, tNotV, tIf, tNil, tCons, tTup, tLst, tCB, tSeq, tAsg, gName, tRet, tRetN, tIfS, tNext, tDrop, tCall, tUn, tPar, CMul, CDiv, V.int.injEq, V.bl.injEq, V.ref.injEq, V.str.injEq, Option.some.injEq, List.cons.injEq, and_true, true_and, and_false, false_and, or_false, false_or, or_true, true_or, exists_eq_left', exists_eq_left, exists_and_left, exists_and_right, exists_eq', exists_eq, exists_false, exists_const, List.getElem?_cons_succ, List.getElem?_cons_zero, List.set_cons_succ, List.set_cons_zero, List.length_cons, List.length_nil, List.cons_append, List.nil_append, List.append_nil, reduceCtorEq, Int.reduceLT, Int.reduceLE, Int.reduceNeg, Int.reducePow, Int.reduceSub, Int.reduceAdd, Nat.reduceAdd, Nat.reduceLeDiff, Bool.not_true, Bool.not_false, decide_true, decide_false, Bool.false_eq_true, ↓reduceIte, upd_same, not_true_eq_false, not_false_eq_true, lsO_l, lsO_f, tpO_t, tpO_f, dkO_d, dkO_f, keyO_i, keyO_s, rIxH, rIxU, cLenL, cLenT, cListL, cListT, cTupL, cIntB, cAll, rEqNilI, rEq, rNe, scal_ii, scal_ss, scal_bb, scal_nn, scal_ni, scal_in, scal_ns, scal_sn, gSub, rSetL, ixs0, ixs1, ixs2, seq0, at0, at1, at2, at3, tBM, tBM0, rAppend, rPopAt, tyV_list, tGet2, tGetI, sPut, tMG, rTIdx, tyTup, tTupF, cx_K, cx_w, ex_map_int, ex_nil_int, ex_cons_int, List.map_cons, List.map_nil, List.isEmpty_nil, List.isEmpty_cons, List.eraseIdx_zero, List.tail_cons, List.eraseIdx_cons_zero, HO.lst.injEq, HO.tup.injEq, HO.dK.injEq, HO.frz.injEq, ne_eq, gTupH, gCons, gNil, wipe, tYes, upd_upd, and_assoc, List.getElem?_map, Option.map_some, isn_non_bool, isn_non_int, isn_non_str, isn_non_tuple, isn_non_list, isn_non_dict, isn_bl_bool, isn_bl_int, isn_bl_str, isn_bl_tuple, isn_bl_list, isn_bl_dict, isn_int_bool, isn_int_int, isn_int_str, isn_int_tuple, isn_int_list, isn_int_dict, isn_str_bool, isn_str_int, isn_str_str, isn_str_tuple, isn_str_list, isn_str_dict, isn_lst_bool, isn_lst_int, isn_lst_str, isn_lst_tuple, isn_lst_list, isn_lst_dict, isn_tup_bool, isn_tup_int, isn_tup_str, isn_tup_tuple, isn_tup_list, isn_tup_dict, isn_dct_bool, isn_dct_int, isn_dct_str, isn_dct_tuple, isn_dct_list, isn_dct_dict, okn_bool, okn_int, okn_str, okn_tuple, okn_list, okn_dict, cIsi, tyT_n, tyT_b, tyT_i, tyT_s, tyT_r, V.ty.injEq, tSl, tPart, tNoPart, rSlF, gName, List.length_map, Int.reduceToNat, cpow18, Wd.s_inj, ws_num, ws_field, ws_add, ws_sub, ws_mul, ws_eq, ws_lt, ws_gt, ws_le, ws_ge, ws_and, ws_or, ws_not, rInTab, rIxTab, rCatH, rCat, rInT, cSortD, cMaxL, cMinL, rNeNilI, inV, flatV, List.any_cons, List.any_nil, List.all_cons, List.all_nil, eqV, Bool.and_true, Bool.and_false, Bool.true_and, Bool.false_and, Bool.or_false, Bool.false_or, Bool.or_true, Bool.true_or, Wd.beq_s, sz0, sz1, sz2, sz3, sz4, sz5, sz6, isc_eq, isc_lt, isc_gt, isc_le, isc_ge, isc_and, isc_or, isc_not, isl_and, isl_or, isl_not, rSetD, rUnion, rSortTx, rRep, tLc_eq, iTup, ha1, hb1]
      intro p hp
      refine ⟨⟨_, .inl (.inl upd_same)⟩, somes_lc (os := [s2, t2]) upd_same (by simp) fun D H' S e => ⟨D, rfl, (same_new hp).trans S, e⟩⟩
    rintro σ' H2 ⟨E, rfl, S2, e2⟩
    have e1' := S2 _ _ e1
    have S := S1.trans S2
    simp only [tVar, tC, tOp, rI, rI0, rU, tTest, tB, tAnd, tOr, tNot, tAndV, tOrV, tNotV, tIf, tNil, tCons, tTup, tLst, tCB, tSeq, tAsg, gName, tRet, tRetN, tIfS, tNext, tDrop, tCall, tUn, tPar, CMul, CDiv, V.int.injEq, V.bl.injEq, V.ref.injEq, V.str.injEq, Option.some.injEq, List.cons.injEq, and_true, true_and, and_false, false_and, or_false, false_or, or_true, true_or, exists_eq_left', exists_eq_left, exists_and_left, exists_and_right, exists_eq', exists_eq, exists_false, exists_const, List.getElem?_cons_succ, List.getElem?_cons_zero, List.set_cons_succ, List.set_cons_zero, List.length_cons, List.length_nil, List.cons_append, List.nil_append, List.append_nil, reduceCtorEq, Int.reduceLT, Int.reduceLE, Int.reduceNeg, Int.reducePow, Int.reduceSub, Int.reduceAdd, Nat.reduceAdd, Nat.reduceLeDiff, Bool.not_true, Bool.not_false, decide_true, decide_false, Bool.false_eq_true, ↓reduceIte, upd_same, not_true_eq_false, not_false_eq_true, lsO_l, lsO_f, tpO_t, tpO_f, dkO_d, dkO_f, keyO_i, keyO_s, rIxH, rIxU, cLenL, cLenT, cListL, cListT, cTupL, cIntB, cAll, rEqNilI, rEq, rNe, scal_ii, scal_ss, scal_bb, scal_nn, scal_ni, scal_in, scal_ns, scal_sn, gSub, rSetL, ixs0, ixs1, ixs2, seq0, at0, at1, at2, at3, tBM, tBM0, rAppend, rPopAt, tyV_list, tGet2, tGetI, sPut, tMG, rTIdx, tyTup, tTupF, cx_K, cx_w, ex_map_int, ex_nil_int, ex_cons_int, List.map_cons, List.map_nil, List.isEmpty_nil, List.isEmpty_cons, List.eraseIdx_zero, List.tail_cons, List.eraseIdx_cons_zero, HO.lst.injEq, HO.tup.injEq, HO.dK.injEq, HO.frz.injEq, ne_eq, gTupH, gCons, gNil, wipe, tYes, upd_upd, and_assoc, List.getElem?_map, Option.map_some, isn_non_bool, isn_non_int, isn_non_str, isn_non_tuple, isn_non_list, isn_non_dict, isn_bl_bool, isn_bl_int, isn_bl_str, isn_bl_tuple, isn_bl_list, isn_bl_dict, isn_int_bool, isn_int_int, isn_int_str, isn_int_tuple, isn_int_list, isn_int_dict, isn_str_bool, isn_str_int, isn_str_str, isn_str_tuple, isn_str_list, isn_str_dict, isn_lst_bool, isn_lst_int, isn_lst_str, isn_lst_tuple, isn_lst_list, isn_lst_dict, isn_tup_bool, isn_tup_int, isn_tup_str, isn_tup_tuple, isn_tup_list, isn_tup_dict, isn_dct_bool, isn_dct_int, isn_dct_str, isn_dct_tuple, isn_dct_list, isn_dct_dict, okn_bool, okn_int, okn_str, okn_tuple, okn_list, okn_dict, cIsi, tyT_n, tyT_b, tyT_i, tyT_s, tyT_r, V.ty.injEq, tSl, tPart, tNoPart, rSlF, gName, List.length_map, Int.reduceToNat, cpow18, Wd.s_inj, ws_num, ws_field, ws_add, ws_sub, ws_mul, ws_eq, ws_lt, ws_gt, ws_le, ws_ge, ws_and, ws_or, ws_not, rInTab, rIxTab, rCatH, rCat, rInT, cSortD, cMaxL, cMinL, rNeNilI, inV, flatV, List.any_cons, List.any_nil, List.all_cons, List.all_nil, eqV, Bool.and_true, Bool.and_false, Bool.true_and, Bool.false_and, Bool.or_false, Bool.false_or, Bool.or_true, Bool.true_or, Wd.beq_s, sz0, sz1, sz2, sz3, sz4, sz5, sz6, isc_eq, isc_lt, isc_gt, isc_le, isc_ge, isc_and, isc_or, isc_not, isl_and, isl_or, isl_not, rSetD, rUnion, rSortTx, rRep]
    intro p hp
    have nD := ne_of_none e1' hp
    have nE := ne_of_none e2 hp
    simp only [tVar, tC, tOp, rI, rI0, rU, tTest, tB, tAnd, tOr, tNot, tAndV, tOrV, tNotV, tIf, tNil, tCons, tTup, tLst, tCB, tSeq, tAsg, gName, tRet, tRetN, tIfS, tNext, tDrop, tCall, tUn, tPar, CMul, CDiv, V.int.injEq, V.bl.injEq, V.ref.injEq, V.str.injEq, Option.some.injEq, List.cons.injEq, and_true, true_and, and_false, false_and, or_false, false_or, or_true, true_or, exists_eq_left', exists_eq_left, exists_and_left, exists_and_right, exists_eq', exists_eq, exists_false, exists_const, List.getElem?_cons_succ, List.getElem?_cons_zero, List.set_cons_succ, List.set_cons_zero, List.length_cons, List.length_nil, List.cons_append, List.nil_append, List.append_nil, reduceCtorEq, Int.reduceLT, Int.reduceLE, Int.reduceNeg, Int.reducePow, Int.reduceSub, Int.reduceAdd, Nat.reduceAdd, Nat.reduceLeDiff, Bool.not_true, Bool.not_false, decide_true, decide_false, Bool.false_eq_true, ↓reduceIte, upd_same, not_true_eq_false, not_false_eq_true, lsO_l, lsO_f, tpO_t, tpO_f, dkO_d, dkO_f, keyO_i, keyO_s, rIxH, rIxU, cLenL, cLenT, cListL, cListT, cTupL, cIntB, cAll, rEqNilI, rEq, rNe, scal_ii, scal_ss, scal_bb, scal_nn, scal_ni, scal_in, scal_ns, scal_sn, gSub, rSetL, ixs0, ixs1, ixs2, seq0, at0, at1, at2, at3, tBM, tBM0, rAppend, rPopAt, tyV_list, tGet2, tGetI, sPut, tMG, rTIdx, tyTup, tTupF, cx_K, cx_w, ex_map_int, ex_nil_int, ex_cons_int, List.map_cons, List.map_nil, List.isEmpty_nil, List.isEmpty_cons, List.eraseIdx_zero, List.tail_cons, List.eraseIdx_cons_zero, HO.lst.injEq, HO.tup.injEq, HO.dK.injEq, HO.frz.injEq, ne_eq, gTupH, gCons, gNil, wipe, tYes, upd_upd, and_assoc, List.getElem?_map, Option.map_some, isn_non_bool, isn_non_int, isn_non_str, isn_non_tuple, isn_non_list, isn_non_dict, isn_bl_bool, isn_bl_int, isn_bl_str, isn_bl_tuple, isn_bl_list, isn_bl_dict, isn_int_bool, isn_int_int, isn_int_str, isn_int_tuple, isn_int_list, isn_int_dict, isn_str_bool, isn_str_int, isn_str_str, isn_str_tuple, isn_str_list, isn_str_dict, isn_lst_bool, isn_lst_int, isn_lst_str, isn_lst_tuple, isn_lst_list, isn_lst_dict, isn_tup_bool, isn_tup_int, isn_tup_str, isn_tup_tuple, isn_tup_list, isn_tup_dict, isn_dct_bool, isn_dct_int, isn_dct_str, isn_dct_tuple, isn_dct_list, isn_dct_dict, okn_bool, okn_int, okn_str, okn_tuple, okn_list, okn_dict, cIsi, tyT_n, tyT_b, tyT_i, tyT_s, tyT_r, V.ty.injEq, tSl, tPart, tNoPart, rSlF, gName, List.length_map, Int.reduceToNat, cpow18, Wd.s_inj, ws_num, ws_field, ws_add, ws_sub, ws_mul, ws_eq, ws_lt, ws_gt, ws_le, ws_ge, ws_and, ws_or, ws_not, rInTab, rIxTab, rCatH, rCat, rInT, cSortD, cMaxL, cMinL, rNeNilI, inV, flatV, List.any_cons, List.any_nil, List.all_cons, List.all_nil, eqV, Bool.and_true, Bool.and_false, Bool.true_and, Bool.false_and, Bool.or_false, Bool.false_or, Bool.or_true, Bool.true_or, Wd.beq_s, sz0, sz1, sz2, sz3, sz4, sz5, sz6, isc_eq, isc_lt, isc_gt, isc_le, isc_ge, isc_and, isc_or, isc_not, isl_and, isl_or, isl_not, rSetD, rUnion, rSortTx, rRep, upd_ne nD, upd_ne nE, e1', e2]
    have hk := fun q (H' : Hp) (S' : Same H2 H') (e : H' q = some (.tup [oi (maxO s1 t1), oi (minO s2 t2)])) => k q H' (S.trans S') e
    clear k
    split
    · rename_i c1
      refine ⟨somes_pos c1, fun m hm hx p1 hp1 => ?_⟩
      have nE1 : E ≠ p1 := ne_of_none ((upd_ne nE).trans e2) hp1
      simp only [tVar, tC, tOp, rI, rI0, rU, tTest, tB, tAnd, tOr, tNot, tAndV, tOrV, tNotV, tIf, tNil, tCons, tTup, tLst, tCB, tSeq, tAsg, gName, tRet, tRetN, tIfS, tNext, tDrop, tCall, tUn, tPar, CMul, CDiv, V.int.injEq, V.bl.injEq, V.ref.injEq, V.str.injEq, Option.some.injEq, List.cons.injEq, and_true, true_and, and_false, false_and, or_false, false_or, or_true, true_or, exists_eq_left', exists_eq_left, exists_and_left, exists_and_right, exists_eq', exists_eq, exists_false, exists_const, List.getElem?_cons_succ, List.getElem?_cons_zero, List.set_cons_succ, List.set_cons_zero, List.length_cons, List.length_nil, List.cons_append, List.nil_append, List.append_nil, reduceCtorEq, Int.reduceLT, Int.reduceLE, Int.reduceNeg, Int.reducePow, Int.reduceSub, Int.reduceAdd, Nat.reduceAdd, Nat.reduceLeDiff, Bool.not_true, Bool.not_false, decide_true, decide_false, Bool.false_eq_true, ↓reduceIte, upd_same, not_true_eq_false, not_false_eq_true, lsO_l, lsO_f, tpO_t, tpO_f, dkO_d, dkO_f, keyO_i, keyO_s, rIxH, rIxU, cLenL, cLenT, cListL, cListT, cTupL, cIntB, cAll, rEqNilI, rEq, rNe, scal_ii, scal_ss, scal_bb, scal_nn, scal_ni, scal_in, scal_ns, scal_sn, gSub, rSetL, ixs0, ixs1, ixs2, seq0, at0, at1, at2, at3, tBM, tBM0, rAppend, rPopAt, tyV_list, tGet2, tGetI, sPut, tMG, rTIdx, tyTup, tTupF, cx_K, cx_w, ex_map_int, ex_nil_int, ex_cons_int, List.map_cons, List.map_nil, List.isEmpty_nil, List.isEmpty_cons, List.eraseIdx_zero, List.tail_cons, List.eraseIdx_cons_zero, HO.lst.injEq, HO.tup.injEq, HO.dK.injEq, HO.frz.injEq, ne_eq, gTupH, gCons, gNil, wipe, tYes, upd_upd, and_assoc, List.getElem?_map, Option.map_some, isn_non_bool, isn_non_int, isn_non_str, isn_non_tuple, isn_non_list, isn_non_dict, isn_bl_bool, isn_bl_int, isn_bl_str, isn_bl_tuple, isn_bl_list, isn_bl_dict, isn_int_bool, isn_int_int, isn_int_str, isn_int_tuple, isn_int_list, isn_int_dict, isn_str_bool, isn_str_int, isn_str_str, isn_str_tuple, isn_str_list, isn_str_dict, isn_lst_bool, isn_lst_int, isn_lst_str, isn_lst_tuple, isn_lst_list, isn_lst_dict, isn_tup_bool, isn_tup_int, isn_tup_str, isn_tup_tuple, isn_tup_list, isn_tup_dict, isn_dct_bool, isn_dct_int, isn_dct_str, isn_dct_tuple, isn_dct_list, isn_dct_dict, okn_bool, okn_int, okn_str, okn_tuple, okn_list, okn_dict, cIsi, tyT_n, tyT_b, tyT_i, tyT_s, tyT_r, V.ty.injEq, tSl, tPart, tNoPart, rSlF, gName, List.length_map, Int.reduceToNat, cpow18, Wd.s_inj, ws_num, ws_field, ws_add, ws_sub, ws_mul, ws_eq, ws_lt, ws_gt, ws_le, ws_ge, ws_and, ws_or, ws_not, rInTab, rIxTab, rCatH, rCat, rInT, cSortD, cMaxL, cMinL, rNeNilI, inV, flatV, List.any_cons, List.any_nil, List.all_cons, List.all_nil, eqV, Bool.and_true, Bool.and_false, Bool.true_and, Bool.false_and, Bool.or_false, Bool.false_or, Bool.or_true, Bool.true_or, Wd.beq_s, sz0, sz1, sz2, sz3, sz4, sz5, sz6, isc_eq, isc_lt, isc_gt, isc_le, isc_ge, isc_and, isc_or, isc_not, isl_and, isl_or, isl_not, rSetD, rUnion, rSortTx, rRep, upd_ne nE1, upd_ne nE, e2]
      split
      · rename_i c2
        refine ⟨somes_pos c2, fun m2 hm2 hx2 p2 hp2 => ?_⟩
        exact hk p2 _ (((same_new hp).trans (same_new hp1)).trans (same_new hp2)) (by rw [upd_same, maxS_int hm hx, minS_int hm2 hx2])
      · rename_i c2
        intro p2 hp2
        exact hk p2 _ (((same_new hp).trans (same_new hp1)).trans (same_new hp2)) (by rw [upd_same, maxS_int hm hx, minS_non c2])
    · rename_i c1
      intro p1 hp1
      have nE1 : E ≠ p1 := ne_of_none ((upd_ne nE).trans e2) hp1
      simp only [tVar, tC, tOp, rI, rI0, rU, tTest, tB, tAnd, tOr, tNot, tAndV, tOrV, tNotV, tIf, tNil, tCons, tTup, tLst, tCB, tSeq, tAsg, gName, tRet, tRetN, tIfS, tNext, tDrop, tCall, tUn, tPar, CMul, CDiv, V.int.injEq, V.bl.injEq, V.ref.injEq, V.str.injEq, Option.some.injEq, List.cons.injEq, and_true, true_and, and_false, false_and, or_false, false_or, or_true, true_or, exists_eq_left', exists_eq_left, exists_and_left, exists_and_right, exists_eq', exists_eq, exists_false, exists_const, List.getElem?_cons_succ, List.getElem?_cons_zero, List.set_cons_succ, List.set_cons_zero, List.length_cons, List.length_nil, List.cons_append, List.nil_append, List.append_nil, reduceCtorEq, Int.reduceLT, Int.reduceLE, Int.reduceNeg, Int.reducePow, Int.reduceSub, Int.reduceAdd, Nat.reduceAdd, Nat.reduceLeDiff, Bool.not_true, Bool.not_false, decide_true, decide_false, Bool.false_eq_true, ↓reduceIte, upd_same, not_true_eq_false, not_false_eq_true, lsO_l, lsO_f, tpO_t, tpO_f, dkO_d, dkO_f, keyO_i, keyO_s, rIxH, rIxU, cLenL, cLenT, cListL, cListT, cTupL, cIntB, cAll, rEqNilI, rEq, rNe, scal_ii, scal_ss, scal_bb, scal_nn, scal_ni, scal_in, scal_ns, scal_sn, gSub, rSetL, ixs0, ixs1, ixs2, seq0, at0, at1, at2, at3, tBM, tBM0, rAppend, rPopAt, tyV_list, tGet2, tGetI, sPut, tMG, rTIdx, tyTup, tTupF, cx_K, cx_w, ex_map_int, ex_nil_int, ex_cons_int, List.map_cons, List.map_nil, List.isEmpty_nil, List.isEmpty_cons, List.eraseIdx_zero, List.tail_cons, List.eraseIdx_cons_zero, HO.lst.injEq, HO.tup.injEq, HO.dK.injEq, HO.frz.injEq, ne_eq, gTupH, gCons, gNil, wipe, tYes, upd_upd, and_assoc, List.getElem?_map, Option.map_some, isn_non_bool, isn_non_int, isn_non_str, isn_non_tuple, isn_non_list, isn_non_dict, isn_bl_bool, isn_bl_int, isn_bl_str, isn_bl_tuple, isn_bl_list, isn_bl_dict, isn_int_bool, isn_int_int, isn_int_str, isn_int_tuple, isn_int_list, isn_int_dict, isn_str_bool, isn_str_int, isn_str_str, isn_str_tuple, isn_str_list, isn_str_dict, isn_lst_bool, isn_lst_int, isn_lst_str, isn_lst_tuple, isn_lst_list, isn_lst_dict, isn_tup_bool, isn_tup_int, isn_tup_str, isn_tup_tuple, isn_tup_list, isn_tup_dict, isn_dct_bool, isn_dct_int, isn_dct_str, isn_dct_tuple, isn_dct_list, isn_dct_dict, okn_bool, okn_int, okn_str, okn_tuple, okn_list, okn_dict, cIsi, tyT_n, tyT_b, tyT_i, tyT_s, tyT_r, V.ty.injEq, tSl, tPart, tNoPart, rSlF, gName, List.length_map, Int.reduceToNat, cpow18, Wd.s_inj, ws_num, ws_field, ws_add, ws_sub, ws_mul, ws_eq, ws_lt, ws_gt, ws_le, ws_ge, ws_and, ws_or, ws_not, rInTab, rIxTab, rCatH, rCat, rInT, cSortD, cMaxL, cMinL, rNeNilI, inV, flatV, List.any_cons, List.any_nil, List.all_cons, List.all_nil, eqV, Bool.and_true, Bool.and_false, Bool.true_and, Bool.false_and, Bool.or_false, Bool.false_or, Bool.or_true, Bool.true_or, Wd.beq_s, sz0, sz1, sz2, sz3, sz4, sz5, sz6, isc_eq, isc_lt, isc_gt, isc_le, isc_ge, isc_and, isc_or, isc_not, isl_and, isl_or, isl_not, rSetD, rUnion, rSortTx, rRep, upd_ne nE1, upd_ne nE, e2]
      split
      · rename_i c2
        refine ⟨somes_pos c2, fun m2 hm2 hx2 p2 hp2 => ?_⟩
        exact hk p2 _ (((same_new hp).trans (same_new hp1)).trans (same_new hp2)) (by rw [upd_same, maxS_non c1, minS_int hm2 hx2])
      · rename_i c2
        intro p2 hp2
        exact hk p2 _ (((same_new hp).trans (same_new hp1)).trans (same_new hp2)) (by rw [upd_same, maxS_non c1, minS_non c2])
end

/-! ### tables and fields -/
abbrev Sh := Str × Addr × List Str
structure SH (H : Hp) (d : Addr) (es : List Sh) : Prop where
  at_ : H d = some (.dK (es.map fun e => (Sum.inr e.1, V.ref e.2.1)))
  tups : ∀ e ∈ es, tpO (H e.2.1) = some (e.2.2.map V.str)
  oks : ∀ e ∈ es, PyData.strOk e.1 = true ∧ ∀ s ∈ e.2.2, PyData.strOk s = true
  few : es.length ≤ 3 ∧ ∀ e ∈ es, e.2.2.length ≤ 4 ∧ 0 < e.2.2.length
  nd : (es.map (·.1)).Nodup
  zz : ∀ e ∈ es, e.1 ≠ (Str.ofString "zz")
theorem tpO_keep {H H' : Hp} {ms : List Addr} {a : Addr} {xs : List V} (h : tpO (H a) = some xs) (k : Keep ms H H') (n : a ∉ ms) : tpO (H' a) = some xs := by
  cases e : H a with
  | none => rw [e] at h; cases h
  | some o => rw [k a o n e, ← e]; exact h
theorem tpO_same {H H' : Hp} {a : Addr} {xs : List V} (h : tpO (H a) = some xs) (k : Same H H') : tpO (H' a) = some xs := tpO_keep (ms := []) h (Keep.ofSame k) (by simp)
theorem tpO_notin {H : Hp} {h l a : Addr} {xs : List V} (B : BoxB H h l) (e : tpO (H a) = some xs) : a ∉ [h, l] := fun m => by
  obtain ⟨m0, ns, st, b1, b2, _⟩ := B
  simp only [List.mem_cons, List.mem_nil_iff, or_false] at m
  rcases m with rfl | rfl
  · rw [b1] at e; cases e
  · rw [b2] at e; cases e
theorem tpO_ne {H : Hp} {a p : Addr} {xs : List V} (e : tpO (H a) = some xs) (h : H p = none) : a ≠ p := fun z => by rw [z, h] at e; cases e
theorem SH.keepB {H H' : Hp} {h l d : Addr} {es : List Sh} (S : SH H d es) (B : BoxB H h l) (k : Keep [h, l] H H') : SH H' d es :=
  ⟨k _ _ (B.notin S.at_ (by intro xs q; cases q)) S.at_, fun e he => tpO_keep (S.tups e he) k (tpO_notin B (S.tups e he)), S.oks, S.few, S.nd, S.zz⟩
theorem SH.same {H H' : Hp} {d : Addr} {es : List Sh} (S : SH H d es) (k : Same H H') : SH H' d es :=
  ⟨k _ _ S.at_, fun e he => tpO_same (S.tups e he) k, S.oks, S.few, S.nd, S.zz⟩
theorem SH.look {H : Hp} {d : Addr} {es : List Sh} (S : SH H d es) : ∀ {t : Str}, t ∈ es.map (·.1) → ∃ e ∈ es, e.1 = t ∧ valV (es.map fun e => ((Sum.inr e.1 : Key), V.ref e.2.1)) (Sum.inr t) = some (.ref e.2.1) := by
  intro t ht
  clear S
  induction es with
  | nil => simp at ht
  | cons a r ih =>
    by_cases e : a.1 = t
    · exact ⟨a, List.mem_cons_self, e, valV_pos (congrArg Sum.inr e)⟩
    · rw [List.map_cons] at ht
      rcases List.mem_cons.mp ht with z | z
      · exact absurd z.symm e
      · obtain ⟨b, hb, h1, h2⟩ := ih z
        exact ⟨b, List.mem_cons_of_mem _ hb, h1, by rw [List.map_cons, valV_neg (fun q => e (Sum.inr.inj q))]; exact h2⟩
def nmT : Nat → Str
  | 0 => "ta"
  | 1 => "tb"
  | _ => "tc"
theorem nmT_at : ∀ k : Nat, k < 3 → ∃ c, atI (Str.ofString "abc").cps.toList (k : Int) = some c ∧ Str.ofString "t" ++ (⟨#[c]⟩ : Str) = nmT k
  | 0, _ => ⟨_, rfl, rfl⟩
  | 1, _ => ⟨_, rfl, rfl⟩
  | 2, _ => ⟨_, rfl, rfl⟩
  | n + 3, h => absurd h (by omega)
theorem len_tc (c) : (Str.ofString "t").length + (⟨#[c]⟩ : Str).length ≤ sizeLine := szl (Nat.le_of_ble_eq_true rfl)
theorem nmT_inj : ∀ a b : Nat, a < 3 → b < 3 → nmT a = nmT b → a = b := by
  intro a b ha hb h
  match a, b, ha, hb with
  | 0, 0, _, _ => rfl
  | 1, 1, _, _ => rfl
  | 2, 2, _, _ => rfl
  | 0, 1, _, _ => exact absurd h (by decide +kernel)
  | 0, 2, _, _ => exact absurd h (by decide +kernel)
  | 1, 0, _, _ => exact absurd h (by decide +kernel)
  | 1, 2, _, _ => exact absurd h (by decide +kernel)
  | 2, 0, _, _ => exact absurd h (by decide +kernel)
  | 2, 1, _, _ => exact absurd h (by decide +kernel)
theorem nmT_ok : ∀ a : Nat, PyData.strOk (nmT a) = true
  | 0 => by decide +kernel
  | 1 => by decide +kernel
  | n + 2 => by show PyData.strOk "tc" = true; decide +kernel
theorem nmT_zz : ∀ a : Nat, nmT a ≠ (Str.ofString "zz")
  | 0 => by decide +kernel
  | 1 => by decide +kernel
  | n + 2 => by show (Str.ofString "tc") ≠ _; decide +kernel
theorem nmT_nd : ∀ n : Nat, n ≤ 3 → ((List.range n).map nmT).Nodup
  | 0, _ => by decide +kernel
  | 1, _ => by decide +kernel
  | 2, _ => by decide +kernel
  | 3, _ => by decide +kernel
  | n + 4, h => absurd h (by omega)
def spShapes : Sp := fun vs H Q _ => ∃ (h l : Addr) (n : Int), vs = [.ref h, .int n] ∧ BoxB H h l ∧ 0 < n ∧ n ≤ 3 ∧ ∀ d es H', SH H' d es → 0 < es.length → H d = none → BoxB H' h l → Keep [h, l] H H' → Q (.ref d) H'
def spSome : Sp := fun vs H Q _ => ∃ (h d ta : Addr) (es : List Sh) (ts : List Str), vs = [.ref h, .ref d, .ref ta] ∧ SH H d es ∧ H ta = some (.lst (ts.map V.str)) ∧ ts.length ≤ 3 ∧ (∀ t ∈ ts, t ∈ es.map (·.1)) ∧
  ∀ a ps H', RF H' a ps → ps.length ≤ 100 → H a = none → Same H H' → Q (.ref a) H'
def spTerm (d : Nat) : Sp := fun vs H Q _ => ∃ (h l fa : Addr) (ps : List Fd), vs = [.ref h, .ref fa, .int d] ∧ BoxB H h l ∧ RF H fa ps ∧ ps.length ≤ 100 ∧ fa ∉ [h, l] ∧
  ∀ v t H', RT H' v t → t.ok = true → t.lim → t.deep ≤ d + 1 → BoxB H' h l → Keep [h, l] H H' → Q v H'
def spCond (d : Nat) : Sp := fun vs H Q _ => ∃ (h l fa : Addr) (ps : List Fd), vs = [.ref h, .ref fa, .int d] ∧ BoxB H h l ∧ RF H fa ps ∧ ps.length ≤ 100 ∧ fa ∉ [h, l] ∧
  ∀ v t H', RC H' v t → t.Good d (2 ^ d) → BoxB H' h l → Keep [h, l] H H' → Q v H'
section
variable {P : Program} {w : World} {K : PySem.W.Frag} {mg : Str → Option Value} {base : Heap}
theorem ok_l_shapes (T : Txt K mg w) : FnOk P w K mg base CX0 2 T.f_l_shapes T.fd_l_shapes ["_law_h", "_law_many"] spShapes := by
  have G_l_next : FnOk P w K mg base CX0 1 T.f_l_next T.fd_l_next ["_law_h", "_law_many"] spNext := ok_l_next T
  refine T.F_l_shapes.ok sc_l_shapes (fun vs H Q E h => ?_) (fun cdv A outer s H vs Q E hr h => ?_)
  · obtain ⟨h, l, n, rfl, _⟩ := h
    rfl
  · have hu := hu_of hr
    obtain ⟨h, l, n, rfl, B, n0, n1, k⟩ := h
    refine ⟨_, (pss_cons (ps_set (i := 2) sc_l_shapes.nd rfl (Or.inl rfl) pe_dnewK)
      (pss_cons (ps_for PassesOwn.never rfl (pi_range1 rfl T.n_range (pa_cons (pe_op op_add pe_int (pe_call G_l_next (hr.mono (by decide)) rfl T.mg_l_next T.F_l_next.kp T.b_l_next .nil pass0 (pa_cons (pv 0) (pa_cons (pv 1) pa_nil)))) pa_nil)) (pg_name (i := 3) sc_l_shapes.nd rfl (Or.inl rfl)) (pss_one (ps_put hu (pv 2) (pe_op op_add_str pe_str (pe_ix ix_str pe_str (pv 3) (fun _ _ => rfl))) (pe_slice sl_tupF (pe_tup (pa_cons pe_str (pa_cons pe_str (pa_cons pe_str (pa_cons pe_str pa_nil))))) po_none (po_some (pe_op op_add pe_int (pe_call G_l_next (hr.mono (by decide)) rfl T.mg_l_next T.F_l_next.kp T.b_l_next .nil pass0 (pa_cons (pv 0) (pa_cons pe_int pa_nil)))))) rfl)))
      (pss_one (ps_ret (pv 2))))), ?_⟩
    rw [show L2.start N_l_shapes [V.ref h, V.int n] = [some (V.ref h), some (V.int n), none, none] from rfl]
    simp only [tVar, tC, tOp, rI, rI0, rU, tTest, tB, tAnd, tOr, tNot, tAndV, tOrV, tNotV, tIf, tNil, tCons, tTup, tLst, tCB, tSeq, tAsg, gName, tRet, tRetN, tIfS, tNext, tDrop, tCall, tUn, tPar, CMul, CDiv, V.int.injEq, V.bl.injEq, V.ref.injEq, V.str.injEq, Option.some.injEq, List.cons.injEq, and_true, true_and, and_false, false_and, or_false, false_or, or_true, true_or, exists_eq_left', exists_eq_left, exists_and_left, exists_and_right, exists_eq', exists_eq, exists_false, exists_const, List.getElem?_cons_succ, List.getElem?_cons_zero, List.set_cons_succ, List.set_cons_zero, List.length_cons, List.length_nil, List.cons_append, List.nil_append, List.append_nil, reduceCtorEq, Int.reduceLT, Int.reduceLE, Int.reduceNeg, Int.reducePow, Int.reduceSub, Int.reduceAdd, Nat.reduceAdd, Nat.reduceLeDiff, Bool.not_true, Bool.not_false, decide_true, decide_false, Bool.false_eq_true, ↓reduceIte, upd_same, not_true_eq_false, not_false_eq_true, lsO_l, lsO_f, tpO_t, tpO_f, dkO_d, dkO_f, keyO_i, keyO_s, rIxH, rIxU, cLenL, cLenT, cListL, cListT, cTupL, cIntB, cAll, rEqNilI, rEq, rNe, scal_ii, scal_ss, scal_bb, scal_nn, scal_ni, scal_in, scal_ns, scal_sn, gSub, rSetL, ixs0, ixs1, ixs2, seq0, at0, at1, at2, at3, tBM, tBM0, rAppend, rPopAt, tyV_list, tGet2, tGetI, sPut, tMG, rTIdx, tyTup, tTupF, cx_K, cx_w, ex_map_int, ex_nil_int, ex_cons_int, List.map_cons, List.map_nil, List.isEmpty_nil, List.isEmpty_cons, List.eraseIdx_zero, List.tail_cons, List.eraseIdx_cons_zero, HO.lst.injEq, HO.tup.injEq, HO.dK.injEq, HO.frz.injEq, ne_eq, gTupH, gCons, gNil, wipe, tYes, upd_upd, and_assoc, List.getElem?_map, Option.map_some, isn_non_bool, isn_non_int, isn_non_str, isn_non_tuple, isn_non_list, isn_non_dict, isn_bl_bool, isn_bl_int, isn_bl_str, isn_bl_tuple, isn_bl_list, isn_bl_dict, isn_int_bool, isn_int_int, isn_int_str, isn_int_tuple, isn_int_list, isn_int_dict, isn_str_bool, isn_str_int, isn_str_str, isn_str_tuple, isn_str_list, isn_str_dict, isn_lst_bool, isn_lst_int, isn_lst_str, isn_lst_tuple, isn_lst_list, isn_lst_dict, isn_tup_bool, isn_tup_int, isn_tup_str, isn_tup_tuple, isn_tup_list, isn_tup_dict, isn_dct_bool, isn_dct_int, isn_dct_str, isn_dct_tuple, isn_dct_list, isn_dct_dict, okn_bool, okn_int, okn_str, okn_tuple, okn_list, okn_dict, cIsi, tyT_n, tyT_b, tyT_i, tyT_s, tyT_r, V.ty.injEq, tSl, tPart, tNoPart, rSlF, gName, List.length_map, Int.reduceToNat, cpow18, Wd.s_inj, ws_num, ws_field, ws_add, ws_sub, ws_mul, ws_eq, ws_lt, ws_gt, ws_le, ws_ge, ws_and, ws_or, ws_not, rInTab, rIxTab, rCatH, rCat, rInT, cSortD, cMaxL, cMinL, rNeNilI, inV, flatV, List.any_cons, List.any_nil, List.all_cons, List.all_nil, eqV, Bool.and_true, Bool.and_false, Bool.true_and, Bool.false_and, Bool.or_false, Bool.false_or, Bool.or_true, Bool.true_or, Wd.beq_s, sz0, sz1, sz2, sz3, sz4, sz5, sz6, isc_eq, isc_lt, isc_gt, isc_le, isc_ge, isc_and, isc_or, isc_not, isl_and, isl_or, isl_not, rSetD, rUnion, rSortTx, rRep, tDNewK]
    intro d hd
    have nd : d ∉ [h, l] := B.free hd
    simp only [tVar, tC, tOp, rI, rI0, rU, tTest, tB, tAnd, tOr, tNot, tAndV, tOrV, tNotV, tIf, tNil, tCons, tTup, tLst, tCB, tSeq, tAsg, gName, tRet, tRetN, tIfS, tNext, tDrop, tCall, tUn, tPar, CMul, CDiv, V.int.injEq, V.bl.injEq, V.ref.injEq, V.str.injEq, Option.some.injEq, List.cons.injEq, and_true, true_and, and_false, false_and, or_false, false_or, or_true, true_or, exists_eq_left', exists_eq_left, exists_and_left, exists_and_right, exists_eq', exists_eq, exists_false, exists_const, List.getElem?_cons_succ, List.getElem?_cons_zero, List.set_cons_succ, List.set_cons_zero, List.length_cons, List.length_nil, List.cons_append, List.nil_append, List.append_nil, reduceCtorEq, Int.reduceLT, Int.reduceLE, Int.reduceNeg, Int.reducePow, Int.reduceSub, Int.reduceAdd, Nat.reduceAdd, Nat.reduceLeDiff, Bool.not_true, Bool.not_false, decide_true, decide_false, Bool.false_eq_true, ↓reduceIte, upd_same, not_true_eq_false, not_false_eq_true, lsO_l, lsO_f, tpO_t, tpO_f, dkO_d, dkO_f, keyO_i, keyO_s, rIxH, rIxU, cLenL, cLenT, cListL, cListT, cTupL, cIntB, cAll, rEqNilI, rEq, rNe, scal_ii, scal_ss, scal_bb, scal_nn, scal_ni, scal_in, scal_ns, scal_sn, gSub, rSetL, ixs0, ixs1, ixs2, seq0, at0, at1, at2, at3, tBM, tBM0, rAppend, rPopAt, tyV_list, tGet2, tGetI, sPut, tMG, rTIdx, tyTup, tTupF, cx_K, cx_w, ex_map_int, ex_nil_int, ex_cons_int, List.map_cons, List.map_nil, List.isEmpty_nil, List.isEmpty_cons, List.eraseIdx_zero, List.tail_cons, List.eraseIdx_cons_zero, HO.lst.injEq, HO.tup.injEq, HO.dK.injEq, HO.frz.injEq, ne_eq, gTupH, gCons, gNil, wipe, tYes, upd_upd, and_assoc, List.getElem?_map, Option.map_some, isn_non_bool, isn_non_int, isn_non_str, isn_non_tuple, isn_non_list, isn_non_dict, isn_bl_bool, isn_bl_int, isn_bl_str, isn_bl_tuple, isn_bl_list, isn_bl_dict, isn_int_bool, isn_int_int, isn_int_str, isn_int_tuple, isn_int_list, isn_int_dict, isn_str_bool, isn_str_int, isn_str_str, isn_str_tuple, isn_str_list, isn_str_dict, isn_lst_bool, isn_lst_int, isn_lst_str, isn_lst_tuple, isn_lst_list, isn_lst_dict, isn_tup_bool, isn_tup_int, isn_tup_str, isn_tup_tuple, isn_tup_list, isn_tup_dict, isn_dct_bool, isn_dct_int, isn_dct_str, isn_dct_tuple, isn_dct_list, isn_dct_dict, okn_bool, okn_int, okn_str, okn_tuple, okn_list, okn_dict, cIsi, tyT_n, tyT_b, tyT_i, tyT_s, tyT_r, V.ty.injEq, tSl, tPart, tNoPart, rSlF, gName, List.length_map, Int.reduceToNat, cpow18, Wd.s_inj, ws_num, ws_field, ws_add, ws_sub, ws_mul, ws_eq, ws_lt, ws_gt, ws_le, ws_ge, ws_and, ws_or, ws_not, rInTab, rIxTab, rCatH, rCat, rInT, cSortD, cMaxL, cMinL, rNeNilI, inV, flatV, List.any_cons, List.any_nil, List.all_cons, List.all_nil, eqV, Bool.and_true, Bool.and_false, Bool.true_and, Bool.false_and, Bool.or_false, Bool.false_or, Bool.or_true, Bool.true_or, Wd.beq_s, sz0, sz1, sz2, sz3, sz4, sz5, sz6, isc_eq, isc_lt, isc_gt, isc_le, isc_ge, isc_and, isc_or, isc_not, isl_and, isl_or, isl_not, rSetD, rUnion, rSortTx, rRep, tFor_eq, iRng1]
    refine ⟨h, l, n, rfl, B.same (same_new hd), n0, by omega, fun r H1 r0 r1 B1 k1 => ?_⟩
    have e1 := k1 _ _ nd upd_same
    simp only [tVar, tC, tOp, rI, rI0, rU, tTest, tB, tAnd, tOr, tNot, tAndV, tOrV, tNotV, tIf, tNil, tCons, tTup, tLst, tCB, tSeq, tAsg, gName, tRet, tRetN, tIfS, tNext, tDrop, tCall, tUn, tPar, CMul, CDiv, V.int.injEq, V.bl.injEq, V.ref.injEq, V.str.injEq, Option.some.injEq, List.cons.injEq, and_true, true_and, and_false, false_and, or_false, false_or, or_true, true_or, exists_eq_left', exists_eq_left, exists_and_left, exists_and_right, exists_eq', exists_eq, exists_false, exists_const, List.getElem?_cons_succ, List.getElem?_cons_zero, List.set_cons_succ, List.set_cons_zero, List.length_cons, List.length_nil, List.cons_append, List.nil_append, List.append_nil, reduceCtorEq, Int.reduceLT, Int.reduceLE, Int.reduceNeg, Int.reducePow, Int.reduceSub, Int.reduceAdd, Nat.reduceAdd, Nat.reduceLeDiff, Bool.not_true, Bool.not_false, decide_true, decide_false, Bool.false_eq_true, ↓reduceIte, upd_same, not_true_eq_false, not_false_eq_true, lsO_l, lsO_f, tpO_t, tpO_f, dkO_d, dkO_f, keyO_i, keyO_s, rIxH, rIxU, cLenL, cLenT, cListL, cListT, cTupL, cIntB, cAll, rEqNilI, rEq, rNe, scal_ii, scal_ss, scal_bb, scal_nn, scal_ni, scal_in, scal_ns, scal_sn, gSub, rSetL, ixs0, ixs1, ixs2, seq0, at0, at1, at2, at3, tBM, tBM0, rAppend, rPopAt, tyV_list, tGet2, tGetI, sPut, tMG, rTIdx, tyTup, tTupF, cx_K, cx_w, ex_map_int, ex_nil_int, ex_cons_int, List.map_cons, List.map_nil, List.isEmpty_nil, List.isEmpty_cons, List.eraseIdx_zero, List.tail_cons, List.eraseIdx_cons_zero, HO.lst.injEq, HO.tup.injEq, HO.dK.injEq, HO.frz.injEq, ne_eq, gTupH, gCons, gNil, wipe, tYes, upd_upd, and_assoc, List.getElem?_map, Option.map_some, isn_non_bool, isn_non_int, isn_non_str, isn_non_tuple, isn_non_list, isn_non_dict, isn_bl_bool, isn_bl_int, isn_bl_str, isn_bl_tuple, isn_bl_list, isn_bl_dict, isn_int_bool, isn_int_int, isn_int_str, isn_int_tuple, isn_int_list, isn_int_dict, isn_str_bool, isn_str_int, isn_str_str, isn_str_tuple, isn_str_list, isn_str_dict, isn_lst_bool, isn_lst_int, isn_lst_str, isn_lst_tuple, isn_lst_list, isn_lst_dict, isn_tup_bool, isn_tup_int, isn_tup_str, isn_tup_tuple, isn_tup_list, isn_tup_dict, isn_dct_bool, isn_dct_int, isn_dct_str, isn_dct_tuple, isn_dct_list, isn_dct_dict, okn_bool, okn_int, okn_str, okn_tuple, okn_list, okn_dict, cIsi, tyT_n, tyT_b, tyT_i, tyT_s, tyT_r, V.ty.injEq, tSl, tPart, tNoPart, rSlF, gName, List.length_map, Int.reduceToNat, cpow18, Wd.s_inj, ws_num, ws_field, ws_add, ws_sub, ws_mul, ws_eq, ws_lt, ws_gt, ws_le, ws_ge, ws_and, ws_or, ws_not, rInTab, rIxTab, rCatH, rCat, rInT, cSortD, cMaxL, cMinL, rNeNilI, inV, flatV, List.any_cons, List.any_nil, List.all_cons, List.all_nil, eqV, Bool.and_true, Bool.and_false, Bool.true_and, Bool.false_and, Bool.or_false, Bool.false_or, Bool.or_true, Bool.true_or, Wd.beq_s, sz0, sz1, sz2, sz3, sz4, sz5, sz6, isc_eq, isc_lt, isc_gt, isc_le, isc_ge, isc_and, isc_or, isc_not, isl_and, isl_or, isl_not, rSetD, rUnion, rSortTx, rRep]
    refine ⟨by omega, by omega, forB_it (for_it walk_range (fun i σ H2 => ∃ es x3, σ = [some (.ref h), some (.int n), some (.ref d), x3] ∧ es.map (·.1) = (List.range i).map nmT ∧ SH H2 d es ∧ BoxB H2 h l ∧ Keep [h, l] H H2)
      ⟨[], none, rfl, rfl, ⟨e1, fun e he => absurd he (by simp), fun e he => absurd he (by simp), by simp, List.nodup_nil, fun e he => absurd he (by simp)⟩, B1, (Keep.new hd).trans k1⟩ (fun _ _ _ _ _ => trivial) ?_ ?_)⟩
    · rintro i x σ H2 H3 hi ⟨es, x3, rfl, en, S, B2, k2⟩ ⟨rfl, rfl⟩
      have hi3 : i < 3 := by omega
      obtain ⟨ch, hc1, hc2⟩ := nmT_at i hi3
      have nv : valV (es.map fun e => ((Sum.inr e.1 : Key), V.ref e.2.1)) (Sum.inr (nmT i)) = none := by
        cases hv : valV (es.map fun e => ((Sum.inr e.1 : Key), V.ref e.2.1)) (Sum.inr (nmT i)) with
        | none => rfl
        | some z =>
          have q := valV_in hv
          rw [List.map_map] at q
          obtain ⟨e, he, hq⟩ := List.mem_map.mp q
          have hm : e.1 ∈ es.map (·.1) := List.mem_map.mpr ⟨e, he, rfl⟩
          rw [en] at hm
          obtain ⟨j, hj, hj2⟩ := List.mem_map.mp hm
          have hj := List.mem_range.mp hj
          have := nmT_inj j i (by omega) hi3 (hj2.trans (Sum.inr.inj hq))
          omega
      have el : es.length = i := by have := congrArg List.length en; simpa using this
      have fin : ∀ (H5 : Hp) (q : Addr) (fs : List Str), tpO (H5 q) = some (fs.map V.str) → (∀ s ∈ fs, PyData.strOk s = true) → (fs.length ≤ 4 ∧ 0 < fs.length) → Keep [h, l] H3 H5 → BoxB H5 h l →
          (es.map fun e => ((Sum.inr e.1 : Key), V.ref e.2.1)).length < sizeLine ∧ ∃ es', es'.map (·.1) = (List.range (i + 1)).map nmT ∧ SH (upd H5 d (.dK (putK (es.map fun e => (Sum.inr e.1, V.ref e.2.1)) (Sum.inr (nmT i)) (.ref q)))) d es' ∧
            BoxB (upd H5 d (.dK (putK (es.map fun e => (Sum.inr e.1, V.ref e.2.1)) (Sum.inr (nmT i)) (.ref q)))) h l ∧ Keep [h, l] H (upd H5 d (.dK (putK (es.map fun e => (Sum.inr e.1, V.ref e.2.1)) (Sum.inr (nmT i)) (.ref q)))) := by
        intro H5 q fs hq ho hf k5 B5
        have S5 := S.keepB B2 k5
        rw [putK_new _ nv]
        have nqd : q ≠ d := fun z => by rw [z, S5.at_] at hq; cases hq
        refine ⟨by rw [List.length_map]; exact szl' (by omega), es ++ [(nmT i, q, fs)], ?_, ⟨?_, ?_, ?_, ⟨?_, ?_⟩, ?_, ?_⟩, B5.updNot nd, (k2.trans k5).updFree hd⟩
        · rw [List.map_append, en, List.range_succ, List.map_append]; rfl
        · rw [upd_same, List.map_append]; rfl
        · intro e he
          rcases List.mem_append.mp he with he | he
          · have t5 := S5.tups e he
            have ne : e.2.1 ≠ d := fun z => by rw [z, S5.at_] at t5; cases t5
            rw [upd_ne ne]; exact t5
          · cases List.mem_singleton.mp he
            rw [upd_ne nqd]; exact hq
        · intro e he
          rcases List.mem_append.mp he with he | he
          · exact S.oks e he
          · cases List.mem_singleton.mp he
            exact ⟨nmT_ok i, ho⟩
        · rw [List.length_append, el]; simp; omega
        · intro e he
          rcases List.mem_append.mp he with he | he
          · exact S.few.2 e he
          · cases List.mem_singleton.mp he
            exact hf
        · have z : (es ++ [((nmT i, q, fs) : Sh)]).map (·.1) = (List.range (i + 1)).map nmT := by rw [List.map_append, en, List.range_succ, List.map_append]; rfl
          rw [z]
          exact nmT_nd (i + 1) (by omega)
        · intro e he
          rcases List.mem_append.mp he with he | he
          · exact S.zz e he
          · cases List.mem_singleton.mp he
            exact nmT_zz i
      have fok : ∀ s ∈ (["k", "x", "y", "z"] : List Str), PyData.strOk s = true := by decide +kernel
      simp only [tVar, tC, tOp, rI, rI0, rU, tTest, tB, tAnd, tOr, tNot, tAndV, tOrV, tNotV, tIf, tNil, tCons, tTup, tLst, tCB, tSeq, tAsg, gName, tRet, tRetN, tIfS, tNext, tDrop, tCall, tUn, tPar, CMul, CDiv, V.int.injEq, V.bl.injEq, V.ref.injEq, V.str.injEq, Option.some.injEq, List.cons.injEq, and_true, true_and, and_false, false_and, or_false, false_or, or_true, true_or, exists_eq_left', exists_eq_left, exists_and_left, exists_and_right, exists_eq', exists_eq, exists_false, exists_const, List.getElem?_cons_succ, List.getElem?_cons_zero, List.set_cons_succ, List.set_cons_zero, List.length_cons, List.length_nil, List.cons_append, List.nil_append, List.append_nil, reduceCtorEq, Int.reduceLT, Int.reduceLE, Int.reduceNeg, Int.reducePow, Int.reduceSub, Int.reduceAdd, Nat.reduceAdd, Nat.reduceLeDiff, Bool.not_true, Bool.not_false, decide_true, decide_false, Bool.false_eq_true, ↓reduceIte, upd_same, not_true_eq_false, not_false_eq_true, lsO_l, lsO_f, tpO_t, tpO_f, dkO_d, dkO_f, keyO_i, keyO_s, rIxH, rIxU, cLenL, cLenT, cListL, cListT, cTupL, cIntB, cAll, rEqNilI, rEq, rNe, scal_ii, scal_ss, scal_bb, scal_nn, scal_ni, scal_in, scal_ns, scal_sn, gSub, rSetL, ixs0, ixs1, ixs2, seq0, at0, at1, at2, at3, tBM, tBM0, rAppend, rPopAt, tyV_list, tGet2, tGetI, sPut, tMG, rTIdx, tyTup, tTupF, cx_K, cx_w, ex_map_int, ex_nil_int, ex_cons_int, List.map_cons, List.map_nil, List.isEmpty_nil, List.isEmpty_cons, List.eraseIdx_zero, List.tail_cons, List.eraseIdx_cons_zero, HO.lst.injEq, HO.tup.injEq, HO.dK.injEq, HO.frz.injEq, ne_eq, gTupH, gCons, gNil, wipe, tYes, upd_upd, and_assoc, List.getElem?_map, Option.map_some, isn_non_bool, isn_non_int, isn_non_str, isn_non_tuple, isn_non_list, isn_non_dict, isn_bl_bool, isn_bl_int, isn_bl_str, isn_bl_tuple, isn_bl_list, isn_bl_dict, isn_int_bool, isn_int_int, isn_int_str, isn_int_tuple, isn_int_list, isn_int_dict, isn_str_bool, isn_str_int, isn_str_str, isn_str_tuple, isn_str_list, isn_str_dict, isn_lst_bool, isn_lst_int, isn_lst_str, isn_lst_tuple, isn_lst_list, isn_lst_dict, isn_tup_bool, isn_tup_int, isn_tup_str, isn_tup_tuple, isn_tup_list, isn_tup_dict, isn_dct_bool, isn_dct_int, isn_dct_str, isn_dct_tuple, isn_dct_list, isn_dct_dict, okn_bool, okn_int, okn_str, okn_tuple, okn_list, okn_dict, cIsi, tyT_n, tyT_b, tyT_i, tyT_s, tyT_r, V.ty.injEq, tSl, tPart, tNoPart, rSlF, gName, List.length_map, Int.reduceToNat, cpow18, Wd.s_inj, ws_num, ws_field, ws_add, ws_sub, ws_mul, ws_eq, ws_lt, ws_gt, ws_le, ws_ge, ws_and, ws_or, ws_not, rInTab, rIxTab, rCatH, rCat, rInT, cSortD, cMaxL, cMinL, rNeNilI, inV, flatV, List.any_cons, List.any_nil, List.all_cons, List.all_nil, eqV, Bool.and_true, Bool.and_false, Bool.true_and, Bool.false_and, Bool.or_false, Bool.false_or, Bool.or_true, Bool.true_or, Wd.beq_s, sz0, sz1, sz2, sz3, sz4, sz5, sz6, isc_eq, isc_lt, isc_gt, isc_le, isc_ge, isc_and, isc_or, isc_not, isl_and, isl_or, isl_not, rSetD, rUnion, rSortTx, rRep, gName]
      intro p hp
      have np := B2.free hp
      refine ⟨h, l, 4, rfl, B2.same (same_new hp), by decide, by decide, fun r2 H4 c0 c1 B4 k4 => ?_⟩
      have e4 := k4 _ _ np upd_same
      have k34 : Keep [h, l] H3 H4 := (Keep.new hp).trans k4
      have d4 := (S.keepB B2 k34).at_
      simp only [tVar, tC, tOp, rI, rI0, rU, tTest, tB, tAnd, tOr, tNot, tAndV, tOrV, tNotV, tIf, tNil, tCons, tTup, tLst, tCB, tSeq, tAsg, gName, tRet, tRetN, tIfS, tNext, tDrop, tCall, tUn, tPar, CMul, CDiv, V.int.injEq, V.bl.injEq, V.ref.injEq, V.str.injEq, Option.some.injEq, List.cons.injEq, and_true, true_and, and_false, false_and, or_false, false_or, or_true, true_or, exists_eq_left', exists_eq_left, exists_and_left, exists_and_right, exists_eq', exists_eq, exists_false, exists_const, List.getElem?_cons_succ, List.getElem?_cons_zero, List.set_cons_succ, List.set_cons_zero, List.length_cons, List.length_nil, List.cons_append, List.nil_append, List.append_nil, reduceCtorEq, Int.reduceLT, Int.reduceLE, Int.reduceNeg, Int.reducePow, Int.reduceSub, Int.reduceAdd, Nat.reduceAdd, Nat.reduceLeDiff, Bool.not_true, Bool.not_false, decide_true, decide_false, Bool.false_eq_true, ↓reduceIte, upd_same, not_true_eq_false, not_false_eq_true, lsO_l, lsO_f, tpO_t, tpO_f, dkO_d, dkO_f, keyO_i, keyO_s, rIxH, rIxU, cLenL, cLenT, cListL, cListT, cTupL, cIntB, cAll, rEqNilI, rEq, rNe, scal_ii, scal_ss, scal_bb, scal_nn, scal_ni, scal_in, scal_ns, scal_sn, gSub, rSetL, ixs0, ixs1, ixs2, seq0, at0, at1, at2, at3, tBM, tBM0, rAppend, rPopAt, tyV_list, tGet2, tGetI, sPut, tMG, rTIdx, tyTup, tTupF, cx_K, cx_w, ex_map_int, ex_nil_int, ex_cons_int, List.map_cons, List.map_nil, List.isEmpty_nil, List.isEmpty_cons, List.eraseIdx_zero, List.tail_cons, List.eraseIdx_cons_zero, HO.lst.injEq, HO.tup.injEq, HO.dK.injEq, HO.frz.injEq, ne_eq, gTupH, gCons, gNil, wipe, tYes, upd_upd, and_assoc, List.getElem?_map, Option.map_some, isn_non_bool, isn_non_int, isn_non_str, isn_non_tuple, isn_non_list, isn_non_dict, isn_bl_bool, isn_bl_int, isn_bl_str, isn_bl_tuple, isn_bl_list, isn_bl_dict, isn_int_bool, isn_int_int, isn_int_str, isn_int_tuple, isn_int_list, isn_int_dict, isn_str_bool, isn_str_int, isn_str_str, isn_str_tuple, isn_str_list, isn_str_dict, isn_lst_bool, isn_lst_int, isn_lst_str, isn_lst_tuple, isn_lst_list, isn_lst_dict, isn_tup_bool, isn_tup_int, isn_tup_str, isn_tup_tuple, isn_tup_list, isn_tup_dict, isn_dct_bool, isn_dct_int, isn_dct_str, isn_dct_tuple, isn_dct_list, isn_dct_dict, okn_bool, okn_int, okn_str, okn_tuple, okn_list, okn_dict, cIsi, tyT_n, tyT_b, tyT_i, tyT_s, tyT_r, V.ty.injEq, tSl, tPart, tNoPart, rSlF, gName, List.length_map, Int.reduceToNat, cpow18, Wd.s_inj, ws_num, ws_field, ws_add, ws_sub, ws_mul, ws_eq, ws_lt, ws_gt, ws_le, ws_ge, ws_and, ws_or, ws_not, rInTab, rIxTab, rCatH, rCat, rInT, cSortD, cMaxL, cMinL, rNeNilI, inV, flatV, List.any_cons, List.any_nil, List.all_cons, List.all_nil, eqV, Bool.and_true, Bool.and_false, Bool.true_and, Bool.false_and, Bool.or_false, Bool.false_or, Bool.or_true, Bool.true_or, Wd.beq_s, sz0, sz1, sz2, sz3, sz4, sz5, sz6, isc_eq, isc_lt, isc_gt, isc_le, isc_ge, isc_and, isc_or, isc_not, isl_and, isl_or, isl_not, rSetD, rUnion, rSortTx, rRep, e4]
      refine ⟨fun _ => ⟨_, _, ch, rfl, rfl, szl (by decide +kernel), by rw [Int.zero_add]; exact hc1, _, rfl, len_tc ch, ?_⟩, fun _ q oq hq qc qd => ⟨_, _, ch, rfl, rfl, szl (by decide +kernel), by rw [Int.zero_add]; exact hc1, _, rfl, len_tc ch, ?_⟩⟩
      · rw [hc2]
        exact ⟨_, d4, fin H4 p ["k", "x", "y", "z"] (by rw [e4]; rfl) fok (by decide) k34 B4⟩
      · rw [hc2]
        have nqd : d ≠ q := ne_of_none d4 hq
        refine ⟨_, (upd_ne nqd).trans d4, fin _ q ((["k", "x", "y", "z"] : List Str).take (1 + r2).toNat) ?_ (fun s hs => fok s (List.mem_of_mem_take hs)) (by rw [List.length_take]; refine ⟨Nat.min_le_right _ _, ?_⟩; show 0 < min (1 + r2).toNat 4; omega) (k34.thenNew hq) (B4.same (same_new hq))⟩
        have hsx : HT.sIx 4 4 (some (1 + r2)) = (1 + r2).toNat := by
          unfold HT.sIx
          dsimp only
          rw [if_neg (by omega)]
          omega
        rw [upd_same]
        unfold cutV
        rw [HT.sIx_none]
        show some (List.take (HT.sIx 4 4 (some (1 + r2)) - 0) [V.str "k", V.str "x", V.str "y", V.str "z"]) = _
        rw [hsx, List.map_take]
        rfl
    · rintro σ H2 ⟨es, x3, rfl, en, S, B2, k2⟩
      simp only [tVar, tC, tOp, rI, rI0, rU, tTest, tB, tAnd, tOr, tNot, tAndV, tOrV, tNotV, tIf, tNil, tCons, tTup, tLst, tCB, tSeq, tAsg, gName, tRet, tRetN, tIfS, tNext, tDrop, tCall, tUn, tPar, CMul, CDiv, V.int.injEq, V.bl.injEq, V.ref.injEq, V.str.injEq, Option.some.injEq, List.cons.injEq, and_true, true_and, and_false, false_and, or_false, false_or, or_true, true_or, exists_eq_left', exists_eq_left, exists_and_left, exists_and_right, exists_eq', exists_eq, exists_false, exists_const, List.getElem?_cons_succ, List.getElem?_cons_zero, List.set_cons_succ, List.set_cons_zero, List.length_cons, List.length_nil, List.cons_append, List.nil_append, List.append_nil, reduceCtorEq, Int.reduceLT, Int.reduceLE, Int.reduceNeg, Int.reducePow, Int.reduceSub, Int.reduceAdd, Nat.reduceAdd, Nat.reduceLeDiff, Bool.not_true, Bool.not_false, decide_true, decide_false, Bool.false_eq_true, ↓reduceIte, upd_same, not_true_eq_false, not_false_eq_true, lsO_l, lsO_f, tpO_t, tpO_f, dkO_d, dkO_f, keyO_i, keyO_s, rIxH, rIxU, cLenL, cLenT, cListL, cListT, cTupL, cIntB, cAll, rEqNilI, rEq, rNe, scal_ii, scal_ss, scal_bb, scal_nn, scal_ni, scal_in, scal_ns, scal_sn, gSub, rSetL, ixs0, ixs1, ixs2, seq0, at0, at1, at2, at3, tBM, tBM0, rAppend, rPopAt, tyV_list, tGet2, tGetI, sPut, tMG, rTIdx, tyTup, tTupF, cx_K, cx_w, ex_map_int, ex_nil_int, ex_cons_int, List.map_cons, List.map_nil, List.isEmpty_nil, List.isEmpty_cons, List.eraseIdx_zero, List.tail_cons, List.eraseIdx_cons_zero, HO.lst.injEq, HO.tup.injEq, HO.dK.injEq, HO.frz.injEq, ne_eq, gTupH, gCons, gNil, wipe, tYes, upd_upd, and_assoc, List.getElem?_map, Option.map_some, isn_non_bool, isn_non_int, isn_non_str, isn_non_tuple, isn_non_list, isn_non_dict, isn_bl_bool, isn_bl_int, isn_bl_str, isn_bl_tuple, isn_bl_list, isn_bl_dict, isn_int_bool, isn_int_int, isn_int_str, isn_int_tuple, isn_int_list, isn_int_dict, isn_str_bool, isn_str_int, isn_str_str, isn_str_tuple, isn_str_list, isn_str_dict, isn_lst_bool, isn_lst_int, isn_lst_str, isn_lst_tuple, isn_lst_list, isn_lst_dict, isn_tup_bool, isn_tup_int, isn_tup_str, isn_tup_tuple, isn_tup_list, isn_tup_dict, isn_dct_bool, isn_dct_int, isn_dct_str, isn_dct_tuple, isn_dct_list, isn_dct_dict, okn_bool, okn_int, okn_str, okn_tuple, okn_list, okn_dict, cIsi, tyT_n, tyT_b, tyT_i, tyT_s, tyT_r, V.ty.injEq, tSl, tPart, tNoPart, rSlF, gName, List.length_map, Int.reduceToNat, cpow18, Wd.s_inj, ws_num, ws_field, ws_add, ws_sub, ws_mul, ws_eq, ws_lt, ws_gt, ws_le, ws_ge, ws_and, ws_or, ws_not, rInTab, rIxTab, rCatH, rCat, rInT, cSortD, cMaxL, cMinL, rNeNilI, inV, flatV, List.any_cons, List.any_nil, List.all_cons, List.all_nil, eqV, Bool.and_true, Bool.and_false, Bool.true_and, Bool.false_and, Bool.or_false, Bool.false_or, Bool.or_true, Bool.true_or, Wd.beq_s, sz0, sz1, sz2, sz3, sz4, sz5, sz6, isc_eq, isc_lt, isc_gt, isc_le, isc_ge, isc_and, isc_or, isc_not, isl_and, isl_or, isl_not, rSetD, rUnion, rSortTx, rRep]
      have el := congrArg List.length en
      rw [List.length_map, List.length_map, List.length_range] at el
      exact k _ es _ S (by omega) hd B2 k2
theorem ok_l_some (T : Txt K mg w) : FnOk P w K mg base CX0 1 T.f_l_some T.fd_l_some ["_law_h", "_law_shapes_here", "_law_tables"] spSome := by
  refine T.F_l_some.ok sc_l_some (fun vs H Q E h => ?_) (fun cdv A outer s H vs Q E hr h => ?_)
  · obtain ⟨h, d, ta, es, ts, rfl, _⟩ := h
    rfl
  · have hu := hu_of hr
    obtain ⟨h, d, ta, es, ts, rfl, S, hta, hl, hts, k⟩ := h
    refine ⟨_, (pss_cons (ps_set (i := 3) sc_l_some.nd rfl (Or.inl rfl) (pe_lst pa_nil))
      (pss_cons (ps_for PassesOwn.never rfl (pi_listK K rfl (pv 2)) (pg_name (i := 4) sc_l_some.nd rfl (Or.inr rfl)) (pss_one (ps_set (i := 3) sc_l_some.nd rfl (Or.inl rfl) (pe_op op_cat (pv 3) (pe_lc (own := [("_law_field", 5)]) (g := gName 5) (tt := tYes) rfl sc_l_some.nd (pi_tupK K rfl (pe_getI hu (pv 1) (pv 4) (fun _ _ => rfl))) (blkOk_by (N := N_l_some) (sc := defScope s_l_some) (by decide +kernel)) (fun _ _ _ _ _ => (pg_name (i := 5) sc_l_some.nd rfl (Or.inl rfl))) (fun _ _ _ _ _ => pts_nil) (fun _ _ _ _ _ => (pe_tup (pa_cons (pv 4) (pa_cons (pv 5) pa_nil)))))))))
      (pss_one (ps_ret (pv 3))))), ?_⟩
    rw [show L2.start N_l_some [V.ref h, V.ref d, V.ref ta] = [some (V.ref h), some (V.ref d), some (V.ref ta), none, none, none] from rfl]
    simp only [tVar, tC, tOp, rI, rI0, rU, tTest, tB, tAnd, tOr, tNot, tAndV, tOrV, tNotV, tIf, tNil, tCons, tTup, tLst, tCB, tSeq, tAsg, gName, tRet, tRetN, tIfS, tNext, tDrop, tCall, tUn, tPar, CMul, CDiv, V.int.injEq, V.bl.injEq, V.ref.injEq, V.str.injEq, Option.some.injEq, List.cons.injEq, and_true, true_and, and_false, false_and, or_false, false_or, or_true, true_or, exists_eq_left', exists_eq_left, exists_and_left, exists_and_right, exists_eq', exists_eq, exists_false, exists_const, List.getElem?_cons_succ, List.getElem?_cons_zero, List.set_cons_succ, List.set_cons_zero, List.length_cons, List.length_nil, List.cons_append, List.nil_append, List.append_nil, reduceCtorEq, Int.reduceLT, Int.reduceLE, Int.reduceNeg, Int.reducePow, Int.reduceSub, Int.reduceAdd, Nat.reduceAdd, Nat.reduceLeDiff, Bool.not_true, Bool.not_false, decide_true, decide_false, Bool.false_eq_true, ↓reduceIte, upd_same, not_true_eq_false, not_false_eq_true, lsO_l, lsO_f, tpO_t, tpO_f, dkO_d, dkO_f, keyO_i, keyO_s, rIxH, rIxU, cLenL, cLenT, cListL, cListT, cTupL, cIntB, cAll, rEqNilI, rEq, rNe, scal_ii, scal_ss, scal_bb, scal_nn, scal_ni, scal_in, scal_ns, scal_sn, gSub, rSetL, ixs0, ixs1, ixs2, seq0, at0, at1, at2, at3, tBM, tBM0, rAppend, rPopAt, tyV_list, tGet2, tGetI, sPut, tMG, rTIdx, tyTup, tTupF, cx_K, cx_w, ex_map_int, ex_nil_int, ex_cons_int, List.map_cons, List.map_nil, List.isEmpty_nil, List.isEmpty_cons, List.eraseIdx_zero, List.tail_cons, List.eraseIdx_cons_zero, HO.lst.injEq, HO.tup.injEq, HO.dK.injEq, HO.frz.injEq, ne_eq, gTupH, gCons, gNil, wipe, tYes, upd_upd, and_assoc, List.getElem?_map, Option.map_some, isn_non_bool, isn_non_int, isn_non_str, isn_non_tuple, isn_non_list, isn_non_dict, isn_bl_bool, isn_bl_int, isn_bl_str, isn_bl_tuple, isn_bl_list, isn_bl_dict, isn_int_bool, isn_int_int, isn_int_str, isn_int_tuple, isn_int_list, isn_int_dict, isn_str_bool, isn_str_int, isn_str_str, isn_str_tuple, isn_str_list, isn_str_dict, isn_lst_bool, isn_lst_int, isn_lst_str, isn_lst_tuple, isn_lst_list, isn_lst_dict, isn_tup_bool, isn_tup_int, isn_tup_str, isn_tup_tuple, isn_tup_list, isn_tup_dict, isn_dct_bool, isn_dct_int, isn_dct_str, isn_dct_tuple, isn_dct_list, isn_dct_dict, okn_bool, okn_int, okn_str, okn_tuple, okn_list, okn_dict, cIsi, tyT_n, tyT_b, tyT_i, tyT_s, tyT_r, V.ty.injEq, tSl, tPart, tNoPart, rSlF, gName, List.length_map, Int.reduceToNat, cpow18, Wd.s_inj, ws_num, ws_field, ws_add, ws_sub, ws_mul, ws_eq, ws_lt, ws_gt, ws_le, ws_ge, ws_and, ws_or, ws_not, rInTab, rIxTab, rCatH, rCat, rInT, cSortD, cMaxL, cMinL, rNeNilI, inV, flatV, List.any_cons, List.any_nil, List.all_cons, List.all_nil, eqV, Bool.and_true, Bool.and_false, Bool.true_and, Bool.false_and, Bool.or_false, Bool.false_or, Bool.or_true, Bool.true_or, Wd.beq_s, sz0, sz1, sz2, sz3, sz4, sz5, sz6, isc_eq, isc_lt, isc_gt, isc_le, isc_ge, isc_and, isc_or, isc_not, isl_and, isl_or, isl_not, rSetD, rUnion, rSortTx, rRep]
    intro a ha
    simp only [tVar, tC, tOp, rI, rI0, rU, tTest, tB, tAnd, tOr, tNot, tAndV, tOrV, tNotV, tIf, tNil, tCons, tTup, tLst, tCB, tSeq, tAsg, gName, tRet, tRetN, tIfS, tNext, tDrop, tCall, tUn, tPar, CMul, CDiv, V.int.injEq, V.bl.injEq, V.ref.injEq, V.str.injEq, Option.some.injEq, List.cons.injEq, and_true, true_and, and_false, false_and, or_false, false_or, or_true, true_or, exists_eq_left', exists_eq_left, exists_and_left, exists_and_right, exists_eq', exists_eq, exists_false, exists_const, List.getElem?_cons_succ, List.getElem?_cons_zero, List.set_cons_succ, List.set_cons_zero, List.length_cons, List.length_nil, List.cons_append, List.nil_append, List.append_nil, reduceCtorEq, Int.reduceLT, Int.reduceLE, Int.reduceNeg, Int.reducePow, Int.reduceSub, Int.reduceAdd, Nat.reduceAdd, Nat.reduceLeDiff, Bool.not_true, Bool.not_false, decide_true, decide_false, Bool.false_eq_true, ↓reduceIte, upd_same, not_true_eq_false, not_false_eq_true, lsO_l, lsO_f, tpO_t, tpO_f, dkO_d, dkO_f, keyO_i, keyO_s, rIxH, rIxU, cLenL, cLenT, cListL, cListT, cTupL, cIntB, cAll, rEqNilI, rEq, rNe, scal_ii, scal_ss, scal_bb, scal_nn, scal_ni, scal_in, scal_ns, scal_sn, gSub, rSetL, ixs0, ixs1, ixs2, seq0, at0, at1, at2, at3, tBM, tBM0, rAppend, rPopAt, tyV_list, tGet2, tGetI, sPut, tMG, rTIdx, tyTup, tTupF, cx_K, cx_w, ex_map_int, ex_nil_int, ex_cons_int, List.map_cons, List.map_nil, List.isEmpty_nil, List.isEmpty_cons, List.eraseIdx_zero, List.tail_cons, List.eraseIdx_cons_zero, HO.lst.injEq, HO.tup.injEq, HO.dK.injEq, HO.frz.injEq, ne_eq, gTupH, gCons, gNil, wipe, tYes, upd_upd, and_assoc, List.getElem?_map, Option.map_some, isn_non_bool, isn_non_int, isn_non_str, isn_non_tuple, isn_non_list, isn_non_dict, isn_bl_bool, isn_bl_int, isn_bl_str, isn_bl_tuple, isn_bl_list, isn_bl_dict, isn_int_bool, isn_int_int, isn_int_str, isn_int_tuple, isn_int_list, isn_int_dict, isn_str_bool, isn_str_int, isn_str_str, isn_str_tuple, isn_str_list, isn_str_dict, isn_lst_bool, isn_lst_int, isn_lst_str, isn_lst_tuple, isn_lst_list, isn_lst_dict, isn_tup_bool, isn_tup_int, isn_tup_str, isn_tup_tuple, isn_tup_list, isn_tup_dict, isn_dct_bool, isn_dct_int, isn_dct_str, isn_dct_tuple, isn_dct_list, isn_dct_dict, okn_bool, okn_int, okn_str, okn_tuple, okn_list, okn_dict, cIsi, tyT_n, tyT_b, tyT_i, tyT_s, tyT_r, V.ty.injEq, tSl, tPart, tNoPart, rSlF, gName, List.length_map, Int.reduceToNat, cpow18, Wd.s_inj, ws_num, ws_field, ws_add, ws_sub, ws_mul, ws_eq, ws_lt, ws_gt, ws_le, ws_ge, ws_and, ws_or, ws_not, rInTab, rIxTab, rCatH, rCat, rInT, cSortD, cMaxL, cMinL, rNeNilI, inV, flatV, List.any_cons, List.any_nil, List.all_cons, List.all_nil, eqV, Bool.and_true, Bool.and_false, Bool.true_and, Bool.false_and, Bool.or_false, Bool.false_or, Bool.or_true, Bool.true_or, Wd.beq_s, sz0, sz1, sz2, sz3, sz4, sz5, sz6, isc_eq, isc_lt, isc_gt, isc_le, isc_ge, isc_and, isc_or, isc_not, isl_and, isl_or, isl_not, rSetD, rUnion, rSortTx, rRep, tFor_eq, iList]
    refine ⟨⟨_, .inl (.inl (same_new ha _ _ hta))⟩, forB_it (for_it (walk_list (xs := ts.map V.str)) (fun i σ H2 => ∃ f ps x4, σ = [some (.ref h), some (.ref d), some (.ref ta), some (.ref f), x4, none] ∧ RF H2 f ps ∧ ps.length ≤ 4 * i ∧ Same H H2 ∧ H f = none)
      ⟨a, [], none, rfl, ⟨upd_same, fun e he => absurd he (by simp), fun e he => absurd he (by simp)⟩, by simp, same_new ha, ha⟩ (fun _ _ H2 _ ⟨_, _, _, _, _, _, S2, _⟩ => .inl (.inl (S2 _ _ hta))) ?_ ?_)⟩
    · rintro i x σ H2 H3 hi ⟨f, ps, x4, rfl, R, hlen, S2, hf⟩ ⟨rfl, hx⟩
      obtain ⟨t, ht, rfl⟩ := str_at hx
      obtain ⟨e, he, het, hev⟩ := (S.same S2).look (hts t (List.mem_of_getElem? ht))
      have hd2 := (S.same S2).at_
      have hev' := (S.same S2).tups e he
      simp only [tVar, tC, tOp, rI, rI0, rU, tTest, tB, tAnd, tOr, tNot, tAndV, tOrV, tNotV, tIf, tNil, tCons, tTup, tLst, tCB, tSeq, tAsg, gName, tRet, tRetN, tIfS, tNext, tDrop, tCall, tUn, tPar, CMul, CDiv, V.int.injEq, V.bl.injEq, V.ref.injEq, V.str.injEq, Option.some.injEq, List.cons.injEq, and_true, true_and, and_false, false_and, or_false, false_or, or_true, true_or, exists_eq_left', exists_eq_left, exists_and_left, exists_and_right, exists_eq', exists_eq, exists_false, exists_const, List.getElem?_cons_succ, List.getElem?_cons_zero, List.set_cons_succ, List.set_cons_zero, List.length_cons, List.length_nil, List.cons_append, List.nil_append, List.append_nil, reduceCtorEq, Int.reduceLT, Int.reduceLE, Int.reduceNeg, Int.reducePow, Int.reduceSub, Int.reduceAdd, Nat.reduceAdd, Nat.reduceLeDiff, Bool.not_true, Bool.not_false, decide_true, decide_false, Bool.false_eq_true, ↓reduceIte, upd_same, not_true_eq_false, not_false_eq_true, lsO_l, lsO_f, tpO_t, tpO_f, dkO_d, dkO_f, keyO_i, keyO_s, rIxH, rIxU, cLenL, cLenT, cListL, cListT, cTupL, cIntB, cAll, rEqNilI, rEq, rNe, scal_ii, scal_ss, scal_bb, scal_nn, scal_ni, scal_in, scal_ns, scal_sn, gSub, rSetL, ixs0, ixs1, ixs2, seq0, at0, at1, at2, at3, tBM, tBM0, rAppend, rPopAt, tyV_list, tGet2, tGetI, sPut, tMG, rTIdx, tyTup, tTupF, cx_K, cx_w, ex_map_int, ex_nil_int, ex_cons_int, List.map_cons, List.map_nil, List.isEmpty_nil, List.isEmpty_cons, List.eraseIdx_zero, List.tail_cons, List.eraseIdx_cons_zero, HO.lst.injEq, HO.tup.injEq, HO.dK.injEq, HO.frz.injEq, ne_eq, gTupH, gCons, gNil, wipe, tYes, upd_upd, and_assoc, List.getElem?_map, Option.map_some, isn_non_bool, isn_non_int, isn_non_str, isn_non_tuple, isn_non_list, isn_non_dict, isn_bl_bool, isn_bl_int, isn_bl_str, isn_bl_tuple, isn_bl_list, isn_bl_dict, isn_int_bool, isn_int_int, isn_int_str, isn_int_tuple, isn_int_list, isn_int_dict, isn_str_bool, isn_str_int, isn_str_str, isn_str_tuple, isn_str_list, isn_str_dict, isn_lst_bool, isn_lst_int, isn_lst_str, isn_lst_tuple, isn_lst_list, isn_lst_dict, isn_tup_bool, isn_tup_int, isn_tup_str, isn_tup_tuple, isn_tup_list, isn_tup_dict, isn_dct_bool, isn_dct_int, isn_dct_str, isn_dct_tuple, isn_dct_list, isn_dct_dict, okn_bool, okn_int, okn_str, okn_tuple, okn_list, okn_dict, cIsi, tyT_n, tyT_b, tyT_i, tyT_s, tyT_r, V.ty.injEq, tSl, tPart, tNoPart, rSlF, gName, List.length_map, Int.reduceToNat, cpow18, Wd.s_inj, ws_num, ws_field, ws_add, ws_sub, ws_mul, ws_eq, ws_lt, ws_gt, ws_le, ws_ge, ws_and, ws_or, ws_not, rInTab, rIxTab, rCatH, rCat, rInT, cSortD, cMaxL, cMinL, rNeNilI, inV, flatV, List.any_cons, List.any_nil, List.all_cons, List.all_nil, eqV, Bool.and_true, Bool.and_false, Bool.true_and, Bool.false_and, Bool.or_false, Bool.false_or, Bool.or_true, Bool.true_or, Wd.beq_s, sz0, sz1, sz2, sz3, sz4, sz5, sz6, isc_eq, isc_lt, isc_gt, isc_le, isc_ge, isc_and, isc_or, isc_not, isl_and, isl_or, isl_not, rSetD, rUnion, rSortTx, rRep, gName, tLc_eq, iTup, hd2, hev]
      refine ⟨⟨_, .inl (rd_tpO hev')⟩, lcB_it fun D hD => lc_it (walk_tup (xs := e.2.2.map V.str)) (fun j H5 => ∃ qs : List Fd, RF H5 D qs ∧ qs.length = j ∧ Same H3 H5) ⟨[], ⟨upd_same, fun e he => absurd he (by simp), fun e he => absurd he (by simp)⟩, rfl, same_new hD⟩
        (fun _ H5 _ ⟨_, _, _, S5⟩ => .inl (rd_tpO (tpO_same hev' S5))) ?_ ?_⟩
      · rintro j x H5 H6 hj ⟨qs, RQ, ql, S5⟩ ⟨rfl, hx⟩
        obtain ⟨s0, hs0, rfl⟩ := str_at hx
        rw [List.length_map] at hj
        simp only [tVar, tC, tOp, rI, rI0, rU, tTest, tB, tAnd, tOr, tNot, tAndV, tOrV, tNotV, tIf, tNil, tCons, tTup, tLst, tCB, tSeq, tAsg, gName, tRet, tRetN, tIfS, tNext, tDrop, tCall, tUn, tPar, CMul, CDiv, V.int.injEq, V.bl.injEq, V.ref.injEq, V.str.injEq, Option.some.injEq, List.cons.injEq, and_true, true_and, and_false, false_and, or_false, false_or, or_true, true_or, exists_eq_left', exists_eq_left, exists_and_left, exists_and_right, exists_eq', exists_eq, exists_false, exists_const, List.getElem?_cons_succ, List.getElem?_cons_zero, List.set_cons_succ, List.set_cons_zero, List.length_cons, List.length_nil, List.cons_append, List.nil_append, List.append_nil, reduceCtorEq, Int.reduceLT, Int.reduceLE, Int.reduceNeg, Int.reducePow, Int.reduceSub, Int.reduceAdd, Nat.reduceAdd, Nat.reduceLeDiff, Bool.not_true, Bool.not_false, decide_true, decide_false, Bool.false_eq_true, ↓reduceIte, upd_same, not_true_eq_false, not_false_eq_true, lsO_l, lsO_f, tpO_t, tpO_f, dkO_d, dkO_f, keyO_i, keyO_s, rIxH, rIxU, cLenL, cLenT, cListL, cListT, cTupL, cIntB, cAll, rEqNilI, rEq, rNe, scal_ii, scal_ss, scal_bb, scal_nn, scal_ni, scal_in, scal_ns, scal_sn, gSub, rSetL, ixs0, ixs1, ixs2, seq0, at0, at1, at2, at3, tBM, tBM0, rAppend, rPopAt, tyV_list, tGet2, tGetI, sPut, tMG, rTIdx, tyTup, tTupF, cx_K, cx_w, ex_map_int, ex_nil_int, ex_cons_int, List.map_cons, List.map_nil, List.isEmpty_nil, List.isEmpty_cons, List.eraseIdx_zero, List.tail_cons, List.eraseIdx_cons_zero, HO.lst.injEq, HO.tup.injEq, HO.dK.injEq, HO.frz.injEq, ne_eq, gTupH, gCons, gNil, wipe, tYes, upd_upd, and_assoc, List.getElem?_map, Option.map_some, isn_non_bool, isn_non_int, isn_non_str, isn_non_tuple, isn_non_list, isn_non_dict, isn_bl_bool, isn_bl_int, isn_bl_str, isn_bl_tuple, isn_bl_list, isn_bl_dict, isn_int_bool, isn_int_int, isn_int_str, isn_int_tuple, isn_int_list, isn_int_dict, isn_str_bool, isn_str_int, isn_str_str, isn_str_tuple, isn_str_list, isn_str_dict, isn_lst_bool, isn_lst_int, isn_lst_str, isn_lst_tuple, isn_lst_list, isn_lst_dict, isn_tup_bool, isn_tup_int, isn_tup_str, isn_tup_tuple, isn_tup_list, isn_tup_dict, isn_dct_bool, isn_dct_int, isn_dct_str, isn_dct_tuple, isn_dct_list, isn_dct_dict, okn_bool, okn_int, okn_str, okn_tuple, okn_list, okn_dict, cIsi, tyT_n, tyT_b, tyT_i, tyT_s, tyT_r, V.ty.injEq, tSl, tPart, tNoPart, rSlF, gName, List.length_map, Int.reduceToNat, cpow18, Wd.s_inj, ws_num, ws_field, ws_add, ws_sub, ws_mul, ws_eq, ws_lt, ws_gt, ws_le, ws_ge, ws_and, ws_or, ws_not, rInTab, rIxTab, rCatH, rCat, rInT, cSortD, cMaxL, cMinL, rNeNilI, inV, flatV, List.any_cons, List.any_nil, List.all_cons, List.all_nil, eqV, Bool.and_true, Bool.and_false, Bool.true_and, Bool.false_and, Bool.or_false, Bool.false_or, Bool.or_true, Bool.true_or, Wd.beq_s, sz0, sz1, sz2, sz3, sz4, sz5, sz6, isc_eq, isc_lt, isc_gt, isc_le, isc_ge, isc_and, isc_or, isc_not, isl_and, isl_or, isl_not, rSetD, rUnion, rSortTx, rRep, gName]
        intro p hp
        have nDp : D ≠ p := ne_of_none RQ.at_ hp
        simp only [tVar, tC, tOp, rI, rI0, rU, tTest, tB, tAnd, tOr, tNot, tAndV, tOrV, tNotV, tIf, tNil, tCons, tTup, tLst, tCB, tSeq, tAsg, gName, tRet, tRetN, tIfS, tNext, tDrop, tCall, tUn, tPar, CMul, CDiv, V.int.injEq, V.bl.injEq, V.ref.injEq, V.str.injEq, Option.some.injEq, List.cons.injEq, and_true, true_and, and_false, false_and, or_false, false_or, or_true, true_or, exists_eq_left', exists_eq_left, exists_and_left, exists_and_right, exists_eq', exists_eq, exists_false, exists_const, List.getElem?_cons_succ, List.getElem?_cons_zero, List.set_cons_succ, List.set_cons_zero, List.length_cons, List.length_nil, List.cons_append, List.nil_append, List.append_nil, reduceCtorEq, Int.reduceLT, Int.reduceLE, Int.reduceNeg, Int.reducePow, Int.reduceSub, Int.reduceAdd, Nat.reduceAdd, Nat.reduceLeDiff, Bool.not_true, Bool.not_false, decide_true, decide_false, Bool.false_eq_true, ↓reduceIte, upd_same, not_true_eq_false, not_false_eq_true, lsO_l, lsO_f, tpO_t, tpO_f, dkO_d, dkO_f, keyO_i, keyO_s, rIxH, rIxU, cLenL, cLenT, cListL, cListT, cTupL, cIntB, cAll, rEqNilI, rEq, rNe, scal_ii, scal_ss, scal_bb, scal_nn, scal_ni, scal_in, scal_ns, scal_sn, gSub, rSetL, ixs0, ixs1, ixs2, seq0, at0, at1, at2, at3, tBM, tBM0, rAppend, rPopAt, tyV_list, tGet2, tGetI, sPut, tMG, rTIdx, tyTup, tTupF, cx_K, cx_w, ex_map_int, ex_nil_int, ex_cons_int, List.map_cons, List.map_nil, List.isEmpty_nil, List.isEmpty_cons, List.eraseIdx_zero, List.tail_cons, List.eraseIdx_cons_zero, HO.lst.injEq, HO.tup.injEq, HO.dK.injEq, HO.frz.injEq, ne_eq, gTupH, gCons, gNil, wipe, tYes, upd_upd, and_assoc, List.getElem?_map, Option.map_some, isn_non_bool, isn_non_int, isn_non_str, isn_non_tuple, isn_non_list, isn_non_dict, isn_bl_bool, isn_bl_int, isn_bl_str, isn_bl_tuple, isn_bl_list, isn_bl_dict, isn_int_bool, isn_int_int, isn_int_str, isn_int_tuple, isn_int_list, isn_int_dict, isn_str_bool, isn_str_int, isn_str_str, isn_str_tuple, isn_str_list, isn_str_dict, isn_lst_bool, isn_lst_int, isn_lst_str, isn_lst_tuple, isn_lst_list, isn_lst_dict, isn_tup_bool, isn_tup_int, isn_tup_str, isn_tup_tuple, isn_tup_list, isn_tup_dict, isn_dct_bool, isn_dct_int, isn_dct_str, isn_dct_tuple, isn_dct_list, isn_dct_dict, okn_bool, okn_int, okn_str, okn_tuple, okn_list, okn_dict, cIsi, tyT_n, tyT_b, tyT_i, tyT_s, tyT_r, V.ty.injEq, tSl, tPart, tNoPart, rSlF, gName, List.length_map, Int.reduceToNat, cpow18, Wd.s_inj, ws_num, ws_field, ws_add, ws_sub, ws_mul, ws_eq, ws_lt, ws_gt, ws_le, ws_ge, ws_and, ws_or, ws_not, rInTab, rIxTab, rCatH, rCat, rInT, cSortD, cMaxL, cMinL, rNeNilI, inV, flatV, List.any_cons, List.any_nil, List.all_cons, List.all_nil, eqV, Bool.and_true, Bool.and_false, Bool.true_and, Bool.false_and, Bool.or_false, Bool.false_or, Bool.or_true, Bool.true_or, Wd.beq_s, sz0, sz1, sz2, sz3, sz4, sz5, sz6, isc_eq, isc_lt, isc_gt, isc_le, isc_ge, isc_and, isc_or, isc_not, isl_and, isl_or, isl_not, rSetD, rUnion, rSortTx, rRep, upd_ne nDp, RQ.at_]
        have e4 := (S.few.2 e he).1
        refine ⟨szl' (by omega), qs ++ [(p, t, s0)], ⟨?_, ?_, ?_⟩, by rw [List.length_append, ql]; rfl, Same.updFree (S5.trans (same_new hp)) hD⟩
        · rw [upd_same, List.map_append]; rfl
        · intro e' he'
          rcases List.mem_append.mp he' with he' | he'
          · have t5 := RQ.tups e' he'
            rw [upd_ne (fun z => by rw [z, RQ.at_] at t5; cases t5), upd_ne (ne_of_none t5 hp)]
            exact t5
          · cases List.mem_singleton.mp he'
            rw [upd_ne nDp.symm, upd_same]
        · intro e' he'
          rcases List.mem_append.mp he' with he' | he'
          · exact RQ.oks e' he'
          · cases List.mem_singleton.mp he'
            exact ⟨het ▸ (S.oks e he).1, (S.oks e he).2 s0 (List.mem_of_getElem? hs0)⟩
      · rintro H5 ⟨qs, RQ, ql, S5⟩
        rw [List.length_map] at ql
        have R5 := R.same S5
        simp only [tVar, tC, tOp, rI, rI0, rU, tTest, tB, tAnd, tOr, tNot, tAndV, tOrV, tNotV, tIf, tNil, tCons, tTup, tLst, tCB, tSeq, tAsg, gName, tRet, tRetN, tIfS, tNext, tDrop, tCall, tUn, tPar, CMul, CDiv, V.int.injEq, V.bl.injEq, V.ref.injEq, V.str.injEq, Option.some.injEq, List.cons.injEq, and_true, true_and, and_false, false_and, or_false, false_or, or_true, true_or, exists_eq_left', exists_eq_left, exists_and_left, exists_and_right, exists_eq', exists_eq, exists_false, exists_const, List.getElem?_cons_succ, List.getElem?_cons_zero, List.set_cons_succ, List.set_cons_zero, List.length_cons, List.length_nil, List.cons_append, List.nil_append, List.append_nil, reduceCtorEq, Int.reduceLT, Int.reduceLE, Int.reduceNeg, Int.reducePow, Int.reduceSub, Int.reduceAdd, Nat.reduceAdd, Nat.reduceLeDiff, Bool.not_true, Bool.not_false, decide_true, decide_false, Bool.false_eq_true, ↓reduceIte, upd_same, not_true_eq_false, not_false_eq_true, lsO_l, lsO_f, tpO_t, tpO_f, dkO_d, dkO_f, keyO_i, keyO_s, rIxH, rIxU, cLenL, cLenT, cListL, cListT, cTupL, cIntB, cAll, rEqNilI, rEq, rNe, scal_ii, scal_ss, scal_bb, scal_nn, scal_ni, scal_in, scal_ns, scal_sn, gSub, rSetL, ixs0, ixs1, ixs2, seq0, at0, at1, at2, at3, tBM, tBM0, rAppend, rPopAt, tyV_list, tGet2, tGetI, sPut, tMG, rTIdx, tyTup, tTupF, cx_K, cx_w, ex_map_int, ex_nil_int, ex_cons_int, List.map_cons, List.map_nil, List.isEmpty_nil, List.isEmpty_cons, List.eraseIdx_zero, List.tail_cons, List.eraseIdx_cons_zero, HO.lst.injEq, HO.tup.injEq, HO.dK.injEq, HO.frz.injEq, ne_eq, gTupH, gCons, gNil, wipe, tYes, upd_upd, and_assoc, List.getElem?_map, Option.map_some, isn_non_bool, isn_non_int, isn_non_str, isn_non_tuple, isn_non_list, isn_non_dict, isn_bl_bool, isn_bl_int, isn_bl_str, isn_bl_tuple, isn_bl_list, isn_bl_dict, isn_int_bool, isn_int_int, isn_int_str, isn_int_tuple, isn_int_list, isn_int_dict, isn_str_bool, isn_str_int, isn_str_str, isn_str_tuple, isn_str_list, isn_str_dict, isn_lst_bool, isn_lst_int, isn_lst_str, isn_lst_tuple, isn_lst_list, isn_lst_dict, isn_tup_bool, isn_tup_int, isn_tup_str, isn_tup_tuple, isn_tup_list, isn_tup_dict, isn_dct_bool, isn_dct_int, isn_dct_str, isn_dct_tuple, isn_dct_list, isn_dct_dict, okn_bool, okn_int, okn_str, okn_tuple, okn_list, okn_dict, cIsi, tyT_n, tyT_b, tyT_i, tyT_s, tyT_r, V.ty.injEq, tSl, tPart, tNoPart, rSlF, gName, List.length_map, Int.reduceToNat, cpow18, Wd.s_inj, ws_num, ws_field, ws_add, ws_sub, ws_mul, ws_eq, ws_lt, ws_gt, ws_le, ws_ge, ws_and, ws_or, ws_not, rInTab, rIxTab, rCatH, rCat, rInT, cSortD, cMaxL, cMinL, rNeNilI, inV, flatV, List.any_cons, List.any_nil, List.all_cons, List.all_nil, eqV, Bool.and_true, Bool.and_false, Bool.true_and, Bool.false_and, Bool.or_false, Bool.false_or, Bool.or_true, Bool.true_or, Wd.beq_s, sz0, sz1, sz2, sz3, sz4, sz5, sz6, isc_eq, isc_lt, isc_gt, isc_le, isc_ge, isc_and, isc_or, isc_not, isl_and, isl_or, isl_not, rSetD, rUnion, rSortTx, rRep, R5.at_, RQ.at_]
        have e4 := (S.few.2 e he).1
        rw [List.length_map] at hi
        refine ⟨szl (by omega), fun p hp => ⟨ps ++ qs, ⟨?_, ?_, ?_⟩, by rw [List.length_append]; omega, (S2.trans S5).trans (same_new hp), (S2.trans S5).free hp⟩⟩
        · rw [upd_same, List.map_append]
        · intro e' he'
          rcases List.mem_append.mp he' with he' | he'
          · exact (R5.same (same_new hp)).tups e' he'
          · exact (RQ.same (same_new hp)).tups e' he'
        · intro e' he'
          rcases List.mem_append.mp he' with he' | he'
          · exact R.oks e' he'
          · exact RQ.oks e' he'

    · rintro σ H2 ⟨f, ps, x4, rfl, R, hlen, S2, hf⟩
      rw [List.length_map] at hlen
      simp only [tVar, tC, tOp, rI, rI0, rU, tTest, tB, tAnd, tOr, tNot, tAndV, tOrV, tNotV, tIf, tNil, tCons, tTup, tLst, tCB, tSeq, tAsg, gName, tRet, tRetN, tIfS, tNext, tDrop, tCall, tUn, tPar, CMul, CDiv, V.int.injEq, V.bl.injEq, V.ref.injEq, V.str.injEq, Option.some.injEq, List.cons.injEq, and_true, true_and, and_false, false_and, or_false, false_or, or_true, true_or, exists_eq_left', exists_eq_left, exists_and_left, exists_and_right, exists_eq', exists_eq, exists_false, exists_const, List.getElem?_cons_succ, List.getElem?_cons_zero, List.set_cons_succ, List.set_cons_zero, List.length_cons, List.length_nil, List.cons_append, List.nil_append, List.append_nil, reduceCtorEq, Int.reduceLT, Int.reduceLE, Int.reduceNeg, Int.reducePow, Int.reduceSub, Int.reduceAdd, Nat.reduceAdd, Nat.reduceLeDiff, Bool.not_true, Bool.not_false, decide_true, decide_false, Bool.false_eq_true, ↓reduceIte, upd_same, not_true_eq_false, not_false_eq_true, lsO_l, lsO_f, tpO_t, tpO_f, dkO_d, dkO_f, keyO_i, keyO_s, rIxH, rIxU, cLenL, cLenT, cListL, cListT, cTupL, cIntB, cAll, rEqNilI, rEq, rNe, scal_ii, scal_ss, scal_bb, scal_nn, scal_ni, scal_in, scal_ns, scal_sn, gSub, rSetL, ixs0, ixs1, ixs2, seq0, at0, at1, at2, at3, tBM, tBM0, rAppend, rPopAt, tyV_list, tGet2, tGetI, sPut, tMG, rTIdx, tyTup, tTupF, cx_K, cx_w, ex_map_int, ex_nil_int, ex_cons_int, List.map_cons, List.map_nil, List.isEmpty_nil, List.isEmpty_cons, List.eraseIdx_zero, List.tail_cons, List.eraseIdx_cons_zero, HO.lst.injEq, HO.tup.injEq, HO.dK.injEq, HO.frz.injEq, ne_eq, gTupH, gCons, gNil, wipe, tYes, upd_upd, and_assoc, List.getElem?_map, Option.map_some, isn_non_bool, isn_non_int, isn_non_str, isn_non_tuple, isn_non_list, isn_non_dict, isn_bl_bool, isn_bl_int, isn_bl_str, isn_bl_tuple, isn_bl_list, isn_bl_dict, isn_int_bool, isn_int_int, isn_int_str, isn_int_tuple, isn_int_list, isn_int_dict, isn_str_bool, isn_str_int, isn_str_str, isn_str_tuple, isn_str_list, isn_str_dict, isn_lst_bool, isn_lst_int, isn_lst_str, isn_lst_tuple, isn_lst_list, isn_lst_dict, isn_tup_bool, isn_tup_int, isn_tup_str, isn_tup_tuple, isn_tup_list, isn_tup_dict, isn_dct_bool, isn_dct_int, isn_dct_str, isn_dct_tuple, isn_dct_list, isn_dct_dict, okn_bool, okn_int, okn_str, okn_tuple, okn_list, okn_dict, cIsi, tyT_n, tyT_b, tyT_i, tyT_s, tyT_r, V.ty.injEq, tSl, tPart, tNoPart, rSlF, gName, List.length_map, Int.reduceToNat, cpow18, Wd.s_inj, ws_num, ws_field, ws_add, ws_sub, ws_mul, ws_eq, ws_lt, ws_gt, ws_le, ws_ge, ws_and, ws_or, ws_not, rInTab, rIxTab, rCatH, rCat, rInT, cSortD, cMaxL, cMinL, rNeNilI, inV, flatV, List.any_cons, List.any_nil, List.all_cons, List.all_nil, eqV, Bool.and_true, Bool.and_false, Bool.true_and, Bool.false_and, Bool.or_false, Bool.false_or, Bool.or_true, Bool.true_or, Wd.beq_s, sz0, sz1, sz2, sz3, sz4, sz5, sz6, isc_eq, isc_lt, isc_gt, isc_le, isc_ge, isc_and, isc_or, isc_not, isl_and, isl_or, isl_not, rSetD, rUnion, rSortTx, rRep]
      exact k _ ps _ R (by omega) hf S2
theorem _root_.G7.RF.pick {H : Hp} {a : Addr} {ps : List Fd} {j : Int} (R : RF H a ps) (h0 : 0 ≤ j) (h1 : j < (ps.length : Int)) : ∃ f ∈ ps, atI (ps.map fun e => V.ref e.1) j = some (.ref f.1) := by
  have hl : j.toNat < ps.length := by omega
  refine ⟨ps[j.toNat], List.getElem_mem hl, ?_⟩
  rw [atN h0, List.getElem?_map, List.getElem?_eq_getElem hl]
  rfl
theorem pm_at : ∀ r : Int, 0 ≤ r → r < 3 → ∃ o : Wd, o.isOp = true ∧ ∃ c, atI (Str.ofString "+-*").cps.toList r = some c ∧ (⟨#[c]⟩ : Str) = o.s := by
  intro r h0 h1
  have e : r = 0 ∨ r = 1 ∨ r = 2 := by omega
  rcases e with rfl | rfl | rfl
  · exact ⟨.add, rfl, _, rfl, rfl⟩
  · exact ⟨.sub, rfl, _, rfl, rfl⟩
  · exact ⟨.mul, rfl, _, rfl, rfl⟩
theorem l_term_step (T : Txt K mg w) (d : Nat) (sp0 : Sp) (G_l_term : FnOk P w K mg base CX0 (d + 2) T.f_l_term T.fd_l_term ["_law_h", "_law_fields", "_law_deep"] sp0) (h0 : ∀ e, d = e + 1 → sp0 = spTerm e) :
    FnOk P w K mg base CX0 (d + 3) T.f_l_term T.fd_l_term ["_law_h", "_law_fields", "_law_deep"] (spTerm d) := by
  have G_l_next : FnOk P w K mg base CX0 1 T.f_l_next T.fd_l_next ["_law_h", "_law_many"] spNext := ok_l_next T
  have G_l_number : FnOk P w K mg base CX0 2 T.f_l_number T.fd_l_number ["_law_h"] spNumber := ok_l_number T
  refine T.F_l_term.ok sc_l_term (fun vs H Q E h => ?_) (fun cdv A outer s H vs Q E hr h => ?_)
  · obtain ⟨h, l, fa, ps, rfl, _⟩ := h
    rfl
  · have hu64 := hu64_of hr
    obtain ⟨h, l, fa, ps, rfl, B, R, hps, nfa, k⟩ := h
    refine ⟨_, (pss_cons (ps_set (i := 3) sc_l_term.nd rfl (Or.inl rfl) (pe_call G_l_next (hr.mono (by show _ ≤ d + 2; omega)) rfl T.mg_l_next T.F_l_next.kp T.b_l_next .nil pass0 (pa_cons (pv 0) (pa_cons pe_int pa_nil))))
      (pss_cons (ps_if (PW.pt (pw_and (pt_cmpR op_lt (pv 3) pe_int (nomark _)) (pw_and1 (pt_cmpR op_gt (pv 2) pe_int (nomark _))))) (pss_one (ps_ret (pe_tup (pa_cons (pe_ix ix_str pe_str (pv 3) (fun _ _ => rfl)) (pa_cons (pe_call G_l_term (hr.mono (by show _ ≤ d + 2; omega)) rfl T.mg_l_term T.F_l_term.kp T.b_l_term .nil pass0 (pa_cons (pv 0) (pa_cons (pv 1) (pa_cons (pe_op op_sub (pv 2) pe_int) pa_nil)))) (pa_cons (pe_call G_l_term (hr.mono (by show _ ≤ d + 2; omega)) rfl T.mg_l_term T.F_l_term.kp T.b_l_term .nil pass0 (pa_cons (pv 0) (pa_cons (pv 1) (pa_cons (pe_op op_sub (pv 2) pe_int) pa_nil)))) pa_nil)))))) pss_nil)
      (pss_cons (ps_if (PW.pt (pw_or (pt_cmpR op_lt (pv 3) pe_int (nomark _)) (pw_or1 (pt_cmpR (op_eqDK K rfl hu64) (pv 1) (pe_lst pa_nil) (nomark _))))) (pss_one (ps_ret (pe_tup (pa_cons pe_str (pa_cons (pe_call G_l_number (hr.mono (by show _ ≤ d + 2; omega)) rfl T.mg_l_number T.F_l_number.kp T.b_l_number .nil pass0 (pa_cons (pv 0) pa_nil)) pa_nil))))) pss_nil)
      (pss_one (ps_ret (pe_op op_catH (pe_tup (pa_cons pe_str pa_nil)) (pe_ix ix_lst (pv 1) (pe_call G_l_next (hr.mono (by show _ ≤ d + 2; omega)) rfl T.mg_l_next T.F_l_next.kp T.b_l_next .nil pass0 (pa_cons (pv 0) (pa_cons (pe_callB len_lst (by rfl) T.n_len PySem.boot_len (pa_cons (pv 1) pa_nil)) pa_nil))) (fun _ _ => rfl)))))))), ?_⟩
    rw [show L2.start N_l_term [V.ref h, V.ref fa, V.int (d : Int)] = [some (V.ref h), some (V.ref fa), some (V.int (d : Int)), none] from rfl]
    simp only [tVar, tC, tOp, rI, rI0, rU, tTest, tB, tAnd, tOr, tNot, tAndV, tOrV, tNotV, tIf, tNil, tCons, tTup, tLst, tCB, tSeq, tAsg, gName, tRet, tRetN, tIfS, tNext, tDrop, tCall, tUn, tPar, CMul, CDiv, V.int.injEq, V.bl.injEq, V.ref.injEq, V.str.injEq, Option.some.injEq, List.cons.injEq, and_true, true_and, and_false, false_and, or_false, false_or, or_true, true_or, exists_eq_left', exists_eq_left, exists_and_left, exists_and_right, exists_eq', exists_eq, exists_false, exists_const, List.getElem?_cons_succ, List.getElem?_cons_zero, List.set_cons_succ, List.set_cons_zero, List.length_cons, List.length_nil, List.cons_append, List.nil_append, List.append_nil, reduceCtorEq, Int.reduceLT, Int.reduceLE, Int.reduceNeg, Int.reducePow, Int.reduceSub, Int.reduceAdd, Nat.reduceAdd, Nat.reduceLeDiff, Bool.not_true, Bool.not_false, decide_true, decide_false, Bool.false_eq_true, ↓reduceIte, upd_same, not_true_eq_false, not_false_eq_true, lsO_l, lsO_f, tpO_t, tpO_f, dkO_d, dkO_f, keyO_i, keyO_s, rIxH, rIxU, cLenL, cLenT, cListL, cListT, cTupL, cIntB, cAll, rEqNilI, rEq, rNe, scal_ii, scal_ss, scal_bb, scal_nn, scal_ni, scal_in, scal_ns, scal_sn, gSub, rSetL, ixs0, ixs1, ixs2, seq0, at0, at1, at2, at3, tBM, tBM0, rAppend, rPopAt, tyV_list, tGet2, tGetI, sPut, tMG, rTIdx, tyTup, tTupF, cx_K, cx_w, ex_map_int, ex_nil_int, ex_cons_int, List.map_cons, List.map_nil, List.isEmpty_nil, List.isEmpty_cons, List.eraseIdx_zero, List.tail_cons, List.eraseIdx_cons_zero, HO.lst.injEq, HO.tup.injEq, HO.dK.injEq, HO.frz.injEq, ne_eq, gTupH, gCons, gNil, wipe, tYes, upd_upd, and_assoc, List.getElem?_map, Option.map_some, isn_non_bool, isn_non_int, isn_non_str, isn_non_tuple, isn_non_list, isn_non_dict, isn_bl_bool, isn_bl_int, isn_bl_str, isn_bl_tuple, isn_bl_list, isn_bl_dict, isn_int_bool, isn_int_int, isn_int_str, isn_int_tuple, isn_int_list, isn_int_dict, isn_str_bool, isn_str_int, isn_str_str, isn_str_tuple, isn_str_list, isn_str_dict, isn_lst_bool, isn_lst_int, isn_lst_str, isn_lst_tuple, isn_lst_list, isn_lst_dict, isn_tup_bool, isn_tup_int, isn_tup_str, isn_tup_tuple, isn_tup_list, isn_tup_dict, isn_dct_bool, isn_dct_int, isn_dct_str, isn_dct_tuple, isn_dct_list, isn_dct_dict, okn_bool, okn_int, okn_str, okn_tuple, okn_list, okn_dict, cIsi, tyT_n, tyT_b, tyT_i, tyT_s, tyT_r, V.ty.injEq, tSl, tPart, tNoPart, rSlF, gName, List.length_map, Int.reduceToNat, cpow18, Wd.s_inj, ws_num, ws_field, ws_add, ws_sub, ws_mul, ws_eq, ws_lt, ws_gt, ws_le, ws_ge, ws_and, ws_or, ws_not, rInTab, rIxTab, rCatH, rCat, rInT, cSortD, cMaxL, cMinL, rNeNilI, inV, flatV, List.any_cons, List.any_nil, List.all_cons, List.all_nil, eqV, Bool.and_true, Bool.and_false, Bool.true_and, Bool.false_and, Bool.or_false, Bool.false_or, Bool.or_true, Bool.true_or, Wd.beq_s, sz0, sz1, sz2, sz3, sz4, sz5, sz6, isc_eq, isc_lt, isc_gt, isc_le, isc_ge, isc_and, isc_or, isc_not, isl_and, isl_or, isl_not, rSetD, rUnion, rSortTx, rRep]
    refine ⟨h, l, 8, rfl, B, by decide, by decide, fun r H1 r0 r1 B1 k1 => ?_⟩
    have R1 := R.keepB k1 B nfa
    simp only [tVar, tC, tOp, rI, rI0, rU, tTest, tB, tAnd, tOr, tNot, tAndV, tOrV, tNotV, tIf, tNil, tCons, tTup, tLst, tCB, tSeq, tAsg, gName, tRet, tRetN, tIfS, tNext, tDrop, tCall, tUn, tPar, CMul, CDiv, V.int.injEq, V.bl.injEq, V.ref.injEq, V.str.injEq, Option.some.injEq, List.cons.injEq, and_true, true_and, and_false, false_and, or_false, false_or, or_true, true_or, exists_eq_left', exists_eq_left, exists_and_left, exists_and_right, exists_eq', exists_eq, exists_false, exists_const, List.getElem?_cons_succ, List.getElem?_cons_zero, List.set_cons_succ, List.set_cons_zero, List.length_cons, List.length_nil, List.cons_append, List.nil_append, List.append_nil, reduceCtorEq, Int.reduceLT, Int.reduceLE, Int.reduceNeg, Int.reducePow, Int.reduceSub, Int.reduceAdd, Nat.reduceAdd, Nat.reduceLeDiff, Bool.not_true, Bool.not_false, decide_true, decide_false, Bool.false_eq_true, ↓reduceIte, upd_same, not_true_eq_false, not_false_eq_true, lsO_l, lsO_f, tpO_t, tpO_f, dkO_d, dkO_f, keyO_i, keyO_s, rIxH, rIxU, cLenL, cLenT, cListL, cListT, cTupL, cIntB, cAll, rEqNilI, rEq, rNe, scal_ii, scal_ss, scal_bb, scal_nn, scal_ni, scal_in, scal_ns, scal_sn, gSub, rSetL, ixs0, ixs1, ixs2, seq0, at0, at1, at2, at3, tBM, tBM0, rAppend, rPopAt, tyV_list, tGet2, tGetI, sPut, tMG, rTIdx, tyTup, tTupF, cx_K, cx_w, ex_map_int, ex_nil_int, ex_cons_int, List.map_cons, List.map_nil, List.isEmpty_nil, List.isEmpty_cons, List.eraseIdx_zero, List.tail_cons, List.eraseIdx_cons_zero, HO.lst.injEq, HO.tup.injEq, HO.dK.injEq, HO.frz.injEq, ne_eq, gTupH, gCons, gNil, wipe, tYes, upd_upd, and_assoc, List.getElem?_map, Option.map_some, isn_non_bool, isn_non_int, isn_non_str, isn_non_tuple, isn_non_list, isn_non_dict, isn_bl_bool, isn_bl_int, isn_bl_str, isn_bl_tuple, isn_bl_list, isn_bl_dict, isn_int_bool, isn_int_int, isn_int_str, isn_int_tuple, isn_int_list, isn_int_dict, isn_str_bool, isn_str_int, isn_str_str, isn_str_tuple, isn_str_list, isn_str_dict, isn_lst_bool, isn_lst_int, isn_lst_str, isn_lst_tuple, isn_lst_list, isn_lst_dict, isn_tup_bool, isn_tup_int, isn_tup_str, isn_tup_tuple, isn_tup_list, isn_tup_dict, isn_dct_bool, isn_dct_int, isn_dct_str, isn_dct_tuple, isn_dct_list, isn_dct_dict, okn_bool, okn_int, okn_str, okn_tuple, okn_list, okn_dict, cIsi, tyT_n, tyT_b, tyT_i, tyT_s, tyT_r, V.ty.injEq, tSl, tPart, tNoPart, rSlF, gName, List.length_map, Int.reduceToNat, cpow18, Wd.s_inj, ws_num, ws_field, ws_add, ws_sub, ws_mul, ws_eq, ws_lt, ws_gt, ws_le, ws_ge, ws_and, ws_or, ws_not, rInTab, rIxTab, rCatH, rCat, rInT, cSortD, cMaxL, cMinL, rNeNilI, inV, flatV, List.any_cons, List.any_nil, List.all_cons, List.all_nil, eqV, Bool.and_true, Bool.and_false, Bool.true_and, Bool.false_and, Bool.or_false, Bool.false_or, Bool.or_true, Bool.true_or, Wd.beq_s, sz0, sz1, sz2, sz3, sz4, sz5, sz6, isc_eq, isc_lt, isc_gt, isc_le, isc_ge, isc_and, isc_or, isc_not, isl_and, isl_or, isl_not, rSetD, rUnion, rSortTx, rRep]
    by_cases c : r < 3 ∧ 0 < (d : Int)
    · simp only [tVar, tC, tOp, rI, rI0, rU, tTest, tB, tAnd, tOr, tNot, tAndV, tOrV, tNotV, tIf, tNil, tCons, tTup, tLst, tCB, tSeq, tAsg, gName, tRet, tRetN, tIfS, tNext, tDrop, tCall, tUn, tPar, CMul, CDiv, V.int.injEq, V.bl.injEq, V.ref.injEq, V.str.injEq, Option.some.injEq, List.cons.injEq, and_true, true_and, and_false, false_and, or_false, false_or, or_true, true_or, exists_eq_left', exists_eq_left, exists_and_left, exists_and_right, exists_eq', exists_eq, exists_false, exists_const, List.getElem?_cons_succ, List.getElem?_cons_zero, List.set_cons_succ, List.set_cons_zero, List.length_cons, List.length_nil, List.cons_append, List.nil_append, List.append_nil, reduceCtorEq, Int.reduceLT, Int.reduceLE, Int.reduceNeg, Int.reducePow, Int.reduceSub, Int.reduceAdd, Nat.reduceAdd, Nat.reduceLeDiff, Bool.not_true, Bool.not_false, decide_true, decide_false, Bool.false_eq_true, ↓reduceIte, upd_same, not_true_eq_false, not_false_eq_true, lsO_l, lsO_f, tpO_t, tpO_f, dkO_d, dkO_f, keyO_i, keyO_s, rIxH, rIxU, cLenL, cLenT, cListL, cListT, cTupL, cIntB, cAll, rEqNilI, rEq, rNe, scal_ii, scal_ss, scal_bb, scal_nn, scal_ni, scal_in, scal_ns, scal_sn, gSub, rSetL, ixs0, ixs1, ixs2, seq0, at0, at1, at2, at3, tBM, tBM0, rAppend, rPopAt, tyV_list, tGet2, tGetI, sPut, tMG, rTIdx, tyTup, tTupF, cx_K, cx_w, ex_map_int, ex_nil_int, ex_cons_int, List.map_cons, List.map_nil, List.isEmpty_nil, List.isEmpty_cons, List.eraseIdx_zero, List.tail_cons, List.eraseIdx_cons_zero, HO.lst.injEq, HO.tup.injEq, HO.dK.injEq, HO.frz.injEq, ne_eq, gTupH, gCons, gNil, wipe, tYes, upd_upd, and_assoc, List.getElem?_map, Option.map_some, isn_non_bool, isn_non_int, isn_non_str, isn_non_tuple, isn_non_list, isn_non_dict, isn_bl_bool, isn_bl_int, isn_bl_str, isn_bl_tuple, isn_bl_list, isn_bl_dict, isn_int_bool, isn_int_int, isn_int_str, isn_int_tuple, isn_int_list, isn_int_dict, isn_str_bool, isn_str_int, isn_str_str, isn_str_tuple, isn_str_list, isn_str_dict, isn_lst_bool, isn_lst_int, isn_lst_str, isn_lst_tuple, isn_lst_list, isn_lst_dict, isn_tup_bool, isn_tup_int, isn_tup_str, isn_tup_tuple, isn_tup_list, isn_tup_dict, isn_dct_bool, isn_dct_int, isn_dct_str, isn_dct_tuple, isn_dct_list, isn_dct_dict, okn_bool, okn_int, okn_str, okn_tuple, okn_list, okn_dict, cIsi, tyT_n, tyT_b, tyT_i, tyT_s, tyT_r, V.ty.injEq, tSl, tPart, tNoPart, rSlF, gName, List.length_map, Int.reduceToNat, cpow18, Wd.s_inj, ws_num, ws_field, ws_add, ws_sub, ws_mul, ws_eq, ws_lt, ws_gt, ws_le, ws_ge, ws_and, ws_or, ws_not, rInTab, rIxTab, rCatH, rCat, rInT, cSortD, cMaxL, cMinL, rNeNilI, inV, flatV, List.any_cons, List.any_nil, List.all_cons, List.all_nil, eqV, Bool.and_true, Bool.and_false, Bool.true_and, Bool.false_and, Bool.or_false, Bool.false_or, Bool.or_true, Bool.true_or, Wd.beq_s, sz0, sz1, sz2, sz3, sz4, sz5, sz6, isc_eq, isc_lt, isc_gt, isc_le, isc_ge, isc_and, isc_or, isc_not, isl_and, isl_or, isl_not, rSetD, rUnion, rSortTx, rRep, c.1, c.2]
      obtain ⟨e, rfl⟩ : ∃ e, d = e + 1 := ⟨d - 1, by omega⟩
      cases h0 e rfl
      obtain ⟨o, ho, ch, hc1, hc2⟩ := pm_at r r0 c.1
      refine ⟨_, _, ch, rfl, rfl, szl (by decide +kernel), hc1, ?_⟩
      have ee : ((e + 1 : Nat) : Int) - 1 = e := by omega
      rw [hc2, ee]
      refine ⟨h, l, fa, ps, rfl, B1, R1, hps, nfa, fun v1 t1 H2 x1 o1 l1 d1 B2 k2 => ?_⟩
      refine ⟨h, l, fa, ps, rfl, B2, R1.keepB k2 B1 nfa, hps, nfa, fun v2 t2 H3 x2 o2 l2 d2 B3 k3 => ?_⟩
      simp only [tVar, tC, tOp, rI, rI0, rU, tTest, tB, tAnd, tOr, tNot, tAndV, tOrV, tNotV, tIf, tNil, tCons, tTup, tLst, tCB, tSeq, tAsg, gName, tRet, tRetN, tIfS, tNext, tDrop, tCall, tUn, tPar, CMul, CDiv, V.int.injEq, V.bl.injEq, V.ref.injEq, V.str.injEq, Option.some.injEq, List.cons.injEq, and_true, true_and, and_false, false_and, or_false, false_or, or_true, true_or, exists_eq_left', exists_eq_left, exists_and_left, exists_and_right, exists_eq', exists_eq, exists_false, exists_const, List.getElem?_cons_succ, List.getElem?_cons_zero, List.set_cons_succ, List.set_cons_zero, List.length_cons, List.length_nil, List.cons_append, List.nil_append, List.append_nil, reduceCtorEq, Int.reduceLT, Int.reduceLE, Int.reduceNeg, Int.reducePow, Int.reduceSub, Int.reduceAdd, Nat.reduceAdd, Nat.reduceLeDiff, Bool.not_true, Bool.not_false, decide_true, decide_false, Bool.false_eq_true, ↓reduceIte, upd_same, not_true_eq_false, not_false_eq_true, lsO_l, lsO_f, tpO_t, tpO_f, dkO_d, dkO_f, keyO_i, keyO_s, rIxH, rIxU, cLenL, cLenT, cListL, cListT, cTupL, cIntB, cAll, rEqNilI, rEq, rNe, scal_ii, scal_ss, scal_bb, scal_nn, scal_ni, scal_in, scal_ns, scal_sn, gSub, rSetL, ixs0, ixs1, ixs2, seq0, at0, at1, at2, at3, tBM, tBM0, rAppend, rPopAt, tyV_list, tGet2, tGetI, sPut, tMG, rTIdx, tyTup, tTupF, cx_K, cx_w, ex_map_int, ex_nil_int, ex_cons_int, List.map_cons, List.map_nil, List.isEmpty_nil, List.isEmpty_cons, List.eraseIdx_zero, List.tail_cons, List.eraseIdx_cons_zero, HO.lst.injEq, HO.tup.injEq, HO.dK.injEq, HO.frz.injEq, ne_eq, gTupH, gCons, gNil, wipe, tYes, upd_upd, and_assoc, List.getElem?_map, Option.map_some, isn_non_bool, isn_non_int, isn_non_str, isn_non_tuple, isn_non_list, isn_non_dict, isn_bl_bool, isn_bl_int, isn_bl_str, isn_bl_tuple, isn_bl_list, isn_bl_dict, isn_int_bool, isn_int_int, isn_int_str, isn_int_tuple, isn_int_list, isn_int_dict, isn_str_bool, isn_str_int, isn_str_str, isn_str_tuple, isn_str_list, isn_str_dict, isn_lst_bool, isn_lst_int, isn_lst_str, isn_lst_tuple, isn_lst_list, isn_lst_dict, isn_tup_bool, isn_tup_int, isn_tup_str, isn_tup_tuple, isn_tup_list, isn_tup_dict, isn_dct_bool, isn_dct_int, isn_dct_str, isn_dct_tuple, isn_dct_list, isn_dct_dict, okn_bool, okn_int, okn_str, okn_tuple, okn_list, okn_dict, cIsi, tyT_n, tyT_b, tyT_i, tyT_s, tyT_r, V.ty.injEq, tSl, tPart, tNoPart, rSlF, gName, List.length_map, Int.reduceToNat, cpow18, Wd.s_inj, ws_num, ws_field, ws_add, ws_sub, ws_mul, ws_eq, ws_lt, ws_gt, ws_le, ws_ge, ws_and, ws_or, ws_not, rInTab, rIxTab, rCatH, rCat, rInT, cSortD, cMaxL, cMinL, rNeNilI, inV, flatV, List.any_cons, List.any_nil, List.all_cons, List.all_nil, eqV, Bool.and_true, Bool.and_false, Bool.true_and, Bool.false_and, Bool.or_false, Bool.false_or, Bool.or_true, Bool.true_or, Wd.beq_s, sz0, sz1, sz2, sz3, sz4, sz5, sz6, isc_eq, isc_lt, isc_gt, isc_le, isc_ge, isc_and, isc_or, isc_not, isl_and, isl_or, isl_not, rSetD, rUnion, rSortTx, rRep]
      intro p hp
      have s3 := same_new (o := .tup [.str o.s, v1, v2]) hp
      refine k _ (.op o t1 t2) _ ⟨p, v1, v2, rfl, upd_same, (x1.tups (B2.tups k3)).tups (TupS.ofSame s3), x2.tups (TupS.ofSame s3)⟩ ?_ ⟨l1, l2⟩ ?_ (B3.same s3) (((k1.trans k2).trans k3).thenNew hp)
      · simp only [Tm.ok, ho, o1, o2, Bool.and_true]
      · simp only [Tm.deep]; omega
    · have num : ∀ H2, BoxB H2 h l → Keep [h, l] H H2 → spNumber [V.ref h] H2 (fun x H1 => ∀ (p : Addr), H1 p = none → Q (V.ref p) (upd H1 p (HO.tup [V.str Wd.num.s, x]))) E0 := fun H2 B2 k2 =>
        ⟨h, l, rfl, B2, fun z H3 z0 z1 B3 k3 p hp => k _ (.num z) _ ⟨p, rfl, upd_same⟩ rfl ⟨z0, z1⟩ (by simp [Tm.deep]) (B3.same (same_new hp)) ((k2.trans k3).thenNew hp)⟩
      have c' : ¬ r < 3 ∨ ¬ 0 < (d : Int) := by omega
      rcases c' with c | c
      all_goals
        simp only [tVar, tC, tOp, rI, rI0, rU, tTest, tB, tAnd, tOr, tNot, tAndV, tOrV, tNotV, tIf, tNil, tCons, tTup, tLst, tCB, tSeq, tAsg, gName, tRet, tRetN, tIfS, tNext, tDrop, tCall, tUn, tPar, CMul, CDiv, V.int.injEq, V.bl.injEq, V.ref.injEq, V.str.injEq, Option.some.injEq, List.cons.injEq, and_true, true_and, and_false, false_and, or_false, false_or, or_true, true_or, exists_eq_left', exists_eq_left, exists_and_left, exists_and_right, exists_eq', exists_eq, exists_false, exists_const, List.getElem?_cons_succ, List.getElem?_cons_zero, List.set_cons_succ, List.set_cons_zero, List.length_cons, List.length_nil, List.cons_append, List.nil_append, List.append_nil, reduceCtorEq, Int.reduceLT, Int.reduceLE, Int.reduceNeg, Int.reducePow, Int.reduceSub, Int.reduceAdd, Nat.reduceAdd, Nat.reduceLeDiff, Bool.not_true, Bool.not_false, decide_true, decide_false, Bool.false_eq_true, ↓reduceIte, upd_same, not_true_eq_false, not_false_eq_true, lsO_l, lsO_f, tpO_t, tpO_f, dkO_d, dkO_f, keyO_i, keyO_s, rIxH, rIxU, cLenL, cLenT, cListL, cListT, cTupL, cIntB, cAll, rEqNilI, rEq, rNe, scal_ii, scal_ss, scal_bb, scal_nn, scal_ni, scal_in, scal_ns, scal_sn, gSub, rSetL, ixs0, ixs1, ixs2, seq0, at0, at1, at2, at3, tBM, tBM0, rAppend, rPopAt, tyV_list, tGet2, tGetI, sPut, tMG, rTIdx, tyTup, tTupF, cx_K, cx_w, ex_map_int, ex_nil_int, ex_cons_int, List.map_cons, List.map_nil, List.isEmpty_nil, List.isEmpty_cons, List.eraseIdx_zero, List.tail_cons, List.eraseIdx_cons_zero, HO.lst.injEq, HO.tup.injEq, HO.dK.injEq, HO.frz.injEq, ne_eq, gTupH, gCons, gNil, wipe, tYes, upd_upd, and_assoc, List.getElem?_map, Option.map_some, isn_non_bool, isn_non_int, isn_non_str, isn_non_tuple, isn_non_list, isn_non_dict, isn_bl_bool, isn_bl_int, isn_bl_str, isn_bl_tuple, isn_bl_list, isn_bl_dict, isn_int_bool, isn_int_int, isn_int_str, isn_int_tuple, isn_int_list, isn_int_dict, isn_str_bool, isn_str_int, isn_str_str, isn_str_tuple, isn_str_list, isn_str_dict, isn_lst_bool, isn_lst_int, isn_lst_str, isn_lst_tuple, isn_lst_list, isn_lst_dict, isn_tup_bool, isn_tup_int, isn_tup_str, isn_tup_tuple, isn_tup_list, isn_tup_dict, isn_dct_bool, isn_dct_int, isn_dct_str, isn_dct_tuple, isn_dct_list, isn_dct_dict, okn_bool, okn_int, okn_str, okn_tuple, okn_list, okn_dict, cIsi, tyT_n, tyT_b, tyT_i, tyT_s, tyT_r, V.ty.injEq, tSl, tPart, tNoPart, rSlF, gName, List.length_map, Int.reduceToNat, cpow18, Wd.s_inj, ws_num, ws_field, ws_add, ws_sub, ws_mul, ws_eq, ws_lt, ws_gt, ws_le, ws_ge, ws_and, ws_or, ws_not, rInTab, rIxTab, rCatH, rCat, rInT, cSortD, cMaxL, cMinL, rNeNilI, inV, flatV, List.any_cons, List.any_nil, List.all_cons, List.all_nil, eqV, Bool.and_true, Bool.and_false, Bool.true_and, Bool.false_and, Bool.or_false, Bool.false_or, Bool.or_true, Bool.true_or, Wd.beq_s, sz0, sz1, sz2, sz3, sz4, sz5, sz6, isc_eq, isc_lt, isc_gt, isc_le, isc_ge, isc_and, isc_or, isc_not, isl_and, isl_or, isl_not, rSetD, rUnion, rSortTx, rRep, c, ite_self]
        by_cases c5 : r < 5
        · simp only [tVar, tC, tOp, rI, rI0, rU, tTest, tB, tAnd, tOr, tNot, tAndV, tOrV, tNotV, tIf, tNil, tCons, tTup, tLst, tCB, tSeq, tAsg, gName, tRet, tRetN, tIfS, tNext, tDrop, tCall, tUn, tPar, CMul, CDiv, V.int.injEq, V.bl.injEq, V.ref.injEq, V.str.injEq, Option.some.injEq, List.cons.injEq, and_true, true_and, and_false, false_and, or_false, false_or, or_true, true_or, exists_eq_left', exists_eq_left, exists_and_left, exists_and_right, exists_eq', exists_eq, exists_false, exists_const, List.getElem?_cons_succ, List.getElem?_cons_zero, List.set_cons_succ, List.set_cons_zero, List.length_cons, List.length_nil, List.cons_append, List.nil_append, List.append_nil, reduceCtorEq, Int.reduceLT, Int.reduceLE, Int.reduceNeg, Int.reducePow, Int.reduceSub, Int.reduceAdd, Nat.reduceAdd, Nat.reduceLeDiff, Bool.not_true, Bool.not_false, decide_true, decide_false, Bool.false_eq_true, ↓reduceIte, upd_same, not_true_eq_false, not_false_eq_true, lsO_l, lsO_f, tpO_t, tpO_f, dkO_d, dkO_f, keyO_i, keyO_s, rIxH, rIxU, cLenL, cLenT, cListL, cListT, cTupL, cIntB, cAll, rEqNilI, rEq, rNe, scal_ii, scal_ss, scal_bb, scal_nn, scal_ni, scal_in, scal_ns, scal_sn, gSub, rSetL, ixs0, ixs1, ixs2, seq0, at0, at1, at2, at3, tBM, tBM0, rAppend, rPopAt, tyV_list, tGet2, tGetI, sPut, tMG, rTIdx, tyTup, tTupF, cx_K, cx_w, ex_map_int, ex_nil_int, ex_cons_int, List.map_cons, List.map_nil, List.isEmpty_nil, List.isEmpty_cons, List.eraseIdx_zero, List.tail_cons, List.eraseIdx_cons_zero, HO.lst.injEq, HO.tup.injEq, HO.dK.injEq, HO.frz.injEq, ne_eq, gTupH, gCons, gNil, wipe, tYes, upd_upd, and_assoc, List.getElem?_map, Option.map_some, isn_non_bool, isn_non_int, isn_non_str, isn_non_tuple, isn_non_list, isn_non_dict, isn_bl_bool, isn_bl_int, isn_bl_str, isn_bl_tuple, isn_bl_list, isn_bl_dict, isn_int_bool, isn_int_int, isn_int_str, isn_int_tuple, isn_int_list, isn_int_dict, isn_str_bool, isn_str_int, isn_str_str, isn_str_tuple, isn_str_list, isn_str_dict, isn_lst_bool, isn_lst_int, isn_lst_str, isn_lst_tuple, isn_lst_list, isn_lst_dict, isn_tup_bool, isn_tup_int, isn_tup_str, isn_tup_tuple, isn_tup_list, isn_tup_dict, isn_dct_bool, isn_dct_int, isn_dct_str, isn_dct_tuple, isn_dct_list, isn_dct_dict, okn_bool, okn_int, okn_str, okn_tuple, okn_list, okn_dict, cIsi, tyT_n, tyT_b, tyT_i, tyT_s, tyT_r, V.ty.injEq, tSl, tPart, tNoPart, rSlF, gName, List.length_map, Int.reduceToNat, cpow18, Wd.s_inj, ws_num, ws_field, ws_add, ws_sub, ws_mul, ws_eq, ws_lt, ws_gt, ws_le, ws_ge, ws_and, ws_or, ws_not, rInTab, rIxTab, rCatH, rCat, rInT, cSortD, cMaxL, cMinL, rNeNilI, inV, flatV, List.any_cons, List.any_nil, List.all_cons, List.all_nil, eqV, Bool.and_true, Bool.and_false, Bool.true_and, Bool.false_and, Bool.or_false, Bool.false_or, Bool.or_true, Bool.true_or, Wd.beq_s, sz0, sz1, sz2, sz3, sz4, sz5, sz6, isc_eq, isc_lt, isc_gt, isc_le, isc_ge, isc_and, isc_or, isc_not, isl_and, isl_or, isl_not, rSetD, rUnion, rSortTx, rRep, c5]
          exact num _ B1 k1
        · simp only [tVar, tC, tOp, rI, rI0, rU, tTest, tB, tAnd, tOr, tNot, tAndV, tOrV, tNotV, tIf, tNil, tCons, tTup, tLst, tCB, tSeq, tAsg, gName, tRet, tRetN, tIfS, tNext, tDrop, tCall, tUn, tPar, CMul, CDiv, V.int.injEq, V.bl.injEq, V.ref.injEq, V.str.injEq, Option.some.injEq, List.cons.injEq, and_true, true_and, and_false, false_and, or_false, false_or, or_true, true_or, exists_eq_left', exists_eq_left, exists_and_left, exists_and_right, exists_eq', exists_eq, exists_false, exists_const, List.getElem?_cons_succ, List.getElem?_cons_zero, List.set_cons_succ, List.set_cons_zero, List.length_cons, List.length_nil, List.cons_append, List.nil_append, List.append_nil, reduceCtorEq, Int.reduceLT, Int.reduceLE, Int.reduceNeg, Int.reducePow, Int.reduceSub, Int.reduceAdd, Nat.reduceAdd, Nat.reduceLeDiff, Bool.not_true, Bool.not_false, decide_true, decide_false, Bool.false_eq_true, ↓reduceIte, upd_same, not_true_eq_false, not_false_eq_true, lsO_l, lsO_f, tpO_t, tpO_f, dkO_d, dkO_f, keyO_i, keyO_s, rIxH, rIxU, cLenL, cLenT, cListL, cListT, cTupL, cIntB, cAll, rEqNilI, rEq, rNe, scal_ii, scal_ss, scal_bb, scal_nn, scal_ni, scal_in, scal_ns, scal_sn, gSub, rSetL, ixs0, ixs1, ixs2, seq0, at0, at1, at2, at3, tBM, tBM0, rAppend, rPopAt, tyV_list, tGet2, tGetI, sPut, tMG, rTIdx, tyTup, tTupF, cx_K, cx_w, ex_map_int, ex_nil_int, ex_cons_int, List.map_cons, List.map_nil, List.isEmpty_nil, List.isEmpty_cons, List.eraseIdx_zero, List.tail_cons, List.eraseIdx_cons_zero, HO.lst.injEq, HO.tup.injEq, HO.dK.injEq, HO.frz.injEq, ne_eq, gTupH, gCons, gNil, wipe, tYes, upd_upd, and_assoc, List.getElem?_map, Option.map_some, isn_non_bool, isn_non_int, isn_non_str, isn_non_tuple, isn_non_list, isn_non_dict, isn_bl_bool, isn_bl_int, isn_bl_str, isn_bl_tuple, isn_bl_list, isn_bl_dict, isn_int_bool, isn_int_int, isn_int_str, isn_int_tuple, isn_int_list, isn_int_dict, isn_str_bool, isn_str_int, isn_str_str, isn_str_tuple, isn_str_list, isn_str_dict, isn_lst_bool, isn_lst_int, isn_lst_str, isn_lst_tuple, isn_lst_list, isn_lst_dict, isn_tup_bool, isn_tup_int, isn_tup_str, isn_tup_tuple, isn_tup_list, isn_tup_dict, isn_dct_bool, isn_dct_int, isn_dct_str, isn_dct_tuple, isn_dct_list, isn_dct_dict, okn_bool, okn_int, okn_str, okn_tuple, okn_list, okn_dict, cIsi, tyT_n, tyT_b, tyT_i, tyT_s, tyT_r, V.ty.injEq, tSl, tPart, tNoPart, rSlF, gName, List.length_map, Int.reduceToNat, cpow18, Wd.s_inj, ws_num, ws_field, ws_add, ws_sub, ws_mul, ws_eq, ws_lt, ws_gt, ws_le, ws_ge, ws_and, ws_or, ws_not, rInTab, rIxTab, rCatH, rCat, rInT, cSortD, cMaxL, cMinL, rNeNilI, inV, flatV, List.any_cons, List.any_nil, List.all_cons, List.all_nil, eqV, Bool.and_true, Bool.and_false, Bool.true_and, Bool.false_and, Bool.or_false, Bool.false_or, Bool.or_true, Bool.true_or, Wd.beq_s, sz0, sz1, sz2, sz3, sz4, sz5, sz6, isc_eq, isc_lt, isc_gt, isc_le, isc_ge, isc_and, isc_or, isc_not, isl_and, isl_or, isl_not, rSetD, rUnion, rSortTx, rRep, c5]
          intro p hp
          have R2 := R1.same (same_new (o := .lst []) hp)
          have B2 := B1.same (same_new (o := .lst []) hp)
          have k2 : Keep [h, l] H (upd H1 p (.lst [])) := k1.thenNew hp
          refine R2.eqNil upd_same ?_
          cases hps0 : ps.isEmpty with
          | true =>
            simp only [tVar, tC, tOp, rI, rI0, rU, tTest, tB, tAnd, tOr, tNot, tAndV, tOrV, tNotV, tIf, tNil, tCons, tTup, tLst, tCB, tSeq, tAsg, gName, tRet, tRetN, tIfS, tNext, tDrop, tCall, tUn, tPar, CMul, CDiv, V.int.injEq, V.bl.injEq, V.ref.injEq, V.str.injEq, Option.some.injEq, List.cons.injEq, and_true, true_and, and_false, false_and, or_false, false_or, or_true, true_or, exists_eq_left', exists_eq_left, exists_and_left, exists_and_right, exists_eq', exists_eq, exists_false, exists_const, List.getElem?_cons_succ, List.getElem?_cons_zero, List.set_cons_succ, List.set_cons_zero, List.length_cons, List.length_nil, List.cons_append, List.nil_append, List.append_nil, reduceCtorEq, Int.reduceLT, Int.reduceLE, Int.reduceNeg, Int.reducePow, Int.reduceSub, Int.reduceAdd, Nat.reduceAdd, Nat.reduceLeDiff, Bool.not_true, Bool.not_false, decide_true, decide_false, Bool.false_eq_true, ↓reduceIte, upd_same, not_true_eq_false, not_false_eq_true, lsO_l, lsO_f, tpO_t, tpO_f, dkO_d, dkO_f, keyO_i, keyO_s, rIxH, rIxU, cLenL, cLenT, cListL, cListT, cTupL, cIntB, cAll, rEqNilI, rEq, rNe, scal_ii, scal_ss, scal_bb, scal_nn, scal_ni, scal_in, scal_ns, scal_sn, gSub, rSetL, ixs0, ixs1, ixs2, seq0, at0, at1, at2, at3, tBM, tBM0, rAppend, rPopAt, tyV_list, tGet2, tGetI, sPut, tMG, rTIdx, tyTup, tTupF, cx_K, cx_w, ex_map_int, ex_nil_int, ex_cons_int, List.map_cons, List.map_nil, List.isEmpty_nil, List.isEmpty_cons, List.eraseIdx_zero, List.tail_cons, List.eraseIdx_cons_zero, HO.lst.injEq, HO.tup.injEq, HO.dK.injEq, HO.frz.injEq, ne_eq, gTupH, gCons, gNil, wipe, tYes, upd_upd, and_assoc, List.getElem?_map, Option.map_some, isn_non_bool, isn_non_int, isn_non_str, isn_non_tuple, isn_non_list, isn_non_dict, isn_bl_bool, isn_bl_int, isn_bl_str, isn_bl_tuple, isn_bl_list, isn_bl_dict, isn_int_bool, isn_int_int, isn_int_str, isn_int_tuple, isn_int_list, isn_int_dict, isn_str_bool, isn_str_int, isn_str_str, isn_str_tuple, isn_str_list, isn_str_dict, isn_lst_bool, isn_lst_int, isn_lst_str, isn_lst_tuple, isn_lst_list, isn_lst_dict, isn_tup_bool, isn_tup_int, isn_tup_str, isn_tup_tuple, isn_tup_list, isn_tup_dict, isn_dct_bool, isn_dct_int, isn_dct_str, isn_dct_tuple, isn_dct_list, isn_dct_dict, okn_bool, okn_int, okn_str, okn_tuple, okn_list, okn_dict, cIsi, tyT_n, tyT_b, tyT_i, tyT_s, tyT_r, V.ty.injEq, tSl, tPart, tNoPart, rSlF, gName, List.length_map, Int.reduceToNat, cpow18, Wd.s_inj, ws_num, ws_field, ws_add, ws_sub, ws_mul, ws_eq, ws_lt, ws_gt, ws_le, ws_ge, ws_and, ws_or, ws_not, rInTab, rIxTab, rCatH, rCat, rInT, cSortD, cMaxL, cMinL, rNeNilI, inV, flatV, List.any_cons, List.any_nil, List.all_cons, List.all_nil, eqV, Bool.and_true, Bool.and_false, Bool.true_and, Bool.false_and, Bool.or_false, Bool.false_or, Bool.or_true, Bool.true_or, Wd.beq_s, sz0, sz1, sz2, sz3, sz4, sz5, sz6, isc_eq, isc_lt, isc_gt, isc_le, isc_ge, isc_and, isc_or, isc_not, isl_and, isl_or, isl_not, rSetD, rUnion, rSortTx, rRep]
            exact num _ B2 k2
          | false =>
            simp only [tVar, tC, tOp, rI, rI0, rU, tTest, tB, tAnd, tOr, tNot, tAndV, tOrV, tNotV, tIf, tNil, tCons, tTup, tLst, tCB, tSeq, tAsg, gName, tRet, tRetN, tIfS, tNext, tDrop, tCall, tUn, tPar, CMul, CDiv, V.int.injEq, V.bl.injEq, V.ref.injEq, V.str.injEq, Option.some.injEq, List.cons.injEq, and_true, true_and, and_false, false_and, or_false, false_or, or_true, true_or, exists_eq_left', exists_eq_left, exists_and_left, exists_and_right, exists_eq', exists_eq, exists_false, exists_const, List.getElem?_cons_succ, List.getElem?_cons_zero, List.set_cons_succ, List.set_cons_zero, List.length_cons, List.length_nil, List.cons_append, List.nil_append, List.append_nil, reduceCtorEq, Int.reduceLT, Int.reduceLE, Int.reduceNeg, Int.reducePow, Int.reduceSub, Int.reduceAdd, Nat.reduceAdd, Nat.reduceLeDiff, Bool.not_true, Bool.not_false, decide_true, decide_false, Bool.false_eq_true, ↓reduceIte, upd_same, not_true_eq_false, not_false_eq_true, lsO_l, lsO_f, tpO_t, tpO_f, dkO_d, dkO_f, keyO_i, keyO_s, rIxH, rIxU, cLenL, cLenT, cListL, cListT, cTupL, cIntB, cAll, rEqNilI, rEq, rNe, scal_ii, scal_ss, scal_bb, scal_nn, scal_ni, scal_in, scal_ns, scal_sn, gSub, rSetL, ixs0, ixs1, ixs2, seq0, at0, at1, at2, at3, tBM, tBM0, rAppend, rPopAt, tyV_list, tGet2, tGetI, sPut, tMG, rTIdx, tyTup, tTupF, cx_K, cx_w, ex_map_int, ex_nil_int, ex_cons_int, List.map_cons, List.map_nil, List.isEmpty_nil, List.isEmpty_cons, List.eraseIdx_zero, List.tail_cons, List.eraseIdx_cons_zero, HO.lst.injEq, HO.tup.injEq, HO.dK.injEq, HO.frz.injEq, ne_eq, gTupH, gCons, gNil, wipe, tYes, upd_upd, and_assoc, List.getElem?_map, Option.map_some, isn_non_bool, isn_non_int, isn_non_str, isn_non_tuple, isn_non_list, isn_non_dict, isn_bl_bool, isn_bl_int, isn_bl_str, isn_bl_tuple, isn_bl_list, isn_bl_dict, isn_int_bool, isn_int_int, isn_int_str, isn_int_tuple, isn_int_list, isn_int_dict, isn_str_bool, isn_str_int, isn_str_str, isn_str_tuple, isn_str_list, isn_str_dict, isn_lst_bool, isn_lst_int, isn_lst_str, isn_lst_tuple, isn_lst_list, isn_lst_dict, isn_tup_bool, isn_tup_int, isn_tup_str, isn_tup_tuple, isn_tup_list, isn_tup_dict, isn_dct_bool, isn_dct_int, isn_dct_str, isn_dct_tuple, isn_dct_list, isn_dct_dict, okn_bool, okn_int, okn_str, okn_tuple, okn_list, okn_dict, cIsi, tyT_n, tyT_b, tyT_i, tyT_s, tyT_r, V.ty.injEq, tSl, tPart, tNoPart, rSlF, gName, List.length_map, Int.reduceToNat, cpow18, Wd.s_inj, ws_num, ws_field, ws_add, ws_sub, ws_mul, ws_eq, ws_lt, ws_gt, ws_le, ws_ge, ws_and, ws_or, ws_not, rInTab, rIxTab, rCatH, rCat, rInT, cSortD, cMaxL, cMinL, rNeNilI, inV, flatV, List.any_cons, List.any_nil, List.all_cons, List.all_nil, eqV, Bool.and_true, Bool.and_false, Bool.true_and, Bool.false_and, Bool.or_false, Bool.false_or, Bool.or_true, Bool.true_or, Wd.beq_s, sz0, sz1, sz2, sz3, sz4, sz5, sz6, isc_eq, isc_lt, isc_gt, isc_le, isc_ge, isc_and, isc_or, isc_not, isl_and, isl_or, isl_not, rSetD, rUnion, rSortTx, rRep]
            have pos : 0 < ps.length := by
              cases ps with
              | nil => cases hps0
              | cons _ _ => simp
            intro q hq
            have R3 := R2.same (same_new (o := .tup [V.str Wd.field.s]) hq)
            have B3 := B2.same (same_new (o := .tup [V.str Wd.field.s]) hq)
            have e3 := R3.at_
            simp only [tVar, tC, tOp, rI, rI0, rU, tTest, tB, tAnd, tOr, tNot, tAndV, tOrV, tNotV, tIf, tNil, tCons, tTup, tLst, tCB, tSeq, tAsg, gName, tRet, tRetN, tIfS, tNext, tDrop, tCall, tUn, tPar, CMul, CDiv, V.int.injEq, V.bl.injEq, V.ref.injEq, V.str.injEq, Option.some.injEq, List.cons.injEq, and_true, true_and, and_false, false_and, or_false, false_or, or_true, true_or, exists_eq_left', exists_eq_left, exists_and_left, exists_and_right, exists_eq', exists_eq, exists_false, exists_const, List.getElem?_cons_succ, List.getElem?_cons_zero, List.set_cons_succ, List.set_cons_zero, List.length_cons, List.length_nil, List.cons_append, List.nil_append, List.append_nil, reduceCtorEq, Int.reduceLT, Int.reduceLE, Int.reduceNeg, Int.reducePow, Int.reduceSub, Int.reduceAdd, Nat.reduceAdd, Nat.reduceLeDiff, Bool.not_true, Bool.not_false, decide_true, decide_false, Bool.false_eq_true, ↓reduceIte, upd_same, not_true_eq_false, not_false_eq_true, lsO_l, lsO_f, tpO_t, tpO_f, dkO_d, dkO_f, keyO_i, keyO_s, rIxH, rIxU, cLenL, cLenT, cListL, cListT, cTupL, cIntB, cAll, rEqNilI, rEq, rNe, scal_ii, scal_ss, scal_bb, scal_nn, scal_ni, scal_in, scal_ns, scal_sn, gSub, rSetL, ixs0, ixs1, ixs2, seq0, at0, at1, at2, at3, tBM, tBM0, rAppend, rPopAt, tyV_list, tGet2, tGetI, sPut, tMG, rTIdx, tyTup, tTupF, cx_K, cx_w, ex_map_int, ex_nil_int, ex_cons_int, List.map_cons, List.map_nil, List.isEmpty_nil, List.isEmpty_cons, List.eraseIdx_zero, List.tail_cons, List.eraseIdx_cons_zero, HO.lst.injEq, HO.tup.injEq, HO.dK.injEq, HO.frz.injEq, ne_eq, gTupH, gCons, gNil, wipe, tYes, upd_upd, and_assoc, List.getElem?_map, Option.map_some, isn_non_bool, isn_non_int, isn_non_str, isn_non_tuple, isn_non_list, isn_non_dict, isn_bl_bool, isn_bl_int, isn_bl_str, isn_bl_tuple, isn_bl_list, isn_bl_dict, isn_int_bool, isn_int_int, isn_int_str, isn_int_tuple, isn_int_list, isn_int_dict, isn_str_bool, isn_str_int, isn_str_str, isn_str_tuple, isn_str_list, isn_str_dict, isn_lst_bool, isn_lst_int, isn_lst_str, isn_lst_tuple, isn_lst_list, isn_lst_dict, isn_tup_bool, isn_tup_int, isn_tup_str, isn_tup_tuple, isn_tup_list, isn_tup_dict, isn_dct_bool, isn_dct_int, isn_dct_str, isn_dct_tuple, isn_dct_list, isn_dct_dict, okn_bool, okn_int, okn_str, okn_tuple, okn_list, okn_dict, cIsi, tyT_n, tyT_b, tyT_i, tyT_s, tyT_r, V.ty.injEq, tSl, tPart, tNoPart, rSlF, gName, List.length_map, Int.reduceToNat, cpow18, Wd.s_inj, ws_num, ws_field, ws_add, ws_sub, ws_mul, ws_eq, ws_lt, ws_gt, ws_le, ws_ge, ws_and, ws_or, ws_not, rInTab, rIxTab, rCatH, rCat, rInT, cSortD, cMaxL, cMinL, rNeNilI, inV, flatV, List.any_cons, List.any_nil, List.all_cons, List.all_nil, eqV, Bool.and_true, Bool.and_false, Bool.true_and, Bool.false_and, Bool.or_false, Bool.false_or, Bool.or_true, Bool.true_or, Wd.beq_s, sz0, sz1, sz2, sz3, sz4, sz5, sz6, isc_eq, isc_lt, isc_gt, isc_le, isc_ge, isc_and, isc_or, isc_not, isl_and, isl_or, isl_not, rSetD, rUnion, rSortTx, rRep, e3]
            refine ⟨h, l, _, rfl, B3, by omega, by omega, fun j H4 j0 j1 B4 k4 => ?_⟩
            have R4 := R3.keepB k4 B3 nfa
            have e4 := R4.at_
            have q4 := k4 _ _ (B2.free hq) upd_same
            obtain ⟨f, hf, hat⟩ := R4.pick j0 j1
            have t4 := R4.tups f hf
            simp only [tVar, tC, tOp, rI, rI0, rU, tTest, tB, tAnd, tOr, tNot, tAndV, tOrV, tNotV, tIf, tNil, tCons, tTup, tLst, tCB, tSeq, tAsg, gName, tRet, tRetN, tIfS, tNext, tDrop, tCall, tUn, tPar, CMul, CDiv, V.int.injEq, V.bl.injEq, V.ref.injEq, V.str.injEq, Option.some.injEq, List.cons.injEq, and_true, true_and, and_false, false_and, or_false, false_or, or_true, true_or, exists_eq_left', exists_eq_left, exists_and_left, exists_and_right, exists_eq', exists_eq, exists_false, exists_const, List.getElem?_cons_succ, List.getElem?_cons_zero, List.set_cons_succ, List.set_cons_zero, List.length_cons, List.length_nil, List.cons_append, List.nil_append, List.append_nil, reduceCtorEq, Int.reduceLT, Int.reduceLE, Int.reduceNeg, Int.reducePow, Int.reduceSub, Int.reduceAdd, Nat.reduceAdd, Nat.reduceLeDiff, Bool.not_true, Bool.not_false, decide_true, decide_false, Bool.false_eq_true, ↓reduceIte, upd_same, not_true_eq_false, not_false_eq_true, lsO_l, lsO_f, tpO_t, tpO_f, dkO_d, dkO_f, keyO_i, keyO_s, rIxH, rIxU, cLenL, cLenT, cListL, cListT, cTupL, cIntB, cAll, rEqNilI, rEq, rNe, scal_ii, scal_ss, scal_bb, scal_nn, scal_ni, scal_in, scal_ns, scal_sn, gSub, rSetL, ixs0, ixs1, ixs2, seq0, at0, at1, at2, at3, tBM, tBM0, rAppend, rPopAt, tyV_list, tGet2, tGetI, sPut, tMG, rTIdx, tyTup, tTupF, cx_K, cx_w, ex_map_int, ex_nil_int, ex_cons_int, List.map_cons, List.map_nil, List.isEmpty_nil, List.isEmpty_cons, List.eraseIdx_zero, List.tail_cons, List.eraseIdx_cons_zero, HO.lst.injEq, HO.tup.injEq, HO.dK.injEq, HO.frz.injEq, ne_eq, gTupH, gCons, gNil, wipe, tYes, upd_upd, and_assoc, List.getElem?_map, Option.map_some, isn_non_bool, isn_non_int, isn_non_str, isn_non_tuple, isn_non_list, isn_non_dict, isn_bl_bool, isn_bl_int, isn_bl_str, isn_bl_tuple, isn_bl_list, isn_bl_dict, isn_int_bool, isn_int_int, isn_int_str, isn_int_tuple, isn_int_list, isn_int_dict, isn_str_bool, isn_str_int, isn_str_str, isn_str_tuple, isn_str_list, isn_str_dict, isn_lst_bool, isn_lst_int, isn_lst_str, isn_lst_tuple, isn_lst_list, isn_lst_dict, isn_tup_bool, isn_tup_int, isn_tup_str, isn_tup_tuple, isn_tup_list, isn_tup_dict, isn_dct_bool, isn_dct_int, isn_dct_str, isn_dct_tuple, isn_dct_list, isn_dct_dict, okn_bool, okn_int, okn_str, okn_tuple, okn_list, okn_dict, cIsi, tyT_n, tyT_b, tyT_i, tyT_s, tyT_r, V.ty.injEq, tSl, tPart, tNoPart, rSlF, gName, List.length_map, Int.reduceToNat, cpow18, Wd.s_inj, ws_num, ws_field, ws_add, ws_sub, ws_mul, ws_eq, ws_lt, ws_gt, ws_le, ws_ge, ws_and, ws_or, ws_not, rInTab, rIxTab, rCatH, rCat, rInT, cSortD, cMaxL, cMinL, rNeNilI, inV, flatV, List.any_cons, List.any_nil, List.all_cons, List.all_nil, eqV, Bool.and_true, Bool.and_false, Bool.true_and, Bool.false_and, Bool.or_false, Bool.false_or, Bool.or_true, Bool.true_or, Wd.beq_s, sz0, sz1, sz2, sz3, sz4, sz5, sz6, isc_eq, isc_lt, isc_gt, isc_le, isc_ge, isc_and, isc_or, isc_not, isl_and, isl_or, isl_not, rSetD, rUnion, rSortTx, rRep, e4, q4, hat, t4]
            intro p hp
            exact k _ (.fld f.2.1 f.2.2) _ ⟨p, rfl, upd_same⟩ (by simp only [Tm.ok, (R4.oks f hf).1, (R4.oks f hf).2, Bool.and_true]) trivial (by simp [Tm.deep]) (B4.same (same_new hp)) (((k2.thenNew hq).trans k4).thenNew hp)
theorem ok_l_term (T : Txt K mg w) : ∀ d : Nat, FnOk P w K mg base CX0 (d + 3) T.f_l_term T.fd_l_term ["_law_h", "_law_fields", "_law_deep"] (spTerm d)
  | 0 => l_term_step T 0 (fun _ _ _ _ => False) (T.F_l_term.ok sc_l_term (fun vs H Q E h => h.elim) (fun cdv A outer s H vs Q E hr h => h.elim)) (fun e h => absurd h (by omega))
  | d + 1 => l_term_step T (d + 1) (spTerm d) (ok_l_term T d) (fun e h => by cases h; rfl)
theorem l_cond_step (T : Txt K mg w) (d : Nat) (sp0 : Sp) (G_l_cond : FnOk P w K mg base CX0 (d + 5) T.f_l_cond T.fd_l_cond ["_law_h", "_law_fields", "_law_deep"] sp0) (h0 : ∀ e, d = e + 1 → sp0 = spCond e) :
    FnOk P w K mg base CX0 (d + 6) T.f_l_cond T.fd_l_cond ["_law_h", "_law_fields", "_law_deep"] (spCond d) := by
  have G_l_next : FnOk P w K mg base CX0 1 T.f_l_next T.fd_l_next ["_law_h", "_law_many"] spNext := ok_l_next T
  have G_l_term : FnOk P w K mg base CX0 4 T.f_l_term T.fd_l_term ["_law_h", "_law_fields", "_law_deep"] (spTerm 1) := ok_l_term T 1
  refine T.F_l_cond.ok sc_l_cond (fun vs H Q E h => ?_) (fun cdv A outer s H vs Q E hr h => ?_)
  · obtain ⟨h, l, fa, ps, rfl, _⟩ := h
    rfl
  · have hu64 := hu64_of hr
    obtain ⟨h, l, fa, ps, rfl, B, R, hps, nfa, k⟩ := h
    refine ⟨_, (pss_cons (ps_set (i := 3) sc_l_cond.nd rfl (Or.inl rfl) (pe_call G_l_next (hr.mono (by show _ ≤ d + 5; omega)) rfl T.mg_l_next T.F_l_next.kp T.b_l_next .nil pass0 (pa_cons (pv 0) (pa_cons pe_int pa_nil))))
      (Evl.pss_cut (ps_if (PW.pt (pw_and (pt_cmpR op_lt (pv 3) pe_int (nomark _)) (pw_and1 (pt_cmpR op_gt (pv 2) pe_int (nomark _))))) (Evl.pss_cut (ps_set (i := 4) sc_l_cond.nd rfl (Or.inl rfl) (pe_ix ix_lst (pe_lst (pa_cons pe_str (pa_cons pe_str (pa_cons pe_str (pa_cons pe_str pa_nil))))) (pv 3) (fun _ _ => rfl)))
        (Evl.pss_cut (ps_set (i := 5) sc_l_cond.nd rfl (Or.inl rfl) (pe_callTy tuple_lst (by rfl) T.n_tuple (by decide +kernel) (pa_cons (pe_lc (own := [("_law_k", 8)]) (g := gName 8) (tt := tYes) rfl sc_l_cond.nd (pi_range1 rfl T.n_range (pa_cons (pe_ifExp (pt_cmpR op_eq (pv 4) pe_str (nomark _)) pe_int pe_int) pa_nil)) (blkOk_by (N := N_l_cond) (sc := defScope s_l_cond) (by decide +kernel)) (fun _ _ _ _ _ => (pg_name (i := 8) sc_l_cond.nd rfl (Or.inl rfl))) (fun _ _ _ _ _ => pts_nil) (fun _ _ _ _ _ => (pe_call G_l_cond (hr.mono (by show _ ≤ d + 5; omega)) rfl T.mg_l_cond T.F_l_cond.kp T.b_l_cond .nil pass0 (pa_cons (pv 0) (pa_cons (pv 1) (pa_cons (pe_op op_sub (pv 2) pe_int) pa_nil)))))) pa_nil)))
        (pss_one (ps_ret (pe_op op_catH (pe_tup (pa_cons (pv 4) pa_nil)) (pv 5)))))) pss_nil)
      (Evl.pss_cut (ps_set (i := 4) sc_l_cond.nd rfl (Or.inl rfl) (pe_ix ix_lst (pe_lst (pa_cons pe_str (pa_cons pe_str (pa_cons pe_str (pa_cons pe_str (pa_cons pe_str pa_nil)))))) (pe_call G_l_next (hr.mono (by show _ ≤ d + 5; omega)) rfl T.mg_l_next T.F_l_next.kp T.b_l_next .nil pass0 (pa_cons (pv 0) (pa_cons pe_int pa_nil))) (fun _ _ => rfl)))
      (Evl.pss_cut (ps_if (PW.pt (pw_and (pt_cmpR op_gt (pe_call G_l_next (hr.mono (by show _ ≤ d + 5; omega)) rfl T.mg_l_next T.F_l_next.kp T.b_l_next .nil pass0 (pa_cons (pv 0) (pa_cons pe_int pa_nil))) pe_int (nomark _)) (pw_and1 (pt_cmpR (op_neDK K rfl hu64) (pv 1) (pe_lst pa_nil) (nomark _))))) (Evl.pss_cut (ps_set (i := 6) sc_l_cond.nd rfl (Or.inl rfl) (pe_op op_catH (pe_tup (pa_cons pe_str pa_nil)) (pe_ix ix_lst (pv 1) (pe_call G_l_next (hr.mono (by show _ ≤ d + 5; omega)) rfl T.mg_l_next T.F_l_next.kp T.b_l_next .nil pass0 (pa_cons (pv 0) (pa_cons (pe_callB len_lst (by rfl) T.n_len PySem.boot_len (pa_cons (pv 1) pa_nil)) pa_nil))) (fun _ _ => rfl))))
        (pss_cons (ps_set (i := 7) sc_l_cond.nd rfl (Or.inl rfl) (pe_tup (pa_cons (pv 6) (pa_cons (pe_tup (pa_cons pe_str (pa_cons (pe_call G_l_next (hr.mono (by show _ ≤ d + 5; omega)) rfl T.mg_l_next T.F_l_next.kp T.b_l_next .nil pass0 (pa_cons (pv 0) (pa_cons pe_int pa_nil))) pa_nil))) pa_nil))))
        (pss_one (ps_ret (pe_op op_catH (pe_tup (pa_cons (pv 4) pa_nil)) (pe_ifExp (pt_cmpR op_eq (pe_call G_l_next (hr.mono (by show _ ≤ d + 5; omega)) rfl T.mg_l_next T.F_l_next.kp T.b_l_next .nil pass0 (pa_cons (pv 0) (pa_cons pe_int pa_nil))) pe_int (nomark _)) (pv 7) (pe_revT (pv 7) (po_some (pe_un un_neg pe_int))))))))) pss_nil)
      (pss_one (ps_ret (pe_tup (pa_cons (pv 4) (pa_cons (pe_call G_l_term (hr.mono (by show _ ≤ d + 5; omega)) rfl T.mg_l_term T.F_l_term.kp T.b_l_term .nil pass0 (pa_cons (pv 0) (pa_cons (pv 1) (pa_cons pe_int pa_nil)))) (pa_cons (pe_call G_l_term (hr.mono (by show _ ≤ d + 5; omega)) rfl T.mg_l_term T.F_l_term.kp T.b_l_term .nil pass0 (pa_cons (pv 0) (pa_cons (pv 1) (pa_cons pe_int pa_nil)))) pa_nil)))))))))), ?_⟩
    rw [show L2.start N_l_cond [V.ref h, V.ref fa, V.int (d : Int)] = [some (V.ref h), some (V.ref fa), some (V.int (d : Int)), none, none, none, none, none, none] from rfl]
    simp only [tVar, tC, tOp, rI, rI0, rU, tTest, tB, tAnd, tOr, tNot, tAndV, tOrV, tNotV, tIf, tNil, tCons, tTup, tLst, tCB, tSeq, tAsg, gName, tRet, tRetN, tIfS, tNext, tDrop, tCall, tUn, tPar, CMul, CDiv, V.int.injEq, V.bl.injEq, V.ref.injEq, V.str.injEq, Option.some.injEq, List.cons.injEq, and_true, true_and, and_false, false_and, or_false, false_or, or_true, true_or, exists_eq_left', exists_eq_left, exists_and_left, exists_and_right, exists_eq', exists_eq, exists_false, exists_const, List.getElem?_cons_succ, List.getElem?_cons_zero, List.set_cons_succ, List.set_cons_zero, List.length_cons, List.length_nil, List.cons_append, List.nil_append, List.append_nil, reduceCtorEq, Int.reduceLT, Int.reduceLE, Int.reduceNeg, Int.reducePow, Int.reduceSub, Int.reduceAdd, Nat.reduceAdd, Nat.reduceLeDiff, Bool.not_true, Bool.not_false, decide_true, decide_false, Bool.false_eq_true, ↓reduceIte, upd_same, not_true_eq_false, not_false_eq_true, lsO_l, lsO_f, tpO_t, tpO_f, dkO_d, dkO_f, keyO_i, keyO_s, rIxH, rIxU, cLenL, cLenT, cListL, cListT, cTupL, cIntB, cAll, rEqNilI, rEq, rNe, scal_ii, scal_ss, scal_bb, scal_nn, scal_ni, scal_in, scal_ns, scal_sn, gSub, rSetL, ixs0, ixs1, ixs2, seq0, at0, at1, at2, at3, tBM, tBM0, rAppend, rPopAt, tyV_list, tGet2, tGetI, sPut, tMG, rTIdx, tyTup, tTupF, cx_K, cx_w, ex_map_int, ex_nil_int, ex_cons_int, List.map_cons, List.map_nil, List.isEmpty_nil, List.isEmpty_cons, List.eraseIdx_zero, List.tail_cons, List.eraseIdx_cons_zero, HO.lst.injEq, HO.tup.injEq, HO.dK.injEq, HO.frz.injEq, ne_eq, gTupH, gCons, gNil, wipe, tYes, upd_upd, and_assoc, List.getElem?_map, Option.map_some, isn_non_bool, isn_non_int, isn_non_str, isn_non_tuple, isn_non_list, isn_non_dict, isn_bl_bool, isn_bl_int, isn_bl_str, isn_bl_tuple, isn_bl_list, isn_bl_dict, isn_int_bool, isn_int_int, isn_int_str, isn_int_tuple, isn_int_list, isn_int_dict, isn_str_bool, isn_str_int, isn_str_str, isn_str_tuple, isn_str_list, isn_str_dict, isn_lst_bool, isn_lst_int, isn_lst_str, isn_lst_tuple, isn_lst_list, isn_lst_dict, isn_tup_bool, isn_tup_int, isn_tup_str, isn_tup_tuple, isn_tup_list, isn_tup_dict, isn_dct_bool, isn_dct_int, isn_dct_str, isn_dct_tuple, isn_dct_list, isn_dct_dict, okn_bool, okn_int, okn_str, okn_tuple, okn_list, okn_dict, cIsi, tyT_n, tyT_b, tyT_i, tyT_s, tyT_r, V.ty.injEq, tSl, tPart, tNoPart, rSlF, gName, List.length_map, Int.reduceToNat, cpow18, Wd.s_inj, ws_num, ws_field, ws_add, ws_sub, ws_mul, ws_eq, ws_lt, ws_gt, ws_le, ws_ge, ws_and, ws_or, ws_not, rInTab, rIxTab, rCatH, rCat, rInT, cSortD, cMaxL, cMinL, rNeNilI, inV, flatV, List.any_cons, List.any_nil, List.all_cons, List.all_nil, eqV, Bool.and_true, Bool.and_false, Bool.true_and, Bool.false_and, Bool.or_false, Bool.false_or, Bool.or_true, Bool.true_or, Wd.beq_s, sz0, sz1, sz2, sz3, sz4, sz5, sz6, isc_eq, isc_lt, isc_gt, isc_le, isc_ge, isc_and, isc_or, isc_not, isl_and, isl_or, isl_not, rSetD, rUnion, rSortTx, rRep]
    refine ⟨h, l, 8, rfl, B, by decide, by decide, fun r H1 r0 r1 B1 k1 => ?_⟩
    have R1 := R.keepB k1 B nfa
    simp only [tVar, tC, tOp, rI, rI0, rU, tTest, tB, tAnd, tOr, tNot, tAndV, tOrV, tNotV, tIf, tNil, tCons, tTup, tLst, tCB, tSeq, tAsg, gName, tRet, tRetN, tIfS, tNext, tDrop, tCall, tUn, tPar, CMul, CDiv, V.int.injEq, V.bl.injEq, V.ref.injEq, V.str.injEq, Option.some.injEq, List.cons.injEq, and_true, true_and, and_false, false_and, or_false, false_or, or_true, true_or, exists_eq_left', exists_eq_left, exists_and_left, exists_and_right, exists_eq', exists_eq, exists_false, exists_const, List.getElem?_cons_succ, List.getElem?_cons_zero, List.set_cons_succ, List.set_cons_zero, List.length_cons, List.length_nil, List.cons_append, List.nil_append, List.append_nil, reduceCtorEq, Int.reduceLT, Int.reduceLE, Int.reduceNeg, Int.reducePow, Int.reduceSub, Int.reduceAdd, Nat.reduceAdd, Nat.reduceLeDiff, Bool.not_true, Bool.not_false, decide_true, decide_false, Bool.false_eq_true, ↓reduceIte, upd_same, not_true_eq_false, not_false_eq_true, lsO_l, lsO_f, tpO_t, tpO_f, dkO_d, dkO_f, keyO_i, keyO_s, rIxH, rIxU, cLenL, cLenT, cListL, cListT, cTupL, cIntB, cAll, rEqNilI, rEq, rNe, scal_ii, scal_ss, scal_bb, scal_nn, scal_ni, scal_in, scal_ns, scal_sn, gSub, rSetL, ixs0, ixs1, ixs2, seq0, at0, at1, at2, at3, tBM, tBM0, rAppend, rPopAt, tyV_list, tGet2, tGetI, sPut, tMG, rTIdx, tyTup, tTupF, cx_K, cx_w, ex_map_int, ex_nil_int, ex_cons_int, List.map_cons, List.map_nil, List.isEmpty_nil, List.isEmpty_cons, List.eraseIdx_zero, List.tail_cons, List.eraseIdx_cons_zero, HO.lst.injEq, HO.tup.injEq, HO.dK.injEq, HO.frz.injEq, ne_eq, gTupH, gCons, gNil, wipe, tYes, upd_upd, and_assoc, List.getElem?_map, Option.map_some, isn_non_bool, isn_non_int, isn_non_str, isn_non_tuple, isn_non_list, isn_non_dict, isn_bl_bool, isn_bl_int, isn_bl_str, isn_bl_tuple, isn_bl_list, isn_bl_dict, isn_int_bool, isn_int_int, isn_int_str, isn_int_tuple, isn_int_list, isn_int_dict, isn_str_bool, isn_str_int, isn_str_str, isn_str_tuple, isn_str_list, isn_str_dict, isn_lst_bool, isn_lst_int, isn_lst_str, isn_lst_tuple, isn_lst_list, isn_lst_dict, isn_tup_bool, isn_tup_int, isn_tup_str, isn_tup_tuple, isn_tup_list, isn_tup_dict, isn_dct_bool, isn_dct_int, isn_dct_str, isn_dct_tuple, isn_dct_list, isn_dct_dict, okn_bool, okn_int, okn_str, okn_tuple, okn_list, okn_dict, cIsi, tyT_n, tyT_b, tyT_i, tyT_s, tyT_r, V.ty.injEq, tSl, tPart, tNoPart, rSlF, gName, List.length_map, Int.reduceToNat, cpow18, Wd.s_inj, ws_num, ws_field, ws_add, ws_sub, ws_mul, ws_eq, ws_lt, ws_gt, ws_le, ws_ge, ws_and, ws_or, ws_not, rInTab, rIxTab, rCatH, rCat, rInT, cSortD, cMaxL, cMinL, rNeNilI, inV, flatV, List.any_cons, List.any_nil, List.all_cons, List.all_nil, eqV, Bool.and_true, Bool.and_false, Bool.true_and, Bool.false_and, Bool.or_false, Bool.false_or, Bool.or_true, Bool.true_or, Wd.beq_s, sz0, sz1, sz2, sz3, sz4, sz5, sz6, isc_eq, isc_lt, isc_gt, isc_le, isc_ge, isc_and, isc_or, isc_not, isl_and, isl_or, isl_not, rSetD, rUnion, rSortTx, rRep]
    refine ⟨fun σ' H2 => σ' = [some (.ref h), some (.ref fa), some (.int (d : Int)), some (.int r), none, none, none, none, none] ∧ H2 = H1, ?_, ?_⟩
    · simp only [tVar, tC, tOp, rI, rI0, rU, tTest, tB, tAnd, tOr, tNot, tAndV, tOrV, tNotV, tIf, tNil, tCons, tTup, tLst, tCB, tSeq, tAsg, gName, tRet, tRetN, tIfS, tNext, tDrop, tCall, tUn, tPar, CMul, CDiv, V.int.injEq, V.bl.injEq, V.ref.injEq, V.str.injEq, Option.some.injEq, List.cons.injEq, and_true, true_and, and_false, false_and, or_false, false_or, or_true, true_or, exists_eq_left', exists_eq_left, exists_and_left, exists_and_right, exists_eq', exists_eq, exists_false, exists_const, List.getElem?_cons_succ, List.getElem?_cons_zero, List.set_cons_succ, List.set_cons_zero, List.length_cons, List.length_nil, List.cons_append, List.nil_append, List.append_nil, reduceCtorEq, Int.reduceLT, Int.reduceLE, Int.reduceNeg, Int.reducePow, Int.reduceSub, Int.reduceAdd, Nat.reduceAdd, Nat.reduceLeDiff, Bool.not_true, Bool.not_false, decide_true, decide_false, Bool.false_eq_true, ↓reduceIte, upd_same, not_true_eq_false, not_false_eq_true, lsO_l, lsO_f, tpO_t, tpO_f, dkO_d, dkO_f, keyO_i, keyO_s, rIxH, rIxU, cLenL, cLenT, cListL, cListT, cTupL, cIntB, cAll, rEqNilI, rEq, rNe, scal_ii, scal_ss, scal_bb, scal_nn, scal_ni, scal_in, scal_ns, scal_sn, gSub, rSetL, ixs0, ixs1, ixs2, seq0, at0, at1, at2, at3, tBM, tBM0, rAppend, rPopAt, tyV_list, tGet2, tGetI, sPut, tMG, rTIdx, tyTup, tTupF, cx_K, cx_w, ex_map_int, ex_nil_int, ex_cons_int, List.map_cons, List.map_nil, List.isEmpty_nil, List.isEmpty_cons, List.eraseIdx_zero, List.tail_cons, List.eraseIdx_cons_zero, HO.lst.injEq, HO.tup.injEq, HO.dK.injEq, HO.frz.injEq, ne_eq, gTupH, gCons, gNil, wipe, tYes, upd_upd, and_assoc, List.getElem?_map, Option.map_some, isn_non_bool, isn_non_int, isn_non_str, isn_non_tuple, isn_non_list, isn_non_dict, isn_bl_bool, isn_bl_int, isn_bl_str, isn_bl_tuple, isn_bl_list, isn_bl_dict, isn_int_bool, isn_int_int, isn_int_str, isn_int_tuple, isn_int_list, isn_int_dict, isn_str_bool, isn_str_int, isn_str_str, isn_str_tuple, isn_str_list, isn_str_dict, isn_lst_bool, isn_lst_int, isn_lst_str, isn_lst_tuple, isn_lst_list, isn_lst_dict, isn_tup_bool, isn_tup_int, isn_tup_str, isn_tup_tuple, isn_tup_list, isn_tup_dict, isn_dct_bool, isn_dct_int, isn_dct_str, isn_dct_tuple, isn_dct_list, isn_dct_dict, okn_bool, okn_int, okn_str, okn_tuple, okn_list, okn_dict, cIsi, tyT_n, tyT_b, tyT_i, tyT_s, tyT_r, V.ty.injEq, tSl, tPart, tNoPart, rSlF, gName, List.length_map, Int.reduceToNat, cpow18, Wd.s_inj, ws_num, ws_field, ws_add, ws_sub, ws_mul, ws_eq, ws_lt, ws_gt, ws_le, ws_ge, ws_and, ws_or, ws_not, rInTab, rIxTab, rCatH, rCat, rInT, cSortD, cMaxL, cMinL, rNeNilI, inV, flatV, List.any_cons, List.any_nil, List.all_cons, List.all_nil, eqV, Bool.and_true, Bool.and_false, Bool.true_and, Bool.false_and, Bool.or_false, Bool.false_or, Bool.or_true, Bool.true_or, Wd.beq_s, sz0, sz1, sz2, sz3, sz4, sz5, sz6, isc_eq, isc_lt, isc_gt, isc_le, isc_ge, isc_and, isc_or, isc_not, isl_and, isl_or, isl_not, rSetD, rUnion, rSortTx, rRep]
      by_cases c : r < 4
      · simp only [tVar, tC, tOp, rI, rI0, rU, tTest, tB, tAnd, tOr, tNot, tAndV, tOrV, tNotV, tIf, tNil, tCons, tTup, tLst, tCB, tSeq, tAsg, gName, tRet, tRetN, tIfS, tNext, tDrop, tCall, tUn, tPar, CMul, CDiv, V.int.injEq, V.bl.injEq, V.ref.injEq, V.str.injEq, Option.some.injEq, List.cons.injEq, and_true, true_and, and_false, false_and, or_false, false_or, or_true, true_or, exists_eq_left', exists_eq_left, exists_and_left, exists_and_right, exists_eq', exists_eq, exists_false, exists_const, List.getElem?_cons_succ, List.getElem?_cons_zero, List.set_cons_succ, List.set_cons_zero, List.length_cons, List.length_nil, List.cons_append, List.nil_append, List.append_nil, reduceCtorEq, Int.reduceLT, Int.reduceLE, Int.reduceNeg, Int.reducePow, Int.reduceSub, Int.reduceAdd, Nat.reduceAdd, Nat.reduceLeDiff, Bool.not_true, Bool.not_false, decide_true, decide_false, Bool.false_eq_true, ↓reduceIte, upd_same, not_true_eq_false, not_false_eq_true, lsO_l, lsO_f, tpO_t, tpO_f, dkO_d, dkO_f, keyO_i, keyO_s, rIxH, rIxU, cLenL, cLenT, cListL, cListT, cTupL, cIntB, cAll, rEqNilI, rEq, rNe, scal_ii, scal_ss, scal_bb, scal_nn, scal_ni, scal_in, scal_ns, scal_sn, gSub, rSetL, ixs0, ixs1, ixs2, seq0, at0, at1, at2, at3, tBM, tBM0, rAppend, rPopAt, tyV_list, tGet2, tGetI, sPut, tMG, rTIdx, tyTup, tTupF, cx_K, cx_w, ex_map_int, ex_nil_int, ex_cons_int, List.map_cons, List.map_nil, List.isEmpty_nil, List.isEmpty_cons, List.eraseIdx_zero, List.tail_cons, List.eraseIdx_cons_zero, HO.lst.injEq, HO.tup.injEq, HO.dK.injEq, HO.frz.injEq, ne_eq, gTupH, gCons, gNil, wipe, tYes, upd_upd, and_assoc, List.getElem?_map, Option.map_some, isn_non_bool, isn_non_int, isn_non_str, isn_non_tuple, isn_non_list, isn_non_dict, isn_bl_bool, isn_bl_int, isn_bl_str, isn_bl_tuple, isn_bl_list, isn_bl_dict, isn_int_bool, isn_int_int, isn_int_str, isn_int_tuple, isn_int_list, isn_int_dict, isn_str_bool, isn_str_int, isn_str_str, isn_str_tuple, isn_str_list, isn_str_dict, isn_lst_bool, isn_lst_int, isn_lst_str, isn_lst_tuple, isn_lst_list, isn_lst_dict, isn_tup_bool, isn_tup_int, isn_tup_str, isn_tup_tuple, isn_tup_list, isn_tup_dict, isn_dct_bool, isn_dct_int, isn_dct_str, isn_dct_tuple, isn_dct_list, isn_dct_dict, okn_bool, okn_int, okn_str, okn_tuple, okn_list, okn_dict, cIsi, tyT_n, tyT_b, tyT_i, tyT_s, tyT_r, V.ty.injEq, tSl, tPart, tNoPart, rSlF, gName, List.length_map, Int.reduceToNat, cpow18, Wd.s_inj, ws_num, ws_field, ws_add, ws_sub, ws_mul, ws_eq, ws_lt, ws_gt, ws_le, ws_ge, ws_and, ws_or, ws_not, rInTab, rIxTab, rCatH, rCat, rInT, cSortD, cMaxL, cMinL, rNeNilI, inV, flatV, List.any_cons, List.any_nil, List.all_cons, List.all_nil, eqV, Bool.and_true, Bool.and_false, Bool.true_and, Bool.false_and, Bool.or_false, Bool.false_or, Bool.or_true, Bool.true_or, Wd.beq_s, sz0, sz1, sz2, sz3, sz4, sz5, sz6, isc_eq, isc_lt, isc_gt, isc_le, isc_ge, isc_and, isc_or, isc_not, isl_and, isl_or, isl_not, rSetD, rUnion, rSortTx, rRep, c]
        by_cases c2 : 0 < (d : Int)
        · simp only [tVar, tC, tOp, rI, rI0, rU, tTest, tB, tAnd, tOr, tNot, tAndV, tOrV, tNotV, tIf, tNil, tCons, tTup, tLst, tCB, tSeq, tAsg, gName, tRet, tRetN, tIfS, tNext, tDrop, tCall, tUn, tPar, CMul, CDiv, V.int.injEq, V.bl.injEq, V.ref.injEq, V.str.injEq, Option.some.injEq, List.cons.injEq, and_true, true_and, and_false, false_and, or_false, false_or, or_true, true_or, exists_eq_left', exists_eq_left, exists_and_left, exists_and_right, exists_eq', exists_eq, exists_false, exists_const, List.getElem?_cons_succ, List.getElem?_cons_zero, List.set_cons_succ, List.set_cons_zero, List.length_cons, List.length_nil, List.cons_append, List.nil_append, List.append_nil, reduceCtorEq, Int.reduceLT, Int.reduceLE, Int.reduceNeg, Int.reducePow, Int.reduceSub, Int.reduceAdd, Nat.reduceAdd, Nat.reduceLeDiff, Bool.not_true, Bool.not_false, decide_true, decide_false, Bool.false_eq_true, ↓reduceIte, upd_same, not_true_eq_false, not_false_eq_true, lsO_l, lsO_f, tpO_t, tpO_f, dkO_d, dkO_f, keyO_i, keyO_s, rIxH, rIxU, cLenL, cLenT, cListL, cListT, cTupL, cIntB, cAll, rEqNilI, rEq, rNe, scal_ii, scal_ss, scal_bb, scal_nn, scal_ni, scal_in, scal_ns, scal_sn, gSub, rSetL, ixs0, ixs1, ixs2, seq0, at0, at1, at2, at3, tBM, tBM0, rAppend, rPopAt, tyV_list, tGet2, tGetI, sPut, tMG, rTIdx, tyTup, tTupF, cx_K, cx_w, ex_map_int, ex_nil_int, ex_cons_int, List.map_cons, List.map_nil, List.isEmpty_nil, List.isEmpty_cons, List.eraseIdx_zero, List.tail_cons, List.eraseIdx_cons_zero, HO.lst.injEq, HO.tup.injEq, HO.dK.injEq, HO.frz.injEq, ne_eq, gTupH, gCons, gNil, wipe, tYes, upd_upd, and_assoc, List.getElem?_map, Option.map_some, isn_non_bool, isn_non_int, isn_non_str, isn_non_tuple, isn_non_list, isn_non_dict, isn_bl_bool, isn_bl_int, isn_bl_str, isn_bl_tuple, isn_bl_list, isn_bl_dict, isn_int_bool, isn_int_int, isn_int_str, isn_int_tuple, isn_int_list, isn_int_dict, isn_str_bool, isn_str_int, isn_str_str, isn_str_tuple, isn_str_list, isn_str_dict, isn_lst_bool, isn_lst_int, isn_lst_str, isn_lst_tuple, isn_lst_list, isn_lst_dict, isn_tup_bool, isn_tup_int, isn_tup_str, isn_tup_tuple, isn_tup_list, isn_tup_dict, isn_dct_bool, isn_dct_int, isn_dct_str, isn_dct_tuple, isn_dct_list, isn_dct_dict, okn_bool, okn_int, okn_str, okn_tuple, okn_list, okn_dict, cIsi, tyT_n, tyT_b, tyT_i, tyT_s, tyT_r, V.ty.injEq, tSl, tPart, tNoPart, rSlF, gName, List.length_map, Int.reduceToNat, cpow18, Wd.s_inj, ws_num, ws_field, ws_add, ws_sub, ws_mul, ws_eq, ws_lt, ws_gt, ws_le, ws_ge, ws_and, ws_or, ws_not, rInTab, rIxTab, rCatH, rCat, rInT, cSortD, cMaxL, cMinL, rNeNilI, inV, flatV, List.any_cons, List.any_nil, List.all_cons, List.all_nil, eqV, Bool.and_true, Bool.and_false, Bool.true_and, Bool.false_and, Bool.or_false, Bool.false_or, Bool.or_true, Bool.true_or, Wd.beq_s, sz0, sz1, sz2, sz3, sz4, sz5, sz6, isc_eq, isc_lt, isc_gt, isc_le, isc_ge, isc_and, isc_or, isc_not, isl_and, isl_or, isl_not, rSetD, rUnion, rSortTx, rRep, c2]
          obtain ⟨e, rfl⟩ : ∃ e, d = e + 1 := ⟨d - 1, by omega⟩
          cases h0 e rfl
          have ee : ((e + 1 : Nat) : Int) - 1 = e := by omega
          refine ⟨fun σ' H2 => ∃ o : Wd, σ' = [some (.ref h), some (.ref fa), some (.int ((e + 1 : Nat) : Int)), some (.int r), some (.str o.s), none, none, none, none] ∧ (o = .not ∨ o.isCon = true) ∧ BoxB H2 h l ∧ Keep [h, l] H H2, ?_, ?_⟩
          · simp only [tVar, tC, tOp, rI, rI0, rU, tTest, tB, tAnd, tOr, tNot, tAndV, tOrV, tNotV, tIf, tNil, tCons, tTup, tLst, tCB, tSeq, tAsg, gName, tRet, tRetN, tIfS, tNext, tDrop, tCall, tUn, tPar, CMul, CDiv, V.int.injEq, V.bl.injEq, V.ref.injEq, V.str.injEq, Option.some.injEq, List.cons.injEq, and_true, true_and, and_false, false_and, or_false, false_or, or_true, true_or, exists_eq_left', exists_eq_left, exists_and_left, exists_and_right, exists_eq', exists_eq, exists_false, exists_const, List.getElem?_cons_succ, List.getElem?_cons_zero, List.set_cons_succ, List.set_cons_zero, List.length_cons, List.length_nil, List.cons_append, List.nil_append, List.append_nil, reduceCtorEq, Int.reduceLT, Int.reduceLE, Int.reduceNeg, Int.reducePow, Int.reduceSub, Int.reduceAdd, Nat.reduceAdd, Nat.reduceLeDiff, Bool.not_true, Bool.not_false, decide_true, decide_false, Bool.false_eq_true, ↓reduceIte, upd_same, not_true_eq_false, not_false_eq_true, lsO_l, lsO_f, tpO_t, tpO_f, dkO_d, dkO_f, keyO_i, keyO_s, rIxH, rIxU, cLenL, cLenT, cListL, cListT, cTupL, cIntB, cAll, rEqNilI, rEq, rNe, scal_ii, scal_ss, scal_bb, scal_nn, scal_ni, scal_in, scal_ns, scal_sn, gSub, rSetL, ixs0, ixs1, ixs2, seq0, at0, at1, at2, at3, tBM, tBM0, rAppend, rPopAt, tyV_list, tGet2, tGetI, sPut, tMG, rTIdx, tyTup, tTupF, cx_K, cx_w, ex_map_int, ex_nil_int, ex_cons_int, List.map_cons, List.map_nil, List.isEmpty_nil, List.isEmpty_cons, List.eraseIdx_zero, List.tail_cons, List.eraseIdx_cons_zero, HO.lst.injEq, HO.tup.injEq, HO.dK.injEq, HO.frz.injEq, ne_eq, gTupH, gCons, gNil, wipe, tYes, upd_upd, and_assoc, List.getElem?_map, Option.map_some, isn_non_bool, isn_non_int, isn_non_str, isn_non_tuple, isn_non_list, isn_non_dict, isn_bl_bool, isn_bl_int, isn_bl_str, isn_bl_tuple, isn_bl_list, isn_bl_dict, isn_int_bool, isn_int_int, isn_int_str, isn_int_tuple, isn_int_list, isn_int_dict, isn_str_bool, isn_str_int, isn_str_str, isn_str_tuple, isn_str_list, isn_str_dict, isn_lst_bool, isn_lst_int, isn_lst_str, isn_lst_tuple, isn_lst_list, isn_lst_dict, isn_tup_bool, isn_tup_int, isn_tup_str, isn_tup_tuple, isn_tup_list, isn_tup_dict, isn_dct_bool, isn_dct_int, isn_dct_str, isn_dct_tuple, isn_dct_list, isn_dct_dict, okn_bool, okn_int, okn_str, okn_tuple, okn_list, okn_dict, cIsi, tyT_n, tyT_b, tyT_i, tyT_s, tyT_r, V.ty.injEq, tSl, tPart, tNoPart, rSlF, gName, List.length_map, Int.reduceToNat, cpow18, Wd.s_inj, ws_num, ws_field, ws_add, ws_sub, ws_mul, ws_eq, ws_lt, ws_gt, ws_le, ws_ge, ws_and, ws_or, ws_not, rInTab, rIxTab, rCatH, rCat, rInT, cSortD, cMaxL, cMinL, rNeNilI, inV, flatV, List.any_cons, List.any_nil, List.all_cons, List.all_nil, eqV, Bool.and_true, Bool.and_false, Bool.true_and, Bool.false_and, Bool.or_false, Bool.false_or, Bool.or_true, Bool.true_or, Wd.beq_s, sz0, sz1, sz2, sz3, sz4, sz5, sz6, isc_eq, isc_lt, isc_gt, isc_le, isc_ge, isc_and, isc_or, isc_not, isl_and, isl_or, isl_not, rSetD, rUnion, rSortTx, rRep]
            intro p hp
            have B2 := B1.same (same_new (o := .lst [.str Wd.and.s, .str Wd.and.s, .str Wd.or.s, .str Wd.not.s]) hp)
            have k2 := k1.thenNew (o := .lst [.str Wd.and.s, .str Wd.and.s, .str Wd.or.s, .str Wd.not.s]) hp
            have er : r = 0 ∨ r = 1 ∨ r = 2 ∨ r = 3 := by omega
            rcases er with rfl | rfl | rfl | rfl
            · exact ⟨_, rfl, .and, rfl, .inr rfl, B2, k2⟩
            · exact ⟨_, rfl, .and, rfl, .inr rfl, B2, k2⟩
            · exact ⟨_, rfl, .or, rfl, .inr rfl, B2, k2⟩
            · exact ⟨_, rfl, .not, rfl, .inl rfl, B2, k2⟩
          rintro σ' H2 ⟨o, rfl, ho, B2, k2⟩
          have R2 := R.keepB k2 B nfa
          have main : ∀ n : Nat, n ≤ 2 → ∀ (Q' : VK), (∀ D H5 (es : List (V × G7.Cd)), es.length = n → (∀ e' ∈ es, RC H5 e'.1 e'.2 ∧ e'.2.Good e (2 ^ e)) → H5 D = some (.lst (es.map (·.1))) → BoxB H5 h l → Keep [h, l] H H5 → Q' (.ref D) H5) →
              lcB (Itr 0 n) (gName 8) tYes (tCall (spCond e) [] E0 (tCons (tVar 0) (tCons (tVar 1) (tCons (tOp (rI0 fun i j => V.int (i - j)) (tVar 2) (tC (V.int 1))) tNil)))) [8]
                [some (.ref h), some (.ref fa), some (.int ((e + 1 : Nat) : Int)), some (.int r), some (.str o.s), none, none, none, none] H2 Q' := by
            intro n hn Q' kq
            refine lcB_it fun D hD => ?_
            have nD := B2.free hD
            refine lc_it walk_range (fun i H5 => ∃ es : List (V × G7.Cd), es.length = i ∧ (∀ e' ∈ es, RC H5 e'.1 e'.2 ∧ e'.2.Good e (2 ^ e)) ∧ H5 D = some (.lst (es.map (·.1))) ∧ BoxB H5 h l ∧ Keep [h, l] H H5)
              ⟨[], rfl, fun e' he => absurd he (by simp), upd_same, B2.same (same_new hD), k2.thenNew hD⟩ (fun _ _ _ _ => trivial) ?_ ?_
            · rintro i x H5 H6 hi ⟨es, el, hes, eD, B5, k5⟩ ⟨rfl, rfl⟩
              simp only [tVar, tC, tOp, rI, rI0, rU, tTest, tB, tAnd, tOr, tNot, tAndV, tOrV, tNotV, tIf, tNil, tCons, tTup, tLst, tCB, tSeq, tAsg, gName, tRet, tRetN, tIfS, tNext, tDrop, tCall, tUn, tPar, CMul, CDiv, V.int.injEq, V.bl.injEq, V.ref.injEq, V.str.injEq, Option.some.injEq, List.cons.injEq, and_true, true_and, and_false, false_and, or_false, false_or, or_true, true_or, exists_eq_left', exists_eq_left, exists_and_left, exists_and_right, exists_eq', exists_eq, exists_false, exists_const, List.getElem?_cons_succ, List.getElem?_cons_zero, List.set_cons_succ, List.set_cons_zero, List.length_cons, List.length_nil, List.cons_append, List.nil_append, List.append_nil, reduceCtorEq, Int.reduceLT, Int.reduceLE, Int.reduceNeg, Int.reducePow, Int.reduceSub, Int.reduceAdd, Nat.reduceAdd, Nat.reduceLeDiff, Bool.not_true, Bool.not_false, decide_true, decide_false, Bool.false_eq_true, ↓reduceIte, upd_same, not_true_eq_false, not_false_eq_true, lsO_l, lsO_f, tpO_t, tpO_f, dkO_d, dkO_f, keyO_i, keyO_s, rIxH, rIxU, cLenL, cLenT, cListL, cListT, cTupL, cIntB, cAll, rEqNilI, rEq, rNe, scal_ii, scal_ss, scal_bb, scal_nn, scal_ni, scal_in, scal_ns, scal_sn, gSub, rSetL, ixs0, ixs1, ixs2, seq0, at0, at1, at2, at3, tBM, tBM0, rAppend, rPopAt, tyV_list, tGet2, tGetI, sPut, tMG, rTIdx, tyTup, tTupF, cx_K, cx_w, ex_map_int, ex_nil_int, ex_cons_int, List.map_cons, List.map_nil, List.isEmpty_nil, List.isEmpty_cons, List.eraseIdx_zero, List.tail_cons, List.eraseIdx_cons_zero, HO.lst.injEq, HO.tup.injEq, HO.dK.injEq, HO.frz.injEq, ne_eq, gTupH, gCons, gNil, wipe, tYes, upd_upd, and_assoc, List.getElem?_map, Option.map_some, isn_non_bool, isn_non_int, isn_non_str, isn_non_tuple, isn_non_list, isn_non_dict, isn_bl_bool, isn_bl_int, isn_bl_str, isn_bl_tuple, isn_bl_list, isn_bl_dict, isn_int_bool, isn_int_int, isn_int_str, isn_int_tuple, isn_int_list, isn_int_dict, isn_str_bool, isn_str_int, isn_str_str, isn_str_tuple, isn_str_list, isn_str_dict, isn_lst_bool, isn_lst_int, isn_lst_str, isn_lst_tuple, isn_lst_list, isn_lst_dict, isn_tup_bool, isn_tup_int, isn_tup_str, isn_tup_tuple, isn_tup_list, isn_tup_dict, isn_dct_bool, isn_dct_int, isn_dct_str, isn_dct_tuple, isn_dct_list, isn_dct_dict, okn_bool, okn_int, okn_str, okn_tuple, okn_list, okn_dict, cIsi, tyT_n, tyT_b, tyT_i, tyT_s, tyT_r, V.ty.injEq, tSl, tPart, tNoPart, rSlF, gName, List.length_map, Int.reduceToNat, cpow18, Wd.s_inj, ws_num, ws_field, ws_add, ws_sub, ws_mul, ws_eq, ws_lt, ws_gt, ws_le, ws_ge, ws_and, ws_or, ws_not, rInTab, rIxTab, rCatH, rCat, rInT, cSortD, cMaxL, cMinL, rNeNilI, inV, flatV, List.any_cons, List.any_nil, List.all_cons, List.all_nil, eqV, Bool.and_true, Bool.and_false, Bool.true_and, Bool.false_and, Bool.or_false, Bool.false_or, Bool.or_true, Bool.true_or, Wd.beq_s, sz0, sz1, sz2, sz3, sz4, sz5, sz6, isc_eq, isc_lt, isc_gt, isc_le, isc_ge, isc_and, isc_or, isc_not, isl_and, isl_or, isl_not, rSetD, rUnion, rSortTx, rRep, gName]
              rw [ee]
              refine ⟨h, l, fa, ps, rfl, B5, R.keepB k5 B nfa, hps, nfa, fun v t H6 xt gt B6 k6 => ?_⟩
              have e6 := k6 _ _ nD eD
              simp only [tVar, tC, tOp, rI, rI0, rU, tTest, tB, tAnd, tOr, tNot, tAndV, tOrV, tNotV, tIf, tNil, tCons, tTup, tLst, tCB, tSeq, tAsg, gName, tRet, tRetN, tIfS, tNext, tDrop, tCall, tUn, tPar, CMul, CDiv, V.int.injEq, V.bl.injEq, V.ref.injEq, V.str.injEq, Option.some.injEq, List.cons.injEq, and_true, true_and, and_false, false_and, or_false, false_or, or_true, true_or, exists_eq_left', exists_eq_left, exists_and_left, exists_and_right, exists_eq', exists_eq, exists_false, exists_const, List.getElem?_cons_succ, List.getElem?_cons_zero, List.set_cons_succ, List.set_cons_zero, List.length_cons, List.length_nil, List.cons_append, List.nil_append, List.append_nil, reduceCtorEq, Int.reduceLT, Int.reduceLE, Int.reduceNeg, Int.reducePow, Int.reduceSub, Int.reduceAdd, Nat.reduceAdd, Nat.reduceLeDiff, Bool.not_true, Bool.not_false, decide_true, decide_false, Bool.false_eq_true, ↓reduceIte, upd_same, not_true_eq_false, not_false_eq_true, lsO_l, lsO_f, tpO_t, tpO_f, dkO_d, dkO_f, keyO_i, keyO_s, rIxH, rIxU, cLenL, cLenT, cListL, cListT, cTupL, cIntB, cAll, rEqNilI, rEq, rNe, scal_ii, scal_ss, scal_bb, scal_nn, scal_ni, scal_in, scal_ns, scal_sn, gSub, rSetL, ixs0, ixs1, ixs2, seq0, at0, at1, at2, at3, tBM, tBM0, rAppend, rPopAt, tyV_list, tGet2, tGetI, sPut, tMG, rTIdx, tyTup, tTupF, cx_K, cx_w, ex_map_int, ex_nil_int, ex_cons_int, List.map_cons, List.map_nil, List.isEmpty_nil, List.isEmpty_cons, List.eraseIdx_zero, List.tail_cons, List.eraseIdx_cons_zero, HO.lst.injEq, HO.tup.injEq, HO.dK.injEq, HO.frz.injEq, ne_eq, gTupH, gCons, gNil, wipe, tYes, upd_upd, and_assoc, List.getElem?_map, Option.map_some, isn_non_bool, isn_non_int, isn_non_str, isn_non_tuple, isn_non_list, isn_non_dict, isn_bl_bool, isn_bl_int, isn_bl_str, isn_bl_tuple, isn_bl_list, isn_bl_dict, isn_int_bool, isn_int_int, isn_int_str, isn_int_tuple, isn_int_list, isn_int_dict, isn_str_bool, isn_str_int, isn_str_str, isn_str_tuple, isn_str_list, isn_str_dict, isn_lst_bool, isn_lst_int, isn_lst_str, isn_lst_tuple, isn_lst_list, isn_lst_dict, isn_tup_bool, isn_tup_int, isn_tup_str, isn_tup_tuple, isn_tup_list, isn_tup_dict, isn_dct_bool, isn_dct_int, isn_dct_str, isn_dct_tuple, isn_dct_list, isn_dct_dict, okn_bool, okn_int, okn_str, okn_tuple, okn_list, okn_dict, cIsi, tyT_n, tyT_b, tyT_i, tyT_s, tyT_r, V.ty.injEq, tSl, tPart, tNoPart, rSlF, gName, List.length_map, Int.reduceToNat, cpow18, Wd.s_inj, ws_num, ws_field, ws_add, ws_sub, ws_mul, ws_eq, ws_lt, ws_gt, ws_le, ws_ge, ws_and, ws_or, ws_not, rInTab, rIxTab, rCatH, rCat, rInT, cSortD, cMaxL, cMinL, rNeNilI, inV, flatV, List.any_cons, List.any_nil, List.all_cons, List.all_nil, eqV, Bool.and_true, Bool.and_false, Bool.true_and, Bool.false_and, Bool.or_false, Bool.false_or, Bool.or_true, Bool.true_or, Wd.beq_s, sz0, sz1, sz2, sz3, sz4, sz5, sz6, isc_eq, isc_lt, isc_gt, isc_le, isc_ge, isc_and, isc_or, isc_not, isl_and, isl_or, isl_not, rSetD, rUnion, rSortTx, rRep, e6]
              have hup : ∀ u, Mut (some u) → True := fun _ _ => trivial
              refine ⟨szl' (by omega), es ++ [(v, t)], by rw [List.length_append, el]; rfl, ?_, by rw [List.map_append]; rfl, B6.updNot nD, (k5.trans k6).updFree (free_keep k2 nD hD)⟩
              have ts : TupS H6 (upd H6 D (.lst (es.map (·.1) ++ [v]))) := TupS.refl.upd e6 (by intro xs q; cases q)
              intro e' he'
              rcases List.mem_append.mp he' with he' | he'
              · exact ⟨((hes e' he').1.tups (B5.tups k6)).tups ts, (hes e' he').2⟩
              · cases List.mem_singleton.mp he'
                exact ⟨xt.tups ts, gt⟩
            · rintro H5 ⟨es, el, hes, eD, B5, k5⟩
              exact kq D H5 es el hes eD B5 k5
          refine ⟨fun σ' H5 => ∃ (q : Addr) (es : List (V × G7.Cd)), σ' = [some (.ref h), some (.ref fa), some (.int ((e + 1 : Nat) : Int)), some (.int r), some (.str o.s), some (.ref q), none, none, none] ∧ es.length = (if o = .not then 1 else 2) ∧
            (∀ e' ∈ es, RC H5 e'.1 e'.2 ∧ e'.2.Good e (2 ^ e)) ∧ H5 q = some (.tup (es.map (·.1))) ∧ BoxB H5 h l ∧ Keep [h, l] H H5, ?_, ?_⟩
          · have fin : ∀ n : Nat, n = (if o = .not then 1 else 2) → ∀ D H5 (es : List (V × G7.Cd)), es.length = n → (∀ e' ∈ es, RC H5 e'.1 e'.2 ∧ e'.2.Good e (2 ^ e)) → H5 D = some (.lst (es.map (·.1))) → BoxB H5 h l → Keep [h, l] H H5 → ∀ q, H5 q = none →
                ∃ (es' : List (V × G7.Cd)), es'.length = (if o = .not then 1 else 2) ∧ (∀ e' ∈ es', RC (upd H5 q (.tup (es.map (·.1)))) e'.1 e'.2 ∧ e'.2.Good e (2 ^ e)) ∧ es.map (·.1) = es'.map (·.1) ∧ BoxB (upd H5 q (.tup (es.map (·.1)))) h l ∧ Keep [h, l] H (upd H5 q (.tup (es.map (·.1)))) :=
              fun n hn D H5 es el hes eD B5 k5 q hq => ⟨es, el.trans hn, fun e' he' => ⟨(hes e' he').1.tups (TupS.ofSame (same_new hq)), (hes e' he').2⟩, rfl, B5.same (same_new hq), k5.thenNew hq⟩
            simp only [tVar, tC, tOp, rI, rI0, rU, tTest, tB, tAnd, tOr, tNot, tAndV, tOrV, tNotV, tIf, tNil, tCons, tTup, tLst, tCB, tSeq, tAsg, gName, tRet, tRetN, tIfS, tNext, tDrop, tCall, tUn, tPar, CMul, CDiv, V.int.injEq, V.bl.injEq, V.ref.injEq, V.str.injEq, Option.some.injEq, List.cons.injEq, and_true, true_and, and_false, false_and, or_false, false_or, or_true, true_or, exists_eq_left', exists_eq_left, exists_and_left, exists_and_right, exists_eq', exists_eq, exists_false, exists_const, List.getElem?_cons_succ, List.getElem?_cons_zero, List.set_cons_succ, List.set_cons_zero, List.length_cons, List.length_nil, List.cons_append, List.nil_append, List.append_nil, reduceCtorEq, Int.reduceLT, Int.reduceLE, Int.reduceNeg, Int.reducePow, Int.reduceSub, Int.reduceAdd, Nat.reduceAdd, Nat.reduceLeDiff, Bool.not_true, Bool.not_false, decide_true, decide_false, Bool.false_eq_true, ↓reduceIte, upd_same, not_true_eq_false, not_false_eq_true, lsO_l, lsO_f, tpO_t, tpO_f, dkO_d, dkO_f, keyO_i, keyO_s, rIxH, rIxU, cLenL, cLenT, cListL, cListT, cTupL, cIntB, cAll, rEqNilI, rEq, rNe, scal_ii, scal_ss, scal_bb, scal_nn, scal_ni, scal_in, scal_ns, scal_sn, gSub, rSetL, ixs0, ixs1, ixs2, seq0, at0, at1, at2, at3, tBM, tBM0, rAppend, rPopAt, tyV_list, tGet2, tGetI, sPut, tMG, rTIdx, tyTup, tTupF, cx_K, cx_w, ex_map_int, ex_nil_int, ex_cons_int, List.map_cons, List.map_nil, List.isEmpty_nil, List.isEmpty_cons, List.eraseIdx_zero, List.tail_cons, List.eraseIdx_cons_zero, HO.lst.injEq, HO.tup.injEq, HO.dK.injEq, HO.frz.injEq, ne_eq, gTupH, gCons, gNil, wipe, tYes, upd_upd, and_assoc, List.getElem?_map, Option.map_some, isn_non_bool, isn_non_int, isn_non_str, isn_non_tuple, isn_non_list, isn_non_dict, isn_bl_bool, isn_bl_int, isn_bl_str, isn_bl_tuple, isn_bl_list, isn_bl_dict, isn_int_bool, isn_int_int, isn_int_str, isn_int_tuple, isn_int_list, isn_int_dict, isn_str_bool, isn_str_int, isn_str_str, isn_str_tuple, isn_str_list, isn_str_dict, isn_lst_bool, isn_lst_int, isn_lst_str, isn_lst_tuple, isn_lst_list, isn_lst_dict, isn_tup_bool, isn_tup_int, isn_tup_str, isn_tup_tuple, isn_tup_list, isn_tup_dict, isn_dct_bool, isn_dct_int, isn_dct_str, isn_dct_tuple, isn_dct_list, isn_dct_dict, okn_bool, okn_int, okn_str, okn_tuple, okn_list, okn_dict, cIsi, tyT_n, tyT_b, tyT_i, tyT_s, tyT_r, V.ty.injEq, tSl, tPart, tNoPart, rSlF, gName, List.length_map, Int.reduceToNat, cpow18, Wd.s_inj, ws_num, ws_field, ws_add, ws_sub, ws_mul, ws_eq, ws_lt, ws_gt, ws_le, ws_ge, ws_and, ws_or, ws_not, rInTab, rIxTab, rCatH, rCat, rInT, cSortD, cMaxL, cMinL, rNeNilI, inV, flatV, List.any_cons, List.any_nil, List.all_cons, List.all_nil, eqV, Bool.and_true, Bool.and_false, Bool.true_and, Bool.false_and, Bool.or_false, Bool.false_or, Bool.or_true, Bool.true_or, Wd.beq_s, sz0, sz1, sz2, sz3, sz4, sz5, sz6, isc_eq, isc_lt, isc_gt, isc_le, isc_ge, isc_and, isc_or, isc_not, isl_and, isl_or, isl_not, rSetD, rUnion, rSortTx, rRep, tLc_eq, iRng1]
            by_cases hn : o = .not
            · simp only [tVar, tC, tOp, rI, rI0, rU, tTest, tB, tAnd, tOr, tNot, tAndV, tOrV, tNotV, tIf, tNil, tCons, tTup, tLst, tCB, tSeq, tAsg, gName, tRet, tRetN, tIfS, tNext, tDrop, tCall, tUn, tPar, CMul, CDiv, V.int.injEq, V.bl.injEq, V.ref.injEq, V.str.injEq, Option.some.injEq, List.cons.injEq, and_true, true_and, and_false, false_and, or_false, false_or, or_true, true_or, exists_eq_left', exists_eq_left, exists_and_left, exists_and_right, exists_eq', exists_eq, exists_false, exists_const, List.getElem?_cons_succ, List.getElem?_cons_zero, List.set_cons_succ, List.set_cons_zero, List.length_cons, List.length_nil, List.cons_append, List.nil_append, List.append_nil, reduceCtorEq, Int.reduceLT, Int.reduceLE, Int.reduceNeg, Int.reducePow, Int.reduceSub, Int.reduceAdd, Nat.reduceAdd, Nat.reduceLeDiff, Bool.not_true, Bool.not_false, decide_true, decide_false, Bool.false_eq_true, ↓reduceIte, upd_same, not_true_eq_false, not_false_eq_true, lsO_l, lsO_f, tpO_t, tpO_f, dkO_d, dkO_f, keyO_i, keyO_s, rIxH, rIxU, cLenL, cLenT, cListL, cListT, cTupL, cIntB, cAll, rEqNilI, rEq, rNe, scal_ii, scal_ss, scal_bb, scal_nn, scal_ni, scal_in, scal_ns, scal_sn, gSub, rSetL, ixs0, ixs1, ixs2, seq0, at0, at1, at2, at3, tBM, tBM0, rAppend, rPopAt, tyV_list, tGet2, tGetI, sPut, tMG, rTIdx, tyTup, tTupF, cx_K, cx_w, ex_map_int, ex_nil_int, ex_cons_int, List.map_cons, List.map_nil, List.isEmpty_nil, List.isEmpty_cons, List.eraseIdx_zero, List.tail_cons, List.eraseIdx_cons_zero, HO.lst.injEq, HO.tup.injEq, HO.dK.injEq, HO.frz.injEq, ne_eq, gTupH, gCons, gNil, wipe, tYes, upd_upd, and_assoc, List.getElem?_map, Option.map_some, isn_non_bool, isn_non_int, isn_non_str, isn_non_tuple, isn_non_list, isn_non_dict, isn_bl_bool, isn_bl_int, isn_bl_str, isn_bl_tuple, isn_bl_list, isn_bl_dict, isn_int_bool, isn_int_int, isn_int_str, isn_int_tuple, isn_int_list, isn_int_dict, isn_str_bool, isn_str_int, isn_str_str, isn_str_tuple, isn_str_list, isn_str_dict, isn_lst_bool, isn_lst_int, isn_lst_str, isn_lst_tuple, isn_lst_list, isn_lst_dict, isn_tup_bool, isn_tup_int, isn_tup_str, isn_tup_tuple, isn_tup_list, isn_tup_dict, isn_dct_bool, isn_dct_int, isn_dct_str, isn_dct_tuple, isn_dct_list, isn_dct_dict, okn_bool, okn_int, okn_str, okn_tuple, okn_list, okn_dict, cIsi, tyT_n, tyT_b, tyT_i, tyT_s, tyT_r, V.ty.injEq, tSl, tPart, tNoPart, rSlF, gName, List.length_map, Int.reduceToNat, cpow18, Wd.s_inj, ws_num, ws_field, ws_add, ws_sub, ws_mul, ws_eq, ws_lt, ws_gt, ws_le, ws_ge, ws_and, ws_or, ws_not, rInTab, rIxTab, rCatH, rCat, rInT, cSortD, cMaxL, cMinL, rNeNilI, inV, flatV, List.any_cons, List.any_nil, List.all_cons, List.all_nil, eqV, Bool.and_true, Bool.and_false, Bool.true_and, Bool.false_and, Bool.or_false, Bool.false_or, Bool.or_true, Bool.true_or, Wd.beq_s, sz0, sz1, sz2, sz3, sz4, sz5, sz6, isc_eq, isc_lt, isc_gt, isc_le, isc_ge, isc_and, isc_or, isc_not, isl_and, isl_or, isl_not, rSetD, rUnion, rSortTx, rRep, hn]
              subst hn
              refine main 1 (by decide) _ fun D H5 es el hes eD B5 k5 => ?_
              simp only [tVar, tC, tOp, rI, rI0, rU, tTest, tB, tAnd, tOr, tNot, tAndV, tOrV, tNotV, tIf, tNil, tCons, tTup, tLst, tCB, tSeq, tAsg, gName, tRet, tRetN, tIfS, tNext, tDrop, tCall, tUn, tPar, CMul, CDiv, V.int.injEq, V.bl.injEq, V.ref.injEq, V.str.injEq, Option.some.injEq, List.cons.injEq, and_true, true_and, and_false, false_and, or_false, false_or, or_true, true_or, exists_eq_left', exists_eq_left, exists_and_left, exists_and_right, exists_eq', exists_eq, exists_false, exists_const, List.getElem?_cons_succ, List.getElem?_cons_zero, List.set_cons_succ, List.set_cons_zero, List.length_cons, List.length_nil, List.cons_append, List.nil_append, List.append_nil, reduceCtorEq, Int.reduceLT, Int.reduceLE, Int.reduceNeg, Int.reducePow, Int.reduceSub, Int.reduceAdd, Nat.reduceAdd, Nat.reduceLeDiff, Bool.not_true, Bool.not_false, decide_true, decide_false, Bool.false_eq_true, ↓reduceIte, upd_same, not_true_eq_false, not_false_eq_true, lsO_l, lsO_f, tpO_t, tpO_f, dkO_d, dkO_f, keyO_i, keyO_s, rIxH, rIxU, cLenL, cLenT, cListL, cListT, cTupL, cIntB, cAll, rEqNilI, rEq, rNe, scal_ii, scal_ss, scal_bb, scal_nn, scal_ni, scal_in, scal_ns, scal_sn, gSub, rSetL, ixs0, ixs1, ixs2, seq0, at0, at1, at2, at3, tBM, tBM0, rAppend, rPopAt, tyV_list, tGet2, tGetI, sPut, tMG, rTIdx, tyTup, tTupF, cx_K, cx_w, ex_map_int, ex_nil_int, ex_cons_int, List.map_cons, List.map_nil, List.isEmpty_nil, List.isEmpty_cons, List.eraseIdx_zero, List.tail_cons, List.eraseIdx_cons_zero, HO.lst.injEq, HO.tup.injEq, HO.dK.injEq, HO.frz.injEq, ne_eq, gTupH, gCons, gNil, wipe, tYes, upd_upd, and_assoc, List.getElem?_map, Option.map_some, isn_non_bool, isn_non_int, isn_non_str, isn_non_tuple, isn_non_list, isn_non_dict, isn_bl_bool, isn_bl_int, isn_bl_str, isn_bl_tuple, isn_bl_list, isn_bl_dict, isn_int_bool, isn_int_int, isn_int_str, isn_int_tuple, isn_int_list, isn_int_dict, isn_str_bool, isn_str_int, isn_str_str, isn_str_tuple, isn_str_list, isn_str_dict, isn_lst_bool, isn_lst_int, isn_lst_str, isn_lst_tuple, isn_lst_list, isn_lst_dict, isn_tup_bool, isn_tup_int, isn_tup_str, isn_tup_tuple, isn_tup_list, isn_tup_dict, isn_dct_bool, isn_dct_int, isn_dct_str, isn_dct_tuple, isn_dct_list, isn_dct_dict, okn_bool, okn_int, okn_str, okn_tuple, okn_list, okn_dict, cIsi, tyT_n, tyT_b, tyT_i, tyT_s, tyT_r, V.ty.injEq, tSl, tPart, tNoPart, rSlF, gName, List.length_map, Int.reduceToNat, cpow18, Wd.s_inj, ws_num, ws_field, ws_add, ws_sub, ws_mul, ws_eq, ws_lt, ws_gt, ws_le, ws_ge, ws_and, ws_or, ws_not, rInTab, rIxTab, rCatH, rCat, rInT, cSortD, cMaxL, cMinL, rNeNilI, inV, flatV, List.any_cons, List.any_nil, List.all_cons, List.all_nil, eqV, Bool.and_true, Bool.and_false, Bool.true_and, Bool.false_and, Bool.or_false, Bool.false_or, Bool.or_true, Bool.true_or, Wd.beq_s, sz0, sz1, sz2, sz3, sz4, sz5, sz6, isc_eq, isc_lt, isc_gt, isc_le, isc_ge, isc_and, isc_or, isc_not, isl_and, isl_or, isl_not, rSetD, rUnion, rSortTx, rRep, eD]
              intro q hq
              exact fin 1 rfl D H5 es el hes eD B5 k5 q hq
            · simp only [tVar, tC, tOp, rI, rI0, rU, tTest, tB, tAnd, tOr, tNot, tAndV, tOrV, tNotV, tIf, tNil, tCons, tTup, tLst, tCB, tSeq, tAsg, gName, tRet, tRetN, tIfS, tNext, tDrop, tCall, tUn, tPar, CMul, CDiv, V.int.injEq, V.bl.injEq, V.ref.injEq, V.str.injEq, Option.some.injEq, List.cons.injEq, and_true, true_and, and_false, false_and, or_false, false_or, or_true, true_or, exists_eq_left', exists_eq_left, exists_and_left, exists_and_right, exists_eq', exists_eq, exists_false, exists_const, List.getElem?_cons_succ, List.getElem?_cons_zero, List.set_cons_succ, List.set_cons_zero, List.length_cons, List.length_nil, List.cons_append, List.nil_append, List.append_nil, reduceCtorEq, Int.reduceLT, Int.reduceLE, Int.reduceNeg, Int.reducePow, Int.reduceSub, Int.reduceAdd, Nat.reduceAdd, Nat.reduceLeDiff, Bool.not_true, Bool.not_false, decide_true, decide_false, Bool.false_eq_true, ↓reduceIte, upd_same, not_true_eq_false, not_false_eq_true, lsO_l, lsO_f, tpO_t, tpO_f, dkO_d, dkO_f, keyO_i, keyO_s, rIxH, rIxU, cLenL, cLenT, cListL, cListT, cTupL, cIntB, cAll, rEqNilI, rEq, rNe, scal_ii, scal_ss, scal_bb, scal_nn, scal_ni, scal_in, scal_ns, scal_sn, gSub, rSetL, ixs0, ixs1, ixs2, seq0, at0, at1, at2, at3, tBM, tBM0, rAppend, rPopAt, tyV_list, tGet2, tGetI, sPut, tMG, rTIdx, tyTup, tTupF, cx_K, cx_w, ex_map_int, ex_nil_int, ex_cons_int, List.map_cons, List.map_nil, List.isEmpty_nil, List.isEmpty_cons, List.eraseIdx_zero, List.tail_cons, List.eraseIdx_cons_zero, HO.lst.injEq, HO.tup.injEq, HO.dK.injEq, HO.frz.injEq, ne_eq, gTupH, gCons, gNil, wipe, tYes, upd_upd, and_assoc, List.getElem?_map, Option.map_some, isn_non_bool, isn_non_int, isn_non_str, isn_non_tuple, isn_non_list, isn_non_dict, isn_bl_bool, isn_bl_int, isn_bl_str, isn_bl_tuple, isn_bl_list, isn_bl_dict, isn_int_bool, isn_int_int, isn_int_str, isn_int_tuple, isn_int_list, isn_int_dict, isn_str_bool, isn_str_int, isn_str_str, isn_str_tuple, isn_str_list, isn_str_dict, isn_lst_bool, isn_lst_int, isn_lst_str, isn_lst_tuple, isn_lst_list, isn_lst_dict, isn_tup_bool, isn_tup_int, isn_tup_str, isn_tup_tuple, isn_tup_list, isn_tup_dict, isn_dct_bool, isn_dct_int, isn_dct_str, isn_dct_tuple, isn_dct_list, isn_dct_dict, okn_bool, okn_int, okn_str, okn_tuple, okn_list, okn_dict, cIsi, tyT_n, tyT_b, tyT_i, tyT_s, tyT_r, V.ty.injEq, tSl, tPart, tNoPart, rSlF, gName, List.length_map, Int.reduceToNat, cpow18, Wd.s_inj, ws_num, ws_field, ws_add, ws_sub, ws_mul, ws_eq, ws_lt, ws_gt, ws_le, ws_ge, ws_and, ws_or, ws_not, rInTab, rIxTab, rCatH, rCat, rInT, cSortD, cMaxL, cMinL, rNeNilI, inV, flatV, List.any_cons, List.any_nil, List.all_cons, List.all_nil, eqV, Bool.and_true, Bool.and_false, Bool.true_and, Bool.false_and, Bool.or_false, Bool.false_or, Bool.or_true, Bool.true_or, Wd.beq_s, sz0, sz1, sz2, sz3, sz4, sz5, sz6, isc_eq, isc_lt, isc_gt, isc_le, isc_ge, isc_and, isc_or, isc_not, isl_and, isl_or, isl_not, rSetD, rUnion, rSortTx, rRep, hn]
              refine main 2 (by decide) _ fun D H5 es el hes eD B5 k5 => ?_
              simp only [tVar, tC, tOp, rI, rI0, rU, tTest, tB, tAnd, tOr, tNot, tAndV, tOrV, tNotV, tIf, tNil, tCons, tTup, tLst, tCB, tSeq, tAsg, gName, tRet, tRetN, tIfS, tNext, tDrop, tCall, tUn, tPar, CMul, CDiv, V.int.injEq, V.bl.injEq, V.ref.injEq, V.str.injEq, Option.some.injEq, List.cons.injEq, and_true, true_and, and_false, false_and, or_false, false_or, or_true, true_or, exists_eq_left', exists_eq_left, exists_and_left, exists_and_right, exists_eq', exists_eq, exists_false, exists_const, List.getElem?_cons_succ, List.getElem?_cons_zero, List.set_cons_succ, List.set_cons_zero, List.length_cons, List.length_nil, List.cons_append, List.nil_append, List.append_nil, reduceCtorEq, Int.reduceLT, Int.reduceLE, Int.reduceNeg, Int.reducePow, Int.reduceSub, Int.reduceAdd, Nat.reduceAdd, Nat.reduceLeDiff, Bool.not_true, Bool.not_false, decide_true, decide_false, Bool.false_eq_true, ↓reduceIte, upd_same, not_true_eq_false, not_false_eq_true, lsO_l, lsO_f, tpO_t, tpO_f, dkO_d, dkO_f, keyO_i, keyO_s, rIxH, rIxU, cLenL, cLenT, cListL, cListT, cTupL, cIntB, cAll, rEqNilI, rEq, rNe, scal_ii, scal_ss, scal_bb, scal_nn, scal_ni, scal_in, scal_ns, scal_sn, gSub, rSetL, ixs0, ixs1, ixs2, seq0, at0, at1, at2, at3, tBM, tBM0, rAppend, rPopAt, tyV_list, tGet2, tGetI, sPut, tMG, rTIdx, tyTup, tTupF, cx_K, cx_w, ex_map_int, ex_nil_int, ex_cons_int, List.map_cons, List.map_nil, List.isEmpty_nil, List.isEmpty_cons, List.eraseIdx_zero, List.tail_cons, List.eraseIdx_cons_zero, HO.lst.injEq, HO.tup.injEq, HO.dK.injEq, HO.frz.injEq, ne_eq, gTupH, gCons, gNil, wipe, tYes, upd_upd, and_assoc, List.getElem?_map, Option.map_some, isn_non_bool, isn_non_int, isn_non_str, isn_non_tuple, isn_non_list, isn_non_dict, isn_bl_bool, isn_bl_int, isn_bl_str, isn_bl_tuple, isn_bl_list, isn_bl_dict, isn_int_bool, isn_int_int, isn_int_str, isn_int_tuple, isn_int_list, isn_int_dict, isn_str_bool, isn_str_int, isn_str_str, isn_str_tuple, isn_str_list, isn_str_dict, isn_lst_bool, isn_lst_int, isn_lst_str, isn_lst_tuple, isn_lst_list, isn_lst_dict, isn_tup_bool, isn_tup_int, isn_tup_str, isn_tup_tuple, isn_tup_list, isn_tup_dict, isn_dct_bool, isn_dct_int, isn_dct_str, isn_dct_tuple, isn_dct_list, isn_dct_dict, okn_bool, okn_int, okn_str, okn_tuple, okn_list, okn_dict, cIsi, tyT_n, tyT_b, tyT_i, tyT_s, tyT_r, V.ty.injEq, tSl, tPart, tNoPart, rSlF, gName, List.length_map, Int.reduceToNat, cpow18, Wd.s_inj, ws_num, ws_field, ws_add, ws_sub, ws_mul, ws_eq, ws_lt, ws_gt, ws_le, ws_ge, ws_and, ws_or, ws_not, rInTab, rIxTab, rCatH, rCat, rInT, cSortD, cMaxL, cMinL, rNeNilI, inV, flatV, List.any_cons, List.any_nil, List.all_cons, List.all_nil, eqV, Bool.and_true, Bool.and_false, Bool.true_and, Bool.false_and, Bool.or_false, Bool.false_or, Bool.or_true, Bool.true_or, Wd.beq_s, sz0, sz1, sz2, sz3, sz4, sz5, sz6, isc_eq, isc_lt, isc_gt, isc_le, isc_ge, isc_and, isc_or, isc_not, isl_and, isl_or, isl_not, rSetD, rUnion, rSortTx, rRep, eD]
              intro q hq
              have q' := fin 2 (by rw [if_neg hn]) D H5 es el hes eD B5 k5 q hq
              rw [if_neg hn] at q'
              exact q'
          rintro σ' H5 ⟨q, es, rfl, el, hes, hq, B5, k5⟩
          simp only [tVar, tC, tOp, rI, rI0, rU, tTest, tB, tAnd, tOr, tNot, tAndV, tOrV, tNotV, tIf, tNil, tCons, tTup, tLst, tCB, tSeq, tAsg, gName, tRet, tRetN, tIfS, tNext, tDrop, tCall, tUn, tPar, CMul, CDiv, V.int.injEq, V.bl.injEq, V.ref.injEq, V.str.injEq, Option.some.injEq, List.cons.injEq, and_true, true_and, and_false, false_and, or_false, false_or, or_true, true_or, exists_eq_left', exists_eq_left, exists_and_left, exists_and_right, exists_eq', exists_eq, exists_false, exists_const, List.getElem?_cons_succ, List.getElem?_cons_zero, List.set_cons_succ, List.set_cons_zero, List.length_cons, List.length_nil, List.cons_append, List.nil_append, List.append_nil, reduceCtorEq, Int.reduceLT, Int.reduceLE, Int.reduceNeg, Int.reducePow, Int.reduceSub, Int.reduceAdd, Nat.reduceAdd, Nat.reduceLeDiff, Bool.not_true, Bool.not_false, decide_true, decide_false, Bool.false_eq_true, ↓reduceIte, upd_same, not_true_eq_false, not_false_eq_true, lsO_l, lsO_f, tpO_t, tpO_f, dkO_d, dkO_f, keyO_i, keyO_s, rIxH, rIxU, cLenL, cLenT, cListL, cListT, cTupL, cIntB, cAll, rEqNilI, rEq, rNe, scal_ii, scal_ss, scal_bb, scal_nn, scal_ni, scal_in, scal_ns, scal_sn, gSub, rSetL, ixs0, ixs1, ixs2, seq0, at0, at1, at2, at3, tBM, tBM0, rAppend, rPopAt, tyV_list, tGet2, tGetI, sPut, tMG, rTIdx, tyTup, tTupF, cx_K, cx_w, ex_map_int, ex_nil_int, ex_cons_int, List.map_cons, List.map_nil, List.isEmpty_nil, List.isEmpty_cons, List.eraseIdx_zero, List.tail_cons, List.eraseIdx_cons_zero, HO.lst.injEq, HO.tup.injEq, HO.dK.injEq, HO.frz.injEq, ne_eq, gTupH, gCons, gNil, wipe, tYes, upd_upd, and_assoc, List.getElem?_map, Option.map_some, isn_non_bool, isn_non_int, isn_non_str, isn_non_tuple, isn_non_list, isn_non_dict, isn_bl_bool, isn_bl_int, isn_bl_str, isn_bl_tuple, isn_bl_list, isn_bl_dict, isn_int_bool, isn_int_int, isn_int_str, isn_int_tuple, isn_int_list, isn_int_dict, isn_str_bool, isn_str_int, isn_str_str, isn_str_tuple, isn_str_list, isn_str_dict, isn_lst_bool, isn_lst_int, isn_lst_str, isn_lst_tuple, isn_lst_list, isn_lst_dict, isn_tup_bool, isn_tup_int, isn_tup_str, isn_tup_tuple, isn_tup_list, isn_tup_dict, isn_dct_bool, isn_dct_int, isn_dct_str, isn_dct_tuple, isn_dct_list, isn_dct_dict, okn_bool, okn_int, okn_str, okn_tuple, okn_list, okn_dict, cIsi, tyT_n, tyT_b, tyT_i, tyT_s, tyT_r, V.ty.injEq, tSl, tPart, tNoPart, rSlF, gName, List.length_map, Int.reduceToNat, cpow18, Wd.s_inj, ws_num, ws_field, ws_add, ws_sub, ws_mul, ws_eq, ws_lt, ws_gt, ws_le, ws_ge, ws_and, ws_or, ws_not, rInTab, rIxTab, rCatH, rCat, rInT, cSortD, cMaxL, cMinL, rNeNilI, inV, flatV, List.any_cons, List.any_nil, List.all_cons, List.all_nil, eqV, Bool.and_true, Bool.and_false, Bool.true_and, Bool.false_and, Bool.or_false, Bool.false_or, Bool.or_true, Bool.true_or, Wd.beq_s, sz0, sz1, sz2, sz3, sz4, sz5, sz6, isc_eq, isc_lt, isc_gt, isc_le, isc_ge, isc_and, isc_or, isc_not, isl_and, isl_or, isl_not, rSetD, rUnion, rSortTx, rRep]
          intro p hp
          have nq : q ≠ p := ne_of_none hq hp
          simp only [tVar, tC, tOp, rI, rI0, rU, tTest, tB, tAnd, tOr, tNot, tAndV, tOrV, tNotV, tIf, tNil, tCons, tTup, tLst, tCB, tSeq, tAsg, gName, tRet, tRetN, tIfS, tNext, tDrop, tCall, tUn, tPar, CMul, CDiv, V.int.injEq, V.bl.injEq, V.ref.injEq, V.str.injEq, Option.some.injEq, List.cons.injEq, and_true, true_and, and_false, false_and, or_false, false_or, or_true, true_or, exists_eq_left', exists_eq_left, exists_and_left, exists_and_right, exists_eq', exists_eq, exists_false, exists_const, List.getElem?_cons_succ, List.getElem?_cons_zero, List.set_cons_succ, List.set_cons_zero, List.length_cons, List.length_nil, List.cons_append, List.nil_append, List.append_nil, reduceCtorEq, Int.reduceLT, Int.reduceLE, Int.reduceNeg, Int.reducePow, Int.reduceSub, Int.reduceAdd, Nat.reduceAdd, Nat.reduceLeDiff, Bool.not_true, Bool.not_false, decide_true, decide_false, Bool.false_eq_true, ↓reduceIte, upd_same, not_true_eq_false, not_false_eq_true, lsO_l, lsO_f, tpO_t, tpO_f, dkO_d, dkO_f, keyO_i, keyO_s, rIxH, rIxU, cLenL, cLenT, cListL, cListT, cTupL, cIntB, cAll, rEqNilI, rEq, rNe, scal_ii, scal_ss, scal_bb, scal_nn, scal_ni, scal_in, scal_ns, scal_sn, gSub, rSetL, ixs0, ixs1, ixs2, seq0, at0, at1, at2, at3, tBM, tBM0, rAppend, rPopAt, tyV_list, tGet2, tGetI, sPut, tMG, rTIdx, tyTup, tTupF, cx_K, cx_w, ex_map_int, ex_nil_int, ex_cons_int, List.map_cons, List.map_nil, List.isEmpty_nil, List.isEmpty_cons, List.eraseIdx_zero, List.tail_cons, List.eraseIdx_cons_zero, HO.lst.injEq, HO.tup.injEq, HO.dK.injEq, HO.frz.injEq, ne_eq, gTupH, gCons, gNil, wipe, tYes, upd_upd, and_assoc, List.getElem?_map, Option.map_some, isn_non_bool, isn_non_int, isn_non_str, isn_non_tuple, isn_non_list, isn_non_dict, isn_bl_bool, isn_bl_int, isn_bl_str, isn_bl_tuple, isn_bl_list, isn_bl_dict, isn_int_bool, isn_int_int, isn_int_str, isn_int_tuple, isn_int_list, isn_int_dict, isn_str_bool, isn_str_int, isn_str_str, isn_str_tuple, isn_str_list, isn_str_dict, isn_lst_bool, isn_lst_int, isn_lst_str, isn_lst_tuple, isn_lst_list, isn_lst_dict, isn_tup_bool, isn_tup_int, isn_tup_str, isn_tup_tuple, isn_tup_list, isn_tup_dict, isn_dct_bool, isn_dct_int, isn_dct_str, isn_dct_tuple, isn_dct_list, isn_dct_dict, okn_bool, okn_int, okn_str, okn_tuple, okn_list, okn_dict, cIsi, tyT_n, tyT_b, tyT_i, tyT_s, tyT_r, V.ty.injEq, tSl, tPart, tNoPart, rSlF, gName, List.length_map, Int.reduceToNat, cpow18, Wd.s_inj, ws_num, ws_field, ws_add, ws_sub, ws_mul, ws_eq, ws_lt, ws_gt, ws_le, ws_ge, ws_and, ws_or, ws_not, rInTab, rIxTab, rCatH, rCat, rInT, cSortD, cMaxL, cMinL, rNeNilI, inV, flatV, List.any_cons, List.any_nil, List.all_cons, List.all_nil, eqV, Bool.and_true, Bool.and_false, Bool.true_and, Bool.false_and, Bool.or_false, Bool.false_or, Bool.or_true, Bool.true_or, Wd.beq_s, sz0, sz1, sz2, sz3, sz4, sz5, sz6, isc_eq, isc_lt, isc_gt, isc_le, isc_ge, isc_and, isc_or, isc_not, isl_and, isl_or, isl_not, rSetD, rUnion, rSortTx, rRep, upd_ne nq, hq]
          rcases ho with rfl | ho
          · rw [if_pos rfl] at el
            obtain ⟨e1, rfl⟩ : ∃ e1, es = [e1] := by
              match es, el with
              | [e1], _ => exact ⟨e1, rfl⟩
            simp only [tVar, tC, tOp, rI, rI0, rU, tTest, tB, tAnd, tOr, tNot, tAndV, tOrV, tNotV, tIf, tNil, tCons, tTup, tLst, tCB, tSeq, tAsg, gName, tRet, tRetN, tIfS, tNext, tDrop, tCall, tUn, tPar, CMul, CDiv, V.int.injEq, V.bl.injEq, V.ref.injEq, V.str.injEq, Option.some.injEq, List.cons.injEq, and_true, true_and, and_false, false_and, or_false, false_or, or_true, true_or, exists_eq_left', exists_eq_left, exists_and_left, exists_and_right, exists_eq', exists_eq, exists_false, exists_const, List.getElem?_cons_succ, List.getElem?_cons_zero, List.set_cons_succ, List.set_cons_zero, List.length_cons, List.length_nil, List.cons_append, List.nil_append, List.append_nil, reduceCtorEq, Int.reduceLT, Int.reduceLE, Int.reduceNeg, Int.reducePow, Int.reduceSub, Int.reduceAdd, Nat.reduceAdd, Nat.reduceLeDiff, Bool.not_true, Bool.not_false, decide_true, decide_false, Bool.false_eq_true, ↓reduceIte, upd_same, not_true_eq_false, not_false_eq_true, lsO_l, lsO_f, tpO_t, tpO_f, dkO_d, dkO_f, keyO_i, keyO_s, rIxH, rIxU, cLenL, cLenT, cListL, cListT, cTupL, cIntB, cAll, rEqNilI, rEq, rNe, scal_ii, scal_ss, scal_bb, scal_nn, scal_ni, scal_in, scal_ns, scal_sn, gSub, rSetL, ixs0, ixs1, ixs2, seq0, at0, at1, at2, at3, tBM, tBM0, rAppend, rPopAt, tyV_list, tGet2, tGetI, sPut, tMG, rTIdx, tyTup, tTupF, cx_K, cx_w, ex_map_int, ex_nil_int, ex_cons_int, List.map_cons, List.map_nil, List.isEmpty_nil, List.isEmpty_cons, List.eraseIdx_zero, List.tail_cons, List.eraseIdx_cons_zero, HO.lst.injEq, HO.tup.injEq, HO.dK.injEq, HO.frz.injEq, ne_eq, gTupH, gCons, gNil, wipe, tYes, upd_upd, and_assoc, List.getElem?_map, Option.map_some, isn_non_bool, isn_non_int, isn_non_str, isn_non_tuple, isn_non_list, isn_non_dict, isn_bl_bool, isn_bl_int, isn_bl_str, isn_bl_tuple, isn_bl_list, isn_bl_dict, isn_int_bool, isn_int_int, isn_int_str, isn_int_tuple, isn_int_list, isn_int_dict, isn_str_bool, isn_str_int, isn_str_str, isn_str_tuple, isn_str_list, isn_str_dict, isn_lst_bool, isn_lst_int, isn_lst_str, isn_lst_tuple, isn_lst_list, isn_lst_dict, isn_tup_bool, isn_tup_int, isn_tup_str, isn_tup_tuple, isn_tup_list, isn_tup_dict, isn_dct_bool, isn_dct_int, isn_dct_str, isn_dct_tuple, isn_dct_list, isn_dct_dict, okn_bool, okn_int, okn_str, okn_tuple, okn_list, okn_dict, cIsi, tyT_n, tyT_b, tyT_i, tyT_s, tyT_r, V.ty.injEq, tSl, tPart, tNoPart, rSlF, gName, List.length_map, Int.reduceToNat, cpow18, Wd.s_inj, ws_num, ws_field, ws_add, ws_sub, ws_mul, ws_eq, ws_lt, ws_gt, ws_le, ws_ge, ws_and, ws_or, ws_not, rInTab, rIxTab, rCatH, rCat, rInT, cSortD, cMaxL, cMinL, rNeNilI, inV, flatV, List.any_cons, List.any_nil, List.all_cons, List.all_nil, eqV, Bool.and_true, Bool.and_false, Bool.true_and, Bool.false_and, Bool.or_false, Bool.false_or, Bool.or_true, Bool.true_or, Wd.beq_s, sz0, sz1, sz2, sz3, sz4, sz5, sz6, isc_eq, isc_lt, isc_gt, isc_le, isc_ge, isc_and, isc_or, isc_not, isl_and, isl_or, isl_not, rSetD, rUnion, rSortTx, rRep]
            intro z hz
            obtain ⟨x1, g1⟩ := hes e1 (by simp)
            refine k _ (.neg e1.2) _ ⟨z, _, rfl, upd_same, x1.tups (TupS.ofSame ((same_new hp).trans (same_new hz)))⟩ ⟨g1.ok, g1.lim, Nat.succ_le_succ g1.high, Nat.le_trans g1.few (Nat.pow_le_pow_right (by decide) (Nat.le_succ e))⟩ ((B5.same (same_new hp)).same (same_new hz)) ((k5.thenNew hp).thenNew hz)
          · have hn : o ≠ .not := by rintro rfl; cases ho
            rw [if_neg hn] at el
            obtain ⟨e1, e2, rfl⟩ : ∃ e1 e2, es = [e1, e2] := by
              match es, el with
              | [e1, e2], _ => exact ⟨e1, e2, rfl⟩
            simp only [tVar, tC, tOp, rI, rI0, rU, tTest, tB, tAnd, tOr, tNot, tAndV, tOrV, tNotV, tIf, tNil, tCons, tTup, tLst, tCB, tSeq, tAsg, gName, tRet, tRetN, tIfS, tNext, tDrop, tCall, tUn, tPar, CMul, CDiv, V.int.injEq, V.bl.injEq, V.ref.injEq, V.str.injEq, Option.some.injEq, List.cons.injEq, and_true, true_and, and_false, false_and, or_false, false_or, or_true, true_or, exists_eq_left', exists_eq_left, exists_and_left, exists_and_right, exists_eq', exists_eq, exists_false, exists_const, List.getElem?_cons_succ, List.getElem?_cons_zero, List.set_cons_succ, List.set_cons_zero, List.length_cons, List.length_nil, List.cons_append, List.nil_append, List.append_nil, reduceCtorEq, Int.reduceLT, Int.reduceLE, Int.reduceNeg, Int.reducePow, Int.reduceSub, Int.reduceAdd, Nat.reduceAdd, Nat.reduceLeDiff, Bool.not_true, Bool.not_false, decide_true, decide_false, Bool.false_eq_true, ↓reduceIte, upd_same, not_true_eq_false, not_false_eq_true, lsO_l, lsO_f, tpO_t, tpO_f, dkO_d, dkO_f, keyO_i, keyO_s, rIxH, rIxU, cLenL, cLenT, cListL, cListT, cTupL, cIntB, cAll, rEqNilI, rEq, rNe, scal_ii, scal_ss, scal_bb, scal_nn, scal_ni, scal_in, scal_ns, scal_sn, gSub, rSetL, ixs0, ixs1, ixs2, seq0, at0, at1, at2, at3, tBM, tBM0, rAppend, rPopAt, tyV_list, tGet2, tGetI, sPut, tMG, rTIdx, tyTup, tTupF, cx_K, cx_w, ex_map_int, ex_nil_int, ex_cons_int, List.map_cons, List.map_nil, List.isEmpty_nil, List.isEmpty_cons, List.eraseIdx_zero, List.tail_cons, List.eraseIdx_cons_zero, HO.lst.injEq, HO.tup.injEq, HO.dK.injEq, HO.frz.injEq, ne_eq, gTupH, gCons, gNil, wipe, tYes, upd_upd, and_assoc, List.getElem?_map, Option.map_some, isn_non_bool, isn_non_int, isn_non_str, isn_non_tuple, isn_non_list, isn_non_dict, isn_bl_bool, isn_bl_int, isn_bl_str, isn_bl_tuple, isn_bl_list, isn_bl_dict, isn_int_bool, isn_int_int, isn_int_str, isn_int_tuple, isn_int_list, isn_int_dict, isn_str_bool, isn_str_int, isn_str_str, isn_str_tuple, isn_str_list, isn_str_dict, isn_lst_bool, isn_lst_int, isn_lst_str, isn_lst_tuple, isn_lst_list, isn_lst_dict, isn_tup_bool, isn_tup_int, isn_tup_str, isn_tup_tuple, isn_tup_list, isn_tup_dict, isn_dct_bool, isn_dct_int, isn_dct_str, isn_dct_tuple, isn_dct_list, isn_dct_dict, okn_bool, okn_int, okn_str, okn_tuple, okn_list, okn_dict, cIsi, tyT_n, tyT_b, tyT_i, tyT_s, tyT_r, V.ty.injEq, tSl, tPart, tNoPart, rSlF, gName, List.length_map, Int.reduceToNat, cpow18, Wd.s_inj, ws_num, ws_field, ws_add, ws_sub, ws_mul, ws_eq, ws_lt, ws_gt, ws_le, ws_ge, ws_and, ws_or, ws_not, rInTab, rIxTab, rCatH, rCat, rInT, cSortD, cMaxL, cMinL, rNeNilI, inV, flatV, List.any_cons, List.any_nil, List.all_cons, List.all_nil, eqV, Bool.and_true, Bool.and_false, Bool.true_and, Bool.false_and, Bool.or_false, Bool.false_or, Bool.or_true, Bool.true_or, Wd.beq_s, sz0, sz1, sz2, sz3, sz4, sz5, sz6, isc_eq, isc_lt, isc_gt, isc_le, isc_ge, isc_and, isc_or, isc_not, isl_and, isl_or, isl_not, rSetD, rUnion, rSortTx, rRep]
            intro z hz
            obtain ⟨x1, g1⟩ := hes e1 (by simp)
            obtain ⟨x2, g2⟩ := hes e2 (by simp)
            have st := TupS.ofSame ((same_new (o := .tup [.str o.s]) hp).trans (same_new (o := .tup [.str o.s, e1.1, e2.1]) hz))
            refine k _ (.con o e1.2 e2.2) _ ⟨z, _, _, rfl, upd_same, x1.tups st, x2.tups st⟩ ⟨?_, ⟨g1.lim, g2.lim⟩, ?_, ?_⟩ ((B5.same (same_new hp)).same (same_new hz)) ((k5.thenNew hp).thenNew hz)
            · simp only [Cd.ok, ho, g1.ok, g2.ok, Bool.and_true]
            · have := g1.high
              have := g2.high
              simp only [Cd.high]; omega
            · have := g1.few
              have := g2.few
              simp only [Cd.leaves, Nat.pow_succ]; omega
        · simp only [tVar, tC, tOp, rI, rI0, rU, tTest, tB, tAnd, tOr, tNot, tAndV, tOrV, tNotV, tIf, tNil, tCons, tTup, tLst, tCB, tSeq, tAsg, gName, tRet, tRetN, tIfS, tNext, tDrop, tCall, tUn, tPar, CMul, CDiv, V.int.injEq, V.bl.injEq, V.ref.injEq, V.str.injEq, Option.some.injEq, List.cons.injEq, and_true, true_and, and_false, false_and, or_false, false_or, or_true, true_or, exists_eq_left', exists_eq_left, exists_and_left, exists_and_right, exists_eq', exists_eq, exists_false, exists_const, List.getElem?_cons_succ, List.getElem?_cons_zero, List.set_cons_succ, List.set_cons_zero, List.length_cons, List.length_nil, List.cons_append, List.nil_append, List.append_nil, reduceCtorEq, Int.reduceLT, Int.reduceLE, Int.reduceNeg, Int.reducePow, Int.reduceSub, Int.reduceAdd, Nat.reduceAdd, Nat.reduceLeDiff, Bool.not_true, Bool.not_false, decide_true, decide_false, Bool.false_eq_true, ↓reduceIte, upd_same, not_true_eq_false, not_false_eq_true, lsO_l, lsO_f, tpO_t, tpO_f, dkO_d, dkO_f, keyO_i, keyO_s, rIxH, rIxU, cLenL, cLenT, cListL, cListT, cTupL, cIntB, cAll, rEqNilI, rEq, rNe, scal_ii, scal_ss, scal_bb, scal_nn, scal_ni, scal_in, scal_ns, scal_sn, gSub, rSetL, ixs0, ixs1, ixs2, seq0, at0, at1, at2, at3, tBM, tBM0, rAppend, rPopAt, tyV_list, tGet2, tGetI, sPut, tMG, rTIdx, tyTup, tTupF, cx_K, cx_w, ex_map_int, ex_nil_int, ex_cons_int, List.map_cons, List.map_nil, List.isEmpty_nil, List.isEmpty_cons, List.eraseIdx_zero, List.tail_cons, List.eraseIdx_cons_zero, HO.lst.injEq, HO.tup.injEq, HO.dK.injEq, HO.frz.injEq, ne_eq, gTupH, gCons, gNil, wipe, tYes, upd_upd, and_assoc, List.getElem?_map, Option.map_some, isn_non_bool, isn_non_int, isn_non_str, isn_non_tuple, isn_non_list, isn_non_dict, isn_bl_bool, isn_bl_int, isn_bl_str, isn_bl_tuple, isn_bl_list, isn_bl_dict, isn_int_bool, isn_int_int, isn_int_str, isn_int_tuple, isn_int_list, isn_int_dict, isn_str_bool, isn_str_int, isn_str_str, isn_str_tuple, isn_str_list, isn_str_dict, isn_lst_bool, isn_lst_int, isn_lst_str, isn_lst_tuple, isn_lst_list, isn_lst_dict, isn_tup_bool, isn_tup_int, isn_tup_str, isn_tup_tuple, isn_tup_list, isn_tup_dict, isn_dct_bool, isn_dct_int, isn_dct_str, isn_dct_tuple, isn_dct_list, isn_dct_dict, okn_bool, okn_int, okn_str, okn_tuple, okn_list, okn_dict, cIsi, tyT_n, tyT_b, tyT_i, tyT_s, tyT_r, V.ty.injEq, tSl, tPart, tNoPart, rSlF, gName, List.length_map, Int.reduceToNat, cpow18, Wd.s_inj, ws_num, ws_field, ws_add, ws_sub, ws_mul, ws_eq, ws_lt, ws_gt, ws_le, ws_ge, ws_and, ws_or, ws_not, rInTab, rIxTab, rCatH, rCat, rInT, cSortD, cMaxL, cMinL, rNeNilI, inV, flatV, List.any_cons, List.any_nil, List.all_cons, List.all_nil, eqV, Bool.and_true, Bool.and_false, Bool.true_and, Bool.false_and, Bool.or_false, Bool.false_or, Bool.or_true, Bool.true_or, Wd.beq_s, sz0, sz1, sz2, sz3, sz4, sz5, sz6, isc_eq, isc_lt, isc_gt, isc_le, isc_ge, isc_and, isc_or, isc_not, isl_and, isl_or, isl_not, rSetD, rUnion, rSortTx, rRep, c2]
      · simp only [tVar, tC, tOp, rI, rI0, rU, tTest, tB, tAnd, tOr, tNot, tAndV, tOrV, tNotV, tIf, tNil, tCons, tTup, tLst, tCB, tSeq, tAsg, gName, tRet, tRetN, tIfS, tNext, tDrop, tCall, tUn, tPar, CMul, CDiv, V.int.injEq, V.bl.injEq, V.ref.injEq, V.str.injEq, Option.some.injEq, List.cons.injEq, and_true, true_and, and_false, false_and, or_false, false_or, or_true, true_or, exists_eq_left', exists_eq_left, exists_and_left, exists_and_right, exists_eq', exists_eq, exists_false, exists_const, List.getElem?_cons_succ, List.getElem?_cons_zero, List.set_cons_succ, List.set_cons_zero, List.length_cons, List.length_nil, List.cons_append, List.nil_append, List.append_nil, reduceCtorEq, Int.reduceLT, Int.reduceLE, Int.reduceNeg, Int.reducePow, Int.reduceSub, Int.reduceAdd, Nat.reduceAdd, Nat.reduceLeDiff, Bool.not_true, Bool.not_false, decide_true, decide_false, Bool.false_eq_true, ↓reduceIte, upd_same, not_true_eq_false, not_false_eq_true, lsO_l, lsO_f, tpO_t, tpO_f, dkO_d, dkO_f, keyO_i, keyO_s, rIxH, rIxU, cLenL, cLenT, cListL, cListT, cTupL, cIntB, cAll, rEqNilI, rEq, rNe, scal_ii, scal_ss, scal_bb, scal_nn, scal_ni, scal_in, scal_ns, scal_sn, gSub, rSetL, ixs0, ixs1, ixs2, seq0, at0, at1, at2, at3, tBM, tBM0, rAppend, rPopAt, tyV_list, tGet2, tGetI, sPut, tMG, rTIdx, tyTup, tTupF, cx_K, cx_w, ex_map_int, ex_nil_int, ex_cons_int, List.map_cons, List.map_nil, List.isEmpty_nil, List.isEmpty_cons, List.eraseIdx_zero, List.tail_cons, List.eraseIdx_cons_zero, HO.lst.injEq, HO.tup.injEq, HO.dK.injEq, HO.frz.injEq, ne_eq, gTupH, gCons, gNil, wipe, tYes, upd_upd, and_assoc, List.getElem?_map, Option.map_some, isn_non_bool, isn_non_int, isn_non_str, isn_non_tuple, isn_non_list, isn_non_dict, isn_bl_bool, isn_bl_int, isn_bl_str, isn_bl_tuple, isn_bl_list, isn_bl_dict, isn_int_bool, isn_int_int, isn_int_str, isn_int_tuple, isn_int_list, isn_int_dict, isn_str_bool, isn_str_int, isn_str_str, isn_str_tuple, isn_str_list, isn_str_dict, isn_lst_bool, isn_lst_int, isn_lst_str, isn_lst_tuple, isn_lst_list, isn_lst_dict, isn_tup_bool, isn_tup_int, isn_tup_str, isn_tup_tuple, isn_tup_list, isn_tup_dict, isn_dct_bool, isn_dct_int, isn_dct_str, isn_dct_tuple, isn_dct_list, isn_dct_dict, okn_bool, okn_int, okn_str, okn_tuple, okn_list, okn_dict, cIsi, tyT_n, tyT_b, tyT_i, tyT_s, tyT_r, V.ty.injEq, tSl, tPart, tNoPart, rSlF, gName, List.length_map, Int.reduceToNat, cpow18, Wd.s_inj, ws_num, ws_field, ws_add, ws_sub, ws_mul, ws_eq, ws_lt, ws_gt, ws_le, ws_ge, ws_and, ws_or, ws_not, rInTab, rIxTab, rCatH, rCat, rInT, cSortD, cMaxL, cMinL, rNeNilI, inV, flatV, List.any_cons, List.any_nil, List.all_cons, List.all_nil, eqV, Bool.and_true, Bool.and_false, Bool.true_and, Bool.false_and, Bool.or_false, Bool.false_or, Bool.or_true, Bool.true_or, Wd.beq_s, sz0, sz1, sz2, sz3, sz4, sz5, sz6, isc_eq, isc_lt, isc_gt, isc_le, isc_ge, isc_and, isc_or, isc_not, isl_and, isl_or, isl_not, rSetD, rUnion, rSortTx, rRep, c]
    rintro σ' H2 ⟨rfl, rfl⟩
    refine ⟨fun σ' H2 => ∃ o : Wd, σ' = [some (.ref h), some (.ref fa), some (.int (d : Int)), some (.int r), some (.str o.s), none, none, none, none] ∧ o.isCmp = true ∧ BoxB H2 h l ∧ Keep [h, l] H H2, ?_, ?_⟩
    · simp only [tVar, tC, tOp, rI, rI0, rU, tTest, tB, tAnd, tOr, tNot, tAndV, tOrV, tNotV, tIf, tNil, tCons, tTup, tLst, tCB, tSeq, tAsg, gName, tRet, tRetN, tIfS, tNext, tDrop, tCall, tUn, tPar, CMul, CDiv, V.int.injEq, V.bl.injEq, V.ref.injEq, V.str.injEq, Option.some.injEq, List.cons.injEq, and_true, true_and, and_false, false_and, or_false, false_or, or_true, true_or, exists_eq_left', exists_eq_left, exists_and_left, exists_and_right, exists_eq', exists_eq, exists_false, exists_const, List.getElem?_cons_succ, List.getElem?_cons_zero, List.set_cons_succ, List.set_cons_zero, List.length_cons, List.length_nil, List.cons_append, List.nil_append, List.append_nil, reduceCtorEq, Int.reduceLT, Int.reduceLE, Int.reduceNeg, Int.reducePow, Int.reduceSub, Int.reduceAdd, Nat.reduceAdd, Nat.reduceLeDiff, Bool.not_true, Bool.not_false, decide_true, decide_false, Bool.false_eq_true, ↓reduceIte, upd_same, not_true_eq_false, not_false_eq_true, lsO_l, lsO_f, tpO_t, tpO_f, dkO_d, dkO_f, keyO_i, keyO_s, rIxH, rIxU, cLenL, cLenT, cListL, cListT, cTupL, cIntB, cAll, rEqNilI, rEq, rNe, scal_ii, scal_ss, scal_bb, scal_nn, scal_ni, scal_in, scal_ns, scal_sn, gSub, rSetL, ixs0, ixs1, ixs2, seq0, at0, at1, at2, at3, tBM, tBM0, rAppend, rPopAt, tyV_list, tGet2, tGetI, sPut, tMG, rTIdx, tyTup, tTupF, cx_K, cx_w, ex_map_int, ex_nil_int, ex_cons_int, List.map_cons, List.map_nil, List.isEmpty_nil, List.isEmpty_cons, List.eraseIdx_zero, List.tail_cons, List.eraseIdx_cons_zero, HO.lst.injEq, HO.tup.injEq, HO.dK.injEq, HO.frz.injEq, ne_eq, gTupH, gCons, gNil, wipe, tYes, upd_upd, and_assoc, List.getElem?_map, Option.map_some, isn_non_bool, isn_non_int, isn_non_str, isn_non_tuple, isn_non_list, isn_non_dict, isn_bl_bool, isn_bl_int, isn_bl_str, isn_bl_tuple, isn_bl_list, isn_bl_dict, isn_int_bool, isn_int_int, isn_int_str, isn_int_tuple, isn_int_list, isn_int_dict, isn_str_bool, isn_str_int, isn_str_str, isn_str_tuple, isn_str_list, isn_str_dict, isn_lst_bool, isn_lst_int, isn_lst_str, isn_lst_tuple, isn_lst_list, isn_lst_dict, isn_tup_bool, isn_tup_int, isn_tup_str, isn_tup_tuple, isn_tup_list, isn_tup_dict, isn_dct_bool, isn_dct_int, isn_dct_str, isn_dct_tuple, isn_dct_list, isn_dct_dict, okn_bool, okn_int, okn_str, okn_tuple, okn_list, okn_dict, cIsi, tyT_n, tyT_b, tyT_i, tyT_s, tyT_r, V.ty.injEq, tSl, tPart, tNoPart, rSlF, gName, List.length_map, Int.reduceToNat, cpow18, Wd.s_inj, ws_num, ws_field, ws_add, ws_sub, ws_mul, ws_eq, ws_lt, ws_gt, ws_le, ws_ge, ws_and, ws_or, ws_not, rInTab, rIxTab, rCatH, rCat, rInT, cSortD, cMaxL, cMinL, rNeNilI, inV, flatV, List.any_cons, List.any_nil, List.all_cons, List.all_nil, eqV, Bool.and_true, Bool.and_false, Bool.true_and, Bool.false_and, Bool.or_false, Bool.false_or, Bool.or_true, Bool.true_or, Wd.beq_s, sz0, sz1, sz2, sz3, sz4, sz5, sz6, isc_eq, isc_lt, isc_gt, isc_le, isc_ge, isc_and, isc_or, isc_not, isl_and, isl_or, isl_not, rSetD, rUnion, rSortTx, rRep]
      intro p hp
      refine ⟨h, l, 5, rfl, B1.same (same_new hp), by decide, by decide, fun r2 H3 a0 a1 B3 k3 => ?_⟩
      have e3 := k3 _ _ (B1.free hp) upd_same
      simp only [tVar, tC, tOp, rI, rI0, rU, tTest, tB, tAnd, tOr, tNot, tAndV, tOrV, tNotV, tIf, tNil, tCons, tTup, tLst, tCB, tSeq, tAsg, gName, tRet, tRetN, tIfS, tNext, tDrop, tCall, tUn, tPar, CMul, CDiv, V.int.injEq, V.bl.injEq, V.ref.injEq, V.str.injEq, Option.some.injEq, List.cons.injEq, and_true, true_and, and_false, false_and, or_false, false_or, or_true, true_or, exists_eq_left', exists_eq_left, exists_and_left, exists_and_right, exists_eq', exists_eq, exists_false, exists_const, List.getElem?_cons_succ, List.getElem?_cons_zero, List.set_cons_succ, List.set_cons_zero, List.length_cons, List.length_nil, List.cons_append, List.nil_append, List.append_nil, reduceCtorEq, Int.reduceLT, Int.reduceLE, Int.reduceNeg, Int.reducePow, Int.reduceSub, Int.reduceAdd, Nat.reduceAdd, Nat.reduceLeDiff, Bool.not_true, Bool.not_false, decide_true, decide_false, Bool.false_eq_true, ↓reduceIte, upd_same, not_true_eq_false, not_false_eq_true, lsO_l, lsO_f, tpO_t, tpO_f, dkO_d, dkO_f, keyO_i, keyO_s, rIxH, rIxU, cLenL, cLenT, cListL, cListT, cTupL, cIntB, cAll, rEqNilI, rEq, rNe, scal_ii, scal_ss, scal_bb, scal_nn, scal_ni, scal_in, scal_ns, scal_sn, gSub, rSetL, ixs0, ixs1, ixs2, seq0, at0, at1, at2, at3, tBM, tBM0, rAppend, rPopAt, tyV_list, tGet2, tGetI, sPut, tMG, rTIdx, tyTup, tTupF, cx_K, cx_w, ex_map_int, ex_nil_int, ex_cons_int, List.map_cons, List.map_nil, List.isEmpty_nil, List.isEmpty_cons, List.eraseIdx_zero, List.tail_cons, List.eraseIdx_cons_zero, HO.lst.injEq, HO.tup.injEq, HO.dK.injEq, HO.frz.injEq, ne_eq, gTupH, gCons, gNil, wipe, tYes, upd_upd, and_assoc, List.getElem?_map, Option.map_some, isn_non_bool, isn_non_int, isn_non_str, isn_non_tuple, isn_non_list, isn_non_dict, isn_bl_bool, isn_bl_int, isn_bl_str, isn_bl_tuple, isn_bl_list, isn_bl_dict, isn_int_bool, isn_int_int, isn_int_str, isn_int_tuple, isn_int_list, isn_int_dict, isn_str_bool, isn_str_int, isn_str_str, isn_str_tuple, isn_str_list, isn_str_dict, isn_lst_bool, isn_lst_int, isn_lst_str, isn_lst_tuple, isn_lst_list, isn_lst_dict, isn_tup_bool, isn_tup_int, isn_tup_str, isn_tup_tuple, isn_tup_list, isn_tup_dict, isn_dct_bool, isn_dct_int, isn_dct_str, isn_dct_tuple, isn_dct_list, isn_dct_dict, okn_bool, okn_int, okn_str, okn_tuple, okn_list, okn_dict, cIsi, tyT_n, tyT_b, tyT_i, tyT_s, tyT_r, V.ty.injEq, tSl, tPart, tNoPart, rSlF, gName, List.length_map, Int.reduceToNat, cpow18, Wd.s_inj, ws_num, ws_field, ws_add, ws_sub, ws_mul, ws_eq, ws_lt, ws_gt, ws_le, ws_ge, ws_and, ws_or, ws_not, rInTab, rIxTab, rCatH, rCat, rInT, cSortD, cMaxL, cMinL, rNeNilI, inV, flatV, List.any_cons, List.any_nil, List.all_cons, List.all_nil, eqV, Bool.and_true, Bool.and_false, Bool.true_and, Bool.false_and, Bool.or_false, Bool.false_or, Bool.or_true, Bool.true_or, Wd.beq_s, sz0, sz1, sz2, sz3, sz4, sz5, sz6, isc_eq, isc_lt, isc_gt, isc_le, isc_ge, isc_and, isc_or, isc_not, isl_and, isl_or, isl_not, rSetD, rUnion, rSortTx, rRep, e3]
      have kk := (k1.thenNew (o := .lst [V.str Wd.eq.s, V.str Wd.lt.s, V.str Wd.gt.s, V.str Wd.le.s, V.str Wd.ge.s]) hp).trans k3
      have er : r2 = 0 ∨ r2 = 1 ∨ r2 = 2 ∨ r2 = 3 ∨ r2 = 4 := by omega
      rcases er with rfl | rfl | rfl | rfl | rfl
      · exact ⟨_, rfl, .eq, rfl, rfl, B3, kk⟩
      · exact ⟨_, rfl, .lt, rfl, rfl, B3, kk⟩
      · exact ⟨_, rfl, .gt, rfl, rfl, B3, kk⟩
      · exact ⟨_, rfl, .le, rfl, rfl, B3, kk⟩
      · exact ⟨_, rfl, .ge, rfl, rfl, B3, kk⟩
    rintro σ' H2 ⟨o, rfl, ho, B2, k2⟩
    have R2 := R.keepB k2 B nfa
    refine ⟨fun σ' H3 => σ' = [some (.ref h), some (.ref fa), some (.int (d : Int)), some (.int r), some (.str o.s), none, none, none, none] ∧ BoxB H3 h l ∧ Keep [h, l] H H3, ?_, ?_⟩
    · simp only [tVar, tC, tOp, rI, rI0, rU, tTest, tB, tAnd, tOr, tNot, tAndV, tOrV, tNotV, tIf, tNil, tCons, tTup, tLst, tCB, tSeq, tAsg, gName, tRet, tRetN, tIfS, tNext, tDrop, tCall, tUn, tPar, CMul, CDiv, V.int.injEq, V.bl.injEq, V.ref.injEq, V.str.injEq, Option.some.injEq, List.cons.injEq, and_true, true_and, and_false, false_and, or_false, false_or, or_true, true_or, exists_eq_left', exists_eq_left, exists_and_left, exists_and_right, exists_eq', exists_eq, exists_false, exists_const, List.getElem?_cons_succ, List.getElem?_cons_zero, List.set_cons_succ, List.set_cons_zero, List.length_cons, List.length_nil, List.cons_append, List.nil_append, List.append_nil, reduceCtorEq, Int.reduceLT, Int.reduceLE, Int.reduceNeg, Int.reducePow, Int.reduceSub, Int.reduceAdd, Nat.reduceAdd, Nat.reduceLeDiff, Bool.not_true, Bool.not_false, decide_true, decide_false, Bool.false_eq_true, ↓reduceIte, upd_same, not_true_eq_false, not_false_eq_true, lsO_l, lsO_f, tpO_t, tpO_f, dkO_d, dkO_f, keyO_i, keyO_s, rIxH, rIxU, cLenL, cLenT, cListL, cListT, cTupL, cIntB, cAll, rEqNilI, rEq, rNe, scal_ii, scal_ss, scal_bb, scal_nn, scal_ni, scal_in, scal_ns, scal_sn, gSub, rSetL, ixs0, ixs1, ixs2, seq0, at0, at1, at2, at3, tBM, tBM0, rAppend, rPopAt, tyV_list, tGet2, tGetI, sPut, tMG, rTIdx, tyTup, tTupF, cx_K, cx_w, ex_map_int, ex_nil_int, ex_cons_int, List.map_cons, List.map_nil, List.isEmpty_nil, List.isEmpty_cons, List.eraseIdx_zero, List.tail_cons, List.eraseIdx_cons_zero, HO.lst.injEq, HO.tup.injEq, HO.dK.injEq, HO.frz.injEq, ne_eq, gTupH, gCons, gNil, wipe, tYes, upd_upd, and_assoc, List.getElem?_map, Option.map_some, isn_non_bool, isn_non_int, isn_non_str, isn_non_tuple, isn_non_list, isn_non_dict, isn_bl_bool, isn_bl_int, isn_bl_str, isn_bl_tuple, isn_bl_list, isn_bl_dict, isn_int_bool, isn_int_int, isn_int_str, isn_int_tuple, isn_int_list, isn_int_dict, isn_str_bool, isn_str_int, isn_str_str, isn_str_tuple, isn_str_list, isn_str_dict, isn_lst_bool, isn_lst_int, isn_lst_str, isn_lst_tuple, isn_lst_list, isn_lst_dict, isn_tup_bool, isn_tup_int, isn_tup_str, isn_tup_tuple, isn_tup_list, isn_tup_dict, isn_dct_bool, isn_dct_int, isn_dct_str, isn_dct_tuple, isn_dct_list, isn_dct_dict, okn_bool, okn_int, okn_str, okn_tuple, okn_list, okn_dict, cIsi, tyT_n, tyT_b, tyT_i, tyT_s, tyT_r, V.ty.injEq, tSl, tPart, tNoPart, rSlF, gName, List.length_map, Int.reduceToNat, cpow18, Wd.s_inj, ws_num, ws_field, ws_add, ws_sub, ws_mul, ws_eq, ws_lt, ws_gt, ws_le, ws_ge, ws_and, ws_or, ws_not, rInTab, rIxTab, rCatH, rCat, rInT, cSortD, cMaxL, cMinL, rNeNilI, inV, flatV, List.any_cons, List.any_nil, List.all_cons, List.all_nil, eqV, Bool.and_true, Bool.and_false, Bool.true_and, Bool.false_and, Bool.or_false, Bool.false_or, Bool.or_true, Bool.true_or, Wd.beq_s, sz0, sz1, sz2, sz3, sz4, sz5, sz6, isc_eq, isc_lt, isc_gt, isc_le, isc_ge, isc_and, isc_or, isc_not, isl_and, isl_or, isl_not, rSetD, rUnion, rSortTx, rRep]
      refine ⟨h, l, 3, rfl, B2, by decide, by decide, fun r2 H3 a0 a1 B3 k3 => ?_⟩
      have R3 := R2.keepB k3 B2 nfa
      simp only [tVar, tC, tOp, rI, rI0, rU, tTest, tB, tAnd, tOr, tNot, tAndV, tOrV, tNotV, tIf, tNil, tCons, tTup, tLst, tCB, tSeq, tAsg, gName, tRet, tRetN, tIfS, tNext, tDrop, tCall, tUn, tPar, CMul, CDiv, V.int.injEq, V.bl.injEq, V.ref.injEq, V.str.injEq, Option.some.injEq, List.cons.injEq, and_true, true_and, and_false, false_and, or_false, false_or, or_true, true_or, exists_eq_left', exists_eq_left, exists_and_left, exists_and_right, exists_eq', exists_eq, exists_false, exists_const, List.getElem?_cons_succ, List.getElem?_cons_zero, List.set_cons_succ, List.set_cons_zero, List.length_cons, List.length_nil, List.cons_append, List.nil_append, List.append_nil, reduceCtorEq, Int.reduceLT, Int.reduceLE, Int.reduceNeg, Int.reducePow, Int.reduceSub, Int.reduceAdd, Nat.reduceAdd, Nat.reduceLeDiff, Bool.not_true, Bool.not_false, decide_true, decide_false, Bool.false_eq_true, ↓reduceIte, upd_same, not_true_eq_false, not_false_eq_true, lsO_l, lsO_f, tpO_t, tpO_f, dkO_d, dkO_f, keyO_i, keyO_s, rIxH, rIxU, cLenL, cLenT, cListL, cListT, cTupL, cIntB, cAll, rEqNilI, rEq, rNe, scal_ii, scal_ss, scal_bb, scal_nn, scal_ni, scal_in, scal_ns, scal_sn, gSub, rSetL, ixs0, ixs1, ixs2, seq0, at0, at1, at2, at3, tBM, tBM0, rAppend, rPopAt, tyV_list, tGet2, tGetI, sPut, tMG, rTIdx, tyTup, tTupF, cx_K, cx_w, ex_map_int, ex_nil_int, ex_cons_int, List.map_cons, List.map_nil, List.isEmpty_nil, List.isEmpty_cons, List.eraseIdx_zero, List.tail_cons, List.eraseIdx_cons_zero, HO.lst.injEq, HO.tup.injEq, HO.dK.injEq, HO.frz.injEq, ne_eq, gTupH, gCons, gNil, wipe, tYes, upd_upd, and_assoc, List.getElem?_map, Option.map_some, isn_non_bool, isn_non_int, isn_non_str, isn_non_tuple, isn_non_list, isn_non_dict, isn_bl_bool, isn_bl_int, isn_bl_str, isn_bl_tuple, isn_bl_list, isn_bl_dict, isn_int_bool, isn_int_int, isn_int_str, isn_int_tuple, isn_int_list, isn_int_dict, isn_str_bool, isn_str_int, isn_str_str, isn_str_tuple, isn_str_list, isn_str_dict, isn_lst_bool, isn_lst_int, isn_lst_str, isn_lst_tuple, isn_lst_list, isn_lst_dict, isn_tup_bool, isn_tup_int, isn_tup_str, isn_tup_tuple, isn_tup_list, isn_tup_dict, isn_dct_bool, isn_dct_int, isn_dct_str, isn_dct_tuple, isn_dct_list, isn_dct_dict, okn_bool, okn_int, okn_str, okn_tuple, okn_list, okn_dict, cIsi, tyT_n, tyT_b, tyT_i, tyT_s, tyT_r, V.ty.injEq, tSl, tPart, tNoPart, rSlF, gName, List.length_map, Int.reduceToNat, cpow18, Wd.s_inj, ws_num, ws_field, ws_add, ws_sub, ws_mul, ws_eq, ws_lt, ws_gt, ws_le, ws_ge, ws_and, ws_or, ws_not, rInTab, rIxTab, rCatH, rCat, rInT, cSortD, cMaxL, cMinL, rNeNilI, inV, flatV, List.any_cons, List.any_nil, List.all_cons, List.all_nil, eqV, Bool.and_true, Bool.and_false, Bool.true_and, Bool.false_and, Bool.or_false, Bool.false_or, Bool.or_true, Bool.true_or, Wd.beq_s, sz0, sz1, sz2, sz3, sz4, sz5, sz6, isc_eq, isc_lt, isc_gt, isc_le, isc_ge, isc_and, isc_or, isc_not, isl_and, isl_or, isl_not, rSetD, rUnion, rSortTx, rRep]
      by_cases c : 0 < r2
      · simp only [tVar, tC, tOp, rI, rI0, rU, tTest, tB, tAnd, tOr, tNot, tAndV, tOrV, tNotV, tIf, tNil, tCons, tTup, tLst, tCB, tSeq, tAsg, gName, tRet, tRetN, tIfS, tNext, tDrop, tCall, tUn, tPar, CMul, CDiv, V.int.injEq, V.bl.injEq, V.ref.injEq, V.str.injEq, Option.some.injEq, List.cons.injEq, and_true, true_and, and_false, false_and, or_false, false_or, or_true, true_or, exists_eq_left', exists_eq_left, exists_and_left, exists_and_right, exists_eq', exists_eq, exists_false, exists_const, List.getElem?_cons_succ, List.getElem?_cons_zero, List.set_cons_succ, List.set_cons_zero, List.length_cons, List.length_nil, List.cons_append, List.nil_append, List.append_nil, reduceCtorEq, Int.reduceLT, Int.reduceLE, Int.reduceNeg, Int.reducePow, Int.reduceSub, Int.reduceAdd, Nat.reduceAdd, Nat.reduceLeDiff, Bool.not_true, Bool.not_false, decide_true, decide_false, Bool.false_eq_true, ↓reduceIte, upd_same, not_true_eq_false, not_false_eq_true, lsO_l, lsO_f, tpO_t, tpO_f, dkO_d, dkO_f, keyO_i, keyO_s, rIxH, rIxU, cLenL, cLenT, cListL, cListT, cTupL, cIntB, cAll, rEqNilI, rEq, rNe, scal_ii, scal_ss, scal_bb, scal_nn, scal_ni, scal_in, scal_ns, scal_sn, gSub, rSetL, ixs0, ixs1, ixs2, seq0, at0, at1, at2, at3, tBM, tBM0, rAppend, rPopAt, tyV_list, tGet2, tGetI, sPut, tMG, rTIdx, tyTup, tTupF, cx_K, cx_w, ex_map_int, ex_nil_int, ex_cons_int, List.map_cons, List.map_nil, List.isEmpty_nil, List.isEmpty_cons, List.eraseIdx_zero, List.tail_cons, List.eraseIdx_cons_zero, HO.lst.injEq, HO.tup.injEq, HO.dK.injEq, HO.frz.injEq, ne_eq, gTupH, gCons, gNil, wipe, tYes, upd_upd, and_assoc, List.getElem?_map, Option.map_some, isn_non_bool, isn_non_int, isn_non_str, isn_non_tuple, isn_non_list, isn_non_dict, isn_bl_bool, isn_bl_int, isn_bl_str, isn_bl_tuple, isn_bl_list, isn_bl_dict, isn_int_bool, isn_int_int, isn_int_str, isn_int_tuple, isn_int_list, isn_int_dict, isn_str_bool, isn_str_int, isn_str_str, isn_str_tuple, isn_str_list, isn_str_dict, isn_lst_bool, isn_lst_int, isn_lst_str, isn_lst_tuple, isn_lst_list, isn_lst_dict, isn_tup_bool, isn_tup_int, isn_tup_str, isn_tup_tuple, isn_tup_list, isn_tup_dict, isn_dct_bool, isn_dct_int, isn_dct_str, isn_dct_tuple, isn_dct_list, isn_dct_dict, okn_bool, okn_int, okn_str, okn_tuple, okn_list, okn_dict, cIsi, tyT_n, tyT_b, tyT_i, tyT_s, tyT_r, V.ty.injEq, tSl, tPart, tNoPart, rSlF, gName, List.length_map, Int.reduceToNat, cpow18, Wd.s_inj, ws_num, ws_field, ws_add, ws_sub, ws_mul, ws_eq, ws_lt, ws_gt, ws_le, ws_ge, ws_and, ws_or, ws_not, rInTab, rIxTab, rCatH, rCat, rInT, cSortD, cMaxL, cMinL, rNeNilI, inV, flatV, List.any_cons, List.any_nil, List.all_cons, List.all_nil, eqV, Bool.and_true, Bool.and_false, Bool.true_and, Bool.false_and, Bool.or_false, Bool.false_or, Bool.or_true, Bool.true_or, Wd.beq_s, sz0, sz1, sz2, sz3, sz4, sz5, sz6, isc_eq, isc_lt, isc_gt, isc_le, isc_ge, isc_and, isc_or, isc_not, isl_and, isl_or, isl_not, rSetD, rUnion, rSortTx, rRep, c]
        intro p hp
        have R4 := R3.same (same_new (o := .lst []) hp)
        have B4 := B3.same (same_new (o := .lst []) hp)
        have k4 : Keep [h, l] H (upd H3 p (.lst [])) := (k2.trans k3).thenNew hp
        refine R4.neNil upd_same ?_
        cases hps0 : ps.isEmpty with
        | true =>
          simp only [tVar, tC, tOp, rI, rI0, rU, tTest, tB, tAnd, tOr, tNot, tAndV, tOrV, tNotV, tIf, tNil, tCons, tTup, tLst, tCB, tSeq, tAsg, gName, tRet, tRetN, tIfS, tNext, tDrop, tCall, tUn, tPar, CMul, CDiv, V.int.injEq, V.bl.injEq, V.ref.injEq, V.str.injEq, Option.some.injEq, List.cons.injEq, and_true, true_and, and_false, false_and, or_false, false_or, or_true, true_or, exists_eq_left', exists_eq_left, exists_and_left, exists_and_right, exists_eq', exists_eq, exists_false, exists_const, List.getElem?_cons_succ, List.getElem?_cons_zero, List.set_cons_succ, List.set_cons_zero, List.length_cons, List.length_nil, List.cons_append, List.nil_append, List.append_nil, reduceCtorEq, Int.reduceLT, Int.reduceLE, Int.reduceNeg, Int.reducePow, Int.reduceSub, Int.reduceAdd, Nat.reduceAdd, Nat.reduceLeDiff, Bool.not_true, Bool.not_false, decide_true, decide_false, Bool.false_eq_true, ↓reduceIte, upd_same, not_true_eq_false, not_false_eq_true, lsO_l, lsO_f, tpO_t, tpO_f, dkO_d, dkO_f, keyO_i, keyO_s, rIxH, rIxU, cLenL, cLenT, cListL, cListT, cTupL, cIntB, cAll, rEqNilI, rEq, rNe, scal_ii, scal_ss, scal_bb, scal_nn, scal_ni, scal_in, scal_ns, scal_sn, gSub, rSetL, ixs0, ixs1, ixs2, seq0, at0, at1, at2, at3, tBM, tBM0, rAppend, rPopAt, tyV_list, tGet2, tGetI, sPut, tMG, rTIdx, tyTup, tTupF, cx_K, cx_w, ex_map_int, ex_nil_int, ex_cons_int, List.map_cons, List.map_nil, List.isEmpty_nil, List.isEmpty_cons, List.eraseIdx_zero, List.tail_cons, List.eraseIdx_cons_zero, HO.lst.injEq, HO.tup.injEq, HO.dK.injEq, HO.frz.injEq, ne_eq, gTupH, gCons, gNil, wipe, tYes, upd_upd, and_assoc, List.getElem?_map, Option.map_some, isn_non_bool, isn_non_int, isn_non_str, isn_non_tuple, isn_non_list, isn_non_dict, isn_bl_bool, isn_bl_int, isn_bl_str, isn_bl_tuple, isn_bl_list, isn_bl_dict, isn_int_bool, isn_int_int, isn_int_str, isn_int_tuple, isn_int_list, isn_int_dict, isn_str_bool, isn_str_int, isn_str_str, isn_str_tuple, isn_str_list, isn_str_dict, isn_lst_bool, isn_lst_int, isn_lst_str, isn_lst_tuple, isn_lst_list, isn_lst_dict, isn_tup_bool, isn_tup_int, isn_tup_str, isn_tup_tuple, isn_tup_list, isn_tup_dict, isn_dct_bool, isn_dct_int, isn_dct_str, isn_dct_tuple, isn_dct_list, isn_dct_dict, okn_bool, okn_int, okn_str, okn_tuple, okn_list, okn_dict, cIsi, tyT_n, tyT_b, tyT_i, tyT_s, tyT_r, V.ty.injEq, tSl, tPart, tNoPart, rSlF, gName, List.length_map, Int.reduceToNat, cpow18, Wd.s_inj, ws_num, ws_field, ws_add, ws_sub, ws_mul, ws_eq, ws_lt, ws_gt, ws_le, ws_ge, ws_and, ws_or, ws_not, rInTab, rIxTab, rCatH, rCat, rInT, cSortD, cMaxL, cMinL, rNeNilI, inV, flatV, List.any_cons, List.any_nil, List.all_cons, List.all_nil, eqV, Bool.and_true, Bool.and_false, Bool.true_and, Bool.false_and, Bool.or_false, Bool.false_or, Bool.or_true, Bool.true_or, Wd.beq_s, sz0, sz1, sz2, sz3, sz4, sz5, sz6, isc_eq, isc_lt, isc_gt, isc_le, isc_ge, isc_and, isc_or, isc_not, isl_and, isl_or, isl_not, rSetD, rUnion, rSortTx, rRep]
          exact ⟨B4, k4⟩
        | false =>
          simp only [tVar, tC, tOp, rI, rI0, rU, tTest, tB, tAnd, tOr, tNot, tAndV, tOrV, tNotV, tIf, tNil, tCons, tTup, tLst, tCB, tSeq, tAsg, gName, tRet, tRetN, tIfS, tNext, tDrop, tCall, tUn, tPar, CMul, CDiv, V.int.injEq, V.bl.injEq, V.ref.injEq, V.str.injEq, Option.some.injEq, List.cons.injEq, and_true, true_and, and_false, false_and, or_false, false_or, or_true, true_or, exists_eq_left', exists_eq_left, exists_and_left, exists_and_right, exists_eq', exists_eq, exists_false, exists_const, List.getElem?_cons_succ, List.getElem?_cons_zero, List.set_cons_succ, List.set_cons_zero, List.length_cons, List.length_nil, List.cons_append, List.nil_append, List.append_nil, reduceCtorEq, Int.reduceLT, Int.reduceLE, Int.reduceNeg, Int.reducePow, Int.reduceSub, Int.reduceAdd, Nat.reduceAdd, Nat.reduceLeDiff, Bool.not_true, Bool.not_false, decide_true, decide_false, Bool.false_eq_true, ↓reduceIte, upd_same, not_true_eq_false, not_false_eq_true, lsO_l, lsO_f, tpO_t, tpO_f, dkO_d, dkO_f, keyO_i, keyO_s, rIxH, rIxU, cLenL, cLenT, cListL, cListT, cTupL, cIntB, cAll, rEqNilI, rEq, rNe, scal_ii, scal_ss, scal_bb, scal_nn, scal_ni, scal_in, scal_ns, scal_sn, gSub, rSetL, ixs0, ixs1, ixs2, seq0, at0, at1, at2, at3, tBM, tBM0, rAppend, rPopAt, tyV_list, tGet2, tGetI, sPut, tMG, rTIdx, tyTup, tTupF, cx_K, cx_w, ex_map_int, ex_nil_int, ex_cons_int, List.map_cons, List.map_nil, List.isEmpty_nil, List.isEmpty_cons, List.eraseIdx_zero, List.tail_cons, List.eraseIdx_cons_zero, HO.lst.injEq, HO.tup.injEq, HO.dK.injEq, HO.frz.injEq, ne_eq, gTupH, gCons, gNil, wipe, tYes, upd_upd, and_assoc, List.getElem?_map, Option.map_some, isn_non_bool, isn_non_int, isn_non_str, isn_non_tuple, isn_non_list, isn_non_dict, isn_bl_bool, isn_bl_int, isn_bl_str, isn_bl_tuple, isn_bl_list, isn_bl_dict, isn_int_bool, isn_int_int, isn_int_str, isn_int_tuple, isn_int_list, isn_int_dict, isn_str_bool, isn_str_int, isn_str_str, isn_str_tuple, isn_str_list, isn_str_dict, isn_lst_bool, isn_lst_int, isn_lst_str, isn_lst_tuple, isn_lst_list, isn_lst_dict, isn_tup_bool, isn_tup_int, isn_tup_str, isn_tup_tuple, isn_tup_list, isn_tup_dict, isn_dct_bool, isn_dct_int, isn_dct_str, isn_dct_tuple, isn_dct_list, isn_dct_dict, okn_bool, okn_int, okn_str, okn_tuple, okn_list, okn_dict, cIsi, tyT_n, tyT_b, tyT_i, tyT_s, tyT_r, V.ty.injEq, tSl, tPart, tNoPart, rSlF, gName, List.length_map, Int.reduceToNat, cpow18, Wd.s_inj, ws_num, ws_field, ws_add, ws_sub, ws_mul, ws_eq, ws_lt, ws_gt, ws_le, ws_ge, ws_and, ws_or, ws_not, rInTab, rIxTab, rCatH, rCat, rInT, cSortD, cMaxL, cMinL, rNeNilI, inV, flatV, List.any_cons, List.any_nil, List.all_cons, List.all_nil, eqV, Bool.and_true, Bool.and_false, Bool.true_and, Bool.false_and, Bool.or_false, Bool.false_or, Bool.or_true, Bool.true_or, Wd.beq_s, sz0, sz1, sz2, sz3, sz4, sz5, sz6, isc_eq, isc_lt, isc_gt, isc_le, isc_ge, isc_and, isc_or, isc_not, isl_and, isl_or, isl_not, rSetD, rUnion, rSortTx, rRep]
          have pos : 0 < ps.length := by
            cases ps with
            | nil => cases hps0
            | cons _ _ => simp
          refine ⟨fun σ' H5 => ∃ (q : Addr) (t f : Str), σ' = [some (.ref h), some (.ref fa), some (.int (d : Int)), some (.int r), some (.str o.s), none, some (.ref q), none, none] ∧ H5 q = some (.tup [.str Wd.field.s, .str t, .str f]) ∧ PyData.strOk t = true ∧ PyData.strOk f = true ∧ BoxB H5 h l ∧ Keep [h, l] H H5, ?_, ?_⟩
          · simp only [tVar, tC, tOp, rI, rI0, rU, tTest, tB, tAnd, tOr, tNot, tAndV, tOrV, tNotV, tIf, tNil, tCons, tTup, tLst, tCB, tSeq, tAsg, gName, tRet, tRetN, tIfS, tNext, tDrop, tCall, tUn, tPar, CMul, CDiv, V.int.injEq, V.bl.injEq, V.ref.injEq, V.str.injEq, Option.some.injEq, List.cons.injEq, and_true, true_and, and_false, false_and, or_false, false_or, or_true, true_or, exists_eq_left', exists_eq_left, exists_and_left, exists_and_right, exists_eq', exists_eq, exists_false, exists_const, List.getElem?_cons_succ, List.getElem?_cons_zero, List.set_cons_succ, List.set_cons_zero, List.length_cons, List.length_nil, List.cons_append, List.nil_append, List.append_nil, reduceCtorEq, Int.reduceLT, Int.reduceLE, Int.reduceNeg, Int.reducePow, Int.reduceSub, Int.reduceAdd, Nat.reduceAdd, Nat.reduceLeDiff, Bool.not_true, Bool.not_false, decide_true, decide_false, Bool.false_eq_true, ↓reduceIte, upd_same, not_true_eq_false, not_false_eq_true, lsO_l, lsO_f, tpO_t, tpO_f, dkO_d, dkO_f, keyO_i, keyO_s, rIxH, rIxU, cLenL, cLenT, cListL, cListT, cTupL, cIntB, cAll, rEqNilI, rEq, rNe, scal_ii, scal_ss, scal_bb, scal_nn, scal_ni, scal_in, scal_ns, scal_sn, gSub, rSetL, ixs0, ixs1, ixs2, seq0, at0, at1, at2, at3, tBM, tBM0, rAppend, rPopAt, tyV_list, tGet2, tGetI, sPut, tMG, rTIdx, tyTup, tTupF, cx_K, cx_w, ex_map_int, ex_nil_int, ex_cons_int, List.map_cons, List.map_nil, List.isEmpty_nil, List.isEmpty_cons, List.eraseIdx_zero, List.tail_cons, List.eraseIdx_cons_zero, HO.lst.injEq, HO.tup.injEq, HO.dK.injEq, HO.frz.injEq, ne_eq, gTupH, gCons, gNil, wipe, tYes, upd_upd, and_assoc, List.getElem?_map, Option.map_some, isn_non_bool, isn_non_int, isn_non_str, isn_non_tuple, isn_non_list, isn_non_dict, isn_bl_bool, isn_bl_int, isn_bl_str, isn_bl_tuple, isn_bl_list, isn_bl_dict, isn_int_bool, isn_int_int, isn_int_str, isn_int_tuple, isn_int_list, isn_int_dict, isn_str_bool, isn_str_int, isn_str_str, isn_str_tuple, isn_str_list, isn_str_dict, isn_lst_bool, isn_lst_int, isn_lst_str, isn_lst_tuple, isn_lst_list, isn_lst_dict, isn_tup_bool, isn_tup_int, isn_tup_str, isn_tup_tuple, isn_tup_list, isn_tup_dict, isn_dct_bool, isn_dct_int, isn_dct_str, isn_dct_tuple, isn_dct_list, isn_dct_dict, okn_bool, okn_int, okn_str, okn_tuple, okn_list, okn_dict, cIsi, tyT_n, tyT_b, tyT_i, tyT_s, tyT_r, V.ty.injEq, tSl, tPart, tNoPart, rSlF, gName, List.length_map, Int.reduceToNat, cpow18, Wd.s_inj, ws_num, ws_field, ws_add, ws_sub, ws_mul, ws_eq, ws_lt, ws_gt, ws_le, ws_ge, ws_and, ws_or, ws_not, rInTab, rIxTab, rCatH, rCat, rInT, cSortD, cMaxL, cMinL, rNeNilI, inV, flatV, List.any_cons, List.any_nil, List.all_cons, List.all_nil, eqV, Bool.and_true, Bool.and_false, Bool.true_and, Bool.false_and, Bool.or_false, Bool.false_or, Bool.or_true, Bool.true_or, Wd.beq_s, sz0, sz1, sz2, sz3, sz4, sz5, sz6, isc_eq, isc_lt, isc_gt, isc_le, isc_ge, isc_and, isc_or, isc_not, isl_and, isl_or, isl_not, rSetD, rUnion, rSortTx, rRep]
            intro q hq
            have R5 := R4.same (same_new (o := .tup [V.str Wd.field.s]) hq)
            have B5 := B4.same (same_new (o := .tup [V.str Wd.field.s]) hq)
            have k5 := k4.thenNew (o := .tup [V.str Wd.field.s]) hq
            have e5 := R5.at_
            simp only [tVar, tC, tOp, rI, rI0, rU, tTest, tB, tAnd, tOr, tNot, tAndV, tOrV, tNotV, tIf, tNil, tCons, tTup, tLst, tCB, tSeq, tAsg, gName, tRet, tRetN, tIfS, tNext, tDrop, tCall, tUn, tPar, CMul, CDiv, V.int.injEq, V.bl.injEq, V.ref.injEq, V.str.injEq, Option.some.injEq, List.cons.injEq, and_true, true_and, and_false, false_and, or_false, false_or, or_true, true_or, exists_eq_left', exists_eq_left, exists_and_left, exists_and_right, exists_eq', exists_eq, exists_false, exists_const, List.getElem?_cons_succ, List.getElem?_cons_zero, List.set_cons_succ, List.set_cons_zero, List.length_cons, List.length_nil, List.cons_append, List.nil_append, List.append_nil, reduceCtorEq, Int.reduceLT, Int.reduceLE, Int.reduceNeg, Int.reducePow, Int.reduceSub, Int.reduceAdd, Nat.reduceAdd, Nat.reduceLeDiff, Bool.not_true, Bool.not_false, decide_true, decide_false, Bool.false_eq_true, ↓reduceIte, upd_same, not_true_eq_false, not_false_eq_true, lsO_l, lsO_f, tpO_t, tpO_f, dkO_d, dkO_f, keyO_i, keyO_s, rIxH, rIxU, cLenL, cLenT, cListL, cListT, cTupL, cIntB, cAll, rEqNilI, rEq, rNe, scal_ii, scal_ss, scal_bb, scal_nn, scal_ni, scal_in, scal_ns, scal_sn, gSub, rSetL, ixs0, ixs1, ixs2, seq0, at0, at1, at2, at3, tBM, tBM0, rAppend, rPopAt, tyV_list, tGet2, tGetI, sPut, tMG, rTIdx, tyTup, tTupF, cx_K, cx_w, ex_map_int, ex_nil_int, ex_cons_int, List.map_cons, List.map_nil, List.isEmpty_nil, List.isEmpty_cons, List.eraseIdx_zero, List.tail_cons, List.eraseIdx_cons_zero, HO.lst.injEq, HO.tup.injEq, HO.dK.injEq, HO.frz.injEq, ne_eq, gTupH, gCons, gNil, wipe, tYes, upd_upd, and_assoc, List.getElem?_map, Option.map_some, isn_non_bool, isn_non_int, isn_non_str, isn_non_tuple, isn_non_list, isn_non_dict, isn_bl_bool, isn_bl_int, isn_bl_str, isn_bl_tuple, isn_bl_list, isn_bl_dict, isn_int_bool, isn_int_int, isn_int_str, isn_int_tuple, isn_int_list, isn_int_dict, isn_str_bool, isn_str_int, isn_str_str, isn_str_tuple, isn_str_list, isn_str_dict, isn_lst_bool, isn_lst_int, isn_lst_str, isn_lst_tuple, isn_lst_list, isn_lst_dict, isn_tup_bool, isn_tup_int, isn_tup_str, isn_tup_tuple, isn_tup_list, isn_tup_dict, isn_dct_bool, isn_dct_int, isn_dct_str, isn_dct_tuple, isn_dct_list, isn_dct_dict, okn_bool, okn_int, okn_str, okn_tuple, okn_list, okn_dict, cIsi, tyT_n, tyT_b, tyT_i, tyT_s, tyT_r, V.ty.injEq, tSl, tPart, tNoPart, rSlF, gName, List.length_map, Int.reduceToNat, cpow18, Wd.s_inj, ws_num, ws_field, ws_add, ws_sub, ws_mul, ws_eq, ws_lt, ws_gt, ws_le, ws_ge, ws_and, ws_or, ws_not, rInTab, rIxTab, rCatH, rCat, rInT, cSortD, cMaxL, cMinL, rNeNilI, inV, flatV, List.any_cons, List.any_nil, List.all_cons, List.all_nil, eqV, Bool.and_true, Bool.and_false, Bool.true_and, Bool.false_and, Bool.or_false, Bool.false_or, Bool.or_true, Bool.true_or, Wd.beq_s, sz0, sz1, sz2, sz3, sz4, sz5, sz6, isc_eq, isc_lt, isc_gt, isc_le, isc_ge, isc_and, isc_or, isc_not, isl_and, isl_or, isl_not, rSetD, rUnion, rSortTx, rRep, e5]
            refine ⟨h, l, _, rfl, B5, by omega, by omega, fun j H6 j0 j1 B6 k6 => ?_⟩
            have R6 := R5.keepB k6 B5 nfa
            have e6 := R6.at_
            have q6 := k6 _ _ (B4.free hq) upd_same
            obtain ⟨f, hf, hat⟩ := R6.pick j0 j1
            have t6 := R6.tups f hf
            simp only [tVar, tC, tOp, rI, rI0, rU, tTest, tB, tAnd, tOr, tNot, tAndV, tOrV, tNotV, tIf, tNil, tCons, tTup, tLst, tCB, tSeq, tAsg, gName, tRet, tRetN, tIfS, tNext, tDrop, tCall, tUn, tPar, CMul, CDiv, V.int.injEq, V.bl.injEq, V.ref.injEq, V.str.injEq, Option.some.injEq, List.cons.injEq, and_true, true_and, and_false, false_and, or_false, false_or, or_true, true_or, exists_eq_left', exists_eq_left, exists_and_left, exists_and_right, exists_eq', exists_eq, exists_false, exists_const, List.getElem?_cons_succ, List.getElem?_cons_zero, List.set_cons_succ, List.set_cons_zero, List.length_cons, List.length_nil, List.cons_append, List.nil_append, List.append_nil, reduceCtorEq, Int.reduceLT, Int.reduceLE, Int.reduceNeg, Int.reducePow, Int.reduceSub, Int.reduceAdd, Nat.reduceAdd, Nat.reduceLeDiff, Bool.not_true, Bool.not_false, decide_true, decide_false, Bool.false_eq_true, ↓reduceIte, upd_same, not_true_eq_false, not_false_eq_true, lsO_l, lsO_f, tpO_t, tpO_f, dkO_d, dkO_f, keyO_i, keyO_s, rIxH, rIxU, cLenL, cLenT, cListL, cListT, cTupL, cIntB, cAll, rEqNilI, rEq, rNe, scal_ii, scal_ss, scal_bb, scal_nn, scal_ni, scal_in, scal_ns, scal_sn, gSub, rSetL, ixs0, ixs1, ixs2, seq0, at0, at1, at2, at3, tBM, tBM0, rAppend, rPopAt, tyV_list, tGet2, tGetI, sPut, tMG, rTIdx, tyTup, tTupF, cx_K, cx_w, ex_map_int, ex_nil_int, ex_cons_int, List.map_cons, List.map_nil, List.isEmpty_nil, List.isEmpty_cons, List.eraseIdx_zero, List.tail_cons, List.eraseIdx_cons_zero, HO.lst.injEq, HO.tup.injEq, HO.dK.injEq, HO.frz.injEq, ne_eq, gTupH, gCons, gNil, wipe, tYes, upd_upd, and_assoc, List.getElem?_map, Option.map_some, isn_non_bool, isn_non_int, isn_non_str, isn_non_tuple, isn_non_list, isn_non_dict, isn_bl_bool, isn_bl_int, isn_bl_str, isn_bl_tuple, isn_bl_list, isn_bl_dict, isn_int_bool, isn_int_int, isn_int_str, isn_int_tuple, isn_int_list, isn_int_dict, isn_str_bool, isn_str_int, isn_str_str, isn_str_tuple, isn_str_list, isn_str_dict, isn_lst_bool, isn_lst_int, isn_lst_str, isn_lst_tuple, isn_lst_list, isn_lst_dict, isn_tup_bool, isn_tup_int, isn_tup_str, isn_tup_tuple, isn_tup_list, isn_tup_dict, isn_dct_bool, isn_dct_int, isn_dct_str, isn_dct_tuple, isn_dct_list, isn_dct_dict, okn_bool, okn_int, okn_str, okn_tuple, okn_list, okn_dict, cIsi, tyT_n, tyT_b, tyT_i, tyT_s, tyT_r, V.ty.injEq, tSl, tPart, tNoPart, rSlF, gName, List.length_map, Int.reduceToNat, cpow18, Wd.s_inj, ws_num, ws_field, ws_add, ws_sub, ws_mul, ws_eq, ws_lt, ws_gt, ws_le, ws_ge, ws_and, ws_or, ws_not, rInTab, rIxTab, rCatH, rCat, rInT, cSortD, cMaxL, cMinL, rNeNilI, inV, flatV, List.any_cons, List.any_nil, List.all_cons, List.all_nil, eqV, Bool.and_true, Bool.and_false, Bool.true_and, Bool.false_and, Bool.or_false, Bool.false_or, Bool.or_true, Bool.true_or, Wd.beq_s, sz0, sz1, sz2, sz3, sz4, sz5, sz6, isc_eq, isc_lt, isc_gt, isc_le, isc_ge, isc_and, isc_or, isc_not, isl_and, isl_or, isl_not, rSetD, rUnion, rSortTx, rRep, e6, q6, hat, t6]
            intro p' hp'
            exact ⟨(R6.oks f hf).1, (R6.oks f hf).2, B6.same (same_new hp'), (k5.trans k6).thenNew hp'⟩
          rintro σ' H5 ⟨q, t, f, rfl, hq, ht, hf, B5, k5⟩
          simp only [tVar, tC, tOp, rI, rI0, rU, tTest, tB, tAnd, tOr, tNot, tAndV, tOrV, tNotV, tIf, tNil, tCons, tTup, tLst, tCB, tSeq, tAsg, gName, tRet, tRetN, tIfS, tNext, tDrop, tCall, tUn, tPar, CMul, CDiv, V.int.injEq, V.bl.injEq, V.ref.injEq, V.str.injEq, Option.some.injEq, List.cons.injEq, and_true, true_and, and_false, false_and, or_false, false_or, or_true, true_or, exists_eq_left', exists_eq_left, exists_and_left, exists_and_right, exists_eq', exists_eq, exists_false, exists_const, List.getElem?_cons_succ, List.getElem?_cons_zero, List.set_cons_succ, List.set_cons_zero, List.length_cons, List.length_nil, List.cons_append, List.nil_append, List.append_nil, reduceCtorEq, Int.reduceLT, Int.reduceLE, Int.reduceNeg, Int.reducePow, Int.reduceSub, Int.reduceAdd, Nat.reduceAdd, Nat.reduceLeDiff, Bool.not_true, Bool.not_false, decide_true, decide_false, Bool.false_eq_true, ↓reduceIte, upd_same, not_true_eq_false, not_false_eq_true, lsO_l, lsO_f, tpO_t, tpO_f, dkO_d, dkO_f, keyO_i, keyO_s, rIxH, rIxU, cLenL, cLenT, cListL, cListT, cTupL, cIntB, cAll, rEqNilI, rEq, rNe, scal_ii, scal_ss, scal_bb, scal_nn, scal_ni, scal_in, scal_ns, scal_sn, gSub, rSetL, ixs0, ixs1, ixs2, seq0, at0, at1, at2, at3, tBM, tBM0, rAppend, rPopAt, tyV_list, tGet2, tGetI, sPut, tMG, rTIdx, tyTup, tTupF, cx_K, cx_w, ex_map_int, ex_nil_int, ex_cons_int, List.map_cons, List.map_nil, List.isEmpty_nil, List.isEmpty_cons, List.eraseIdx_zero, List.tail_cons, List.eraseIdx_cons_zero, HO.lst.injEq, HO.tup.injEq, HO.dK.injEq, HO.frz.injEq, ne_eq, gTupH, gCons, gNil, wipe, tYes, upd_upd, and_assoc, List.getElem?_map, Option.map_some, isn_non_bool, isn_non_int, isn_non_str, isn_non_tuple, isn_non_list, isn_non_dict, isn_bl_bool, isn_bl_int, isn_bl_str, isn_bl_tuple, isn_bl_list, isn_bl_dict, isn_int_bool, isn_int_int, isn_int_str, isn_int_tuple, isn_int_list, isn_int_dict, isn_str_bool, isn_str_int, isn_str_str, isn_str_tuple, isn_str_list, isn_str_dict, isn_lst_bool, isn_lst_int, isn_lst_str, isn_lst_tuple, isn_lst_list, isn_lst_dict, isn_tup_bool, isn_tup_int, isn_tup_str, isn_tup_tuple, isn_tup_list, isn_tup_dict, isn_dct_bool, isn_dct_int, isn_dct_str, isn_dct_tuple, isn_dct_list, isn_dct_dict, okn_bool, okn_int, okn_str, okn_tuple, okn_list, okn_dict, cIsi, tyT_n, tyT_b, tyT_i, tyT_s, tyT_r, V.ty.injEq, tSl, tPart, tNoPart, rSlF, gName, List.length_map, Int.reduceToNat, cpow18, Wd.s_inj, ws_num, ws_field, ws_add, ws_sub, ws_mul, ws_eq, ws_lt, ws_gt, ws_le, ws_ge, ws_and, ws_or, ws_not, rInTab, rIxTab, rCatH, rCat, rInT, cSortD, cMaxL, cMinL, rNeNilI, inV, flatV, List.any_cons, List.any_nil, List.all_cons, List.all_nil, eqV, Bool.and_true, Bool.and_false, Bool.true_and, Bool.false_and, Bool.or_false, Bool.false_or, Bool.or_true, Bool.true_or, Wd.beq_s, sz0, sz1, sz2, sz3, sz4, sz5, sz6, isc_eq, isc_lt, isc_gt, isc_le, isc_ge, isc_and, isc_or, isc_not, isl_and, isl_or, isl_not, rSetD, rUnion, rSortTx, rRep]
          refine ⟨h, l, 8, rfl, B5, by decide, by decide, fun n H6 n0 n1 B6 k6 => ?_⟩
          have q6 := k6 _ _ (B5.notin hq (by intro xs z; cases z)) hq
          simp only [tVar, tC, tOp, rI, rI0, rU, tTest, tB, tAnd, tOr, tNot, tAndV, tOrV, tNotV, tIf, tNil, tCons, tTup, tLst, tCB, tSeq, tAsg, gName, tRet, tRetN, tIfS, tNext, tDrop, tCall, tUn, tPar, CMul, CDiv, V.int.injEq, V.bl.injEq, V.ref.injEq, V.str.injEq, Option.some.injEq, List.cons.injEq, and_true, true_and, and_false, false_and, or_false, false_or, or_true, true_or, exists_eq_left', exists_eq_left, exists_and_left, exists_and_right, exists_eq', exists_eq, exists_false, exists_const, List.getElem?_cons_succ, List.getElem?_cons_zero, List.set_cons_succ, List.set_cons_zero, List.length_cons, List.length_nil, List.cons_append, List.nil_append, List.append_nil, reduceCtorEq, Int.reduceLT, Int.reduceLE, Int.reduceNeg, Int.reducePow, Int.reduceSub, Int.reduceAdd, Nat.reduceAdd, Nat.reduceLeDiff, Bool.not_true, Bool.not_false, decide_true, decide_false, Bool.false_eq_true, ↓reduceIte, upd_same, not_true_eq_false, not_false_eq_true, lsO_l, lsO_f, tpO_t, tpO_f, dkO_d, dkO_f, keyO_i, keyO_s, rIxH, rIxU, cLenL, cLenT, cListL, cListT, cTupL, cIntB, cAll, rEqNilI, rEq, rNe, scal_ii, scal_ss, scal_bb, scal_nn, scal_ni, scal_in, scal_ns, scal_sn, gSub, rSetL, ixs0, ixs1, ixs2, seq0, at0, at1, at2, at3, tBM, tBM0, rAppend, rPopAt, tyV_list, tGet2, tGetI, sPut, tMG, rTIdx, tyTup, tTupF, cx_K, cx_w, ex_map_int, ex_nil_int, ex_cons_int, List.map_cons, List.map_nil, List.isEmpty_nil, List.isEmpty_cons, List.eraseIdx_zero, List.tail_cons, List.eraseIdx_cons_zero, HO.lst.injEq, HO.tup.injEq, HO.dK.injEq, HO.frz.injEq, ne_eq, gTupH, gCons, gNil, wipe, tYes, upd_upd, and_assoc, List.getElem?_map, Option.map_some, isn_non_bool, isn_non_int, isn_non_str, isn_non_tuple, isn_non_list, isn_non_dict, isn_bl_bool, isn_bl_int, isn_bl_str, isn_bl_tuple, isn_bl_list, isn_bl_dict, isn_int_bool, isn_int_int, isn_int_str, isn_int_tuple, isn_int_list, isn_int_dict, isn_str_bool, isn_str_int, isn_str_str, isn_str_tuple, isn_str_list, isn_str_dict, isn_lst_bool, isn_lst_int, isn_lst_str, isn_lst_tuple, isn_lst_list, isn_lst_dict, isn_tup_bool, isn_tup_int, isn_tup_str, isn_tup_tuple, isn_tup_list, isn_tup_dict, isn_dct_bool, isn_dct_int, isn_dct_str, isn_dct_tuple, isn_dct_list, isn_dct_dict, okn_bool, okn_int, okn_str, okn_tuple, okn_list, okn_dict, cIsi, tyT_n, tyT_b, tyT_i, tyT_s, tyT_r, V.ty.injEq, tSl, tPart, tNoPart, rSlF, gName, List.length_map, Int.reduceToNat, cpow18, Wd.s_inj, ws_num, ws_field, ws_add, ws_sub, ws_mul, ws_eq, ws_lt, ws_gt, ws_le, ws_ge, ws_and, ws_or, ws_not, rInTab, rIxTab, rCatH, rCat, rInT, cSortD, cMaxL, cMinL, rNeNilI, inV, flatV, List.any_cons, List.any_nil, List.all_cons, List.all_nil, eqV, Bool.and_true, Bool.and_false, Bool.true_and, Bool.false_and, Bool.or_false, Bool.false_or, Bool.or_true, Bool.true_or, Wd.beq_s, sz0, sz1, sz2, sz3, sz4, sz5, sz6, isc_eq, isc_lt, isc_gt, isc_le, isc_ge, isc_and, isc_or, isc_not, isl_and, isl_or, isl_not, rSetD, rUnion, rSortTx, rRep]
          intro p1 hp1 p2 hp2 p3 hp3
          have nq1 : q ≠ p1 := ne_of_none q6 hp1
          have e1 := (upd_ne (o := .tup [.str Wd.num.s, .int n]) nq1).trans q6
          have nq2 : q ≠ p2 := ne_of_none e1 hp2
          have e2 := (upd_ne (o := .tup [.ref q, .ref p1]) nq2).trans e1
          have nq3 : q ≠ p3 := ne_of_none e2 hp3
          have e3 := (upd_ne (o := .tup [.str o.s]) nq3).trans e2
          have n12 : p1 ≠ p2 := ne_of_none upd_same hp2
          have f2 : upd (upd H6 p1 (.tup [.str Wd.num.s, .int n])) p2 (.tup [.ref q, .ref p1]) p1 = some (.tup [.str Wd.num.s, .int n]) := by rw [upd_ne n12, upd_same]
          have n13 : p1 ≠ p3 := ne_of_none f2 hp3
          have f3 := (upd_ne (o := .tup [.str o.s]) n13).trans f2
          have n23 : p2 ≠ p3 := ne_of_none upd_same hp3
          have g3 : upd (upd (upd H6 p1 (.tup [.str Wd.num.s, .int n])) p2 (.tup [.ref q, .ref p1])) p3 (.tup [.str o.s]) p2 = some (.tup [.ref q, .ref p1]) := by rw [upd_ne n23, upd_same]
          have sx := ((same_new (o := .tup [.str Wd.num.s, .int n]) hp1).trans (same_new (o := .tup [.ref q, .ref p1]) hp2)).trans (same_new (o := .tup [.str o.s]) hp3)
          have Bx := B6.same sx
          refine ⟨h, l, 2, rfl, Bx, by decide, by decide, fun m H7 m0 m1 B7 k7 => ?_⟩
          have kx := ((k5.trans k6).trans (Keep.ofSame sx)).trans k7
          have q7 := k7 _ _ (Bx.notin e3 (by intro xs z; cases z)) e3
          have p17 := k7 _ _ (Bx.notin f3 (by intro xs z; cases z)) f3
          have p27 := k7 _ _ (Bx.notin g3 (by intro xs z; cases z)) g3
          have p37 : H7 p3 = some (.tup [.str o.s]) := k7 _ _ (Bx.notin upd_same (by intro xs z; cases z)) upd_same
          simp only [tVar, tC, tOp, rI, rI0, rU, tTest, tB, tAnd, tOr, tNot, tAndV, tOrV, tNotV, tIf, tNil, tCons, tTup, tLst, tCB, tSeq, tAsg, gName, tRet, tRetN, tIfS, tNext, tDrop, tCall, tUn, tPar, CMul, CDiv, V.int.injEq, V.bl.injEq, V.ref.injEq, V.str.injEq, Option.some.injEq, List.cons.injEq, and_true, true_and, and_false, false_and, or_false, false_or, or_true, true_or, exists_eq_left', exists_eq_left, exists_and_left, exists_and_right, exists_eq', exists_eq, exists_false, exists_const, List.getElem?_cons_succ, List.getElem?_cons_zero, List.set_cons_succ, List.set_cons_zero, List.length_cons, List.length_nil, List.cons_append, List.nil_append, List.append_nil, reduceCtorEq, Int.reduceLT, Int.reduceLE, Int.reduceNeg, Int.reducePow, Int.reduceSub, Int.reduceAdd, Nat.reduceAdd, Nat.reduceLeDiff, Bool.not_true, Bool.not_false, decide_true, decide_false, Bool.false_eq_true, ↓reduceIte, upd_same, not_true_eq_false, not_false_eq_true, lsO_l, lsO_f, tpO_t, tpO_f, dkO_d, dkO_f, keyO_i, keyO_s, rIxH, rIxU, cLenL, cLenT, cListL, cListT, cTupL, cIntB, cAll, rEqNilI, rEq, rNe, scal_ii, scal_ss, scal_bb, scal_nn, scal_ni, scal_in, scal_ns, scal_sn, gSub, rSetL, ixs0, ixs1, ixs2, seq0, at0, at1, at2, at3, tBM, tBM0, rAppend, rPopAt, tyV_list, tGet2, tGetI, sPut, tMG, rTIdx, tyTup, tTupF, cx_K, cx_w, ex_map_int, ex_nil_int, ex_cons_int, List.map_cons, List.map_nil, List.isEmpty_nil, List.isEmpty_cons, List.eraseIdx_zero, List.tail_cons, List.eraseIdx_cons_zero, HO.lst.injEq, HO.tup.injEq, HO.dK.injEq, HO.frz.injEq, ne_eq, gTupH, gCons, gNil, wipe, tYes, upd_upd, and_assoc, List.getElem?_map, Option.map_some, isn_non_bool, isn_non_int, isn_non_str, isn_non_tuple, isn_non_list, isn_non_dict, isn_bl_bool, isn_bl_int, isn_bl_str, isn_bl_tuple, isn_bl_list, isn_bl_dict, isn_int_bool, isn_int_int, isn_int_str, isn_int_tuple, isn_int_list, isn_int_dict, isn_str_bool, isn_str_int, isn_str_str, isn_str_tuple, isn_str_list, isn_str_dict, isn_lst_bool, isn_lst_int, isn_lst_str, isn_lst_tuple, isn_lst_list, isn_lst_dict, isn_tup_bool, isn_tup_int, isn_tup_str, isn_tup_tuple, isn_tup_list, isn_tup_dict, isn_dct_bool, isn_dct_int, isn_dct_str, isn_dct_tuple, isn_dct_list, isn_dct_dict, okn_bool, okn_int, okn_str, okn_tuple, okn_list, okn_dict, cIsi, tyT_n, tyT_b, tyT_i, tyT_s, tyT_r, V.ty.injEq, tSl, tPart, tNoPart, rSlF, gName, List.length_map, Int.reduceToNat, cpow18, Wd.s_inj, ws_num, ws_field, ws_add, ws_sub, ws_mul, ws_eq, ws_lt, ws_gt, ws_le, ws_ge, ws_and, ws_or, ws_not, rInTab, rIxTab, rCatH, rCat, rInT, cSortD, cMaxL, cMinL, rNeNilI, inV, flatV, List.any_cons, List.any_nil, List.all_cons, List.all_nil, eqV, Bool.and_true, Bool.and_false, Bool.true_and, Bool.false_and, Bool.or_false, Bool.false_or, Bool.or_true, Bool.true_or, Wd.beq_s, sz0, sz1, sz2, sz3, sz4, sz5, sz6, isc_eq, isc_lt, isc_gt, isc_le, isc_ge, isc_and, isc_or, isc_not, isl_and, isl_or, isl_not, rSetD, rUnion, rSortTx, rRep]
          have bn : -1000 ≤ n ∧ n ≤ 1000 := by omega
          by_cases hm : m = 0
          · simp only [tVar, tC, tOp, rI, rI0, rU, tTest, tB, tAnd, tOr, tNot, tAndV, tOrV, tNotV, tIf, tNil, tCons, tTup, tLst, tCB, tSeq, tAsg, gName, tRet, tRetN, tIfS, tNext, tDrop, tCall, tUn, tPar, CMul, CDiv, V.int.injEq, V.bl.injEq, V.ref.injEq, V.str.injEq, Option.some.injEq, List.cons.injEq, and_true, true_and, and_false, false_and, or_false, false_or, or_true, true_or, exists_eq_left', exists_eq_left, exists_and_left, exists_and_right, exists_eq', exists_eq, exists_false, exists_const, List.getElem?_cons_succ, List.getElem?_cons_zero, List.set_cons_succ, List.set_cons_zero, List.length_cons, List.length_nil, List.cons_append, List.nil_append, List.append_nil, reduceCtorEq, Int.reduceLT, Int.reduceLE, Int.reduceNeg, Int.reducePow, Int.reduceSub, Int.reduceAdd, Nat.reduceAdd, Nat.reduceLeDiff, Bool.not_true, Bool.not_false, decide_true, decide_false, Bool.false_eq_true, ↓reduceIte, upd_same, not_true_eq_false, not_false_eq_true, lsO_l, lsO_f, tpO_t, tpO_f, dkO_d, dkO_f, keyO_i, keyO_s, rIxH, rIxU, cLenL, cLenT, cListL, cListT, cTupL, cIntB, cAll, rEqNilI, rEq, rNe, scal_ii, scal_ss, scal_bb, scal_nn, scal_ni, scal_in, scal_ns, scal_sn, gSub, rSetL, ixs0, ixs1, ixs2, seq0, at0, at1, at2, at3, tBM, tBM0, rAppend, rPopAt, tyV_list, tGet2, tGetI, sPut, tMG, rTIdx, tyTup, tTupF, cx_K, cx_w, ex_map_int, ex_nil_int, ex_cons_int, List.map_cons, List.map_nil, List.isEmpty_nil, List.isEmpty_cons, List.eraseIdx_zero, List.tail_cons, List.eraseIdx_cons_zero, HO.lst.injEq, HO.tup.injEq, HO.dK.injEq, HO.frz.injEq, ne_eq, gTupH, gCons, gNil, wipe, tYes, upd_upd, and_assoc, List.getElem?_map, Option.map_some, isn_non_bool, isn_non_int, isn_non_str, isn_non_tuple, isn_non_list, isn_non_dict, isn_bl_bool, isn_bl_int, isn_bl_str, isn_bl_tuple, isn_bl_list, isn_bl_dict, isn_int_bool, isn_int_int, isn_int_str, isn_int_tuple, isn_int_list, isn_int_dict, isn_str_bool, isn_str_int, isn_str_str, isn_str_tuple, isn_str_list, isn_str_dict, isn_lst_bool, isn_lst_int, isn_lst_str, isn_lst_tuple, isn_lst_list, isn_lst_dict, isn_tup_bool, isn_tup_int, isn_tup_str, isn_tup_tuple, isn_tup_list, isn_tup_dict, isn_dct_bool, isn_dct_int, isn_dct_str, isn_dct_tuple, isn_dct_list, isn_dct_dict, okn_bool, okn_int, okn_str, okn_tuple, okn_list, okn_dict, cIsi, tyT_n, tyT_b, tyT_i, tyT_s, tyT_r, V.ty.injEq, tSl, tPart, tNoPart, rSlF, gName, List.length_map, Int.reduceToNat, cpow18, Wd.s_inj, ws_num, ws_field, ws_add, ws_sub, ws_mul, ws_eq, ws_lt, ws_gt, ws_le, ws_ge, ws_and, ws_or, ws_not, rInTab, rIxTab, rCatH, rCat, rInT, cSortD, cMaxL, cMinL, rNeNilI, inV, flatV, List.any_cons, List.any_nil, List.all_cons, List.all_nil, eqV, Bool.and_true, Bool.and_false, Bool.true_and, Bool.false_and, Bool.or_false, Bool.false_or, Bool.or_true, Bool.true_or, Wd.beq_s, sz0, sz1, sz2, sz3, sz4, sz5, sz6, isc_eq, isc_lt, isc_gt, isc_le, isc_ge, isc_and, isc_or, isc_not, isl_and, isl_or, isl_not, rSetD, rUnion, rSortTx, rRep, hm, p37, p27]
            intro z hz
            have st := TupS.ofSame (same_new (o := .tup [.str o.s, .ref q, .ref p1]) hz)
            refine k _ (.cmp o (.fld t f) (.num n)) _ ⟨z, _, _, rfl, upd_same, ⟨q, rfl, st _ _ q7⟩, ⟨p1, rfl, st _ _ p17⟩⟩ ⟨?_, ⟨trivial, bn, by simp [Tm.deep], by simp [Tm.deep]⟩, Nat.zero_le _, Nat.one_le_two_pow⟩ (B7.same (same_new hz)) (kx.thenNew hz)
            simp only [Cd.ok, Tm.ok, ho, ht, hf, Bool.and_true]
          · simp only [tVar, tC, tOp, rI, rI0, rU, tTest, tB, tAnd, tOr, tNot, tAndV, tOrV, tNotV, tIf, tNil, tCons, tTup, tLst, tCB, tSeq, tAsg, gName, tRet, tRetN, tIfS, tNext, tDrop, tCall, tUn, tPar, CMul, CDiv, V.int.injEq, V.bl.injEq, V.ref.injEq, V.str.injEq, Option.some.injEq, List.cons.injEq, and_true, true_and, and_false, false_and, or_false, false_or, or_true, true_or, exists_eq_left', exists_eq_left, exists_and_left, exists_and_right, exists_eq', exists_eq, exists_false, exists_const, List.getElem?_cons_succ, List.getElem?_cons_zero, List.set_cons_succ, List.set_cons_zero, List.length_cons, List.length_nil, List.cons_append, List.nil_append, List.append_nil, reduceCtorEq, Int.reduceLT, Int.reduceLE, Int.reduceNeg, Int.reducePow, Int.reduceSub, Int.reduceAdd, Nat.reduceAdd, Nat.reduceLeDiff, Bool.not_true, Bool.not_false, decide_true, decide_false, Bool.false_eq_true, ↓reduceIte, upd_same, not_true_eq_false, not_false_eq_true, lsO_l, lsO_f, tpO_t, tpO_f, dkO_d, dkO_f, keyO_i, keyO_s, rIxH, rIxU, cLenL, cLenT, cListL, cListT, cTupL, cIntB, cAll, rEqNilI, rEq, rNe, scal_ii, scal_ss, scal_bb, scal_nn, scal_ni, scal_in, scal_ns, scal_sn, gSub, rSetL, ixs0, ixs1, ixs2, seq0, at0, at1, at2, at3, tBM, tBM0, rAppend, rPopAt, tyV_list, tGet2, tGetI, sPut, tMG, rTIdx, tyTup, tTupF, cx_K, cx_w, ex_map_int, ex_nil_int, ex_cons_int, List.map_cons, List.map_nil, List.isEmpty_nil, List.isEmpty_cons, List.eraseIdx_zero, List.tail_cons, List.eraseIdx_cons_zero, HO.lst.injEq, HO.tup.injEq, HO.dK.injEq, HO.frz.injEq, ne_eq, gTupH, gCons, gNil, wipe, tYes, upd_upd, and_assoc, List.getElem?_map, Option.map_some, isn_non_bool, isn_non_int, isn_non_str, isn_non_tuple, isn_non_list, isn_non_dict, isn_bl_bool, isn_bl_int, isn_bl_str, isn_bl_tuple, isn_bl_list, isn_bl_dict, isn_int_bool, isn_int_int, isn_int_str, isn_int_tuple, isn_int_list, isn_int_dict, isn_str_bool, isn_str_int, isn_str_str, isn_str_tuple, isn_str_list, isn_str_dict, isn_lst_bool, isn_lst_int, isn_lst_str, isn_lst_tuple, isn_lst_list, isn_lst_dict, isn_tup_bool, isn_tup_int, isn_tup_str, isn_tup_tuple, isn_tup_list, isn_tup_dict, isn_dct_bool, isn_dct_int, isn_dct_str, isn_dct_tuple, isn_dct_list, isn_dct_dict, okn_bool, okn_int, okn_str, okn_tuple, okn_list, okn_dict, cIsi, tyT_n, tyT_b, tyT_i, tyT_s, tyT_r, V.ty.injEq, tSl, tPart, tNoPart, rSlF, gName, List.length_map, Int.reduceToNat, cpow18, Wd.s_inj, ws_num, ws_field, ws_add, ws_sub, ws_mul, ws_eq, ws_lt, ws_gt, ws_le, ws_ge, ws_and, ws_or, ws_not, rInTab, rIxTab, rCatH, rCat, rInT, cSortD, cMaxL, cMinL, rNeNilI, inV, flatV, List.any_cons, List.any_nil, List.all_cons, List.all_nil, eqV, Bool.and_true, Bool.and_false, Bool.true_and, Bool.false_and, Bool.or_false, Bool.false_or, Bool.or_true, Bool.true_or, Wd.beq_s, sz0, sz1, sz2, sz3, sz4, sz5, sz6, isc_eq, isc_lt, isc_gt, isc_le, isc_ge, isc_and, isc_or, isc_not, isl_and, isl_or, isl_not, rSetD, rUnion, rSortTx, rRep, hm, tRevT, tUn, rU, p37, p27]
            rw [show [V.ref q, V.ref p1].reverse = [V.ref p1, V.ref q] from rfl]
            intro y hy
            have n3y : p3 ≠ y := ne_of_none p37 hy
            simp only [tVar, tC, tOp, rI, rI0, rU, tTest, tB, tAnd, tOr, tNot, tAndV, tOrV, tNotV, tIf, tNil, tCons, tTup, tLst, tCB, tSeq, tAsg, gName, tRet, tRetN, tIfS, tNext, tDrop, tCall, tUn, tPar, CMul, CDiv, V.int.injEq, V.bl.injEq, V.ref.injEq, V.str.injEq, Option.some.injEq, List.cons.injEq, and_true, true_and, and_false, false_and, or_false, false_or, or_true, true_or, exists_eq_left', exists_eq_left, exists_and_left, exists_and_right, exists_eq', exists_eq, exists_false, exists_const, List.getElem?_cons_succ, List.getElem?_cons_zero, List.set_cons_succ, List.set_cons_zero, List.length_cons, List.length_nil, List.cons_append, List.nil_append, List.append_nil, reduceCtorEq, Int.reduceLT, Int.reduceLE, Int.reduceNeg, Int.reducePow, Int.reduceSub, Int.reduceAdd, Nat.reduceAdd, Nat.reduceLeDiff, Bool.not_true, Bool.not_false, decide_true, decide_false, Bool.false_eq_true, ↓reduceIte, upd_same, not_true_eq_false, not_false_eq_true, lsO_l, lsO_f, tpO_t, tpO_f, dkO_d, dkO_f, keyO_i, keyO_s, rIxH, rIxU, cLenL, cLenT, cListL, cListT, cTupL, cIntB, cAll, rEqNilI, rEq, rNe, scal_ii, scal_ss, scal_bb, scal_nn, scal_ni, scal_in, scal_ns, scal_sn, gSub, rSetL, ixs0, ixs1, ixs2, seq0, at0, at1, at2, at3, tBM, tBM0, rAppend, rPopAt, tyV_list, tGet2, tGetI, sPut, tMG, rTIdx, tyTup, tTupF, cx_K, cx_w, ex_map_int, ex_nil_int, ex_cons_int, List.map_cons, List.map_nil, List.isEmpty_nil, List.isEmpty_cons, List.eraseIdx_zero, List.tail_cons, List.eraseIdx_cons_zero, HO.lst.injEq, HO.tup.injEq, HO.dK.injEq, HO.frz.injEq, ne_eq, gTupH, gCons, gNil, wipe, tYes, upd_upd, and_assoc, List.getElem?_map, Option.map_some, isn_non_bool, isn_non_int, isn_non_str, isn_non_tuple, isn_non_list, isn_non_dict, isn_bl_bool, isn_bl_int, isn_bl_str, isn_bl_tuple, isn_bl_list, isn_bl_dict, isn_int_bool, isn_int_int, isn_int_str, isn_int_tuple, isn_int_list, isn_int_dict, isn_str_bool, isn_str_int, isn_str_str, isn_str_tuple, isn_str_list, isn_str_dict, isn_lst_bool, isn_lst_int, isn_lst_str, isn_lst_tuple, isn_lst_list, isn_lst_dict, isn_tup_bool, isn_tup_int, isn_tup_str, isn_tup_tuple, isn_tup_list, isn_tup_dict, isn_dct_bool, isn_dct_int, isn_dct_str, isn_dct_tuple, isn_dct_list, isn_dct_dict, okn_bool, okn_int, okn_str, okn_tuple, okn_list, okn_dict, cIsi, tyT_n, tyT_b, tyT_i, tyT_s, tyT_r, V.ty.injEq, tSl, tPart, tNoPart, rSlF, gName, List.length_map, Int.reduceToNat, cpow18, Wd.s_inj, ws_num, ws_field, ws_add, ws_sub, ws_mul, ws_eq, ws_lt, ws_gt, ws_le, ws_ge, ws_and, ws_or, ws_not, rInTab, rIxTab, rCatH, rCat, rInT, cSortD, cMaxL, cMinL, rNeNilI, inV, flatV, List.any_cons, List.any_nil, List.all_cons, List.all_nil, eqV, Bool.and_true, Bool.and_false, Bool.true_and, Bool.false_and, Bool.or_false, Bool.false_or, Bool.or_true, Bool.true_or, Wd.beq_s, sz0, sz1, sz2, sz3, sz4, sz5, sz6, isc_eq, isc_lt, isc_gt, isc_le, isc_ge, isc_and, isc_or, isc_not, isl_and, isl_or, isl_not, rSetD, rUnion, rSortTx, rRep, upd_ne n3y, p37]
            intro z hz
            have st := TupS.ofSame ((same_new (o := .tup [.ref p1, .ref q]) hy).trans (same_new (o := .tup [.str o.s, .ref p1, .ref q]) hz))
            refine k _ (.cmp o (.num n) (.fld t f)) _ ⟨z, _, _, rfl, upd_same, ⟨p1, rfl, st _ _ p17⟩, ⟨q, rfl, st _ _ q7⟩⟩ ⟨?_, ⟨bn, trivial, by simp [Tm.deep], by simp [Tm.deep]⟩, Nat.zero_le _, Nat.one_le_two_pow⟩ ((B7.same (same_new hy)).same (same_new hz)) ((kx.thenNew hy).thenNew hz)
            simp only [Cd.ok, Tm.ok, ho, ht, hf, Bool.and_true]
      · simp only [tVar, tC, tOp, rI, rI0, rU, tTest, tB, tAnd, tOr, tNot, tAndV, tOrV, tNotV, tIf, tNil, tCons, tTup, tLst, tCB, tSeq, tAsg, gName, tRet, tRetN, tIfS, tNext, tDrop, tCall, tUn, tPar, CMul, CDiv, V.int.injEq, V.bl.injEq, V.ref.injEq, V.str.injEq, Option.some.injEq, List.cons.injEq, and_true, true_and, and_false, false_and, or_false, false_or, or_true, true_or, exists_eq_left', exists_eq_left, exists_and_left, exists_and_right, exists_eq', exists_eq, exists_false, exists_const, List.getElem?_cons_succ, List.getElem?_cons_zero, List.set_cons_succ, List.set_cons_zero, List.length_cons, List.length_nil, List.cons_append, List.nil_append, List.append_nil, reduceCtorEq, Int.reduceLT, Int.reduceLE, Int.reduceNeg, Int.reducePow, Int.reduceSub, Int.reduceAdd, Nat.reduceAdd, Nat.reduceLeDiff, Bool.not_true, Bool.not_false, decide_true, decide_false, Bool.false_eq_true, ↓reduceIte, upd_same, not_true_eq_false, not_false_eq_true, lsO_l, lsO_f, tpO_t, tpO_f, dkO_d, dkO_f, keyO_i, keyO_s, rIxH, rIxU, cLenL, cLenT, cListL, cListT, cTupL, cIntB, cAll, rEqNilI, rEq, rNe, scal_ii, scal_ss, scal_bb, scal_nn, scal_ni, scal_in, scal_ns, scal_sn, gSub, rSetL, ixs0, ixs1, ixs2, seq0, at0, at1, at2, at3, tBM, tBM0, rAppend, rPopAt, tyV_list, tGet2, tGetI, sPut, tMG, rTIdx, tyTup, tTupF, cx_K, cx_w, ex_map_int, ex_nil_int, ex_cons_int, List.map_cons, List.map_nil, List.isEmpty_nil, List.isEmpty_cons, List.eraseIdx_zero, List.tail_cons, List.eraseIdx_cons_zero, HO.lst.injEq, HO.tup.injEq, HO.dK.injEq, HO.frz.injEq, ne_eq, gTupH, gCons, gNil, wipe, tYes, upd_upd, and_assoc, List.getElem?_map, Option.map_some, isn_non_bool, isn_non_int, isn_non_str, isn_non_tuple, isn_non_list, isn_non_dict, isn_bl_bool, isn_bl_int, isn_bl_str, isn_bl_tuple, isn_bl_list, isn_bl_dict, isn_int_bool, isn_int_int, isn_int_str, isn_int_tuple, isn_int_list, isn_int_dict, isn_str_bool, isn_str_int, isn_str_str, isn_str_tuple, isn_str_list, isn_str_dict, isn_lst_bool, isn_lst_int, isn_lst_str, isn_lst_tuple, isn_lst_list, isn_lst_dict, isn_tup_bool, isn_tup_int, isn_tup_str, isn_tup_tuple, isn_tup_list, isn_tup_dict, isn_dct_bool, isn_dct_int, isn_dct_str, isn_dct_tuple, isn_dct_list, isn_dct_dict, okn_bool, okn_int, okn_str, okn_tuple, okn_list, okn_dict, cIsi, tyT_n, tyT_b, tyT_i, tyT_s, tyT_r, V.ty.injEq, tSl, tPart, tNoPart, rSlF, gName, List.length_map, Int.reduceToNat, cpow18, Wd.s_inj, ws_num, ws_field, ws_add, ws_sub, ws_mul, ws_eq, ws_lt, ws_gt, ws_le, ws_ge, ws_and, ws_or, ws_not, rInTab, rIxTab, rCatH, rCat, rInT, cSortD, cMaxL, cMinL, rNeNilI, inV, flatV, List.any_cons, List.any_nil, List.all_cons, List.all_nil, eqV, Bool.and_true, Bool.and_false, Bool.true_and, Bool.false_and, Bool.or_false, Bool.false_or, Bool.or_true, Bool.true_or, Wd.beq_s, sz0, sz1, sz2, sz3, sz4, sz5, sz6, isc_eq, isc_lt, isc_gt, isc_le, isc_ge, isc_and, isc_or, isc_not, isl_and, isl_or, isl_not, rSetD, rUnion, rSortTx, rRep, c]
        exact ⟨B3, k2.trans k3⟩
    rintro σ' H3 ⟨rfl, B3, k3⟩
    have R3 := R.keepB k3 B nfa
    simp only [tVar, tC, tOp, rI, rI0, rU, tTest, tB, tAnd, tOr, tNot, tAndV, tOrV, tNotV, tIf, tNil, tCons, tTup, tLst, tCB, tSeq, tAsg, gName, tRet, tRetN, tIfS, tNext, tDrop, tCall, tUn, tPar, CMul, CDiv, V.int.injEq, V.bl.injEq, V.ref.injEq, V.str.injEq, Option.some.injEq, List.cons.injEq, and_true, true_and, and_false, false_and, or_false, false_or, or_true, true_or, exists_eq_left', exists_eq_left, exists_and_left, exists_and_right, exists_eq', exists_eq, exists_false, exists_const, List.getElem?_cons_succ, List.getElem?_cons_zero, List.set_cons_succ, List.set_cons_zero, List.length_cons, List.length_nil, List.cons_append, List.nil_append, List.append_nil, reduceCtorEq, Int.reduceLT, Int.reduceLE, Int.reduceNeg, Int.reducePow, Int.reduceSub, Int.reduceAdd, Nat.reduceAdd, Nat.reduceLeDiff, Bool.not_true, Bool.not_false, decide_true, decide_false, Bool.false_eq_true, ↓reduceIte, upd_same, not_true_eq_false, not_false_eq_true, lsO_l, lsO_f, tpO_t, tpO_f, dkO_d, dkO_f, keyO_i, keyO_s, rIxH, rIxU, cLenL, cLenT, cListL, cListT, cTupL, cIntB, cAll, rEqNilI, rEq, rNe, scal_ii, scal_ss, scal_bb, scal_nn, scal_ni, scal_in, scal_ns, scal_sn, gSub, rSetL, ixs0, ixs1, ixs2, seq0, at0, at1, at2, at3, tBM, tBM0, rAppend, rPopAt, tyV_list, tGet2, tGetI, sPut, tMG, rTIdx, tyTup, tTupF, cx_K, cx_w, ex_map_int, ex_nil_int, ex_cons_int, List.map_cons, List.map_nil, List.isEmpty_nil, List.isEmpty_cons, List.eraseIdx_zero, List.tail_cons, List.eraseIdx_cons_zero, HO.lst.injEq, HO.tup.injEq, HO.dK.injEq, HO.frz.injEq, ne_eq, gTupH, gCons, gNil, wipe, tYes, upd_upd, and_assoc, List.getElem?_map, Option.map_some, isn_non_bool, isn_non_int, isn_non_str, isn_non_tuple, isn_non_list, isn_non_dict, isn_bl_bool, isn_bl_int, isn_bl_str, isn_bl_tuple, isn_bl_list, isn_bl_dict, isn_int_bool, isn_int_int, isn_int_str, isn_int_tuple, isn_int_list, isn_int_dict, isn_str_bool, isn_str_int, isn_str_str, isn_str_tuple, isn_str_list, isn_str_dict, isn_lst_bool, isn_lst_int, isn_lst_str, isn_lst_tuple, isn_lst_list, isn_lst_dict, isn_tup_bool, isn_tup_int, isn_tup_str, isn_tup_tuple, isn_tup_list, isn_tup_dict, isn_dct_bool, isn_dct_int, isn_dct_str, isn_dct_tuple, isn_dct_list, isn_dct_dict, okn_bool, okn_int, okn_str, okn_tuple, okn_list, okn_dict, cIsi, tyT_n, tyT_b, tyT_i, tyT_s, tyT_r, V.ty.injEq, tSl, tPart, tNoPart, rSlF, gName, List.length_map, Int.reduceToNat, cpow18, Wd.s_inj, ws_num, ws_field, ws_add, ws_sub, ws_mul, ws_eq, ws_lt, ws_gt, ws_le, ws_ge, ws_and, ws_or, ws_not, rInTab, rIxTab, rCatH, rCat, rInT, cSortD, cMaxL, cMinL, rNeNilI, inV, flatV, List.any_cons, List.any_nil, List.all_cons, List.all_nil, eqV, Bool.and_true, Bool.and_false, Bool.true_and, Bool.false_and, Bool.or_false, Bool.false_or, Bool.or_true, Bool.true_or, Wd.beq_s, sz0, sz1, sz2, sz3, sz4, sz5, sz6, isc_eq, isc_lt, isc_gt, isc_le, isc_ge, isc_and, isc_or, isc_not, isl_and, isl_or, isl_not, rSetD, rUnion, rSortTx, rRep]
    refine ⟨h, l, fa, ps, rfl, B3, R3, hps, nfa, fun v1 t1 H4 x1 o1 l1 d1 B4 k4 => ?_⟩
    refine ⟨h, l, fa, ps, rfl, B4, R3.keepB k4 B3 nfa, hps, nfa, fun v2 t2 H5 x2 o2 l2 d2 B5 k5 => ?_⟩
    simp only [tVar, tC, tOp, rI, rI0, rU, tTest, tB, tAnd, tOr, tNot, tAndV, tOrV, tNotV, tIf, tNil, tCons, tTup, tLst, tCB, tSeq, tAsg, gName, tRet, tRetN, tIfS, tNext, tDrop, tCall, tUn, tPar, CMul, CDiv, V.int.injEq, V.bl.injEq, V.ref.injEq, V.str.injEq, Option.some.injEq, List.cons.injEq, and_true, true_and, and_false, false_and, or_false, false_or, or_true, true_or, exists_eq_left', exists_eq_left, exists_and_left, exists_and_right, exists_eq', exists_eq, exists_false, exists_const, List.getElem?_cons_succ, List.getElem?_cons_zero, List.set_cons_succ, List.set_cons_zero, List.length_cons, List.length_nil, List.cons_append, List.nil_append, List.append_nil, reduceCtorEq, Int.reduceLT, Int.reduceLE, Int.reduceNeg, Int.reducePow, Int.reduceSub, Int.reduceAdd, Nat.reduceAdd, Nat.reduceLeDiff, Bool.not_true, Bool.not_false, decide_true, decide_false, Bool.false_eq_true, ↓reduceIte, upd_same, not_true_eq_false, not_false_eq_true, lsO_l, lsO_f, tpO_t, tpO_f, dkO_d, dkO_f, keyO_i, keyO_s, rIxH, rIxU, cLenL, cLenT, cListL, cListT, cTupL, cIntB, cAll, rEqNilI, rEq, rNe, scal_ii, scal_ss, scal_bb, scal_nn, scal_ni, scal_in, scal_ns, scal_sn, gSub, rSetL, ixs0, ixs1, ixs2, seq0, at0, at1, at2, at3, tBM, tBM0, rAppend, rPopAt, tyV_list, tGet2, tGetI, sPut, tMG, rTIdx, tyTup, tTupF, cx_K, cx_w, ex_map_int, ex_nil_int, ex_cons_int, List.map_cons, List.map_nil, List.isEmpty_nil, List.isEmpty_cons, List.eraseIdx_zero, List.tail_cons, List.eraseIdx_cons_zero, HO.lst.injEq, HO.tup.injEq, HO.dK.injEq, HO.frz.injEq, ne_eq, gTupH, gCons, gNil, wipe, tYes, upd_upd, and_assoc, List.getElem?_map, Option.map_some, isn_non_bool, isn_non_int, isn_non_str, isn_non_tuple, isn_non_list, isn_non_dict, isn_bl_bool, isn_bl_int, isn_bl_str, isn_bl_tuple, isn_bl_list, isn_bl_dict, isn_int_bool, isn_int_int, isn_int_str, isn_int_tuple, isn_int_list, isn_int_dict, isn_str_bool, isn_str_int, isn_str_str, isn_str_tuple, isn_str_list, isn_str_dict, isn_lst_bool, isn_lst_int, isn_lst_str, isn_lst_tuple, isn_lst_list, isn_lst_dict, isn_tup_bool, isn_tup_int, isn_tup_str, isn_tup_tuple, isn_tup_list, isn_tup_dict, isn_dct_bool, isn_dct_int, isn_dct_str, isn_dct_tuple, isn_dct_list, isn_dct_dict, okn_bool, okn_int, okn_str, okn_tuple, okn_list, okn_dict, cIsi, tyT_n, tyT_b, tyT_i, tyT_s, tyT_r, V.ty.injEq, tSl, tPart, tNoPart, rSlF, gName, List.length_map, Int.reduceToNat, cpow18, Wd.s_inj, ws_num, ws_field, ws_add, ws_sub, ws_mul, ws_eq, ws_lt, ws_gt, ws_le, ws_ge, ws_and, ws_or, ws_not, rInTab, rIxTab, rCatH, rCat, rInT, cSortD, cMaxL, cMinL, rNeNilI, inV, flatV, List.any_cons, List.any_nil, List.all_cons, List.all_nil, eqV, Bool.and_true, Bool.and_false, Bool.true_and, Bool.false_and, Bool.or_false, Bool.false_or, Bool.or_true, Bool.true_or, Wd.beq_s, sz0, sz1, sz2, sz3, sz4, sz5, sz6, isc_eq, isc_lt, isc_gt, isc_le, isc_ge, isc_and, isc_or, isc_not, isl_and, isl_or, isl_not, rSetD, rUnion, rSortTx, rRep]
    intro p hp
    have s3 := same_new (o := .tup [.str o.s, v1, v2]) hp
    refine k _ (.cmp o t1 t2) _ ⟨p, v1, v2, rfl, upd_same, (x1.tups (B4.tups k5)).tups (TupS.ofSame s3), x2.tups (TupS.ofSame s3)⟩ ⟨?_, ⟨l1, l2, by omega, by omega⟩, Nat.zero_le _, Nat.one_le_two_pow⟩ (B5.same s3) (((k3.trans k4).trans k5).thenNew hp)
    simp only [Cd.ok, ho, o1, o2, Bool.and_true]
theorem ok_l_cond (T : Txt K mg w) : ∀ d : Nat, FnOk P w K mg base CX0 (d + 6) T.f_l_cond T.fd_l_cond ["_law_h", "_law_fields", "_law_deep"] (spCond d)
  | 0 => l_cond_step T 0 (fun _ _ _ _ => False) (T.F_l_cond.ok sc_l_cond (fun vs H Q E h => h.elim) (fun cdv A outer s H vs Q E hr h => h.elim)) (fun e h => absurd h (by omega))
  | d + 1 => l_cond_step T (d + 1) (spCond d) (ok_l_cond T d) (fun e h => by cases h; rfl)
end

def spParts (d : Nat) : Sp := fun vs H Q _ => ∃ (v : V) (co : Option G7.Cd), vs = [v] ∧ RCo H v co ∧ CoGood co d 1000 ∧ ∀ a es H', RL H' a es → es.map (·.2) = partsO co → H a = none → Same H H' → Q (.ref a) H'
theorem _root_.G7.RL.same {H H' : Hp} {a : Addr} {es : List (V × G7.Cd)} (R : RL H a es) (k : Same H H') : RL H' a es := ⟨k _ _ R.at_, fun e he => (R.each e he).tups (TupS.ofSame k)⟩
theorem good_sub {o : Wd} {a b : G7.Cd} {d m : Nat} (g : (G7.Cd.con o a b).Good (d + 1) m) : a.Good d m ∧ b.Good d m := by
  have h1 := g.ok
  have h2 := g.lim
  have h3 := g.high
  have h4 := g.few
  simp only [Cd.ok, Bool.and_eq_true] at h1
  simp only [Cd.high] at h3
  simp only [Cd.leaves] at h4
  exact ⟨⟨h1.1.2, h2.1, by omega, by omega⟩, ⟨h1.2, h2.2, by omega, by omega⟩⟩
section
variable {P : Program} {w : World} {K : PySem.W.Frag} {mg : Str → Option Value} {base : Heap}
theorem parts_step (T : Txt K mg w) (d : Nat) (sp0 : Sp) (G_parts_of : FnOk P w K mg base CX0 (d + 1) T.f_parts_of T.fd_parts_of ["cond"] sp0) (h0 : ∀ e, d = e + 1 → sp0 = spParts e) :
    FnOk P w K mg base CX0 (d + 2) T.f_parts_of T.fd_parts_of ["cond"] (spParts d) := by
  refine T.F_parts_of.ok sc_parts_of (fun vs H Q E h => ?_) (fun cdv A outer s H vs Q E hr h => ?_)
  · obtain ⟨v, co, rfl, _⟩ := h
    rfl
  · obtain ⟨v, co, rfl, R, g, k⟩ := h
    refine ⟨_, (pss_cons (ps_if (pt_cmpR op_isN (pv 0) pe_non (nomark _)) (pss_one (ps_ret (pe_lst pa_nil))) pss_nil)
      (pss_cons (ps_if (pt_cmpR op_eq (pe_ix ix_tp (pv 0) pe_int (fun _ _ => rfl)) pe_str (nomark _)) (pss_one (ps_ret (pe_op op_cat (pe_call G_parts_of (hr.mono (by show _ ≤ d + 1; omega)) rfl T.mg_parts_of T.F_parts_of.kp T.b_parts_of .nil pass0 (pa_cons (pe_ix ix_tp (pv 0) pe_int (fun _ _ => rfl)) pa_nil)) (pe_call G_parts_of (hr.mono (by show _ ≤ d + 1; omega)) rfl T.mg_parts_of T.F_parts_of.kp T.b_parts_of .nil pass0 (pa_cons (pe_ix ix_tp (pv 0) pe_int (fun _ _ => rfl)) pa_nil))))) pss_nil)
      (pss_one (ps_ret (pe_lst (pa_cons (pv 0) pa_nil)))))), ?_⟩
    rw [show L2.start N_parts_of [v] = [some (v)] from rfl]
    cases co with
    | none =>
      cases (show v = .non from R)
      simp only [tVar, tC, tOp, rI, rI0, rU, tTest, tB, tAnd, tOr, tNot, tAndV, tOrV, tNotV, tIf, tNil, tCons, tTup, tLst, tCB, tSeq, tAsg, gName, tRet, tRetN, tIfS, tNext, tDrop, tCall, tUn, tPar, CMul, CDiv, V.int.injEq, V.bl.injEq, V.ref.injEq, V.str.injEq, Option.some.injEq, List.cons.injEq, and_true, true_and, and_false, false_and, or_false, false_or, or_true, true_or, exists_eq_left', exists_eq_left, exists_and_left, exists_and_right, exists_eq', exists_eq, exists_false, exists_const, List.getElem?_cons_succ, List.getElem?_cons_zero, List.set_cons_succ, List.set_cons_zero, List.length_cons, List.length_nil, List.cons_append, List.nil_append, List.append_nil, reduceCtorEq, Int.reduceLT, Int.reduceLE, Int.reduceNeg, Int.reducePow, Int.reduceSub, Int.reduceAdd, Nat.reduceAdd, Nat.reduceLeDiff, Bool.not_true, Bool.not_false, decide_true, decide_false, Bool.false_eq_true, ↓reduceIte, upd_same, not_true_eq_false, not_false_eq_true, lsO_l, lsO_f, tpO_t, tpO_f, dkO_d, dkO_f, keyO_i, keyO_s, rIxH, rIxU, cLenL, cLenT, cListL, cListT, cTupL, cIntB, cAll, rEqNilI, rEq, rNe, scal_ii, scal_ss, scal_bb, scal_nn, scal_ni, scal_in, scal_ns, scal_sn, gSub, rSetL, ixs0, ixs1, ixs2, seq0, at0, at1, at2, at3, tBM, tBM0, rAppend, rPopAt, tyV_list, tGet2, tGetI, sPut, tMG, rTIdx, tyTup, tTupF, cx_K, cx_w, ex_map_int, ex_nil_int, ex_cons_int, List.map_cons, List.map_nil, List.isEmpty_nil, List.isEmpty_cons, List.eraseIdx_zero, List.tail_cons, List.eraseIdx_cons_zero, HO.lst.injEq, HO.tup.injEq, HO.dK.injEq, HO.frz.injEq, ne_eq, gTupH, gCons, gNil, wipe, tYes, upd_upd, and_assoc, List.getElem?_map, Option.map_some, isn_non_bool, isn_non_int, isn_non_str, isn_non_tuple, isn_non_list, isn_non_dict, isn_bl_bool, isn_bl_int, isn_bl_str, isn_bl_tuple, isn_bl_list, isn_bl_dict, isn_int_bool, isn_int_int, isn_int_str, isn_int_tuple, isn_int_list, isn_int_dict, isn_str_bool, isn_str_int, isn_str_str, isn_str_tuple, isn_str_list, isn_str_dict, isn_lst_bool, isn_lst_int, isn_lst_str, isn_lst_tuple, isn_lst_list, isn_lst_dict, isn_tup_bool, isn_tup_int, isn_tup_str, isn_tup_tuple, isn_tup_list, isn_tup_dict, isn_dct_bool, isn_dct_int, isn_dct_str, isn_dct_tuple, isn_dct_list, isn_dct_dict, okn_bool, okn_int, okn_str, okn_tuple, okn_list, okn_dict, cIsi, tyT_n, tyT_b, tyT_i, tyT_s, tyT_r, V.ty.injEq, tSl, tPart, tNoPart, rSlF, gName, List.length_map, Int.reduceToNat, cpow18, Wd.s_inj, ws_num, ws_field, ws_add, ws_sub, ws_mul, ws_eq, ws_lt, ws_gt, ws_le, ws_ge, ws_and, ws_or, ws_not, rInTab, rIxTab, rCatH, rCat, rInT, cSortD, cMaxL, cMinL, rNeNilI, inV, flatV, List.any_cons, List.any_nil, List.all_cons, List.all_nil, eqV, Bool.and_true, Bool.and_false, Bool.true_and, Bool.false_and, Bool.or_false, Bool.false_or, Bool.or_true, Bool.true_or, Wd.beq_s, sz0, sz1, sz2, sz3, sz4, sz5, sz6, isc_eq, isc_lt, isc_gt, isc_le, isc_ge, isc_and, isc_or, isc_not, isl_and, isl_or, isl_not, rSetD, rUnion, rSortTx, rRep]
      intro p hp
      exact k _ [] _ ⟨upd_same, fun e he => absurd he (by simp)⟩ rfl hp (same_new hp)
    | some c =>
      have R0 : RC H v c := R
      have one : c.head ≠ .and → ∀ a, v = .ref a → ∀ p, H p = none → Q (.ref p) (upd H p (.lst [v])) := fun hc a ea p hp => by
        refine k _ [(v, c)] _ ⟨by rw [upd_same]; rfl, fun e he => ?_⟩ ?_ hp (same_new hp)
        · cases List.mem_singleton.mp he
          exact R0.tups (TupS.ofSame (same_new hp))
        · cases c with
          | con o x y =>
            cases o with
            | and => exact absurd rfl hc
            | _ => rfl
          | _ => rfl
      by_cases hc : c.head = .and
      · cases c with
        | cmp c x y =>
          have h1 := g.ok
          simp only [Cd.ok, Bool.and_eq_true] at h1
          have h2 := h1.1.1
          rw [show c = .and from hc] at h2
          cases h2
        | neg c => cases hc
        | con o x y =>
          obtain rfl : o = .and := hc
          obtain ⟨a', u, z, rfl, ha', hx, hy⟩ := R0
          obtain ⟨e, rfl⟩ : ∃ e, d = e + 1 := ⟨d - 1, by have := g.high; simp only [Cd.high] at this; omega⟩
          cases h0 e rfl
          obtain ⟨g1, g2⟩ := good_sub g
          simp only [tVar, tC, tOp, rI, rI0, rU, tTest, tB, tAnd, tOr, tNot, tAndV, tOrV, tNotV, tIf, tNil, tCons, tTup, tLst, tCB, tSeq, tAsg, gName, tRet, tRetN, tIfS, tNext, tDrop, tCall, tUn, tPar, CMul, CDiv, V.int.injEq, V.bl.injEq, V.ref.injEq, V.str.injEq, Option.some.injEq, List.cons.injEq, and_true, true_and, and_false, false_and, or_false, false_or, or_true, true_or, exists_eq_left', exists_eq_left, exists_and_left, exists_and_right, exists_eq', exists_eq, exists_false, exists_const, List.getElem?_cons_succ, List.getElem?_cons_zero, List.set_cons_succ, List.set_cons_zero, List.length_cons, List.length_nil, List.cons_append, List.nil_append, List.append_nil, reduceCtorEq, Int.reduceLT, Int.reduceLE, Int.reduceNeg, Int.reducePow, Int.reduceSub, Int.reduceAdd, Nat.reduceAdd, Nat.reduceLeDiff, Bool.not_true, Bool.not_false, decide_true, decide_false, Bool.false_eq_true, ↓reduceIte, upd_same, not_true_eq_false, not_false_eq_true, lsO_l, lsO_f, tpO_t, tpO_f, dkO_d, dkO_f, keyO_i, keyO_s, rIxH, rIxU, cLenL, cLenT, cListL, cListT, cTupL, cIntB, cAll, rEqNilI, rEq, rNe, scal_ii, scal_ss, scal_bb, scal_nn, scal_ni, scal_in, scal_ns, scal_sn, gSub, rSetL, ixs0, ixs1, ixs2, seq0, at0, at1, at2, at3, tBM, tBM0, rAppend, rPopAt, tyV_list, tGet2, tGetI, sPut, tMG, rTIdx, tyTup, tTupF, cx_K, cx_w, ex_map_int, ex_nil_int, ex_cons_int, List.map_cons, List.map_nil, List.isEmpty_nil, List.isEmpty_cons, List.eraseIdx_zero, List.tail_cons, List.eraseIdx_cons_zero, HO.lst.injEq, HO.tup.injEq, HO.dK.injEq, HO.frz.injEq, ne_eq, gTupH, gCons, gNil, wipe, tYes, upd_upd, and_assoc, List.getElem?_map, Option.map_some, isn_non_bool, isn_non_int, isn_non_str, isn_non_tuple, isn_non_list, isn_non_dict, isn_bl_bool, isn_bl_int, isn_bl_str, isn_bl_tuple, isn_bl_list, isn_bl_dict, isn_int_bool, isn_int_int, isn_int_str, isn_int_tuple, isn_int_list, isn_int_dict, isn_str_bool, isn_str_int, isn_str_str, isn_str_tuple, isn_str_list, isn_str_dict, isn_lst_bool, isn_lst_int, isn_lst_str, isn_lst_tuple, isn_lst_list, isn_lst_dict, isn_tup_bool, isn_tup_int, isn_tup_str, isn_tup_tuple, isn_tup_list, isn_tup_dict, isn_dct_bool, isn_dct_int, isn_dct_str, isn_dct_tuple, isn_dct_list, isn_dct_dict, okn_bool, okn_int, okn_str, okn_tuple, okn_list, okn_dict, cIsi, tyT_n, tyT_b, tyT_i, tyT_s, tyT_r, V.ty.injEq, tSl, tPart, tNoPart, rSlF, gName, List.length_map, Int.reduceToNat, cpow18, Wd.s_inj, ws_num, ws_field, ws_add, ws_sub, ws_mul, ws_eq, ws_lt, ws_gt, ws_le, ws_ge, ws_and, ws_or, ws_not, rInTab, rIxTab, rCatH, rCat, rInT, cSortD, cMaxL, cMinL, rNeNilI, inV, flatV, List.any_cons, List.any_nil, List.all_cons, List.all_nil, eqV, Bool.and_true, Bool.and_false, Bool.true_and, Bool.false_and, Bool.or_false, Bool.false_or, Bool.or_true, Bool.true_or, Wd.beq_s, sz0, sz1, sz2, sz3, sz4, sz5, sz6, isc_eq, isc_lt, isc_gt, isc_le, isc_ge, isc_and, isc_or, isc_not, isl_and, isl_or, isl_not, rSetD, rUnion, rSortTx, rRep, ha']
          refine ⟨u, some x, rfl, hx, g1, fun a1 e1 H1 r1 p1 _ s1 => ?_⟩
          have ha1 := s1 _ _ ha'
          simp only [tVar, tC, tOp, rI, rI0, rU, tTest, tB, tAnd, tOr, tNot, tAndV, tOrV, tNotV, tIf, tNil, tCons, tTup, tLst, tCB, tSeq, tAsg, gName, tRet, tRetN, tIfS, tNext, tDrop, tCall, tUn, tPar, CMul, CDiv, V.int.injEq, V.bl.injEq, V.ref.injEq, V.str.injEq, Option.some.injEq, List.cons.injEq, and_true, true_and, and_false, false_and, or_false, false_or, or_true, true_or, exists_eq_left', exists_eq_left, exists_and_left, exists_and_right, exists_eq', exists_eq, exists_false, exists_const, List.getElem?_cons_succ, List.getElem?_cons_zero, List.set_cons_succ, List.set_cons_zero, List.length_cons, List.length_nil, List.cons_append, List.nil_append, List.append_nil, reduceCtorEq, Int.reduceLT, Int.reduceLE, Int.reduceNeg, Int.reducePow, Int.reduceSub, Int.reduceAdd, Nat.reduceAdd, Nat.reduceLeDiff, Bool.not_true, Bool.not_false, decide_true, decide_false, Bool.false_eq_true, ↓reduceIte, upd_same, not_true_eq_false, not_false_eq_true, lsO_l, lsO_f, tpO_t, tpO_f, dkO_d, dkO_f, keyO_i, keyO_s, rIxH, rIxU, cLenL, cLenT, cListL, cListT, cTupL, cIntB, cAll, rEqNilI, rEq, rNe, scal_ii, scal_ss, scal_bb, scal_nn, scal_ni, scal_in, scal_ns, scal_sn, gSub, rSetL, ixs0, ixs1, ixs2, seq0, at0, at1, at2, at3, tBM, tBM0, rAppend, rPopAt, tyV_list, tGet2, tGetI, sPut, tMG, rTIdx, tyTup, tTupF, cx_K, cx_w, ex_map_int, ex_nil_int, ex_cons_int, List.map_cons, List.map_nil, List.isEmpty_nil, List.isEmpty_cons, List.eraseIdx_zero, List.tail_cons, List.eraseIdx_cons_zero, HO.lst.injEq, HO.tup.injEq, HO.dK.injEq, HO.frz.injEq, ne_eq, gTupH, gCons, gNil, wipe, tYes, upd_upd, and_assoc, List.getElem?_map, Option.map_some, isn_non_bool, isn_non_int, isn_non_str, isn_non_tuple, isn_non_list, isn_non_dict, isn_bl_bool, isn_bl_int, isn_bl_str, isn_bl_tuple, isn_bl_list, isn_bl_dict, isn_int_bool, isn_int_int, isn_int_str, isn_int_tuple, isn_int_list, isn_int_dict, isn_str_bool, isn_str_int, isn_str_str, isn_str_tuple, isn_str_list, isn_str_dict, isn_lst_bool, isn_lst_int, isn_lst_str, isn_lst_tuple, isn_lst_list, isn_lst_dict, isn_tup_bool, isn_tup_int, isn_tup_str, isn_tup_tuple, isn_tup_list, isn_tup_dict, isn_dct_bool, isn_dct_int, isn_dct_str, isn_dct_tuple, isn_dct_list, isn_dct_dict, okn_bool, okn_int, okn_str, okn_tuple, okn_list, okn_dict, cIsi, tyT_n, tyT_b, tyT_i, tyT_s, tyT_r, V.ty.injEq, tSl, tPart, tNoPart, rSlF, gName, List.length_map, Int.reduceToNat, cpow18, Wd.s_inj, ws_num, ws_field, ws_add, ws_sub, ws_mul, ws_eq, ws_lt, ws_gt, ws_le, ws_ge, ws_and, ws_or, ws_not, rInTab, rIxTab, rCatH, rCat, rInT, cSortD, cMaxL, cMinL, rNeNilI, inV, flatV, List.any_cons, List.any_nil, List.all_cons, List.all_nil, eqV, Bool.and_true, Bool.and_false, Bool.true_and, Bool.false_and, Bool.or_false, Bool.false_or, Bool.or_true, Bool.true_or, Wd.beq_s, sz0, sz1, sz2, sz3, sz4, sz5, sz6, isc_eq, isc_lt, isc_gt, isc_le, isc_ge, isc_and, isc_or, isc_not, isl_and, isl_or, isl_not, rSetD, rUnion, rSortTx, rRep, ha1]
          refine ⟨z, some y, rfl, hy.tups (TupS.ofSame s1), g2, fun a2 e2 H2 r2 p2 _ s2 => ?_⟩
          have r1' := r1.same s2
          simp only [tVar, tC, tOp, rI, rI0, rU, tTest, tB, tAnd, tOr, tNot, tAndV, tOrV, tNotV, tIf, tNil, tCons, tTup, tLst, tCB, tSeq, tAsg, gName, tRet, tRetN, tIfS, tNext, tDrop, tCall, tUn, tPar, CMul, CDiv, V.int.injEq, V.bl.injEq, V.ref.injEq, V.str.injEq, Option.some.injEq, List.cons.injEq, and_true, true_and, and_false, false_and, or_false, false_or, or_true, true_or, exists_eq_left', exists_eq_left, exists_and_left, exists_and_right, exists_eq', exists_eq, exists_false, exists_const, List.getElem?_cons_succ, List.getElem?_cons_zero, List.set_cons_succ, List.set_cons_zero, List.length_cons, List.length_nil, List.cons_append, List.nil_append, List.append_nil, reduceCtorEq, Int.reduceLT, Int.reduceLE, Int.reduceNeg, Int.reducePow, Int.reduceSub, Int.reduceAdd, Nat.reduceAdd, Nat.reduceLeDiff, Bool.not_true, Bool.not_false, decide_true, decide_false, Bool.false_eq_true, ↓reduceIte, upd_same, not_true_eq_false, not_false_eq_true, lsO_l, lsO_f, tpO_t, tpO_f, dkO_d, dkO_f, keyO_i, keyO_s, rIxH, rIxU, cLenL, cLenT, cListL, cListT, cTupL, cIntB, cAll, rEqNilI, rEq, rNe, scal_ii, scal_ss, scal_bb, scal_nn, scal_ni, scal_in, scal_ns, scal_sn, gSub, rSetL, ixs0, ixs1, ixs2, seq0, at0, at1, at2, at3, tBM, tBM0, rAppend, rPopAt, tyV_list, tGet2, tGetI, sPut, tMG, rTIdx, tyTup, tTupF, cx_K, cx_w, ex_map_int, ex_nil_int, ex_cons_int, List.map_cons, List.map_nil, List.isEmpty_nil, List.isEmpty_cons, List.eraseIdx_zero, List.tail_cons, List.eraseIdx_cons_zero, HO.lst.injEq, HO.tup.injEq, HO.dK.injEq, HO.frz.injEq, ne_eq, gTupH, gCons, gNil, wipe, tYes, upd_upd, and_assoc, List.getElem?_map, Option.map_some, isn_non_bool, isn_non_int, isn_non_str, isn_non_tuple, isn_non_list, isn_non_dict, isn_bl_bool, isn_bl_int, isn_bl_str, isn_bl_tuple, isn_bl_list, isn_bl_dict, isn_int_bool, isn_int_int, isn_int_str, isn_int_tuple, isn_int_list, isn_int_dict, isn_str_bool, isn_str_int, isn_str_str, isn_str_tuple, isn_str_list, isn_str_dict, isn_lst_bool, isn_lst_int, isn_lst_str, isn_lst_tuple, isn_lst_list, isn_lst_dict, isn_tup_bool, isn_tup_int, isn_tup_str, isn_tup_tuple, isn_tup_list, isn_tup_dict, isn_dct_bool, isn_dct_int, isn_dct_str, isn_dct_tuple, isn_dct_list, isn_dct_dict, okn_bool, okn_int, okn_str, okn_tuple, okn_list, okn_dict, cIsi, tyT_n, tyT_b, tyT_i, tyT_s, tyT_r, V.ty.injEq, tSl, tPart, tNoPart, rSlF, gName, List.length_map, Int.reduceToNat, cpow18, Wd.s_inj, ws_num, ws_field, ws_add, ws_sub, ws_mul, ws_eq, ws_lt, ws_gt, ws_le, ws_ge, ws_and, ws_or, ws_not, rInTab, rIxTab, rCatH, rCat, rInT, cSortD, cMaxL, cMinL, rNeNilI, inV, flatV, List.any_cons, List.any_nil, List.all_cons, List.all_nil, eqV, Bool.and_true, Bool.and_false, Bool.true_and, Bool.false_and, Bool.or_false, Bool.false_or, Bool.or_true, Bool.true_or, Wd.beq_s, sz0, sz1, sz2, sz3, sz4, sz5, sz6, isc_eq, isc_lt, isc_gt, isc_le, isc_ge, isc_and, isc_or, isc_not, isl_and, isl_or, isl_not, rSetD, rUnion, rSortTx, rRep, r1'.at_, r2.at_]
          have l1 := congrArg List.length p1
          have l2 := congrArg List.length p2
          have l3 := partsO_len (c := some x) g1
          have l4 := partsO_len (c := some y) g2
          rw [List.length_map] at l1 l2
          have l5 := g.few
          have l6 := partsC_len (.con .and x y)
          have l7 : (partsC (.con .and x y)).length = (partsO (some x)).length + (partsO (some y)).length := List.length_append
          refine ⟨szl (by omega), fun p hp => k _ (e1 ++ e2) _ ⟨by rw [upd_same, List.map_append], fun e he => ?_⟩ ?_ ((s1.trans s2).free hp) ((s1.trans s2).trans (same_new hp))⟩
          · rcases List.mem_append.mp he with he | he
            · exact (r1'.same (same_new hp)).each e he
            · exact (r2.same (same_new hp)).each e he
          · rw [List.map_append, p1, p2]
            rfl
      · obtain ⟨a, r, rfl, ha⟩ := R0.headed
        simp only [tVar, tC, tOp, rI, rI0, rU, tTest, tB, tAnd, tOr, tNot, tAndV, tOrV, tNotV, tIf, tNil, tCons, tTup, tLst, tCB, tSeq, tAsg, gName, tRet, tRetN, tIfS, tNext, tDrop, tCall, tUn, tPar, CMul, CDiv, V.int.injEq, V.bl.injEq, V.ref.injEq, V.str.injEq, Option.some.injEq, List.cons.injEq, and_true, true_and, and_false, false_and, or_false, false_or, or_true, true_or, exists_eq_left', exists_eq_left, exists_and_left, exists_and_right, exists_eq', exists_eq, exists_false, exists_const, List.getElem?_cons_succ, List.getElem?_cons_zero, List.set_cons_succ, List.set_cons_zero, List.length_cons, List.length_nil, List.cons_append, List.nil_append, List.append_nil, reduceCtorEq, Int.reduceLT, Int.reduceLE, Int.reduceNeg, Int.reducePow, Int.reduceSub, Int.reduceAdd, Nat.reduceAdd, Nat.reduceLeDiff, Bool.not_true, Bool.not_false, decide_true, decide_false, Bool.false_eq_true, ↓reduceIte, upd_same, not_true_eq_false, not_false_eq_true, lsO_l, lsO_f, tpO_t, tpO_f, dkO_d, dkO_f, keyO_i, keyO_s, rIxH, rIxU, cLenL, cLenT, cListL, cListT, cTupL, cIntB, cAll, rEqNilI, rEq, rNe, scal_ii, scal_ss, scal_bb, scal_nn, scal_ni, scal_in, scal_ns, scal_sn, gSub, rSetL, ixs0, ixs1, ixs2, seq0, at0, at1, at2, at3, tBM, tBM0, rAppend, rPopAt, tyV_list, tGet2, tGetI, sPut, tMG, rTIdx, tyTup, tTupF, cx_K, cx_w, ex_map_int, ex_nil_int, ex_cons_int, List.map_cons, List.map_nil, List.isEmpty_nil, List.isEmpty_cons, List.eraseIdx_zero, List.tail_cons, List.eraseIdx_cons_zero, HO.lst.injEq, HO.tup.injEq, HO.dK.injEq, HO.frz.injEq, ne_eq, gTupH, gCons, gNil, wipe, tYes, upd_upd, and_assoc, List.getElem?_map, Option.map_some, isn_non_bool, isn_non_int, isn_non_str, isn_non_tuple, isn_non_list, isn_non_dict, isn_bl_bool, isn_bl_int, isn_bl_str, isn_bl_tuple, isn_bl_list, isn_bl_dict, isn_int_bool, isn_int_int, isn_int_str, isn_int_tuple, isn_int_list, isn_int_dict, isn_str_bool, isn_str_int, isn_str_str, isn_str_tuple, isn_str_list, isn_str_dict, isn_lst_bool, isn_lst_int, isn_lst_str, isn_lst_tuple, isn_lst_list, isn_lst_dict, isn_tup_bool, isn_tup_int, isn_tup_str, isn_tup_tuple, isn_tup_list, isn_tup_dict, isn_dct_bool, isn_dct_int, isn_dct_str, isn_dct_tuple, isn_dct_list, isn_dct_dict, okn_bool, okn_int, okn_str, okn_tuple, okn_list, okn_dict, cIsi, tyT_n, tyT_b, tyT_i, tyT_s, tyT_r, V.ty.injEq, tSl, tPart, tNoPart, rSlF, gName, List.length_map, Int.reduceToNat, cpow18, Wd.s_inj, ws_num, ws_field, ws_add, ws_sub, ws_mul, ws_eq, ws_lt, ws_gt, ws_le, ws_ge, ws_and, ws_or, ws_not, rInTab, rIxTab, rCatH, rCat, rInT, cSortD, cMaxL, cMinL, rNeNilI, inV, flatV, List.any_cons, List.any_nil, List.all_cons, List.all_nil, eqV, Bool.and_true, Bool.and_false, Bool.true_and, Bool.false_and, Bool.or_false, Bool.false_or, Bool.or_true, Bool.true_or, Wd.beq_s, sz0, sz1, sz2, sz3, sz4, sz5, sz6, isc_eq, isc_lt, isc_gt, isc_le, isc_ge, isc_and, isc_or, isc_not, isl_and, isl_or, isl_not, rSetD, rUnion, rSortTx, rRep, ha, hc]
        exact one hc a rfl
theorem ok_parts_of (T : Txt K mg w) : ∀ d : Nat, FnOk P w K mg base CX0 (d + 2) T.f_parts_of T.fd_parts_of ["cond"] (spParts d)
  | 0 => parts_step T 0 (fun _ _ _ _ => False) (T.F_parts_of.ok sc_parts_of (fun vs H Q E h => h.elim) (fun cdv A outer s H vs Q E hr h => h.elim)) (fun e h => absurd h (by omega))
  | d + 1 => parts_step T (d + 1) (spParts d) (ok_parts_of T d) (fun e h => by cases h; rfl)
end

def spBounds : Sp := fun vs H Q _ => ∃ (v : V) (t : Str) (co : Option G7.Cd), vs = [v, .str t] ∧ RCo H v co ∧ CoGood co 10 1000 ∧ PyData.strOk t = true ∧
  (boundsM t co = none → ∀ H', Same H H' → Q .non H') ∧ ∀ d es H', boundsM t co = some (es.map dr) → DBg gO H' d es → Same H H' → Q (.ref d) H'
section
variable {P : Program} {w : World} {K : PySem.W.Frag} {mg : Str → Option Value} {base : Heap}
theorem ok_bounds (T : Txt K mg w) : FnOk P w K mg base CX0 13 T.f_bounds T.fd_bounds ["cond", "table"] spBounds := by
  have G_parts_of : FnOk P w K mg base CX0 12 T.f_parts_of T.fd_parts_of ["cond"] (spParts 10) := ok_parts_of T 10
  have G_is_known : FnOk P w K mg base CX0 1 T.f_is_known T.fd_is_known ["cond"] spKnown := ok_is_known T
  have G_is_true : FnOk P w K mg base CX0 1 T.f_is_true T.fd_is_true ["word", "one", "other"] spTrue := ok_is_true T
  have G_turned : FnOk P w K mg base CX0 1 T.f_turned T.fd_turned ["cond"] spTurned := ok_turned T
  have G_narrowed : FnOk P w K mg base CX0 1 T.f_narrowed T.fd_narrowed ["span", "other"] spNarrowed := ok_narrowed T
  have G_span_of : FnOk P w K mg base CX0 1 T.f_span_of T.fd_span_of ["word", "number"] spSpan := ok_span_of T
  have G_is_none : FnOk P w K mg base CX0 1 T.f_is_none T.fd_is_none ["span"] spIsNone := ok_is_none T
  refine T.F_bounds.ok sc_bounds (fun vs H Q E h => ?_) (fun cdv A outer s H vs Q E hr h => ?_)
  · obtain ⟨v, t, co, rfl, _⟩ := h
    rfl
  · have hu64 := hu64_of hr
    have hu := hu_of hr
    obtain ⟨v, t, co, rfl, R, g, ht, kn, ks⟩ := h
    refine ⟨_, (pss_cons (ps_set (i := 2) sc_bounds.nd rfl (Or.inr rfl) pe_dnewK)
      (Evl.pss_cut (ps_for PassesOwn.never rfl (pi_listK K rfl (pe_call G_parts_of (hr.mono (by decide)) rfl T.mg_parts_of T.F_parts_of.kp T.b_parts_of .nil pass0 (pa_cons (pv 0) pa_nil))) (pg_name (i := 3) sc_bounds.nd rfl (Or.inl rfl)) (Evl.pss_cut (ps_if (PW.pt (pw_and (pt_val (pe_call G_is_known (hr.mono (by decide)) rfl T.mg_is_known T.F_is_known.kp T.b_is_known .nil pass0 (pa_cons (pv 3) pa_nil))) (pw_and1 (pt_not (pt_val (pe_call G_is_true (hr.mono (by decide)) rfl T.mg_is_true T.F_is_true.kp T.b_is_true .nil pass0 (pa_cons (pe_ix ix_tp (pv 3) pe_int (fun _ _ => rfl)) (pa_cons (pe_ix ix_tp (pe_ix ix_tp (pv 3) pe_int (fun _ _ => rfl)) pe_int (fun _ _ => rfl)) (pa_cons (pe_ix ix_tp (pe_ix ix_tp (pv 3) pe_int (fun _ _ => rfl)) pe_int (fun _ _ => rfl)) pa_nil))))))))) (pss_one (ps_ret pe_non)) pss_nil)
        (Evl.pss_cut (ps_if (PW.pt (pw_and (pt_cmpR (op_inTab T.D_TURNED) (pe_ix ix_tp (pv 3) pe_int (fun _ _ => rfl)) (pe_glob rfl T.mg_TURNED (v := .ref T.a_TURNED) rfl) (by rfl)) (pw_and1 (pt_cmpR op_eq (pe_ix ix_tp (pe_ix ix_tp (pv 3) pe_int (fun _ _ => rfl)) pe_int (fun _ _ => rfl)) pe_str (nomark _))))) (pss_one (ps_set (i := 3) sc_bounds.nd rfl (Or.inl rfl) (pe_call G_turned (hr.mono (by decide)) rfl T.mg_turned T.F_turned.kp T.b_turned .nil pass0 (pa_cons (pv 3) pa_nil)))) pss_nil)
        (pss_one (ps_if (PW.pt (pw_and (pt_cmpR (op_inTab T.D_TURNED) (pe_ix ix_tp (pv 3) pe_int (fun _ _ => rfl)) (pe_glob rfl T.mg_TURNED (v := .ref T.a_TURNED) rfl) (by rfl)) (pw_and (pt_cmpR (op_eqDK K rfl hu64) (pe_slice sl_tupX (pe_ix ix_tp (pv 3) pe_int (fun _ _ => rfl)) po_none (po_some pe_int)) (pe_tup (pa_cons pe_str (pa_cons (pv 1) pa_nil))) (nomark _)) (pw_and1 (pt_cmpR op_eq (pe_ix ix_tp (pe_ix ix_tp (pv 3) pe_int (fun _ _ => rfl)) pe_int (fun _ _ => rfl)) pe_str (nomark _)))))) (pss_cons (ps_set (i := 4) sc_bounds.nd rfl (Or.inl rfl) (pe_ix ix_tp (pe_ix ix_tp (pv 3) pe_int (fun _ _ => rfl)) pe_int (fun _ _ => rfl)))
          (pss_one (ps_put hu (pv 2) (pv 4) (pe_call G_narrowed (hr.mono (by decide)) rfl T.mg_narrowed T.F_narrowed.kp T.b_narrowed .nil pass0 (pa_cons (pe_get2 hu (pv 2) (pv 4) (pe_tup (pa_cons pe_non (pa_cons pe_non pa_nil)))) (pa_cons (pe_call G_span_of (hr.mono (by decide)) rfl T.mg_span_of T.F_span_of.kp T.b_span_of .nil pass0 (pa_cons (pe_ix ix_tp (pv 3) pe_int (fun _ _ => rfl)) (pa_cons (pe_ix ix_tp (pe_ix ix_tp (pv 3) pe_int (fun _ _ => rfl)) pe_int (fun _ _ => rfl)) pa_nil))) pa_nil))) rfl))) pss_nil)))))
      (Evl.pss_cut (ps_if (pt_cmpR (op_neDK K rfl hu64) (pe_lock (pe_lc (own := [("field", 4)]) (g := gName 4) rfl sc_bounds.nd (pi_keys (pv 2)) (blkOk_by (N := N_bounds) (sc := defScope s_bounds) (by decide +kernel)) (fun _ _ _ _ _ => (pg_name (i := 4) sc_bounds.nd rfl (Or.inl rfl))) (fun _ _ _ _ _ => pts_one (pt_val (pe_call G_is_none (hr.mono (by decide)) rfl T.mg_is_none T.F_is_none.kp T.b_is_none .nil pass0 (pa_cons (pe_getI hu (pv 2) (pv 4) (fun _ _ => rfl)) pa_nil)))) (fun _ _ _ _ _ => (pv 4)))) (pe_lst pa_nil) (nomark _)) (pss_one (ps_ret pe_non)) pss_nil)
      (pss_one (ps_ret (pv 2)))))), ?_⟩
    rw [show L2.start N_bounds [v, V.str t] = [some (v), some (V.str t), none, none, none] from rfl]
    simp only [tVar, tC, tOp, rI, rI0, rU, tTest, tB, tAnd, tOr, tNot, tAndV, tOrV, tNotV, tIf, tNil, tCons, tTup, tLst, tCB, tSeq, tAsg, gName, tRet, tRetN, tIfS, tNext, tDrop, tCall, tUn, tPar, CMul, CDiv, V.int.injEq, V.bl.injEq, V.ref.injEq, V.str.injEq, Option.some.injEq, List.cons.injEq, and_true, true_and, and_false, false_and, or_false, false_or, or_true, true_or, exists_eq_left', exists_eq_left, exists_and_left, exists_and_right, exists_eq', exists_eq, exists_false, exists_const, List.getElem?_cons_succ, List.getElem?_cons_zero, List.set_cons_succ, List.set_cons_zero, List.length_cons, List.length_nil, List.cons_append, List.nil_append, List.append_nil, reduceCtorEq, Int.reduceLT, Int.reduceLE, Int.reduceNeg, Int.reducePow, Int.reduceSub, Int.reduceAdd, Nat.reduceAdd, Nat.reduceLeDiff, Bool.not_true, Bool.not_false, decide_true, decide_false, Bool.false_eq_true, ↓reduceIte, upd_same, not_true_eq_false, not_false_eq_true, lsO_l, lsO_f, tpO_t, tpO_f, dkO_d, dkO_f, keyO_i, keyO_s, rIxH, rIxU, cLenL, cLenT, cListL, cListT, cTupL, cIntB, cAll, rEqNilI, rEq, rNe, scal_ii, scal_ss, scal_bb, scal_nn, scal_ni, scal_in, scal_ns, scal_sn, gSub, rSetL, ixs0, ixs1, ixs2, seq0, at0, at1, at2, at3, tBM, tBM0, rAppend, rPopAt, tyV_list, tGet2, tGetI, sPut, tMG, rTIdx, tyTup, tTupF, cx_K, cx_w, ex_map_int, ex_nil_int, ex_cons_int, List.map_cons, List.map_nil, List.isEmpty_nil, List.isEmpty_cons, List.eraseIdx_zero, List.tail_cons, List.eraseIdx_cons_zero, HO.lst.injEq, HO.tup.injEq, HO.dK.injEq, HO.frz.injEq, ne_eq, gTupH, gCons, gNil, wipe, tYes, upd_upd, and_assoc, List.getElem?_map, Option.map_some, isn_non_bool, isn_non_int, isn_non_str, isn_non_tuple, isn_non_list, isn_non_dict, isn_bl_bool, isn_bl_int, isn_bl_str, isn_bl_tuple, isn_bl_list, isn_bl_dict, isn_int_bool, isn_int_int, isn_int_str, isn_int_tuple, isn_int_list, isn_int_dict, isn_str_bool, isn_str_int, isn_str_str, isn_str_tuple, isn_str_list, isn_str_dict, isn_lst_bool, isn_lst_int, isn_lst_str, isn_lst_tuple, isn_lst_list, isn_lst_dict, isn_tup_bool, isn_tup_int, isn_tup_str, isn_tup_tuple, isn_tup_list, isn_tup_dict, isn_dct_bool, isn_dct_int, isn_dct_str, isn_dct_tuple, isn_dct_list, isn_dct_dict, okn_bool, okn_int, okn_str, okn_tuple, okn_list, okn_dict, cIsi, tyT_n, tyT_b, tyT_i, tyT_s, tyT_r, V.ty.injEq, tSl, tPart, tNoPart, rSlF, gName, List.length_map, Int.reduceToNat, cpow18, Wd.s_inj, ws_num, ws_field, ws_add, ws_sub, ws_mul, ws_eq, ws_lt, ws_gt, ws_le, ws_ge, ws_and, ws_or, ws_not, rInTab, rIxTab, rCatH, rCat, rInT, cSortD, cMaxL, cMinL, rNeNilI, inV, flatV, List.any_cons, List.any_nil, List.all_cons, List.all_nil, eqV, Bool.and_true, Bool.and_false, Bool.true_and, Bool.false_and, Bool.or_false, Bool.false_or, Bool.or_true, Bool.true_or, Wd.beq_s, sz0, sz1, sz2, sz3, sz4, sz5, sz6, isc_eq, isc_lt, isc_gt, isc_le, isc_ge, isc_and, isc_or, isc_not, isl_and, isl_or, isl_not, rSetD, rUnion, rSortTx, rRep, tDNewK]
    intro d hd
    have s0 := same_new (o := .dK []) hd
    refine ⟨fun σ' H' => ∃ es x3 x4, σ' = [some v, some (.str t), some (.ref d), x3, x4] ∧ foldC t [] (partsO co) = some (es.map dr) ∧ es.length ≤ 1000 ∧ DBg gO H' d es ∧ Same H H', ?_, ?_⟩
    · simp only [tVar, tC, tOp, rI, rI0, rU, tTest, tB, tAnd, tOr, tNot, tAndV, tOrV, tNotV, tIf, tNil, tCons, tTup, tLst, tCB, tSeq, tAsg, gName, tRet, tRetN, tIfS, tNext, tDrop, tCall, tUn, tPar, CMul, CDiv, V.int.injEq, V.bl.injEq, V.ref.injEq, V.str.injEq, Option.some.injEq, List.cons.injEq, and_true, true_and, and_false, false_and, or_false, false_or, or_true, true_or, exists_eq_left', exists_eq_left, exists_and_left, exists_and_right, exists_eq', exists_eq, exists_false, exists_const, List.getElem?_cons_succ, List.getElem?_cons_zero, List.set_cons_succ, List.set_cons_zero, List.length_cons, List.length_nil, List.cons_append, List.nil_append, List.append_nil, reduceCtorEq, Int.reduceLT, Int.reduceLE, Int.reduceNeg, Int.reducePow, Int.reduceSub, Int.reduceAdd, Nat.reduceAdd, Nat.reduceLeDiff, Bool.not_true, Bool.not_false, decide_true, decide_false, Bool.false_eq_true, ↓reduceIte, upd_same, not_true_eq_false, not_false_eq_true, lsO_l, lsO_f, tpO_t, tpO_f, dkO_d, dkO_f, keyO_i, keyO_s, rIxH, rIxU, cLenL, cLenT, cListL, cListT, cTupL, cIntB, cAll, rEqNilI, rEq, rNe, scal_ii, scal_ss, scal_bb, scal_nn, scal_ni, scal_in, scal_ns, scal_sn, gSub, rSetL, ixs0, ixs1, ixs2, seq0, at0, at1, at2, at3, tBM, tBM0, rAppend, rPopAt, tyV_list, tGet2, tGetI, sPut, tMG, rTIdx, tyTup, tTupF, cx_K, cx_w, ex_map_int, ex_nil_int, ex_cons_int, List.map_cons, List.map_nil, List.isEmpty_nil, List.isEmpty_cons, List.eraseIdx_zero, List.tail_cons, List.eraseIdx_cons_zero, HO.lst.injEq, HO.tup.injEq, HO.dK.injEq, HO.frz.injEq, ne_eq, gTupH, gCons, gNil, wipe, tYes, upd_upd, and_assoc, List.getElem?_map, Option.map_some, isn_non_bool, isn_non_int, isn_non_str, isn_non_tuple, isn_non_list, isn_non_dict, isn_bl_bool, isn_bl_int, isn_bl_str, isn_bl_tuple, isn_bl_list, isn_bl_dict, isn_int_bool, isn_int_int, isn_int_str, isn_int_tuple, isn_int_list, isn_int_dict, isn_str_bool, isn_str_int, isn_str_str, isn_str_tuple, isn_str_list, isn_str_dict, isn_lst_bool, isn_lst_int, isn_lst_str, isn_lst_tuple, isn_lst_list, isn_lst_dict, isn_tup_bool, isn_tup_int, isn_tup_str, isn_tup_tuple, isn_tup_list, isn_tup_dict, isn_dct_bool, isn_dct_int, isn_dct_str, isn_dct_tuple, isn_dct_list, isn_dct_dict, okn_bool, okn_int, okn_str, okn_tuple, okn_list, okn_dict, cIsi, tyT_n, tyT_b, tyT_i, tyT_s, tyT_r, V.ty.injEq, tSl, tPart, tNoPart, rSlF, gName, List.length_map, Int.reduceToNat, cpow18, Wd.s_inj, ws_num, ws_field, ws_add, ws_sub, ws_mul, ws_eq, ws_lt, ws_gt, ws_le, ws_ge, ws_and, ws_or, ws_not, rInTab, rIxTab, rCatH, rCat, rInT, cSortD, cMaxL, cMinL, rNeNilI, inV, flatV, List.any_cons, List.any_nil, List.all_cons, List.all_nil, eqV, Bool.and_true, Bool.and_false, Bool.true_and, Bool.false_and, Bool.or_false, Bool.false_or, Bool.or_true, Bool.true_or, Wd.beq_s, sz0, sz1, sz2, sz3, sz4, sz5, sz6, isc_eq, isc_lt, isc_gt, isc_le, isc_ge, isc_and, isc_or, isc_not, isl_and, isl_or, isl_not, rSetD, rUnion, rSortTx, rRep, tFor_eq, iList]
      refine ⟨v, co, rfl, R.tups (TupS.ofSame s0), g, fun la ps H1 RL1 pe _ s1 => ?_⟩
      simp only [tVar, tC, tOp, rI, rI0, rU, tTest, tB, tAnd, tOr, tNot, tAndV, tOrV, tNotV, tIf, tNil, tCons, tTup, tLst, tCB, tSeq, tAsg, gName, tRet, tRetN, tIfS, tNext, tDrop, tCall, tUn, tPar, CMul, CDiv, V.int.injEq, V.bl.injEq, V.ref.injEq, V.str.injEq, Option.some.injEq, List.cons.injEq, and_true, true_and, and_false, false_and, or_false, false_or, or_true, true_or, exists_eq_left', exists_eq_left, exists_and_left, exists_and_right, exists_eq', exists_eq, exists_false, exists_const, List.getElem?_cons_succ, List.getElem?_cons_zero, List.set_cons_succ, List.set_cons_zero, List.length_cons, List.length_nil, List.cons_append, List.nil_append, List.append_nil, reduceCtorEq, Int.reduceLT, Int.reduceLE, Int.reduceNeg, Int.reducePow, Int.reduceSub, Int.reduceAdd, Nat.reduceAdd, Nat.reduceLeDiff, Bool.not_true, Bool.not_false, decide_true, decide_false, Bool.false_eq_true, ↓reduceIte, upd_same, not_true_eq_false, not_false_eq_true, lsO_l, lsO_f, tpO_t, tpO_f, dkO_d, dkO_f, keyO_i, keyO_s, rIxH, rIxU, cLenL, cLenT, cListL, cListT, cTupL, cIntB, cAll, rEqNilI, rEq, rNe, scal_ii, scal_ss, scal_bb, scal_nn, scal_ni, scal_in, scal_ns, scal_sn, gSub, rSetL, ixs0, ixs1, ixs2, seq0, at0, at1, at2, at3, tBM, tBM0, rAppend, rPopAt, tyV_list, tGet2, tGetI, sPut, tMG, rTIdx, tyTup, tTupF, cx_K, cx_w, ex_map_int, ex_nil_int, ex_cons_int, List.map_cons, List.map_nil, List.isEmpty_nil, List.isEmpty_cons, List.eraseIdx_zero, List.tail_cons, List.eraseIdx_cons_zero, HO.lst.injEq, HO.tup.injEq, HO.dK.injEq, HO.frz.injEq, ne_eq, gTupH, gCons, gNil, wipe, tYes, upd_upd, and_assoc, List.getElem?_map, Option.map_some, isn_non_bool, isn_non_int, isn_non_str, isn_non_tuple, isn_non_list, isn_non_dict, isn_bl_bool, isn_bl_int, isn_bl_str, isn_bl_tuple, isn_bl_list, isn_bl_dict, isn_int_bool, isn_int_int, isn_int_str, isn_int_tuple, isn_int_list, isn_int_dict, isn_str_bool, isn_str_int, isn_str_str, isn_str_tuple, isn_str_list, isn_str_dict, isn_lst_bool, isn_lst_int, isn_lst_str, isn_lst_tuple, isn_lst_list, isn_lst_dict, isn_tup_bool, isn_tup_int, isn_tup_str, isn_tup_tuple, isn_tup_list, isn_tup_dict, isn_dct_bool, isn_dct_int, isn_dct_str, isn_dct_tuple, isn_dct_list, isn_dct_dict, okn_bool, okn_int, okn_str, okn_tuple, okn_list, okn_dict, cIsi, tyT_n, tyT_b, tyT_i, tyT_s, tyT_r, V.ty.injEq, tSl, tPart, tNoPart, rSlF, gName, List.length_map, Int.reduceToNat, cpow18, Wd.s_inj, ws_num, ws_field, ws_add, ws_sub, ws_mul, ws_eq, ws_lt, ws_gt, ws_le, ws_ge, ws_and, ws_or, ws_not, rInTab, rIxTab, rCatH, rCat, rInT, cSortD, cMaxL, cMinL, rNeNilI, inV, flatV, List.any_cons, List.any_nil, List.all_cons, List.all_nil, eqV, Bool.and_true, Bool.and_false, Bool.true_and, Bool.false_and, Bool.or_false, Bool.false_or, Bool.or_true, Bool.true_or, Wd.beq_s, sz0, sz1, sz2, sz3, sz4, sz5, sz6, isc_eq, isc_lt, isc_gt, isc_le, isc_ge, isc_and, isc_or, isc_not, isl_and, isl_or, isl_not, rSetD, rUnion, rSortTx, rRep]
      have d1 : H1 d = some (.dK []) := s1 _ _ upd_same
      have nla : la ∉ [d] := by
        have := ne_of RL1.at_ d1 (by intro z; cases z)
        simpa using this
      have keepS : ∀ {H2 : Hp}, Keep [d] H1 H2 → Same H H2 := fun k b o hb => k _ _ (by simp; rintro rfl; rw [hd] at hb; cases hb) (s1 _ _ (s0 _ _ hb))
      have keepT : ∀ {H2 : Hp}, Keep [d] H1 H2 → TupS H1 H2 := fun k => TupS.ofKeep (ms := [d]) (fun m hm => by obtain rfl := List.mem_singleton.mp hm; exact ⟨_, d1, trivial⟩) k
      have pl := partsO_len g
      have pel : ps.length = (partsO co).length := by rw [← pe, List.length_map]
      refine ⟨⟨_, .inl (.inl RL1.at_)⟩, forB_it (for_it (walk_list (xs := ps.map (·.1))) (fun i σ H2 => ∃ es x3 x4, σ = [some v, some (.str t), some (.ref d), x3, x4] ∧ foldC t [] ((partsO co).take i) = some (es.map dr) ∧ es.length ≤ i ∧ DBg gO H2 d es ∧ Keep [d] H1 H2)
        ⟨[], none, none, rfl, rfl, Nat.le_refl _, ⟨d1, fun e he => absurd he (by simp), fun e he => absurd he (by simp), List.nodup_nil⟩, Keep.refl⟩ (fun i σ H2 _ ⟨_, _, _, _, _, _, _, k2⟩ => .inl (.inl (k2 _ _ nla RL1.at_))) ?_ ?_)⟩
      · rintro i x σ H2 H3 hi ⟨es, x3, x4, rfl, fo, el, D, k2⟩ ⟨rfl, hx⟩
        rw [List.length_map] at hi
        obtain ⟨e, he⟩ : ∃ e, ps[i]? = some e := ⟨ps[i], List.getElem?_eq_getElem hi⟩
        rw [List.getElem?_map, he] at hx
        obtain rfl : e.1 = x := Option.some.inj hx
        have hc : (partsO co)[i]? = some e.2 := by rw [← pe, List.getElem?_map, he]; rfl
        have hp : e.2.part := partsO_part g _ (List.mem_of_getElem? hc)
        have Rc : RC H3 e.1 e.2 := (RL1.each e (List.mem_of_getElem? he)).tups (keepT k2)
        have ft := foldC_take hc fo
        obtain ⟨x, c⟩ := e
        dsimp only at hc hp Rc ft ⊢
        simp only [tVar, tC, tOp, rI, rI0, rU, tTest, tB, tAnd, tOr, tNot, tAndV, tOrV, tNotV, tIf, tNil, tCons, tTup, tLst, tCB, tSeq, tAsg, gName, tRet, tRetN, tIfS, tNext, tDrop, tCall, tUn, tPar, CMul, CDiv, V.int.injEq, V.bl.injEq, V.ref.injEq, V.str.injEq, Option.some.injEq, List.cons.injEq, and_true, true_and, and_false, false_and, or_false, false_or, or_true, true_or, exists_eq_left', exists_eq_left, exists_and_left, exists_and_right, exists_eq', exists_eq, exists_false, exists_const, List.getElem?_cons_succ, List.getElem?_cons_zero, List.set_cons_succ, List.set_cons_zero, List.length_cons, List.length_nil, List.cons_append, List.nil_append, List.append_nil, reduceCtorEq, Int.reduceLT, Int.reduceLE, Int.reduceNeg, Int.reducePow, Int.reduceSub, Int.reduceAdd, Nat.reduceAdd, Nat.reduceLeDiff, Bool.not_true, Bool.not_false, decide_true, decide_false, Bool.false_eq_true, ↓reduceIte, upd_same, not_true_eq_false, not_false_eq_true, lsO_l, lsO_f, tpO_t, tpO_f, dkO_d, dkO_f, keyO_i, keyO_s, rIxH, rIxU, cLenL, cLenT, cListL, cListT, cTupL, cIntB, cAll, rEqNilI, rEq, rNe, scal_ii, scal_ss, scal_bb, scal_nn, scal_ni, scal_in, scal_ns, scal_sn, gSub, rSetL, ixs0, ixs1, ixs2, seq0, at0, at1, at2, at3, tBM, tBM0, rAppend, rPopAt, tyV_list, tGet2, tGetI, sPut, tMG, rTIdx, tyTup, tTupF, cx_K, cx_w, ex_map_int, ex_nil_int, ex_cons_int, List.map_cons, List.map_nil, List.isEmpty_nil, List.isEmpty_cons, List.eraseIdx_zero, List.tail_cons, List.eraseIdx_cons_zero, HO.lst.injEq, HO.tup.injEq, HO.dK.injEq, HO.frz.injEq, ne_eq, gTupH, gCons, gNil, wipe, tYes, upd_upd, and_assoc, List.getElem?_map, Option.map_some, isn_non_bool, isn_non_int, isn_non_str, isn_non_tuple, isn_non_list, isn_non_dict, isn_bl_bool, isn_bl_int, isn_bl_str, isn_bl_tuple, isn_bl_list, isn_bl_dict, isn_int_bool, isn_int_int, isn_int_str, isn_int_tuple, isn_int_list, isn_int_dict, isn_str_bool, isn_str_int, isn_str_str, isn_str_tuple, isn_str_list, isn_str_dict, isn_lst_bool, isn_lst_int, isn_lst_str, isn_lst_tuple, isn_lst_list, isn_lst_dict, isn_tup_bool, isn_tup_int, isn_tup_str, isn_tup_tuple, isn_tup_list, isn_tup_dict, isn_dct_bool, isn_dct_int, isn_dct_str, isn_dct_tuple, isn_dct_list, isn_dct_dict, okn_bool, okn_int, okn_str, okn_tuple, okn_list, okn_dict, cIsi, tyT_n, tyT_b, tyT_i, tyT_s, tyT_r, V.ty.injEq, tSl, tPart, tNoPart, rSlF, gName, List.length_map, Int.reduceToNat, cpow18, Wd.s_inj, ws_num, ws_field, ws_add, ws_sub, ws_mul, ws_eq, ws_lt, ws_gt, ws_le, ws_ge, ws_and, ws_or, ws_not, rInTab, rIxTab, rCatH, rCat, rInT, cSortD, cMaxL, cMinL, rNeNilI, inV, flatV, List.any_cons, List.any_nil, List.all_cons, List.all_nil, eqV, Bool.and_true, Bool.and_false, Bool.true_and, Bool.false_and, Bool.or_false, Bool.false_or, Bool.or_true, Bool.true_or, Wd.beq_s, sz0, sz1, sz2, sz3, sz4, sz5, sz6, isc_eq, isc_lt, isc_gt, isc_le, isc_ge, isc_and, isc_or, isc_not, isl_and, isl_or, isl_not, rSetD, rUnion, rSortTx, rRep, gName]
        refine ⟨fun σ' H' => σ' = [some v, some (.str t), some (.ref d), some x, x4] ∧ Same H3 H' ∧ ∀ c0 x0 y0, c = .cmp c0 x0 y0 → truT c0 x0 y0 = true, ?_, ?_⟩
        · simp only [tVar, tC, tOp, rI, rI0, rU, tTest, tB, tAnd, tOr, tNot, tAndV, tOrV, tNotV, tIf, tNil, tCons, tTup, tLst, tCB, tSeq, tAsg, gName, tRet, tRetN, tIfS, tNext, tDrop, tCall, tUn, tPar, CMul, CDiv, V.int.injEq, V.bl.injEq, V.ref.injEq, V.str.injEq, Option.some.injEq, List.cons.injEq, and_true, true_and, and_false, false_and, or_false, false_or, or_true, true_or, exists_eq_left', exists_eq_left, exists_and_left, exists_and_right, exists_eq', exists_eq, exists_false, exists_const, List.getElem?_cons_succ, List.getElem?_cons_zero, List.set_cons_succ, List.set_cons_zero, List.length_cons, List.length_nil, List.cons_append, List.nil_append, List.append_nil, reduceCtorEq, Int.reduceLT, Int.reduceLE, Int.reduceNeg, Int.reducePow, Int.reduceSub, Int.reduceAdd, Nat.reduceAdd, Nat.reduceLeDiff, Bool.not_true, Bool.not_false, decide_true, decide_false, Bool.false_eq_true, ↓reduceIte, upd_same, not_true_eq_false, not_false_eq_true, lsO_l, lsO_f, tpO_t, tpO_f, dkO_d, dkO_f, keyO_i, keyO_s, rIxH, rIxU, cLenL, cLenT, cListL, cListT, cTupL, cIntB, cAll, rEqNilI, rEq, rNe, scal_ii, scal_ss, scal_bb, scal_nn, scal_ni, scal_in, scal_ns, scal_sn, gSub, rSetL, ixs0, ixs1, ixs2, seq0, at0, at1, at2, at3, tBM, tBM0, rAppend, rPopAt, tyV_list, tGet2, tGetI, sPut, tMG, rTIdx, tyTup, tTupF, cx_K, cx_w, ex_map_int, ex_nil_int, ex_cons_int, List.map_cons, List.map_nil, List.isEmpty_nil, List.isEmpty_cons, List.eraseIdx_zero, List.tail_cons, List.eraseIdx_cons_zero, HO.lst.injEq, HO.tup.injEq, HO.dK.injEq, HO.frz.injEq, ne_eq, gTupH, gCons, gNil, wipe, tYes, upd_upd, and_assoc, List.getElem?_map, Option.map_some, isn_non_bool, isn_non_int, isn_non_str, isn_non_tuple, isn_non_list, isn_non_dict, isn_bl_bool, isn_bl_int, isn_bl_str, isn_bl_tuple, isn_bl_list, isn_bl_dict, isn_int_bool, isn_int_int, isn_int_str, isn_int_tuple, isn_int_list, isn_int_dict, isn_str_bool, isn_str_int, isn_str_str, isn_str_tuple, isn_str_list, isn_str_dict, isn_lst_bool, isn_lst_int, isn_lst_str, isn_lst_tuple, isn_lst_list, isn_lst_dict, isn_tup_bool, isn_tup_int, isn_tup_str, isn_tup_tuple, isn_tup_list, isn_tup_dict, isn_dct_bool, isn_dct_int, isn_dct_str, isn_dct_tuple, isn_dct_list, isn_dct_dict, okn_bool, okn_int, okn_str, okn_tuple, okn_list, okn_dict, cIsi, tyT_n, tyT_b, tyT_i, tyT_s, tyT_r, V.ty.injEq, tSl, tPart, tNoPart, rSlF, gName, List.length_map, Int.reduceToNat, cpow18, Wd.s_inj, ws_num, ws_field, ws_add, ws_sub, ws_mul, ws_eq, ws_lt, ws_gt, ws_le, ws_ge, ws_and, ws_or, ws_not, rInTab, rIxTab, rCatH, rCat, rInT, cSortD, cMaxL, cMinL, rNeNilI, inV, flatV, List.any_cons, List.any_nil, List.all_cons, List.all_nil, eqV, Bool.and_true, Bool.and_false, Bool.true_and, Bool.false_and, Bool.or_false, Bool.false_or, Bool.or_true, Bool.true_or, Wd.beq_s, sz0, sz1, sz2, sz3, sz4, sz5, sz6, isc_eq, isc_lt, isc_gt, isc_le, isc_ge, isc_and, isc_or, isc_not, isl_and, isl_or, isl_not, rSetD, rUnion, rSortTx, rRep]
          refine ⟨x, c, rfl, Rc, hp, ?_⟩
          simp only [tVar, tC, tOp, rI, rI0, rU, tTest, tB, tAnd, tOr, tNot, tAndV, tOrV, tNotV, tIf, tNil, tCons, tTup, tLst, tCB, tSeq, tAsg, gName, tRet, tRetN, tIfS, tNext, tDrop, tCall, tUn, tPar, CMul, CDiv, V.int.injEq, V.bl.injEq, V.ref.injEq, V.str.injEq, Option.some.injEq, List.cons.injEq, and_true, true_and, and_false, false_and, or_false, false_or, or_true, true_or, exists_eq_left', exists_eq_left, exists_and_left, exists_and_right, exists_eq', exists_eq, exists_false, exists_const, List.getElem?_cons_succ, List.getElem?_cons_zero, List.set_cons_succ, List.set_cons_zero, List.length_cons, List.length_nil, List.cons_append, List.nil_append, List.append_nil, reduceCtorEq, Int.reduceLT, Int.reduceLE, Int.reduceNeg, Int.reducePow, Int.reduceSub, Int.reduceAdd, Nat.reduceAdd, Nat.reduceLeDiff, Bool.not_true, Bool.not_false, decide_true, decide_false, Bool.false_eq_true, ↓reduceIte, upd_same, not_true_eq_false, not_false_eq_true, lsO_l, lsO_f, tpO_t, tpO_f, dkO_d, dkO_f, keyO_i, keyO_s, rIxH, rIxU, cLenL, cLenT, cListL, cListT, cTupL, cIntB, cAll, rEqNilI, rEq, rNe, scal_ii, scal_ss, scal_bb, scal_nn, scal_ni, scal_in, scal_ns, scal_sn, gSub, rSetL, ixs0, ixs1, ixs2, seq0, at0, at1, at2, at3, tBM, tBM0, rAppend, rPopAt, tyV_list, tGet2, tGetI, sPut, tMG, rTIdx, tyTup, tTupF, cx_K, cx_w, ex_map_int, ex_nil_int, ex_cons_int, List.map_cons, List.map_nil, List.isEmpty_nil, List.isEmpty_cons, List.eraseIdx_zero, List.tail_cons, List.eraseIdx_cons_zero, HO.lst.injEq, HO.tup.injEq, HO.dK.injEq, HO.frz.injEq, ne_eq, gTupH, gCons, gNil, wipe, tYes, upd_upd, and_assoc, List.getElem?_map, Option.map_some, isn_non_bool, isn_non_int, isn_non_str, isn_non_tuple, isn_non_list, isn_non_dict, isn_bl_bool, isn_bl_int, isn_bl_str, isn_bl_tuple, isn_bl_list, isn_bl_dict, isn_int_bool, isn_int_int, isn_int_str, isn_int_tuple, isn_int_list, isn_int_dict, isn_str_bool, isn_str_int, isn_str_str, isn_str_tuple, isn_str_list, isn_str_dict, isn_lst_bool, isn_lst_int, isn_lst_str, isn_lst_tuple, isn_lst_list, isn_lst_dict, isn_tup_bool, isn_tup_int, isn_tup_str, isn_tup_tuple, isn_tup_list, isn_tup_dict, isn_dct_bool, isn_dct_int, isn_dct_str, isn_dct_tuple, isn_dct_list, isn_dct_dict, okn_bool, okn_int, okn_str, okn_tuple, okn_list, okn_dict, cIsi, tyT_n, tyT_b, tyT_i, tyT_s, tyT_r, V.ty.injEq, tSl, tPart, tNoPart, rSlF, gName, List.length_map, Int.reduceToNat, cpow18, Wd.s_inj, ws_num, ws_field, ws_add, ws_sub, ws_mul, ws_eq, ws_lt, ws_gt, ws_le, ws_ge, ws_and, ws_or, ws_not, rInTab, rIxTab, rCatH, rCat, rInT, cSortD, cMaxL, cMinL, rNeNilI, inV, flatV, List.any_cons, List.any_nil, List.all_cons, List.all_nil, eqV, Bool.and_true, Bool.and_false, Bool.true_and, Bool.false_and, Bool.or_false, Bool.false_or, Bool.or_true, Bool.true_or, Wd.beq_s, sz0, sz1, sz2, sz3, sz4, sz5, sz6, isc_eq, isc_lt, isc_gt, isc_le, isc_ge, isc_and, isc_or, isc_not, isl_and, isl_or, isl_not, rSetD, rUnion, rSortTx, rRep]
          cases hk : knownC c with
          | false =>
            simp only [tVar, tC, tOp, rI, rI0, rU, tTest, tB, tAnd, tOr, tNot, tAndV, tOrV, tNotV, tIf, tNil, tCons, tTup, tLst, tCB, tSeq, tAsg, gName, tRet, tRetN, tIfS, tNext, tDrop, tCall, tUn, tPar, CMul, CDiv, V.int.injEq, V.bl.injEq, V.ref.injEq, V.str.injEq, Option.some.injEq, List.cons.injEq, and_true, true_and, and_false, false_and, or_false, false_or, or_true, true_or, exists_eq_left', exists_eq_left, exists_and_left, exists_and_right, exists_eq', exists_eq, exists_false, exists_const, List.getElem?_cons_succ, List.getElem?_cons_zero, List.set_cons_succ, List.set_cons_zero, List.length_cons, List.length_nil, List.cons_append, List.nil_append, List.append_nil, reduceCtorEq, Int.reduceLT, Int.reduceLE, Int.reduceNeg, Int.reducePow, Int.reduceSub, Int.reduceAdd, Nat.reduceAdd, Nat.reduceLeDiff, Bool.not_true, Bool.not_false, decide_true, decide_false, Bool.false_eq_true, ↓reduceIte, upd_same, not_true_eq_false, not_false_eq_true, lsO_l, lsO_f, tpO_t, tpO_f, dkO_d, dkO_f, keyO_i, keyO_s, rIxH, rIxU, cLenL, cLenT, cListL, cListT, cTupL, cIntB, cAll, rEqNilI, rEq, rNe, scal_ii, scal_ss, scal_bb, scal_nn, scal_ni, scal_in, scal_ns, scal_sn, gSub, rSetL, ixs0, ixs1, ixs2, seq0, at0, at1, at2, at3, tBM, tBM0, rAppend, rPopAt, tyV_list, tGet2, tGetI, sPut, tMG, rTIdx, tyTup, tTupF, cx_K, cx_w, ex_map_int, ex_nil_int, ex_cons_int, List.map_cons, List.map_nil, List.isEmpty_nil, List.isEmpty_cons, List.eraseIdx_zero, List.tail_cons, List.eraseIdx_cons_zero, HO.lst.injEq, HO.tup.injEq, HO.dK.injEq, HO.frz.injEq, ne_eq, gTupH, gCons, gNil, wipe, tYes, upd_upd, and_assoc, List.getElem?_map, Option.map_some, isn_non_bool, isn_non_int, isn_non_str, isn_non_tuple, isn_non_list, isn_non_dict, isn_bl_bool, isn_bl_int, isn_bl_str, isn_bl_tuple, isn_bl_list, isn_bl_dict, isn_int_bool, isn_int_int, isn_int_str, isn_int_tuple, isn_int_list, isn_int_dict, isn_str_bool, isn_str_int, isn_str_str, isn_str_tuple, isn_str_list, isn_str_dict, isn_lst_bool, isn_lst_int, isn_lst_str, isn_lst_tuple, isn_lst_list, isn_lst_dict, isn_tup_bool, isn_tup_int, isn_tup_str, isn_tup_tuple, isn_tup_list, isn_tup_dict, isn_dct_bool, isn_dct_int, isn_dct_str, isn_dct_tuple, isn_dct_list, isn_dct_dict, okn_bool, okn_int, okn_str, okn_tuple, okn_list, okn_dict, cIsi, tyT_n, tyT_b, tyT_i, tyT_s, tyT_r, V.ty.injEq, tSl, tPart, tNoPart, rSlF, gName, List.length_map, Int.reduceToNat, cpow18, Wd.s_inj, ws_num, ws_field, ws_add, ws_sub, ws_mul, ws_eq, ws_lt, ws_gt, ws_le, ws_ge, ws_and, ws_or, ws_not, rInTab, rIxTab, rCatH, rCat, rInT, cSortD, cMaxL, cMinL, rNeNilI, inV, flatV, List.any_cons, List.any_nil, List.all_cons, List.all_nil, eqV, Bool.and_true, Bool.and_false, Bool.true_and, Bool.false_and, Bool.or_false, Bool.false_or, Bool.or_true, Bool.true_or, Wd.beq_s, sz0, sz1, sz2, sz3, sz4, sz5, sz6, isc_eq, isc_lt, isc_gt, isc_le, isc_ge, isc_and, isc_or, isc_not, isl_and, isl_or, isl_not, rSetD, rUnion, rSortTx, rRep]
            refine ⟨Same.refl _, fun c0 x0 y0 e => ?_⟩
            subst e
            cases x0 <;> cases y0 <;> first | rfl | (exact absurd hk (by simp [knownC, Tm.head]))
          | true =>
            cases c with
            | cmp c0 x0 y0 =>
              simp only [knownC, Bool.and_eq_true, decide_eq_true_eq] at hk
              obtain ⟨n0, rfl⟩ := head_num hp.2.1 hk.1
              obtain ⟨n1, rfl⟩ := head_num hp.2.2.1 hk.2
              obtain ⟨a, u, z, rfl, ha, ⟨ax, rfl, hax⟩, ⟨ay, rfl, hay⟩⟩ := Rc
              simp only [tVar, tC, tOp, rI, rI0, rU, tTest, tB, tAnd, tOr, tNot, tAndV, tOrV, tNotV, tIf, tNil, tCons, tTup, tLst, tCB, tSeq, tAsg, gName, tRet, tRetN, tIfS, tNext, tDrop, tCall, tUn, tPar, CMul, CDiv, V.int.injEq, V.bl.injEq, V.ref.injEq, V.str.injEq, Option.some.injEq, List.cons.injEq, and_true, true_and, and_false, false_and, or_false, false_or, or_true, true_or, exists_eq_left', exists_eq_left, exists_and_left, exists_and_right, exists_eq', exists_eq, exists_false, exists_const, List.getElem?_cons_succ, List.getElem?_cons_zero, List.set_cons_succ, List.set_cons_zero, List.length_cons, List.length_nil, List.cons_append, List.nil_append, List.append_nil, reduceCtorEq, Int.reduceLT, Int.reduceLE, Int.reduceNeg, Int.reducePow, Int.reduceSub, Int.reduceAdd, Nat.reduceAdd, Nat.reduceLeDiff, Bool.not_true, Bool.not_false, decide_true, decide_false, Bool.false_eq_true, ↓reduceIte, upd_same, not_true_eq_false, not_false_eq_true, lsO_l, lsO_f, tpO_t, tpO_f, dkO_d, dkO_f, keyO_i, keyO_s, rIxH, rIxU, cLenL, cLenT, cListL, cListT, cTupL, cIntB, cAll, rEqNilI, rEq, rNe, scal_ii, scal_ss, scal_bb, scal_nn, scal_ni, scal_in, scal_ns, scal_sn, gSub, rSetL, ixs0, ixs1, ixs2, seq0, at0, at1, at2, at3, tBM, tBM0, rAppend, rPopAt, tyV_list, tGet2, tGetI, sPut, tMG, rTIdx, tyTup, tTupF, cx_K, cx_w, ex_map_int, ex_nil_int, ex_cons_int, List.map_cons, List.map_nil, List.isEmpty_nil, List.isEmpty_cons, List.eraseIdx_zero, List.tail_cons, List.eraseIdx_cons_zero, HO.lst.injEq, HO.tup.injEq, HO.dK.injEq, HO.frz.injEq, ne_eq, gTupH, gCons, gNil, wipe, tYes, upd_upd, and_assoc, List.getElem?_map, Option.map_some, isn_non_bool, isn_non_int, isn_non_str, isn_non_tuple, isn_non_list, isn_non_dict, isn_bl_bool, isn_bl_int, isn_bl_str, isn_bl_tuple, isn_bl_list, isn_bl_dict, isn_int_bool, isn_int_int, isn_int_str, isn_int_tuple, isn_int_list, isn_int_dict, isn_str_bool, isn_str_int, isn_str_str, isn_str_tuple, isn_str_list, isn_str_dict, isn_lst_bool, isn_lst_int, isn_lst_str, isn_lst_tuple, isn_lst_list, isn_lst_dict, isn_tup_bool, isn_tup_int, isn_tup_str, isn_tup_tuple, isn_tup_list, isn_tup_dict, isn_dct_bool, isn_dct_int, isn_dct_str, isn_dct_tuple, isn_dct_list, isn_dct_dict, okn_bool, okn_int, okn_str, okn_tuple, okn_list, okn_dict, cIsi, tyT_n, tyT_b, tyT_i, tyT_s, tyT_r, V.ty.injEq, tSl, tPart, tNoPart, rSlF, gName, List.length_map, Int.reduceToNat, cpow18, Wd.s_inj, ws_num, ws_field, ws_add, ws_sub, ws_mul, ws_eq, ws_lt, ws_gt, ws_le, ws_ge, ws_and, ws_or, ws_not, rInTab, rIxTab, rCatH, rCat, rInT, cSortD, cMaxL, cMinL, rNeNilI, inV, flatV, List.any_cons, List.any_nil, List.all_cons, List.all_nil, eqV, Bool.and_true, Bool.and_false, Bool.true_and, Bool.false_and, Bool.or_false, Bool.false_or, Bool.or_true, Bool.true_or, Wd.beq_s, sz0, sz1, sz2, sz3, sz4, sz5, sz6, isc_eq, isc_lt, isc_gt, isc_le, isc_ge, isc_and, isc_or, isc_not, isl_and, isl_or, isl_not, rSetD, rUnion, rSortTx, rRep, ha, hax, hay]
              refine ⟨c0, n0, n1, rfl, hp.1, fun H' s' => ?_⟩
              cases htr : tru c0 n0 n1 with
              | true =>
                simp only [tVar, tC, tOp, rI, rI0, rU, tTest, tB, tAnd, tOr, tNot, tAndV, tOrV, tNotV, tIf, tNil, tCons, tTup, tLst, tCB, tSeq, tAsg, gName, tRet, tRetN, tIfS, tNext, tDrop, tCall, tUn, tPar, CMul, CDiv, V.int.injEq, V.bl.injEq, V.ref.injEq, V.str.injEq, Option.some.injEq, List.cons.injEq, and_true, true_and, and_false, false_and, or_false, false_or, or_true, true_or, exists_eq_left', exists_eq_left, exists_and_left, exists_and_right, exists_eq', exists_eq, exists_false, exists_const, List.getElem?_cons_succ, List.getElem?_cons_zero, List.set_cons_succ, List.set_cons_zero, List.length_cons, List.length_nil, List.cons_append, List.nil_append, List.append_nil, reduceCtorEq, Int.reduceLT, Int.reduceLE, Int.reduceNeg, Int.reducePow, Int.reduceSub, Int.reduceAdd, Nat.reduceAdd, Nat.reduceLeDiff, Bool.not_true, Bool.not_false, decide_true, decide_false, Bool.false_eq_true, ↓reduceIte, upd_same, not_true_eq_false, not_false_eq_true, lsO_l, lsO_f, tpO_t, tpO_f, dkO_d, dkO_f, keyO_i, keyO_s, rIxH, rIxU, cLenL, cLenT, cListL, cListT, cTupL, cIntB, cAll, rEqNilI, rEq, rNe, scal_ii, scal_ss, scal_bb, scal_nn, scal_ni, scal_in, scal_ns, scal_sn, gSub, rSetL, ixs0, ixs1, ixs2, seq0, at0, at1, at2, at3, tBM, tBM0, rAppend, rPopAt, tyV_list, tGet2, tGetI, sPut, tMG, rTIdx, tyTup, tTupF, cx_K, cx_w, ex_map_int, ex_nil_int, ex_cons_int, List.map_cons, List.map_nil, List.isEmpty_nil, List.isEmpty_cons, List.eraseIdx_zero, List.tail_cons, List.eraseIdx_cons_zero, HO.lst.injEq, HO.tup.injEq, HO.dK.injEq, HO.frz.injEq, ne_eq, gTupH, gCons, gNil, wipe, tYes, upd_upd, and_assoc, List.getElem?_map, Option.map_some, isn_non_bool, isn_non_int, isn_non_str, isn_non_tuple, isn_non_list, isn_non_dict, isn_bl_bool, isn_bl_int, isn_bl_str, isn_bl_tuple, isn_bl_list, isn_bl_dict, isn_int_bool, isn_int_int, isn_int_str, isn_int_tuple, isn_int_list, isn_int_dict, isn_str_bool, isn_str_int, isn_str_str, isn_str_tuple, isn_str_list, isn_str_dict, isn_lst_bool, isn_lst_int, isn_lst_str, isn_lst_tuple, isn_lst_list, isn_lst_dict, isn_tup_bool, isn_tup_int, isn_tup_str, isn_tup_tuple, isn_tup_list, isn_tup_dict, isn_dct_bool, isn_dct_int, isn_dct_str, isn_dct_tuple, isn_dct_list, isn_dct_dict, okn_bool, okn_int, okn_str, okn_tuple, okn_list, okn_dict, cIsi, tyT_n, tyT_b, tyT_i, tyT_s, tyT_r, V.ty.injEq, tSl, tPart, tNoPart, rSlF, gName, List.length_map, Int.reduceToNat, cpow18, Wd.s_inj, ws_num, ws_field, ws_add, ws_sub, ws_mul, ws_eq, ws_lt, ws_gt, ws_le, ws_ge, ws_and, ws_or, ws_not, rInTab, rIxTab, rCatH, rCat, rInT, cSortD, cMaxL, cMinL, rNeNilI, inV, flatV, List.any_cons, List.any_nil, List.all_cons, List.all_nil, eqV, Bool.and_true, Bool.and_false, Bool.true_and, Bool.false_and, Bool.or_false, Bool.false_or, Bool.or_true, Bool.true_or, Wd.beq_s, sz0, sz1, sz2, sz3, sz4, sz5, sz6, isc_eq, isc_lt, isc_gt, isc_le, isc_ge, isc_and, isc_or, isc_not, isl_and, isl_or, isl_not, rSetD, rUnion, rSortTx, rRep]
                refine ⟨s', fun c0' x0 y0 e => ?_⟩
                cases e
                exact htr
              | false =>
                simp only [tVar, tC, tOp, rI, rI0, rU, tTest, tB, tAnd, tOr, tNot, tAndV, tOrV, tNotV, tIf, tNil, tCons, tTup, tLst, tCB, tSeq, tAsg, gName, tRet, tRetN, tIfS, tNext, tDrop, tCall, tUn, tPar, CMul, CDiv, V.int.injEq, V.bl.injEq, V.ref.injEq, V.str.injEq, Option.some.injEq, List.cons.injEq, and_true, true_and, and_false, false_and, or_false, false_or, or_true, true_or, exists_eq_left', exists_eq_left, exists_and_left, exists_and_right, exists_eq', exists_eq, exists_false, exists_const, List.getElem?_cons_succ, List.getElem?_cons_zero, List.set_cons_succ, List.set_cons_zero, List.length_cons, List.length_nil, List.cons_append, List.nil_append, List.append_nil, reduceCtorEq, Int.reduceLT, Int.reduceLE, Int.reduceNeg, Int.reducePow, Int.reduceSub, Int.reduceAdd, Nat.reduceAdd, Nat.reduceLeDiff, Bool.not_true, Bool.not_false, decide_true, decide_false, Bool.false_eq_true, ↓reduceIte, upd_same, not_true_eq_false, not_false_eq_true, lsO_l, lsO_f, tpO_t, tpO_f, dkO_d, dkO_f, keyO_i, keyO_s, rIxH, rIxU, cLenL, cLenT, cListL, cListT, cTupL, cIntB, cAll, rEqNilI, rEq, rNe, scal_ii, scal_ss, scal_bb, scal_nn, scal_ni, scal_in, scal_ns, scal_sn, gSub, rSetL, ixs0, ixs1, ixs2, seq0, at0, at1, at2, at3, tBM, tBM0, rAppend, rPopAt, tyV_list, tGet2, tGetI, sPut, tMG, rTIdx, tyTup, tTupF, cx_K, cx_w, ex_map_int, ex_nil_int, ex_cons_int, List.map_cons, List.map_nil, List.isEmpty_nil, List.isEmpty_cons, List.eraseIdx_zero, List.tail_cons, List.eraseIdx_cons_zero, HO.lst.injEq, HO.tup.injEq, HO.dK.injEq, HO.frz.injEq, ne_eq, gTupH, gCons, gNil, wipe, tYes, upd_upd, and_assoc, List.getElem?_map, Option.map_some, isn_non_bool, isn_non_int, isn_non_str, isn_non_tuple, isn_non_list, isn_non_dict, isn_bl_bool, isn_bl_int, isn_bl_str, isn_bl_tuple, isn_bl_list, isn_bl_dict, isn_int_bool, isn_int_int, isn_int_str, isn_int_tuple, isn_int_list, isn_int_dict, isn_str_bool, isn_str_int, isn_str_str, isn_str_tuple, isn_str_list, isn_str_dict, isn_lst_bool, isn_lst_int, isn_lst_str, isn_lst_tuple, isn_lst_list, isn_lst_dict, isn_tup_bool, isn_tup_int, isn_tup_str, isn_tup_tuple, isn_tup_list, isn_tup_dict, isn_dct_bool, isn_dct_int, isn_dct_str, isn_dct_tuple, isn_dct_list, isn_dct_dict, okn_bool, okn_int, okn_str, okn_tuple, okn_list, okn_dict, cIsi, tyT_n, tyT_b, tyT_i, tyT_s, tyT_r, V.ty.injEq, tSl, tPart, tNoPart, rSlF, gName, List.length_map, Int.reduceToNat, cpow18, Wd.s_inj, ws_num, ws_field, ws_add, ws_sub, ws_mul, ws_eq, ws_lt, ws_gt, ws_le, ws_ge, ws_and, ws_or, ws_not, rInTab, rIxTab, rCatH, rCat, rInT, cSortD, cMaxL, cMinL, rNeNilI, inV, flatV, List.any_cons, List.any_nil, List.all_cons, List.all_nil, eqV, Bool.and_true, Bool.and_false, Bool.true_and, Bool.false_and, Bool.or_false, Bool.false_or, Bool.or_true, Bool.true_or, Wd.beq_s, sz0, sz1, sz2, sz3, sz4, sz5, sz6, isc_eq, isc_lt, isc_gt, isc_le, isc_ge, isc_and, isc_or, isc_not, isl_and, isl_or, isl_not, rSetD, rUnion, rSortTx, rRep]
                refine kn (boundsM_none (i := i + 1) ?_) _ ((keepS k2).trans s')
                rw [ft]
                simp only [stepC, truT, htr, Bool.false_eq_true, if_false]
            | _ => cases hk
        rintro σ' H4 ⟨rfl, s4, htr⟩
        have Rc4 : RC H4 x c := Rc.tups (TupS.ofSame s4)
        have D4 : DBg gO H4 d es := D.same s4
        have k4 : Keep [d] H1 H4 := k2.trans (Keep.ofSame s4)
        cases c with
        | neg c =>
          obtain ⟨a, u, rfl, ha, _⟩ := Rc4
          refine ⟨fun σ' H' => σ' = [some v, some (.str t), some (.ref d), some (.ref a), x4] ∧ H' = H4, ?_, ?_⟩
          · simp only [tVar, tC, tOp, rI, rI0, rU, tTest, tB, tAnd, tOr, tNot, tAndV, tOrV, tNotV, tIf, tNil, tCons, tTup, tLst, tCB, tSeq, tAsg, gName, tRet, tRetN, tIfS, tNext, tDrop, tCall, tUn, tPar, CMul, CDiv, V.int.injEq, V.bl.injEq, V.ref.injEq, V.str.injEq, Option.some.injEq, List.cons.injEq, and_true, true_and, and_false, false_and, or_false, false_or, or_true, true_or, exists_eq_left', exists_eq_left, exists_and_left, exists_and_right, exists_eq', exists_eq, exists_false, exists_const, List.getElem?_cons_succ, List.getElem?_cons_zero, List.set_cons_succ, List.set_cons_zero, List.length_cons, List.length_nil, List.cons_append, List.nil_append, List.append_nil, reduceCtorEq, Int.reduceLT, Int.reduceLE, Int.reduceNeg, Int.reducePow, Int.reduceSub, Int.reduceAdd, Nat.reduceAdd, Nat.reduceLeDiff, Bool.not_true, Bool.not_false, decide_true, decide_false, Bool.false_eq_true, ↓reduceIte, upd_same, not_true_eq_false, not_false_eq_true, lsO_l, lsO_f, tpO_t, tpO_f, dkO_d, dkO_f, keyO_i, keyO_s, rIxH, rIxU, cLenL, cLenT, cListL, cListT, cTupL, cIntB, cAll, rEqNilI, rEq, rNe, scal_ii, scal_ss, scal_bb, scal_nn, scal_ni, scal_in, scal_ns, scal_sn, gSub, rSetL, ixs0, ixs1, ixs2, seq0, at0, at1, at2, at3, tBM, tBM0, rAppend, rPopAt, tyV_list, tGet2, tGetI, sPut, tMG, rTIdx, tyTup, tTupF, cx_K, cx_w, ex_map_int, ex_nil_int, ex_cons_int, List.map_cons, List.map_nil, List.isEmpty_nil, List.isEmpty_cons, List.eraseIdx_zero, List.tail_cons, List.eraseIdx_cons_zero, HO.lst.injEq, HO.tup.injEq, HO.dK.injEq, HO.frz.injEq, ne_eq, gTupH, gCons, gNil, wipe, tYes, upd_upd, and_assoc, List.getElem?_map, Option.map_some, isn_non_bool, isn_non_int, isn_non_str, isn_non_tuple, isn_non_list, isn_non_dict, isn_bl_bool, isn_bl_int, isn_bl_str, isn_bl_tuple, isn_bl_list, isn_bl_dict, isn_int_bool, isn_int_int, isn_int_str, isn_int_tuple, isn_int_list, isn_int_dict, isn_str_bool, isn_str_int, isn_str_str, isn_str_tuple, isn_str_list, isn_str_dict, isn_lst_bool, isn_lst_int, isn_lst_str, isn_lst_tuple, isn_lst_list, isn_lst_dict, isn_tup_bool, isn_tup_int, isn_tup_str, isn_tup_tuple, isn_tup_list, isn_tup_dict, isn_dct_bool, isn_dct_int, isn_dct_str, isn_dct_tuple, isn_dct_list, isn_dct_dict, okn_bool, okn_int, okn_str, okn_tuple, okn_list, okn_dict, cIsi, tyT_n, tyT_b, tyT_i, tyT_s, tyT_r, V.ty.injEq, tSl, tPart, tNoPart, rSlF, gName, List.length_map, Int.reduceToNat, cpow18, Wd.s_inj, ws_num, ws_field, ws_add, ws_sub, ws_mul, ws_eq, ws_lt, ws_gt, ws_le, ws_ge, ws_and, ws_or, ws_not, rInTab, rIxTab, rCatH, rCat, rInT, cSortD, cMaxL, cMinL, rNeNilI, inV, flatV, List.any_cons, List.any_nil, List.all_cons, List.all_nil, eqV, Bool.and_true, Bool.and_false, Bool.true_and, Bool.false_and, Bool.or_false, Bool.false_or, Bool.or_true, Bool.true_or, Wd.beq_s, sz0, sz1, sz2, sz3, sz4, sz5, sz6, isc_eq, isc_lt, isc_gt, isc_le, isc_ge, isc_and, isc_or, isc_not, isl_and, isl_or, isl_not, rSetD, rUnion, rSortTx, rRep, ha]
          rintro σ' H' ⟨rfl, rfl⟩
          simp only [tVar, tC, tOp, rI, rI0, rU, tTest, tB, tAnd, tOr, tNot, tAndV, tOrV, tNotV, tIf, tNil, tCons, tTup, tLst, tCB, tSeq, tAsg, gName, tRet, tRetN, tIfS, tNext, tDrop, tCall, tUn, tPar, CMul, CDiv, V.int.injEq, V.bl.injEq, V.ref.injEq, V.str.injEq, Option.some.injEq, List.cons.injEq, and_true, true_and, and_false, false_and, or_false, false_or, or_true, true_or, exists_eq_left', exists_eq_left, exists_and_left, exists_and_right, exists_eq', exists_eq, exists_false, exists_const, List.getElem?_cons_succ, List.getElem?_cons_zero, List.set_cons_succ, List.set_cons_zero, List.length_cons, List.length_nil, List.cons_append, List.nil_append, List.append_nil, reduceCtorEq, Int.reduceLT, Int.reduceLE, Int.reduceNeg, Int.reducePow, Int.reduceSub, Int.reduceAdd, Nat.reduceAdd, Nat.reduceLeDiff, Bool.not_true, Bool.not_false, decide_true, decide_false, Bool.false_eq_true, ↓reduceIte, upd_same, not_true_eq_false, not_false_eq_true, lsO_l, lsO_f, tpO_t, tpO_f, dkO_d, dkO_f, keyO_i, keyO_s, rIxH, rIxU, cLenL, cLenT, cListL, cListT, cTupL, cIntB, cAll, rEqNilI, rEq, rNe, scal_ii, scal_ss, scal_bb, scal_nn, scal_ni, scal_in, scal_ns, scal_sn, gSub, rSetL, ixs0, ixs1, ixs2, seq0, at0, at1, at2, at3, tBM, tBM0, rAppend, rPopAt, tyV_list, tGet2, tGetI, sPut, tMG, rTIdx, tyTup, tTupF, cx_K, cx_w, ex_map_int, ex_nil_int, ex_cons_int, List.map_cons, List.map_nil, List.isEmpty_nil, List.isEmpty_cons, List.eraseIdx_zero, List.tail_cons, List.eraseIdx_cons_zero, HO.lst.injEq, HO.tup.injEq, HO.dK.injEq, HO.frz.injEq, ne_eq, gTupH, gCons, gNil, wipe, tYes, upd_upd, and_assoc, List.getElem?_map, Option.map_some, isn_non_bool, isn_non_int, isn_non_str, isn_non_tuple, isn_non_list, isn_non_dict, isn_bl_bool, isn_bl_int, isn_bl_str, isn_bl_tuple, isn_bl_list, isn_bl_dict, isn_int_bool, isn_int_int, isn_int_str, isn_int_tuple, isn_int_list, isn_int_dict, isn_str_bool, isn_str_int, isn_str_str, isn_str_tuple, isn_str_list, isn_str_dict, isn_lst_bool, isn_lst_int, isn_lst_str, isn_lst_tuple, isn_lst_list, isn_lst_dict, isn_tup_bool, isn_tup_int, isn_tup_str, isn_tup_tuple, isn_tup_list, isn_tup_dict, isn_dct_bool, isn_dct_int, isn_dct_str, isn_dct_tuple, isn_dct_list, isn_dct_dict, okn_bool, okn_int, okn_str, okn_tuple, okn_list, okn_dict, cIsi, tyT_n, tyT_b, tyT_i, tyT_s, tyT_r, V.ty.injEq, tSl, tPart, tNoPart, rSlF, gName, List.length_map, Int.reduceToNat, cpow18, Wd.s_inj, ws_num, ws_field, ws_add, ws_sub, ws_mul, ws_eq, ws_lt, ws_gt, ws_le, ws_ge, ws_and, ws_or, ws_not, rInTab, rIxTab, rCatH, rCat, rInT, cSortD, cMaxL, cMinL, rNeNilI, inV, flatV, List.any_cons, List.any_nil, List.all_cons, List.all_nil, eqV, Bool.and_true, Bool.and_false, Bool.true_and, Bool.false_and, Bool.or_false, Bool.false_or, Bool.or_true, Bool.true_or, Wd.beq_s, sz0, sz1, sz2, sz3, sz4, sz5, sz6, isc_eq, isc_lt, isc_gt, isc_le, isc_ge, isc_and, isc_or, isc_not, isl_and, isl_or, isl_not, rSetD, rUnion, rSortTx, rRep, ha]
          exact ⟨es, ft, by omega, D4, k4⟩
        | con o c1 c2 =>
          obtain ⟨a, u, z, rfl, ha, _, _⟩ := Rc4
          obtain rfl : o = .or := hp
          refine ⟨fun σ' H' => σ' = [some v, some (.str t), some (.ref d), some (.ref a), x4] ∧ H' = H4, ?_, ?_⟩
          · simp only [tVar, tC, tOp, rI, rI0, rU, tTest, tB, tAnd, tOr, tNot, tAndV, tOrV, tNotV, tIf, tNil, tCons, tTup, tLst, tCB, tSeq, tAsg, gName, tRet, tRetN, tIfS, tNext, tDrop, tCall, tUn, tPar, CMul, CDiv, V.int.injEq, V.bl.injEq, V.ref.injEq, V.str.injEq, Option.some.injEq, List.cons.injEq, and_true, true_and, and_false, false_and, or_false, false_or, or_true, true_or, exists_eq_left', exists_eq_left, exists_and_left, exists_and_right, exists_eq', exists_eq, exists_false, exists_const, List.getElem?_cons_succ, List.getElem?_cons_zero, List.set_cons_succ, List.set_cons_zero, List.length_cons, List.length_nil, List.cons_append, List.nil_append, List.append_nil, reduceCtorEq, Int.reduceLT, Int.reduceLE, Int.reduceNeg, Int.reducePow, Int.reduceSub, Int.reduceAdd, Nat.reduceAdd, Nat.reduceLeDiff, Bool.not_true, Bool.not_false, decide_true, decide_false, Bool.false_eq_true, ↓reduceIte, upd_same, not_true_eq_false, not_false_eq_true, lsO_l, lsO_f, tpO_t, tpO_f, dkO_d, dkO_f, keyO_i, keyO_s, rIxH, rIxU, cLenL, cLenT, cListL, cListT, cTupL, cIntB, cAll, rEqNilI, rEq, rNe, scal_ii, scal_ss, scal_bb, scal_nn, scal_ni, scal_in, scal_ns, scal_sn, gSub, rSetL, ixs0, ixs1, ixs2, seq0, at0, at1, at2, at3, tBM, tBM0, rAppend, rPopAt, tyV_list, tGet2, tGetI, sPut, tMG, rTIdx, tyTup, tTupF, cx_K, cx_w, ex_map_int, ex_nil_int, ex_cons_int, List.map_cons, List.map_nil, List.isEmpty_nil, List.isEmpty_cons, List.eraseIdx_zero, List.tail_cons, List.eraseIdx_cons_zero, HO.lst.injEq, HO.tup.injEq, HO.dK.injEq, HO.frz.injEq, ne_eq, gTupH, gCons, gNil, wipe, tYes, upd_upd, and_assoc, List.getElem?_map, Option.map_some, isn_non_bool, isn_non_int, isn_non_str, isn_non_tuple, isn_non_list, isn_non_dict, isn_bl_bool, isn_bl_int, isn_bl_str, isn_bl_tuple, isn_bl_list, isn_bl_dict, isn_int_bool, isn_int_int, isn_int_str, isn_int_tuple, isn_int_list, isn_int_dict, isn_str_bool, isn_str_int, isn_str_str, isn_str_tuple, isn_str_list, isn_str_dict, isn_lst_bool, isn_lst_int, isn_lst_str, isn_lst_tuple, isn_lst_list, isn_lst_dict, isn_tup_bool, isn_tup_int, isn_tup_str, isn_tup_tuple, isn_tup_list, isn_tup_dict, isn_dct_bool, isn_dct_int, isn_dct_str, isn_dct_tuple, isn_dct_list, isn_dct_dict, okn_bool, okn_int, okn_str, okn_tuple, okn_list, okn_dict, cIsi, tyT_n, tyT_b, tyT_i, tyT_s, tyT_r, V.ty.injEq, tSl, tPart, tNoPart, rSlF, gName, List.length_map, Int.reduceToNat, cpow18, Wd.s_inj, ws_num, ws_field, ws_add, ws_sub, ws_mul, ws_eq, ws_lt, ws_gt, ws_le, ws_ge, ws_and, ws_or, ws_not, rInTab, rIxTab, rCatH, rCat, rInT, cSortD, cMaxL, cMinL, rNeNilI, inV, flatV, List.any_cons, List.any_nil, List.all_cons, List.all_nil, eqV, Bool.and_true, Bool.and_false, Bool.true_and, Bool.false_and, Bool.or_false, Bool.false_or, Bool.or_true, Bool.true_or, Wd.beq_s, sz0, sz1, sz2, sz3, sz4, sz5, sz6, isc_eq, isc_lt, isc_gt, isc_le, isc_ge, isc_and, isc_or, isc_not, isl_and, isl_or, isl_not, rSetD, rUnion, rSortTx, rRep, ha]
          rintro σ' H' ⟨rfl, rfl⟩
          simp only [tVar, tC, tOp, rI, rI0, rU, tTest, tB, tAnd, tOr, tNot, tAndV, tOrV, tNotV, tIf, tNil, tCons, tTup, tLst, tCB, tSeq, tAsg, gName, tRet, tRetN, tIfS, tNext, tDrop, tCall, tUn, tPar, CMul, CDiv, V.int.injEq, V.bl.injEq, V.ref.injEq, V.str.injEq, Option.some.injEq, List.cons.injEq, and_true, true_and, and_false, false_and, or_false, false_or, or_true, true_or, exists_eq_left', exists_eq_left, exists_and_left, exists_and_right, exists_eq', exists_eq, exists_false, exists_const, List.getElem?_cons_succ, List.getElem?_cons_zero, List.set_cons_succ, List.set_cons_zero, List.length_cons, List.length_nil, List.cons_append, List.nil_append, List.append_nil, reduceCtorEq, Int.reduceLT, Int.reduceLE, Int.reduceNeg, Int.reducePow, Int.reduceSub, Int.reduceAdd, Nat.reduceAdd, Nat.reduceLeDiff, Bool.not_true, Bool.not_false, decide_true, decide_false, Bool.false_eq_true, ↓reduceIte, upd_same, not_true_eq_false, not_false_eq_true, lsO_l, lsO_f, tpO_t, tpO_f, dkO_d, dkO_f, keyO_i, keyO_s, rIxH, rIxU, cLenL, cLenT, cListL, cListT, cTupL, cIntB, cAll, rEqNilI, rEq, rNe, scal_ii, scal_ss, scal_bb, scal_nn, scal_ni, scal_in, scal_ns, scal_sn, gSub, rSetL, ixs0, ixs1, ixs2, seq0, at0, at1, at2, at3, tBM, tBM0, rAppend, rPopAt, tyV_list, tGet2, tGetI, sPut, tMG, rTIdx, tyTup, tTupF, cx_K, cx_w, ex_map_int, ex_nil_int, ex_cons_int, List.map_cons, List.map_nil, List.isEmpty_nil, List.isEmpty_cons, List.eraseIdx_zero, List.tail_cons, List.eraseIdx_cons_zero, HO.lst.injEq, HO.tup.injEq, HO.dK.injEq, HO.frz.injEq, ne_eq, gTupH, gCons, gNil, wipe, tYes, upd_upd, and_assoc, List.getElem?_map, Option.map_some, isn_non_bool, isn_non_int, isn_non_str, isn_non_tuple, isn_non_list, isn_non_dict, isn_bl_bool, isn_bl_int, isn_bl_str, isn_bl_tuple, isn_bl_list, isn_bl_dict, isn_int_bool, isn_int_int, isn_int_str, isn_int_tuple, isn_int_list, isn_int_dict, isn_str_bool, isn_str_int, isn_str_str, isn_str_tuple, isn_str_list, isn_str_dict, isn_lst_bool, isn_lst_int, isn_lst_str, isn_lst_tuple, isn_lst_list, isn_lst_dict, isn_tup_bool, isn_tup_int, isn_tup_str, isn_tup_tuple, isn_tup_list, isn_tup_dict, isn_dct_bool, isn_dct_int, isn_dct_str, isn_dct_tuple, isn_dct_list, isn_dct_dict, okn_bool, okn_int, okn_str, okn_tuple, okn_list, okn_dict, cIsi, tyT_n, tyT_b, tyT_i, tyT_s, tyT_r, V.ty.injEq, tSl, tPart, tNoPart, rSlF, gName, List.length_map, Int.reduceToNat, cpow18, Wd.s_inj, ws_num, ws_field, ws_add, ws_sub, ws_mul, ws_eq, ws_lt, ws_gt, ws_le, ws_ge, ws_and, ws_or, ws_not, rInTab, rIxTab, rCatH, rCat, rInT, cSortD, cMaxL, cMinL, rNeNilI, inV, flatV, List.any_cons, List.any_nil, List.all_cons, List.all_nil, eqV, Bool.and_true, Bool.and_false, Bool.true_and, Bool.false_and, Bool.or_false, Bool.false_or, Bool.or_true, Bool.true_or, Wd.beq_s, sz0, sz1, sz2, sz3, sz4, sz5, sz6, isc_eq, isc_lt, isc_gt, isc_le, isc_ge, isc_and, isc_or, isc_not, isl_and, isl_or, isl_not, rSetD, rUnion, rSortTx, rRep, ha]
          exact ⟨es, ft, by omega, D4, k4⟩
        | cmp c0 x0 y0 =>
          obtain ⟨a, u, z, rfl, ha, hx0, hy0⟩ := Rc4
          have ht0 := htr c0 x0 y0 rfl
          refine ⟨fun σ' H' => ∃ (a' : Addr) (c' : Wd) (u' z' : V) (x' y' : G7.Tm), σ' = [some v, some (.str t), some (.ref d), some (.ref a'), x4] ∧ H' a' = some (.tup [.str c'.s, u', z']) ∧ RT H' u' x' ∧ RT H' z' y' ∧ c'.isCmp = true ∧ x'.ok = true ∧ y'.ok = true ∧ x'.deep ≤ 8 ∧
            foldC t [] ((partsO co).take (i + 1)) = some (step2 t (es.map dr) c' x' y') ∧ Same H4 H', ?_, ?_⟩
          · obtain ⟨ax, rx, rfl, hax⟩ := hx0.headed
            simp only [tVar, tC, tOp, rI, rI0, rU, tTest, tB, tAnd, tOr, tNot, tAndV, tOrV, tNotV, tIf, tNil, tCons, tTup, tLst, tCB, tSeq, tAsg, gName, tRet, tRetN, tIfS, tNext, tDrop, tCall, tUn, tPar, CMul, CDiv, V.int.injEq, V.bl.injEq, V.ref.injEq, V.str.injEq, Option.some.injEq, List.cons.injEq, and_true, true_and, and_false, false_and, or_false, false_or, or_true, true_or, exists_eq_left', exists_eq_left, exists_and_left, exists_and_right, exists_eq', exists_eq, exists_false, exists_const, List.getElem?_cons_succ, List.getElem?_cons_zero, List.set_cons_succ, List.set_cons_zero, List.length_cons, List.length_nil, List.cons_append, List.nil_append, List.append_nil, reduceCtorEq, Int.reduceLT, Int.reduceLE, Int.reduceNeg, Int.reducePow, Int.reduceSub, Int.reduceAdd, Nat.reduceAdd, Nat.reduceLeDiff, Bool.not_true, Bool.not_false, decide_true, decide_false, Bool.false_eq_true, ↓reduceIte, upd_same, not_true_eq_false, not_false_eq_true, lsO_l, lsO_f, tpO_t, tpO_f, dkO_d, dkO_f, keyO_i, keyO_s, rIxH, rIxU, cLenL, cLenT, cListL, cListT, cTupL, cIntB, cAll, rEqNilI, rEq, rNe, scal_ii, scal_ss, scal_bb, scal_nn, scal_ni, scal_in, scal_ns, scal_sn, gSub, rSetL, ixs0, ixs1, ixs2, seq0, at0, at1, at2, at3, tBM, tBM0, rAppend, rPopAt, tyV_list, tGet2, tGetI, sPut, tMG, rTIdx, tyTup, tTupF, cx_K, cx_w, ex_map_int, ex_nil_int, ex_cons_int, List.map_cons, List.map_nil, List.isEmpty_nil, List.isEmpty_cons, List.eraseIdx_zero, List.tail_cons, List.eraseIdx_cons_zero, HO.lst.injEq, HO.tup.injEq, HO.dK.injEq, HO.frz.injEq, ne_eq, gTupH, gCons, gNil, wipe, tYes, upd_upd, and_assoc, List.getElem?_map, Option.map_some, isn_non_bool, isn_non_int, isn_non_str, isn_non_tuple, isn_non_list, isn_non_dict, isn_bl_bool, isn_bl_int, isn_bl_str, isn_bl_tuple, isn_bl_list, isn_bl_dict, isn_int_bool, isn_int_int, isn_int_str, isn_int_tuple, isn_int_list, isn_int_dict, isn_str_bool, isn_str_int, isn_str_str, isn_str_tuple, isn_str_list, isn_str_dict, isn_lst_bool, isn_lst_int, isn_lst_str, isn_lst_tuple, isn_lst_list, isn_lst_dict, isn_tup_bool, isn_tup_int, isn_tup_str, isn_tup_tuple, isn_tup_list, isn_tup_dict, isn_dct_bool, isn_dct_int, isn_dct_str, isn_dct_tuple, isn_dct_list, isn_dct_dict, okn_bool, okn_int, okn_str, okn_tuple, okn_list, okn_dict, cIsi, tyT_n, tyT_b, tyT_i, tyT_s, tyT_r, V.ty.injEq, tSl, tPart, tNoPart, rSlF, gName, List.length_map, Int.reduceToNat, cpow18, Wd.s_inj, ws_num, ws_field, ws_add, ws_sub, ws_mul, ws_eq, ws_lt, ws_gt, ws_le, ws_ge, ws_and, ws_or, ws_not, rInTab, rIxTab, rCatH, rCat, rInT, cSortD, cMaxL, cMinL, rNeNilI, inV, flatV, List.any_cons, List.any_nil, List.all_cons, List.all_nil, eqV, Bool.and_true, Bool.and_false, Bool.true_and, Bool.false_and, Bool.or_false, Bool.false_or, Bool.or_true, Bool.true_or, Wd.beq_s, sz0, sz1, sz2, sz3, sz4, sz5, sz6, isc_eq, isc_lt, isc_gt, isc_le, isc_ge, isc_and, isc_or, isc_not, isl_and, isl_or, isl_not, rSetD, rUnion, rSortTx, rRep, ha, hax, hp.1]
            by_cases hh : x0.head = .num
            · simp only [tVar, tC, tOp, rI, rI0, rU, tTest, tB, tAnd, tOr, tNot, tAndV, tOrV, tNotV, tIf, tNil, tCons, tTup, tLst, tCB, tSeq, tAsg, gName, tRet, tRetN, tIfS, tNext, tDrop, tCall, tUn, tPar, CMul, CDiv, V.int.injEq, V.bl.injEq, V.ref.injEq, V.str.injEq, Option.some.injEq, List.cons.injEq, and_true, true_and, and_false, false_and, or_false, false_or, or_true, true_or, exists_eq_left', exists_eq_left, exists_and_left, exists_and_right, exists_eq', exists_eq, exists_false, exists_const, List.getElem?_cons_succ, List.getElem?_cons_zero, List.set_cons_succ, List.set_cons_zero, List.length_cons, List.length_nil, List.cons_append, List.nil_append, List.append_nil, reduceCtorEq, Int.reduceLT, Int.reduceLE, Int.reduceNeg, Int.reducePow, Int.reduceSub, Int.reduceAdd, Nat.reduceAdd, Nat.reduceLeDiff, Bool.not_true, Bool.not_false, decide_true, decide_false, Bool.false_eq_true, ↓reduceIte, upd_same, not_true_eq_false, not_false_eq_true, lsO_l, lsO_f, tpO_t, tpO_f, dkO_d, dkO_f, keyO_i, keyO_s, rIxH, rIxU, cLenL, cLenT, cListL, cListT, cTupL, cIntB, cAll, rEqNilI, rEq, rNe, scal_ii, scal_ss, scal_bb, scal_nn, scal_ni, scal_in, scal_ns, scal_sn, gSub, rSetL, ixs0, ixs1, ixs2, seq0, at0, at1, at2, at3, tBM, tBM0, rAppend, rPopAt, tyV_list, tGet2, tGetI, sPut, tMG, rTIdx, tyTup, tTupF, cx_K, cx_w, ex_map_int, ex_nil_int, ex_cons_int, List.map_cons, List.map_nil, List.isEmpty_nil, List.isEmpty_cons, List.eraseIdx_zero, List.tail_cons, List.eraseIdx_cons_zero, HO.lst.injEq, HO.tup.injEq, HO.dK.injEq, HO.frz.injEq, ne_eq, gTupH, gCons, gNil, wipe, tYes, upd_upd, and_assoc, List.getElem?_map, Option.map_some, isn_non_bool, isn_non_int, isn_non_str, isn_non_tuple, isn_non_list, isn_non_dict, isn_bl_bool, isn_bl_int, isn_bl_str, isn_bl_tuple, isn_bl_list, isn_bl_dict, isn_int_bool, isn_int_int, isn_int_str, isn_int_tuple, isn_int_list, isn_int_dict, isn_str_bool, isn_str_int, isn_str_str, isn_str_tuple, isn_str_list, isn_str_dict, isn_lst_bool, isn_lst_int, isn_lst_str, isn_lst_tuple, isn_lst_list, isn_lst_dict, isn_tup_bool, isn_tup_int, isn_tup_str, isn_tup_tuple, isn_tup_list, isn_tup_dict, isn_dct_bool, isn_dct_int, isn_dct_str, isn_dct_tuple, isn_dct_list, isn_dct_dict, okn_bool, okn_int, okn_str, okn_tuple, okn_list, okn_dict, cIsi, tyT_n, tyT_b, tyT_i, tyT_s, tyT_r, V.ty.injEq, tSl, tPart, tNoPart, rSlF, gName, List.length_map, Int.reduceToNat, cpow18, Wd.s_inj, ws_num, ws_field, ws_add, ws_sub, ws_mul, ws_eq, ws_lt, ws_gt, ws_le, ws_ge, ws_and, ws_or, ws_not, rInTab, rIxTab, rCatH, rCat, rInT, cSortD, cMaxL, cMinL, rNeNilI, inV, flatV, List.any_cons, List.any_nil, List.all_cons, List.all_nil, eqV, Bool.and_true, Bool.and_false, Bool.true_and, Bool.false_and, Bool.or_false, Bool.false_or, Bool.or_true, Bool.true_or, Wd.beq_s, sz0, sz1, sz2, sz3, sz4, sz5, sz6, isc_eq, isc_lt, isc_gt, isc_le, isc_ge, isc_and, isc_or, isc_not, isl_and, isl_or, isl_not, rSetD, rUnion, rSortTx, rRep, hh]
              refine ⟨a, c0, _, z, rfl, ha, hp.1, fun p hp' => ?_⟩
              have sp := same_new (o := .tup [.str c0.turn.s, z, .ref ax]) hp'
              simp only [tVar, tC, tOp, rI, rI0, rU, tTest, tB, tAnd, tOr, tNot, tAndV, tOrV, tNotV, tIf, tNil, tCons, tTup, tLst, tCB, tSeq, tAsg, gName, tRet, tRetN, tIfS, tNext, tDrop, tCall, tUn, tPar, CMul, CDiv, V.int.injEq, V.bl.injEq, V.ref.injEq, V.str.injEq, Option.some.injEq, List.cons.injEq, and_true, true_and, and_false, false_and, or_false, false_or, or_true, true_or, exists_eq_left', exists_eq_left, exists_and_left, exists_and_right, exists_eq', exists_eq, exists_false, exists_const, List.getElem?_cons_succ, List.getElem?_cons_zero, List.set_cons_succ, List.set_cons_zero, List.length_cons, List.length_nil, List.cons_append, List.nil_append, List.append_nil, reduceCtorEq, Int.reduceLT, Int.reduceLE, Int.reduceNeg, Int.reducePow, Int.reduceSub, Int.reduceAdd, Nat.reduceAdd, Nat.reduceLeDiff, Bool.not_true, Bool.not_false, decide_true, decide_false, Bool.false_eq_true, ↓reduceIte, upd_same, not_true_eq_false, not_false_eq_true, lsO_l, lsO_f, tpO_t, tpO_f, dkO_d, dkO_f, keyO_i, keyO_s, rIxH, rIxU, cLenL, cLenT, cListL, cListT, cTupL, cIntB, cAll, rEqNilI, rEq, rNe, scal_ii, scal_ss, scal_bb, scal_nn, scal_ni, scal_in, scal_ns, scal_sn, gSub, rSetL, ixs0, ixs1, ixs2, seq0, at0, at1, at2, at3, tBM, tBM0, rAppend, rPopAt, tyV_list, tGet2, tGetI, sPut, tMG, rTIdx, tyTup, tTupF, cx_K, cx_w, ex_map_int, ex_nil_int, ex_cons_int, List.map_cons, List.map_nil, List.isEmpty_nil, List.isEmpty_cons, List.eraseIdx_zero, List.tail_cons, List.eraseIdx_cons_zero, HO.lst.injEq, HO.tup.injEq, HO.dK.injEq, HO.frz.injEq, ne_eq, gTupH, gCons, gNil, wipe, tYes, upd_upd, and_assoc, List.getElem?_map, Option.map_some, isn_non_bool, isn_non_int, isn_non_str, isn_non_tuple, isn_non_list, isn_non_dict, isn_bl_bool, isn_bl_int, isn_bl_str, isn_bl_tuple, isn_bl_list, isn_bl_dict, isn_int_bool, isn_int_int, isn_int_str, isn_int_tuple, isn_int_list, isn_int_dict, isn_str_bool, isn_str_int, isn_str_str, isn_str_tuple, isn_str_list, isn_str_dict, isn_lst_bool, isn_lst_int, isn_lst_str, isn_lst_tuple, isn_lst_list, isn_lst_dict, isn_tup_bool, isn_tup_int, isn_tup_str, isn_tup_tuple, isn_tup_list, isn_tup_dict, isn_dct_bool, isn_dct_int, isn_dct_str, isn_dct_tuple, isn_dct_list, isn_dct_dict, okn_bool, okn_int, okn_str, okn_tuple, okn_list, okn_dict, cIsi, tyT_n, tyT_b, tyT_i, tyT_s, tyT_r, V.ty.injEq, tSl, tPart, tNoPart, rSlF, gName, List.length_map, Int.reduceToNat, cpow18, Wd.s_inj, ws_num, ws_field, ws_add, ws_sub, ws_mul, ws_eq, ws_lt, ws_gt, ws_le, ws_ge, ws_and, ws_or, ws_not, rInTab, rIxTab, rCatH, rCat, rInT, cSortD, cMaxL, cMinL, rNeNilI, inV, flatV, List.any_cons, List.any_nil, List.all_cons, List.all_nil, eqV, Bool.and_true, Bool.and_false, Bool.true_and, Bool.false_and, Bool.or_false, Bool.false_or, Bool.or_true, Bool.true_or, Wd.beq_s, sz0, sz1, sz2, sz3, sz4, sz5, sz6, isc_eq, isc_lt, isc_gt, isc_le, isc_ge, isc_and, isc_or, isc_not, isl_and, isl_or, isl_not, rSetD, rUnion, rSortTx, rRep]
              refine ⟨y0, hy0.tups (TupS.ofSame sp), x0, hx0.tups (TupS.ofSame sp), ?_, hp.2.2.1, hp.2.1, hp.2.2.2.2.2.2, ?_, sp⟩
              · have := hp.1
                cases c0 <;> first | rfl | (cases this)
              · rw [ft]
                simp only [stepC, ht0, if_true, if_pos hh]
            · simp only [tVar, tC, tOp, rI, rI0, rU, tTest, tB, tAnd, tOr, tNot, tAndV, tOrV, tNotV, tIf, tNil, tCons, tTup, tLst, tCB, tSeq, tAsg, gName, tRet, tRetN, tIfS, tNext, tDrop, tCall, tUn, tPar, CMul, CDiv, V.int.injEq, V.bl.injEq, V.ref.injEq, V.str.injEq, Option.some.injEq, List.cons.injEq, and_true, true_and, and_false, false_and, or_false, false_or, or_true, true_or, exists_eq_left', exists_eq_left, exists_and_left, exists_and_right, exists_eq', exists_eq, exists_false, exists_const, List.getElem?_cons_succ, List.getElem?_cons_zero, List.set_cons_succ, List.set_cons_zero, List.length_cons, List.length_nil, List.cons_append, List.nil_append, List.append_nil, reduceCtorEq, Int.reduceLT, Int.reduceLE, Int.reduceNeg, Int.reducePow, Int.reduceSub, Int.reduceAdd, Nat.reduceAdd, Nat.reduceLeDiff, Bool.not_true, Bool.not_false, decide_true, decide_false, Bool.false_eq_true, ↓reduceIte, upd_same, not_true_eq_false, not_false_eq_true, lsO_l, lsO_f, tpO_t, tpO_f, dkO_d, dkO_f, keyO_i, keyO_s, rIxH, rIxU, cLenL, cLenT, cListL, cListT, cTupL, cIntB, cAll, rEqNilI, rEq, rNe, scal_ii, scal_ss, scal_bb, scal_nn, scal_ni, scal_in, scal_ns, scal_sn, gSub, rSetL, ixs0, ixs1, ixs2, seq0, at0, at1, at2, at3, tBM, tBM0, rAppend, rPopAt, tyV_list, tGet2, tGetI, sPut, tMG, rTIdx, tyTup, tTupF, cx_K, cx_w, ex_map_int, ex_nil_int, ex_cons_int, List.map_cons, List.map_nil, List.isEmpty_nil, List.isEmpty_cons, List.eraseIdx_zero, List.tail_cons, List.eraseIdx_cons_zero, HO.lst.injEq, HO.tup.injEq, HO.dK.injEq, HO.frz.injEq, ne_eq, gTupH, gCons, gNil, wipe, tYes, upd_upd, and_assoc, List.getElem?_map, Option.map_some, isn_non_bool, isn_non_int, isn_non_str, isn_non_tuple, isn_non_list, isn_non_dict, isn_bl_bool, isn_bl_int, isn_bl_str, isn_bl_tuple, isn_bl_list, isn_bl_dict, isn_int_bool, isn_int_int, isn_int_str, isn_int_tuple, isn_int_list, isn_int_dict, isn_str_bool, isn_str_int, isn_str_str, isn_str_tuple, isn_str_list, isn_str_dict, isn_lst_bool, isn_lst_int, isn_lst_str, isn_lst_tuple, isn_lst_list, isn_lst_dict, isn_tup_bool, isn_tup_int, isn_tup_str, isn_tup_tuple, isn_tup_list, isn_tup_dict, isn_dct_bool, isn_dct_int, isn_dct_str, isn_dct_tuple, isn_dct_list, isn_dct_dict, okn_bool, okn_int, okn_str, okn_tuple, okn_list, okn_dict, cIsi, tyT_n, tyT_b, tyT_i, tyT_s, tyT_r, V.ty.injEq, tSl, tPart, tNoPart, rSlF, gName, List.length_map, Int.reduceToNat, cpow18, Wd.s_inj, ws_num, ws_field, ws_add, ws_sub, ws_mul, ws_eq, ws_lt, ws_gt, ws_le, ws_ge, ws_and, ws_or, ws_not, rInTab, rIxTab, rCatH, rCat, rInT, cSortD, cMaxL, cMinL, rNeNilI, inV, flatV, List.any_cons, List.any_nil, List.all_cons, List.all_nil, eqV, Bool.and_true, Bool.and_false, Bool.true_and, Bool.false_and, Bool.or_false, Bool.false_or, Bool.or_true, Bool.true_or, Wd.beq_s, sz0, sz1, sz2, sz3, sz4, sz5, sz6, isc_eq, isc_lt, isc_gt, isc_le, isc_ge, isc_and, isc_or, isc_not, isl_and, isl_or, isl_not, rSetD, rUnion, rSortTx, rRep, hh]
              refine ⟨x0, hx0, y0, hy0, hp.2.1, hp.2.2.1, hp.2.2.2.2.2.1, ?_, Same.refl _⟩
              rw [ft]
              simp only [stepC, ht0, if_true, if_neg hh]
          rintro σ' H5 ⟨a', c', u', z', x', y', rfl, ha', hx', hy', hc', ok1, ok2, dp, ft', s5⟩
          have D5 : DBg gO H5 d es := D4.same s5
          have k5 : Keep [d] H1 H5 := k4.trans (Keep.ofSame s5)
          simp only [tVar, tC, tOp, rI, rI0, rU, tTest, tB, tAnd, tOr, tNot, tAndV, tOrV, tNotV, tIf, tNil, tCons, tTup, tLst, tCB, tSeq, tAsg, gName, tRet, tRetN, tIfS, tNext, tDrop, tCall, tUn, tPar, CMul, CDiv, V.int.injEq, V.bl.injEq, V.ref.injEq, V.str.injEq, Option.some.injEq, List.cons.injEq, and_true, true_and, and_false, false_and, or_false, false_or, or_true, true_or, exists_eq_left', exists_eq_left, exists_and_left, exists_and_right, exists_eq', exists_eq, exists_false, exists_const, List.getElem?_cons_succ, List.getElem?_cons_zero, List.set_cons_succ, List.set_cons_zero, List.length_cons, List.length_nil, List.cons_append, List.nil_append, List.append_nil, reduceCtorEq, Int.reduceLT, Int.reduceLE, Int.reduceNeg, Int.reducePow, Int.reduceSub, Int.reduceAdd, Nat.reduceAdd, Nat.reduceLeDiff, Bool.not_true, Bool.not_false, decide_true, decide_false, Bool.false_eq_true, ↓reduceIte, upd_same, not_true_eq_false, not_false_eq_true, lsO_l, lsO_f, tpO_t, tpO_f, dkO_d, dkO_f, keyO_i, keyO_s, rIxH, rIxU, cLenL, cLenT, cListL, cListT, cTupL, cIntB, cAll, rEqNilI, rEq, rNe, scal_ii, scal_ss, scal_bb, scal_nn, scal_ni, scal_in, scal_ns, scal_sn, gSub, rSetL, ixs0, ixs1, ixs2, seq0, at0, at1, at2, at3, tBM, tBM0, rAppend, rPopAt, tyV_list, tGet2, tGetI, sPut, tMG, rTIdx, tyTup, tTupF, cx_K, cx_w, ex_map_int, ex_nil_int, ex_cons_int, List.map_cons, List.map_nil, List.isEmpty_nil, List.isEmpty_cons, List.eraseIdx_zero, List.tail_cons, List.eraseIdx_cons_zero, HO.lst.injEq, HO.tup.injEq, HO.dK.injEq, HO.frz.injEq, ne_eq, gTupH, gCons, gNil, wipe, tYes, upd_upd, and_assoc, List.getElem?_map, Option.map_some, isn_non_bool, isn_non_int, isn_non_str, isn_non_tuple, isn_non_list, isn_non_dict, isn_bl_bool, isn_bl_int, isn_bl_str, isn_bl_tuple, isn_bl_list, isn_bl_dict, isn_int_bool, isn_int_int, isn_int_str, isn_int_tuple, isn_int_list, isn_int_dict, isn_str_bool, isn_str_int, isn_str_str, isn_str_tuple, isn_str_list, isn_str_dict, isn_lst_bool, isn_lst_int, isn_lst_str, isn_lst_tuple, isn_lst_list, isn_lst_dict, isn_tup_bool, isn_tup_int, isn_tup_str, isn_tup_tuple, isn_tup_list, isn_tup_dict, isn_dct_bool, isn_dct_int, isn_dct_str, isn_dct_tuple, isn_dct_list, isn_dct_dict, okn_bool, okn_int, okn_str, okn_tuple, okn_list, okn_dict, cIsi, tyT_n, tyT_b, tyT_i, tyT_s, tyT_r, V.ty.injEq, tSl, tPart, tNoPart, rSlF, gName, List.length_map, Int.reduceToNat, cpow18, Wd.s_inj, ws_num, ws_field, ws_add, ws_sub, ws_mul, ws_eq, ws_lt, ws_gt, ws_le, ws_ge, ws_and, ws_or, ws_not, rInTab, rIxTab, rCatH, rCat, rInT, cSortD, cMaxL, cMinL, rNeNilI, inV, flatV, List.any_cons, List.any_nil, List.all_cons, List.all_nil, eqV, Bool.and_true, Bool.and_false, Bool.true_and, Bool.false_and, Bool.or_false, Bool.false_or, Bool.or_true, Bool.true_or, Wd.beq_s, sz0, sz1, sz2, sz3, sz4, sz5, sz6, isc_eq, isc_lt, isc_gt, isc_le, isc_ge, isc_and, isc_or, isc_not, isl_and, isl_or, isl_not, rSetD, rUnion, rSortTx, rRep, ha', hc']
          refine sl_eqF hx' ok1 dp ht fun H6 s6 => ?_
          have ha6 := s6 _ _ ha'
          have D6 : DBg gO H6 d es := D5.same s6
          have k6 : Keep [d] H1 H6 := k5.trans (Keep.ofSame s6)
          have hy6 := hy'.tups (TupS.ofSame s6)
          have hx6 := hx'.tups (TupS.ofSame s6)
          cases hf : isF t x' with
          | false =>
            simp only [tVar, tC, tOp, rI, rI0, rU, tTest, tB, tAnd, tOr, tNot, tAndV, tOrV, tNotV, tIf, tNil, tCons, tTup, tLst, tCB, tSeq, tAsg, gName, tRet, tRetN, tIfS, tNext, tDrop, tCall, tUn, tPar, CMul, CDiv, V.int.injEq, V.bl.injEq, V.ref.injEq, V.str.injEq, Option.some.injEq, List.cons.injEq, and_true, true_and, and_false, false_and, or_false, false_or, or_true, true_or, exists_eq_left', exists_eq_left, exists_and_left, exists_and_right, exists_eq', exists_eq, exists_false, exists_const, List.getElem?_cons_succ, List.getElem?_cons_zero, List.set_cons_succ, List.set_cons_zero, List.length_cons, List.length_nil, List.cons_append, List.nil_append, List.append_nil, reduceCtorEq, Int.reduceLT, Int.reduceLE, Int.reduceNeg, Int.reducePow, Int.reduceSub, Int.reduceAdd, Nat.reduceAdd, Nat.reduceLeDiff, Bool.not_true, Bool.not_false, decide_true, decide_false, Bool.false_eq_true, ↓reduceIte, upd_same, not_true_eq_false, not_false_eq_true, lsO_l, lsO_f, tpO_t, tpO_f, dkO_d, dkO_f, keyO_i, keyO_s, rIxH, rIxU, cLenL, cLenT, cListL, cListT, cTupL, cIntB, cAll, rEqNilI, rEq, rNe, scal_ii, scal_ss, scal_bb, scal_nn, scal_ni, scal_in, scal_ns, scal_sn, gSub, rSetL, ixs0, ixs1, ixs2, seq0, at0, at1, at2, at3, tBM, tBM0, rAppend, rPopAt, tyV_list, tGet2, tGetI, sPut, tMG, rTIdx, tyTup, tTupF, cx_K, cx_w, ex_map_int, ex_nil_int, ex_cons_int, List.map_cons, List.map_nil, List.isEmpty_nil, List.isEmpty_cons, List.eraseIdx_zero, List.tail_cons, List.eraseIdx_cons_zero, HO.lst.injEq, HO.tup.injEq, HO.dK.injEq, HO.frz.injEq, ne_eq, gTupH, gCons, gNil, wipe, tYes, upd_upd, and_assoc, List.getElem?_map, Option.map_some, isn_non_bool, isn_non_int, isn_non_str, isn_non_tuple, isn_non_list, isn_non_dict, isn_bl_bool, isn_bl_int, isn_bl_str, isn_bl_tuple, isn_bl_list, isn_bl_dict, isn_int_bool, isn_int_int, isn_int_str, isn_int_tuple, isn_int_list, isn_int_dict, isn_str_bool, isn_str_int, isn_str_str, isn_str_tuple, isn_str_list, isn_str_dict, isn_lst_bool, isn_lst_int, isn_lst_str, isn_lst_tuple, isn_lst_list, isn_lst_dict, isn_tup_bool, isn_tup_int, isn_tup_str, isn_tup_tuple, isn_tup_list, isn_tup_dict, isn_dct_bool, isn_dct_int, isn_dct_str, isn_dct_tuple, isn_dct_list, isn_dct_dict, okn_bool, okn_int, okn_str, okn_tuple, okn_list, okn_dict, cIsi, tyT_n, tyT_b, tyT_i, tyT_s, tyT_r, V.ty.injEq, tSl, tPart, tNoPart, rSlF, gName, List.length_map, Int.reduceToNat, cpow18, Wd.s_inj, ws_num, ws_field, ws_add, ws_sub, ws_mul, ws_eq, ws_lt, ws_gt, ws_le, ws_ge, ws_and, ws_or, ws_not, rInTab, rIxTab, rCatH, rCat, rInT, cSortD, cMaxL, cMinL, rNeNilI, inV, flatV, List.any_cons, List.any_nil, List.all_cons, List.all_nil, eqV, Bool.and_true, Bool.and_false, Bool.true_and, Bool.false_and, Bool.or_false, Bool.false_or, Bool.or_true, Bool.true_or, Wd.beq_s, sz0, sz1, sz2, sz3, sz4, sz5, sz6, isc_eq, isc_lt, isc_gt, isc_le, isc_ge, isc_and, isc_or, isc_not, isl_and, isl_or, isl_not, rSetD, rUnion, rSortTx, rRep]
            rw [step2_no1 hf] at ft'
            exact ⟨es, ft', by omega, D6, k6⟩
          | true =>
            obtain ⟨f, rfl⟩ := isF_fld hf
            obtain ⟨az, rz, rfl, hz⟩ := hy6.headed
            simp only [tVar, tC, tOp, rI, rI0, rU, tTest, tB, tAnd, tOr, tNot, tAndV, tOrV, tNotV, tIf, tNil, tCons, tTup, tLst, tCB, tSeq, tAsg, gName, tRet, tRetN, tIfS, tNext, tDrop, tCall, tUn, tPar, CMul, CDiv, V.int.injEq, V.bl.injEq, V.ref.injEq, V.str.injEq, Option.some.injEq, List.cons.injEq, and_true, true_and, and_false, false_and, or_false, false_or, or_true, true_or, exists_eq_left', exists_eq_left, exists_and_left, exists_and_right, exists_eq', exists_eq, exists_false, exists_const, List.getElem?_cons_succ, List.getElem?_cons_zero, List.set_cons_succ, List.set_cons_zero, List.length_cons, List.length_nil, List.cons_append, List.nil_append, List.append_nil, reduceCtorEq, Int.reduceLT, Int.reduceLE, Int.reduceNeg, Int.reducePow, Int.reduceSub, Int.reduceAdd, Nat.reduceAdd, Nat.reduceLeDiff, Bool.not_true, Bool.not_false, decide_true, decide_false, Bool.false_eq_true, ↓reduceIte, upd_same, not_true_eq_false, not_false_eq_true, lsO_l, lsO_f, tpO_t, tpO_f, dkO_d, dkO_f, keyO_i, keyO_s, rIxH, rIxU, cLenL, cLenT, cListL, cListT, cTupL, cIntB, cAll, rEqNilI, rEq, rNe, scal_ii, scal_ss, scal_bb, scal_nn, scal_ni, scal_in, scal_ns, scal_sn, gSub, rSetL, ixs0, ixs1, ixs2, seq0, at0, at1, at2, at3, tBM, tBM0, rAppend, rPopAt, tyV_list, tGet2, tGetI, sPut, tMG, rTIdx, tyTup, tTupF, cx_K, cx_w, ex_map_int, ex_nil_int, ex_cons_int, List.map_cons, List.map_nil, List.isEmpty_nil, List.isEmpty_cons, List.eraseIdx_zero, List.tail_cons, List.eraseIdx_cons_zero, HO.lst.injEq, HO.tup.injEq, HO.dK.injEq, HO.frz.injEq, ne_eq, gTupH, gCons, gNil, wipe, tYes, upd_upd, and_assoc, List.getElem?_map, Option.map_some, isn_non_bool, isn_non_int, isn_non_str, isn_non_tuple, isn_non_list, isn_non_dict, isn_bl_bool, isn_bl_int, isn_bl_str, isn_bl_tuple, isn_bl_list, isn_bl_dict, isn_int_bool, isn_int_int, isn_int_str, isn_int_tuple, isn_int_list, isn_int_dict, isn_str_bool, isn_str_int, isn_str_str, isn_str_tuple, isn_str_list, isn_str_dict, isn_lst_bool, isn_lst_int, isn_lst_str, isn_lst_tuple, isn_lst_list, isn_lst_dict, isn_tup_bool, isn_tup_int, isn_tup_str, isn_tup_tuple, isn_tup_list, isn_tup_dict, isn_dct_bool, isn_dct_int, isn_dct_str, isn_dct_tuple, isn_dct_list, isn_dct_dict, okn_bool, okn_int, okn_str, okn_tuple, okn_list, okn_dict, cIsi, tyT_n, tyT_b, tyT_i, tyT_s, tyT_r, V.ty.injEq, tSl, tPart, tNoPart, rSlF, gName, List.length_map, Int.reduceToNat, cpow18, Wd.s_inj, ws_num, ws_field, ws_add, ws_sub, ws_mul, ws_eq, ws_lt, ws_gt, ws_le, ws_ge, ws_and, ws_or, ws_not, rInTab, rIxTab, rCatH, rCat, rInT, cSortD, cMaxL, cMinL, rNeNilI, inV, flatV, List.any_cons, List.any_nil, List.all_cons, List.all_nil, eqV, Bool.and_true, Bool.and_false, Bool.true_and, Bool.false_and, Bool.or_false, Bool.false_or, Bool.or_true, Bool.true_or, Wd.beq_s, sz0, sz1, sz2, sz3, sz4, sz5, sz6, isc_eq, isc_lt, isc_gt, isc_le, isc_ge, isc_and, isc_or, isc_not, isl_and, isl_or, isl_not, rSetD, rUnion, rSortTx, rRep, ha6, hz]
            by_cases hh : y'.head = .num
            · obtain ⟨n, rfl⟩ := head_num ok2 hh
              obtain ⟨ax, rfl, hax⟩ := hx6
              obtain ⟨_, ez, hz'⟩ := hy6
              cases ez
              have hd6 := D6.at_
              simp only [tVar, tC, tOp, rI, rI0, rU, tTest, tB, tAnd, tOr, tNot, tAndV, tOrV, tNotV, tIf, tNil, tCons, tTup, tLst, tCB, tSeq, tAsg, gName, tRet, tRetN, tIfS, tNext, tDrop, tCall, tUn, tPar, CMul, CDiv, V.int.injEq, V.bl.injEq, V.ref.injEq, V.str.injEq, Option.some.injEq, List.cons.injEq, and_true, true_and, and_false, false_and, or_false, false_or, or_true, true_or, exists_eq_left', exists_eq_left, exists_and_left, exists_and_right, exists_eq', exists_eq, exists_false, exists_const, List.getElem?_cons_succ, List.getElem?_cons_zero, List.set_cons_succ, List.set_cons_zero, List.length_cons, List.length_nil, List.cons_append, List.nil_append, List.append_nil, reduceCtorEq, Int.reduceLT, Int.reduceLE, Int.reduceNeg, Int.reducePow, Int.reduceSub, Int.reduceAdd, Nat.reduceAdd, Nat.reduceLeDiff, Bool.not_true, Bool.not_false, decide_true, decide_false, Bool.false_eq_true, ↓reduceIte, upd_same, not_true_eq_false, not_false_eq_true, lsO_l, lsO_f, tpO_t, tpO_f, dkO_d, dkO_f, keyO_i, keyO_s, rIxH, rIxU, cLenL, cLenT, cListL, cListT, cTupL, cIntB, cAll, rEqNilI, rEq, rNe, scal_ii, scal_ss, scal_bb, scal_nn, scal_ni, scal_in, scal_ns, scal_sn, gSub, rSetL, ixs0, ixs1, ixs2, seq0, at0, at1, at2, at3, tBM, tBM0, rAppend, rPopAt, tyV_list, tGet2, tGetI, sPut, tMG, rTIdx, tyTup, tTupF, cx_K, cx_w, ex_map_int, ex_nil_int, ex_cons_int, List.map_cons, List.map_nil, List.isEmpty_nil, List.isEmpty_cons, List.eraseIdx_zero, List.tail_cons, List.eraseIdx_cons_zero, HO.lst.injEq, HO.tup.injEq, HO.dK.injEq, HO.frz.injEq, ne_eq, gTupH, gCons, gNil, wipe, tYes, upd_upd, and_assoc, List.getElem?_map, Option.map_some, isn_non_bool, isn_non_int, isn_non_str, isn_non_tuple, isn_non_list, isn_non_dict, isn_bl_bool, isn_bl_int, isn_bl_str, isn_bl_tuple, isn_bl_list, isn_bl_dict, isn_int_bool, isn_int_int, isn_int_str, isn_int_tuple, isn_int_list, isn_int_dict, isn_str_bool, isn_str_int, isn_str_str, isn_str_tuple, isn_str_list, isn_str_dict, isn_lst_bool, isn_lst_int, isn_lst_str, isn_lst_tuple, isn_lst_list, isn_lst_dict, isn_tup_bool, isn_tup_int, isn_tup_str, isn_tup_tuple, isn_tup_list, isn_tup_dict, isn_dct_bool, isn_dct_int, isn_dct_str, isn_dct_tuple, isn_dct_list, isn_dct_dict, okn_bool, okn_int, okn_str, okn_tuple, okn_list, okn_dict, cIsi, tyT_n, tyT_b, tyT_i, tyT_s, tyT_r, V.ty.injEq, tSl, tPart, tNoPart, rSlF, gName, List.length_map, Int.reduceToNat, cpow18, Wd.s_inj, ws_num, ws_field, ws_add, ws_sub, ws_mul, ws_eq, ws_lt, ws_gt, ws_le, ws_ge, ws_and, ws_or, ws_not, rInTab, rIxTab, rCatH, rCat, rInT, cSortD, cMaxL, cMinL, rNeNilI, inV, flatV, List.any_cons, List.any_nil, List.all_cons, List.all_nil, eqV, Bool.and_true, Bool.and_false, Bool.true_and, Bool.false_and, Bool.or_false, Bool.false_or, Bool.or_true, Bool.true_or, Wd.beq_s, sz0, sz1, sz2, sz3, sz4, sz5, sz6, isc_eq, isc_lt, isc_gt, isc_le, isc_ge, isc_and, isc_or, isc_not, isl_and, isl_or, isl_not, rSetD, rUnion, rSortTx, rRep, hh, hax, hz', hd6]
              intro q hq
              have sq := same_new (o := .tup [V.non, V.non]) hq
              have D7 := D6.same sq
              obtain ⟨sa, hsa, tsa⟩ : ∃ sa, (valV (es.map ent) (Sum.inr f : Key)).getD (V.ref q) = .ref sa ∧ upd H6 q (.tup [.non, .non]) sa = some (.tup [oi (lookS (es.map dr) f).1, oi (lookS (es.map dr) f).2]) := by
                rcases look_ent es f with ⟨l1, l2⟩ | ⟨e, he, l1, l2, l3⟩
                · rw [l1, l2]; exact ⟨q, rfl, upd_same⟩
                · rw [l1, l2]; exact ⟨e.2.1, rfl, sq _ _ (D6.tups e he)⟩
              have hd7 := D7.at_
              have ha7 := sq _ _ ha6
              have hz7 := sq _ _ hz'
              simp only [tVar, tC, tOp, rI, rI0, rU, tTest, tB, tAnd, tOr, tNot, tAndV, tOrV, tNotV, tIf, tNil, tCons, tTup, tLst, tCB, tSeq, tAsg, gName, tRet, tRetN, tIfS, tNext, tDrop, tCall, tUn, tPar, CMul, CDiv, V.int.injEq, V.bl.injEq, V.ref.injEq, V.str.injEq, Option.some.injEq, List.cons.injEq, and_true, true_and, and_false, false_and, or_false, false_or, or_true, true_or, exists_eq_left', exists_eq_left, exists_and_left, exists_and_right, exists_eq', exists_eq, exists_false, exists_const, List.getElem?_cons_succ, List.getElem?_cons_zero, List.set_cons_succ, List.set_cons_zero, List.length_cons, List.length_nil, List.cons_append, List.nil_append, List.append_nil, reduceCtorEq, Int.reduceLT, Int.reduceLE, Int.reduceNeg, Int.reducePow, Int.reduceSub, Int.reduceAdd, Nat.reduceAdd, Nat.reduceLeDiff, Bool.not_true, Bool.not_false, decide_true, decide_false, Bool.false_eq_true, ↓reduceIte, upd_same, not_true_eq_false, not_false_eq_true, lsO_l, lsO_f, tpO_t, tpO_f, dkO_d, dkO_f, keyO_i, keyO_s, rIxH, rIxU, cLenL, cLenT, cListL, cListT, cTupL, cIntB, cAll, rEqNilI, rEq, rNe, scal_ii, scal_ss, scal_bb, scal_nn, scal_ni, scal_in, scal_ns, scal_sn, gSub, rSetL, ixs0, ixs1, ixs2, seq0, at0, at1, at2, at3, tBM, tBM0, rAppend, rPopAt, tyV_list, tGet2, tGetI, sPut, tMG, rTIdx, tyTup, tTupF, cx_K, cx_w, ex_map_int, ex_nil_int, ex_cons_int, List.map_cons, List.map_nil, List.isEmpty_nil, List.isEmpty_cons, List.eraseIdx_zero, List.tail_cons, List.eraseIdx_cons_zero, HO.lst.injEq, HO.tup.injEq, HO.dK.injEq, HO.frz.injEq, ne_eq, gTupH, gCons, gNil, wipe, tYes, upd_upd, and_assoc, List.getElem?_map, Option.map_some, isn_non_bool, isn_non_int, isn_non_str, isn_non_tuple, isn_non_list, isn_non_dict, isn_bl_bool, isn_bl_int, isn_bl_str, isn_bl_tuple, isn_bl_list, isn_bl_dict, isn_int_bool, isn_int_int, isn_int_str, isn_int_tuple, isn_int_list, isn_int_dict, isn_str_bool, isn_str_int, isn_str_str, isn_str_tuple, isn_str_list, isn_str_dict, isn_lst_bool, isn_lst_int, isn_lst_str, isn_lst_tuple, isn_lst_list, isn_lst_dict, isn_tup_bool, isn_tup_int, isn_tup_str, isn_tup_tuple, isn_tup_list, isn_tup_dict, isn_dct_bool, isn_dct_int, isn_dct_str, isn_dct_tuple, isn_dct_list, isn_dct_dict, okn_bool, okn_int, okn_str, okn_tuple, okn_list, okn_dict, cIsi, tyT_n, tyT_b, tyT_i, tyT_s, tyT_r, V.ty.injEq, tSl, tPart, tNoPart, rSlF, gName, List.length_map, Int.reduceToNat, cpow18, Wd.s_inj, ws_num, ws_field, ws_add, ws_sub, ws_mul, ws_eq, ws_lt, ws_gt, ws_le, ws_ge, ws_and, ws_or, ws_not, rInTab, rIxTab, rCatH, rCat, rInT, cSortD, cMaxL, cMinL, rNeNilI, inV, flatV, List.any_cons, List.any_nil, List.all_cons, List.all_nil, eqV, Bool.and_true, Bool.and_false, Bool.true_and, Bool.false_and, Bool.or_false, Bool.false_or, Bool.or_true, Bool.true_or, Wd.beq_s, sz0, sz1, sz2, sz3, sz4, sz5, sz6, isc_eq, isc_lt, isc_gt, isc_le, isc_ge, isc_and, isc_or, isc_not, isl_and, isl_or, isl_not, rSetD, rUnion, rSortTx, rRep, hd7, hsa, ha7, hz7]
              refine ⟨c', n, rfl, hc', fun p2 H8 s8 h8 => ?_⟩
              simp only [tVar, tC, tOp, rI, rI0, rU, tTest, tB, tAnd, tOr, tNot, tAndV, tOrV, tNotV, tIf, tNil, tCons, tTup, tLst, tCB, tSeq, tAsg, gName, tRet, tRetN, tIfS, tNext, tDrop, tCall, tUn, tPar, CMul, CDiv, V.int.injEq, V.bl.injEq, V.ref.injEq, V.str.injEq, Option.some.injEq, List.cons.injEq, and_true, true_and, and_false, false_and, or_false, false_or, or_true, true_or, exists_eq_left', exists_eq_left, exists_and_left, exists_and_right, exists_eq', exists_eq, exists_false, exists_const, List.getElem?_cons_succ, List.getElem?_cons_zero, List.set_cons_succ, List.set_cons_zero, List.length_cons, List.length_nil, List.cons_append, List.nil_append, List.append_nil, reduceCtorEq, Int.reduceLT, Int.reduceLE, Int.reduceNeg, Int.reducePow, Int.reduceSub, Int.reduceAdd, Nat.reduceAdd, Nat.reduceLeDiff, Bool.not_true, Bool.not_false, decide_true, decide_false, Bool.false_eq_true, ↓reduceIte, upd_same, not_true_eq_false, not_false_eq_true, lsO_l, lsO_f, tpO_t, tpO_f, dkO_d, dkO_f, keyO_i, keyO_s, rIxH, rIxU, cLenL, cLenT, cListL, cListT, cTupL, cIntB, cAll, rEqNilI, rEq, rNe, scal_ii, scal_ss, scal_bb, scal_nn, scal_ni, scal_in, scal_ns, scal_sn, gSub, rSetL, ixs0, ixs1, ixs2, seq0, at0, at1, at2, at3, tBM, tBM0, rAppend, rPopAt, tyV_list, tGet2, tGetI, sPut, tMG, rTIdx, tyTup, tTupF, cx_K, cx_w, ex_map_int, ex_nil_int, ex_cons_int, List.map_cons, List.map_nil, List.isEmpty_nil, List.isEmpty_cons, List.eraseIdx_zero, List.tail_cons, List.eraseIdx_cons_zero, HO.lst.injEq, HO.tup.injEq, HO.dK.injEq, HO.frz.injEq, ne_eq, gTupH, gCons, gNil, wipe, tYes, upd_upd, and_assoc, List.getElem?_map, Option.map_some, isn_non_bool, isn_non_int, isn_non_str, isn_non_tuple, isn_non_list, isn_non_dict, isn_bl_bool, isn_bl_int, isn_bl_str, isn_bl_tuple, isn_bl_list, isn_bl_dict, isn_int_bool, isn_int_int, isn_int_str, isn_int_tuple, isn_int_list, isn_int_dict, isn_str_bool, isn_str_int, isn_str_str, isn_str_tuple, isn_str_list, isn_str_dict, isn_lst_bool, isn_lst_int, isn_lst_str, isn_lst_tuple, isn_lst_list, isn_lst_dict, isn_tup_bool, isn_tup_int, isn_tup_str, isn_tup_tuple, isn_tup_list, isn_tup_dict, isn_dct_bool, isn_dct_int, isn_dct_str, isn_dct_tuple, isn_dct_list, isn_dct_dict, okn_bool, okn_int, okn_str, okn_tuple, okn_list, okn_dict, cIsi, tyT_n, tyT_b, tyT_i, tyT_s, tyT_r, V.ty.injEq, tSl, tPart, tNoPart, rSlF, gName, List.length_map, Int.reduceToNat, cpow18, Wd.s_inj, ws_num, ws_field, ws_add, ws_sub, ws_mul, ws_eq, ws_lt, ws_gt, ws_le, ws_ge, ws_and, ws_or, ws_not, rInTab, rIxTab, rCatH, rCat, rInT, cSortD, cMaxL, cMinL, rNeNilI, inV, flatV, List.any_cons, List.any_nil, List.all_cons, List.all_nil, eqV, Bool.and_true, Bool.and_false, Bool.true_and, Bool.false_and, Bool.or_false, Bool.false_or, Bool.or_true, Bool.true_or, Wd.beq_s, sz0, sz1, sz2, sz3, sz4, sz5, sz6, isc_eq, isc_lt, isc_gt, isc_le, isc_ge, isc_and, isc_or, isc_not, isl_and, isl_or, isl_not, rSetD, rUnion, rSortTx, rRep]
              refine ⟨sa, p2, lookS (es.map dr) f, spanOf c' n, rfl, s8 _ _ tsa, h8, fun p3 H9 s9 h9 => ?_⟩
              have D9 := (D7.same s8).same s9
              have hd9 := D9.at_
              simp only [tVar, tC, tOp, rI, rI0, rU, tTest, tB, tAnd, tOr, tNot, tAndV, tOrV, tNotV, tIf, tNil, tCons, tTup, tLst, tCB, tSeq, tAsg, gName, tRet, tRetN, tIfS, tNext, tDrop, tCall, tUn, tPar, CMul, CDiv, V.int.injEq, V.bl.injEq, V.ref.injEq, V.str.injEq, Option.some.injEq, List.cons.injEq, and_true, true_and, and_false, false_and, or_false, false_or, or_true, true_or, exists_eq_left', exists_eq_left, exists_and_left, exists_and_right, exists_eq', exists_eq, exists_false, exists_const, List.getElem?_cons_succ, List.getElem?_cons_zero, List.set_cons_succ, List.set_cons_zero, List.length_cons, List.length_nil, List.cons_append, List.nil_append, List.append_nil, reduceCtorEq, Int.reduceLT, Int.reduceLE, Int.reduceNeg, Int.reducePow, Int.reduceSub, Int.reduceAdd, Nat.reduceAdd, Nat.reduceLeDiff, Bool.not_true, Bool.not_false, decide_true, decide_false, Bool.false_eq_true, ↓reduceIte, upd_same, not_true_eq_false, not_false_eq_true, lsO_l, lsO_f, tpO_t, tpO_f, dkO_d, dkO_f, keyO_i, keyO_s, rIxH, rIxU, cLenL, cLenT, cListL, cListT, cTupL, cIntB, cAll, rEqNilI, rEq, rNe, scal_ii, scal_ss, scal_bb, scal_nn, scal_ni, scal_in, scal_ns, scal_sn, gSub, rSetL, ixs0, ixs1, ixs2, seq0, at0, at1, at2, at3, tBM, tBM0, rAppend, rPopAt, tyV_list, tGet2, tGetI, sPut, tMG, rTIdx, tyTup, tTupF, cx_K, cx_w, ex_map_int, ex_nil_int, ex_cons_int, List.map_cons, List.map_nil, List.isEmpty_nil, List.isEmpty_cons, List.eraseIdx_zero, List.tail_cons, List.eraseIdx_cons_zero, HO.lst.injEq, HO.tup.injEq, HO.dK.injEq, HO.frz.injEq, ne_eq, gTupH, gCons, gNil, wipe, tYes, upd_upd, and_assoc, List.getElem?_map, Option.map_some, isn_non_bool, isn_non_int, isn_non_str, isn_non_tuple, isn_non_list, isn_non_dict, isn_bl_bool, isn_bl_int, isn_bl_str, isn_bl_tuple, isn_bl_list, isn_bl_dict, isn_int_bool, isn_int_int, isn_int_str, isn_int_tuple, isn_int_list, isn_int_dict, isn_str_bool, isn_str_int, isn_str_str, isn_str_tuple, isn_str_list, isn_str_dict, isn_lst_bool, isn_lst_int, isn_lst_str, isn_lst_tuple, isn_lst_list, isn_lst_dict, isn_tup_bool, isn_tup_int, isn_tup_str, isn_tup_tuple, isn_tup_list, isn_tup_dict, isn_dct_bool, isn_dct_int, isn_dct_str, isn_dct_tuple, isn_dct_list, isn_dct_dict, okn_bool, okn_int, okn_str, okn_tuple, okn_list, okn_dict, cIsi, tyT_n, tyT_b, tyT_i, tyT_s, tyT_r, V.ty.injEq, tSl, tPart, tNoPart, rSlF, gName, List.length_map, Int.reduceToNat, cpow18, Wd.s_inj, ws_num, ws_field, ws_add, ws_sub, ws_mul, ws_eq, ws_lt, ws_gt, ws_le, ws_ge, ws_and, ws_or, ws_not, rInTab, rIxTab, rCatH, rCat, rInT, cSortD, cMaxL, cMinL, rNeNilI, inV, flatV, List.any_cons, List.any_nil, List.all_cons, List.all_nil, eqV, Bool.and_true, Bool.and_false, Bool.true_and, Bool.false_and, Bool.or_false, Bool.false_or, Bool.or_true, Bool.true_or, Wd.beq_s, sz0, sz1, sz2, sz3, sz4, sz5, sz6, isc_eq, isc_lt, isc_gt, isc_le, isc_ge, isc_and, isc_or, isc_not, isl_and, isl_or, isl_not, rSetD, rUnion, rSortTx, rRep, hd9]
              have okf : PyData.strOk f = true := by simp only [Tm.ok, Bool.and_eq_true] at ok1; exact ok1.2
              refine ⟨szl' (by omega), putE es f p3 (narrow (lookS (es.map dr) f) (spanOf c' n)), ?_, Nat.le_trans (putE_len ..) (by omega), D9.put (Same.refl _) h9 okf, (((k6.trans (Keep.ofSame sq)).trans (Keep.ofSame s8)).trans (Keep.ofSame s9)).upd (by simp)⟩
              rw [ft', step2_yes, putE_dr]
            · simp only [tVar, tC, tOp, rI, rI0, rU, tTest, tB, tAnd, tOr, tNot, tAndV, tOrV, tNotV, tIf, tNil, tCons, tTup, tLst, tCB, tSeq, tAsg, gName, tRet, tRetN, tIfS, tNext, tDrop, tCall, tUn, tPar, CMul, CDiv, V.int.injEq, V.bl.injEq, V.ref.injEq, V.str.injEq, Option.some.injEq, List.cons.injEq, and_true, true_and, and_false, false_and, or_false, false_or, or_true, true_or, exists_eq_left', exists_eq_left, exists_and_left, exists_and_right, exists_eq', exists_eq, exists_false, exists_const, List.getElem?_cons_succ, List.getElem?_cons_zero, List.set_cons_succ, List.set_cons_zero, List.length_cons, List.length_nil, List.cons_append, List.nil_append, List.append_nil, reduceCtorEq, Int.reduceLT, Int.reduceLE, Int.reduceNeg, Int.reducePow, Int.reduceSub, Int.reduceAdd, Nat.reduceAdd, Nat.reduceLeDiff, Bool.not_true, Bool.not_false, decide_true, decide_false, Bool.false_eq_true, ↓reduceIte, upd_same, not_true_eq_false, not_false_eq_true, lsO_l, lsO_f, tpO_t, tpO_f, dkO_d, dkO_f, keyO_i, keyO_s, rIxH, rIxU, cLenL, cLenT, cListL, cListT, cTupL, cIntB, cAll, rEqNilI, rEq, rNe, scal_ii, scal_ss, scal_bb, scal_nn, scal_ni, scal_in, scal_ns, scal_sn, gSub, rSetL, ixs0, ixs1, ixs2, seq0, at0, at1, at2, at3, tBM, tBM0, rAppend, rPopAt, tyV_list, tGet2, tGetI, sPut, tMG, rTIdx, tyTup, tTupF, cx_K, cx_w, ex_map_int, ex_nil_int, ex_cons_int, List.map_cons, List.map_nil, List.isEmpty_nil, List.isEmpty_cons, List.eraseIdx_zero, List.tail_cons, List.eraseIdx_cons_zero, HO.lst.injEq, HO.tup.injEq, HO.dK.injEq, HO.frz.injEq, ne_eq, gTupH, gCons, gNil, wipe, tYes, upd_upd, and_assoc, List.getElem?_map, Option.map_some, isn_non_bool, isn_non_int, isn_non_str, isn_non_tuple, isn_non_list, isn_non_dict, isn_bl_bool, isn_bl_int, isn_bl_str, isn_bl_tuple, isn_bl_list, isn_bl_dict, isn_int_bool, isn_int_int, isn_int_str, isn_int_tuple, isn_int_list, isn_int_dict, isn_str_bool, isn_str_int, isn_str_str, isn_str_tuple, isn_str_list, isn_str_dict, isn_lst_bool, isn_lst_int, isn_lst_str, isn_lst_tuple, isn_lst_list, isn_lst_dict, isn_tup_bool, isn_tup_int, isn_tup_str, isn_tup_tuple, isn_tup_list, isn_tup_dict, isn_dct_bool, isn_dct_int, isn_dct_str, isn_dct_tuple, isn_dct_list, isn_dct_dict, okn_bool, okn_int, okn_str, okn_tuple, okn_list, okn_dict, cIsi, tyT_n, tyT_b, tyT_i, tyT_s, tyT_r, V.ty.injEq, tSl, tPart, tNoPart, rSlF, gName, List.length_map, Int.reduceToNat, cpow18, Wd.s_inj, ws_num, ws_field, ws_add, ws_sub, ws_mul, ws_eq, ws_lt, ws_gt, ws_le, ws_ge, ws_and, ws_or, ws_not, rInTab, rIxTab, rCatH, rCat, rInT, cSortD, cMaxL, cMinL, rNeNilI, inV, flatV, List.any_cons, List.any_nil, List.all_cons, List.all_nil, eqV, Bool.and_true, Bool.and_false, Bool.true_and, Bool.false_and, Bool.or_false, Bool.false_or, Bool.or_true, Bool.true_or, Wd.beq_s, sz0, sz1, sz2, sz3, sz4, sz5, sz6, isc_eq, isc_lt, isc_gt, isc_le, isc_ge, isc_and, isc_or, isc_not, isl_and, isl_or, isl_not, rSetD, rUnion, rSortTx, rRep, hh]
              rw [step2_no2 hh] at ft'
              exact ⟨es, ft', by omega, D6, k6⟩
      · rintro σ H2 ⟨es, x3, x4, rfl, fo, el, D, k2⟩
        rw [List.length_map] at el fo
        rw [List.take_of_length_le (by omega)] at fo
        exact ⟨⟨x3, x4, rfl⟩, es, fo, by omega, D, keepS k2⟩
    rintro σ' H1 ⟨es, x3, x4, rfl, fo, el, D, S1⟩
    have bm := boundsM_some fo
    refine ⟨fun σ' H2 => σ' = [some v, some (.str t), some (.ref d), x3, x4] ∧ DBg gO H2 d es ∧ Same H H2 ∧ (es.any fun e => emptyS e.2.2) = false, ?_, ?_⟩
    · simp only [tVar, tC, tOp, rI, rI0, rU, tTest, tB, tAnd, tOr, tNot, tAndV, tOrV, tNotV, tIf, tNil, tCons, tTup, tLst, tCB, tSeq, tAsg, gName, tRet, tRetN, tIfS, tNext, tDrop, tCall, tUn, tPar, CMul, CDiv, V.int.injEq, V.bl.injEq, V.ref.injEq, V.str.injEq, Option.some.injEq, List.cons.injEq, and_true, true_and, and_false, false_and, or_false, false_or, or_true, true_or, exists_eq_left', exists_eq_left, exists_and_left, exists_and_right, exists_eq', exists_eq, exists_false, exists_const, List.getElem?_cons_succ, List.getElem?_cons_zero, List.set_cons_succ, List.set_cons_zero, List.length_cons, List.length_nil, List.cons_append, List.nil_append, List.append_nil, reduceCtorEq, Int.reduceLT, Int.reduceLE, Int.reduceNeg, Int.reducePow, Int.reduceSub, Int.reduceAdd, Nat.reduceAdd, Nat.reduceLeDiff, Bool.not_true, Bool.not_false, decide_true, decide_false, Bool.false_eq_true, ↓reduceIte, upd_same, not_true_eq_false, not_false_eq_true, lsO_l, lsO_f, tpO_t, tpO_f, dkO_d, dkO_f, keyO_i, keyO_s, rIxH, rIxU, cLenL, cLenT, cListL, cListT, cTupL, cIntB, cAll, rEqNilI, rEq, rNe, scal_ii, scal_ss, scal_bb, scal_nn, scal_ni, scal_in, scal_ns, scal_sn, gSub, rSetL, ixs0, ixs1, ixs2, seq0, at0, at1, at2, at3, tBM, tBM0, rAppend, rPopAt, tyV_list, tGet2, tGetI, sPut, tMG, rTIdx, tyTup, tTupF, cx_K, cx_w, ex_map_int, ex_nil_int, ex_cons_int, List.map_cons, List.map_nil, List.isEmpty_nil, List.isEmpty_cons, List.eraseIdx_zero, List.tail_cons, List.eraseIdx_cons_zero, HO.lst.injEq, HO.tup.injEq, HO.dK.injEq, HO.frz.injEq, ne_eq, gTupH, gCons, gNil, wipe, tYes, upd_upd, and_assoc, List.getElem?_map, Option.map_some, isn_non_bool, isn_non_int, isn_non_str, isn_non_tuple, isn_non_list, isn_non_dict, isn_bl_bool, isn_bl_int, isn_bl_str, isn_bl_tuple, isn_bl_list, isn_bl_dict, isn_int_bool, isn_int_int, isn_int_str, isn_int_tuple, isn_int_list, isn_int_dict, isn_str_bool, isn_str_int, isn_str_str, isn_str_tuple, isn_str_list, isn_str_dict, isn_lst_bool, isn_lst_int, isn_lst_str, isn_lst_tuple, isn_lst_list, isn_lst_dict, isn_tup_bool, isn_tup_int, isn_tup_str, isn_tup_tuple, isn_tup_list, isn_tup_dict, isn_dct_bool, isn_dct_int, isn_dct_str, isn_dct_tuple, isn_dct_list, isn_dct_dict, okn_bool, okn_int, okn_str, okn_tuple, okn_list, okn_dict, cIsi, tyT_n, tyT_b, tyT_i, tyT_s, tyT_r, V.ty.injEq, tSl, tPart, tNoPart, rSlF, gName, List.length_map, Int.reduceToNat, cpow18, Wd.s_inj, ws_num, ws_field, ws_add, ws_sub, ws_mul, ws_eq, ws_lt, ws_gt, ws_le, ws_ge, ws_and, ws_or, ws_not, rInTab, rIxTab, rCatH, rCat, rInT, cSortD, cMaxL, cMinL, rNeNilI, inV, flatV, List.any_cons, List.any_nil, List.all_cons, List.all_nil, eqV, Bool.and_true, Bool.and_false, Bool.true_and, Bool.false_and, Bool.or_false, Bool.false_or, Bool.or_true, Bool.true_or, Wd.beq_s, sz0, sz1, sz2, sz3, sz4, sz5, sz6, isc_eq, isc_lt, isc_gt, isc_le, isc_ge, isc_and, isc_or, isc_not, isl_and, isl_or, isl_not, rSetD, rUnion, rSortTx, rRep]
      refine ⟨d, _, D.at_, trivial, fun od => ?_⟩
      refine ⟨_, rfl, d, od, rfl, .inl ⟨_, upd_same, fun C hC => ?_⟩⟩
      have nCd : C ≠ d := fun e => by rw [e, upd_same] at hC; cases hC
      have hC1 : H1 C = none := by rw [upd_ne nCd] at hC; exact hC
      refine lc_it walk_keys (fun i H2 => H2 d = some (.frz od (.dK (es.map ent))) ∧ Keep [d] H1 H2 ∧ H2 C = some (.lst (((es.take i).filter fun e => emptyS e.2.2).map fun e => .str e.1))) ⟨?_, ?_, upd_same⟩ (fun i H2 _ p => p.1) ?_ ?_
      · rw [upd_ne nCd.symm, upd_same]
      · exact (Keep.upd Keep.refl (by simp)).updFree hC1
      · rintro i x H2 H3 hi ⟨p1, p2, p3⟩ ⟨rfl, k0, v0, hk, rfl⟩
        rw [List.length_map] at hi
        obtain ⟨e, he⟩ : ∃ e, es[i]? = some e := ⟨es[i], List.getElem?_eq_getElem hi⟩
        have hm : e ∈ es := List.mem_of_getElem? he
        rw [List.getElem?_map, he] at hk
        obtain ⟨rfl, rfl⟩ : (Sum.inr e.1 : Key) = k0 ∧ V.ref e.2.1 = v0 := by
          have q := Option.some.inj hk
          exact ⟨congrArg Prod.fst q, congrArg Prod.snd q⟩
        have t1 := p2 _ _ (by simpa using (ne_of (D.tups e hm) D.at_ (by intro z; cases z))) (D.tups e hm)
        have hv := val_ent D.nd hm
        simp only [tVar, tC, tOp, rI, rI0, rU, tTest, tB, tAnd, tOr, tNot, tAndV, tOrV, tNotV, tIf, tNil, tCons, tTup, tLst, tCB, tSeq, tAsg, gName, tRet, tRetN, tIfS, tNext, tDrop, tCall, tUn, tPar, CMul, CDiv, V.int.injEq, V.bl.injEq, V.ref.injEq, V.str.injEq, Option.some.injEq, List.cons.injEq, and_true, true_and, and_false, false_and, or_false, false_or, or_true, true_or, exists_eq_left', exists_eq_left, exists_and_left, exists_and_right, exists_eq', exists_eq, exists_false, exists_const, List.getElem?_cons_succ, List.getElem?_cons_zero, List.set_cons_succ, List.set_cons_zero, List.length_cons, List.length_nil, List.cons_append, List.nil_append, List.append_nil, reduceCtorEq, Int.reduceLT, Int.reduceLE, Int.reduceNeg, Int.reducePow, Int.reduceSub, Int.reduceAdd, Nat.reduceAdd, Nat.reduceLeDiff, Bool.not_true, Bool.not_false, decide_true, decide_false, Bool.false_eq_true, ↓reduceIte, upd_same, not_true_eq_false, not_false_eq_true, lsO_l, lsO_f, tpO_t, tpO_f, dkO_d, dkO_f, keyO_i, keyO_s, rIxH, rIxU, cLenL, cLenT, cListL, cListT, cTupL, cIntB, cAll, rEqNilI, rEq, rNe, scal_ii, scal_ss, scal_bb, scal_nn, scal_ni, scal_in, scal_ns, scal_sn, gSub, rSetL, ixs0, ixs1, ixs2, seq0, at0, at1, at2, at3, tBM, tBM0, rAppend, rPopAt, tyV_list, tGet2, tGetI, sPut, tMG, rTIdx, tyTup, tTupF, cx_K, cx_w, ex_map_int, ex_nil_int, ex_cons_int, List.map_cons, List.map_nil, List.isEmpty_nil, List.isEmpty_cons, List.eraseIdx_zero, List.tail_cons, List.eraseIdx_cons_zero, HO.lst.injEq, HO.tup.injEq, HO.dK.injEq, HO.frz.injEq, ne_eq, gTupH, gCons, gNil, wipe, tYes, upd_upd, and_assoc, List.getElem?_map, Option.map_some, isn_non_bool, isn_non_int, isn_non_str, isn_non_tuple, isn_non_list, isn_non_dict, isn_bl_bool, isn_bl_int, isn_bl_str, isn_bl_tuple, isn_bl_list, isn_bl_dict, isn_int_bool, isn_int_int, isn_int_str, isn_int_tuple, isn_int_list, isn_int_dict, isn_str_bool, isn_str_int, isn_str_str, isn_str_tuple, isn_str_list, isn_str_dict, isn_lst_bool, isn_lst_int, isn_lst_str, isn_lst_tuple, isn_lst_list, isn_lst_dict, isn_tup_bool, isn_tup_int, isn_tup_str, isn_tup_tuple, isn_tup_list, isn_tup_dict, isn_dct_bool, isn_dct_int, isn_dct_str, isn_dct_tuple, isn_dct_list, isn_dct_dict, okn_bool, okn_int, okn_str, okn_tuple, okn_list, okn_dict, cIsi, tyT_n, tyT_b, tyT_i, tyT_s, tyT_r, V.ty.injEq, tSl, tPart, tNoPart, rSlF, gName, List.length_map, Int.reduceToNat, cpow18, Wd.s_inj, ws_num, ws_field, ws_add, ws_sub, ws_mul, ws_eq, ws_lt, ws_gt, ws_le, ws_ge, ws_and, ws_or, ws_not, rInTab, rIxTab, rCatH, rCat, rInT, cSortD, cMaxL, cMinL, rNeNilI, inV, flatV, List.any_cons, List.any_nil, List.all_cons, List.all_nil, eqV, Bool.and_true, Bool.and_false, Bool.true_and, Bool.false_and, Bool.or_false, Bool.false_or, Bool.or_true, Bool.true_or, Wd.beq_s, sz0, sz1, sz2, sz3, sz4, sz5, sz6, isc_eq, isc_lt, isc_gt, isc_le, isc_ge, isc_and, isc_or, isc_not, isl_and, isl_or, isl_not, rSetD, rUnion, rSortTx, rRep, gName, kV, p1, hv]
        refine ⟨e.2.1, e.2.2.1, e.2.2.2, rfl, t1, ?_⟩
        have ef : ∀ b : Bool, emptyS e.2.2 = b → ((es.take (i + 1)).filter fun e => emptyS e.2.2) = ((es.take i).filter fun e => emptyS e.2.2) ++ (if b then [e] else []) := fun b hb => by
          rw [List.take_add_one, he, List.filter_append]
          congr 1
          show List.filter _ [e] = _
          rw [List.filter_cons, hb]
          rfl
        cases hb : emptyS e.2.2 with
        | false =>
          simp only [tVar, tC, tOp, rI, rI0, rU, tTest, tB, tAnd, tOr, tNot, tAndV, tOrV, tNotV, tIf, tNil, tCons, tTup, tLst, tCB, tSeq, tAsg, gName, tRet, tRetN, tIfS, tNext, tDrop, tCall, tUn, tPar, CMul, CDiv, V.int.injEq, V.bl.injEq, V.ref.injEq, V.str.injEq, Option.some.injEq, List.cons.injEq, and_true, true_and, and_false, false_and, or_false, false_or, or_true, true_or, exists_eq_left', exists_eq_left, exists_and_left, exists_and_right, exists_eq', exists_eq, exists_false, exists_const, List.getElem?_cons_succ, List.getElem?_cons_zero, List.set_cons_succ, List.set_cons_zero, List.length_cons, List.length_nil, List.cons_append, List.nil_append, List.append_nil, reduceCtorEq, Int.reduceLT, Int.reduceLE, Int.reduceNeg, Int.reducePow, Int.reduceSub, Int.reduceAdd, Nat.reduceAdd, Nat.reduceLeDiff, Bool.not_true, Bool.not_false, decide_true, decide_false, Bool.false_eq_true, ↓reduceIte, upd_same, not_true_eq_false, not_false_eq_true, lsO_l, lsO_f, tpO_t, tpO_f, dkO_d, dkO_f, keyO_i, keyO_s, rIxH, rIxU, cLenL, cLenT, cListL, cListT, cTupL, cIntB, cAll, rEqNilI, rEq, rNe, scal_ii, scal_ss, scal_bb, scal_nn, scal_ni, scal_in, scal_ns, scal_sn, gSub, rSetL, ixs0, ixs1, ixs2, seq0, at0, at1, at2, at3, tBM, tBM0, rAppend, rPopAt, tyV_list, tGet2, tGetI, sPut, tMG, rTIdx, tyTup, tTupF, cx_K, cx_w, ex_map_int, ex_nil_int, ex_cons_int, List.map_cons, List.map_nil, List.isEmpty_nil, List.isEmpty_cons, List.eraseIdx_zero, List.tail_cons, List.eraseIdx_cons_zero, HO.lst.injEq, HO.tup.injEq, HO.dK.injEq, HO.frz.injEq, ne_eq, gTupH, gCons, gNil, wipe, tYes, upd_upd, and_assoc, List.getElem?_map, Option.map_some, isn_non_bool, isn_non_int, isn_non_str, isn_non_tuple, isn_non_list, isn_non_dict, isn_bl_bool, isn_bl_int, isn_bl_str, isn_bl_tuple, isn_bl_list, isn_bl_dict, isn_int_bool, isn_int_int, isn_int_str, isn_int_tuple, isn_int_list, isn_int_dict, isn_str_bool, isn_str_int, isn_str_str, isn_str_tuple, isn_str_list, isn_str_dict, isn_lst_bool, isn_lst_int, isn_lst_str, isn_lst_tuple, isn_lst_list, isn_lst_dict, isn_tup_bool, isn_tup_int, isn_tup_str, isn_tup_tuple, isn_tup_list, isn_tup_dict, isn_dct_bool, isn_dct_int, isn_dct_str, isn_dct_tuple, isn_dct_list, isn_dct_dict, okn_bool, okn_int, okn_str, okn_tuple, okn_list, okn_dict, cIsi, tyT_n, tyT_b, tyT_i, tyT_s, tyT_r, V.ty.injEq, tSl, tPart, tNoPart, rSlF, gName, List.length_map, Int.reduceToNat, cpow18, Wd.s_inj, ws_num, ws_field, ws_add, ws_sub, ws_mul, ws_eq, ws_lt, ws_gt, ws_le, ws_ge, ws_and, ws_or, ws_not, rInTab, rIxTab, rCatH, rCat, rInT, cSortD, cMaxL, cMinL, rNeNilI, inV, flatV, List.any_cons, List.any_nil, List.all_cons, List.all_nil, eqV, Bool.and_true, Bool.and_false, Bool.true_and, Bool.false_and, Bool.or_false, Bool.false_or, Bool.or_true, Bool.true_or, Wd.beq_s, sz0, sz1, sz2, sz3, sz4, sz5, sz6, isc_eq, isc_lt, isc_gt, isc_le, isc_ge, isc_and, isc_or, isc_not, isl_and, isl_or, isl_not, rSetD, rUnion, rSortTx, rRep, ef false hb]
          exact ⟨p1, p2, p3⟩
        | true =>
          simp only [tVar, tC, tOp, rI, rI0, rU, tTest, tB, tAnd, tOr, tNot, tAndV, tOrV, tNotV, tIf, tNil, tCons, tTup, tLst, tCB, tSeq, tAsg, gName, tRet, tRetN, tIfS, tNext, tDrop, tCall, tUn, tPar, CMul, CDiv, V.int.injEq, V.bl.injEq, V.ref.injEq, V.str.injEq, Option.some.injEq, List.cons.injEq, and_true, true_and, and_false, false_and, or_false, false_or, or_true, true_or, exists_eq_left', exists_eq_left, exists_and_left, exists_and_right, exists_eq', exists_eq, exists_false, exists_const, List.getElem?_cons_succ, List.getElem?_cons_zero, List.set_cons_succ, List.set_cons_zero, List.length_cons, List.length_nil, List.cons_append, List.nil_append, List.append_nil, reduceCtorEq, Int.reduceLT, Int.reduceLE, Int.reduceNeg, Int.reducePow, Int.reduceSub, Int.reduceAdd, Nat.reduceAdd, Nat.reduceLeDiff, Bool.not_true, Bool.not_false, decide_true, decide_false, Bool.false_eq_true, ↓reduceIte, upd_same, not_true_eq_false, not_false_eq_true, lsO_l, lsO_f, tpO_t, tpO_f, dkO_d, dkO_f, keyO_i, keyO_s, rIxH, rIxU, cLenL, cLenT, cListL, cListT, cTupL, cIntB, cAll, rEqNilI, rEq, rNe, scal_ii, scal_ss, scal_bb, scal_nn, scal_ni, scal_in, scal_ns, scal_sn, gSub, rSetL, ixs0, ixs1, ixs2, seq0, at0, at1, at2, at3, tBM, tBM0, rAppend, rPopAt, tyV_list, tGet2, tGetI, sPut, tMG, rTIdx, tyTup, tTupF, cx_K, cx_w, ex_map_int, ex_nil_int, ex_cons_int, List.map_cons, List.map_nil, List.isEmpty_nil, List.isEmpty_cons, List.eraseIdx_zero, List.tail_cons, List.eraseIdx_cons_zero, HO.lst.injEq, HO.tup.injEq, HO.dK.injEq, HO.frz.injEq, ne_eq, gTupH, gCons, gNil, wipe, tYes, upd_upd, and_assoc, List.getElem?_map, Option.map_some, isn_non_bool, isn_non_int, isn_non_str, isn_non_tuple, isn_non_list, isn_non_dict, isn_bl_bool, isn_bl_int, isn_bl_str, isn_bl_tuple, isn_bl_list, isn_bl_dict, isn_int_bool, isn_int_int, isn_int_str, isn_int_tuple, isn_int_list, isn_int_dict, isn_str_bool, isn_str_int, isn_str_str, isn_str_tuple, isn_str_list, isn_str_dict, isn_lst_bool, isn_lst_int, isn_lst_str, isn_lst_tuple, isn_lst_list, isn_lst_dict, isn_tup_bool, isn_tup_int, isn_tup_str, isn_tup_tuple, isn_tup_list, isn_tup_dict, isn_dct_bool, isn_dct_int, isn_dct_str, isn_dct_tuple, isn_dct_list, isn_dct_dict, okn_bool, okn_int, okn_str, okn_tuple, okn_list, okn_dict, cIsi, tyT_n, tyT_b, tyT_i, tyT_s, tyT_r, V.ty.injEq, tSl, tPart, tNoPart, rSlF, gName, List.length_map, Int.reduceToNat, cpow18, Wd.s_inj, ws_num, ws_field, ws_add, ws_sub, ws_mul, ws_eq, ws_lt, ws_gt, ws_le, ws_ge, ws_and, ws_or, ws_not, rInTab, rIxTab, rCatH, rCat, rInT, cSortD, cMaxL, cMinL, rNeNilI, inV, flatV, List.any_cons, List.any_nil, List.all_cons, List.all_nil, eqV, Bool.and_true, Bool.and_false, Bool.true_and, Bool.false_and, Bool.or_false, Bool.false_or, Bool.or_true, Bool.true_or, Wd.beq_s, sz0, sz1, sz2, sz3, sz4, sz5, sz6, isc_eq, isc_lt, isc_gt, isc_le, isc_ge, isc_and, isc_or, isc_not, isl_and, isl_or, isl_not, rSetD, rUnion, rSortTx, rRep, ef true hb]
          refine ⟨_, p3, ?_, (upd_ne nCd.symm).trans p1, p2.updFree hC1, ?_⟩
          · rw [List.length_map]
            refine szl' (Nat.lt_of_le_of_lt (List.length_filter_le _ _) ?_)
            rw [List.length_take]
            omega
          · rw [List.map_append]
            rfl
      · rintro H2 ⟨p1, p2, p3⟩
        rw [List.length_map, List.take_of_length_le (Nat.le_refl _)] at p3
        refine ⟨p1, ?_⟩
        simp only [tVar, tC, tOp, rI, rI0, rU, tTest, tB, tAnd, tOr, tNot, tAndV, tOrV, tNotV, tIf, tNil, tCons, tTup, tLst, tCB, tSeq, tAsg, gName, tRet, tRetN, tIfS, tNext, tDrop, tCall, tUn, tPar, CMul, CDiv, V.int.injEq, V.bl.injEq, V.ref.injEq, V.str.injEq, Option.some.injEq, List.cons.injEq, and_true, true_and, and_false, false_and, or_false, false_or, or_true, true_or, exists_eq_left', exists_eq_left, exists_and_left, exists_and_right, exists_eq', exists_eq, exists_false, exists_const, List.getElem?_cons_succ, List.getElem?_cons_zero, List.set_cons_succ, List.set_cons_zero, List.length_cons, List.length_nil, List.cons_append, List.nil_append, List.append_nil, reduceCtorEq, Int.reduceLT, Int.reduceLE, Int.reduceNeg, Int.reducePow, Int.reduceSub, Int.reduceAdd, Nat.reduceAdd, Nat.reduceLeDiff, Bool.not_true, Bool.not_false, decide_true, decide_false, Bool.false_eq_true, ↓reduceIte, upd_same, not_true_eq_false, not_false_eq_true, lsO_l, lsO_f, tpO_t, tpO_f, dkO_d, dkO_f, keyO_i, keyO_s, rIxH, rIxU, cLenL, cLenT, cListL, cListT, cTupL, cIntB, cAll, rEqNilI, rEq, rNe, scal_ii, scal_ss, scal_bb, scal_nn, scal_ni, scal_in, scal_ns, scal_sn, gSub, rSetL, ixs0, ixs1, ixs2, seq0, at0, at1, at2, at3, tBM, tBM0, rAppend, rPopAt, tyV_list, tGet2, tGetI, sPut, tMG, rTIdx, tyTup, tTupF, cx_K, cx_w, ex_map_int, ex_nil_int, ex_cons_int, List.map_cons, List.map_nil, List.isEmpty_nil, List.isEmpty_cons, List.eraseIdx_zero, List.tail_cons, List.eraseIdx_cons_zero, HO.lst.injEq, HO.tup.injEq, HO.dK.injEq, HO.frz.injEq, ne_eq, gTupH, gCons, gNil, wipe, tYes, upd_upd, and_assoc, List.getElem?_map, Option.map_some, isn_non_bool, isn_non_int, isn_non_str, isn_non_tuple, isn_non_list, isn_non_dict, isn_bl_bool, isn_bl_int, isn_bl_str, isn_bl_tuple, isn_bl_list, isn_bl_dict, isn_int_bool, isn_int_int, isn_int_str, isn_int_tuple, isn_int_list, isn_int_dict, isn_str_bool, isn_str_int, isn_str_str, isn_str_tuple, isn_str_list, isn_str_dict, isn_lst_bool, isn_lst_int, isn_lst_str, isn_lst_tuple, isn_lst_list, isn_lst_dict, isn_tup_bool, isn_tup_int, isn_tup_str, isn_tup_tuple, isn_tup_list, isn_tup_dict, isn_dct_bool, isn_dct_int, isn_dct_str, isn_dct_tuple, isn_dct_list, isn_dct_dict, okn_bool, okn_int, okn_str, okn_tuple, okn_list, okn_dict, cIsi, tyT_n, tyT_b, tyT_i, tyT_s, tyT_r, V.ty.injEq, tSl, tPart, tNoPart, rSlF, gName, List.length_map, Int.reduceToNat, cpow18, Wd.s_inj, ws_num, ws_field, ws_add, ws_sub, ws_mul, ws_eq, ws_lt, ws_gt, ws_le, ws_ge, ws_and, ws_or, ws_not, rInTab, rIxTab, rCatH, rCat, rInT, cSortD, cMaxL, cMinL, rNeNilI, inV, flatV, List.any_cons, List.any_nil, List.all_cons, List.all_nil, eqV, Bool.and_true, Bool.and_false, Bool.true_and, Bool.false_and, Bool.or_false, Bool.false_or, Bool.or_true, Bool.true_or, Wd.beq_s, sz0, sz1, sz2, sz3, sz4, sz5, sz6, isc_eq, isc_lt, isc_gt, isc_le, isc_ge, isc_and, isc_or, isc_not, isl_and, isl_or, isl_not, rSetD, rUnion, rSortTx, rRep, upd_ne nCd, p3]
        intro p hp
        have SX : Same H1 (upd H2 d (.dK (es.map ent))) := fun b o hb => by
          by_cases hbd : b = d
          · subst hbd
            rw [upd_same, ← D.at_]
            exact hb
          · rw [upd_ne hbd]
            exact p2 _ _ (by simpa using hbd) hb
        have SP := SX.trans (same_new (o := .lst []) hp)
        have pC : upd (upd H2 d (.dK (es.map ent))) p (.lst []) C = some (.lst (((es.filter fun e => emptyS e.2.2).map (·.1)).map V.str)) := by
          rw [upd_ne (ne_of_none ((upd_ne nCd).trans p3) hp), upd_ne nCd, p3, List.map_map]
          rfl
        refine strs_neNil pC (fun s hs => ?_) upd_same ?_
        · obtain ⟨e, he, rfl⟩ := List.mem_map.mp hs
          exact D.oks e (List.mem_filter.mp he).1
        · rw [filter_map_empty, Bool.not_not]
          cases hb : es.any fun e => emptyS e.2.2 with
          | true =>
            simp only [tVar, tC, tOp, rI, rI0, rU, tTest, tB, tAnd, tOr, tNot, tAndV, tOrV, tNotV, tIf, tNil, tCons, tTup, tLst, tCB, tSeq, tAsg, gName, tRet, tRetN, tIfS, tNext, tDrop, tCall, tUn, tPar, CMul, CDiv, V.int.injEq, V.bl.injEq, V.ref.injEq, V.str.injEq, Option.some.injEq, List.cons.injEq, and_true, true_and, and_false, false_and, or_false, false_or, or_true, true_or, exists_eq_left', exists_eq_left, exists_and_left, exists_and_right, exists_eq', exists_eq, exists_false, exists_const, List.getElem?_cons_succ, List.getElem?_cons_zero, List.set_cons_succ, List.set_cons_zero, List.length_cons, List.length_nil, List.cons_append, List.nil_append, List.append_nil, reduceCtorEq, Int.reduceLT, Int.reduceLE, Int.reduceNeg, Int.reducePow, Int.reduceSub, Int.reduceAdd, Nat.reduceAdd, Nat.reduceLeDiff, Bool.not_true, Bool.not_false, decide_true, decide_false, Bool.false_eq_true, ↓reduceIte, upd_same, not_true_eq_false, not_false_eq_true, lsO_l, lsO_f, tpO_t, tpO_f, dkO_d, dkO_f, keyO_i, keyO_s, rIxH, rIxU, cLenL, cLenT, cListL, cListT, cTupL, cIntB, cAll, rEqNilI, rEq, rNe, scal_ii, scal_ss, scal_bb, scal_nn, scal_ni, scal_in, scal_ns, scal_sn, gSub, rSetL, ixs0, ixs1, ixs2, seq0, at0, at1, at2, at3, tBM, tBM0, rAppend, rPopAt, tyV_list, tGet2, tGetI, sPut, tMG, rTIdx, tyTup, tTupF, cx_K, cx_w, ex_map_int, ex_nil_int, ex_cons_int, List.map_cons, List.map_nil, List.isEmpty_nil, List.isEmpty_cons, List.eraseIdx_zero, List.tail_cons, List.eraseIdx_cons_zero, HO.lst.injEq, HO.tup.injEq, HO.dK.injEq, HO.frz.injEq, ne_eq, gTupH, gCons, gNil, wipe, tYes, upd_upd, and_assoc, List.getElem?_map, Option.map_some, isn_non_bool, isn_non_int, isn_non_str, isn_non_tuple, isn_non_list, isn_non_dict, isn_bl_bool, isn_bl_int, isn_bl_str, isn_bl_tuple, isn_bl_list, isn_bl_dict, isn_int_bool, isn_int_int, isn_int_str, isn_int_tuple, isn_int_list, isn_int_dict, isn_str_bool, isn_str_int, isn_str_str, isn_str_tuple, isn_str_list, isn_str_dict, isn_lst_bool, isn_lst_int, isn_lst_str, isn_lst_tuple, isn_lst_list, isn_lst_dict, isn_tup_bool, isn_tup_int, isn_tup_str, isn_tup_tuple, isn_tup_list, isn_tup_dict, isn_dct_bool, isn_dct_int, isn_dct_str, isn_dct_tuple, isn_dct_list, isn_dct_dict, okn_bool, okn_int, okn_str, okn_tuple, okn_list, okn_dict, cIsi, tyT_n, tyT_b, tyT_i, tyT_s, tyT_r, V.ty.injEq, tSl, tPart, tNoPart, rSlF, gName, List.length_map, Int.reduceToNat, cpow18, Wd.s_inj, ws_num, ws_field, ws_add, ws_sub, ws_mul, ws_eq, ws_lt, ws_gt, ws_le, ws_ge, ws_and, ws_or, ws_not, rInTab, rIxTab, rCatH, rCat, rInT, cSortD, cMaxL, cMinL, rNeNilI, inV, flatV, List.any_cons, List.any_nil, List.all_cons, List.all_nil, eqV, Bool.and_true, Bool.and_false, Bool.true_and, Bool.false_and, Bool.or_false, Bool.false_or, Bool.or_true, Bool.true_or, Wd.beq_s, sz0, sz1, sz2, sz3, sz4, sz5, sz6, isc_eq, isc_lt, isc_gt, isc_le, isc_ge, isc_and, isc_or, isc_not, isl_and, isl_or, isl_not, rSetD, rUnion, rSortTx, rRep]
            rw [hb, if_pos rfl] at bm
            exact kn bm _ (S1.trans SP)
          | false =>
            simp only [tVar, tC, tOp, rI, rI0, rU, tTest, tB, tAnd, tOr, tNot, tAndV, tOrV, tNotV, tIf, tNil, tCons, tTup, tLst, tCB, tSeq, tAsg, gName, tRet, tRetN, tIfS, tNext, tDrop, tCall, tUn, tPar, CMul, CDiv, V.int.injEq, V.bl.injEq, V.ref.injEq, V.str.injEq, Option.some.injEq, List.cons.injEq, and_true, true_and, and_false, false_and, or_false, false_or, or_true, true_or, exists_eq_left', exists_eq_left, exists_and_left, exists_and_right, exists_eq', exists_eq, exists_false, exists_const, List.getElem?_cons_succ, List.getElem?_cons_zero, List.set_cons_succ, List.set_cons_zero, List.length_cons, List.length_nil, List.cons_append, List.nil_append, List.append_nil, reduceCtorEq, Int.reduceLT, Int.reduceLE, Int.reduceNeg, Int.reducePow, Int.reduceSub, Int.reduceAdd, Nat.reduceAdd, Nat.reduceLeDiff, Bool.not_true, Bool.not_false, decide_true, decide_false, Bool.false_eq_true, ↓reduceIte, upd_same, not_true_eq_false, not_false_eq_true, lsO_l, lsO_f, tpO_t, tpO_f, dkO_d, dkO_f, keyO_i, keyO_s, rIxH, rIxU, cLenL, cLenT, cListL, cListT, cTupL, cIntB, cAll, rEqNilI, rEq, rNe, scal_ii, scal_ss, scal_bb, scal_nn, scal_ni, scal_in, scal_ns, scal_sn, gSub, rSetL, ixs0, ixs1, ixs2, seq0, at0, at1, at2, at3, tBM, tBM0, rAppend, rPopAt, tyV_list, tGet2, tGetI, sPut, tMG, rTIdx, tyTup, tTupF, cx_K, cx_w, ex_map_int, ex_nil_int, ex_cons_int, List.map_cons, List.map_nil, List.isEmpty_nil, List.isEmpty_cons, List.eraseIdx_zero, List.tail_cons, List.eraseIdx_cons_zero, HO.lst.injEq, HO.tup.injEq, HO.dK.injEq, HO.frz.injEq, ne_eq, gTupH, gCons, gNil, wipe, tYes, upd_upd, and_assoc, List.getElem?_map, Option.map_some, isn_non_bool, isn_non_int, isn_non_str, isn_non_tuple, isn_non_list, isn_non_dict, isn_bl_bool, isn_bl_int, isn_bl_str, isn_bl_tuple, isn_bl_list, isn_bl_dict, isn_int_bool, isn_int_int, isn_int_str, isn_int_tuple, isn_int_list, isn_int_dict, isn_str_bool, isn_str_int, isn_str_str, isn_str_tuple, isn_str_list, isn_str_dict, isn_lst_bool, isn_lst_int, isn_lst_str, isn_lst_tuple, isn_lst_list, isn_lst_dict, isn_tup_bool, isn_tup_int, isn_tup_str, isn_tup_tuple, isn_tup_list, isn_tup_dict, isn_dct_bool, isn_dct_int, isn_dct_str, isn_dct_tuple, isn_dct_list, isn_dct_dict, okn_bool, okn_int, okn_str, okn_tuple, okn_list, okn_dict, cIsi, tyT_n, tyT_b, tyT_i, tyT_s, tyT_r, V.ty.injEq, tSl, tPart, tNoPart, rSlF, gName, List.length_map, Int.reduceToNat, cpow18, Wd.s_inj, ws_num, ws_field, ws_add, ws_sub, ws_mul, ws_eq, ws_lt, ws_gt, ws_le, ws_ge, ws_and, ws_or, ws_not, rInTab, rIxTab, rCatH, rCat, rInT, cSortD, cMaxL, cMinL, rNeNilI, inV, flatV, List.any_cons, List.any_nil, List.all_cons, List.all_nil, eqV, Bool.and_true, Bool.and_false, Bool.true_and, Bool.false_and, Bool.or_false, Bool.false_or, Bool.or_true, Bool.true_or, Wd.beq_s, sz0, sz1, sz2, sz3, sz4, sz5, sz6, isc_eq, isc_lt, isc_gt, isc_le, isc_ge, isc_and, isc_or, isc_not, isl_and, isl_or, isl_not, rSetD, rUnion, rSortTx, rRep]
            exact ⟨D.same SP, S1.trans SP⟩
    rintro σ' H2 ⟨rfl, D2, S2, hb⟩
    rw [hb, if_neg Bool.false_ne_true] at bm
    simp only [tVar, tC, tOp, rI, rI0, rU, tTest, tB, tAnd, tOr, tNot, tAndV, tOrV, tNotV, tIf, tNil, tCons, tTup, tLst, tCB, tSeq, tAsg, gName, tRet, tRetN, tIfS, tNext, tDrop, tCall, tUn, tPar, CMul, CDiv, V.int.injEq, V.bl.injEq, V.ref.injEq, V.str.injEq, Option.some.injEq, List.cons.injEq, and_true, true_and, and_false, false_and, or_false, false_or, or_true, true_or, exists_eq_left', exists_eq_left, exists_and_left, exists_and_right, exists_eq', exists_eq, exists_false, exists_const, List.getElem?_cons_succ, List.getElem?_cons_zero, List.set_cons_succ, List.set_cons_zero, List.length_cons, List.length_nil, List.cons_append, List.nil_append, List.append_nil, reduceCtorEq, Int.reduceLT, Int.reduceLE, Int.reduceNeg, Int.reducePow, Int.reduceSub, Int.reduceAdd, Nat.reduceAdd, Nat.reduceLeDiff, Bool.not_true, Bool.not_false, decide_true, decide_false, Bool.false_eq_true, ↓reduceIte, upd_same, not_true_eq_false, not_false_eq_true, lsO_l, lsO_f, tpO_t, tpO_f, dkO_d, dkO_f, keyO_i, keyO_s, rIxH, rIxU, cLenL, cLenT, cListL, cListT, cTupL, cIntB, cAll, rEqNilI, rEq, rNe, scal_ii, scal_ss, scal_bb, scal_nn, scal_ni, scal_in, scal_ns, scal_sn, gSub, rSetL, ixs0, ixs1, ixs2, seq0, at0, at1, at2, at3, tBM, tBM0, rAppend, rPopAt, tyV_list, tGet2, tGetI, sPut, tMG, rTIdx, tyTup, tTupF, cx_K, cx_w, ex_map_int, ex_nil_int, ex_cons_int, List.map_cons, List.map_nil, List.isEmpty_nil, List.isEmpty_cons, List.eraseIdx_zero, List.tail_cons, List.eraseIdx_cons_zero, HO.lst.injEq, HO.tup.injEq, HO.dK.injEq, HO.frz.injEq, ne_eq, gTupH, gCons, gNil, wipe, tYes, upd_upd, and_assoc, List.getElem?_map, Option.map_some, isn_non_bool, isn_non_int, isn_non_str, isn_non_tuple, isn_non_list, isn_non_dict, isn_bl_bool, isn_bl_int, isn_bl_str, isn_bl_tuple, isn_bl_list, isn_bl_dict, isn_int_bool, isn_int_int, isn_int_str, isn_int_tuple, isn_int_list, isn_int_dict, isn_str_bool, isn_str_int, isn_str_str, isn_str_tuple, isn_str_list, isn_str_dict, isn_lst_bool, isn_lst_int, isn_lst_str, isn_lst_tuple, isn_lst_list, isn_lst_dict, isn_tup_bool, isn_tup_int, isn_tup_str, isn_tup_tuple, isn_tup_list, isn_tup_dict, isn_dct_bool, isn_dct_int, isn_dct_str, isn_dct_tuple, isn_dct_list, isn_dct_dict, okn_bool, okn_int, okn_str, okn_tuple, okn_list, okn_dict, cIsi, tyT_n, tyT_b, tyT_i, tyT_s, tyT_r, V.ty.injEq, tSl, tPart, tNoPart, rSlF, gName, List.length_map, Int.reduceToNat, cpow18, Wd.s_inj, ws_num, ws_field, ws_add, ws_sub, ws_mul, ws_eq, ws_lt, ws_gt, ws_le, ws_ge, ws_and, ws_or, ws_not, rInTab, rIxTab, rCatH, rCat, rInT, cSortD, cMaxL, cMinL, rNeNilI, inV, flatV, List.any_cons, List.any_nil, List.all_cons, List.all_nil, eqV, Bool.and_true, Bool.and_false, Bool.true_and, Bool.false_and, Bool.or_false, Bool.false_or, Bool.or_true, Bool.true_or, Wd.beq_s, sz0, sz1, sz2, sz3, sz4, sz5, sz6, isc_eq, isc_lt, isc_gt, isc_le, isc_ge, isc_and, isc_or, isc_not, isl_and, isl_or, isl_not, rSetD, rUnion, rSortTx, rRep]
    exact ks d es H2 bm D2 S2
end

def spBoth : Sp := fun vs H Q _ => ∃ (v1 v2 : V) (b1 b2 : Option (List En)), vs = [v1, v2] ∧ RBd H v1 b1 ∧ RBd H v2 b2 ∧ (∀ es, b1 = some es → es.length ≤ 8) ∧ (∀ es, b2 = some es → es.length ≤ 8) ∧
  ∀ v' b' H', Same H H' → RBd H' v' b' → BothM (spans b1) (spans b2) (spans b') → Q v' H'
section
variable {P : Program} {w : World} {K : PySem.W.Frag} {mg : Str → Option Value} {base : Heap}
theorem somes_lc2 {H : Hp} {p : Addr} {os : List OI} {a0 a1 a2 a3 a4 a5 a6 a7 a8 a9 a10 : Option V} {Q : VK} (hp : H p = some (.tup (os.map oi))) (hl : os.length ≤ 2) (k : ∀ D H', Same H H' → H' D = some (.lst ((somes os).map V.int)) → Q (.ref D) H') :
    lcB (Itt K p) (gName 10) (tTest (tOp (fun x y H Q => y = V.non ∧ Q (V.bl !decide (x = V.non)) H) (tVar 10) (tC V.non))) (tVar 10) [10] [a0, a1, a2, a3, a4, a5, a6, a7, a8, a9, a10] H Q := by
  refine fun D hD => lc_it (walk_tup (xs := os.map oi)) (fun i H' => Same H H' ∧ H' D = some (.lst ((somes (os.take i)).map V.int))) ⟨same_new hD, upd_same⟩ (fun i H' _ ⟨S, _⟩ => .inl (.inl (S _ _ hp))) ?_ ?_
  · rintro i x H2 H3 hi ⟨S, e⟩ ⟨rfl, hx⟩
    rw [List.length_map] at hi
    obtain ⟨o, ho⟩ : ∃ o, os[i]? = some o := ⟨os[i], List.getElem?_eq_getElem hi⟩
    rw [List.getElem?_map, ho] at hx
    obtain rfl : oi o = x := Option.some.inj hx
    have et : somes (os.take (i + 1)) = somes (os.take i) ++ somes [o] := by rw [List.take_add_one, ho, somes_append]; rfl
    cases o with
    | none =>
      simp only [tVar, tC, tOp, rI, rI0, rU, tTest, tB, tAnd, tOr, tNot, tAndV, tOrV, tNotV, tIf, tNil, tCons, tTup, tLst, tCB, tSeq, tAsg, gName, tRet, tRetN, tIfS, tNext, tDrop, tCall, tUn, tPar, CMul, CDiv, V.int.injEq, V.bl.injEq, V.ref.injEq, V.str.injEq, Option.some.injEq, List.cons.injEq, and_true, true_and, and_false, false_and, or_false, false_or, or_true, true_or, exists_eq_left', exists_eq_left, exists_and_left, exists_and_right, exists_eq', exists_eq, exists_false, exists_const, List.getElem?_cons_succ, List.getElem?_cons_zero, List.set_cons_succ, List.set_cons_zero, List.length_cons, List.length_nil, List.cons_append, List.nil_append, List.append_nil, reduceCtorEq, Int.reduceLT, Int.reduceLE, Int.reduceNeg, Int.reducePow, Int.reduceSub, Int.reduceAdd, Nat.reduceAdd, Nat.reduceLeDiff, Bool.not_true, Bool.not_false, decide_true, decide_false, Bool.false_eq_true, ↓reduceIte, upd_same, not_true_eq_false, not_false_eq_true, lsO_l, lsO_f, tpO_t, tpO_f, dkO_d, dkO_f, keyO_i, keyO_s, rIxH, rIxU, cLenL, cLenT, cListL, cListT, cTupL, cIntB, cAll, rEqNilI, rEq, rNe, scal_ii, scal_ss, scal_bb, scal_nn, scal_ni, scal_in, scal_ns, scal_sn, gSub, rSetL, ixs0, ixs1, ixs2, seq0, at0, at1, at2, at3, tBM, tBM0, rAppend, rPopAt, tyV_list, tGet2, tGetI, sPut, tMG, rTIdx, tyTup, tTupF, cx_K, cx_w, ex_map_int, ex_nil_int, ex_cons_int, List.map_cons, List.map_nil, List.isEmpty_nil, List.isEmpty_cons, List.eraseIdx_zero, List.tail_cons, List.eraseIdx_cons_zero, HO.lst.injEq, HO.tup.injEq, HO.dK.injEq, HO.frz.injEq, ne_eq, gTupH, gCons, gNil, wipe, tYes, upd_upd, and_assoc, List.getElem?_map, Option.map_some, isn_non_bool, isn_non_int, isn_non_str, isn_non_tuple, isn_non_list, isn_non_dict, isn_bl_bool, isn_bl_int, isn_bl_str, isn_bl_tuple, isn_bl_list, isn_bl_dict, isn_int_bool, isn_int_int, isn_int_str, isn_int_tuple, isn_int_list, isn_int_dict, isn_str_bool, isn_str_int, isn_str_str, isn_str_tuple, isn_str_list, isn_str_dict, isn_lst_bool, isn_lst_int, isn_lst_str, isn_lst_tuple, isn_lst_list, isn_lst_dict, isn_tup_bool, isn_tup_int, isn_tup_str, isn_tup_tuple, isn_tup_list, isn_tup_dict, isn_dct_bool, isn_dct_int, isn_dct_str, isn_dct_tuple, isn_dct_list, isn_dct_dict, okn_bool, okn_int, okn_str, okn_tuple, okn_list, okn_dict, cIsi, tyT_n, tyT_b, tyT_i, tyT_s, tyT_r, V.ty.injEq, tSl, tPart, tNoPart, rSlF, gName, List.length_map, Int.reduceToNat, cpow18, Wd.s_inj, ws_num, ws_field, ws_add, ws_sub, ws_mul, ws_eq, ws_lt, ws_gt, ws_le, ws_ge, ws_and, ws_or, ws_not, rInTab, rIxTab, rCatH, rCat, rInT, cSortD, cMaxL, cMinL, rNeNilI, inV, flatV, List.any_cons, List.any_nil, List.all_cons, List.all_nil, eqV, Bool.and_true, Bool.and_false, Bool.true_and, Bool.false_and, Bool.or_false, Bool.false_or, Bool.or_true, Bool.true_or, Wd.beq_s, sz0, sz1, sz2, sz3, sz4, sz5, sz6, isc_eq, isc_lt, isc_gt, isc_le, isc_ge, isc_and, isc_or, isc_not, isl_and, isl_or, isl_not, rSetD, rUnion, rSortTx, rRep, oi_n]
      rw [et]
      exact ⟨S, by rw [e]; simp [somes]⟩
    | some z =>
      simp only [tVar, tC, tOp, rI, rI0, rU, tTest, tB, tAnd, tOr, tNot, tAndV, tOrV, tNotV, tIf, tNil, tCons, tTup, tLst, tCB, tSeq, tAsg, gName, tRet, tRetN, tIfS, tNext, tDrop, tCall, tUn, tPar, CMul, CDiv, V.int.injEq, V.bl.injEq, V.ref.injEq, V.str.injEq, Option.some.injEq, List.cons.injEq, and_true, true_and, and_false, false_and, or_false, false_or, or_true, true_or, exists_eq_left', exists_eq_left, exists_and_left, exists_and_right, exists_eq', exists_eq, exists_false, exists_const, List.getElem?_cons_succ, List.getElem?_cons_zero, List.set_cons_succ, List.set_cons_zero, List.length_cons, List.length_nil, List.cons_append, List.nil_append, List.append_nil, reduceCtorEq, Int.reduceLT, Int.reduceLE, Int.reduceNeg, Int.reducePow, Int.reduceSub, Int.reduceAdd, Nat.reduceAdd, Nat.reduceLeDiff, Bool.not_true, Bool.not_false, decide_true, decide_false, Bool.false_eq_true, ↓reduceIte, upd_same, not_true_eq_false, not_false_eq_true, lsO_l, lsO_f, tpO_t, tpO_f, dkO_d, dkO_f, keyO_i, keyO_s, rIxH, rIxU, cLenL, cLenT, cListL, cListT, cTupL, cIntB, cAll, rEqNilI, rEq, rNe, scal_ii, scal_ss, scal_bb, scal_nn, scal_ni, scal_in, scal_ns, scal_sn, gSub, rSetL, ixs0, ixs1, ixs2, seq0, at0, at1, at2, at3, tBM, tBM0, rAppend, rPopAt, tyV_list, tGet2, tGetI, sPut, tMG, rTIdx, tyTup, tTupF, cx_K, cx_w, ex_map_int, ex_nil_int, ex_cons_int, List.map_cons, List.map_nil, List.isEmpty_nil, List.isEmpty_cons, List.eraseIdx_zero, List.tail_cons, List.eraseIdx_cons_zero, HO.lst.injEq, HO.tup.injEq, HO.dK.injEq, HO.frz.injEq, ne_eq, gTupH, gCons, gNil, wipe, tYes, upd_upd, and_assoc, List.getElem?_map, Option.map_some, isn_non_bool, isn_non_int, isn_non_str, isn_non_tuple, isn_non_list, isn_non_dict, isn_bl_bool, isn_bl_int, isn_bl_str, isn_bl_tuple, isn_bl_list, isn_bl_dict, isn_int_bool, isn_int_int, isn_int_str, isn_int_tuple, isn_int_list, isn_int_dict, isn_str_bool, isn_str_int, isn_str_str, isn_str_tuple, isn_str_list, isn_str_dict, isn_lst_bool, isn_lst_int, isn_lst_str, isn_lst_tuple, isn_lst_list, isn_lst_dict, isn_tup_bool, isn_tup_int, isn_tup_str, isn_tup_tuple, isn_tup_list, isn_tup_dict, isn_dct_bool, isn_dct_int, isn_dct_str, isn_dct_tuple, isn_dct_list, isn_dct_dict, okn_bool, okn_int, okn_str, okn_tuple, okn_list, okn_dict, cIsi, tyT_n, tyT_b, tyT_i, tyT_s, tyT_r, V.ty.injEq, tSl, tPart, tNoPart, rSlF, gName, List.length_map, Int.reduceToNat, cpow18, Wd.s_inj, ws_num, ws_field, ws_add, ws_sub, ws_mul, ws_eq, ws_lt, ws_gt, ws_le, ws_ge, ws_and, ws_or, ws_not, rInTab, rIxTab, rCatH, rCat, rInT, cSortD, cMaxL, cMinL, rNeNilI, inV, flatV, List.any_cons, List.any_nil, List.all_cons, List.all_nil, eqV, Bool.and_true, Bool.and_false, Bool.true_and, Bool.false_and, Bool.or_false, Bool.false_or, Bool.or_true, Bool.true_or, Wd.beq_s, sz0, sz1, sz2, sz3, sz4, sz5, sz6, isc_eq, isc_lt, isc_gt, isc_le, isc_ge, isc_and, isc_or, isc_not, isl_and, isl_or, isl_not, rSetD, rUnion, rSortTx, rRep, oi_s]
      refine ⟨_, e, ?_, Same.updFree S hD, ?_⟩
      · rw [List.length_map]
        have q := somes_len (os.take i)
        rw [List.length_take] at q
        exact szl' (by omega)
      · rw [et, List.map_append]
        rfl
  · rintro H' ⟨S, e⟩
    rw [List.length_map, List.take_of_length_le (Nat.le_refl _)] at e
    exact k D H' S e
theorem nm_ent (es : List En) : (es.map ent).map (fun p => keyTx p.1) = es.map (·.1) := by
  rw [List.map_map]
  rfl
theorem key_ent (es : List En) : ∀ p ∈ es.map ent, ∃ x : Str, p.1 = Sum.inr x := fun p hp => by
  obtain ⟨e, _, rfl⟩ := List.mem_map.mp hp
  exact ⟨e.1, rfl⟩
theorem somes_max {x y : OI} {m : Int} (hm : m ∈ somes [x, y]) (hx : ∀ z, z ∈ somes [x, y] → z ≤ m) : maxO x y = some m := by
  cases x <;> cases y <;> simp [somes, maxO] at * <;> omega
theorem somes_min {x y : OI} {m : Int} (hm : m ∈ somes [x, y]) (hx : ∀ z, z ∈ somes [x, y] → m ≤ z) : minO x y = some m := by
  cases x <;> cases y <;> simp [somes, minO] at * <;> omega
theorem somes_max0 {x y : OI} (h : ¬ (!(somes [x, y]).isEmpty) = true) : maxO x y = none := by
  cases x <;> cases y <;> simp [somes, maxO] at *
theorem somes_min0 {x y : OI} (h : ¬ (!(somes [x, y]).isEmpty) = true) : minO x y = none := by
  cases x <;> cases y <;> simp [somes, minO] at *
theorem ok_l_both (T : Txt K mg w) : FnOk P w K mg base CX0 1 T.f_l_both T.fd_l_both ["_law_one", "_law_other"] spBoth := by
  refine T.F_l_both.ok sc_l_both (fun vs H Q E h => ?_) (fun cdv A outer s H vs Q E hr h => ?_)
  · obtain ⟨v1, v2, b1, b2, rfl, _⟩ := h
    rfl
  · have hu := hu_of hr
    have hu64 := hu64_of hr
    obtain ⟨v1, v2, b1, b2, rfl, R1, R2, l1, l2, k⟩ := h
    refine ⟨_, (Evl.pss_cut (ps_if (PW.pt (pw_or (pt_cmpR op_isN (pv 0) pe_non (nomark _)) (pw_or1 (pt_cmpR op_isN (pv 1) pe_non (nomark _))))) (pss_one (ps_ret pe_non)) pss_nil)
      (pss_cons (ps_set (i := 2) sc_l_both.nd rfl (Or.inl rfl) pe_dnewK)
      (Evl.pss_cut (ps_for PassesOwn.never rfl (pi_listK K rfl (pe_callB (cr_sortU rfl hu64) (by rfl) T.n_sorted (by decide +kernel) (pa_cons (pe_op op_union (pe_callTy (cr_setD rfl) (by rfl) T.n_set (by decide +kernel) (pa_cons (pv 0) pa_nil)) (pe_callTy (cr_setD rfl) (by rfl) T.n_set (by decide +kernel) (pa_cons (pv 1) pa_nil))) pa_nil))) (pg_name (i := 3) sc_l_both.nd rfl (Or.inl rfl)) (Evl.pss_cut (ps_asg (pe_get2 hu (pv 0) (pv 3) (pe_tup (pa_cons pe_non (pa_cons pe_non pa_nil)))) (pg_tupH (n := 2) rfl (pgs_cons (pg_name (i := 4) sc_l_both.nd rfl (Or.inl rfl)) (pgs_cons (pg_name (i := 5) sc_l_both.nd rfl (Or.inl rfl)) pgs_nil))))
        (Evl.pss_cut (ps_asg (pe_get2 hu (pv 1) (pv 3) (pe_tup (pa_cons pe_non (pa_cons pe_non pa_nil)))) (pg_tupH (n := 2) rfl (pgs_cons (pg_name (i := 6) sc_l_both.nd rfl (Or.inl rfl)) (pgs_cons (pg_name (i := 7) sc_l_both.nd rfl (Or.inl rfl)) pgs_nil))))
        (Evl.pss_cut (ps_setLc (i := 8) (own := [("_law_end", 10)]) (g := gName 10) rfl sc_l_both.nd rfl rfl (sw_true rfl rfl rfl (by decide +kernel)) (pi_tupK K rfl (pe_tup (pa_cons (pv 4) (pa_cons (pv 6) pa_nil)))) (blkOk_by (N := N_l_both) (sc := defScope s_l_both) (by decide +kernel)) (fun _ _ _ _ _ => (pg_name (i := 10) sc_l_both.nd rfl (Or.inl rfl))) (fun _ _ _ _ _ => pts_one (pt_cmpR op_notN (pv 10) pe_non (nomark _))) (fun _ _ _ _ _ => (pv 10)))
        (Evl.pss_cut (ps_setLc (i := 9) (own := [("_law_end", 10)]) (g := gName 10) rfl sc_l_both.nd rfl rfl (sw_true rfl rfl rfl (by decide +kernel)) (pi_tupK K rfl (pe_tup (pa_cons (pv 5) (pa_cons (pv 7) pa_nil)))) (blkOk_by (N := N_l_both) (sc := defScope s_l_both) (by decide +kernel)) (fun _ _ _ _ _ => (pg_name (i := 10) sc_l_both.nd rfl (Or.inl rfl))) (fun _ _ _ _ _ => pts_one (pt_cmpR op_notN (pv 10) pe_non (nomark _))) (fun _ _ _ _ _ => (pv 10)))
        (Evl.pss_cut (ps_put hu (pv 2) (pv 3) (pe_tup (pa_cons (pe_ifExp (pt_cmpR (op_neNilI hu64) (pv 8) (pe_lst pa_nil) (nomark _)) (pe_callB (max_lst rfl) (by rfl) T.n_max (by decide +kernel) (pa_cons (pv 8) pa_nil)) pe_non) (pa_cons (pe_ifExp (pt_cmpR (op_neNilI hu64) (pv 9) (pe_lst pa_nil) (nomark _)) (pe_callB (min_lst rfl) (by rfl) T.n_min (by decide +kernel) (pa_cons (pv 9) pa_nil)) pe_non) pa_nil))) rfl)
        (pss_one (ps_if (PW.pt (pw_and (pt_cmpR (op_neNilI hu64) (pv 8) (pe_lst pa_nil) (nomark _)) (pw_and (pt_cmpR (op_neNilI hu64) (pv 9) (pe_lst pa_nil) (nomark _)) (pw_and1 (pt_cmpR op_gt (pe_callB (max_lst rfl) (by rfl) T.n_max (by decide +kernel) (pa_cons (pv 8) pa_nil)) (pe_callB (min_lst rfl) (by rfl) T.n_min (by decide +kernel) (pa_cons (pv 9) pa_nil)) (nomark _)))))) (pss_one (ps_ret pe_non)) pss_nil))))))))
      (pss_one (ps_ret (pv 2)))))), ?_⟩
    rw [show L2.start N_l_both [v1, v2] = [some (v1), some (v2), none, none, none, none, none, none, none, none, none] from rfl]
    cases b1 with
    | none =>
      obtain rfl : v1 = .non := R1
      simp only [tVar, tC, tOp, rI, rI0, rU, tTest, tB, tAnd, tOr, tNot, tAndV, tOrV, tNotV, tIf, tNil, tCons, tTup, tLst, tCB, tSeq, tAsg, gName, tRet, tRetN, tIfS, tNext, tDrop, tCall, tUn, tPar, CMul, CDiv, V.int.injEq, V.bl.injEq, V.ref.injEq, V.str.injEq, Option.some.injEq, List.cons.injEq, and_true, true_and, and_false, false_and, or_false, false_or, or_true, true_or, exists_eq_left', exists_eq_left, exists_and_left, exists_and_right, exists_eq', exists_eq, exists_false, exists_const, List.getElem?_cons_succ, List.getElem?_cons_zero, List.set_cons_succ, List.set_cons_zero, List.length_cons, List.length_nil, List.cons_append, List.nil_append, List.append_nil, reduceCtorEq, Int.reduceLT, Int.reduceLE, Int.reduceNeg, Int.reducePow, Int.reduceSub, Int.reduceAdd, Nat.reduceAdd, Nat.reduceLeDiff, Bool.not_true, Bool.not_false, decide_true, decide_false, Bool.false_eq_true, ↓reduceIte, upd_same, not_true_eq_false, not_false_eq_true, lsO_l, lsO_f, tpO_t, tpO_f, dkO_d, dkO_f, keyO_i, keyO_s, rIxH, rIxU, cLenL, cLenT, cListL, cListT, cTupL, cIntB, cAll, rEqNilI, rEq, rNe, scal_ii, scal_ss, scal_bb, scal_nn, scal_ni, scal_in, scal_ns, scal_sn, gSub, rSetL, ixs0, ixs1, ixs2, seq0, at0, at1, at2, at3, tBM, tBM0, rAppend, rPopAt, tyV_list, tGet2, tGetI, sPut, tMG, rTIdx, tyTup, tTupF, cx_K, cx_w, ex_map_int, ex_nil_int, ex_cons_int, List.map_cons, List.map_nil, List.isEmpty_nil, List.isEmpty_cons, List.eraseIdx_zero, List.tail_cons, List.eraseIdx_cons_zero, HO.lst.injEq, HO.tup.injEq, HO.dK.injEq, HO.frz.injEq, ne_eq, gTupH, gCons, gNil, wipe, tYes, upd_upd, and_assoc, List.getElem?_map, Option.map_some, isn_non_bool, isn_non_int, isn_non_str, isn_non_tuple, isn_non_list, isn_non_dict, isn_bl_bool, isn_bl_int, isn_bl_str, isn_bl_tuple, isn_bl_list, isn_bl_dict, isn_int_bool, isn_int_int, isn_int_str, isn_int_tuple, isn_int_list, isn_int_dict, isn_str_bool, isn_str_int, isn_str_str, isn_str_tuple, isn_str_list, isn_str_dict, isn_lst_bool, isn_lst_int, isn_lst_str, isn_lst_tuple, isn_lst_list, isn_lst_dict, isn_tup_bool, isn_tup_int, isn_tup_str, isn_tup_tuple, isn_tup_list, isn_tup_dict, isn_dct_bool, isn_dct_int, isn_dct_str, isn_dct_tuple, isn_dct_list, isn_dct_dict, okn_bool, okn_int, okn_str, okn_tuple, okn_list, okn_dict, cIsi, tyT_n, tyT_b, tyT_i, tyT_s, tyT_r, V.ty.injEq, tSl, tPart, tNoPart, rSlF, gName, List.length_map, Int.reduceToNat, cpow18, Wd.s_inj, ws_num, ws_field, ws_add, ws_sub, ws_mul, ws_eq, ws_lt, ws_gt, ws_le, ws_ge, ws_and, ws_or, ws_not, rInTab, rIxTab, rCatH, rCat, rInT, cSortD, cMaxL, cMinL, rNeNilI, inV, flatV, List.any_cons, List.any_nil, List.all_cons, List.all_nil, eqV, Bool.and_true, Bool.and_false, Bool.true_and, Bool.false_and, Bool.or_false, Bool.false_or, Bool.or_true, Bool.true_or, Wd.beq_s, sz0, sz1, sz2, sz3, sz4, sz5, sz6, isc_eq, isc_lt, isc_gt, isc_le, isc_ge, isc_and, isc_or, isc_not, isl_and, isl_or, isl_not, rSetD, rUnion, rSortTx, rRep]
      refine ⟨fun σ' H' => False, ?_, fun σ' H' h => h.elim⟩
      simp only [tVar, tC, tOp, rI, rI0, rU, tTest, tB, tAnd, tOr, tNot, tAndV, tOrV, tNotV, tIf, tNil, tCons, tTup, tLst, tCB, tSeq, tAsg, gName, tRet, tRetN, tIfS, tNext, tDrop, tCall, tUn, tPar, CMul, CDiv, V.int.injEq, V.bl.injEq, V.ref.injEq, V.str.injEq, Option.some.injEq, List.cons.injEq, and_true, true_and, and_false, false_and, or_false, false_or, or_true, true_or, exists_eq_left', exists_eq_left, exists_and_left, exists_and_right, exists_eq', exists_eq, exists_false, exists_const, List.getElem?_cons_succ, List.getElem?_cons_zero, List.set_cons_succ, List.set_cons_zero, List.length_cons, List.length_nil, List.cons_append, List.nil_append, List.append_nil, reduceCtorEq, Int.reduceLT, Int.reduceLE, Int.reduceNeg, Int.reducePow, Int.reduceSub, Int.reduceAdd, Nat.reduceAdd, Nat.reduceLeDiff, Bool.not_true, Bool.not_false, decide_true, decide_false, Bool.false_eq_true, ↓reduceIte, upd_same, not_true_eq_false, not_false_eq_true, lsO_l, lsO_f, tpO_t, tpO_f, dkO_d, dkO_f, keyO_i, keyO_s, rIxH, rIxU, cLenL, cLenT, cListL, cListT, cTupL, cIntB, cAll, rEqNilI, rEq, rNe, scal_ii, scal_ss, scal_bb, scal_nn, scal_ni, scal_in, scal_ns, scal_sn, gSub, rSetL, ixs0, ixs1, ixs2, seq0, at0, at1, at2, at3, tBM, tBM0, rAppend, rPopAt, tyV_list, tGet2, tGetI, sPut, tMG, rTIdx, tyTup, tTupF, cx_K, cx_w, ex_map_int, ex_nil_int, ex_cons_int, List.map_cons, List.map_nil, List.isEmpty_nil, List.isEmpty_cons, List.eraseIdx_zero, List.tail_cons, List.eraseIdx_cons_zero, HO.lst.injEq, HO.tup.injEq, HO.dK.injEq, HO.frz.injEq, ne_eq, gTupH, gCons, gNil, wipe, tYes, upd_upd, and_assoc, List.getElem?_map, Option.map_some, isn_non_bool, isn_non_int, isn_non_str, isn_non_tuple, isn_non_list, isn_non_dict, isn_bl_bool, isn_bl_int, isn_bl_str, isn_bl_tuple, isn_bl_list, isn_bl_dict, isn_int_bool, isn_int_int, isn_int_str, isn_int_tuple, isn_int_list, isn_int_dict, isn_str_bool, isn_str_int, isn_str_str, isn_str_tuple, isn_str_list, isn_str_dict, isn_lst_bool, isn_lst_int, isn_lst_str, isn_lst_tuple, isn_lst_list, isn_lst_dict, isn_tup_bool, isn_tup_int, isn_tup_str, isn_tup_tuple, isn_tup_list, isn_tup_dict, isn_dct_bool, isn_dct_int, isn_dct_str, isn_dct_tuple, isn_dct_list, isn_dct_dict, okn_bool, okn_int, okn_str, okn_tuple, okn_list, okn_dict, cIsi, tyT_n, tyT_b, tyT_i, tyT_s, tyT_r, V.ty.injEq, tSl, tPart, tNoPart, rSlF, gName, List.length_map, Int.reduceToNat, cpow18, Wd.s_inj, ws_num, ws_field, ws_add, ws_sub, ws_mul, ws_eq, ws_lt, ws_gt, ws_le, ws_ge, ws_and, ws_or, ws_not, rInTab, rIxTab, rCatH, rCat, rInT, cSortD, cMaxL, cMinL, rNeNilI, inV, flatV, List.any_cons, List.any_nil, List.all_cons, List.all_nil, eqV, Bool.and_true, Bool.and_false, Bool.true_and, Bool.false_and, Bool.or_false, Bool.false_or, Bool.or_true, Bool.true_or, Wd.beq_s, sz0, sz1, sz2, sz3, sz4, sz5, sz6, isc_eq, isc_lt, isc_gt, isc_le, isc_ge, isc_and, isc_or, isc_not, isl_and, isl_or, isl_not, rSetD, rUnion, rSortTx, rRep]
      exact k _ none H (Same.refl _) rfl (by cases b2 <;> rfl)
    | some e1 =>
      cases b2 with
      | none =>
        obtain rfl : v2 = .non := R2
        obtain ⟨d1, rfl, D1⟩ := R1
        simp only [tVar, tC, tOp, rI, rI0, rU, tTest, tB, tAnd, tOr, tNot, tAndV, tOrV, tNotV, tIf, tNil, tCons, tTup, tLst, tCB, tSeq, tAsg, gName, tRet, tRetN, tIfS, tNext, tDrop, tCall, tUn, tPar, CMul, CDiv, V.int.injEq, V.bl.injEq, V.ref.injEq, V.str.injEq, Option.some.injEq, List.cons.injEq, and_true, true_and, and_false, false_and, or_false, false_or, or_true, true_or, exists_eq_left', exists_eq_left, exists_and_left, exists_and_right, exists_eq', exists_eq, exists_false, exists_const, List.getElem?_cons_succ, List.getElem?_cons_zero, List.set_cons_succ, List.set_cons_zero, List.length_cons, List.length_nil, List.cons_append, List.nil_append, List.append_nil, reduceCtorEq, Int.reduceLT, Int.reduceLE, Int.reduceNeg, Int.reducePow, Int.reduceSub, Int.reduceAdd, Nat.reduceAdd, Nat.reduceLeDiff, Bool.not_true, Bool.not_false, decide_true, decide_false, Bool.false_eq_true, ↓reduceIte, upd_same, not_true_eq_false, not_false_eq_true, lsO_l, lsO_f, tpO_t, tpO_f, dkO_d, dkO_f, keyO_i, keyO_s, rIxH, rIxU, cLenL, cLenT, cListL, cListT, cTupL, cIntB, cAll, rEqNilI, rEq, rNe, scal_ii, scal_ss, scal_bb, scal_nn, scal_ni, scal_in, scal_ns, scal_sn, gSub, rSetL, ixs0, ixs1, ixs2, seq0, at0, at1, at2, at3, tBM, tBM0, rAppend, rPopAt, tyV_list, tGet2, tGetI, sPut, tMG, rTIdx, tyTup, tTupF, cx_K, cx_w, ex_map_int, ex_nil_int, ex_cons_int, List.map_cons, List.map_nil, List.isEmpty_nil, List.isEmpty_cons, List.eraseIdx_zero, List.tail_cons, List.eraseIdx_cons_zero, HO.lst.injEq, HO.tup.injEq, HO.dK.injEq, HO.frz.injEq, ne_eq, gTupH, gCons, gNil, wipe, tYes, upd_upd, and_assoc, List.getElem?_map, Option.map_some, isn_non_bool, isn_non_int, isn_non_str, isn_non_tuple, isn_non_list, isn_non_dict, isn_bl_bool, isn_bl_int, isn_bl_str, isn_bl_tuple, isn_bl_list, isn_bl_dict, isn_int_bool, isn_int_int, isn_int_str, isn_int_tuple, isn_int_list, isn_int_dict, isn_str_bool, isn_str_int, isn_str_str, isn_str_tuple, isn_str_list, isn_str_dict, isn_lst_bool, isn_lst_int, isn_lst_str, isn_lst_tuple, isn_lst_list, isn_lst_dict, isn_tup_bool, isn_tup_int, isn_tup_str, isn_tup_tuple, isn_tup_list, isn_tup_dict, isn_dct_bool, isn_dct_int, isn_dct_str, isn_dct_tuple, isn_dct_list, isn_dct_dict, okn_bool, okn_int, okn_str, okn_tuple, okn_list, okn_dict, cIsi, tyT_n, tyT_b, tyT_i, tyT_s, tyT_r, V.ty.injEq, tSl, tPart, tNoPart, rSlF, gName, List.length_map, Int.reduceToNat, cpow18, Wd.s_inj, ws_num, ws_field, ws_add, ws_sub, ws_mul, ws_eq, ws_lt, ws_gt, ws_le, ws_ge, ws_and, ws_or, ws_not, rInTab, rIxTab, rCatH, rCat, rInT, cSortD, cMaxL, cMinL, rNeNilI, inV, flatV, List.any_cons, List.any_nil, List.all_cons, List.all_nil, eqV, Bool.and_true, Bool.and_false, Bool.true_and, Bool.false_and, Bool.or_false, Bool.false_or, Bool.or_true, Bool.true_or, Wd.beq_s, sz0, sz1, sz2, sz3, sz4, sz5, sz6, isc_eq, isc_lt, isc_gt, isc_le, isc_ge, isc_and, isc_or, isc_not, isl_and, isl_or, isl_not, rSetD, rUnion, rSortTx, rRep]
        refine ⟨fun σ' H' => False, ?_, fun σ' H' h => h.elim⟩
        simp only [tVar, tC, tOp, rI, rI0, rU, tTest, tB, tAnd, tOr, tNot, tAndV, tOrV, tNotV, tIf, tNil, tCons, tTup, tLst, tCB, tSeq, tAsg, gName, tRet, tRetN, tIfS, tNext, tDrop, tCall, tUn, tPar, CMul, CDiv, V.int.injEq, V.bl.injEq, V.ref.injEq, V.str.injEq, Option.some.injEq, List.cons.injEq, and_true, true_and, and_false, false_and, or_false, false_or, or_true, true_or, exists_eq_left', exists_eq_left, exists_and_left, exists_and_right, exists_eq', exists_eq, exists_false, exists_const, List.getElem?_cons_succ, List.getElem?_cons_zero, List.set_cons_succ, List.set_cons_zero, List.length_cons, List.length_nil, List.cons_append, List.nil_append, List.append_nil, reduceCtorEq, Int.reduceLT, Int.reduceLE, Int.reduceNeg, Int.reducePow, Int.reduceSub, Int.reduceAdd, Nat.reduceAdd, Nat.reduceLeDiff, Bool.not_true, Bool.not_false, decide_true, decide_false, Bool.false_eq_true, ↓reduceIte, upd_same, not_true_eq_false, not_false_eq_true, lsO_l, lsO_f, tpO_t, tpO_f, dkO_d, dkO_f, keyO_i, keyO_s, rIxH, rIxU, cLenL, cLenT, cListL, cListT, cTupL, cIntB, cAll, rEqNilI, rEq, rNe, scal_ii, scal_ss, scal_bb, scal_nn, scal_ni, scal_in, scal_ns, scal_sn, gSub, rSetL, ixs0, ixs1, ixs2, seq0, at0, at1, at2, at3, tBM, tBM0, rAppend, rPopAt, tyV_list, tGet2, tGetI, sPut, tMG, rTIdx, tyTup, tTupF, cx_K, cx_w, ex_map_int, ex_nil_int, ex_cons_int, List.map_cons, List.map_nil, List.isEmpty_nil, List.isEmpty_cons, List.eraseIdx_zero, List.tail_cons, List.eraseIdx_cons_zero, HO.lst.injEq, HO.tup.injEq, HO.dK.injEq, HO.frz.injEq, ne_eq, gTupH, gCons, gNil, wipe, tYes, upd_upd, and_assoc, List.getElem?_map, Option.map_some, isn_non_bool, isn_non_int, isn_non_str, isn_non_tuple, isn_non_list, isn_non_dict, isn_bl_bool, isn_bl_int, isn_bl_str, isn_bl_tuple, isn_bl_list, isn_bl_dict, isn_int_bool, isn_int_int, isn_int_str, isn_int_tuple, isn_int_list, isn_int_dict, isn_str_bool, isn_str_int, isn_str_str, isn_str_tuple, isn_str_list, isn_str_dict, isn_lst_bool, isn_lst_int, isn_lst_str, isn_lst_tuple, isn_lst_list, isn_lst_dict, isn_tup_bool, isn_tup_int, isn_tup_str, isn_tup_tuple, isn_tup_list, isn_tup_dict, isn_dct_bool, isn_dct_int, isn_dct_str, isn_dct_tuple, isn_dct_list, isn_dct_dict, okn_bool, okn_int, okn_str, okn_tuple, okn_list, okn_dict, cIsi, tyT_n, tyT_b, tyT_i, tyT_s, tyT_r, V.ty.injEq, tSl, tPart, tNoPart, rSlF, gName, List.length_map, Int.reduceToNat, cpow18, Wd.s_inj, ws_num, ws_field, ws_add, ws_sub, ws_mul, ws_eq, ws_lt, ws_gt, ws_le, ws_ge, ws_and, ws_or, ws_not, rInTab, rIxTab, rCatH, rCat, rInT, cSortD, cMaxL, cMinL, rNeNilI, inV, flatV, List.any_cons, List.any_nil, List.all_cons, List.all_nil, eqV, Bool.and_true, Bool.and_false, Bool.true_and, Bool.false_and, Bool.or_false, Bool.false_or, Bool.or_true, Bool.true_or, Wd.beq_s, sz0, sz1, sz2, sz3, sz4, sz5, sz6, isc_eq, isc_lt, isc_gt, isc_le, isc_ge, isc_and, isc_or, isc_not, isl_and, isl_or, isl_not, rSetD, rUnion, rSortTx, rRep]
        exact k _ none H (Same.refl _) rfl rfl
      | some e2 =>
        obtain ⟨d1, rfl, D1⟩ := R1
        obtain ⟨d2, rfl, D2⟩ := R2
        refine ⟨fun σ' H' => σ' = [some (.ref d1), some (.ref d2), none, none, none, none, none, none, none, none, none] ∧ H' = H, ?_, ?_⟩
        · simp only [tVar, tC, tOp, rI, rI0, rU, tTest, tB, tAnd, tOr, tNot, tAndV, tOrV, tNotV, tIf, tNil, tCons, tTup, tLst, tCB, tSeq, tAsg, gName, tRet, tRetN, tIfS, tNext, tDrop, tCall, tUn, tPar, CMul, CDiv, V.int.injEq, V.bl.injEq, V.ref.injEq, V.str.injEq, Option.some.injEq, List.cons.injEq, and_true, true_and, and_false, false_and, or_false, false_or, or_true, true_or, exists_eq_left', exists_eq_left, exists_and_left, exists_and_right, exists_eq', exists_eq, exists_false, exists_const, List.getElem?_cons_succ, List.getElem?_cons_zero, List.set_cons_succ, List.set_cons_zero, List.length_cons, List.length_nil, List.cons_append, List.nil_append, List.append_nil, reduceCtorEq, Int.reduceLT, Int.reduceLE, Int.reduceNeg, Int.reducePow, Int.reduceSub, Int.reduceAdd, Nat.reduceAdd, Nat.reduceLeDiff, Bool.not_true, Bool.not_false, decide_true, decide_false, Bool.false_eq_true, ↓reduceIte, upd_same, not_true_eq_false, not_false_eq_true, lsO_l, lsO_f, tpO_t, tpO_f, dkO_d, dkO_f, keyO_i, keyO_s, rIxH, rIxU, cLenL, cLenT, cListL, cListT, cTupL, cIntB, cAll, rEqNilI, rEq, rNe, scal_ii, scal_ss, scal_bb, scal_nn, scal_ni, scal_in, scal_ns, scal_sn, gSub, rSetL, ixs0, ixs1, ixs2, seq0, at0, at1, at2, at3, tBM, tBM0, rAppend, rPopAt, tyV_list, tGet2, tGetI, sPut, tMG, rTIdx, tyTup, tTupF, cx_K, cx_w, ex_map_int, ex_nil_int, ex_cons_int, List.map_cons, List.map_nil, List.isEmpty_nil, List.isEmpty_cons, List.eraseIdx_zero, List.tail_cons, List.eraseIdx_cons_zero, HO.lst.injEq, HO.tup.injEq, HO.dK.injEq, HO.frz.injEq, ne_eq, gTupH, gCons, gNil, wipe, tYes, upd_upd, and_assoc, List.getElem?_map, Option.map_some, isn_non_bool, isn_non_int, isn_non_str, isn_non_tuple, isn_non_list, isn_non_dict, isn_bl_bool, isn_bl_int, isn_bl_str, isn_bl_tuple, isn_bl_list, isn_bl_dict, isn_int_bool, isn_int_int, isn_int_str, isn_int_tuple, isn_int_list, isn_int_dict, isn_str_bool, isn_str_int, isn_str_str, isn_str_tuple, isn_str_list, isn_str_dict, isn_lst_bool, isn_lst_int, isn_lst_str, isn_lst_tuple, isn_lst_list, isn_lst_dict, isn_tup_bool, isn_tup_int, isn_tup_str, isn_tup_tuple, isn_tup_list, isn_tup_dict, isn_dct_bool, isn_dct_int, isn_dct_str, isn_dct_tuple, isn_dct_list, isn_dct_dict, okn_bool, okn_int, okn_str, okn_tuple, okn_list, okn_dict, cIsi, tyT_n, tyT_b, tyT_i, tyT_s, tyT_r, V.ty.injEq, tSl, tPart, tNoPart, rSlF, gName, List.length_map, Int.reduceToNat, cpow18, Wd.s_inj, ws_num, ws_field, ws_add, ws_sub, ws_mul, ws_eq, ws_lt, ws_gt, ws_le, ws_ge, ws_and, ws_or, ws_not, rInTab, rIxTab, rCatH, rCat, rInT, cSortD, cMaxL, cMinL, rNeNilI, inV, flatV, List.any_cons, List.any_nil, List.all_cons, List.all_nil, eqV, Bool.and_true, Bool.and_false, Bool.true_and, Bool.false_and, Bool.or_false, Bool.false_or, Bool.or_true, Bool.true_or, Wd.beq_s, sz0, sz1, sz2, sz3, sz4, sz5, sz6, isc_eq, isc_lt, isc_gt, isc_le, isc_ge, isc_and, isc_or, isc_not, isl_and, isl_or, isl_not, rSetD, rUnion, rSortTx, rRep]
        rintro σ' H' ⟨rfl, rfl⟩
        simp only [tVar, tC, tOp, rI, rI0, rU, tTest, tB, tAnd, tOr, tNot, tAndV, tOrV, tNotV, tIf, tNil, tCons, tTup, tLst, tCB, tSeq, tAsg, gName, tRet, tRetN, tIfS, tNext, tDrop, tCall, tUn, tPar, CMul, CDiv, V.int.injEq, V.bl.injEq, V.ref.injEq, V.str.injEq, Option.some.injEq, List.cons.injEq, and_true, true_and, and_false, false_and, or_false, false_or, or_true, true_or, exists_eq_left', exists_eq_left, exists_and_left, exists_and_right, exists_eq', exists_eq, exists_false, exists_const, List.getElem?_cons_succ, List.getElem?_cons_zero, List.set_cons_succ, List.set_cons_zero, List.length_cons, List.length_nil, List.cons_append, List.nil_append, List.append_nil, reduceCtorEq, Int.reduceLT, Int.reduceLE, Int.reduceNeg, Int.reducePow, Int.reduceSub, Int.reduceAdd, Nat.reduceAdd, Nat.reduceLeDiff, Bool.not_true, Bool.not_false, decide_true, decide_false, Bool.false_eq_true, ↓reduceIte, upd_same, not_true_eq_false, not_false_eq_true, lsO_l, lsO_f, tpO_t, tpO_f, dkO_d, dkO_f, keyO_i, keyO_s, rIxH, rIxU, cLenL, cLenT, cListL, cListT, cTupL, cIntB, cAll, rEqNilI, rEq, rNe, scal_ii, scal_ss, scal_bb, scal_nn, scal_ni, scal_in, scal_ns, scal_sn, gSub, rSetL, ixs0, ixs1, ixs2, seq0, at0, at1, at2, at3, tBM, tBM0, rAppend, rPopAt, tyV_list, tGet2, tGetI, sPut, tMG, rTIdx, tyTup, tTupF, cx_K, cx_w, ex_map_int, ex_nil_int, ex_cons_int, List.map_cons, List.map_nil, List.isEmpty_nil, List.isEmpty_cons, List.eraseIdx_zero, List.tail_cons, List.eraseIdx_cons_zero, HO.lst.injEq, HO.tup.injEq, HO.dK.injEq, HO.frz.injEq, ne_eq, gTupH, gCons, gNil, wipe, tYes, upd_upd, and_assoc, List.getElem?_map, Option.map_some, isn_non_bool, isn_non_int, isn_non_str, isn_non_tuple, isn_non_list, isn_non_dict, isn_bl_bool, isn_bl_int, isn_bl_str, isn_bl_tuple, isn_bl_list, isn_bl_dict, isn_int_bool, isn_int_int, isn_int_str, isn_int_tuple, isn_int_list, isn_int_dict, isn_str_bool, isn_str_int, isn_str_str, isn_str_tuple, isn_str_list, isn_str_dict, isn_lst_bool, isn_lst_int, isn_lst_str, isn_lst_tuple, isn_lst_list, isn_lst_dict, isn_tup_bool, isn_tup_int, isn_tup_str, isn_tup_tuple, isn_tup_list, isn_tup_dict, isn_dct_bool, isn_dct_int, isn_dct_str, isn_dct_tuple, isn_dct_list, isn_dct_dict, okn_bool, okn_int, okn_str, okn_tuple, okn_list, okn_dict, cIsi, tyT_n, tyT_b, tyT_i, tyT_s, tyT_r, V.ty.injEq, tSl, tPart, tNoPart, rSlF, gName, List.length_map, Int.reduceToNat, cpow18, Wd.s_inj, ws_num, ws_field, ws_add, ws_sub, ws_mul, ws_eq, ws_lt, ws_gt, ws_le, ws_ge, ws_and, ws_or, ws_not, rInTab, rIxTab, rCatH, rCat, rInT, cSortD, cMaxL, cMinL, rNeNilI, inV, flatV, List.any_cons, List.any_nil, List.all_cons, List.all_nil, eqV, Bool.and_true, Bool.and_false, Bool.true_and, Bool.false_and, Bool.or_false, Bool.false_or, Bool.or_true, Bool.true_or, Wd.beq_s, sz0, sz1, sz2, sz3, sz4, sz5, sz6, isc_eq, isc_lt, isc_gt, isc_le, isc_ge, isc_and, isc_or, isc_not, isl_and, isl_or, isl_not, rSetD, rUnion, rSortTx, rRep, tDNewK]
        intro fd hfd
        have s0 := same_new (o := .dK []) hfd
        have D1a := D1.same s0
        have D2a := D2.same s0
        have hf0 : upd H' fd (.dK []) fd = some (.dK []) := upd_same
        refine ⟨fun σ' H3 => ∃ (es : List En) (x3 x4 x5 x6 x7 x8 x9 x10 : Option V), σ' = [some (.ref d1), some (.ref d2), some (.ref fd), x3, x4, x5, x6, x7, x8, x9, x10] ∧ DBg gO H3 fd es ∧ Same H' H3 ∧ BothM (some (e1.map dr)) (some (e2.map dr)) (some (es.map dr)), ?_, ?_⟩
        · simp only [tVar, tC, tOp, rI, rI0, rU, tTest, tB, tAnd, tOr, tNot, tAndV, tOrV, tNotV, tIf, tNil, tCons, tTup, tLst, tCB, tSeq, tAsg, gName, tRet, tRetN, tIfS, tNext, tDrop, tCall, tUn, tPar, CMul, CDiv, V.int.injEq, V.bl.injEq, V.ref.injEq, V.str.injEq, Option.some.injEq, List.cons.injEq, and_true, true_and, and_false, false_and, or_false, false_or, or_true, true_or, exists_eq_left', exists_eq_left, exists_and_left, exists_and_right, exists_eq', exists_eq, exists_false, exists_const, List.getElem?_cons_succ, List.getElem?_cons_zero, List.set_cons_succ, List.set_cons_zero, List.length_cons, List.length_nil, List.cons_append, List.nil_append, List.append_nil, reduceCtorEq, Int.reduceLT, Int.reduceLE, Int.reduceNeg, Int.reducePow, Int.reduceSub, Int.reduceAdd, Nat.reduceAdd, Nat.reduceLeDiff, Bool.not_true, Bool.not_false, decide_true, decide_false, Bool.false_eq_true, ↓reduceIte, upd_same, not_true_eq_false, not_false_eq_true, lsO_l, lsO_f, tpO_t, tpO_f, dkO_d, dkO_f, keyO_i, keyO_s, rIxH, rIxU, cLenL, cLenT, cListL, cListT, cTupL, cIntB, cAll, rEqNilI, rEq, rNe, scal_ii, scal_ss, scal_bb, scal_nn, scal_ni, scal_in, scal_ns, scal_sn, gSub, rSetL, ixs0, ixs1, ixs2, seq0, at0, at1, at2, at3, tBM, tBM0, rAppend, rPopAt, tyV_list, tGet2, tGetI, sPut, tMG, rTIdx, tyTup, tTupF, cx_K, cx_w, ex_map_int, ex_nil_int, ex_cons_int, List.map_cons, List.map_nil, List.isEmpty_nil, List.isEmpty_cons, List.eraseIdx_zero, List.tail_cons, List.eraseIdx_cons_zero, HO.lst.injEq, HO.tup.injEq, HO.dK.injEq, HO.frz.injEq, ne_eq, gTupH, gCons, gNil, wipe, tYes, upd_upd, and_assoc, List.getElem?_map, Option.map_some, isn_non_bool, isn_non_int, isn_non_str, isn_non_tuple, isn_non_list, isn_non_dict, isn_bl_bool, isn_bl_int, isn_bl_str, isn_bl_tuple, isn_bl_list, isn_bl_dict, isn_int_bool, isn_int_int, isn_int_str, isn_int_tuple, isn_int_list, isn_int_dict, isn_str_bool, isn_str_int, isn_str_str, isn_str_tuple, isn_str_list, isn_str_dict, isn_lst_bool, isn_lst_int, isn_lst_str, isn_lst_tuple, isn_lst_list, isn_lst_dict, isn_tup_bool, isn_tup_int, isn_tup_str, isn_tup_tuple, isn_tup_list, isn_tup_dict, isn_dct_bool, isn_dct_int, isn_dct_str, isn_dct_tuple, isn_dct_list, isn_dct_dict, okn_bool, okn_int, okn_str, okn_tuple, okn_list, okn_dict, cIsi, tyT_n, tyT_b, tyT_i, tyT_s, tyT_r, V.ty.injEq, tSl, tPart, tNoPart, rSlF, gName, List.length_map, Int.reduceToNat, cpow18, Wd.s_inj, ws_num, ws_field, ws_add, ws_sub, ws_mul, ws_eq, ws_lt, ws_gt, ws_le, ws_ge, ws_and, ws_or, ws_not, rInTab, rIxTab, rCatH, rCat, rInT, cSortD, cMaxL, cMinL, rNeNilI, inV, flatV, List.any_cons, List.any_nil, List.all_cons, List.all_nil, eqV, Bool.and_true, Bool.and_false, Bool.true_and, Bool.false_and, Bool.or_false, Bool.false_or, Bool.or_true, Bool.true_or, Wd.beq_s, sz0, sz1, sz2, sz3, sz4, sz5, sz6, isc_eq, isc_lt, isc_gt, isc_le, isc_ge, isc_and, isc_or, isc_not, isl_and, isl_or, isl_not, rSetD, rUnion, rSortTx, rRep, tFor_eq, iList]
          refine ⟨_, D1a.at_, key_ent e1, by rw [List.length_map]; exact l1 _ rfl, fun a1 ha1 => ?_⟩
          have s1 := same_new (o := SetUO w a1 ((e1.map ent).map fun p => keyTx p.1)) ha1
          have D2b := D2a.same s1
          refine ⟨_, D2b.at_, key_ent e2, by rw [List.length_map]; exact l2 _ rfl, fun a2 ha2 => ?_⟩
          have n12 := ne_of_none (upd_same (H := upd H' fd (.dK [])) (a := a1) (o := SetUO w a1 ((e1.map ent).map fun p => keyTx p.1))) ha2
          have s2 := same_new (o := SetUO w a2 ((e2.map ent).map fun p => keyTx p.1)) ha2
          have L1 := l1 _ rfl
          have L2 := l2 _ rfl
          refine ⟨_, by rw [upd_ne n12, upd_same], _, rfl, n12, by simp only [List.length_map]; omega, fun c hc => ?_⟩
          have s3 := same_new (o := SetUO w c (((e1.map ent).map fun p => keyTx p.1) ++ ((e2.map ent).map fun p => keyTx p.1))) hc
          refine ⟨_, rfl, by simp only [List.length_append, List.length_map]; omega, fun p ys hp hmem hlen => ?_⟩
          have s4 := same_new (o := .lst (ys.map V.str)) hp
          have ss := (((s0.trans s1).trans s2).trans s3).trans s4
          have hf9 := (((s1.trans s2).trans s3).trans s4) _ _ hf0
          have hp9 : upd _ p (.lst (ys.map V.str)) p = some (.lst (ys.map V.str)) := upd_same (H := upd (upd (upd (upd H' fd (.dK [])) a1 (SetUO w a1 ((e1.map ent).map fun p => keyTx p.1))) a2 (SetUO w a2 ((e2.map ent).map fun p => keyTx p.1))) c (SetUO w c (((e1.map ent).map fun p => keyTx p.1) ++ ((e2.map ent).map fun p => keyTx p.1))))
          rw [nm_ent, nm_ent] at hmem hlen
          have ylen : ys.length ≤ 16 := by
            rw [List.length_append, List.length_map, List.length_map] at hlen
            omega
          have ymem : ∀ f, f ∈ ys ↔ f ∈ nmS (e1.map dr) ∨ f ∈ nmS (e2.map dr) := fun f => by rw [hmem f, List.mem_append, nm_dr, nm_dr]
          clear s0 s1 s2 s3 s4 hf0 ha1 ha2 hc hp D1a D2a D2b n12
          generalize upd (upd (upd (upd (upd H' fd (.dK [])) a1 (SetUO w a1 ((e1.map ent).map fun p => keyTx p.1))) a2 (SetUO w a2 ((e2.map ent).map fun p => keyTx p.1))) c (SetUO w c (((e1.map ent).map fun p => keyTx p.1) ++ ((e2.map ent).map fun p => keyTx p.1)))) p (.lst (ys.map V.str)) = H9 at *
          have nfp : p ∉ [fd] := by
            simp only [List.mem_singleton]
            rintro rfl
            rw [hf9] at hp9
            cases hp9
          have keepS : ∀ {H2 : Hp}, Keep [fd] H9 H2 → Same H' H2 := fun k b o hb => k _ _ (by simp only [List.mem_singleton]; rintro rfl; rw [hfd] at hb; cases hb) (ss _ _ hb)
          refine ⟨⟨_, .inl (.inl hp9)⟩, forB_it (for_it (walk_list (xs := ys.map V.str)) (fun i σ H2 => ∃ (es : List En) (x3 x4 x5 x6 x7 x8 x9 x10 : Option V), σ = [some (.ref d1), some (.ref d2), some (.ref fd), x3, x4, x5, x6, x7, x8, x9, x10] ∧ DBg gO H2 fd es ∧ es.length ≤ i ∧ (∀ f, f ∈ nmS (es.map dr) ↔ f ∈ ys.take i) ∧
              (∀ f ∈ nmS (es.map dr), lookS (es.map dr) f = narrow (lookS (e1.map dr) f) (lookS (e2.map dr) f) ∧ emptyS (narrow (lookS (e1.map dr) f) (lookS (e2.map dr) f)) = false) ∧ Keep [fd] H9 H2)
            ⟨[], none, none, none, none, none, none, none, none, rfl, ⟨hf9, fun e he => absurd he (by simp), fun e he => absurd he (by simp), List.nodup_nil⟩, Nat.le_refl _, fun f => by simp [nmS], fun f hf => absurd hf (by simp [nmS]), Keep.refl⟩ (fun i σ H2 _ h2 => by obtain ⟨_, _, _, _, _, _, _, _, _, _, _, _, _, _, k2⟩ := h2; exact .inl (.inl (k2 _ _ nfp hp9))) ?_ ?_)⟩
          · rintro i x σ H2 H3 hi ⟨es, x3, x4, x5, x6, x7, x8, x9, x10, rfl, D, el, em, ev, k2⟩ ⟨rfl, hx⟩
            rw [List.length_map] at hi
            obtain ⟨f, hf, rfl⟩ := str_at hx
            have fin := List.mem_of_getElem? hf
            simp only [tVar, tC, tOp, rI, rI0, rU, tTest, tB, tAnd, tOr, tNot, tAndV, tOrV, tNotV, tIf, tNil, tCons, tTup, tLst, tCB, tSeq, tAsg, gName, tRet, tRetN, tIfS, tNext, tDrop, tCall, tUn, tPar, CMul, CDiv, V.int.injEq, V.bl.injEq, V.ref.injEq, V.str.injEq, Option.some.injEq, List.cons.injEq, and_true, true_and, and_false, false_and, or_false, false_or, or_true, true_or, exists_eq_left', exists_eq_left, exists_and_left, exists_and_right, exists_eq', exists_eq, exists_false, exists_const, List.getElem?_cons_succ, List.getElem?_cons_zero, List.set_cons_succ, List.set_cons_zero, List.length_cons, List.length_nil, List.cons_append, List.nil_append, List.append_nil, reduceCtorEq, Int.reduceLT, Int.reduceLE, Int.reduceNeg, Int.reducePow, Int.reduceSub, Int.reduceAdd, Nat.reduceAdd, Nat.reduceLeDiff, Bool.not_true, Bool.not_false, decide_true, decide_false, Bool.false_eq_true, ↓reduceIte, upd_same, not_true_eq_false, not_false_eq_true, lsO_l, lsO_f, tpO_t, tpO_f, dkO_d, dkO_f, keyO_i, keyO_s, rIxH, rIxU, cLenL, cLenT, cListL, cListT, cTupL, cIntB, cAll, rEqNilI, rEq, rNe, scal_ii, scal_ss, scal_bb, scal_nn, scal_ni, scal_in, scal_ns, scal_sn, gSub, rSetL, ixs0, ixs1, ixs2, seq0, at0, at1, at2, at3, tBM, tBM0, rAppend, rPopAt, tyV_list, tGet2, tGetI, sPut, tMG, rTIdx, tyTup, tTupF, cx_K, cx_w, ex_map_int, ex_nil_int, ex_cons_int, List.map_cons, List.map_nil, List.isEmpty_nil, List.isEmpty_cons, List.eraseIdx_zero, List.tail_cons, List.eraseIdx_cons_zero, HO.lst.injEq, HO.tup.injEq, HO.dK.injEq, HO.frz.injEq, ne_eq, gTupH, gCons, gNil, wipe, tYes, upd_upd, and_assoc, List.getElem?_map, Option.map_some, isn_non_bool, isn_non_int, isn_non_str, isn_non_tuple, isn_non_list, isn_non_dict, isn_bl_bool, isn_bl_int, isn_bl_str, isn_bl_tuple, isn_bl_list, isn_bl_dict, isn_int_bool, isn_int_int, isn_int_str, isn_int_tuple, isn_int_list, isn_int_dict, isn_str_bool, isn_str_int, isn_str_str, isn_str_tuple, isn_str_list, isn_str_dict, isn_lst_bool, isn_lst_int, isn_lst_str, isn_lst_tuple, isn_lst_list, isn_lst_dict, isn_tup_bool, isn_tup_int, isn_tup_str, isn_tup_tuple, isn_tup_list, isn_tup_dict, isn_dct_bool, isn_dct_int, isn_dct_str, isn_dct_tuple, isn_dct_list, isn_dct_dict, okn_bool, okn_int, okn_str, okn_tuple, okn_list, okn_dict, cIsi, tyT_n, tyT_b, tyT_i, tyT_s, tyT_r, V.ty.injEq, tSl, tPart, tNoPart, rSlF, gName, List.length_map, Int.reduceToNat, cpow18, Wd.s_inj, ws_num, ws_field, ws_add, ws_sub, ws_mul, ws_eq, ws_lt, ws_gt, ws_le, ws_ge, ws_and, ws_or, ws_not, rInTab, rIxTab, rCatH, rCat, rInT, cSortD, cMaxL, cMinL, rNeNilI, inV, flatV, List.any_cons, List.any_nil, List.all_cons, List.all_nil, eqV, Bool.and_true, Bool.and_false, Bool.true_and, Bool.false_and, Bool.or_false, Bool.false_or, Bool.or_true, Bool.true_or, Wd.beq_s, sz0, sz1, sz2, sz3, sz4, sz5, sz6, isc_eq, isc_lt, isc_gt, isc_le, isc_ge, isc_and, isc_or, isc_not, isl_and, isl_or, isl_not, rSetD, rUnion, rSortTx, rRep, gName]
            -- the first's span
            refine ⟨fun σ' H4 => σ' = [some (.ref d1), some (.ref d2), some (.ref fd), some (.str f), some (oi (lookS (e1.map dr) f).1), some (oi (lookS (e1.map dr) f).2), x6, x7, x8, x9, x10] ∧ Same H3 H4, ?_, ?_⟩
            · have D1c := D1.same (keepS k2)
              have hd1 := D1c.at_
              simp only [tVar, tC, tOp, rI, rI0, rU, tTest, tB, tAnd, tOr, tNot, tAndV, tOrV, tNotV, tIf, tNil, tCons, tTup, tLst, tCB, tSeq, tAsg, gName, tRet, tRetN, tIfS, tNext, tDrop, tCall, tUn, tPar, CMul, CDiv, V.int.injEq, V.bl.injEq, V.ref.injEq, V.str.injEq, Option.some.injEq, List.cons.injEq, and_true, true_and, and_false, false_and, or_false, false_or, or_true, true_or, exists_eq_left', exists_eq_left, exists_and_left, exists_and_right, exists_eq', exists_eq, exists_false, exists_const, List.getElem?_cons_succ, List.getElem?_cons_zero, List.set_cons_succ, List.set_cons_zero, List.length_cons, List.length_nil, List.cons_append, List.nil_append, List.append_nil, reduceCtorEq, Int.reduceLT, Int.reduceLE, Int.reduceNeg, Int.reducePow, Int.reduceSub, Int.reduceAdd, Nat.reduceAdd, Nat.reduceLeDiff, Bool.not_true, Bool.not_false, decide_true, decide_false, Bool.false_eq_true, ↓reduceIte, upd_same, not_true_eq_false, not_false_eq_true, lsO_l, lsO_f, tpO_t, tpO_f, dkO_d, dkO_f, keyO_i, keyO_s, rIxH, rIxU, cLenL, cLenT, cListL, cListT, cTupL, cIntB, cAll, rEqNilI, rEq, rNe, scal_ii, scal_ss, scal_bb, scal_nn, scal_ni, scal_in, scal_ns, scal_sn, gSub, rSetL, ixs0, ixs1, ixs2, seq0, at0, at1, at2, at3, tBM, tBM0, rAppend, rPopAt, tyV_list, tGet2, tGetI, sPut, tMG, rTIdx, tyTup, tTupF, cx_K, cx_w, ex_map_int, ex_nil_int, ex_cons_int, List.map_cons, List.map_nil, List.isEmpty_nil, List.isEmpty_cons, List.eraseIdx_zero, List.tail_cons, List.eraseIdx_cons_zero, HO.lst.injEq, HO.tup.injEq, HO.dK.injEq, HO.frz.injEq, ne_eq, gTupH, gCons, gNil, wipe, tYes, upd_upd, and_assoc, List.getElem?_map, Option.map_some, isn_non_bool, isn_non_int, isn_non_str, isn_non_tuple, isn_non_list, isn_non_dict, isn_bl_bool, isn_bl_int, isn_bl_str, isn_bl_tuple, isn_bl_list, isn_bl_dict, isn_int_bool, isn_int_int, isn_int_str, isn_int_tuple, isn_int_list, isn_int_dict, isn_str_bool, isn_str_int, isn_str_str, isn_str_tuple, isn_str_list, isn_str_dict, isn_lst_bool, isn_lst_int, isn_lst_str, isn_lst_tuple, isn_lst_list, isn_lst_dict, isn_tup_bool, isn_tup_int, isn_tup_str, isn_tup_tuple, isn_tup_list, isn_tup_dict, isn_dct_bool, isn_dct_int, isn_dct_str, isn_dct_tuple, isn_dct_list, isn_dct_dict, okn_bool, okn_int, okn_str, okn_tuple, okn_list, okn_dict, cIsi, tyT_n, tyT_b, tyT_i, tyT_s, tyT_r, V.ty.injEq, tSl, tPart, tNoPart, rSlF, gName, List.length_map, Int.reduceToNat, cpow18, Wd.s_inj, ws_num, ws_field, ws_add, ws_sub, ws_mul, ws_eq, ws_lt, ws_gt, ws_le, ws_ge, ws_and, ws_or, ws_not, rInTab, rIxTab, rCatH, rCat, rInT, cSortD, cMaxL, cMinL, rNeNilI, inV, flatV, List.any_cons, List.any_nil, List.all_cons, List.all_nil, eqV, Bool.and_true, Bool.and_false, Bool.true_and, Bool.false_and, Bool.or_false, Bool.false_or, Bool.or_true, Bool.true_or, Wd.beq_s, sz0, sz1, sz2, sz3, sz4, sz5, sz6, isc_eq, isc_lt, isc_gt, isc_le, isc_ge, isc_and, isc_or, isc_not, isl_and, isl_or, isl_not, rSetD, rUnion, rSortTx, rRep, hd1]
              intro q hq
              have sq := same_new (o := .tup [V.non, V.non]) hq
              obtain ⟨sa, hsa, tsa⟩ : ∃ sa, (valV (e1.map ent) (Sum.inr f : Key)).getD (V.ref q) = .ref sa ∧ upd H3 q (.tup [.non, .non]) sa = some (.tup [oi (lookS (e1.map dr) f).1, oi (lookS (e1.map dr) f).2]) := by
                rcases look_ent e1 f with ⟨l1, l2⟩ | ⟨e, he, l1, l2, l3⟩
                · rw [l1, l2]; exact ⟨q, rfl, upd_same⟩
                · rw [l1, l2]; exact ⟨e.2.1, rfl, sq _ _ (D1c.tups e he)⟩
              have hd1' := sq _ _ hd1
              simp only [tVar, tC, tOp, rI, rI0, rU, tTest, tB, tAnd, tOr, tNot, tAndV, tOrV, tNotV, tIf, tNil, tCons, tTup, tLst, tCB, tSeq, tAsg, gName, tRet, tRetN, tIfS, tNext, tDrop, tCall, tUn, tPar, CMul, CDiv, V.int.injEq, V.bl.injEq, V.ref.injEq, V.str.injEq, Option.some.injEq, List.cons.injEq, and_true, true_and, and_false, false_and, or_false, false_or, or_true, true_or, exists_eq_left', exists_eq_left, exists_and_left, exists_and_right, exists_eq', exists_eq, exists_false, exists_const, List.getElem?_cons_succ, List.getElem?_cons_zero, List.set_cons_succ, List.set_cons_zero, List.length_cons, List.length_nil, List.cons_append, List.nil_append, List.append_nil, reduceCtorEq, Int.reduceLT, Int.reduceLE, Int.reduceNeg, Int.reducePow, Int.reduceSub, Int.reduceAdd, Nat.reduceAdd, Nat.reduceLeDiff, Bool.not_true, Bool.not_false, decide_true, decide_false, Bool.false_eq_true, ↓reduceIte, upd_same, not_true_eq_false, not_false_eq_true, lsO_l, lsO_f, tpO_t, tpO_f, dkO_d, dkO_f, keyO_i, keyO_s, rIxH, rIxU, cLenL, cLenT, cListL, cListT, cTupL, cIntB, cAll, rEqNilI, rEq, rNe, scal_ii, scal_ss, scal_bb, scal_nn, scal_ni, scal_in, scal_ns, scal_sn, gSub, rSetL, ixs0, ixs1, ixs2, seq0, at0, at1, at2, at3, tBM, tBM0, rAppend, rPopAt, tyV_list, tGet2, tGetI, sPut, tMG, rTIdx, tyTup, tTupF, cx_K, cx_w, ex_map_int, ex_nil_int, ex_cons_int, List.map_cons, List.map_nil, List.isEmpty_nil, List.isEmpty_cons, List.eraseIdx_zero, List.tail_cons, List.eraseIdx_cons_zero, HO.lst.injEq, HO.tup.injEq, HO.dK.injEq, HO.frz.injEq, ne_eq, gTupH, gCons, gNil, wipe, tYes, upd_upd, and_assoc, List.getElem?_map, Option.map_some, isn_non_bool, isn_non_int, isn_non_str, isn_non_tuple, isn_non_list, isn_non_dict, isn_bl_bool, isn_bl_int, isn_bl_str, isn_bl_tuple, isn_bl_list, isn_bl_dict, isn_int_bool, isn_int_int, isn_int_str, isn_int_tuple, isn_int_list, isn_int_dict, isn_str_bool, isn_str_int, isn_str_str, isn_str_tuple, isn_str_list, isn_str_dict, isn_lst_bool, isn_lst_int, isn_lst_str, isn_lst_tuple, isn_lst_list, isn_lst_dict, isn_tup_bool, isn_tup_int, isn_tup_str, isn_tup_tuple, isn_tup_list, isn_tup_dict, isn_dct_bool, isn_dct_int, isn_dct_str, isn_dct_tuple, isn_dct_list, isn_dct_dict, okn_bool, okn_int, okn_str, okn_tuple, okn_list, okn_dict, cIsi, tyT_n, tyT_b, tyT_i, tyT_s, tyT_r, V.ty.injEq, tSl, tPart, tNoPart, rSlF, gName, List.length_map, Int.reduceToNat, cpow18, Wd.s_inj, ws_num, ws_field, ws_add, ws_sub, ws_mul, ws_eq, ws_lt, ws_gt, ws_le, ws_ge, ws_and, ws_or, ws_not, rInTab, rIxTab, rCatH, rCat, rInT, cSortD, cMaxL, cMinL, rNeNilI, inV, flatV, List.any_cons, List.any_nil, List.all_cons, List.all_nil, eqV, Bool.and_true, Bool.and_false, Bool.true_and, Bool.false_and, Bool.or_false, Bool.false_or, Bool.or_true, Bool.true_or, Wd.beq_s, sz0, sz1, sz2, sz3, sz4, sz5, sz6, isc_eq, isc_lt, isc_gt, isc_le, isc_ge, isc_and, isc_or, isc_not, isl_and, isl_or, isl_not, rSetD, rUnion, rSortTx, rRep, hd1', hsa, tsa]
              exact sq
            rintro σ' H4 ⟨rfl, s4⟩
            refine ⟨fun σ' H5 => σ' = [some (.ref d1), some (.ref d2), some (.ref fd), some (.str f), some (oi (lookS (e1.map dr) f).1), some (oi (lookS (e1.map dr) f).2), some (oi (lookS (e2.map dr) f).1), some (oi (lookS (e2.map dr) f).2), x8, x9, x10] ∧ Same H3 H5, ?_, ?_⟩
            · have D2c := (D2.same (keepS k2)).same s4
              have hd2 := D2c.at_
              simp only [tVar, tC, tOp, rI, rI0, rU, tTest, tB, tAnd, tOr, tNot, tAndV, tOrV, tNotV, tIf, tNil, tCons, tTup, tLst, tCB, tSeq, tAsg, gName, tRet, tRetN, tIfS, tNext, tDrop, tCall, tUn, tPar, CMul, CDiv, V.int.injEq, V.bl.injEq, V.ref.injEq, V.str.injEq, Option.some.injEq, List.cons.injEq, and_true, true_and, and_false, false_and, or_false, false_or, or_true, true_or, exists_eq_left', exists_eq_left, exists_and_left, exists_and_right, exists_eq', exists_eq, exists_false, exists_const, List.getElem?_cons_succ, List.getElem?_cons_zero, List.set_cons_succ, List.set_cons_zero, List.length_cons, List.length_nil, List.cons_append, List.nil_append, List.append_nil, reduceCtorEq, Int.reduceLT, Int.reduceLE, Int.reduceNeg, Int.reducePow, Int.reduceSub, Int.reduceAdd, Nat.reduceAdd, Nat.reduceLeDiff, Bool.not_true, Bool.not_false, decide_true, decide_false, Bool.false_eq_true, ↓reduceIte, upd_same, not_true_eq_false, not_false_eq_true, lsO_l, lsO_f, tpO_t, tpO_f, dkO_d, dkO_f, keyO_i, keyO_s, rIxH, rIxU, cLenL, cLenT, cListL, cListT, cTupL, cIntB, cAll, rEqNilI, rEq, rNe, scal_ii, scal_ss, scal_bb, scal_nn, scal_ni, scal_in, scal_ns, scal_sn, gSub, rSetL, ixs0, ixs1, ixs2, seq0, at0, at1, at2, at3, tBM, tBM0, rAppend, rPopAt, tyV_list, tGet2, tGetI, sPut, tMG, rTIdx, tyTup, tTupF, cx_K, cx_w, ex_map_int, ex_nil_int, ex_cons_int, List.map_cons, List.map_nil, List.isEmpty_nil, List.isEmpty_cons, List.eraseIdx_zero, List.tail_cons, List.eraseIdx_cons_zero, HO.lst.injEq, HO.tup.injEq, HO.dK.injEq, HO.frz.injEq, ne_eq, gTupH, gCons, gNil, wipe, tYes, upd_upd, and_assoc, List.getElem?_map, Option.map_some, isn_non_bool, isn_non_int, isn_non_str, isn_non_tuple, isn_non_list, isn_non_dict, isn_bl_bool, isn_bl_int, isn_bl_str, isn_bl_tuple, isn_bl_list, isn_bl_dict, isn_int_bool, isn_int_int, isn_int_str, isn_int_tuple, isn_int_list, isn_int_dict, isn_str_bool, isn_str_int, isn_str_str, isn_str_tuple, isn_str_list, isn_str_dict, isn_lst_bool, isn_lst_int, isn_lst_str, isn_lst_tuple, isn_lst_list, isn_lst_dict, isn_tup_bool, isn_tup_int, isn_tup_str, isn_tup_tuple, isn_tup_list, isn_tup_dict, isn_dct_bool, isn_dct_int, isn_dct_str, isn_dct_tuple, isn_dct_list, isn_dct_dict, okn_bool, okn_int, okn_str, okn_tuple, okn_list, okn_dict, cIsi, tyT_n, tyT_b, tyT_i, tyT_s, tyT_r, V.ty.injEq, tSl, tPart, tNoPart, rSlF, gName, List.length_map, Int.reduceToNat, cpow18, Wd.s_inj, ws_num, ws_field, ws_add, ws_sub, ws_mul, ws_eq, ws_lt, ws_gt, ws_le, ws_ge, ws_and, ws_or, ws_not, rInTab, rIxTab, rCatH, rCat, rInT, cSortD, cMaxL, cMinL, rNeNilI, inV, flatV, List.any_cons, List.any_nil, List.all_cons, List.all_nil, eqV, Bool.and_true, Bool.and_false, Bool.true_and, Bool.false_and, Bool.or_false, Bool.false_or, Bool.or_true, Bool.true_or, Wd.beq_s, sz0, sz1, sz2, sz3, sz4, sz5, sz6, isc_eq, isc_lt, isc_gt, isc_le, isc_ge, isc_and, isc_or, isc_not, isl_and, isl_or, isl_not, rSetD, rUnion, rSortTx, rRep, hd2]
              intro q hq
              have sq := same_new (o := .tup [V.non, V.non]) hq
              obtain ⟨sa, hsa, tsa⟩ : ∃ sa, (valV (e2.map ent) (Sum.inr f : Key)).getD (V.ref q) = .ref sa ∧ upd H4 q (.tup [.non, .non]) sa = some (.tup [oi (lookS (e2.map dr) f).1, oi (lookS (e2.map dr) f).2]) := by
                rcases look_ent e2 f with ⟨l1, l2⟩ | ⟨e, he, l1, l2, l3⟩
                · rw [l1, l2]; exact ⟨q, rfl, upd_same⟩
                · rw [l1, l2]; exact ⟨e.2.1, rfl, sq _ _ (D2c.tups e he)⟩
              have hd2' := sq _ _ hd2
              simp only [tVar, tC, tOp, rI, rI0, rU, tTest, tB, tAnd, tOr, tNot, tAndV, tOrV, tNotV, tIf, tNil, tCons, tTup, tLst, tCB, tSeq, tAsg, gName, tRet, tRetN, tIfS, tNext, tDrop, tCall, tUn, tPar, CMul, CDiv, V.int.injEq, V.bl.injEq, V.ref.injEq, V.str.injEq, Option.some.injEq, List.cons.injEq, and_true, true_and, and_false, false_and, or_false, false_or, or_true, true_or, exists_eq_left', exists_eq_left, exists_and_left, exists_and_right, exists_eq', exists_eq, exists_false, exists_const, List.getElem?_cons_succ, List.getElem?_cons_zero, List.set_cons_succ, List.set_cons_zero, List.length_cons, List.length_nil, List.cons_append, List.nil_append, List.append_nil, reduceCtorEq, Int.reduceLT, Int.reduceLE, Int.reduceNeg, Int.reducePow, Int.reduceSub, Int.reduceAdd, Nat.reduceAdd, Nat.reduceLeDiff, Bool.not_true, Bool.not_false, decide_true, decide_false, Bool.false_eq_true, ↓reduceIte, upd_same, not_true_eq_false, not_false_eq_true, lsO_l, lsO_f, tpO_t, tpO_f, dkO_d, dkO_f, keyO_i, keyO_s, rIxH, rIxU, cLenL, cLenT, cListL, cListT, cTupL, cIntB, cAll, rEqNilI, rEq, rNe, scal_ii, scal_ss, scal_bb, scal_nn, scal_ni, scal_in, scal_ns, scal_sn, gSub, rSetL, ixs0, ixs1, ixs2, seq0, at0, at1, at2, at3, tBM, tBM0, rAppend, rPopAt, tyV_list, tGet2, tGetI, sPut, tMG, rTIdx, tyTup, tTupF, cx_K, cx_w, ex_map_int, ex_nil_int, ex_cons_int, List.map_cons, List.map_nil, List.isEmpty_nil, List.isEmpty_cons, List.eraseIdx_zero, List.tail_cons, List.eraseIdx_cons_zero, HO.lst.injEq, HO.tup.injEq, HO.dK.injEq, HO.frz.injEq, ne_eq, gTupH, gCons, gNil, wipe, tYes, upd_upd, and_assoc, List.getElem?_map, Option.map_some, isn_non_bool, isn_non_int, isn_non_str, isn_non_tuple, isn_non_list, isn_non_dict, isn_bl_bool, isn_bl_int, isn_bl_str, isn_bl_tuple, isn_bl_list, isn_bl_dict, isn_int_bool, isn_int_int, isn_int_str, isn_int_tuple, isn_int_list, isn_int_dict, isn_str_bool, isn_str_int, isn_str_str, isn_str_tuple, isn_str_list, isn_str_dict, isn_lst_bool, isn_lst_int, isn_lst_str, isn_lst_tuple, isn_lst_list, isn_lst_dict, isn_tup_bool, isn_tup_int, isn_tup_str, isn_tup_tuple, isn_tup_list, isn_tup_dict, isn_dct_bool, isn_dct_int, isn_dct_str, isn_dct_tuple, isn_dct_list, isn_dct_dict, okn_bool, okn_int, okn_str, okn_tuple, okn_list, okn_dict, cIsi, tyT_n, tyT_b, tyT_i, tyT_s, tyT_r, V.ty.injEq, tSl, tPart, tNoPart, rSlF, gName, List.length_map, Int.reduceToNat, cpow18, Wd.s_inj, ws_num, ws_field, ws_add, ws_sub, ws_mul, ws_eq, ws_lt, ws_gt, ws_le, ws_ge, ws_and, ws_or, ws_not, rInTab, rIxTab, rCatH, rCat, rInT, cSortD, cMaxL, cMinL, rNeNilI, inV, flatV, List.any_cons, List.any_nil, List.all_cons, List.all_nil, eqV, Bool.and_true, Bool.and_false, Bool.true_and, Bool.false_and, Bool.or_false, Bool.false_or, Bool.or_true, Bool.true_or, Wd.beq_s, sz0, sz1, sz2, sz3, sz4, sz5, sz6, isc_eq, isc_lt, isc_gt, isc_le, isc_ge, isc_and, isc_or, isc_not, isl_and, isl_or, isl_not, rSetD, rUnion, rSortTx, rRep, hd2', hsa, tsa]
              exact s4.trans sq
            rintro σ' H5 ⟨rfl, s5⟩
            generalize hs1 : lookS (e1.map dr) f = s1 at *
            generalize hs2 : lookS (e2.map dr) f = s2 at *
            refine ⟨fun σ' H6 => ∃ (la : Addr) (z10 : Option V), σ' = [some (.ref d1), some (.ref d2), some (.ref fd), some (.str f), some (oi s1.1), some (oi s1.2), some (oi s2.1), some (oi s2.2), some (.ref la), x9, z10] ∧ Same H3 H6 ∧ H6 la = some (.lst ((somes [s1.1, s2.1]).map V.int)), ?_, ?_⟩
            · simp only [tVar, tC, tOp, rI, rI0, rU, tTest, tB, tAnd, tOr, tNot, tAndV, tOrV, tNotV, tIf, tNil, tCons, tTup, tLst, tCB, tSeq, tAsg, gName, tRet, tRetN, tIfS, tNext, tDrop, tCall, tUn, tPar, CMul, CDiv, V.int.injEq, V.bl.injEq, V.ref.injEq, V.str.injEq, Option.some.injEq, List.cons.injEq, and_true, true_and, and_false, false_and, or_false, false_or, or_true, true_or, exists_eq_left', exists_eq_left, exists_and_left, exists_and_right, exists_eq', exists_eq, exists_false, exists_const, List.getElem?_cons_succ, List.getElem?_cons_zero, List.set_cons_succ, List.set_cons_zero, List.length_cons, List.length_nil, List.cons_append, List.nil_append, List.append_nil, reduceCtorEq, Int.reduceLT, Int.reduceLE, Int.reduceNeg, Int.reducePow, Int.reduceSub, Int.reduceAdd, Nat.reduceAdd, Nat.reduceLeDiff, Bool.not_true, Bool.not_false, decide_true, decide_false, Bool.false_eq_true, ↓reduceIte, upd_same, not_true_eq_false, not_false_eq_true, lsO_l, lsO_f, tpO_t, tpO_f, dkO_d, dkO_f, keyO_i, keyO_s, rIxH, rIxU, cLenL, cLenT, cListL, cListT, cTupL, cIntB, cAll, rEqNilI, rEq, rNe, scal_ii, scal_ss, scal_bb, scal_nn, scal_ni, scal_in, scal_ns, scal_sn, gSub, rSetL, ixs0, ixs1, ixs2, seq0, at0, at1, at2, at3, tBM, tBM0, rAppend, rPopAt, tyV_list, tGet2, tGetI, sPut, tMG, rTIdx, tyTup, tTupF, cx_K, cx_w, ex_map_int, ex_nil_int, ex_cons_int, List.map_cons, List.map_nil, List.isEmpty_nil, List.isEmpty_cons, List.eraseIdx_zero, List.tail_cons, List.eraseIdx_cons_zero, HO.lst.injEq, HO.tup.injEq, HO.dK.injEq, HO.frz.injEq, ne_eq, gTupH, gCons, gNil, wipe, tYes, upd_upd, and_assoc, List.getElem?_map, Option.map_some, isn_non_bool, isn_non_int, isn_non_str, isn_non_tuple, isn_non_list, isn_non_dict, isn_bl_bool, isn_bl_int, isn_bl_str, isn_bl_tuple, isn_bl_list, isn_bl_dict, isn_int_bool, isn_int_int, isn_int_str, isn_int_tuple, isn_int_list, isn_int_dict, isn_str_bool, isn_str_int, isn_str_str, isn_str_tuple, isn_str_list, isn_str_dict, isn_lst_bool, isn_lst_int, isn_lst_str, isn_lst_tuple, isn_lst_list, isn_lst_dict, isn_tup_bool, isn_tup_int, isn_tup_str, isn_tup_tuple, isn_tup_list, isn_tup_dict, isn_dct_bool, isn_dct_int, isn_dct_str, isn_dct_tuple, isn_dct_list, isn_dct_dict, okn_bool, okn_int, okn_str, okn_tuple, okn_list, okn_dict, cIsi, tyT_n, tyT_b, tyT_i, tyT_s, tyT_r, V.ty.injEq, tSl, tPart, tNoPart, rSlF, gName, List.length_map, Int.reduceToNat, cpow18, Wd.s_inj, ws_num, ws_field, ws_add, ws_sub, ws_mul, ws_eq, ws_lt, ws_gt, ws_le, ws_ge, ws_and, ws_or, ws_not, rInTab, rIxTab, rCatH, rCat, rInT, cSortD, cMaxL, cMinL, rNeNilI, inV, flatV, List.any_cons, List.any_nil, List.all_cons, List.all_nil, eqV, Bool.and_true, Bool.and_false, Bool.true_and, Bool.false_and, Bool.or_false, Bool.false_or, Bool.or_true, Bool.true_or, Wd.beq_s, sz0, sz1, sz2, sz3, sz4, sz5, sz6, isc_eq, isc_lt, isc_gt, isc_le, isc_ge, isc_and, isc_or, isc_not, isl_and, isl_or, isl_not, rSetD, rUnion, rSortTx, rRep, tLc_eq, iTup]
              intro q hq
              refine ⟨⟨_, .inl (.inl upd_same)⟩, somes_lc2 (os := [s1.1, s2.1]) upd_same (by simp) fun D H' S e => ⟨D, rfl, (s5.trans (same_new hq)).trans S, e⟩⟩
            rintro σ' H6 ⟨la, z10, rfl, s6, hla⟩
            refine ⟨fun σ' H7 => ∃ (ha : Addr) (z10 : Option V), σ' = [some (.ref d1), some (.ref d2), some (.ref fd), some (.str f), some (oi s1.1), some (oi s1.2), some (oi s2.1), some (oi s2.2), some (.ref la), some (.ref ha), z10] ∧ Same H6 H7 ∧ H7 ha = some (.lst ((somes [s1.2, s2.2]).map V.int)), ?_, ?_⟩
            · simp only [tVar, tC, tOp, rI, rI0, rU, tTest, tB, tAnd, tOr, tNot, tAndV, tOrV, tNotV, tIf, tNil, tCons, tTup, tLst, tCB, tSeq, tAsg, gName, tRet, tRetN, tIfS, tNext, tDrop, tCall, tUn, tPar, CMul, CDiv, V.int.injEq, V.bl.injEq, V.ref.injEq, V.str.injEq, Option.some.injEq, List.cons.injEq, and_true, true_and, and_false, false_and, or_false, false_or, or_true, true_or, exists_eq_left', exists_eq_left, exists_and_left, exists_and_right, exists_eq', exists_eq, exists_false, exists_const, List.getElem?_cons_succ, List.getElem?_cons_zero, List.set_cons_succ, List.set_cons_zero, List.length_cons, List.length_nil, List.cons_append, List.nil_append, List.append_nil, reduceCtorEq, Int.reduceLT, Int.reduceLE, Int.reduceNeg, Int.reducePow, Int.reduceSub, Int.reduceAdd, Nat.reduceAdd, Nat.reduceLeDiff, Bool.not_true, Bool.not_false, decide_true, decide_false, Bool.false_eq_true, ↓reduceIte, upd_same, not_true_eq_false, not_false_eq_true, lsO_l, lsO_f, tpO_t, tpO_f, dkO_d, dkO_f, keyO_i, keyO_s, rIxH, rIxU, cLenL, cLenT, cListL, cListT, cTupL, cIntB, cAll, rEqNilI, rEq, rNe, scal_ii, scal_ss, scal_bb, scal_nn, scal_ni, scal_in, scal_ns, scal_sn, gSub, rSetL, ixs0, ixs1, ixs2, seq0, at0, at1, at2, at3, tBM, tBM0, rAppend, rPopAt, tyV_list, tGet2, tGetI, sPut, tMG, rTIdx, tyTup, tTupF, cx_K, cx_w, ex_map_int, ex_nil_int, ex_cons_int, List.map_cons, List.map_nil, List.isEmpty_nil, List.isEmpty_cons, List.eraseIdx_zero, List.tail_cons, List.eraseIdx_cons_zero, HO.lst.injEq, HO.tup.injEq, HO.dK.injEq, HO.frz.injEq, ne_eq, gTupH, gCons, gNil, wipe, tYes, upd_upd, and_assoc, List.getElem?_map, Option.map_some, isn_non_bool, isn_non_int, isn_non_str, isn_non_tuple, isn_non_list, isn_non_dict, isn_bl_bool, isn_bl_int, isn_bl_str, isn_bl_tuple, isn_bl_list, isn_bl_dict, isn_int_bool, isn_int_int, isn_int_str, isn_int_tuple, isn_int_list, isn_int_dict, isn_str_bool, isn_str_int, isn_str_str, isn_str_tuple, isn_str_list, isn_str_dict, isn_lst_bool, isn_lst_int, isn_lst_str, isn_lst_tuple, isn_lst_list, isn_lst_dict, isn_tup_bool, isn_tup_int, isn_tup_str, isn_tup_tuple, isn_tup_list, isn_tup_dict, isn_dct_bool, isn_dct_int, isn_dct_str, isn_dct_tuple, isn_dct_list, isn_dct_dict, okn_bool, okn_int, okn_str, okn_tuple, okn_list, okn_dict, cIsi, tyT_n, tyT_b, tyT_i, tyT_s, tyT_r, V.ty.injEq, tSl, tPart, tNoPart, rSlF, gName, List.length_map, Int.reduceToNat, cpow18, Wd.s_inj, ws_num, ws_field, ws_add, ws_sub, ws_mul, ws_eq, ws_lt, ws_gt, ws_le, ws_ge, ws_and, ws_or, ws_not, rInTab, rIxTab, rCatH, rCat, rInT, cSortD, cMaxL, cMinL, rNeNilI, inV, flatV, List.any_cons, List.any_nil, List.all_cons, List.all_nil, eqV, Bool.and_true, Bool.and_false, Bool.true_and, Bool.false_and, Bool.or_false, Bool.false_or, Bool.or_true, Bool.true_or, Wd.beq_s, sz0, sz1, sz2, sz3, sz4, sz5, sz6, isc_eq, isc_lt, isc_gt, isc_le, isc_ge, isc_and, isc_or, isc_not, isl_and, isl_or, isl_not, rSetD, rUnion, rSortTx, rRep, tLc_eq, iTup]
              intro q hq
              refine ⟨⟨_, .inl (.inl upd_same)⟩, somes_lc2 (os := [s1.2, s2.2]) upd_same (by simp) fun D H' S e => ⟨D, rfl, (same_new hq).trans S, e⟩⟩
            rintro σ' H7 ⟨ha, z10, rfl, s7, hha⟩
            have hla7 := s7 _ _ hla
            have k7 : Keep [fd] H9 H7 := (k2.trans (Keep.ofSame s6)).trans (Keep.ofSame s7)
            have D7 := (D.same s6).same s7
            have okf : PyData.strOk f = true := by
              rcases (ymem f).mp fin with m | m
              · rw [nm_dr] at m
                obtain ⟨e, he, rfl⟩ := List.mem_map.mp m
                exact D1.oks e he
              · rw [nm_dr] at m
                obtain ⟨e, he, rfl⟩ := List.mem_map.mp m
                exact D2.oks e he
            refine ⟨fun σ' H8 => ∃ (pa : Addr), σ' = [some (.ref d1), some (.ref d2), some (.ref fd), some (.str f), some (oi s1.1), some (oi s1.2), some (oi s2.1), some (oi s2.2), some (.ref la), some (.ref ha), z10] ∧ DBg gO H8 fd (putE es f pa (narrow s1 s2)) ∧ Keep [fd] H7 H8, ?_, ?_⟩
            · have fin8 : ∀ (pa : Addr) (H8 : Hp), Same H7 H8 → H8 pa = some (.tup [oi (maxO s1.1 s2.1), oi (minO s1.2 s2.2)]) → ∃ (x : List (Key × V)), H8 fd = some (.dK x) ∧ x.length < sizeLine ∧ (∃ q, DBg gO (upd H8 fd (.dK (putK x (Sum.inr f) (.ref pa)))) fd (putE es f q (narrow s1 s2))) ∧ Keep [fd] H7 (upd H8 fd (.dK (putK x (Sum.inr f) (.ref pa)))) := fun pa H8 S8 h8 => by
                have D8 := D7.same S8
                exact ⟨_, D8.at_, szl' (by rw [List.length_map]; omega), ⟨pa, D8.put (Same.refl _) h8 okf⟩, (Keep.ofSame S8).upd (by simp)⟩
              simp only [tVar, tC, tOp, rI, rI0, rU, tTest, tB, tAnd, tOr, tNot, tAndV, tOrV, tNotV, tIf, tNil, tCons, tTup, tLst, tCB, tSeq, tAsg, gName, tRet, tRetN, tIfS, tNext, tDrop, tCall, tUn, tPar, CMul, CDiv, V.int.injEq, V.bl.injEq, V.ref.injEq, V.str.injEq, Option.some.injEq, List.cons.injEq, and_true, true_and, and_false, false_and, or_false, false_or, or_true, true_or, exists_eq_left', exists_eq_left, exists_and_left, exists_and_right, exists_eq', exists_eq, exists_false, exists_const, List.getElem?_cons_succ, List.getElem?_cons_zero, List.set_cons_succ, List.set_cons_zero, List.length_cons, List.length_nil, List.cons_append, List.nil_append, List.append_nil, reduceCtorEq, Int.reduceLT, Int.reduceLE, Int.reduceNeg, Int.reducePow, Int.reduceSub, Int.reduceAdd, Nat.reduceAdd, Nat.reduceLeDiff, Bool.not_true, Bool.not_false, decide_true, decide_false, Bool.false_eq_true, ↓reduceIte, upd_same, not_true_eq_false, not_false_eq_true, lsO_l, lsO_f, tpO_t, tpO_f, dkO_d, dkO_f, keyO_i, keyO_s, rIxH, rIxU, cLenL, cLenT, cListL, cListT, cTupL, cIntB, cAll, rEqNilI, rEq, rNe, scal_ii, scal_ss, scal_bb, scal_nn, scal_ni, scal_in, scal_ns, scal_sn, gSub, rSetL, ixs0, ixs1, ixs2, seq0, at0, at1, at2, at3, tBM, tBM0, rAppend, rPopAt, tyV_list, tGet2, tGetI, sPut, tMG, rTIdx, tyTup, tTupF, cx_K, cx_w, ex_map_int, ex_nil_int, ex_cons_int, List.map_cons, List.map_nil, List.isEmpty_nil, List.isEmpty_cons, List.eraseIdx_zero, List.tail_cons, List.eraseIdx_cons_zero, HO.lst.injEq, HO.tup.injEq, HO.dK.injEq, HO.frz.injEq, ne_eq, gTupH, gCons, gNil, wipe, tYes, upd_upd, and_assoc, List.getElem?_map, Option.map_some, isn_non_bool, isn_non_int, isn_non_str, isn_non_tuple, isn_non_list, isn_non_dict, isn_bl_bool, isn_bl_int, isn_bl_str, isn_bl_tuple, isn_bl_list, isn_bl_dict, isn_int_bool, isn_int_int, isn_int_str, isn_int_tuple, isn_int_list, isn_int_dict, isn_str_bool, isn_str_int, isn_str_str, isn_str_tuple, isn_str_list, isn_str_dict, isn_lst_bool, isn_lst_int, isn_lst_str, isn_lst_tuple, isn_lst_list, isn_lst_dict, isn_tup_bool, isn_tup_int, isn_tup_str, isn_tup_tuple, isn_tup_list, isn_tup_dict, isn_dct_bool, isn_dct_int, isn_dct_str, isn_dct_tuple, isn_dct_list, isn_dct_dict, okn_bool, okn_int, okn_str, okn_tuple, okn_list, okn_dict, cIsi, tyT_n, tyT_b, tyT_i, tyT_s, tyT_r, V.ty.injEq, tSl, tPart, tNoPart, rSlF, gName, List.length_map, Int.reduceToNat, cpow18, Wd.s_inj, ws_num, ws_field, ws_add, ws_sub, ws_mul, ws_eq, ws_lt, ws_gt, ws_le, ws_ge, ws_and, ws_or, ws_not, rInTab, rIxTab, rCatH, rCat, rInT, cSortD, cMaxL, cMinL, rNeNilI, inV, flatV, List.any_cons, List.any_nil, List.all_cons, List.all_nil, eqV, Bool.and_true, Bool.and_false, Bool.true_and, Bool.false_and, Bool.or_false, Bool.false_or, Bool.or_true, Bool.true_or, Wd.beq_s, sz0, sz1, sz2, sz3, sz4, sz5, sz6, isc_eq, isc_lt, isc_gt, isc_le, isc_ge, isc_and, isc_or, isc_not, isl_and, isl_or, isl_not, rSetD, rUnion, rSortTx, rRep]
              intro p hp
              have nD := ne_of_none hla7 hp
              have nE := ne_of_none hha hp
              simp only [tVar, tC, tOp, rI, rI0, rU, tTest, tB, tAnd, tOr, tNot, tAndV, tOrV, tNotV, tIf, tNil, tCons, tTup, tLst, tCB, tSeq, tAsg, gName, tRet, tRetN, tIfS, tNext, tDrop, tCall, tUn, tPar, CMul, CDiv, V.int.injEq, V.bl.injEq, V.ref.injEq, V.str.injEq, Option.some.injEq, List.cons.injEq, and_true, true_and, and_false, false_and, or_false, false_or, or_true, true_or, exists_eq_left', exists_eq_left, exists_and_left, exists_and_right, exists_eq', exists_eq, exists_false, exists_const, List.getElem?_cons_succ, List.getElem?_cons_zero, List.set_cons_succ, List.set_cons_zero, List.length_cons, List.length_nil, List.cons_append, List.nil_append, List.append_nil, reduceCtorEq, Int.reduceLT, Int.reduceLE, Int.reduceNeg, Int.reducePow, Int.reduceSub, Int.reduceAdd, Nat.reduceAdd, Nat.reduceLeDiff, Bool.not_true, Bool.not_false, decide_true, decide_false, Bool.false_eq_true, ↓reduceIte, upd_same, not_true_eq_false, not_false_eq_true, lsO_l, lsO_f, tpO_t, tpO_f, dkO_d, dkO_f, keyO_i, keyO_s, rIxH, rIxU, cLenL, cLenT, cListL, cListT, cTupL, cIntB, cAll, rEqNilI, rEq, rNe, scal_ii, scal_ss, scal_bb, scal_nn, scal_ni, scal_in, scal_ns, scal_sn, gSub, rSetL, ixs0, ixs1, ixs2, seq0, at0, at1, at2, at3, tBM, tBM0, rAppend, rPopAt, tyV_list, tGet2, tGetI, sPut, tMG, rTIdx, tyTup, tTupF, cx_K, cx_w, ex_map_int, ex_nil_int, ex_cons_int, List.map_cons, List.map_nil, List.isEmpty_nil, List.isEmpty_cons, List.eraseIdx_zero, List.tail_cons, List.eraseIdx_cons_zero, HO.lst.injEq, HO.tup.injEq, HO.dK.injEq, HO.frz.injEq, ne_eq, gTupH, gCons, gNil, wipe, tYes, upd_upd, and_assoc, List.getElem?_map, Option.map_some, isn_non_bool, isn_non_int, isn_non_str, isn_non_tuple, isn_non_list, isn_non_dict, isn_bl_bool, isn_bl_int, isn_bl_str, isn_bl_tuple, isn_bl_list, isn_bl_dict, isn_int_bool, isn_int_int, isn_int_str, isn_int_tuple, isn_int_list, isn_int_dict, isn_str_bool, isn_str_int, isn_str_str, isn_str_tuple, isn_str_list, isn_str_dict, isn_lst_bool, isn_lst_int, isn_lst_str, isn_lst_tuple, isn_lst_list, isn_lst_dict, isn_tup_bool, isn_tup_int, isn_tup_str, isn_tup_tuple, isn_tup_list, isn_tup_dict, isn_dct_bool, isn_dct_int, isn_dct_str, isn_dct_tuple, isn_dct_list, isn_dct_dict, okn_bool, okn_int, okn_str, okn_tuple, okn_list, okn_dict, cIsi, tyT_n, tyT_b, tyT_i, tyT_s, tyT_r, V.ty.injEq, tSl, tPart, tNoPart, rSlF, gName, List.length_map, Int.reduceToNat, cpow18, Wd.s_inj, ws_num, ws_field, ws_add, ws_sub, ws_mul, ws_eq, ws_lt, ws_gt, ws_le, ws_ge, ws_and, ws_or, ws_not, rInTab, rIxTab, rCatH, rCat, rInT, cSortD, cMaxL, cMinL, rNeNilI, inV, flatV, List.any_cons, List.any_nil, List.all_cons, List.all_nil, eqV, Bool.and_true, Bool.and_false, Bool.true_and, Bool.false_and, Bool.or_false, Bool.false_or, Bool.or_true, Bool.true_or, Wd.beq_s, sz0, sz1, sz2, sz3, sz4, sz5, sz6, isc_eq, isc_lt, isc_gt, isc_le, isc_ge, isc_and, isc_or, isc_not, isl_and, isl_or, isl_not, rSetD, rUnion, rSortTx, rRep, upd_ne nD, upd_ne nE, hla7, hha]
              split
              · rename_i c1
                refine ⟨somes_pos c1, fun m hm hx p1 hp1 => ?_⟩
                have nE1 : ha ≠ p1 := ne_of_none ((upd_ne nE).trans hha) hp1
                simp only [tVar, tC, tOp, rI, rI0, rU, tTest, tB, tAnd, tOr, tNot, tAndV, tOrV, tNotV, tIf, tNil, tCons, tTup, tLst, tCB, tSeq, tAsg, gName, tRet, tRetN, tIfS, tNext, tDrop, tCall, tUn, tPar, CMul, CDiv, V.int.injEq, V.bl.injEq, V.ref.injEq, V.str.injEq, Option.some.injEq, List.cons.injEq, and_true, true_and, and_false, false_and, or_false, false_or, or_true, true_or, exists_eq_left', exists_eq_left, exists_and_left, exists_and_right, exists_eq', exists_eq, exists_false, exists_const, List.getElem?_cons_succ, List.getElem?_cons_zero, List.set_cons_succ, List.set_cons_zero, List.length_cons, List.length_nil, List.cons_append, List.nil_append, List.append_nil, reduceCtorEq, Int.reduceLT, Int.reduceLE, Int.reduceNeg, Int.reducePow, Int.reduceSub, Int.reduceAdd, Nat.reduceAdd, Nat.reduceLeDiff, Bool.not_true, Bool.not_false, decide_true, decide_false, Bool.false_eq_true, ↓reduceIte, upd_same, not_true_eq_false, not_false_eq_true, lsO_l, lsO_f, tpO_t, tpO_f, dkO_d, dkO_f, keyO_i, keyO_s, rIxH, rIxU, cLenL, cLenT, cListL, cListT, cTupL, cIntB, cAll, rEqNilI, rEq, rNe, scal_ii, scal_ss, scal_bb, scal_nn, scal_ni, scal_in, scal_ns, scal_sn, gSub, rSetL, ixs0, ixs1, ixs2, seq0, at0, at1, at2, at3, tBM, tBM0, rAppend, rPopAt, tyV_list, tGet2, tGetI, sPut, tMG, rTIdx, tyTup, tTupF, cx_K, cx_w, ex_map_int, ex_nil_int, ex_cons_int, List.map_cons, List.map_nil, List.isEmpty_nil, List.isEmpty_cons, List.eraseIdx_zero, List.tail_cons, List.eraseIdx_cons_zero, HO.lst.injEq, HO.tup.injEq, HO.dK.injEq, HO.frz.injEq, ne_eq, gTupH, gCons, gNil, wipe, tYes, upd_upd, and_assoc, List.getElem?_map, Option.map_some, isn_non_bool, isn_non_int, isn_non_str, isn_non_tuple, isn_non_list, isn_non_dict, isn_bl_bool, isn_bl_int, isn_bl_str, isn_bl_tuple, isn_bl_list, isn_bl_dict, isn_int_bool, isn_int_int, isn_int_str, isn_int_tuple, isn_int_list, isn_int_dict, isn_str_bool, isn_str_int, isn_str_str, isn_str_tuple, isn_str_list, isn_str_dict, isn_lst_bool, isn_lst_int, isn_lst_str, isn_lst_tuple, isn_lst_list, isn_lst_dict, isn_tup_bool, isn_tup_int, isn_tup_str, isn_tup_tuple, isn_tup_list, isn_tup_dict, isn_dct_bool, isn_dct_int, isn_dct_str, isn_dct_tuple, isn_dct_list, isn_dct_dict, okn_bool, okn_int, okn_str, okn_tuple, okn_list, okn_dict, cIsi, tyT_n, tyT_b, tyT_i, tyT_s, tyT_r, V.ty.injEq, tSl, tPart, tNoPart, rSlF, gName, List.length_map, Int.reduceToNat, cpow18, Wd.s_inj, ws_num, ws_field, ws_add, ws_sub, ws_mul, ws_eq, ws_lt, ws_gt, ws_le, ws_ge, ws_and, ws_or, ws_not, rInTab, rIxTab, rCatH, rCat, rInT, cSortD, cMaxL, cMinL, rNeNilI, inV, flatV, List.any_cons, List.any_nil, List.all_cons, List.all_nil, eqV, Bool.and_true, Bool.and_false, Bool.true_and, Bool.false_and, Bool.or_false, Bool.false_or, Bool.or_true, Bool.true_or, Wd.beq_s, sz0, sz1, sz2, sz3, sz4, sz5, sz6, isc_eq, isc_lt, isc_gt, isc_le, isc_ge, isc_and, isc_or, isc_not, isl_and, isl_or, isl_not, rSetD, rUnion, rSortTx, rRep, upd_ne nE1, upd_ne nE, hha]
                split
                · rename_i c2
                  refine ⟨somes_pos c2, fun m2 hm2 hx2 p2 hp2 => ?_⟩
                  exact fin8 p2 _ (((same_new hp).trans (same_new hp1)).trans (same_new hp2)) (by rw [upd_same, maxS_int hm hx, minS_int hm2 hx2])
                · rename_i c2
                  intro p2 hp2
                  exact fin8 p2 _ (((same_new hp).trans (same_new hp1)).trans (same_new hp2)) (by rw [upd_same, maxS_int hm hx, minS_non c2])
              · rename_i c1
                intro p1 hp1
                have nE1 : ha ≠ p1 := ne_of_none ((upd_ne nE).trans hha) hp1
                simp only [tVar, tC, tOp, rI, rI0, rU, tTest, tB, tAnd, tOr, tNot, tAndV, tOrV, tNotV, tIf, tNil, tCons, tTup, tLst, tCB, tSeq, tAsg, gName, tRet, tRetN, tIfS, tNext, tDrop, tCall, tUn, tPar, CMul, CDiv, V.int.injEq, V.bl.injEq, V.ref.injEq, V.str.injEq, Option.some.injEq, List.cons.injEq, and_true, true_and, and_false, false_and, or_false, false_or, or_true, true_or, exists_eq_left', exists_eq_left, exists_and_left, exists_and_right, exists_eq', exists_eq, exists_false, exists_const, List.getElem?_cons_succ, List.getElem?_cons_zero, List.set_cons_succ, List.set_cons_zero, List.length_cons, List.length_nil, List.cons_append, List.nil_append, List.append_nil, reduceCtorEq, Int.reduceLT, Int.reduceLE, Int.reduceNeg, Int.reducePow, Int.reduceSub, Int.reduceAdd, Nat.reduceAdd, Nat.reduceLeDiff, Bool.not_true, Bool.not_false, decide_true, decide_false, Bool.false_eq_true, ↓reduceIte, upd_same, not_true_eq_false, not_false_eq_true, lsO_l, lsO_f, tpO_t, tpO_f, dkO_d, dkO_f, keyO_i, keyO_s, rIxH, rIxU, cLenL, cLenT, cListL, cListT, cTupL, cIntB, cAll, rEqNilI, rEq, rNe, scal_ii, scal_ss, scal_bb, scal_nn, scal_ni, scal_in, scal_ns, scal_sn, gSub, rSetL, ixs0, ixs1, ixs2, seq0, at0, at1, at2, at3, tBM, tBM0, rAppend, rPopAt, tyV_list, tGet2, tGetI, sPut, tMG, rTIdx, tyTup, tTupF, cx_K, cx_w, ex_map_int, ex_nil_int, ex_cons_int, List.map_cons, List.map_nil, List.isEmpty_nil, List.isEmpty_cons, List.eraseIdx_zero, List.tail_cons, List.eraseIdx_cons_zero, HO.lst.injEq, HO.tup.injEq, HO.dK.injEq, HO.frz.injEq, ne_eq, gTupH, gCons, gNil, wipe, tYes, upd_upd, and_assoc, List.getElem?_map, Option.map_some, isn_non_bool, isn_non_int, isn_non_str, isn_non_tuple, isn_non_list, isn_non_dict, isn_bl_bool, isn_bl_int, isn_bl_str, isn_bl_tuple, isn_bl_list, isn_bl_dict, isn_int_bool, isn_int_int, isn_int_str, isn_int_tuple, isn_int_list, isn_int_dict, isn_str_bool, isn_str_int, isn_str_str, isn_str_tuple, isn_str_list, isn_str_dict, isn_lst_bool, isn_lst_int, isn_lst_str, isn_lst_tuple, isn_lst_list, isn_lst_dict, isn_tup_bool, isn_tup_int, isn_tup_str, isn_tup_tuple, isn_tup_list, isn_tup_dict, isn_dct_bool, isn_dct_int, isn_dct_str, isn_dct_tuple, isn_dct_list, isn_dct_dict, okn_bool, okn_int, okn_str, okn_tuple, okn_list, okn_dict, cIsi, tyT_n, tyT_b, tyT_i, tyT_s, tyT_r, V.ty.injEq, tSl, tPart, tNoPart, rSlF, gName, List.length_map, Int.reduceToNat, cpow18, Wd.s_inj, ws_num, ws_field, ws_add, ws_sub, ws_mul, ws_eq, ws_lt, ws_gt, ws_le, ws_ge, ws_and, ws_or, ws_not, rInTab, rIxTab, rCatH, rCat, rInT, cSortD, cMaxL, cMinL, rNeNilI, inV, flatV, List.any_cons, List.any_nil, List.all_cons, List.all_nil, eqV, Bool.and_true, Bool.and_false, Bool.true_and, Bool.false_and, Bool.or_false, Bool.false_or, Bool.or_true, Bool.true_or, Wd.beq_s, sz0, sz1, sz2, sz3, sz4, sz5, sz6, isc_eq, isc_lt, isc_gt, isc_le, isc_ge, isc_and, isc_or, isc_not, isl_and, isl_or, isl_not, rSetD, rUnion, rSortTx, rRep, upd_ne nE1, upd_ne nE, hha]
                split
                · rename_i c2
                  refine ⟨somes_pos c2, fun m2 hm2 hx2 p2 hp2 => ?_⟩
                  exact fin8 p2 _ (((same_new hp).trans (same_new hp1)).trans (same_new hp2)) (by rw [upd_same, maxS_non c1, minS_int hm2 hx2])
                · rename_i c2
                  intro p2 hp2
                  exact fin8 p2 _ (((same_new hp).trans (same_new hp1)).trans (same_new hp2)) (by rw [upd_same, maxS_non c1, minS_non c2])
            rintro σ' H8 ⟨pa, rfl, D8, k8⟩
            have nla : la ∉ [fd] := by
              simp only [List.mem_singleton]
              rintro rfl
              rw [D7.at_] at hla7
              cases hla7
            have nha : ha ∉ [fd] := by
              simp only [List.mem_singleton]
              rintro rfl
              rw [D7.at_] at hha
              cases hha
            have hla8 := k8 _ _ nla hla7
            have hha8 := k8 _ _ nha hha
            have k9 := k7.trans k8
            -- what stands behind the turn
            have next : ∀ (H9' : Hp), Same H8 H9' → emptyS (narrow s1 s2) = false → DBg gO H9' fd (putE es f pa (narrow s1 s2)) ∧ (putE es f pa (narrow s1 s2)).length ≤ i + 1 ∧ (∀ g, g ∈ nmS ((putE es f pa (narrow s1 s2)).map dr) ↔ g ∈ ys.take (i + 1)) ∧
                (∀ g ∈ nmS ((putE es f pa (narrow s1 s2)).map dr), lookS ((putE es f pa (narrow s1 s2)).map dr) g = narrow (lookS (e1.map dr) g) (lookS (e2.map dr) g) ∧ emptyS (narrow (lookS (e1.map dr) g) (lookS (e2.map dr) g)) = false) ∧ Keep [fd] H9 H9' := fun H9' S9 em0 => by
              have tk : ys.take (i + 1) = ys.take i ++ [f] := by rw [List.take_add_one, hf]; rfl
              refine ⟨D8.same S9, Nat.le_trans (putE_len ..) (by omega), fun g => ?_, fun g hg => ?_, k9.trans (Keep.ofSame S9)⟩
              · rw [putE_dr, put_nm, em g, tk, List.mem_append, List.mem_singleton]
                exact Or.comm
              · rw [putE_dr, put_nm] at hg
                rw [putE_dr, put_look]
                by_cases q : g = f
                · subst q
                  rw [if_pos rfl, hs1, hs2]
                  exact ⟨rfl, em0⟩
                · rw [if_neg q]
                  exact ev g (hg.resolve_left q)
            have dead : ∀ (H9' : Hp), Same H8 H9' → emptyS (narrow s1 s2) = true → Q .non H9' := fun H9' S9 em0 =>
              k _ none H9' (keepS (k9.trans (Keep.ofSame S9))) rfl ⟨f, (ymem f).mp fin, by rw [hs1, hs2]; exact em0⟩
            simp only [tVar, tC, tOp, rI, rI0, rU, tTest, tB, tAnd, tOr, tNot, tAndV, tOrV, tNotV, tIf, tNil, tCons, tTup, tLst, tCB, tSeq, tAsg, gName, tRet, tRetN, tIfS, tNext, tDrop, tCall, tUn, tPar, CMul, CDiv, V.int.injEq, V.bl.injEq, V.ref.injEq, V.str.injEq, Option.some.injEq, List.cons.injEq, and_true, true_and, and_false, false_and, or_false, false_or, or_true, true_or, exists_eq_left', exists_eq_left, exists_and_left, exists_and_right, exists_eq', exists_eq, exists_false, exists_const, List.getElem?_cons_succ, List.getElem?_cons_zero, List.set_cons_succ, List.set_cons_zero, List.length_cons, List.length_nil, List.cons_append, List.nil_append, List.append_nil, reduceCtorEq, Int.reduceLT, Int.reduceLE, Int.reduceNeg, Int.reducePow, Int.reduceSub, Int.reduceAdd, Nat.reduceAdd, Nat.reduceLeDiff, Bool.not_true, Bool.not_false, decide_true, decide_false, Bool.false_eq_true, ↓reduceIte, upd_same, not_true_eq_false, not_false_eq_true, lsO_l, lsO_f, tpO_t, tpO_f, dkO_d, dkO_f, keyO_i, keyO_s, rIxH, rIxU, cLenL, cLenT, cListL, cListT, cTupL, cIntB, cAll, rEqNilI, rEq, rNe, scal_ii, scal_ss, scal_bb, scal_nn, scal_ni, scal_in, scal_ns, scal_sn, gSub, rSetL, ixs0, ixs1, ixs2, seq0, at0, at1, at2, at3, tBM, tBM0, rAppend, rPopAt, tyV_list, tGet2, tGetI, sPut, tMG, rTIdx, tyTup, tTupF, cx_K, cx_w, ex_map_int, ex_nil_int, ex_cons_int, List.map_cons, List.map_nil, List.isEmpty_nil, List.isEmpty_cons, List.eraseIdx_zero, List.tail_cons, List.eraseIdx_cons_zero, HO.lst.injEq, HO.tup.injEq, HO.dK.injEq, HO.frz.injEq, ne_eq, gTupH, gCons, gNil, wipe, tYes, upd_upd, and_assoc, List.getElem?_map, Option.map_some, isn_non_bool, isn_non_int, isn_non_str, isn_non_tuple, isn_non_list, isn_non_dict, isn_bl_bool, isn_bl_int, isn_bl_str, isn_bl_tuple, isn_bl_list, isn_bl_dict, isn_int_bool, isn_int_int, isn_int_str, isn_int_tuple, isn_int_list, isn_int_dict, isn_str_bool, isn_str_int, isn_str_str, isn_str_tuple, isn_str_list, isn_str_dict, isn_lst_bool, isn_lst_int, isn_lst_str, isn_lst_tuple, isn_lst_list, isn_lst_dict, isn_tup_bool, isn_tup_int, isn_tup_str, isn_tup_tuple, isn_tup_list, isn_tup_dict, isn_dct_bool, isn_dct_int, isn_dct_str, isn_dct_tuple, isn_dct_list, isn_dct_dict, okn_bool, okn_int, okn_str, okn_tuple, okn_list, okn_dict, cIsi, tyT_n, tyT_b, tyT_i, tyT_s, tyT_r, V.ty.injEq, tSl, tPart, tNoPart, rSlF, gName, List.length_map, Int.reduceToNat, cpow18, Wd.s_inj, ws_num, ws_field, ws_add, ws_sub, ws_mul, ws_eq, ws_lt, ws_gt, ws_le, ws_ge, ws_and, ws_or, ws_not, rInTab, rIxTab, rCatH, rCat, rInT, cSortD, cMaxL, cMinL, rNeNilI, inV, flatV, List.any_cons, List.any_nil, List.all_cons, List.all_nil, eqV, Bool.and_true, Bool.and_false, Bool.true_and, Bool.false_and, Bool.or_false, Bool.false_or, Bool.or_true, Bool.true_or, Wd.beq_s, sz0, sz1, sz2, sz3, sz4, sz5, sz6, isc_eq, isc_lt, isc_gt, isc_le, isc_ge, isc_and, isc_or, isc_not, isl_and, isl_or, isl_not, rSetD, rUnion, rSortTx, rRep]
            intro p hp
            have nD := ne_of_none hla8 hp
            have nE := ne_of_none hha8 hp
            simp only [tVar, tC, tOp, rI, rI0, rU, tTest, tB, tAnd, tOr, tNot, tAndV, tOrV, tNotV, tIf, tNil, tCons, tTup, tLst, tCB, tSeq, tAsg, gName, tRet, tRetN, tIfS, tNext, tDrop, tCall, tUn, tPar, CMul, CDiv, V.int.injEq, V.bl.injEq, V.ref.injEq, V.str.injEq, Option.some.injEq, List.cons.injEq, and_true, true_and, and_false, false_and, or_false, false_or, or_true, true_or, exists_eq_left', exists_eq_left, exists_and_left, exists_and_right, exists_eq', exists_eq, exists_false, exists_const, List.getElem?_cons_succ, List.getElem?_cons_zero, List.set_cons_succ, List.set_cons_zero, List.length_cons, List.length_nil, List.cons_append, List.nil_append, List.append_nil, reduceCtorEq, Int.reduceLT, Int.reduceLE, Int.reduceNeg, Int.reducePow, Int.reduceSub, Int.reduceAdd, Nat.reduceAdd, Nat.reduceLeDiff, Bool.not_true, Bool.not_false, decide_true, decide_false, Bool.false_eq_true, ↓reduceIte, upd_same, not_true_eq_false, not_false_eq_true, lsO_l, lsO_f, tpO_t, tpO_f, dkO_d, dkO_f, keyO_i, keyO_s, rIxH, rIxU, cLenL, cLenT, cListL, cListT, cTupL, cIntB, cAll, rEqNilI, rEq, rNe, scal_ii, scal_ss, scal_bb, scal_nn, scal_ni, scal_in, scal_ns, scal_sn, gSub, rSetL, ixs0, ixs1, ixs2, seq0, at0, at1, at2, at3, tBM, tBM0, rAppend, rPopAt, tyV_list, tGet2, tGetI, sPut, tMG, rTIdx, tyTup, tTupF, cx_K, cx_w, ex_map_int, ex_nil_int, ex_cons_int, List.map_cons, List.map_nil, List.isEmpty_nil, List.isEmpty_cons, List.eraseIdx_zero, List.tail_cons, List.eraseIdx_cons_zero, HO.lst.injEq, HO.tup.injEq, HO.dK.injEq, HO.frz.injEq, ne_eq, gTupH, gCons, gNil, wipe, tYes, upd_upd, and_assoc, List.getElem?_map, Option.map_some, isn_non_bool, isn_non_int, isn_non_str, isn_non_tuple, isn_non_list, isn_non_dict, isn_bl_bool, isn_bl_int, isn_bl_str, isn_bl_tuple, isn_bl_list, isn_bl_dict, isn_int_bool, isn_int_int, isn_int_str, isn_int_tuple, isn_int_list, isn_int_dict, isn_str_bool, isn_str_int, isn_str_str, isn_str_tuple, isn_str_list, isn_str_dict, isn_lst_bool, isn_lst_int, isn_lst_str, isn_lst_tuple, isn_lst_list, isn_lst_dict, isn_tup_bool, isn_tup_int, isn_tup_str, isn_tup_tuple, isn_tup_list, isn_tup_dict, isn_dct_bool, isn_dct_int, isn_dct_str, isn_dct_tuple, isn_dct_list, isn_dct_dict, okn_bool, okn_int, okn_str, okn_tuple, okn_list, okn_dict, cIsi, tyT_n, tyT_b, tyT_i, tyT_s, tyT_r, V.ty.injEq, tSl, tPart, tNoPart, rSlF, gName, List.length_map, Int.reduceToNat, cpow18, Wd.s_inj, ws_num, ws_field, ws_add, ws_sub, ws_mul, ws_eq, ws_lt, ws_gt, ws_le, ws_ge, ws_and, ws_or, ws_not, rInTab, rIxTab, rCatH, rCat, rInT, cSortD, cMaxL, cMinL, rNeNilI, inV, flatV, List.any_cons, List.any_nil, List.all_cons, List.all_nil, eqV, Bool.and_true, Bool.and_false, Bool.true_and, Bool.false_and, Bool.or_false, Bool.false_or, Bool.or_true, Bool.true_or, Wd.beq_s, sz0, sz1, sz2, sz3, sz4, sz5, sz6, isc_eq, isc_lt, isc_gt, isc_le, isc_ge, isc_and, isc_or, isc_not, isl_and, isl_or, isl_not, rSetD, rUnion, rSortTx, rRep, upd_ne nD, upd_ne nE, hla8, hha8]
            have nw : narrow s1 s2 = (maxO s1.1 s2.1, minO s1.2 s2.2) := rfl
            split
            · rename_i c1
              intro p1 hp1
              have nE1 : ha ≠ p1 := ne_of_none ((upd_ne nE).trans hha8) hp1
              have nD1 : la ≠ p1 := ne_of_none ((upd_ne nD).trans hla8) hp1
              have sp := (same_new (o := .lst []) hp).trans (same_new (o := .lst []) hp1)
              simp only [tVar, tC, tOp, rI, rI0, rU, tTest, tB, tAnd, tOr, tNot, tAndV, tOrV, tNotV, tIf, tNil, tCons, tTup, tLst, tCB, tSeq, tAsg, gName, tRet, tRetN, tIfS, tNext, tDrop, tCall, tUn, tPar, CMul, CDiv, V.int.injEq, V.bl.injEq, V.ref.injEq, V.str.injEq, Option.some.injEq, List.cons.injEq, and_true, true_and, and_false, false_and, or_false, false_or, or_true, true_or, exists_eq_left', exists_eq_left, exists_and_left, exists_and_right, exists_eq', exists_eq, exists_false, exists_const, List.getElem?_cons_succ, List.getElem?_cons_zero, List.set_cons_succ, List.set_cons_zero, List.length_cons, List.length_nil, List.cons_append, List.nil_append, List.append_nil, reduceCtorEq, Int.reduceLT, Int.reduceLE, Int.reduceNeg, Int.reducePow, Int.reduceSub, Int.reduceAdd, Nat.reduceAdd, Nat.reduceLeDiff, Bool.not_true, Bool.not_false, decide_true, decide_false, Bool.false_eq_true, ↓reduceIte, upd_same, not_true_eq_false, not_false_eq_true, lsO_l, lsO_f, tpO_t, tpO_f, dkO_d, dkO_f, keyO_i, keyO_s, rIxH, rIxU, cLenL, cLenT, cListL, cListT, cTupL, cIntB, cAll, rEqNilI, rEq, rNe, scal_ii, scal_ss, scal_bb, scal_nn, scal_ni, scal_in, scal_ns, scal_sn, gSub, rSetL, ixs0, ixs1, ixs2, seq0, at0, at1, at2, at3, tBM, tBM0, rAppend, rPopAt, tyV_list, tGet2, tGetI, sPut, tMG, rTIdx, tyTup, tTupF, cx_K, cx_w, ex_map_int, ex_nil_int, ex_cons_int, List.map_cons, List.map_nil, List.isEmpty_nil, List.isEmpty_cons, List.eraseIdx_zero, List.tail_cons, List.eraseIdx_cons_zero, HO.lst.injEq, HO.tup.injEq, HO.dK.injEq, HO.frz.injEq, ne_eq, gTupH, gCons, gNil, wipe, tYes, upd_upd, and_assoc, List.getElem?_map, Option.map_some, isn_non_bool, isn_non_int, isn_non_str, isn_non_tuple, isn_non_list, isn_non_dict, isn_bl_bool, isn_bl_int, isn_bl_str, isn_bl_tuple, isn_bl_list, isn_bl_dict, isn_int_bool, isn_int_int, isn_int_str, isn_int_tuple, isn_int_list, isn_int_dict, isn_str_bool, isn_str_int, isn_str_str, isn_str_tuple, isn_str_list, isn_str_dict, isn_lst_bool, isn_lst_int, isn_lst_str, isn_lst_tuple, isn_lst_list, isn_lst_dict, isn_tup_bool, isn_tup_int, isn_tup_str, isn_tup_tuple, isn_tup_list, isn_tup_dict, isn_dct_bool, isn_dct_int, isn_dct_str, isn_dct_tuple, isn_dct_list, isn_dct_dict, okn_bool, okn_int, okn_str, okn_tuple, okn_list, okn_dict, cIsi, tyT_n, tyT_b, tyT_i, tyT_s, tyT_r, V.ty.injEq, tSl, tPart, tNoPart, rSlF, gName, List.length_map, Int.reduceToNat, cpow18, Wd.s_inj, ws_num, ws_field, ws_add, ws_sub, ws_mul, ws_eq, ws_lt, ws_gt, ws_le, ws_ge, ws_and, ws_or, ws_not, rInTab, rIxTab, rCatH, rCat, rInT, cSortD, cMaxL, cMinL, rNeNilI, inV, flatV, List.any_cons, List.any_nil, List.all_cons, List.all_nil, eqV, Bool.and_true, Bool.and_false, Bool.true_and, Bool.false_and, Bool.or_false, Bool.false_or, Bool.or_true, Bool.true_or, Wd.beq_s, sz0, sz1, sz2, sz3, sz4, sz5, sz6, isc_eq, isc_lt, isc_gt, isc_le, isc_ge, isc_and, isc_or, isc_not, isl_and, isl_or, isl_not, rSetD, rUnion, rSortTx, rRep, upd_ne nE1, upd_ne nE, hha8, upd_ne nD1, upd_ne nD, hla8]
              split
              · rename_i c2
                refine ⟨somes_pos c1, fun m hm hx => ⟨somes_pos c2, fun m2 hm2 hx2 => ?_⟩⟩
                have em0 : emptyS (narrow s1 s2) = decide (m2 < m) := by rw [nw, somes_max hm hx, somes_min hm2 hx2]; rfl
                split
                · rename_i c
                  exact dead _ sp (by rw [em0]; exact c)
                · rename_i c
                  exact ⟨_, next _ sp (by rw [em0]; simpa using c)⟩
              · rename_i c2
                exact ⟨_, next _ sp (by rw [nw, somes_min0 c2]; cases maxO s1.1 s2.1 <;> rfl)⟩
            · rename_i c1
              exact ⟨_, next _ (same_new hp) (by rw [nw, somes_max0 c1]; rfl)⟩
          · rintro σ H2 ⟨es, x3, x4, x5, x6, x7, x8, x9, x10, rfl, D, el, em, ev, k2⟩
            rw [List.length_map, List.take_of_length_le (Nat.le_refl _)] at em
            have em2 : ∀ f, f ∈ nmS (es.map dr) ↔ f ∈ nmS (e1.map dr) ∨ f ∈ nmS (e2.map dr) := fun f => (em f).trans (ymem f)
            exact ⟨⟨_, _, _, _, _, _, _, _, rfl⟩, es, D, keepS k2, em2, fun f hf => (ev f hf).1, fun f hf => (ev f hf).2⟩
        rintro σ' H3 ⟨es, x3, x4, x5, x6, x7, x8, x9, x10, rfl, D3, S3, B⟩
        simp only [tVar, tC, tOp, rI, rI0, rU, tTest, tB, tAnd, tOr, tNot, tAndV, tOrV, tNotV, tIf, tNil, tCons, tTup, tLst, tCB, tSeq, tAsg, gName, tRet, tRetN, tIfS, tNext, tDrop, tCall, tUn, tPar, CMul, CDiv, V.int.injEq, V.bl.injEq, V.ref.injEq, V.str.injEq, Option.some.injEq, List.cons.injEq, and_true, true_and, and_false, false_and, or_false, false_or, or_true, true_or, exists_eq_left', exists_eq_left, exists_and_left, exists_and_right, exists_eq', exists_eq, exists_false, exists_const, List.getElem?_cons_succ, List.getElem?_cons_zero, List.set_cons_succ, List.set_cons_zero, List.length_cons, List.length_nil, List.cons_append, List.nil_append, List.append_nil, reduceCtorEq, Int.reduceLT, Int.reduceLE, Int.reduceNeg, Int.reducePow, Int.reduceSub, Int.reduceAdd, Nat.reduceAdd, Nat.reduceLeDiff, Bool.not_true, Bool.not_false, decide_true, decide_false, Bool.false_eq_true, ↓reduceIte, upd_same, not_true_eq_false, not_false_eq_true, lsO_l, lsO_f, tpO_t, tpO_f, dkO_d, dkO_f, keyO_i, keyO_s, rIxH, rIxU, cLenL, cLenT, cListL, cListT, cTupL, cIntB, cAll, rEqNilI, rEq, rNe, scal_ii, scal_ss, scal_bb, scal_nn, scal_ni, scal_in, scal_ns, scal_sn, gSub, rSetL, ixs0, ixs1, ixs2, seq0, at0, at1, at2, at3, tBM, tBM0, rAppend, rPopAt, tyV_list, tGet2, tGetI, sPut, tMG, rTIdx, tyTup, tTupF, cx_K, cx_w, ex_map_int, ex_nil_int, ex_cons_int, List.map_cons, List.map_nil, List.isEmpty_nil, List.isEmpty_cons, List.eraseIdx_zero, List.tail_cons, List.eraseIdx_cons_zero, HO.lst.injEq, HO.tup.injEq, HO.dK.injEq, HO.frz.injEq, ne_eq, gTupH, gCons, gNil, wipe, tYes, upd_upd, and_assoc, List.getElem?_map, Option.map_some, isn_non_bool, isn_non_int, isn_non_str, isn_non_tuple, isn_non_list, isn_non_dict, isn_bl_bool, isn_bl_int, isn_bl_str, isn_bl_tuple, isn_bl_list, isn_bl_dict, isn_int_bool, isn_int_int, isn_int_str, isn_int_tuple, isn_int_list, isn_int_dict, isn_str_bool, isn_str_int, isn_str_str, isn_str_tuple, isn_str_list, isn_str_dict, isn_lst_bool, isn_lst_int, isn_lst_str, isn_lst_tuple, isn_lst_list, isn_lst_dict, isn_tup_bool, isn_tup_int, isn_tup_str, isn_tup_tuple, isn_tup_list, isn_tup_dict, isn_dct_bool, isn_dct_int, isn_dct_str, isn_dct_tuple, isn_dct_list, isn_dct_dict, okn_bool, okn_int, okn_str, okn_tuple, okn_list, okn_dict, cIsi, tyT_n, tyT_b, tyT_i, tyT_s, tyT_r, V.ty.injEq, tSl, tPart, tNoPart, rSlF, gName, List.length_map, Int.reduceToNat, cpow18, Wd.s_inj, ws_num, ws_field, ws_add, ws_sub, ws_mul, ws_eq, ws_lt, ws_gt, ws_le, ws_ge, ws_and, ws_or, ws_not, rInTab, rIxTab, rCatH, rCat, rInT, cSortD, cMaxL, cMinL, rNeNilI, inV, flatV, List.any_cons, List.any_nil, List.all_cons, List.all_nil, eqV, Bool.and_true, Bool.and_false, Bool.true_and, Bool.false_and, Bool.or_false, Bool.false_or, Bool.or_true, Bool.true_or, Wd.beq_s, sz0, sz1, sz2, sz3, sz4, sz5, sz6, isc_eq, isc_lt, isc_gt, isc_le, isc_ge, isc_and, isc_or, isc_not, isl_and, isl_or, isl_not, rSetD, rUnion, rSortTx, rRep]
        exact k _ (some es) H3 S3 ⟨fd, rfl, D3⟩ B
end

theorem keys_str (es : List Sh) : (es.map fun e => ((Sum.inr e.1 : Key), V.ref e.2.1)).map (·.1) = (es.map (·.1)).map Sum.inr := by
  rw [List.map_map, List.map_map]
  rfl
def spLaw (K : PySem.W.Frag) : Sp := fun vs H Q _ => ∃ (a : Addr) (ns : List Int), vs = [.ref a] ∧ SqL K H a (ns.map V.int) ∧ ns.length ≤ 63 ∧ ∀ H', Q (.bl true) H'
theorem bd_of {H : Hp} {v : V} {t : Str} {co : Option G7.Cd} {Q : VK} {E : XK} (R : RCo H v co) (g : CoGood co 10 1000) (ok : PyData.strOk t = true) (k : ∀ u b H', boundsM t co = spans b → RBd H' u b → Same H H' → Q u H') : spBounds [v, .str t] H Q E :=
  ⟨v, t, co, rfl, R, g, ok, fun h H' s => k .non none H' h rfl s, fun d es H' h D s => k (.ref d) (some es) H' h ⟨d, rfl, D⟩ s⟩
theorem bd_empty {H : Hp} {u : V} {b : Option (List En)} (R : RBd H u b) (e : some [] = spans b) : ∃ d, u = .ref d ∧ H d = some (.dK []) := by
  cases b with
  | none => cases e
  | some es =>
    cases es with
    | nil =>
      obtain ⟨d, rfl, D⟩ := R
      exact ⟨d, rfl, D.at_⟩
    | cons a r => cases e
theorem len_bd {t : Str} {c : G7.Cd} {b : Option (List En)} {d m : Nat} (g : c.Good d m) (e : boundsM t (some c) = spans b) : ∀ es, b = some es → es.length ≤ m := fun es h => by
  rw [h] at e
  have q := bounds_len g e
  rw [List.length_map] at q
  exact q
theorem good_con {o : Wd} {a b : G7.Cd} {d m : Nat} (ha : a.Good d m) (hb : b.Good d m) (ho : o = .and ∨ o = .or) : (G7.Cd.con o a b).Good (d + 1) (m + m) := by
  refine ⟨?_, ⟨ha.lim, hb.lim⟩, ?_, ?_⟩
  · rcases ho with rfl | rfl <;> simp only [Cd.ok, ha.ok, hb.ok] <;> decide
  · have h1 := ha.high
    have h2 := hb.high
    show max a.high b.high + 1 ≤ d + 1
    omega
  · have h1 := ha.few
    have h2 := hb.few
    show a.leaves + b.leaves ≤ m + m
    omega
theorem good_neg {a : G7.Cd} {d m : Nat} (ha : a.Good d m) : (G7.Cd.neg a).Good (d + 1) m := by
  refine ⟨?_, ha.lim, ?_, ha.few⟩
  · simp only [Cd.ok, ha.ok]
  · have h1 := ha.high
    show a.high + 1 ≤ d + 1
    omega
theorem good_up {a : G7.Cd} {d m d' m' : Nat} (g : a.Good d m) (h : d ≤ d') (h2 : m ≤ m') : a.Good d' m' := ⟨g.ok, g.lim, Nat.le_trans g.high h, Nat.le_trans g.few h2⟩
section
variable {P : Program} {w : World} {K : PySem.W.Frag} {mg : Str → Option Value} {base : Heap}
theorem ok_law (T : Txt K mg w) : FnOk P w K mg base CX0 14 T.f_law T.fd_law ["_law_script"] (spLaw K) := by
  have G_l_mix : FnOk P w K mg base CX0 1 T.f_l_mix T.fd_l_mix ["_law_script", "_law_seed"] (spMix K) := ok_l_mix T
  have G_l_shapes : FnOk P w K mg base CX0 2 T.f_l_shapes T.fd_l_shapes ["_law_h", "_law_many"] spShapes := ok_l_shapes T
  have G_l_some : FnOk P w K mg base CX0 1 T.f_l_some T.fd_l_some ["_law_h", "_law_shapes_here", "_law_tables"] spSome := ok_l_some T
  have G_l_cond : FnOk P w K mg base CX0 9 T.f_l_cond T.fd_l_cond ["_law_h", "_law_fields", "_law_deep"] (spCond 3) := ok_l_cond T 3
  have G_bounds : FnOk P w K mg base CX0 13 T.f_bounds T.fd_bounds ["cond", "table"] spBounds := ok_bounds T
  have G_l_both : FnOk P w K mg base CX0 1 T.f_l_both T.fd_l_both ["_law_one", "_law_other"] spBoth := ok_l_both T
  refine T.F_law.ok sc_law (fun vs H Q E h => ?_) (fun cdv A outer s H vs Q E hr h => ?_)
  · obtain ⟨a, ns, rfl, _⟩ := h
    rfl
  · obtain ⟨a, ns, rfl, hS, hlen, k⟩ := h
    have hu := hu_of hr
    have hu64 := hu64_of hr
    have hu65 := hu65_of hr
    have hu00 : (A.deeper (envOfC (Str.ofString "law") (defScope s_law) s.heap.objs.size T.f_law cdv)).units < cLine := by omega
    refine ⟨_, (pss_cons (ps_set (i := 1) sc_law.nd rfl (Or.inl rfl) (pe_call G_l_mix (hr.mono (by decide)) rfl T.mg_l_mix T.F_l_mix.kp T.b_l_mix .nil pass0 (pa_cons (pv 0) (pa_cons pe_int pa_nil))))
      (Evl.pss_cut (ps_for PassesOwn.never rfl (pi_range1 rfl T.n_range (pa_cons pe_int pa_nil)) (pg_name (i := 2) sc_law.nd rfl (Or.inl rfl)) (Evl.pss_cut (ps_set (i := 3) sc_law.nd rfl (Or.inl rfl) (pe_call G_l_shapes (hr.mono (by decide)) rfl T.mg_l_shapes T.F_l_shapes.kp T.b_l_shapes .nil pass0 (pa_cons (pv 1) (pa_cons pe_int pa_nil))))
        (Evl.pss_cut (ps_set (i := 4) sc_law.nd rfl (Or.inl rfl) (pe_call G_l_some (hr.mono (by decide)) rfl T.mg_l_some T.F_l_some.kp T.b_l_some .nil pass0 (pa_cons (pv 1) (pa_cons (pv 3) (pa_cons (pe_callB (sorted_dic rfl) (by rfl) T.n_sorted (by decide +kernel) (pa_cons (pv 3) pa_nil)) pa_nil)))))
        (Evl.pss_cut (ps_par (i := 5) (j := 6) rfl sc_law.nd rfl rfl (by decide) rfl rfl (pa_cons (pe_call G_l_cond (hr.mono (by decide)) rfl T.mg_l_cond T.F_l_cond.kp T.b_l_cond .nil pass0 (pa_cons (pv 1) (pa_cons (pv 4) (pa_cons pe_int pa_nil)))) (pa_cons (pe_call G_l_cond (hr.mono (by decide)) rfl T.mg_l_cond T.F_l_cond.kp T.b_l_cond .nil pass0 (pa_cons (pv 1) (pa_cons (pv 4) (pa_cons pe_int pa_nil)))) pa_nil)) (by rfl))
        (pss_one (ps_for PassesOwn.never rfl (pi_listK K rfl (pe_callB (sorted_dic rfl) (by rfl) T.n_sorted (by decide +kernel) (pa_cons (pv 3) pa_nil))) (pg_name (i := 7) sc_law.nd rfl (Or.inl rfl)) (Evl.pss_cut (ps_set (i := 8) sc_law.nd rfl (Or.inl rfl) (pe_call G_l_both (hr.mono (by decide)) rfl T.mg_l_both T.F_l_both.kp T.b_l_both .nil pass0 (pa_cons (pe_call G_bounds (hr.mono (by decide)) rfl T.mg_bounds T.F_bounds.kp T.b_bounds .nil pass0 (pa_cons (pv 5) (pa_cons (pv 7) pa_nil))) (pa_cons (pe_call G_bounds (hr.mono (by decide)) rfl T.mg_bounds T.F_bounds.kp T.b_bounds .nil pass0 (pa_cons (pv 6) (pa_cons (pv 7) pa_nil))) pa_nil))))
          (Evl.pss_cut (ps_if (PW.pt (pw_or (pt_cmpR (op_ne_dicO hu65 hu00) (pe_call G_bounds (hr.mono (by decide)) rfl T.mg_bounds T.F_bounds.kp T.b_bounds .nil pass0 (pa_cons (pe_tup (pa_cons pe_str (pa_cons (pv 5) (pa_cons (pv 6) pa_nil)))) (pa_cons (pv 7) pa_nil))) (pv 8) (nomark _)) (pw_or1 (pt_cmpR (op_ne_dicO hu65 hu00) (pe_call G_bounds (hr.mono (by decide)) rfl T.mg_bounds T.F_bounds.kp T.b_bounds .nil pass0 (pa_cons (pe_tup (pa_cons pe_str (pa_cons (pv 6) (pa_cons (pv 5) pa_nil)))) (pa_cons (pv 7) pa_nil))) (pv 8) (nomark _))))) (pss_one (ps_ret pe_bl)) pss_nil)
          (Evl.pss_cut (ps_if (pt_cmpR (op_neEm hu64) (pe_lst (pa_cons (pe_call G_bounds (hr.mono (by decide)) rfl T.mg_bounds T.F_bounds.kp T.b_bounds .nil pass0 (pa_cons (pe_tup (pa_cons pe_str (pa_cons (pv 5) (pa_cons (pv 6) pa_nil)))) (pa_cons (pv 7) pa_nil))) (pa_cons (pe_call G_bounds (hr.mono (by decide)) rfl T.mg_bounds T.F_bounds.kp T.b_bounds .nil pass0 (pa_cons (pe_tup (pa_cons pe_str (pa_cons (pv 5) pa_nil))) (pa_cons (pv 7) pa_nil))) (pa_cons (pe_call G_bounds (hr.mono (by decide)) rfl T.mg_bounds T.F_bounds.kp T.b_bounds .nil pass0 (pa_cons pe_non (pa_cons (pv 7) pa_nil))) pa_nil)))) (pe_op op_rep (pe_lst (pa_cons pe_dnewK pa_nil)) pe_int) (nomark _)) (pss_one (ps_ret pe_bl)) pss_nil)
          (pss_one (ps_if (pt_cmpR (op_ne_dicO hu65 hu00) (pe_call G_bounds (hr.mono (by decide)) rfl T.mg_bounds T.F_bounds.kp T.b_bounds .nil pass0 (pa_cons (pe_tup (pa_cons pe_str (pa_cons (pe_tup (pa_cons pe_str (pa_cons (pv 5) (pa_cons (pv 6) pa_nil)))) (pa_cons (pv 5) pa_nil)))) (pa_cons (pv 7) pa_nil))) (pe_call G_bounds (hr.mono (by decide)) rfl T.mg_bounds T.F_bounds.kp T.b_bounds .nil pass0 (pa_cons (pv 5) (pa_cons (pv 7) pa_nil))) (nomark _)) (pss_one (ps_ret pe_bl)) pss_nil)))))))))))
      (pss_one (ps_ret pe_bl)))), ?_⟩
    rw [show L2.start N_law [V.ref a] = [some (V.ref a), none, none, none, none, none, none, none, none] from rfl]
    simp only [tVar, tC, tOp, rI, rI0, rU, tTest, tB, tAnd, tOr, tNot, tAndV, tOrV, tNotV, tIf, tNil, tCons, tTup, tLst, tCB, tSeq, tAsg, gName, tRet, tRetN, tIfS, tNext, tDrop, tCall, tUn, tPar, CMul, CDiv, V.int.injEq, V.bl.injEq, V.ref.injEq, V.str.injEq, Option.some.injEq, List.cons.injEq, and_true, true_and, and_false, false_and, or_false, false_or, or_true, true_or, exists_eq_left', exists_eq_left, exists_and_left, exists_and_right, exists_eq', exists_eq, exists_false, exists_const, List.getElem?_cons_succ, List.getElem?_cons_zero, List.set_cons_succ, List.set_cons_zero, List.length_cons, List.length_nil, List.cons_append, List.nil_append, List.append_nil, reduceCtorEq, Int.reduceLT, Int.reduceLE, Int.reduceNeg, Int.reducePow, Int.reduceSub, Int.reduceAdd, Nat.reduceAdd, Nat.reduceLeDiff, Bool.not_true, Bool.not_false, decide_true, decide_false, Bool.false_eq_true, ↓reduceIte, upd_same, not_true_eq_false, not_false_eq_true, lsO_l, lsO_f, tpO_t, tpO_f, dkO_d, dkO_f, keyO_i, keyO_s, rIxH, rIxU, cLenL, cLenT, cListL, cListT, cTupL, cIntB, cAll, rEqNilI, rEq, rNe, scal_ii, scal_ss, scal_bb, scal_nn, scal_ni, scal_in, scal_ns, scal_sn, gSub, rSetL, ixs0, ixs1, ixs2, seq0, at0, at1, at2, at3, tBM, tBM0, rAppend, rPopAt, tyV_list, tGet2, tGetI, sPut, tMG, rTIdx, tyTup, tTupF, cx_K, cx_w, ex_map_int, ex_nil_int, ex_cons_int, List.map_cons, List.map_nil, List.isEmpty_nil, List.isEmpty_cons, List.eraseIdx_zero, List.tail_cons, List.eraseIdx_cons_zero, HO.lst.injEq, HO.tup.injEq, HO.dK.injEq, HO.frz.injEq, ne_eq, gTupH, gCons, gNil, wipe, tYes, upd_upd, and_assoc, List.getElem?_map, Option.map_some, isn_non_bool, isn_non_int, isn_non_str, isn_non_tuple, isn_non_list, isn_non_dict, isn_bl_bool, isn_bl_int, isn_bl_str, isn_bl_tuple, isn_bl_list, isn_bl_dict, isn_int_bool, isn_int_int, isn_int_str, isn_int_tuple, isn_int_list, isn_int_dict, isn_str_bool, isn_str_int, isn_str_str, isn_str_tuple, isn_str_list, isn_str_dict, isn_lst_bool, isn_lst_int, isn_lst_str, isn_lst_tuple, isn_lst_list, isn_lst_dict, isn_tup_bool, isn_tup_int, isn_tup_str, isn_tup_tuple, isn_tup_list, isn_tup_dict, isn_dct_bool, isn_dct_int, isn_dct_str, isn_dct_tuple, isn_dct_list, isn_dct_dict, okn_bool, okn_int, okn_str, okn_tuple, okn_list, okn_dict, cIsi, tyT_n, tyT_b, tyT_i, tyT_s, tyT_r, V.ty.injEq, tSl, tPart, tNoPart, rSlF, gName, List.length_map, Int.reduceToNat, cpow18, Wd.s_inj, ws_num, ws_field, ws_add, ws_sub, ws_mul, ws_eq, ws_lt, ws_gt, ws_le, ws_ge, ws_and, ws_or, ws_not, rInTab, rIxTab, rCatH, rCat, rInT, cSortD, cMaxL, cMinL, rNeNilI, inV, flatV, List.any_cons, List.any_nil, List.all_cons, List.all_nil, eqV, Bool.and_true, Bool.and_false, Bool.true_and, Bool.false_and, Bool.or_false, Bool.false_or, Bool.or_true, Bool.true_or, Wd.beq_s, sz0, sz1, sz2, sz3, sz4, sz5, sz6, isc_eq, isc_lt, isc_gt, isc_le, isc_ge, isc_and, isc_or, isc_not, isl_and, isl_or, isl_not, rSetD, rUnion, rSortTx, rRep]
    refine ⟨a, ns, 103, rfl, hS, hlen, fun H1 h l _ _ s1 B1 => ?_⟩
    simp only [tVar, tC, tOp, rI, rI0, rU, tTest, tB, tAnd, tOr, tNot, tAndV, tOrV, tNotV, tIf, tNil, tCons, tTup, tLst, tCB, tSeq, tAsg, gName, tRet, tRetN, tIfS, tNext, tDrop, tCall, tUn, tPar, CMul, CDiv, V.int.injEq, V.bl.injEq, V.ref.injEq, V.str.injEq, Option.some.injEq, List.cons.injEq, and_true, true_and, and_false, false_and, or_false, false_or, or_true, true_or, exists_eq_left', exists_eq_left, exists_and_left, exists_and_right, exists_eq', exists_eq, exists_false, exists_const, List.getElem?_cons_succ, List.getElem?_cons_zero, List.set_cons_succ, List.set_cons_zero, List.length_cons, List.length_nil, List.cons_append, List.nil_append, List.append_nil, reduceCtorEq, Int.reduceLT, Int.reduceLE, Int.reduceNeg, Int.reducePow, Int.reduceSub, Int.reduceAdd, Nat.reduceAdd, Nat.reduceLeDiff, Bool.not_true, Bool.not_false, decide_true, decide_false, Bool.false_eq_true, ↓reduceIte, upd_same, not_true_eq_false, not_false_eq_true, lsO_l, lsO_f, tpO_t, tpO_f, dkO_d, dkO_f, keyO_i, keyO_s, rIxH, rIxU, cLenL, cLenT, cListL, cListT, cTupL, cIntB, cAll, rEqNilI, rEq, rNe, scal_ii, scal_ss, scal_bb, scal_nn, scal_ni, scal_in, scal_ns, scal_sn, gSub, rSetL, ixs0, ixs1, ixs2, seq0, at0, at1, at2, at3, tBM, tBM0, rAppend, rPopAt, tyV_list, tGet2, tGetI, sPut, tMG, rTIdx, tyTup, tTupF, cx_K, cx_w, ex_map_int, ex_nil_int, ex_cons_int, List.map_cons, List.map_nil, List.isEmpty_nil, List.isEmpty_cons, List.eraseIdx_zero, List.tail_cons, List.eraseIdx_cons_zero, HO.lst.injEq, HO.tup.injEq, HO.dK.injEq, HO.frz.injEq, ne_eq, gTupH, gCons, gNil, wipe, tYes, upd_upd, and_assoc, List.getElem?_map, Option.map_some, isn_non_bool, isn_non_int, isn_non_str, isn_non_tuple, isn_non_list, isn_non_dict, isn_bl_bool, isn_bl_int, isn_bl_str, isn_bl_tuple, isn_bl_list, isn_bl_dict, isn_int_bool, isn_int_int, isn_int_str, isn_int_tuple, isn_int_list, isn_int_dict, isn_str_bool, isn_str_int, isn_str_str, isn_str_tuple, isn_str_list, isn_str_dict, isn_lst_bool, isn_lst_int, isn_lst_str, isn_lst_tuple, isn_lst_list, isn_lst_dict, isn_tup_bool, isn_tup_int, isn_tup_str, isn_tup_tuple, isn_tup_list, isn_tup_dict, isn_dct_bool, isn_dct_int, isn_dct_str, isn_dct_tuple, isn_dct_list, isn_dct_dict, okn_bool, okn_int, okn_str, okn_tuple, okn_list, okn_dict, cIsi, tyT_n, tyT_b, tyT_i, tyT_s, tyT_r, V.ty.injEq, tSl, tPart, tNoPart, rSlF, gName, List.length_map, Int.reduceToNat, cpow18, Wd.s_inj, ws_num, ws_field, ws_add, ws_sub, ws_mul, ws_eq, ws_lt, ws_gt, ws_le, ws_ge, ws_and, ws_or, ws_not, rInTab, rIxTab, rCatH, rCat, rInT, cSortD, cMaxL, cMinL, rNeNilI, inV, flatV, List.any_cons, List.any_nil, List.all_cons, List.all_nil, eqV, Bool.and_true, Bool.and_false, Bool.true_and, Bool.false_and, Bool.or_false, Bool.false_or, Bool.or_true, Bool.true_or, Wd.beq_s, sz0, sz1, sz2, sz3, sz4, sz5, sz6, isc_eq, isc_lt, isc_gt, isc_le, isc_ge, isc_and, isc_or, isc_not, isl_and, isl_or, isl_not, rSetD, rUnion, rSortTx, rRep]
    refine ⟨fun σ' H2 => ∃ y2 y3 y4 y5 y6 y7 y8, σ' = [some (.ref a), some (.ref h), y2, y3, y4, y5, y6, y7, y8] ∧ BoxB H2 h l, ?_, ?_⟩
    · simp only [tVar, tC, tOp, rI, rI0, rU, tTest, tB, tAnd, tOr, tNot, tAndV, tOrV, tNotV, tIf, tNil, tCons, tTup, tLst, tCB, tSeq, tAsg, gName, tRet, tRetN, tIfS, tNext, tDrop, tCall, tUn, tPar, CMul, CDiv, V.int.injEq, V.bl.injEq, V.ref.injEq, V.str.injEq, Option.some.injEq, List.cons.injEq, and_true, true_and, and_false, false_and, or_false, false_or, or_true, true_or, exists_eq_left', exists_eq_left, exists_and_left, exists_and_right, exists_eq', exists_eq, exists_false, exists_const, List.getElem?_cons_succ, List.getElem?_cons_zero, List.set_cons_succ, List.set_cons_zero, List.length_cons, List.length_nil, List.cons_append, List.nil_append, List.append_nil, reduceCtorEq, Int.reduceLT, Int.reduceLE, Int.reduceNeg, Int.reducePow, Int.reduceSub, Int.reduceAdd, Nat.reduceAdd, Nat.reduceLeDiff, Bool.not_true, Bool.not_false, decide_true, decide_false, Bool.false_eq_true, ↓reduceIte, upd_same, not_true_eq_false, not_false_eq_true, lsO_l, lsO_f, tpO_t, tpO_f, dkO_d, dkO_f, keyO_i, keyO_s, rIxH, rIxU, cLenL, cLenT, cListL, cListT, cTupL, cIntB, cAll, rEqNilI, rEq, rNe, scal_ii, scal_ss, scal_bb, scal_nn, scal_ni, scal_in, scal_ns, scal_sn, gSub, rSetL, ixs0, ixs1, ixs2, seq0, at0, at1, at2, at3, tBM, tBM0, rAppend, rPopAt, tyV_list, tGet2, tGetI, sPut, tMG, rTIdx, tyTup, tTupF, cx_K, cx_w, ex_map_int, ex_nil_int, ex_cons_int, List.map_cons, List.map_nil, List.isEmpty_nil, List.isEmpty_cons, List.eraseIdx_zero, List.tail_cons, List.eraseIdx_cons_zero, HO.lst.injEq, HO.tup.injEq, HO.dK.injEq, HO.frz.injEq, ne_eq, gTupH, gCons, gNil, wipe, tYes, upd_upd, and_assoc, List.getElem?_map, Option.map_some, isn_non_bool, isn_non_int, isn_non_str, isn_non_tuple, isn_non_list, isn_non_dict, isn_bl_bool, isn_bl_int, isn_bl_str, isn_bl_tuple, isn_bl_list, isn_bl_dict, isn_int_bool, isn_int_int, isn_int_str, isn_int_tuple, isn_int_list, isn_int_dict, isn_str_bool, isn_str_int, isn_str_str, isn_str_tuple, isn_str_list, isn_str_dict, isn_lst_bool, isn_lst_int, isn_lst_str, isn_lst_tuple, isn_lst_list, isn_lst_dict, isn_tup_bool, isn_tup_int, isn_tup_str, isn_tup_tuple, isn_tup_list, isn_tup_dict, isn_dct_bool, isn_dct_int, isn_dct_str, isn_dct_tuple, isn_dct_list, isn_dct_dict, okn_bool, okn_int, okn_str, okn_tuple, okn_list, okn_dict, cIsi, tyT_n, tyT_b, tyT_i, tyT_s, tyT_r, V.ty.injEq, tSl, tPart, tNoPart, rSlF, gName, List.length_map, Int.reduceToNat, cpow18, Wd.s_inj, ws_num, ws_field, ws_add, ws_sub, ws_mul, ws_eq, ws_lt, ws_gt, ws_le, ws_ge, ws_and, ws_or, ws_not, rInTab, rIxTab, rCatH, rCat, rInT, cSortD, cMaxL, cMinL, rNeNilI, inV, flatV, List.any_cons, List.any_nil, List.all_cons, List.all_nil, eqV, Bool.and_true, Bool.and_false, Bool.true_and, Bool.false_and, Bool.or_false, Bool.false_or, Bool.or_true, Bool.true_or, Wd.beq_s, sz0, sz1, sz2, sz3, sz4, sz5, sz6, isc_eq, isc_lt, isc_gt, isc_le, isc_ge, isc_and, isc_or, isc_not, isl_and, isl_or, isl_not, rSetD, rUnion, rSortTx, rRep, tFor_eq, iRng1]
      refine forB_it (for_it walk_range (fun i σ H2 => ∃ y2 y3 y4 y5 y6 y7 y8, σ = [some (.ref a), some (.ref h), y2, y3, y4, y5, y6, y7, y8] ∧ BoxB H2 h l)
        ⟨_, _, _, _, _, _, _, rfl, B1⟩ (fun _ _ _ _ _ => trivial) ?_ ?_)
      · rintro i x σ H2 H3 hi ⟨y2, y3, y4, y5, y6, y7, y8, rfl, B2⟩ ⟨rfl, rfl⟩
        simp only [tVar, tC, tOp, rI, rI0, rU, tTest, tB, tAnd, tOr, tNot, tAndV, tOrV, tNotV, tIf, tNil, tCons, tTup, tLst, tCB, tSeq, tAsg, gName, tRet, tRetN, tIfS, tNext, tDrop, tCall, tUn, tPar, CMul, CDiv, V.int.injEq, V.bl.injEq, V.ref.injEq, V.str.injEq, Option.some.injEq, List.cons.injEq, and_true, true_and, and_false, false_and, or_false, false_or, or_true, true_or, exists_eq_left', exists_eq_left, exists_and_left, exists_and_right, exists_eq', exists_eq, exists_false, exists_const, List.getElem?_cons_succ, List.getElem?_cons_zero, List.set_cons_succ, List.set_cons_zero, List.length_cons, List.length_nil, List.cons_append, List.nil_append, List.append_nil, reduceCtorEq, Int.reduceLT, Int.reduceLE, Int.reduceNeg, Int.reducePow, Int.reduceSub, Int.reduceAdd, Nat.reduceAdd, Nat.reduceLeDiff, Bool.not_true, Bool.not_false, decide_true, decide_false, Bool.false_eq_true, ↓reduceIte, upd_same, not_true_eq_false, not_false_eq_true, lsO_l, lsO_f, tpO_t, tpO_f, dkO_d, dkO_f, keyO_i, keyO_s, rIxH, rIxU, cLenL, cLenT, cListL, cListT, cTupL, cIntB, cAll, rEqNilI, rEq, rNe, scal_ii, scal_ss, scal_bb, scal_nn, scal_ni, scal_in, scal_ns, scal_sn, gSub, rSetL, ixs0, ixs1, ixs2, seq0, at0, at1, at2, at3, tBM, tBM0, rAppend, rPopAt, tyV_list, tGet2, tGetI, sPut, tMG, rTIdx, tyTup, tTupF, cx_K, cx_w, ex_map_int, ex_nil_int, ex_cons_int, List.map_cons, List.map_nil, List.isEmpty_nil, List.isEmpty_cons, List.eraseIdx_zero, List.tail_cons, List.eraseIdx_cons_zero, HO.lst.injEq, HO.tup.injEq, HO.dK.injEq, HO.frz.injEq, ne_eq, gTupH, gCons, gNil, wipe, tYes, upd_upd, and_assoc, List.getElem?_map, Option.map_some, isn_non_bool, isn_non_int, isn_non_str, isn_non_tuple, isn_non_list, isn_non_dict, isn_bl_bool, isn_bl_int, isn_bl_str, isn_bl_tuple, isn_bl_list, isn_bl_dict, isn_int_bool, isn_int_int, isn_int_str, isn_int_tuple, isn_int_list, isn_int_dict, isn_str_bool, isn_str_int, isn_str_str, isn_str_tuple, isn_str_list, isn_str_dict, isn_lst_bool, isn_lst_int, isn_lst_str, isn_lst_tuple, isn_lst_list, isn_lst_dict, isn_tup_bool, isn_tup_int, isn_tup_str, isn_tup_tuple, isn_tup_list, isn_tup_dict, isn_dct_bool, isn_dct_int, isn_dct_str, isn_dct_tuple, isn_dct_list, isn_dct_dict, okn_bool, okn_int, okn_str, okn_tuple, okn_list, okn_dict, cIsi, tyT_n, tyT_b, tyT_i, tyT_s, tyT_r, V.ty.injEq, tSl, tPart, tNoPart, rSlF, gName, List.length_map, Int.reduceToNat, cpow18, Wd.s_inj, ws_num, ws_field, ws_add, ws_sub, ws_mul, ws_eq, ws_lt, ws_gt, ws_le, ws_ge, ws_and, ws_or, ws_not, rInTab, rIxTab, rCatH, rCat, rInT, cSortD, cMaxL, cMinL, rNeNilI, inV, flatV, List.any_cons, List.any_nil, List.all_cons, List.all_nil, eqV, Bool.and_true, Bool.and_false, Bool.true_and, Bool.false_and, Bool.or_false, Bool.false_or, Bool.or_true, Bool.true_or, Wd.beq_s, sz0, sz1, sz2, sz3, sz4, sz5, sz6, isc_eq, isc_lt, isc_gt, isc_le, isc_ge, isc_and, isc_or, isc_not, isl_and, isl_or, isl_not, rSetD, rUnion, rSortTx, rRep, gName]
        refine ⟨fun σ' H4 => ∃ (d : Addr) (es : List Sh), σ' = [some (.ref a), some (.ref h), some (.int (0 + (i : Nat))), some (.ref d), y4, y5, y6, y7, y8] ∧ SH H4 d es ∧ BoxB H4 h l, ?_, ?_⟩
        · simp only [tVar, tC, tOp, rI, rI0, rU, tTest, tB, tAnd, tOr, tNot, tAndV, tOrV, tNotV, tIf, tNil, tCons, tTup, tLst, tCB, tSeq, tAsg, gName, tRet, tRetN, tIfS, tNext, tDrop, tCall, tUn, tPar, CMul, CDiv, V.int.injEq, V.bl.injEq, V.ref.injEq, V.str.injEq, Option.some.injEq, List.cons.injEq, and_true, true_and, and_false, false_and, or_false, false_or, or_true, true_or, exists_eq_left', exists_eq_left, exists_and_left, exists_and_right, exists_eq', exists_eq, exists_false, exists_const, List.getElem?_cons_succ, List.getElem?_cons_zero, List.set_cons_succ, List.set_cons_zero, List.length_cons, List.length_nil, List.cons_append, List.nil_append, List.append_nil, reduceCtorEq, Int.reduceLT, Int.reduceLE, Int.reduceNeg, Int.reducePow, Int.reduceSub, Int.reduceAdd, Nat.reduceAdd, Nat.reduceLeDiff, Bool.not_true, Bool.not_false, decide_true, decide_false, Bool.false_eq_true, ↓reduceIte, upd_same, not_true_eq_false, not_false_eq_true, lsO_l, lsO_f, tpO_t, tpO_f, dkO_d, dkO_f, keyO_i, keyO_s, rIxH, rIxU, cLenL, cLenT, cListL, cListT, cTupL, cIntB, cAll, rEqNilI, rEq, rNe, scal_ii, scal_ss, scal_bb, scal_nn, scal_ni, scal_in, scal_ns, scal_sn, gSub, rSetL, ixs0, ixs1, ixs2, seq0, at0, at1, at2, at3, tBM, tBM0, rAppend, rPopAt, tyV_list, tGet2, tGetI, sPut, tMG, rTIdx, tyTup, tTupF, cx_K, cx_w, ex_map_int, ex_nil_int, ex_cons_int, List.map_cons, List.map_nil, List.isEmpty_nil, List.isEmpty_cons, List.eraseIdx_zero, List.tail_cons, List.eraseIdx_cons_zero, HO.lst.injEq, HO.tup.injEq, HO.dK.injEq, HO.frz.injEq, ne_eq, gTupH, gCons, gNil, wipe, tYes, upd_upd, and_assoc, List.getElem?_map, Option.map_some, isn_non_bool, isn_non_int, isn_non_str, isn_non_tuple, isn_non_list, isn_non_dict, isn_bl_bool, isn_bl_int, isn_bl_str, isn_bl_tuple, isn_bl_list, isn_bl_dict, isn_int_bool, isn_int_int, isn_int_str, isn_int_tuple, isn_int_list, isn_int_dict, isn_str_bool, isn_str_int, isn_str_str, isn_str_tuple, isn_str_list, isn_str_dict, isn_lst_bool, isn_lst_int, isn_lst_str, isn_lst_tuple, isn_lst_list, isn_lst_dict, isn_tup_bool, isn_tup_int, isn_tup_str, isn_tup_tuple, isn_tup_list, isn_tup_dict, isn_dct_bool, isn_dct_int, isn_dct_str, isn_dct_tuple, isn_dct_list, isn_dct_dict, okn_bool, okn_int, okn_str, okn_tuple, okn_list, okn_dict, cIsi, tyT_n, tyT_b, tyT_i, tyT_s, tyT_r, V.ty.injEq, tSl, tPart, tNoPart, rSlF, gName, List.length_map, Int.reduceToNat, cpow18, Wd.s_inj, ws_num, ws_field, ws_add, ws_sub, ws_mul, ws_eq, ws_lt, ws_gt, ws_le, ws_ge, ws_and, ws_or, ws_not, rInTab, rIxTab, rCatH, rCat, rInT, cSortD, cMaxL, cMinL, rNeNilI, inV, flatV, List.any_cons, List.any_nil, List.all_cons, List.all_nil, eqV, Bool.and_true, Bool.and_false, Bool.true_and, Bool.false_and, Bool.or_false, Bool.false_or, Bool.or_true, Bool.true_or, Wd.beq_s, sz0, sz1, sz2, sz3, sz4, sz5, sz6, isc_eq, isc_lt, isc_gt, isc_le, isc_ge, isc_and, isc_or, isc_not, isl_and, isl_or, isl_not, rSetD, rUnion, rSortTx, rRep]
          refine ⟨h, l, 3, rfl, B2, by decide, by decide, fun d es H4 S4 e0 _ B4 _ => ?_⟩
          exact ⟨d, rfl, ⟨es, S4⟩, B4⟩
        rintro σ' H4 ⟨d, es, rfl, S4, B4⟩
        refine ⟨fun σ' H5 => ∃ (fa : Addr) (ps : List Fd), σ' = [some (.ref a), some (.ref h), some (.int (0 + (i : Nat))), some (.ref d), some (.ref fa), y5, y6, y7, y8] ∧ SH H5 d es ∧ BoxB H5 h l ∧ RF H5 fa ps ∧ ps.length ≤ 100 ∧ fa ∉ [h, l], ?_, ?_⟩
        · have hd4 := S4.at_
          simp only [tVar, tC, tOp, rI, rI0, rU, tTest, tB, tAnd, tOr, tNot, tAndV, tOrV, tNotV, tIf, tNil, tCons, tTup, tLst, tCB, tSeq, tAsg, gName, tRet, tRetN, tIfS, tNext, tDrop, tCall, tUn, tPar, CMul, CDiv, V.int.injEq, V.bl.injEq, V.ref.injEq, V.str.injEq, Option.some.injEq, List.cons.injEq, and_true, true_and, and_false, false_and, or_false, false_or, or_true, true_or, exists_eq_left', exists_eq_left, exists_and_left, exists_and_right, exists_eq', exists_eq, exists_false, exists_const, List.getElem?_cons_succ, List.getElem?_cons_zero, List.set_cons_succ, List.set_cons_zero, List.length_cons, List.length_nil, List.cons_append, List.nil_append, List.append_nil, reduceCtorEq, Int.reduceLT, Int.reduceLE, Int.reduceNeg, Int.reducePow, Int.reduceSub, Int.reduceAdd, Nat.reduceAdd, Nat.reduceLeDiff, Bool.not_true, Bool.not_false, decide_true, decide_false, Bool.false_eq_true, ↓reduceIte, upd_same, not_true_eq_false, not_false_eq_true, lsO_l, lsO_f, tpO_t, tpO_f, dkO_d, dkO_f, keyO_i, keyO_s, rIxH, rIxU, cLenL, cLenT, cListL, cListT, cTupL, cIntB, cAll, rEqNilI, rEq, rNe, scal_ii, scal_ss, scal_bb, scal_nn, scal_ni, scal_in, scal_ns, scal_sn, gSub, rSetL, ixs0, ixs1, ixs2, seq0, at0, at1, at2, at3, tBM, tBM0, rAppend, rPopAt, tyV_list, tGet2, tGetI, sPut, tMG, rTIdx, tyTup, tTupF, cx_K, cx_w, ex_map_int, ex_nil_int, ex_cons_int, List.map_cons, List.map_nil, List.isEmpty_nil, List.isEmpty_cons, List.eraseIdx_zero, List.tail_cons, List.eraseIdx_cons_zero, HO.lst.injEq, HO.tup.injEq, HO.dK.injEq, HO.frz.injEq, ne_eq, gTupH, gCons, gNil, wipe, tYes, upd_upd, and_assoc, List.getElem?_map, Option.map_some, isn_non_bool, isn_non_int, isn_non_str, isn_non_tuple, isn_non_list, isn_non_dict, isn_bl_bool, isn_bl_int, isn_bl_str, isn_bl_tuple, isn_bl_list, isn_bl_dict, isn_int_bool, isn_int_int, isn_int_str, isn_int_tuple, isn_int_list, isn_int_dict, isn_str_bool, isn_str_int, isn_str_str, isn_str_tuple, isn_str_list, isn_str_dict, isn_lst_bool, isn_lst_int, isn_lst_str, isn_lst_tuple, isn_lst_list, isn_lst_dict, isn_tup_bool, isn_tup_int, isn_tup_str, isn_tup_tuple, isn_tup_list, isn_tup_dict, isn_dct_bool, isn_dct_int, isn_dct_str, isn_dct_tuple, isn_dct_list, isn_dct_dict, okn_bool, okn_int, okn_str, okn_tuple, okn_list, okn_dict, cIsi, tyT_n, tyT_b, tyT_i, tyT_s, tyT_r, V.ty.injEq, tSl, tPart, tNoPart, rSlF, gName, List.length_map, Int.reduceToNat, cpow18, Wd.s_inj, ws_num, ws_field, ws_add, ws_sub, ws_mul, ws_eq, ws_lt, ws_gt, ws_le, ws_ge, ws_and, ws_or, ws_not, rInTab, rIxTab, rCatH, rCat, rInT, cSortD, cMaxL, cMinL, rNeNilI, inV, flatV, List.any_cons, List.any_nil, List.all_cons, List.all_nil, eqV, Bool.and_true, Bool.and_false, Bool.true_and, Bool.false_and, Bool.or_false, Bool.false_or, Bool.or_true, Bool.true_or, Wd.beq_s, sz0, sz1, sz2, sz3, sz4, sz5, sz6, isc_eq, isc_lt, isc_gt, isc_le, isc_ge, isc_and, isc_or, isc_not, isl_and, isl_or, isl_not, rSetD, rUnion, rSortTx, rRep, hd4]
          refine ⟨es.map (·.1), keys_str es, by rw [List.length_map]; have := S4.few.1; omega, fun ys sa perm hsa => ?_⟩
          have ss := same_new (o := .lst (ys.map V.str)) hsa
          refine ⟨h, d, sa, es, ys, rfl, S4.same ss, upd_same, by rw [perm.length_eq, List.length_map]; exact S4.few.1, fun t ht => perm.mem_iff.mp ht, fun fa ps H5 R5 len fa0 s5 => ?_⟩
          simp only [tVar, tC, tOp, rI, rI0, rU, tTest, tB, tAnd, tOr, tNot, tAndV, tOrV, tNotV, tIf, tNil, tCons, tTup, tLst, tCB, tSeq, tAsg, gName, tRet, tRetN, tIfS, tNext, tDrop, tCall, tUn, tPar, CMul, CDiv, V.int.injEq, V.bl.injEq, V.ref.injEq, V.str.injEq, Option.some.injEq, List.cons.injEq, and_true, true_and, and_false, false_and, or_false, false_or, or_true, true_or, exists_eq_left', exists_eq_left, exists_and_left, exists_and_right, exists_eq', exists_eq, exists_false, exists_const, List.getElem?_cons_succ, List.getElem?_cons_zero, List.set_cons_succ, List.set_cons_zero, List.length_cons, List.length_nil, List.cons_append, List.nil_append, List.append_nil, reduceCtorEq, Int.reduceLT, Int.reduceLE, Int.reduceNeg, Int.reducePow, Int.reduceSub, Int.reduceAdd, Nat.reduceAdd, Nat.reduceLeDiff, Bool.not_true, Bool.not_false, decide_true, decide_false, Bool.false_eq_true, ↓reduceIte, upd_same, not_true_eq_false, not_false_eq_true, lsO_l, lsO_f, tpO_t, tpO_f, dkO_d, dkO_f, keyO_i, keyO_s, rIxH, rIxU, cLenL, cLenT, cListL, cListT, cTupL, cIntB, cAll, rEqNilI, rEq, rNe, scal_ii, scal_ss, scal_bb, scal_nn, scal_ni, scal_in, scal_ns, scal_sn, gSub, rSetL, ixs0, ixs1, ixs2, seq0, at0, at1, at2, at3, tBM, tBM0, rAppend, rPopAt, tyV_list, tGet2, tGetI, sPut, tMG, rTIdx, tyTup, tTupF, cx_K, cx_w, ex_map_int, ex_nil_int, ex_cons_int, List.map_cons, List.map_nil, List.isEmpty_nil, List.isEmpty_cons, List.eraseIdx_zero, List.tail_cons, List.eraseIdx_cons_zero, HO.lst.injEq, HO.tup.injEq, HO.dK.injEq, HO.frz.injEq, ne_eq, gTupH, gCons, gNil, wipe, tYes, upd_upd, and_assoc, List.getElem?_map, Option.map_some, isn_non_bool, isn_non_int, isn_non_str, isn_non_tuple, isn_non_list, isn_non_dict, isn_bl_bool, isn_bl_int, isn_bl_str, isn_bl_tuple, isn_bl_list, isn_bl_dict, isn_int_bool, isn_int_int, isn_int_str, isn_int_tuple, isn_int_list, isn_int_dict, isn_str_bool, isn_str_int, isn_str_str, isn_str_tuple, isn_str_list, isn_str_dict, isn_lst_bool, isn_lst_int, isn_lst_str, isn_lst_tuple, isn_lst_list, isn_lst_dict, isn_tup_bool, isn_tup_int, isn_tup_str, isn_tup_tuple, isn_tup_list, isn_tup_dict, isn_dct_bool, isn_dct_int, isn_dct_str, isn_dct_tuple, isn_dct_list, isn_dct_dict, okn_bool, okn_int, okn_str, okn_tuple, okn_list, okn_dict, cIsi, tyT_n, tyT_b, tyT_i, tyT_s, tyT_r, V.ty.injEq, tSl, tPart, tNoPart, rSlF, gName, List.length_map, Int.reduceToNat, cpow18, Wd.s_inj, ws_num, ws_field, ws_add, ws_sub, ws_mul, ws_eq, ws_lt, ws_gt, ws_le, ws_ge, ws_and, ws_or, ws_not, rInTab, rIxTab, rCatH, rCat, rInT, cSortD, cMaxL, cMinL, rNeNilI, inV, flatV, List.any_cons, List.any_nil, List.all_cons, List.all_nil, eqV, Bool.and_true, Bool.and_false, Bool.true_and, Bool.false_and, Bool.or_false, Bool.false_or, Bool.or_true, Bool.true_or, Wd.beq_s, sz0, sz1, sz2, sz3, sz4, sz5, sz6, isc_eq, isc_lt, isc_gt, isc_le, isc_ge, isc_and, isc_or, isc_not, isl_and, isl_or, isl_not, rSetD, rUnion, rSortTx, rRep]
          exact ⟨(S4.same ss).same s5, (B4.same ss).same s5, ps, R5, len, (B4.same ss).free fa0⟩
        rintro σ' H5 ⟨fa, ps, rfl, S5, B5, R5, len5, nfa⟩
        refine ⟨fun σ' H6 => ∃ (v1 v2 : V) (c1 c2 : G7.Cd), σ' = [some (.ref a), some (.ref h), some (.int (0 + (i : Nat))), some (.ref d), some (.ref fa), some v1, some v2, y7, y8] ∧ SH H6 d es ∧ BoxB H6 h l ∧ RC H6 v1 c1 ∧ RC H6 v2 c2 ∧ c1.Good 3 8 ∧ c2.Good 3 8, ?_, ?_⟩
        · simp only [tVar, tC, tOp, rI, rI0, rU, tTest, tB, tAnd, tOr, tNot, tAndV, tOrV, tNotV, tIf, tNil, tCons, tTup, tLst, tCB, tSeq, tAsg, gName, tRet, tRetN, tIfS, tNext, tDrop, tCall, tUn, tPar, CMul, CDiv, V.int.injEq, V.bl.injEq, V.ref.injEq, V.str.injEq, Option.some.injEq, List.cons.injEq, and_true, true_and, and_false, false_and, or_false, false_or, or_true, true_or, exists_eq_left', exists_eq_left, exists_and_left, exists_and_right, exists_eq', exists_eq, exists_false, exists_const, List.getElem?_cons_succ, List.getElem?_cons_zero, List.set_cons_succ, List.set_cons_zero, List.length_cons, List.length_nil, List.cons_append, List.nil_append, List.append_nil, reduceCtorEq, Int.reduceLT, Int.reduceLE, Int.reduceNeg, Int.reducePow, Int.reduceSub, Int.reduceAdd, Nat.reduceAdd, Nat.reduceLeDiff, Bool.not_true, Bool.not_false, decide_true, decide_false, Bool.false_eq_true, ↓reduceIte, upd_same, not_true_eq_false, not_false_eq_true, lsO_l, lsO_f, tpO_t, tpO_f, dkO_d, dkO_f, keyO_i, keyO_s, rIxH, rIxU, cLenL, cLenT, cListL, cListT, cTupL, cIntB, cAll, rEqNilI, rEq, rNe, scal_ii, scal_ss, scal_bb, scal_nn, scal_ni, scal_in, scal_ns, scal_sn, gSub, rSetL, ixs0, ixs1, ixs2, seq0, at0, at1, at2, at3, tBM, tBM0, rAppend, rPopAt, tyV_list, tGet2, tGetI, sPut, tMG, rTIdx, tyTup, tTupF, cx_K, cx_w, ex_map_int, ex_nil_int, ex_cons_int, List.map_cons, List.map_nil, List.isEmpty_nil, List.isEmpty_cons, List.eraseIdx_zero, List.tail_cons, List.eraseIdx_cons_zero, HO.lst.injEq, HO.tup.injEq, HO.dK.injEq, HO.frz.injEq, ne_eq, gTupH, gCons, gNil, wipe, tYes, upd_upd, and_assoc, List.getElem?_map, Option.map_some, isn_non_bool, isn_non_int, isn_non_str, isn_non_tuple, isn_non_list, isn_non_dict, isn_bl_bool, isn_bl_int, isn_bl_str, isn_bl_tuple, isn_bl_list, isn_bl_dict, isn_int_bool, isn_int_int, isn_int_str, isn_int_tuple, isn_int_list, isn_int_dict, isn_str_bool, isn_str_int, isn_str_str, isn_str_tuple, isn_str_list, isn_str_dict, isn_lst_bool, isn_lst_int, isn_lst_str, isn_lst_tuple, isn_lst_list, isn_lst_dict, isn_tup_bool, isn_tup_int, isn_tup_str, isn_tup_tuple, isn_tup_list, isn_tup_dict, isn_dct_bool, isn_dct_int, isn_dct_str, isn_dct_tuple, isn_dct_list, isn_dct_dict, okn_bool, okn_int, okn_str, okn_tuple, okn_list, okn_dict, cIsi, tyT_n, tyT_b, tyT_i, tyT_s, tyT_r, V.ty.injEq, tSl, tPart, tNoPart, rSlF, gName, List.length_map, Int.reduceToNat, cpow18, Wd.s_inj, ws_num, ws_field, ws_add, ws_sub, ws_mul, ws_eq, ws_lt, ws_gt, ws_le, ws_ge, ws_and, ws_or, ws_not, rInTab, rIxTab, rCatH, rCat, rInT, cSortD, cMaxL, cMinL, rNeNilI, inV, flatV, List.any_cons, List.any_nil, List.all_cons, List.all_nil, eqV, Bool.and_true, Bool.and_false, Bool.true_and, Bool.false_and, Bool.or_false, Bool.false_or, Bool.or_true, Bool.true_or, Wd.beq_s, sz0, sz1, sz2, sz3, sz4, sz5, sz6, isc_eq, isc_lt, isc_gt, isc_le, isc_ge, isc_and, isc_or, isc_not, isl_and, isl_or, isl_not, rSetD, rUnion, rSortTx, rRep, tPar]
          refine ⟨h, l, fa, ps, rfl, B5, R5, len5, nfa, fun v1 c1 H6 C1 g1 B6 k6 => ?_⟩
          have R6 := R5.keepB k6 B5 nfa
          simp only [tVar, tC, tOp, rI, rI0, rU, tTest, tB, tAnd, tOr, tNot, tAndV, tOrV, tNotV, tIf, tNil, tCons, tTup, tLst, tCB, tSeq, tAsg, gName, tRet, tRetN, tIfS, tNext, tDrop, tCall, tUn, tPar, CMul, CDiv, V.int.injEq, V.bl.injEq, V.ref.injEq, V.str.injEq, Option.some.injEq, List.cons.injEq, and_true, true_and, and_false, false_and, or_false, false_or, or_true, true_or, exists_eq_left', exists_eq_left, exists_and_left, exists_and_right, exists_eq', exists_eq, exists_false, exists_const, List.getElem?_cons_succ, List.getElem?_cons_zero, List.set_cons_succ, List.set_cons_zero, List.length_cons, List.length_nil, List.cons_append, List.nil_append, List.append_nil, reduceCtorEq, Int.reduceLT, Int.reduceLE, Int.reduceNeg, Int.reducePow, Int.reduceSub, Int.reduceAdd, Nat.reduceAdd, Nat.reduceLeDiff, Bool.not_true, Bool.not_false, decide_true, decide_false, Bool.false_eq_true, ↓reduceIte, upd_same, not_true_eq_false, not_false_eq_true, lsO_l, lsO_f, tpO_t, tpO_f, dkO_d, dkO_f, keyO_i, keyO_s, rIxH, rIxU, cLenL, cLenT, cListL, cListT, cTupL, cIntB, cAll, rEqNilI, rEq, rNe, scal_ii, scal_ss, scal_bb, scal_nn, scal_ni, scal_in, scal_ns, scal_sn, gSub, rSetL, ixs0, ixs1, ixs2, seq0, at0, at1, at2, at3, tBM, tBM0, rAppend, rPopAt, tyV_list, tGet2, tGetI, sPut, tMG, rTIdx, tyTup, tTupF, cx_K, cx_w, ex_map_int, ex_nil_int, ex_cons_int, List.map_cons, List.map_nil, List.isEmpty_nil, List.isEmpty_cons, List.eraseIdx_zero, List.tail_cons, List.eraseIdx_cons_zero, HO.lst.injEq, HO.tup.injEq, HO.dK.injEq, HO.frz.injEq, ne_eq, gTupH, gCons, gNil, wipe, tYes, upd_upd, and_assoc, List.getElem?_map, Option.map_some, isn_non_bool, isn_non_int, isn_non_str, isn_non_tuple, isn_non_list, isn_non_dict, isn_bl_bool, isn_bl_int, isn_bl_str, isn_bl_tuple, isn_bl_list, isn_bl_dict, isn_int_bool, isn_int_int, isn_int_str, isn_int_tuple, isn_int_list, isn_int_dict, isn_str_bool, isn_str_int, isn_str_str, isn_str_tuple, isn_str_list, isn_str_dict, isn_lst_bool, isn_lst_int, isn_lst_str, isn_lst_tuple, isn_lst_list, isn_lst_dict, isn_tup_bool, isn_tup_int, isn_tup_str, isn_tup_tuple, isn_tup_list, isn_tup_dict, isn_dct_bool, isn_dct_int, isn_dct_str, isn_dct_tuple, isn_dct_list, isn_dct_dict, okn_bool, okn_int, okn_str, okn_tuple, okn_list, okn_dict, cIsi, tyT_n, tyT_b, tyT_i, tyT_s, tyT_r, V.ty.injEq, tSl, tPart, tNoPart, rSlF, gName, List.length_map, Int.reduceToNat, cpow18, Wd.s_inj, ws_num, ws_field, ws_add, ws_sub, ws_mul, ws_eq, ws_lt, ws_gt, ws_le, ws_ge, ws_and, ws_or, ws_not, rInTab, rIxTab, rCatH, rCat, rInT, cSortD, cMaxL, cMinL, rNeNilI, inV, flatV, List.any_cons, List.any_nil, List.all_cons, List.all_nil, eqV, Bool.and_true, Bool.and_false, Bool.true_and, Bool.false_and, Bool.or_false, Bool.false_or, Bool.or_true, Bool.true_or, Wd.beq_s, sz0, sz1, sz2, sz3, sz4, sz5, sz6, isc_eq, isc_lt, isc_gt, isc_le, isc_ge, isc_and, isc_or, isc_not, isl_and, isl_or, isl_not, rSetD, rUnion, rSortTx, rRep]
          refine ⟨h, l, fa, ps, rfl, B6, R6, len5, nfa, fun v2 c2 H7 C2 g2 B7 k7 => ?_⟩
          simp only [tVar, tC, tOp, rI, rI0, rU, tTest, tB, tAnd, tOr, tNot, tAndV, tOrV, tNotV, tIf, tNil, tCons, tTup, tLst, tCB, tSeq, tAsg, gName, tRet, tRetN, tIfS, tNext, tDrop, tCall, tUn, tPar, CMul, CDiv, V.int.injEq, V.bl.injEq, V.ref.injEq, V.str.injEq, Option.some.injEq, List.cons.injEq, and_true, true_and, and_false, false_and, or_false, false_or, or_true, true_or, exists_eq_left', exists_eq_left, exists_and_left, exists_and_right, exists_eq', exists_eq, exists_false, exists_const, List.getElem?_cons_succ, List.getElem?_cons_zero, List.set_cons_succ, List.set_cons_zero, List.length_cons, List.length_nil, List.cons_append, List.nil_append, List.append_nil, reduceCtorEq, Int.reduceLT, Int.reduceLE, Int.reduceNeg, Int.reducePow, Int.reduceSub, Int.reduceAdd, Nat.reduceAdd, Nat.reduceLeDiff, Bool.not_true, Bool.not_false, decide_true, decide_false, Bool.false_eq_true, ↓reduceIte, upd_same, not_true_eq_false, not_false_eq_true, lsO_l, lsO_f, tpO_t, tpO_f, dkO_d, dkO_f, keyO_i, keyO_s, rIxH, rIxU, cLenL, cLenT, cListL, cListT, cTupL, cIntB, cAll, rEqNilI, rEq, rNe, scal_ii, scal_ss, scal_bb, scal_nn, scal_ni, scal_in, scal_ns, scal_sn, gSub, rSetL, ixs0, ixs1, ixs2, seq0, at0, at1, at2, at3, tBM, tBM0, rAppend, rPopAt, tyV_list, tGet2, tGetI, sPut, tMG, rTIdx, tyTup, tTupF, cx_K, cx_w, ex_map_int, ex_nil_int, ex_cons_int, List.map_cons, List.map_nil, List.isEmpty_nil, List.isEmpty_cons, List.eraseIdx_zero, List.tail_cons, List.eraseIdx_cons_zero, HO.lst.injEq, HO.tup.injEq, HO.dK.injEq, HO.frz.injEq, ne_eq, gTupH, gCons, gNil, wipe, tYes, upd_upd, and_assoc, List.getElem?_map, Option.map_some, isn_non_bool, isn_non_int, isn_non_str, isn_non_tuple, isn_non_list, isn_non_dict, isn_bl_bool, isn_bl_int, isn_bl_str, isn_bl_tuple, isn_bl_list, isn_bl_dict, isn_int_bool, isn_int_int, isn_int_str, isn_int_tuple, isn_int_list, isn_int_dict, isn_str_bool, isn_str_int, isn_str_str, isn_str_tuple, isn_str_list, isn_str_dict, isn_lst_bool, isn_lst_int, isn_lst_str, isn_lst_tuple, isn_lst_list, isn_lst_dict, isn_tup_bool, isn_tup_int, isn_tup_str, isn_tup_tuple, isn_tup_list, isn_tup_dict, isn_dct_bool, isn_dct_int, isn_dct_str, isn_dct_tuple, isn_dct_list, isn_dct_dict, okn_bool, okn_int, okn_str, okn_tuple, okn_list, okn_dict, cIsi, tyT_n, tyT_b, tyT_i, tyT_s, tyT_r, V.ty.injEq, tSl, tPart, tNoPart, rSlF, gName, List.length_map, Int.reduceToNat, cpow18, Wd.s_inj, ws_num, ws_field, ws_add, ws_sub, ws_mul, ws_eq, ws_lt, ws_gt, ws_le, ws_ge, ws_and, ws_or, ws_not, rInTab, rIxTab, rCatH, rCat, rInT, cSortD, cMaxL, cMinL, rNeNilI, inV, flatV, List.any_cons, List.any_nil, List.all_cons, List.all_nil, eqV, Bool.and_true, Bool.and_false, Bool.true_and, Bool.false_and, Bool.or_false, Bool.false_or, Bool.or_true, Bool.true_or, Wd.beq_s, sz0, sz1, sz2, sz3, sz4, sz5, sz6, isc_eq, isc_lt, isc_gt, isc_le, isc_ge, isc_and, isc_or, isc_not, isl_and, isl_or, isl_not, rSetD, rUnion, rSortTx, rRep]
          exact ⟨(S5.keepB B5 k6).keepB B6 k7, B7, c1, C1.tups (B6.tups k7), c2, C2, g1, g2⟩
        rintro σ' H6 ⟨v1, v2, c1, c2, rfl, S6, B6, C1, C2, g1, g2⟩
        have hd6 := S6.at_
        have n1 := (good_up g1 (show 3 ≤ 10 by decide) (show 8 ≤ 1000 by decide))
        have n2 := (good_up g2 (show 3 ≤ 10 by decide) (show 8 ≤ 1000 by decide))
        have n12 := good_up (good_con (o := .and) g1 g2 (.inl rfl)) (show 4 ≤ 10 by decide) (show 16 ≤ 1000 by decide)
        have n21 := good_up (good_con (o := .and) g2 g1 (.inl rfl)) (show 4 ≤ 10 by decide) (show 16 ≤ 1000 by decide)
        have no := good_con (o := .or) g1 g2 (.inr rfl)
        have no' := good_up no (show 4 ≤ 10 by decide) (show 16 ≤ 1000 by decide)
        have nn := good_up (good_neg g1) (show 4 ≤ 10 by decide) (show 8 ≤ 1000 by decide)
        have na := good_up (good_con (o := .and) no (good_up g1 (show 3 ≤ 4 by decide) (show 8 ≤ 16 by decide)) (.inl rfl)) (show 5 ≤ 10 by decide) (show 32 ≤ 1000 by decide)
        simp only [tVar, tC, tOp, rI, rI0, rU, tTest, tB, tAnd, tOr, tNot, tAndV, tOrV, tNotV, tIf, tNil, tCons, tTup, tLst, tCB, tSeq, tAsg, gName, tRet, tRetN, tIfS, tNext, tDrop, tCall, tUn, tPar, CMul, CDiv, V.int.injEq, V.bl.injEq, V.ref.injEq, V.str.injEq, Option.some.injEq, List.cons.injEq, and_true, true_and, and_false, false_and, or_false, false_or, or_true, true_or, exists_eq_left', exists_eq_left, exists_and_left, exists_and_right, exists_eq', exists_eq, exists_false, exists_const, List.getElem?_cons_succ, List.getElem?_cons_zero, List.set_cons_succ, List.set_cons_zero, List.length_cons, List.length_nil, List.cons_append, List.nil_append, List.append_nil, reduceCtorEq, Int.reduceLT, Int.reduceLE, Int.reduceNeg, Int.reducePow, Int.reduceSub, Int.reduceAdd, Nat.reduceAdd, Nat.reduceLeDiff, Bool.not_true, Bool.not_false, decide_true, decide_false, Bool.false_eq_true, ↓reduceIte, upd_same, not_true_eq_false, not_false_eq_true, lsO_l, lsO_f, tpO_t, tpO_f, dkO_d, dkO_f, keyO_i, keyO_s, rIxH, rIxU, cLenL, cLenT, cListL, cListT, cTupL, cIntB, cAll, rEqNilI, rEq, rNe, scal_ii, scal_ss, scal_bb, scal_nn, scal_ni, scal_in, scal_ns, scal_sn, gSub, rSetL, ixs0, ixs1, ixs2, seq0, at0, at1, at2, at3, tBM, tBM0, rAppend, rPopAt, tyV_list, tGet2, tGetI, sPut, tMG, rTIdx, tyTup, tTupF, cx_K, cx_w, ex_map_int, ex_nil_int, ex_cons_int, List.map_cons, List.map_nil, List.isEmpty_nil, List.isEmpty_cons, List.eraseIdx_zero, List.tail_cons, List.eraseIdx_cons_zero, HO.lst.injEq, HO.tup.injEq, HO.dK.injEq, HO.frz.injEq, ne_eq, gTupH, gCons, gNil, wipe, tYes, upd_upd, and_assoc, List.getElem?_map, Option.map_some, isn_non_bool, isn_non_int, isn_non_str, isn_non_tuple, isn_non_list, isn_non_dict, isn_bl_bool, isn_bl_int, isn_bl_str, isn_bl_tuple, isn_bl_list, isn_bl_dict, isn_int_bool, isn_int_int, isn_int_str, isn_int_tuple, isn_int_list, isn_int_dict, isn_str_bool, isn_str_int, isn_str_str, isn_str_tuple, isn_str_list, isn_str_dict, isn_lst_bool, isn_lst_int, isn_lst_str, isn_lst_tuple, isn_lst_list, isn_lst_dict, isn_tup_bool, isn_tup_int, isn_tup_str, isn_tup_tuple, isn_tup_list, isn_tup_dict, isn_dct_bool, isn_dct_int, isn_dct_str, isn_dct_tuple, isn_dct_list, isn_dct_dict, okn_bool, okn_int, okn_str, okn_tuple, okn_list, okn_dict, cIsi, tyT_n, tyT_b, tyT_i, tyT_s, tyT_r, V.ty.injEq, tSl, tPart, tNoPart, rSlF, gName, List.length_map, Int.reduceToNat, cpow18, Wd.s_inj, ws_num, ws_field, ws_add, ws_sub, ws_mul, ws_eq, ws_lt, ws_gt, ws_le, ws_ge, ws_and, ws_or, ws_not, rInTab, rIxTab, rCatH, rCat, rInT, cSortD, cMaxL, cMinL, rNeNilI, inV, flatV, List.any_cons, List.any_nil, List.all_cons, List.all_nil, eqV, Bool.and_true, Bool.and_false, Bool.true_and, Bool.false_and, Bool.or_false, Bool.false_or, Bool.or_true, Bool.true_or, Wd.beq_s, sz0, sz1, sz2, sz3, sz4, sz5, sz6, isc_eq, isc_lt, isc_gt, isc_le, isc_ge, isc_and, isc_or, isc_not, isl_and, isl_or, isl_not, rSetD, rUnion, rSortTx, rRep, tFor_eq, iList, hd6]
        refine ⟨es.map (·.1), keys_str es, by rw [List.length_map]; have := S6.few.1; omega, fun ys sa perm hsa => ?_⟩
        have ss := same_new (o := .lst (ys.map V.str)) hsa
        have B7 := B6.same ss
        have C1' := C1.tups (TupS.ofSame ss)
        have C2' := C2.tups (TupS.ofSame ss)
        have hsa7 : upd H6 sa (.lst (ys.map V.str)) sa = some (.lst (ys.map V.str)) := upd_same
        have okt : ∀ t ∈ ys, PyData.strOk t = true := fun t ht => by
          obtain ⟨e, he, rfl⟩ := List.mem_map.mp (perm.mem_iff.mp ht)
          exact (S6.oks e he).1
        generalize upd H6 sa (.lst (ys.map V.str)) = H7 at *
        refine ⟨⟨_, .inl (.inl hsa7)⟩, forB_it (for_it (walk_list (xs := ys.map V.str)) (fun j σ H2 => ∃ y7 y8, σ = [some (.ref a), some (.ref h), some (.int (0 + (i : Nat))), some (.ref d), some (.ref fa), some v1, some v2, y7, y8] ∧ Same H7 H2)
          ⟨_, _, rfl, Same.refl _⟩ (fun j σ H2 _ h2 => by obtain ⟨_, _, _, S2⟩ := h2; exact .inl (.inl (S2 _ _ hsa7))) ?_ ?_)⟩
        · rintro j x σ H2 H3 hj ⟨y7, y8, rfl, S2⟩ ⟨rfl, hx⟩
          obtain ⟨t, ht, rfl⟩ := str_at hx
          have ok := okt t (List.mem_of_getElem? ht)
          have C13 := C1'.tups (TupS.ofSame S2)
          have C23 := C2'.tups (TupS.ofSame S2)
          simp only [tVar, tC, tOp, rI, rI0, rU, tTest, tB, tAnd, tOr, tNot, tAndV, tOrV, tNotV, tIf, tNil, tCons, tTup, tLst, tCB, tSeq, tAsg, gName, tRet, tRetN, tIfS, tNext, tDrop, tCall, tUn, tPar, CMul, CDiv, V.int.injEq, V.bl.injEq, V.ref.injEq, V.str.injEq, Option.some.injEq, List.cons.injEq, and_true, true_and, and_false, false_and, or_false, false_or, or_true, true_or, exists_eq_left', exists_eq_left, exists_and_left, exists_and_right, exists_eq', exists_eq, exists_false, exists_const, List.getElem?_cons_succ, List.getElem?_cons_zero, List.set_cons_succ, List.set_cons_zero, List.length_cons, List.length_nil, List.cons_append, List.nil_append, List.append_nil, reduceCtorEq, Int.reduceLT, Int.reduceLE, Int.reduceNeg, Int.reducePow, Int.reduceSub, Int.reduceAdd, Nat.reduceAdd, Nat.reduceLeDiff, Bool.not_true, Bool.not_false, decide_true, decide_false, Bool.false_eq_true, ↓reduceIte, upd_same, not_true_eq_false, not_false_eq_true, lsO_l, lsO_f, tpO_t, tpO_f, dkO_d, dkO_f, keyO_i, keyO_s, rIxH, rIxU, cLenL, cLenT, cListL, cListT, cTupL, cIntB, cAll, rEqNilI, rEq, rNe, scal_ii, scal_ss, scal_bb, scal_nn, scal_ni, scal_in, scal_ns, scal_sn, gSub, rSetL, ixs0, ixs1, ixs2, seq0, at0, at1, at2, at3, tBM, tBM0, rAppend, rPopAt, tyV_list, tGet2, tGetI, sPut, tMG, rTIdx, tyTup, tTupF, cx_K, cx_w, ex_map_int, ex_nil_int, ex_cons_int, List.map_cons, List.map_nil, List.isEmpty_nil, List.isEmpty_cons, List.eraseIdx_zero, List.tail_cons, List.eraseIdx_cons_zero, HO.lst.injEq, HO.tup.injEq, HO.dK.injEq, HO.frz.injEq, ne_eq, gTupH, gCons, gNil, wipe, tYes, upd_upd, and_assoc, List.getElem?_map, Option.map_some, isn_non_bool, isn_non_int, isn_non_str, isn_non_tuple, isn_non_list, isn_non_dict, isn_bl_bool, isn_bl_int, isn_bl_str, isn_bl_tuple, isn_bl_list, isn_bl_dict, isn_int_bool, isn_int_int, isn_int_str, isn_int_tuple, isn_int_list, isn_int_dict, isn_str_bool, isn_str_int, isn_str_str, isn_str_tuple, isn_str_list, isn_str_dict, isn_lst_bool, isn_lst_int, isn_lst_str, isn_lst_tuple, isn_lst_list, isn_lst_dict, isn_tup_bool, isn_tup_int, isn_tup_str, isn_tup_tuple, isn_tup_list, isn_tup_dict, isn_dct_bool, isn_dct_int, isn_dct_str, isn_dct_tuple, isn_dct_list, isn_dct_dict, okn_bool, okn_int, okn_str, okn_tuple, okn_list, okn_dict, cIsi, tyT_n, tyT_b, tyT_i, tyT_s, tyT_r, V.ty.injEq, tSl, tPart, tNoPart, rSlF, gName, List.length_map, Int.reduceToNat, cpow18, Wd.s_inj, ws_num, ws_field, ws_add, ws_sub, ws_mul, ws_eq, ws_lt, ws_gt, ws_le, ws_ge, ws_and, ws_or, ws_not, rInTab, rIxTab, rCatH, rCat, rInT, cSortD, cMaxL, cMinL, rNeNilI, inV, flatV, List.any_cons, List.any_nil, List.all_cons, List.all_nil, eqV, Bool.and_true, Bool.and_false, Bool.true_and, Bool.false_and, Bool.or_false, Bool.false_or, Bool.or_true, Bool.true_or, Wd.beq_s, sz0, sz1, sz2, sz3, sz4, sz5, sz6, isc_eq, isc_lt, isc_gt, isc_le, isc_ge, isc_and, isc_or, isc_not, isl_and, isl_or, isl_not, rSetD, rUnion, rSortTx, rRep, gName]
          refine ⟨fun σ' H4 => ∃ (u : V) (b : Option (List En)), σ' = [some (.ref a), some (.ref h), some (.int (0 + (i : Nat))), some (.ref d), some (.ref fa), some v1, some v2, some (.str t), some u] ∧ Same H3 H4 ∧ RBd H4 u b ∧ BothM (boundsM t (some c1)) (boundsM t (some c2)) (spans b), ?_, ?_⟩
          · try simp only [tVar, tC, tOp, rI, rI0, rU, tTest, tB, tAnd, tOr, tNot, tAndV, tOrV, tNotV, tIf, tNil, tCons, tTup, tLst, tCB, tSeq, tAsg, gName, tRet, tRetN, tIfS, tNext, tDrop, tCall, tUn, tPar, CMul, CDiv, V.int.injEq, V.bl.injEq, V.ref.injEq, V.str.injEq, Option.some.injEq, List.cons.injEq, and_true, true_and, and_false, false_and, or_false, false_or, or_true, true_or, exists_eq_left', exists_eq_left, exists_and_left, exists_and_right, exists_eq', exists_eq, exists_false, exists_const, List.getElem?_cons_succ, List.getElem?_cons_zero, List.set_cons_succ, List.set_cons_zero, List.length_cons, List.length_nil, List.cons_append, List.nil_append, List.append_nil, reduceCtorEq, Int.reduceLT, Int.reduceLE, Int.reduceNeg, Int.reducePow, Int.reduceSub, Int.reduceAdd, Nat.reduceAdd, Nat.reduceLeDiff, Bool.not_true, Bool.not_false, decide_true, decide_false, Bool.false_eq_true, ↓reduceIte, upd_same, not_true_eq_false, not_false_eq_true, lsO_l, lsO_f, tpO_t, tpO_f, dkO_d, dkO_f, keyO_i, keyO_s, rIxH, rIxU, cLenL, cLenT, cListL, cListT, cTupL, cIntB, cAll, rEqNilI, rEq, rNe, scal_ii, scal_ss, scal_bb, scal_nn, scal_ni, scal_in, scal_ns, scal_sn, gSub, rSetL, ixs0, ixs1, ixs2, seq0, at0, at1, at2, at3, tBM, tBM0, rAppend, rPopAt, tyV_list, tGet2, tGetI, sPut, tMG, rTIdx, tyTup, tTupF, cx_K, cx_w, ex_map_int, ex_nil_int, ex_cons_int, List.map_cons, List.map_nil, List.isEmpty_nil, List.isEmpty_cons, List.eraseIdx_zero, List.tail_cons, List.eraseIdx_cons_zero, HO.lst.injEq, HO.tup.injEq, HO.dK.injEq, HO.frz.injEq, ne_eq, gTupH, gCons, gNil, wipe, tYes, upd_upd, and_assoc, List.getElem?_map, Option.map_some, isn_non_bool, isn_non_int, isn_non_str, isn_non_tuple, isn_non_list, isn_non_dict, isn_bl_bool, isn_bl_int, isn_bl_str, isn_bl_tuple, isn_bl_list, isn_bl_dict, isn_int_bool, isn_int_int, isn_int_str, isn_int_tuple, isn_int_list, isn_int_dict, isn_str_bool, isn_str_int, isn_str_str, isn_str_tuple, isn_str_list, isn_str_dict, isn_lst_bool, isn_lst_int, isn_lst_str, isn_lst_tuple, isn_lst_list, isn_lst_dict, isn_tup_bool, isn_tup_int, isn_tup_str, isn_tup_tuple, isn_tup_list, isn_tup_dict, isn_dct_bool, isn_dct_int, isn_dct_str, isn_dct_tuple, isn_dct_list, isn_dct_dict, okn_bool, okn_int, okn_str, okn_tuple, okn_list, okn_dict, cIsi, tyT_n, tyT_b, tyT_i, tyT_s, tyT_r, V.ty.injEq, tSl, tPart, tNoPart, rSlF, gName, List.length_map, Int.reduceToNat, cpow18, Wd.s_inj, ws_num, ws_field, ws_add, ws_sub, ws_mul, ws_eq, ws_lt, ws_gt, ws_le, ws_ge, ws_and, ws_or, ws_not, rInTab, rIxTab, rCatH, rCat, rInT, cSortD, cMaxL, cMinL, rNeNilI, inV, flatV, List.any_cons, List.any_nil, List.all_cons, List.all_nil, eqV, Bool.and_true, Bool.and_false, Bool.true_and, Bool.false_and, Bool.or_false, Bool.false_or, Bool.or_true, Bool.true_or, Wd.beq_s, sz0, sz1, sz2, sz3, sz4, sz5, sz6, isc_eq, isc_lt, isc_gt, isc_le, isc_ge, isc_and, isc_or, isc_not, isl_and, isl_or, isl_not, rSetD, rUnion, rSortTx, rRep]
            refine bd_of (co := some c1) C13 n1 ok fun u1 b1 Ha e1 R1 sa => ?_
            try simp only [tVar, tC, tOp, rI, rI0, rU, tTest, tB, tAnd, tOr, tNot, tAndV, tOrV, tNotV, tIf, tNil, tCons, tTup, tLst, tCB, tSeq, tAsg, gName, tRet, tRetN, tIfS, tNext, tDrop, tCall, tUn, tPar, CMul, CDiv, V.int.injEq, V.bl.injEq, V.ref.injEq, V.str.injEq, Option.some.injEq, List.cons.injEq, and_true, true_and, and_false, false_and, or_false, false_or, or_true, true_or, exists_eq_left', exists_eq_left, exists_and_left, exists_and_right, exists_eq', exists_eq, exists_false, exists_const, List.getElem?_cons_succ, List.getElem?_cons_zero, List.set_cons_succ, List.set_cons_zero, List.length_cons, List.length_nil, List.cons_append, List.nil_append, List.append_nil, reduceCtorEq, Int.reduceLT, Int.reduceLE, Int.reduceNeg, Int.reducePow, Int.reduceSub, Int.reduceAdd, Nat.reduceAdd, Nat.reduceLeDiff, Bool.not_true, Bool.not_false, decide_true, decide_false, Bool.false_eq_true, ↓reduceIte, upd_same, not_true_eq_false, not_false_eq_true, lsO_l, lsO_f, tpO_t, tpO_f, dkO_d, dkO_f, keyO_i, keyO_s, rIxH, rIxU, cLenL, cLenT, cListL, cListT, cTupL, cIntB, cAll, rEqNilI, rEq, rNe, scal_ii, scal_ss, scal_bb, scal_nn, scal_ni, scal_in, scal_ns, scal_sn, gSub, rSetL, ixs0, ixs1, ixs2, seq0, at0, at1, at2, at3, tBM, tBM0, rAppend, rPopAt, tyV_list, tGet2, tGetI, sPut, tMG, rTIdx, tyTup, tTupF, cx_K, cx_w, ex_map_int, ex_nil_int, ex_cons_int, List.map_cons, List.map_nil, List.isEmpty_nil, List.isEmpty_cons, List.eraseIdx_zero, List.tail_cons, List.eraseIdx_cons_zero, HO.lst.injEq, HO.tup.injEq, HO.dK.injEq, HO.frz.injEq, ne_eq, gTupH, gCons, gNil, wipe, tYes, upd_upd, and_assoc, List.getElem?_map, Option.map_some, isn_non_bool, isn_non_int, isn_non_str, isn_non_tuple, isn_non_list, isn_non_dict, isn_bl_bool, isn_bl_int, isn_bl_str, isn_bl_tuple, isn_bl_list, isn_bl_dict, isn_int_bool, isn_int_int, isn_int_str, isn_int_tuple, isn_int_list, isn_int_dict, isn_str_bool, isn_str_int, isn_str_str, isn_str_tuple, isn_str_list, isn_str_dict, isn_lst_bool, isn_lst_int, isn_lst_str, isn_lst_tuple, isn_lst_list, isn_lst_dict, isn_tup_bool, isn_tup_int, isn_tup_str, isn_tup_tuple, isn_tup_list, isn_tup_dict, isn_dct_bool, isn_dct_int, isn_dct_str, isn_dct_tuple, isn_dct_list, isn_dct_dict, okn_bool, okn_int, okn_str, okn_tuple, okn_list, okn_dict, cIsi, tyT_n, tyT_b, tyT_i, tyT_s, tyT_r, V.ty.injEq, tSl, tPart, tNoPart, rSlF, gName, List.length_map, Int.reduceToNat, cpow18, Wd.s_inj, ws_num, ws_field, ws_add, ws_sub, ws_mul, ws_eq, ws_lt, ws_gt, ws_le, ws_ge, ws_and, ws_or, ws_not, rInTab, rIxTab, rCatH, rCat, rInT, cSortD, cMaxL, cMinL, rNeNilI, inV, flatV, List.any_cons, List.any_nil, List.all_cons, List.all_nil, eqV, Bool.and_true, Bool.and_false, Bool.true_and, Bool.false_and, Bool.or_false, Bool.false_or, Bool.or_true, Bool.true_or, Wd.beq_s, sz0, sz1, sz2, sz3, sz4, sz5, sz6, isc_eq, isc_lt, isc_gt, isc_le, isc_ge, isc_and, isc_or, isc_not, isl_and, isl_or, isl_not, rSetD, rUnion, rSortTx, rRep]
            refine bd_of (co := some c2) (C23.tups (TupS.ofSame sa)) n2 ok fun u2 b2 Hb e2 R2 sb => ?_
            try simp only [tVar, tC, tOp, rI, rI0, rU, tTest, tB, tAnd, tOr, tNot, tAndV, tOrV, tNotV, tIf, tNil, tCons, tTup, tLst, tCB, tSeq, tAsg, gName, tRet, tRetN, tIfS, tNext, tDrop, tCall, tUn, tPar, CMul, CDiv, V.int.injEq, V.bl.injEq, V.ref.injEq, V.str.injEq, Option.some.injEq, List.cons.injEq, and_true, true_and, and_false, false_and, or_false, false_or, or_true, true_or, exists_eq_left', exists_eq_left, exists_and_left, exists_and_right, exists_eq', exists_eq, exists_false, exists_const, List.getElem?_cons_succ, List.getElem?_cons_zero, List.set_cons_succ, List.set_cons_zero, List.length_cons, List.length_nil, List.cons_append, List.nil_append, List.append_nil, reduceCtorEq, Int.reduceLT, Int.reduceLE, Int.reduceNeg, Int.reducePow, Int.reduceSub, Int.reduceAdd, Nat.reduceAdd, Nat.reduceLeDiff, Bool.not_true, Bool.not_false, decide_true, decide_false, Bool.false_eq_true, ↓reduceIte, upd_same, not_true_eq_false, not_false_eq_true, lsO_l, lsO_f, tpO_t, tpO_f, dkO_d, dkO_f, keyO_i, keyO_s, rIxH, rIxU, cLenL, cLenT, cListL, cListT, cTupL, cIntB, cAll, rEqNilI, rEq, rNe, scal_ii, scal_ss, scal_bb, scal_nn, scal_ni, scal_in, scal_ns, scal_sn, gSub, rSetL, ixs0, ixs1, ixs2, seq0, at0, at1, at2, at3, tBM, tBM0, rAppend, rPopAt, tyV_list, tGet2, tGetI, sPut, tMG, rTIdx, tyTup, tTupF, cx_K, cx_w, ex_map_int, ex_nil_int, ex_cons_int, List.map_cons, List.map_nil, List.isEmpty_nil, List.isEmpty_cons, List.eraseIdx_zero, List.tail_cons, List.eraseIdx_cons_zero, HO.lst.injEq, HO.tup.injEq, HO.dK.injEq, HO.frz.injEq, ne_eq, gTupH, gCons, gNil, wipe, tYes, upd_upd, and_assoc, List.getElem?_map, Option.map_some, isn_non_bool, isn_non_int, isn_non_str, isn_non_tuple, isn_non_list, isn_non_dict, isn_bl_bool, isn_bl_int, isn_bl_str, isn_bl_tuple, isn_bl_list, isn_bl_dict, isn_int_bool, isn_int_int, isn_int_str, isn_int_tuple, isn_int_list, isn_int_dict, isn_str_bool, isn_str_int, isn_str_str, isn_str_tuple, isn_str_list, isn_str_dict, isn_lst_bool, isn_lst_int, isn_lst_str, isn_lst_tuple, isn_lst_list, isn_lst_dict, isn_tup_bool, isn_tup_int, isn_tup_str, isn_tup_tuple, isn_tup_list, isn_tup_dict, isn_dct_bool, isn_dct_int, isn_dct_str, isn_dct_tuple, isn_dct_list, isn_dct_dict, okn_bool, okn_int, okn_str, okn_tuple, okn_list, okn_dict, cIsi, tyT_n, tyT_b, tyT_i, tyT_s, tyT_r, V.ty.injEq, tSl, tPart, tNoPart, rSlF, gName, List.length_map, Int.reduceToNat, cpow18, Wd.s_inj, ws_num, ws_field, ws_add, ws_sub, ws_mul, ws_eq, ws_lt, ws_gt, ws_le, ws_ge, ws_and, ws_or, ws_not, rInTab, rIxTab, rCatH, rCat, rInT, cSortD, cMaxL, cMinL, rNeNilI, inV, flatV, List.any_cons, List.any_nil, List.all_cons, List.all_nil, eqV, Bool.and_true, Bool.and_false, Bool.true_and, Bool.false_and, Bool.or_false, Bool.false_or, Bool.or_true, Bool.true_or, Wd.beq_s, sz0, sz1, sz2, sz3, sz4, sz5, sz6, isc_eq, isc_lt, isc_gt, isc_le, isc_ge, isc_and, isc_or, isc_not, isl_and, isl_or, isl_not, rSetD, rUnion, rSortTx, rRep]
            refine ⟨u1, u2, b1, b2, rfl, R1.same sb, R2, len_bd g1 e1, len_bd g2 e2, fun v' b' H' s R' BM => ?_⟩
            try simp only [tVar, tC, tOp, rI, rI0, rU, tTest, tB, tAnd, tOr, tNot, tAndV, tOrV, tNotV, tIf, tNil, tCons, tTup, tLst, tCB, tSeq, tAsg, gName, tRet, tRetN, tIfS, tNext, tDrop, tCall, tUn, tPar, CMul, CDiv, V.int.injEq, V.bl.injEq, V.ref.injEq, V.str.injEq, Option.some.injEq, List.cons.injEq, and_true, true_and, and_false, false_and, or_false, false_or, or_true, true_or, exists_eq_left', exists_eq_left, exists_and_left, exists_and_right, exists_eq', exists_eq, exists_false, exists_const, List.getElem?_cons_succ, List.getElem?_cons_zero, List.set_cons_succ, List.set_cons_zero, List.length_cons, List.length_nil, List.cons_append, List.nil_append, List.append_nil, reduceCtorEq, Int.reduceLT, Int.reduceLE, Int.reduceNeg, Int.reducePow, Int.reduceSub, Int.reduceAdd, Nat.reduceAdd, Nat.reduceLeDiff, Bool.not_true, Bool.not_false, decide_true, decide_false, Bool.false_eq_true, ↓reduceIte, upd_same, not_true_eq_false, not_false_eq_true, lsO_l, lsO_f, tpO_t, tpO_f, dkO_d, dkO_f, keyO_i, keyO_s, rIxH, rIxU, cLenL, cLenT, cListL, cListT, cTupL, cIntB, cAll, rEqNilI, rEq, rNe, scal_ii, scal_ss, scal_bb, scal_nn, scal_ni, scal_in, scal_ns, scal_sn, gSub, rSetL, ixs0, ixs1, ixs2, seq0, at0, at1, at2, at3, tBM, tBM0, rAppend, rPopAt, tyV_list, tGet2, tGetI, sPut, tMG, rTIdx, tyTup, tTupF, cx_K, cx_w, ex_map_int, ex_nil_int, ex_cons_int, List.map_cons, List.map_nil, List.isEmpty_nil, List.isEmpty_cons, List.eraseIdx_zero, List.tail_cons, List.eraseIdx_cons_zero, HO.lst.injEq, HO.tup.injEq, HO.dK.injEq, HO.frz.injEq, ne_eq, gTupH, gCons, gNil, wipe, tYes, upd_upd, and_assoc, List.getElem?_map, Option.map_some, isn_non_bool, isn_non_int, isn_non_str, isn_non_tuple, isn_non_list, isn_non_dict, isn_bl_bool, isn_bl_int, isn_bl_str, isn_bl_tuple, isn_bl_list, isn_bl_dict, isn_int_bool, isn_int_int, isn_int_str, isn_int_tuple, isn_int_list, isn_int_dict, isn_str_bool, isn_str_int, isn_str_str, isn_str_tuple, isn_str_list, isn_str_dict, isn_lst_bool, isn_lst_int, isn_lst_str, isn_lst_tuple, isn_lst_list, isn_lst_dict, isn_tup_bool, isn_tup_int, isn_tup_str, isn_tup_tuple, isn_tup_list, isn_tup_dict, isn_dct_bool, isn_dct_int, isn_dct_str, isn_dct_tuple, isn_dct_list, isn_dct_dict, okn_bool, okn_int, okn_str, okn_tuple, okn_list, okn_dict, cIsi, tyT_n, tyT_b, tyT_i, tyT_s, tyT_r, V.ty.injEq, tSl, tPart, tNoPart, rSlF, gName, List.length_map, Int.reduceToNat, cpow18, Wd.s_inj, ws_num, ws_field, ws_add, ws_sub, ws_mul, ws_eq, ws_lt, ws_gt, ws_le, ws_ge, ws_and, ws_or, ws_not, rInTab, rIxTab, rCatH, rCat, rInT, cSortD, cMaxL, cMinL, rNeNilI, inV, flatV, List.any_cons, List.any_nil, List.all_cons, List.all_nil, eqV, Bool.and_true, Bool.and_false, Bool.true_and, Bool.false_and, Bool.or_false, Bool.false_or, Bool.or_true, Bool.true_or, Wd.beq_s, sz0, sz1, sz2, sz3, sz4, sz5, sz6, isc_eq, isc_lt, isc_gt, isc_le, isc_ge, isc_and, isc_or, isc_not, isl_and, isl_or, isl_not, rSetD, rUnion, rSortTx, rRep]
            exact ⟨(sa.trans sb).trans s, b', R', by rw [e1, e2]; exact BM⟩
          rintro σ' H4 ⟨u, b, rfl, S4', R4, BM⟩
          have C14 := C13.tups (TupS.ofSame S4')
          have C24 := C23.tups (TupS.ofSame S4')
          refine ⟨fun σ' H5 => σ' = [some (.ref a), some (.ref h), some (.int (0 + (i : Nat))), some (.ref d), some (.ref fa), some v1, some v2, some (.str t), some u] ∧ Same H4 H5, ?_, ?_⟩
          · try simp only [tVar, tC, tOp, rI, rI0, rU, tTest, tB, tAnd, tOr, tNot, tAndV, tOrV, tNotV, tIf, tNil, tCons, tTup, tLst, tCB, tSeq, tAsg, gName, tRet, tRetN, tIfS, tNext, tDrop, tCall, tUn, tPar, CMul, CDiv, V.int.injEq, V.bl.injEq, V.ref.injEq, V.str.injEq, Option.some.injEq, List.cons.injEq, and_true, true_and, and_false, false_and, or_false, false_or, or_true, true_or, exists_eq_left', exists_eq_left, exists_and_left, exists_and_right, exists_eq', exists_eq, exists_false, exists_const, List.getElem?_cons_succ, List.getElem?_cons_zero, List.set_cons_succ, List.set_cons_zero, List.length_cons, List.length_nil, List.cons_append, List.nil_append, List.append_nil, reduceCtorEq, Int.reduceLT, Int.reduceLE, Int.reduceNeg, Int.reducePow, Int.reduceSub, Int.reduceAdd, Nat.reduceAdd, Nat.reduceLeDiff, Bool.not_true, Bool.not_false, decide_true, decide_false, Bool.false_eq_true, ↓reduceIte, upd_same, not_true_eq_false, not_false_eq_true, lsO_l, lsO_f, tpO_t, tpO_f, dkO_d, dkO_f, keyO_i, keyO_s, rIxH, rIxU, cLenL, cLenT, cListL, cListT, cTupL, cIntB, cAll, rEqNilI, rEq, rNe, scal_ii, scal_ss, scal_bb, scal_nn, scal_ni, scal_in, scal_ns, scal_sn, gSub, rSetL, ixs0, ixs1, ixs2, seq0, at0, at1, at2, at3, tBM, tBM0, rAppend, rPopAt, tyV_list, tGet2, tGetI, sPut, tMG, rTIdx, tyTup, tTupF, cx_K, cx_w, ex_map_int, ex_nil_int, ex_cons_int, List.map_cons, List.map_nil, List.isEmpty_nil, List.isEmpty_cons, List.eraseIdx_zero, List.tail_cons, List.eraseIdx_cons_zero, HO.lst.injEq, HO.tup.injEq, HO.dK.injEq, HO.frz.injEq, ne_eq, gTupH, gCons, gNil, wipe, tYes, upd_upd, and_assoc, List.getElem?_map, Option.map_some, isn_non_bool, isn_non_int, isn_non_str, isn_non_tuple, isn_non_list, isn_non_dict, isn_bl_bool, isn_bl_int, isn_bl_str, isn_bl_tuple, isn_bl_list, isn_bl_dict, isn_int_bool, isn_int_int, isn_int_str, isn_int_tuple, isn_int_list, isn_int_dict, isn_str_bool, isn_str_int, isn_str_str, isn_str_tuple, isn_str_list, isn_str_dict, isn_lst_bool, isn_lst_int, isn_lst_str, isn_lst_tuple, isn_lst_list, isn_lst_dict, isn_tup_bool, isn_tup_int, isn_tup_str, isn_tup_tuple, isn_tup_list, isn_tup_dict, isn_dct_bool, isn_dct_int, isn_dct_str, isn_dct_tuple, isn_dct_list, isn_dct_dict, okn_bool, okn_int, okn_str, okn_tuple, okn_list, okn_dict, cIsi, tyT_n, tyT_b, tyT_i, tyT_s, tyT_r, V.ty.injEq, tSl, tPart, tNoPart, rSlF, gName, List.length_map, Int.reduceToNat, cpow18, Wd.s_inj, ws_num, ws_field, ws_add, ws_sub, ws_mul, ws_eq, ws_lt, ws_gt, ws_le, ws_ge, ws_and, ws_or, ws_not, rInTab, rIxTab, rCatH, rCat, rInT, cSortD, cMaxL, cMinL, rNeNilI, inV, flatV, List.any_cons, List.any_nil, List.all_cons, List.all_nil, eqV, Bool.and_true, Bool.and_false, Bool.true_and, Bool.false_and, Bool.or_false, Bool.false_or, Bool.or_true, Bool.true_or, Wd.beq_s, sz0, sz1, sz2, sz3, sz4, sz5, sz6, isc_eq, isc_lt, isc_gt, isc_le, isc_ge, isc_and, isc_or, isc_not, isl_and, isl_or, isl_not, rSetD, rUnion, rSortTx, rRep]
            intro p hp
            have sp := same_new (o := .tup [.str Wd.and.s, v1, v2]) hp
            refine bd_of (co := some (.con .and c1 c2)) ⟨p, v1, v2, rfl, upd_same, C14.tups (TupS.ofSame sp), C24.tups (TupS.ofSame sp)⟩ n12 ok fun u1 b1 Ha e1 R1 sa => ?_
            have sA := sp.trans sa
            try simp only [tVar, tC, tOp, rI, rI0, rU, tTest, tB, tAnd, tOr, tNot, tAndV, tOrV, tNotV, tIf, tNil, tCons, tTup, tLst, tCB, tSeq, tAsg, gName, tRet, tRetN, tIfS, tNext, tDrop, tCall, tUn, tPar, CMul, CDiv, V.int.injEq, V.bl.injEq, V.ref.injEq, V.str.injEq, Option.some.injEq, List.cons.injEq, and_true, true_and, and_false, false_and, or_false, false_or, or_true, true_or, exists_eq_left', exists_eq_left, exists_and_left, exists_and_right, exists_eq', exists_eq, exists_false, exists_const, List.getElem?_cons_succ, List.getElem?_cons_zero, List.set_cons_succ, List.set_cons_zero, List.length_cons, List.length_nil, List.cons_append, List.nil_append, List.append_nil, reduceCtorEq, Int.reduceLT, Int.reduceLE, Int.reduceNeg, Int.reducePow, Int.reduceSub, Int.reduceAdd, Nat.reduceAdd, Nat.reduceLeDiff, Bool.not_true, Bool.not_false, decide_true, decide_false, Bool.false_eq_true, ↓reduceIte, upd_same, not_true_eq_false, not_false_eq_true, lsO_l, lsO_f, tpO_t, tpO_f, dkO_d, dkO_f, keyO_i, keyO_s, rIxH, rIxU, cLenL, cLenT, cListL, cListT, cTupL, cIntB, cAll, rEqNilI, rEq, rNe, scal_ii, scal_ss, scal_bb, scal_nn, scal_ni, scal_in, scal_ns, scal_sn, gSub, rSetL, ixs0, ixs1, ixs2, seq0, at0, at1, at2, at3, tBM, tBM0, rAppend, rPopAt, tyV_list, tGet2, tGetI, sPut, tMG, rTIdx, tyTup, tTupF, cx_K, cx_w, ex_map_int, ex_nil_int, ex_cons_int, List.map_cons, List.map_nil, List.isEmpty_nil, List.isEmpty_cons, List.eraseIdx_zero, List.tail_cons, List.eraseIdx_cons_zero, HO.lst.injEq, HO.tup.injEq, HO.dK.injEq, HO.frz.injEq, ne_eq, gTupH, gCons, gNil, wipe, tYes, upd_upd, and_assoc, List.getElem?_map, Option.map_some, isn_non_bool, isn_non_int, isn_non_str, isn_non_tuple, isn_non_list, isn_non_dict, isn_bl_bool, isn_bl_int, isn_bl_str, isn_bl_tuple, isn_bl_list, isn_bl_dict, isn_int_bool, isn_int_int, isn_int_str, isn_int_tuple, isn_int_list, isn_int_dict, isn_str_bool, isn_str_int, isn_str_str, isn_str_tuple, isn_str_list, isn_str_dict, isn_lst_bool, isn_lst_int, isn_lst_str, isn_lst_tuple, isn_lst_list, isn_lst_dict, isn_tup_bool, isn_tup_int, isn_tup_str, isn_tup_tuple, isn_tup_list, isn_tup_dict, isn_dct_bool, isn_dct_int, isn_dct_str, isn_dct_tuple, isn_dct_list, isn_dct_dict, okn_bool, okn_int, okn_str, okn_tuple, okn_list, okn_dict, cIsi, tyT_n, tyT_b, tyT_i, tyT_s, tyT_r, V.ty.injEq, tSl, tPart, tNoPart, rSlF, gName, List.length_map, Int.reduceToNat, cpow18, Wd.s_inj, ws_num, ws_field, ws_add, ws_sub, ws_mul, ws_eq, ws_lt, ws_gt, ws_le, ws_ge, ws_and, ws_or, ws_not, rInTab, rIxTab, rCatH, rCat, rInT, cSortD, cMaxL, cMinL, rNeNilI, inV, flatV, List.any_cons, List.any_nil, List.all_cons, List.all_nil, eqV, Bool.and_true, Bool.and_false, Bool.true_and, Bool.false_and, Bool.or_false, Bool.false_or, Bool.or_true, Bool.true_or, Wd.beq_s, sz0, sz1, sz2, sz3, sz4, sz5, sz6, isc_eq, isc_lt, isc_gt, isc_le, isc_ge, isc_and, isc_or, isc_not, isl_and, isl_or, isl_not, rSetD, rUnion, rSortTx, rRep]
            refine ne_bd R1 (R4.same sA) (by rw [← e1]; exact law_and BM) ?_
            try simp only [tVar, tC, tOp, rI, rI0, rU, tTest, tB, tAnd, tOr, tNot, tAndV, tOrV, tNotV, tIf, tNil, tCons, tTup, tLst, tCB, tSeq, tAsg, gName, tRet, tRetN, tIfS, tNext, tDrop, tCall, tUn, tPar, CMul, CDiv, V.int.injEq, V.bl.injEq, V.ref.injEq, V.str.injEq, Option.some.injEq, List.cons.injEq, and_true, true_and, and_false, false_and, or_false, false_or, or_true, true_or, exists_eq_left', exists_eq_left, exists_and_left, exists_and_right, exists_eq', exists_eq, exists_false, exists_const, List.getElem?_cons_succ, List.getElem?_cons_zero, List.set_cons_succ, List.set_cons_zero, List.length_cons, List.length_nil, List.cons_append, List.nil_append, List.append_nil, reduceCtorEq, Int.reduceLT, Int.reduceLE, Int.reduceNeg, Int.reducePow, Int.reduceSub, Int.reduceAdd, Nat.reduceAdd, Nat.reduceLeDiff, Bool.not_true, Bool.not_false, decide_true, decide_false, Bool.false_eq_true, ↓reduceIte, upd_same, not_true_eq_false, not_false_eq_true, lsO_l, lsO_f, tpO_t, tpO_f, dkO_d, dkO_f, keyO_i, keyO_s, rIxH, rIxU, cLenL, cLenT, cListL, cListT, cTupL, cIntB, cAll, rEqNilI, rEq, rNe, scal_ii, scal_ss, scal_bb, scal_nn, scal_ni, scal_in, scal_ns, scal_sn, gSub, rSetL, ixs0, ixs1, ixs2, seq0, at0, at1, at2, at3, tBM, tBM0, rAppend, rPopAt, tyV_list, tGet2, tGetI, sPut, tMG, rTIdx, tyTup, tTupF, cx_K, cx_w, ex_map_int, ex_nil_int, ex_cons_int, List.map_cons, List.map_nil, List.isEmpty_nil, List.isEmpty_cons, List.eraseIdx_zero, List.tail_cons, List.eraseIdx_cons_zero, HO.lst.injEq, HO.tup.injEq, HO.dK.injEq, HO.frz.injEq, ne_eq, gTupH, gCons, gNil, wipe, tYes, upd_upd, and_assoc, List.getElem?_map, Option.map_some, isn_non_bool, isn_non_int, isn_non_str, isn_non_tuple, isn_non_list, isn_non_dict, isn_bl_bool, isn_bl_int, isn_bl_str, isn_bl_tuple, isn_bl_list, isn_bl_dict, isn_int_bool, isn_int_int, isn_int_str, isn_int_tuple, isn_int_list, isn_int_dict, isn_str_bool, isn_str_int, isn_str_str, isn_str_tuple, isn_str_list, isn_str_dict, isn_lst_bool, isn_lst_int, isn_lst_str, isn_lst_tuple, isn_lst_list, isn_lst_dict, isn_tup_bool, isn_tup_int, isn_tup_str, isn_tup_tuple, isn_tup_list, isn_tup_dict, isn_dct_bool, isn_dct_int, isn_dct_str, isn_dct_tuple, isn_dct_list, isn_dct_dict, okn_bool, okn_int, okn_str, okn_tuple, okn_list, okn_dict, cIsi, tyT_n, tyT_b, tyT_i, tyT_s, tyT_r, V.ty.injEq, tSl, tPart, tNoPart, rSlF, gName, List.length_map, Int.reduceToNat, cpow18, Wd.s_inj, ws_num, ws_field, ws_add, ws_sub, ws_mul, ws_eq, ws_lt, ws_gt, ws_le, ws_ge, ws_and, ws_or, ws_not, rInTab, rIxTab, rCatH, rCat, rInT, cSortD, cMaxL, cMinL, rNeNilI, inV, flatV, List.any_cons, List.any_nil, List.all_cons, List.all_nil, eqV, Bool.and_true, Bool.and_false, Bool.true_and, Bool.false_and, Bool.or_false, Bool.false_or, Bool.or_true, Bool.true_or, Wd.beq_s, sz0, sz1, sz2, sz3, sz4, sz5, sz6, isc_eq, isc_lt, isc_gt, isc_le, isc_ge, isc_and, isc_or, isc_not, isl_and, isl_or, isl_not, rSetD, rUnion, rSortTx, rRep]
            intro q hq
            have sq := same_new (o := .tup [.str Wd.and.s, v2, v1]) hq
            have sB := sA.trans sq
            refine bd_of (co := some (.con .and c2 c1)) ⟨q, v2, v1, rfl, upd_same, C24.tups (TupS.ofSame sB), C14.tups (TupS.ofSame sB)⟩ n21 ok fun u2 b2 Hb e2 R2 sb => ?_
            have sC := sB.trans sb
            try simp only [tVar, tC, tOp, rI, rI0, rU, tTest, tB, tAnd, tOr, tNot, tAndV, tOrV, tNotV, tIf, tNil, tCons, tTup, tLst, tCB, tSeq, tAsg, gName, tRet, tRetN, tIfS, tNext, tDrop, tCall, tUn, tPar, CMul, CDiv, V.int.injEq, V.bl.injEq, V.ref.injEq, V.str.injEq, Option.some.injEq, List.cons.injEq, and_true, true_and, and_false, false_and, or_false, false_or, or_true, true_or, exists_eq_left', exists_eq_left, exists_and_left, exists_and_right, exists_eq', exists_eq, exists_false, exists_const, List.getElem?_cons_succ, List.getElem?_cons_zero, List.set_cons_succ, List.set_cons_zero, List.length_cons, List.length_nil, List.cons_append, List.nil_append, List.append_nil, reduceCtorEq, Int.reduceLT, Int.reduceLE, Int.reduceNeg, Int.reducePow, Int.reduceSub, Int.reduceAdd, Nat.reduceAdd, Nat.reduceLeDiff, Bool.not_true, Bool.not_false, decide_true, decide_false, Bool.false_eq_true, ↓reduceIte, upd_same, not_true_eq_false, not_false_eq_true, lsO_l, lsO_f, tpO_t, tpO_f, dkO_d, dkO_f, keyO_i, keyO_s, rIxH, rIxU, cLenL, cLenT, cListL, cListT, cTupL, cIntB, cAll, rEqNilI, rEq, rNe, scal_ii, scal_ss, scal_bb, scal_nn, scal_ni, scal_in, scal_ns, scal_sn, gSub, rSetL, ixs0, ixs1, ixs2, seq0, at0, at1, at2, at3, tBM, tBM0, rAppend, rPopAt, tyV_list, tGet2, tGetI, sPut, tMG, rTIdx, tyTup, tTupF, cx_K, cx_w, ex_map_int, ex_nil_int, ex_cons_int, List.map_cons, List.map_nil, List.isEmpty_nil, List.isEmpty_cons, List.eraseIdx_zero, List.tail_cons, List.eraseIdx_cons_zero, HO.lst.injEq, HO.tup.injEq, HO.dK.injEq, HO.frz.injEq, ne_eq, gTupH, gCons, gNil, wipe, tYes, upd_upd, and_assoc, List.getElem?_map, Option.map_some, isn_non_bool, isn_non_int, isn_non_str, isn_non_tuple, isn_non_list, isn_non_dict, isn_bl_bool, isn_bl_int, isn_bl_str, isn_bl_tuple, isn_bl_list, isn_bl_dict, isn_int_bool, isn_int_int, isn_int_str, isn_int_tuple, isn_int_list, isn_int_dict, isn_str_bool, isn_str_int, isn_str_str, isn_str_tuple, isn_str_list, isn_str_dict, isn_lst_bool, isn_lst_int, isn_lst_str, isn_lst_tuple, isn_lst_list, isn_lst_dict, isn_tup_bool, isn_tup_int, isn_tup_str, isn_tup_tuple, isn_tup_list, isn_tup_dict, isn_dct_bool, isn_dct_int, isn_dct_str, isn_dct_tuple, isn_dct_list, isn_dct_dict, okn_bool, okn_int, okn_str, okn_tuple, okn_list, okn_dict, cIsi, tyT_n, tyT_b, tyT_i, tyT_s, tyT_r, V.ty.injEq, tSl, tPart, tNoPart, rSlF, gName, List.length_map, Int.reduceToNat, cpow18, Wd.s_inj, ws_num, ws_field, ws_add, ws_sub, ws_mul, ws_eq, ws_lt, ws_gt, ws_le, ws_ge, ws_and, ws_or, ws_not, rInTab, rIxTab, rCatH, rCat, rInT, cSortD, cMaxL, cMinL, rNeNilI, inV, flatV, List.any_cons, List.any_nil, List.all_cons, List.all_nil, eqV, Bool.and_true, Bool.and_false, Bool.true_and, Bool.false_and, Bool.or_false, Bool.false_or, Bool.or_true, Bool.true_or, Wd.beq_s, sz0, sz1, sz2, sz3, sz4, sz5, sz6, isc_eq, isc_lt, isc_gt, isc_le, isc_ge, isc_and, isc_or, isc_not, isl_and, isl_or, isl_not, rSetD, rUnion, rSortTx, rRep]
            refine ne_bd R2 (R4.same sC) (by rw [← e2]; exact law_and BM.symm) ?_
            try simp only [tVar, tC, tOp, rI, rI0, rU, tTest, tB, tAnd, tOr, tNot, tAndV, tOrV, tNotV, tIf, tNil, tCons, tTup, tLst, tCB, tSeq, tAsg, gName, tRet, tRetN, tIfS, tNext, tDrop, tCall, tUn, tPar, CMul, CDiv, V.int.injEq, V.bl.injEq, V.ref.injEq, V.str.injEq, Option.some.injEq, List.cons.injEq, and_true, true_and, and_false, false_and, or_false, false_or, or_true, true_or, exists_eq_left', exists_eq_left, exists_and_left, exists_and_right, exists_eq', exists_eq, exists_false, exists_const, List.getElem?_cons_succ, List.getElem?_cons_zero, List.set_cons_succ, List.set_cons_zero, List.length_cons, List.length_nil, List.cons_append, List.nil_append, List.append_nil, reduceCtorEq, Int.reduceLT, Int.reduceLE, Int.reduceNeg, Int.reducePow, Int.reduceSub, Int.reduceAdd, Nat.reduceAdd, Nat.reduceLeDiff, Bool.not_true, Bool.not_false, decide_true, decide_false, Bool.false_eq_true, ↓reduceIte, upd_same, not_true_eq_false, not_false_eq_true, lsO_l, lsO_f, tpO_t, tpO_f, dkO_d, dkO_f, keyO_i, keyO_s, rIxH, rIxU, cLenL, cLenT, cListL, cListT, cTupL, cIntB, cAll, rEqNilI, rEq, rNe, scal_ii, scal_ss, scal_bb, scal_nn, scal_ni, scal_in, scal_ns, scal_sn, gSub, rSetL, ixs0, ixs1, ixs2, seq0, at0, at1, at2, at3, tBM, tBM0, rAppend, rPopAt, tyV_list, tGet2, tGetI, sPut, tMG, rTIdx, tyTup, tTupF, cx_K, cx_w, ex_map_int, ex_nil_int, ex_cons_int, List.map_cons, List.map_nil, List.isEmpty_nil, List.isEmpty_cons, List.eraseIdx_zero, List.tail_cons, List.eraseIdx_cons_zero, HO.lst.injEq, HO.tup.injEq, HO.dK.injEq, HO.frz.injEq, ne_eq, gTupH, gCons, gNil, wipe, tYes, upd_upd, and_assoc, List.getElem?_map, Option.map_some, isn_non_bool, isn_non_int, isn_non_str, isn_non_tuple, isn_non_list, isn_non_dict, isn_bl_bool, isn_bl_int, isn_bl_str, isn_bl_tuple, isn_bl_list, isn_bl_dict, isn_int_bool, isn_int_int, isn_int_str, isn_int_tuple, isn_int_list, isn_int_dict, isn_str_bool, isn_str_int, isn_str_str, isn_str_tuple, isn_str_list, isn_str_dict, isn_lst_bool, isn_lst_int, isn_lst_str, isn_lst_tuple, isn_lst_list, isn_lst_dict, isn_tup_bool, isn_tup_int, isn_tup_str, isn_tup_tuple, isn_tup_list, isn_tup_dict, isn_dct_bool, isn_dct_int, isn_dct_str, isn_dct_tuple, isn_dct_list, isn_dct_dict, okn_bool, okn_int, okn_str, okn_tuple, okn_list, okn_dict, cIsi, tyT_n, tyT_b, tyT_i, tyT_s, tyT_r, V.ty.injEq, tSl, tPart, tNoPart, rSlF, gName, List.length_map, Int.reduceToNat, cpow18, Wd.s_inj, ws_num, ws_field, ws_add, ws_sub, ws_mul, ws_eq, ws_lt, ws_gt, ws_le, ws_ge, ws_and, ws_or, ws_not, rInTab, rIxTab, rCatH, rCat, rInT, cSortD, cMaxL, cMinL, rNeNilI, inV, flatV, List.any_cons, List.any_nil, List.all_cons, List.all_nil, eqV, Bool.and_true, Bool.and_false, Bool.true_and, Bool.false_and, Bool.or_false, Bool.false_or, Bool.or_true, Bool.true_or, Wd.beq_s, sz0, sz1, sz2, sz3, sz4, sz5, sz6, isc_eq, isc_lt, isc_gt, isc_le, isc_ge, isc_and, isc_or, isc_not, isl_and, isl_or, isl_not, rSetD, rUnion, rSortTx, rRep]
            exact sC
          rintro σ' H5 ⟨rfl, S5'⟩
          have C15 := C14.tups (TupS.ofSame S5')
          have C25 := C24.tups (TupS.ofSame S5')
          refine ⟨fun σ' H6 => σ' = [some (.ref a), some (.ref h), some (.int (0 + (i : Nat))), some (.ref d), some (.ref fa), some v1, some v2, some (.str t), some u] ∧ Same H5 H6, ?_, ?_⟩
          · try simp only [tVar, tC, tOp, rI, rI0, rU, tTest, tB, tAnd, tOr, tNot, tAndV, tOrV, tNotV, tIf, tNil, tCons, tTup, tLst, tCB, tSeq, tAsg, gName, tRet, tRetN, tIfS, tNext, tDrop, tCall, tUn, tPar, CMul, CDiv, V.int.injEq, V.bl.injEq, V.ref.injEq, V.str.injEq, Option.some.injEq, List.cons.injEq, and_true, true_and, and_false, false_and, or_false, false_or, or_true, true_or, exists_eq_left', exists_eq_left, exists_and_left, exists_and_right, exists_eq', exists_eq, exists_false, exists_const, List.getElem?_cons_succ, List.getElem?_cons_zero, List.set_cons_succ, List.set_cons_zero, List.length_cons, List.length_nil, List.cons_append, List.nil_append, List.append_nil, reduceCtorEq, Int.reduceLT, Int.reduceLE, Int.reduceNeg, Int.reducePow, Int.reduceSub, Int.reduceAdd, Nat.reduceAdd, Nat.reduceLeDiff, Bool.not_true, Bool.not_false, decide_true, decide_false, Bool.false_eq_true, ↓reduceIte, upd_same, not_true_eq_false, not_false_eq_true, lsO_l, lsO_f, tpO_t, tpO_f, dkO_d, dkO_f, keyO_i, keyO_s, rIxH, rIxU, cLenL, cLenT, cListL, cListT, cTupL, cIntB, cAll, rEqNilI, rEq, rNe, scal_ii, scal_ss, scal_bb, scal_nn, scal_ni, scal_in, scal_ns, scal_sn, gSub, rSetL, ixs0, ixs1, ixs2, seq0, at0, at1, at2, at3, tBM, tBM0, rAppend, rPopAt, tyV_list, tGet2, tGetI, sPut, tMG, rTIdx, tyTup, tTupF, cx_K, cx_w, ex_map_int, ex_nil_int, ex_cons_int, List.map_cons, List.map_nil, List.isEmpty_nil, List.isEmpty_cons, List.eraseIdx_zero, List.tail_cons, List.eraseIdx_cons_zero, HO.lst.injEq, HO.tup.injEq, HO.dK.injEq, HO.frz.injEq, ne_eq, gTupH, gCons, gNil, wipe, tYes, upd_upd, and_assoc, List.getElem?_map, Option.map_some, isn_non_bool, isn_non_int, isn_non_str, isn_non_tuple, isn_non_list, isn_non_dict, isn_bl_bool, isn_bl_int, isn_bl_str, isn_bl_tuple, isn_bl_list, isn_bl_dict, isn_int_bool, isn_int_int, isn_int_str, isn_int_tuple, isn_int_list, isn_int_dict, isn_str_bool, isn_str_int, isn_str_str, isn_str_tuple, isn_str_list, isn_str_dict, isn_lst_bool, isn_lst_int, isn_lst_str, isn_lst_tuple, isn_lst_list, isn_lst_dict, isn_tup_bool, isn_tup_int, isn_tup_str, isn_tup_tuple, isn_tup_list, isn_tup_dict, isn_dct_bool, isn_dct_int, isn_dct_str, isn_dct_tuple, isn_dct_list, isn_dct_dict, okn_bool, okn_int, okn_str, okn_tuple, okn_list, okn_dict, cIsi, tyT_n, tyT_b, tyT_i, tyT_s, tyT_r, V.ty.injEq, tSl, tPart, tNoPart, rSlF, gName, List.length_map, Int.reduceToNat, cpow18, Wd.s_inj, ws_num, ws_field, ws_add, ws_sub, ws_mul, ws_eq, ws_lt, ws_gt, ws_le, ws_ge, ws_and, ws_or, ws_not, rInTab, rIxTab, rCatH, rCat, rInT, cSortD, cMaxL, cMinL, rNeNilI, inV, flatV, List.any_cons, List.any_nil, List.all_cons, List.all_nil, eqV, Bool.and_true, Bool.and_false, Bool.true_and, Bool.false_and, Bool.or_false, Bool.false_or, Bool.or_true, Bool.true_or, Wd.beq_s, sz0, sz1, sz2, sz3, sz4, sz5, sz6, isc_eq, isc_lt, isc_gt, isc_le, isc_ge, isc_and, isc_or, isc_not, isl_and, isl_or, isl_not, rSetD, rUnion, rSortTx, rRep]
            intro p hp
            have sp := same_new (o := .tup [.str Wd.or.s, v1, v2]) hp
            refine bd_of (co := some (.con .or c1 c2)) ⟨p, v1, v2, rfl, upd_same, C15.tups (TupS.ofSame sp), C25.tups (TupS.ofSame sp)⟩ no' ok fun u1 b1 Ha e1 R1 sa => ?_
            obtain ⟨x1, rfl, h1⟩ := bd_empty R1 e1
            have sA := sp.trans sa
            try simp only [tVar, tC, tOp, rI, rI0, rU, tTest, tB, tAnd, tOr, tNot, tAndV, tOrV, tNotV, tIf, tNil, tCons, tTup, tLst, tCB, tSeq, tAsg, gName, tRet, tRetN, tIfS, tNext, tDrop, tCall, tUn, tPar, CMul, CDiv, V.int.injEq, V.bl.injEq, V.ref.injEq, V.str.injEq, Option.some.injEq, List.cons.injEq, and_true, true_and, and_false, false_and, or_false, false_or, or_true, true_or, exists_eq_left', exists_eq_left, exists_and_left, exists_and_right, exists_eq', exists_eq, exists_false, exists_const, List.getElem?_cons_succ, List.getElem?_cons_zero, List.set_cons_succ, List.set_cons_zero, List.length_cons, List.length_nil, List.cons_append, List.nil_append, List.append_nil, reduceCtorEq, Int.reduceLT, Int.reduceLE, Int.reduceNeg, Int.reducePow, Int.reduceSub, Int.reduceAdd, Nat.reduceAdd, Nat.reduceLeDiff, Bool.not_true, Bool.not_false, decide_true, decide_false, Bool.false_eq_true, ↓reduceIte, upd_same, not_true_eq_false, not_false_eq_true, lsO_l, lsO_f, tpO_t, tpO_f, dkO_d, dkO_f, keyO_i, keyO_s, rIxH, rIxU, cLenL, cLenT, cListL, cListT, cTupL, cIntB, cAll, rEqNilI, rEq, rNe, scal_ii, scal_ss, scal_bb, scal_nn, scal_ni, scal_in, scal_ns, scal_sn, gSub, rSetL, ixs0, ixs1, ixs2, seq0, at0, at1, at2, at3, tBM, tBM0, rAppend, rPopAt, tyV_list, tGet2, tGetI, sPut, tMG, rTIdx, tyTup, tTupF, cx_K, cx_w, ex_map_int, ex_nil_int, ex_cons_int, List.map_cons, List.map_nil, List.isEmpty_nil, List.isEmpty_cons, List.eraseIdx_zero, List.tail_cons, List.eraseIdx_cons_zero, HO.lst.injEq, HO.tup.injEq, HO.dK.injEq, HO.frz.injEq, ne_eq, gTupH, gCons, gNil, wipe, tYes, upd_upd, and_assoc, List.getElem?_map, Option.map_some, isn_non_bool, isn_non_int, isn_non_str, isn_non_tuple, isn_non_list, isn_non_dict, isn_bl_bool, isn_bl_int, isn_bl_str, isn_bl_tuple, isn_bl_list, isn_bl_dict, isn_int_bool, isn_int_int, isn_int_str, isn_int_tuple, isn_int_list, isn_int_dict, isn_str_bool, isn_str_int, isn_str_str, isn_str_tuple, isn_str_list, isn_str_dict, isn_lst_bool, isn_lst_int, isn_lst_str, isn_lst_tuple, isn_lst_list, isn_lst_dict, isn_tup_bool, isn_tup_int, isn_tup_str, isn_tup_tuple, isn_tup_list, isn_tup_dict, isn_dct_bool, isn_dct_int, isn_dct_str, isn_dct_tuple, isn_dct_list, isn_dct_dict, okn_bool, okn_int, okn_str, okn_tuple, okn_list, okn_dict, cIsi, tyT_n, tyT_b, tyT_i, tyT_s, tyT_r, V.ty.injEq, tSl, tPart, tNoPart, rSlF, gName, List.length_map, Int.reduceToNat, cpow18, Wd.s_inj, ws_num, ws_field, ws_add, ws_sub, ws_mul, ws_eq, ws_lt, ws_gt, ws_le, ws_ge, ws_and, ws_or, ws_not, rInTab, rIxTab, rCatH, rCat, rInT, cSortD, cMaxL, cMinL, rNeNilI, inV, flatV, List.any_cons, List.any_nil, List.all_cons, List.all_nil, eqV, Bool.and_true, Bool.and_false, Bool.true_and, Bool.false_and, Bool.or_false, Bool.false_or, Bool.or_true, Bool.true_or, Wd.beq_s, sz0, sz1, sz2, sz3, sz4, sz5, sz6, isc_eq, isc_lt, isc_gt, isc_le, isc_ge, isc_and, isc_or, isc_not, isl_and, isl_or, isl_not, rSetD, rUnion, rSortTx, rRep]
            intro q hq
            have sq := same_new (o := .tup [.str Wd.not.s, v1]) hq
            have sB := sA.trans sq
            refine bd_of (co := some (.neg c1)) ⟨q, v1, rfl, upd_same, C15.tups (TupS.ofSame sB)⟩ nn ok fun u2 b2 Hb e2 R2 sb => ?_
            obtain ⟨x2, rfl, h2⟩ := bd_empty R2 e2
            have sC := sB.trans sb
            try simp only [tVar, tC, tOp, rI, rI0, rU, tTest, tB, tAnd, tOr, tNot, tAndV, tOrV, tNotV, tIf, tNil, tCons, tTup, tLst, tCB, tSeq, tAsg, gName, tRet, tRetN, tIfS, tNext, tDrop, tCall, tUn, tPar, CMul, CDiv, V.int.injEq, V.bl.injEq, V.ref.injEq, V.str.injEq, Option.some.injEq, List.cons.injEq, and_true, true_and, and_false, false_and, or_false, false_or, or_true, true_or, exists_eq_left', exists_eq_left, exists_and_left, exists_and_right, exists_eq', exists_eq, exists_false, exists_const, List.getElem?_cons_succ, List.getElem?_cons_zero, List.set_cons_succ, List.set_cons_zero, List.length_cons, List.length_nil, List.cons_append, List.nil_append, List.append_nil, reduceCtorEq, Int.reduceLT, Int.reduceLE, Int.reduceNeg, Int.reducePow, Int.reduceSub, Int.reduceAdd, Nat.reduceAdd, Nat.reduceLeDiff, Bool.not_true, Bool.not_false, decide_true, decide_false, Bool.false_eq_true, ↓reduceIte, upd_same, not_true_eq_false, not_false_eq_true, lsO_l, lsO_f, tpO_t, tpO_f, dkO_d, dkO_f, keyO_i, keyO_s, rIxH, rIxU, cLenL, cLenT, cListL, cListT, cTupL, cIntB, cAll, rEqNilI, rEq, rNe, scal_ii, scal_ss, scal_bb, scal_nn, scal_ni, scal_in, scal_ns, scal_sn, gSub, rSetL, ixs0, ixs1, ixs2, seq0, at0, at1, at2, at3, tBM, tBM0, rAppend, rPopAt, tyV_list, tGet2, tGetI, sPut, tMG, rTIdx, tyTup, tTupF, cx_K, cx_w, ex_map_int, ex_nil_int, ex_cons_int, List.map_cons, List.map_nil, List.isEmpty_nil, List.isEmpty_cons, List.eraseIdx_zero, List.tail_cons, List.eraseIdx_cons_zero, HO.lst.injEq, HO.tup.injEq, HO.dK.injEq, HO.frz.injEq, ne_eq, gTupH, gCons, gNil, wipe, tYes, upd_upd, and_assoc, List.getElem?_map, Option.map_some, isn_non_bool, isn_non_int, isn_non_str, isn_non_tuple, isn_non_list, isn_non_dict, isn_bl_bool, isn_bl_int, isn_bl_str, isn_bl_tuple, isn_bl_list, isn_bl_dict, isn_int_bool, isn_int_int, isn_int_str, isn_int_tuple, isn_int_list, isn_int_dict, isn_str_bool, isn_str_int, isn_str_str, isn_str_tuple, isn_str_list, isn_str_dict, isn_lst_bool, isn_lst_int, isn_lst_str, isn_lst_tuple, isn_lst_list, isn_lst_dict, isn_tup_bool, isn_tup_int, isn_tup_str, isn_tup_tuple, isn_tup_list, isn_tup_dict, isn_dct_bool, isn_dct_int, isn_dct_str, isn_dct_tuple, isn_dct_list, isn_dct_dict, okn_bool, okn_int, okn_str, okn_tuple, okn_list, okn_dict, cIsi, tyT_n, tyT_b, tyT_i, tyT_s, tyT_r, V.ty.injEq, tSl, tPart, tNoPart, rSlF, gName, List.length_map, Int.reduceToNat, cpow18, Wd.s_inj, ws_num, ws_field, ws_add, ws_sub, ws_mul, ws_eq, ws_lt, ws_gt, ws_le, ws_ge, ws_and, ws_or, ws_not, rInTab, rIxTab, rCatH, rCat, rInT, cSortD, cMaxL, cMinL, rNeNilI, inV, flatV, List.any_cons, List.any_nil, List.all_cons, List.all_nil, eqV, Bool.and_true, Bool.and_false, Bool.true_and, Bool.false_and, Bool.or_false, Bool.false_or, Bool.or_true, Bool.true_or, Wd.beq_s, sz0, sz1, sz2, sz3, sz4, sz5, sz6, isc_eq, isc_lt, isc_gt, isc_le, isc_ge, isc_and, isc_or, isc_not, isl_and, isl_or, isl_not, rSetD, rUnion, rSortTx, rRep]
            refine bd_of (co := none) rfl trivial ok fun u3 b3 Hc e3 R3 sc => ?_
            obtain ⟨x3, rfl, h3⟩ := bd_empty R3 e3
            have sD := sC.trans sc
            try simp only [tVar, tC, tOp, rI, rI0, rU, tTest, tB, tAnd, tOr, tNot, tAndV, tOrV, tNotV, tIf, tNil, tCons, tTup, tLst, tCB, tSeq, tAsg, gName, tRet, tRetN, tIfS, tNext, tDrop, tCall, tUn, tPar, CMul, CDiv, V.int.injEq, V.bl.injEq, V.ref.injEq, V.str.injEq, Option.some.injEq, List.cons.injEq, and_true, true_and, and_false, false_and, or_false, false_or, or_true, true_or, exists_eq_left', exists_eq_left, exists_and_left, exists_and_right, exists_eq', exists_eq, exists_false, exists_const, List.getElem?_cons_succ, List.getElem?_cons_zero, List.set_cons_succ, List.set_cons_zero, List.length_cons, List.length_nil, List.cons_append, List.nil_append, List.append_nil, reduceCtorEq, Int.reduceLT, Int.reduceLE, Int.reduceNeg, Int.reducePow, Int.reduceSub, Int.reduceAdd, Nat.reduceAdd, Nat.reduceLeDiff, Bool.not_true, Bool.not_false, decide_true, decide_false, Bool.false_eq_true, ↓reduceIte, upd_same, not_true_eq_false, not_false_eq_true, lsO_l, lsO_f, tpO_t, tpO_f, dkO_d, dkO_f, keyO_i, keyO_s, rIxH, rIxU, cLenL, cLenT, cListL, cListT, cTupL, cIntB, cAll, rEqNilI, rEq, rNe, scal_ii, scal_ss, scal_bb, scal_nn, scal_ni, scal_in, scal_ns, scal_sn, gSub, rSetL, ixs0, ixs1, ixs2, seq0, at0, at1, at2, at3, tBM, tBM0, rAppend, rPopAt, tyV_list, tGet2, tGetI, sPut, tMG, rTIdx, tyTup, tTupF, cx_K, cx_w, ex_map_int, ex_nil_int, ex_cons_int, List.map_cons, List.map_nil, List.isEmpty_nil, List.isEmpty_cons, List.eraseIdx_zero, List.tail_cons, List.eraseIdx_cons_zero, HO.lst.injEq, HO.tup.injEq, HO.dK.injEq, HO.frz.injEq, ne_eq, gTupH, gCons, gNil, wipe, tYes, upd_upd, and_assoc, List.getElem?_map, Option.map_some, isn_non_bool, isn_non_int, isn_non_str, isn_non_tuple, isn_non_list, isn_non_dict, isn_bl_bool, isn_bl_int, isn_bl_str, isn_bl_tuple, isn_bl_list, isn_bl_dict, isn_int_bool, isn_int_int, isn_int_str, isn_int_tuple, isn_int_list, isn_int_dict, isn_str_bool, isn_str_int, isn_str_str, isn_str_tuple, isn_str_list, isn_str_dict, isn_lst_bool, isn_lst_int, isn_lst_str, isn_lst_tuple, isn_lst_list, isn_lst_dict, isn_tup_bool, isn_tup_int, isn_tup_str, isn_tup_tuple, isn_tup_list, isn_tup_dict, isn_dct_bool, isn_dct_int, isn_dct_str, isn_dct_tuple, isn_dct_list, isn_dct_dict, okn_bool, okn_int, okn_str, okn_tuple, okn_list, okn_dict, cIsi, tyT_n, tyT_b, tyT_i, tyT_s, tyT_r, V.ty.injEq, tSl, tPart, tNoPart, rSlF, gName, List.length_map, Int.reduceToNat, cpow18, Wd.s_inj, ws_num, ws_field, ws_add, ws_sub, ws_mul, ws_eq, ws_lt, ws_gt, ws_le, ws_ge, ws_and, ws_or, ws_not, rInTab, rIxTab, rCatH, rCat, rInT, cSortD, cMaxL, cMinL, rNeNilI, inV, flatV, List.any_cons, List.any_nil, List.all_cons, List.all_nil, eqV, Bool.and_true, Bool.and_false, Bool.true_and, Bool.false_and, Bool.or_false, Bool.false_or, Bool.or_true, Bool.true_or, Wd.beq_s, sz0, sz1, sz2, sz3, sz4, sz5, sz6, isc_eq, isc_lt, isc_gt, isc_le, isc_ge, isc_and, isc_or, isc_not, isl_and, isl_or, isl_not, rSetD, rUnion, rSortTx, rRep, tDNewK]
            intro la hla ea hea lb hlb
            refine ⟨szl (by decide), fun lc hlc => ?_⟩
            have t1 := same_new (o := .lst [.ref x1, .ref x2, .ref x3]) hla
            have t2 := same_new (o := .dK []) hea
            have t3 := same_new (o := .lst [.ref ea]) hlb
            have t4 := same_new (o := .lst (List.replicate 3 [V.ref ea]).flatten) hlc
            have tt := ((t1.trans t2).trans t3).trans t4
            refine ⟨la, lc, [x1, x2, x3], [ea, ea, ea], rfl, rfl, ((t2.trans t3).trans t4) _ _ upd_same, upd_same, rfl, fun z hz => ?_, fun z hz => ?_, ?_⟩
            · simp only [List.mem_cons, List.mem_nil_iff, or_false] at hz
              rcases hz with rfl | rfl | rfl
              · exact tt _ _ (sc _ _ (sb _ _ (sq _ _ h1)))
              · exact tt _ _ (sc _ _ h2)
              · exact tt _ _ h3
            · simp only [List.mem_cons, List.mem_nil_iff, or_false, or_self] at hz
              subst hz
              exact (t3.trans t4) _ _ upd_same
            · try simp only [tVar, tC, tOp, rI, rI0, rU, tTest, tB, tAnd, tOr, tNot, tAndV, tOrV, tNotV, tIf, tNil, tCons, tTup, tLst, tCB, tSeq, tAsg, gName, tRet, tRetN, tIfS, tNext, tDrop, tCall, tUn, tPar, CMul, CDiv, V.int.injEq, V.bl.injEq, V.ref.injEq, V.str.injEq, Option.some.injEq, List.cons.injEq, and_true, true_and, and_false, false_and, or_false, false_or, or_true, true_or, exists_eq_left', exists_eq_left, exists_and_left, exists_and_right, exists_eq', exists_eq, exists_false, exists_const, List.getElem?_cons_succ, List.getElem?_cons_zero, List.set_cons_succ, List.set_cons_zero, List.length_cons, List.length_nil, List.cons_append, List.nil_append, List.append_nil, reduceCtorEq, Int.reduceLT, Int.reduceLE, Int.reduceNeg, Int.reducePow, Int.reduceSub, Int.reduceAdd, Nat.reduceAdd, Nat.reduceLeDiff, Bool.not_true, Bool.not_false, decide_true, decide_false, Bool.false_eq_true, ↓reduceIte, upd_same, not_true_eq_false, not_false_eq_true, lsO_l, lsO_f, tpO_t, tpO_f, dkO_d, dkO_f, keyO_i, keyO_s, rIxH, rIxU, cLenL, cLenT, cListL, cListT, cTupL, cIntB, cAll, rEqNilI, rEq, rNe, scal_ii, scal_ss, scal_bb, scal_nn, scal_ni, scal_in, scal_ns, scal_sn, gSub, rSetL, ixs0, ixs1, ixs2, seq0, at0, at1, at2, at3, tBM, tBM0, rAppend, rPopAt, tyV_list, tGet2, tGetI, sPut, tMG, rTIdx, tyTup, tTupF, cx_K, cx_w, ex_map_int, ex_nil_int, ex_cons_int, List.map_cons, List.map_nil, List.isEmpty_nil, List.isEmpty_cons, List.eraseIdx_zero, List.tail_cons, List.eraseIdx_cons_zero, HO.lst.injEq, HO.tup.injEq, HO.dK.injEq, HO.frz.injEq, ne_eq, gTupH, gCons, gNil, wipe, tYes, upd_upd, and_assoc, List.getElem?_map, Option.map_some, isn_non_bool, isn_non_int, isn_non_str, isn_non_tuple, isn_non_list, isn_non_dict, isn_bl_bool, isn_bl_int, isn_bl_str, isn_bl_tuple, isn_bl_list, isn_bl_dict, isn_int_bool, isn_int_int, isn_int_str, isn_int_tuple, isn_int_list, isn_int_dict, isn_str_bool, isn_str_int, isn_str_str, isn_str_tuple, isn_str_list, isn_str_dict, isn_lst_bool, isn_lst_int, isn_lst_str, isn_lst_tuple, isn_lst_list, isn_lst_dict, isn_tup_bool, isn_tup_int, isn_tup_str, isn_tup_tuple, isn_tup_list, isn_tup_dict, isn_dct_bool, isn_dct_int, isn_dct_str, isn_dct_tuple, isn_dct_list, isn_dct_dict, okn_bool, okn_int, okn_str, okn_tuple, okn_list, okn_dict, cIsi, tyT_n, tyT_b, tyT_i, tyT_s, tyT_r, V.ty.injEq, tSl, tPart, tNoPart, rSlF, gName, List.length_map, Int.reduceToNat, cpow18, Wd.s_inj, ws_num, ws_field, ws_add, ws_sub, ws_mul, ws_eq, ws_lt, ws_gt, ws_le, ws_ge, ws_and, ws_or, ws_not, rInTab, rIxTab, rCatH, rCat, rInT, cSortD, cMaxL, cMinL, rNeNilI, inV, flatV, List.any_cons, List.any_nil, List.all_cons, List.all_nil, eqV, Bool.and_true, Bool.and_false, Bool.true_and, Bool.false_and, Bool.or_false, Bool.false_or, Bool.or_true, Bool.true_or, Wd.beq_s, sz0, sz1, sz2, sz3, sz4, sz5, sz6, isc_eq, isc_lt, isc_gt, isc_le, isc_ge, isc_and, isc_or, isc_not, isl_and, isl_or, isl_not, rSetD, rUnion, rSortTx, rRep]
              exact sD.trans tt
          rintro σ' H6' ⟨rfl, S6'⟩
          have C16 := C15.tups (TupS.ofSame S6')
          have C26 := C25.tups (TupS.ofSame S6')
          try simp only [tVar, tC, tOp, rI, rI0, rU, tTest, tB, tAnd, tOr, tNot, tAndV, tOrV, tNotV, tIf, tNil, tCons, tTup, tLst, tCB, tSeq, tAsg, gName, tRet, tRetN, tIfS, tNext, tDrop, tCall, tUn, tPar, CMul, CDiv, V.int.injEq, V.bl.injEq, V.ref.injEq, V.str.injEq, Option.some.injEq, List.cons.injEq, and_true, true_and, and_false, false_and, or_false, false_or, or_true, true_or, exists_eq_left', exists_eq_left, exists_and_left, exists_and_right, exists_eq', exists_eq, exists_false, exists_const, List.getElem?_cons_succ, List.getElem?_cons_zero, List.set_cons_succ, List.set_cons_zero, List.length_cons, List.length_nil, List.cons_append, List.nil_append, List.append_nil, reduceCtorEq, Int.reduceLT, Int.reduceLE, Int.reduceNeg, Int.reducePow, Int.reduceSub, Int.reduceAdd, Nat.reduceAdd, Nat.reduceLeDiff, Bool.not_true, Bool.not_false, decide_true, decide_false, Bool.false_eq_true, ↓reduceIte, upd_same, not_true_eq_false, not_false_eq_true, lsO_l, lsO_f, tpO_t, tpO_f, dkO_d, dkO_f, keyO_i, keyO_s, rIxH, rIxU, cLenL, cLenT, cListL, cListT, cTupL, cIntB, cAll, rEqNilI, rEq, rNe, scal_ii, scal_ss, scal_bb, scal_nn, scal_ni, scal_in, scal_ns, scal_sn, gSub, rSetL, ixs0, ixs1, ixs2, seq0, at0, at1, at2, at3, tBM, tBM0, rAppend, rPopAt, tyV_list, tGet2, tGetI, sPut, tMG, rTIdx, tyTup, tTupF, cx_K, cx_w, ex_map_int, ex_nil_int, ex_cons_int, List.map_cons, List.map_nil, List.isEmpty_nil, List.isEmpty_cons, List.eraseIdx_zero, List.tail_cons, List.eraseIdx_cons_zero, HO.lst.injEq, HO.tup.injEq, HO.dK.injEq, HO.frz.injEq, ne_eq, gTupH, gCons, gNil, wipe, tYes, upd_upd, and_assoc, List.getElem?_map, Option.map_some, isn_non_bool, isn_non_int, isn_non_str, isn_non_tuple, isn_non_list, isn_non_dict, isn_bl_bool, isn_bl_int, isn_bl_str, isn_bl_tuple, isn_bl_list, isn_bl_dict, isn_int_bool, isn_int_int, isn_int_str, isn_int_tuple, isn_int_list, isn_int_dict, isn_str_bool, isn_str_int, isn_str_str, isn_str_tuple, isn_str_list, isn_str_dict, isn_lst_bool, isn_lst_int, isn_lst_str, isn_lst_tuple, isn_lst_list, isn_lst_dict, isn_tup_bool, isn_tup_int, isn_tup_str, isn_tup_tuple, isn_tup_list, isn_tup_dict, isn_dct_bool, isn_dct_int, isn_dct_str, isn_dct_tuple, isn_dct_list, isn_dct_dict, okn_bool, okn_int, okn_str, okn_tuple, okn_list, okn_dict, cIsi, tyT_n, tyT_b, tyT_i, tyT_s, tyT_r, V.ty.injEq, tSl, tPart, tNoPart, rSlF, gName, List.length_map, Int.reduceToNat, cpow18, Wd.s_inj, ws_num, ws_field, ws_add, ws_sub, ws_mul, ws_eq, ws_lt, ws_gt, ws_le, ws_ge, ws_and, ws_or, ws_not, rInTab, rIxTab, rCatH, rCat, rInT, cSortD, cMaxL, cMinL, rNeNilI, inV, flatV, List.any_cons, List.any_nil, List.all_cons, List.all_nil, eqV, Bool.and_true, Bool.and_false, Bool.true_and, Bool.false_and, Bool.or_false, Bool.false_or, Bool.or_true, Bool.true_or, Wd.beq_s, sz0, sz1, sz2, sz3, sz4, sz5, sz6, isc_eq, isc_lt, isc_gt, isc_le, isc_ge, isc_and, isc_or, isc_not, isl_and, isl_or, isl_not, rSetD, rUnion, rSortTx, rRep]
          intro p hp
          have sp := same_new (o := .tup [.str Wd.or.s, v1, v2]) hp
          try simp only [tVar, tC, tOp, rI, rI0, rU, tTest, tB, tAnd, tOr, tNot, tAndV, tOrV, tNotV, tIf, tNil, tCons, tTup, tLst, tCB, tSeq, tAsg, gName, tRet, tRetN, tIfS, tNext, tDrop, tCall, tUn, tPar, CMul, CDiv, V.int.injEq, V.bl.injEq, V.ref.injEq, V.str.injEq, Option.some.injEq, List.cons.injEq, and_true, true_and, and_false, false_and, or_false, false_or, or_true, true_or, exists_eq_left', exists_eq_left, exists_and_left, exists_and_right, exists_eq', exists_eq, exists_false, exists_const, List.getElem?_cons_succ, List.getElem?_cons_zero, List.set_cons_succ, List.set_cons_zero, List.length_cons, List.length_nil, List.cons_append, List.nil_append, List.append_nil, reduceCtorEq, Int.reduceLT, Int.reduceLE, Int.reduceNeg, Int.reducePow, Int.reduceSub, Int.reduceAdd, Nat.reduceAdd, Nat.reduceLeDiff, Bool.not_true, Bool.not_false, decide_true, decide_false, Bool.false_eq_true, ↓reduceIte, upd_same, not_true_eq_false, not_false_eq_true, lsO_l, lsO_f, tpO_t, tpO_f, dkO_d, dkO_f, keyO_i, keyO_s, rIxH, rIxU, cLenL, cLenT, cListL, cListT, cTupL, cIntB, cAll, rEqNilI, rEq, rNe, scal_ii, scal_ss, scal_bb, scal_nn, scal_ni, scal_in, scal_ns, scal_sn, gSub, rSetL, ixs0, ixs1, ixs2, seq0, at0, at1, at2, at3, tBM, tBM0, rAppend, rPopAt, tyV_list, tGet2, tGetI, sPut, tMG, rTIdx, tyTup, tTupF, cx_K, cx_w, ex_map_int, ex_nil_int, ex_cons_int, List.map_cons, List.map_nil, List.isEmpty_nil, List.isEmpty_cons, List.eraseIdx_zero, List.tail_cons, List.eraseIdx_cons_zero, HO.lst.injEq, HO.tup.injEq, HO.dK.injEq, HO.frz.injEq, ne_eq, gTupH, gCons, gNil, wipe, tYes, upd_upd, and_assoc, List.getElem?_map, Option.map_some, isn_non_bool, isn_non_int, isn_non_str, isn_non_tuple, isn_non_list, isn_non_dict, isn_bl_bool, isn_bl_int, isn_bl_str, isn_bl_tuple, isn_bl_list, isn_bl_dict, isn_int_bool, isn_int_int, isn_int_str, isn_int_tuple, isn_int_list, isn_int_dict, isn_str_bool, isn_str_int, isn_str_str, isn_str_tuple, isn_str_list, isn_str_dict, isn_lst_bool, isn_lst_int, isn_lst_str, isn_lst_tuple, isn_lst_list, isn_lst_dict, isn_tup_bool, isn_tup_int, isn_tup_str, isn_tup_tuple, isn_tup_list, isn_tup_dict, isn_dct_bool, isn_dct_int, isn_dct_str, isn_dct_tuple, isn_dct_list, isn_dct_dict, okn_bool, okn_int, okn_str, okn_tuple, okn_list, okn_dict, cIsi, tyT_n, tyT_b, tyT_i, tyT_s, tyT_r, V.ty.injEq, tSl, tPart, tNoPart, rSlF, gName, List.length_map, Int.reduceToNat, cpow18, Wd.s_inj, ws_num, ws_field, ws_add, ws_sub, ws_mul, ws_eq, ws_lt, ws_gt, ws_le, ws_ge, ws_and, ws_or, ws_not, rInTab, rIxTab, rCatH, rCat, rInT, cSortD, cMaxL, cMinL, rNeNilI, inV, flatV, List.any_cons, List.any_nil, List.all_cons, List.all_nil, eqV, Bool.and_true, Bool.and_false, Bool.true_and, Bool.false_and, Bool.or_false, Bool.false_or, Bool.or_true, Bool.true_or, Wd.beq_s, sz0, sz1, sz2, sz3, sz4, sz5, sz6, isc_eq, isc_lt, isc_gt, isc_le, isc_ge, isc_and, isc_or, isc_not, isl_and, isl_or, isl_not, rSetD, rUnion, rSortTx, rRep]
          intro q hq
          have sq := same_new (o := .tup [.str Wd.and.s, .ref p, v1]) hq
          have sB := sp.trans sq
          refine bd_of (co := some (.con .and (.con .or c1 c2) c1)) ⟨q, .ref p, v1, rfl, upd_same, ⟨p, v1, v2, rfl, sq _ _ upd_same, C16.tups (TupS.ofSame sB), C26.tups (TupS.ofSame sB)⟩, C16.tups (TupS.ofSame sB)⟩ na ok fun u1 b1 Ha e1 R1 sa => ?_
          have sC := sB.trans sa
          try simp only [tVar, tC, tOp, rI, rI0, rU, tTest, tB, tAnd, tOr, tNot, tAndV, tOrV, tNotV, tIf, tNil, tCons, tTup, tLst, tCB, tSeq, tAsg, gName, tRet, tRetN, tIfS, tNext, tDrop, tCall, tUn, tPar, CMul, CDiv, V.int.injEq, V.bl.injEq, V.ref.injEq, V.str.injEq, Option.some.injEq, List.cons.injEq, and_true, true_and, and_false, false_and, or_false, false_or, or_true, true_or, exists_eq_left', exists_eq_left, exists_and_left, exists_and_right, exists_eq', exists_eq, exists_false, exists_const, List.getElem?_cons_succ, List.getElem?_cons_zero, List.set_cons_succ, List.set_cons_zero, List.length_cons, List.length_nil, List.cons_append, List.nil_append, List.append_nil, reduceCtorEq, Int.reduceLT, Int.reduceLE, Int.reduceNeg, Int.reducePow, Int.reduceSub, Int.reduceAdd, Nat.reduceAdd, Nat.reduceLeDiff, Bool.not_true, Bool.not_false, decide_true, decide_false, Bool.false_eq_true, ↓reduceIte, upd_same, not_true_eq_false, not_false_eq_true, lsO_l, lsO_f, tpO_t, tpO_f, dkO_d, dkO_f, keyO_i, keyO_s, rIxH, rIxU, cLenL, cLenT, cListL, cListT, cTupL, cIntB, cAll, rEqNilI, rEq, rNe, scal_ii, scal_ss, scal_bb, scal_nn, scal_ni, scal_in, scal_ns, scal_sn, gSub, rSetL, ixs0, ixs1, ixs2, seq0, at0, at1, at2, at3, tBM, tBM0, rAppend, rPopAt, tyV_list, tGet2, tGetI, sPut, tMG, rTIdx, tyTup, tTupF, cx_K, cx_w, ex_map_int, ex_nil_int, ex_cons_int, List.map_cons, List.map_nil, List.isEmpty_nil, List.isEmpty_cons, List.eraseIdx_zero, List.tail_cons, List.eraseIdx_cons_zero, HO.lst.injEq, HO.tup.injEq, HO.dK.injEq, HO.frz.injEq, ne_eq, gTupH, gCons, gNil, wipe, tYes, upd_upd, and_assoc, List.getElem?_map, Option.map_some, isn_non_bool, isn_non_int, isn_non_str, isn_non_tuple, isn_non_list, isn_non_dict, isn_bl_bool, isn_bl_int, isn_bl_str, isn_bl_tuple, isn_bl_list, isn_bl_dict, isn_int_bool, isn_int_int, isn_int_str, isn_int_tuple, isn_int_list, isn_int_dict, isn_str_bool, isn_str_int, isn_str_str, isn_str_tuple, isn_str_list, isn_str_dict, isn_lst_bool, isn_lst_int, isn_lst_str, isn_lst_tuple, isn_lst_list, isn_lst_dict, isn_tup_bool, isn_tup_int, isn_tup_str, isn_tup_tuple, isn_tup_list, isn_tup_dict, isn_dct_bool, isn_dct_int, isn_dct_str, isn_dct_tuple, isn_dct_list, isn_dct_dict, okn_bool, okn_int, okn_str, okn_tuple, okn_list, okn_dict, cIsi, tyT_n, tyT_b, tyT_i, tyT_s, tyT_r, V.ty.injEq, tSl, tPart, tNoPart, rSlF, gName, List.length_map, Int.reduceToNat, cpow18, Wd.s_inj, ws_num, ws_field, ws_add, ws_sub, ws_mul, ws_eq, ws_lt, ws_gt, ws_le, ws_ge, ws_and, ws_or, ws_not, rInTab, rIxTab, rCatH, rCat, rInT, cSortD, cMaxL, cMinL, rNeNilI, inV, flatV, List.any_cons, List.any_nil, List.all_cons, List.all_nil, eqV, Bool.and_true, Bool.and_false, Bool.true_and, Bool.false_and, Bool.or_false, Bool.false_or, Bool.or_true, Bool.true_or, Wd.beq_s, sz0, sz1, sz2, sz3, sz4, sz5, sz6, isc_eq, isc_lt, isc_gt, isc_le, isc_ge, isc_and, isc_or, isc_not, isl_and, isl_or, isl_not, rSetD, rUnion, rSortTx, rRep]
          refine bd_of (co := some c1) (C16.tups (TupS.ofSame sC)) n1 ok fun u2 b2 Hb e2 R2 sb => ?_
          have sD := sC.trans sb
          refine ne_bd (R1.same sb) R2 (by rw [← e1, ← e2, bounds_or_and]; exact AlikeS.refl _) ?_
          try simp only [tVar, tC, tOp, rI, rI0, rU, tTest, tB, tAnd, tOr, tNot, tAndV, tOrV, tNotV, tIf, tNil, tCons, tTup, tLst, tCB, tSeq, tAsg, gName, tRet, tRetN, tIfS, tNext, tDrop, tCall, tUn, tPar, CMul, CDiv, V.int.injEq, V.bl.injEq, V.ref.injEq, V.str.injEq, Option.some.injEq, List.cons.injEq, and_true, true_and, and_false, false_and, or_false, false_or, or_true, true_or, exists_eq_left', exists_eq_left, exists_and_left, exists_and_right, exists_eq', exists_eq, exists_false, exists_const, List.getElem?_cons_succ, List.getElem?_cons_zero, List.set_cons_succ, List.set_cons_zero, List.length_cons, List.length_nil, List.cons_append, List.nil_append, List.append_nil, reduceCtorEq, Int.reduceLT, Int.reduceLE, Int.reduceNeg, Int.reducePow, Int.reduceSub, Int.reduceAdd, Nat.reduceAdd, Nat.reduceLeDiff, Bool.not_true, Bool.not_false, decide_true, decide_false, Bool.false_eq_true, ↓reduceIte, upd_same, not_true_eq_false, not_false_eq_true, lsO_l, lsO_f, tpO_t, tpO_f, dkO_d, dkO_f, keyO_i, keyO_s, rIxH, rIxU, cLenL, cLenT, cListL, cListT, cTupL, cIntB, cAll, rEqNilI, rEq, rNe, scal_ii, scal_ss, scal_bb, scal_nn, scal_ni, scal_in, scal_ns, scal_sn, gSub, rSetL, ixs0, ixs1, ixs2, seq0, at0, at1, at2, at3, tBM, tBM0, rAppend, rPopAt, tyV_list, tGet2, tGetI, sPut, tMG, rTIdx, tyTup, tTupF, cx_K, cx_w, ex_map_int, ex_nil_int, ex_cons_int, List.map_cons, List.map_nil, List.isEmpty_nil, List.isEmpty_cons, List.eraseIdx_zero, List.tail_cons, List.eraseIdx_cons_zero, HO.lst.injEq, HO.tup.injEq, HO.dK.injEq, HO.frz.injEq, ne_eq, gTupH, gCons, gNil, wipe, tYes, upd_upd, and_assoc, List.getElem?_map, Option.map_some, isn_non_bool, isn_non_int, isn_non_str, isn_non_tuple, isn_non_list, isn_non_dict, isn_bl_bool, isn_bl_int, isn_bl_str, isn_bl_tuple, isn_bl_list, isn_bl_dict, isn_int_bool, isn_int_int, isn_int_str, isn_int_tuple, isn_int_list, isn_int_dict, isn_str_bool, isn_str_int, isn_str_str, isn_str_tuple, isn_str_list, isn_str_dict, isn_lst_bool, isn_lst_int, isn_lst_str, isn_lst_tuple, isn_lst_list, isn_lst_dict, isn_tup_bool, isn_tup_int, isn_tup_str, isn_tup_tuple, isn_tup_list, isn_tup_dict, isn_dct_bool, isn_dct_int, isn_dct_str, isn_dct_tuple, isn_dct_list, isn_dct_dict, okn_bool, okn_int, okn_str, okn_tuple, okn_list, okn_dict, cIsi, tyT_n, tyT_b, tyT_i, tyT_s, tyT_r, V.ty.injEq, tSl, tPart, tNoPart, rSlF, gName, List.length_map, Int.reduceToNat, cpow18, Wd.s_inj, ws_num, ws_field, ws_add, ws_sub, ws_mul, ws_eq, ws_lt, ws_gt, ws_le, ws_ge, ws_and, ws_or, ws_not, rInTab, rIxTab, rCatH, rCat, rInT, cSortD, cMaxL, cMinL, rNeNilI, inV, flatV, List.any_cons, List.any_nil, List.all_cons, List.all_nil, eqV, Bool.and_true, Bool.and_false, Bool.true_and, Bool.false_and, Bool.or_false, Bool.false_or, Bool.or_true, Bool.true_or, Wd.beq_s, sz0, sz1, sz2, sz3, sz4, sz5, sz6, isc_eq, isc_lt, isc_gt, isc_le, isc_ge, isc_and, isc_or, isc_not, isl_and, isl_or, isl_not, rSetD, rUnion, rSortTx, rRep]
          exact ((((S2.trans S4').trans S5').trans S6').trans sD)
        · rintro σ H2 ⟨y7, y8, rfl, S2⟩
          exact ⟨⟨_, _, _, _, _, _, _, rfl⟩, B7.same S2⟩
      · rintro σ H2 ⟨y2, y3, y4, y5, y6, y7, y8, rfl, B2⟩
        exact ⟨⟨_, _, _, _, _, _, _, rfl⟩, B2⟩
    rintro σ' H2 ⟨y2, y3, y4, y5, y6, y7, y8, rfl, B2⟩
    try simp only [tVar, tC, tOp, rI, rI0, rU, tTest, tB, tAnd, tOr, tNot, tAndV, tOrV, tNotV, tIf, tNil, tCons, tTup, tLst, tCB, tSeq, tAsg, gName, tRet, tRetN, tIfS, tNext, tDrop, tCall, tUn, tPar, CMul, CDiv, V.int.injEq, V.bl.injEq, V.ref.injEq, V.str.injEq, Option.some.injEq, List.cons.injEq, and_true, true_and, and_false, false_and, or_false, false_or, or_true, true_or, exists_eq_left', exists_eq_left, exists_and_left, exists_and_right, exists_eq', exists_eq, exists_false, exists_const, List.getElem?_cons_succ, List.getElem?_cons_zero, List.set_cons_succ, List.set_cons_zero, List.length_cons, List.length_nil, List.cons_append, List.nil_append, List.append_nil, reduceCtorEq, Int.reduceLT, Int.reduceLE, Int.reduceNeg, Int.reducePow, Int.reduceSub, Int.reduceAdd, Nat.reduceAdd, Nat.reduceLeDiff, Bool.not_true, Bool.not_false, decide_true, decide_false, Bool.false_eq_true, ↓reduceIte, upd_same, not_true_eq_false, not_false_eq_true, lsO_l, lsO_f, tpO_t, tpO_f, dkO_d, dkO_f, keyO_i, keyO_s, rIxH, rIxU, cLenL, cLenT, cListL, cListT, cTupL, cIntB, cAll, rEqNilI, rEq, rNe, scal_ii, scal_ss, scal_bb, scal_nn, scal_ni, scal_in, scal_ns, scal_sn, gSub, rSetL, ixs0, ixs1, ixs2, seq0, at0, at1, at2, at3, tBM, tBM0, rAppend, rPopAt, tyV_list, tGet2, tGetI, sPut, tMG, rTIdx, tyTup, tTupF, cx_K, cx_w, ex_map_int, ex_nil_int, ex_cons_int, List.map_cons, List.map_nil, List.isEmpty_nil, List.isEmpty_cons, List.eraseIdx_zero, List.tail_cons, List.eraseIdx_cons_zero, HO.lst.injEq, HO.tup.injEq, HO.dK.injEq, HO.frz.injEq, ne_eq, gTupH, gCons, gNil, wipe, tYes, upd_upd, and_assoc, List.getElem?_map, Option.map_some, isn_non_bool, isn_non_int, isn_non_str, isn_non_tuple, isn_non_list, isn_non_dict, isn_bl_bool, isn_bl_int, isn_bl_str, isn_bl_tuple, isn_bl_list, isn_bl_dict, isn_int_bool, isn_int_int, isn_int_str, isn_int_tuple, isn_int_list, isn_int_dict, isn_str_bool, isn_str_int, isn_str_str, isn_str_tuple, isn_str_list, isn_str_dict, isn_lst_bool, isn_lst_int, isn_lst_str, isn_lst_tuple, isn_lst_list, isn_lst_dict, isn_tup_bool, isn_tup_int, isn_tup_str, isn_tup_tuple, isn_tup_list, isn_tup_dict, isn_dct_bool, isn_dct_int, isn_dct_str, isn_dct_tuple, isn_dct_list, isn_dct_dict, okn_bool, okn_int, okn_str, okn_tuple, okn_list, okn_dict, cIsi, tyT_n, tyT_b, tyT_i, tyT_s, tyT_r, V.ty.injEq, tSl, tPart, tNoPart, rSlF, gName, List.length_map, Int.reduceToNat, cpow18, Wd.s_inj, ws_num, ws_field, ws_add, ws_sub, ws_mul, ws_eq, ws_lt, ws_gt, ws_le, ws_ge, ws_and, ws_or, ws_not, rInTab, rIxTab, rCatH, rCat, rInT, cSortD, cMaxL, cMinL, rNeNilI, inV, flatV, List.any_cons, List.any_nil, List.all_cons, List.all_nil, eqV, Bool.and_true, Bool.and_false, Bool.true_and, Bool.false_and, Bool.or_false, Bool.false_or, Bool.or_true, Bool.true_or, Wd.beq_s, sz0, sz1, sz2, sz3, sz4, sz5, sz6, isc_eq, isc_lt, isc_gt, isc_le, isc_ge, isc_and, isc_or, isc_not, isl_and, isl_or, isl_not, rSetD, rUnion, rSortTx, rRep]
    exact k _
end

theorem ok_all {P : Program} {w : World} {K : PySem.W.Frag} {mg : Str → Option Value} {base : Heap} (T : Txt K mg w) : FnOk P w K mg base CX0 14 T.f_law T.fd_law ["_law_script"] (spLaw K) := ok_law T
theorem all_mk {l : PySem.W.OpenLaw} {w : World} {K : PySem.W.Frag} {h : Heap} {mg : Str → Option Value} {fa f0 f1 f2 f3 f4 f5 f6 f7 f8 f9 f10 f11 f12 f13 f14 f15 f16 : Addr} (X : K.In h) (G : h.Ns mainGlobals mg) (hfa : mg "law" = some (.ref fa))
    {od0 an0 od1 an1 od2 an2 od3 an3 od4 an4 od5 an5 od6 an6 od7 an7 od8 an8 od9 an9 od10 an10 od11 an11 od12 an12 od13 an13 od14 an14 od15 an15 od16 an16 : Option Addr} {sl0 sl1 sl2 sl3 sl4 sl5 sl6 sl7 sl8 sl9 sl10 sl11 sl12 sl13 sl14 sl15 sl16 : Array (Option Value)} {oc0 kV0 dc0 pm0 cd0 ct0 oc1 kV1 dc1 pm1 cd1 ct1 oc2 kV2 dc2 pm2 cd2 ct2 oc3 kV3 dc3 pm3 cd3 ct3 oc4 kV4 dc4 pm4 cd4 ct4 oc5 kV5 dc5 pm5 cd5 ct5 oc6 kV6 dc6 pm6 cd6 ct6 oc7 kV7 dc7 pm7 cd7 ct7 oc8 kV8 dc8 pm8 cd8 ct8 oc9 kV9 dc9 pm9 cd9 ct9 oc10 kV10 dc10 pm10 cd10 ct10 oc11 kV11 dc11 pm11 cd11 ct11 oc12 kV12 dc12 pm12 cd12 ct12 oc13 kV13 dc13 pm13 cd13 ct13 oc14 kV14 dc14 pm14 cd14 ct14 oc15 kV15 dc15 pm15 cd15 ct15 oc16 kV16 dc16 pm16 cd16 ct16 : Value}
    (a0 : PySem.W.nsIn K mainGlobals "parts_of" = some (some (.ref f0)))
    (l0 : K.lookup f0 = some ⟨oc0, od0, .func (PySem.W.fnOf "parts_of" "parts_of" (defArgs s_parts_of) (defBody s_parts_of) (defScope s_parts_of) .none kV0 dc0 pm0 an0 cd0 ct0), sl0⟩) (c0 : PySem.W.codeIn K cd0 "parts_of" = true) (k0 : PySem.W.keepIn K (.ref f0) = true)
    (a1 : PySem.W.nsIn K mainGlobals "turned" = some (some (.ref f1)))
    (l1 : K.lookup f1 = some ⟨oc1, od1, .func (PySem.W.fnOf "turned" "turned" (defArgs s_turned) (defBody s_turned) (defScope s_turned) .none kV1 dc1 pm1 an1 cd1 ct1), sl1⟩) (c1 : PySem.W.codeIn K cd1 "turned" = true) (k1 : PySem.W.keepIn K (.ref f1) = true)
    (a2 : PySem.W.nsIn K mainGlobals "is_known" = some (some (.ref f2)))
    (l2 : K.lookup f2 = some ⟨oc2, od2, .func (PySem.W.fnOf "is_known" "is_known" (defArgs s_is_known) (defBody s_is_known) (defScope s_is_known) .none kV2 dc2 pm2 an2 cd2 ct2), sl2⟩) (c2 : PySem.W.codeIn K cd2 "is_known" = true) (k2 : PySem.W.keepIn K (.ref f2) = true)
    (a3 : PySem.W.nsIn K mainGlobals "is_true" = some (some (.ref f3)))
    (l3 : K.lookup f3 = some ⟨oc3, od3, .func (PySem.W.fnOf "is_true" "is_true" (defArgs s_is_true) (defBody s_is_true) (defScope s_is_true) .none kV3 dc3 pm3 an3 cd3 ct3), sl3⟩) (c3 : PySem.W.codeIn K cd3 "is_true" = true) (k3 : PySem.W.keepIn K (.ref f3) = true)
    (a4 : PySem.W.nsIn K mainGlobals "span_of" = some (some (.ref f4)))
    (l4 : K.lookup f4 = some ⟨oc4, od4, .func (PySem.W.fnOf "span_of" "span_of" (defArgs s_span_of) (defBody s_span_of) (defScope s_span_of) .none kV4 dc4 pm4 an4 cd4 ct4), sl4⟩) (c4 : PySem.W.codeIn K cd4 "span_of" = true) (k4 : PySem.W.keepIn K (.ref f4) = true)
    (a5 : PySem.W.nsIn K mainGlobals "narrowed" = some (some (.ref f5)))
    (l5 : K.lookup f5 = some ⟨oc5, od5, .func (PySem.W.fnOf "narrowed" "narrowed" (defArgs s_narrowed) (defBody s_narrowed) (defScope s_narrowed) .none kV5 dc5 pm5 an5 cd5 ct5), sl5⟩) (c5 : PySem.W.codeIn K cd5 "narrowed" = true) (k5 : PySem.W.keepIn K (.ref f5) = true)
    (a6 : PySem.W.nsIn K mainGlobals "is_none" = some (some (.ref f6)))
    (l6 : K.lookup f6 = some ⟨oc6, od6, .func (PySem.W.fnOf "is_none" "is_none" (defArgs s_is_none) (defBody s_is_none) (defScope s_is_none) .none kV6 dc6 pm6 an6 cd6 ct6), sl6⟩) (c6 : PySem.W.codeIn K cd6 "is_none" = true) (k6 : PySem.W.keepIn K (.ref f6) = true)
    (a7 : PySem.W.nsIn K mainGlobals "bounds" = some (some (.ref f7)))
    (l7 : K.lookup f7 = some ⟨oc7, od7, .func (PySem.W.fnOf "bounds" "bounds" (defArgs s_bounds) (defBody s_bounds) (defScope s_bounds) .none kV7 dc7 pm7 an7 cd7 ct7), sl7⟩) (c7 : PySem.W.codeIn K cd7 "bounds" = true) (k7 : PySem.W.keepIn K (.ref f7) = true)
    (a8 : PySem.W.nsIn K mainGlobals "_law_mix" = some (some (.ref f8)))
    (l8 : K.lookup f8 = some ⟨oc8, od8, .func (PySem.W.fnOf "_law_mix" "_law_mix" (defArgs s_l_mix) (defBody s_l_mix) (defScope s_l_mix) .none kV8 dc8 pm8 an8 cd8 ct8), sl8⟩) (c8 : PySem.W.codeIn K cd8 "_law_mix" = true) (k8 : PySem.W.keepIn K (.ref f8) = true)
    (a9 : PySem.W.nsIn K mainGlobals "_law_next" = some (some (.ref f9)))
    (l9 : K.lookup f9 = some ⟨oc9, od9, .func (PySem.W.fnOf "_law_next" "_law_next" (defArgs s_l_next) (defBody s_l_next) (defScope s_l_next) .none kV9 dc9 pm9 an9 cd9 ct9), sl9⟩) (c9 : PySem.W.codeIn K cd9 "_law_next" = true) (k9 : PySem.W.keepIn K (.ref f9) = true)
    (a10 : PySem.W.nsIn K mainGlobals "_law_shapes" = some (some (.ref f10)))
    (l10 : K.lookup f10 = some ⟨oc10, od10, .func (PySem.W.fnOf "_law_shapes" "_law_shapes" (defArgs s_l_shapes) (defBody s_l_shapes) (defScope s_l_shapes) .none kV10 dc10 pm10 an10 cd10 ct10), sl10⟩) (c10 : PySem.W.codeIn K cd10 "_law_shapes" = true) (k10 : PySem.W.keepIn K (.ref f10) = true)
    (a11 : PySem.W.nsIn K mainGlobals "_law_number" = some (some (.ref f11)))
    (l11 : K.lookup f11 = some ⟨oc11, od11, .func (PySem.W.fnOf "_law_number" "_law_number" (defArgs s_l_number) (defBody s_l_number) (defScope s_l_number) .none kV11 dc11 pm11 an11 cd11 ct11), sl11⟩) (c11 : PySem.W.codeIn K cd11 "_law_number" = true) (k11 : PySem.W.keepIn K (.ref f11) = true)
    (a12 : PySem.W.nsIn K mainGlobals "_law_term" = some (some (.ref f12)))
    (l12 : K.lookup f12 = some ⟨oc12, od12, .func (PySem.W.fnOf "_law_term" "_law_term" (defArgs s_l_term) (defBody s_l_term) (defScope s_l_term) .none kV12 dc12 pm12 an12 cd12 ct12), sl12⟩) (c12 : PySem.W.codeIn K cd12 "_law_term" = true) (k12 : PySem.W.keepIn K (.ref f12) = true)
    (a13 : PySem.W.nsIn K mainGlobals "_law_cond" = some (some (.ref f13)))
    (l13 : K.lookup f13 = some ⟨oc13, od13, .func (PySem.W.fnOf "_law_cond" "_law_cond" (defArgs s_l_cond) (defBody s_l_cond) (defScope s_l_cond) .none kV13 dc13 pm13 an13 cd13 ct13), sl13⟩) (c13 : PySem.W.codeIn K cd13 "_law_cond" = true) (k13 : PySem.W.keepIn K (.ref f13) = true)
    (a14 : PySem.W.nsIn K mainGlobals "_law_some" = some (some (.ref f14)))
    (l14 : K.lookup f14 = some ⟨oc14, od14, .func (PySem.W.fnOf "_law_some" "_law_some" (defArgs s_l_some) (defBody s_l_some) (defScope s_l_some) .none kV14 dc14 pm14 an14 cd14 ct14), sl14⟩) (c14 : PySem.W.codeIn K cd14 "_law_some" = true) (k14 : PySem.W.keepIn K (.ref f14) = true)
    (a15 : PySem.W.nsIn K mainGlobals "_law_both" = some (some (.ref f15)))
    (l15 : K.lookup f15 = some ⟨oc15, od15, .func (PySem.W.fnOf "_law_both" "_law_both" (defArgs s_l_both) (defBody s_l_both) (defScope s_l_both) .none kV15 dc15 pm15 an15 cd15 ct15), sl15⟩) (c15 : PySem.W.codeIn K cd15 "_law_both" = true) (k15 : PySem.W.keepIn K (.ref f15) = true)
    (a16 : PySem.W.nsIn K mainGlobals "law" = some (some (.ref f16)))
    (l16 : K.lookup f16 = some ⟨oc16, od16, .func (PySem.W.fnOf "law" "law" (defArgs s_law) (defBody s_law) (defScope s_law) .none kV16 dc16 pm16 an16 cd16 ct16), sl16⟩) (c16 : PySem.W.codeIn K cd16 "law" = true) (k16 : PySem.W.keepIn K (.ref f16) = true)
    (z_max : PySem.W.nsIn K mainGlobals "max" = some none)
    (z_min : PySem.W.nsIn K mainGlobals "min" = some none)
    (z_list : PySem.W.nsIn K mainGlobals "list" = some none)
    (z_len : PySem.W.nsIn K mainGlobals "len" = some none)
    (z_range : PySem.W.nsIn K mainGlobals "range" = some none)
    (z_tuple : PySem.W.nsIn K mainGlobals "tuple" = some none)
    (z_sorted : PySem.W.nsIn K mainGlobals "sorted" = some none)
    (z_int : PySem.W.nsIn K mainGlobals "int" = some none)
    (z_set : PySem.W.nsIn K mainGlobals "set" = some none)
    {tA : Addr} {tE : Array DictEntry} {tN : Nat} {tk1 tk2 tk3 tk4 tk5 : Tok} (ta : PySem.W.nsIn K mainGlobals "TURNED" = some (some (.ref tA))) (tl : K.lookup tA = some ⟨.type "dict", none, .dict tE tN, #[]⟩) (tk : PySem.W.KeysLit w.params tE.toList) (tw : (tA == sysModules) = false)
    (t1 : PySem.W.nsIn K tA "=" = some (some (.str "=" tk1))) (t2 : PySem.W.nsIn K tA "<" = some (some (.str ">" tk2))) (t3 : PySem.W.nsIn K tA ">" = some (some (.str "<" tk3))) (t4 : PySem.W.nsIn K tA "<=" = some (some (.str ">=" tk4))) (t5 : PySem.W.nsIn K tA ">=" = some (some (.str "<=" tk5)))
    (t6 : PySem.W.nsIn K tA "and" = some none) (t7 : PySem.W.nsIn K tA "or" = some none) (t8 : PySem.W.nsIn K tA "not" = some none)
    : ∃ fd : FuncData, (∀ (s : Shared) (v : Value), BindsTo s fd ⟨[v], []⟩ [("_law_script", v)]) ∧ ∀ base : Heap, K.In base → base.Ns mainGlobals mg → FnOk l.prog w K mg base CX0 14 fa fd ["_law_script"] (spLaw K) := by
  have e := hfa.symm.trans (PySem.W.mg_of X G a16)
  cases e
  have F0 := fun_mk (st := s_parts_of) l0 c0 k0
  have F1 := fun_mk (st := s_turned) l1 c1 k1
  have F2 := fun_mk (st := s_is_known) l2 c2 k2
  have F3 := fun_mk (st := s_is_true) l3 c3 k3
  have F4 := fun_mk (st := s_span_of) l4 c4 k4
  have F5 := fun_mk (st := s_narrowed) l5 c5 k5
  have F6 := fun_mk (st := s_is_none) l6 c6 k6
  have F7 := fun_mk (st := s_bounds) l7 c7 k7
  have F8 := fun_mk (st := s_l_mix) l8 c8 k8
  have F9 := fun_mk (st := s_l_next) l9 c9 k9
  have F10 := fun_mk (st := s_l_shapes) l10 c10 k10
  have F11 := fun_mk (st := s_l_number) l11 c11 k11
  have F12 := fun_mk (st := s_l_term) l12 c12 k12
  have F13 := fun_mk (st := s_l_cond) l13 c13 k13
  have F14 := fun_mk (st := s_l_some) l14 c14 k14
  have F15 := fun_mk (st := s_l_both) l15 c15 k15
  have F16 := fun_mk (st := s_law) l16 c16 k16
  have T : ∃ T : Txt K mg w, T.f_law = fa ∧ T.fd_law = PySem.W.fnOf "law" "law" (defArgs s_law) (defBody s_law) (defScope s_law) .none kV16 dc16 pm16 an16 cd16 ct16 := ⟨{ f_parts_of := f0, fd_parts_of := _, F_parts_of := F0, b_parts_of := (F0.binds (ps := ["cond"]) fun _ _ _ _ _ _ us hl => match us, hl with | [_], _ => rfl), mg_parts_of := PySem.W.mg_of X G a0, f_turned := f1, fd_turned := _, F_turned := F1, b_turned := (F1.binds (ps := ["cond"]) fun _ _ _ _ _ _ us hl => match us, hl with | [_], _ => rfl), mg_turned := PySem.W.mg_of X G a1, f_is_known := f2, fd_is_known := _, F_is_known := F2, b_is_known := (F2.binds (ps := ["cond"]) fun _ _ _ _ _ _ us hl => match us, hl with | [_], _ => rfl), mg_is_known := PySem.W.mg_of X G a2, f_is_true := f3, fd_is_true := _, F_is_true := F3, b_is_true := (F3.binds (ps := ["word", "one", "other"]) fun _ _ _ _ _ _ us hl => match us, hl with | [_, _, _], _ => rfl), mg_is_true := PySem.W.mg_of X G a3, f_span_of := f4, fd_span_of := _, F_span_of := F4, b_span_of := (F4.binds (ps := ["word", "number"]) fun _ _ _ _ _ _ us hl => match us, hl with | [_, _], _ => rfl), mg_span_of := PySem.W.mg_of X G a4, f_narrowed := f5, fd_narrowed := _, F_narrowed := F5, b_narrowed := (F5.binds (ps := ["span", "other"]) fun _ _ _ _ _ _ us hl => match us, hl with | [_, _], _ => rfl), mg_narrowed := PySem.W.mg_of X G a5, f_is_none := f6, fd_is_none := _, F_is_none := F6, b_is_none := (F6.binds (ps := ["span"]) fun _ _ _ _ _ _ us hl => match us, hl with | [_], _ => rfl), mg_is_none := PySem.W.mg_of X G a6, f_bounds := f7, fd_bounds := _, F_bounds := F7, b_bounds := (F7.binds (ps := ["cond", "table"]) fun _ _ _ _ _ _ us hl => match us, hl with | [_, _], _ => rfl), mg_bounds := PySem.W.mg_of X G a7, f_l_mix := f8, fd_l_mix := _, F_l_mix := F8, b_l_mix := (F8.binds (ps := ["_law_script", "_law_seed"]) fun _ _ _ _ _ _ us hl => match us, hl with | [_, _], _ => rfl), mg_l_mix := PySem.W.mg_of X G a8, f_l_next := f9, fd_l_next := _, F_l_next := F9, b_l_next := (F9.binds (ps := ["_law_h", "_law_many"]) fun _ _ _ _ _ _ us hl => match us, hl with | [_, _], _ => rfl), mg_l_next := PySem.W.mg_of X G a9, f_l_shapes := f10, fd_l_shapes := _, F_l_shapes := F10, b_l_shapes := (F10.binds (ps := ["_law_h", "_law_many"]) fun _ _ _ _ _ _ us hl => match us, hl with | [_, _], _ => rfl), mg_l_shapes := PySem.W.mg_of X G a10, f_l_number := f11, fd_l_number := _, F_l_number := F11, b_l_number := (F11.binds (ps := ["_law_h"]) fun _ _ _ _ _ _ us hl => match us, hl with | [_], _ => rfl), mg_l_number := PySem.W.mg_of X G a11, f_l_term := f12, fd_l_term := _, F_l_term := F12, b_l_term := (F12.binds (ps := ["_law_h", "_law_fields", "_law_deep"]) fun _ _ _ _ _ _ us hl => match us, hl with | [_, _, _], _ => rfl), mg_l_term := PySem.W.mg_of X G a12, f_l_cond := f13, fd_l_cond := _, F_l_cond := F13, b_l_cond := (F13.binds (ps := ["_law_h", "_law_fields", "_law_deep"]) fun _ _ _ _ _ _ us hl => match us, hl with | [_, _, _], _ => rfl), mg_l_cond := PySem.W.mg_of X G a13, f_l_some := f14, fd_l_some := _, F_l_some := F14, b_l_some := (F14.binds (ps := ["_law_h", "_law_shapes_here", "_law_tables"]) fun _ _ _ _ _ _ us hl => match us, hl with | [_, _, _], _ => rfl), mg_l_some := PySem.W.mg_of X G a14, f_l_both := f15, fd_l_both := _, F_l_both := F15, b_l_both := (F15.binds (ps := ["_law_one", "_law_other"]) fun _ _ _ _ _ _ us hl => match us, hl with | [_, _], _ => rfl), mg_l_both := PySem.W.mg_of X G a15, f_law := fa, fd_law := _, F_law := F16, b_law := (F16.binds (ps := ["_law_script"]) fun _ _ _ _ _ _ us hl => match us, hl with | [_], _ => rfl), mg_law := PySem.W.mg_of X G a16, n_max := PySem.W.mg_none_of X G z_max, n_min := PySem.W.mg_none_of X G z_min, n_list := PySem.W.mg_none_of X G z_list, n_len := PySem.W.mg_none_of X G z_len, n_range := PySem.W.mg_none_of X G z_range, n_tuple := PySem.W.mg_none_of X G z_tuple, n_sorted := PySem.W.mg_none_of X G z_sorted, n_int := PySem.W.mg_none_of X G z_int, n_set := PySem.W.mg_none_of X G z_set, a_TURNED := tA, mg_TURNED := PySem.W.mg_of X G ta, D_TURNED := tab_mk tl tk tw t1 t2 t3 t4 t5 t6 t7 t8 }, rfl, rfl⟩
  obtain ⟨T, t1, t2⟩ := T
  refine ⟨PySem.W.fnOf "law" "law" (defArgs s_law) (defBody s_law) (defScope s_law) .none kV16 dc16 pm16 an16 cd16 ct16, fun s v => .of_eq rfl, fun base _ _ => ?_⟩
  rw [← t1, ← t2]
  exact ok_all T

theorem walk {l : PySem.W.OpenLaw} {q : Program} {loose : List Str} {XP : (Str → Option Value) → Heap → Prop} {YP : World → Heap → Prop} {d : DefRec} {K : Params → PySem.W.Frag} (hn : l.most = some 63) (hdf : d.params.defaults = [])
    (hY : ∀ (w : World) (h : Heap), YP w h → (K w.params).In h)
    (F : ∀ (w : World) (mg : Str → Option Value) (fa : Addr) (h : Heap), (K w.params).In h → h.Ns mainGlobals mg → mg d.name = some (.ref fa) →
      ∃ fd : FuncData, (∀ (s : Shared) (u : Value), BindsTo s fd ⟨[u], []⟩ [("_law_script", u)]) ∧ ∀ base : Heap, (K w.params).In base → base.Ns mainGlobals mg → FnOk l.prog w (K w.params) mg base CX0 14 fa fd ["_law_script"] (spLaw (K w.params))) :
    PySem.W.WalkO q loose XP YP l.row.toRowW d [] (fun f vs => PySem.call f vs) :=
  L2.walk_of (n := 63) (k := 14) (x := "_law_script") (CX := fun _ => CX0) (sp := fun w => spLaw (K w.params)) hn (by decide) hdf ⟨rfl, by decide, by decide⟩ hY F (fun _ _ a ns hl _ hS => ⟨a, ns, rfl, hS, hl, fun _ => rfl⟩) fun _ _ _ _ _ z => z
end K25
open PySem PySem.W PyProof.Rows
set_option maxRecDepth 100000 in
set_option maxHeartbeats 0 in
theorem PySem.Challenge.cw_granary_k25_whole_what_several_condition_holds : PySem.Challenge.rw_granary_k25_whole_what_several_condition.Holds := by
  w_on; o_law; k_head; (case hw => w_witness2)
  k_fill
  refine K25.walk (l := PySem.Challenge.rw_granary_k25_whole_what_several_condition) rfl rfl (fun w h Y => PySem.W.kIn_of Y) ?F
  case F =>
    intro w mg fa h KX G hmg
    refine' K25.all_mk KX G hmg ?a0 ?l0 ?c0 ?k0 ?a1 ?l1 ?c1 ?k1 ?a2 ?l2 ?c2 ?k2 ?a3 ?l3 ?c3 ?k3 ?a4 ?l4 ?c4 ?k4 ?a5 ?l5 ?c5 ?k5 ?a6 ?l6 ?c6 ?k6 ?a7 ?l7 ?c7 ?k7 ?a8 ?l8 ?c8 ?k8 ?a9 ?l9 ?c9 ?k9 ?a10 ?l10 ?c10 ?k10 ?a11 ?l11 ?c11 ?k11 ?a12 ?l12 ?c12 ?k12 ?a13 ?l13 ?c13 ?k13 ?a14 ?l14 ?c14 ?k14 ?a15 ?l15 ?c15 ?k15 ?a16 ?l16 ?c16 ?k16 ?z_max ?z_min ?z_list ?z_len ?z_range ?z_tuple ?z_sorted ?z_int ?z_set ?ta ?tl ?tk ?tw ?t1 ?t2 ?t3 ?t4 ?t5 ?t6 ?t7 ?t8
    (case a0 => k_is)
    (case l0 => k_is)
    (case c0 => k_is)
    (case k0 => k_is)
    (case a1 => k_is)
    (case l1 => k_is)
    (case c1 => k_is)
    (case k1 => k_is)
    (case a2 => k_is)
    (case l2 => k_is)
    (case c2 => k_is)
    (case k2 => k_is)
    (case a3 => k_is)
    (case l3 => k_is)
    (case c3 => k_is)
    (case k3 => k_is)
    (case a4 => k_is)
    (case l4 => k_is)
    (case c4 => k_is)
    (case k4 => k_is)
    (case a5 => k_is)
    (case l5 => k_is)
    (case c5 => k_is)
    (case k5 => k_is)
    (case a6 => k_is)
    (case l6 => k_is)
    (case c6 => k_is)
    (case k6 => k_is)
    (case a7 => k_is)
    (case l7 => k_is)
    (case c7 => k_is)
    (case k7 => k_is)
    (case a8 => k_is)
    (case l8 => k_is)
    (case c8 => k_is)
    (case k8 => k_is)
    (case a9 => k_is)
    (case l9 => k_is)
    (case c9 => k_is)
    (case k9 => k_is)
    (case a10 => k_is)
    (case l10 => k_is)
    (case c10 => k_is)
    (case k10 => k_is)
    (case a11 => k_is)
    (case l11 => k_is)
    (case c11 => k_is)
    (case k11 => k_is)
    (case a12 => k_is)
    (case l12 => k_is)
    (case c12 => k_is)
    (case k12 => k_is)
    (case a13 => k_is)
    (case l13 => k_is)
    (case c13 => k_is)
    (case k13 => k_is)
    (case a14 => k_is)
    (case l14 => k_is)
    (case c14 => k_is)
    (case k14 => k_is)
    (case a15 => k_is)
    (case l15 => k_is)
    (case c15 => k_is)
    (case k15 => k_is)
    (case a16 => k_is)
    (case l16 => k_is)
    (case c16 => k_is)
    (case k16 => k_is)
    (case z_max => k_is)
    (case z_min => k_is)
    (case z_list => k_is)
    (case z_len => k_is)
    (case z_range => k_is)
    (case z_tuple => k_is)
    (case z_sorted => k_is)
    (case z_int => k_is)
    (case z_set => k_is)
    (case ta => k_is)
    (case tl => k_is)
    (case tk => k_keys)
    (case tw => decide)
    (case t1 => k_is)
    (case t2 => k_is)
    (case t3 => k_is)
    (case t4 => k_is)
    (case t5 => k_is)
    (case t6 => k_is)
    (case t7 => k_is)
    (case t8 => k_is)

