import PyProof.Rows.All
import Wide.All
import OpenK.AllK
import Wide.FinOn
import HandS.ForMost
import HandS.IsInst
import HandS.FStr
import HandS.DictComp
import HandS.ListItems
import HandS.TupAny
import HandS.More
import HandS.Conv
import HandS.Style
import HandS.Flow
import HandS.Walk
import PyProof.ReprRoads
import HandS.Words
import PySem.Challenge.RW_farmarks_k83_rows_as_texts
set_option Elab.async false
set_option linter.all false
set_option maxRecDepth 100000
set_option maxHeartbeats 4000000
namespace Fm
open PySem L2 LiI
section
variable {X : Cx} {K : PySem.W.Frag}
theorem op_in_seqK (h : X.K = K) : OpR X (compareOp .In) (rIn K false) := by subst h; exact op_in_seq
theorem op_notIn_seqK (h : X.K = K) : OpR X (compareOp .NotIn) (rIn K true) := by subst h; exact op_notIn_seq
theorem op_eqDK (h : X.K = K) (hu : X.A.units + 64 < cLine) : OpR X (compareOp .Eq) (rEqD K) := by subst h; exact op_eqD hu
theorem op_neDK (h : X.K = K) (hu : X.A.units + 64 < cLine) : OpR X (compareOp .NotEq) (rNeD K) := by subst h; exact op_neD hu
theorem ix_listK (h : X.K = K) : IxR X (rIxL K) := by subst h; exact ix_list
theorem ix_tupK (h : X.K = K) : IxR X (rIxT K) := by subst h; exact ix_tup
theorem ix_seqK (h : X.K = K) : IxR X (rIx K) := by subst h; exact ix_seq
theorem sl_listK (h : X.K = K) : SlR X (rSlL K) := by subst h; exact sl_list
theorem sl_tupAK (h : X.K = K) : SlR X (rSlA K) := by subst h; exact sl_tupA
def rLenSeq (K : PySem.W.Frag) : List V → Hp → VK → Prop := fun xs H Q => ∃ p ys, xs = [.ref p] ∧ (SqL K H p ys ∨ SqT K H p ys) ∧ Q (.int ys.length) H
theorem call_len_seqK (h : X.K = K) : CallR X (.builtin "len") (rLenSeq K) := by subst h; exact call_len_seq
def rListOf (K : PySem.W.Frag) : List V → Hp → VK → Prop := fun xs H Q => ∃ p ys, xs = [.ref p] ∧ (SqL K H p ys ∨ SqT K H p ys) ∧ ∀ l, H l = none → Q (.ref l) (upd H l (.lst ys))
theorem call_list_ofK (h : X.K = K) : CallR X (.type "list") (rListOf K) := by subst h; exact call_list_of
def rTupleOf (K : PySem.W.Frag) : List V → Hp → VK → Prop := fun xs H Q => ∃ p ys, xs = [.ref p] ∧ ((SqL K H p ys ∧ ∀ l, H l = none → Q (.ref l) (upd H l (.tup ys))) ∨ (SqT K H p ys ∧ Q (.ref p) H))
theorem call_tuple_ofK (h : X.K = K) : CallR X (.type "tuple") (rTupleOf K) := by subst h; exact call_tuple_of
def rDictP (K : PySem.W.Frag) : List V → Hp → VK → Prop := fun xs H Q => ∃ (a : Addr) (ps : List Addr) (kvs : List (Key × V)), xs = [.ref a] ∧ SqL K H a (ps.map V.ref) ∧ Paired (fun p kv => SqT K H p [kV kv.1, kv.2]) ps kvs ∧ ∀ p, H p = none → Q (.ref p) (upd H p (.dK (mergeK [] kvs)))
theorem call_dictPK (h : X.K = K) (hc : X.calm = true) : CallR X (.type "dict") (rDictP K) := by subst h; exact call_dictP hc
theorem call_isi_K (h : X.K = K) : CallR X (.builtin "isinstance") (rIsi K) := by subst h; exact call_isi
theorem call_isiTK (h : X.K = K) : CallR X (.builtin "isinstance") (rIsiT K) := by subst h; exact call_isiT
def rJoin (K : PySem.W.Frag) : V → List V → Hp → VK → Prop := fun x xs H Q => ∃ a p, ∃ ys : List Str, x = .str a ∧ xs = [.ref p] ∧ (SqL K H p (ys.map V.str) ∨ SqT K H p (ys.map V.str)) ∧ (ys.map (·.length)).sum + ys.length * a.length ≤ 16777216 ∧ Q (.str (Txt.join a ys)) H
theorem mt_joinK (h : X.K = K) : MtR X "str.join" (rJoin K) := by subst h; exact mt_join
theorem mt_indexK (h : X.K = K) : MtR X "list.index" (rIndex K) := by subst h; exact mt_index
theorem cr_allK (h : X.K = K) (hc : X.calm = true) : CallR X (.builtin "all") (rAll K) := by subst h; exact cr_all hc
theorem cr_anyK (h : X.K = K) (hc : X.calm = true) : CallR X (.builtin "any") (rAny K) := by subst h; exact cr_any hc
theorem cr_sumK (h : X.K = K) (hc : X.calm = true) : CallR X (.builtin "sum") (rSum K) := by subst h; exact cr_sum hc
theorem cr_maxK (h : X.K = K) (hc : X.calm = true) : CallR X (.builtin "max") (rMax K) := by subst h; exact cr_max hc
theorem cr_minK (h : X.K = K) (hc : X.calm = true) : CallR X (.builtin "min") (rMin K) := by subst h; exact cr_min hc
theorem pe_bmK {T : String} {name : Str} {id : String} {r : V → List V → Hp → VK → Prop} {o e : Expr} {es : List Expr} {to : TE} {t : TA} {apos cpos : Pos} (hK : X.K = K) (pa : PlainAttrs T) (slot : Slot T name id) (hty : typeOf (.builtin id) = pure (.type "method_descriptor")) (hm : MtR X id r) (ho : PE X o to) (ha : PA X (e :: es) t)
    (hbase : attributeBase o name X.env (eval o X.env) = eval o X.env := by rfl)
    (hfew : ((backTo cpos (starEach (e :: es) X.env)).all (fun x => !x.1) && (backToKw cpos (keywordEach [] X.env)).all (fun x => x.1.isSome)
      && decide ((e :: es).length + ([] : List Keyword).length + (if ([] : List Keyword).isEmpty then 0 else 1) < 30)) = true := by rfl)
    (hline : (apos.endLine == cpos.line) = true := by rfl) (hs : starEach (e :: es) X.env = (false, eval e X.env) :: starEach es X.env := by rfl) (hplain : (backTo cpos (starEach es X.env)).any (·.1) = false := by rfl) :
    PE X (.Call (.Attribute o name apos) (e :: es) [] cpos) (tBM K T r to t) := by subst hK; exact pe_bm pa slot hty hm ho ha hbase hfew hline hs hplain
theorem pe_bm0K {T : String} {name : Str} {id : String} {r : V → List V → Hp → VK → Prop} {o : Expr} {to : TE} {apos cpos : Pos} (hK : X.K = K) (pa : PlainAttrs T) (slot : Slot T name id) (hty : typeOf (.builtin id) = pure (.type "method_descriptor")) (hm : MtR X id r) (ho : PE X o to)
    (hbase : attributeBase o name X.env (eval o X.env) = eval o X.env := by rfl) (hline : (apos.endLine == cpos.line) = true := by rfl) : PE X (.Call (.Attribute o name apos) [] [] cpos) (tBM0 K T r to) := by subst hK; exact pe_bm0 pa slot hty hm ho hbase hline
theorem pi_listK {tg l : Expr} {tl : TE} (hK : X.K = K) (hl : PE X l tl) : PI X tg l (iList K tl) := by subst hK; exact pi_list hl
theorem pi_tupK {tg l : Expr} {tl : TE} (hK : X.K = K) (hl : PE X l tl) : PI X tg l (iTup K tl) := by subst hK; exact pi_tup hl
/-- a list or a tuple -/
def iSeq (K : PySem.W.Frag) (tl : TE) : TI := fun σ H R => iList K tl σ H R ∨ iTup K tl σ H R
theorem pi_seqK {tg l : Expr} {tl : TE} (hK : X.K = K) (hl : PE X l tl) : PI X tg l (iSeq K tl) := by
  subst hK
  exact ⟨fun pins s σ H R I h => h.elim (fun h => (pi_list hl).run pins s σ H R I h) (fun h => (pi_tup hl).run pins s σ H R I h)⟩
theorem pi_enumK {e : Expr} {ta : TA} {p pos tpos : Pos} {elts : List Expr} {kk : Nat} (hK : X.K = K) (hg : Gl X "enumerate") (hm : X.mg "enumerate" = none) (ha : PA X [e] ta) (hs : starEach [e] X.env = [(false, eval e X.env)] := by rfl) :
    PI X (.Tuple elts kk tpos) (.Call (.Name "enumerate" p) [e] [] pos) (iEnum K ta) := by subst hK; exact pi_enum hg hm ha hs
theorem pi_zipK {e e2 : Expr} {ta : TA} {p pos tpos : Pos} {elts : List Expr} {kk : Nat} (hK : X.K = K) (hg : Gl X "zip") (hm : X.mg "zip" = none) (ha : PA X [e, e2] ta)
    (hs : starEach [e, e2] X.env = (false, eval e X.env) :: starEach [e2] X.env := by rfl) (hpl : (backTo pos (starEach [e2] X.env)).any (·.1) = false := by rfl) :
    PI X (.Tuple elts kk tpos) (.Call (.Name "zip" p) [e, e2] [] pos) (iZip K ta) := by subst hK; exact pi_zip hg hm ha hs hpl
theorem pg_tupK {es : List Expr} {k : Nat} {t : TGs} {pos : Pos} (hK : X.K = K) (hc : X.calm = true) (h : PGs X es t)
    (hn : (assignEach es X.env).length = es.length := by rfl) (hst : (assignEach es X.env).findIdx? (·.1) = none := by rfl) : PG X (.Tuple es k pos) (gTup K es.length t) := by subst hK; exact pg_tup hc h hn hst
theorem pe_revLK {e : Expr} {te : TE} {k : Nat} {p1 p2 p3 pos : Pos} (hK : X.K = K) (he : PE X e te) : PE X (.Subscript e (.Slice none none (some (.UnaryOp .USub (.Constant (.int 1) k p1) p2)) p3) pos) (tRevL K te) := by subst hK; exact pe_revL he
theorem pe_fldK {f : Str} {a : Expr} {ta : TE} {pos : Pos} (hK : X.K = K) (ha : PE X a ta) (hb : attributeBase a f X.env (eval a X.env) = eval a X.env) : PE X (.Attribute a f pos) (tFld K ta f) := by subst hK; exact pe_fld ha hb
theorem pe_globI {x : Str} {i : Int} {t : Tok} {pos : Pos} (hg : Gl X x) (hm : X.mg x = some (.int i t)) (hd : (x == ("__debug__" : Str)) = false := by decide) : PE X (.Name x pos) (tC (.int i)) := pe_glob hg hm ⟨_, rfl⟩ hd
theorem pe_globS {x y : Str} {t : Tok} {pos : Pos} (hg : Gl X x) (hm : X.mg x = some (.str y t)) (hd : (x == ("__debug__" : Str)) = false := by decide) : PE X (.Name x pos) (tC (.str y)) := pe_glob hg hm ⟨_, rfl⟩ hd
theorem pe_globR {x : Str} {a : Addr} {pos : Pos} (hg : Gl X x) (hm : X.mg x = some (.ref a)) (hd : (x == ("__debug__" : Str)) = false := by decide) : PE X (.Name x pos) (tC (.ref a)) := pe_glob (v := .ref a) hg hm rfl hd
theorem pe_bltnT {x : Str} {n : String} {pos : Pos} (hg : Gl X x) (hm : X.mg x = none) (hv : bootBuiltins x = some (.type n)) (hn : x ≠ "__name__" := by decide) (hd : (x == ("__debug__" : Str)) = false := by decide) : PE X (.Name x pos) (tC (.ty n)) := pe_bltn (v := .ty n) hg hm hv rfl hn hd
end
/-! ### heaps: what stood stands -/
theorem _root_.L2.Same.new {H : Hp} {p : Addr} {o : HO} (h : H p = none) : Same H (upd H p o) := fun a u e => by
  rw [upd_ne (ne_of_none e h)]; exact e
theorem _root_.L2.Same.mut {F H : Hp} {p : Addr} {o : HO} (s : Same F H) (h : F p = none) : Same F (upd H p o) := fun a u e => by
  rw [upd_ne (ne_of_none e h)]; exact s a u e
theorem _root_.L2.Same.tup {K : PySem.W.Frag} {H H' : Hp} {a : Addr} {xs : List V} (e : Same H H') (h : SqT K H a xs) : SqT K H' a xs := by
  rcases h with (h | ⟨o, h⟩) | h
  · exact .inl (.inl (e _ _ h))
  · exact .inl (.inr ⟨o, e _ _ h⟩)
  · exact .inr h
/-- F the part that stays as it is; F' ⊇ F, H' ⊇ H, and of H's own cells none has come into F' -/
structure Ext (F H F' H' : Hp) : Prop where
  ff : Same F F'
  fh : Same F' H'
  hh : Same H H'
  nw : ∀ b, H b ≠ none → F b = none → F' b = none
theorem Ext.refl {F H : Hp} (s : Same F H) : Ext F H F H := ⟨Same.refl F, s, Same.refl H, fun _ _ h => h⟩
theorem Ext.trans {F H F1 H1 F2 H2 : Hp} (a : Ext F H F1 H1) (b : Ext F1 H1 F2 H2) : Ext F H F2 H2 :=
  ⟨a.ff.trans b.ff, b.fh, a.hh.trans b.hh, fun c hc hf => b.nw c (fun z => hc (a.hh.free z)) (a.nw c hc hf)⟩
/-- a new object, taken into F -/
theorem Ext.new {F H : Hp} {p : Addr} {o : HO} (s : Same F H) (h : H p = none) : Ext F H (upd F p o) (upd H p o) := by
  have hF : F p = none := s.free h
  refine ⟨Same.new hF, fun a u e => ?_, Same.new h, fun b hb hf => ?_⟩
  · by_cases q : a = p
    · subst q; rw [upd_same] at e ⊢; exact e
    · rw [upd_ne q] at e ⊢; exact s a u e
  · have q : b ≠ p := fun z => hb (by rw [z]; exact h)
    rw [upd_ne q]; exact hf
/-- a new object, not taken into F -/
theorem Ext.loose {F H : Hp} {p : Addr} {o : HO} (s : Same F H) (h : H p = none) : Ext F H F (upd H p o) :=
  ⟨Same.refl F, s.mut (s.free h), Same.new h, fun _ _ h => h⟩
theorem Ext.same {F H H' : Hp} (s : Same F H) (h : Same H H') : Ext F H F H' := ⟨Same.refl F, s.trans h, h, fun _ _ h => h⟩

/-! ### data -/
def kD : Key → PyData
  | .inl i => .int i
  | .inr s => .str s
mutual
/-- at v data d is to be read -/
inductive Is (K : PySem.W.Frag) (H : Hp) : V → PyData → Prop
  | non : Is K H .non .none
  | bl (b : Bool) : Is K H (.bl b) (.bool b)
  | int (i : Int) : Is K H (.int i) (.int i)
  | str (x : Str) : Is K H (.str x) (.str x)
  | lst {a : Addr} {xs : List V} {ds : List PyData} : SqL K H a xs → IsAll K H xs ds → Is K H (.ref a) (.list ds)
  | tup {a : Addr} {xs : List V} {ds : List PyData} : SqT K H a xs → IsAll K H xs ds → Is K H (.ref a) (.tuple ds)
  | dct {a : Addr} {kvs : List (Key × V)} {es : List (PyData × PyData)} : H a = some (.dK kvs) → IsKv K H kvs es → Is K H (.ref a) (.dict es)
inductive IsAll (K : PySem.W.Frag) (H : Hp) : List V → List PyData → Prop
  | nil : IsAll K H [] []
  | cons {v : V} {vs : List V} {d : PyData} {ds : List PyData} : Is K H v d → IsAll K H vs ds → IsAll K H (v :: vs) (d :: ds)
inductive IsKv (K : PySem.W.Frag) (H : Hp) : List (Key × V) → List (PyData × PyData) → Prop
  | nil : IsKv K H [] []
  | cons {k : Key} {v : V} {kvs : List (Key × V)} {d : PyData} {es : List (PyData × PyData)} : Is K H v d → IsKv K H kvs es → IsKv K H ((k, v) :: kvs) ((kD k, d) :: es)
end
section
variable {K : PySem.W.Frag} {H H' : Hp}
mutual
theorem Is.mono (s : Same H H') : ∀ {v : V} {d : PyData}, Is K H v d → Is K H' v d
  | _, _, .non => .non
  | _, _, .bl b => .bl b
  | _, _, .int i => .int i
  | _, _, .str x => .str x
  | _, _, .lst h a => .lst (s.seq h) (IsAll.mono s a)
  | _, _, .tup h a => .tup (s.tup h) (IsAll.mono s a)
  | _, _, .dct h a => .dct (s _ _ h) (IsKv.mono s a)
theorem IsAll.mono (s : Same H H') : ∀ {vs : List V} {ds : List PyData}, IsAll K H vs ds → IsAll K H' vs ds
  | _, _, .nil => .nil
  | _, _, .cons h t => .cons (Is.mono s h) (IsAll.mono s t)
theorem IsKv.mono (s : Same H H') : ∀ {vs : List (Key × V)} {ds : List (PyData × PyData)}, IsKv K H vs ds → IsKv K H' vs ds
  | _, _, .nil => .nil
  | _, _, .cons h t => .cons (Is.mono s h) (IsKv.mono s t)
end
theorem IsAll.length : ∀ {vs : List V} {ds : List PyData}, IsAll K H vs ds → vs.length = ds.length
  | _, _, .nil => rfl
  | _, _, .cons _ t => congrArg Nat.succ (IsAll.length t)
theorem IsAll.get : ∀ {vs : List V} {ds : List PyData} {i : Nat} {v : V}, IsAll K H vs ds → vs[i]? = some v → ∃ d, ds[i]? = some d ∧ Is K H v d
  | _, _, _, _, .nil, h => by simp at h
  | _, _, 0, _, .cons q _, h => by simp at h; subst h; exact ⟨_, rfl, q⟩
  | _, _, i + 1, _, .cons _ t, h => by
    obtain ⟨d, h1, h2⟩ := IsAll.get (i := i) t (by simpa using h)
    exact ⟨d, by simpa using h1, h2⟩
theorem IsAll.get' : ∀ {vs : List V} {ds : List PyData} {i : Nat} {d : PyData}, IsAll K H vs ds → ds[i]? = some d → ∃ v, vs[i]? = some v ∧ Is K H v d
  | _, _, _, _, .nil, h => by simp at h
  | _, _, 0, _, .cons q _, h => by simp at h; subst h; exact ⟨_, rfl, q⟩
  | _, _, i + 1, _, .cons _ t, h => by
    obtain ⟨d, h1, h2⟩ := IsAll.get' (i := i) t (by simpa using h)
    exact ⟨d, by simpa using h1, h2⟩
theorem IsAll.append : ∀ {vs ws : List V} {ds es : List PyData}, IsAll K H vs ds → IsAll K H ws es → IsAll K H (vs ++ ws) (ds ++ es)
  | _, _, _, _, .nil, s => s
  | _, _, _, _, .cons r t, s => .cons r (IsAll.append t s)
theorem IsAll.one {v : V} {d : PyData} (h : Is K H v d) : IsAll K H [v] [d] := .cons h .nil
theorem IsAll.drop : ∀ {vs : List V} {ds : List PyData} (n : Nat), IsAll K H vs ds → IsAll K H (vs.drop n) (ds.drop n)
  | _, _, 0, h => h
  | _, _, _ + 1, .nil => .nil
  | _, _, n + 1, .cons _ t => IsAll.drop n t
theorem IsAll.take : ∀ {vs : List V} {ds : List PyData} (n : Nat), IsAll K H vs ds → IsAll K H (vs.take n) (ds.take n)
  | _, _, 0, _ => .nil
  | _, _, _ + 1, .nil => .nil
  | _, _, n + 1, .cons h t => .cons h (IsAll.take n t)
theorem IsAll.reverse : ∀ {vs : List V} {ds : List PyData}, IsAll K H vs ds → IsAll K H vs.reverse ds.reverse
  | _, _, .nil => .nil
  | _, _, .cons h t => by rw [List.reverse_cons, List.reverse_cons]; exact (IsAll.reverse t).append (.one h)
theorem IsAll.eraseIdx : ∀ {vs : List V} {ds : List PyData} (n : Nat), IsAll K H vs ds → IsAll K H (vs.eraseIdx n) (ds.eraseIdx n)
  | _, _, _, .nil => .nil
  | _, _, 0, .cons _ t => t
  | _, _, n + 1, .cons h t => .cons h (IsAll.eraseIdx n t)
/-! whatever is flat is what it says -/
theorem isAll_strs : ∀ (xs : List Str), IsAll K H (xs.map V.str) (xs.map PyData.str)
  | [] => .nil
  | x :: xs => .cons (.str x) (isAll_strs xs)
theorem isAll_ints : ∀ (xs : List Int), IsAll K H (xs.map V.int) (xs.map PyData.int)
  | [] => .nil
  | x :: xs => .cons (.int x) (isAll_ints xs)
theorem IsAll.strs : ∀ {xs : List Str} {vs : List V}, IsAll K H vs (xs.map PyData.str) → vs = xs.map V.str
  | [], _, .nil => rfl
  | _ :: _, _, .cons (.str _) t => by rw [IsAll.strs t]; rfl
theorem Is.str_inv {v : V} {x : Str} (h : Is K H v (.str x)) : v = .str x := by cases h; rfl
theorem Is.int_inv {v : V} {x : Int} (h : Is K H v (.int x)) : v = .int x := by cases h; rfl
theorem Is.none_inv {v : V} (h : Is K H v .none) : v = .non := by cases h; rfl
theorem Is.bool_inv {v : V} {b : Bool} (h : Is K H v (.bool b)) : v = .bl b := by cases h; rfl
theorem Is.list_inv {v : V} {ds : List PyData} (h : Is K H v (.list ds)) : ∃ a xs, v = .ref a ∧ SqL K H a xs ∧ IsAll K H xs ds := by cases h; exact ⟨_, _, rfl, ‹_›, ‹_›⟩
theorem Is.tuple_inv {v : V} {ds : List PyData} (h : Is K H v (.tuple ds)) : ∃ a xs, v = .ref a ∧ SqT K H a xs ∧ IsAll K H xs ds := by cases h; exact ⟨_, _, rfl, ‹_›, ‹_›⟩
theorem Is.dict_inv {v : V} {es : List (PyData × PyData)} (h : Is K H v (.dict es)) : ∃ a kvs, v = .ref a ∧ H a = some (.dK kvs) ∧ IsKv K H kvs es := by cases h; exact ⟨_, _, rfl, ‹_›, ‹_›⟩
/-- data without dicts is what the library's deep equality reads -/
def noDict : PyData → Bool
  | .list ds => noDictAll ds
  | .tuple ds => noDictAll ds
  | .dict _ => false
  | _ => true
where noDictAll : List PyData → Bool
  | [] => true
  | d :: ds => noDict d && noDictAll ds
mutual
theorem Is.dp : ∀ {v : V} {d : PyData}, Is K H v d → noDict d = true → Dp K H v d
  | _, _, .non, _ => .non
  | _, _, .bl b, _ => .bl b
  | _, _, .int i, _ => .int i
  | _, _, .str x, _ => .str x
  | _, _, .lst h a, q => .lst h (IsAll.dp a (by simpa [noDict] using q))
  | _, _, .tup h a, q => .tup h (IsAll.dp a (by simpa [noDict] using q))
  | _, _, .dct _ _, q => by simp [noDict] at q
theorem IsAll.dp : ∀ {vs : List V} {ds : List PyData}, IsAll K H vs ds → noDict.noDictAll ds = true → DpAll K H vs ds
  | _, _, .nil, _ => .nil
  | _, _, .cons h t, q => by
    simp only [noDict.noDictAll, Bool.and_eq_true] at q
    exact .cons (Is.dp h q.1) (IsAll.dp t q.2)
end
end
/-! ### one step of a reading -/
section
variable {K : PySem.W.Frag} {σ : St} {H : Hp} {Q : VK} {D : Ends} {R : St → Hp → Prop}
theorem w_var {i : Nat} {v : V} (h : σ[i]? = some (some v)) (k : Q v H) : tVar i σ H Q := ⟨v, h, k⟩
theorem w_c {v : V} (k : Q v H) : tC v σ H Q := k
theorem w_op {r : R2} {ta tb : TE} (k : ta σ H fun x H1 => tb σ H1 fun y H2 => r x y H2 Q) : tOp r ta tb σ H Q := k
theorem w_un {r : V → Hp → VK → Prop} {ta : TE} (k : ta σ H fun x H1 => r x H1 Q) : tUn r ta σ H Q := k
theorem w_rI0 {g : Int → Int → V} {i j : Int} (k : Q (g i j) H) : rI0 g (.int i) (.int j) H Q := ⟨i, j, rfl, rfl, k⟩
theorem w_rI {C : Int → Int → Prop} {g : Int → Int → V} {i j : Int} (c : C i j) (k : Q (g i j) H) : rI C g (.int i) (.int j) H Q := ⟨i, j, rfl, rfl, c, k⟩
theorem w_rU {g : Int → V} {i : Int} (k : Q (g i) H) : rU g (.int i) H Q := ⟨i, rfl, k⟩
theorem dec_int (i j : Int) : decide (V.int i = V.int j) = decide (i = j) := by
  by_cases h : i = j
  · rw [h]; simp
  · rw [decide_eq_false h, decide_eq_false fun q => h (V.int.inj q)]
theorem dec_str (i j : Str) : decide (V.str i = V.str j) = decide (i = j) := by
  by_cases h : i = j
  · rw [h]; simp
  · rw [decide_eq_false h, decide_eq_false fun q => h (V.str.inj q)]
theorem w_eqI {i j : Int} (k : Q (.bl (decide (i = j))) H) : rEq (.int i) (.int j) H Q := ⟨rfl, by rw [dec_int]; exact k⟩
theorem w_neI {i j : Int} (k : Q (.bl (!decide (i = j))) H) : rNe (.int i) (.int j) H Q := ⟨rfl, by rw [dec_int]; exact k⟩
theorem w_eqS {i j : Str} (k : Q (.bl (decide (i = j))) H) : rEq (.str i) (.str j) H Q := ⟨rfl, by rw [dec_str]; exact k⟩
theorem w_neS {i j : Str} (k : Q (.bl (!decide (i = j))) H) : rNe (.str i) (.str j) H Q := ⟨rfl, by rw [dec_str]; exact k⟩
theorem w_test {t : TE} {Q : Bool → Hp → Prop} (k : t σ H fun x H' => ∃ c, x = .bl c ∧ Q c H') : tTest t σ H Q := k
theorem w_tB {t : TE} {Q : Bool → Hp → Prop} (k : t σ H fun x H' => ∃ c, x = .bl c ∧ Q c H') : tB t σ H Q := k
theorem w_exb {b : Bool} {P : Bool → Prop} (k : P b) : ∃ c, V.bl b = .bl c ∧ P c := ⟨b, rfl, k⟩
theorem w_exi {b : Int} {P : Int → Prop} (k : P b) : ∃ c, V.int b = .int c ∧ P c := ⟨b, rfl, k⟩
theorem w_exs {b : Str} {P : Str → Prop} (k : P b) : ∃ c, V.str b = .str c ∧ P c := ⟨b, rfl, k⟩
theorem w_exli {b : Int} {P : Int → Prop} (k : P b) : ∃ c, [V.int b] = [.int c] ∧ P c := ⟨b, rfl, k⟩
theorem w_exls {b : Str} {P : Str → Prop} (k : P b) : ∃ c, [V.str b] = [.str c] ∧ P c := ⟨b, rfl, k⟩
theorem w_exlii {a b : Int} {P : Int → Int → Prop} (k : P a b) : ∃ i j, [V.int a, V.int b] = [.int i, .int j] ∧ P i j := ⟨a, b, rfl, k⟩
theorem w_exss {a b : Str} {P : Str → Str → Prop} (k : P a b) : ∃ i j, V.str a = .str i ∧ V.str b = .str j ∧ P i j := ⟨a, b, rfl, rfl, k⟩
theorem w_and {t u : TT} {Q : Bool → Hp → Prop} (k : t σ H fun c H1 => if c = true then u σ H1 Q else Q false H1) : tAnd t u σ H Q := k
theorem w_or {t u : TT} {Q : Bool → Hp → Prop} (k : t σ H fun c H1 => if c = true then Q true H1 else u σ H1 Q) : tOr t u σ H Q := k
theorem w_not {t : TT} {Q : Bool → Hp → Prop} (k : t σ H fun c H1 => Q (!c) H1) : tNot t σ H Q := k
theorem w_andV {ta tb : TE} (k : ta σ H fun x H1 => ∃ c, x = .bl c ∧ if c = true then tb σ H1 Q else Q (.bl false) H1) : tAndV ta tb σ H Q := k
theorem w_orV {ta tb : TE} (k : ta σ H fun x H1 => ∃ c, x = .bl c ∧ if c = true then Q (.bl true) H1 else tb σ H1 Q) : tOrV ta tb σ H Q := k
theorem w_notV {ta : TE} (k : ta σ H fun x H1 => ∃ c, x = .bl c ∧ Q (.bl (!c)) H1) : tNotV ta σ H Q := k
theorem w_if {t : TT} {ta tb : TE} (k : t σ H fun c H1 => if c = true then ta σ H1 Q else tb σ H1 Q) : tIf t ta tb σ H Q := k
theorem w_chain {r r' : R2} {ta tb tc : TE} (k : ta σ H fun x H1 => tb σ H1 fun y H2 => r x y H2 fun z H3 => ∃ c, z = .bl c ∧ (if c = true then tc σ H3 fun w' H4 => r' y w' H4 Q else Q (.bl false) H3)) : tChain r r' ta tb tc σ H Q := k
theorem w_next (k : D.nx σ H) : tNext D σ H := k
theorem w_seq {t u : TS} (k : t { D with nx := u D } σ H) : tSeq t u D σ H := k
theorem w_brk (k : D.bk σ H) : tBreak D σ H := k
theorem w_cont (k : D.ct σ H) : tCont D σ H := k
theorem w_drop {te : TE} (k : te σ H fun _ H1 => D.nx σ H1) : tDrop te D σ H := k
theorem w_ret {te : TE} (k : te σ H D.rt) : tRet te D σ H := k
theorem w_retN (k : D.rt .non H) : tRetN D σ H := k
theorem w_ifS {c : TT} {t u : TS} (k : c σ H fun b H1 => if b = true then t D σ H1 else u D σ H1) : tIfS c t u D σ H := k
theorem w_asg {te : TE} {g : TG} (k : te σ H fun x H1 => g x σ H1 D.nx) : tAsg te g D σ H := k
theorem w_gName {i : Nat} {v : V} (k : R (σ.set i (some v)) H) : gName i v σ H R := k
theorem w_gSub {to ti : TE} {t : TSet} {v : V} (k : to σ H fun o H1 => ti σ H1 fun i H2 => t o i v H2 fun H3 => R σ H3) : gSub to ti t v σ H R := k
theorem w_nil {Q : List V → Hp → Prop} (k : Q [] H) : tNil σ H Q := k
theorem w_cons {ta : TE} {tr : TA} {Q : List V → Hp → Prop} (k : ta σ H fun x H1 => tr σ H1 fun xs H2 => Q (x :: xs) H2) : tCons ta tr σ H Q := k
theorem w_tup {t : TA} (k : t σ H fun xs H1 => xs.length ≤ sizeLine ∧ ∀ p, H1 p = none → Q (.ref p) (upd H1 p (.tup xs))) : tTup t σ H Q := k
theorem w_lst {t : TA} (k : t σ H fun xs H1 => xs.length ≤ sizeLine ∧ ∀ p, H1 p = none → Q (.ref p) (upd H1 p (.lst xs))) : tLst t σ H Q := k
theorem w_call {sp : Sp} {dvs : List V} {E : XK} {t : TA} (k : t σ H fun vs H1 => sp (vs ++ dvs) H1 Q E) : tCall sp dvs E t σ H Q := k
theorem w_cb {r : List V → Hp → VK → Prop} {t : TA} (k : t σ H fun vs H1 => r vs H1 Q) : tCB r t σ H Q := k
theorem w_noPart {Q : Option Int → Hp → Prop} (k : Q none H) : tNoPart σ H Q := k
theorem w_part {t : TE} {Q : Option Int → Hp → Prop} (k : t σ H fun x H1 => ∃ i, x = .int i ∧ Q (some i) H1) : tPart t σ H Q := k
theorem w_sl {r : V → Option Int → Option Int → Hp → VK → Prop} {te : TE} {tl th : TO} (k : te σ H fun x H1 => tl σ H1 fun l H2 => th σ H2 fun u H3 => r x l u H3 Q) : tSl r te tl th σ H Q := k
theorem w_bm {T : String} {r : V → List V → Hp → VK → Prop} {to : TE} {t : TA} (k : to σ H fun x H1 => tyV K T x H1 ∧ t σ H1 fun xs H2 => r x xs H2 Q) : tBM K T r to t σ H Q := k
theorem w_bm0 {T : String} {r : V → List V → Hp → VK → Prop} {to : TE} (k : to σ H fun x H1 => tyV K T x H1 ∧ r x [] H1 Q) : tBM0 K T r to σ H Q := k
theorem w_dnewK (k : ∀ p, H p = none → Q (.ref p) (upd H p (.dK []))) : tDNewK σ H Q := k
theorem w_dget {td ty : TE} (k : td σ H fun x H1 => ty σ H1 fun y H2 => ∃ a v, x = .ref a ∧ DGet H2 a y (some v) ∧ Q v H2) : tDGet td ty σ H Q := k
theorem w_din {td ty : TE} (k : ty σ H fun y H1 => td σ H1 fun x H2 => ∃ a o, x = .ref a ∧ DGet H2 a y o ∧ Q (.bl o.isSome) H2) : tDIn ty td σ H Q := k
theorem w_dnotin {td ty : TE} (k : ty σ H fun y H1 => td σ H1 fun x H2 => ∃ a o, x = .ref a ∧ DGet H2 a y o ∧ Q (.bl (!o.isSome)) H2) : tDNotIn ty td σ H Q := k
theorem w_rLt {i j : Int} (k : Q (.bl (decide (i < j))) H) : rI0 (fun i j => .bl (decide (i < j))) (.int i) (.int j) H Q := ⟨i, j, rfl, rfl, k⟩
theorem w_tyL {a : Addr} {xs : List V} {P : Prop} (h : SqL K H a xs) (k : P) : tyV K "list" (.ref a) H ∧ P := ⟨.inl ⟨rfl, xs, h⟩, k⟩
theorem w_append {l : Addr} {xs : List V} {y : V} (h : H l = some (.lst xs)) (z : xs.length < sizeLine) (k : Q .non (upd H l (.lst (xs ++ [y])))) : rAppend (.ref l) [y] H Q := ⟨l, xs, y, rfl, rfl, h, z, k⟩
theorem w_ixL {p : Addr} {xs : List V} {i : Int} {v : V} (h : SqL K H p xs) (e : atI xs i = some v) (k : Q v H) : rIxL K (.ref p) (.int i) H Q := ⟨p, xs, i, v, rfl, rfl, h, e, k⟩
theorem w_ixT {p : Addr} {xs : List V} {i : Int} {v : V} (h : SqT K H p xs) (e : atI xs i = some v) (k : Q v H) : rIxT K (.ref p) (.int i) H Q := ⟨p, xs, i, v, rfl, rfl, h, e, k⟩
theorem w_ixS {z : Str} {i : Int} {c : Nat} (h : z.length ≤ sizeLine) (e : atI z.cps.toList i = some c) (k : Q (.str ⟨#[c]⟩) H) : rIxS (.str z) (.int i) H Q := ⟨z, i, c, rfl, rfl, h, e, k⟩
theorem w_lenL {p : Addr} {xs : List V} (h : SqL K H p xs) (k : Q (.int xs.length) H) : rLenSeq K [.ref p] H Q := ⟨p, xs, rfl, .inl h, k⟩
theorem w_lenT {p : Addr} {xs : List V} (h : SqT K H p xs) (k : Q (.int xs.length) H) : rLenSeq K [.ref p] H Q := ⟨p, xs, rfl, .inr h, k⟩
theorem w_ifT {A B : Prop} {b : Bool} (e : b = true) (k : A) : if b = true then A else B := by rw [if_pos e]; exact k
theorem w_ifF {A B : Prop} {b : Bool} (e : b = false) (k : B) : if b = true then A else B := by rw [if_neg (by rw [e]; decide)]; exact k
theorem w_if2 {A B : Prop} {b : Bool} (h1 : b = true → A) (h2 : b = false → B) : if b = true then A else B := by
  cases b with
  | true => exact w_ifT rfl (h1 rfl)
  | false => exact w_ifF rfl (h2 rfl)
theorem w_yes {Q : Bool → Hp → Prop} (k : Q true H) : tYes σ H Q := k
theorem w_insign {c : Nat} {z : Str} {P : Nat → Str → Prop} (k : P c z) : ∃ (c' : Nat) (z' : Str), V.str ⟨#[c]⟩ = .str ⟨#[c']⟩ ∧ V.str z = .str z' ∧ P c' z' := ⟨c, z, rfl, rfl, k⟩
theorem w_ifd {p : Prop} [Decidable p] {A B : Prop} (h1 : p → A) (h2 : ¬ p → B) : if decide p = true then A else B := by
  by_cases h : p
  · exact w_ifT (decide_eq_true h) (h1 h)
  · exact w_ifF (decide_eq_false h) (h2 h)
theorem w_ifnd {p : Prop} [Decidable p] {A B : Prop} (h1 : ¬ p → A) (h2 : p → B) : if (!decide p) = true then A else B := by
  by_cases h : p
  · exact w_ifF (by rw [decide_eq_true h]; rfl) (h2 h)
  · exact w_ifT (by rw [decide_eq_false h]; rfl) (h1 h)
theorem w_ifn {b : Bool} {A B : Prop} (h1 : b = false → A) (h2 : b = true → B) : if (!b) = true then A else B := by
  cases b with
  | true => exact w_ifF rfl (h2 rfl)
  | false => exact w_ifT rfl (h1 rfl)
theorem atI_nat' {α : Type} {xs : List α} {n : Nat} {v : α} (h : xs[n]? = some v) : atI xs (n : Int) = some v := atI_nat h
end
/-! ### isinstance over data -/
def tyOf : PyData → String
  | .none => "NoneType"
  | .bool _ => "bool"
  | .int _ => "int"
  | .str _ => "str"
  | .list _ => "list"
  | .tuple _ => "tuple"
  | .dict _ => "dict"
def isTy (T : String) (d : PyData) : Bool := tyOf d == T || (T == "int" && tyOf d == "bool")
section
variable {K : PySem.W.Frag} {H : Hp} {Q : VK}
theorem Is.ty {v : V} {d : PyData} (h : Is K H v d) : TyX K H v (.type (tyOf d)) := by
  cases h with
  | non => exact .base .non
  | bl b => exact .base (.bl b)
  | int i => exact .base (.int i)
  | str x => exact .base (.str x)
  | lst q _ =>
    rcases q with (q | ⟨o, q⟩) | ⟨o, its, n, hk, hc, _⟩
    · exact .base (.lst q)
    · exact .base (.frz q)
    · exact .kList hk hc
  | tup q _ =>
    rcases q with (q | ⟨o, q⟩) | ⟨o, its, n, hk, hc, _⟩
    · exact .base (.tup q)
    · exact .fTuple q
    · exact .kTuple hk hc
  | dct q _ => exact .base (.dK q)
theorem tyOf_cases (d : PyData) : tyOf d = "NoneType" ∨ tyOf d = "bool" ∨ tyOf d = "int" ∨ tyOf d = "str" ∨ tyOf d = "list" ∨ tyOf d = "tuple" ∨ tyOf d = "dict" := by
  cases d <;> simp [tyOf]
theorem kit_is (d : PyData) {T : String} (hT : T = "int" ∨ T = "bool" ∨ T = "str" ∨ T = "list" ∨ T = "tuple" ∨ T = "dict") : PySem.W.kitOne K (.type (tyOf d)) (.type T) = some (isTy T d) := by
  unfold isTy
  rcases tyOf_cases d with e | e | e | e | e | e | e <;> rw [e] <;> rcases hT with rfl | rfl | rfl | rfl | rfl | rfl <;> exact kit_ty (by decide +kernel)
theorem w_isi {v : V} {d : PyData} {T : String} (hT : T = "int" ∨ T = "bool" ∨ T = "str" ∨ T = "list" ∨ T = "tuple" ∨ T = "dict") (h : Is K H v d) (k : Q (.bl (isTy T d)) H) : rIsi K [v, .ty T] H Q :=
  ⟨v, .ty T, .type (tyOf d), .type T, isTy T d, rfl, .ty T, h.ty, kit_is d hT, k⟩
/-- isinstance(x, (list, tuple)) -/
theorem w_isiLT {v : V} {d : PyData} {tp : Addr} (h : Is K H v d) (ht : H tp = some (.tup [.ty "list", .ty "tuple"])) (k : Q (.bl (isTy "list" d || isTy "tuple" d)) H) : rIsiT K [v, .ref tp] H Q := by
  refine ⟨v, tp, _, .type (tyOf d), [.type "list", .type "tuple"], _, rfl, ht, .cons (.ty _) (.cons (.ty _) .nil), h.ty, ?_, k⟩
  have h1 := kit_is (K := K) d (T := "list") (by simp)
  have h2 := kit_is (K := K) d (T := "tuple") (by simp)
  cases e : isTy "list" d with
  | true => exact kitAny_cons (b := true) (h1.trans (by rw [e])) (fun z => nomatch z) (fun _ => rfl)
  | false =>
    refine kitAny_cons (b := false) (h1.trans (by rw [e])) (fun _ => ?_) (fun z => nomatch z)
    cases e2 : isTy "tuple" d with
    | true => exact kitAny_cons (b := true) (h2.trans (by rw [e2])) (fun z => nomatch z) (fun _ => rfl)
    | false => exact kitAny_cons (b := false) (h2.trans (by rw [e2])) (fun _ => rfl) (fun z => nomatch z)
end
/-! ### comprehensions, loops: the walk by itself -/
def LcW (J : It) (g : TG) (tt : TT) (te : TE) (vs : List Nat) (σ : St) (H1 : Hp) (Q : VK) : Prop := ∀ D, H1 D = none → ∃ W : Nat → Nat → Hp → Prop, (∃ m, W 0 m (upd H1 D (.lst []))) ∧ ∀ i m H, W i m H →
  (J.stop i H ∧ Q (.ref D) H) ∨ (J.go i H ∧ ∃ Nx : Hp → Prop, (∀ H', Nx H' → ∃ m', m' < m ∧ W (i + 1) m' H') ∧ ∀ x H', J.yld i H x H' → g x (wipe σ vs) H' fun σ2 H2 => wipe σ2 vs = wipe σ vs ∧ tt σ2 H2 fun b H3 =>
    if b = true then te σ2 H3 fun y H4 => ∃ acc, H4 D = some (.lst acc) ∧ acc.length < sizeLine ∧ Nx (upd H4 D (.lst (acc ++ [y]))) else Nx H3)
theorem w_lc {wi : TI} {g : TG} {tt : TT} {te : TE} {vs : List Nat} {σ : St} {H : Hp} {Q : VK} (k : wi σ H fun J H1 => LcW J g tt te vs σ H1 Q) : tLc wi g tt te vs σ H Q := k
def ForW (J : It) (g : TG) (tb : TS) (D : Ends) (σ : St) (H1 : Hp) : Prop := ∃ W : Nat → Nat → St → Hp → Prop, (∃ m, W 0 m σ H1) ∧ ∀ i m σ H, W i m σ H →
  (J.stop i H ∧ D.nx σ H) ∨ (J.go i H ∧ ∃ N : St → Hp → Prop, (∀ σ' H', N σ' H' → ∃ m', m' < m ∧ W (i + 1) m' σ' H') ∧ ∀ x H', J.yld i H x H' → g x σ H' fun σ2 H2 => tb { D with nx := N, ct := N, bk := D.nx } σ2 H2)
theorem w_for {wi : TI} {g : TG} {tb : TS} {D : Ends} {σ : St} {H : Hp} (k : wi σ H fun J H1 => ForW J g tb D σ H1) : tFor wi g tb D σ H := k
section
variable {K : PySem.W.Frag} {σ : St} {H : Hp} {R : It → Hp → Prop}
theorem w_iStr {te : TE} (k : te σ H fun v H1 => ∃ x, v = .str x ∧ R (Its x) H1) : iStr te σ H R := k
theorem w_iList {te : TE} (k : te σ H fun x H1 => ∃ a, x = .ref a ∧ (∃ xs, SqL K H1 a xs) ∧ R (Itl K a) H1) : iList K te σ H R := k
theorem w_iTup {te : TE} (k : te σ H fun x H1 => ∃ a, x = .ref a ∧ (∃ xs, SqT K H1 a xs) ∧ R (Itt K a) H1) : iTup K te σ H R := k
theorem w_iRng1 {ta : TA} (k : ta σ H fun vs H1 => ∃ j : Int, vs = [.int j] ∧ -(2 ^ 62) ≤ j ∧ j < 2 ^ 62 ∧ R (Itr 0 j.toNat) H1) : iRng1 ta σ H R := k
theorem w_exl {a : Addr} {xs : List V} {P : Addr → Prop} (h : SqL K H a xs) (k : P a) : ∃ b, V.ref a = .ref b ∧ (∃ ys, SqL K H b ys) ∧ P b := ⟨a, rfl, ⟨xs, h⟩, k⟩
theorem w_ext {a : Addr} {xs : List V} {P : Addr → Prop} (h : SqT K H a xs) (k : P a) : ∃ b, V.ref a = .ref b ∧ (∃ ys, SqT K H b ys) ∧ P b := ⟨a, rfl, ⟨xs, h⟩, k⟩
theorem w_rng1 {j : Int} {P : Int → Prop} (h : 0 ≤ j ∧ j ≤ 1000000) (k : P j) : ∃ i : Int, [V.int j] = [.int i] ∧ -(2 ^ 62) ≤ i ∧ i < 2 ^ 62 ∧ P i := ⟨j, rfl, by omega, by omega, k⟩
end
theorem range_filterMap {α β : Type} (f : α → Option β) : ∀ (ds : List α), (List.range ds.length).filterMap (fun i => ds[i]?.bind f) = ds.filterMap f := by
  intro ds
  induction ds with
  | nil => rfl
  | cons d ds ih =>
    rw [List.length_cons, List.range_succ_eq_map, List.filterMap_cons, List.filterMap_cons, List.filterMap_map]
    have e : (List.range ds.length).filterMap ((fun i => (d :: ds)[i]?.bind f) ∘ Nat.succ) = ds.filterMap f := by
      rw [← ih]; rfl
    rw [e]
    rfl
theorem range_map {α β : Type} (f : α → β) (ds : List α) : (List.range ds.length).filterMap (fun i => ds[i]?.map f) = ds.map f := by
  have h := range_filterMap (fun a => some (f a)) ds
  rw [List.filterMap_eq_map'] at h
  rw [← h]
  congr 1
  funext i
  cases ds[i]? <;> rfl
section
variable {K : PySem.W.Frag} {J : It} {n : Nat} {G : Hp → Prop} {Y : Nat → Hp → V → Hp → Prop} {g : TG} {tt : TT} {te : TE} {vs : List Nat} {σ : St} {F H : Hp} {Q : VK}
/-- a comprehension that changes nothing that stood: el i is the i-th turn's datum, none where the test leaves it out -/
theorem comp_pure (w : Walk J n G Y) (s : Same F H) (hG : ∀ H', Same H H' → G H') (hz : n < sizeLine) (el : Nat → Option PyData)
    (hs : ∀ i x F1 H1 H1', i < n → Ext F H F1 H1 → Y i H1 x H1' → ∀ (N : V → Hp → Prop) (N0 : Hp → Prop),
      (∀ y d F4 H4, el i = some d → Ext F1 H1 F4 H4 → Is K F4 y d → N y H4) → (∀ F3 H3, el i = none → Ext F1 H1 F3 H3 → N0 H3) →
      g x (wipe σ vs) H1' fun σ2 H2 => wipe σ2 vs = wipe σ vs ∧ tt σ2 H2 fun b H3 => if b = true then te σ2 H3 N else N0 H3)
    (k : ∀ D ys F' H', H D = none → Ext F H F' H' → F' D = none → H' D = some (.lst ys) → IsAll K F' ys ((List.range n).filterMap el) → Q (.ref D) H') : LcW J g tt te vs σ H Q := by
  intro D hD
  have sh : ∀ {H' : Hp} {o : HO}, Same H H' → Same H (upd H' D o) := fun q => q.mut hD
  refine lc_it w (Pv := fun i H' => ∃ F1 ys, Ext F H F1 H' ∧ F1 D = none ∧ H' D = some (.lst ys) ∧ ys.length ≤ i ∧ IsAll K F1 ys ((List.range i).filterMap el)) ?_ ?_ ?_ ?_
  · exact ⟨F, [], ⟨Same.refl F, s.mut (s.free hD), sh (Same.refl H), fun _ _ h => h⟩, s.free hD, upd_same, Nat.le_refl _, .nil⟩
  · rintro i H' hi ⟨F1, ys, e, _⟩
    exact hG H' e.hh
  · rintro i x H1 H1' hi ⟨F1, ys, e, h1, h2, hl, h3⟩ y
    refine hs i x F1 H1 H1' hi e y _ _ (fun y d F4 H4 he e4 hI => ?_) fun F3 H3 he e3 => ?_
    · have hD1 : H1 D ≠ none := by rw [h2]; exact fun z => nomatch z
      have h4 : F4 D = none := e4.nw D hD1 h1
      refine ⟨ys, e4.hh _ _ h2, by omega, F4, ys ++ [y], ⟨e.ff.trans e4.ff, e4.fh.mut h4, sh (e.hh.trans e4.hh), fun b hb hf => e4.nw b (fun z => hb (e.hh.free z)) (e.nw b hb hf)⟩, h4, upd_same, by rw [List.length_append]; exact Nat.succ_le_succ hl, ?_⟩
      rw [List.range_succ, List.filterMap_append]
      refine (h3.mono e4.ff).append ?_
      rw [List.filterMap_cons, he]
      exact .one hI
    · have hD1 : H1 D ≠ none := by rw [h2]; exact fun z => nomatch z
      refine ⟨F3, ys, e.trans e3, e3.nw D hD1 h1, e3.hh _ _ h2, by omega, ?_⟩
      rw [List.range_succ, List.filterMap_append, List.filterMap_cons, he]
      show IsAll K F3 ys (_ ++ [])
      rw [List.append_nil]
      exact h3.mono e3.ff
  · rintro H' ⟨F1, ys, e, h1, h2, hl, h3⟩
    exact k D ys F1 H' hD e h1 h2 h3
end
section
variable {K : PySem.W.Frag} {H : Hp}
theorem IsAll.bools : ∀ {xs : List Bool} {vs : List V}, IsAll K H vs (xs.map PyData.bool) → vs = xs.map V.bl
  | [], _, .nil => rfl
  | _ :: _, _, .cons (.bl _) t => by rw [IsAll.bools t]; rfl
theorem IsAll.ints : ∀ {xs : List Int} {vs : List V}, IsAll K H vs (xs.map PyData.int) → vs = xs.map V.int
  | [], _, .nil => rfl
  | _ :: _, _, .cons (.int _) t => by rw [IsAll.ints t]; rfl
/-- all(a new list of truths) -/
theorem w_all {a : Addr} {bs : List Bool} {xs : List V} {Q : VK} (h : H a = some (.lst xs)) (e : xs = bs.map V.bl) (k : Q (.bl (bs.all id)) H) : rAll K [.ref a] H Q := ⟨a, bs, rfl, .of (by rw [h, e]), k⟩
end
/-- all([sign in Z for sign in x]) -/
def tAllS (te : TE) (Z : Str) : TE := fun σ H Q => te σ H fun v H1 => ∃ x, v = .str x ∧ x.length < sizeLine ∧ ∀ H', Same H1 H' → Q (.bl (x.cps.toList.all fun c => decide (c ∈ Z.cps.toList))) H'
theorem w_allS {te : TE} {Z : Str} {σ : St} {H : Hp} {Q : VK} (k : te σ H fun v H1 => ∃ x, v = .str x ∧ x.length < sizeLine ∧ ∀ H', Same H1 H' → Q (.bl (x.cps.toList.all fun c => decide (c ∈ Z.cps.toList))) H') : tAllS te Z σ H Q := k
theorem _root_.L2.PE.imp {X : Cx} {e : Expr} {t t' : TE} (p : PE X e t) (h : ∀ σ H Q, σ.length = X.N.length → t' σ H Q → t σ H Q) : PE X e t' := ⟨fun pins s σ H Q I q => p.run pins s σ H Q I (h σ H Q I.len q)⟩
theorem allS_imp {K : PySem.W.Frag} {i : Nat} {te : TE} {Z : Str} {σ : St} {H : Hp} {Q : VK} (hm : ∀ σ H Q Q', (∀ v H', Q v H' → Q' v H') → te σ H Q → te σ H Q') (hi : i < σ.length) (k : tAllS te Z σ H Q) :
    tCB (rAll K) (tCons (tLc (iStr te) (gName i) tYes (tOp (fun x y H Q => ∃ (c : Nat) (z : Str), x = .str ⟨#[c]⟩ ∧ y = .str z ∧ Q (.bl (decide (c ∈ z.cps.toList))) H) (tVar i) (tC (.str Z))) [i]) tNil) σ H Q := by
  refine w_cb (w_cons (w_lc (w_iStr (hm _ _ _ _ ?_ k))))
  rintro v H1 ⟨x, rfl, hz, k⟩
  refine w_exs ?_
  refine comp_pure (K := K) (F := H1) walk_str (Same.refl H1) (fun _ _ => trivial) hz (fun i => x.cps.toList[i]?.map fun c => .bool (decide (c ∈ Z.cps.toList))) ?_ ?_
  · rintro n y F1 H1 H1' hn e1 ⟨rfl, c, hc, rfl⟩ N N0 k1 k0
    refine w_gName ⟨?_, w_yes (w_ifT rfl (w_op (w_var (v := .str ⟨#[c]⟩) ?_ (w_c (w_insign ?_)))))⟩
    · show (((σ.set i none).set i (some (V.str ⟨#[c]⟩))).set i none) = σ.set i none
      rw [List.set_set, List.set_set]
    · show (((σ.set i none).set i (some (V.str ⟨#[c]⟩))))[i]? = _
      rw [List.getElem?_set_self (by rw [List.length_set]; exact hi)]
    exact k1 _ (.bool (decide (c ∈ Z.cps.toList))) F1 _ (by rw [Array.getElem?_toList, hc]; rfl) (Ext.refl e1.fh) (.bl _)
  · intro D ys F' H' hD eE hF hL hI
    refine w_nil ?_
    have hI' : IsAll K F' ys ((x.cps.toList.map fun c => decide (c ∈ Z.cps.toList)).map PyData.bool) := by
      rw [List.map_map]
      have := range_map (fun c => PyData.bool (decide (c ∈ Z.cps.toList))) x.cps.toList
      rw [Array.length_toList] at this
      rw [this] at hI; exact hI
    refine w_all hL hI'.bools ?_
    have := k H' eE.hh
    rw [List.all_map]
    exact this
theorem mono_var {i : Nat} : ∀ (σ : St) (H : Hp) (Q Q' : VK), (∀ v H', Q v H' → Q' v H') → tVar i σ H Q → tVar i σ H Q' := fun _ _ _ _ f ⟨v, h, q⟩ => ⟨v, h, f _ _ q⟩
theorem pe_allS {X : Cx} {K : PySem.W.Frag} {e : Expr} {i j : Nat} {Z : Str} (hi : i < X.N.length) (p : PE X e (tCB (rAll K) (tCons (tLc (iStr (tVar j)) (gName i) tYes (tOp (fun x y H Q => ∃ (c : Nat) (z : Str), x = .str ⟨#[c]⟩ ∧ y = .str z ∧ Q (.bl (decide (c ∈ z.cps.toList))) H) (tVar i) (tC (.str Z))) [i]) tNil))) :
    PE X e (tAllS (tVar j) Z) := p.imp fun σ H Q hl k => allS_imp mono_var (by rw [hl]; exact hi) k
def optI : Option Int → V
  | none => .non
  | some n => .int n
/-! ### texts within data are no longer than a line -/
mutual
def small : PyData → Prop
  | .str s => s.length ≤ sizeLine
  | .list ds => smallAll ds
  | .tuple ds => smallAll ds
  | .dict es => smallKv es
  | _ => True
def smallAll : List PyData → Prop
  | [] => True
  | d :: ds => small d ∧ smallAll ds
def smallKv : List (PyData × PyData) → Prop
  | [] => True
  | (k, d) :: es => small k ∧ small d ∧ smallKv es
end
theorem small.name {d : PyData} (h : small d) : ∀ s, d = .str s → s.length ≤ sizeLine := fun s e => by subst e; simpa [small] using h
theorem smallAll.get : ∀ {ds : List PyData} {i : Nat} {d : PyData}, smallAll ds → ds[i]? = some d → small d
  | [], _, _, _, h => by simp at h
  | _ :: _, 0, _, h, e => by simp at e; subst e; exact (by simpa [smallAll] using h : _ ∧ _).1
  | _ :: _, i + 1, _, h, e => smallAll.get (i := i) (by simpa [smallAll] using h : _ ∧ _).2 (by simpa using e)
theorem smallAll.of : ∀ {ds : List PyData}, (∀ d ∈ ds, small d) → smallAll ds
  | [], _ => by simp [smallAll]
  | d :: ds, h => by
    show small d ∧ smallAll ds
    exact ⟨h d List.mem_cons_self, smallAll.of fun e he => h e (List.mem_cons_of_mem _ he)⟩
/-! ### in a list of texts -/
theorem inV_strs (n : Str) : ∀ ns : List Str, inV (.str n) (ns.map V.str) = decide (n ∈ ns)
  | [] => by simp [inV]
  | m :: ns => by
    have ih := inV_strs n ns
    unfold inV at ih ⊢
    rw [List.map_cons, List.any_cons, ih]
    by_cases h : m = n
    · subst h
      have e : eqV (.str m) (.str m) = true := by unfold eqV; simp
      rw [e]; simp
    · have e : eqV (.str m) (.str n) = false := by unfold eqV; simp [h]
      rw [e, Bool.false_or]
      have : (n ∈ m :: ns) ↔ n ∈ ns := by simp [List.mem_cons, Ne.symm h]
      exact (decide_eq_decide.mpr this).symm
theorem flat_strs (ns : List Str) : (ns.map V.str).all flatV = true := by
  rw [List.all_eq_true]
  intro v hv
  obtain ⟨s, _, rfl⟩ := List.mem_map.mp hv
  rfl
section
variable {K : PySem.W.Frag} {H : Hp} {Q : VK}
theorem w_inStrs {p : Addr} {ns : List Str} {n : Str} (h : SqL K H p (ns.map V.str)) (k : Q (.bl (decide (n ∈ ns))) H) : rIn K false (.str n) (.ref p) H Q :=
  ⟨p, _, rfl, .inl h, rfl, flat_strs ns, by rw [inV_strs]; exact k⟩
theorem w_inStrsT {p : Addr} {ns : List Str} {n : Str} (h : SqT K H p (ns.map V.str)) (k : Q (.bl (decide (n ∈ ns))) H) : rIn K false (.str n) (.ref p) H Q :=
  ⟨p, _, rfl, .inr h, rfl, flat_strs ns, by rw [inV_strs]; exact k⟩
theorem w_notInStrs {p : Addr} {ns : List Str} {n : Str} (h : SqL K H p (ns.map V.str)) (k : Q (.bl (!decide (n ∈ ns))) H) : rIn K true (.str n) (.ref p) H Q :=
  ⟨p, _, rfl, .inl h, rfl, flat_strs ns, by rw [inV_strs]; exact k⟩
theorem w_notInStrsT {p : Addr} {ns : List Str} {n : Str} (h : SqT K H p (ns.map V.str)) (k : Q (.bl (!decide (n ∈ ns))) H) : rIn K true (.str n) (.ref p) H Q :=
  ⟨p, _, rfl, .inr h, rfl, flat_strs ns, by rw [inV_strs]; exact k⟩
/-- names: a list or a tuple of texts -/
def SeqS (K : PySem.W.Frag) (H : Hp) (p : Addr) (ns : List Str) : Prop := SqL K H p (ns.map V.str) ∨ SqT K H p (ns.map V.str)
theorem SeqS.mono {H' : Hp} {p : Addr} {ns : List Str} (s : Same H H') (h : SeqS K H p ns) : SeqS K H' p ns := h.imp (fun h => s.seq h) (fun h => s.tup h)
theorem w_inSeq {p : Addr} {ns : List Str} {n : Str} (h : SeqS K H p ns) (k : Q (.bl (decide (n ∈ ns))) H) : rIn K false (.str n) (.ref p) H Q := h.elim (fun h => w_inStrs h k) (fun h => w_inStrsT h k)
theorem w_notInSeq {p : Addr} {ns : List Str} {n : Str} (h : SeqS K H p ns) (k : Q (.bl (!decide (n ∈ ns))) H) : rIn K true (.str n) (.ref p) H Q := h.elim (fun h => w_notInStrs h k) (fun h => w_notInStrsT h k)
theorem w_lenSeq {p : Addr} {ns : List Str} (h : SeqS K H p ns) (k : Q (.int ns.length) H) : rLenSeq K [.ref p] H Q := ⟨p, _, rfl, h, by rw [List.length_map]; exact k⟩
theorem Is.seqS {v : V} {ns : List Str} (h : Is K H v (.list (ns.map .str)) ∨ Is K H v (.tuple (ns.map .str))) : ∃ p, v = .ref p ∧ SeqS K H p ns := by
  rcases h with h | h
  · obtain ⟨a, xs, rfl, h1, h2⟩ := h.list_inv
    rw [h2.strs] at h1; exact ⟨a, rfl, .inl h1⟩
  · obtain ⟨a, xs, rfl, h1, h2⟩ := h.tuple_inv
    rw [h2.strs] at h1; exact ⟨a, rfl, .inr h1⟩
end
section
variable {K : PySem.W.Frag} {σ : St} {H : Hp} {Q : VK} {D : Ends}
theorem _root_.L2.SqL.at' {K : PySem.W.Frag} {H H' : Hp} {a : Addr} {xs : List V} (h : SqL K H a xs) (e : ∀ o, H a = some o → H' a = some o) : SqL K H' a xs := by
  rcases h with (h | ⟨o, h⟩) | h
  · exact .inl (.inl (e _ h))
  · exact .inl (.inr ⟨o, e _ h⟩)
  · exact .inr h
theorem _root_.L2.SqT.at' {K : PySem.W.Frag} {H H' : Hp} {a : Addr} {xs : List V} (h : SqT K H a xs) (e : ∀ o, H a = some o → H' a = some o) : SqT K H' a xs := by
  rcases h with (h | ⟨o, h⟩) | h
  · exact .inl (.inl (e _ h))
  · exact .inl (.inr ⟨o, e _ h⟩)
  · exact .inr h
/-- names walked, a list or a tuple: what stands at p stays -/
theorem w_iSeqV {i : Nat} {p : Addr} {ns : List Str} {R : It → Hp → Prop} {F : Hp} (h : σ[i]? = some (some (.ref p))) (s : Same F H) (hp : SeqS K F p ns)
    (k : ∀ J, Walk J ns.length (fun H' => ∀ o, F p = some o → H' p = some o) (YAt (ns.map V.str)) → R J H) : iSeq K (tVar i) σ H R := by
  rcases hp with hp | hp
  · refine .inl (w_iList (w_var h (w_exl (s.seq hp) (k _ ?_))))
    have w := walk_list (K := K) (a := p) (xs := ns.map V.str)
    rw [List.length_map] at w
    exact w.mono (fun H' e => hp.at' e) fun _ _ _ _ _ _ y => y
  · refine .inr (w_iTup (w_var h (w_ext (s.tup hp) (k _ ?_))))
    have w := walk_tup (K := K) (a := p) (xs := ns.map V.str)
    rw [List.length_map] at w
    exact w.mono (fun H' e => hp.at' e) fun _ _ _ _ _ _ y => y
theorem yat_str {ns : List Str} {i : Nat} {H H' : Hp} {x : V} (y : YAt (ns.map V.str) i H x H') : H' = H ∧ ∃ n, ns[i]? = some n ∧ x = .str n := by
  obtain ⟨e, y⟩ := y
  rw [List.getElem?_map] at y
  cases hn : ns[i]? with
  | none => rw [hn] at y; cases y
  | some n => rw [hn] at y; exact ⟨e, n, rfl, (Option.some.inj y).symm⟩
theorem w_dput {td ty tv : TE} (k : tv σ H fun v H1 => td σ H1 fun x H2 => ty σ H2 fun y H3 => ∃ a H4, x = .ref a ∧ DPut H3 a y v H4 ∧ D.nx σ H4) : sDPut td ty tv D σ H := k
theorem w_dputS {a : Addr} {kvs : List (Key × V)} {n : Str} {v : V} {P : Hp → Prop} (h : H a = some (.dK kvs)) (hl : kvs.length < sizeLine) (k : P (upd H a (.dK (putK kvs (Sum.inr n) v)))) :
    ∃ a' H4, V.ref a = .ref a' ∧ DPut H a' (.str n) v H4 ∧ P H4 := ⟨a, _, rfl, DPut.k (k := Sum.inr n) h hl, k⟩
theorem w_dinS {a : Addr} {kvs : List (Key × V)} {n : Str} {P : Option V → Prop} (h : Rd H a (.dK kvs)) (k : P (valV kvs (Sum.inr n))) :
    ∃ a' o, V.ref a = .ref a' ∧ DGet H a' (.str n) o ∧ P o := ⟨a, _, rfl, .inl ⟨kvs, Sum.inr n, h, rfl, rfl⟩, k⟩
theorem w_dgetS {a : Addr} {kvs : List (Key × V)} {n : Str} {v : V} {P : V → Prop} (h : Rd H a (.dK kvs)) (e : valV kvs (Sum.inr n) = some v) (k : P v) :
    ∃ a' v', V.ref a = .ref a' ∧ DGet H a' (.str n) (some v') ∧ P v' := ⟨a, v, rfl, .inl ⟨kvs, Sum.inr n, h, rfl, e.symm⟩, k⟩
theorem nodup_get {α : Type} {ns : List α} (h : ns.Nodup) {i : Nat} {n : α} (e : ns[i]? = some n) : n ∉ ns.take i := by
  intro hm
  obtain ⟨j, hj, e2⟩ := List.mem_iff_getElem.mp hm
  rw [List.length_take] at hj
  rw [List.getElem_take] at e2
  have hi := (List.getElem?_eq_some_iff.mp e)
  obtain ⟨hi, e3⟩ := hi
  have := (List.getElem_inj h (h₀ := by omega) (h₁ := hi)).mp (e2.trans e3.symm)
  omega
theorem take_snoc {α : Type} {ns : List α} {i : Nat} {n : α} (e : ns[i]? = some n) : ns.take (i + 1) = ns.take i ++ [n] := by
  rw [List.take_add_one, e]; rfl
end
section
variable {K : PySem.W.Frag} {σ : St} {H F : Hp} {Q : VK} {D : Ends} {R : St → Hp → Prop}
theorem w_gTup2 {a : Addr} {x y : V} {i j n : Nat} (h : SqT K H a [x, y]) (k : R ((σ.set i (some x)).set j (some y)) H) (hn : n = 2 := by rfl) : gTup K n (gCons (gName i) (gCons (gName j) gNil)) (.ref a) σ H R :=
  ⟨a, _, rfl, h, hn.symm, x, _, rfl, y, _, rfl, rfl, k⟩
theorem w_gTup3 {a : Addr} {x y z : V} {i j l n : Nat} (h : SqT K H a [x, y, z]) (k : R (((σ.set i (some x)).set j (some y)).set l (some z)) H) (hn : n = 3 := by rfl) : gTup K n (gCons (gName i) (gCons (gName j) (gCons (gName l) gNil))) (.ref a) σ H R :=
  ⟨a, _, rfl, h, hn.symm, x, _, rfl, y, _, rfl, z, _, rfl, rfl, k⟩
/-- what a def hands back: a new list | some value, its parts in F' -/
def RetList (K : PySem.W.Frag) (F H : Hp) (ds : List PyData) (Q : VK) : Prop := ∀ p ys F' H', H p = none → Ext F H F' H' → F' p = none → H' p = some (.lst ys) → IsAll K F' ys ds → Q (.ref p) H'
def RetVal (K : PySem.W.Frag) (F H : Hp) (d : PyData) (Q : VK) : Prop := ∀ v F' H', Ext F H F' H' → Is K F' v d → Q v H'
/-- the pairs of texts and ints -/
def encE (p : Str × Int) : PyData := .tuple [.str p.1, .int p.2]
def encR (r : List (Str × Int)) : PyData := .list (r.map encE)
theorem Is.encE_inv {v : V} {p : Str × Int} (h : Is K H v (encE p)) : ∃ a, v = .ref a ∧ SqT K H a [.str p.1, .int p.2] := by
  obtain ⟨a, xs, rfl, h1, h2⟩ := h.tuple_inv
  cases h2 with
  | cons h0 t =>
    cases t with
    | cons h3 t2 =>
      cases t2
      rw [h0.str_inv, h3.int_inv] at h1
      exact ⟨a, rfl, h1⟩
theorem Is.mkE {a : Addr} {n : Str} {i : Int} (h : SqT K H a [.str n, .int i]) : Is K H (.ref a) (encE (n, i)) := .tup h (.cons (.str n) (.cons (.int i) .nil))
theorem IsAll.getE {vs : List V} {r : List (Str × Int)} {i : Nat} {v : V} (h : IsAll K H vs (r.map encE)) (e : vs[i]? = some v) : ∃ p a, r[i]? = some p ∧ v = .ref a ∧ SqT K H a [.str p.1, .int p.2] := by
  obtain ⟨d, h1, h2⟩ := h.get e
  rw [List.getElem?_map] at h1
  cases hp : r[i]? with
  | none => rw [hp] at h1; cases h1
  | some p =>
    rw [hp] at h1
    cases h1
    obtain ⟨a, rfl, ha⟩ := h2.encE_inv
    exact ⟨p, a, rfl, rfl, ha⟩
end
/-! ### one dict locked: all else stays -/
def But (a : Addr) (H H' : Hp) : Prop := ∀ b o, H b = some o → b ≠ a → H' b = some o
section
variable {K : PySem.W.Frag} {H H' : Hp} {a : Addr} {kvs : List (Key × V)}
theorem But.seq {b : Addr} {xs : List V} (s : But a H H') (ha : H a = some (.dK kvs)) (h : SqL K H b xs) : SqL K H' b xs := by
  rcases h with (h | ⟨o, h⟩) | h
  · exact .inl (.inl (s _ _ h fun z => by rw [z, ha] at h; cases h))
  · exact .inl (.inr ⟨o, s _ _ h fun z => by rw [z, ha] at h; cases h⟩)
  · exact .inr h
theorem But.tup {b : Addr} {xs : List V} (s : But a H H') (ha : H a = some (.dK kvs)) (h : SqT K H b xs) : SqT K H' b xs := by
  rcases h with (h | ⟨o, h⟩) | h
  · exact .inl (.inl (s _ _ h fun z => by rw [z, ha] at h; cases h))
  · exact .inl (.inr ⟨o, s _ _ h fun z => by rw [z, ha] at h; cases h⟩)
  · exact .inr h
mutual
theorem Is.but (s : But a H H') (ha : H a = some (.dK kvs)) : ∀ {v : V} {d : PyData}, Is K H v d → noDict d = true → Is K H' v d
  | _, _, .non, _ => .non
  | _, _, .bl b, _ => .bl b
  | _, _, .int i, _ => .int i
  | _, _, .str x, _ => .str x
  | _, _, .lst h q, e => .lst (s.seq ha h) (IsAll.but s ha q (by simpa [noDict] using e))
  | _, _, .tup h q, e => .tup (s.tup ha h) (IsAll.but s ha q (by simpa [noDict] using e))
  | _, _, .dct _ _, e => by simp [noDict] at e
theorem IsAll.but (s : But a H H') (ha : H a = some (.dK kvs)) : ∀ {vs : List V} {ds : List PyData}, IsAll K H vs ds → noDict.noDictAll ds = true → IsAll K H' vs ds
  | _, _, .nil, _ => .nil
  | _, _, .cons h t, e => by
    simp only [noDict.noDictAll, Bool.and_eq_true] at e
    exact .cons (Is.but s ha h e.1) (IsAll.but s ha t e.2)
end
theorem SeqS.but {p : Addr} {ns : List Str} (s : But a H H') (ha : H a = some (.dK kvs)) (h : SeqS K H p ns) : SeqS K H' p ns := h.imp (fun h => s.seq ha h) (fun h => s.tup ha h)
theorem But.trans {H2 : Hp} (s : But a H H') (t : Same H' H2) : But a H H2 := fun b o e n => t b o (s b o e n)
theorem But.lock {o : Obj} : But a H (upd H a (.frz o (.dK kvs))) := fun b o e n => by rw [upd_ne n]; exact e
theorem But.unlock (s : But a H H') (ha : H a = some (.dK kvs)) : Same H (upd H' a (.dK kvs)) := fun b o e => by
  by_cases q : b = a
  · subst q; rw [upd_same, ← ha]; exact e
  · rw [upd_ne q]; exact s b o e q
theorem noDict_all {ds : List PyData} (h : ∀ d ∈ ds, noDict d = true) : noDict.noDictAll ds = true := by
  induction ds with
  | nil => rfl
  | cons d ds ih =>
    simp only [noDict.noDictAll, Bool.and_eq_true]
    exact ⟨h d List.mem_cons_self, ih fun e he => h e (List.mem_cons_of_mem _ he)⟩
theorem noDict_encR (r : List (Str × Int)) : noDict (encR r) = true := by
  show noDict.noDictAll (r.map encE) = true
  refine noDict_all fun d hd => ?_
  obtain ⟨p, _, rfl⟩ := List.mem_map.mp hd
  rfl
theorem noDict_strs (ns : List Str) : noDict.noDictAll (ns.map PyData.str) = true := noDict_all fun d hd => by
  obtain ⟨p, _, rfl⟩ := List.mem_map.mp hd
  rfl
theorem NamesAt'.but {v : V} {ns : List Str} (s : But a H H') (ha : H a = some (.dK kvs)) (h : Is K H v (.list (ns.map .str)) ∨ Is K H v (.tuple (ns.map .str))) : Is K H' v (.list (ns.map .str)) ∨ Is K H' v (.tuple (ns.map .str)) :=
  h.imp (fun h => h.but s ha (noDict_strs ns)) (fun h => h.but s ha (noDict_strs ns))
theorem w_lock {t : TS} {D : Ends} {σ : St} {d : Addr} {u : HO} (h : H d = some u) (m : Mut (some u))
    (k : ∀ od, t ⟨fun σ' H' => H' d = some (.frz od u) ∧ D.nx σ' (upd H' d u), fun v H' => H' d = some (.frz od u) ∧ D.rt v (upd H' d u), fun σ' H' => H' d = some (.frz od u) ∧ D.bk σ' (upd H' d u), fun σ' H' => H' d = some (.frz od u) ∧ D.ct σ' (upd H' d u)⟩ σ (upd H d (.frz od u))) : tLock t D σ H := ⟨d, u, h, m, k⟩
theorem w_iItems {te : TE} {σ : St} {R : It → Hp → Prop} (k : te σ H fun x H1 => ∃ d o kvs, x = .ref d ∧ H1 d = some (.frz o (.dK kvs)) ∧ R (Iti d o kvs) H1) : iItems te σ H R := k
theorem w_iVals {te : TE} {σ : St} {R : It → Hp → Prop} (k : te σ H fun x H1 => ∃ d o kvs, x = .ref d ∧ H1 d = some (.frz o (.dK kvs)) ∧ R (Itd d o kvs) H1) : iVals te σ H R := k
theorem w_exfz {d : Addr} {o : Obj} {P : Addr → Obj → List (Key × V) → Prop} (h : H d = some (.frz o (.dK kvs))) (k : P d o kvs) : ∃ d' o' kvs', V.ref d = .ref d' ∧ H d' = some (.frz o' (.dK kvs')) ∧ P d' o' kvs' := ⟨d, o, kvs, rfl, h, k⟩
end
theorem yitems {kvs : List (Key × V)} {i : Nat} {H H' : Hp} {v : V} (y : YPair (fun i => kvs[i]?.map fun kv => kV kv.1) (fun i => kvs[i]?.map Prod.snd) i H v H') :
    ∃ T k w, kvs[i]? = some (k, w) ∧ v = .ref T ∧ H T = none ∧ H' = upd H T (.tup [kV k, w]) := by
  obtain ⟨T, x, z, e1, e2, e3, e4, e5⟩ := y
  cases h : kvs[i]? with
  | none => have e4' : Option.map (fun kv : Key × V => kV kv.1) kvs[i]? = some x := e4
            rw [h] at e4'; cases e4'
  | some kv =>
    have e4' : Option.map (fun kv : Key × V => kV kv.1) kvs[i]? = some x := e4
    have e5' : Option.map Prod.snd kvs[i]? = some z := e5
    rw [h] at e4' e5'
    cases e4'; cases e5'
    exact ⟨T, kv.1, kv.2, rfl, e1, e2, e3⟩
/-! ### a row as a dict -/
def look {α : Type} (r : List (Str × α)) (n : Str) : Option α := (r.find? fun p => decide (p.1 = n)).map (·.2)
def kvR (r : List (Str × Int)) : List (Key × V) := r.map fun p => (Sum.inr p.1, V.int p.2)
theorem mergeK_app : ∀ (more kvs : List (Key × V)), ((kvs ++ more).map (·.1)).Nodup → mergeK kvs more = kvs ++ more
  | [], kvs, _ => by show kvs = kvs ++ []; rw [List.append_nil]
  | p :: more, kvs, h => by
    have e : valV kvs p.1 = none := by
      cases hv : valV kvs p.1 with
      | none => rfl
      | some v =>
        exfalso
        obtain ⟨q, hq, e⟩ := Option.map_eq_some_iff.mp hv
        have h1 := List.find?_some hq
        have h2 := List.mem_of_find?_eq_some hq
        have h3 : q.1 = p.1 := of_decide_eq_true h1
        rw [List.map_append, List.nodup_append] at h
        exact h.2.2 q.1 (List.mem_map_of_mem h2) p.1 (by rw [List.map_cons]; exact List.mem_cons_self) h3
    have h' : ((kvs ++ [p] ++ more).map (·.1)).Nodup := by rw [List.append_assoc]; exact h
    show mergeK (putK kvs p.1 p.2) more = _
    rw [putK_new _ e, mergeK_app more _ h', List.append_assoc]; rfl
theorem kvR_nd {r : List (Str × Int)} (h : (r.map (·.1)).Nodup) : mergeK [] (kvR r) = kvR r := by
  refine mergeK_app _ _ ?_
  rw [List.nil_append]
  unfold kvR
  rw [List.map_map]
  have : (r.map ((fun x : Key × V => x.1) ∘ fun p : Str × Int => ((Sum.inr p.1 : Key), V.int p.2))) = (r.map (·.1)).map Sum.inr := by rw [List.map_map]; rfl
  rw [this]
  exact h.map (f := Sum.inr) (fun a b hab e => hab (Sum.inr.inj e))
theorem valV_inr {α : Type} (f : α → V) (n : Str) : ∀ (r : List (Str × α)), valV (r.map fun p => ((Sum.inr p.1 : Key), f p.2)) (Sum.inr n) = (look r n).map f
  | [] => rfl
  | p :: r => by
    by_cases h : p.1 = n
    · have e : valV (((Sum.inr p.1 : Key), f p.2) :: r.map fun p => ((Sum.inr p.1 : Key), f p.2)) (Sum.inr n) = some (f p.2) := valV_pos (by rw [h])
      rw [List.map_cons, e]; unfold look; rw [List.find?_cons, decide_eq_true h]; rfl
    · have e : valV (((Sum.inr p.1 : Key), f p.2) :: r.map fun p => ((Sum.inr p.1 : Key), f p.2)) (Sum.inr n) = valV (r.map fun p => ((Sum.inr p.1 : Key), f p.2)) (Sum.inr n) := valV_neg (fun z => h (Sum.inr.inj z))
      rw [List.map_cons, e, valV_inr f n r]; unfold look; rw [List.find?_cons, decide_eq_false h]
theorem IsAll.pairs {K : PySem.W.Frag} {H : Hp} : ∀ {xs : List V} {r : List (Str × Int)}, IsAll K H xs (r.map encE) → ∃ ps : List Addr, xs = ps.map V.ref ∧ Paired (fun p (kv : Key × V) => SqT K H p [kV kv.1, kv.2]) ps (kvR r)
  | _, [], .nil => ⟨[], rfl, .nil⟩
  | _, p :: r, .cons h t => by
    obtain ⟨a, rfl, ha⟩ := h.encE_inv
    obtain ⟨ps, rfl, hp⟩ := IsAll.pairs t
    exact ⟨a :: ps, rfl, .cons ha hp⟩
def inOrder (ns : List Str) (r : List (Str × Int)) : List (Str × Int) := ns.filterMap fun n => (look r n).map fun i => (n, i)
/-! ### xs[::2], xs[1::2] -/
def pickV (xs : List V) (lo st : Option Int) : List V := (sliceRange (sliceBounds lo none st xs.length).1 (sliceBounds lo none st xs.length).2.1 (sliceBounds lo none st xs.length).2.2).filterMap (xs[·]?)
theorem vals_pick {xs : List V} {us : List Value} (r : Vals xs us) : ∀ L : List Nat, Vals (L.filterMap (xs[·]?)) (L.filterMap (us[·]?))
  | [] => .nil
  | i :: L => by
    rw [List.filterMap_cons, List.filterMap_cons]
    cases h : xs[i]? with
    | none => rw [r.none_of h]; exact vals_pick r L
    | some x =>
      obtain ⟨u, h1, h2⟩ := r.get h
      rw [h1]
      exact .cons h2 (vals_pick r L)
theorem pick_len {α : Type} (xs : List α) : ∀ L : List Nat, (L.filterMap (xs[·]?)).length ≤ L.length := fun L => List.length_filterMap_le _ _
section
open PySem.Spec PyProof.Rows
variable {X : Cx}
def tPickV (K : PySem.W.Frag) (te : TE) (lo st : Option Int) : TE := fun σ H Q => te σ H fun x H1 => ∃ a xs, x = .ref a ∧ SqL K H1 a xs ∧ (pickV xs lo st).length ≤ sizeLine ∧ ∀ p, H1 p = none → Q (.ref p) (upd H1 p (.lst (pickV xs lo st)))
theorem pe_pick {e : Expr} {te : TE} {plo : Option Expr} {tlo : TO} {lo : Option Int} {k : Nat} {st : Int} {p1 p3 pos : Pos} (he : PE X e te) (hlo : PO X plo tlo) (hl : ∀ (σ : L2.St) (H : Hp), tlo σ H fun o H' => o = lo ∧ H' = H) (h0 : st ≠ 0)
    (hops : ∀ (s : Shared) (a b : Addr), subscripted (.Slice plo none (some (.Constant (.int st) k p1)) p3) false (.ref a) (.ref b) = operate [.ref a, .ref b] (getItem (.ref a) (.ref b)) := by intros; with_unfolding_all rfl) :
    PE X (.Subscript e (.Slice plo none (some (.Constant (.int st) k p1)) p3) pos) (tPickV X.K te lo (some st)) := by
  refine ⟨fun pins s σ H Q I h => ?_⟩
  refine Subscript_ (thn (he.run pins s σ H _ I h) fun v s1 ⟨x, H1, I1, r1, q1⟩ => ?_)
  obtain ⟨a, xs, ex, hx, hzz, q⟩ := q1
  subst ex
  cases r1
  have hst : PO X (some (.Constant (.int st) k p1)) (tPart (tC (.int st))) := po_some pe_int
  refine wpAny_Slice (thn (hlo.run pins s1 σ H1 (fun o H2 => o = lo ∧ H2 = H1) I1 (hl σ H1)) fun vl s2 ⟨l, H2, I2, pl, el, e2⟩ => ?_)
  subst el e2
  refine thn (po_none.run pins s2 σ H2 (fun o H3 => o = none ∧ H3 = H2) I2 ⟨rfl, rfl⟩) fun vu s3 ⟨u, H3, I3, pu, eu, e3⟩ => ?_
  subst eu e3
  refine thn (hst.run pins s3 σ H3 (fun o H4 => o = some st ∧ H4 = H3) I3 ⟨st, rfl, rfl, rfl⟩) fun vs s4 ⟨o, H4, I4, ps, eo, e4⟩ => ?_
  subst eo e4
  have I5 : Inv X pins σ H4 { s4 with heap := s4.heap.push { cls := .type "slice", data := .fields #[vl, vu, vs] } } := I4.kept (t' := s4.toks) fun b ob q => Heap.get?_push_of_some _ q
  obtain ⟨its, r, ht, hz⟩ := I5.list hx
  have hlen := r.length
  show wpAny (model X.prog X.w) X.A (subscriptTail e (.Slice plo none (some (.Constant (.int st) k p1)) p3) (.ref a) (.ref s4.heap.objs.size)) (EP X pins σ Q) X.xe { s4 with heap := s4.heap.push { cls := .type "slice", data := .fields #[vl, vu, vs] } }
  refine tail_any (ops := [.ref a, .ref s4.heap.objs.size]) ht.isList.typeIs (PySem.slot_list_getitem.lookup) ?_ (hops s4 _ _)
  refine wpAny_getItem_list_slice ht.isList (Heap.IsSliceOf.new _ vl vu vs) pl pu ps (fun z => h0 (Option.some.inj z)) ?_ (by rw [List.size_toArray]; omega)
  have e5 : slicePick its.toArray l none (some st) = (List.filterMap (its[·]?) (sliceRange (sliceBounds l none (some st) xs.length).1 (sliceBounds l none (some st) xs.length).2.1 (sliceBounds l none (some st) xs.length).2.2)).toArray := by
    unfold slicePick
    rw [List.size_toArray, ← hlen]
    simp only [List.getElem?_toArray]
  rw [e5]
  refine ⟨.ref _, _, I5.laid (t' := s4.toks) (o := .lst (pickV xs l (some st))) (fun b ob q => Heap.get?_push_of_some _ q) (Nat.le_refl _) ?_, rfl, q _ (I5.hok.fresh (Nat.le_refl _))⟩
  exact ⟨hzz, _, 0, vals_pick r _, Heap.get?_push_size _ rfl⟩
theorem pe_evenK {K : PySem.W.Frag} {e : Expr} {te : TE} {k : Nat} {p1 p3 pos : Pos} (hK : X.K = K) (he : PE X e te) : PE X (.Subscript e (.Slice none none (some (.Constant (.int 2) k p1)) p3) pos) (tPickV K te none (some 2)) := by
  subst hK; exact pe_pick he po_none (fun _ _ => ⟨rfl, rfl⟩) (by decide)
theorem pe_oddK {K : PySem.W.Frag} {e : Expr} {te : TE} {k k2 : Nat} {p0 p1 p3 pos : Pos} (hK : X.K = K) (he : PE X e te) : PE X (.Subscript e (.Slice (some (.Constant (.int 1) k2 p0)) none (some (.Constant (.int 2) k p1)) p3) pos) (tPickV K te (some 1) (some 2)) := by
  subst hK; exact pe_pick he (po_some pe_int) (fun _ _ => ⟨1, rfl, rfl, rfl⟩) (by decide)
end
theorem w_pick {K : PySem.W.Frag} {te : TE} {lo st : Option Int} {σ : St} {H : Hp} {Q : VK} (k : te σ H fun x H1 => ∃ a xs, x = .ref a ∧ SqL K H1 a xs ∧ (pickV xs lo st).length ≤ sizeLine ∧ ∀ p, H1 p = none → Q (.ref p) (upd H1 p (.lst (pickV xs lo st)))) : tPickV K te lo st σ H Q := k
def evens {α : Type} : List α → List α
  | x :: _ :: t => x :: evens t
  | [x] => [x]
  | [] => []
def odds {α : Type} : List α → List α
  | _ :: y :: t => y :: odds t
  | _ => []
theorem pick_even {α : Type} : ∀ (xs : List α), ((List.range ((xs.length + 1) / 2)).map fun k => 2 * k).filterMap (xs[·]?) = evens xs
  | [] => by simp [evens]
  | [x] => by simp [evens, List.range_succ]
  | x :: y :: t => by
    have e : ((x :: y :: t).length + 1) / 2 = (t.length + 1) / 2 + 1 := by simp only [List.length_cons]; omega
    have ih := pick_even t
    rw [e, List.range_succ_eq_map, List.map_cons, List.filterMap_cons, List.map_map]
    show x :: _ = x :: evens t
    rw [← ih, List.filterMap_map, List.filterMap_map]
    rfl
theorem pick_odd {α : Type} : ∀ (xs : List α), ((List.range (xs.length / 2)).map fun k => 1 + 2 * k).filterMap (xs[·]?) = odds xs
  | [] => by simp [odds]
  | [x] => by simp [odds]
  | x :: y :: t => by
    have e : (x :: y :: t).length / 2 = t.length / 2 + 1 := by simp only [List.length_cons]; omega
    have ih := pick_odd t
    rw [e, List.range_succ_eq_map, List.map_cons, List.filterMap_cons, List.map_map]
    show y :: _ = y :: odds t
    rw [← ih, List.filterMap_map, List.filterMap_map]
    refine congrArg (y :: ·) (congrArg (fun f => List.filterMap f (List.range (t.length / 2))) (funext fun k => ?_))
    show (x :: y :: t)[1 + 2 * (k + 1)]? = t[1 + 2 * k]?
    rw [show 1 + 2 * (k + 1) = (1 + 2 * k) + 1 + 1 by omega]
    rfl
theorem pickV_even (xs : List V) : pickV xs none (some 2) = evens xs := by
  rw [← pick_even]
  unfold pickV
  have e : sliceBounds none none (some 2) xs.length = (0, (xs.length : Int), 2) := rfl
  rw [e]
  show (sliceRange 0 (xs.length : Int) 2).filterMap _ = _
  congr 1
  unfold sliceRange
  have e2 : (if (2 : Int) > 0 then if (0 : Int) < (xs.length : Int) then ((xs.length : Int) - 0 + 2 - 1) / 2 else 0 else if (0 : Int) > (xs.length : Int) then (0 - (xs.length : Int) - 2 - 1) / -2 else 0).toNat = (xs.length + 1) / 2 := by
    rw [if_pos (by decide)]
    split <;> omega
  simp only [e2]
  refine List.map_congr_left fun k _ => ?_
  omega
theorem pickV_odd (xs : List V) : pickV xs (some 1) (some 2) = odds xs := by
  rw [← pick_odd]
  unfold pickV
  have e : sliceBounds (some 1) none (some 2) xs.length = (max 0 (min 1 (xs.length : Int)), (xs.length : Int), 2) := rfl
  rw [e]
  show (sliceRange (max 0 (min 1 (xs.length : Int))) (xs.length : Int) 2).filterMap _ = _
  by_cases h : xs.length = 0
  · have : xs = [] := List.length_eq_zero_iff.mp h
    subst this; rfl
  · rw [show max 0 (min 1 (xs.length : Int)) = 1 by omega]
    congr 1
    unfold sliceRange
    have e2 : (if (2 : Int) > 0 then if (1 : Int) < (xs.length : Int) then ((xs.length : Int) - 1 + 2 - 1) / 2 else 0 else if (1 : Int) > (xs.length : Int) then (1 - (xs.length : Int) - 2 - 1) / -2 else 0).toNat = xs.length / 2 := by
      rw [if_pos (by decide)]
      split <;> omega
    simp only [e2]
    refine List.map_congr_left fun k _ => ?_
    omega
theorem evens_map {α β : Type} (f : α → β) : ∀ xs : List α, evens (xs.map f) = (evens xs).map f
  | [] => rfl
  | [_] => rfl
  | _ :: _ :: t => congrArg _ (evens_map f t)
theorem odds_map {α β : Type} (f : α → β) : ∀ xs : List α, odds (xs.map f) = (odds xs).map f
  | [] => rfl
  | [_] => rfl
  | _ :: _ :: t => congrArg _ (odds_map f t)
theorem evens_len {α : Type} : ∀ xs : List α, (evens xs).length = (xs.length + 1) / 2
  | [] => by simp [evens]
  | [x] => by simp [evens]
  | x :: y :: t => by
    show (evens t).length + 1 = ((t.length + 1 + 1) + 1) / 2
    rw [evens_len t]; omega
theorem odds_len {α : Type} : ∀ xs : List α, (odds xs).length = xs.length / 2
  | [] => by simp [odds]
  | [x] => by simp [odds]
  | x :: y :: t => by
    show (odds t).length + 1 = (t.length + 1 + 1) / 2
    rw [odds_len t]; omega
/-! ### slices of lists -/
theorem cutV_from (xs : List V) {i : Int} (h : 0 ≤ i) : cutV xs (some i) none = xs.drop i.toNat := by
  obtain ⟨n, rfl⟩ := Int.eq_ofNat_of_zero_le h
  unfold cutV
  rw [HT.sIx_none, HT.sIx_nat, Int.toNat_natCast]
  by_cases hn : n ≤ xs.length
  · rw [Nat.min_eq_left hn, List.take_of_length_le (by rw [List.length_drop]; omega)]
  · rw [Nat.min_eq_right (by omega), List.drop_eq_nil_of_le (Nat.le_refl _), List.drop_eq_nil_of_le (by omega), List.take_nil]
theorem cutV_to (xs : List V) {i : Int} (h : 0 ≤ i) : cutV xs none (some i) = xs.take i.toNat := by
  obtain ⟨n, rfl⟩ := Int.eq_ofNat_of_zero_le h
  unfold cutV
  rw [HT.sIx_none, HT.sIx_nat, Int.toNat_natCast, List.drop_zero, Nat.sub_zero]
  by_cases hn : n ≤ xs.length
  · rw [Nat.min_eq_left hn]
  · rw [Nat.min_eq_right (by omega), List.take_of_length_le (Nat.le_refl _), List.take_of_length_le (by omega)]
/-! ### f-strings -/
section
variable {σ : St} {H : Hp} {Q : Str → Hp → Prop}
theorem w_jsN {acc : Str} (k : Q acc H) : tJs [] acc σ H Q := k
theorem w_jsC {t : TE} {ts : List TE} {acc : Str} (k : t σ H fun x H1 => ∃ y : Str, x = .str y ∧ (acc ++ y).length ≤ sizeLine ∧ tJs ts (acc ++ y) σ H1 Q) : tJs (t :: ts) acc σ H Q := k
theorem w_fmt {te : TE} {Q : VK} (k : te σ H fun x H1 => (∃ y : Str, x = .str y ∧ y.length ≤ sizeLine ∧ Q (.str y) H1) ∨ ∃ i : Int, x = .int i ∧ i.natAbs.log2 < 1920 ∧ Q (.str (toString i)) H1) : tFmt te σ H Q := k
theorem w_fmtS {y : Str} {P : Str → Prop} {R : Int → Prop} (h : y.length ≤ sizeLine) (k : P y) : (∃ z : Str, V.str y = .str z ∧ z.length ≤ sizeLine ∧ P z) ∨ ∃ i : Int, V.str y = .int i ∧ R i := .inl ⟨y, rfl, h, k⟩
theorem w_fmtI {i : Int} {P : Str → Prop} {R : Int → Prop} (h : i.natAbs.log2 < 1920) (k : R i) : (∃ z : Str, V.int i = .str z ∧ P z) ∨ ∃ j : Int, V.int i = .int j ∧ j.natAbs.log2 < 1920 ∧ R j := .inr ⟨i, rfl, h, k⟩
theorem log2_of {i : Int} {n : Nat} (h : i.natAbs < 2 ^ n) (hn : n ≤ 1920) (h0 : 0 < n) : i.natAbs.log2 < 1920 := by
  by_cases hz : i.natAbs = 0
  · rw [hz]; decide
  · exact Nat.lt_of_lt_of_le ((Nat.log2_lt hz).mpr h) hn
theorem w_tyS {K : PySem.W.Frag} {x : Str} {P : Prop} (k : P) : tyV K "str" (.str x) H ∧ P := ⟨rfl, k⟩
/-- two lists at hand joined into a new one -/
theorem w_cat {l b : Addr} {xs zs : List V} {Q : VK} (h1 : H l = some (.lst xs)) (h2 : H b = some (.lst zs)) (h3 : xs.length + zs.length ≤ sizeLine) (k : ∀ p, H p = none → Q (.ref p) (upd H p (.lst (xs ++ zs)))) : rCat (.ref l) (.ref b) H Q := ⟨l, b, xs, zs, rfl, rfl, h1, h2, h3, k⟩
theorem w_join {K : PySem.W.Frag} {a : Str} {p : Addr} {ys : List Str} {Q : VK} (h : SqL K H p (ys.map V.str)) (z : (ys.map (·.length)).sum + ys.length * a.length ≤ 16777216) (k : Q (.str (Txt.join a ys)) H) : rJoin K (.str a) [.ref p] H Q := ⟨a, p, ys, rfl, rfl, .inl h, z, k⟩
theorem sum_le {α : Type} {f : α → Nat} {c : Nat} : ∀ {l : List α}, (∀ x ∈ l, f x ≤ c) → (l.map f).sum ≤ l.length * c
  | [], _ => by simp
  | x :: l, h => by
    rw [List.map_cons, List.sum_cons, List.length_cons, Nat.succ_mul]
    have := sum_le (l := l) fun y hy => h y (List.mem_cons_of_mem _ hy)
    have := h x List.mem_cons_self
    omega
end
/-! ### the first place of a text in a list -/
def idx (ns : List Str) (n : Str) : Nat := ns.findIdx fun m => decide (m = n)
def after (ns : List Str) (n : Str) : List Str := ns.drop (idx ns n + 1)
theorem idx_lt {ns : List Str} {n : Str} (h : n ∈ ns) : idx ns n < ns.length := List.findIdx_lt_length_of_exists ⟨n, h, decide_eq_true rfl⟩
theorem idx_get {ns : List Str} {n : Str} (h : n ∈ ns) : ns[idx ns n]? = some n := by
  have hl := idx_lt h
  rw [List.getElem?_eq_getElem hl]
  have := List.findIdx_getElem (p := fun m => decide (m = n)) (xs := ns) (w := hl)
  exact congrArg some (of_decide_eq_true (p := ns[idx ns n] = n) this)
theorem idx_before {ns : List Str} {n : Str} {j : Nat} (h : j < idx ns n) : ns[j]? ≠ some n := by
  intro e
  have hj : j < ns.length := (List.getElem?_eq_some_iff.mp e).1
  have := List.not_of_lt_findIdx (p := fun m => decide (m = n)) (xs := ns) h
  have e2 := (List.getElem?_eq_some_iff.mp e).2
  rw [e2] at this
  simp at this
section
variable {K : PySem.W.Frag} {H : Hp} {Q : VK}
theorem w_nonEq {P : Prop} (k : P) : V.non = V.non ∧ P := ⟨rfl, k⟩
theorem w_index {p : Addr} {ns : List Str} {n : Str} (h : SqL K H p (ns.map V.str)) (hm : n ∈ ns) (k : Q (.int ((idx ns n : Nat) : Int)) H) : rIndex K (.ref p) [.str n] H Q := by
  refine ⟨p, _, .str n, idx ns n, .str n, rfl, rfl, h, rfl, flat_strs ns, by rw [List.getElem?_map, idx_get hm]; rfl, by unfold eqV; simp, fun m z hz e => ?_, k⟩
  rw [List.getElem?_map] at e
  cases hx : ns[m]? with
  | none => rw [hx] at e; cases e
  | some x =>
    rw [hx] at e
    cases e
    have hne : x ≠ n := fun q => idx_before hz (by rw [hx, q])
    show eqV (.str x) (.str n) = false
    unfold eqV; simp [hne]
theorem w_slFrom {p : Addr} {xs : List V} {i : Int} (h : SqL K H p xs) (h0 : 0 ≤ i) (k : ∀ q, H q = none → Q (.ref q) (upd H q (.lst (xs.drop i.toNat)))) : rSlL K (.ref p) (some i) none H Q :=
  ⟨p, xs, rfl, h, fun q hq => by rw [cutV_from xs h0]; exact k q hq⟩
theorem w_slTo {p : Addr} {xs : List V} {i : Int} (h : SqL K H p xs) (h0 : 0 ≤ i) (k : ∀ q, H q = none → Q (.ref q) (upd H q (.lst (xs.take i.toNat)))) : rSlL K (.ref p) none (some i) H Q :=
  ⟨p, xs, rfl, h, fun q hq => by rw [cutV_to xs h0]; exact k q hq⟩
theorem w_listOf {p : Addr} {ns : List Str} (h : SeqS K H p ns) (k : ∀ l, H l = none → Q (.ref l) (upd H l (.lst (ns.map V.str)))) : rListOf K [.ref p] H Q := ⟨p, _, rfl, h, k⟩
theorem w_iZip {ta : TA} {σ : St} {R : It → Hp → Prop} (k : ta σ H fun vs H1 => ∃ a b xs ys, vs = [.ref a, .ref b] ∧ SqL K H1 a xs ∧ SqL K H1 b ys ∧ R (Itz K a b) H1) : iZip K ta σ H R := k
theorem w_exz {a b : Addr} {xs ys : List V} {P : Addr → Addr → Prop} (h1 : SqL K H a xs) (h2 : SqL K H b ys) (k : P a b) : ∃ a' b' xs' ys', [V.ref a, V.ref b] = [.ref a', .ref b'] ∧ SqL K H a' xs' ∧ SqL K H b' ys' ∧ P a' b' := ⟨a, b, xs, ys, rfl, h1, h2, k⟩
end
theorem ypair {xs ys : List V} {i : Nat} {H H' : Hp} {v : V} (y : YPair (fun i => xs[i]?) (fun i => ys[i]?) i H v H') :
    ∃ T x y, v = .ref T ∧ H T = none ∧ H' = upd H T (.tup [x, y]) ∧ xs[i]? = some x ∧ ys[i]? = some y := y
/-! ### texts cut at a sign -/
theorem spl_len (S : List Nat) : ∀ (l : List Nat) (k : Nat) (acc : List Nat), (TL.spl S k acc l).length ≤ l.length + 1
  | [], k, acc => by rw [TL.spl_nil]; simp
  | c :: r, 0, acc => by
    show (if TL.pre S (c :: r) = true then acc :: TL.spl S (S.length - 1) [] r else TL.spl S 0 (acc ++ [c]) r).length ≤ _
    split
    · have := spl_len S r (S.length - 1) []; simp only [List.length_cons]; omega
    · have := spl_len S r 0 (acc ++ [c]); simp only [List.length_cons]; omega
  | c :: r, k + 1, acc => by
    show (TL.spl S k acc r).length ≤ _
    have := spl_len S r k acc; simp only [List.length_cons]; omega
theorem spl_mem (S : List Nat) : ∀ (l : List Nat) (k : Nat) (acc x : List Nat), x ∈ TL.spl S k acc l → x.length ≤ acc.length + l.length
  | [], k, acc, x, h => by rw [TL.spl_nil] at h; rw [List.mem_singleton.mp h]; simp
  | c :: r, 0, acc, x, h => by
    have h' : x ∈ (if TL.pre S (c :: r) = true then acc :: TL.spl S (S.length - 1) [] r else TL.spl S 0 (acc ++ [c]) r) := h
    split at h'
    · rcases List.mem_cons.mp h' with rfl | h'
      · omega
      · have := spl_mem S r (S.length - 1) [] x h'; simp only [List.length_cons, List.length_nil] at *; omega
    · have := spl_mem S r 0 (acc ++ [c]) x h'; simp only [List.length_cons, List.length_append, List.length_nil] at *; omega
  | c :: r, k + 1, acc, x, h => by
    have h' : x ∈ TL.spl S k acc r := h
    have := spl_mem S r k acc x h'; simp only [List.length_cons]; omega
theorem spl_ne (S : List Nat) : ∀ (l : List Nat) (k : Nat) (acc : List Nat), TL.spl S k acc l ≠ []
  | [], k, acc => by rw [TL.spl_nil]; simp
  | c :: r, 0, acc => by
    show (if TL.pre S (c :: r) = true then acc :: TL.spl S (S.length - 1) [] r else TL.spl S 0 (acc ++ [c]) r) ≠ []
    split
    · simp
    · exact spl_ne S r 0 _
  | c :: r, k + 1, acc => by show TL.spl S k acc r ≠ []; exact spl_ne S r k acc
section
variable {x y : Str} (hy : TL.tl y ≠ []) (hk : y.cps.all (· < 256) = true)
include hy hk
theorem split_len : (Txt.split x y).length ≤ x.length + 1 := by
  have e := congrArg List.length (TL.split_spl x y hy (TL.kind_ok hk))
  rw [List.length_map] at e
  rw [e, TL.len_tl]; exact spl_len _ _ _ _
theorem split_mem {z : Str} (h : z ∈ Txt.split x y) : z.length ≤ x.length := by
  have e := TL.split_spl x y hy (TL.kind_ok hk)
  have hm : TL.tl z ∈ (Txt.split x y).map TL.tl := List.mem_map_of_mem h
  rw [e] at hm
  have := spl_mem _ _ _ _ _ hm
  rw [TL.len_tl, TL.len_tl]; simpa using this
theorem split_ne : Txt.split x y ≠ [] := by
  have e := TL.split_spl x y hy (TL.kind_ok hk)
  intro z
  rw [z] at e
  exact spl_ne _ _ _ _ e.symm
end
theorem blank_ok : TL.tl (" " : Str) ≠ [] ∧ (" " : Str).cps.all (· < 256) = true := by decide +kernel
theorem feed_ok : TL.tl ("\n" : Str) ≠ [] ∧ ("\n" : Str).cps.all (· < 256) = true := by decide +kernel
section
variable {K : PySem.W.Frag} {H : Hp} {Q : VK} {σ : L2.St}
theorem w_split {a b : Str} (hb : (b.length == 0) = false) (hl : a.length + 2 ≤ sizeLine) (k : ∀ p, H p = none → Q (.ref p) (upd H p (.lst ((Txt.split a b).map V.str)))) :
    (fun x xs H Q => ∃ a b, x = V.str a ∧ xs = [V.str b] ∧ (b.length == 0) = false ∧ a.length + 2 ≤ sizeLine ∧ rNewStrs (Txt.split a b) H Q) (V.str a) [V.str b] H Q := ⟨a, b, rfl, rfl, hb, hl, k⟩
theorem w_splitE {a b : Str} {P : Str → Str → Prop} (k : P a b) : ∃ a' b', V.str a = .str a' ∧ [V.str b] = [.str b'] ∧ P a' b' := ⟨a, b, rfl, rfl, k⟩
theorem w_iEnum {ta : TA} {R : It → Hp → Prop} (k : ta σ H fun vs H1 => ∃ a xs, vs = [.ref a] ∧ SqL K H1 a xs ∧ R (Ite K a) H1) : iEnum K ta σ H R := k
theorem w_exen {a : Addr} {xs : List V} {P : Addr → Prop} (h : SqL K H a xs) (k : P a) : ∃ b ys, [V.ref a] = [.ref b] ∧ SqL K H b ys ∧ P b := ⟨a, xs, rfl, h, k⟩
end
/-- both ways of a conditional expression at once -/
theorem w_ifK {t : TT} {ta tb : TE} {σ : L2.St} {H : Hp} {Q : VK} (P : V → Hp → Prop) (h : ∀ Q' : VK, (∀ x H', P x H' → Q' x H') → t σ H fun c H1 => if c = true then ta σ H1 Q' else tb σ H1 Q') (k : ∀ x H', P x H' → Q x H') : tIf t ta tb σ H Q := h Q k
/-! ### a box of draws -/
def BoxAt (H : Hp) (a : Addr) (n : Nat) : Prop := ∃ x y z : Int, H a = some (.lst [.int x, .int y, .int z]) ∧ 0 ≤ x ∧ 0 ≤ y ∧ y < 2147483648 ∧ 0 ≤ z ∧ z ≤ (n : Int)
theorem BoxAt.le {H : Hp} {a : Addr} {n m : Nat} (h : BoxAt H a n) (q : n ≤ m) : BoxAt H a m := by
  obtain ⟨x, y, z, h1, h2, h3, h4, h5, h6⟩ := h
  exact ⟨x, y, z, h1, h2, h3, h4, h5, by omega⟩
theorem BoxAt.at {H H' : Hp} {a : Addr} {n : Nat} (h : BoxAt H a n) (e : H' a = H a) : BoxAt H' a n := by
  obtain ⟨x, y, z, h1, r⟩ := h
  exact ⟨x, y, z, e.trans h1, r⟩
theorem BoxAt.ne {H : Hp} {a : Addr} {n : Nat} (h : BoxAt H a n) : H a ≠ none := by obtain ⟨x, y, z, h1, _⟩ := h; rw [h1]; exact fun z => nomatch z
theorem BoxAt.same {H H' : Hp} {a : Addr} {n : Nat} (h : BoxAt H a n) (s : Same H H') : BoxAt H' a n := by
  obtain ⟨x, y, z, h1, r⟩ := h
  exact ⟨x, y, z, s _ _ h1, r⟩
theorem But.refl (a : Addr) (H : Hp) : But a H H := fun _ _ h _ => h
theorem But.of {a : Addr} {H H' : Hp} (s : Same H H') : But a H H' := fun b o h _ => s b o h
theorem But.tr {a : Addr} {H H1 H2 : Hp} (s : But a H H1) (t : But a H1 H2) : But a H H2 := fun b o e n => t b o (s b o e n) n
theorem But.free {a b : Addr} {H H' : Hp} (s : But a H H') (n : b ≠ a) (h : H' b = none) : H b = none := by
  cases q : H b with
  | none => rfl
  | some o => rw [s b o q n] at h; cases h
/-- F stays, the box at a turns, all else stays -/
structure ExtB (a : Addr) (F H F' H' : Hp) : Prop where
  ff : Same F F'
  fh : Same F' H'
  hh : But a H H'
  nw : ∀ b, H b ≠ none → F b = none → F' b = none
  th : H a ≠ none → H' a ≠ none
theorem ExtB.refl {a : Addr} {F H : Hp} (s : Same F H) : ExtB a F H F H := ⟨Same.refl F, s, But.refl a H, fun _ _ h => h, fun h => h⟩
theorem ExtB.of {a : Addr} {F H F' H' : Hp} (e : Ext F H F' H') : ExtB a F H F' H' := ⟨e.ff, e.fh, But.of e.hh, e.nw, fun h z => h (e.hh.free z)⟩
theorem ExtB.trans {a : Addr} {F H F1 H1 F2 H2 : Hp} (p : ExtB a F H F1 H1) (q : ExtB a F1 H1 F2 H2) : ExtB a F H F2 H2 :=
  ⟨p.ff.trans q.ff, q.fh, p.hh.tr q.hh, fun c hc hf => q.nw c (fun z => by
    by_cases e : c = a
    · subst e; exact p.th hc z
    · exact hc (p.hh.free e z)) (p.nw c hc hf), fun h => q.th (p.th h)⟩
theorem ExtB.free {a b : Addr} {F H F' H' : Hp} (p : ExtB a F H F' H') (ha : H a ≠ none) (h : H' b = none) : H b = none := by
  by_cases e : b = a
  · subst e; exact absurd h (p.th ha)
  · exact p.hh.free e h
/-- the box turned alone -/
theorem ExtB.turn {a : Addr} {F H : Hp} {o : HO} (s : Same F H) (hF : F a = none) : ExtB a F H F (upd H a o) :=
  ⟨Same.refl F, s.mut hF, fun b u e n => by rw [upd_ne n]; exact e, fun _ _ h => h, fun _ => by rw [upd_same]; exact fun z => nomatch z⟩
/-- a comprehension that draws: at most c draws a turn; P by the turn and what is made so far -/
theorem comp_drawn {K : PySem.W.Frag} {J : It} {n : Nat} {G : Hp → Prop} {Y : Nat → Hp → V → Hp → Prop} {g : TG} {tt : TT} {te : TE} {vs : List Nat} {σ : L2.St} {F H : Hp} {Q : VK} {a : Addr} {N c : Nat}
    (w : Walk J n G Y) (s : Same F H) (hF : F a = none) (hb : BoxAt H a N) (hG : ∀ H', But a H H' → G H') (hz : n < sizeLine) (P : Nat → List PyData → Prop) (p0 : P 0 [])
    (hs : ∀ i x ds F1 H1 H1', i < n → ExtB a F H F1 H1 → BoxAt H1 a (N + i * c) → Y i H1 x H1' → P i ds → ∀ (M : V → Hp → Prop) (M0 : Hp → Prop),
      (∀ y d F4 H4, ExtB a F1 H1 F4 H4 → BoxAt H4 a (N + (i + 1) * c) → Is K F4 y d → P (i + 1) (ds ++ [d]) → M y H4) → (∀ F3 H3, ExtB a F1 H1 F3 H3 → BoxAt H3 a (N + (i + 1) * c) → P (i + 1) ds → M0 H3) →
      g x (wipe σ vs) H1' fun σ2 H2 => wipe σ2 vs = wipe σ vs ∧ tt σ2 H2 fun b H3 => if b = true then te σ2 H3 M else M0 H3)
    (k : ∀ D ys ds F' H', H D = none → ExtB a F H F' H' → F' D = none → BoxAt H' a (N + n * c) → H' D = some (.lst ys) → IsAll K F' ys ds → P n ds → Q (.ref D) H') : LcW J g tt te vs σ H Q := by
  intro D hD
  have hDa : D ≠ a := fun z => hb.ne (by rw [← z]; exact hD)
  refine lc_it w (Pv := fun i H' => ∃ F1 ys ds, ExtB a F H F1 H' ∧ F1 D = none ∧ BoxAt H' a (N + i * c) ∧ H' D = some (.lst ys) ∧ ys.length ≤ i ∧ IsAll K F1 ys ds ∧ P i ds) ?_ ?_ ?_ ?_
  · exact ⟨F, [], [], ExtB.of (Ext.loose s hD), s.free hD, by rw [Nat.zero_mul]; exact hb.same (Same.new hD), upd_same, Nat.le_refl _, .nil, p0⟩
  · rintro i H' hi ⟨F1, ys, ds, e, _⟩
    exact hG H' e.hh
  · rintro i x H1 H1' hi ⟨F1, ys, ds, e, h1, hbx, h2, hl, h3, hP⟩ y
    have hD1 : H1 D ≠ none := by rw [h2]; exact fun z => nomatch z
    refine hs i x ds F1 H1 H1' hi e hbx y hP _ _ (fun y d F4 H4 e4 hb4 hI hP4 => ?_) fun F3 H3 e3 hb3 hP3 => ?_
    · have h4 : F4 D = none := e4.nw D hD1 h1
      have h5 : H4 D = some (.lst ys) := e4.hh _ _ h2 hDa
      refine ⟨ys, h5, by omega, F4, ys ++ [y], ds ++ [d], ?_, h4, hb4.at (upd_ne (Ne.symm hDa)), upd_same, by rw [List.length_append]; exact Nat.succ_le_succ hl, (h3.mono e4.ff).append (.one hI), hP4⟩
      have e5 := e.trans e4
      exact ⟨e5.ff, e5.fh.mut h4, fun b o eb nb => by rw [upd_ne (ne_of_none eb hD)]; exact e5.hh b o eb nb, e5.nw, fun h => by rw [upd_ne (Ne.symm hDa)]; exact e5.th h⟩
    · exact ⟨F3, ys, ds, e.trans e3, e3.nw D hD1 h1, hb3, e3.hh _ _ h2 hDa, by omega, h3.mono e3.ff, hP3⟩
  · rintro H' ⟨F1, ys, ds, e, h1, hbx, h2, hl, h3, hP⟩
    exact k D ys ds F1 H' hD e h1 hbx h2 h3 hP
/-! ### numbers in a list -/
section
variable {K : PySem.W.Frag} {H : Hp} {Q : VK} {σ : L2.St} {D : Ends}
theorem w_setL {p : Addr} {xs : List V} {n : Nat} {i : Int} {v : V} {P : Hp → Prop} (h : H p = some (.lst xs)) (e : ixN xs.length i = some n) (k : P (upd H p (.lst (xs.set n v)))) : rSetL (.ref p) (.int i) v H P := ⟨p, xs, i, n, rfl, rfl, h, e, k⟩
theorem w_popAt {l : Addr} {xs : List V} {i : Int} {y : V} (h : H l = some (.lst xs)) (h0 : 0 ≤ i) (h1 : i < xs.length) (hl : xs.length < 1000000) (e : xs[i.toNat]? = some y) (k : Q y (upd H l (.lst (xs.eraseIdx i.toNat)))) : rPopAt (.ref l) [.int i] H Q :=
  ⟨l, xs, i, i.toNat, y, rfl, rfl, h, by omega, by omega, seqIndex_of h0 h1, e, k⟩
theorem shaped_strs {ns : List Str} (h : ∀ n ∈ ns, PyData.strOk n = true) : SeqAt.shaped (.list (ns.map .str)) = true := by
  unfold SeqAt.shaped
  have h1 : ∀ ns : List Str, (∀ n ∈ ns, PyData.strOk n = true) → PyData.canLayAll0 (ns.map .str) = true := by
    intro ns
    induction ns with
    | nil => intro _; simp [PyData.canLayAll0]
    | cons n ns ih =>
      intro h
      simp only [List.map_cons, PyData.canLayAll0, PyData.canLay0, Bool.and_eq_true]
      exact ⟨h n List.mem_cons_self, ih fun m hm => h m (List.mem_cons_of_mem _ hm)⟩
  have h2 : ∀ ns : List Str, PyData.depthAll (ns.map .str) = 0 := by
    intro ns
    induction ns with
    | nil => simp [PyData.depthAll]
    | cons n ns ih => simp only [List.map_cons, PyData.depthAll, PyData.depth, ih]; rfl
  simp only [PyData.canLay0, PyData.depth, Bool.and_eq_true, decide_eq_true_eq, h2]
  exact ⟨h1 ns h, by decide⟩
theorem w_neNil {l e : Addr} {ns : List Str} (h : SqL K H l (ns.map V.str)) (he : SqL K H e []) (ok : ∀ n ∈ ns, PyData.strOk n = true) (k : Q (.bl (!ns.isEmpty)) H) : rNeD K (.ref l) (.ref e) H Q := by
  refine ⟨.list (ns.map .str), .list [], (Is.lst h (isAll_strs ns)).dp (noDict_strs ns), .lst he .nil, shaped_strs ok, by decide +kernel, ?_⟩
  have e : PyData.eqv (.list (ns.map .str)) (.list []) = ns.isEmpty := by
    cases ns with
    | nil => simp [PyData.eqv, PyData.eqvAll]
    | cons n ns => simp [PyData.eqv, PyData.eqvAll]
  rw [e]; exact k
end
/-! ### names made -/
theorem abc_at {i : Int} (h0 : 0 ≤ i) (h1 : i < 26) : atI ("abcdefghijklmnopqrstuvwxyz" : Str).cps.toList i = some (97 + i.toNat) := by
  obtain ⟨n, rfl⟩ := Int.eq_ofNat_of_zero_le h0
  have hf : ∀ n : Fin 26, ("abcdefghijklmnopqrstuvwxyz" : Str).cps.toList[n.1]? = some (97 + n.1) := by decide +kernel
  exact atI_nat' (hf ⟨n, by omega⟩)
theorem abc_small : ("abcdefghijklmnopqrstuvwxyz" : Str).length ≤ sizeLine := by decide +kernel
theorem cut_to {z : Str} {k : Nat} (hk : k ≤ z.cps.toList.length) : (cutS z none (some (k : Int))).cps.toList = z.cps.toList.take k := by
  show (z.cps.toList.drop 0).take (HT.sIx z.length z.length (some (k : Int)) - 0) = _
  rw [HT.sIx_nat]
  have : z.length = z.cps.toList.length := by rw [Array.length_toList]; rfl
  rw [this, Nat.min_eq_left hk]; rfl
theorem cut_mid {z : Str} {i k : Nat} (hi : i ≤ k) (hk : k ≤ z.cps.toList.length) : (cutS z (some (i : Int)) (some (k : Int))).cps.toList = (z.cps.toList.drop i).take (k - i) := by
  show (z.cps.toList.drop (HT.sIx z.length 0 (some (i : Int)))).take (HT.sIx z.length z.length (some (k : Int)) - HT.sIx z.length 0 (some (i : Int))) = _
  have : z.length = z.cps.toList.length := by rw [Array.length_toList]; rfl
  rw [HT.sIx_nat, HT.sIx_nat, this, Nat.min_eq_left hk, Nat.min_eq_left (Nat.le_trans hi hk)]
theorem str_app (x y : Str) : (x ++ y).cps.toList = x.cps.toList ++ y.cps.toList := TL.tl_append x y
theorem w_slS {K : PySem.W.Frag} {H : Hp} {Q : VK} {z : Str} {lo hi : Option Int} (h : z.length ≤ sizeLine) (k : Q (.str (cutS z lo hi)) H) : rSlS (.str z) lo hi H Q := ⟨z, rfl, h, k⟩
theorem range_nodup {α : Type} {g : Nat → α} {m : Nat} (inj : ∀ j k, j < k → k < m → g j ≠ g k) : ((List.range m).map g).Nodup := by
  unfold List.Nodup
  rw [List.pairwise_map]
  exact (List.pairwise_lt_range (n := m)).imp_of_mem fun {a b} ha hb h => inj a b h (List.mem_range.mp hb)
theorem filterMap_range_some {α β : Type} (g : Nat → α) (f : α → β) (m : Nat) : (List.range m).filterMap (fun k => some (f (g k))) = ((List.range m).map g).map f := by
  rw [List.filterMap_eq_map', List.map_map]; rfl
/-! ### lists that shrink, boxes that turn -/
theorem _root_.Fm.ExtB.mut {a : Addr} {F H F' H' : Hp} {L : Addr} {o : HO} (e : ExtB a F H F' H') (h : H L = none) (f : F' L = none) : ExtB a F H F' (upd H' L o) :=
  ⟨e.ff, e.fh.mut f, fun b u q n => by rw [upd_ne (ne_of_none q h)]; exact e.hh b u q n, e.nw, fun h2 => by
    by_cases q : a = L
    · rw [q, upd_same]; exact fun z => nomatch z
    · rw [upd_ne q]; exact e.th h2⟩
/-- a new thing, taken in late -/
theorem _root_.Fm.ExtB.takeIn {a : Addr} {F H F' H' : Hp} {p : Addr} {o : HO} (e : ExtB a F H F' H') (h : H p = none) (f : F' p = none) (g : H' p = some o) : ExtB a F H (upd F' p o) H' := by
  refine ⟨fun b u q => ?_, fun b u q => ?_, e.hh, fun b hb hf => ?_, e.th⟩
  · have h1 := e.ff b u q
    rw [upd_ne (ne_of_none h1 f)]; exact h1
  · by_cases z : b = p
    · subst z; rw [upd_same] at q; cases q; exact g
    · rw [upd_ne z] at q; exact e.fh b u q
  · have z : b ≠ p := fun z => hb (by rw [z]; exact h)
    rw [upd_ne z]; exact e.nw b hb hf
theorem w_while {c : TT} {tb : TS} {D : Ends} {σ : L2.St} {H : Hp} (W : Nat → L2.St → Hp → Prop) {m : Nat} (h0 : W m σ H)
    (hs : ∀ m σ H, W m σ H → c σ H fun b H1 => if b = true then ∃ N : L2.St → Hp → Prop, (∀ σ' H', N σ' H' → ∃ m', m' < m ∧ W m' σ' H') ∧ tb { D with nx := N, ct := N, bk := D.nx } σ H1 else D.nx σ H1) : tWhile c tb D σ H := ⟨W, ⟨m, h0⟩, hs⟩
theorem erase_map {α β : Type} (f : α → β) (l : List α) (c : Nat) : (l.map f).eraseIdx c = (l.eraseIdx c).map f := by
  rw [List.eraseIdx_eq_take_drop_succ, List.eraseIdx_eq_take_drop_succ, List.map_append, List.map_take, List.map_drop]
theorem erase_facts {α : Type} {l : List α} {c : Nat} {y : α} (e : l[c]? = some y) : y ∈ l ∧ (l.eraseIdx c).length + 1 = l.length ∧ (∀ z ∈ l.eraseIdx c, z ∈ l) ∧ (l.Nodup → (l.eraseIdx c).Nodup ∧ y ∉ l.eraseIdx c) := by
  have hl : c < l.length := (List.getElem?_eq_some_iff.mp e).1
  have e1 : l = l.take c ++ y :: l.drop (c + 1) := by
    have h1 := List.take_append_drop c l
    rw [List.drop_eq_getElem_cons hl, (List.getElem?_eq_some_iff.mp e).2] at h1
    exact h1.symm
  refine ⟨List.mem_of_getElem? e, by rw [List.length_eraseIdx]; simp [hl]; omega, fun z hz => (List.eraseIdx_sublist l c).subset hz, fun hn => ⟨(List.eraseIdx_sublist l c).nodup hn, ?_⟩⟩
  rw [List.eraseIdx_eq_take_drop_succ]
  rw [e1] at hn
  have h2 := List.nodup_append.mp hn
  intro hm
  rcases List.mem_append.mp hm with h3 | h3
  · exact h2.2.2 y h3 y List.mem_cons_self rfl
  · exact (List.nodup_cons.mp h2.2.1).1 h3
theorem valV_notin {k : Key} : ∀ {kvs : List (Key × V)}, k ∉ kvs.map (·.1) → valV kvs k = none
  | [], _ => rfl
  | kv :: kvs, h => by
    rw [valV_neg (fun z => h (by rw [List.map_cons, z]; exact List.mem_cons_self))]
    exact valV_notin fun z => h (List.mem_cons_of_mem _ z)
theorem IsKv.append {K : PySem.W.Frag} {H : Hp} : ∀ {as bs : List (Key × V)} {xs ys : List (PyData × PyData)}, IsKv K H as xs → IsKv K H bs ys → IsKv K H (as ++ bs) (xs ++ ys)
  | _, _, _, _, .nil, h => h
  | _, _, _, _, .cons a t, h => .cons a (IsKv.append t h)
theorem empty_app (x : Str) : Str.empty ++ x = x := by
  have h := TL.tl_append Str.empty x
  exact TL.ext_tl (h.trans (List.nil_append _))
theorem take_sub_snoc {α : Type} {l ns : List α} {i : Nat} {n : α} (h : l.Sublist (ns.take i)) (e : ns[i]? = some n) : (l ++ [n]).Sublist (ns.take (i + 1)) ∧ l.Sublist (ns.take (i + 1)) := by
  rw [take_snoc e]
  exact ⟨h.append (List.Sublist.refl _), h.trans (List.sublist_append_left _ _)⟩
def top (i : Nat) : Stmt := PySem.Challenge.pw_farmarks_k83_rows_as_texts.main.body.getD i (.Pass ⟨0, 0, 0, 0⟩)
abbrev s_is_whole : Stmt := (top 9)
abbrev slots_is_whole : List Str := ["thing", "low", "high"]
theorem sc_is_whole : FnScope slots_is_whole ["thing", "low", "high"] (defScope s_is_whole) := ⟨rfl, rfl, rfl, by decide +kernel, rfl, by decide +kernel, by decide +kernel⟩
abbrev s_is_name : Stmt := (top 10)
abbrev slots_is_name : List Str := ["thing", "sign"]
theorem sc_is_name : FnScope slots_is_name ["thing"] (defScope s_is_name) := ⟨rfl, rfl, rfl, by decide +kernel, rfl, by decide +kernel, by decide +kernel⟩
abbrev s_number_in : Stmt := (top 11)
abbrev slots_number_in : List Str := ["thing", "low", "high", "number", "sign"]
theorem sc_number_in : FnScope slots_number_in ["thing", "low", "high"] (defScope s_number_in) := ⟨rfl, rfl, rfl, by decide +kernel, rfl, by decide +kernel, by decide +kernel⟩
abbrev s_is_entry : Stmt := (top 15)
abbrev slots_is_entry : List Str := ["thing"]
theorem sc_is_entry : FnScope slots_is_entry ["thing"] (defScope s_is_entry) := ⟨rfl, rfl, rfl, by decide +kernel, rfl, by decide +kernel, by decide +kernel⟩
abbrev s_is_row : Stmt := (top 16)
abbrev slots_is_row : List Str := ["thing", "names", "entry"]
theorem sc_is_row : FnScope slots_is_row ["thing"] (defScope s_is_row) := ⟨rfl, rfl, rfl, by decide +kernel, rfl, by decide +kernel, by decide +kernel⟩
abbrev s_need_names : Stmt := (top 19)
abbrev slots_need_names : List Str := ["thing", "seen", "name"]
theorem sc_need_names : FnScope slots_need_names ["thing"] (defScope s_need_names) := ⟨rfl, rfl, rfl, by decide +kernel, rfl, by decide +kernel, by decide +kernel⟩
abbrev s_is_row_of : Stmt := (top 20)
abbrev slots_is_row_of : List Str := ["names", "thing", "name", "number"]
theorem sc_is_row_of : FnScope slots_is_row_of ["names", "thing"] (defScope s_is_row_of) := ⟨rfl, rfl, rfl, by decide +kernel, rfl, by decide +kernel, by decide +kernel⟩
abbrev s_need_rows_of : Stmt := (top 21)
abbrev slots_need_rows_of : List Str := ["names", "thing", "name", "row"]
theorem sc_need_rows_of : FnScope slots_need_rows_of ["names", "thing"] (defScope s_need_rows_of) := ⟨rfl, rfl, rfl, by decide +kernel, rfl, by decide +kernel, by decide +kernel⟩
abbrev s_in_order : Stmt := (top 22)
abbrev slots_in_order : List Str := ["names", "row", "numbers", "name"]
theorem sc_in_order : FnScope slots_in_order ["names", "row"] (defScope s_in_order) := ⟨rfl, rfl, rfl, by decide +kernel, rfl, by decide +kernel, by decide +kernel⟩
abbrev s_rows_text : Stmt := (top 24)
abbrev slots_rows_text : List Str := ["names", "rows", "lines", "name", "words", "other", "number"]
theorem sc_rows_text : FnScope slots_rows_text ["names", "rows"] (defScope s_rows_text) := ⟨rfl, rfl, rfl, by decide +kernel, rfl, by decide +kernel, by decide +kernel⟩
abbrev s_row_in : Stmt := (top 25)
abbrev slots_row_in : List Str := ["names", "words", "row", "left", "name", "figures", "number"]
theorem sc_row_in : FnScope slots_row_in ["names", "words"] (defScope s_row_in) := ⟨rfl, rfl, rfl, by decide +kernel, rfl, by decide +kernel, by decide +kernel⟩
abbrev s_read_rows : Stmt := (top 26)
abbrev slots_read_rows : List Str := ["names", "text", "rows", "left", "at", "line", "words", "row"]
theorem sc_read_rows : FnScope slots_read_rows ["names", "text"] (defScope s_read_rows) := ⟨rfl, rfl, rfl, by decide +kernel, rfl, by decide +kernel, by decide +kernel⟩
abbrev s_w_cell : Stmt := (top 28)
abbrev slots_w_cell : List Str := ["_law_script", "_law_k"]
theorem sc_w_cell : FnScope slots_w_cell ["_law_script", "_law_k"] (defScope s_w_cell) := ⟨rfl, rfl, rfl, by decide +kernel, rfl, by decide +kernel, by decide +kernel⟩
abbrev s_w_box : Stmt := (top 29)
abbrev slots_w_box : List Str := ["_law_cell_here"]
theorem sc_w_box : FnScope slots_w_box ["_law_cell_here"] (defScope s_w_box) := ⟨rfl, rfl, rfl, by decide +kernel, rfl, by decide +kernel, by decide +kernel⟩
abbrev s_w_take : Stmt := (top 30)
abbrev slots_w_take : List Str := ["_law_box_here", "_law_many", "_law_one", "_law_other", "_law_digit"]
theorem sc_w_take : FnScope slots_w_take ["_law_box_here", "_law_many"] (defScope s_w_take) := ⟨rfl, rfl, rfl, by decide +kernel, rfl, by decide +kernel, by decide +kernel⟩
abbrev s_w_names : Stmt := (top 31)
abbrev slots_w_names : List Str := ["_law_box_here", "_law_many", "_law_letters", "_law_way", "_law_first", "_law_base", "_law_size", "_law_at", "_law_some_here", "_law_k"]
theorem sc_w_names : FnScope slots_w_names ["_law_box_here", "_law_many"] (defScope s_w_names) := ⟨rfl, rfl, rfl, by decide +kernel, rfl, by decide +kernel, by decide +kernel⟩
abbrev s_w_number : Stmt := (top 32)
abbrev slots_w_number : List Str := ["_law_box_here", "_law_way"]
theorem sc_w_number : FnScope slots_w_number ["_law_box_here"] (defScope s_w_number) := ⟨rfl, rfl, rfl, by decide +kernel, rfl, by decide +kernel, by decide +kernel⟩
abbrev s_w_row : Stmt := (top 33)
abbrev slots_w_row : List Str := ["_law_box_here", "_law_names_here", "_law_rare", "_law_left", "_law_found", "_law_name"]
theorem sc_w_row : FnScope slots_w_row ["_law_box_here", "_law_names_here"] (defScope s_w_row) := ⟨rfl, rfl, rfl, by decide +kernel, rfl, by decide +kernel, by decide +kernel⟩
abbrev s_w_some : Stmt := (top 34)
abbrev slots_w_some : List Str := ["_law_box_here"]
theorem sc_w_some : FnScope slots_w_some ["_law_box_here"] (defScope s_w_some) := ⟨rfl, rfl, rfl, by decide +kernel, rfl, by decide +kernel, by decide +kernel⟩
abbrev s_w_ordered : Stmt := (top 35)
abbrev slots_w_ordered : List Str := ["_law_names_here", "_law_row_here", "_law_left", "_law_name"]
theorem sc_w_ordered : FnScope slots_w_ordered ["_law_names_here", "_law_row_here"] (defScope s_w_ordered) := ⟨rfl, rfl, rfl, by decide +kernel, rfl, by decide +kernel, by decide +kernel⟩
abbrev s_w_rows : Stmt := (top 36)
abbrev slots_w_rows : List Str := ["_law_box_here", "_law_names_here", "_law_left", "_law_found", "_law_name"]
theorem sc_w_rows : FnScope slots_w_rows ["_law_box_here", "_law_names_here"] (defScope s_w_rows) := ⟨rfl, rfl, rfl, by decide +kernel, rfl, by decide +kernel, by decide +kernel⟩
abbrev s_w_text : Stmt := (top 37)
abbrev slots_w_text : List Str := ["_law_names_here", "_law_rows_here", "_law_lines", "_law_name", "_law_entries", "_law_other", "_law_number_here"]
theorem sc_w_text : FnScope slots_w_text ["_law_names_here", "_law_rows_here"] (defScope s_w_text) := ⟨rfl, rfl, rfl, by decide +kernel, rfl, by decide +kernel, by decide +kernel⟩
abbrev s_w_right : Stmt := (top 38)
abbrev slots_w_right : List Str := ["_law_names_here", "_law_rows_here", "_law_stood", "_law_text_here", "_law_due", "_law_found", "_law_row_here", "_law_name"]
theorem sc_w_right : FnScope slots_w_right ["_law_names_here", "_law_rows_here"] (defScope s_w_right) := ⟨rfl, rfl, rfl, by decide +kernel, rfl, by decide +kernel, by decide +kernel⟩
abbrev s_law : Stmt := (top 39)
abbrev slots_law : List Str := ["_law_script", "_law_k", "_law_box_here", "_law_names_here", "_law_rows_here", "_law_some_here", "_law_one"]
theorem sc_law : FnScope slots_law ["_law_script"] (defScope s_law) := ⟨rfl, rfl, rfl, by decide +kernel, rfl, by decide +kernel, by decide +kernel⟩
structure Tx (K : PySem.W.Frag) (mg : Str → Option Value) where
  a_is_whole : Addr
  fd_is_whole : FuncData
  F_is_whole : Fun K "is_whole" "is_whole" s_is_whole a_is_whole fd_is_whole
  m_is_whole : mg "is_whole" = some (.ref a_is_whole)
  b_is_whole : Binds K fd_is_whole ["thing", "low", "high"] []
  a_is_name : Addr
  fd_is_name : FuncData
  F_is_name : Fun K "is_name" "is_name" s_is_name a_is_name fd_is_name
  m_is_name : mg "is_name" = some (.ref a_is_name)
  b_is_name : Binds K fd_is_name ["thing"] []
  a_number_in : Addr
  fd_number_in : FuncData
  F_number_in : Fun K "number_in" "number_in" s_number_in a_number_in fd_number_in
  m_number_in : mg "number_in" = some (.ref a_number_in)
  b_number_in : Binds K fd_number_in ["thing", "low", "high"] []
  a_is_entry : Addr
  fd_is_entry : FuncData
  F_is_entry : Fun K "is_entry" "is_entry" s_is_entry a_is_entry fd_is_entry
  m_is_entry : mg "is_entry" = some (.ref a_is_entry)
  b_is_entry : Binds K fd_is_entry ["thing"] []
  a_is_row : Addr
  fd_is_row : FuncData
  F_is_row : Fun K "is_row" "is_row" s_is_row a_is_row fd_is_row
  m_is_row : mg "is_row" = some (.ref a_is_row)
  b_is_row : Binds K fd_is_row ["thing"] []
  a_need_names : Addr
  fd_need_names : FuncData
  F_need_names : Fun K "need_names" "need_names" s_need_names a_need_names fd_need_names
  m_need_names : mg "need_names" = some (.ref a_need_names)
  b_need_names : Binds K fd_need_names ["thing"] []
  a_is_row_of : Addr
  fd_is_row_of : FuncData
  F_is_row_of : Fun K "is_row_of" "is_row_of" s_is_row_of a_is_row_of fd_is_row_of
  m_is_row_of : mg "is_row_of" = some (.ref a_is_row_of)
  b_is_row_of : Binds K fd_is_row_of ["names", "thing"] []
  a_need_rows_of : Addr
  fd_need_rows_of : FuncData
  F_need_rows_of : Fun K "need_rows_of" "need_rows_of" s_need_rows_of a_need_rows_of fd_need_rows_of
  m_need_rows_of : mg "need_rows_of" = some (.ref a_need_rows_of)
  b_need_rows_of : Binds K fd_need_rows_of ["names", "thing"] []
  a_in_order : Addr
  fd_in_order : FuncData
  F_in_order : Fun K "in_order" "in_order" s_in_order a_in_order fd_in_order
  m_in_order : mg "in_order" = some (.ref a_in_order)
  b_in_order : Binds K fd_in_order ["names", "row"] []
  a_rows_text : Addr
  fd_rows_text : FuncData
  F_rows_text : Fun K "rows_text" "rows_text" s_rows_text a_rows_text fd_rows_text
  m_rows_text : mg "rows_text" = some (.ref a_rows_text)
  b_rows_text : Binds K fd_rows_text ["names", "rows"] []
  a_row_in : Addr
  fd_row_in : FuncData
  F_row_in : Fun K "row_in" "row_in" s_row_in a_row_in fd_row_in
  m_row_in : mg "row_in" = some (.ref a_row_in)
  b_row_in : Binds K fd_row_in ["names", "words"] []
  a_read_rows : Addr
  fd_read_rows : FuncData
  F_read_rows : Fun K "read_rows" "read_rows" s_read_rows a_read_rows fd_read_rows
  m_read_rows : mg "read_rows" = some (.ref a_read_rows)
  b_read_rows : Binds K fd_read_rows ["names", "text"] []
  a_w_cell : Addr
  fd_w_cell : FuncData
  F_w_cell : Fun K "_law_cell" "_law_cell" s_w_cell a_w_cell fd_w_cell
  m_w_cell : mg "_law_cell" = some (.ref a_w_cell)
  b_w_cell : Binds K fd_w_cell ["_law_script", "_law_k"] []
  a_w_box : Addr
  fd_w_box : FuncData
  F_w_box : Fun K "_law_box" "_law_box" s_w_box a_w_box fd_w_box
  m_w_box : mg "_law_box" = some (.ref a_w_box)
  b_w_box : Binds K fd_w_box ["_law_cell_here"] []
  a_w_take : Addr
  fd_w_take : FuncData
  F_w_take : Fun K "_law_take" "_law_take" s_w_take a_w_take fd_w_take
  m_w_take : mg "_law_take" = some (.ref a_w_take)
  b_w_take : Binds K fd_w_take ["_law_box_here", "_law_many"] []
  a_w_names : Addr
  fd_w_names : FuncData
  F_w_names : Fun K "_law_names" "_law_names" s_w_names a_w_names fd_w_names
  m_w_names : mg "_law_names" = some (.ref a_w_names)
  b_w_names : Binds K fd_w_names ["_law_box_here", "_law_many"] []
  a_w_number : Addr
  fd_w_number : FuncData
  F_w_number : Fun K "_law_number" "_law_number" s_w_number a_w_number fd_w_number
  m_w_number : mg "_law_number" = some (.ref a_w_number)
  b_w_number : Binds K fd_w_number ["_law_box_here"] []
  a_w_row : Addr
  fd_w_row : FuncData
  F_w_row : Fun K "_law_row" "_law_row" s_w_row a_w_row fd_w_row
  m_w_row : mg "_law_row" = some (.ref a_w_row)
  b_w_row : Binds K fd_w_row ["_law_box_here", "_law_names_here"] []
  a_w_some : Addr
  fd_w_some : FuncData
  F_w_some : Fun K "_law_some" "_law_some" s_w_some a_w_some fd_w_some
  m_w_some : mg "_law_some" = some (.ref a_w_some)
  b_w_some : Binds K fd_w_some ["_law_box_here"] []
  a_w_ordered : Addr
  fd_w_ordered : FuncData
  F_w_ordered : Fun K "_law_ordered" "_law_ordered" s_w_ordered a_w_ordered fd_w_ordered
  m_w_ordered : mg "_law_ordered" = some (.ref a_w_ordered)
  b_w_ordered : Binds K fd_w_ordered ["_law_names_here", "_law_row_here"] []
  a_w_rows : Addr
  fd_w_rows : FuncData
  F_w_rows : Fun K "_law_rows" "_law_rows" s_w_rows a_w_rows fd_w_rows
  m_w_rows : mg "_law_rows" = some (.ref a_w_rows)
  b_w_rows : Binds K fd_w_rows ["_law_box_here", "_law_names_here"] []
  a_w_text : Addr
  fd_w_text : FuncData
  F_w_text : Fun K "_law_text" "_law_text" s_w_text a_w_text fd_w_text
  m_w_text : mg "_law_text" = some (.ref a_w_text)
  b_w_text : Binds K fd_w_text ["_law_names_here", "_law_rows_here"] []
  a_w_right : Addr
  fd_w_right : FuncData
  F_w_right : Fun K "_law_right" "_law_right" s_w_right a_w_right fd_w_right
  m_w_right : mg "_law_right" = some (.ref a_w_right)
  b_w_right : Binds K fd_w_right ["_law_names_here", "_law_rows_here"] []
  a_law : Addr
  fd_law : FuncData
  F_law : Fun K "law" "law" s_law a_law fd_law
  m_law : mg "law" = some (.ref a_law)
  b_law : Binds K fd_law ["_law_script"] []
  z_all : mg "all" = none
  z_bool : mg "bool" = none
  z_dict : mg "dict" = none
  z_enumerate : mg "enumerate" = none
  z_int : mg "int" = none
  z_isinstance : mg "isinstance" = none
  z_len : mg "len" = none
  z_list : mg "list" = none
  z_max : mg "max" = none
  z_min : mg "min" = none
  z_range : mg "range" = none
  z_repr : mg "repr" = none
  z_str : mg "str" = none
  z_tuple : mg "tuple" = none
  z_zip : mg "zip" = none
  t_FIGURES : Tok
  c_FIGURES : mg "FIGURES" = some (.str "0123456789" t_FIGURES)
  t_LETTERS : Tok
  c_LETTERS : mg "LETTERS" = some (.str "abcdefghijklmnopqrstuvwxyz" t_LETTERS)
  t_MOST_ENTRIES : Tok
  c_MOST_ENTRIES : mg "MOST_ENTRIES" = some (.int 12 t_MOST_ENTRIES)
  t_MOST_NAMES : Tok
  c_MOST_NAMES : mg "MOST_NAMES" = some (.int 12 t_MOST_NAMES)
  t_MOST_NUMBER : Tok
  c_MOST_NUMBER : mg "MOST_NUMBER" = some (.int 10000000000000 t_MOST_NUMBER)
local macro_rules | `(tactic| keq_rows) => `(tactic| first
  | ((with_reducible show tVar _ _ _ _); refine w_var rfl ?_)
  | with_reducible refine w_seq ?_
  | with_reducible refine w_c ?_
  | with_reducible refine w_op ?_
  | with_reducible refine w_un ?_
  | with_reducible refine w_rI0 ?_
  | with_reducible refine w_rU ?_
  | with_reducible refine w_eqI ?_
  | with_reducible refine w_neI ?_
  | with_reducible refine w_eqS ?_
  | with_reducible refine w_neS ?_
  | with_reducible refine w_test ?_
  | with_reducible refine w_tB ?_
  | with_reducible refine w_exb ?_
  | with_reducible refine w_exi ?_
  | with_reducible refine w_exs ?_
  | with_reducible refine w_exli ?_
  | with_reducible refine w_exls ?_
  | with_reducible refine w_exlii ?_
  | with_reducible refine w_exss ?_
  | with_reducible refine w_and ?_
  | with_reducible refine w_or ?_
  | with_reducible refine w_not ?_
  | with_reducible refine w_andV ?_
  | with_reducible refine w_orV ?_
  | with_reducible refine w_notV ?_
  | with_reducible refine w_if ?_
  | with_reducible refine w_chain ?_
  | with_reducible refine w_next ?_
  | with_reducible refine w_brk ?_
  | with_reducible refine w_cont ?_
  | with_reducible refine w_drop ?_
  | with_reducible refine w_ret ?_
  | with_reducible refine w_retN ?_
  | with_reducible refine w_ifS ?_
  | with_reducible refine w_asg ?_
  | with_reducible refine w_gName ?_
  | with_reducible refine w_gSub ?_
  | with_reducible refine w_nil ?_
  | with_reducible refine w_cons ?_
  | with_reducible refine w_tup ?_
  | with_reducible refine w_lst ?_
  | with_reducible refine w_call ?_
  | with_reducible refine w_cb ?_
  | with_reducible refine w_noPart ?_
  | with_reducible refine w_part ?_
  | with_reducible refine w_sl ?_
  | with_reducible refine w_bm ?_
  | with_reducible refine w_bm0 ?_
  | with_reducible refine w_dnewK ?_
  | with_reducible refine w_dget ?_
  | with_reducible refine w_din ?_
  | with_reducible refine w_dnotin ?_
  | with_reducible refine w_yes ?_
  | with_reducible refine w_allS ?_
  | with_reducible refine w_insign ?_
  | with_reducible refine w_dput ?_
  | with_reducible refine w_iItems ?_
  | with_reducible refine w_iVals ?_
  | with_reducible refine w_pick ?_
  | with_reducible refine w_jsC ?_
  | with_reducible refine w_jsN ?_
  | with_reducible refine w_fmt ?_
  | with_reducible refine w_tyS ?_
  | with_reducible refine w_nonEq ?_
  | with_reducible refine w_iZip ?_
  | with_reducible refine w_splitE ?_
  | with_reducible refine w_iEnum ?_
  | with_reducible refine w_lc ?_
  | with_reducible refine w_for ?_
  | with_reducible refine w_iStr ?_
  | with_reducible refine w_iList ?_
  | with_reducible refine w_iTup ?_
  | with_reducible refine w_iRng1 ?_
  | ((with_reducible show (if _ = true then _ else _)); refine w_ifT rfl ?_)
  | ((with_reducible show (if _ = true then _ else _)); refine w_ifF rfl ?_)
  | dsimp only)
local macro_rules | `(tactic| keq_hits) => `(tactic| repeat keq_rows)
/-- is_whole -/
def isWhole (lo hi : Int) : PyData → Bool
  | .int i => decide (lo ≤ i) && decide (i ≤ hi)
  | _ => false
def sp_is_whole (K : PySem.W.Frag) : Sp := fun vs H Q _ => ∃ v d lo hi, vs = [v, .int lo, .int hi] ∧ Is K H v d ∧ Q (.bl (isWhole lo hi d)) H
section
variable {P : Program} {w : World} {K : PySem.W.Frag} {mg : Str → Option Value} {base : Heap}
theorem ok_is_whole (T : Tx K mg) : FnOk P w K mg base CX0 1 T.a_is_whole T.fd_is_whole ["thing", "low", "high"] (sp_is_whole K) := by
  refine T.F_is_whole.ok sc_is_whole (fun vs H Q E h => ?_) (fun cdv A outer s H vs Q E hr h => ?_)
  · obtain ⟨v, d, lo, hi, rfl, _⟩ := h; rfl
  · have hu := hu_of hr
    obtain ⟨v, d, lo, hi, rfl, hd, k⟩ := h
    refine ⟨_, (pss_cons (ps_if (PW.pt (pw_or (pt_not (pt_val (pe_callB (call_isi_K (K := K) rfl) (by rfl) T.z_isinstance (by decide +kernel) (pa_cons (pv 0) (pa_cons (pe_bltnT (n := "int") (by rfl) T.z_int (by decide +kernel)) pa_nil))))) (pw_or1 (pt_val (pe_callB (call_isi_K (K := K) rfl) (by rfl) T.z_isinstance (by decide +kernel) (pa_cons (pv 0) (pa_cons (pe_bltnT (n := "bool") (by rfl) T.z_bool (by decide +kernel)) pa_nil))))))) (pss_one (ps_ret pe_bl)) pss_nil)
      (pss_one (ps_ret (pe_chain op_le op_le (pv 1) (pv 0) (pv 2))))), ?_⟩
    keq_hits
    refine w_isi (by simp) hd ?_
    keq_hits
    cases hd with
    | int i =>
      keq_hits
      refine w_isi (by simp) (.int i) ?_
      keq_hits
      refine w_if2 (fun e => ?_) (fun e => ?_)
      · keq_hits
        have e2 : isWhole lo hi (.int i) = decide (i ≤ hi) := by show (decide (lo ≤ i) && decide (i ≤ hi)) = _; rw [e]; rfl
        rw [e2] at k; exact k
      · have e2 : isWhole lo hi (.int i) = false := by show (decide (lo ≤ i) && decide (i ≤ hi)) = _; rw [e]; rfl
        rw [e2] at k; exact k
    | bl b =>
      keq_hits
      refine w_isi (by simp) (.bl b) ?_
      keq_hits
      exact k
    | _ => keq_hits; exact k
end

/-- is_name -/
def isLetter (c : Nat) : Bool := decide (c ∈ ("abcdefghijklmnopqrstuvwxyz" : Str).cps.toList)
def nameStr (s : Str) : Bool := decide (1 ≤ s.length) && decide (s.length ≤ 6) && s.cps.toList.all isLetter
def isName : PyData → Bool
  | .str s => nameStr s
  | _ => false
theorem nameStr_lo {x : Str} (h : ¬ 1 ≤ x.length) : nameStr x = false := by unfold nameStr; rw [decide_eq_false h]; rfl
theorem nameStr_hi {x : Str} (h : ¬ x.length ≤ 6) : nameStr x = false := by unfold nameStr; rw [decide_eq_false h, Bool.and_false]; rfl
theorem nameStr_mid {x : Str} (h : 1 ≤ x.length) (h' : x.length ≤ 6) : nameStr x = x.cps.toList.all isLetter := by
  unfold nameStr; rw [decide_eq_true h, decide_eq_true h']; rfl
def sp_is_name (K : PySem.W.Frag) : Sp := fun vs H Q _ => ∃ v d, vs = [v] ∧ Is K H v d ∧ (∀ s, d = .str s → s.length ≤ sizeLine) ∧ ∀ H', Same H H' → Q (.bl (isName d)) H'
section
variable {P : Program} {w : World} {K : PySem.W.Frag} {mg : Str → Option Value} {base : Heap}
theorem ok_is_name (T : Tx K mg) : FnOk P w K mg base CX0 1 T.a_is_name T.fd_is_name ["thing"] (sp_is_name K) := by
  refine T.F_is_name.ok sc_is_name (fun vs H Q E h => ?_) (fun cdv A outer s H vs Q E hr h => ?_)
  · obtain ⟨v, d, rfl, _⟩ := h; rfl
  · have hu := hu_of hr
    obtain ⟨v, d, rfl, hd, hz, k⟩ := h
    refine ⟨_, (pss_cons (ps_if (PW.pt (pw_or (pt_not (pt_val (pe_callB (call_isi_K (K := K) rfl) (by rfl) T.z_isinstance (by decide +kernel) (pa_cons (pv 0) (pa_cons (pe_bltnT (n := "str") (by rfl) T.z_str (by decide +kernel)) pa_nil))))) (pw_or1 (pt_not (pt_chain op_le op_le pe_int (pe_callB call_len_str (by rfl) T.z_len (by decide +kernel) (pa_cons (pv 0) pa_nil)) pe_int))))) (pss_one (ps_ret pe_bl)) pss_nil)
      (pss_one (ps_ret (pe_allS (show 1 < 2 by decide) (pe_callB (cr_allK (K := K) rfl rfl) (by rfl) T.z_all (by decide +kernel) (pa_cons (pe_lc (own := [("sign", 1)]) rfl sc_is_name.nd (pi_str (pv 0)) (blkOk_by (N := slots_is_name) (sc := defScope s_is_name) (by decide +kernel)) (fun _ _ _ _ _ => by exact (pg_name (i := 1) sc_is_name.nd rfl (Or.inl rfl))) (fun _ _ _ _ _ => pts_nil) (fun _ _ _ _ _ => by exact (pe_cmpR op_in_sign (pv 1) (pe_globS rfl T.c_LETTERS) (by rfl)))) pa_nil)))))), ?_⟩
    keq_hits
    refine w_isi (by simp) hd ?_
    keq_hits
    cases hd with
    | str x =>
      have k' : ∀ H', Same H H' → Q (V.bl (nameStr x)) H' := k
      keq_hits
      refine ⟨hz x rfl, ?_⟩
      keq_hits
      refine w_ifd (fun e => ?_) (fun e => ?_)
      · keq_hits
        refine w_ifnd (fun e2 => ?_) (fun e2 => ?_)
        · keq_hits
          rw [nameStr_hi (by omega)] at k'
          exact k' _ (Same.refl _)
        · keq_hits
          refine ⟨small1000 (by omega), fun H' q => ?_⟩
          rw [nameStr_mid (by omega) (by omega)] at k'
          exact k' _ q
      · keq_hits
        rw [nameStr_lo (by omega)] at k'
        exact k' _ (Same.refl _)
    | _ => keq_hits; exact k _ (Same.refl _)
end

/-- number_in -/
def isFig (c : Nat) : Bool := decide (c ∈ ("0123456789" : Str).cps.toList)
theorem isFig_iff {c : Nat} : isFig c = true ↔ 48 ≤ c ∧ c ≤ 57 := by
  unfold isFig
  rw [decide_eq_true_eq, show ("0123456789" : Str).cps.toList = [48, 49, 50, 51, 52, 53, 54, 55, 56, 57] from by decide +kernel]
  simp only [List.mem_cons, List.not_mem_nil, or_false]
  omega
def numOk (s : Str) : Bool := decide (1 ≤ s.length) && decide (s.length ≤ 30) && s.cps.toList.all isFig && !(decide (s.cps.toList.head? = some 48) && !decide (s = ("0" : Str)))
def numVal (s : Str) : Int := ((NumText.digitsVal s.cps.toList : Nat) : Int)
def numStr (lo hi : Int) (s : Str) : Option Int := if numOk s = true then (if lo ≤ numVal s ∧ numVal s ≤ hi then some (numVal s) else none) else none
def numIn (lo hi : Int) : PyData → Option Int
  | .str s => numStr lo hi s
  | _ => none
theorem numStr_no {lo hi : Int} {s : Str} (h : numOk s = false) : numStr lo hi s = none := by unfold numStr; rw [if_neg (by rw [h]; decide)]
theorem numStr_out {lo hi : Int} {s : Str} (h : ¬ (lo ≤ numVal s ∧ numVal s ≤ hi)) : numStr lo hi s = none := by unfold numStr; split <;> first | rw [if_neg h] | rfl
theorem numStr_in {lo hi : Int} {s : Str} (h : numOk s = true) (h' : lo ≤ numVal s ∧ numVal s ≤ hi) : numStr lo hi s = some (numVal s) := by unfold numStr; rw [if_pos h, if_pos h']
theorem numOk_lo {x : Str} (h : ¬ 1 ≤ x.length) : numOk x = false := by unfold numOk; rw [decide_eq_false h]; rfl
theorem numOk_hi {x : Str} (h : ¬ x.length ≤ 30) : numOk x = false := by unfold numOk; rw [decide_eq_false h, Bool.and_false]; rfl
theorem numOk_all {x : Str} (h : x.cps.toList.all isFig = false) : numOk x = false := by unfold numOk; rw [h]; simp
theorem numOk_mid {x : Str} (h : 1 ≤ x.length) (h' : x.length ≤ 30) (h2 : x.cps.toList.all isFig = true) : numOk x = !(decide (x.cps.toList.head? = some 48) && !decide (x = ("0" : Str))) := by
  unfold numOk; rw [decide_eq_true h, decide_eq_true h', h2]; rfl
theorem fig_digits {x : Str} (h : x.cps.toList.all isFig = true) : NumText.AllDigits x.cps.toList := fun c hc => isFig_iff.mp (List.all_eq_true.mp h c hc)
theorem numVal_text {x : Str} (h : 1 ≤ x.length) (h' : x.length ≤ 30) (h2 : x.cps.toList.all isFig = true) : PySem.intText? x = some (numVal x) :=
  intText_digits (fig_digits h2) (fun z => by have e : x.length = x.cps.toList.length := by rw [Array.length_toList]; rfl
                                              rw [z] at e; simp at e; omega) (by omega)
def sp_number_in (K : PySem.W.Frag) : Sp := fun vs H Q _ => ∃ v d lo hi, vs = [v, .int lo, .int hi] ∧ Is K H v d ∧ (∀ s, d = .str s → s.length ≤ sizeLine) ∧ ∀ H', Same H H' → Q (optI (numIn lo hi d)) H'
section
variable {P : Program} {w : World} {K : PySem.W.Frag} {mg : Str → Option Value} {base : Heap}
theorem ok_number_in (T : Tx K mg) : FnOk P w K mg base CX0 1 T.a_number_in T.fd_number_in ["thing", "low", "high"] (sp_number_in K) := by
  refine T.F_number_in.ok sc_number_in (fun vs H Q E h => ?_) (fun cdv A outer s H vs Q E hr h => ?_)
  · obtain ⟨v, d, lo, hi, rfl, _⟩ := h; rfl
  · have hu := hu_of hr
    obtain ⟨v, d, lo, hi, rfl, hd, hz, k⟩ := h
    refine ⟨_, (pss_cons (ps_if (PW.pt (pw_or (pt_not (pt_val (pe_callB (call_isi_K (K := K) rfl) (by rfl) T.z_isinstance (by decide +kernel) (pa_cons (pv 0) (pa_cons (pe_bltnT (n := "str") (by rfl) T.z_str (by decide +kernel)) pa_nil))))) (pw_or1 (pt_not (pt_chain op_le op_le pe_int (pe_callB call_len_str (by rfl) T.z_len (by decide +kernel) (pa_cons (pv 0) pa_nil)) pe_int))))) (pss_one (ps_ret pe_non)) pss_nil)
      (pss_cons (ps_if (PW.pt (pw_or (pt_not (pt_val (pe_allS (show 4 < 5 by decide) (pe_callB (cr_allK (K := K) rfl rfl) (by rfl) T.z_all (by decide +kernel) (pa_cons (pe_lc (own := [("sign", 4)]) rfl sc_number_in.nd (pi_str (pv 0)) (blkOk_by (N := slots_number_in) (sc := defScope s_number_in) (by decide +kernel)) (fun _ _ _ _ _ => by exact (pg_name (i := 4) sc_number_in.nd rfl (Or.inl rfl))) (fun _ _ _ _ _ => pts_nil) (fun _ _ _ _ _ => by exact (pe_cmpR op_in_sign (pv 4) (pe_globS rfl T.c_FIGURES) (by rfl)))) pa_nil))))) (pw_or1 (PW.pt (pw_and (pt_cmpR op_eq (pe_ix ix_str (pv 0) pe_int (fun _ _ => rfl)) pe_str (nomark _)) (pw_and1 (pt_cmpR op_ne (pv 0) pe_str (nomark _)))))))) (pss_one (ps_ret pe_non)) pss_nil)
      (pss_cons (ps_set (i := 3) sc_number_in.nd rfl (Or.inl rfl) (pe_callTy call_int_str (by rfl) T.z_int (by decide +kernel) (pa_cons (pv 0) pa_nil)))
      (pss_cons (ps_if (pt_not (pt_chain op_le op_le (pv 1) (pv 3) (pv 2))) (pss_one (ps_ret pe_non)) pss_nil)
      (pss_one (ps_ret (pv 3))))))), ?_⟩
    keq_hits
    refine w_isi (by simp) hd ?_
    keq_hits
    cases hd with
    | str x =>
      have k' : ∀ H', Same H H' → Q (optI (numStr lo hi x)) H' := k
      keq_hits
      refine ⟨hz x rfl, ?_⟩
      keq_hits
      refine w_ifd (fun e => ?_) (fun e => ?_)
      · keq_hits
        refine w_ifnd (fun e2 => ?_) (fun e2 => ?_)
        · keq_hits
          rw [numStr_no (numOk_hi (by omega))] at k'
          exact k' _ (Same.refl _)
        · keq_hits
          refine ⟨small1000 (by omega), fun H' q => ?_⟩
          keq_hits
          refine w_ifn (fun e3 => ?_) (fun e3 => ?_)
          · keq_hits
            rw [numStr_no (numOk_all e3)] at k'
            exact k' _ q
          · have ex : ∃ c, x.cps.toList.head? = some c := by
              cases hx : x.cps.toList with
              | nil => have e5 : x.length = x.cps.toList.length := by rw [Array.length_toList]; rfl
                       rw [hx] at e5; simp at e5; omega
              | cons c cs => exact ⟨c, rfl⟩
            obtain ⟨c, hc⟩ := ex
            keq_hits
            refine w_ixS (c := c) (hz x rfl) (atI_nat' (n := 0) (by rw [← List.head?_eq_getElem?]; exact hc)) ?_
            keq_hits
            have hm := numOk_mid (x := x) (by omega) (by omega) e3
            refine w_ifd (fun h1 => ?_) (fun h1 => ?_)
            · have h1' : x.cps.toList.head? = some 48 := by rw [hc]; have := congrArg (fun s : Str => s.cps.toList.head?) h1; exact this.trans (by decide +kernel)
              keq_hits
              refine w_ifnd (fun h2 => ?_) (fun h2 => ?_)
              · keq_hits
                rw [numStr_no (by rw [hm, decide_eq_true h1', decide_eq_false h2]; rfl)] at k'
                exact k' _ q
              · have hok : numOk x = true := by rw [hm, decide_eq_true h2]; simp
                keq_hits
                refine ⟨x, _, rfl, numVal_text (by omega) (by omega) e3, by omega, ?_⟩
                keq_hits
                refine w_ifd (fun h3 => ?_) (fun h3 => ?_)
                · keq_hits
                  refine w_ifnd (fun h4 => ?_) (fun h4 => ?_)
                  · keq_hits
                    rw [numStr_out (fun z => h4 z.2)] at k'
                    exact k' _ q
                  · keq_hits
                    rw [numStr_in hok ⟨h3, h4⟩] at k'
                    exact k' _ q
                · keq_hits
                  rw [numStr_out (fun z => h3 z.1)] at k'
                  exact k' _ q
            · have h1' : ¬ x.cps.toList.head? = some 48 := fun z => h1 (by rw [hc] at z; cases z; decide +kernel)
              have hok : numOk x = true := by rw [hm, decide_eq_false h1']; simp
              keq_hits
              refine ⟨x, _, rfl, numVal_text (by omega) (by omega) e3, by omega, ?_⟩
              keq_hits
              refine w_ifd (fun h3 => ?_) (fun h3 => ?_)
              · keq_hits
                refine w_ifnd (fun h4 => ?_) (fun h4 => ?_)
                · keq_hits
                  rw [numStr_out (fun z => h4 z.2)] at k'
                  exact k' _ q
                · keq_hits
                  rw [numStr_in hok ⟨h3, h4⟩] at k'
                  exact k' _ q
              · keq_hits
                rw [numStr_out (fun z => h3 z.1)] at k'
                exact k' _ q
      · keq_hits
        rw [numStr_no (numOk_lo (by omega))] at k'
        exact k' _ (Same.refl _)
    | _ => keq_hits; exact k _ (Same.refl _)
end

/-- is_entry -/
def entry? : PyData → Option (Str × Int)
  | .tuple [.str n, .int i] => if (nameStr n && isWhole 0 10000000000000 (.int i)) = true then some (n, i) else none
  | _ => none
def isEntry : PyData → Bool
  | .tuple [a, b] => isName a && isWhole 0 10000000000000 b
  | _ => false
theorem ite_isSome {α : Type} (b : Bool) (x : α) : b = (if b = true then some x else none).isSome := by cases b <;> rfl
theorem isEntry_some {d : PyData} : isEntry d = (entry? d).isSome := by
  unfold isEntry entry?
  split
  · rename_i a b
    cases a <;> simp only [isName, Bool.false_and, Option.isSome_none] <;> try rfl
    cases b <;> simp only [isWhole, Bool.and_false, Option.isSome_none] <;> try rfl
    exact ite_isSome _ _
  · rename_i h
    split
    · rename_i n i _; exact absurd rfl (h _ _)
    · rfl
def sp_is_entry (K : PySem.W.Frag) : Sp := fun vs H Q _ => ∃ v d, vs = [v] ∧ Is K H v d ∧ small d ∧ ∀ H', Same H H' → Q (.bl (isEntry d)) H'
section
variable {P : Program} {w : World} {K : PySem.W.Frag} {mg : Str → Option Value} {base : Heap}
theorem ok_is_entry (T : Tx K mg) : FnOk P w K mg base CX0 2 T.a_is_entry T.fd_is_entry ["thing"] (sp_is_entry K) := by
  refine T.F_is_entry.ok sc_is_entry (fun vs H Q E h => ?_) (fun cdv A outer s H vs Q E hr h => ?_)
  · obtain ⟨v, d, rfl, _⟩ := h; rfl
  · have hu := hu_of hr
    obtain ⟨v, d, rfl, hd, hz, k⟩ := h
    refine ⟨_, (pss_cons (ps_if (PW.pt (pw_or (pt_not (pt_val (pe_callB (call_isi_K (K := K) rfl) (by rfl) T.z_isinstance (by decide +kernel) (pa_cons (pv 0) (pa_cons (pe_bltnT (n := "tuple") (by rfl) T.z_tuple (by decide +kernel)) pa_nil))))) (pw_or1 (pt_cmpR op_ne (pe_callB (call_len_seqK (K := K) rfl) (by rfl) T.z_len (by decide +kernel) (pa_cons (pv 0) pa_nil)) pe_int (nomark _))))) (pss_one (ps_ret pe_bl)) pss_nil)
      (pss_one (ps_ret (pe_and (pe_call (ok_is_name T) (hr.mono (by decide)) (by rfl) T.m_is_name T.F_is_name.kp T.b_is_name .nil pass0 (pa_cons (pe_ix (ix_tupK (K := K) rfl) (pv 0) pe_int (fun _ _ => rfl)) pa_nil)) (pe_one (pe_call (ok_is_whole T) (hr.mono (by decide)) (by rfl) T.m_is_whole T.F_is_whole.kp T.b_is_whole .nil pass0 (pa_cons (pe_ix (ix_tupK (K := K) rfl) (pv 0) pe_int (fun _ _ => rfl)) (pa_cons pe_int (pa_cons (pe_globI rfl T.c_MOST_NUMBER) pa_nil))))))))), ?_⟩
    keq_hits
    refine w_isi (by simp) hd ?_
    keq_hits
    cases hd with
    | @tup a xs ds hs hx =>
      keq_hits
      refine w_lenT hs ?_
      keq_hits
      have hl := hx.length
      refine w_ifnd (fun e => ?_) (fun e => ?_)
      · keq_hits
        have e2 : isEntry (.tuple ds) = false := by
          match ds, hl with
          | [], _ => rfl
          | [_], _ => rfl
          | [_, _], hl => exact absurd (by rw [hl]; rfl) e
          | _ :: _ :: _ :: _, _ => rfl
        rw [e2] at k; exact k _ (Same.refl _)
      · match ds, hx, hl, hz, k with
        | [a0, b0], .cons h0 (.cons h1 .nil), _, hz, k =>
          have hz' : small a0 ∧ small b0 ∧ True := by simpa [small, smallAll] using hz
          have k' : ∀ H', Same H H' → Q (.bl (isName a0 && isWhole 0 10000000000000 b0)) H' := k
          keq_hits
          refine w_ixT hs rfl ?_
          keq_hits
          refine ⟨_, _, rfl, h0, hz'.1.name, fun H' q => ?_⟩
          keq_hits
          refine w_if2 (fun e3 => ?_) (fun e3 => ?_)
          · keq_hits
            refine w_ixT (q.tup hs) rfl ?_
            keq_hits
            refine ⟨_, _, _, _, rfl, h1.mono q, ?_⟩
            rw [e3] at k'
            exact k' _ q
          · rw [e3] at k'
            exact k' _ q
        | [], _, hl, _, _ => rw [hl] at e; simp at e
        | [_], _, hl, _, _ => rw [hl] at e; simp at e
        | _ :: _ :: _ :: _, _, hl, _, _ => rw [hl] at e; exfalso; simp at e; omega
    | _ => keq_hits; exact k _ (Same.refl _)
end

/-- is_row -/
def rowGo : List Str → List PyData → Bool
  | _, [] => true
  | ns, d :: ds => match entry? d with
    | some p => !decide (p.1 ∈ ns) && rowGo (ns ++ [p.1]) ds
    | none => false
def isRow : PyData → Bool
  | .list ds => decide (ds.length ≤ 12) && rowGo [] ds
  | _ => false
theorem entry_inv {d : PyData} {p : Str × Int} (h : entry? d = some p) : d = .tuple [.str p.1, .int p.2] := by
  unfold entry? at h
  split at h
  · split at h
    · cases h; rfl
    · cases h
  · cases h
def sp_is_row (K : PySem.W.Frag) : Sp := fun vs H Q _ => ∃ v d, vs = [v] ∧ Is K H v d ∧ small d ∧ ∀ H', Same H H' → Q (.bl (isRow d)) H'
section
variable {P : Program} {w : World} {K : PySem.W.Frag} {mg : Str → Option Value} {base : Heap}
theorem ok_is_row (T : Tx K mg) : FnOk P w K mg base CX0 3 T.a_is_row T.fd_is_row ["thing"] (sp_is_row K) := by
  refine T.F_is_row.ok sc_is_row (fun vs H Q E h => ?_) (fun cdv A outer s H vs Q E hr h => ?_)
  · obtain ⟨v, d, rfl, _⟩ := h; rfl
  · have hu := hu_of hr
    obtain ⟨v, d, rfl, hd, hz, k⟩ := h
    refine ⟨_, (pss_cons (ps_if (PW.pt (pw_or (pt_not (pt_val (pe_callB (call_isi_K (K := K) rfl) (by rfl) T.z_isinstance (by decide +kernel) (pa_cons (pv 0) (pa_cons (pe_bltnT (n := "list") (by rfl) T.z_list (by decide +kernel)) pa_nil))))) (pw_or1 (pt_cmpR op_gt (pe_callB (call_len_seqK (K := K) rfl) (by rfl) T.z_len (by decide +kernel) (pa_cons (pv 0) pa_nil)) (pe_globI rfl T.c_MOST_ENTRIES) (nomark _))))) (pss_one (ps_ret pe_bl)) pss_nil)
      (pss_cons (ps_set (i := 1) sc_is_row.nd rfl (Or.inl rfl) (pe_lst pa_nil))
      (pss_cons (ps_for PassesOwn.never rfl (pi_listK (K := K) rfl (pv 0)) (pg_name (i := 2) sc_is_row.nd rfl (Or.inl rfl)) (pss_cons (ps_if (PW.pt (pw_or (pt_not (pt_val (pe_call (ok_is_entry T) (hr.mono (by decide)) (by rfl) T.m_is_entry T.F_is_entry.kp T.b_is_entry .nil pass0 (pa_cons (pv 2) pa_nil)))) (pw_or1 (pt_cmpR (op_in_seqK (K := K) rfl) (pe_ix (ix_tupK (K := K) rfl) (pv 2) pe_int (fun _ _ => rfl)) (pv 1) (by rfl))))) (pss_one (ps_ret pe_bl)) pss_nil)
      (pss_one (ps_expr (pe_bmK (K := K) rfl PySem.F.plainAttrs_list PySem.F.slot_list_append PySem.F.type_list_append mt_append (pv 1) (pa_cons (pe_ix (ix_tupK (K := K) rfl) (pv 2) pe_int (fun _ _ => rfl)) pa_nil))))))
      (pss_one (ps_ret pe_bl))))), ?_⟩
    keq_hits
    refine w_isi (by simp) hd ?_
    keq_hits
    cases hd with
    | @lst a xs ds hs hx =>
      have hl := hx.length
      have hz' : smallAll ds := by simpa [small] using hz
      have k' : ∀ H', Same H H' → Q (.bl (decide (ds.length ≤ 12) && rowGo [] ds)) H' := k
      keq_hits
      refine w_lenL hs ?_
      keq_hits
      rw [hl]
      refine w_ifd (fun e => ?_) (fun e => ?_)
      · keq_hits
        rw [decide_eq_false (show ¬ ds.length ≤ 12 by omega)] at k'
        exact k' _ (Same.refl _)
      · rw [decide_eq_true (show ds.length ≤ 12 by omega), Bool.true_and] at k'
        keq_hits
        refine ⟨Nat.zero_le _, fun l hl0 => ?_⟩
        keq_hits
        refine w_exl (xs := xs) (Same.seq (Same.new hl0) hs) ?_
        refine for_it walk_list (fun i σ H' => ∃ ns e, σ = [some (V.ref a), some (.ref l), e] ∧ Same H H' ∧ H' l = some (.lst (ns.map V.str)) ∧ ns.length = i ∧ rowGo [] ds = rowGo ns (ds.drop i))
          ⟨[], none, rfl, Same.new hl0, upd_same, rfl, rfl⟩ (fun i σ H' _ ⟨_, _, _, q, _⟩ => q.seq hs) ?_ ?_
        · rintro i x σ H1 H1' hi ⟨ns, e0, rfl, q, hL, hn, hg⟩ ⟨rfl, hx1⟩
          obtain ⟨d, hd1, hd2⟩ := hx.get hx1
          have hdrop : ds.drop i = d :: ds.drop (i + 1) := (List.drop_eq_getElem?_toList_append (l := ds) (i := i)).trans (by rw [hd1]; rfl)
          rw [hdrop] at hg
          keq_hits
          refine ⟨_, _, rfl, hd2.mono q, hz'.get hd1, fun H2 q2 => ?_⟩
          keq_hits
          rw [isEntry_some]
          have hg' : rowGo [] ds = match entry? d with
            | some p => !decide (p.1 ∈ ns) && rowGo (ns ++ [p.1]) (ds.drop (i + 1))
            | none => false := hg
          cases he : entry? d with
          | none =>
            rw [he] at hg'
            keq_hits
            rw [hg'] at k'
            exact k' _ (q.trans q2)
          | some p =>
            rw [he] at hg'
            have hg' : rowGo [] ds = (!decide (p.1 ∈ ns) && rowGo (ns ++ [p.1]) (ds.drop (i + 1))) := hg'
            have hd3 := entry_inv he
            subst hd3
            obtain ⟨b, ys, rfl, hb, hy⟩ := hd2.tuple_inv
            cases hy with
            | cons y0 yt =>
              cases yt with
              | cons y1 yn =>
                cases yn
                have y0' := y0.str_inv
                subst y0'
                keq_hits
                refine w_ixT ((q.trans q2).tup hb) rfl ?_
                keq_hits
                refine w_inStrs (SqL.of (q2 _ _ hL)) ?_
                keq_hits
                refine w_ifd (fun h1 => ?_) (fun h1 => ?_)
                · keq_hits
                  rw [decide_eq_true h1] at hg'
                  rw [hg'] at k'
                  exact k' _ (q.trans q2)
                · keq_hits
                  refine w_tyL (SqL.of (q2 _ _ hL)) ?_
                  keq_hits
                  refine w_ixT ((q.trans q2).tup hb) rfl ?_
                  keq_hits
                  refine w_append (q2 _ _ hL) (by rw [List.length_map]; exact small1000 (by omega)) ?_
                  keq_hits
                  rw [decide_eq_false h1] at hg'
                  exact ⟨ns ++ [p.1], _, rfl, (q.trans q2).mut hl0, by rw [upd_same, List.map_append]; rfl, by rw [List.length_append]; exact congrArg Nat.succ hn, hg'⟩
        · rintro σ H1 ⟨ns, e0, rfl, q, hL, hn, hg⟩
          keq_hits
          rw [hl, List.drop_length] at hg
          rw [hg] at k'
          exact k' _ q
    | _ => keq_hits; exact k _ (Same.refl _)
end

/-- names: one to twelve, unlike -/
structure NamesOk (ns : List Str) : Prop where
  lo : 1 ≤ ns.length
  hi : ns.length ≤ 12
  nm : ∀ n ∈ ns, nameStr n = true
  nd : ns.Nodup
/-- a list or a tuple at v that holds the names ns -/
def NamesAt (K : PySem.W.Frag) (H : Hp) (v : V) (ns : List Str) : Prop := Is K H v (.list (ns.map .str)) ∨ Is K H v (.tuple (ns.map .str))
theorem NamesAt.mono {K : PySem.W.Frag} {H H' : Hp} {v : V} {ns : List Str} (s : Same H H') (h : NamesAt K H v ns) : NamesAt K H' v ns := h.imp (fun h => h.mono s) (fun h => h.mono s)
theorem nameStr_len {n : Str} (h : nameStr n = true) : n.length ≤ 6 := by
  unfold nameStr at h; simp only [Bool.and_eq_true, decide_eq_true_eq] at h; exact h.1.2
theorem nameStr_line {n : Str} (h : nameStr n = true) : n.length ≤ sizeLine := Nat.le_trans (nameStr_len h) (by decide)
def sp_need_names (K : PySem.W.Frag) : Sp := fun vs H Q _ => ∃ v ns, vs = [v] ∧ NamesAt K H v ns ∧ NamesOk ns ∧ ∀ H', Same H H' → Q .non H'
/-- a dict whose keys are the texts ns -/
def seenKv (ns : List Str) : List (Key × V) := ns.map fun n => (Sum.inr n, V.bl true)
theorem valV_seen {n : Str} : ∀ {ns : List Str}, (valV (seenKv ns) (Sum.inr n)).isSome = decide (n ∈ ns)
  | [] => by simp [seenKv, valV]
  | m :: ns => by
    have ih := valV_seen (n := n) (ns := ns)
    unfold valV seenKv at ih ⊢
    rw [List.map_cons, List.find?_cons]
    by_cases h : m = n
    · subst h; simp
    · have e : decide ((Sum.inr m : Key) = Sum.inr n) = false := decide_eq_false fun z => h (Sum.inr.inj z)
      simp only [e]
      rw [ih]
      have : (n ∈ m :: ns) ↔ n ∈ ns := by simp [List.mem_cons, Ne.symm h]
      exact (decide_eq_decide.mpr this).symm
theorem putK_seen {n : Str} {ns : List Str} (h : n ∉ ns) : putK (seenKv ns) (Sum.inr n) (V.bl true) = seenKv (ns ++ [n]) := by
  have e : valV (seenKv ns) (Sum.inr n) = none := by
    have := valV_seen (n := n) (ns := ns)
    rw [decide_eq_false h] at this
    exact Option.isNone_iff_eq_none.mp (by cases hv : valV (seenKv ns) (Sum.inr n) with | none => rfl | some _ => rw [hv] at this; cases this)
  rw [putK_new _ e]; unfold seenKv; rw [List.map_append]; rfl
section
variable {P : Program} {w : World} {K : PySem.W.Frag} {mg : Str → Option Value} {base : Heap}
theorem ok_need_names (T : Tx K mg) : FnOk P w K mg base CX0 2 T.a_need_names T.fd_need_names ["thing"] (sp_need_names K) := by
  refine T.F_need_names.ok sc_need_names (fun vs H Q E h => ?_) (fun cdv A outer s H vs Q E hr h => ?_)
  · obtain ⟨v, ns, rfl, _⟩ := h; rfl
  · have hu := hu_of hr
    obtain ⟨v, ns, rfl, hv, ok, k⟩ := h
    refine ⟨_, (pss_cons (ps_if (PW.pt (pw_or (pt_not (pt_val (pe_callB (call_isiTK (K := K) rfl) (by rfl) T.z_isinstance (by decide +kernel) (pa_cons (pv 0) (pa_cons (pe_tup (pa_cons (pe_bltnT (n := "list") (by rfl) T.z_list (by decide +kernel)) (pa_cons (pe_bltnT (n := "tuple") (by rfl) T.z_tuple (by decide +kernel)) pa_nil))) pa_nil))))) (pw_or1 (pt_not (pt_chain op_le op_le pe_int (pe_callB (call_len_seqK (K := K) rfl) (by rfl) T.z_len (by decide +kernel) (pa_cons (pv 0) pa_nil)) (pe_globI rfl T.c_MOST_NAMES)))))) (pss_one ps_never) pss_nil)
      (pss_cons (ps_set (i := 1) sc_need_names.nd rfl (Or.inl rfl) pe_dnewK)
      (pss_one (ps_for PassesOwn.never rfl (pi_seqK (K := K) rfl (pv 0)) (pg_name (i := 2) sc_need_names.nd rfl (Or.inl rfl)) (pss_cons (ps_if (PW.pt (pw_or (pt_not (pt_val (pe_call (ok_is_name T) (hr.mono (by decide)) (by rfl) T.m_is_name T.F_is_name.kp T.b_is_name .nil pass0 (pa_cons (pv 2) pa_nil)))) (pw_or1 (pt_cmp (pc_din hu (pv 2) (pv 1)))))) (pss_one ps_never) pss_nil)
      (pss_one (ps_dput hu (pv 1) (pv 2) pe_bl rfl))))))), ?_⟩
    obtain ⟨p, rfl, hp⟩ := Is.seqS hv
    have hlen := ok.lo
    have hlen2 := ok.hi
    keq_hits
    refine ⟨by decide, fun tp htp => ?_⟩
    have s1 : Same H (upd H tp (.tup [.ty "list", .ty "tuple"])) := Same.new htp
    have hv1 : ∃ d, Is K (upd H tp (.tup [.ty "list", .ty "tuple"])) (V.ref p) d ∧ (isTy "list" d || isTy "tuple" d) = true := by
      rcases hv with h | h
      · exact ⟨_, h.mono s1, rfl⟩
      · exact ⟨_, h.mono s1, rfl⟩
    obtain ⟨d, hd, hty⟩ := hv1
    keq_hits
    refine w_isiLT hd upd_same ?_
    keq_hits
    rw [hty]
    keq_hits
    refine w_lenSeq (hp.mono s1) ?_
    keq_hits
    refine w_ifd (fun _ => ?_) (fun z => absurd (by omega) z)
    keq_hits
    refine w_ifnd (fun z => absurd (by omega) z) (fun _ => ?_)
    keq_hits
    intro sd hsd
    keq_hits
    have s2 : Same H (upd (upd H tp (.tup [.ty "list", .ty "tuple"])) sd (.dK [])) := s1.trans (Same.new hsd)
    have hsd0 : H sd = none := s1.free hsd
    refine w_iSeqV rfl s2 hp fun J w => ?_
    refine for_it w (fun i σ H' => ∃ e, σ = [some (V.ref p), some (.ref sd), e] ∧ Same H H' ∧ H' sd = some (.dK (seenKv (ns.take i))))
      ⟨none, rfl, s2, by rw [upd_same]; rfl⟩ (fun i σ H' _ ⟨_, _, q, _⟩ => fun o ho => q p o ho) ?_ ?_
    · rintro i x σ H1 H1' hi ⟨e, rfl, q, hs⟩ y
      obtain ⟨rfl, n, hn, rfl⟩ := yat_str y
      have hnm := ok.nm n (List.mem_of_getElem? hn)
      keq_hits
      refine ⟨_, _, rfl, .str n, fun s e => by cases e; exact nameStr_line hnm, fun H2 q2 => ?_⟩
      have e1 : isName (.str n) = true := hnm
      rw [e1]
      keq_hits
      refine w_dinS (.of (q2 _ _ hs)) ?_
      rw [valV_seen, decide_eq_false (nodup_get ok.nd hn)]
      keq_hits
      refine w_dputS (q2 _ _ hs) (by unfold seenKv; rw [List.length_map, List.length_take]; exact small1000 (by omega)) ?_
      rw [putK_seen (nodup_get ok.nd hn), ← take_snoc hn]
      keq_hits
      exact ⟨_, rfl, (q.trans q2).mut hsd0, upd_same⟩
    · rintro σ H' ⟨e, rfl, q, hs⟩
      keq_hits
      exact k _ q
end

/-- is_row_of -/
def rowOf : PyData → List (Str × Int)
  | .list ds => ds.filterMap entry?
  | _ => []
def isRowOf (ns : List Str) (d : PyData) : Bool := isRow d && (rowOf d).all fun p => decide (p.1 ∈ ns)
theorem rowGo_enc : ∀ (ds : List PyData) (ns : List Str), rowGo ns ds = true → ds = (ds.filterMap entry?).map encE
  | [], _, _ => rfl
  | d :: ds, ns, h => by
    have h' : (match entry? d with | some p => !decide (p.1 ∈ ns) && rowGo (ns ++ [p.1]) ds | none => false) = true := h
    cases he : entry? d with
    | none => rw [he] at h'; cases h'
    | some p =>
      rw [he] at h'
      have h2 : (!decide (p.1 ∈ ns) && rowGo (ns ++ [p.1]) ds) = true := h'
      rw [Bool.and_eq_true] at h2
      rw [List.filterMap_cons, he]
      show d :: ds = encE p :: (ds.filterMap entry?).map encE
      rw [← rowGo_enc ds _ h2.2]
      congr 1
      exact entry_inv he
theorem isRow_enc {d : PyData} (h : isRow d = true) : d = encR (rowOf d) := by
  cases d with
  | list ds =>
    have h' : (decide (ds.length ≤ 12) && rowGo [] ds) = true := h
    rw [Bool.and_eq_true] at h'
    show PyData.list ds = .list _
    rw [show rowOf (.list ds) = ds.filterMap entry? from rfl, ← rowGo_enc ds _ h'.2]
  | _ => cases h
def sp_is_row_of (K : PySem.W.Frag) : Sp := fun vs H Q _ => ∃ v ns u d, vs = [v, u] ∧ NamesAt K H v ns ∧ Is K H u d ∧ small d ∧ ∀ H', Same H H' → Q (.bl (isRowOf ns d)) H'
section
variable {P : Program} {w : World} {K : PySem.W.Frag} {mg : Str → Option Value} {base : Heap}
theorem ok_is_row_of (T : Tx K mg) : FnOk P w K mg base CX0 4 T.a_is_row_of T.fd_is_row_of ["names", "thing"] (sp_is_row_of K) := by
  refine T.F_is_row_of.ok sc_is_row_of (fun vs H Q E h => ?_) (fun cdv A outer s H vs Q E hr h => ?_)
  · obtain ⟨v, ns, u, d, rfl, _⟩ := h; rfl
  · have hu := hu_of hr
    obtain ⟨v, ns, u, d, rfl, hv, hd, hz, k⟩ := h
    refine ⟨_, (pss_one (ps_ret (pe_and (pe_call (ok_is_row T) (hr.mono (by decide)) (by rfl) T.m_is_row T.F_is_row.kp T.b_is_row .nil pass0 (pa_cons (pv 1) pa_nil)) (pe_one (pe_callB (cr_allK (K := K) rfl rfl) (by rfl) T.z_all (by decide +kernel) (pa_cons (pe_lc (own := [("name", 2), ("number", 3)]) rfl sc_is_row_of.nd (pi_listK (K := K) rfl (pv 1)) (blkOk_by (N := slots_is_row_of) (sc := defScope s_is_row_of) (by decide +kernel)) (fun _ _ _ _ _ => by exact (pg_tupK (K := K) rfl rfl (pgs_cons (pg_name (i := 2) sc_is_row_of.nd rfl (Or.inl rfl)) (pgs_cons (pg_name (i := 3) sc_is_row_of.nd rfl (Or.inl rfl)) pgs_nil)))) (fun _ _ _ _ _ => pts_nil) (fun _ _ _ _ _ => by exact (pe_cmpR (op_in_seqK (K := K) rfl) (pv 2) (pv 0) (by rfl)))) pa_nil)))))), ?_⟩
    obtain ⟨p, rfl, hp⟩ := Is.seqS hv
    keq_hits
    refine ⟨_, _, rfl, hd, hz, fun H1 q1 => ?_⟩
    keq_hits
    refine w_if2 (fun e => ?_) (fun e => ?_)
    · have hd2 := hd
      have ed := isRow_enc e
      rw [ed] at hd2
      obtain ⟨a, xs, rfl, ha, hx⟩ := hd2.list_inv
      have k' : ∀ H', Same H H' → Q (.bl ((rowOf d).all fun p => decide (p.1 ∈ ns))) H' := fun H' q => by
        have := k H' q
        unfold isRowOf at this
        rw [e, Bool.true_and] at this
        exact this
      have hl : xs.length = (rowOf d).length := by rw [hx.length, List.length_map]
      have h12 : (rowOf d).length ≤ 12 := by
        rw [ed] at e
        have e' : (decide (((rowOf d).map encE).length ≤ 12) && rowGo [] ((rowOf d).map encE)) = true := e
        rw [Bool.and_eq_true, decide_eq_true_eq, List.length_map] at e'
        exact e'.1
      keq_hits
      refine w_exl (q1.seq ha) ?_
      refine comp_pure (K := K) (F := H) (walk_list (xs := xs)) q1 (fun H' q => q.seq (q1.seq ha)) (small1000 (by omega)) (fun i => (rowOf d)[i]?.map fun p => .bool (decide (p.1 ∈ ns))) ?_ ?_
      · rintro i y F1 H1 H1' hi e1 ⟨rfl, hy⟩ N N0 k1 k0
        obtain ⟨pr, b, h1, rfl, hb⟩ := (hx.mono e1.ff).getE hy
        refine w_gTup2 (e1.fh.tup hb) ?_
        refine ⟨rfl, ?_⟩
        keq_hits
        refine w_inSeq (hp.mono (e1.ff.trans e1.fh)) ?_
        exact k1 _ _ F1 _ (by rw [h1]; rfl) (Ext.refl e1.fh) (.bl _)
      · intro D ys F' H' hD eE hF hL hI
        keq_hits
        have hI' : IsAll K F' ys (((rowOf d).map fun p => decide (p.1 ∈ ns)).map PyData.bool) := by
          rw [List.map_map]
          have := range_map (fun p : Str × Int => PyData.bool (decide (p.1 ∈ ns))) (rowOf d)
          rw [hl] at hI
          rw [this] at hI; exact hI
        refine w_all hL hI'.bools ?_
        have := k' H' (q1.trans eE.hh)
        rw [List.all_map]
        exact this
    · have := k H1 q1
      unfold isRowOf at this
      rw [e] at this
      exact this
end

/-- rows of names: what stands behind each name -/
def encRows (rs : List (Str × List (Str × Int))) : PyData := .dict (rs.map fun p => (.str p.1, encR p.2))
structure RowOk (ns : List Str) (r : List (Str × Int)) : Prop where
  hi : r.length ≤ 12
  nd : (r.map (·.1)).Nodup
  nm : ∀ p ∈ r, p.1 ∈ ns ∧ nameStr p.1 = true ∧ 0 ≤ p.2 ∧ p.2 ≤ 10000000000000
structure RowsOk (ns : List Str) (rs : List (Str × List (Str × Int))) : Prop where
  hi : rs.length ≤ 12
  nd : (rs.map (·.1)).Nodup
  nm : ∀ p ∈ rs, p.1 ∈ ns ∧ RowOk ns p.2
theorem entry_enc {p : Str × Int} (h : nameStr p.1 = true) (h2 : 0 ≤ p.2) (h3 : p.2 ≤ 10000000000000) : entry? (encE p) = some p := by
  show (if (nameStr p.1 && (decide (0 ≤ p.2) && decide (p.2 ≤ 10000000000000))) = true then some (p.1, p.2) else none) = some p
  rw [h, decide_eq_true h2, decide_eq_true h3]; rfl
theorem rowGo_ok {N : List Str} : ∀ (r : List (Str × Int)) (ns : List Str), (∀ p ∈ r, p.1 ∈ N ∧ nameStr p.1 = true ∧ 0 ≤ p.2 ∧ p.2 ≤ 10000000000000) → (ns ++ r.map (·.1)).Nodup → rowGo ns (r.map encE) = true
  | [], _, _, _ => rfl
  | p :: r, ns, h, hn => by
    obtain ⟨_, h1, h2, h3⟩ := h p List.mem_cons_self
    show (match entry? (encE p) with | some p => !decide (p.1 ∈ ns) && rowGo (ns ++ [p.1]) (r.map encE) | none => false) = true
    rw [entry_enc h1 h2 h3]
    have hp : p.1 ∉ ns := fun hm => (List.nodup_append.mp hn).2.2 _ hm _ (by rw [List.map_cons]; exact List.mem_cons_self) rfl
    have ih := rowGo_ok r (ns ++ [p.1]) (fun q hq => h q (List.mem_cons_of_mem _ hq)) (by rw [List.append_assoc]; exact hn)
    show (!decide (p.1 ∈ ns) && rowGo (ns ++ [p.1]) (r.map encE)) = true
    rw [decide_eq_false hp, ih]; rfl
theorem rowOf_enc {ns : List Str} {r : List (Str × Int)} (h : RowOk ns r) : rowOf (encR r) = r := by
  show (r.map encE).filterMap entry? = r
  rw [List.filterMap_map]
  have : ∀ p ∈ r, (entry? ∘ encE) p = some p := fun p hp => entry_enc (h.nm p hp).2.1 (h.nm p hp).2.2.1 (h.nm p hp).2.2.2
  clear h
  induction r with
  | nil => rfl
  | cons p r ih => rw [List.filterMap_cons, this p List.mem_cons_self]; show p :: _ = _; rw [ih fun q hq => this q (List.mem_cons_of_mem _ hq)]
theorem isRow_ok {ns : List Str} {r : List (Str × Int)} (h : RowOk ns r) : isRow (encR r) = true := by
  show (decide ((r.map encE).length ≤ 12) && rowGo [] (r.map encE)) = true
  rw [List.length_map, decide_eq_true h.hi, rowGo_ok r [] h.nm h.nd]; rfl
theorem isRowOf_ok {ns : List Str} {r : List (Str × Int)} (h : RowOk ns r) : isRowOf ns (encR r) = true := by
  unfold isRowOf
  rw [isRow_ok h, rowOf_enc h, Bool.true_and, List.all_eq_true]
  exact fun p hp => decide_eq_true (h.nm p hp).1
theorem small_encR {ns : List Str} {r : List (Str × Int)} (h : RowOk ns r) : small (encR r) := by
  show smallAll (r.map encE)
  refine smallAll.of fun d hd => ?_
  obtain ⟨p, hp, rfl⟩ := List.mem_map.mp hd
  show small (.str p.1) ∧ small (.int p.2) ∧ True
  exact ⟨by simpa [small] using nameStr_line (h.nm p hp).2.1, by simp [small], trivial⟩
/-- a dict of rows at a: its pairs -/
theorem IsKv.rows {K : PySem.W.Frag} {H : Hp} : ∀ {kvs : List (Key × V)} {rs : List (Str × List (Str × Int))}, IsKv K H kvs (rs.map fun p => (.str p.1, encR p.2)) → Paired (fun kv p => kv.1 = Sum.inr p.1 ∧ Is K H kv.2 (encR p.2)) kvs rs
  | [], [], _ => .nil
  | _ :: _, [], h => by cases h
  | [], _ :: _, h => by cases h
  | (k, v) :: kvs, p :: rs, h => by
    generalize hg : ((p :: rs).map fun p => ((PyData.str p.1, encR p.2) : PyData × PyData)) = es at h
    cases h with
    | cons h1 h2 =>
      rw [List.map_cons] at hg
      injection hg with e1 e2
      injection e1 with e3 e4
      subst e2
      refine .cons ⟨?_, by rw [e4]; exact h1⟩ (IsKv.rows h2)
      cases k with
      | inl i => cases e3
      | inr s => cases e3; rfl
theorem paired_get? {α β : Type} {F : α → β → Prop} : ∀ {xs : List α} {ys : List β} {i : Nat} {x : α}, Paired F xs ys → xs[i]? = some x → ∃ y, ys[i]? = some y ∧ F x y
  | _, _, i, x, .nil, h => by simp at h
  | _, _, 0, x, .cons r t, h => by simp at h; subst h; exact ⟨_, rfl, r⟩
  | _, _, i + 1, x, .cons r t, h => by
    obtain ⟨y, h1, h2⟩ := paired_get? (i := i) t (by simpa using h)
    exact ⟨y, by simpa using h1, h2⟩
def sp_need_rows_of (K : PySem.W.Frag) : Sp := fun vs H Q _ => ∃ v ns u rs, vs = [v, u] ∧ NamesAt K H v ns ∧ Is K H u (encRows rs) ∧ RowsOk ns rs ∧ ∀ H', Same H H' → Q .non H'
section
variable {P : Program} {w : World} {K : PySem.W.Frag} {mg : Str → Option Value} {base : Heap}
theorem ok_need_rows_of (T : Tx K mg) : FnOk P w K mg base CX0 5 T.a_need_rows_of T.fd_need_rows_of ["names", "thing"] (sp_need_rows_of K) := by
  refine T.F_need_rows_of.ok sc_need_rows_of (fun vs H Q E h => ?_) (fun cdv A outer s H vs Q E hr h => ?_)
  · obtain ⟨v, ns, u, d, rfl, _⟩ := h; rfl
  · have hu := hu_of hr
    obtain ⟨v, ns, u, rs, rfl, hv, hd, ok, k⟩ := h
    refine ⟨_, (pss_cons (ps_if (pt_not (pt_val (pe_callB (call_isi_K (K := K) rfl) (by rfl) T.z_isinstance (by decide +kernel) (pa_cons (pv 1) (pa_cons (pe_bltnT (n := "dict") (by rfl) T.z_dict (by decide +kernel)) pa_nil))))) (pss_one ps_never) pss_nil)
      (pss_one (ps_lock (ps_for PassesOwn.never rfl (pi_items (pv 1)) (pg_tupK (K := K) rfl rfl (pgs_cons (pg_name (i := 2) sc_need_rows_of.nd rfl (Or.inl rfl)) (pgs_cons (pg_name (i := 3) sc_need_rows_of.nd rfl (Or.inl rfl)) pgs_nil))) (pss_one (ps_if (PW.pt (pw_or (pt_cmpR (op_notIn_seqK (K := K) rfl) (pv 2) (pv 0) (by rfl)) (pw_or1 (pt_not (pt_val (pe_call (ok_is_row_of T) (hr.mono (by decide)) (by rfl) T.m_is_row_of T.F_is_row_of.kp T.b_is_row_of .nil pass0 (pa_cons (pv 0) (pa_cons (pv 3) pa_nil)))))))) (pss_one ps_never) pss_nil)))))), ?_⟩
    obtain ⟨p, rfl, hp⟩ := Is.seqS hv
    keq_hits
    refine w_isi (by simp) hd ?_
    keq_hits
    obtain ⟨a, kvs, rfl, ha, hk⟩ := hd.dict_inv
    have hkr := hk.rows
    refine w_lock ha trivial fun od => ?_
    refine w_for (w_iItems (w_var rfl (w_exfz upd_same ?_)))
    refine for_it walk_items (fun i σ H' => ∃ e1 e2, σ = [some (V.ref p), some (.ref a), e1, e2] ∧ But a H H' ∧ H' a = some (.frz od (.dK kvs)))
      ⟨none, none, rfl, But.lock, upd_same⟩ (fun i σ H' _ ⟨_, _, _, _, q⟩ => q) ?_ ?_
    · rintro i x σ H1 H1' hi ⟨e1, e2, rfl, q, hf⟩ y
      obtain ⟨T, kk, vv, hx, rfl, hT, rfl⟩ := yitems y
      obtain ⟨pr, hpr, e3, e4⟩ := paired_get? hkr hx
      have hmem := List.mem_of_getElem? hpr
      obtain ⟨hin, hrow⟩ := ok.nm pr hmem
      have e3 : kk = Sum.inr pr.1 := e3
      have e4 : Is K H vv (encR pr.2) := e4
      have ek : kV kk = .str pr.1 := by rw [e3]; rfl
      rw [ek]
      have s1 : Same H1 (upd H1 T (.tup [.str pr.1, vv])) := Same.new hT
      have q1 := q.trans s1
      refine w_gTup2 (SqT.of upd_same) ?_
      keq_hits
      refine w_notInSeq (hp.but q1 ha) ?_
      rw [decide_eq_true hin]
      keq_hits
      refine ⟨_, ns, _, _, rfl, NamesAt'.but q1 ha hv, e4.but q1 ha (noDict_encR _), small_encR hrow, fun H2 q2 => ?_⟩
      rw [isRowOf_ok hrow]
      keq_hits
      exact ⟨_, _, rfl, q1.trans q2, q2 _ _ (s1 _ _ hf)⟩
    · rintro σ H' ⟨e1, e2, rfl, q, hf⟩
      exact ⟨hf, k _ (q.unlock ha)⟩
end

/-- in_order -/
def sp_in_order (K : PySem.W.Frag) : Sp := fun vs H Q _ => ∃ F v ns u r, vs = [v, u] ∧ Same F H ∧ NamesAt K F v ns ∧ ns.length ≤ 1000 ∧ Is K F u (encR r) ∧ (r.map (·.1)).Nodup ∧ RetList K F H ((inOrder ns r).map encE) Q
section
variable {P : Program} {w : World} {K : PySem.W.Frag} {mg : Str → Option Value} {base : Heap}
theorem ok_in_order (T : Tx K mg) : FnOk P w K mg base CX0 1 T.a_in_order T.fd_in_order ["names", "row"] (sp_in_order K) := by
  refine T.F_in_order.ok sc_in_order (fun vs H Q E h => ?_) (fun cdv A outer s H vs Q E hr h => ?_)
  · obtain ⟨F, v, ns, u, r, rfl, _⟩ := h; rfl
  · have hu := hu_of hr
    obtain ⟨F, v, ns, u, r, rfl, s0, hv, hl, hd, hnd, k⟩ := h
    refine ⟨_, (pss_cons (ps_set (i := 2) sc_in_order.nd rfl (Or.inr rfl) (pe_callTy ((call_dictPK (K := K) rfl) rfl) (by rfl) T.z_dict (by decide +kernel) (pa_cons (pv 1) pa_nil)))
      (pss_one (ps_ret (pe_lc (own := [("name", 3)]) rfl sc_in_order.nd (pi_seqK (K := K) rfl (pv 0)) (blkOk_by (N := slots_in_order) (sc := defScope s_in_order) (by decide +kernel)) (fun _ _ _ _ _ => by exact (pg_name (i := 3) sc_in_order.nd rfl (Or.inl rfl))) (fun _ _ _ _ _ => by exact pts_one (pt_cmp (pc_din hu (pv 3) (pv 2)))) (fun _ _ _ _ _ => by exact (pe_tup (pa_cons (pv 3) (pa_cons (pe_dget hu (pv 2) (pv 3) (fun _ _ => rfl)) pa_nil)))))))), ?_⟩
    obtain ⟨p, rfl, hp⟩ := Is.seqS hv
    obtain ⟨a, xs, rfl, ha, hx⟩ := hd.list_inv
    obtain ⟨ps, rfl, hps⟩ := (hx.mono s0).pairs
    keq_hits
    refine ⟨a, ps, kvR r, rfl, s0.seq ha, hps, fun D hD => ?_⟩
    rw [kvR_nd hnd]
    keq_hits
    have eD : Ext F H F (upd H D (.dK (kvR r))) := Ext.loose s0 hD
    refine w_iSeqV rfl eD.fh hp fun J w => ?_
    refine comp_pure (K := K) (F := F) w eD.fh (fun H' q o ho => q _ _ (eD.fh _ _ ho)) (small1000 hl) (fun i => ns[i]?.bind fun n => (look r n).map fun i => encE (n, i)) ?_ ?_
    · rintro i y F1 H1 H1' hi e1 y1 N N0 k1 k0
      obtain ⟨rfl, n, hn, rfl⟩ := yat_str y1
      keq_hits
      refine ⟨rfl, ?_⟩
      keq_hits
      have hD1 : H1' D = some (.dK (kvR r)) := e1.hh _ _ upd_same
      refine w_dinS (.of hD1) ?_
      have ev : valV (kvR r) (Sum.inr n) = (look r n).map V.int := valV_inr V.int n r
      rw [ev]
      cases hL : look r n with
      | none =>
        keq_hits
        exact k0 F1 _ (by rw [hn]; show (look r n).map _ = _; rw [hL]; rfl) (Ext.refl e1.fh)
      | some z =>
        keq_hits
        refine w_dgetS (.of hD1) (by rw [ev, hL]; rfl) ?_
        keq_hits
        refine ⟨by show 2 ≤ sizeLine; decide, fun T hT => ?_⟩
        exact k1 _ (encE (n, z)) (upd F1 T (.tup [.str n, .int z])) _ (by rw [hn]; show (look r n).map _ = _; rw [hL]; rfl) (Ext.new e1.fh hT) (.mkE (SqT.of upd_same))
    · intro q ys F' H' hq eE hF hL hI
      have e : (List.range ns.length).filterMap (fun i => ns[i]?.bind fun n => (look r n).map fun i => encE (n, i)) = (inOrder ns r).map encE := by
        rw [range_filterMap]
        unfold inOrder
        rw [List.map_filterMap]
        congr 1
        funext n
        cases look r n <;> rfl
      rw [e] at hI
      exact k q ys F' H' (eD.hh.free hq) (eD.trans eE) hF hL hI
end

/-- rows_text -/
def intStr (i : Int) : Str := Str.ofString (toString i)
def entT (p : Str × Int) : Str := ((Str.empty ++ p.1) ++ (" " : Str)) ++ intStr p.2
def lineT (ns : List Str) (n : Str) (r : List (Str × Int)) : Str := Txt.join (" " : Str) (n :: (inOrder ns r).map entT)
def linesT (ns ms : List Str) (rs : List (Str × List (Str × Int))) : List Str := ms.filterMap fun n => (look rs n).map fun r => lineT ns n r
def rowsText (ns : List Str) (rs : List (Str × List (Str × Int))) : Str := Txt.join ("\n" : Str) (linesT ns ns rs)
theorem look_mem {α : Type} {r : List (Str × α)} {n : Str} {x : α} (h : look r n = some x) : (n, x) ∈ r := by
  obtain ⟨p, hp, rfl⟩ := Option.map_eq_some_iff.mp h
  have h1 := List.find?_some hp
  have h2 := List.mem_of_find?_eq_some hp
  have h3 : p.1 = n := of_decide_eq_true h1
  rw [← h3]; exact h2
theorem inOrder_mem {ns : List Str} {r : List (Str × Int)} {p : Str × Int} (h : p ∈ inOrder ns r) : p.1 ∈ ns ∧ p ∈ r := by
  obtain ⟨n, hn, e⟩ := List.mem_filterMap.mp h
  obtain ⟨i, hi, rfl⟩ := Option.map_eq_some_iff.mp e
  exact ⟨hn, look_mem hi⟩
theorem inOrder_len (ns : List Str) (r : List (Str × Int)) : (inOrder ns r).length ≤ ns.length := List.length_filterMap_le _ _
theorem intStr_len {i : Int} (h : 0 ≤ i) (h2 : i ≤ 10000000000000) : (intStr i).length ≤ 14 := PyProof.Rows.toString_length_le h (by decide) (by omega)
theorem entT_len {p : Str × Int} (h : p.1.length ≤ 6) (h1 : 0 ≤ p.2) (h2 : p.2 ≤ 10000000000000) : (entT p).length ≤ 21 := by
  have := intStr_len h1 h2
  unfold entT
  rw [Str.length_append, Str.length_append, Str.length_append]
  have e : (" " : Str).length = 1 := by decide +kernel
  have e0 : Str.empty.length = 0 := rfl
  omega
theorem entT_a {x : Str} (h : x.length ≤ 6) : (Str.empty ++ x).length ≤ 6 := by rw [Str.length_append]; show 0 + x.length ≤ 6; omega
theorem entT_b {x : Str} (h : x.length ≤ 6) : ((Str.empty ++ x) ++ (" " : Str)).length ≤ 7 := by
  have := entT_a h
  have e : (" " : Str).length = 1 := by decide +kernel
  rw [Str.length_append]; omega
theorem hin_of {ns : List Str} {i : Nat} {n : Str} (h : ns[i]? = some n) (ok : NamesOk ns) : nameStr n = true := ok.nm n (List.mem_of_getElem? h)
theorem join_len (a : Str) (ys : List Str) : (Txt.join a ys).length ≤ (ys.map (·.length)).sum + ys.length * a.length := by
  rw [TL.join_eq]
  have e : (Str.join a ys).length = (TL.tl (Str.join a ys)).length := TL.len_tl _
  rw [e, TL.tl_join]
  have : ∀ l : List Str, (TL.joinL (TL.tl a) (l.map TL.tl)).length ≤ (l.map (·.length)).sum + l.length * a.length := by
    intro l
    induction l with
    | nil => simp [TL.joinL]
    | cons y l ih =>
      cases l with
      | nil =>
        show (TL.tl y).length ≤ (y.length + 0) + (0 + 1) * a.length
        rw [← TL.len_tl]; omega
      | cons z l =>
        have e2 : TL.joinL (TL.tl a) ((y :: z :: l).map TL.tl) = TL.tl y ++ (TL.tl a ++ TL.joinL (TL.tl a) ((z :: l).map TL.tl)) := rfl
        have e3 : ((y :: z :: l).map fun x : Str => x.length).sum = y.length + ((z :: l).map fun x : Str => x.length).sum := by rw [List.map_cons, List.sum_cons]
        rw [e2, List.length_append, List.length_append, ← TL.len_tl, ← TL.len_tl, e3, List.length_cons, Nat.succ_mul]
        omega
  exact this ys
theorem lineT_len {ns : List Str} {n : Str} {r : List (Str × Int)} (okn : NamesOk ns) (hn : n ∈ ns) (ok : RowOk ns r) : (lineT ns n r).length ≤ 1000 := by
  refine Nat.le_trans (join_len _ _) ?_
  have h1 := sum_le (f := fun x : Str => x.length) (c := 21) (l := (inOrder ns r).map entT) (by
    intro x hx
    obtain ⟨pr, hpr, rfl⟩ := List.mem_map.mp hx
    obtain ⟨hp1, hp2, hp3, hp4⟩ := ok.nm _ (inOrder_mem hpr).2
    exact entT_len (nameStr_len hp2) hp3 hp4)
  have e : (" " : Str).length = 1 := by decide +kernel
  have h6 := nameStr_len (okn.nm n hn)
  have h7 := inOrder_len ns r
  have h8 := okn.hi
  rw [List.map_cons, List.sum_cons, List.length_cons, e]
  rw [List.length_map] at h1 ⊢
  omega
def kvRows (rs : List (Str × List (Str × Int))) (vs : List V) : List (Key × V) := (rs.zip vs).map fun p => (Sum.inr p.1.1, p.2)
theorem paired_rows {K : PySem.W.Frag} {H : Hp} : ∀ {kvs : List (Key × V)} {rs : List (Str × List (Str × Int))}, Paired (fun kv p => kv.1 = Sum.inr p.1 ∧ Is K H kv.2 (encR p.2)) kvs rs → ∀ n, match look rs n with
    | none => valV kvs (Sum.inr n) = none
    | some r => ∃ v, valV kvs (Sum.inr n) = some v ∧ Is K H v (encR r)
  | _, [], .nil, _ => rfl
  | kv :: kvs, p :: rs, .cons h t, n => by
    have ih := paired_rows t n
    by_cases hn : p.1 = n
    · have e : look (p :: rs) n = some p.2 := by unfold look; rw [List.find?_cons, decide_eq_true hn]; rfl
      rw [e]
      exact ⟨kv.2, valV_pos (by rw [h.1, hn]), h.2⟩
    · have e : look (p :: rs) n = look rs n := by unfold look; rw [List.find?_cons, decide_eq_false hn]
      rw [e]
      have e2 : valV (kv :: kvs) (Sum.inr n) = valV kvs (Sum.inr n) := valV_neg (by rw [h.1]; exact fun z => hn (Sum.inr.inj z))
      rw [e2]; exact ih
def sp_rows_text (K : PySem.W.Frag) : Sp := fun vs H Q _ => ∃ v ns u rs, vs = [v, u] ∧ NamesAt K H v ns ∧ NamesOk ns ∧ Is K H u (encRows rs) ∧ RowsOk ns rs ∧ ∀ H', Same H H' → Q (.str (rowsText ns rs)) H'
section
variable {P : Program} {w : World} {K : PySem.W.Frag} {mg : Str → Option Value} {base : Heap}
theorem ok_rows_text (T : Tx K mg) : FnOk P w K mg base CX0 6 T.a_rows_text T.fd_rows_text ["names", "rows"] (sp_rows_text K) := by
  refine T.F_rows_text.ok sc_rows_text (fun vs H Q E h => ?_) (fun cdv A outer s H vs Q E hr h => ?_)
  · obtain ⟨v, ns, u, rs, rfl, _⟩ := h; rfl
  · have hu := hu_of hr
    obtain ⟨v, ns, u, rs, rfl, hv, okn, hd, ok, k⟩ := h
    refine ⟨_, (pss_cons (ps_expr (pe_call (ok_need_names T) (hr.mono (by decide)) (by rfl) T.m_need_names T.F_need_names.kp T.b_need_names .nil pass0 (pa_cons (pv 0) pa_nil)))
      (pss_cons (ps_expr (pe_call (ok_need_rows_of T) (hr.mono (by decide)) (by rfl) T.m_need_rows_of T.F_need_rows_of.kp T.b_need_rows_of .nil pass0 (pa_cons (pv 0) (pa_cons (pv 1) pa_nil))))
      (pss_cons (ps_set (i := 2) sc_rows_text.nd rfl (Or.inl rfl) (pe_lst pa_nil))
      (pss_cons (ps_for PassesOwn.never rfl (pi_seqK (K := K) rfl (pv 0)) (pg_name (i := 3) sc_rows_text.nd rfl (Or.inl rfl)) (pss_one (ps_if (pt_cmp (pc_din hu (pv 3) (pv 1))) (pss_cons (ps_setLc (i := 4) (own := [("other", 5), ("number", 6)]) rfl sc_rows_text.nd rfl rfl (sw_true rfl rfl rfl (by decide +kernel)) (pi_listK (K := K) rfl (pe_call (ok_in_order T) (hr.mono (by decide)) (by rfl) T.m_in_order T.F_in_order.kp T.b_in_order .nil pass0 (pa_cons (pv 0) (pa_cons (pe_dget hu (pv 1) (pv 3) (fun _ _ => rfl)) pa_nil)))) (blkOk_by (N := slots_rows_text) (sc := defScope s_rows_text) (by decide +kernel)) (fun _ _ _ _ _ => by exact (pg_tupK (K := K) rfl rfl (pgs_cons (pg_name (i := 5) sc_rows_text.nd rfl (Or.inl rfl)) (pgs_cons (pg_name (i := 6) sc_rows_text.nd rfl (Or.inl rfl)) pgs_nil)))) (fun _ _ _ _ _ => pts_nil) (fun _ _ _ _ _ => by exact (pe_joined (PJ.cons (pe_fmt (pv 5)) (PJ.cons pe_str (PJ.cons (pe_fmt (pv 6)) PJ.nil))))))
      (pss_one (ps_expr (pe_bmK (K := K) rfl PySem.F.plainAttrs_list PySem.F.slot_list_append PySem.F.type_list_append mt_append (pv 2) (pa_cons (pe_bmK (K := K) rfl PySem.F.plainAttrs_str PySem.F.slot_str_join PySem.F.type_str_join (mt_joinK (K := K) rfl) pe_str (pa_cons (pe_op op_cat (pe_lst (pa_cons (pv 3) pa_nil)) (pv 4)) pa_nil)) pa_nil))))) pss_nil)))
      (pss_one (ps_ret (pe_bmK (K := K) rfl PySem.F.plainAttrs_str PySem.F.slot_str_join PySem.F.type_str_join (mt_joinK (K := K) rfl) pe_str (pa_cons (pv 2) pa_nil)))))))), ?_⟩
    obtain ⟨p, rfl, hp⟩ := Is.seqS hv
    obtain ⟨a, kvs, rfl, ha, hk⟩ := id hd.dict_inv
    have hkr := hk.rows
    keq_hits
    refine ⟨_, ns, rfl, hv, okn, fun H1 q1 => ?_⟩
    keq_hits
    refine ⟨_, ns, _, rs, rfl, hv.mono q1, hd.mono q1, ok, fun H2 q2 => ?_⟩
    have q3 := q1.trans q2
    keq_hits
    refine ⟨Nat.zero_le _, fun L hL => ?_⟩
    have hL0 : H L = none := q3.free hL
    keq_hits
    refine w_iSeqV rfl (q3.trans (Same.new hL)) hp fun J w => ?_
    refine for_it w (fun i σ H' => ∃ e1 e2 e3 e4, σ = [some (V.ref p), some (.ref a), some (.ref L), e1, e2, e3, e4] ∧ Same H H' ∧ H' L = some (.lst ((linesT ns (ns.take i) rs).map V.str)))
      ⟨none, none, none, none, rfl, q3.mut hL0, upd_same⟩ (fun i σ H' _ ⟨_, _, _, _, _, q, _⟩ => fun o ho => q p o ho) ?_ ?_
    · rintro i x σ H3 H3' hi ⟨e1, e2, e3, e4, rfl, q, hl⟩ y
      obtain ⟨rfl, n, hn, rfl⟩ := yat_str y
      keq_hits
      refine w_dinS (.of (q _ _ ha)) ?_
      have hpr := paired_rows hkr n
      have et : linesT ns (ns.take (i + 1)) rs = linesT ns (ns.take i) rs ++ ((look rs n).map fun r => lineT ns n r).toList := by
        rw [take_snoc hn]; unfold linesT; rw [List.filterMap_append, List.filterMap_cons]
        cases look rs n <;> rfl
      cases hL2 : look rs n with
      | none =>
        rw [hL2] at hpr et
        rw [hpr]
        keq_hits
        refine ⟨_, _, _, _, rfl, q, ?_⟩
        rw [et]; show H3' L = some (.lst ((linesT ns (ns.take i) rs ++ []).map V.str)); rw [List.append_nil]; exact hl
      | some r =>
        rw [hL2] at hpr et
        obtain ⟨vr, hvr, hir⟩ := hpr
        have hrow : RowOk ns r := (ok.nm _ (look_mem hL2)).2
        rw [hvr]
        keq_hits
        refine w_dgetS (.of (q _ _ ha)) hvr ?_
        keq_hits
        refine ⟨H, _, ns, _, r, rfl, q, hv, by have := okn.hi; omega, hir, hrow.nd, ?_⟩
        intro l1 ys F4 H4 hl1 eE hF1 hls hI
        refine w_exl (SqL.of hls) ?_
        have hys : ys.length = (inOrder ns r).length := by rw [hI.length, List.length_map]
        have hio := inOrder_len ns r
        have hns := okn.hi
        refine comp_pure (K := K) (F := F4) (walk_list (xs := ys)) eE.fh (fun H' qq => qq.seq (SqL.of hls)) (small1000 (by omega)) (fun i => (inOrder ns r)[i]?.map fun e => .str (entT e)) ?_ ?_
        · rintro j y F5 H5 H5' hj e5 ⟨rfl, hy⟩ N N0 k1 k0
          obtain ⟨pr, b, h1, rfl, hb⟩ := (hI.mono e5.ff).getE hy
          have hpm := (inOrder_mem (List.mem_of_getElem? h1)).2
          obtain ⟨hp1, hp2, hp3, hp4⟩ := hrow.nm _ hpm
          have hl6 := nameStr_len hp2
          have hll := entT_len hl6 hp3 hp4
          have hi14 := intStr_len hp3 hp4
          have el1 := entT_a hl6
          have el2 := entT_b hl6
          refine w_gTup2 (e5.fh.tup hb) ?_
          refine ⟨rfl, ?_⟩
          keq_hits
          refine w_fmtS (Nat.le_trans hl6 (by decide)) ?_
          keq_hits
          refine ⟨Nat.le_trans el1 (by decide), ?_⟩
          keq_hits
          refine ⟨Nat.le_trans el2 (by decide), ?_⟩
          keq_hits
          refine w_fmtI (log2_of (n := 64) (by omega) (by decide) (by decide)) ?_
          keq_hits
          refine ⟨Nat.le_trans hll (by decide), ?_⟩
          keq_hits
          exact k1 _ (.str (entT pr)) F5 _ (by rw [h1]; rfl) (Ext.refl e5.fh) (.str _)
        · intro l2 zs F6 H6 hl2 e6 hF6 hz hJ
          rw [hys, range_map] at hJ
          have hzs : zs = ((inOrder ns r).map entT).map V.str := by
            rw [show (inOrder ns r).map (fun e => PyData.str (entT e)) = ((inOrder ns r).map entT).map PyData.str by rw [List.map_map]; rfl] at hJ
            exact hJ.strs
          subst hzs
          keq_hits
          have hL6 : H6 L = some (.lst ((linesT ns (ns.take i) rs).map V.str)) := e6.hh _ _ (eE.hh _ _ hl)
          refine w_tyL (SqL.of hL6) ?_
          keq_hits
          refine ⟨by show 1 ≤ sizeLine; decide, fun l3 hl3 => ?_⟩
          keq_hits
          have s3 : Same H6 (upd H6 l3 (.lst [V.str n])) := Same.new hl3
          refine w_cat upd_same (s3 _ _ hz) (by rw [List.length_map, List.length_map]; show 1 + (inOrder ns r).length ≤ sizeLine; exact Nat.le_trans (show _ ≤ 13 by omega) (by decide)) fun l4 hl4 => ?_
          have s4 := s3.trans (Same.new (o := .lst ([V.str n] ++ ((inOrder ns r).map entT).map V.str)) hl4)
          keq_hits
          have hin := hin_of hn okn
          refine w_join (ys := n :: (inOrder ns r).map entT) (SqL.of upd_same) (by
            have h1 := sum_le (f := fun x : Str => x.length) (c := 21) (l := (inOrder ns r).map entT) (by
              intro x hx
              obtain ⟨pr, hpr, rfl⟩ := List.mem_map.mp hx
              obtain ⟨hp1, hp2, hp3, hp4⟩ := hrow.nm _ (inOrder_mem hpr).2
              exact entT_len (nameStr_len hp2) hp3 hp4)
            have e : (" " : Str).length = 1 := by decide +kernel
            have h6 := nameStr_len hin
            rw [List.map_cons, List.sum_cons, List.length_cons, e]
            rw [List.length_map] at h1 ⊢
            omega) ?_
          keq_hits
          refine w_append (s4 _ _ hL6) (by rw [List.length_map]; exact small1000 (Nat.le_trans (List.length_filterMap_le _ _) (by rw [List.length_take]; omega))) ?_
          refine ⟨_, _, _, _, rfl, ?_, ?_⟩
          · exact ((q.trans eE.hh).trans (e6.hh.trans s4)).mut hL0
          · rw [upd_same, et]
            show _ = some (HO.lst ((linesT ns (ns.take i) rs ++ [lineT ns n r]).map V.str))
            rw [List.map_append]; rfl
    · rintro σ H' ⟨e1, e2, e3, e4, rfl, q, hl⟩
      rw [List.take_length] at hl
      keq_hits
      refine w_join (SqL.of hl) (by
        have h1 := sum_le (f := fun x : Str => x.length) (c := 1000) (l := linesT ns ns rs) (by
          intro x hx
          obtain ⟨n, hn, e⟩ := List.mem_filterMap.mp hx
          obtain ⟨r, hr2, rfl⟩ := Option.map_eq_some_iff.mp e
          exact lineT_len okn hn (ok.nm _ (look_mem hr2)).2)
        have h2 : (linesT ns ns rs).length ≤ ns.length := List.length_filterMap_le _ _
        have h3 := okn.hi
        have e : ("
" : Str).length = 1 := by decide +kernel
        rw [e]
        omega) ?_
      exact k _ q
end

/-- row_in -/
def goIn : List Str → List (Str × Str) → Option (List (Str × Int))
  | _, [] => some []
  | left, (n, f) :: t => match numStr 0 10000000000000 f with
    | none => none
    | some i => if n ∈ left then (goIn (after left n) t).map ((n, i) :: ·) else none
theorem odds_mem {α : Type} {x : α} : ∀ {xs : List α}, x ∈ odds xs → x ∈ xs
  | [], h => by cases h
  | [_], h => by cases h
  | a :: b :: t, h => by
    rcases List.mem_cons.mp h with rfl | h
    · exact List.mem_cons_of_mem _ List.mem_cons_self
    · exact List.mem_cons_of_mem _ (List.mem_cons_of_mem _ (odds_mem h))
def rowIn (ns ws : List Str) : Option (List (Str × Int)) := if ws.length % 2 = 1 then none else goIn ns ((evens ws).zip (odds ws))
def sp_row_in (K : PySem.W.Frag) : Sp := fun vs H Q _ => ∃ F v ns u ws, vs = [v, u] ∧ Same F H ∧ NamesAt K F v ns ∧ ns.length ≤ 1000 ∧ Is K H u (.list (ws.map .str)) ∧ ws.length ≤ 100000 ∧ (∀ x ∈ ws, x.length ≤ sizeLine) ∧
  (rowIn ns ws = none → ∀ H', Same H H' → Q .non H') ∧ ∀ r, rowIn ns ws = some r → RetList K F H (r.map encE) Q
section
variable {P : Program} {w : World} {K : PySem.W.Frag} {mg : Str → Option Value} {base : Heap}
theorem ok_row_in (T : Tx K mg) : FnOk P w K mg base CX0 2 T.a_row_in T.fd_row_in ["names", "words"] (sp_row_in K) := by
  refine T.F_row_in.ok sc_row_in (fun vs H Q E h => ?_) (fun cdv A outer s H vs Q E hr h => ?_)
  · obtain ⟨F, v, ns, u, ws, rfl, _⟩ := h; rfl
  · have hu := hu_of hr
    obtain ⟨F, v, ns, u, ws, rfl, s0, hv, hln, hw, hlw, hsm, k0, k1⟩ := h
    refine ⟨_, (pss_cons (ps_if (pt_cmpR op_eq (pe_op op_mod (pe_callB (call_len_seqK (K := K) rfl) (by rfl) T.z_len (by decide +kernel) (pa_cons (pv 1) pa_nil)) pe_int) pe_int (nomark _)) (pss_one (ps_ret pe_non)) pss_nil)
      (pss_cons (ps_set (i := 2) sc_row_in.nd rfl (Or.inl rfl) (pe_lst pa_nil))
      (pss_cons (ps_set (i := 3) sc_row_in.nd rfl (Or.inl rfl) (pe_callTy (call_list_ofK (K := K) rfl) (by rfl) T.z_list (by decide +kernel) (pa_cons (pv 0) pa_nil)))
      (pss_cons (ps_for PassesOwn.never rfl (pi_zipK (K := K) rfl (by rfl) T.z_zip (pa_cons (pe_evenK (K := K) rfl (pv 1)) (pa_cons (pe_oddK (K := K) rfl (pv 1)) pa_nil))) (pg_tupK (K := K) rfl rfl (pgs_cons (pg_name (i := 4) sc_row_in.nd rfl (Or.inl rfl)) (pgs_cons (pg_name (i := 5) sc_row_in.nd rfl (Or.inl rfl)) pgs_nil))) (pss_cons (ps_set (i := 6) sc_row_in.nd rfl (Or.inl rfl) (pe_call (ok_number_in T) (hr.mono (by decide)) (by rfl) T.m_number_in T.F_number_in.kp T.b_number_in .nil pass0 (pa_cons (pv 5) (pa_cons pe_int (pa_cons (pe_globI rfl T.c_MOST_NUMBER) pa_nil)))))
      (pss_cons (ps_if (PW.pt (pw_or (pt_cmpR (op_notIn_seqK (K := K) rfl) (pv 4) (pv 3) (by rfl)) (pw_or1 (pt_cmpR op_isN (pv 6) pe_non (nomark _))))) (pss_one (ps_ret pe_non)) pss_nil)
      (pss_cons (ps_expr (pe_bmK (K := K) rfl PySem.F.plainAttrs_list PySem.F.slot_list_append PySem.F.type_list_append mt_append (pv 2) (pa_cons (pe_tup (pa_cons (pv 4) (pa_cons (pv 6) pa_nil))) pa_nil)))
      (pss_one (ps_set (i := 3) sc_row_in.nd rfl (Or.inl rfl) (pe_slice (sl_listK (K := K) rfl) (pv 3) (po_some (pe_op op_add (pe_bmK (K := K) rfl PySem.F.plainAttrs_list PySem.F.slot_list_index PySem.F.type_list_index (mt_indexK (K := K) rfl) (pv 3) (pa_cons (pv 4) pa_nil)) pe_int)) po_none)))))))
      (pss_one (ps_ret (pv 2))))))), ?_⟩
    obtain ⟨p, rfl, hp⟩ := Is.seqS hv
    obtain ⟨b, xs, rfl, hb, hx⟩ := hw.list_inv
    have hxs := hx.strs
    subst hxs
    have hm : ∀ n : Nat, ((n : Int) % 2) = ((n % 2 : Nat) : Int) := fun n => by omega
    keq_hits
    refine w_lenL hb ?_
    rw [List.length_map]
    keq_hits
    refine w_rI (by decide) ?_
    keq_hits
    refine w_ifd (fun e => ?_) (fun e => ?_)
    · keq_hits
      have e' : ws.length % 2 = 1 := by omega
      exact k0 (by unfold rowIn; rw [if_pos e']) _ (Same.refl _)
    · have e' : ¬ ws.length % 2 = 1 := by omega
      have hri : rowIn ns ws = goIn ns ((evens ws).zip (odds ws)) := by unfold rowIn; rw [if_neg e']
      rw [hri] at k0 k1
      keq_hits
      refine ⟨Nat.zero_le _, fun R hR => ?_⟩
      have eR : Ext F H F (upd H R (.lst [])) := Ext.loose s0 hR
      keq_hits
      refine w_listOf (hp.mono eR.fh) fun l hl => ?_
      have eL := eR.trans (Ext.loose (o := .lst (ns.map V.str)) eR.fh hl)
      keq_hits
      refine ⟨b, _, rfl, eL.hh.seq hb, by rw [pickV_even, evens_len]; exact Nat.le_trans (show _ ≤ 100000 by rw [List.length_map]; omega) (by decide), fun E hE => ?_⟩
      have eE := eL.trans (Ext.loose (o := .lst (pickV (ws.map V.str) none (some 2))) eL.fh hE)
      keq_hits
      refine ⟨b, _, rfl, eE.hh.seq hb, by rw [pickV_odd, odds_len]; exact Nat.le_trans (show _ ≤ 100000 by rw [List.length_map]; omega) (by decide), fun O hO => ?_⟩
      have eO := eE.trans (Ext.loose (o := .lst (pickV (ws.map V.str) (some 1) (some 2))) eE.fh hO)
      rw [pickV_even, pickV_odd, evens_map, odds_map] at *
      have nlR : l ≠ R := fun z => by rw [z, upd_same] at hl; cases hl
      have nER : E ≠ R := fun z => by rw [z, (Same.new hl) _ _ upd_same] at hE; cases hE
      have nOR : O ≠ R := fun z => by rw [z, (Same.new hE) _ _ ((Same.new hl) _ _ upd_same)] at hO; cases hO
      have hR2 := (Same.new (o := .lst ((odds ws).map V.str)) hO) _ _ ((Same.new (o := .lst ((evens ws).map V.str)) hE) _ _ ((Same.new (o := .lst (ns.map V.str)) hl) _ _ (upd_same (H := H) (a := R) (o := .lst []))))
      have hl2 := (Same.new (o := .lst ((odds ws).map V.str)) hO) _ _ ((Same.new (o := .lst ((evens ws).map V.str)) hE) _ _ (upd_same (a := l) (o := .lst (ns.map V.str))))
      have hE2 := (Same.new (o := .lst ((odds ws).map V.str)) hO) _ _ (upd_same (a := E) (o := .lst ((evens ws).map V.str)))
      have hO2 := upd_same (H := upd (upd (upd H R (.lst [])) l (.lst (ns.map V.str))) E (.lst ((evens ws).map V.str))) (a := O) (o := .lst ((odds ws).map V.str))
      keq_hits
      generalize upd (upd (upd (upd H R (.lst [])) l (.lst (ns.map V.str))) E (.lst ((evens ws).map V.str))) O (.lst ((odds ws).map V.str)) = H0 at eO hR2 hl2 hE2 hO2 ⊢
      refine w_exz (SqL.of hE2) (SqL.of hO2) ?_
      have hlen : ((evens ws).map V.str).length = ws.length / 2 := by rw [List.length_map, evens_len]; omega
      have hlen2 : ((odds ws).map V.str).length = ws.length / 2 := by rw [List.length_map, odds_len]
      have hzl : ((evens ws).zip (odds ws)).length = ws.length / 2 := by rw [List.length_zip, evens_len, odds_len]; omega
      refine for_it (walk_zip (n := ws.length / 2) (by rw [hlen, hlen2, Nat.min_self])) (fun i σ H' => ∃ r0 lf l F1 ys e4 e5 e6, σ = [some (V.ref p), some (.ref b), some (.ref R), some (.ref l), e4, e5, e6] ∧ Ext F H F1 H' ∧ F1 R = none ∧ H' R = some (.lst ys) ∧
          IsAll K F1 ys (r0.map encE) ∧ H' l = some (.lst (lf.map V.str)) ∧ l ≠ R ∧ H' E = some (.lst ((evens ws).map V.str)) ∧ H' O = some (.lst ((odds ws).map V.str)) ∧ ys.length = i ∧
          goIn ns ((evens ws).zip (odds ws)) = (goIn lf (((evens ws).zip (odds ws)).drop i)).map (r0 ++ ·))
        ⟨[], ns, l, F, [], none, none, none, rfl, eO, s0.free hR, hR2, .nil, hl2, nlR, hE2, hO2, rfl, by rw [List.drop_zero]; cases goIn ns ((evens ws).zip (odds ws)) <;> rfl⟩
        (fun i σ H' _ ⟨_, _, _, _, _, _, _, _, _, _, _, _, _, _, _, hE, hO, _⟩ => ⟨SqL.of hE, SqL.of hO⟩) ?_ ?_
      · rintro i x σ H1 H1' hi ⟨r0, lf, l, F1, ys, e4, e5, e6, rfl, eF, hFR, hR1, hI, hl1, nlR, hE1, hO1, hyl, hg⟩ y
        obtain ⟨Tp, x1, x2, rfl, hT, rfl, hx1, hx2⟩ := ypair y
        rw [List.getElem?_map] at hx1 hx2
        cases hn : (evens ws)[i]? with
        | none => rw [hn] at hx1; cases hx1
        | some n =>
        cases hf : (odds ws)[i]? with
        | none => rw [hf] at hx2; cases hx2
        | some f =>
        rw [hn] at hx1; rw [hf] at hx2; cases hx1; cases hx2
        have hz : ((evens ws).zip (odds ws))[i]? = some (n, f) := by rw [List.getElem?_zip_eq_some]; exact ⟨hn, hf⟩
        have hdrop : ((evens ws).zip (odds ws)).drop i = (n, f) :: ((evens ws).zip (odds ws)).drop (i + 1) := (List.drop_eq_getElem?_toList_append (l := (evens ws).zip (odds ws)) (i := i)).trans (by rw [hz]; rfl)
        rw [hdrop] at hg
        have hg' : goIn ns ((evens ws).zip (odds ws)) = (match numStr 0 10000000000000 f with
          | none => none
          | some j => if n ∈ lf then (goIn (after lf n) (((evens ws).zip (odds ws)).drop (i + 1))).map ((n, j) :: ·) else none).map (r0 ++ ·) := hg
        have sT : Same H1 (upd H1 Tp (.tup [V.str n, V.str f])) := Same.new hT
        have eT := eF.trans (Ext.loose (o := .tup [V.str n, V.str f]) eF.fh hT)
        refine w_gTup2 (SqT.of upd_same) ?_
        generalize upd H1 Tp (.tup [V.str n, V.str f]) = H2 at sT eT ⊢
        have hfs : f.length ≤ sizeLine := hsm f (odds_mem (List.mem_of_getElem? hf))
        keq_hits
        refine ⟨_, _, 0, 10000000000000, rfl, .str f, fun s e => by cases e; exact hfs, fun H3 q3 => ?_⟩
        have eQ := eT.trans (Ext.same eT.fh q3)
        have s3 := sT.trans q3
        keq_hits
        refine w_notInStrs (SqL.of (s3 _ _ hl1)) ?_
        keq_hits
        have hnum : numIn 0 10000000000000 (.str f) = numStr 0 10000000000000 f := rfl
        rw [hnum]
        refine w_ifnd (fun h1 => ?_) (fun h1 => ?_)
        · keq_hits
          refine k0 ?_ _ eQ.hh
          rw [hg']
          cases numStr 0 10000000000000 f with
          | none => rfl
          | some j => show (if n ∈ lf then _ else _ : Option _).map _ = none; rw [if_neg h1]; rfl
        · cases hnf : numStr 0 10000000000000 f with
          | none =>
            rw [hnf] at hg'
            keq_hits
            exact k0 (by rw [hg']; rfl) _ eQ.hh
          | some j =>
            rw [hnf] at hg'
            have hg2 : goIn ns ((evens ws).zip (odds ws)) = (goIn (after lf n) (((evens ws).zip (odds ws)).drop (i + 1))).map ((r0 ++ [(n, j)]) ++ ·) := by
              rw [hg']
              show (if n ∈ lf then _ else _ : Option _).map _ = _
              rw [if_pos h1]
              cases goIn (after lf n) (((evens ws).zip (odds ws)).drop (i + 1)) with
              | none => rfl
              | some t => show some (r0 ++ ((n, j) :: t)) = some ((r0 ++ [(n, j)]) ++ t); rw [List.append_assoc]; rfl
            rw [show optI (some j) = V.int j from rfl]
            keq_hits
            refine w_tyL (SqL.of (s3 _ _ hR1)) ?_
            keq_hits
            refine ⟨by show 2 ≤ sizeLine; decide, fun T2 hT2 => ?_⟩
            have eW := eQ.trans (Ext.new (o := .tup [V.str n, .int j]) eQ.fh hT2)
            have s4 : Same H3 (upd H3 T2 (.tup [V.str n, .int j])) := Same.new hT2
            have hFR2 : (upd F1 T2 (.tup [V.str n, .int j])) R = none := by
              rw [upd_ne]; exact hFR
              intro z; rw [← z, s3 _ _ hR1] at hT2; cases hT2
            have ff2 : Same F1 (upd F1 T2 (.tup [V.str n, .int j])) := Same.new (eQ.fh.free hT2)
            have hT3 : SqT K (upd F1 T2 (.tup [V.str n, .int j])) T2 [V.str n, .int j] := SqT.of upd_same
            have s5 := s3.trans s4
            keq_hits
            generalize upd F1 T2 (.tup [V.str n, .int j]) = F2 at eW hFR2 ff2 hT3 ⊢
            generalize upd H3 T2 (.tup [V.str n, .int j]) = H4 at eW s4 s5 ⊢
            refine w_append (s5 _ _ hR1) (by rw [hyl]; exact Nat.lt_of_lt_of_le (show i < 100000 by omega) (by decide)) ?_
            have nRo : H R = none := hR
            have eX : Ext F H F2 (upd H4 R (.lst (ys ++ [V.ref T2]))) := ⟨eW.ff, eW.fh.mut hFR2, eW.hh.mut hR, eW.nw⟩
            have hl4 : (upd H4 R (.lst (ys ++ [V.ref T2]))) l = some (.lst (lf.map V.str)) := by rw [upd_ne nlR]; exact s5 _ _ hl1
            have hE4 : (upd H4 R (.lst (ys ++ [V.ref T2]))) E = some (.lst ((evens ws).map V.str)) := by rw [upd_ne nER]; exact s5 _ _ hE1
            have hO4 : (upd H4 R (.lst (ys ++ [V.ref T2]))) O = some (.lst ((odds ws).map V.str)) := by rw [upd_ne nOR]; exact s5 _ _ hO1
            have hR4 : (upd H4 R (.lst (ys ++ [V.ref T2]))) R = some (.lst (ys ++ [V.ref T2])) := upd_same
            keq_hits
            generalize upd H4 R (.lst (ys ++ [V.ref T2])) = H5 at eX hl4 hE4 hO4 hR4 ⊢
            refine w_tyL (SqL.of hl4) ?_
            keq_hits
            refine w_index (SqL.of hl4) h1 ?_
            keq_hits
            refine w_slFrom (SqL.of hl4) (by omega) fun l2 hl2 => ?_
            have s6 : Same H5 (upd H5 l2 (.lst ((lf.map V.str).drop ((idx lf n : Int) + 1).toNat))) := Same.new hl2
            keq_hits
            refine ⟨r0 ++ [(n, j)], after lf n, l2, F2, ys ++ [V.ref T2], _, _, _, rfl, eX.trans (Ext.loose eX.fh hl2), hFR2, s6 _ _ hR4, ?_, ?_, ?_, s6 _ _ hE4, s6 _ _ hO4, by rw [List.length_append, hyl]; rfl, hg2⟩
            · rw [List.map_append]
              exact (hI.mono ff2).append (.one (.mkE hT3))
            · rw [upd_same]
              unfold after
              rw [List.map_drop]
              rfl
            · rintro rfl; rw [hR4] at hl2; cases hl2
      · rintro σ H' ⟨r0, lf, l, F1, ys, e4, e5, e6, rfl, eF, hFR, hR1, hI, hl1, nlR, hE1, hO1, hyl, hg⟩
        rw [List.drop_eq_nil_of_le (by rw [hzl]; exact Nat.le_refl _)] at hg
        have hg2 : goIn ns ((evens ws).zip (odds ws)) = some r0 := by rw [hg]; show some (r0 ++ []) = _; rw [List.append_nil]
        keq_hits
        exact k1 r0 hg2 R ys F1 H' hR eF hFR hR1 hI
end

/-- read_rows -/
def wordsT (line : Str) : List Str := Txt.split line (" " : Str)
def goRead (ns : List Str) : List Str → List Str → Option (List (Str × List (Str × Int)))
  | _, [] => some []
  | left, line :: t => match wordsT line with
    | [] => none
    | w0 :: ws => match rowIn ns ws with
      | none => none
      | some r => if w0 ∈ left then (goRead ns (after left w0) t).map ((w0, r) :: ·) else none
def readLines (text : Str) : List Str := if text = ("" : Str) then [] else Txt.split text ("\n" : Str)
def readRows (ns : List Str) (text : Str) : Option (List (Str × List (Str × Int))) := goRead ns ns (readLines text)
/-- a dict of rows, the rows' own lists not in F -/
def DictRows (K : PySem.W.Frag) (H0 F H : Hp) (kvs : List (Key × V)) (rs : List (Str × List (Str × Int))) : Prop :=
  Paired (fun (kv : Key × V) (p : Str × List (Str × Int)) => kv.1 = Sum.inr p.1 ∧ ∃ R ys, kv.2 = .ref R ∧ H0 R = none ∧ F R = none ∧ H R = some (.lst ys) ∧ IsAll K F ys (p.2.map encE)) kvs rs
theorem dictRows_none {K : PySem.W.Frag} {H0 F H : Hp} {n : Str} : ∀ {kvs : List (Key × V)} {rs : List (Str × List (Str × Int))}, DictRows K H0 F H kvs rs → n ∉ rs.map (·.1) → valV kvs (Sum.inr n) = none
  | _, _, .nil, _ => rfl
  | _, _, .cons h t, hn => by
    rw [valV_neg (by rw [h.1]; exact fun z => hn (by rw [List.map_cons, Sum.inr.inj z]; exact List.mem_cons_self))]
    exact dictRows_none t fun z => hn (List.mem_cons_of_mem _ z)
theorem dictRows_mono {K : PySem.W.Frag} {H0 F H F' H' : Hp} : ∀ {kvs : List (Key × V)} {rs : List (Str × List (Str × Int))}, DictRows K H0 F H kvs rs →
    (∀ R ys, H0 R = none → F R = none → H R = some (.lst ys) → ∀ {ds : List PyData}, IsAll K F ys ds → F' R = none ∧ H' R = some (.lst ys) ∧ IsAll K F' ys ds) → DictRows K H0 F' H' kvs rs
  | _, _, .nil, _ => .nil
  | _, _, .cons h t, f => by
    obtain ⟨h1, R, ys, e, h0, hf, hr, hi⟩ := h
    obtain ⟨a, b, c⟩ := f R ys h0 hf hr hi
    exact .cons ⟨h1, R, ys, e, h0, a, b, c⟩ (dictRows_mono t f)
theorem dictRows_snoc {K : PySem.W.Frag} {H0 F H : Hp} {n : Str} {v : V} {r : List (Str × Int)} : ∀ {kvs : List (Key × V)} {rs : List (Str × List (Str × Int))}, DictRows K H0 F H kvs rs →
    (∃ R ys, v = .ref R ∧ H0 R = none ∧ F R = none ∧ H R = some (.lst ys) ∧ IsAll K F ys (r.map encE)) → DictRows K H0 F H (kvs ++ [(Sum.inr n, v)]) (rs ++ [(n, r)])
  | _, _, .nil, h => .cons ⟨rfl, h⟩ .nil
  | _, _, .cons h t, h2 => .cons h (dictRows_snoc t h2)
theorem after_mem {ns : List Str} {n m : Str} (h : m ∈ after ns n) : m ∈ ns := List.mem_of_mem_drop h
theorem after_not {ns : List Str} {n : Str} (hn : ns.Nodup) (h : n ∈ ns) : n ∉ after ns n := by
  intro hm
  unfold after at hm
  obtain ⟨j, hj, e⟩ := List.mem_iff_getElem.mp hm
  rw [List.length_drop] at hj
  rw [List.getElem_drop] at e
  have h1 := idx_get h
  obtain ⟨h2, h3⟩ := List.getElem?_eq_some_iff.mp h1
  have := (List.getElem_inj hn (h₀ := h2) (h₁ := by omega)).mp (h3.trans e.symm)
  omega
theorem after_len {ns : List Str} {n : Str} (h : n ∈ ns) : (after ns n).length + 1 ≤ ns.length := by
  have := idx_lt h
  unfold after; rw [List.length_drop]; omega
def sp_read_rows (K : PySem.W.Frag) : Sp := fun vs H Q _ => ∃ F v ns text rs, vs = [v, .str text] ∧ Same F H ∧ NamesAt K F v ns ∧ NamesOk ns ∧ text.length ≤ 50000 ∧ readRows ns text = some rs ∧
  ∀ D kvs F' H', H D = none → Ext F H F' H' → F' D = none → H' D = some (.dK kvs) → DictRows K H F' H' kvs rs → Q (.ref D) H'
section
variable {P : Program} {w : World} {K : PySem.W.Frag} {mg : Str → Option Value} {base : Heap}
theorem ok_read_rows (T : Tx K mg) : FnOk P w K mg base CX0 3 T.a_read_rows T.fd_read_rows ["names", "text"] (sp_read_rows K) := by
  refine T.F_read_rows.ok sc_read_rows (fun vs H Q E h => ?_) (fun cdv A outer s H vs Q E hr h => ?_)
  · obtain ⟨F, v, ns, text, rs, rfl, _⟩ := h; rfl
  · have hu := hu_of hr
    obtain ⟨F, v, ns, text, rs, rfl, s0, hv, okn, hlt, hrs, k⟩ := h
    refine ⟨_, (pss_cons (ps_expr (pe_call (ok_need_names T) (hr.mono (by decide)) (by rfl) T.m_need_names T.F_need_names.kp T.b_need_names .nil pass0 (pa_cons (pv 0) pa_nil)))
      (pss_cons (ps_if (pt_not (pt_val (pe_callB (call_isi_K (K := K) rfl) (by rfl) T.z_isinstance (by decide +kernel) (pa_cons (pv 1) (pa_cons (pe_bltnT (n := "str") (by rfl) T.z_str (by decide +kernel)) pa_nil))))) (pss_one ps_never) pss_nil)
      (pss_cons (ps_set (i := 2) sc_read_rows.nd rfl (Or.inl rfl) pe_dnewK)
      (pss_cons (ps_set (i := 3) sc_read_rows.nd rfl (Or.inl rfl) (pe_callTy (call_list_ofK (K := K) rfl) (by rfl) T.z_list (by decide +kernel) (pa_cons (pv 0) pa_nil)))
      (pss_cons (ps_for PassesOwn.never rfl (pi_enumK (K := K) rfl (by rfl) T.z_enumerate (pa_cons (pe_ifExp (pt_cmpR op_ne (pv 1) pe_str (nomark _)) (pe_bmK (K := K) rfl PySem.F.plainAttrs_str PySem.F.slot_str_split PySem.F.type_str_split mt_split (pv 1) (pa_cons pe_str pa_nil)) (pe_lst pa_nil)) pa_nil)) (pg_tupK (K := K) rfl rfl (pgs_cons (pg_name (i := 4) sc_read_rows.nd rfl (Or.inl rfl)) (pgs_cons (pg_name (i := 5) sc_read_rows.nd rfl (Or.inl rfl)) pgs_nil))) (pss_cons (ps_set (i := 6) sc_read_rows.nd rfl (Or.inl rfl) (pe_bmK (K := K) rfl PySem.F.plainAttrs_str PySem.F.slot_str_split PySem.F.type_str_split mt_split (pv 5) (pa_cons pe_str pa_nil)))
      (pss_cons (ps_set (i := 7) sc_read_rows.nd rfl (Or.inl rfl) (pe_call (ok_row_in T) (hr.mono (by decide)) (by rfl) T.m_row_in T.F_row_in.kp T.b_row_in .nil pass0 (pa_cons (pv 0) (pa_cons (pe_slice (sl_listK (K := K) rfl) (pv 6) (po_some pe_int) po_none) pa_nil))))
      (pss_cons (ps_if (PW.pt (pw_or (pt_cmpR (op_notIn_seqK (K := K) rfl) (pe_ix (ix_listK (K := K) rfl) (pv 6) pe_int (fun _ _ => rfl)) (pv 3) (by rfl)) (pw_or1 (pt_cmpR op_isN (pv 7) pe_non (nomark _))))) (pss_one ps_never) pss_nil)
      (pss_cons (ps_dput hu (pv 2) (pe_ix (ix_listK (K := K) rfl) (pv 6) pe_int (fun _ _ => rfl)) (pv 7) rfl)
      (pss_one (ps_set (i := 3) sc_read_rows.nd rfl (Or.inl rfl) (pe_slice (sl_listK (K := K) rfl) (pv 3) (po_some (pe_op op_add (pe_bmK (K := K) rfl PySem.F.plainAttrs_list PySem.F.slot_list_index PySem.F.type_list_index (mt_indexK (K := K) rfl) (pv 3) (pa_cons (pe_ix (ix_listK (K := K) rfl) (pv 6) pe_int (fun _ _ => rfl)) pa_nil)) pe_int)) po_none))))))))
      (pss_one (ps_ret (pv 2)))))))), ?_⟩
    obtain ⟨p, rfl, hp⟩ := Is.seqS hv
    keq_hits
    refine ⟨_, ns, rfl, hv.mono s0, okn, fun H1 q1 => ?_⟩
    have e1 := Ext.same s0 q1
    keq_hits
    refine w_isi (by simp) (.str text) ?_
    keq_hits
    intro D hD
    have eD := e1.trans (Ext.loose (o := .dK []) e1.fh hD)
    have hD0 := e1.hh.free hD
    have hD1 := upd_same (H := H1) (a := D) (o := .dK [])
    keq_hits
    generalize upd H1 D (.dK []) = H2 at eD hD1 ⊢
    refine w_listOf (hp.mono eD.fh) fun l hl => ?_
    have s3 : Same H2 (upd H2 l (.lst (ns.map V.str))) := Same.new hl
    have eL := eD.trans (Ext.loose (o := .lst (ns.map V.str)) eD.fh hl)
    have hl1 := upd_same (H := H2) (a := l) (o := .lst (ns.map V.str))
    have hD2 := s3 _ _ hD1
    have nDl : D ≠ l := fun z => by rw [← z, hD1] at hl; cases hl
    have hlines : ∀ x ∈ readLines text, x.length ≤ 50000 := fun x hx => by
      unfold readLines at hx
      split at hx
      · cases hx
      · exact Nat.le_trans (split_mem feed_ok.1 feed_ok.2 hx) hlt
    have hlinesn : (readLines text).length ≤ 50001 := by
      unfold readLines
      split
      · simp
      · exact Nat.le_trans (split_len feed_ok.1 feed_ok.2) (by omega)
    keq_rows
    generalize upd H2 l (.lst (ns.map V.str)) = H3 at s3 eL hl1 hD2 ⊢
    refine w_seq (w_for (w_iEnum (w_cons (w_ifK (fun x H' => ∃ q, x = V.ref q ∧ Same H3 H' ∧ H' q = some (.lst ((readLines text).map V.str))) (fun Q' kk => ?_) ?_))))
    · keq_hits
      refine w_ifnd (fun e => ?_) (fun e => ?_)
      · keq_hits
        refine ⟨by decide +kernel, Nat.le_trans (show _ ≤ 60000 by omega) (by decide), fun q hq => kk _ _ ⟨q, rfl, Same.new hq, ?_⟩⟩
        rw [upd_same]; unfold readLines; rw [if_neg e]
      · keq_hits
        refine ⟨Nat.zero_le _, fun q hq => kk _ _ ⟨q, rfl, Same.new hq, ?_⟩⟩
        rw [upd_same]; unfold readLines; rw [if_pos e]; rfl
    · rintro _ H4 ⟨q, rfl, s4, hq⟩
      have eS := eL.trans (Ext.same eL.fh s4)
      have hl2 := s4 _ _ hl1
      have hD3 := s4 _ _ hD2
      keq_hits
      refine w_exen (SqL.of hq) ?_
      have hqD : q ≠ D := ne_of hq hD3 (fun z => nomatch z)
      have hqn : H4 q = some (.lst ((readLines text).map V.str)) := hq
      unfold readRows at hrs
      have w := walk_enum (K := K) (a := q) (xs := (readLines text).map V.str)
      rw [List.length_map] at w
      refine for_it w (fun i σ H' => ∃ rs0 lf l F1 kvs e4 e5 e6 e7, σ = [some (V.ref p), some (.str text), some (.ref D), some (.ref l), e4, e5, e6, e7] ∧ Ext F H F1 H' ∧ F1 D = none ∧ H' D = some (.dK kvs) ∧ DictRows K H F1 H' kvs rs0 ∧
          H' l = some (.lst (lf.map V.str)) ∧ H' q = some (.lst ((readLines text).map V.str)) ∧ some rs = (goRead ns lf ((readLines text).drop i)).map (rs0 ++ ·) ∧ (∀ m ∈ lf, m ∉ rs0.map (·.1)) ∧ lf.Nodup ∧ kvs.length + lf.length ≤ 12)
        ⟨[], ns, l, F, [], none, none, none, none, rfl, eS, s0.free hD0, hD3, .nil, hl2, hq, by rw [List.drop_zero, hrs]; rfl, (fun _ _ h => by cases h), okn.nd, by have := okn.hi; simpa using this⟩
        (fun i σ H' _ ⟨_, _, _, _, _, _, _, _, _, _, _, _, _, _, _, hq, _⟩ => SqL.of hq) ?_ ?_
      · rintro i x σ H5 H5' hi ⟨rs0, lf, l, F1, kvs, e4, e5, e6, e7, rfl, eX, hFD, hDk, hDR, hl5, hq5, hg, hkey, hnd, hsz⟩ y
        obtain ⟨Tp, x1, x2, rfl, hT, rfl, hx1, hx2⟩ := y
        have hx1' : some (V.int (i : Nat)) = some x1 := hx1
        cases hx1'
        have hx2' : ((readLines text).map V.str)[i]? = some x2 := hx2
        rw [List.getElem?_map] at hx2'
        cases hn : (readLines text)[i]? with
        | none => rw [hn] at hx2'; cases hx2'
        | some line =>
        rw [hn] at hx2'; cases hx2'
        have hdrop : (readLines text).drop i = line :: (readLines text).drop (i + 1) := (List.drop_eq_getElem?_toList_append (l := readLines text) (i := i)).trans (by rw [hn]; rfl)
        rw [hdrop] at hg
        have hll := hlines line (List.mem_of_getElem? hn)
        have sT : Same H5 (upd H5 Tp (.tup [V.int (i : Nat), V.str line])) := Same.new hT
        have eT := eX.trans (Ext.loose (o := .tup [V.int (i : Nat), V.str line]) eX.fh hT)
        refine w_gTup2 (SqT.of upd_same) ?_
        generalize upd H5 Tp (.tup [V.int (i : Nat), V.str line]) = H6 at sT eT ⊢
        have hwl : (wordsT line).length ≤ 50001 := Nat.le_trans (split_len blank_ok.1 blank_ok.2) (by omega)
        have hwm : ∀ z ∈ wordsT line, z.length ≤ 50000 := fun z hz => Nat.le_trans (split_mem blank_ok.1 blank_ok.2 hz) hll
        have hwn : wordsT line ≠ [] := split_ne blank_ok.1 blank_ok.2
        keq_hits
        refine ⟨by decide +kernel, Nat.le_trans (show _ ≤ 60000 by omega) (by decide), fun W hW => ?_⟩
        change H6 W = none at hW
        have s7 := sT.trans (Same.new (o := .lst ((wordsT line).map V.str)) hW)
        have e8 := eT.trans (Ext.loose (o := .lst ((wordsT line).map V.str)) eT.fh hW)
        have hW1 := upd_same (H := H6) (a := W) (o := .lst ((wordsT line).map V.str))
        show tSeq _ _ _ _ (upd H6 W (.lst ((wordsT line).map V.str)))
        generalize upd H6 W (.lst ((wordsT line).map V.str)) = H7 at s7 e8 hW1 ⊢
        cases hws : wordsT line with
        | nil => exact absurd hws hwn
        | cons w0 ws =>
        rw [hws] at hW1 hwm hwl
        have hg' : some rs = (match rowIn ns ws with
          | none => none
          | some r => if w0 ∈ lf then (goRead ns (after lf w0) ((readLines text).drop (i + 1))).map ((w0, r) :: ·) else none).map (rs0 ++ ·) := by
          rw [hg]
          show (match wordsT line with | [] => none | w0 :: ws => match rowIn ns ws with | none => none | some r => if w0 ∈ lf then (goRead ns (after lf w0) ((readLines text).drop (i + 1))).map ((w0, r) :: ·) else none : Option _).map _ = _
          rw [hws]
        cases hri : rowIn ns ws with
        | none => rw [hri] at hg'; cases hg'
        | some r =>
        rw [hri] at hg'
        by_cases hin : w0 ∈ lf
        case neg =>
          have hg2 : some rs = (if w0 ∈ lf then (goRead ns (after lf w0) ((readLines text).drop (i + 1))).map ((w0, r) :: ·) else none).map (rs0 ++ ·) := hg'
          rw [if_neg hin] at hg2; cases hg2
        have hg2 : some rs = (goRead ns (after lf w0) ((readLines text).drop (i + 1))).map ((rs0 ++ [(w0, r)]) ++ ·) := by
          have hg3 : some rs = (if w0 ∈ lf then (goRead ns (after lf w0) ((readLines text).drop (i + 1))).map ((w0, r) :: ·) else none).map (rs0 ++ ·) := hg'
          rw [hg3, if_pos hin]
          cases goRead ns (after lf w0) ((readLines text).drop (i + 1)) with
          | none => rfl
          | some t => show some (rs0 ++ ((w0, r) :: t)) = some ((rs0 ++ [(w0, r)]) ++ t); rw [List.append_assoc]; rfl
        keq_hits
        refine w_slFrom (SqL.of hW1) (by decide) fun W2 hW2 => ?_
        have s8 : Same H7 (upd H7 W2 (.lst (((w0 :: ws).map V.str).drop (1 : Int).toNat))) := Same.new hW2
        have e9 := e8.trans (Ext.loose (o := .lst (((w0 :: ws).map V.str).drop (1 : Int).toNat)) e8.fh hW2)
        have hW3 : (upd H7 W2 (.lst (((w0 :: ws).map V.str).drop (1 : Int).toNat))) W2 = some (.lst (ws.map V.str)) := upd_same
        keq_hits
        generalize upd H7 W2 (.lst (((w0 :: ws).map V.str).drop (1 : Int).toNat)) = H8 at s8 e9 hW3 ⊢
        refine ⟨F1, _, ns, _, ws, rfl, e9.fh, hv.mono e9.ff, by have := okn.hi; omega, .lst (SqL.of hW3) (isAll_strs ws), by simp only [List.length_cons] at hwl; omega, fun z hz => Nat.le_trans (hwm z (List.mem_cons_of_mem _ hz)) (by decide), (fun z => by rw [hri] at z; cases z), fun r' hr' => ?_⟩
        have er : r' = r := by rw [hri] at hr'; exact (Option.some.inj hr').symm
        subst er
        intro R ys F2 H9 hR eE hFR hR9 hIr
        have e10 := e9.trans eE
        have s9 := (s7.trans s8).trans eE.hh
        have hDk9 := s9 _ _ hDk
        have hW9 := eE.hh _ _ (s8 _ _ hW1)
        have hl9 := s9 _ _ hl5
        have hq9 := s9 _ _ hq5
        have hDne : H8 D ≠ none := by rw [s8 _ _ (s7 _ _ hDk)]; exact fun z => nomatch z
        have hF2D : F2 D = none := eE.nw D hDne hFD
        keq_hits
        refine w_ixL (SqL.of hW9) (atI_nat' (n := 0) rfl) ?_
        keq_hits
        refine w_notInStrs (SqL.of hl9) ?_
        rw [decide_eq_true hin]
        keq_hits
        refine w_ixL (SqL.of hW9) (atI_nat' (n := 0) rfl) ?_
        have hkn : valV kvs (Sum.inr w0) = none := dictRows_none hDR (hkey w0 hin)
        refine w_dputS hDk9 (Nat.lt_of_le_of_lt (show _ ≤ 12 by omega) (by decide)) ?_
        rw [putK_new _ hkn]
        have hRD : R ≠ D := ne_of hR9 hDk9 (fun z => nomatch z)
        have eZ : Ext F H F2 (upd H9 D (.dK (kvs ++ [(Sum.inr w0, V.ref R)]))) := ⟨e10.ff, e10.fh.mut hF2D, e10.hh.mut hD0, e10.nw⟩
        have hDz := upd_same (H := H9) (a := D) (o := .dK (kvs ++ [(Sum.inr w0, V.ref R)]))
        have hlz : (upd H9 D (.dK (kvs ++ [(Sum.inr w0, V.ref R)]))) l = some (.lst (lf.map V.str)) := by rw [upd_ne (ne_of hl9 hDk9 (fun z => nomatch z))]; exact hl9
        have hqz : (upd H9 D (.dK (kvs ++ [(Sum.inr w0, V.ref R)]))) q = some (.lst ((readLines text).map V.str)) := by rw [upd_ne (ne_of hq9 hDk9 (fun z => nomatch z))]; exact hq9
        have hWz : (upd H9 D (.dK (kvs ++ [(Sum.inr w0, V.ref R)]))) W = some (.lst ((w0 :: ws).map V.str)) := by rw [upd_ne (ne_of hW9 hDk9 (fun z => nomatch z))]; exact hW9
        have hDRz : DictRows K H F2 (upd H9 D (.dK (kvs ++ [(Sum.inr w0, V.ref R)]))) (kvs ++ [(Sum.inr w0, V.ref R)]) (rs0 ++ [(w0, r')]) := by
          refine dictRows_snoc (dictRows_mono hDR fun R0 ys0 h0 hf0 hr0 _ hi0 => ?_) ⟨R, ys, rfl, e9.hh.free hR, hFR, by rw [upd_ne hRD]; exact hR9, hIr⟩
          have h9 := s9 _ _ hr0
          refine ⟨?_, by rw [upd_ne (ne_of h9 hDk9 (fun z => nomatch z))]; exact h9, hi0.mono eE.ff⟩
          exact eE.nw R0 (by rw [s8 _ _ (s7 _ _ hr0)]; exact fun z => nomatch z) hf0
        keq_hits
        generalize upd H9 D (.dK (kvs ++ [(Sum.inr w0, V.ref R)])) = Hz at eZ hDz hlz hqz hWz hDRz ⊢
        refine w_tyL (SqL.of hlz) ?_
        keq_hits
        refine w_ixL (SqL.of hWz) (atI_nat' (n := 0) rfl) ?_
        keq_hits
        refine w_index (SqL.of hlz) hin ?_
        keq_hits
        refine w_slFrom (SqL.of hlz) (by omega) fun l2 hl2 => ?_
        have sL : Same Hz (upd Hz l2 (.lst ((lf.map V.str).drop ((idx lf w0 : Int) + 1).toNat))) := Same.new hl2
        have eL2 := eZ.trans (Ext.loose (o := .lst ((lf.map V.str).drop ((idx lf w0 : Int) + 1).toNat)) eZ.fh hl2)
        keq_hits
        refine ⟨rs0 ++ [(w0, r')], after lf w0, l2, F2, kvs ++ [(Sum.inr w0, V.ref R)], _, _, _, _, rfl, eL2, hF2D, sL _ _ hDz, dictRows_mono hDRz (fun R0 ys0 _ hf0 hr0 _ hi0 => ⟨hf0, sL _ _ hr0, hi0⟩), ?_, sL _ _ hqz, hg2, ?_, ?_, ?_⟩
        · rw [upd_same]
          unfold after
          rw [List.map_drop]
          rfl
        · intro m hm hm2
          rw [List.map_append] at hm2
          rcases List.mem_append.mp hm2 with h1 | h1
          · exact hkey m (after_mem hm) h1
          · rw [List.map_cons, List.map_nil, List.mem_singleton] at h1
            rw [h1] at hm
            exact after_not hnd hin hm
        · exact (List.drop_sublist _ _).nodup hnd
        · have := after_len hin
          rw [List.length_append]; simp only [List.length_cons, List.length_nil]; omega
      · rintro σ H' ⟨rs0, lf, l, F1, kvs, e4, e5, e6, e7, rfl, eX, hFD, hDk, hDR, hl5, hq5, hg, hkey, hnd, hsz⟩
        rw [List.drop_length] at hg
        have hg2 : rs = rs0 := by
          have : some rs = some (rs0 ++ []) := hg
          rw [List.append_nil] at this; exact Option.some.inj this
        subst hg2
        keq_hits
        exact k D kvs F1 H' hD0 eX hFD hDk hDR
end

def sp_w_cell (K : PySem.W.Frag) : Sp := fun vs H Q _ => ∃ (a : Addr) (ns : List Int) (k : Int), vs = [.ref a, .int k] ∧ SqL K H a (ns.map V.int) ∧ 0 ≤ k ∧ k ≤ 1000000 ∧ ∀ c : Int, Q (.int c) H
section
variable {P : Program} {w : World} {K : PySem.W.Frag} {mg : Str → Option Value} {base : Heap}
theorem ok_w_cell (T : Tx K mg) : FnOk P w K mg base CX0 1 T.a_w_cell T.fd_w_cell ["_law_script", "_law_k"] (sp_w_cell K) := by
  refine T.F_w_cell.ok sc_w_cell (fun vs H Q E h => ?_) (fun cdv A outer s H vs Q E hr h => ?_)
  · obtain ⟨a, ns, k, rfl, _⟩ := h; rfl
  · have hu := hu_of hr
    obtain ⟨a, ns, k, rfl, ha, h0, h1, kk⟩ := h
    refine ⟨_, (pss_cons (ps_if (pt_cmpR op_lt (pv 1) (pe_callB (call_len_seqK (K := K) rfl) (by rfl) T.z_len (by decide +kernel) (pa_cons (pv 0) pa_nil)) (nomark _)) (pss_one (ps_ret (pe_ix (ix_listK (K := K) rfl) (pv 0) (pv 1) (fun _ _ => rfl)))) pss_nil)
      (pss_one (ps_ret (pe_op op_add (pe_op op_mul pe_int (pv 1)) pe_int)))), ?_⟩
    keq_hits
    refine w_lenL ha ?_
    rw [List.length_map]
    keq_hits
    refine w_ifd (fun e => ?_) (fun e => ?_)
    · keq_hits
      obtain ⟨n, rfl⟩ := Int.eq_ofNat_of_zero_le h0
      have hn : n < ns.length := by omega
      refine w_ixL ha (atI_nat' (v := V.int (ns[n]'hn)) (by rw [List.getElem?_map, List.getElem?_eq_getElem hn]; rfl)) ?_
      exact kk _
    · keq_hits
      refine w_rI (.inl ⟨by decide, by decide⟩) ?_
      keq_hits
      exact kk _
end

def sp_w_box (K : PySem.W.Frag) : Sp := fun vs H Q _ => ∃ c, vs = [.int c] ∧ ∀ p x y, H p = none → 0 ≤ x → 0 ≤ y → y < 2147483648 → Q (.ref p) (upd H p (.lst [.int x, .int y, .int 0]))
section
variable {P : Program} {w : World} {K : PySem.W.Frag} {mg : Str → Option Value} {base : Heap}
theorem ok_w_box (T : Tx K mg) : FnOk P w K mg base CX0 1 T.a_w_box T.fd_w_box ["_law_cell_here"] (sp_w_box K) := by
  refine T.F_w_box.ok sc_w_box (fun vs H Q E h => ?_) (fun cdv A outer s H vs Q E hr h => ?_)
  · obtain ⟨c, rfl, _⟩ := h; rfl
  · have hu := hu_of hr
    obtain ⟨c, rfl, k⟩ := h
    refine ⟨_, (pss_one (ps_ret (pe_lst (pa_cons (pe_callB (call_max2 rfl) (by rfl) T.z_max (by decide +kernel) (pa_cons pe_int (pa_cons (pe_op op_sub (pv 0) (pe_op op_pow pe_int pe_int)) pa_nil))) (pa_cons (pe_op op_mod (pv 0) pe_int) (pa_cons pe_int pa_nil)))))), ?_⟩
    keq_hits
    refine w_rI ⟨by decide, by decide, by decide⟩ ?_
    keq_hits
    refine w_rI (by decide) ?_
    keq_hits
    refine ⟨by show 3 ≤ sizeLine; decide, fun p hp => ?_⟩
    refine k p _ _ hp ?_ ?_ ?_
    · split <;> omega
    · omega
    · omega
end

def sp_w_take (K : PySem.W.Frag) : Sp := fun vs H Q _ => ∃ a m n, vs = [.ref a, .int m] ∧ BoxAt H a n ∧ n ≤ 1000000 ∧ 1 ≤ m ∧ m < 1073741824 ∧ ∀ k o, 0 ≤ k → k < m → BoxAt (upd H a o) a (n + 1) → Q (.int k) (upd H a o)
theorem mul_lt {x y a b : Int} (h0 : 0 ≤ x) (h1 : x ≤ a) (h2 : 0 ≤ y) (h3 : y ≤ b) : 0 ≤ x * y ∧ x * y ≤ a * b :=
  ⟨Int.mul_nonneg h0 h2, Int.le_trans (Int.mul_le_mul_of_nonneg_right h1 h2) (Int.mul_le_mul_of_nonneg_left h3 (by omega))⟩
section
variable {P : Program} {w : World} {K : PySem.W.Frag} {mg : Str → Option Value} {base : Heap}
theorem ok_w_take (T : Tx K mg) : FnOk P w K mg base CX0 1 T.a_w_take T.fd_w_take ["_law_box_here", "_law_many"] (sp_w_take K) := by
  refine T.F_w_take.ok sc_w_take (fun vs H Q E h => ?_) (fun cdv A outer s H vs Q E hr h => ?_)
  · obtain ⟨a, m, n, rfl, _⟩ := h; rfl
  · have hu := hu_of hr
    obtain ⟨a, m, n, rfl, hb, hn, h1, h2, k⟩ := h
    obtain ⟨x, y, z, ha, hx, hy, hy2, hz, hzn⟩ := hb
    refine ⟨_, (pss_cons (ps_if (pt_cmpR op_gt (pe_ix (ix_listK (K := K) rfl) (pv 0) pe_int (fun _ _ => rfl)) pe_int (nomark _)) (pss_cons (ps_set (i := 4) sc_w_take.nd rfl (Or.inl rfl) (pe_op op_mod (pe_ix (ix_listK (K := K) rfl) (pv 0) pe_int (fun _ _ => rfl)) (pv 1)))
      (pss_cons (ps_asg (pe_op op_fdiv (pe_ix (ix_listK (K := K) rfl) (pv 0) pe_int (fun _ _ => rfl)) (pv 1)) (pg_sub (pv 0) pe_int set_list))
      (pss_one (ps_ret (pv 4))))) pss_nil)
      (pss_cons (ps_asg (pe_op op_add (pe_ix (ix_listK (K := K) rfl) (pv 0) pe_int (fun _ _ => rfl)) pe_int) (pg_sub (pv 0) pe_int set_list))
      (pss_cons (ps_set (i := 2) sc_w_take.nd rfl (Or.inl rfl) (pe_op op_mod (pe_op op_pow (pe_op op_add (pe_op op_add (pe_op op_mul (pe_ix (ix_listK (K := K) rfl) (pv 0) pe_int (fun _ _ => rfl)) (pe_op op_add (pe_op op_mul pe_int (pe_ix (ix_listK (K := K) rfl) (pv 0) pe_int (fun _ _ => rfl))) pe_int)) (pe_op op_mul pe_int (pe_ix (ix_listK (K := K) rfl) (pv 0) pe_int (fun _ _ => rfl)))) pe_int) pe_int) pe_int))
      (pss_cons (ps_set (i := 3) sc_w_take.nd rfl (Or.inl rfl) (pe_op op_mod (pe_op op_pow (pe_op op_add (pe_op op_mul (pv 2) (pe_op op_add (pe_ix (ix_listK (K := K) rfl) (pv 0) pe_int (fun _ _ => rfl)) pe_int)) pe_int) pe_int) pe_int))
      (pss_one (ps_ret (pe_op op_mod (pe_op op_add (pe_op op_fdiv (pv 2) pe_int) (pe_op op_fdiv (pv 3) pe_int)) (pv 1)))))))), ?_⟩
    keq_hits
    refine w_ixL (SqL.of ha) rfl ?_
    keq_hits
    refine w_ifd (fun e => ?_) (fun e => ?_)
    · keq_hits
      refine w_ixL (SqL.of ha) rfl ?_
      keq_hits
      refine w_rI (by omega) ?_
      keq_hits
      refine w_ixL (SqL.of ha) rfl ?_
      keq_hits
      refine w_rI ⟨by omega, by omega⟩ ?_
      keq_hits
      refine w_setL (n := 0) ha rfl ?_
      keq_hits
      refine k _ _ (Int.emod_nonneg _ (by omega)) (Int.emod_lt_of_pos _ (by omega)) ⟨x / m, y, z, upd_same, Int.ediv_nonneg hx (by omega), hy, hy2, hz, by omega⟩
    · keq_hits
      refine w_ixL (SqL.of ha) rfl ?_
      keq_hits
      refine w_setL (n := 2) ha rfl ?_
      have ha2 := upd_same (H := H) (a := a) (o := .lst [.int x, .int y, .int (z + 1)])
      have hB : BoxAt (upd H a (.lst [.int x, .int y, .int (z + 1)])) a (n + 1) := ⟨x, y, z + 1, upd_same, hx, hy, hy2, by omega, by omega⟩
      have kk : ∀ k, 0 ≤ k → k < m → Q (.int k) (upd H a (.lst [.int x, .int y, .int (z + 1)])) := fun k' a1 a2 => k k' _ a1 a2 hB
      show tSeq _ _ _ _ (upd H a (.lst [.int x, .int y, .int (z + 1)]))
      generalize upd H a (.lst [.int x, .int y, .int (z + 1)]) = H2 at ha2 kk ⊢
      have b1 := mul_lt (x := y) (y := 2 * (z + 1) + 1) (a := 2147483648) (b := 3000003) hy (by omega) (by omega) (by omega)
      keq_hits
      refine w_ixL (SqL.of ha2) rfl ?_
      keq_hits
      refine w_ixL (SqL.of ha2) rfl ?_
      refine w_rI (.inl ⟨by decide, by decide⟩) ?_
      keq_hits
      refine w_rI (.inl ⟨by omega, by omega⟩) ?_
      keq_hits
      refine w_ixL (SqL.of ha2) rfl ?_
      refine w_rI (.inl ⟨by decide, by decide⟩) ?_
      keq_hits
      refine w_rI ⟨by decide, by decide, by omega⟩ ?_
      keq_hits
      refine w_rI (by decide) ?_
      keq_hits
      have m1 := Int.emod_nonneg ((y * (2 * (z + 1) + 1) + 7919 * (z + 1) + 11) ^ (5 : Int).toNat) (show (2147483647 : Int) ≠ 0 by decide)
      have m2 := Int.emod_lt_of_pos ((y * (2 * (z + 1) + 1) + 7919 * (z + 1) + 11) ^ (5 : Int).toNat) (show (0 : Int) < 2147483647 by decide)
      generalize (y * (2 * (z + 1) + 1) + 7919 * (z + 1) + 11) ^ (5 : Int).toNat % 2147483647 = u at m1 m2 ⊢
      have b2 := mul_lt (x := u) (y := z + 1 + 3) (a := 2147483648) (b := 3000003) m1 (by omega) (by omega) (by omega)
      refine w_ixL (SqL.of ha2) rfl ?_
      keq_hits
      refine w_rI (.inl ⟨by omega, by omega⟩) ?_
      keq_hits
      refine w_rI ⟨by decide, by decide, by omega⟩ ?_
      keq_hits
      refine w_rI (by decide) ?_
      keq_hits
      refine w_rI ⟨by decide, by decide⟩ ?_
      keq_hits
      refine w_rI ⟨by decide, by decide⟩ ?_
      keq_hits
      refine w_rI (by omega) ?_
      exact kk _ (Int.emod_nonneg _ (by omega)) (Int.emod_lt_of_pos _ (by omega))
end

theorem isL {n : Nat} (h : n < 26) : isLetter (97 + n) = true := by
  have hf : ∀ n : Fin 26, isLetter (97 + n.1) = true := by decide +kernel
  exact hf ⟨n, h⟩
theorem names_of {g : Nat → Str} {m : Nat} (h1 : 1 ≤ m) (h2 : m ≤ 12) (nm : ∀ k, k < 12 → nameStr (g k) = true) (inj : ∀ j k, j < k → k < 12 → g j ≠ g k) : NamesOk ((List.range m).map g) :=
  ⟨by rw [List.length_map, List.length_range]; exact h1, by rw [List.length_map, List.length_range]; exact h2, fun n hn => by
    obtain ⟨k, hk, rfl⟩ := List.mem_map.mp hn
    exact nm k (by have := List.mem_range.mp hk; omega), range_nodup fun j k a b => inj j k a (by omega)⟩
theorem name_of {x : Str} (h1 : 1 ≤ x.cps.toList.length) (h2 : x.cps.toList.length ≤ 6) (h3 : x.cps.toList.all isLetter = true) : nameStr x = true := by
  have e : x.length = x.cps.toList.length := by rw [Array.length_toList]; rfl
  unfold nameStr; rw [e, decide_eq_true h1, decide_eq_true h2, h3]; rfl
def lt26 (f k : Nat) : Str := ⟨#[97 + (f + 7 * k) % 26]⟩
theorem lt26_l (f k : Nat) : (lt26 f k).cps.toList = [97 + (f + 7 * k) % 26] := rfl
def nmA (b : Str) (f k : Nat) : Str := cutS b none (some ((k % 6 : Nat) : Int)) ++ lt26 f k
def nmB (b : Str) (f i z k : Nat) : Str := (cutS b none (some (i : Int)) ++ lt26 f k) ++ cutS b (some (i : Int)) (some (z : Int))
theorem nmA_l {b : Str} (hb : b.cps.toList.length = 5) (f k : Nat) : (nmA b f k).cps.toList = b.cps.toList.take (k % 6) ++ [97 + (f + 7 * k) % 26] := by
  unfold nmA; rw [str_app, cut_to (by omega), lt26_l]
theorem nmB_l {b : Str} (hb : b.cps.toList.length = 5) {i z : Nat} (hi : i ≤ z) (hz : z ≤ 5) (f k : Nat) : (nmB b f i z k).cps.toList = (b.cps.toList.take i ++ [97 + (f + 7 * k) % 26]) ++ (b.cps.toList.drop i).take (z - i) := by
  unfold nmB; rw [str_app, str_app, cut_to (by omega), cut_mid hi (by omega), lt26_l]
theorem names_A {b : Str} (hb : b.cps.toList.length = 5) (hl : b.cps.toList.all isLetter = true) {f m : Nat} (h1 : 1 ≤ m) (h2 : m ≤ 12) : NamesOk ((List.range m).map (nmA b f)) := by
  refine names_of h1 h2 (fun k hk => ?_) fun j k h hk e => ?_
  · have e := nmA_l hb f k
    refine name_of ?_ ?_ ?_
    · rw [e, List.length_append, List.length_singleton]; omega
    · rw [e, List.length_append, List.length_take, List.length_singleton]; omega
    · rw [e, List.all_append, List.all_cons, isL (by omega)]
      simp only [List.all_nil, Bool.and_self, Bool.and_true]
      rw [List.all_eq_true] at hl ⊢
      exact fun c hc => hl c (List.mem_of_mem_take hc)
  · have e1 := congrArg (fun s : Str => s.cps.toList) e
    simp only [nmA_l hb] at e1
    have e2 := List.append_inj' e1 rfl
    have e3 := congrArg List.length e2.1
    rw [List.length_take, List.length_take, hb] at e3
    have e4 : 97 + (f + 7 * j) % 26 = 97 + (f + 7 * k) % 26 := by simpa using e2.2
    omega
theorem names_B {b : Str} (hb : b.cps.toList.length = 5) (hl : b.cps.toList.all isLetter = true) {f m i z : Nat} (hi : i ≤ z) (hz : z ≤ 5) (h1 : 1 ≤ m) (h2 : m ≤ 12) : NamesOk ((List.range m).map (nmB b f i z)) := by
  refine names_of h1 h2 (fun k hk => ?_) fun j k h hk e => ?_
  · have e := nmB_l hb hi hz f k
    refine name_of ?_ ?_ ?_
    · rw [e, List.length_append, List.length_append, List.length_singleton]; omega
    · rw [e, List.length_append, List.length_append, List.length_take, List.length_take, List.length_drop, List.length_singleton]; omega
    · rw [e, List.all_append, List.all_append, List.all_cons, isL (by omega)]
      simp only [List.all_nil, Bool.and_self, Bool.and_true, Bool.and_eq_true]
      rw [List.all_eq_true] at hl
      refine ⟨List.all_eq_true.mpr fun c hc => hl c (List.mem_of_mem_take hc), List.all_eq_true.mpr fun c hc => hl c (List.mem_of_mem_drop (List.mem_of_mem_take hc))⟩
  · have e1 := congrArg (fun s : Str => s.cps.toList) e
    simp only [nmB_l hb hi hz] at e1
    have e2 := List.append_cancel_left (List.append_cancel_right e1)
    have e4 : 97 + (f + 7 * j) % 26 = 97 + (f + 7 * k) % 26 := by simpa using e2
    omega
def w16 : List Str := ["places", "far", "tie", "web", "a", "aa", "ab", "b", "ba", "put", "cut", "row", "rows", "order", "text", "x"]
theorem w16_split : Txt.split ("places far tie web a aa ab b ba put cut row rows order text x" : Str) (" " : Str) = w16 := by decide +kernel
def nmW (f k : Nat) : Str := w16.getD ((f + 5 * k) % 16) Str.empty
theorem names_W {f m : Nat} (h1 : 1 ≤ m) (h2 : m ≤ 12) : NamesOk ((List.range m).map (nmW f)) := by
  have hw : ∀ i : Fin 16, nameStr (w16.getD i.1 Str.empty) = true := by decide +kernel
  have hj : ∀ i j : Fin 16, w16.getD i.1 Str.empty = w16.getD j.1 Str.empty → i = j := by decide +kernel
  refine names_of h1 h2 (fun k hk => hw ⟨(f + 5 * k) % 16, by omega⟩) fun j k h hk e => ?_
  have := congrArg Fin.val (hj ⟨(f + 5 * j) % 16, by omega⟩ ⟨(f + 5 * k) % 16, by omega⟩ e)
  simp only at this
  omega
theorem cat_small {a b : Str} (h1 : a.length ≤ 20) (h2 : b.length ≤ 20) : a.length + b.length ≤ sizeLine := Nat.le_trans (Nat.add_le_add h1 h2) (by decide)
def sp_w_names (K : PySem.W.Frag) : Sp := fun vs H Q _ => ∃ F a m n, vs = [.ref a, .int m] ∧ Same F H ∧ F a = none ∧ BoxAt H a n ∧ n + 20 ≤ 1000000 ∧ 1 ≤ m ∧ m ≤ 12 ∧
  ∀ p ns F' H', H p = none → ExtB a F H F' H' → F' p = none → BoxAt H' a (n + 9) → H' p = some (.lst (ns.map V.str)) → NamesOk ns → Q (.ref p) H'
theorem join_signs {cs : List Nat} : (Txt.join Str.empty (cs.map fun c => (⟨#[c]⟩ : Str))).cps.toList = cs := by
  rw [TL.join_eq]
  show TL.tl _ = _
  rw [TL.tl_join]
  induction cs with
  | nil => rfl
  | cons c cs ih =>
    cases cs with
    | nil => rfl
    | cons d cs => exact congrArg (c :: ·) ih
section
variable {P : Program} {w : World} {K : PySem.W.Frag} {mg : Str → Option Value} {base : Heap}
theorem ok_w_names (T : Tx K mg) : FnOk P w K mg base CX0 2 T.a_w_names T.fd_w_names ["_law_box_here", "_law_many"] (sp_w_names K) := by
  refine T.F_w_names.ok sc_w_names (fun vs H Q E h => ?_) (fun cdv A outer s H vs Q E hr h => ?_)
  · obtain ⟨F, a, m, n, rfl, _⟩ := h; rfl
  · have hu := hu_of hr
    obtain ⟨F, a, m, n, rfl, s, hF, hb, hn, h1, h2, k⟩ := h
    refine ⟨_, (pss_cons (ps_set (i := 2) sc_w_names.nd rfl (Or.inr rfl) pe_str)
      (pss_cons (ps_set (i := 3) sc_w_names.nd rfl (Or.inl rfl) (pe_call (ok_w_take T) (hr.mono (by decide)) (by rfl) T.m_w_take T.F_w_take.kp T.b_w_take .nil pass0 (pa_cons (pv 0) (pa_cons pe_int pa_nil))))
      (pss_cons (ps_set (i := 4) sc_w_names.nd rfl (Or.inr rfl) (pe_call (ok_w_take T) (hr.mono (by decide)) (by rfl) T.m_w_take T.F_w_take.kp T.b_w_take .nil pass0 (pa_cons (pv 0) (pa_cons pe_int pa_nil))))
      (pss_cons (ps_if (pt_cmpR op_eq (pv 3) pe_int (nomark _)) (pss_cons (ps_set (i := 8) sc_w_names.nd rfl (Or.inr rfl) (pe_bmK (K := K) rfl PySem.F.plainAttrs_str PySem.F.slot_str_split PySem.F.type_str_split mt_split pe_str (pa_cons pe_str pa_nil)))
      (pss_one (ps_ret (pe_lc (own := [("_law_k", 9)]) rfl sc_w_names.nd (pi_range1 rfl T.z_range (pa_cons (pv 1) pa_nil)) (blkOk_by (N := slots_w_names) (sc := defScope s_w_names) (by decide +kernel)) (fun _ _ _ _ _ => by exact (pg_name (i := 9) sc_w_names.nd rfl (Or.inl rfl))) (fun _ _ _ _ _ => pts_nil) (fun _ _ _ _ _ => by exact (pe_ix (ix_listK (K := K) rfl) (pv 8) (pe_op op_mod (pe_op op_add (pv 4) (pe_op op_mul pe_int (pv 9))) pe_int) (fun _ _ => rfl))))))) pss_nil)
      (pss_cons (ps_set (i := 5) sc_w_names.nd rfl (Or.inr rfl) (pe_bmK (K := K) rfl PySem.F.plainAttrs_str PySem.F.slot_str_join PySem.F.type_str_join (mt_joinK (K := K) rfl) pe_str (pa_cons (pe_lc (own := [("_law_k", 9)]) rfl sc_w_names.nd (pi_range1 rfl T.z_range (pa_cons pe_int pa_nil)) (blkOk_by (N := slots_w_names) (sc := defScope s_w_names) (by decide +kernel)) (fun _ _ _ _ _ => by exact (pg_name (i := 9) sc_w_names.nd rfl (Or.inl rfl))) (fun _ _ _ _ _ => pts_nil) (fun _ _ _ _ _ => by exact (pe_ix ix_str (pv 2) (pe_call (ok_w_take T) (hr.mono (by decide)) (by rfl) T.m_w_take T.F_w_take.kp T.b_w_take .nil pass0 (pa_cons (pv 0) (pa_cons pe_int pa_nil))) (fun _ _ => rfl)))) pa_nil)))
      (pss_cons (ps_if (pt_cmpR op_eq (pv 3) pe_int (nomark _)) (pss_one (ps_ret (pe_lc (own := [("_law_k", 9)]) rfl sc_w_names.nd (pi_range1 rfl T.z_range (pa_cons (pv 1) pa_nil)) (blkOk_by (N := slots_w_names) (sc := defScope s_w_names) (by decide +kernel)) (fun _ _ _ _ _ => by exact (pg_name (i := 9) sc_w_names.nd rfl (Or.inl rfl))) (fun _ _ _ _ _ => pts_nil) (fun _ _ _ _ _ => by exact (pe_op op_add_str (pe_slice sl_str (pv 5) po_none (po_some (pe_op op_mod (pv 9) pe_int))) (pe_ix ix_str (pv 2) (pe_op op_mod (pe_op op_add (pv 4) (pe_op op_mul pe_int (pv 9))) pe_int) (fun _ _ => rfl))))))) pss_nil)
      (pss_cons (ps_set (i := 6) sc_w_names.nd rfl (Or.inr rfl) (pe_call (ok_w_take T) (hr.mono (by decide)) (by rfl) T.m_w_take T.F_w_take.kp T.b_w_take .nil pass0 (pa_cons (pv 0) (pa_cons pe_int pa_nil))))
      (pss_cons (ps_set (i := 7) sc_w_names.nd rfl (Or.inr rfl) (pe_call (ok_w_take T) (hr.mono (by decide)) (by rfl) T.m_w_take T.F_w_take.kp T.b_w_take .nil pass0 (pa_cons (pv 0) (pa_cons (pe_op op_add (pv 6) pe_int) pa_nil))))
      (pss_one (ps_ret (pe_lc (own := [("_law_k", 9)]) rfl sc_w_names.nd (pi_range1 rfl T.z_range (pa_cons (pv 1) pa_nil)) (blkOk_by (N := slots_w_names) (sc := defScope s_w_names) (by decide +kernel)) (fun _ _ _ _ _ => by exact (pg_name (i := 9) sc_w_names.nd rfl (Or.inl rfl))) (fun _ _ _ _ _ => pts_nil) (fun _ _ _ _ _ => by exact (pe_op op_add_str (pe_op op_add_str (pe_slice sl_str (pv 5) po_none (po_some (pv 7))) (pe_ix ix_str (pv 2) (pe_op op_mod (pe_op op_add (pv 4) (pe_op op_mul pe_int (pv 9))) pe_int) (fun _ _ => rfl))) (pe_slice sl_str (pv 5) (po_some (pv 7)) (po_some (pv 6)))))))))))))))), ?_⟩
    obtain ⟨m, rfl⟩ := Int.eq_ofNat_of_zero_le (show 0 ≤ m by omega)
    keq_hits
    refine ⟨a, 4, n, rfl, hb, by omega, by decide, by decide, fun w o w0 w1 hb1 => ?_⟩
    have e1 := ExtB.turn (o := o) s hF
    generalize upd H a o = H1 at hb1 e1 ⊢
    keq_hits
    refine ⟨a, 26, n + 1, rfl, hb1, by omega, by decide, by decide, fun f o f0 f1 hb2 => ?_⟩
    have e2 := e1.trans (ExtB.turn (o := o) e1.fh hF)
    generalize upd H1 a o = H2 at hb2 e2 ⊢
    obtain ⟨f, rfl⟩ := Int.eq_ofNat_of_zero_le f0
    have e2' := e2
    keq_hits
    refine w_ifd (fun e => ?_) (fun e => ?_)
    · keq_hits
      refine ⟨by decide +kernel, by decide +kernel, fun W hW => ?_⟩
      change H2 W = none at hW
      rw [w16_split]
      have e3 := e2.trans (ExtB.of (Ext.loose (o := .lst (w16.map V.str)) e2.fh hW))
      have hW1 := upd_same (H := H2) (a := W) (o := .lst (w16.map V.str))
      have hb3 := hb2.same (Same.new (o := .lst (w16.map V.str)) hW)
      show tSeq _ _ _ _ (upd H2 W (.lst (w16.map V.str)))
      generalize upd H2 W (.lst (w16.map V.str)) = H3 at e3 hW1 hb3 ⊢
      keq_hits
      refine ⟨by omega, by omega, ?_⟩
      rw [Int.toNat_natCast]
      refine comp_pure (K := K) (F := F) walk_range e3.fh (fun _ _ => trivial) (Nat.lt_of_le_of_lt (show m ≤ 12 by omega) (by decide)) (fun k => some (.str (nmW f k))) ?_ ?_
      · rintro i x F1 H4 H4' hi e4 ⟨rfl, rfl⟩ N N0 k1 k0
        keq_hits
        refine ⟨rfl, ?_⟩
        keq_hits
        refine w_rI (.inl ⟨by omega, by omega⟩) ?_
        keq_hits
        refine w_rI (by decide) ?_
        have hi16 : (f + 5 * i) % 16 < 16 := Nat.mod_lt _ (by decide)
        have ei : ((f : Int) + 5 * (0 + (i : Int))) % 16 = (((f + 5 * i) % 16 : Nat) : Int) := by omega
        rw [ei]
        refine w_ixL (SqL.of (e4.hh _ _ hW1)) (v := .str (nmW f i)) (atI_nat' ?_) ?_
        · rw [List.getElem?_map]
          unfold nmW
          rw [List.getD_eq_getElem?_getD, List.getElem?_eq_getElem (show (f + 5 * i) % 16 < w16.length from hi16)]
          rfl
        · exact k1 _ (.str (nmW f i)) F1 _ rfl (Ext.refl e4.fh) (.str _)
      · intro D ys F' H' hD eE hFD hL hI
        rw [filterMap_range_some (nmW f) PyData.str] at hI
        rw [hI.strs] at hL
        have e5 := e3.trans (ExtB.of eE)
        exact k D _ F' H' (e3.free hb.ne hD) e5 hFD ((hb3.same eE.hh).le (by omega)) hL (names_W (by omega) (by omega))
    · keq_hits
      refine ⟨by omega, by omega, ?_⟩
      refine comp_drawn (K := K) (F := F) (a := a) (N := n + 2) (c := 1) walk_range e2.fh hF hb2 (fun _ _ => trivial) (by decide) (fun i ds => ∃ cs : List Nat, ds = cs.map (fun c => PyData.str ⟨#[c]⟩) ∧ cs.length = i ∧ cs.all isLetter = true) ⟨[], rfl, rfl, rfl⟩ ?_ ?_
      · rintro i x ds F1 H3 H3' hi e3 hb3 ⟨rfl, rfl⟩ ⟨cs, rfl, hcl, hcs⟩ N N0 k1 k0
        have hi5 : i < 5 := hi
        have hF1 : F1 a = none := e3.nw a hb2.ne hF
        keq_hits
        refine ⟨rfl, ?_⟩
        keq_hits
        refine ⟨a, 26, _, rfl, hb3, by omega, by decide, by decide, fun c o c0 c1 hb4 => ?_⟩
        refine w_ixS abc_small (abc_at c0 c1) ?_
        refine k1 _ (.str ⟨#[97 + c.toNat]⟩) F1 _ (ExtB.turn e3.fh hF1) (hb4.le (by omega)) (.str _) ⟨cs ++ [97 + c.toNat], by rw [List.map_append]; rfl, by rw [List.length_append, hcl]; rfl, ?_⟩
        rw [List.all_append, hcs, List.all_cons, isL (by omega)]; rfl
      · rintro D ys ds F' H3 hD e3 hFD hb3 hL hI ⟨cs, rfl, hcl, hcs⟩
        have hcl : cs.length = 5 := hcl
        have hys : ys = (cs.map fun c => (⟨#[c]⟩ : Str)).map V.str := by
          have h0 : cs.map (fun c => PyData.str ⟨#[c]⟩) = (cs.map fun c => (⟨#[c]⟩ : Str)).map PyData.str := by rw [List.map_map]; rfl
          rw [h0] at hI; exact hI.strs
        rw [hys] at hL
        have e4 := e2.trans e3
        have hF4 : F' a = none := e3.nw a hb2.ne hF
        have hb4 := hb3.le (show n + 2 + (5 : Int).toNat * 1 ≤ n + 7 by show n + 2 + 5 * 1 ≤ n + 7; omega)
        keq_hits
        refine w_join (ys := cs.map fun c => (⟨#[c]⟩ : Str)) (SqL.of hL) ?_ ?_
        · refine Nat.le_trans (Nat.add_le_add (sum_le (c := 1) fun x hx => ?_) (Nat.le_refl _)) ?_
          · obtain ⟨c, _, rfl⟩ := List.mem_map.mp hx
            exact Nat.le_refl _
          · rw [List.length_map, hcl]; decide +kernel
        have hB := join_signs (cs := cs)
        have hB1 : (Txt.join ("" : Str) (cs.map fun c => (⟨#[c]⟩ : Str))).cps.toList.length = 5 := (congrArg List.length hB).trans hcl
        have hB2 : (Txt.join ("" : Str) (cs.map fun c => (⟨#[c]⟩ : Str))).cps.toList.all isLetter = true := (congrArg (fun l : List Nat => l.all isLetter) hB).trans hcs
        generalize Txt.join ("" : Str) (cs.map fun c => (⟨#[c]⟩ : Str)) = B at hB1 hB2 ⊢
        have hBs : B.length ≤ sizeLine := by
          have e0 : B.length = B.cps.toList.length := by rw [Array.length_toList]; rfl
          rw [e0, hB1]; decide
        have hB5 : B.length = 5 := by
          have e0 : B.length = B.cps.toList.length := by rw [Array.length_toList]; rfl
          rw [e0, hB1]
        have hcut : ∀ lo hi, (cutS B lo hi).length ≤ 5 := fun lo hi => Nat.le_trans (cutS_length B lo hi) (by omega)
        have hone : ∀ c : Nat, (⟨#[c]⟩ : Str).length ≤ 20 := fun c => show 1 ≤ 20 by decide
        have hcu20 : ∀ lo hi, (cutS B lo hi).length ≤ 20 := fun lo hi => Nat.le_trans (hcut lo hi) (by decide)
        have hsum : ∀ (lo hi : Option Int) (c : Nat), (cutS B lo hi ++ (⟨#[c]⟩ : Str)).length ≤ 20 := fun lo hi c => by
          have := hcut lo hi
          rw [Str.length_append]; show _ + 1 ≤ 20; omega
        keq_hits
        refine w_ifd (fun e => ?_) (fun e => ?_)
        · keq_hits
          refine ⟨by omega, by omega, ?_⟩
          rw [Int.toNat_natCast]
          refine comp_pure (K := K) (F := F') walk_range e4.fh (fun _ _ => trivial) (Nat.lt_of_le_of_lt (show m ≤ 12 by omega) (by decide)) (fun k => some (.str (nmA B f k))) ?_ ?_
          · rintro i x F1 H4 H4' hi e5 ⟨rfl, rfl⟩ N N0 k1 k0
            keq_hits
            refine ⟨rfl, ?_⟩
            keq_hits
            refine w_rI (by decide) ?_
            keq_hits
            have ei : ((0 : Int) + (i : Int)) % 6 = ((i % 6 : Nat) : Int) := by omega
            rw [ei]
            refine w_slS (K := K) hBs ?_
            keq_hits
            refine w_rI (.inl ⟨by omega, by omega⟩) ?_
            keq_hits
            refine w_rI (by decide) ?_
            have ej : (((f : Int) + 7 * (0 + (i : Int))) % 26).toNat = (f + 7 * i) % 26 := by omega
            refine w_ixS abc_small (abc_at (by omega) (by omega)) ?_
            rw [ej]
            keq_hits
            refine ⟨cat_small (hcu20 _ _) (hone _), ?_⟩
            exact k1 _ (.str (nmA B f i)) F1 _ rfl (Ext.refl e5.fh) (.str _)
          · intro D2 ys2 F2 H4 hD2 eE hFD2 hL2 hI2
            rw [filterMap_range_some (nmA B f) PyData.str] at hI2
            rw [hI2.strs] at hL2
            exact k D2 _ F2 H4 (e4.free hb.ne hD2) (e4.trans (ExtB.of eE)) hFD2 ((hb4.same eE.hh).le (by omega)) hL2 (names_A hB1 hB2 (by omega) (by omega))
        · keq_hits
          refine ⟨a, 6, n + 7, rfl, hb4, by omega, by decide, by decide, fun z o z0 z1 hb5 => ?_⟩
          have e5 := e4.trans (ExtB.turn (o := o) e4.fh hF4)
          generalize upd H3 a o = H4 at hb5 e5 ⊢
          obtain ⟨z, rfl⟩ := Int.eq_ofNat_of_zero_le z0
          keq_hits
          refine ⟨a, _, n + 8, rfl, hb5, by omega, by omega, by omega, fun t o t0 t1 hb6 => ?_⟩
          have e6 := e5.trans (ExtB.turn (o := o) e5.fh hF4)
          generalize upd H4 a o = H5 at hb6 e6 ⊢
          obtain ⟨t, rfl⟩ := Int.eq_ofNat_of_zero_le t0
          keq_hits
          refine ⟨by omega, by omega, ?_⟩
          rw [Int.toNat_natCast]
          refine comp_pure (K := K) (F := F') walk_range e6.fh (fun _ _ => trivial) (Nat.lt_of_le_of_lt (show m ≤ 12 by omega) (by decide)) (fun k => some (.str (nmB B f t z k))) ?_ ?_
          · rintro i x F1 H6 H6' hi e7 ⟨rfl, rfl⟩ N N0 k1 k0
            keq_hits
            refine ⟨rfl, ?_⟩
            keq_hits
            refine w_slS (K := K) hBs ?_
            keq_hits
            refine w_rI (.inl ⟨by omega, by omega⟩) ?_
            keq_hits
            refine w_rI (by decide) ?_
            have ej : (((f : Int) + 7 * (0 + (i : Int))) % 26).toNat = (f + 7 * i) % 26 := by omega
            refine w_ixS abc_small (abc_at (by omega) (by omega)) ?_
            rw [ej]
            keq_hits
            refine ⟨cat_small (hcu20 _ _) (hone _), ?_⟩
            keq_hits
            refine w_slS (K := K) hBs ?_
            keq_hits
            refine ⟨cat_small (hsum _ _ _) (hcu20 _ _), ?_⟩
            exact k1 _ (.str (nmB B f t z i)) F1 _ rfl (Ext.refl e7.fh) (.str _)
          · intro D2 ys2 F2 H6 hD2 eE hFD2 hL2 hI2
            rw [filterMap_range_some (nmB B f t z) PyData.str] at hI2
            rw [hI2.strs] at hL2
            exact k D2 _ F2 H6 (e6.free hb.ne hD2) (e6.trans (ExtB.of eE)) hFD2 ((hb6.same eE.hh).le (by omega)) hL2 (names_B hB1 hB2 (by omega) (by omega) (by omega) (by omega))
end

def sp_w_number (K : PySem.W.Frag) : Sp := fun vs H Q _ => ∃ F a n, vs = [.ref a] ∧ Same F H ∧ F a = none ∧ BoxAt H a n ∧ n + 3 ≤ 1000000 ∧
  ∀ x H', 0 ≤ x → x ≤ 10000000000000 → ExtB a F H F H' → BoxAt H' a (n + 3) → Q (.int x) H'
theorem pow13 : (10 : Int) ^ (13 : Int).toNat = 10000000000000 := by decide +kernel
theorem pow7 : (10 : Int) ^ (7 : Int).toNat = 10000000 := by decide +kernel
theorem pow6 : (10 : Int) ^ (6 : Int).toNat = 1000000 := by decide +kernel
theorem pow42 {k : Nat} (h : k ≤ 42) : (1 : Int) ≤ 2 ^ k ∧ (2 : Int) ^ k ≤ 4398046511104 := by
  have h1 : 2 ^ k ≤ 2 ^ 42 := Nat.pow_le_pow_right (by decide) h
  have h2 : 1 ≤ 2 ^ k := Nat.one_le_two_pow
  have e : (2 : Int) ^ k = ((2 ^ k : Nat) : Int) := by push_cast; rfl
  rw [e]
  constructor
  · exact Int.ofNat_le.mpr h2
  · exact Int.ofNat_le.mpr (Nat.le_trans h1 (by decide))
section
variable {P : Program} {w : World} {K : PySem.W.Frag} {mg : Str → Option Value} {base : Heap}
theorem ok_w_number (T : Tx K mg) : FnOk P w K mg base CX0 2 T.a_w_number T.fd_w_number ["_law_box_here"] (sp_w_number K) := by
  refine T.F_w_number.ok sc_w_number (fun vs H Q E h => ?_) (fun cdv A outer s H vs Q E hr h => ?_)
  · obtain ⟨F, a, n, rfl, _⟩ := h; rfl
  · have hu := hu_of hr
    obtain ⟨F, a, n, rfl, s, hF, hb, hn, k⟩ := h
    refine ⟨_, (pss_cons (ps_set (i := 1) sc_w_number.nd rfl (Or.inl rfl) (pe_call (ok_w_take T) (hr.mono (by decide)) (by rfl) T.m_w_take T.F_w_take.kp T.b_w_take .nil pass0 (pa_cons (pv 0) (pa_cons pe_int pa_nil))))
      (pss_cons (ps_if (pt_cmpR op_lt (pv 1) pe_int (nomark _)) (pss_one (ps_ret (pe_call (ok_w_take T) (hr.mono (by decide)) (by rfl) T.m_w_take T.F_w_take.kp T.b_w_take .nil pass0 (pa_cons (pv 0) (pa_cons (pe_ix (ix_listK (K := K) rfl) (pe_lst (pa_cons pe_int (pa_cons pe_int pa_nil))) (pv 1) (fun _ _ => rfl)) pa_nil))))) pss_nil)
      (pss_cons (ps_if (pt_cmpR op_eq (pv 1) pe_int (nomark _)) (pss_one (ps_ret (pe_op op_sub (pe_op op_pow pe_int pe_int) (pe_call (ok_w_take T) (hr.mono (by decide)) (by rfl) T.m_w_take T.F_w_take.kp T.b_w_take .nil pass0 (pa_cons (pv 0) (pa_cons pe_int pa_nil)))))) pss_nil)
      (pss_cons (ps_if (pt_cmpR op_eq (pv 1) pe_int (nomark _)) (pss_one (ps_ret (pe_op op_sub (pe_op op_add (pe_op op_shl pe_int (pe_call (ok_w_take T) (hr.mono (by decide)) (by rfl) T.m_w_take T.F_w_take.kp T.b_w_take .nil pass0 (pa_cons (pv 0) (pa_cons pe_int pa_nil)))) (pe_call (ok_w_take T) (hr.mono (by decide)) (by rfl) T.m_w_take T.F_w_take.kp T.b_w_take .nil pass0 (pa_cons (pv 0) (pa_cons pe_int pa_nil)))) pe_int))) pss_nil)
      (pss_one (ps_ret (pe_op op_add (pe_op op_mul (pe_call (ok_w_take T) (hr.mono (by decide)) (by rfl) T.m_w_take T.F_w_take.kp T.b_w_take .nil pass0 (pa_cons (pv 0) (pa_cons (pe_op op_pow pe_int pe_int) pa_nil))) (pe_op op_pow pe_int pe_int)) (pe_call (ok_w_take T) (hr.mono (by decide)) (by rfl) T.m_w_take T.F_w_take.kp T.b_w_take .nil pass0 (pa_cons (pv 0) (pa_cons (pe_op op_pow pe_int pe_int) pa_nil)))))))))), ?_⟩
    keq_hits
    refine ⟨a, 5, n, rfl, hb, by omega, by decide, by decide, fun w o w0 w1 hb1 => ?_⟩
    have e1 := ExtB.turn (o := o) s hF
    generalize upd H a o = H1 at hb1 e1 ⊢
    keq_hits
    refine w_ifd (fun e => ?_) (fun e => ?_)
    · keq_hits
      refine ⟨by decide, fun p hp => ?_⟩
      have e2 := e1.trans (ExtB.of (Ext.loose (o := .lst [.int 4, .int 40]) e1.fh hp))
      have hp1 := upd_same (H := H1) (a := p) (o := .lst [.int 4, .int 40])
      have hb2 := hb1.same (Same.new (o := .lst [.int 4, .int 40]) hp)
      generalize upd H1 p (.lst [.int 4, .int 40]) = H2 at e2 hp1 hb2 ⊢
      keq_hits
      have hw : ∃ r : Int, atI [V.int 4, V.int 40] w = some (.int r) ∧ 1 ≤ r ∧ r ≤ 40 := by
        have : w = 0 ∨ w = 1 := by omega
        rcases this with rfl | rfl
        · exact ⟨4, rfl, by decide, by decide⟩
        · exact ⟨40, rfl, by decide, by decide⟩
      obtain ⟨r, hr1, hr2, hr3⟩ := hw
      refine w_ixL (SqL.of hp1) hr1 ?_
      keq_hits
      refine ⟨a, r, n + 1, rfl, hb2, by omega, hr2, by omega, fun x o x0 x1 hb3 => ?_⟩
      exact k _ _ x0 (by omega) (e2.trans (ExtB.turn e2.fh hF)) (hb3.le (by omega))
    · keq_hits
      refine w_ifd (fun e => ?_) (fun e => ?_)
      · keq_hits
        refine w_rI ⟨by decide, by decide, by decide⟩ ?_
        rw [pow13]
        keq_hits
        refine ⟨a, 2, n + 1, rfl, hb1, by omega, by decide, by decide, fun x o x0 x1 hb2 => ?_⟩
        keq_hits
        exact k _ _ (by omega) (by omega) (e1.trans (ExtB.turn e1.fh hF)) (hb2.le (by omega))
      · keq_hits
        refine w_ifd (fun e => ?_) (fun e => ?_)
        · keq_hits
          refine ⟨a, 43, n + 1, rfl, hb1, by omega, by decide, by decide, fun x o x0 x1 hb2 => ?_⟩
          have e2 := e1.trans (ExtB.turn (o := o) e1.fh hF)
          generalize upd H1 a o = H2 at hb2 e2 ⊢
          refine w_rI ⟨x0, by omega, by decide⟩ ?_
          have hx := pow42 (k := x.toNat) (by omega)
          generalize (2 : Int) ^ x.toNat = X at hx ⊢
          keq_hits
          refine ⟨a, 3, n + 2, rfl, hb2, by omega, by decide, by decide, fun y o y0 y1 hb3 => ?_⟩
          keq_hits
          exact k _ _ (by omega) (by omega) (e2.trans (ExtB.turn e2.fh hF)) (hb3.le (by omega))
        · keq_hits
          refine w_rI ⟨by decide, by decide, by decide⟩ ?_
          rw [pow7]
          keq_hits
          refine ⟨a, _, n + 1, rfl, hb1, by omega, by decide, by decide, fun x o x0 x1 hb2 => ?_⟩
          have e2 := e1.trans (ExtB.turn (o := o) e1.fh hF)
          generalize upd H1 a o = H2 at hb2 e2 ⊢
          keq_hits
          refine w_rI ⟨by decide, by decide, by decide⟩ ?_
          rw [pow6]
          refine w_rI (.inl ⟨by omega, by omega⟩) ?_
          keq_hits
          refine w_rI ⟨by decide, by decide, by decide⟩ ?_
          rw [pow6]
          keq_hits
          refine ⟨a, _, n + 2, rfl, hb2, by omega, by decide, by decide, fun y o y0 y1 hb3 => ?_⟩
          keq_hits
          exact k _ _ (by omega) (by omega) (e2.trans (ExtB.turn e2.fh hF)) (hb3.le (by omega))
end

theorem strOk_name {n : Str} (h : nameStr n = true) : PyData.strOk n = true := by
  unfold nameStr at h
  simp only [Bool.and_eq_true] at h
  have h3 := h.2
  rw [List.all_eq_true] at h3
  have hl : ∀ c ∈ ("abcdefghijklmnopqrstuvwxyz" : Str).cps.toList, c < 0x110000 := by decide +kernel
  show n.cps.all _ = true
  rw [← Array.all_toList, List.all_eq_true]
  exact fun c hc => decide_eq_true (hl c (of_decide_eq_true (h3 c hc)))
theorem pairNames {ns : List Str} {y : Str} {x : Int} {rs : List (Str × Int)} {left : List Str} {c : Nat} (e : left[c]? = some y) (hy : y ∈ ns ∧ nameStr y = true) (x0 : 0 ≤ x) (x1 : x ≤ 10000000000000) (nd : left.Nodup)
    (dj : ∀ z ∈ left, z ∉ rs.map (·.1)) (ok : RowOk ns rs) (hl : rs.length + left.length ≤ 12) :
    RowOk ns (rs ++ [(y, x)]) ∧ (left.eraseIdx c).Nodup ∧ (∀ z ∈ left.eraseIdx c, z ∉ (rs ++ [(y, x)]).map (·.1)) ∧ (rs ++ [(y, x)]).length + (left.eraseIdx c).length ≤ 12 := by
  obtain ⟨f1, f2, f3, f4⟩ := erase_facts e
  obtain ⟨f5, f6⟩ := f4 nd
  have hl2 : (rs ++ [(y, x)]).length = rs.length + 1 := by rw [List.length_append]; rfl
  refine ⟨⟨by omega, ?_, fun p hp => ?_⟩, f5, fun z hz => ?_, by omega⟩
  · rw [List.map_append]
    refine List.nodup_append.mpr ⟨ok.nd, by simp, fun a ha b hb q => ?_⟩
    have hb' : b = y := by simpa using hb
    subst q; subst hb'; exact dj _ f1 ha
  · rcases List.mem_append.mp hp with h | h
    · exact ok.nm p h
    · rw [List.mem_singleton.mp h]; exact ⟨hy.1, hy.2, x0, x1⟩
  · rw [List.map_append]
    intro q
    rcases List.mem_append.mp q with h | h
    · exact dj z (f3 z hz) h
    · have : z = y := by simpa using h
      subst this; exact f6 hz
def sp_w_row (K : PySem.W.Frag) : Sp := fun vs H Q _ => ∃ F a p ns n, vs = [.ref a, .ref p] ∧ Same F H ∧ F a = none ∧ BoxAt H a n ∧ n + 61 ≤ 1000000 ∧ SqL K F p (ns.map V.str) ∧ NamesOk ns ∧
  ∀ D ys r F' H', H D = none → ExtB a F H F' H' → F' D = none → BoxAt H' a (n + 61) → H' D = some (.lst ys) → IsAll K F' ys (r.map encE) → RowOk ns r → Q (.ref D) H'
section
variable {P : Program} {w : World} {K : PySem.W.Frag} {mg : Str → Option Value} {base : Heap}
theorem ok_w_row (T : Tx K mg) : FnOk P w K mg base CX0 3 T.a_w_row T.fd_w_row ["_law_box_here", "_law_names_here"] (sp_w_row K) := by
  refine T.F_w_row.ok sc_w_row (fun vs H Q E h => ?_) (fun cdv A outer s H vs Q E hr h => ?_)
  · obtain ⟨F, a, p, ns, n, rfl, _⟩ := h; rfl
  · have hu := hu_of hr
    obtain ⟨F, a, p, ns, n, rfl, s, hF, hb, hn, hp, okn, k⟩ := h
    refine ⟨_, (pss_cons (ps_set (i := 2) sc_w_row.nd rfl (Or.inr rfl) (pe_ix (ix_listK (K := K) rfl) (pe_lst (pa_cons pe_int (pa_cons pe_int (pa_cons pe_int (pa_cons pe_int pa_nil))))) (pe_call (ok_w_take T) (hr.mono (by decide)) (by rfl) T.m_w_take T.F_w_take.kp T.b_w_take .nil pass0 (pa_cons (pv 0) (pa_cons pe_int pa_nil))) (fun _ _ => rfl)))
      (pss_cons (ps_setLc (i := 3) (own := [("_law_name", 5)]) rfl sc_w_row.nd rfl rfl (sw_true rfl rfl rfl (by decide +kernel)) (pi_listK (K := K) rfl (pv 1)) (blkOk_by (N := slots_w_row) (sc := defScope s_w_row) (by decide +kernel)) (fun _ _ _ _ _ => by exact (pg_name (i := 5) sc_w_row.nd rfl (Or.inl rfl))) (fun _ _ _ _ _ => by exact pts_one (pt_cmpR op_eq (pe_call (ok_w_take T) (hr.mono (by decide)) (by rfl) T.m_w_take T.F_w_take.kp T.b_w_take .nil pass0 (pa_cons (pv 0) (pa_cons (pv 2) pa_nil))) pe_int (nomark _))) (fun _ _ _ _ _ => by exact (pv 5)))
      (pss_cons (ps_set (i := 4) sc_w_row.nd rfl (Or.inl rfl) (pe_lst pa_nil))
      (pss_cons (ps_while PassesOwn.never (pt_cmpR (op_neDK (K := K) rfl hr.units) (pv 3) (pe_lst pa_nil) (nomark _)) (pss_one (ps_expr (pe_bmK (K := K) rfl PySem.F.plainAttrs_list PySem.F.slot_list_append PySem.F.type_list_append mt_append (pv 4) (pa_cons (pe_tup (pa_cons (pe_bmK (K := K) rfl PySem.F.plainAttrs_list PySem.F.slot_list_pop PySem.F.type_list_pop mt_popAt (pv 3) (pa_cons (pe_call (ok_w_take T) (hr.mono (by decide)) (by rfl) T.m_w_take T.F_w_take.kp T.b_w_take .nil pass0 (pa_cons (pv 0) (pa_cons (pe_callB (call_len_seqK (K := K) rfl) (by rfl) T.z_len (by decide +kernel) (pa_cons (pv 3) pa_nil)) pa_nil))) pa_nil)) (pa_cons (pe_call (ok_w_number T) (hr.mono (by decide)) (by rfl) T.m_w_number T.F_w_number.kp T.b_w_number .nil pass0 (pa_cons (pv 0) pa_nil)) pa_nil))) pa_nil)))))
      (pss_one (ps_ret (pv 4))))))), ?_⟩
    have hn12 := okn.hi
    keq_hits
    refine ⟨by decide, fun q hq => ?_⟩
    have e1 := ExtB.of (a := a) (Ext.loose (o := .lst [.int 1, .int 2, .int 3, .int 12]) s hq)
    have hq1 := upd_same (H := H) (a := q) (o := .lst [.int 1, .int 2, .int 3, .int 12])
    have hb1 := hb.same (Same.new (o := .lst [.int 1, .int 2, .int 3, .int 12]) hq)
    have hqa : q ≠ a := fun z => hb.ne (by rw [← z]; exact hq)
    keq_hits
    generalize upd H q (.lst [.int 1, .int 2, .int 3, .int 12]) = H1 at e1 hq1 hb1 ⊢
    refine ⟨a, 4, n, rfl, hb1, by omega, by decide, by decide, fun w o w0 w1 hb2 => ?_⟩
    have e2 := e1.trans (ExtB.turn (o := o) e1.fh hF)
    have hq2 : (upd H1 a o) q = _ := (upd_ne hqa).trans hq1
    generalize upd H1 a o = H2 at hb2 e2 hq2 ⊢
    have hw : ∃ r : Int, atI [V.int 1, V.int 2, V.int 3, V.int 12] w = some (.int r) ∧ 1 ≤ r ∧ r ≤ 12 := by
      have : w = 0 ∨ w = 1 ∨ w = 2 ∨ w = 3 := by omega
      rcases this with rfl | rfl | rfl | rfl
      · exact ⟨1, rfl, by decide, by decide⟩
      · exact ⟨2, rfl, by decide, by decide⟩
      · exact ⟨3, rfl, by decide, by decide⟩
      · exact ⟨12, rfl, by decide, by decide⟩
    obtain ⟨r, hr1, hr2, hr3⟩ := hw
    refine w_ixL (SqL.of hq2) hr1 ?_
    keq_hits
    refine w_exl (e2.fh.seq hp) ?_
    have wl := walk_list (K := K) (a := p) (xs := ns.map V.str)
    rw [List.length_map] at wl
    refine comp_drawn (K := K) (F := F) (a := a) (N := n + 1) (c := 1) wl e2.fh hF hb2 (fun H' e => hp.at' fun o ho => e p o (e2.fh _ _ ho) (ne_of_none ho hF)) (small1000 (by omega))
      (fun i ds => ∃ l : List Str, ds = l.map PyData.str ∧ l.Sublist (ns.take i)) ⟨[], rfl, by rw [List.take_zero]; exact List.Sublist.refl _⟩ ?_ ?_
    · rintro i x ds F1 H3 H3' hi e3 hb3 y ⟨l, rfl, hsl⟩ N N0 k1 k0
      obtain ⟨rfl, z, hz, rfl⟩ := yat_str y
      have hF1 : F1 a = none := e3.nw a hb2.ne hF
      have hss := take_sub_snoc hsl hz
      keq_hits
      refine ⟨rfl, ?_⟩
      keq_hits
      refine ⟨a, r, _, rfl, hb3, by omega, hr2, by omega, fun c o c0 c1 hb4 => ?_⟩
      keq_hits
      refine w_ifd (fun e => ?_) (fun e => ?_)
      · keq_hits
        exact k1 _ (.str z) F1 _ (ExtB.turn e3.fh hF1) (hb4.le (by omega)) (.str _) ⟨l ++ [z], by rw [List.map_append]; rfl, hss.1⟩
      · keq_hits
        exact k0 F1 _ (ExtB.turn e3.fh hF1) (hb4.le (by omega)) ⟨l, rfl, hss.2⟩
    · rintro L ys ds F3 H3 hL e3 hFL hb3 hLl hI ⟨l, rfl, hsl⟩
      rw [hI.strs] at hLl
      have hsl2 : l.Sublist ns := hsl.trans (List.take_sublist _ _)
      have e4 := e2.trans e3
      have hF3 : F3 a = none := e3.nw a hb2.ne hF
      have hL0 : H L = none := e2.free hb.ne hL
      keq_hits
      refine ⟨Nat.zero_le _, fun D hD => ?_⟩
      have e5 := e4.trans (ExtB.of (Ext.loose (o := .lst []) e4.fh hD))
      have hD0 : H D = none := e4.free hb.ne hD
      have hD1 := upd_same (H := H3) (a := D) (o := .lst [])
      have hFD : F3 D = none := e4.fh.free hD
      have hL4 : (upd H3 D (.lst [])) L = some (.lst (l.map V.str)) := Same.new hD _ _ hLl
      have hb4 := hb3.same (Same.new (o := .lst []) hD)
      have hDL : D ≠ L := fun z => by rw [← z, hD] at hLl; cases hLl
      have hll : l.length ≤ 12 := Nat.le_trans hsl2.length_le okn.hi
      keq_hits
      generalize upd H3 D (.lst []) = H4 at e5 hD1 hL4 hb4 ⊢
      refine w_while (fun m σ H' => ∃ left rs F1 ys e, σ = [some (V.ref a), some (.ref p), some (.int r), some (.ref L), some (.ref D), e] ∧ m = left.length ∧ ExtB a F H F1 H' ∧ F1 a = none ∧ F1 D = none ∧ F1 L = none ∧ H' L = some (.lst (left.map V.str)) ∧
          H' D = some (.lst ys) ∧ IsAll K F1 ys (rs.map encE) ∧ RowOk ns rs ∧ left.Nodup ∧ (∀ z ∈ left, z ∈ ns) ∧ (∀ z ∈ left, z ∉ rs.map (·.1)) ∧ rs.length + left.length ≤ 12 ∧ BoxAt H' a (n + 13 + 4 * rs.length))
        ⟨l, [], F3, [], none, rfl, rfl, e5, hF3, hFD, hFL, hL4, hD1, .nil, ⟨by simp, by simp, by simp⟩, hsl2.nodup okn.nd, fun z hz => hsl2.subset hz, fun z _ => by simp, by simpa using hll, hb4.le (by simp; omega)⟩ ?_
      rintro m σ H5 ⟨left, rs, F1, ys, e, rfl, rfl, eX, hFa, hFD, hFL, hL5, hD5, hI5, ok5, nd5, in5, dj5, hl5, hb5⟩
      keq_hits
      refine ⟨Nat.zero_le _, fun E hE => ?_⟩
      have s6 : Same H5 (upd H5 E (.lst [])) := Same.new hE
      have eX6 := eX.trans (ExtB.of (Ext.loose (o := .lst []) eX.fh hE))
      have hE6 := upd_same (H := H5) (a := E) (o := .lst [])
      have hL6 := s6 _ _ hL5
      have hD6 := s6 _ _ hD5
      have hb6 := hb5.same s6
      keq_hits
      generalize upd H5 E (.lst []) = H6 at eX6 hE6 hL6 hD6 hb6 ⊢
      refine w_neNil (SqL.of hL6) (SqL.of hE6) (fun z hz => strOk_name (okn.nm z (in5 z hz))) ?_
      keq_hits
      cases hleft : left with
      | nil =>
        refine w_ifF rfl ?_
        keq_hits
        exact k D ys rs F1 H6 hD0 eX6 hFD (hb6.le (by rw [hleft] at hl5; simp at hl5; omega)) hD6 hI5 ok5
      | cons z0 zs =>
        refine w_ifT rfl ?_
        have hlen : 0 < left.length := by rw [hleft]; simp
        rw [← hleft]
        refine ⟨_, fun σ' H' h => h, ?_⟩
        keq_hits
        refine w_tyL (SqL.of hD6) ?_
        keq_hits
        refine w_tyL (SqL.of hL6) ?_
        keq_hits
        refine w_lenL (SqL.of hL6) ?_
        rw [List.length_map]
        keq_hits
        refine ⟨a, _, _, rfl, hb6, by omega, by omega, by omega, fun c o c0 c1 hb7 => ?_⟩
        have eX7 := eX6.trans (ExtB.turn (o := o) eX6.fh hFa)
        have hLa : L ≠ a := fun z => by rw [z] at hL0; exact hb.ne hL0
        have hDa : D ≠ a := fun z => by rw [z] at hD0; exact hb.ne hD0
        have hL7 : (upd H6 a o) L = _ := (upd_ne hLa).trans hL6
        have hD7 : (upd H6 a o) D = _ := (upd_ne hDa).trans hD6
        generalize upd H6 a o = H7 at hb7 eX7 hL7 hD7 ⊢
        have hcl : c.toNat < left.length := by omega
        have hget : left[c.toNat]? = some (left[c.toNat]'hcl) := List.getElem?_eq_getElem hcl
        generalize left[c.toNat]'hcl = y at hget
        keq_hits
        refine w_popAt (y := .str y) hL7 c0 (by rw [List.length_map]; exact c1) (by rw [List.length_map]; omega) (by rw [List.getElem?_map, hget]; rfl) ?_
        rw [erase_map]
        have eX8 := eX7.mut (o := .lst ((left.eraseIdx c.toNat).map V.str)) hL0 hFL
        have hL8 := upd_same (H := H7) (a := L) (o := .lst ((left.eraseIdx c.toNat).map V.str))
        have hD8 : (upd H7 L (.lst ((left.eraseIdx c.toNat).map V.str))) D = _ := (upd_ne hDL).trans hD7
        have hb8 : BoxAt (upd H7 L (.lst ((left.eraseIdx c.toNat).map V.str))) a _ := hb7.at (upd_ne (Ne.symm hLa))
        keq_hits
        generalize upd H7 L (.lst ((left.eraseIdx c.toNat).map V.str)) = H8 at eX8 hL8 hD8 hb8 ⊢
        refine ⟨F1, a, _, rfl, eX8.fh, hFa, hb8, by omega, fun x H9 x0 x1 e9 hb9 => ?_⟩
        have eX9 := eX8.trans e9
        have hL9 := e9.hh _ _ hL8 hLa
        have hD9 := e9.hh _ _ hD8 hDa
        keq_hits
        refine ⟨by show 2 ≤ sizeLine; decide, fun T hT => ?_⟩
        have eXT := eX9.trans (ExtB.of (Ext.new (o := .tup [.str y, .int x]) eX9.fh hT))
        have hTL : (upd H9 T (.tup [.str y, .int x])) L = _ := Same.new hT _ _ hL9
        have hTD : (upd H9 T (.tup [.str y, .int x])) D = _ := Same.new hT _ _ hD9
        have hTb := hb9.same (Same.new (o := .tup [.str y, .int x]) hT)
        have hTa : a ≠ T := fun z => hb9.ne (by rw [z]; exact hT)
        have hTF : Same F1 (upd F1 T (.tup [.str y, .int x])) := Same.new (eX9.fh.free hT)
        have hTnL : L ≠ T := fun z => by rw [← z, hL9] at hT; cases hT
        have hTnD : D ≠ T := fun z => by rw [← z, hD9] at hT; cases hT
        keq_hits
        refine w_append hTD (by rw [hI5.length, List.length_map]; exact small1000 (by omega)) ?_
        obtain ⟨g1, g2, g3, g4⟩ := pairNames hget ⟨in5 y (List.mem_of_getElem? hget), okn.nm y (in5 y (List.mem_of_getElem? hget))⟩ x0 x1 nd5 dj5 ok5 hl5
        have hfD : (upd F1 T (.tup [.str y, .int x])) D = none := (upd_ne hTnD).trans hFD
        refine ⟨(left.eraseIdx c.toNat).length, by have := (erase_facts hget).2.1; omega, left.eraseIdx c.toNat, rs ++ [(y, x)], upd F1 T (.tup [.str y, .int x]), ys ++ [.ref T], _, rfl, rfl, eXT.mut hD0 hfD, (upd_ne hTa).trans hFa, hfD, (upd_ne hTnL).trans hFL, ?_, upd_same, ?_, g1, g2, fun z hz => in5 z ((erase_facts hget).2.2.1 z hz), g3, g4, ?_⟩
        · rw [upd_ne (Ne.symm hDL)]; exact hTL
        · rw [List.map_append]
          exact (hI5.mono hTF).append (.one (.mkE (SqT.of upd_same)))
        · refine (hTb.at (upd_ne (Ne.symm hDa))).le ?_
          rw [List.length_append]; simp only [List.length_singleton]; omega
end

def sp_w_some (K : PySem.W.Frag) : Sp := fun vs H Q _ => ∃ F a n, vs = [.ref a] ∧ Same F H ∧ F a = none ∧ BoxAt H a n ∧ n + 30 ≤ 1000000 ∧
  ∀ p ns F' H', H p = none → ExtB a F H F' H' → F' p = none → BoxAt H' a (n + 12) → H' p = some (.lst (ns.map V.str)) → NamesOk ns → Q (.ref p) H'
section
variable {P : Program} {w : World} {K : PySem.W.Frag} {mg : Str → Option Value} {base : Heap}
theorem ok_w_some (T : Tx K mg) : FnOk P w K mg base CX0 3 T.a_w_some T.fd_w_some ["_law_box_here"] (sp_w_some K) := by
  refine T.F_w_some.ok sc_w_some (fun vs H Q E h => ?_) (fun cdv A outer s H vs Q E hr h => ?_)
  · obtain ⟨F, a, n, rfl, _⟩ := h; rfl
  · have hu := hu_of hr
    obtain ⟨F, a, n, rfl, s, hF, hb, hn, k⟩ := h
    refine ⟨_, (pss_one (ps_ret (pe_call (ok_w_names T) (hr.mono (by decide)) (by rfl) T.m_w_names T.F_w_names.kp T.b_w_names .nil pass0 (pa_cons (pv 0) (pa_cons (pe_ix (ix_listK (K := K) rfl) (pe_lst (pa_cons (pe_op op_add pe_int (pe_call (ok_w_take T) (hr.mono (by decide)) (by rfl) T.m_w_take T.F_w_take.kp T.b_w_take .nil pass0 (pa_cons (pv 0) (pa_cons pe_int pa_nil)))) (pa_cons pe_int (pa_cons (pe_op op_add pe_int (pe_call (ok_w_take T) (hr.mono (by decide)) (by rfl) T.m_w_take T.F_w_take.kp T.b_w_take .nil pass0 (pa_cons (pv 0) (pa_cons pe_int pa_nil)))) pa_nil)))) (pe_call (ok_w_take T) (hr.mono (by decide)) (by rfl) T.m_w_take T.F_w_take.kp T.b_w_take .nil pass0 (pa_cons (pv 0) (pa_cons pe_int pa_nil))) (fun _ _ => rfl)) pa_nil))))), ?_⟩
    keq_hits
    refine ⟨a, 3, n, rfl, hb, by omega, by decide, by decide, fun w o w0 w1 hb1 => ?_⟩
    have e1 := ExtB.turn (o := o) s hF
    generalize upd H a o = H1 at hb1 e1 ⊢
    keq_hits
    refine ⟨a, 12, n + 1, rfl, hb1, by omega, by decide, by decide, fun x o x0 x1 hb2 => ?_⟩
    have e2 := e1.trans (ExtB.turn (o := o) e1.fh hF)
    generalize upd H1 a o = H2 at hb2 e2 ⊢
    keq_hits
    refine ⟨by show 3 ≤ sizeLine; decide, fun q hq => ?_⟩
    have e3 := e2.trans (ExtB.of (Ext.loose (o := .lst [.int (1 + w), .int 12, .int (1 + x)]) e2.fh hq))
    have hq1 := upd_same (H := H2) (a := q) (o := .lst [.int (1 + w), .int 12, .int (1 + x)])
    have hb3 := hb2.same (Same.new (o := .lst [.int (1 + w), .int 12, .int (1 + x)]) hq)
    have hqa : q ≠ a := fun z => hb2.ne (by rw [← z]; exact hq)
    keq_hits
    generalize upd H2 q (.lst [.int (1 + w), .int 12, .int (1 + x)]) = H3 at e3 hq1 hb3 ⊢
    refine ⟨a, 3, n + 2, rfl, hb3, by omega, by decide, by decide, fun c o c0 c1 hb4 => ?_⟩
    have e4 := e3.trans (ExtB.turn (o := o) e3.fh hF)
    have hq2 : (upd H3 a o) q = _ := (upd_ne hqa).trans hq1
    generalize upd H3 a o = H4 at hb4 e4 hq2 ⊢
    have hw : ∃ r : Int, atI [V.int (1 + w), V.int 12, V.int (1 + x)] c = some (.int r) ∧ 1 ≤ r ∧ r ≤ 12 := by
      have : c = 0 ∨ c = 1 ∨ c = 2 := by omega
      rcases this with rfl | rfl | rfl
      · exact ⟨_, rfl, by omega, by omega⟩
      · exact ⟨12, rfl, by decide, by decide⟩
      · exact ⟨_, rfl, by omega, by omega⟩
    obtain ⟨r, hr1, hr2, hr3⟩ := hw
    refine w_ixL (SqL.of hq2) hr1 ?_
    keq_hits
    refine ⟨F, a, r, n + 3, rfl, e4.fh, hF, hb4, by omega, hr2, hr3, fun p ns F' H' hp e5 hFp hb5 hpl ok => ?_⟩
    exact k p ns F' H' (e4.free hb.ne hp) (e4.trans e5) hFp (hb5.le (by omega)) hpl ok
end

def sp_w_ordered (K : PySem.W.Frag) : Sp := fun vs H Q _ => ∃ F p ns u r, vs = [.ref p, u] ∧ Same F H ∧ SqL K F p (ns.map V.str) ∧ ns.length ≤ 1000 ∧ Is K F u (encR r) ∧ (r.map (·.1)).Nodup ∧ RetList K F H ((inOrder ns r).map encE) Q
section
variable {P : Program} {w : World} {K : PySem.W.Frag} {mg : Str → Option Value} {base : Heap}
theorem ok_w_ordered (T : Tx K mg) : FnOk P w K mg base CX0 1 T.a_w_ordered T.fd_w_ordered ["_law_names_here", "_law_row_here"] (sp_w_ordered K) := by
  refine T.F_w_ordered.ok sc_w_ordered (fun vs H Q E h => ?_) (fun cdv A outer s H vs Q E hr h => ?_)
  · obtain ⟨F, p, ns, u, r, rfl, _⟩ := h; rfl
  · have hu := hu_of hr
    obtain ⟨F, p, ns, u, r, rfl, s0, hp, hl, hd, hnd, k⟩ := h
    refine ⟨_, (pss_cons (ps_set (i := 2) sc_w_ordered.nd rfl (Or.inr rfl) (pe_callTy ((call_dictPK (K := K) rfl) rfl) (by rfl) T.z_dict (by decide +kernel) (pa_cons (pv 1) pa_nil)))
      (pss_one (ps_ret (pe_lc (own := [("_law_name", 3)]) rfl sc_w_ordered.nd (pi_listK (K := K) rfl (pv 0)) (blkOk_by (N := slots_w_ordered) (sc := defScope s_w_ordered) (by decide +kernel)) (fun _ _ _ _ _ => by exact (pg_name (i := 3) sc_w_ordered.nd rfl (Or.inl rfl))) (fun _ _ _ _ _ => by exact pts_one (pt_cmp (pc_din hu (pv 3) (pv 2)))) (fun _ _ _ _ _ => by exact (pe_tup (pa_cons (pv 3) (pa_cons (pe_dget hu (pv 2) (pv 3) (fun _ _ => rfl)) pa_nil)))))))), ?_⟩
    obtain ⟨a, xs, rfl, ha, hx⟩ := hd.list_inv
    obtain ⟨ps, rfl, hps⟩ := (hx.mono s0).pairs
    keq_hits
    refine ⟨a, ps, kvR r, rfl, s0.seq ha, hps, fun D hD => ?_⟩
    rw [kvR_nd hnd]
    keq_hits
    have eD : Ext F H F (upd H D (.dK (kvR r))) := Ext.loose s0 hD
    refine w_exl (eD.fh.seq hp) ?_
    have w := walk_list (K := K) (a := p) (xs := ns.map V.str)
    rw [List.length_map] at w
    refine comp_pure (K := K) (F := F) w eD.fh (fun H' q => q.seq (eD.fh.seq hp)) (small1000 hl) (fun i => ns[i]?.bind fun n => (look r n).map fun i => encE (n, i)) ?_ ?_
    · rintro i y F1 H1 H1' hi e1 y1 N N0 k1 k0
      obtain ⟨rfl, n, hn, rfl⟩ := yat_str y1
      keq_hits
      refine ⟨rfl, ?_⟩
      keq_hits
      have hD1 : H1' D = some (.dK (kvR r)) := e1.hh _ _ upd_same
      refine w_dinS (.of hD1) ?_
      have ev : valV (kvR r) (Sum.inr n) = (look r n).map V.int := valV_inr V.int n r
      rw [ev]
      cases hL : look r n with
      | none =>
        keq_hits
        exact k0 F1 _ (by rw [hn]; show (look r n).map _ = _; rw [hL]; rfl) (Ext.refl e1.fh)
      | some z =>
        keq_hits
        refine w_dgetS (.of hD1) (by rw [ev, hL]; rfl) ?_
        keq_hits
        refine ⟨by show 2 ≤ sizeLine; decide, fun T hT => ?_⟩
        exact k1 _ (encE (n, z)) (upd F1 T (.tup [.str n, .int z])) _ (by rw [hn]; show (look r n).map _ = _; rw [hL]; rfl) (Ext.new e1.fh hT) (.mkE (SqT.of upd_same))
    · intro q ys F' H' hq eE hF hL hI
      have e : (List.range ns.length).filterMap (fun i => ns[i]?.bind fun n => (look r n).map fun i => encE (n, i)) = (inOrder ns r).map encE := by
        rw [range_filterMap]
        unfold inOrder
        rw [List.map_filterMap]
        congr 1
        funext n
        cases look r n <;> rfl
      rw [e] at hI
      exact k q ys F' H' (eD.hh.free hq) (eD.trans eE) hF hL hI
end

theorem rowsSnoc {ns : List Str} {y : Str} {x : List (Str × Int)} {rs : List (Str × List (Str × Int))} {left : List Str} {c : Nat} (e : left[c]? = some y) (hy : y ∈ ns) (hx : RowOk ns x) (nd : left.Nodup)
    (dj : ∀ z ∈ left, z ∉ rs.map (·.1)) (ok : RowsOk ns rs) (hl : rs.length + left.length ≤ 12) :
    RowsOk ns (rs ++ [(y, x)]) ∧ (left.eraseIdx c).Nodup ∧ (∀ z ∈ left.eraseIdx c, z ∉ (rs ++ [(y, x)]).map (·.1)) ∧ (rs ++ [(y, x)]).length + (left.eraseIdx c).length ≤ 12 := by
  obtain ⟨f1, f2, f3, f4⟩ := erase_facts e
  obtain ⟨f5, f6⟩ := f4 nd
  have hl2 : (rs ++ [(y, x)]).length = rs.length + 1 := by rw [List.length_append]; rfl
  refine ⟨⟨by omega, ?_, fun p hp => ?_⟩, f5, fun z hz => ?_, by omega⟩
  · rw [List.map_append]
    refine List.nodup_append.mpr ⟨ok.nd, by simp, fun a ha b hb q => ?_⟩
    have hb' : b = y := by simpa using hb
    subst q; subst hb'; exact dj _ f1 ha
  · rcases List.mem_append.mp hp with h | h
    · exact ok.nm p h
    · rw [List.mem_singleton.mp h]; exact ⟨hy, hx⟩
  · rw [List.map_append]
    intro q
    rcases List.mem_append.mp q with h | h
    · exact dj z (f3 z hz) h
    · have : z = y := by simpa using h
      subst this; exact f6 hz
def sp_w_rows (K : PySem.W.Frag) : Sp := fun vs H Q _ => ∃ F a p ns n, vs = [.ref a, .ref p] ∧ Same F H ∧ F a = none ∧ BoxAt H a n ∧ n + 756 ≤ 1000000 ∧ SqL K F p (ns.map V.str) ∧ NamesOk ns ∧
  ∀ D rs F' H', H D = none → ExtB a F H F' H' → F' a = none → BoxAt H' a (n + 756) → Is K F' (.ref D) (encRows rs) → RowsOk ns rs → Q (.ref D) H'
section
variable {P : Program} {w : World} {K : PySem.W.Frag} {mg : Str → Option Value} {base : Heap}
theorem ok_w_rows (T : Tx K mg) : FnOk P w K mg base CX0 4 T.a_w_rows T.fd_w_rows ["_law_box_here", "_law_names_here"] (sp_w_rows K) := by
  refine T.F_w_rows.ok sc_w_rows (fun vs H Q E h => ?_) (fun cdv A outer s H vs Q E hr h => ?_)
  · obtain ⟨F, a, p, ns, n, rfl, _⟩ := h; rfl
  · have hu := hu_of hr
    obtain ⟨F, a, p, ns, n, rfl, s, hF, hb, hn, hp, okn, k⟩ := h
    refine ⟨_, (pss_cons (ps_setLc (i := 2) (own := [("_law_name", 4)]) rfl sc_w_rows.nd rfl rfl (sw_true rfl rfl rfl (by decide +kernel)) (pi_listK (K := K) rfl (pv 1)) (blkOk_by (N := slots_w_rows) (sc := defScope s_w_rows) (by decide +kernel)) (fun _ _ _ _ _ => by exact (pg_name (i := 4) sc_w_rows.nd rfl (Or.inl rfl))) (fun _ _ _ _ _ => by exact pts_one (pt_cmpR op_gt (pe_call (ok_w_take T) (hr.mono (by decide)) (by rfl) T.m_w_take T.F_w_take.kp T.b_w_take .nil pass0 (pa_cons (pv 0) (pa_cons pe_int pa_nil))) pe_int (nomark _))) (fun _ _ _ _ _ => by exact (pv 4)))
      (pss_cons (ps_set (i := 3) sc_w_rows.nd rfl (Or.inl rfl) pe_dnewK)
      (pss_cons (ps_while PassesOwn.never (pt_cmpR (op_neDK (K := K) rfl hr.units) (pv 2) (pe_lst pa_nil) (nomark _)) (pss_one (ps_dput hu (pv 3) (pe_bmK (K := K) rfl PySem.F.plainAttrs_list PySem.F.slot_list_pop PySem.F.type_list_pop mt_popAt (pv 2) (pa_cons (pe_call (ok_w_take T) (hr.mono (by decide)) (by rfl) T.m_w_take T.F_w_take.kp T.b_w_take .nil pass0 (pa_cons (pv 0) (pa_cons (pe_callB (call_len_seqK (K := K) rfl) (by rfl) T.z_len (by decide +kernel) (pa_cons (pv 2) pa_nil)) pa_nil))) pa_nil)) (pe_call (ok_w_row T) (hr.mono (by decide)) (by rfl) T.m_w_row T.F_w_row.kp T.b_w_row .nil pass0 (pa_cons (pv 0) (pa_cons (pv 1) pa_nil))) rfl)))
      (pss_one (ps_ret (pv 3)))))), ?_⟩
    have hn12 := okn.hi
    keq_hits
    refine w_exl (s.seq hp) ?_
    have wl := walk_list (K := K) (a := p) (xs := ns.map V.str)
    rw [List.length_map] at wl
    refine comp_drawn (K := K) (F := F) (a := a) (N := n) (c := 1) wl s hF hb (fun H' e => hp.at' fun o ho => e p o (s _ _ ho) (ne_of_none ho hF)) (small1000 (by omega))
      (fun i ds => ∃ l : List Str, ds = l.map PyData.str ∧ l.Sublist (ns.take i)) ⟨[], rfl, by rw [List.take_zero]; exact List.Sublist.refl _⟩ ?_ ?_
    · rintro i x ds F1 H3 H3' hi e3 hb3 y ⟨l, rfl, hsl⟩ N N0 k1 k0
      obtain ⟨rfl, z, hz, rfl⟩ := yat_str y
      have hF1 : F1 a = none := e3.nw a hb.ne hF
      have hss := take_sub_snoc hsl hz
      keq_hits
      refine ⟨rfl, ?_⟩
      keq_hits
      refine ⟨a, 4, _, rfl, hb3, by omega, by decide, by decide, fun c o c0 c1 hb4 => ?_⟩
      keq_hits
      refine w_ifd (fun e => ?_) (fun e => ?_)
      · keq_hits
        exact k1 _ (.str z) F1 _ (ExtB.turn e3.fh hF1) (hb4.le (by omega)) (.str _) ⟨l ++ [z], by rw [List.map_append]; rfl, hss.1⟩
      · keq_hits
        exact k0 F1 _ (ExtB.turn e3.fh hF1) (hb4.le (by omega)) ⟨l, rfl, hss.2⟩
    · rintro L ys ds F3 H3 hL e4 hFL hb3 hLl hI ⟨l, rfl, hsl⟩
      rw [hI.strs] at hLl
      have hsl2 : l.Sublist ns := hsl.trans (List.take_sublist _ _)
      have hF3 : F3 a = none := e4.nw a hb.ne hF
      have hL0 : H L = none := hL
      keq_hits
      intro D hD
      have e5 := e4.trans (ExtB.of (Ext.loose (o := .dK []) e4.fh hD))
      have hD0 : H D = none := e4.free hb.ne hD
      have hD1 := upd_same (H := H3) (a := D) (o := .dK [])
      have hFD : F3 D = none := e4.fh.free hD
      have hL4 : (upd H3 D (.dK [])) L = some (.lst (l.map V.str)) := Same.new hD _ _ hLl
      have hb4 := hb3.same (Same.new (o := .dK []) hD)
      have hDL : D ≠ L := fun z => by rw [← z, hD] at hLl; cases hLl
      have hll : l.length ≤ 12 := Nat.le_trans hsl2.length_le okn.hi
      keq_hits
      generalize upd H3 D (.dK []) = H4 at e5 hD1 hL4 hb4 ⊢
      refine w_while (fun m σ H' => ∃ left rs F1 kvs e, σ = [some (V.ref a), some (.ref p), some (.ref L), some (.ref D), e] ∧ m = left.length ∧ ExtB a F H F1 H' ∧ F1 a = none ∧ F1 D = none ∧ F1 L = none ∧ H' L = some (.lst (left.map V.str)) ∧
          H' D = some (.dK kvs) ∧ IsKv K F1 kvs (rs.map fun p => (.str p.1, encR p.2)) ∧ kvs.map (·.1) = rs.map (fun p => Sum.inr p.1) ∧ RowsOk ns rs ∧ left.Nodup ∧ (∀ z ∈ left, z ∈ ns) ∧ (∀ z ∈ left, z ∉ rs.map (·.1)) ∧ rs.length + left.length ≤ 12 ∧ BoxAt H' a (n + 12 + 62 * rs.length))
        ⟨l, [], F3, [], none, rfl, rfl, e5, hF3, hFD, hFL, hL4, hD1, .nil, rfl, ⟨by simp, by simp, by simp⟩, hsl2.nodup okn.nd, fun z hz => hsl2.subset hz, fun z _ => by simp, by simpa using hll, hb4.le (by simp; omega)⟩ ?_
      rintro m σ H5 ⟨left, rs, F1, kvs, e, rfl, rfl, eX, hFa, hFD, hFL, hL5, hD5, hI5, hk5, ok5, nd5, in5, dj5, hl5, hb5⟩
      keq_hits
      refine ⟨Nat.zero_le _, fun E hE => ?_⟩
      have s6 : Same H5 (upd H5 E (.lst [])) := Same.new hE
      have eX6 := eX.trans (ExtB.of (Ext.loose (o := .lst []) eX.fh hE))
      have hE6 := upd_same (H := H5) (a := E) (o := .lst [])
      have hL6 := s6 _ _ hL5
      have hD6 := s6 _ _ hD5
      have hb6 := hb5.same s6
      keq_hits
      generalize upd H5 E (.lst []) = H6 at eX6 hE6 hL6 hD6 hb6 ⊢
      refine w_neNil (SqL.of hL6) (SqL.of hE6) (fun z hz => strOk_name (okn.nm z (in5 z hz))) ?_
      keq_hits
      have hDa : D ≠ a := fun z => by rw [z] at hD0; exact hb.ne hD0
      cases hleft : left with
      | nil =>
        refine w_ifF rfl ?_
        keq_hits
        have hsame : Same F1 (upd F1 D (.dK kvs)) := Same.new hFD
        exact k D rs (upd F1 D (.dK kvs)) H6 hD0 (eX6.takeIn hD0 hFD hD6) ((upd_ne (Ne.symm hDa)).trans hFa) (hb6.le (by rw [hleft] at hl5; simp at hl5; omega)) (.dct upd_same (hI5.mono hsame)) ok5
      | cons z0 zs =>
        refine w_ifT rfl ?_
        have hlen : 0 < left.length := by rw [hleft]; simp
        rw [← hleft]
        refine ⟨_, fun σ' H' h => h, ?_⟩
        have hLa : L ≠ a := fun z => by rw [z] at hL0; exact hb.ne hL0
        keq_hits
        refine ⟨F1, a, p, ns, _, rfl, eX6.fh, hFa, hb6, by omega, eX6.ff.seq hp, okn, fun R ys r F7 H7 hR e7 hFR hb7 hR7 hI7 ok7 => ?_⟩
        have eX7 := eX6.trans e7
        have hR0 : H R = none := eX6.free hb.ne hR
        have hRa : R ≠ a := fun z => hb6.ne (by rw [← z]; exact hR)
        have hRL : R ≠ L := fun z => by rw [z, hL6] at hR; cases hR
        have hRD : R ≠ D := fun z => by rw [z, hD6] at hR; cases hR
        have hF7a : F7 a = none := e7.nw a hb6.ne hFa
        have hF7D : F7 D = none := e7.nw D (by rw [hD6]; exact fun z => nomatch z) hFD
        have hF7L : F7 L = none := e7.nw L (by rw [hL6]; exact fun z => nomatch z) hFL
        have eX8 := eX7.takeIn hR0 hFR hR7
        have hsm : Same F7 (upd F7 R (.lst ys)) := Same.new hFR
        have hIR : Is K (upd F7 R (.lst ys)) (.ref R) (encR r) := .lst (SqL.of upd_same) (hI7.mono hsm)
        have hI8 := hI5.mono (e7.ff.trans hsm)
        have h8a : (upd F7 R (.lst ys)) a = none := (upd_ne (Ne.symm hRa)).trans hF7a
        have h8D : (upd F7 R (.lst ys)) D = none := (upd_ne (Ne.symm hRD)).trans hF7D
        have h8L : (upd F7 R (.lst ys)) L = none := (upd_ne (Ne.symm hRL)).trans hF7L
        generalize upd F7 R (.lst ys) = F8 at eX8 hIR hI8 h8a h8D h8L
        have hL7 := e7.hh _ _ hL6 hLa
        have hD7 := e7.hh _ _ hD6 hDa
        keq_hits
        refine w_tyL (SqL.of hL7) ?_
        keq_hits
        refine w_lenL (SqL.of hL7) ?_
        rw [List.length_map]
        keq_hits
        refine ⟨a, _, _, rfl, hb7, by omega, by omega, by omega, fun c o c0 c1 hb9 => ?_⟩
        have eX9 := eX8.trans (ExtB.turn (o := o) eX8.fh h8a)
        have hL9 : (upd H7 a o) L = _ := (upd_ne hLa).trans hL7
        have hD9 : (upd H7 a o) D = _ := (upd_ne hDa).trans hD7
        generalize upd H7 a o = H9 at hb9 eX9 hL9 hD9 ⊢
        have hcl : c.toNat < left.length := by omega
        have hget : left[c.toNat]? = some (left[c.toNat]'hcl) := List.getElem?_eq_getElem hcl
        generalize left[c.toNat]'hcl = y at hget
        keq_hits
        refine w_popAt (y := .str y) hL9 c0 (by rw [List.length_map]; exact c1) (by rw [List.length_map]; omega) (by rw [List.getElem?_map, hget]; rfl) ?_
        rw [erase_map]
        have eXA := eX9.mut (o := .lst ((left.eraseIdx c.toNat).map V.str)) hL0 h8L
        have hLA := upd_same (H := H9) (a := L) (o := .lst ((left.eraseIdx c.toNat).map V.str))
        have hDA : (upd H9 L (.lst ((left.eraseIdx c.toNat).map V.str))) D = _ := (upd_ne hDL).trans hD9
        have hbA : BoxAt (upd H9 L (.lst ((left.eraseIdx c.toNat).map V.str))) a _ := hb9.at (upd_ne (Ne.symm hLa))
        generalize upd H9 L (.lst ((left.eraseIdx c.toNat).map V.str)) = HA at eXA hLA hDA hbA ⊢
        have hkn : kvs.length = rs.length := by have := congrArg List.length hk5; simpa using this
        refine w_dputS hDA (small1000 (by omega)) ?_
        have hkey : (Sum.inr y : Key) ∉ kvs.map (·.1) := by
          rw [hk5]
          intro hm
          obtain ⟨q, hq, e⟩ := List.mem_map.mp hm
          exact dj5 y (List.mem_of_getElem? hget) (List.mem_map.mpr ⟨q, hq, Sum.inr.inj e⟩)
        rw [putK_new _ (valV_notin hkey)]
        obtain ⟨g1, g2, g3, g4⟩ := rowsSnoc hget (in5 y (List.mem_of_getElem? hget)) ok7 nd5 dj5 ok5 hl5
        refine ⟨(left.eraseIdx c.toNat).length, by have := (erase_facts hget).2.1; omega, left.eraseIdx c.toNat, rs ++ [(y, r)], F8, kvs ++ [(Sum.inr y, .ref R)], _, rfl, rfl, eXA.mut hD0 h8D, h8a, h8D, h8L, ?_, upd_same, ?_, ?_, g1, g2, fun z hz => in5 z ((erase_facts hget).2.2.1 z hz), g3, g4, ?_⟩
        · rw [upd_ne (Ne.symm hDL)]; exact hLA
        · rw [List.map_append]
          exact hI8.append (.cons hIR .nil)
        · rw [List.map_append, List.map_append, hk5]; rfl
        · refine (hbA.at (upd_ne (Ne.symm hDa))).le ?_
          rw [List.length_append]; simp only [List.length_singleton]; omega
end

def sp_w_text (K : PySem.W.Frag) : Sp := fun vs H Q _ => ∃ F p ns u rs, vs = [.ref p, u] ∧ Same F H ∧ SqL K F p (ns.map V.str) ∧ NamesOk ns ∧ Is K F u (encRows rs) ∧ RowsOk ns rs ∧ ∀ H', Same H H' → Q (.str (rowsText ns rs)) H'
section
variable {P : Program} {w : World} {K : PySem.W.Frag} {mg : Str → Option Value} {base : Heap}
theorem ok_w_text (T : Tx K mg) : FnOk P w K mg base CX0 2 T.a_w_text T.fd_w_text ["_law_names_here", "_law_rows_here"] (sp_w_text K) := by
  refine T.F_w_text.ok sc_w_text (fun vs H Q E h => ?_) (fun cdv A outer s H vs Q E hr h => ?_)
  · obtain ⟨F0, p, ns, u, rs, rfl, _⟩ := h; rfl
  · have hu := hu_of hr
    obtain ⟨F0, p, ns, u, rs, rfl, s0, hp0, okn, hd0, ok, k⟩ := h
    have hp := s0.seq hp0
    have hd := hd0.mono s0
    refine ⟨_, (pss_cons (ps_set (i := 2) sc_w_text.nd rfl (Or.inl rfl) (pe_lst pa_nil))
      (pss_cons (ps_for PassesOwn.never rfl (pi_listK (K := K) rfl (pv 0)) (pg_name (i := 3) sc_w_text.nd rfl (Or.inl rfl)) (pss_one (ps_if (pt_cmp (pc_din hu (pv 3) (pv 1))) (pss_cons (ps_set (i := 4) sc_w_text.nd rfl (Or.inl rfl) (pe_call (ok_w_ordered T) (hr.mono (by decide)) (by rfl) T.m_w_ordered T.F_w_ordered.kp T.b_w_ordered .nil pass0 (pa_cons (pv 0) (pa_cons (pe_dget hu (pv 1) (pv 3) (fun _ _ => rfl)) pa_nil))))
      (pss_one (ps_expr (pe_bmK (K := K) rfl PySem.F.plainAttrs_list PySem.F.slot_list_append PySem.F.type_list_append mt_append (pv 2) (pa_cons (pe_bmK (K := K) rfl PySem.F.plainAttrs_str PySem.F.slot_str_join PySem.F.type_str_join (mt_joinK (K := K) rfl) pe_str (pa_cons (pe_op op_cat (pe_lst (pa_cons (pv 3) pa_nil)) (pe_lc (own := [("_law_other", 5), ("_law_number_here", 6)]) rfl sc_w_text.nd (pi_listK (K := K) rfl (pv 4)) (blkOk_by (N := slots_w_text) (sc := defScope s_w_text) (by decide +kernel)) (fun _ _ _ _ _ => by exact (pg_tupK (K := K) rfl rfl (pgs_cons (pg_name (i := 5) sc_w_text.nd rfl (Or.inl rfl)) (pgs_cons (pg_name (i := 6) sc_w_text.nd rfl (Or.inl rfl)) pgs_nil)))) (fun _ _ _ _ _ => pts_nil) (fun _ _ _ _ _ => by exact (pe_op op_add_str (pe_op op_add_str (pv 5) pe_str) (pe_callTy call_str_int (by rfl) T.z_str (by decide +kernel) (pa_cons (pv 6) pa_nil)))))) pa_nil)) pa_nil))))) pss_nil)))
      (pss_one (ps_ret (pe_bmK (K := K) rfl PySem.F.plainAttrs_str PySem.F.slot_str_join PySem.F.type_str_join (mt_joinK (K := K) rfl) pe_str (pa_cons (pv 2) pa_nil)))))), ?_⟩
    obtain ⟨a, kvs, rfl, ha, hk⟩ := id hd.dict_inv
    have hkr := hk.rows
    have q3 := Same.refl H
    keq_hits
    refine ⟨Nat.zero_le _, fun L hL => ?_⟩
    have hL0 : H L = none := q3.free hL
    keq_hits
    refine w_exl ((q3.trans (Same.new hL)).seq hp) ?_
    have w := walk_list (K := K) (a := p) (xs := ns.map V.str)
    rw [List.length_map] at w
    refine for_it w (fun i σ H' => ∃ e1 e2 e3 e4, σ = [some (V.ref p), some (.ref a), some (.ref L), e1, e2, e3, e4] ∧ Same H H' ∧ H' L = some (.lst ((linesT ns (ns.take i) rs).map V.str)))
      ⟨none, none, none, none, rfl, q3.mut hL0, upd_same⟩ (fun i σ H' _ ⟨_, _, _, _, _, q, _⟩ => q.seq hp) ?_ ?_
    · rintro i x σ H3 H3' hi ⟨e1, e2, e3, e4, rfl, q, hl⟩ y
      obtain ⟨rfl, n, hn, rfl⟩ := yat_str y
      keq_hits
      refine w_dinS (.of (q _ _ ha)) ?_
      have hpr := paired_rows hkr n
      have et : linesT ns (ns.take (i + 1)) rs = linesT ns (ns.take i) rs ++ ((look rs n).map fun r => lineT ns n r).toList := by
        rw [take_snoc hn]; unfold linesT; rw [List.filterMap_append, List.filterMap_cons]
        cases look rs n <;> rfl
      cases hL2 : look rs n with
      | none =>
        rw [hL2] at hpr et
        rw [hpr]
        keq_hits
        refine ⟨_, _, _, _, rfl, q, ?_⟩
        rw [et]; show H3' L = some (.lst ((linesT ns (ns.take i) rs ++ []).map V.str)); rw [List.append_nil]; exact hl
      | some r =>
        rw [hL2] at hpr et
        obtain ⟨vr, hvr, hir⟩ := hpr
        have hrow : RowOk ns r := (ok.nm _ (look_mem hL2)).2
        rw [hvr]
        keq_hits
        refine w_dgetS (.of (q _ _ ha)) hvr ?_
        keq_hits
        refine ⟨H, _, ns, _, r, rfl, q, hp, by have := okn.hi; omega, hir, hrow.nd, ?_⟩
        intro l1 ys F4 H4 hl1 eE hF1 hls hI
        have hL4 : H4 L = some (.lst ((linesT ns (ns.take i) rs).map V.str)) := eE.hh _ _ hl
        keq_hits
        refine w_tyL (SqL.of hL4) ?_
        keq_hits
        refine ⟨by show 1 ≤ sizeLine; decide, fun l3 hl3 => ?_⟩
        have s3 : Same H4 (upd H4 l3 (.lst [V.str n])) := Same.new hl3
        have s3F : Same F4 (upd H4 l3 (.lst [V.str n])) := eE.fh.trans s3
        have hl31 := upd_same (H := H4) (a := l3) (o := .lst [V.str n])
        keq_hits
        generalize upd H4 l3 (.lst [V.str n]) = H4x at s3 s3F hl31 ⊢
        refine w_exl (SqL.of (s3 _ _ hls)) ?_
        have hys : ys.length = (inOrder ns r).length := by rw [hI.length, List.length_map]
        have hio := inOrder_len ns r
        have hns := okn.hi
        refine comp_pure (K := K) (F := F4) (walk_list (xs := ys)) s3F (fun H' qq => qq.seq (SqL.of (s3 _ _ hls))) (small1000 (by omega)) (fun i => (inOrder ns r)[i]?.map fun e => .str (entT e)) ?_ ?_
        · rintro j y F5 H5 H5' hj e5 ⟨rfl, hy⟩ N N0 k1 k0
          obtain ⟨pr, b, h1, rfl, hb⟩ := (hI.mono e5.ff).getE hy
          have hpm := (inOrder_mem (List.mem_of_getElem? h1)).2
          obtain ⟨hp1, hp2, hp3, hp4⟩ := hrow.nm _ hpm
          have hl6 := nameStr_len hp2
          have hll := entT_len hl6 hp3 hp4
          have hi14 := intStr_len hp3 hp4
          have el1 := entT_a hl6
          have el2 := entT_b hl6
          refine w_gTup2 (e5.fh.tup hb) ?_
          refine ⟨rfl, ?_⟩
          keq_hits
          refine ⟨Nat.le_trans (Nat.add_le_add hl6 (show (" " : Str).length ≤ 1 by decide +kernel)) (by decide), ?_⟩
          keq_hits
          refine ⟨log2_of (n := 64) (by omega) (by decide) (by decide), ?_⟩
          keq_hits
          have ee : entT pr = (pr.1 ++ (" " : Str)) ++ intStr pr.2 := by unfold entT; rw [empty_app]
          rw [ee] at hll
          refine ⟨by rw [Str.length_append] at hll; exact Nat.le_trans hll (by decide), ?_⟩
          refine k1 _ (.str (entT pr)) F5 _ (by rw [h1]; rfl) (Ext.refl e5.fh) ?_
          rw [ee]; exact .str _
        · intro l2 zs F6 H6 hl2 e6 hF6 hz hJ
          rw [hys, range_map] at hJ
          have hzs : zs = ((inOrder ns r).map entT).map V.str := by
            rw [show (inOrder ns r).map (fun e => PyData.str (entT e)) = ((inOrder ns r).map entT).map PyData.str by rw [List.map_map]; rfl] at hJ
            exact hJ.strs
          subst hzs
          have hL6 : H6 L = some (.lst ((linesT ns (ns.take i) rs).map V.str)) := e6.hh _ _ (s3 _ _ hL4)
          refine w_cat (e6.hh _ _ hl31) hz (by rw [List.length_map, List.length_map]; show 1 + (inOrder ns r).length ≤ sizeLine; exact Nat.le_trans (show _ ≤ 13 by omega) (by decide)) fun l4 hl4 => ?_
          have s4 : Same H6 _ := Same.new (o := .lst ([V.str n] ++ ((inOrder ns r).map entT).map V.str)) hl4
          keq_hits
          have hin := hin_of hn okn
          refine w_join (ys := n :: (inOrder ns r).map entT) (SqL.of upd_same) (by
            have h1 := sum_le (f := fun x : Str => x.length) (c := 21) (l := (inOrder ns r).map entT) (by
              intro x hx
              obtain ⟨pr, hpr, rfl⟩ := List.mem_map.mp hx
              obtain ⟨hp1, hp2, hp3, hp4⟩ := hrow.nm _ (inOrder_mem hpr).2
              exact entT_len (nameStr_len hp2) hp3 hp4)
            have e : (" " : Str).length = 1 := by decide +kernel
            have h6 := nameStr_len hin
            rw [List.map_cons, List.sum_cons, List.length_cons, e]
            rw [List.length_map] at h1 ⊢
            omega) ?_
          keq_hits
          refine w_append (s4 _ _ hL6) (by rw [List.length_map]; exact small1000 (Nat.le_trans (List.length_filterMap_le _ _) (by rw [List.length_take]; omega))) ?_
          refine ⟨_, _, _, _, rfl, ?_, ?_⟩
          · exact ((q.trans eE.hh).trans ((s3.trans e6.hh).trans s4)).mut hL0
          · rw [upd_same, et]
            show _ = some (HO.lst ((linesT ns (ns.take i) rs ++ [lineT ns n r]).map V.str))
            rw [List.map_append]; rfl
    · rintro σ H' ⟨e1, e2, e3, e4, rfl, q, hl⟩
      rw [List.take_length] at hl
      keq_hits
      refine w_join (SqL.of hl) (by
        have h1 := sum_le (f := fun x : Str => x.length) (c := 1000) (l := linesT ns ns rs) (by
          intro x hx
          obtain ⟨n, hn, e⟩ := List.mem_filterMap.mp hx
          obtain ⟨r, hr2, rfl⟩ := Option.map_eq_some_iff.mp e
          exact lineT_len okn hn (ok.nm _ (look_mem hr2)).2)
        have h2 : (linesT ns ns rs).length ≤ ns.length := List.length_filterMap_le _ _
        have h3 := okn.hi
        have e : ("\n" : Str).length = 1 := by decide +kernel
        rw [e]
        omega) ?_
      exact k _ q
end

/-! ### the plain law of the row texts: what is told is read back -/
theorem numL_head : ∀ n : Nat, 1 ≤ n → (TL.numL n).head? ≠ some 48 := by
  intro n
  induction n using Nat.strongRecOn with
  | _ n ih =>
    intro h1 h
    by_cases h2 : n < 10
    · rw [TL.numL_lt h2] at h
      have : 48 + n = 48 := by simpa using h
      omega
    · rw [TL.numL_step (by omega)] at h
      cases e : TL.numL (n / 10) with
      | nil => exact TL.numL_ne _ e
      | cons a l =>
        rw [e] at h
        exact ih (n / 10) (by omega) (by omega) (by rw [e]; exact h)
theorem intStr_l (n : Nat) : (intStr (n : Int)).cps.toList = TL.numL n := TL.tl_num n
theorem numStr_int {i : Int} (h0 : 0 ≤ i) (h1 : i ≤ 10000000000000) : numStr 0 10000000000000 (intStr i) = some i := by
  obtain ⟨n, rfl⟩ := Int.eq_ofNat_of_zero_le h0
  have hl := intStr_l n
  have hlen : (intStr (n : Int)).length = (TL.numL n).length := by rw [← hl, Array.length_toList]; rfl
  have h14 := intStr_len h0 h1
  have hv : numVal (intStr (n : Int)) = (n : Int) := by unfold numVal; rw [hl, TL.numL_val]
  have hpos : 1 ≤ (TL.numL n).length := List.length_pos_iff.mpr (TL.numL_ne n)
  have hfig : (TL.numL n).all isFig = true := List.all_eq_true.mpr fun c hc => isFig_iff.mpr (TL.numL_digits n c hc)
  have hok : numOk (intStr (n : Int)) = true := by
    unfold numOk
    rw [decide_eq_true (show 1 ≤ (intStr (n : Int)).length by omega), decide_eq_true (show (intStr (n : Int)).length ≤ 30 by omega), hl, hfig]
    by_cases hn : n = 0
    · subst hn
      have : intStr ((0 : Nat) : Int) = ("0" : Str) := by decide +kernel
      rw [this]; decide +kernel
    · rw [decide_eq_false (numL_head n (by omega))]; rfl
  have := numStr_in (lo := 0) (hi := 10000000000000) hok (by rw [hv]; exact ⟨h0, h1⟩)
  rw [hv] at this; exact this
theorem intStr_free {i : Int} (h0 : 0 ≤ i) {c : Nat} (h : c < 48 ∨ 57 < c) : c ∉ TL.tl (intStr i) := by
  obtain ⟨n, rfl⟩ := Int.eq_ofNat_of_zero_le h0
  show c ∉ (intStr (n : Int)).cps.toList
  rw [intStr_l]; exact TL.numL_free h
theorem name_free {n : Str} (h : nameStr n = true) {c : Nat} (hc : isLetter c = false) : c ∉ TL.tl n := by
  intro hm
  unfold nameStr at h
  simp only [Bool.and_eq_true] at h
  have := List.all_eq_true.mp h.2 c hm
  rw [hc] at this; cases this
theorem isL32 : isLetter 32 = false := by decide +kernel
theorem isL10 : isLetter 10 = false := by decide +kernel
/-! the first of a list skipped -/
theorem after_self (n : Str) (l : List Str) : after (n :: l) n = l := by
  unfold after idx
  rw [List.findIdx_cons]; simp
theorem after_ne {n m : Str} (l : List Str) (h : n ≠ m) : after (n :: l) m = after l m := by
  unfold after idx
  rw [List.findIdx_cons]; simp [h]
theorem goIn_skip {n : Str} {l : List Str} : ∀ {X : List (Str × Str)}, (∀ p ∈ X.head?, p.1 ≠ n) → goIn (n :: l) X = goIn l X
  | [], _ => rfl
  | (m, f) :: t, h => by
    have hm : m ≠ n := h (m, f) rfl
    unfold goIn
    split
    · rfl
    · rw [after_ne l (Ne.symm hm)]
      have : (m ∈ n :: l) ↔ m ∈ l := by simp [List.mem_cons, hm]
      simp only [this]
theorem inOrder_cons (n : Str) (l : List Str) (r : List (Str × Int)) : inOrder (n :: l) r = match look r n with | some i => (n, i) :: inOrder l r | none => inOrder l r := by
  unfold inOrder
  rw [List.filterMap_cons]
  cases look r n <;> rfl
theorem goIn_read {ns : List Str} {r : List (Str × Int)} (ok : RowOk ns r) : ∀ l : List Str, l.Nodup → goIn l ((inOrder l r).map fun p => (p.1, intStr p.2)) = some (inOrder l r)
  | [], _ => rfl
  | n :: l, h => by
    obtain ⟨hn, hl⟩ := List.nodup_cons.mp h
    have ih := goIn_read ok l hl
    rw [inOrder_cons]
    cases hL : look r n with
    | none =>
      rw [goIn_skip fun p hp => ?_]
      · exact ih
      · have := List.mem_of_mem_head? hp
        obtain ⟨q, hq, rfl⟩ := List.mem_map.mp this
        exact fun e => hn (e ▸ (inOrder_mem hq).1)
    | some i =>
      have hi := (ok.nm _ (look_mem hL)).2.2
      show goIn (n :: l) ((n, intStr i) :: (inOrder l r).map _) = _
      unfold goIn
      rw [numStr_int hi.1 hi.2, after_self, ih]
      simp
def wordsOf (ps : List (Str × Int)) : List Str := ps.flatMap fun p => [p.1, intStr p.2]
theorem evens_w : ∀ ps : List (Str × Int), evens (wordsOf ps) = ps.map (·.1)
  | [] => rfl
  | p :: ps => congrArg (p.1 :: ·) (evens_w ps)
theorem odds_w : ∀ ps : List (Str × Int), odds (wordsOf ps) = ps.map fun p => intStr p.2
  | [] => rfl
  | p :: ps => congrArg (intStr p.2 :: ·) (odds_w ps)
theorem len_w : ∀ ps : List (Str × Int), (wordsOf ps).length % 2 = 0
  | [] => rfl
  | p :: ps => by
    show (p.1 :: intStr p.2 :: wordsOf ps).length % 2 = 0
    have := len_w ps
    simp only [List.length_cons]; omega
theorem zip_w (ps : List (Str × Int)) : (ps.map (·.1)).zip (ps.map fun p => intStr p.2) = ps.map fun p => (p.1, intStr p.2) := by
  induction ps with
  | nil => rfl
  | cons p ps ih => simp only [List.map_cons, List.zip_cons_cons, ih]
theorem rowIn_read {ns : List Str} {r : List (Str × Int)} (ok : RowOk ns r) (h : ns.Nodup) : rowIn ns (wordsOf (inOrder ns r)) = some (inOrder ns r) := by
  unfold rowIn
  rw [if_neg (by rw [len_w]; decide), evens_w, odds_w, zip_w]
  exact goIn_read ok ns h
/-! a line's words -/
theorem joinL_head (S u w : List Nat) : ∀ rest : List (List Nat), TL.joinL S ((u ++ w) :: rest) = u ++ TL.joinL S (w :: rest)
  | [] => rfl
  | q :: r => by show (u ++ w) ++ (S ++ TL.joinL S (q :: r)) = u ++ (w ++ (S ++ TL.joinL S (q :: r))); rw [List.append_assoc]
theorem joinL_flat (S : List Nat) (x y : Str × Int → List Nat) : ∀ (ps : List (Str × Int)) (a : List Nat), TL.joinL S (a :: ps.map fun p => (x p ++ (S ++ y p))) = TL.joinL S (a :: ps.flatMap fun p => [x p, y p])
  | [], _ => rfl
  | p :: ps, a => by
    show a ++ (S ++ TL.joinL S ((x p ++ (S ++ y p)) :: ps.map _)) = a ++ (S ++ (x p ++ (S ++ TL.joinL S (y p :: ps.flatMap _))))
    rw [joinL_head, joinL_head, joinL_flat S x y ps]
theorem tl_entT (p : Str × Int) : TL.tl (entT p) = TL.tl p.1 ++ (TL.tl (" " : Str) ++ TL.tl (intStr p.2)) := by
  unfold entT
  rw [empty_app, TL.tl_append, TL.tl_append, List.append_assoc]
theorem line_flat (n : Str) (ps : List (Str × Int)) : Txt.join (" " : Str) (n :: ps.map entT) = Txt.join (" " : Str) (n :: wordsOf ps) := by
  refine TL.ext_tl ?_
  rw [TL.join_eq, TL.join_eq, TL.tl_join, TL.tl_join, List.map_cons, List.map_cons, List.map_map]
  have e1 : ps.map (TL.tl ∘ entT) = ps.map fun p => TL.tl p.1 ++ (TL.tl (" " : Str) ++ TL.tl (intStr p.2)) := List.map_congr_left fun p _ => tl_entT p
  have e2 : (wordsOf ps).map TL.tl = ps.flatMap fun p => [TL.tl p.1, TL.tl (intStr p.2)] := by
    unfold wordsOf; rw [List.map_flatMap]; rfl
  rw [e1, e2]
  exact joinL_flat _ _ _ ps _
theorem tl_blank : TL.tl (" " : Str) = [32] := by decide +kernel
theorem tl_feed : TL.tl ("\n" : Str) = [10] := by decide +kernel
theorem words_free {n : Str} {ps : List (Str × Int)} (hn : nameStr n = true) (hp : ∀ p ∈ ps, nameStr p.1 = true ∧ 0 ≤ p.2) {c : Nat} (hc : isLetter c = false) (hd : c < 48 ∨ 57 < c) : ∀ z ∈ n :: wordsOf ps, c ∉ TL.tl z := by
  intro z hz
  rcases List.mem_cons.mp hz with rfl | hz
  · exact name_free hn hc
  · obtain ⟨p, hp2, hz⟩ := List.mem_flatMap.mp hz
    have hz' : z = p.1 ∨ z = intStr p.2 := by simpa using hz
    rcases hz' with rfl | rfl
    · exact name_free (hp p hp2).1 hc
    · exact intStr_free (hp p hp2).2 hd
theorem words_line {n : Str} {ps : List (Str × Int)} (hn : nameStr n = true) (hp : ∀ p ∈ ps, nameStr p.1 = true ∧ 0 ≤ p.2) : wordsT (Txt.join (" " : Str) (n :: ps.map entT)) = n :: wordsOf ps := by
  unfold wordsT
  rw [line_flat]
  exact TL.split_join tl_blank blank_ok.2 (by simp) (words_free hn hp isL32 (.inl (by decide)))
theorem mem_joinL {S : List Nat} {c : Nat} : ∀ {ps : List (List Nat)}, c ∈ TL.joinL S ps → c ∈ S ∨ ∃ p ∈ ps, c ∈ p
  | [], h => by cases h
  | [p], h => .inr ⟨p, List.mem_cons_self, h⟩
  | p :: q :: r, h => by
    have h' : c ∈ p ++ (S ++ TL.joinL S (q :: r)) := h
    rcases List.mem_append.mp h' with h | h
    · exact .inr ⟨p, List.mem_cons_self, h⟩
    · rcases List.mem_append.mp h with h | h
      · exact .inl h
      · rcases mem_joinL h with h | ⟨z, hz, h⟩
        · exact .inl h
        · exact .inr ⟨z, List.mem_cons_of_mem _ hz, h⟩
theorem line_free {n : Str} {ps : List (Str × Int)} (hn : nameStr n = true) (hp : ∀ p ∈ ps, nameStr p.1 = true ∧ 0 ≤ p.2) : 10 ∉ TL.tl (Txt.join (" " : Str) (n :: ps.map entT)) := by
  rw [line_flat, TL.join_eq, TL.tl_join, tl_blank]
  intro h
  rcases mem_joinL h with h | ⟨p, h1, h2⟩
  · exact absurd h (by decide)
  · obtain ⟨z, hz, rfl⟩ := List.mem_map.mp h1
    exact words_free hn hp isL10 (.inl (by decide)) z hz h2
/-! all lines -/
def due (ns ms : List Str) (rs : List (Str × List (Str × Int))) : List (Str × List (Str × Int)) := ms.filterMap fun n => (look rs n).map fun r => (n, inOrder ns r)
theorem inOrder_ok {ns : List Str} {r : List (Str × Int)} (ok : RowOk ns r) : ∀ p ∈ inOrder ns r, nameStr p.1 = true ∧ 0 ≤ p.2 := fun p hp =>
  ⟨(ok.nm p (inOrder_mem hp).2).2.1, (ok.nm p (inOrder_mem hp).2).2.2.1⟩
theorem line_words {ns : List Str} {n : Str} {r : List (Str × Int)} (hn : nameStr n = true) (ok : RowOk ns r) : wordsT (lineT ns n r) = n :: wordsOf (inOrder ns r) := words_line hn (inOrder_ok ok)
theorem goRead_skip {ns : List Str} {n : Str} {l : List Str} : ∀ {X : List Str}, (∀ x ∈ X.head?, ∀ w ws, wordsT x = w :: ws → w ≠ n) → goRead ns (n :: l) X = goRead ns l X
  | [], _ => rfl
  | x :: t, h => by
    unfold goRead
    cases hw : wordsT x with
    | nil => rfl
    | cons w ws =>
      have hm : w ≠ n := h x rfl w ws hw
      have e : (w ∈ n :: l) ↔ w ∈ l := by simp [List.mem_cons, hm]
      show (match rowIn ns ws with | none => none | some r => if w ∈ n :: l then (goRead ns (after (n :: l) w) t).map ((w, r) :: ·) else none) = (match rowIn ns ws with | none => none | some r => if w ∈ l then (goRead ns (after l w) t).map ((w, r) :: ·) else none)
      rw [after_ne l (Ne.symm hm)]
      simp only [e]
theorem goRead_read {ns : List Str} {rs : List (Str × List (Str × Int))} (okn : NamesOk ns) (ok : RowsOk ns rs) : ∀ l : List Str, l.Nodup → (∀ n ∈ l, n ∈ ns) → goRead ns l (linesT ns l rs) = some (due ns l rs)
  | [], _, _ => rfl
  | n :: l, h, hs => by
    obtain ⟨hn, hl⟩ := List.nodup_cons.mp h
    have ih := goRead_read okn ok l hl fun m hm => hs m (List.mem_cons_of_mem _ hm)
    have e1 : linesT ns (n :: l) rs = match look rs n with | some r => lineT ns n r :: linesT ns l rs | none => linesT ns l rs := by
      unfold linesT; rw [List.filterMap_cons]; cases look rs n <;> rfl
    have e2 : due ns (n :: l) rs = match look rs n with | some r => (n, inOrder ns r) :: due ns l rs | none => due ns l rs := by
      unfold due; rw [List.filterMap_cons]; cases look rs n <;> rfl
    rw [e1, e2]
    cases hL : look rs n with
    | none =>
      rw [goRead_skip fun x hx w ws hw => ?_]
      · exact ih
      · obtain ⟨m, hm, e⟩ := List.mem_filterMap.mp (List.mem_of_mem_head? hx)
        obtain ⟨r, hr, rfl⟩ := Option.map_eq_some_iff.mp e
        rw [line_words (okn.nm m (hs m (List.mem_cons_of_mem _ hm))) (ok.nm _ (look_mem hr)).2] at hw
        injection hw with hw _
        rw [← hw]
        exact fun e => hn (e ▸ hm)
    | some r =>
      have hr := (ok.nm _ (look_mem hL)).2
      show goRead ns (n :: l) (lineT ns n r :: linesT ns l rs) = some ((n, inOrder ns r) :: due ns l rs)
      unfold goRead
      rw [line_words (okn.nm n (hs n List.mem_cons_self)) hr]
      show (match rowIn ns (wordsOf (inOrder ns r)) with | none => none | some r => if n ∈ n :: l then (goRead ns (after (n :: l) n) (linesT ns l rs)).map ((n, r) :: ·) else none) = _
      rw [rowIn_read hr okn.nd, after_self, ih]
      simp
theorem read_text {ns : List Str} {rs : List (Str × List (Str × Int))} (okn : NamesOk ns) (ok : RowsOk ns rs) : readRows ns (rowsText ns rs) = some (due ns ns rs) := by
  have hkey := goRead_read okn ok ns okn.nd fun _ h => h
  have hline : ∀ x ∈ linesT ns ns rs, 10 ∉ TL.tl x ∧ x ≠ ("" : Str) := fun x hx => by
    obtain ⟨m, hm, e⟩ := List.mem_filterMap.mp hx
    obtain ⟨r, hr, rfl⟩ := Option.map_eq_some_iff.mp e
    have hn := okn.nm m hm
    have hrow := (ok.nm _ (look_mem hr)).2
    refine ⟨line_free hn (inOrder_ok hrow), fun z => ?_⟩
    have hw := line_words hn hrow
    rw [z] at hw
    have h0 : wordsT ("" : Str) = [("" : Str)] := by decide +kernel
    rw [h0] at hw
    injection hw with hw _
    rw [← hw] at hn
    exact absurd hn (by decide +kernel)
  unfold readRows
  have : readLines (rowsText ns rs) = linesT ns ns rs := by
    unfold readLines rowsText
    cases hl : linesT ns ns rs with
    | nil => rw [if_pos (by decide +kernel)]
    | cons x t =>
      rw [if_neg]
      · rw [← hl]
        exact TL.split_join tl_feed feed_ok.2 (by rw [hl]; simp) fun p hp => (hline p hp).1
      · intro z
        have hx := hline x (by rw [hl]; exact List.mem_cons_self)
        have e := congrArg TL.tl z
        rw [TL.join_eq, TL.tl_join] at e
        have e2 : TL.tl ("" : Str) = [] := by decide +kernel
        rw [e2] at e
        have hx0 : TL.tl x ≠ [] := fun q => hx.2 (TL.ext_tl (q.trans e2.symm))
        cases t with
        | nil => exact hx0 e
        | cons y t => exact hx0 (List.append_eq_nil_iff.mp (show TL.tl x ++ _ = [] from e)).1
  rw [this]; exact hkey
/-! the rows, once read -/
theorem fm_congr {α β : Type} {f g : α → Option β} : ∀ {l : List α}, (∀ x ∈ l, f x = g x) → l.filterMap f = l.filterMap g
  | [], _ => rfl
  | x :: l, h => by
    rw [List.filterMap_cons, List.filterMap_cons, h x List.mem_cons_self, fm_congr fun y hy => h y (List.mem_cons_of_mem _ hy)]
theorem filterMap_keys {β : Type} {f : Str → Option β} (l : List Str) : (l.filterMap fun n => (f n).map fun x => (n, x)).map (·.1) = l.filter fun n => (f n).isSome := by
  induction l with
  | nil => rfl
  | cons n l ih =>
    rw [List.filterMap_cons, List.filter_cons]
    cases f n with
    | none => exact ih
    | some x => exact congrArg (n :: ·) ih
theorem look_filterMap {β : Type} {f : Str → Option β} {n : Str} : ∀ {l : List Str}, n ∈ l → look (l.filterMap fun n => (f n).map fun x => (n, x)) n = f n
  | [], h => by cases h
  | m :: l, h => by
    rw [List.filterMap_cons]
    by_cases e : m = n
    · subst e
      cases hf : f m with
      | some x =>
        show look ((m, x) :: _) m = some x
        unfold look; rw [List.find?_cons, decide_eq_true rfl]; rfl
      | none =>
        show look (l.filterMap _) m = none
        unfold look
        rw [Option.map_eq_none_iff, List.find?_eq_none]
        intro p hp q
        obtain ⟨z, hz, e2⟩ := List.mem_filterMap.mp hp
        obtain ⟨y, hy, rfl⟩ := Option.map_eq_some_iff.mp e2
        have : z = m := of_decide_eq_true q
        subst this
        rw [hf] at hy; cases hy
    · have hm : n ∈ l := (List.mem_cons.mp h).resolve_left (Ne.symm e)
      have ih := look_filterMap (f := f) hm
      cases hf : f m with
      | none => exact ih
      | some x =>
        show look ((m, x) :: _) n = f n
        unfold look at ih ⊢
        rw [List.find?_cons, decide_eq_false e]; exact ih
theorem look_keys {β : Type} {r : List (Str × β)} {n : Str} (h : n ∈ r.map (·.1)) : ∃ x, look r n = some x := by
  obtain ⟨p, hp, e⟩ := List.mem_map.mp h
  cases hf : r.find? fun p => decide (p.1 = n) with
  | none =>
    have := List.find?_eq_none.mp hf p hp
    simp [e] at this
  | some q => exact ⟨q.2, by unfold look; rw [hf]; rfl⟩
theorem inOrder_idem {ns : List Str} {r : List (Str × Int)} : inOrder ns (inOrder ns r) = inOrder ns r := by
  unfold inOrder
  refine fm_congr fun n hn => ?_
  rw [look_filterMap hn]
theorem filterMap_nodup {β : Type} {f : Str → Option β} {l : List Str} (h : l.Nodup) : ((l.filterMap fun n => (f n).map fun x => (n, x)).map (·.1)).Nodup := by
  rw [filterMap_keys]; exact h.filter _
theorem inOrder_row {ns : List Str} {r : List (Str × Int)} (okn : NamesOk ns) (ok : RowOk ns r) : RowOk ns (inOrder ns r) :=
  ⟨Nat.le_trans (inOrder_len ns r) okn.hi, filterMap_nodup okn.nd, fun p hp => ok.nm p (inOrder_mem hp).2⟩
theorem due_ok {ns : List Str} {rs : List (Str × List (Str × Int))} (okn : NamesOk ns) (ok : RowsOk ns rs) : RowsOk ns (due ns ns rs) := by
  have e : due ns ns rs = ns.filterMap fun n => (((look rs n).map fun r => inOrder ns r)).map fun x => (n, x) := by
    unfold due
    refine fm_congr fun n _ => ?_
    cases look rs n <;> rfl
  refine ⟨Nat.le_trans (List.length_filterMap_le _ _) okn.hi, by rw [e]; exact filterMap_nodup okn.nd, fun p hp => ?_⟩
  obtain ⟨n, hn, e2⟩ := List.mem_filterMap.mp hp
  obtain ⟨r, hr, rfl⟩ := Option.map_eq_some_iff.mp e2
  exact ⟨hn, inOrder_row okn (ok.nm _ (look_mem hr)).2⟩
theorem text_due {ns : List Str} {rs : List (Str × List (Str × Int))} : rowsText ns (due ns ns rs) = rowsText ns rs := by
  have e : due ns ns rs = ns.filterMap fun n => (((look rs n).map fun r => inOrder ns r)).map fun x => (n, x) := by
    unfold due
    refine fm_congr fun n _ => ?_
    cases look rs n <;> rfl
  unfold rowsText linesT
  congr 1
  refine fm_congr fun n hn => ?_
  rw [e, look_filterMap hn]
  cases look rs n with
  | none => rfl
  | some r => show some (lineT ns n (inOrder ns r)) = some (lineT ns n r); unfold lineT; rw [inOrder_idem]
/-! ### repr of a dict whose values hold no dict; calls that know of no guard -/
section
variable {prog : Program} {w : World} {h₀ : Heap} {a : Addr} {kvs : List (PyData × PyData)} {as : List Addr}
theorem showsBy_flat (r : Reads h₀ (.ref a) (.dict kvs) as) (hs : (PyData.dict kvs).showable = true) (hsys : (a == sysModules) = false) (f1 : PyData.hasDictAll (kvs.map (·.1)) = false) (f2 : PyData.hasDictAll (kvs.map (·.2)) = false)
    (hz : (dictText (PyData.shownKv kvs)).length ≤ sizeLine) : ∃ T idr, ShowsBy prog w h₀ a (.dict kvs) T idr := by
  cases r with
  | dict h1 h2 h3 h4 h5 =>
    rename_i o es n as₁ bs₁
    obtain ⟨hs1, hs2⟩ := PyData.showableKv_split kvs (by simpa [PyData.showable] using hs)
    obtain ⟨b1, hb1, k1⟩ := ReprAllK.of_readsAll (prog := prog) (w := w) h4 hs1 (fun z => by rw [f1] at z; cases z) (fun t ht => let ⟨p, hp, hl⟩ := PyData.shownKv_key_le kvs t ht; Nat.le_trans hl (Nat.le_trans (dictText_mem_le hp) hz))
    obtain ⟨b2, hb2, k2⟩ := ReprAllK.of_readsAll (prog := prog) (w := w) h5 hs2 (fun z => by rw [f2] at z; cases z) (fun t ht => let ⟨p, hp, hl⟩ := PyData.shownKv_val_le kvs t ht; Nat.le_trans hl (Nat.le_trans (dictText_mem_le hp) hz))
    have hb : ReadAtMost h₀ (PyData.depthKv kvs) (b1 ++ b2) := (hb1.mono (PyData.depthAll_keys_le kvs)).append (hb2.mono (PyData.depthAll_vals_le kvs))
    have hna : a ∉ b1 ++ b2 := not_mem_of_deeper (.dict h1 h2 h3 h4 h5) (by simp only [PyData.depth]; omega) hb
    refine ⟨"dict", "dict.__repr__", F.slot_dict_repr, F.slot_dict_str, F.slot_dict_format, fun s hk0 => ⟨o, hk0 _ _ h1, h2⟩, fun A E s Q hg hu hk0 hQ => ?_⟩
    simp only [PyData.depth] at hu
    simp only [PyData.shown, PyData.shownKv_eq] at hQ
    exact call_dict_reprK h1 h2 h3 hsys hna (ReprEntriesK.of_two es.toList _ _
      (k1.more_le (fun b hb => List.mem_append_left _ hb) (PyData.depthAll_keys_le kvs)) (k2.more_le (fun b hb => List.mem_append_right _ hb) (PyData.depthAll_vals_le kvs))) hg (fun b _ => Clear.nil b) hu hk0 hQ (by rw [← PyData.shownKv_eq]; exact hz)
end
section
variable {X : Cx} {pins : List (Addr × Obj)} {σ : L2.St} {H : Hp} {s : Shared}
theorem key_reads (k : Key) (key : Value) (h : (mixKind X.prog X.w).is k key = true) : Reads s.heap key (kD k) [] := by
  rw [mixKind_is] at h
  rcases keyIs_shape h with ⟨i, t, rfl, rfl⟩ | ⟨x, t, rfl, rfl⟩
  · exact Reads.int _ _
  · exact Reads.str _ _
mutual
theorem Is.reads (I : Inv X pins σ H s) : ∀ {v : V} {d : PyData}, Is X.K H v d → ∀ u, RelV v u → ∃ as, Reads s.heap u d as
  | _, _, .non, _, r => by cases r; exact ⟨_, Reads.none⟩
  | _, _, .bl b, _, r => by cases r; exact ⟨_, Reads.bool b⟩
  | _, _, .int i, _, r => by obtain ⟨t, rfl⟩ := r; exact ⟨_, Reads.int i t⟩
  | _, _, .str x, _, r => by obtain ⟨t, rfl⟩ := r; exact ⟨_, Reads.str x t⟩
  | _, _, .lst hs ha, _, r => by
    cases r
    obtain ⟨its, rv, ⟨o, n, ho, hc, _, hd⟩, _⟩ := I.list hs
    obtain ⟨as, hr⟩ := IsAll.reads I ha its rv
    exact ⟨_, Reads.list ho hc hd hr⟩
  | _, _, .tup hs ha, _, r => by
    cases r
    obtain ⟨its, rv, ⟨o, ho, hc, n, hd⟩, _⟩ := I.tuple hs
    obtain ⟨as, hr⟩ := IsAll.reads I ha its rv
    exact ⟨_, Reads.tuple ho hc hd hr⟩
  | _, _, .dct hd hk, _, r => by
    cases r
    obtain ⟨_, _, vs, hr, dd⟩ := I.hok _ _ hd
    obtain ⟨bs, p⟩ := IsKv.reads I hk vs hr
    exact ⟨_, PyProof.V.reads_dictOf key_reads dd p⟩
theorem IsAll.reads (I : Inv X pins σ H s) : ∀ {vs : List V} {ds : List PyData}, IsAll X.K H vs ds → ∀ us, Vals vs us → ∃ as, ReadsAll s.heap us ds as
  | _, _, .nil, _, r => by cases r; exact ⟨_, ReadsAll.nil⟩
  | _, _, .cons h t, _, r => by
    cases r with
    | cons r1 r2 =>
      obtain ⟨as, q1⟩ := Is.reads I h _ r1
      obtain ⟨bs, q2⟩ := IsAll.reads I t _ r2
      exact ⟨_, ReadsAll.cons q1 q2⟩
theorem IsKv.reads (I : Inv X pins σ H s) : ∀ {kvs : List (Key × V)} {es : List (PyData × PyData)}, IsKv X.K H kvs es → ∀ us, KV kvs us → ∃ bs, PyProof.V.PairsRead s.heap kD us es bs
  | _, _, .nil, _, r => by cases r; exact ⟨_, .nil⟩
  | _, _, .cons h t, _, r => by
    cases r with
    | cons r1 r2 =>
      obtain ⟨e, r1⟩ := r1
      obtain ⟨as, q1⟩ := Is.reads I h _ r1
      obtain ⟨bs, q2⟩ := IsKv.reads I t _ r2
      rename_i q _
      obtain ⟨k, u⟩ := q
      obtain rfl : _ = k := e
      exact ⟨_, .cons q1 q2⟩
end
end
def rReprD (K : PySem.W.Frag) : List V → Hp → VK → Prop := fun xs H Q => ∃ v es, xs = [v] ∧ Is K H v (.dict es) ∧ (PyData.dict es).showable = true ∧ PyData.hasDictAll (es.map (·.1)) = false ∧ PyData.hasDictAll (es.map (·.2)) = false ∧
  (PyData.dict es).shown.length ≤ sizeLine ∧ (PyData.dict es).depth ≤ 60 ∧ Q (.str (PyData.dict es).shown) H
theorem call_reprG {X : Cx} {K : PySem.W.Frag} (e : X.K = K) (hG : X.A.guards = some []) (hu : X.A.units + 64 < cLine) : CallR X (.builtin "repr") (rReprD K) := by
  subst e
  intro pins s σ H xs us Q I r h
  obtain ⟨v, es, rfl, hd, hs, f1, f2, hz, hdp, q⟩ := h
  obtain ⟨u, rfl, rv⟩ := vals1 r
  obtain ⟨as, rd⟩ := hd.reads I u rv
  cases hd with
  | dct ha hk =>
    cases rv
    obtain ⟨_, hS, _⟩ := I.hok _ _ ha
    obtain ⟨T, idr, S⟩ := showsBy_flat (prog := X.prog) (w := X.w) rd hs hS f1 f2 hz
    exact call_repr_slot (by omega) (S.typeIs s fun _ _ e => e) S.slotRepr (S.call X.A.in1 X.xe s _ hG (by show X.A.units + 1 + _ < cLine; omega) (fun _ _ e => e) fun h' u tk hk => ⟨_, _, rfl, ⟨.str _, H, I.kept hk, ⟨_, rfl⟩, q⟩⟩)
end Fm
namespace Fm
open PySem PySem.Spec PyProof.Rows L2 LiI
/-- a def's promise where no guard is set -/
structure FnG (P : Program) (w : World) (K : PySem.W.Frag) (mg : Str → Option Value) (base : Heap) (CX : CXT) (k : Nat) (f : Addr) (fd : FuncData) (ps : List Str) (sp : Sp) : Prop where
  len : ∀ vs H Q E, sp vs H Q E → vs.length = ps.length
  run : ∀ (A : Around) (outer : List Env) (s : Shared) (H : Hp) (args : Args) (us : List Value) (vs : List V) (Q : VK) (E : XK), A.guards = some [] → Room k A → Env0 P w K mg base A outer s H → BindsTo s fd args (ps.zip us) → Vals vs us → sp vs H Q E →
    codeAny (model P w) A (.call (.ref f) args) (CR CX outer P w H s Q E) s
/-- by the promise of a def under a fixed surrounding -/
theorem FnG.of {P : Program} {w : World} {K : PySem.W.Frag} {mg : Str → Option Value} {base : Heap} {k : Nat} {f : Addr} {fd : FuncData} {ps : List Str} {sp : Sp} {x qual : Str} {st : Stmt} {N : List Str} (F : Fun K x qual st f fd) (S : FnScope N ps (defScope st)) (len : ∀ vs H Q E, sp vs H Q E → vs.length = ps.length)
    (hbody : ∀ (cdv : Value) (A : Around) (outer : List Env) (s : Shared) (H : Hp) (vs : List V) (Q : VK) (E : XK), A.guards = some [] → Room k (A.deeper (envOfC qual (defScope st) s.heap.objs.size f cdv)) → sp vs H Q E →
      ∃ t, PSs (cxOf CX0 P w K mg base N qual (defScope st) f cdv A outer s H E).nox (defBody st) t ∧ t { nx := fun _ H' => Q .non H', rt := Q } (start N vs) H) : FnG P w K mg base CX0 (k + 1) f fd ps sp := by
  obtain ⟨oc, od, kV, doc, pm, an, cdv, ct, osl, rfl, lk, hcd⟩ := F.ex
  refine ⟨len, fun A outer s H args us vs Q E hG hr e0 hb r hsp => ?_⟩
  have hl := len _ _ _ _ hsp
  have KX : K.In s.heap := e0.mod.kin.keeps fun b o e => (e0.bs b o e).1
  have lim : s.heap.NoLimit := e0.mod.nolimit.keeps fun b o e => (e0.bs b o e).1
  have hkind : ∀ y ∈ ps.zip us, (defScope st).names.lookup y.1 = some .local ∨ ((defScope st).names.lookup y.1 = some .cell ∧ ((cellsFrom (s.heap.objs.size + 1) (defScope st).names []).lookup y.1).isSome = true) := fun ⟨n, v⟩ hy =>
    (S.par n (List.of_mem_zip hy).1).imp id fun q => ⟨q, PySem.W.cellsFrom_some _ _ _ (.inl q)⟩
  refine codeAny_call_function hr.depth (KX _ _ lk) rfl S.co S.gen rfl (PySem.W.codeRec_of KX hcd) (hb _ _ _ _ ?_)
  refine wpAny_newFunctionEnv_cells S.kind hkind fun env he s1 x => ?_
  subst he
  obtain ⟨t, ht, hq⟩ := hbody cdv A outer s H vs Q E hG (hr.deeper _) hsp
  have I : Inv (cxOf CX0 P w K mg base N qual (defScope st) f cdv A outer s H E) [] (start N vs) H s1 := inv_start S hr.hd e0 hl r x
  refine ⟨lim.keeps x.toInCall.keep, codeAny_func (wpAny_mono (ht.nox.run [] s1 (start N vs) H _ I hq) (fun fl s' hs => ?_) fun e s' hs => hs)⟩
  cases fl with
  | ret u =>
    obtain ⟨v, σ', H', J, rv, q⟩ := hs
    exact ⟨v, H', J.os, J.bare, J.base, J.hok, rv, q⟩
  | next =>
    obtain ⟨σ', H', J, q⟩ := hs
    exact ⟨V.non, H', J.os, J.bare, J.base, J.hok, rfl, q⟩
  | brk =>
    obtain ⟨_, _, _, q⟩ := hs
    exact False.elim q
  | cont =>
    obtain ⟨_, _, _, q⟩ := hs
    exact False.elim q
theorem pe_callG {X : Cx} {CX : CXT} {k : Nat} {f : Addr} {fd : FuncData} {ps : List Str} {sp : Sp} {dvs : List V} {ds : List Value} {E : XK} {x : Str} {p pos : Pos} {e : Expr} {es : List Expr} {t : TA}
    (F : FnG X.prog X.w X.K X.mg X.base CX k f fd ps sp) (hG : X.A.guards = some []) (hr : Room k X.A) (hg : Gl X x) (hm : X.mg x = some (.ref f)) (hk : PySem.W.keepIn X.K (.ref f) = true) (hb : Binds X.K fd ps ds) (hd : Vals dvs ds) (hx : Passes CX X E)
    (ha : PA X (e :: es) t) (hdb : (x == ("__debug__" : Str)) = false := by decide) (he : starEach (e :: es) X.env = (false, eval e X.env) :: starEach es X.env := by rfl) (hpl : (backTo pos (starEach es X.env)).any (·.1) = false := by rfl) :
    PE X (.Call (.Name x p) (e :: es) [] pos) (tCall sp dvs E t) := by
  refine ⟨fun pins s σ H Q I h => wpAny_Call_Name_kw (ld_glob I hg hm ?_ hdb)⟩
  refine PySem.W.callWith_K (h₀ := X.base) I.ok.mod.kin hk (thn (ha.run pos pins s σ H _ I h) fun us s1 ⟨vs, H1, I1, r, q⟩ => ⟨I1.kIn, ?_⟩) he hpl
  have r2 : Vals (vs ++ dvs) (us ++ ds) := r.append hd
  have hl : (us ++ ds).length = ps.length := by rw [← r2.length]; exact F.len _ _ _ _ q
  refine wpAny_call (codeAny_mono (F.run X.A X.stack s1 H1 ⟨us, []⟩ (us ++ ds) (vs ++ dvs) Q E hG hr I1.env0 (hb s1 us I1.kIn hl) r2 q) fun r s' hq => ?_)
  cases r with
  | error e => exact hx pins σ H1 s1 e s' I1 hq
  | ok fl =>
    cases fl with
    | ret u => exact I1.after hq
    | next => exact False.elim hq
    | brk => exact False.elim hq
    | cont => exact False.elim hq
end Fm
namespace Fm
open PySem L2 LiI
local macro_rules | `(tactic| keq_rows) => `(tactic| first
  | ((with_reducible show tVar _ _ _ _); refine w_var rfl ?_)
  | with_reducible refine w_seq ?_
  | with_reducible refine w_c ?_
  | with_reducible refine w_op ?_
  | with_reducible refine w_un ?_
  | with_reducible refine w_rI0 ?_
  | with_reducible refine w_rU ?_
  | with_reducible refine w_eqI ?_
  | with_reducible refine w_neI ?_
  | with_reducible refine w_eqS ?_
  | with_reducible refine w_neS ?_
  | with_reducible refine w_test ?_
  | with_reducible refine w_tB ?_
  | with_reducible refine w_exb ?_
  | with_reducible refine w_exi ?_
  | with_reducible refine w_exs ?_
  | with_reducible refine w_exli ?_
  | with_reducible refine w_exls ?_
  | with_reducible refine w_exlii ?_
  | with_reducible refine w_exss ?_
  | with_reducible refine w_and ?_
  | with_reducible refine w_or ?_
  | with_reducible refine w_not ?_
  | with_reducible refine w_andV ?_
  | with_reducible refine w_orV ?_
  | with_reducible refine w_notV ?_
  | with_reducible refine w_if ?_
  | with_reducible refine w_chain ?_
  | with_reducible refine w_next ?_
  | with_reducible refine w_brk ?_
  | with_reducible refine w_cont ?_
  | with_reducible refine w_drop ?_
  | with_reducible refine w_ret ?_
  | with_reducible refine w_retN ?_
  | with_reducible refine w_ifS ?_
  | with_reducible refine w_asg ?_
  | with_reducible refine w_gName ?_
  | with_reducible refine w_gSub ?_
  | with_reducible refine w_nil ?_
  | with_reducible refine w_cons ?_
  | with_reducible refine w_tup ?_
  | with_reducible refine w_lst ?_
  | with_reducible refine w_call ?_
  | with_reducible refine w_cb ?_
  | with_reducible refine w_noPart ?_
  | with_reducible refine w_part ?_
  | with_reducible refine w_sl ?_
  | with_reducible refine w_bm ?_
  | with_reducible refine w_bm0 ?_
  | with_reducible refine w_dnewK ?_
  | with_reducible refine w_dget ?_
  | with_reducible refine w_din ?_
  | with_reducible refine w_dnotin ?_
  | with_reducible refine w_yes ?_
  | with_reducible refine w_allS ?_
  | with_reducible refine w_insign ?_
  | with_reducible refine w_dput ?_
  | with_reducible refine w_iItems ?_
  | with_reducible refine w_iVals ?_
  | with_reducible refine w_pick ?_
  | with_reducible refine w_jsC ?_
  | with_reducible refine w_jsN ?_
  | with_reducible refine w_fmt ?_
  | with_reducible refine w_tyS ?_
  | with_reducible refine w_nonEq ?_
  | with_reducible refine w_iZip ?_
  | with_reducible refine w_splitE ?_
  | with_reducible refine w_iEnum ?_
  | with_reducible refine w_lc ?_
  | with_reducible refine w_for ?_
  | with_reducible refine w_iStr ?_
  | with_reducible refine w_iList ?_
  | with_reducible refine w_iTup ?_
  | with_reducible refine w_iRng1 ?_
  | ((with_reducible show (if _ = true then _ else _)); refine w_ifT rfl ?_)
  | ((with_reducible show (if _ = true then _ else _)); refine w_ifF rfl ?_)
  | dsimp only)
local macro_rules | `(tactic| keq_hits) => `(tactic| repeat keq_rows)
/-! ### what the rows' repr and deep equality want to know -/
def dP (p : Str × List (Str × Int)) : PyData := .tuple [.str p.1, encR p.2]
theorem name_signs {n : Str} (h : nameStr n = true) : ∀ c ∈ n.cps.toList, c < 16 ^ 8 := by
  unfold nameStr at h
  simp only [Bool.and_eq_true] at h
  have hl : ∀ c ∈ ("abcdefghijklmnopqrstuvwxyz" : Str).cps.toList, c < 16 ^ 8 := by decide +kernel
  exact fun c hc => hl c (of_decide_eq_true (List.all_eq_true.mp h.2 c hc))
theorem shown_name {n : Str} (h : nameStr n = true) : (PyData.shown (.str n)).length ≤ 62 := by
  have h1 := StrLaws.reprText_len n (name_signs h)
  have h2 := nameStr_len h
  show (reprText n).length ≤ 62
  omega
theorem shownAll_map {α : Type} (f : α → PyData) : ∀ l : List α, PyData.shownAll (l.map f) = l.map fun x => PyData.shown (f x)
  | [] => rfl
  | x :: l => by rw [List.map_cons, PyData.shownAll, shownAll_map f l]; rfl
theorem shown_entry {p : Str × Int} (h : nameStr p.1 = true) (h0 : 0 ≤ p.2) (h1 : p.2 ≤ 10000000000000) : (PyData.shown (encE p)).length ≤ 83 := by
  have e : PyData.shown (encE p) = tupleText [PyData.shown (.str p.1), PyData.shown (.int p.2)] := by unfold encE; simp only [PyData.shown, PyData.shownAll]
  rw [e]
  refine Nat.le_trans (tupleText_len_le _) ?_
  have h2 := shown_name h
  have h3 : (PyData.shown (.int p.2)).length ≤ 14 := by
    have e3 : PyData.shown (.int p.2) = Str.ofString (toString p.2) := by simp only [PyData.shown]
    rw [e3]; exact intStr_len h0 h1
  simp only [List.map_cons, List.map_nil, List.sum_cons, List.sum_nil, List.length_cons, List.length_nil]
  omega
theorem shown_row {ns : List Str} {r : List (Str × Int)} (ok : RowOk ns r) : (PyData.shown (encR r)).length ≤ 1100 := by
  have e : PyData.shown (encR r) = listText (r.map fun p => PyData.shown (encE p)) := by unfold encR; rw [← shownAll_map]; simp only [PyData.shown]
  rw [e]
  refine Nat.le_trans (listText_len_le _) ?_
  have h := sum_le (f := fun x : Str => x.length) (c := 83) (l := r.map fun p => PyData.shown (encE p)) (by
    intro x hx
    obtain ⟨p, hp, rfl⟩ := List.mem_map.mp hx
    have := ok.nm p hp
    exact shown_entry this.2.1 this.2.2.1 this.2.2.2)
  rw [List.length_map] at h
  have h2 := ok.hi
  simp only [List.length_map] at h ⊢
  omega
theorem shownKv_map (f : Str × List (Str × Int) → PyData × PyData) : ∀ l : List (Str × List (Str × Int)), PyData.shownKv (l.map f) = l.map fun x => PyData.shown (f x).1 ++ ": " ++ PyData.shown (f x).2
  | [] => rfl
  | x :: l => by rw [List.map_cons, PyData.shownKv, shownKv_map f l]; rfl
theorem shown_rows {ns : List Str} {rs : List (Str × List (Str × Int))} (okn : NamesOk ns) (ok : RowsOk ns rs) : (PyData.shown (encRows rs)).length ≤ sizeLine := by
  have e : PyData.shown (encRows rs) = dictText (rs.map fun p => PyData.shown (.str p.1) ++ ": " ++ PyData.shown (encR p.2)) := by
    unfold encRows
    rw [← shownKv_map fun p => (.str p.1, encR p.2)]
    simp only [PyData.shown]
  rw [e]
  refine Nat.le_trans (dictText_len_le _) ?_
  have h := sum_le (f := fun x : Str => x.length) (c := 1200) (l := rs.map fun p => PyData.shown (.str p.1) ++ ": " ++ PyData.shown (encR p.2)) (by
    intro x hx
    obtain ⟨p, hp, rfl⟩ := List.mem_map.mp hx
    have h1 := ok.nm p hp
    have h2 := shown_name (okn.nm _ h1.1)
    have h3 := shown_row h1.2
    have h4 : ((": " : String) : Str).length = 2 := by decide +kernel
    rw [Str.length_append, Str.length_append, h4]
    omega)
  rw [List.length_map] at h
  have h2 := ok.hi
  simp only [List.length_map] at h ⊢
  exact Nat.le_trans (show _ ≤ 20000 by omega) (by decide)
theorem showable_row {ns : List Str} {r : List (Str × Int)} (ok : RowOk ns r) : (encR r).showable = true := by
  show PyData.showable (.list (r.map encE)) = true
  have : ∀ l : List (Str × Int), (∀ p ∈ l, 0 ≤ p.2 ∧ p.2 ≤ 10000000000000) → PyData.showableAll (l.map encE) = true := by
    intro l
    induction l with
    | nil => intro _; rfl
    | cons p l ih =>
      intro h
      obtain ⟨h0, h1⟩ := h p List.mem_cons_self
      have h2 := log2_of (i := p.2) (n := 64) (by omega) (by decide) (by decide)
      simp only [List.map_cons, PyData.showableAll, encE, PyData.showable, Bool.and_eq_true, decide_eq_true_eq, true_and, and_true]
      exact ⟨h2, ih fun q hq => h q (List.mem_cons_of_mem _ hq)⟩
  simp only [PyData.showable]
  exact this r fun p hp => (ok.nm p hp).2.2
theorem showable_rows {ns : List Str} {rs : List (Str × List (Str × Int))} (ok : RowsOk ns rs) : (encRows rs).showable = true := by
  have : ∀ l : List (Str × List (Str × Int)), (∀ p ∈ l, (encR p.2).showable = true) → PyData.showableKv (l.map fun p => (.str p.1, encR p.2)) = true := by
    intro l
    induction l with
    | nil => intro _; rfl
    | cons p l ih =>
      intro h
      simp only [List.map_cons, PyData.showableKv, PyData.showable, Bool.and_eq_true, true_and]
      exact ⟨h p List.mem_cons_self, ih fun q hq => h q (List.mem_cons_of_mem _ hq)⟩
  unfold encRows
  simp only [PyData.showable]
  exact this rs fun p hp => showable_row (ok.nm p hp).2
theorem hasDict_row (r : List (Str × Int)) : (encR r).hasDict = false := by
  have : ∀ l : List (Str × Int), PyData.hasDictAll (l.map encE) = false := by
    intro l
    induction l with
    | nil => rfl
    | cons p l ih => simp only [List.map_cons, PyData.hasDictAll, encE, PyData.hasDict, ih, Bool.or_self]
  unfold encR
  simp only [PyData.hasDict]
  exact this r
theorem hasDict_keys (rs : List (Str × List (Str × Int))) : PyData.hasDictAll ((rs.map fun p => ((PyData.str p.1, encR p.2) : PyData × PyData)).map (·.1)) = false := by
  induction rs with
  | nil => rfl
  | cons p rs ih => simp only [List.map_cons, PyData.hasDictAll, PyData.hasDict, Bool.false_or]; exact ih
theorem hasDict_vals (rs : List (Str × List (Str × Int))) : PyData.hasDictAll ((rs.map fun p => ((PyData.str p.1, encR p.2) : PyData × PyData)).map (·.2)) = false := by
  induction rs with
  | nil => rfl
  | cons p rs ih => simp only [List.map_cons, PyData.hasDictAll, hasDict_row, Bool.false_or]; exact ih
theorem depth_row (r : List (Str × Int)) : (encR r).depth ≤ 2 := by
  have : ∀ l : List (Str × Int), PyData.depthAll (l.map encE) ≤ 1 := by
    intro l
    induction l with
    | nil => decide
    | cons p l ih => simp only [List.map_cons, PyData.depthAll, encE, PyData.depth]; omega
  unfold encR
  simp only [PyData.depth]
  have := this r
  omega
theorem depth_rows (rs : List (Str × List (Str × Int))) : (encRows rs).depth ≤ 60 := by
  have : ∀ l : List (Str × List (Str × Int)), PyData.depthKv (l.map fun p => (.str p.1, encR p.2)) ≤ 2 := by
    intro l
    induction l with
    | nil => decide
    | cons p l ih =>
      have := depth_row p.2
      simp only [List.map_cons, PyData.depthKv, PyData.depth]; omega
  unfold encRows
  simp only [PyData.depth]
  have := this rs
  omega
theorem canLay_row {ns : List Str} {r : List (Str × Int)} (ok : RowOk ns r) : (encR r).canLay0 = true := by
  have : ∀ l : List (Str × Int), (∀ p ∈ l, nameStr p.1 = true) → PyData.canLayAll0 (l.map encE) = true := by
    intro l
    induction l with
    | nil => intro _; simp [PyData.canLayAll0]
    | cons p l ih =>
      intro h
      simp only [List.map_cons, PyData.canLayAll0, encE, PyData.canLay0, Bool.and_eq_true, and_true]
      exact ⟨strOk_name (h p List.mem_cons_self), ih fun q hq => h q (List.mem_cons_of_mem _ hq)⟩
  unfold encR
  simp only [PyData.canLay0]
  exact this r fun p hp => (ok.nm p hp).2.1
theorem shaped_due {ns : List Str} {rs : List (Str × List (Str × Int))} (okn : NamesOk ns) (ok : RowsOk ns rs) : (PyData.list (rs.map dP)).canLay0 = true ∧ SeqAt.shaped (.list (rs.map dP)) = true := by
  have h1 : ∀ l : List (Str × List (Str × Int)), (∀ p ∈ l, nameStr p.1 = true ∧ (encR p.2).canLay0 = true) → PyData.canLayAll0 (l.map dP) = true := by
    intro l
    induction l with
    | nil => intro _; simp [PyData.canLayAll0]
    | cons p l ih =>
      intro h
      simp only [List.map_cons, PyData.canLayAll0, dP, PyData.canLay0, Bool.and_eq_true, and_true]
      exact ⟨⟨strOk_name (h p List.mem_cons_self).1, (h p List.mem_cons_self).2⟩, ih fun q hq => h q (List.mem_cons_of_mem _ hq)⟩
  have h2 : ∀ l : List (Str × List (Str × Int)), PyData.depthAll (l.map dP) ≤ 3 := by
    intro l
    induction l with
    | nil => simp [PyData.depthAll]
    | cons p l ih =>
      have := depth_row p.2
      simp only [List.map_cons, PyData.depthAll, dP, PyData.depth]; omega
  have h3 := h1 rs fun p hp => ⟨okn.nm _ (ok.nm p hp).1, canLay_row (ok.nm p hp).2⟩
  have h4 := h2 rs
  have h5 : (PyData.list (rs.map dP)).canLay0 = true := by simp only [PyData.canLay0]; exact h3
  refine ⟨h5, ?_⟩
  unfold SeqAt.shaped
  rw [h5, Bool.true_and]
  simp only [PyData.depth]
  exact decide_eq_true (by omega)
theorem noDict_due (rs : List (Str × List (Str × Int))) : noDict (.list (rs.map dP)) = true := by
  show noDict.noDictAll (rs.map dP) = true
  refine noDict_all fun d hd => ?_
  obtain ⟨p, _, rfl⟩ := List.mem_map.mp hd
  show noDict.noDictAll [.str p.1, encR p.2] = true
  simp only [noDict.noDictAll, noDict_encR]; rfl
theorem dictRows_is {K : PySem.W.Frag} {H0 F H : Hp} (s : Same F H) : ∀ {kvs : List (Key × V)} {rs : List (Str × List (Str × Int))}, DictRows K H0 F H kvs rs → IsKv K H kvs (rs.map fun p => (.str p.1, encR p.2))
  | _, _, .nil => .nil
  | (k, v) :: _, _, .cons h t => by
    obtain ⟨e, R, ys, e2, _, _, h3, h4⟩ := h
    obtain rfl : k = Sum.inr _ := e
    obtain rfl : v = .ref R := e2
    exact .cons (.lst (SqL.of h3) (h4.mono s)) (dictRows_is s t)
theorem items_is {K : PySem.W.Frag} {H0 F H H8 : Hp} (s : Same F H) (s8 : Same H H8) : ∀ {ts : List Addr} {kvs : List (Key × V)} {rs : List (Str × List (Str × Int))}, Paired (fun (t : Addr) (q : Key × V) => H8 t = some (.tup [kV q.1, q.2])) ts kvs → DictRows K H0 F H kvs rs → IsAll K H8 (ts.map V.ref) (rs.map dP)
  | _, _, _, .nil, .nil => .nil
  | _, (k, v) :: _, _, .cons h1 t1, .cons h t => by
    obtain ⟨e, R, ys, e2, _, _, h3, h4⟩ := h
    obtain rfl : k = Sum.inr _ := e
    obtain rfl : v = .ref R := e2
    exact .cons (.tup (SqT.of h1) (.cons (.str _) (.cons (.lst (SqL.of (s8 _ _ h3)) (h4.mono (s.trans s8))) .nil))) (items_is s s8 t1 t)
theorem Ext.takeIn {F H F' H' : Hp} {p : Addr} {o : HO} (e : Ext F H F' H') (h : H p = none) (f : F' p = none) (g : H' p = some o) : Ext F H (upd F' p o) H' := by
  refine ⟨fun b u q => ?_, fun b u q => ?_, e.hh, fun b hb hf => ?_⟩
  · have h1 := e.ff b u q
    rw [upd_ne (ne_of_none h1 f)]; exact h1
  · by_cases z : b = p
    · subst z; rw [upd_same] at q; cases q; exact g
    · rw [upd_ne z] at q; exact e.fh b u q
  · have z : b ≠ p := fun z => hb (by rw [z]; exact h)
    rw [upd_ne z]; exact e.nw b hb hf
theorem text_len {ns : List Str} {rs : List (Str × List (Str × Int))} (okn : NamesOk ns) (ok : RowsOk ns rs) : (rowsText ns rs).length ≤ 50000 := by
  refine Nat.le_trans (join_len _ _) ?_
  have h1 := sum_le (f := fun x : Str => x.length) (c := 1000) (l := linesT ns ns rs) (by
    intro x hx
    obtain ⟨n, hn, e⟩ := List.mem_filterMap.mp hx
    obtain ⟨r, hr2, rfl⟩ := Option.map_eq_some_iff.mp e
    exact lineT_len okn hn (ok.nm _ (look_mem hr2)).2)
  have h2 : (linesT ns ns rs).length ≤ ns.length := List.length_filterMap_le _ _
  have h3 := okn.hi
  have e : ("\n" : Str).length = 1 := by decide +kernel
  rw [e]
  omega
/-- what the turn of a dict's values keeps of its lists -/
def Lists (H : Hp) (H0 F : Hp) (D : Addr) (kvs : List (Key × V)) : Prop := ∀ kv ∈ kvs, ∃ R ys, kv.2 = .ref R ∧ H0 R = none ∧ F R = none ∧ R ≠ D ∧ H R = some (.lst ys)
theorem dictRows_lists {K : PySem.W.Frag} {H0 F H : Hp} {D : Addr} {u : HO} (hD : H D = some u) (hu : ∀ ys, u ≠ .lst ys) : ∀ {kvs : List (Key × V)} {rs : List (Str × List (Str × Int))}, DictRows K H0 F H kvs rs → Lists H H0 F D kvs
  | _, _, .nil => fun _ h => by cases h
  | _, _, .cons h t => fun kv hk => by
    rcases List.mem_cons.mp hk with rfl | hk
    · obtain ⟨_, R, ys, e2, h0, hf, h3, _⟩ := h
      exact ⟨R, ys, e2, h0, hf, fun z => by rw [z, hD] at h3; cases h3; exact hu _ rfl, h3⟩
    · exact dictRows_lists hD hu t kv hk
theorem Lists.clear {H H0 F : Hp} {D R : Addr} {kvs : List (Key × V)} (h : Lists H H0 F D kvs) : Lists (upd H R (.lst [])) H0 F D kvs := fun kv hk => by
  obtain ⟨R', ys, e, h0, hf, hn, h3⟩ := h kv hk
  by_cases q : R' = R
  · subst q; exact ⟨R', [], e, h0, hf, hn, upd_same⟩
  · exact ⟨R', ys, e, h0, hf, hn, (upd_ne q).trans h3⟩
theorem Lists.at {H H' H0 F : Hp} {D : Addr} {kvs : List (Key × V)} (h : Lists H H0 F D kvs) (e : ∀ b, b ≠ D → ∀ o, H b = some o → H' b = some o) : Lists H' H0 F D kvs := fun kv hk => by
  obtain ⟨R', ys, e1, h0, hf, hn, h3⟩ := h kv hk
  exact ⟨R', ys, e1, h0, hf, hn, e R' hn _ h3⟩
theorem dictRows_len {K : PySem.W.Frag} {H0 F H : Hp} : ∀ {kvs : List (Key × V)} {rs : List (Str × List (Str × Int))}, DictRows K H0 F H kvs rs → kvs.length = rs.length
  | _, _, .nil => rfl
  | _, _, .cons _ t => congrArg Nat.succ (dictRows_len t)
theorem w_listItems {te : TE} {σ : L2.St} {H : Hp} {Q : VK} (k : te σ H fun x H1 => rItemsL x H1 Q) : tListItems te σ H Q := k
theorem dec_self {α : Type} [DecidableEq α] (x : α) : decide (x = x) = true := decide_eq_true rfl
def sp_w_right (K : PySem.W.Frag) : Sp := fun vs H Q _ => ∃ F p ns u rs, vs = [.ref p, u] ∧ Same F H ∧ SqL K F p (ns.map V.str) ∧ NamesOk ns ∧ Is K F u (encRows rs) ∧ RowsOk ns rs ∧ ∀ H', Same H H' → Q (.bl true) H'
section
variable {P : Program} {w : World} {K : PySem.W.Frag} {mg : Str → Option Value} {base : Heap}
theorem ok_w_right (T : Tx K mg) : FnG P w K mg base CX0 7 T.a_w_right T.fd_w_right ["_law_names_here", "_law_rows_here"] (sp_w_right K) := by
  refine FnG.of T.F_w_right sc_w_right (fun vs H Q E h => ?_) (fun cdv A outer s H vs Q E hG hr h => ?_)
  · obtain ⟨F, p, ns, u, rs, rfl, _⟩ := h; rfl
  · have hu := hu_of hr
    obtain ⟨F, p, ns, u, rs, rfl, s, hp, okn, hd, ok, k⟩ := h
    refine ⟨_, (pss_cons (ps_set (i := 2) sc_w_right.nd rfl (Or.inl rfl) (pe_callB (call_reprG (K := K) rfl hG hr.units) (by rfl) T.z_repr (by decide +kernel) (pa_cons (pv 1) pa_nil)))
      (pss_cons (ps_set (i := 3) sc_w_right.nd rfl (Or.inl rfl) (pe_call (ok_w_text T) (hr.mono (by decide)) (by rfl) T.m_w_text T.F_w_text.kp T.b_w_text .nil pass0 (pa_cons (pv 0) (pa_cons (pv 1) pa_nil))))
      (pss_cons (ps_if (PW.pt (pw_or (pt_cmpR op_ne (pe_call (ok_rows_text T) (hr.mono (by decide)) (by rfl) T.m_rows_text T.F_rows_text.kp T.b_rows_text .nil pass0 (pa_cons (pv 0) (pa_cons (pv 1) pa_nil))) (pv 3) (nomark _)) (pw_or1 (pt_cmpR op_ne (pe_callB (call_reprG (K := K) rfl hG hr.units) (by rfl) T.z_repr (by decide +kernel) (pa_cons (pv 1) pa_nil)) (pv 2) (nomark _))))) (pss_one (ps_ret pe_bl)) pss_nil)
      (pss_cons (ps_setLc (i := 4) (own := [("_law_name", 7)]) rfl sc_w_right.nd rfl rfl (sw_true rfl rfl rfl (by decide +kernel)) (pi_listK (K := K) rfl (pv 0)) (blkOk_by (N := slots_w_right) (sc := defScope s_w_right) (by decide +kernel)) (fun _ _ _ _ _ => by exact (pg_name (i := 7) sc_w_right.nd rfl (Or.inl rfl))) (fun _ _ _ _ _ => by exact pts_one (pt_cmp (pc_din hu (pv 7) (pv 1)))) (fun _ _ _ _ _ => by exact (pe_tup (pa_cons (pv 7) (pa_cons (pe_call (ok_w_ordered T) (hr.mono (by decide)) (by rfl) T.m_w_ordered T.F_w_ordered.kp T.b_w_ordered .nil pass0 (pa_cons (pv 0) (pa_cons (pe_dget hu (pv 1) (pv 7) (fun _ _ => rfl)) pa_nil))) pa_nil)))))
      (pss_cons (ps_set (i := 5) sc_w_right.nd rfl (Or.inl rfl) (pe_call (ok_read_rows T) (hr.mono (by decide)) (by rfl) T.m_read_rows T.F_read_rows.kp T.b_read_rows .nil pass0 (pa_cons (pv 0) (pa_cons (pv 3) pa_nil))))
      (pss_cons (ps_if (PW.pt (pw_or (pt_not (pt_val (pe_callB (call_isi_K (K := K) rfl) (by rfl) T.z_isinstance (by decide +kernel) (pa_cons (pv 5) (pa_cons (pe_bltnT (n := "dict") (by rfl) T.z_dict (by decide +kernel)) pa_nil))))) (pw_or (pt_cmpR (op_neDK (K := K) rfl hr.units) (pe_listItems rfl (pv 5) rfl T.z_list (by decide +kernel)) (pv 4) (nomark _)) (pw_or1 (pt_cmpR op_ne (pe_call (ok_rows_text T) (hr.mono (by decide)) (by rfl) T.m_rows_text T.F_rows_text.kp T.b_rows_text .nil pass0 (pa_cons (pe_callTy (call_tuple_ofK (K := K) rfl) (by rfl) T.z_tuple (by decide +kernel) (pa_cons (pv 0) pa_nil)) (pa_cons (pv 5) pa_nil))) (pv 3) (nomark _)))))) (pss_one (ps_ret pe_bl)) pss_nil)
      (pss_cons (ps_lock (ps_for PassesOwn.never rfl (pi_values (pv 5)) (pg_name (i := 6) sc_w_right.nd rfl (Or.inl rfl)) (pss_one (ps_expr (pe_bm0K (K := K) rfl PySem.F.plainAttrs_list PySem.F.slot_list_clear PySem.F.type_list_clear mt_clear (pv 6))))))
      (pss_cons (ps_dput hu (pv 5) pe_str (pe_lst pa_nil) rfl)
      (pss_one (ps_ret (pe_cmpR (op_eqDK (K := K) rfl hr.units) (pe_listItems rfl (pe_call (ok_read_rows T) (hr.mono (by decide)) (by rfl) T.m_read_rows T.F_read_rows.kp T.b_read_rows .nil pass0 (pa_cons (pe_callTy (call_tuple_ofK (K := K) rfl) (by rfl) T.z_tuple (by decide +kernel) (pa_cons (pv 0) pa_nil)) (pa_cons (pv 3) pa_nil))) rfl T.z_list (by decide +kernel)) (pv 4) (nomark _)))))))))))), ?_⟩
    have hn12 := okn.hi
    keq_hits
    refine ⟨_, _, rfl, hd.mono s, showable_rows ok, hasDict_keys rs, hasDict_vals rs, shown_rows okn ok, depth_rows rs, ?_⟩
    generalize hS : (PyData.dict (rs.map fun p => (PyData.str p.1, encR p.2))).shown = S
    keq_hits
    refine ⟨F, p, ns, _, rs, rfl, s, hp, okn, hd, ok, fun H1 q1 => ?_⟩
    keq_hits
    have s1 := s.trans q1
    refine ⟨_, ns, _, rs, rfl, .inl (.lst (s1.seq hp) (isAll_strs ns)), okn, hd.mono s1, ok, fun H2 q2 => ?_⟩
    have s2 := s1.trans q2
    keq_hits
    refine w_ifnd (fun e => absurd rfl e) fun _ => ?_
    keq_hits
    refine ⟨_, _, rfl, hd.mono s2, showable_rows ok, hasDict_keys rs, hasDict_vals rs, shown_rows okn ok, depth_rows rs, ?_⟩
    rw [hS]
    keq_hits
    refine w_ifnd (fun e => absurd rfl e) fun _ => ?_
    keq_hits
    -- due
    obtain ⟨a, kvs0, rfl, ha, hk0⟩ := id hd.dict_inv
    have hkr := hk0.rows
    refine w_exl (s2.seq hp) ?_
    have w := walk_list (K := K) (a := p) (xs := ns.map V.str)
    rw [List.length_map] at w
    refine comp_pure (K := K) (F := F) w s2 (fun H' q => q.seq (s2.seq hp)) (small1000 (by omega)) (fun i => ns[i]?.bind fun n => (look rs n).map fun r => dP (n, inOrder ns r)) ?_ ?_
    · rintro i y F1 H3 H3' hi e1 y1 N N0 k1 k0
      obtain ⟨rfl, n, hn, rfl⟩ := yat_str y1
      have hF1a : F1 a = some (.dK kvs0) := e1.ff _ _ ha
      keq_hits
      refine ⟨rfl, ?_⟩
      keq_hits
      refine w_dinS (.of (e1.fh _ _ hF1a)) ?_
      have hpr := paired_rows hkr n
      cases hL : look rs n with
      | none =>
        rw [hL] at hpr
        rw [hpr]
        keq_hits
        exact k0 F1 _ (by rw [hn]; show (look rs n).map _ = _; rw [hL]; rfl) (Ext.refl e1.fh)
      | some r =>
        rw [hL] at hpr
        obtain ⟨vr, hvr, hir⟩ := hpr
        have hrow : RowOk ns r := (ok.nm _ (look_mem hL)).2
        rw [hvr]
        keq_hits
        refine w_dgetS (.of (e1.fh _ _ hF1a)) hvr ?_
        keq_hits
        refine ⟨F1, p, ns, _, r, rfl, e1.fh, e1.ff.seq hp, by omega, hir.mono e1.ff, hrow.nd, ?_⟩
        intro l1 ys F4 H4 hl1 eE hF1l hls hI
        keq_hits
        refine ⟨by show 2 ≤ sizeLine; decide, fun T hT => ?_⟩
        have e5 := eE.takeIn hl1 hF1l hls
        have sm : Same F4 (upd F4 l1 (.lst ys)) := Same.new hF1l
        have hl5 := upd_same (H := F4) (a := l1) (o := .lst ys)
        generalize upd F4 l1 (.lst ys) = F5 at e5 sm hl5
        have e6 := e5.trans (Ext.new (o := .tup [.str n, .ref l1]) e5.fh hT)
        have sm2 : Same F5 (upd F5 T (.tup [.str n, .ref l1])) := Same.new (e5.fh.free hT)
        exact k1 _ (dP (n, inOrder ns r)) (upd F5 T (.tup [.str n, .ref l1])) _ (by rw [hn]; show (look rs n).map _ = _; rw [hL]; rfl) e6
          (.tup (SqT.of upd_same) (.cons (.str _) (.cons (.lst (SqL.of (sm2 _ _ hl5)) (hI.mono (sm.trans sm2))) .nil)))
    · intro Dd ys6 F6 H6 hDd e6 hF6 hl6 hI6
      have edue : (List.range ns.length).filterMap (fun i => ns[i]?.bind fun n => (look rs n).map fun r => dP (n, inOrder ns r)) = (due ns ns rs).map dP := by
        rw [range_filterMap]
        unfold due
        rw [List.map_filterMap]
        congr 1
        funext n
        cases look rs n <;> rfl
      rw [edue] at hI6
      have s6 : Same H H6 := (q1.trans q2).trans e6.hh
      have hDue : Is K H6 (.ref Dd) (.list ((due ns ns rs).map dP)) := .lst (SqL.of hl6) (hI6.mono e6.fh)
      have okd := due_ok okn ok
      have hps : SqL K H6 p (ns.map V.str) := s6.seq (s.seq hp)
      obtain ⟨cl, sh⟩ := shaped_due okn okd
      have eqd := SeqAt.eqv_refl _ cl
      keq_hits
      refine ⟨H6, .ref p, ns, _, due ns ns rs, rfl, Same.refl H6, .inl (.lst hps (isAll_strs ns)), okn, text_len okn ok, read_text okn ok, fun D kvs F7 H7 hD eR hFD hDk hDR => ?_⟩
      have hFound : Is K H7 (.ref D) (encRows (due ns ns rs)) := .dct hDk (dictRows_is eR.fh hDR)
      keq_hits
      refine w_isi (by simp) hFound ?_
      keq_hits
      refine w_listItems ?_
      keq_hits
      refine ⟨D, kvs, rfl, hDk, fun H8 P ts q8 hP hts hPn hPl hpair => ?_⟩
      have s8 : Same H7 H8 := q8
      have hA : Is K H8 (.ref P) (.list ((due ns ns rs).map dP)) := .lst (SqL.of hPl) (items_is eR.fh s8 hpair hDR)
      have hB : Is K H8 (.ref Dd) (.list ((due ns ns rs).map dP)) := hDue.mono (eR.hh.trans s8)
      keq_hits
      refine ⟨_, _, hA.dp (noDict_due _), hB.dp (noDict_due _), sh, sh, ?_⟩
      rw [eqd]
      keq_hits
      refine ⟨p, _, rfl, .inl ⟨(eR.hh.trans s8).seq hps, fun P2 hP2 => ?_⟩⟩
      have s9 : Same H8 (upd H8 P2 (.tup (ns.map V.str))) := Same.new hP2
      have hP21 := upd_same (H := H8) (a := P2) (o := .tup (ns.map V.str))
      keq_hits
      generalize upd H8 P2 (.tup (ns.map V.str)) = H9 at s9 hP21 ⊢
      refine ⟨_, ns, _, due ns ns rs, rfl, .inr (.tup (SqT.of hP21) (isAll_strs ns)), okn, hFound.mono (s8.trans s9), okd, fun H10 q10 => ?_⟩
      rw [text_due]
      keq_hits
      refine w_ifnd (fun e => absurd rfl e) fun _ => ?_
      keq_hits
      have s10 : Same H7 H10 := s8.trans (s9.trans q10)
      have hD10 := s10 _ _ hDk
      have hLs := dictRows_lists hDk (fun _ z => nomatch z) hDR
      have hkl : kvs.length ≤ 12 := by
        have := (dictRows_len hDR)
        have := okd.hi
        omega
      refine w_lock hD10 trivial fun od => ?_
      refine w_for (w_iVals (w_var rfl (w_exfz upd_same ?_)))
      refine for_it walk_values (fun i σ H' => ∃ e6 e7, σ = [some (V.ref p), some (.ref a), some (.str S), some (.str (rowsText ns rs)), some (.ref Dd), some (.ref D), e6, e7] ∧ Same F7 H' ∧ Lists H' H6 F7 D kvs ∧ H' D = some (.frz od (.dK kvs)))
        ⟨_, _, rfl, (eR.fh.trans s10).mut hFD, hLs.at (fun b n o e => (upd_ne n).trans (s10 b o e)), upd_same⟩ (fun i σ H' _ ⟨_, _, _, _, _, q⟩ => q) ?_ ?_
      · rintro i x σ H11 H11' hi ⟨e6, e7, rfl, q, hLi, hf⟩ ⟨rfl, kk, hx⟩
        obtain ⟨R, ys, e, h0, hf7, hn, h3⟩ := hLi _ (List.mem_of_getElem? hx)
        have e : x = .ref R := e
        subst e
        keq_hits
        refine w_tyL (SqL.of h3) ?_
        refine ⟨R, ys, rfl, rfl, h3, ?_⟩
        exact ⟨_, _, rfl, q.mut hf7, hLi.clear, (upd_ne (Ne.symm hn)).trans hf⟩
      · rintro σ H11 ⟨e6, e7, rfl, q, hLi, hf⟩
        refine ⟨hf, ?_⟩
        have q12 : Same F7 (upd H11 D (.dK kvs)) := q.mut hFD
        have hD12 := upd_same (H := H11) (a := D) (o := .dK kvs)
        generalize upd H11 D (.dK kvs) = H12 at q12 hD12 ⊢
        keq_hits
        refine ⟨Nat.zero_le _, fun E hE => ?_⟩
        have s13 : Same H12 (upd H12 E (.lst [])) := Same.new hE
        have hD13 := s13 _ _ hD12
        keq_hits
        refine w_dputS hD13 (small1000 (by omega)) ?_
        have q14 := (q12.trans s13).mut (o := .dK (putK kvs (Sum.inr ("q" : Str)) (.ref E))) hFD
        keq_hits
        generalize upd (upd H12 E (.lst [])) D (.dK (putK kvs (Sum.inr ("q" : Str)) (.ref E))) = H14 at q14 ⊢
        have q67 : Same H6 F7 := eR.ff
        refine w_listItems ?_
        keq_hits
        refine ⟨p, _, rfl, .inl ⟨(q67.trans q14).seq hps, fun P3 hP3 => ?_⟩⟩
        have s15 : Same H14 (upd H14 P3 (.tup (ns.map V.str))) := Same.new hP3
        have hP31 := upd_same (H := H14) (a := P3) (o := .tup (ns.map V.str))
        keq_hits
        generalize upd H14 P3 (.tup (ns.map V.str)) = H15 at s15 hP31 ⊢
        refine ⟨H15, .ref P3, ns, _, due ns ns rs, rfl, Same.refl H15, .inr (.tup (SqT.of hP31) (isAll_strs ns)), okn, text_len okn ok, read_text okn ok, fun D2 kvs2 F16 H16 hD2 eR2 hFD2 hDk2 hDR2 => ?_⟩
        keq_hits
        refine ⟨D2, kvs2, rfl, hDk2, fun H17 P4 ts2 q17 hP4 hts2 hPn2 hPl2 hpair2 => ?_⟩
        have s17 : Same H16 H17 := q17
        have sAll : Same H6 H17 := ((q67.trans q14).trans s15).trans (eR2.hh.trans s17)
        have hA2 : Is K H17 (.ref P4) (.list ((due ns ns rs).map dP)) := .lst (SqL.of hPl2) (items_is eR2.fh s17 hpair2 hDR2)
        have hB2 : Is K H17 (.ref Dd) (.list ((due ns ns rs).map dP)) := hDue.mono sAll
        keq_hits
        refine ⟨_, _, hA2.dp (noDict_due _), hB2.dp (noDict_due _), sh, sh, ?_⟩
        rw [eqd]
        exact k _ (s6.trans sAll)
end

theorem rowText0 (ns : List Str) : rowsText ns [] = ("" : Str) := by
  have h : linesT ns ns [] = [] := by
    unfold linesT
    rw [List.filterMap_eq_nil_iff]
    intro n _
    rfl
  unfold rowsText; rw [h]; decide +kernel
theorem readRows0 (ns : List Str) : readRows ns ("" : Str) = some [] := by
  unfold readRows readLines
  rw [if_pos rfl]; rfl
theorem namesOk_rev {ns : List Str} (h : NamesOk ns) : NamesOk ns.reverse := ⟨by rw [List.length_reverse]; exact h.lo, by rw [List.length_reverse]; exact h.hi, fun n hn => h.nm n (List.mem_reverse.mp hn), List.pairwise_reverse.mpr (h.nd.imp fun h => Ne.symm h)⟩
theorem rowsOk_rev {ns : List Str} {rs : List (Str × List (Str × Int))} (h : RowsOk ns rs) : RowsOk ns.reverse rs :=
  ⟨h.hi, h.nd, fun p hp => ⟨List.mem_reverse.mpr (h.nm p hp).1, (h.nm p hp).2.hi, (h.nm p hp).2.nd, fun q hq => ⟨List.mem_reverse.mpr ((h.nm p hp).2.nm q hq).1, ((h.nm p hp).2.nm q hq).2⟩⟩⟩
theorem rowsOk_nil (ns : List Str) : RowsOk ns [] := ⟨by simp, by simp, by simp⟩
theorem w_revL {K : PySem.W.Frag} {te : TE} {σ : L2.St} {H : Hp} {Q : VK} (k : te σ H fun x H1 => ∃ a xs, x = .ref a ∧ SqL K H1 a xs ∧ ∀ p, H1 p = none → Q (.ref p) (upd H1 p (.lst xs.reverse))) : tRevL K te σ H Q := k
def sp_law (K : PySem.W.Frag) : Sp := fun vs H Q _ => ∃ (a : Addr) (ns : List Int), vs = [.ref a] ∧ SqL K H a (ns.map V.int) ∧ ∀ H', Q (.bl true) H'
section
variable {P : Program} {w : World} {K : PySem.W.Frag} {mg : Str → Option Value} {base : Heap}
theorem ok_law (T : Tx K mg) : FnG P w K mg base CX0 8 T.a_law T.fd_law ["_law_script"] (sp_law K) := by
  refine FnG.of T.F_law sc_law (fun vs H Q E h => ?_) (fun cdv A outer s H vs Q E hG hr h => ?_)
  · obtain ⟨a, ns, rfl, _⟩ := h; rfl
  · have hu := hu_of hr
    obtain ⟨a, ns, rfl, ha, k⟩ := h
    refine ⟨_, (pss_cons (ps_for PassesOwn.never rfl (pi_range1 rfl T.z_range (pa_cons (pe_callB (call_max2 rfl) (by rfl) T.z_max (by decide +kernel) (pa_cons pe_int (pa_cons (pe_callB (call_min2 rfl) (by rfl) T.z_min (by decide +kernel) (pa_cons (pe_callB (call_len_seqK (K := K) rfl) (by rfl) T.z_len (by decide +kernel) (pa_cons (pv 0) pa_nil)) (pa_cons pe_int pa_nil))) pa_nil))) pa_nil)) (pg_name (i := 1) sc_law.nd rfl (Or.inl rfl)) (pss_cons (ps_set (i := 2) sc_law.nd rfl (Or.inl rfl) (pe_call (ok_w_box T) (hr.mono (by decide)) (by rfl) T.m_w_box T.F_w_box.kp T.b_w_box .nil pass0 (pa_cons (pe_call (ok_w_cell T) (hr.mono (by decide)) (by rfl) T.m_w_cell T.F_w_cell.kp T.b_w_cell .nil pass0 (pa_cons (pv 0) (pa_cons (pv 1) pa_nil))) pa_nil)))
      (pss_cons (ps_set (i := 3) sc_law.nd rfl (Or.inl rfl) (pe_call (ok_w_some T) (hr.mono (by decide)) (by rfl) T.m_w_some T.F_w_some.kp T.b_w_some .nil pass0 (pa_cons (pv 2) pa_nil)))
      (pss_cons (ps_set (i := 4) sc_law.nd rfl (Or.inl rfl) (pe_call (ok_w_rows T) (hr.mono (by decide)) (by rfl) T.m_w_rows T.F_w_rows.kp T.b_w_rows .nil pass0 (pa_cons (pv 2) (pa_cons (pv 3) pa_nil))))
      (pss_cons (ps_set (i := 5) sc_law.nd rfl (Or.inl rfl) (pe_call (ok_w_rows T) (hr.mono (by decide)) (by rfl) T.m_w_rows T.F_w_rows.kp T.b_w_rows .nil pass0 (pa_cons (pv 2) (pa_cons (pv 3) pa_nil))))
      (pss_cons (ps_for PassesOwn.never rfl (pi_listK (K := K) rfl (pe_lst (pa_cons (pv 4) (pa_cons pe_dnewK (pa_cons (pv 5) (pa_cons (pv 4) pa_nil)))))) (pg_name (i := 6) sc_law.nd rfl (Or.inl rfl)) (pss_one (ps_if (PW.pt (pw_or (pt_not (pt_val (pe_callG (ok_w_right T) hG (hr.mono (by decide)) (by rfl) T.m_w_right T.F_w_right.kp T.b_w_right .nil pass0 (pa_cons (pv 3) (pa_cons (pv 6) pa_nil))))) (pw_or1 (pt_not (pt_val (pe_callG (ok_w_right T) hG (hr.mono (by decide)) (by rfl) T.m_w_right T.F_w_right.kp T.b_w_right .nil pass0 (pa_cons (pe_revLK (K := K) rfl (pv 3)) (pa_cons (pv 6) pa_nil)))))))) (pss_one (ps_ret pe_bl)) pss_nil)))
      (pss_one (ps_if (PW.pt (pw_or (pt_cmpR op_ne (pe_call (ok_rows_text T) (hr.mono (by decide)) (by rfl) T.m_rows_text T.F_rows_text.kp T.b_rows_text .nil pass0 (pa_cons (pv 3) (pa_cons pe_dnewK pa_nil))) pe_str (nomark _)) (pw_or1 (pt_cmpR (op_ne_dictA hr.units0) (pe_call (ok_read_rows T) (hr.mono (by decide)) (by rfl) T.m_read_rows T.F_read_rows.kp T.b_read_rows .nil pass0 (pa_cons (pv 3) (pa_cons pe_str pa_nil))) pe_dnewK (nomark _))))) (pss_one (ps_ret pe_bl)) pss_nil))))))))
      (pss_one (ps_ret pe_bl))), ?_⟩
    keq_hits
    refine w_lenL ha ?_
    rw [List.length_map]
    keq_hits
    refine ⟨by split <;> split <;> omega, by split <;> split <;> omega, ?_⟩
    refine for_it walk_range (fun i σ H' => ∃ e1 e2 e3 e4 e5 e6, σ = [some (V.ref a), e1, e2, e3, e4, e5, e6] ∧ Same H H')
      ⟨none, none, none, none, none, none, rfl, Same.refl H⟩ (fun _ _ _ _ _ => trivial) ?_ ?_
    · rintro i x σ H1 H1' hi ⟨e1, e2, e3, e4, e5, e6, rfl, q⟩ ⟨rfl, rfl⟩
      have hi6 : i < 6 := by revert hi; split <;> split <;> omega
      keq_hits
      refine ⟨a, ns, _, rfl, q.seq ha, by omega, by omega, fun c => ?_⟩
      keq_hits
      refine ⟨c, rfl, fun b x y hb hx hy hy2 => ?_⟩
      have s2 : Same H1' (upd H1' b (.lst [.int x, .int y, .int 0])) := Same.new hb
      have hbox : BoxAt (upd H1' b (.lst [.int x, .int y, .int 0])) b 0 := ⟨x, y, 0, upd_same, hx, hy, hy2, by omega, by omega⟩
      keq_hits
      generalize upd H1' b (.lst [.int x, .int y, .int 0]) = H2 at s2 hbox ⊢
      refine ⟨H1', b, 0, rfl, s2, hb, hbox, by omega, fun p names F2 H3 hp e3' hFp hb3 hpl okn => ?_⟩
      have hF2b : F2 b = none := e3'.nw b hbox.ne hb
      have hpb : b ≠ p := fun z => hbox.ne (by rw [z]; exact hp)
      have e4' := e3'.takeIn hp hFp hpl
      have hps : SqL K (upd F2 p (.lst (names.map V.str))) p (names.map V.str) := SqL.of upd_same
      have hF3b : (upd F2 p (.lst (names.map V.str))) b = none := (upd_ne hpb).trans hF2b
      generalize upd F2 p (.lst (names.map V.str)) = F3 at e4' hps hF3b
      keq_hits
      refine ⟨F3, b, p, names, _, rfl, e4'.fh, hF3b, hb3, by omega, hps, okn, fun D1 rs1 F4 H4 hD1 e5' hF4b hb4 hI1 ok1 => ?_⟩
      keq_hits
      refine ⟨F4, b, p, names, _, rfl, e5'.fh, hF4b, hb4, by omega, e5'.ff.seq hps, okn, fun D2 rs2 F5 H5 hD2 e6' hF5b hb5 hI2 ok2 => ?_⟩
      have hps5 := (e5'.ff.trans e6'.ff).seq hps
      have sH5 : Same H1' F5 := (e4'.ff.trans e5'.ff).trans e6'.ff
      keq_hits
      intro Z hZ
      have e7 := Ext.new (o := .dK []) e6'.fh hZ
      have hZ1 := upd_same (H := F5) (a := Z) (o := .dK [])
      keq_hits
      generalize upd F5 Z (.dK []) = F6 at e7 hZ1
      generalize upd H5 Z (.dK []) = H6 at e7 ⊢
      refine ⟨by show 4 ≤ sizeLine; decide, fun L hL => ?_⟩
      have s7 : Same H6 (upd H6 L (.lst [.ref D1, .ref Z, .ref D2, .ref D1])) := Same.new hL
      have hL7 := upd_same (H := H6) (a := L) (o := .lst [.ref D1, .ref Z, .ref D2, .ref D1])
      keq_hits
      generalize upd H6 L (.lst [.ref D1, .ref Z, .ref D2, .ref D1]) = H7 at s7 hL7 ⊢
      have sF7 : Same F6 H7 := e7.fh.trans s7
      have hps6 : SqL K F6 p (names.map V.str) := e7.ff.seq hps5
      have hI1' : Is K F6 (.ref D1) (encRows rs1) := (hI1.mono e6'.ff).mono e7.ff
      have hall : ∀ (i : Nat) (x : V), [V.ref D1, .ref Z, .ref D2, .ref D1][i]? = some x → ∃ rs, Is K F6 x (encRows rs) ∧ RowsOk names rs := by
        intro i x hx
        match i, hx with
        | 0, hx => cases hx; exact ⟨rs1, hI1', ok1⟩
        | 1, hx => cases hx; exact ⟨[], .dct hZ1 .nil, rowsOk_nil _⟩
        | 2, hx => cases hx; exact ⟨rs2, hI2.mono e7.ff, ok2⟩
        | 3, hx => cases hx; exact ⟨rs1, hI1', ok1⟩
        | i + 4, hx => cases hx
      refine w_exl (SqL.of hL7) ?_
      refine for_it walk_list (fun i σ H' => ∃ f1 f6, σ = [some (V.ref a), f1, some (.ref b), some (.ref p), some (.ref D1), some (.ref D2), f6] ∧ Same H7 H')
        ⟨_, _, rfl, Same.refl H7⟩ (fun i σ H' _ ⟨_, _, _, q⟩ => q.seq (SqL.of hL7)) ?_ ?_
      · rintro j x σ H8 H8' hj ⟨f1, f6, rfl, q8⟩ ⟨rfl, hx⟩
        obtain ⟨rs, hI, okr⟩ := hall j x hx
        have s8 : Same F6 H8' := sF7.trans q8
        keq_hits
        refine ⟨F6, p, names, _, rs, rfl, s8, hps6, okn, hI, okr, fun H9 q9 => ?_⟩
        keq_hits
        refine w_revL ?_
        keq_hits
        refine ⟨p, _, rfl, (s8.trans q9).seq hps6, fun r hr0 => ?_⟩
        have s10 : Same H9 (upd H9 r (.lst (names.map V.str).reverse)) := Same.new hr0
        have hr1 : (upd H9 r (.lst (names.map V.str).reverse)) r = some (.lst (names.reverse.map V.str)) := by rw [upd_same, List.map_reverse]
        keq_hits
        generalize upd H9 r (.lst (names.map V.str).reverse) = H10 at s10 hr1 ⊢
        have s11 : Same F6 H10 := s8.trans (q9.trans s10)
        refine ⟨H10, r, names.reverse, _, rs, rfl, Same.refl H10, SqL.of hr1, namesOk_rev okn, hI.mono s11, rowsOk_rev okr, fun H11 q11 => ?_⟩
        keq_hits
        exact ⟨_, _, rfl, q8.trans (q9.trans (s10.trans q11))⟩
      · rintro σ H8 ⟨f1, f6, rfl, q8⟩
        have s8 : Same F6 H8 := sF7.trans q8
        keq_hits
        intro Y hY
        have s9 : Same H8 (upd H8 Y (.dK [])) := Same.new hY
        have hY1 := upd_same (H := H8) (a := Y) (o := .dK [])
        keq_hits
        generalize upd H8 Y (.dK []) = H9 at s9 hY1 ⊢
        have s10 := s8.trans s9
        refine ⟨_, names, _, [], rfl, .inl (.lst (s10.seq hps6) (isAll_strs names)), okn, .dct hY1 .nil, rowsOk_nil _, fun H10 q10 => ?_⟩
        rw [rowText0]
        keq_hits
        have s11 := s10.trans q10
        refine ⟨H10, _, names, _, [], rfl, Same.refl H10, .inl (.lst (s11.seq hps6) (isAll_strs names)), okn, by decide +kernel, readRows0 names, fun D3 kvs3 F11 H11 hD3 e11 hFD3 hDk3 hDR3 => ?_⟩
        cases hDR3
        keq_hits
        intro X hX
        have s12 : Same H11 (upd H11 X (.dK [])) := Same.new hX
        have hX1 := upd_same (H := H11) (a := X) (o := .dK [])
        keq_hits
        refine ⟨D3, X, [], [], rfl, rfl, s12 _ _ hDk3, hX1, rfl, by simp, ?_⟩
        keq_hits
        have sEnd : Same H1' H11 := (sH5.trans e7.ff).trans (s11.trans e11.hh)
        exact ⟨_, _, _, _, _, _, rfl, q.trans (sEnd.trans s12)⟩
    · rintro σ H1 ⟨e1, e2, e3, e4, e5, e6, rfl, q⟩
      keq_hits
      exact k _
end

end Fm
namespace Fm
open PySem PySem.Spec PyProof.Rows L2 LiI
/-! ### the law's own call, where no guard is set -/
theorem law_callG {P : Program} {w : World} {K : PySem.W.Frag} {mg mb : Str → Option Value} {k : Nat} {fa a : Addr} {fd : FuncData} {x : Str} {sp : Sp} {s₁ : Shared} {vs : List Value} {ns : List Int}
    (KX : K.In s₁.heap) (hns : s₁.heap.Ns mainGlobals mg) (hb : s₁.heap.Ns builtinsNs mb) (hbb : ∀ x : Str, x ≠ "__name__" → mb x = bootBuiltins x) (hlim : s₁.heap.NoLimit) (hg : s₁.gens = #[])
    (ha : s₁.heap.get? a = some { cls := .type "list", data := .seq vs.toArray }) (hi : IntsAre vs ns) (hl : ns.length ≤ sizeLine) (hr : Room k callerA)
    (F : ∀ base : Heap, K.In base → base.Ns mainGlobals mg → FnG P w K mg base CX0 k fa fd [x] sp) (hbind : ∀ (s : Shared) (u : Value), BindsTo s fd ⟨[u], []⟩ [(x, u)])
    (hsp : ∀ H : Hp, SqL K H a (ns.map V.int) → sp [.ref a] H (fun v _ => v = .bl true) fun _ _ _ => False) :
    codeAny (model P w) callerA (.call (.ref fa) ⟨[.ref a], []⟩) (fun r s' => r = .ok (.ret (.bool true)) ∧ OldK s₁.heap s'.heap ∧ s'.os = s₁.os ∧ AllBare s'.gens) s₁ := by
  have rv := vals_ints hi
  -- the script stands alone in the abstract heap, or it is one of the module's own objects
  obtain ⟨H, hS, hok, hA, hF, hK⟩ : ∃ H : Hp, SqL K H a (ns.map V.int) ∧ HOk P w H s₁.heap ∧ (∀ b, H b ≠ none → b = a) ∧ (∀ b, H b = none ∨ ∃ o xs, H b = some (.frz o (.lst xs))) ∧ (H a ≠ none → K.lookup a = none) := by
    cases hk : K.lookup a with
    | some o =>
      have e := KX a o hk
      rw [ha] at e
      cases e
      exact ⟨fun _ => none, .inr ⟨_, vs.toArray, _, hk, rfl, rfl, rfl, by rw [List.size_toArray, hi.length]; exact hl, by simpa using rv⟩, fun _ _ z => (nomatch (show (none : Option HO) = some _ from z)), fun b z => absurd rfl z, fun _ => .inl rfl, fun z => absurd rfl z⟩
    | none =>
      refine ⟨upd (fun _ => none) a (.frz { cls := .type "list", data := .seq vs.toArray } (.lst (ns.map V.int))), .inl (.inr ⟨_, upd_same⟩), fun b u z => ?_, fun b z => ?_, fun b => ?_, fun _ => rfl⟩
      · by_cases q : b = a
        · subst q
          rw [upd_same] at z
          cases z
          exact ⟨ha, by rw [List.length_map]; exact hl, vs, _, rv, ha⟩
        · rw [upd_ne q] at z; cases z
      · by_cases q : b = a
        · exact q
        · exact absurd (upd_ne q) z
      · by_cases q : b = a
        · subst q; exact .inr ⟨_, _, upd_same⟩
        · exact .inl (upd_ne q)
  have dicts : ∀ {b : Addr} {o : Obj} {es : Array DictEntry} {ep : Nat}, s₁.heap.get? b = some o → o.data = .dict es ep → H b = none := fun {b o es ep} e d => by
    cases q : H b with
    | none => rfl
    | some u =>
      obtain rfl : b = a := hA b (by rw [q]; exact fun z => nomatch z)
      rw [ha] at e; cases e
      exact nomatch (show Data.seq vs.toArray _ = Data.dict es ep from d)
  have nsB : ∀ {b : Addr} {m : Str → Option Value}, s₁.heap.Ns b m → (hidT s₁.heap H).Ns b m := fun ⟨o, es, ep, e, d, r⟩ => ⟨o, es, ep, hidT_get e (dicts e d), d, r⟩
  have KB : K.In (hidT s₁.heap H) := fun b o e => hidT_get (KX b o e) (by
    cases q : H b with
    | none => rfl
    | some u =>
      obtain rfl : b = a := hA b (by rw [q]; exact fun z => nomatch z)
      rw [hK (by rw [q]; exact fun z => nomatch z)] at e; cases e)
  have e0 : Env0 P w K mg (hidT s₁.heap H) callerA [] s₁ H := ⟨rfl, ⟨KB, nsB hns, ⟨mb, nsB hb, hbb⟩, let ⟨mc, h1, h2⟩ := hlim; ⟨mc, nsB h1, h2⟩⟩, fun b o e => of_hidT e, Nat.le_of_eq (hidT_size _ _), trivial, fun b hb => absurd (show b ∈ ([] : List Addr) from hb) (by simp), hok, .of_eq hg⟩
  refine codeAny_mono ((F _ KB (nsB hns)).run callerA [] s₁ H ⟨[.ref a], []⟩ [.ref a] [.ref a] _ _ rfl hr e0 (hbind s₁ (.ref a)) (.cons rfl .nil) (hsp H hS)) fun r s' h => ?_
  cases r with
  | error e => exact False.elim h
  | ok fl =>
    cases fl with
    | next => exact False.elim h
    | brk => exact False.elim h
    | cont => exact False.elim h
    | ret u =>
      obtain ⟨v, H', os, bare, un, hok', r', q⟩ := h
      obtain rfl : v = .bl true := q
      obtain rfl : u = Value.bool true := r'
      refine ⟨rfl, OldK.of_keep fun b o e => ?_, os, bare⟩
      rcases hF b with z | ⟨ob, xs, z⟩
      · exact un.keep b o e z (fun z => absurd (show b ∈ ([] : List Addr) from z) (by simp)) (by simp)
      · obtain ⟨e1, _⟩ := hok b _ z
        obtain ⟨e2, _⟩ := hok' b _ (un.frzs b ob _ z)
        rw [e] at e1; cases e1
        exact e2
theorem walkG {l : PySem.W.OpenLaw} {q : Program} {loose : List Str} {XP : (Str → Option Value) → Heap → Prop} {YP : World → Heap → Prop} {d : DefRec} {K : Params → PySem.W.Frag} {k : Nat} {x : Str} {sp : PySem.W.Frag → Sp}
    (hr : Room k callerA) (hsp : ∀ (K : PySem.W.Frag) (H : Hp) (a : Addr) (ns : List Int), SqL K H a (ns.map V.int) → sp K [.ref a] H (fun v _ => v = .bl true) fun _ _ _ => False)
    (hn : l.most = some 63) (hdf : d.params.defaults = []) (hY : ∀ (w : World) (h : Heap), YP w h → (K w.params).In h)
    (F : ∀ (w : World) (mg : Str → Option Value) (fa : Addr) (h : Heap), (K w.params).In h → h.Ns mainGlobals mg → mg d.name = some (.ref fa) →
      ∃ fd : FuncData, (∀ (s : Shared) (u : Value), BindsTo s fd ⟨[u], []⟩ [(x, u)]) ∧ ∀ base : Heap, (K w.params).In base → base.Ns mainGlobals mg → FnG l.prog w (K w.params) mg base CX0 k fa fd [x] (sp (K w.params))) :
    PySem.W.WalkO q loose XP YP l.row.toRowW d [] (fun f vs => PySem.call f vs) := by
  refine Att.attach_call hn hdf fun w s₀ s₁ mg mb fa o pm cd doc a vs ns G Y ho hd hcd hmg hobj hints hlen hg => ?_
  obtain ⟨fd, hb, hF⟩ := F w mg fa _ (hY w _ Y) G.T.g hmg
  exact law_callG (hY w _ Y) G.T.g G.T.b G.T.builtins G.T.nolimit hg hobj hints (Nat.le_trans hlen (by decide)) hr hF hb (fun H hS => hsp (K w.params) H a ns hS)
theorem all_mk {l : PySem.W.OpenLaw} {w : World} {K : PySem.W.Frag} {h : Heap} {mg : Str → Option Value} {fa f_is_whole f_is_name f_number_in f_is_entry f_is_row f_need_names f_is_row_of f_need_rows_of f_in_order f_rows_text f_row_in f_read_rows f_w_cell f_w_box f_w_take f_w_names f_w_number f_w_row f_w_some f_w_ordered f_w_rows f_w_text f_w_right f_law : Addr} (X : K.In h) (G : h.Ns mainGlobals mg) (hfa : mg "law" = some (.ref fa))
    {od_is_whole od_is_name od_number_in od_is_entry od_is_row od_need_names od_is_row_of od_need_rows_of od_in_order od_rows_text od_row_in od_read_rows od_w_cell od_w_box od_w_take od_w_names od_w_number od_w_row od_w_some od_w_ordered od_w_rows od_w_text od_w_right od_law an_is_whole an_is_name an_number_in an_is_entry an_is_row an_need_names an_is_row_of an_need_rows_of an_in_order an_rows_text an_row_in an_read_rows an_w_cell an_w_box an_w_take an_w_names an_w_number an_w_row an_w_some an_w_ordered an_w_rows an_w_text an_w_right an_law : Option Addr} {sl_is_whole sl_is_name sl_number_in sl_is_entry sl_is_row sl_need_names sl_is_row_of sl_need_rows_of sl_in_order sl_rows_text sl_row_in sl_read_rows sl_w_cell sl_w_box sl_w_take sl_w_names sl_w_number sl_w_row sl_w_some sl_w_ordered sl_w_rows sl_w_text sl_w_right sl_law : Array (Option Value)} {oc_is_whole oc_is_name oc_number_in oc_is_entry oc_is_row oc_need_names oc_is_row_of oc_need_rows_of oc_in_order oc_rows_text oc_row_in oc_read_rows oc_w_cell oc_w_box oc_w_take oc_w_names oc_w_number oc_w_row oc_w_some oc_w_ordered oc_w_rows oc_w_text oc_w_right oc_law kV_is_whole kV_is_name kV_number_in kV_is_entry kV_is_row kV_need_names kV_is_row_of kV_need_rows_of kV_in_order kV_rows_text kV_row_in kV_read_rows kV_w_cell kV_w_box kV_w_take kV_w_names kV_w_number kV_w_row kV_w_some kV_w_ordered kV_w_rows kV_w_text kV_w_right kV_law dc_is_whole dc_is_name dc_number_in dc_is_entry dc_is_row dc_need_names dc_is_row_of dc_need_rows_of dc_in_order dc_rows_text dc_row_in dc_read_rows dc_w_cell dc_w_box dc_w_take dc_w_names dc_w_number dc_w_row dc_w_some dc_w_ordered dc_w_rows dc_w_text dc_w_right dc_law pm_is_whole pm_is_name pm_number_in pm_is_entry pm_is_row pm_need_names pm_is_row_of pm_need_rows_of pm_in_order pm_rows_text pm_row_in pm_read_rows pm_w_cell pm_w_box pm_w_take pm_w_names pm_w_number pm_w_row pm_w_some pm_w_ordered pm_w_rows pm_w_text pm_w_right pm_law cd_is_whole cd_is_name cd_number_in cd_is_entry cd_is_row cd_need_names cd_is_row_of cd_need_rows_of cd_in_order cd_rows_text cd_row_in cd_read_rows cd_w_cell cd_w_box cd_w_take cd_w_names cd_w_number cd_w_row cd_w_some cd_w_ordered cd_w_rows cd_w_text cd_w_right cd_law ct_is_whole ct_is_name ct_number_in ct_is_entry ct_is_row ct_need_names ct_is_row_of ct_need_rows_of ct_in_order ct_rows_text ct_row_in ct_read_rows ct_w_cell ct_w_box ct_w_take ct_w_names ct_w_number ct_w_row ct_w_some ct_w_ordered ct_w_rows ct_w_text ct_w_right ct_law : Value} {t_FIGURES t_LETTERS t_MOST_ENTRIES t_MOST_NAMES t_MOST_NUMBER : Tok}
    (ais_whole : PySem.W.nsIn K mainGlobals "is_whole" = some (some (.ref f_is_whole))) (lis_whole : K.lookup f_is_whole = some ⟨oc_is_whole, od_is_whole, .func (PySem.W.fnOf "is_whole" "is_whole" (defArgs s_is_whole) (defBody s_is_whole) (defScope s_is_whole) .none kV_is_whole dc_is_whole pm_is_whole an_is_whole cd_is_whole ct_is_whole), sl_is_whole⟩) (cis_whole : PySem.W.codeIn K cd_is_whole "is_whole" = true) (kis_whole : PySem.W.keepIn K (.ref f_is_whole) = true)
    (ais_name : PySem.W.nsIn K mainGlobals "is_name" = some (some (.ref f_is_name))) (lis_name : K.lookup f_is_name = some ⟨oc_is_name, od_is_name, .func (PySem.W.fnOf "is_name" "is_name" (defArgs s_is_name) (defBody s_is_name) (defScope s_is_name) .none kV_is_name dc_is_name pm_is_name an_is_name cd_is_name ct_is_name), sl_is_name⟩) (cis_name : PySem.W.codeIn K cd_is_name "is_name" = true) (kis_name : PySem.W.keepIn K (.ref f_is_name) = true)
    (anumber_in : PySem.W.nsIn K mainGlobals "number_in" = some (some (.ref f_number_in))) (lnumber_in : K.lookup f_number_in = some ⟨oc_number_in, od_number_in, .func (PySem.W.fnOf "number_in" "number_in" (defArgs s_number_in) (defBody s_number_in) (defScope s_number_in) .none kV_number_in dc_number_in pm_number_in an_number_in cd_number_in ct_number_in), sl_number_in⟩) (cnumber_in : PySem.W.codeIn K cd_number_in "number_in" = true) (knumber_in : PySem.W.keepIn K (.ref f_number_in) = true)
    (ais_entry : PySem.W.nsIn K mainGlobals "is_entry" = some (some (.ref f_is_entry))) (lis_entry : K.lookup f_is_entry = some ⟨oc_is_entry, od_is_entry, .func (PySem.W.fnOf "is_entry" "is_entry" (defArgs s_is_entry) (defBody s_is_entry) (defScope s_is_entry) .none kV_is_entry dc_is_entry pm_is_entry an_is_entry cd_is_entry ct_is_entry), sl_is_entry⟩) (cis_entry : PySem.W.codeIn K cd_is_entry "is_entry" = true) (kis_entry : PySem.W.keepIn K (.ref f_is_entry) = true)
    (ais_row : PySem.W.nsIn K mainGlobals "is_row" = some (some (.ref f_is_row))) (lis_row : K.lookup f_is_row = some ⟨oc_is_row, od_is_row, .func (PySem.W.fnOf "is_row" "is_row" (defArgs s_is_row) (defBody s_is_row) (defScope s_is_row) .none kV_is_row dc_is_row pm_is_row an_is_row cd_is_row ct_is_row), sl_is_row⟩) (cis_row : PySem.W.codeIn K cd_is_row "is_row" = true) (kis_row : PySem.W.keepIn K (.ref f_is_row) = true)
    (aneed_names : PySem.W.nsIn K mainGlobals "need_names" = some (some (.ref f_need_names))) (lneed_names : K.lookup f_need_names = some ⟨oc_need_names, od_need_names, .func (PySem.W.fnOf "need_names" "need_names" (defArgs s_need_names) (defBody s_need_names) (defScope s_need_names) .none kV_need_names dc_need_names pm_need_names an_need_names cd_need_names ct_need_names), sl_need_names⟩) (cneed_names : PySem.W.codeIn K cd_need_names "need_names" = true) (kneed_names : PySem.W.keepIn K (.ref f_need_names) = true)
    (ais_row_of : PySem.W.nsIn K mainGlobals "is_row_of" = some (some (.ref f_is_row_of))) (lis_row_of : K.lookup f_is_row_of = some ⟨oc_is_row_of, od_is_row_of, .func (PySem.W.fnOf "is_row_of" "is_row_of" (defArgs s_is_row_of) (defBody s_is_row_of) (defScope s_is_row_of) .none kV_is_row_of dc_is_row_of pm_is_row_of an_is_row_of cd_is_row_of ct_is_row_of), sl_is_row_of⟩) (cis_row_of : PySem.W.codeIn K cd_is_row_of "is_row_of" = true) (kis_row_of : PySem.W.keepIn K (.ref f_is_row_of) = true)
    (aneed_rows_of : PySem.W.nsIn K mainGlobals "need_rows_of" = some (some (.ref f_need_rows_of))) (lneed_rows_of : K.lookup f_need_rows_of = some ⟨oc_need_rows_of, od_need_rows_of, .func (PySem.W.fnOf "need_rows_of" "need_rows_of" (defArgs s_need_rows_of) (defBody s_need_rows_of) (defScope s_need_rows_of) .none kV_need_rows_of dc_need_rows_of pm_need_rows_of an_need_rows_of cd_need_rows_of ct_need_rows_of), sl_need_rows_of⟩) (cneed_rows_of : PySem.W.codeIn K cd_need_rows_of "need_rows_of" = true) (kneed_rows_of : PySem.W.keepIn K (.ref f_need_rows_of) = true)
    (ain_order : PySem.W.nsIn K mainGlobals "in_order" = some (some (.ref f_in_order))) (lin_order : K.lookup f_in_order = some ⟨oc_in_order, od_in_order, .func (PySem.W.fnOf "in_order" "in_order" (defArgs s_in_order) (defBody s_in_order) (defScope s_in_order) .none kV_in_order dc_in_order pm_in_order an_in_order cd_in_order ct_in_order), sl_in_order⟩) (cin_order : PySem.W.codeIn K cd_in_order "in_order" = true) (kin_order : PySem.W.keepIn K (.ref f_in_order) = true)
    (arows_text : PySem.W.nsIn K mainGlobals "rows_text" = some (some (.ref f_rows_text))) (lrows_text : K.lookup f_rows_text = some ⟨oc_rows_text, od_rows_text, .func (PySem.W.fnOf "rows_text" "rows_text" (defArgs s_rows_text) (defBody s_rows_text) (defScope s_rows_text) .none kV_rows_text dc_rows_text pm_rows_text an_rows_text cd_rows_text ct_rows_text), sl_rows_text⟩) (crows_text : PySem.W.codeIn K cd_rows_text "rows_text" = true) (krows_text : PySem.W.keepIn K (.ref f_rows_text) = true)
    (arow_in : PySem.W.nsIn K mainGlobals "row_in" = some (some (.ref f_row_in))) (lrow_in : K.lookup f_row_in = some ⟨oc_row_in, od_row_in, .func (PySem.W.fnOf "row_in" "row_in" (defArgs s_row_in) (defBody s_row_in) (defScope s_row_in) .none kV_row_in dc_row_in pm_row_in an_row_in cd_row_in ct_row_in), sl_row_in⟩) (crow_in : PySem.W.codeIn K cd_row_in "row_in" = true) (krow_in : PySem.W.keepIn K (.ref f_row_in) = true)
    (aread_rows : PySem.W.nsIn K mainGlobals "read_rows" = some (some (.ref f_read_rows))) (lread_rows : K.lookup f_read_rows = some ⟨oc_read_rows, od_read_rows, .func (PySem.W.fnOf "read_rows" "read_rows" (defArgs s_read_rows) (defBody s_read_rows) (defScope s_read_rows) .none kV_read_rows dc_read_rows pm_read_rows an_read_rows cd_read_rows ct_read_rows), sl_read_rows⟩) (cread_rows : PySem.W.codeIn K cd_read_rows "read_rows" = true) (kread_rows : PySem.W.keepIn K (.ref f_read_rows) = true)
    (aw_cell : PySem.W.nsIn K mainGlobals "_law_cell" = some (some (.ref f_w_cell))) (lw_cell : K.lookup f_w_cell = some ⟨oc_w_cell, od_w_cell, .func (PySem.W.fnOf "_law_cell" "_law_cell" (defArgs s_w_cell) (defBody s_w_cell) (defScope s_w_cell) .none kV_w_cell dc_w_cell pm_w_cell an_w_cell cd_w_cell ct_w_cell), sl_w_cell⟩) (cw_cell : PySem.W.codeIn K cd_w_cell "_law_cell" = true) (kw_cell : PySem.W.keepIn K (.ref f_w_cell) = true)
    (aw_box : PySem.W.nsIn K mainGlobals "_law_box" = some (some (.ref f_w_box))) (lw_box : K.lookup f_w_box = some ⟨oc_w_box, od_w_box, .func (PySem.W.fnOf "_law_box" "_law_box" (defArgs s_w_box) (defBody s_w_box) (defScope s_w_box) .none kV_w_box dc_w_box pm_w_box an_w_box cd_w_box ct_w_box), sl_w_box⟩) (cw_box : PySem.W.codeIn K cd_w_box "_law_box" = true) (kw_box : PySem.W.keepIn K (.ref f_w_box) = true)
    (aw_take : PySem.W.nsIn K mainGlobals "_law_take" = some (some (.ref f_w_take))) (lw_take : K.lookup f_w_take = some ⟨oc_w_take, od_w_take, .func (PySem.W.fnOf "_law_take" "_law_take" (defArgs s_w_take) (defBody s_w_take) (defScope s_w_take) .none kV_w_take dc_w_take pm_w_take an_w_take cd_w_take ct_w_take), sl_w_take⟩) (cw_take : PySem.W.codeIn K cd_w_take "_law_take" = true) (kw_take : PySem.W.keepIn K (.ref f_w_take) = true)
    (aw_names : PySem.W.nsIn K mainGlobals "_law_names" = some (some (.ref f_w_names))) (lw_names : K.lookup f_w_names = some ⟨oc_w_names, od_w_names, .func (PySem.W.fnOf "_law_names" "_law_names" (defArgs s_w_names) (defBody s_w_names) (defScope s_w_names) .none kV_w_names dc_w_names pm_w_names an_w_names cd_w_names ct_w_names), sl_w_names⟩) (cw_names : PySem.W.codeIn K cd_w_names "_law_names" = true) (kw_names : PySem.W.keepIn K (.ref f_w_names) = true)
    (aw_number : PySem.W.nsIn K mainGlobals "_law_number" = some (some (.ref f_w_number))) (lw_number : K.lookup f_w_number = some ⟨oc_w_number, od_w_number, .func (PySem.W.fnOf "_law_number" "_law_number" (defArgs s_w_number) (defBody s_w_number) (defScope s_w_number) .none kV_w_number dc_w_number pm_w_number an_w_number cd_w_number ct_w_number), sl_w_number⟩) (cw_number : PySem.W.codeIn K cd_w_number "_law_number" = true) (kw_number : PySem.W.keepIn K (.ref f_w_number) = true)
    (aw_row : PySem.W.nsIn K mainGlobals "_law_row" = some (some (.ref f_w_row))) (lw_row : K.lookup f_w_row = some ⟨oc_w_row, od_w_row, .func (PySem.W.fnOf "_law_row" "_law_row" (defArgs s_w_row) (defBody s_w_row) (defScope s_w_row) .none kV_w_row dc_w_row pm_w_row an_w_row cd_w_row ct_w_row), sl_w_row⟩) (cw_row : PySem.W.codeIn K cd_w_row "_law_row" = true) (kw_row : PySem.W.keepIn K (.ref f_w_row) = true)
    (aw_some : PySem.W.nsIn K mainGlobals "_law_some" = some (some (.ref f_w_some))) (lw_some : K.lookup f_w_some = some ⟨oc_w_some, od_w_some, .func (PySem.W.fnOf "_law_some" "_law_some" (defArgs s_w_some) (defBody s_w_some) (defScope s_w_some) .none kV_w_some dc_w_some pm_w_some an_w_some cd_w_some ct_w_some), sl_w_some⟩) (cw_some : PySem.W.codeIn K cd_w_some "_law_some" = true) (kw_some : PySem.W.keepIn K (.ref f_w_some) = true)
    (aw_ordered : PySem.W.nsIn K mainGlobals "_law_ordered" = some (some (.ref f_w_ordered))) (lw_ordered : K.lookup f_w_ordered = some ⟨oc_w_ordered, od_w_ordered, .func (PySem.W.fnOf "_law_ordered" "_law_ordered" (defArgs s_w_ordered) (defBody s_w_ordered) (defScope s_w_ordered) .none kV_w_ordered dc_w_ordered pm_w_ordered an_w_ordered cd_w_ordered ct_w_ordered), sl_w_ordered⟩) (cw_ordered : PySem.W.codeIn K cd_w_ordered "_law_ordered" = true) (kw_ordered : PySem.W.keepIn K (.ref f_w_ordered) = true)
    (aw_rows : PySem.W.nsIn K mainGlobals "_law_rows" = some (some (.ref f_w_rows))) (lw_rows : K.lookup f_w_rows = some ⟨oc_w_rows, od_w_rows, .func (PySem.W.fnOf "_law_rows" "_law_rows" (defArgs s_w_rows) (defBody s_w_rows) (defScope s_w_rows) .none kV_w_rows dc_w_rows pm_w_rows an_w_rows cd_w_rows ct_w_rows), sl_w_rows⟩) (cw_rows : PySem.W.codeIn K cd_w_rows "_law_rows" = true) (kw_rows : PySem.W.keepIn K (.ref f_w_rows) = true)
    (aw_text : PySem.W.nsIn K mainGlobals "_law_text" = some (some (.ref f_w_text))) (lw_text : K.lookup f_w_text = some ⟨oc_w_text, od_w_text, .func (PySem.W.fnOf "_law_text" "_law_text" (defArgs s_w_text) (defBody s_w_text) (defScope s_w_text) .none kV_w_text dc_w_text pm_w_text an_w_text cd_w_text ct_w_text), sl_w_text⟩) (cw_text : PySem.W.codeIn K cd_w_text "_law_text" = true) (kw_text : PySem.W.keepIn K (.ref f_w_text) = true)
    (aw_right : PySem.W.nsIn K mainGlobals "_law_right" = some (some (.ref f_w_right))) (lw_right : K.lookup f_w_right = some ⟨oc_w_right, od_w_right, .func (PySem.W.fnOf "_law_right" "_law_right" (defArgs s_w_right) (defBody s_w_right) (defScope s_w_right) .none kV_w_right dc_w_right pm_w_right an_w_right cd_w_right ct_w_right), sl_w_right⟩) (cw_right : PySem.W.codeIn K cd_w_right "_law_right" = true) (kw_right : PySem.W.keepIn K (.ref f_w_right) = true)
    (alaw : PySem.W.nsIn K mainGlobals "law" = some (some (.ref f_law))) (llaw : K.lookup f_law = some ⟨oc_law, od_law, .func (PySem.W.fnOf "law" "law" (defArgs s_law) (defBody s_law) (defScope s_law) .none kV_law dc_law pm_law an_law cd_law ct_law), sl_law⟩) (claw : PySem.W.codeIn K cd_law "law" = true) (klaw : PySem.W.keepIn K (.ref f_law) = true)
    (zall : PySem.W.nsIn K mainGlobals "all" = some none)
    (zbool : PySem.W.nsIn K mainGlobals "bool" = some none)
    (zdict : PySem.W.nsIn K mainGlobals "dict" = some none)
    (zenumerate : PySem.W.nsIn K mainGlobals "enumerate" = some none)
    (zint : PySem.W.nsIn K mainGlobals "int" = some none)
    (zisinstance : PySem.W.nsIn K mainGlobals "isinstance" = some none)
    (zlen : PySem.W.nsIn K mainGlobals "len" = some none)
    (zlist : PySem.W.nsIn K mainGlobals "list" = some none)
    (zmax : PySem.W.nsIn K mainGlobals "max" = some none)
    (zmin : PySem.W.nsIn K mainGlobals "min" = some none)
    (zrange : PySem.W.nsIn K mainGlobals "range" = some none)
    (zrepr : PySem.W.nsIn K mainGlobals "repr" = some none)
    (zstr : PySem.W.nsIn K mainGlobals "str" = some none)
    (ztuple : PySem.W.nsIn K mainGlobals "tuple" = some none)
    (zzip : PySem.W.nsIn K mainGlobals "zip" = some none)
    (yFIGURES : PySem.W.nsIn K mainGlobals "FIGURES" = some (some (.str "0123456789" t_FIGURES)))
    (yLETTERS : PySem.W.nsIn K mainGlobals "LETTERS" = some (some (.str "abcdefghijklmnopqrstuvwxyz" t_LETTERS)))
    (yMOST_ENTRIES : PySem.W.nsIn K mainGlobals "MOST_ENTRIES" = some (some (.int 12 t_MOST_ENTRIES)))
    (yMOST_NAMES : PySem.W.nsIn K mainGlobals "MOST_NAMES" = some (some (.int 12 t_MOST_NAMES)))
    (yMOST_NUMBER : PySem.W.nsIn K mainGlobals "MOST_NUMBER" = some (some (.int 10000000000000 t_MOST_NUMBER)))
    : ∃ fd : FuncData, (∀ (s : Shared) (v : Value), BindsTo s fd ⟨[v], []⟩ [("_law_script", v)]) ∧ ∀ base : Heap, K.In base → base.Ns mainGlobals mg → FnG l.prog w K mg base CX0 8 fa fd ["_law_script"] (sp_law K) := by
  have e := hfa.symm.trans (PySem.W.mg_of X G alaw)
  cases e
  have Fis_whole := fun_mk (st := s_is_whole) lis_whole cis_whole kis_whole
  have bis_whole := Fis_whole.binds (ps := ["thing", "low", "high"]) fun _ _ _ _ _ _ us hl => match us, hl with | [_, _, _], _ => rfl
  have Fis_name := fun_mk (st := s_is_name) lis_name cis_name kis_name
  have bis_name := Fis_name.binds (ps := ["thing"]) fun _ _ _ _ _ _ us hl => match us, hl with | [_], _ => rfl
  have Fnumber_in := fun_mk (st := s_number_in) lnumber_in cnumber_in knumber_in
  have bnumber_in := Fnumber_in.binds (ps := ["thing", "low", "high"]) fun _ _ _ _ _ _ us hl => match us, hl with | [_, _, _], _ => rfl
  have Fis_entry := fun_mk (st := s_is_entry) lis_entry cis_entry kis_entry
  have bis_entry := Fis_entry.binds (ps := ["thing"]) fun _ _ _ _ _ _ us hl => match us, hl with | [_], _ => rfl
  have Fis_row := fun_mk (st := s_is_row) lis_row cis_row kis_row
  have bis_row := Fis_row.binds (ps := ["thing"]) fun _ _ _ _ _ _ us hl => match us, hl with | [_], _ => rfl
  have Fneed_names := fun_mk (st := s_need_names) lneed_names cneed_names kneed_names
  have bneed_names := Fneed_names.binds (ps := ["thing"]) fun _ _ _ _ _ _ us hl => match us, hl with | [_], _ => rfl
  have Fis_row_of := fun_mk (st := s_is_row_of) lis_row_of cis_row_of kis_row_of
  have bis_row_of := Fis_row_of.binds (ps := ["names", "thing"]) fun _ _ _ _ _ _ us hl => match us, hl with | [_, _], _ => rfl
  have Fneed_rows_of := fun_mk (st := s_need_rows_of) lneed_rows_of cneed_rows_of kneed_rows_of
  have bneed_rows_of := Fneed_rows_of.binds (ps := ["names", "thing"]) fun _ _ _ _ _ _ us hl => match us, hl with | [_, _], _ => rfl
  have Fin_order := fun_mk (st := s_in_order) lin_order cin_order kin_order
  have bin_order := Fin_order.binds (ps := ["names", "row"]) fun _ _ _ _ _ _ us hl => match us, hl with | [_, _], _ => rfl
  have Frows_text := fun_mk (st := s_rows_text) lrows_text crows_text krows_text
  have brows_text := Frows_text.binds (ps := ["names", "rows"]) fun _ _ _ _ _ _ us hl => match us, hl with | [_, _], _ => rfl
  have Frow_in := fun_mk (st := s_row_in) lrow_in crow_in krow_in
  have brow_in := Frow_in.binds (ps := ["names", "words"]) fun _ _ _ _ _ _ us hl => match us, hl with | [_, _], _ => rfl
  have Fread_rows := fun_mk (st := s_read_rows) lread_rows cread_rows kread_rows
  have bread_rows := Fread_rows.binds (ps := ["names", "text"]) fun _ _ _ _ _ _ us hl => match us, hl with | [_, _], _ => rfl
  have Fw_cell := fun_mk (st := s_w_cell) lw_cell cw_cell kw_cell
  have bw_cell := Fw_cell.binds (ps := ["_law_script", "_law_k"]) fun _ _ _ _ _ _ us hl => match us, hl with | [_, _], _ => rfl
  have Fw_box := fun_mk (st := s_w_box) lw_box cw_box kw_box
  have bw_box := Fw_box.binds (ps := ["_law_cell_here"]) fun _ _ _ _ _ _ us hl => match us, hl with | [_], _ => rfl
  have Fw_take := fun_mk (st := s_w_take) lw_take cw_take kw_take
  have bw_take := Fw_take.binds (ps := ["_law_box_here", "_law_many"]) fun _ _ _ _ _ _ us hl => match us, hl with | [_, _], _ => rfl
  have Fw_names := fun_mk (st := s_w_names) lw_names cw_names kw_names
  have bw_names := Fw_names.binds (ps := ["_law_box_here", "_law_many"]) fun _ _ _ _ _ _ us hl => match us, hl with | [_, _], _ => rfl
  have Fw_number := fun_mk (st := s_w_number) lw_number cw_number kw_number
  have bw_number := Fw_number.binds (ps := ["_law_box_here"]) fun _ _ _ _ _ _ us hl => match us, hl with | [_], _ => rfl
  have Fw_row := fun_mk (st := s_w_row) lw_row cw_row kw_row
  have bw_row := Fw_row.binds (ps := ["_law_box_here", "_law_names_here"]) fun _ _ _ _ _ _ us hl => match us, hl with | [_, _], _ => rfl
  have Fw_some := fun_mk (st := s_w_some) lw_some cw_some kw_some
  have bw_some := Fw_some.binds (ps := ["_law_box_here"]) fun _ _ _ _ _ _ us hl => match us, hl with | [_], _ => rfl
  have Fw_ordered := fun_mk (st := s_w_ordered) lw_ordered cw_ordered kw_ordered
  have bw_ordered := Fw_ordered.binds (ps := ["_law_names_here", "_law_row_here"]) fun _ _ _ _ _ _ us hl => match us, hl with | [_, _], _ => rfl
  have Fw_rows := fun_mk (st := s_w_rows) lw_rows cw_rows kw_rows
  have bw_rows := Fw_rows.binds (ps := ["_law_box_here", "_law_names_here"]) fun _ _ _ _ _ _ us hl => match us, hl with | [_, _], _ => rfl
  have Fw_text := fun_mk (st := s_w_text) lw_text cw_text kw_text
  have bw_text := Fw_text.binds (ps := ["_law_names_here", "_law_rows_here"]) fun _ _ _ _ _ _ us hl => match us, hl with | [_, _], _ => rfl
  have Fw_right := fun_mk (st := s_w_right) lw_right cw_right kw_right
  have bw_right := Fw_right.binds (ps := ["_law_names_here", "_law_rows_here"]) fun _ _ _ _ _ _ us hl => match us, hl with | [_, _], _ => rfl
  have Flaw := fun_mk (st := s_law) llaw claw klaw
  have blaw := Flaw.binds (ps := ["_law_script"]) fun _ _ _ _ _ _ us hl => match us, hl with | [_], _ => rfl
  let T : Tx K mg := { a_is_whole := f_is_whole, fd_is_whole := PySem.W.fnOf "is_whole" "is_whole" (defArgs s_is_whole) (defBody s_is_whole) (defScope s_is_whole) .none kV_is_whole dc_is_whole pm_is_whole an_is_whole cd_is_whole ct_is_whole, F_is_whole := Fis_whole, m_is_whole := PySem.W.mg_of X G ais_whole, b_is_whole := bis_whole, a_is_name := f_is_name, fd_is_name := PySem.W.fnOf "is_name" "is_name" (defArgs s_is_name) (defBody s_is_name) (defScope s_is_name) .none kV_is_name dc_is_name pm_is_name an_is_name cd_is_name ct_is_name, F_is_name := Fis_name, m_is_name := PySem.W.mg_of X G ais_name, b_is_name := bis_name, a_number_in := f_number_in, fd_number_in := PySem.W.fnOf "number_in" "number_in" (defArgs s_number_in) (defBody s_number_in) (defScope s_number_in) .none kV_number_in dc_number_in pm_number_in an_number_in cd_number_in ct_number_in, F_number_in := Fnumber_in, m_number_in := PySem.W.mg_of X G anumber_in, b_number_in := bnumber_in, a_is_entry := f_is_entry, fd_is_entry := PySem.W.fnOf "is_entry" "is_entry" (defArgs s_is_entry) (defBody s_is_entry) (defScope s_is_entry) .none kV_is_entry dc_is_entry pm_is_entry an_is_entry cd_is_entry ct_is_entry, F_is_entry := Fis_entry, m_is_entry := PySem.W.mg_of X G ais_entry, b_is_entry := bis_entry, a_is_row := f_is_row, fd_is_row := PySem.W.fnOf "is_row" "is_row" (defArgs s_is_row) (defBody s_is_row) (defScope s_is_row) .none kV_is_row dc_is_row pm_is_row an_is_row cd_is_row ct_is_row, F_is_row := Fis_row, m_is_row := PySem.W.mg_of X G ais_row, b_is_row := bis_row, a_need_names := f_need_names, fd_need_names := PySem.W.fnOf "need_names" "need_names" (defArgs s_need_names) (defBody s_need_names) (defScope s_need_names) .none kV_need_names dc_need_names pm_need_names an_need_names cd_need_names ct_need_names, F_need_names := Fneed_names, m_need_names := PySem.W.mg_of X G aneed_names, b_need_names := bneed_names, a_is_row_of := f_is_row_of, fd_is_row_of := PySem.W.fnOf "is_row_of" "is_row_of" (defArgs s_is_row_of) (defBody s_is_row_of) (defScope s_is_row_of) .none kV_is_row_of dc_is_row_of pm_is_row_of an_is_row_of cd_is_row_of ct_is_row_of, F_is_row_of := Fis_row_of, m_is_row_of := PySem.W.mg_of X G ais_row_of, b_is_row_of := bis_row_of, a_need_rows_of := f_need_rows_of, fd_need_rows_of := PySem.W.fnOf "need_rows_of" "need_rows_of" (defArgs s_need_rows_of) (defBody s_need_rows_of) (defScope s_need_rows_of) .none kV_need_rows_of dc_need_rows_of pm_need_rows_of an_need_rows_of cd_need_rows_of ct_need_rows_of, F_need_rows_of := Fneed_rows_of, m_need_rows_of := PySem.W.mg_of X G aneed_rows_of, b_need_rows_of := bneed_rows_of, a_in_order := f_in_order, fd_in_order := PySem.W.fnOf "in_order" "in_order" (defArgs s_in_order) (defBody s_in_order) (defScope s_in_order) .none kV_in_order dc_in_order pm_in_order an_in_order cd_in_order ct_in_order, F_in_order := Fin_order, m_in_order := PySem.W.mg_of X G ain_order, b_in_order := bin_order, a_rows_text := f_rows_text, fd_rows_text := PySem.W.fnOf "rows_text" "rows_text" (defArgs s_rows_text) (defBody s_rows_text) (defScope s_rows_text) .none kV_rows_text dc_rows_text pm_rows_text an_rows_text cd_rows_text ct_rows_text, F_rows_text := Frows_text, m_rows_text := PySem.W.mg_of X G arows_text, b_rows_text := brows_text, a_row_in := f_row_in, fd_row_in := PySem.W.fnOf "row_in" "row_in" (defArgs s_row_in) (defBody s_row_in) (defScope s_row_in) .none kV_row_in dc_row_in pm_row_in an_row_in cd_row_in ct_row_in, F_row_in := Frow_in, m_row_in := PySem.W.mg_of X G arow_in, b_row_in := brow_in, a_read_rows := f_read_rows, fd_read_rows := PySem.W.fnOf "read_rows" "read_rows" (defArgs s_read_rows) (defBody s_read_rows) (defScope s_read_rows) .none kV_read_rows dc_read_rows pm_read_rows an_read_rows cd_read_rows ct_read_rows, F_read_rows := Fread_rows, m_read_rows := PySem.W.mg_of X G aread_rows, b_read_rows := bread_rows, a_w_cell := f_w_cell, fd_w_cell := PySem.W.fnOf "_law_cell" "_law_cell" (defArgs s_w_cell) (defBody s_w_cell) (defScope s_w_cell) .none kV_w_cell dc_w_cell pm_w_cell an_w_cell cd_w_cell ct_w_cell, F_w_cell := Fw_cell, m_w_cell := PySem.W.mg_of X G aw_cell, b_w_cell := bw_cell, a_w_box := f_w_box, fd_w_box := PySem.W.fnOf "_law_box" "_law_box" (defArgs s_w_box) (defBody s_w_box) (defScope s_w_box) .none kV_w_box dc_w_box pm_w_box an_w_box cd_w_box ct_w_box, F_w_box := Fw_box, m_w_box := PySem.W.mg_of X G aw_box, b_w_box := bw_box, a_w_take := f_w_take, fd_w_take := PySem.W.fnOf "_law_take" "_law_take" (defArgs s_w_take) (defBody s_w_take) (defScope s_w_take) .none kV_w_take dc_w_take pm_w_take an_w_take cd_w_take ct_w_take, F_w_take := Fw_take, m_w_take := PySem.W.mg_of X G aw_take, b_w_take := bw_take, a_w_names := f_w_names, fd_w_names := PySem.W.fnOf "_law_names" "_law_names" (defArgs s_w_names) (defBody s_w_names) (defScope s_w_names) .none kV_w_names dc_w_names pm_w_names an_w_names cd_w_names ct_w_names, F_w_names := Fw_names, m_w_names := PySem.W.mg_of X G aw_names, b_w_names := bw_names, a_w_number := f_w_number, fd_w_number := PySem.W.fnOf "_law_number" "_law_number" (defArgs s_w_number) (defBody s_w_number) (defScope s_w_number) .none kV_w_number dc_w_number pm_w_number an_w_number cd_w_number ct_w_number, F_w_number := Fw_number, m_w_number := PySem.W.mg_of X G aw_number, b_w_number := bw_number, a_w_row := f_w_row, fd_w_row := PySem.W.fnOf "_law_row" "_law_row" (defArgs s_w_row) (defBody s_w_row) (defScope s_w_row) .none kV_w_row dc_w_row pm_w_row an_w_row cd_w_row ct_w_row, F_w_row := Fw_row, m_w_row := PySem.W.mg_of X G aw_row, b_w_row := bw_row, a_w_some := f_w_some, fd_w_some := PySem.W.fnOf "_law_some" "_law_some" (defArgs s_w_some) (defBody s_w_some) (defScope s_w_some) .none kV_w_some dc_w_some pm_w_some an_w_some cd_w_some ct_w_some, F_w_some := Fw_some, m_w_some := PySem.W.mg_of X G aw_some, b_w_some := bw_some, a_w_ordered := f_w_ordered, fd_w_ordered := PySem.W.fnOf "_law_ordered" "_law_ordered" (defArgs s_w_ordered) (defBody s_w_ordered) (defScope s_w_ordered) .none kV_w_ordered dc_w_ordered pm_w_ordered an_w_ordered cd_w_ordered ct_w_ordered, F_w_ordered := Fw_ordered, m_w_ordered := PySem.W.mg_of X G aw_ordered, b_w_ordered := bw_ordered, a_w_rows := f_w_rows, fd_w_rows := PySem.W.fnOf "_law_rows" "_law_rows" (defArgs s_w_rows) (defBody s_w_rows) (defScope s_w_rows) .none kV_w_rows dc_w_rows pm_w_rows an_w_rows cd_w_rows ct_w_rows, F_w_rows := Fw_rows, m_w_rows := PySem.W.mg_of X G aw_rows, b_w_rows := bw_rows, a_w_text := f_w_text, fd_w_text := PySem.W.fnOf "_law_text" "_law_text" (defArgs s_w_text) (defBody s_w_text) (defScope s_w_text) .none kV_w_text dc_w_text pm_w_text an_w_text cd_w_text ct_w_text, F_w_text := Fw_text, m_w_text := PySem.W.mg_of X G aw_text, b_w_text := bw_text, a_w_right := f_w_right, fd_w_right := PySem.W.fnOf "_law_right" "_law_right" (defArgs s_w_right) (defBody s_w_right) (defScope s_w_right) .none kV_w_right dc_w_right pm_w_right an_w_right cd_w_right ct_w_right, F_w_right := Fw_right, m_w_right := PySem.W.mg_of X G aw_right, b_w_right := bw_right, a_law := fa, fd_law := PySem.W.fnOf "law" "law" (defArgs s_law) (defBody s_law) (defScope s_law) .none kV_law dc_law pm_law an_law cd_law ct_law, F_law := Flaw, m_law := PySem.W.mg_of X G alaw, b_law := blaw, z_all := PySem.W.mg_none_of X G zall, z_bool := PySem.W.mg_none_of X G zbool, z_dict := PySem.W.mg_none_of X G zdict, z_enumerate := PySem.W.mg_none_of X G zenumerate, z_int := PySem.W.mg_none_of X G zint, z_isinstance := PySem.W.mg_none_of X G zisinstance, z_len := PySem.W.mg_none_of X G zlen, z_list := PySem.W.mg_none_of X G zlist, z_max := PySem.W.mg_none_of X G zmax, z_min := PySem.W.mg_none_of X G zmin, z_range := PySem.W.mg_none_of X G zrange, z_repr := PySem.W.mg_none_of X G zrepr, z_str := PySem.W.mg_none_of X G zstr, z_tuple := PySem.W.mg_none_of X G ztuple, z_zip := PySem.W.mg_none_of X G zzip, t_FIGURES := t_FIGURES, c_FIGURES := PySem.W.mg_of X G yFIGURES, t_LETTERS := t_LETTERS, c_LETTERS := PySem.W.mg_of X G yLETTERS, t_MOST_ENTRIES := t_MOST_ENTRIES, c_MOST_ENTRIES := PySem.W.mg_of X G yMOST_ENTRIES, t_MOST_NAMES := t_MOST_NAMES, c_MOST_NAMES := PySem.W.mg_of X G yMOST_NAMES, t_MOST_NUMBER := t_MOST_NUMBER, c_MOST_NUMBER := PySem.W.mg_of X G yMOST_NUMBER }
  exact ⟨PySem.W.fnOf "law" "law" (defArgs s_law) (defBody s_law) (defScope s_law) .none kV_law dc_law pm_law an_law cd_law ct_law, fun s v => .of_eq rfl, fun base _ _ => ok_law T⟩
end Fm
open PySem PySem.W PyProof.Rows
set_option maxRecDepth 100000 in
set_option maxHeartbeats 0 in
theorem PySem.Challenge.cw_farmarks_k83_rows_as_texts_holds : PySem.Challenge.rw_farmarks_k83_rows_as_texts.Holds := by
  w_on; o_law; k_head; (case hw => w_witness2)
  k_fill
  refine Fm.walkG (l := PySem.Challenge.rw_farmarks_k83_rows_as_texts) (k := 8) (x := "_law_script") (sp := Fm.sp_law) ⟨rfl, by decide, by decide⟩ (fun K H a ns hS => ⟨a, ns, rfl, hS, fun _ => rfl⟩) rfl rfl (fun w h Y => PySem.W.kIn_of Y) ?F
  case F =>
    intro w mg fa h KX G hmg
    refine' Fm.all_mk KX G hmg ?ais_whole ?lis_whole ?cis_whole ?kis_whole ?ais_name ?lis_name ?cis_name ?kis_name ?anumber_in ?lnumber_in ?cnumber_in ?knumber_in ?ais_entry ?lis_entry ?cis_entry ?kis_entry ?ais_row ?lis_row ?cis_row ?kis_row ?aneed_names ?lneed_names ?cneed_names ?kneed_names ?ais_row_of ?lis_row_of ?cis_row_of ?kis_row_of ?aneed_rows_of ?lneed_rows_of ?cneed_rows_of ?kneed_rows_of ?ain_order ?lin_order ?cin_order ?kin_order ?arows_text ?lrows_text ?crows_text ?krows_text ?arow_in ?lrow_in ?crow_in ?krow_in ?aread_rows ?lread_rows ?cread_rows ?kread_rows ?aw_cell ?lw_cell ?cw_cell ?kw_cell ?aw_box ?lw_box ?cw_box ?kw_box ?aw_take ?lw_take ?cw_take ?kw_take ?aw_names ?lw_names ?cw_names ?kw_names ?aw_number ?lw_number ?cw_number ?kw_number ?aw_row ?lw_row ?cw_row ?kw_row ?aw_some ?lw_some ?cw_some ?kw_some ?aw_ordered ?lw_ordered ?cw_ordered ?kw_ordered ?aw_rows ?lw_rows ?cw_rows ?kw_rows ?aw_text ?lw_text ?cw_text ?kw_text ?aw_right ?lw_right ?cw_right ?kw_right ?alaw ?llaw ?claw ?klaw ?zall ?zbool ?zdict ?zenumerate ?zint ?zisinstance ?zlen ?zlist ?zmax ?zmin ?zrange ?zrepr ?zstr ?ztuple ?zzip ?yFIGURES ?yLETTERS ?yMOST_ENTRIES ?yMOST_NAMES ?yMOST_NUMBER
    (case ais_whole => k_is)
    (case lis_whole => k_is)
    (case cis_whole => k_is)
    (case kis_whole => k_is)
    (case ais_name => k_is)
    (case lis_name => k_is)
    (case cis_name => k_is)
    (case kis_name => k_is)
    (case anumber_in => k_is)
    (case lnumber_in => k_is)
    (case cnumber_in => k_is)
    (case knumber_in => k_is)
    (case ais_entry => k_is)
    (case lis_entry => k_is)
    (case cis_entry => k_is)
    (case kis_entry => k_is)
    (case ais_row => k_is)
    (case lis_row => k_is)
    (case cis_row => k_is)
    (case kis_row => k_is)
    (case aneed_names => k_is)
    (case lneed_names => k_is)
    (case cneed_names => k_is)
    (case kneed_names => k_is)
    (case ais_row_of => k_is)
    (case lis_row_of => k_is)
    (case cis_row_of => k_is)
    (case kis_row_of => k_is)
    (case aneed_rows_of => k_is)
    (case lneed_rows_of => k_is)
    (case cneed_rows_of => k_is)
    (case kneed_rows_of => k_is)
    (case ain_order => k_is)
    (case lin_order => k_is)
    (case cin_order => k_is)
    (case kin_order => k_is)
    (case arows_text => k_is)
    (case lrows_text => k_is)
    (case crows_text => k_is)
    (case krows_text => k_is)
    (case arow_in => k_is)
    (case lrow_in => k_is)
    (case crow_in => k_is)
    (case krow_in => k_is)
    (case aread_rows => k_is)
    (case lread_rows => k_is)
    (case cread_rows => k_is)
    (case kread_rows => k_is)
    (case aw_cell => k_is)
    (case lw_cell => k_is)
    (case cw_cell => k_is)
    (case kw_cell => k_is)
    (case aw_box => k_is)
    (case lw_box => k_is)
    (case cw_box => k_is)
    (case kw_box => k_is)
    (case aw_take => k_is)
    (case lw_take => k_is)
    (case cw_take => k_is)
    (case kw_take => k_is)
    (case aw_names => k_is)
    (case lw_names => k_is)
    (case cw_names => k_is)
    (case kw_names => k_is)
    (case aw_number => k_is)
    (case lw_number => k_is)
    (case cw_number => k_is)
    (case kw_number => k_is)
    (case aw_row => k_is)
    (case lw_row => k_is)
    (case cw_row => k_is)
    (case kw_row => k_is)
    (case aw_some => k_is)
    (case lw_some => k_is)
    (case cw_some => k_is)
    (case kw_some => k_is)
    (case aw_ordered => k_is)
    (case lw_ordered => k_is)
    (case cw_ordered => k_is)
    (case kw_ordered => k_is)
    (case aw_rows => k_is)
    (case lw_rows => k_is)
    (case cw_rows => k_is)
    (case kw_rows => k_is)
    (case aw_text => k_is)
    (case lw_text => k_is)
    (case cw_text => k_is)
    (case kw_text => k_is)
    (case aw_right => k_is)
    (case lw_right => k_is)
    (case cw_right => k_is)
    (case kw_right => k_is)
    (case alaw => k_is)
    (case llaw => k_is)
    (case claw => k_is)
    (case klaw => k_is)
    (case zall => k_is)
    (case zbool => k_is)
    (case zdict => k_is)
    (case zenumerate => k_is)
    (case zint => k_is)
    (case zisinstance => k_is)
    (case zlen => k_is)
    (case zlist => k_is)
    (case zmax => k_is)
    (case zmin => k_is)
    (case zrange => k_is)
    (case zrepr => k_is)
    (case zstr => k_is)
    (case ztuple => k_is)
    (case zzip => k_is)
    (case yFIGURES => k_is)
    (case yLETTERS => k_is)
    (case yMOST_ENTRIES => k_is)
    (case yMOST_NAMES => k_is)
    (case yMOST_NUMBER => k_is)
